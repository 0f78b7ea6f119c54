import PyProof.Rows.All
import Wide.All
import OpenK.AllK
import Wide.FinOn
import HandS.ForMost
import HandS.Flow
import HandS.AnyAll
import HandS.GenCall
import HandS.SortRule
import HandS.SortOrd
import HandS.List
import HandS.Zip
import HandS.TupLe
import KE.KeyNested
import KE.KDictKeyed
import HandS.Dict
import HandS.More
import HandS.Set
import HandS.Strs
import HandS.IsInst
import HandS.TupAny
import HandS.SortInts
import HandS.Conv
import KE.GoesEnum
import HandS.ForExc
import HandS.ExcIs
import HandS.TryOnly
import HandS.TupMul
import HandS.EndTab
import HandS.EndOwn
import KE.KNestM
import HandS.Rev
import HandS.MapObj
import HandS.Deep
import KE.SortKeyHeap
import HandS.SortKw
import HandS.FromBytesMap
import HandS.Small
import KE.KDictDisplayH
import HandS.SetFor
import PyProof.Rows.SetFrom
import KE.DataMinMax
import KE.GoesSet
import PyProof.TupleOfSeq
import HandS.HotCalls
import HandS.Style
import PySem.Challenge.RW_anychain_k69_check_seal_table
set_option Elab.async false
set_option linter.all false
set_option maxRecDepth 100000
set_option maxHeartbeats 4000000
/-! GX1: all, any over a generator of bools, told by what its heap is to be at the end. -/
namespace GG
open PySem PySem.Spec PyProof.Rows L2
/-- an end: the walk's answer b, the heap -/
abbrev Fn := Bool → Heap → Prop
def FnS (Z : Fn) (os : OsState) (b : Bool) (s : Shared) : Prop := s.os = os ∧ AllBare s.gens ∧ Z b s.heap
/-- nothing but the generators' table differs -/
def Idle (s s' : Shared) : Prop := s'.heap = s.heap ∧ s'.os = s.os ∧ AllBare s'.gens ∧ s.gens.size ≤ s'.gens.size
/-- a bool comes out: `stop` ends the walk, the other goes on -/
def YB (a : Addr) (g : Nat) (Z : Fn) (os : OsState) (stop : Bool) : Protocol := fun n s₀ v s kap =>
  ∃ b, v = .bool b ∧ s.heap.IsGen a g ∧ s.heap.NoLimit ∧ AllBare s.gens ∧ s.os = os ∧ g < s.gens.size ∧
    ((b = stop ∧ Z stop s.heap) ∨ (b = !stop ∧ ∀ s', Idle s s' → kap (.send .none) s'))
def RB (Z : Fn) (os : OsState) (stop : Bool) (n : Nat) (s₀ s : Shared) : Prop := FnS Z os (!stop) s
abbrev GoesB (P : Program) (w : World) (A : Around) (a : Addr) (g : Nat) (Z : Fn) (os : OsState) (stop : Bool) (n : Nat) (gs : GenState) (s : Shared) : Prop :=
  gs.Goes (model P w) A (fun n s₀ r s₁ => r = .ok .next ∧ RB Z os stop n s₀ s₁) (YB a g Z os stop) n (.send .none) s
section
variable {P : Program} {w : World} {A : Around} {a : Addr} {g : Nat} {Z : Fn} {os : OsState}
theorem bare_setGen {s : Shared} {x : GenState} (h : AllBare s.gens) (hx : x.bare = true) : AllBare (s.setGen g x).gens := by
  intro y hy
  unfold Shared.setGen at hy
  rcases Array.mem_or_eq_of_mem_setIfInBounds hy with z | z
  · exact h y z
  · rw [z]; exact hx
theorem get_setGen {s : Shared} {x : GenState} (h : g < s.gens.size) : (s.setGen g x).gens[g]? = some x := by
  unfold Shared.setGen
  simp [h]
/-- one turn of the consumer -/
theorem next_turn {stop : Bool} {Q : Option Value → Shared → Prop} {E : Value → Shared → Prop} (hZ : ∀ b h h', Z b h → (∀ c o, h.get? c = some o → h'.get? c = some o) → Z b h') (hh : A.handled = none) (hroom : A.depth < recursionLimit)
    {n : Nat} {s : Shared} {gs : GenState} (hg : s.heap.IsGen a g) (hl : s.heap.NoLimit) (hgs : s.gens[g]? = some gs) (hb : AllBare s.gens) (ho : s.os = os) (hgo : ∀ s', Idle s s' → GoesB P w A.in1 a g Z os stop n gs s')
    (hq1 : ∀ s', FnS Z os stop s' → Q (some (.bool stop)) s') (hq2 : ∀ s', FnS Z os (!stop) s' → Q none s')
    (hq3 : ∀ m s' gs', n = m + 1 → s'.heap.IsGen a g → s'.heap.NoLimit → s'.gens[g]? = some gs' → AllBare s'.gens → s'.os = os → (∀ s'', Idle s' s'' → GoesB P w A.in1 a g Z os stop m gs' s'') → Q (some (.bool (!stop))) s') :
    wpAny (model P w) A (pyNext (.ref a)) Q E s := by
  refine wpAny_pyNext_genexpQ (P := RB Z os stop) hh hl hroom hg hgs (hgo _ ⟨rfl, rfl, bare_setGen hb rfl, by rw [GenW.setGen_size]; exact Nat.le_refl _⟩) (fun v s₁ gs' hgb hv => ?_) (fun s₁ hp h' hk => ?_)
  · obtain ⟨b, rfl, h1, h2, h3, h4, h5, h6⟩ := hv
    rcases h6 with ⟨rfl, hz⟩ | ⟨rfl, hkap⟩
    · exact hq1 _ ⟨h4, bare_setGen h3 hgb, hz⟩
    · cases n with
      | zero => exact (hkap _ ⟨rfl, rfl, h3, Nat.le_refl _⟩).elim
      | succ m => exact hq3 m _ gs' rfl h1 h2 (get_setGen h5) (bare_setGen h3 hgb) h4 fun s'' hi => hkap s'' ⟨hi.1, hi.2.1, hi.2.2.1, by have := hi.2.2.2; rw [GenW.setGen_size] at this; exact this⟩
  · obtain ⟨h1, h2, h3⟩ := hp
    exact hq2 _ ⟨h1, bare_setGen h2 rfl, hZ _ _ _ h3 hk⟩
theorem all_loop (hZ : ∀ b h h', Z b h → (∀ c o, h.get? c = some o → h'.get? c = some o) → Z b h') (hh : A.in1.handled = none) (hroom : A.in1.depth < recursionLimit) :
    ∀ (n : Nat) (s : Shared) (gs : GenState), s.heap.IsGen a g → s.heap.NoLimit → s.gens[g]? = some gs → AllBare s.gens → s.os = os → (∀ s', Idle s s' → GoesB P w A.in1.in1 a g Z os false n gs s') →
      codeAny (model P w) A (.builtin "all.loop" ⟨[.ref a], []⟩) (fun r s' => ∃ b, r = .ok (.ret (.bool b)) ∧ FnS Z os b s') s := by
  intro n
  induction n with
  | zero =>
    intro s gs hg hl hgs hb ho hgo
    refine codeAny_builtin F.entry_all_loop ?_
    rw [Around.under_plainId F.plain_all_loop _]
    show wpAny _ A.in1 (pyNext (.ref a) >>= _) _ _ s
    refine wpAny_bind (next_turn (stop := false) hZ hh hroom hg hl hgs hb ho hgo (fun s' hf => ?_) (fun s' hf => ?_) fun m s' gs' hm => by omega)
    · refine wpAny_bind (wpAny_holding (wpAny_truthy_bool ?_))
      refine wpAny_bind (wpAny_letGo ?_)
      simp only [Bool.false_eq_true, if_false]
      exact wpAny_bind (wpAny_rule (wpAny_pure ⟨false, rfl, hf⟩))
    · exact wpAny_bind (wpAny_rule (wpAny_pure ⟨true, rfl, hf⟩))
  | succ n ih =>
    intro s gs hg hl hgs hb ho hgo
    refine codeAny_builtin F.entry_all_loop ?_
    rw [Around.under_plainId F.plain_all_loop _]
    show wpAny _ A.in1 (pyNext (.ref a) >>= _) _ _ s
    refine wpAny_bind (next_turn (stop := false) hZ hh hroom hg hl hgs hb ho hgo (fun s' hf => ?_) (fun s' hf => ?_) fun m s' gs' hm k1 k2 k3 k4 k5 k6 => ?_)
    · refine wpAny_bind (wpAny_holding (wpAny_truthy_bool ?_))
      refine wpAny_bind (wpAny_letGo ?_)
      simp only [Bool.false_eq_true, if_false]
      exact wpAny_bind (wpAny_rule (wpAny_pure ⟨false, rfl, hf⟩))
    · exact wpAny_bind (wpAny_rule (wpAny_pure ⟨true, rfl, hf⟩))
    · refine wpAny_bind (wpAny_holding (wpAny_truthy_bool ?_))
      refine wpAny_bind (wpAny_letGo ?_)
      simp only [Bool.not_false, if_true]
      obtain rfl : n = m := by omega
      exact wpAny_pure ⟨plainId_quiet F.plain_all_loop _, ih s' gs' k1 k2 k3 k4 k5 k6⟩
theorem any_loop (hZ : ∀ b h h', Z b h → (∀ c o, h.get? c = some o → h'.get? c = some o) → Z b h') (hh : A.in1.handled = none) (hroom : A.in1.depth < recursionLimit) :
    ∀ (n : Nat) (s : Shared) (gs : GenState), s.heap.IsGen a g → s.heap.NoLimit → s.gens[g]? = some gs → AllBare s.gens → s.os = os → (∀ s', Idle s s' → GoesB P w A.in1.in1 a g Z os true n gs s') →
      codeAny (model P w) A (.builtin "any.loop" ⟨[.ref a], []⟩) (fun r s' => ∃ b, r = .ok (.ret (.bool b)) ∧ FnS Z os b s') s := by
  intro n
  induction n with
  | zero =>
    intro s gs hg hl hgs hb ho hgo
    refine codeAny_builtin F.entry_any_loop ?_
    rw [Around.under_plainId F.plain_any_loop _]
    show wpAny _ A.in1 (pyNext (.ref a) >>= _) _ _ s
    refine wpAny_bind (next_turn (stop := true) hZ hh hroom hg hl hgs hb ho hgo (fun s' hf => ?_) (fun s' hf => ?_) fun m s' gs' hm => by omega)
    · refine wpAny_bind (wpAny_holding (wpAny_truthy_bool ?_))
      refine wpAny_bind (wpAny_letGo ?_)
      simp only [if_true]
      exact wpAny_bind (wpAny_rule (wpAny_pure ⟨true, rfl, hf⟩))
    · exact wpAny_bind (wpAny_rule (wpAny_pure ⟨false, rfl, hf⟩))
  | succ n ih =>
    intro s gs hg hl hgs hb ho hgo
    refine codeAny_builtin F.entry_any_loop ?_
    rw [Around.under_plainId F.plain_any_loop _]
    show wpAny _ A.in1 (pyNext (.ref a) >>= _) _ _ s
    refine wpAny_bind (next_turn (stop := true) hZ hh hroom hg hl hgs hb ho hgo (fun s' hf => ?_) (fun s' hf => ?_) fun m s' gs' hm k1 k2 k3 k4 k5 k6 => ?_)
    · refine wpAny_bind (wpAny_holding (wpAny_truthy_bool ?_))
      refine wpAny_bind (wpAny_letGo ?_)
      simp only [if_true]
      exact wpAny_bind (wpAny_rule (wpAny_pure ⟨true, rfl, hf⟩))
    · exact wpAny_bind (wpAny_rule (wpAny_pure ⟨false, rfl, hf⟩))
    · refine wpAny_bind (wpAny_holding (wpAny_truthy_bool ?_))
      refine wpAny_bind (wpAny_letGo ?_)
      simp only [Bool.not_true, Bool.false_eq_true, if_false]
      obtain rfl : n = m := by omega
      exact wpAny_pure ⟨plainId_quiet F.plain_any_loop _, ih s' gs' k1 k2 k3 k4 k5 k6⟩
/-- all(g) -/
theorem call_all_gen {Q : Value → Shared → Prop} {E : Value → Shared → Prop} (hZ : ∀ b h h', Z b h → (∀ c o, h.get? c = some o → h'.get? c = some o) → Z b h') (hh : A.in1.handled = none) (hroom : A.in1.depth < recursionLimit)
    {n : Nat} {s : Shared} {gs : GenState} (hg : s.heap.IsGen a g) (hl : s.heap.NoLimit) (hgs : s.gens[g]? = some gs) (hb : AllBare s.gens) (ho : s.os = os) (hgo : ∀ s', Idle s s' → GoesB P w A.in1.in1 a g Z os false n gs s')
    (hQ : ∀ b s', FnS Z os b s' → Q (.bool b) s') : wpAny (model P w) A (call (.builtin "all") [.ref a]) Q E s := by
  refine call_function_tree F.kind_all F.plain_all F.entry_all (F.args_all1 _) ?_
  unfold Builtin.«all»
  refine wpAny_bind (m := oneArg "all" _) (wpAny_pure ?_)
  refine wpAny_bind (wpAny_pyIter_gen hg ?_)
  refine wpAny_pure ⟨plainId_quiet F.plain_all_loop _, codeAny_mono (all_loop hZ hh hroom n s gs hg hl hgs hb ho hgo) fun r s' hr => ?_⟩
  obtain ⟨b, rfl, hf⟩ := hr
  exact hQ b s' hf
/-- any(g) -/
theorem call_any_gen {Q : Value → Shared → Prop} {E : Value → Shared → Prop} (hZ : ∀ b h h', Z b h → (∀ c o, h.get? c = some o → h'.get? c = some o) → Z b h') (hh : A.in1.handled = none) (hroom : A.in1.depth < recursionLimit)
    {n : Nat} {s : Shared} {gs : GenState} (hg : s.heap.IsGen a g) (hl : s.heap.NoLimit) (hgs : s.gens[g]? = some gs) (hb : AllBare s.gens) (ho : s.os = os) (hgo : ∀ s', Idle s s' → GoesB P w A.in1.in1 a g Z os true n gs s')
    (hQ : ∀ b s', FnS Z os b s' → Q (.bool b) s') : wpAny (model P w) A (call (.builtin "any") [.ref a]) Q E s := by
  refine call_function_tree F.kind_any F.plain_any F.entry_any (F.args_any1 _) ?_
  unfold Builtin.«any»
  refine wpAny_bind (m := oneArg "any" _) (wpAny_pure ?_)
  refine wpAny_bind (wpAny_pyIter_gen hg ?_)
  refine wpAny_pure ⟨plainId_quiet F.plain_any_loop _, codeAny_mono (any_loop hZ hh hroom n s gs hg hl hgs hb ho hgo) fun r s' hr => ?_⟩
  obtain ⟨b, rfl, hf⟩ := hr
  exact hQ b s' hf
end
end GG

set_option Elab.async false
set_option linter.all false
set_option maxRecDepth 100000
set_option maxHeartbeats 4000000
/-! GX2: the code of a generator expression, over L2's invariant. -/
namespace GG
open PySem PySem.Spec PyProof.Rows L2 GenW
/-- the context of the frame -/
def gx (X : Cx) (s : Shared) (H : Hp) (env : Env) (A : Around) (fp : List Addr) : Cx :=
  { X with A := A, s_0 := s, H_0 := H, env := env, outer := X.stack, stack := env :: X.stack, ex := fp, fn := fun _ => false, pn := [], xe := fun _ _ => False }
/-- what the consumer's heap is at the end -/
def ZE (X : Cx) (s : Shared) (H : Hp) (fp : List Addr) (q : Bool → Hp → Prop) : Fn := fun b h => ∃ H', Un (frs X.stack) fp H H' s.heap h ∧ HOk X.prog X.w H' h ∧ q b H'
theorem ZE.mono {X : Cx} {s : Shared} {H : Hp} {fp : List Addr} {q : Bool → Hp → Prop} : ∀ b h h', ZE X s H fp q b h → (∀ c o, h.get? c = some o → h'.get? c = some o) → ZE X s H fp q b h' :=
  fun _ _ _ ⟨H', u, k, z⟩ hk => ⟨H', u.trans (Un.kept hk), k.kept hk, z⟩
section
variable {X : Cx} {s4 : Shared} {H4 : Hp} {env : Env} {Ac : Around} {fp : List Addr} {elt iter : Expr} {x : Str} {px gpos : Pos} {scope : Scope} {it a : Addr} {g N : Nat} {go : Obj} {J : It} {tn : Nat → Heap → Prop} {tg : TG} {te : TE} {stop : Bool} {q : Bool → Hp → Prop} {W : Nat → L2.St → Hp → Prop}
theorem seg_gx (hc : X.calm = true) (T : Turn X.prog X.w X.K (.Name x px) J fp it tn) (hco : env.scope.isCoroutine = false)
    (hgen : ∀ h : Heap, h.get? a = some go → h.IsGen a g)
    (hgt : PG (gx X s4 H4 env (Ac.over (.compLoop (.GeneratorExp elt [⟨.Name x px, iter, [], 0⟩] scope gpos) 0 (.ref it) .none env) []) fp) (.Name x px) tg)
    (hel : PE (gx X s4 H4 env (Ac.over (.compLoop (.GeneratorExp elt [⟨.Name x px, iter, [], 0⟩] scope gpos) 0 (.ref it) .none env) []) fp) elt te)
    (hfp : ∀ b ∈ fp, b ≠ env.locals ∧ b ∉ frs X.stack ∧ (∀ y c, env.cells.lookup y = some c → c ≠ b) ∧ b ≠ a)
    (hW : ∀ i σ H, W i σ H → (∀ b ∈ fp, H b = none) → (J.stop i H ∧ q (!stop) H) ∨ (i < N ∧ J.go i H ∧ ∀ y H1, J.yld i H y H1 → tg y σ H1 fun σ2 H2 => te σ2 H2 fun v H3 => ∃ b, v = .bl b ∧ (b = stop → q stop H3) ∧ (b = !stop → W (i + 1) σ2 H3))) :
    ∀ (n i : Nat) (σ : L2.St) (H : Hp) (s₀ s : Shared), n + i = N → W i σ H → Inv (gx X s4 H4 env (Ac.over (.compLoop (.GeneratorExp elt [⟨.Name x px, iter, [], 0⟩] scope gpos) 0 (.ref it) .none env) []) fp) [(a, go)] σ H s → tn i s.heap → (∀ b ∈ fp, H b = none) → g < s.gens.size →
      Seg (model X.prog X.w) Ac (fun n s₀ r s₁ => r = .ok .next ∧ RB (ZE X s4 H4 fp q) s4.os stop n s₀ s₁) (YB a g (ZE X s4 H4 fp q) s4.os stop) n s₀
        (.compLoop (.GeneratorExp elt [⟨.Name x px, iter, [], 0⟩] scope gpos) 0 (.ref it) .none env)
        ((model X.prog X.w).den (.compLoop (.GeneratorExp elt [⟨.Name x px, iter, [], 0⟩] scope gpos) 0 (.ref it) .none env)) [] s := by
  intro n
  induction n with
  | zero =>
    intro i σ H s₀ s hn hw I ht hf hg
    have hfk : ∀ b ∈ fp, FpOk (gx X s4 H4 env (Ac.over (.compLoop (.GeneratorExp elt [⟨.Name x px, iter, [], 0⟩] scope gpos) 0 (.ref it) .none env) []) fp) [(a, go)] H b := fun b hb => ⟨hf b hb, (hfp b hb).1, (hfp b hb).2.1, .inl hb, (hfp b hb).2.2.1, fun p hp => by
      obtain rfl : p = (a, go) := by simpa [gx] using hp
      exact (hfp b hb).2.2.2.symm⟩
    show Seg _ Ac _ _ _ s₀ _ ((compTurn (.GeneratorExp elt [⟨.Name x px, iter, [], 0⟩] scope gpos) 0 (.ref it) .none env).onRaise (leaving env)) [] s
    rw [compTurn_gen, Sem.onRaise_eq_wrap]
    refine seg_bind_wrap (wpAny_standAt ?_)
    rcases hW i σ H hw hf with ⟨h1, h2⟩ | ⟨h1, _⟩
    · refine seg_bind_wrap (wpAny_mono (T.done (gx X s4 H4 env _ fp) rfl rfl rfl hc i _ s σ H _ I hfk ht h1) (fun r s1 ⟨hr, I1⟩ => ?_) fun _ _ e => e)
      subst hr
      exact seg_end (.ok .next) ⟨rfl, I1.os, I1.bare, H, I1.base, I1.hok, h2⟩
    · omega
  | succ n ih =>
    intro i σ H s₀ s hn hw I ht hf hg
    have hfk : ∀ b ∈ fp, FpOk (gx X s4 H4 env (Ac.over (.compLoop (.GeneratorExp elt [⟨.Name x px, iter, [], 0⟩] scope gpos) 0 (.ref it) .none env) []) fp) [(a, go)] H b := fun b hb => ⟨hf b hb, (hfp b hb).1, (hfp b hb).2.1, .inl hb, (hfp b hb).2.2.1, fun p hp => by
      obtain rfl : p = (a, go) := by simpa [gx] using hp
      exact (hfp b hb).2.2.2.symm⟩
    show Seg _ Ac _ _ _ s₀ _ ((compTurn (.GeneratorExp elt [⟨.Name x px, iter, [], 0⟩] scope gpos) 0 (.ref it) .none env).onRaise (leaving env)) [] s
    rw [compTurn_gen, Sem.onRaise_eq_wrap]
    refine seg_bind_wrap (wpAny_standAt ?_)
    rcases hW i σ H hw hf with ⟨h1, h2⟩ | ⟨h1, h2, h3⟩
    · refine seg_bind_wrap (wpAny_mono (T.done (gx X s4 H4 env _ fp) rfl rfl rfl hc i _ s σ H _ I hfk ht h1) (fun r s1 ⟨hr, I1⟩ => ?_) fun _ _ e => e)
      subst hr
      exact seg_end (.ok .next) ⟨rfl, I1.os, I1.bare, H, I1.base, I1.hok, h2⟩
    · refine seg_bind_wrap (wpAny_gsz hg (wpAny_mono (T.item (gx X s4 H4 env _ fp) rfl rfl rfl hc i _ s σ H _ I hfk ht h2) (fun r s1 hr g1 => ?_) fun _ _ e _ => e))
      obtain ⟨u, rfl, hr⟩ := hr
      refine seg_bind_wrap (wpAny_gsz g1 (wpAny_mono hr (fun _ s2 hr g2 => ?_) fun _ _ e _ => e))
      obtain ⟨y, H1, I2, ru, hy, ht2, hf2⟩ := hr
      have I2' := I2.pinned (fun b hb => ⟨hf2 b hb, (hfk b hb).2⟩) (T.obj _ _ ht2)
      refine seg_bind_wrap (wpAny_gsz g2 (wpAny_mono (hgt.run _ s2 σ H1 y u _ I2' ru (h3 y H1 hy)) (fun _ s3 hr g3 => ?_) fun _ _ e => e.elim))
      obtain ⟨σ3, H3, I3, h4⟩ := hr
      simp only [List.forIn_nil]
      refine seg_bind_wrap (wpAny_pure ?_)
      simp only [if_true]
      have hy : ∀ v, yieldOut env v = yieldValue v := fun v => by simp only [yieldOut, hco, Bool.false_eq_true, if_false]
      simp only [hy]
      rw [Sem.bind_eq_wrap', Sem.bind_eq_wrap', Sem.wrap_wrap, Sem.wrap_wrap]
      refine seg_wrap (wpAny_gsz g3 (wpAny_mono (hel.run _ s3 σ3 H3 _ I3 h4) (fun v s5 hr g5 => ?_) fun _ _ e => e.elim))
      obtain ⟨v', H5, I5, rv, b, rfl, hs1, hs2⟩ := hr
      have ev : v = .bool b := rv
      subst ev
      have pn5 : ∀ c ∈ fp, ∀ o, s2.heap.get? c = some o → s5.heap.get? c = some o ∧ H5 c = none := fun c hb o e =>
        have z := I5.pin (c, o) (List.mem_append_right _ (List.mem_append_right _ (mem_pinsAt hb e)))
        ⟨z.1, z.2.1⟩
      have ht5 : tn (i + 1) s5.heap := T.keep _ _ _ ht2 fun c hb o e => (pn5 c hb o e).1
      have hf5 : ∀ c ∈ fp, H5 c = none := fun c hb => by
        obtain ⟨o, e, _⟩ := T.obj _ _ ht2 c hb
        exact (pn5 c hb o e).2
      have I6 := I5.unpinned
      refine seg_at (seg_yield rfl rfl rfl ⟨b, rfl, hgen _ (I6.pin (a, go) (by simp)).1, I6.nolimit, I6.bare, I6.os, g5, ?_⟩)
      by_cases hb : b = stop
      · exact .inl ⟨hb, H5, I6.base, I6.hok, hs1 hb⟩
      · have hb' : b = !stop := by cases b <;> cases stop <;> simp_all
        refine .inr ⟨hb', fun s' hi => ?_⟩
        obtain ⟨hi1, hi2, hi3, hi4⟩ := hi
        have kp : ∀ c o, s5.heap.get? c = some o → s'.heap.get? c = some o := fun c o e => by rw [hi1]; exact e
        have I7 := I6.call' (s' := s') (ch := []) hi2 (Un.kept kp) (I6.hok.kept kp) hi3 (fun c z => by cases z)
        exact seg_again rfl (ih (i + 1) σ3 H5 s' s' (by omega) (hs2 hb') I7 (by rw [hi1]; exact ht5) hf5 (Nat.lt_of_lt_of_le g5 hi4))
end
end GG

set_option Elab.async false
set_option linter.all false
set_option maxRecDepth 100000
set_option maxHeartbeats 4000000
/-! GX3: a generator expression's frame begins. -/
namespace GG
open PySem PySem.Spec PyProof.Rows L2 GenW
section
variable {X : Cx} {pins : List (Addr × Obj)} {σ : L2.St} {H : Hp} {s : Shared} {scope : Scope} {own : List (Str × Nat)} {fp : List Addr} {Ac A' : Around} {itv code : Value} {go : Obj}
/-- the frame's environment -/
abbrev envG (X : Cx) (s : Shared) (scope : Scope) (code : Value) : Env := genEnv scope (cloFrom X.env.cells scope.names []) s.heap.objs.size code builtinsNs X.env
theorem frees (I : Inv X pins σ H s) (ok : BlkOk X.N X.env.scope scope own) : ∀ y ∈ scope.names, y.2 = .free → ∃ c, X.env.cells.lookup y.1 = some c := fun y hy e => by
  rcases ok.free y hy e with k | k
  · exact I.ok.has _ (.inl k)
  · exact I.ok.has _ (.inr k)
theorem clo_in {cells : List (Str × Addr)} {names : List (Str × NameKind)} (hf : ∀ y ∈ names, y.2 = .free → ∃ c, cells.lookup y.1 = some c) {y : Str} {c : Addr} (e : (cloFrom cells names []).lookup y = some c) : cells.lookup y = some c := by
  rcases cloFrom_mem (PySem.mem_of_lookup e) with z | ⟨h1, h2⟩
  · exact nomatch z
  · obtain ⟨c1, k⟩ := hf _ h1 rfl
    have k : cells.lookup y = some c1 := k
    rw [k] at h2
    rw [k, h2]; rfl
theorem clo_out {cells : List (Str × Addr)} {names : List (Str × NameKind)} (hf : ∀ y ∈ names, y.2 = .free → ∃ c, cells.lookup y.1 = some c) {y : Str} (hy : (y, NameKind.free) ∈ names) : ∃ c, (cloFrom cells names []).lookup y = some c ∧ cells.lookup y = some c := by
  obtain ⟨c, e⟩ := mem_lookup (cloFrom_has (cells := cells) (acc := []) hy)
  exact ⟨c, e, clo_in hf e⟩
/-- what holds as the frame begins -/
theorem gx_start (I : Inv X pins σ H s) (ok : BlkOk X.N X.env.scope scope own) (hN : X.N.Nodup) (hcell : ∀ y ∈ scope.names, y.2 ≠ .cell) (hfp : ∀ b ∈ fp, FpOk X pins H b ∧ b < s.heap.objs.size)
    (hh : A'.handled = none) (hfr : A'.frames = some (envG X s scope code :: X.stack)) {h' : Heap} {gs : GenState} {tk : Nat} (hgb : gs.bare = true)
    (hn : h'.Ns s.heap.objs.size (fun y => if y = ".0" then some itv else none)) (hs : Heap.SameBut s.heap.objs.size (s.heap.push { cls := .type "frame", data := .dict #[] }) h') (hgc : ∀ v, go.data ≠ .cell v) (hgp : (h'.push go).get? h'.objs.size = some go) :
    Inv (gx X s H (envG X s scope code) A' fp) [(h'.objs.size, go)] (wipe σ (own.map (·.2))) H { s with gens := s.gens.push gs, toks := tk, heap := h'.push go } := by
  have hfree := frees I ok
  have hsz : h'.objs.size = s.heap.objs.size + 1 := by rw [hs.1, Heap.size_push]
  have kp : ∀ b o, s.heap.get? b = some o → (h'.push go).get? b = some o := fun b o e => Heap.get?_push_of_some _ (hs.extBut b o (Nat.ne_of_lt (Heap.lt_size e)) (Heap.get?_push_of_some _ e))
  have hnew : H h'.objs.size = none := I.hok.fresh (by rw [hsz]; exact Nat.le_succ _)
  have hnotfs : ∀ b, s.heap.objs.size ≤ b → b ∉ frs X.stack := fun b hb hm => by
    rcases List.mem_cons.mp (I.stkSub b hm) with z | z
    · have h1 := I.lt
      rw [← z] at h1
      exact Nat.lt_irrefl _ (Nat.lt_of_lt_of_le h1 hb)
    · exact I.nofs hb z
  have cm : ∀ y c, (cloFrom X.env.cells scope.names []).lookup y = some c → X.env.cells.lookup y = some c := fun y c e => clo_in hfree e
  refine ⟨⟨I.ok.mod, ok.kind, I.ok.glob, rfl, Nat.le_refl _, fun y z c e1 e2 => I.ok.inj y z c (cm y c e1) (cm z c e2), fun y hy => ?_, fun y c z e => absurd z (by simp [gx]), fun _ => hh, hfr, .inr ⟨rfl, rfl⟩, fun b hb => ⟨?_, fun y c e => ?_⟩, I.bs, Nat.le_trans I.ok.bsz I.sz, fun b o e hb => ?_, fun b hb z => ?_, I.stack, I.stkFree⟩,
    rfl, I.bare.push hgb, Un.kept kp, ⟨_, hn.push _, fun i y v h1 h2 h3 => ?_⟩, fun y c e => ?_, I.hok.fresh (Nat.le_refl _), fun y c e => I.freeC y c (cm y c e), fun p hp => ?_, I.hok.kept kp, ?_⟩
  · have hy : scope.names.lookup y = some .cell ∨ scope.names.lookup y = some .free := hy
    rcases hy with hy | hy
    · exact absurd rfl (hcell _ (PySem.mem_of_lookup hy))
    · obtain ⟨c, e, _⟩ := clo_out hfree (PySem.mem_of_lookup hy)
      exact ⟨c, e⟩
  · exact Nat.ne_of_lt (hfp b hb).2
  · exact (hfp b hb).1.2.2.2.2.1 y c (cm y c e)
  · rcases (hfp b hb).1.2.2.2.1 with z | z
    · exact I.ok.noex b o e z
    · exact Nat.lt_irrefl _ (Nat.lt_of_lt_of_le (Heap.lt_size e) (Nat.le_trans I.ok.bsz z))
  · rcases List.mem_cons.mp (I.stkSub b z) with z | z
    · exact (hfp b hb).1.2.1 z
    · exact (hfp b hb).1.2.2.1 z
  · obtain ⟨h4, h5⟩ := wipe_some h2
    have own : scope.names.lookup y = some .local ∨ scope.names.lookup y = some .cell → False := fun hl => by
      obtain ⟨k, hk, hm⟩ : ∃ k, (k = NameKind.local ∨ k = NameKind.cell) ∧ (y, k) ∈ scope.names := by
        rcases hl with hl | hl
        · exact ⟨_, .inl rfl, PySem.mem_of_lookup hl⟩
        · exact ⟨_, .inr rfl, PySem.mem_of_lookup hl⟩
      rcases ok.own _ hm hk with z | z
      · obtain ⟨p, hp, e⟩ := List.mem_map.mp z
        have e1 := ok.ix p hp
        have e : p.1 = y := e
        rw [e] at e1
        have h1 : X.N[i]? = some y := h1
        obtain ⟨l1, g1⟩ := List.getElem?_eq_some_iff.mp h1
        obtain ⟨l2, g2⟩ := List.getElem?_eq_some_iff.mp e1
        have : i = p.2 := by
          rcases Nat.lt_trichotomy i p.2 with k | k | k
          · exact absurd (g1.trans g2.symm) (List.pairwise_iff_getElem.mp hN _ _ _ _ k)
          · exact k
          · exact absurd (g2.trans g1.symm) (List.pairwise_iff_getElem.mp hN _ _ _ _ k)
        exact h5 (by rw [this]; exact List.mem_map.mpr ⟨p, hp, rfl⟩)
      · exact z (List.mem_of_getElem? h1)
    have h3 : scope.names.lookup y = some .local ∨ scope.names.lookup y = some .cell ∨ scope.names.lookup y = some .free := h3
    rcases h3 with h3 | h3 | h3
    · exact (own (.inl h3)).elim
    · exact (own (.inr h3)).elim
    · obtain ⟨m, hm, hl⟩ := I.loc
      have vis : X.env.scope.names.lookup y = some .cell ∨ X.env.scope.names.lookup y = some .free := ok.free _ (PySem.mem_of_lookup h3) rfl
      obtain ⟨u, ru, lk⟩ := hl i y v h1 h4 (.inr vis)
      refine ⟨u, ru, .inr ⟨.inr h3, ?_⟩⟩
      rcases lk with ⟨k1, _⟩ | ⟨_, c, k2, o, k3, k4⟩
      · have k1 : X.env.scope.names.lookup y = some .local := k1
        rw [k1] at vis
        rcases vis with z | z <;> cases z
      · obtain ⟨c', e1, e2⟩ := clo_out hfree (PySem.mem_of_lookup h3)
        rw [k2] at e2
        cases e2
        exact ⟨c, e1, o, kp _ _ k3, k4⟩
  · obtain ⟨v, o, k1, k2⟩ := I.cell y c (cm y c e)
    exact ⟨v, o, kp _ _ k1, k2⟩
  · obtain rfl : p = (h'.objs.size, go) := by simpa [gx] using hp
    exact ⟨hgp, hnew, by show h'.objs.size ≠ s.heap.objs.size; omega, hnotfs _ (by show s.heap.objs.size ≤ h'.objs.size; omega), hgc⟩
  · show (wipe σ _).length = X.N.length
    rw [wipe_length]
    exact I.len
end
end GG

set_option Elab.async false
set_option linter.all false
set_option maxRecDepth 100000
set_option maxHeartbeats 4000000
/-! GX4: any, all of a generator expression. -/
namespace GG
open PySem PySem.Spec PyProof.Rows L2 GenW
section
variable {X : Cx} {s4 : Shared} {H4 : Hp} {env : Env} {Ac : Around} {fp : List Addr} {elt iter : Expr} {x : Str} {px gpos : Pos} {scope : Scope} {it a : Addr} {g N : Nat} {go : Obj} {J : It} {tn : Nat → Heap → Prop} {tg : TG} {te : TE} {stop : Bool} {q : Bool → Hp → Prop} {W : Nat → L2.St → Hp → Prop}
abbrev gcode (elt iter : Expr) (x : Str) (px gpos : Pos) (scope : Scope) (it : Addr) (env : Env) : Code := .compLoop (.GeneratorExp elt [⟨.Name x px, iter, [], 0⟩] scope gpos) 0 (.ref it) .none env
/-- the code begins -/
theorem seg_begin {R : GenEnd} {Y : Protocol} {n : Nat} {s₀ s : Shared} (hs : ∀ (A : Around) (s : Shared) (Q : Value → Shared → Prop) (E : Value → Shared → Prop), tn 0 s.heap → Q (.ref it) s → wpAny (model X.prog X.w) A (pyIter (.ref it)) Q E s) (ht : tn 0 s.heap)
    (loop : Seg (model X.prog X.w) Ac R Y n s₀ (gcode elt iter x px gpos scope it env) ((model X.prog X.w).den (gcode elt iter x px gpos scope it env)) [] s) :
    Seg (model X.prog X.w) Ac R Y n s₀ (.compStart (.GeneratorExp elt [⟨.Name x px, iter, [], 0⟩] scope gpos) 0 (.ref it) .none env) ((model X.prog X.w).den (.compStart (.GeneratorExp elt [⟨.Name x px, iter, [], 0⟩] scope gpos) 0 (.ref it) .none env)) [] s := by
  have go : Seg (model X.prog X.w) Ac R Y n s₀ (.compStart (.GeneratorExp elt [⟨.Name x px, iter, [], 0⟩] scope gpos) 0 (.ref it) .none env) ((compStart (.GeneratorExp elt [⟨.Name x px, iter, [], 0⟩] scope gpos) 0 (.ref it) .none env).onRaise (leaving env)) [] s := by
    unfold compStart
    rw [Sem.onRaise_eq_wrap]
    refine seg_bind_wrap (m := ask) (wpAny_askSetting ?_)
    split
    · exact seg_again rfl loop
    · first
        | exact seg_bind_wrap (wpAny_rule (seg_bind_wrap (wpAny_standAt (seg_bind_wrap (hs _ s _ _ ht (seg_again rfl loop))))))
        | (refine seg_bind_wrap (wpAny_rule ?_)
           refine seg_bind_wrap (m := standAt _) (wpAny_standAt ?_)
           exact seg_bind_wrap (hs _ s _ _ ht (seg_again rfl loop)))
  exact go
/-- all (stop := false), any (stop := true) of elt for x in iter -/
def tGen (P : Addr) (stop : Bool) (wi : TI) (tg : TG) (te : TE) (vs : List Nat) : TE := fun σ H Q => wi σ H fun J H1 => GxR.TabG H1 P ∧ ∀ H2, GxR.Tabbed P H1 H2 → ∃ (N : Nat) (W : Nat → L2.St → Hp → Prop), W 0 (wipe σ vs) H2 ∧ ∀ i σ' H', W i σ' H' →
  (J.stop i H' ∧ Q (.bl (!stop)) H') ∨ (i < N ∧ J.go i H' ∧ ∀ y H3, J.yld i H' y H3 → tg y σ' H3 fun σ2 H4 => te σ2 H4 fun v H5 => ∃ b, v = .bl b ∧ (b = stop → Q (.bl stop) H5) ∧ (b = !stop → W (i + 1) σ2 H5))
theorem gen_made {c P : Addr} {pins : List (Addr × Obj)} {σ : L2.St} {H : Hp} {s : Shared} {wi : TI} {own : List (Str × Nat)} {k : Nat} {Q : VK} {Q' : Value → Shared → Prop}
    (hr : Room (k + 1) X.A) (hc : X.calm = true) (TB : GxR.TabB X.base X.mg c P) (hcode : X.env.code = .ref c) (hN : X.N.Nodup) (ok : BlkOk X.N X.env.scope scope own) (hcell : ∀ y ∈ scope.names, y.2 ≠ .cell)
    (hdot : scope.names.lookup (".0" : Str) = some NameKind.local) (hco : scope.isCoroutine = false) (hi : PI X (.Name x px) iter wi)
    (hgt : ∀ (s : Shared) (H : Hp) (cl : List (Str × Addr)) (C : Addr) (code : Value) (A : Around) (fp : List Addr), PG (gx X s H (genEnv scope cl C code builtinsNs X.env) A fp) (.Name x px) tg)
    (hel : ∀ (s : Shared) (H : Hp) (cl : List (Str × Addr)) (C : Addr) (code : Value) (A : Around) (fp : List Addr), Room k A → PE (gx X s H (genEnv scope cl C code builtinsNs X.env) A fp) elt te)
    (hs : ∀ v, genFold iter X.env v = pure v) (I : Inv X pins σ H s) (h : tGen P stop wi tg te (own.map (·.2)) σ H Q)
    (hQ : ∀ (a : Addr) (g N : Nat) (Z : Fn) (os : OsState) (gs : GenState) (s5 : Shared), (∀ b h h', Z b h → (∀ c o, h.get? c = some o → h'.get? c = some o) → Z b h') → s5.heap.IsGen a g → s5.heap.NoLimit → s5.gens[g]? = some gs → AllBare s5.gens → s5.os = os →
      (∀ s', Idle s5 s' → GoesB X.prog X.w X.A.in1.in1 a g Z os stop N gs s') → (∀ b s', FnS Z os b s' → ∃ H', Inv X pins σ H' s' ∧ Q (.bl b) H') → Q' (.ref a) s5) :
    wpAny (model X.prog X.w) X.A (eval (.GeneratorExp elt [⟨.Name x px, iter, [], 0⟩] scope gpos) X.env) Q' X.xe s := by
  refine wpAny_GeneratorExp_make hco (closure_ok (frees I ok)) hcell hdot ok.kind hr.depth (thn (hi.run pins s σ H _ I h) fun xv s1 h1 => thn h1 fun itv s2 h2 => ?_) hs
  obtain ⟨it, fp, tn, J, H1, rfl, I2, T, ht, hf, ⟨ps, hP, htr⟩, hW⟩ := h2
  refine ⟨I2.nolimit, ?_⟩
  have hPs : s2.heap.get? P = some { cls := .none, data := .fields ps } := I2.hok P _ hP
  have cd : PySem.W.CodeHd s2.heap c P := TB.code.keeps I2.bk
  have cont : ∀ (code : Value) (h3 : Heap) (tk : Nat) (more : Array Value), Heap.ExtBut P s2.heap h3 → h3.get? P = some { cls := .none, data := .fields (ps ++ more) } → TriplesOk (ps ++ more).toList →
      wpAny (model X.prog X.w) X.A (builtinsFor X.env.globals X.env.builtins) (fun bi s₄ => ∀ h', h'.Ns s₄.heap.objs.size (fun y => if y = ".0" then some (.ref it) else none) → Heap.SameBut s₄.heap.objs.size (s₄.heap.push { cls := .type "frame", data := .dict #[] }) h' →
          Q' (.ref h'.objs.size) { s₄ with
            gens := s₄.gens.push (.fresh (.compStart (.GeneratorExp elt [⟨.Name x px, iter, [], 0⟩] scope gpos) 0 (.ref it) .none (genEnv scope (cloFrom X.env.cells scope.names []) s₄.heap.objs.size code bi X.env))),
            toks := s₄.toks + 1 + 1 + 1,
            heap := h'.push { cls := .type "generator", data := .fields #[.int s₄.gens.size 0, .str "<genexpr>" (s₄.toks + 1), .str (X.env.qual ++ "<genexpr>") (s₄.toks + 1 + 1)] } }) X.xe { s2 with heap := h3, toks := tk } := by
    intro code h3 tk more hx hP3 htr3
    have I4 := GxR.inv_tab (more := more) (h' := h3) (g' := s2.gens) (d' := s2.drawn) (t' := tk) I2 hP (fun b o hb e => hx b o hb e) hP3 I2.bare
    obtain ⟨bm, ob, e1, e2, e3, e4, e5, e6, e7, e8⟩ := TB.bm
    refine wpAny_builtinsFor (m := X.mg) (by rw [I4.ok.glob]; exact I4.mod.glob.keeps I4.bk) e1 e2 (I4.bk _ _ e5) e6 e7 e8 ?_
    intro h' hn' hs'
    have hnP : ∀ b ∈ fp, b ≠ P := fun b hb z => by
      have := (hf b hb).1
      rw [z, hP] at this
      cases this
    have hsz : ∀ b ∈ fp, b < h3.objs.size := fun b hb => by
      obtain ⟨o, e, _⟩ := T.obj _ _ ht b hb
      exact Heap.lt_size (hx b o (hnP b hb) e)
    have ht3 : tn 0 h3 := T.keep _ _ _ ht fun b hb o e => hx b o (hnP b hb) e
    have hf4 : ∀ b ∈ fp, FpOk X pins (upd H1 P (.tbl (ps ++ more))) b := fun b hb => ⟨by rw [upd_ne (hnP b hb)]; exact (hf b hb).1, (hf b hb).2⟩
    obtain ⟨N, W, w0, hW⟩ := hW (upd H1 P (.tbl (ps ++ more))) ⟨⟨_, upd_same, htr3⟩, fun b hb => upd_ne hb⟩
    have hfr : (X.A.in1.in1.over (gcode elt iter x px gpos scope it (envG X { s2 with heap := h3, toks := tk } scope code)) []).frames = some (envG X { s2 with heap := h3, toks := tk } scope code :: X.stack) := by
      show pushEnvs [_] (pushEnvs [] X.A.frames) = _
      rw [I4.ok.frames]
      rfl
    have rm : Room k (X.A.in1.in1.over (gcode elt iter x px gpos scope it (envG X { s2 with heap := h3, toks := tk } scope code)) []) :=
      ⟨hr.hd, by have := hr.dp; show X.A.depth + 1 + 3 * k + 5 < _; omega, by have := hr.un; show X.A.units + 1 + 1 + 0 + 3 + 16 * k + 200 < _; omega⟩
    have I5 := gx_start (A' := X.A.in1.in1.over (gcode elt iter x px gpos scope it (envG X { s2 with heap := h3, toks := tk } scope code)) []) (own := own) (fp := fp) (code := code) (itv := .ref it) (gs := .fresh (.compStart (.GeneratorExp elt [⟨.Name x px, iter, [], 0⟩] scope gpos) 0 (.ref it) .none (envG X { s2 with heap := h3, toks := tk } scope code))) (tk := tk + 1 + 1 + 1)
      (go := { cls := .type "generator", data := .fields #[.int s2.gens.size 0, .str "<genexpr>" (tk + 1), .str (X.env.qual ++ "<genexpr>") (tk + 1 + 1)] }) I4 ok hN hcell (fun b hb => ⟨hf4 b hb, hsz b hb⟩) hr.hd hfr rfl hn' hs' (fun v z => by cases z) (Heap.get?_push_size _ rfl)
    have kp3 : ∀ b o, h3.get? b = some o → (h'.push { cls := .type "generator", data := .fields #[.int s2.gens.size 0, .str "<genexpr>" (tk + 1), .str (X.env.qual ++ "<genexpr>") (tk + 1 + 1)] }).get? b = some o :=
      fun b o e => Heap.get?_push_of_some _ (hs'.extBut b o (Nat.ne_of_lt (Heap.lt_size e)) (Heap.get?_push_of_some _ e))
    have hsize : h'.objs.size = h3.objs.size + 1 := by rw [hs'.1, Heap.size_push]
    have hgen : ∀ h : Heap, h.get? h'.objs.size = some { cls := .type "generator", data := .fields #[.int s2.gens.size 0, .str "<genexpr>" (tk + 1), .str (X.env.qual ++ "<genexpr>") (tk + 1 + 1)] } → h.IsGen h'.objs.size s2.gens.size := fun h e => ⟨_, _, _, e, rfl, rfl, rfl⟩
    refine hQ h'.objs.size s2.gens.size N (ZE X { s2 with heap := h3, toks := tk } (upd H1 P (.tbl (ps ++ more))) fp fun b H' => Q (.bl b) H') s2.os _ _ ZE.mono (hgen _ (Heap.get?_push_size _ rfl)) I5.nolimit (Array.getElem?_push_size ..) I5.bare rfl (fun s' hi => ?_) fun b s' hz => ?_
    · obtain ⟨i1, i2, i3, i4⟩ := hi
      have kp : ∀ c o, (h'.push { cls := .type "generator", data := .fields #[.int s2.gens.size 0, .str "<genexpr>" (tk + 1), .str (X.env.qual ++ "<genexpr>") (tk + 1 + 1)] }).get? c = some o → s'.heap.get? c = some o := fun c o e => by rw [i1]; exact e
      have I6 := I5.call' (s' := s') (ch := []) i2 (Un.kept kp) (I5.hok.kept kp) i3 (fun c z => by cases z)
      have ht6 : tn 0 s'.heap := T.keep _ _ _ ht3 fun b hb o e => kp _ _ (kp3 _ _ e)
      have hg6 : s2.gens.size < s'.gens.size := Nat.lt_of_lt_of_le (by show _ < (s2.gens.push _).size; rw [Array.size_push]; exact Nat.lt_succ_self _) i4
      refine ⟨rfl, seg_begin (X := X) (fun A s Q E => T.self A 0 s Q E) ht6 (seg_gx (N := N) (W := W) (q := fun b H' => Q (.bl b) H') hc T hco hgen (hgt _ _ _ _ _ _ _) (hel _ _ _ _ _ _ _ rm) (fun b hb => ⟨?_, ?_, fun y d e => (hf b hb).2.2.2.2.1 y d (clo_in (frees I ok) e), ?_⟩) (fun i σ' H' hw _ => hW i σ' H' hw) N 0 _ _ s' s' (Nat.add_zero _) w0 I6 ht6 (fun b hb => (hf4 b hb).1) hg6)⟩
      · exact Nat.ne_of_lt (hsz b hb)
      · exact fun z => by
          rcases List.mem_cons.mp (I4.stkSub b z) with z | z
          · exact (hf b hb).2.1 z
          · exact (hf b hb).2.2.1 z
      · have := hsz b hb
        exact Nat.ne_of_lt (by rw [hsize]; exact Nat.lt_succ_of_lt this)
    · obtain ⟨o1, o2, H', u, hk, hq⟩ := hz
      exact ⟨H', I4.call' (ch := fp) o1 u hk o2 (fun b hb => ⟨(hf b hb).2.2.2.1, (hf b hb).2.1, (hf b hb).2.2.2.2.1, (hf b hb).2.2.2.2.2⟩), hq⟩
  cases hfm : codeAmong gpos ps.toList with
  | none =>
    refine wpAny_genexprCodeX hcode (cd.code hPs htr) (cd.tab hPs) hfm fun c' h3 tk hx hge hlt hco' _ htab' _ => ?_
    obtain ⟨o1, vs, f1, tf, fl, tg, inF, tx, tt, op, _, _, _, _, _, _, _, _, _, htr3, _⟩ := hco'
    exact cont _ h3 tk _ hx htab'.2 htr3
  | some cv =>
    refine wpAny_genexprCode_hit hcode (cd.code hPs htr) hfm ?_
    exact cont cv s2.heap s2.toks #[] (Heap.ExtBut.refl _ _) (by simpa using hPs) (by simpa using htr)
end
end GG

set_option Elab.async false
set_option linter.all false
set_option maxRecDepth 100000
set_option maxHeartbeats 4000000
/-! GX5: the calls all(..), any(..). -/
namespace GG
open PySem PySem.Spec PyProof.Rows L2 GenW
section
variable {X : Cx} {elt iter : Expr} {x : Str} {p px pos gpos : Pos} {scope : Scope} {tg : TG} {te : TE} {c P : Addr} {wi : TI} {own : List (Str × Nat)} {k : Nat}
theorem pe_allG (hr : Room (k + 1) X.A) (hc : X.calm = true) (TB : GxR.TabB X.base X.mg c P) (hcode : X.env.code = .ref c) (hN : X.N.Nodup) (ok : BlkOk X.N X.env.scope scope own) (hcell : ∀ y ∈ scope.names, y.2 ≠ .cell)
    (hdot : scope.names.lookup (".0" : Str) = some NameKind.local) (hco : scope.isCoroutine = false) (hg : Gl X "all") (hm : X.mg "all" = none) (hb : bootBuiltins "all" = some (.builtin "all")) (hi : PI X (.Name x px) iter wi)
    (hgt : ∀ (s : Shared) (H : Hp) (cl : List (Str × Addr)) (C : Addr) (code : Value) (A : Around) (fp : List Addr), PG (gx X s H (genEnv scope cl C code builtinsNs X.env) A fp) (.Name x px) tg)
    (hel : ∀ (s : Shared) (H : Hp) (cl : List (Str × Addr)) (C : Addr) (code : Value) (A : Around) (fp : List Addr), Room k A → PE (gx X s H (genEnv scope cl C code builtinsNs X.env) A fp) elt te)
    (hs : ∀ v, genFold iter X.env v = pure v) (he : starEach [.GeneratorExp elt [⟨.Name x px, iter, [], 0⟩] scope gpos] X.env = (false, eval (.GeneratorExp elt [⟨.Name x px, iter, [], 0⟩] scope gpos) X.env) :: starEach [] X.env := by rfl) :
    PE X (.Call (.Name "all" p) [.GeneratorExp elt [⟨.Name x px, iter, [], 0⟩] scope gpos] [] pos) (tGen P false wi tg te (own.map (·.2))) := by
  refine ⟨fun pins s σ H Q I h => wpAny_Call_Name_kw (ld_blt I hg hm hb (PyProof.Rows.callWith_builtin1 ?_ he (by rfl)))⟩
  rw [he]
  refine Calls.spliced_cons (gen_made (stop := false) hr hc TB hcode hN ok hcell hdot hco hi hgt hel hs I h fun a g N Z os gs s5 z1 z2 z3 z4 z5 z6 z7 z8 => Calls.spliced_nil ?_)
  refine call_all_gen z1 hr.hd hr.depth z2 z3 z4 z5 z6 z7 fun b s' hf => ?_
  obtain ⟨H', I', hq⟩ := z8 b s' hf
  exact ⟨.bl b, H', I', rfl, hq⟩
theorem pe_anyG (hr : Room (k + 1) X.A) (hc : X.calm = true) (TB : GxR.TabB X.base X.mg c P) (hcode : X.env.code = .ref c) (hN : X.N.Nodup) (ok : BlkOk X.N X.env.scope scope own) (hcell : ∀ y ∈ scope.names, y.2 ≠ .cell)
    (hdot : scope.names.lookup (".0" : Str) = some NameKind.local) (hco : scope.isCoroutine = false) (hg : Gl X "any") (hm : X.mg "any" = none) (hb : bootBuiltins "any" = some (.builtin "any")) (hi : PI X (.Name x px) iter wi)
    (hgt : ∀ (s : Shared) (H : Hp) (cl : List (Str × Addr)) (C : Addr) (code : Value) (A : Around) (fp : List Addr), PG (gx X s H (genEnv scope cl C code builtinsNs X.env) A fp) (.Name x px) tg)
    (hel : ∀ (s : Shared) (H : Hp) (cl : List (Str × Addr)) (C : Addr) (code : Value) (A : Around) (fp : List Addr), Room k A → PE (gx X s H (genEnv scope cl C code builtinsNs X.env) A fp) elt te)
    (hs : ∀ v, genFold iter X.env v = pure v) (he : starEach [.GeneratorExp elt [⟨.Name x px, iter, [], 0⟩] scope gpos] X.env = (false, eval (.GeneratorExp elt [⟨.Name x px, iter, [], 0⟩] scope gpos) X.env) :: starEach [] X.env := by rfl) :
    PE X (.Call (.Name "any" p) [.GeneratorExp elt [⟨.Name x px, iter, [], 0⟩] scope gpos] [] pos) (tGen P true wi tg te (own.map (·.2))) := by
  refine ⟨fun pins s σ H Q I h => wpAny_Call_Name_kw (ld_blt I hg hm hb (PyProof.Rows.callWith_builtin1 ?_ he (by rfl)))⟩
  rw [he]
  refine Calls.spliced_cons (gen_made (stop := true) hr hc TB hcode hN ok hcell hdot hco hi hgt hel hs I h fun a g N Z os gs s5 z1 z2 z3 z4 z5 z6 z7 z8 => Calls.spliced_nil ?_)
  refine call_any_gen z1 hr.hd hr.depth z2 z3 z4 z5 z6 z7 fun b s' hf => ?_
  obtain ⟨H', I', hq⟩ := z8 b s' hf
  exact ⟨.bl b, H', I', rfl, hq⟩
end
end GG

set_option Elab.async false
set_option linter.all false
set_option maxRecDepth 100000
set_option maxHeartbeats 4000000
/-! GS1: sorted of tuples of ints, none empty. -/
namespace SrtO
open PySem PyProof.Rows Srt
section
variable {prog : Program} {w : World} {A : Around} {E : Value → Shared → Prop} {s : Shared}
/-- a tuple of these ints, not empty -/
def IsIT (h : Heap) (v : Value) (ns : List Int) : Prop := ∃ a o us n, v = .ref a ∧ h.get? a = some o ∧ o.cls = .type "tuple" ∧ o.data = .seq (List.toArray us) n ∧ IntsAre us ns ∧ ns ≠ []
theorem IsIT.keeps {h h' : Heap} {v : Value} {ns : List Int} (p : IsIT h v ns) (k : ∀ b o, h.get? b = some o → o.cls = .type "tuple" → h'.get? b = some o) : IsIT h' v ns := by
  obtain ⟨a, o, us, n, e, ho, hc, hd, hi, hn⟩ := p
  exact ⟨a, o, us, n, e, k _ _ ho hc, hc, hd, hi, hn⟩
theorem ints_len : ∀ {us : List Value} {ns : List Int}, IntsAre us ns → us.length = ns.length
  | _, _, .nil => rfl
  | _, _, .cons _ _ r => by rw [List.length_cons, List.length_cons, ints_len r]
theorem firstsI_of {h : Heap} {k : Value → List Int} : ∀ {vs : List Value}, (∀ v ∈ vs, IsIT h v (k v)) → ∃ fs : List Value, PySem.W.KatTups h vs fs ∧ fs.length = vs.length ∧ ∀ f ∈ fs, ∃ x t, f = Value.int x t
  | [], _ => ⟨[], PySem.W.KatTups.nil, rfl, fun _ hm => by simp at hm⟩
  | v :: vs, hp => by
    obtain ⟨fs, h1, h2, h3⟩ := firstsI_of (vs := vs) fun v' hm => hp v' (List.mem_cons_of_mem _ hm)
    obtain ⟨a, o, us, n, e, ho, hc, hd, hi, hn⟩ := hp v (List.mem_cons_self ..)
    subst e
    generalize k (Value.ref a) = ns at hi hn
    cases hi with
    | nil => exact absurd rfl hn
    | cons x t r =>
      refine ⟨.int x t :: fs, PySem.W.KatTups.cons ho hc hd rfl h1, by rw [List.length_cons, List.length_cons, h2], fun f hf => ?_⟩
      rcases List.mem_cons.mp hf with rfl | hf
      · exact ⟨x, t, rfl⟩
      · exact h3 f hf
theorem one_ints {Q : Bool → Shared → Prop} (c : Bool) {p q : Int} {t u : Tok} (h : Q (decide (p < q)) s) : wpAny (model prog w) A (oneLt' c (.int p t) (.int q u)) Q E s := by
  cases c with
  | true => exact oneLt_int h
  | false => exact PySem.W.kat_one _ _ (PyProof.Rows.lt_int (Q := PySem.W.BoolBack Q) h)
theorem kat_ints {b fin : Bool} {Q : Bool → Shared → Prop} : ∀ {xs ys : List Value} {ns ms : List Int} (i : Nat), IntsAre xs ns → IntsAre ys ms → fin = decide (ns.length < ms.length) → Q (HT.lexLt ns ms) s → PySem.W.KatLex prog w A b fin Q (xs.zip ys) i s
  | _, _, _, _, i, .nil, .nil, hf, h => by
    rw [List.zip_nil_left]
    refine PySem.W.kat_nil ?_
    rw [hf]
    exact h
  | _, _, _, _, i, .nil, .cons y u r, hf, h => by
    rw [List.zip_nil_left]
    refine PySem.W.kat_nil ?_
    rw [hf, decide_eq_true (by simp)]
    exact h
  | _, _, _, _, i, .cons x t r, .nil, hf, h => by
    rw [List.zip_nil_right]
    refine PySem.W.kat_nil ?_
    rw [hf, decide_eq_false (by simp)]
    exact h
  | _, _, _, _, i, .cons x t r, .cons y u q, hf, h => by
    rw [List.zip_cons_cons]
    rw [HT.lexLt_cons] at h
    refine PySem.W.kat_cons (SeqAt.EqAt.int_int x t y u prog w _ _ ?_)
    refine PySem.W.kat_go (fun e1 => ?_) (fun e1 => ?_)
    · have ex : x = y := by simpa using e1
      rw [if_pos ex] at h
      exact PySem.W.kat_yes (kat_ints (i + 1) r q (by rw [hf, List.length_cons, List.length_cons]; exact decide_eq_decide.mpr (by omega)) h)
    · have ex : ¬ x = y := by simpa using e1
      rw [if_neg ex] at h
      exact PySem.W.kat_no (one_ints _ h)
theorem lexLt_iff : ∀ {xs ys : List Int}, HT.lexLt xs ys = true ↔ xs < ys
  | [], [] => by simp [HT.lexLt]
  | [], y :: ys => by simp [HT.lexLt]
  | x :: xs, [] => by simp [HT.lexLt]
  | x :: xs, y :: ys => by
    rw [HT.lexLt_cons, List.cons_lt_cons_iff]
    by_cases e : x = y
    · rw [if_pos e, lexLt_iff]
      constructor
      · exact fun h => .inr ⟨e, h⟩
      · rintro (h | h)
        · omega
        · exact h.2
    · rw [if_neg e, decide_eq_true_eq]
      constructor
      · exact fun h => .inl h
      · rintro (h | h)
        · exact h
        · exact absurd h.1 e
theorem lexLt_no {xs ys : List Int} : HT.lexLt xs ys = false ↔ ¬ xs < ys := by
  rw [← lexLt_iff]
  cases HT.lexLt xs ys <;> simp
theorem swo_lexI : Swo HT.lexLt := by
  refine ⟨fun x y h => ?_, fun x y z h1 h2 => ?_⟩
  · exact lexLt_no.mpr (fun k => List.lt_irrefl x (List.lt_trans (lexLt_iff.mp h) k))
  · have a := lexLt_no.mp h1
    have b := lexLt_no.mp h2
    exact lexLt_no.mpr fun k => by
      rw [List.not_lt] at a b
      exact absurd k (List.not_lt.mpr (List.le_trans a b))
theorem swo_lexK {α : Type} (k : α → List Int) : Swo fun v u => HT.lexLt (k v) (k u) := ⟨fun x y => swo_lexI.asym _ _, fun x y z => swo_lexI.tr _ _ _⟩
theorem it_cmp {vs : List Value} {k : Value → List Int} (hp : ∀ v ∈ vs, IsIT s.heap v (k v)) : Cmp prog w A s (tuples' true) (fun p => p.1 ∈ vs) (lt2 fun v u => HT.lexLt (k v) (k u)) := by
  intro p q hm hm'
  obtain ⟨a, o, us, n, e, ho, hc, hd, hi, hn⟩ := hp _ hm
  obtain ⟨a', o', us', n', e', ho', hc', hd', hi', hn'⟩ := hp _ hm'
  show wpAny (model prog w) A (keyLt' (tuples' true) p.1 q.1) (fun r s' => s' = s ∧ r = HT.lexLt (k p.1) (k q.1)) (fun _ _ => False) s
  rw [e] at hi ⊢
  rw [e'] at hi' ⊢
  refine PySem.W.kat_lt ho hd ho' hd' ?_
  refine kat_ints 0 hi hi' ?_ ⟨rfl, rfl⟩
  rw [List.size_toArray, List.size_toArray, ints_len hi, ints_len hi']
theorem its_sortableO {a : Addr} {vs : List Value} {k : Value → List Int} (h0 : 0 < vs.length) (hp : ∀ v ∈ vs, IsIT s.heap v (k v)) (ha : ∀ o, s.heap.get? a = some o → o.cls ≠ .type "tuple") : SortableO prog w A s a vs fun v u => HT.lexLt (k v) (k u) := by
  intro h' keep
  have hp' : ∀ v ∈ vs, IsIT h' v (k v) := fun v hm => (hp v hm).keeps fun b o e c => keep b o (fun z => by subst z; exact ha o e c) e
  obtain ⟨fs, h1, h2, h3⟩ := firstsI_of hp'
  refine ⟨tuples' true, fun Q E hq => ?_, it_cmp hp'⟩
  refine PySem.W.kat_kind (T := .type "int") h1 (by omega) (fun f hm => ?_) (by rfl) ?_
  · obtain ⟨x, t, rfl⟩ := h3 f hm
    exact PySem.W.Looks.now
  · have e : (Value.type "int" != Value.type "tuple") = true := by first | decide +kernel | rfl | decide
    rw [e]
    exact hq
theorem sorted_itsO {l : Addr} {vs : List Value} {k : Value → List Int} {Q : Value → Shared → Prop} (hl : s.heap.IsList l vs.toArray) (hz : vs.length ≤ sizeLine) (hp : ∀ v ∈ vs, IsIT s.heap v (k v))
    (h : ∀ (h' : Heap) (d : Addr) (out : List Value), Srtd (fun v u => HT.lexLt (k v) (k u)) out → Stb (fun v u => HT.lexLt (k v) (k u)) out vs → (∀ b o, s.heap.get? b = some o → h'.get? b = some o) → s.heap.objs.size ≤ d → (∃ n, h'.get? d = some (seqObj "list" out.toArray n)) → Q (.ref d) { s with heap := h' }) :
    wpAny (model prog w) A (call (.builtin "sorted") [.ref l]) Q E s := by
  refine sorted_ord (swo_lexK k) hl hz (fun h2 h₁ a ha kk => ?_) fun out hs hb => ?_
  · refine its_sortableO (s := { s with heap := h₁ }) (by omega) (fun v hm => (hp v hm).keeps fun b o e _ => (kk b o e).2) fun o e => ?_
    have e' : some o = some (seqObj "list" vs.toArray 0) := e.symm.trans ha
    cases e'
    intro c
    exact absurd (Value.type.inj c) (by decide)
  · exact h _ _ out hs hb (fun b o e => sortedAll_old e) (Nat.le_succ _) (sortedAll_at s.heap vs out.toArray)
end
end SrtO

set_option Elab.async false
set_option linter.all false
set_option maxRecDepth 100000
set_option maxHeartbeats 4000000
namespace L2
open PySem PySem.Spec PyProof.Rows
theorem intsAre_v : ∀ {ns : List Int} {us : List Value}, Vals (ns.map V.int) us → PyProof.Rows.IntsAre us ns
  | [], _, h => by cases h; exact .nil
  | n :: ns, _, h => by
    cases h with
    | cons r t =>
      obtain ⟨tk, rfl⟩ := r
      exact .cons n tk (intsAre_v t)
abbrev ltI (k : V → List Int) (x y : V) : Bool := HT.lexLt (k x) (k y)
/-- sorted(xs), xs a list of tuples of ints, none empty (k says which) -/
def rSortedIT (K : PySem.W.Frag) : List V → Hp → VK → Prop := fun vs H Q => ∃ (a : Addr) (xs : List V) (k : V → List Int), vs = [V.ref a] ∧ SqL K H a xs ∧ (∀ x ∈ xs, ∃ t, x = V.ref t ∧ SqT K H t ((k x).map V.int) ∧ k x ≠ []) ∧
  ∀ ys p, SrtO.Srtd (ltI k) ys → SrtO.Stb (ltI k) ys xs → H p = none → Q (.ref p) (upd H p (.lst ys))
section
variable {X : Cx}
theorem cr_sortedIT : CallR X (.builtin "sorted") (rSortedIT X.K) := by
  intro pins s σ H vs us Q I r h
  obtain ⟨a, xs, k, rfl, hs, hx, q⟩ := h
  obtain ⟨its, rv, hl, hz⟩ := I.list hs
  obtain ⟨u, rfl, ru⟩ := vals1 r
  obtain rfl : u = Value.ref a := ru
  obtain ⟨e1, e2⟩ := refs_back rv fun x m => by
    obtain ⟨t, e, _⟩ := hx x m
    exact ⟨t, e⟩
  refine SrtO.sorted_itsO (k := fun u => k (backV u)) hl.isList (by rw [← rv.length]; exact hz) (fun v hv => ?_) fun h' d out h1 h2 kp hd hn => ?_
  · obtain ⟨t, rfl⟩ := e2 v hv
    have hm : V.ref t ∈ xs := by rw [e1]; exact List.mem_map.mpr ⟨_, hv, rfl⟩
    obtain ⟨t', e, ht, hk⟩ := hx _ hm
    cases e
    obtain ⟨its2, r2, ⟨o, ho, hc, n, hd⟩, _⟩ := I.tuple ht
    exact ⟨t, o, its2, n, rfl, ho, hc, hd, intsAre_v r2, hk⟩
  · have h3 : ∀ u ∈ out, ∃ a, u = Value.ref a := fun u hu => e2 u (h2.perm.mem_iff.mp hu)
    obtain ⟨n, hn⟩ := hn
    have hb : SrtO.Stb (ltI k) (out.map backV) xs := by
      rw [e1]
      exact SrtO.Stb.map (SrtO.swo_lexK k) backV h2
    refine ⟨.ref d, upd H d (.lst (out.map backV)), I.laid (t' := s.toks) kp hd ⟨?_, out, n, vals_back h3, hn⟩, rfl, q _ d (SrtO.srtd_map h1) hb (I.hok.fresh hd)⟩
    rw [hb.len]
    exact hz
end
end L2
namespace L2
open PySem PySem.Spec PyProof.Rows
/-- tuples of these ints, none empty -/
def ITs (K : PySem.W.Frag) (H : Hp) : List (List Int) → List V → Prop
  | [], [] => True
  | w :: ws, x :: xs => (∃ t, x = V.ref t ∧ SqT K H t (w.map V.int) ∧ w ≠ []) ∧ ITs K H ws xs
  | _, _ => False
def IT1 (K : PySem.W.Frag) (H : Hp) (w : List Int) (x : V) : Prop := ∃ t, x = V.ref t ∧ SqT K H t (w.map V.int) ∧ w ≠ []
theorem ITs.of_map {K : PySem.W.Frag} {H : Hp} {k : V → List Int} : ∀ {ys : List V}, (∀ y ∈ ys, IT1 K H (k y) y) → ITs K H (ys.map k) ys
  | [], _ => trivial
  | y :: ys, h => ⟨h y List.mem_cons_self, ITs.of_map fun z hz => h z (List.mem_cons_of_mem _ hz)⟩
theorem vint_inj : ∀ {a b : List Int}, a.map V.int = b.map V.int → a = b
  | [], [], _ => rfl
  | [], _ :: _, h => by cases h
  | _ :: _, [], h => by cases h
  | x :: a, y :: b, h => by
    rw [List.map_cons, List.map_cons] at h
    obtain ⟨h1, h2⟩ := List.cons.inj h
    cases h1
    rw [vint_inj h2]
def rSortedIW (K : PySem.W.Frag) : List V → Hp → VK → Prop := fun vs H Q => ∃ (a : Addr) (xs : List V) (ws : List (List Int)), vs = [V.ref a] ∧ SqL K H a xs ∧ ITs K H ws xs ∧
  ∀ ys us p, us.Perm ws → us.Pairwise (fun x y => HT.lexLt y x = false) → ITs K H us ys → H p = none → Q (.ref p) (upd H p (.lst ys))
section
variable {X : Cx}
open Classical in
theorem cr_sortedIW : CallR X (.builtin "sorted") (rSortedIW X.K) := by
  intro pins s σ H vs us Q I r h
  obtain ⟨a, xs, ws, rfl, hs, hx, q⟩ := h
  obtain ⟨k, hk⟩ : ∃ k : V → List Int, ∀ w x, IT1 X.K H w x → k x = w := by
    refine ⟨fun x => if h : ∃ w, IT1 X.K H w x then Classical.choose h else [], fun w x hw => ?_⟩
    have h : ∃ w, IT1 X.K H w x := ⟨w, hw⟩
    show (if h : ∃ w, IT1 X.K H w x then Classical.choose h else []) = w
    rw [dif_pos h]
    obtain ⟨t, e, h1, _⟩ := Classical.choose_spec h
    obtain ⟨t', e', h2, _⟩ := hw
    rw [e] at e'
    cases e'
    exact vint_inj (I.tuple_inj h1 h2)
  have all : ∀ {ws : List (List Int)} {xs : List V}, ITs X.K H ws xs → xs.map k = ws ∧ ∀ x ∈ xs, IT1 X.K H (k x) x := fun {ws} => by
    induction ws with
    | nil =>
      intro xs h
      cases xs with
      | nil => exact ⟨rfl, fun _ h => by cases h⟩
      | cons x xs => exact h.elim
    | cons w ws ih =>
      intro xs h
      cases xs with
      | nil => exact h.elim
      | cons x xs =>
        obtain ⟨h1, h2⟩ := h
        obtain ⟨i1, i2⟩ := ih h2
        have e := hk w x h1
        refine ⟨by rw [List.map_cons, e, i1], fun y hy => ?_⟩
        rcases List.mem_cons.mp hy with rfl | hy
        · rw [e]; exact h1
        · exact i2 y hy
  obtain ⟨m1, m2⟩ := all hx
  refine cr_sortedIT pins s σ H _ us Q I r ⟨a, xs, k, rfl, hs, fun x hx => m2 x hx, fun ys p h1 h2 hp => q ys (ys.map k) p ?_ ?_ ?_ hp⟩
  · rw [← m1]; exact h2.perm.map k
  · exact List.pairwise_map.mpr h1
  · exact ITs.of_map fun y hy => m2 y (h2.perm.mem_iff.mp hy)
end
end L2

set_option Elab.async false
set_option linter.all false
set_option maxRecDepth 100000
set_option maxHeartbeats 4000000
/-! GS3: <, sorted of nested tuples of ints. -/
namespace SrtO
open PySem PySem.SeqAt PyProof.Rows Srt
mutual
/-- < of nested ints -/
def klt : NestedKey → NestedKey → Bool
  | .num i, .num j => decide (i < j)
  | .tup xs, .tup ys => kltA xs ys
  | _, _ => false
def kltA : List NestedKey → List NestedKey → Bool
  | [], [] => false
  | [], _ :: _ => true
  | _ :: _, [] => false
  | x :: xs, y :: ys => if x.beq y = true then kltA xs ys else klt x y
end
mutual
/-- comparable, item by item -/
def kcm : NestedKey → NestedKey → Bool
  | .num _, .num _ => true
  | .tup xs, .tup ys => kcmA xs ys
  | _, _ => false
def kcmA : List NestedKey → List NestedKey → Bool
  | x :: xs, y :: ys => kcm x y && kcmA xs ys
  | _, _ => true
end
mutual
/-- the value v is this nest of ints -/
inductive NI (h : Heap) : NestedKey → Value → Prop
  | int (i t) : NI h (.num i) (.int i t)
  | tup {a o vs n ks} : h.get? a = some o → o.cls = .type "tuple" → o.data = .seq vs n → NIs h ks vs.toList → NI h (.tup ks) (.ref a)
inductive NIs (h : Heap) : List NestedKey → List Value → Prop
  | nil : NIs h [] []
  | cons {k v ks vs} : NI h k v → NIs h ks vs → NIs h (k :: ks) (v :: vs)
end
mutual
theorem NI.nested {h : Heap} : ∀ (k : NestedKey) (v : Value), NI h k v → NestedIs h k v
  | .none, _, x => by cases x
  | .num i, _, x => by cases x; exact .int _ _
  | .text _, _, x => by cases x
  | .tup ks, _, x => by
    cases x with
    | tup h1 h2 h3 h4 => exact .tup h1 h2 h3 (NIs.nested ks _ h4)
theorem NIs.nested {h : Heap} : ∀ (ks : List NestedKey) (vs : List Value), NIs h ks vs → NestedAll h ks vs
  | [], _, x => by cases x; exact .nil
  | k :: ks, _, x => by
    cases x with
    | cons h1 h2 => exact .cons (NI.nested k _ h1) (NIs.nested ks _ h2)
end
mutual
theorem NI.keeps {h h' : Heap} (e : ∀ b o, h.get? b = some o → o.cls = .type "tuple" → h'.get? b = some o) : ∀ (k : NestedKey) (v : Value), NI h k v → NI h' k v
  | .none, _, x => by cases x
  | .num i, _, x => by cases x; exact .int _ _
  | .text _, _, x => by cases x
  | .tup ks, _, x => by
    cases x with
    | tup h1 h2 h3 h4 => exact .tup (e _ _ h1 h2) h2 h3 (NIs.keeps e ks _ h4)
theorem NIs.keeps {h h' : Heap} (e : ∀ b o, h.get? b = some o → o.cls = .type "tuple" → h'.get? b = some o) : ∀ (ks : List NestedKey) (vs : List Value), NIs h ks vs → NIs h' ks vs
  | [], _, x => by cases x; exact .nil
  | k :: ks, _, x => by
    cases x with
    | cons h1 h2 => exact .cons (NI.keeps e k _ h1) (NIs.keeps e ks _ h2)
end
theorem NIs.len {h : Heap} {ks : List NestedKey} {vs : List Value} (x : NIs h ks vs) : vs.length = ks.length := NestedAll.length ks vs (NIs.nested ks vs x)
theorem lex_shift (e r : Nat → Bool) (z : Bool) : ∀ (k i : Nat), Ob.lexAt e r z (i + 1) k = Ob.lexAt (fun j => e (j + 1)) (fun j => r (j + 1)) z i k
  | 0, _ => rfl
  | k + 1, i => by
    rw [Ob.lexAt_succ, Ob.lexAt_succ, lex_shift e r z k (i + 1)]
theorem lex_klt : ∀ (xs ys : List NestedKey), Ob.lexAt (keyEqAt xs ys) (fun j => klt (xs.getD j .none) (ys.getD j .none)) (decide (xs.length < ys.length)) 0 (min xs.length ys.length) = kltA xs ys
  | [], [] => rfl
  | [], y :: ys => rfl
  | x :: xs, [] => rfl
  | x :: xs, y :: ys => by
    have e1 : min (x :: xs).length (y :: ys).length = min xs.length ys.length + 1 := by simp only [List.length_cons]; omega
    have e2 : (decide ((x :: xs).length < (y :: ys).length)) = decide (xs.length < ys.length) := decide_eq_decide.mpr (by simp only [List.length_cons]; omega)
    rw [e1, e2, Ob.lexAt_succ, lex_shift]
    show (if x.beq y = true then Ob.lexAt (keyEqAt xs ys) (fun j => klt (xs.getD j .none) (ys.getD j .none)) (decide (xs.length < ys.length)) 0 (min xs.length ys.length) else klt x y) = kltA (x :: xs) (y :: ys)
    rw [lex_klt xs ys]
    rw [kltA]
mutual
theorem lt_key : ∀ (x y : NestedKey) (A : Around) (s : Shared) (a b : Value), NI s.heap x a → NI s.heap y b → kcm x y = true → A.units + min x.depth y.depth < cLine → Ob.RcOp .Lt A s a b (klt x y)
  | .num i, .num j, A, s, _, _, ra, rb, _, _ => by
    cases ra
    cases rb
    rw [klt]
    exact Ob.RcOp.lt_int _ _ _ _
  | .tup xs, .tup ys, A, s, _, _, ra, rb, hc, hu => by
    cases ra with
    | @tup l o vs n _ h1 h2 h3 h4 =>
      cases rb with
      | @tup l' o' vs' n' _ k1 k2 k3 k4 =>
        have hl : s.heap.IsTuple l vs := ⟨_, h1, h2, _, h3⟩
        have hl' : s.heap.IsTuple l' vs' := ⟨_, k1, k2, _, k3⟩
        have n1 : vs.size = xs.length := by simpa using h4.len
        have n2 : vs'.size = ys.length := by simpa using k4.len
        rw [klt, ← lex_klt xs ys, ← n1, ← n2]
        rw [kcm] at hc
        refine Ob.RcOp.tuples_lt hl hl' (room_here hu) (fun j j1 j2 => ?_) (fun j j1 j2 _ => ?_)
        · have := eqAt_keys xs ys A.in1 s vs.toList vs'.toList (NIs.nested _ _ h4) (NIs.nested _ _ k4) (room_in hu) j (by simpa using j1) (by simpa using j2)
          simpa using this
        · have := lt_keys xs ys A.in1 s vs.toList vs'.toList h4 k4 hc (room_in hu) j (by simpa using j1) (by simpa using j2)
          simpa using this
  | .none, _, _, _, _, _, ra, _, _, _ => by cases ra
  | .text _, _, _, _, _, _, ra, _, _, _ => by cases ra
  | .num _, .none, _, _, _, _, _, rb, _, _ => by cases rb
  | .num _, .text _, _, _, _, _, _, rb, _, _ => by cases rb
  | .num _, .tup _, _, _, _, _, _, _, hc, _ => by rw [kcm] at hc <;> first | cases hc | (intros; simp_all)
  | .tup _, .none, _, _, _, _, _, rb, _, _ => by cases rb
  | .tup _, .text _, _, _, _, _, _, rb, _, _ => by cases rb
  | .tup _, .num _, _, _, _, _, _, _, hc, _ => by rw [kcm] at hc <;> first | cases hc | (intros; simp_all)
theorem lt_keys : ∀ (xs ys : List NestedKey) (A : Around) (s : Shared) (vs ws : List Value), NIs s.heap xs vs → NIs s.heap ys ws → kcmA xs ys = true →
    A.units + min (NestedKey.depthAll xs) (NestedKey.depthAll ys) < cLine → ∀ j (h1 : j < vs.length) (h2 : j < ws.length), Ob.RcOp .Lt A s vs[j] ws[j] (klt (xs.getD j .none) (ys.getD j .none))
  | [], _, _, _, _, _, ra, _, _, _, j, h1, _ => by cases ra; exact absurd h1 (Nat.not_lt_zero _)
  | _ :: _, [], _, _, _, _, _, rb, _, _, j, _, h2 => by cases rb; exact absurd h2 (Nat.not_lt_zero _)
  | x :: xs, y :: ys, A, s, _, _, ra, rb, hc, hu, j, h1, h2 => by
    rw [kcmA] at hc
    obtain ⟨c1, c2⟩ := Bool.and_eq_true_iff.mp hc
    cases ra with
    | cons r rs =>
      cases rb with
      | cons r' rs' =>
        cases j with
        | zero => exact lt_key x y A s _ _ r r' c1 (room_head hu)
        | succ j => exact lt_keys xs ys A s _ _ rs rs' c2 (room_tail hu) j (Nat.lt_of_succ_lt_succ h1) (Nat.lt_of_succ_lt_succ h2)
end
end SrtO

set_option Elab.async false
set_option linter.all false
set_option maxRecDepth 100000
set_option maxHeartbeats 4000000
namespace SrtO
open PySem PySem.SeqAt PyProof.Rows Srt
mutual
/-- nests of ints in a row, whose order is theirs -/
def enc : NestedKey → List Int
  | .num i => [0, i]
  | .tup ks => 1 :: encs ks
  | _ => []
def encs : List NestedKey → List Int
  | [] => [0]
  | k :: ks => 1 :: (enc k ++ encs ks)
end
mutual
theorem enc_lt : ∀ (x y : NestedKey) (a b : List Int), kcm x y = true → HT.lexLt (enc x ++ a) (enc y ++ b) = if x.beq y = true then HT.lexLt a b else klt x y
  | .num i, .num j, a, b, _ => by
    show HT.lexLt (0 :: i :: a) (0 :: j :: b) = _
    rw [HT.lexLt_cons, if_pos rfl, HT.lexLt_cons, klt, NestedKey.beq]
    by_cases h : i = j
    · rw [if_pos h, if_pos (decide_eq_true h)]
    · rw [if_neg h, if_neg (by simpa using h)]
  | .tup xs, .tup ys, a, b, hc => by
    rw [kcm] at hc
    rw [enc, enc, klt, NestedKey.beq, List.cons_append, List.cons_append, HT.lexLt_cons, if_pos rfl]
    exact encs_lt xs ys a b hc
  | .none, y, _, _, hc => by rw [kcm] at hc <;> first | cases hc | (intros; simp_all)
  | .text _, y, _, _, hc => by rw [kcm] at hc <;> first | cases hc | (intros; simp_all)
  | .num _, .none, _, _, hc => by rw [kcm] at hc <;> first | cases hc | (intros; simp_all)
  | .num _, .text _, _, _, hc => by rw [kcm] at hc <;> first | cases hc | (intros; simp_all)
  | .num _, .tup _, _, _, hc => by rw [kcm] at hc <;> first | cases hc | (intros; simp_all)
  | .tup _, .none, _, _, hc => by rw [kcm] at hc <;> first | cases hc | (intros; simp_all)
  | .tup _, .text _, _, _, hc => by rw [kcm] at hc <;> first | cases hc | (intros; simp_all)
  | .tup _, .num _, _, _, hc => by rw [kcm] at hc <;> first | cases hc | (intros; simp_all)
theorem encs_lt : ∀ (xs ys : List NestedKey) (a b : List Int), kcmA xs ys = true → HT.lexLt (encs xs ++ a) (encs ys ++ b) = if NestedKey.beqAll xs ys = true then HT.lexLt a b else kltA xs ys
  | [], [], a, b, _ => by
    rw [encs, NestedKey.beqAll, if_pos rfl]
    show HT.lexLt (0 :: a) (0 :: b) = _
    rw [HT.lexLt_cons, if_pos rfl]
  | [], y :: ys, a, b, _ => by
    rw [encs, encs, NestedKey.beqAll, if_neg (by decide), kltA]
    show HT.lexLt (0 :: a) (1 :: _) = _
    rw [HT.lexLt_cons, if_neg (by decide)]
    rfl
  | x :: xs, [], a, b, _ => by
    rw [encs, encs, NestedKey.beqAll, if_neg (by decide), kltA]
    show HT.lexLt (1 :: _) (0 :: b) = _
    rw [HT.lexLt_cons, if_neg (by decide)]
    rfl
  | x :: xs, y :: ys, a, b, hc => by
    rw [kcmA] at hc
    obtain ⟨c1, c2⟩ := Bool.and_eq_true_iff.mp hc
    rw [encs, encs, NestedKey.beqAll, kltA, List.cons_append, List.cons_append, HT.lexLt_cons, if_pos rfl, List.append_assoc, List.append_assoc, enc_lt x y _ _ c1, encs_lt xs ys a b c2]
    cases h : x.beq y with
    | true => rw [if_pos rfl, Bool.true_and, if_pos rfl]
    | false => rw [if_neg (by decide), Bool.false_and, if_neg (by decide), if_neg (by decide)]
end
mutual
/-- nests of ints -/
def isN : NestedKey → Bool
  | .num _ => true
  | .tup ks => isNs ks
  | _ => false
def isNs : List NestedKey → Bool
  | [] => true
  | k :: ks => isN k && isNs ks
end
mutual
theorem enc_inj : ∀ (x y : NestedKey) (a b : List Int), isN x = true → isN y = true → enc x ++ a = enc y ++ b → x = y ∧ a = b
  | .num i, .num j, a, b, _, _, h => by
    rw [enc, enc] at h
    have h := (List.cons.inj h).2
    have h1 := (List.cons.inj h).1
    subst h1
    exact ⟨rfl, (List.cons.inj h).2⟩
  | .tup xs, .tup ys, a, b, hx, hy, h => by
    rw [isN] at hx hy
    rw [enc, enc] at h
    obtain ⟨e1, e2⟩ := encs_inj xs ys a b hx hy (List.cons.inj h).2
    exact ⟨by rw [e1], e2⟩
  | .num i, .tup ys, a, b, _, _, h => by
    rw [enc, enc] at h
    exact absurd (List.cons.inj h).1 (by decide)
  | .tup xs, .num j, a, b, _, _, h => by
    rw [enc, enc] at h
    exact absurd (List.cons.inj h).1 (by decide)
  | .none, _, _, _, hx, _, _ => by rw [isN] at hx <;> first | cases hx | (intros; simp_all)
  | .text _, _, _, _, hx, _, _ => by rw [isN] at hx <;> first | cases hx | (intros; simp_all)
  | .num _, .none, _, _, _, hx, _ => by rw [isN] at hx <;> first | cases hx | (intros; simp_all)
  | .num _, .text _, _, _, _, hx, _ => by rw [isN] at hx <;> first | cases hx | (intros; simp_all)
  | .tup _, .none, _, _, _, hx, _ => by rw [isN] at hx <;> first | cases hx | (intros; simp_all)
  | .tup _, .text _, _, _, _, hx, _ => by rw [isN] at hx <;> first | cases hx | (intros; simp_all)
theorem encs_inj : ∀ (xs ys : List NestedKey) (a b : List Int), isNs xs = true → isNs ys = true → encs xs ++ a = encs ys ++ b → xs = ys ∧ a = b
  | [], [], a, b, _, _, h => by
    rw [encs] at h
    exact ⟨rfl, (List.cons.inj h).2⟩
  | [], y :: ys, a, b, _, _, h => by
    rw [encs, encs] at h
    exact absurd (List.cons.inj h).1 (by decide)
  | x :: xs, [], a, b, _, _, h => by
    rw [encs, encs] at h
    exact absurd (List.cons.inj h).1 (by decide)
  | x :: xs, y :: ys, a, b, hx, hy, h => by
    rw [isNs] at hx hy
    obtain ⟨x1, x2⟩ := Bool.and_eq_true_iff.mp hx
    obtain ⟨y1, y2⟩ := Bool.and_eq_true_iff.mp hy
    rw [encs, encs] at h
    have h : (enc x ++ encs xs) ++ a = (enc y ++ encs ys) ++ b := (List.cons.inj h).2
    rw [List.append_assoc, List.append_assoc] at h
    obtain ⟨e1, e2⟩ := enc_inj x y _ _ x1 y1 h
    obtain ⟨e3, e4⟩ := encs_inj xs ys a b x2 y2 e2
    exact ⟨by rw [e1, e3], e4⟩
end
/-- the order of the sort -/
def nlt (x y : NestedKey) : Bool := HT.lexLt (enc x) (enc y)
theorem nlt_eq {x y : NestedKey} (h : kcm x y = true) : nlt x y = klt x y := by
  have := enc_lt x y [] [] h
  rw [List.append_nil, List.append_nil] at this
  unfold nlt
  rw [this]
  cases hb : x.beq y with
  | false => rw [if_neg (by decide)]
  | true =>
    rw [if_pos rfl]
    have e := NestedKey.eq_of_beq x y hb
    subst e
    have := enc_lt x x [1] [0] h
    have s := enc_lt x x [0] [1] h
    have z : nlt x x = false := swo_lexI.refl (enc x)
    have k := enc_lt x x [] [] h
    rw [HT.lexLt_nil_nil]
    -- x is not below itself
    have self : ∀ a : NestedKey, kcm a a = true → klt a a = false := fun a ha => by
      cases a with
      | num i => rw [klt]; exact decide_eq_false (Int.lt_irrefl i)
      | tup ks =>
        rw [klt]
        have go : ∀ ks : List NestedKey, kltA ks ks = false := fun ks => by
          induction ks with
          | nil => rw [kltA]
          | cons a ks ih => rw [kltA, if_pos (NestedKey.beq_self a), ih]
        exact go ks
      | none => rw [klt] <;> intros <;> simp_all
      | text t => rw [klt] <;> intros <;> simp_all
    exact (self x h).symm
theorem nlt_anti {x y : NestedKey} (hx : isN x = true) (hy : isN y = true) (h1 : nlt y x = false) (h2 : nlt x y = false) : x = y := by
  have k1 := lexLt_no.mp h1
  have k2 := lexLt_no.mp h2
  have e := List.le_antisymm (List.not_lt.mp k1) (List.not_lt.mp k2)
  have := enc_inj x y [] [] hx hy (by rw [e])
  exact this.1
theorem swo_nlt : Swo nlt := ⟨fun x y => swo_lexI.asym _ _, fun x y z => swo_lexI.tr _ _ _⟩
section
variable {prog : Program} {w : World} {A : Around} {E : Value → Shared → Prop} {s : Shared}
theorem kat_nest {b fin : Bool} {Q : Bool → Shared → Prop} : ∀ {ns ms : List NestedKey} {xs ys : List Value} (i : Nat), NIs s.heap ns xs → NIs s.heap ms ys → kcmA ns ms = true → A.units + min (NestedKey.depthAll ns) (NestedKey.depthAll ms) < cLine →
    (b = true → i = 0 → ∀ x ∈ xs.head?, ∃ k t, x = Value.int k t) → fin = decide (ns.length < ms.length) → Q (kltA ns ms) s → PySem.W.KatLex prog w A b fin Q (xs.zip ys) i s
  | [], [], _, _, i, hx, hy, _, _, _, hf, h => by
    cases hx
    rw [List.zip_nil_left]
    refine PySem.W.kat_nil ?_
    rw [kltA] at h
    rw [hf]
    exact h
  | [], m :: ms, _, _, i, hx, hy, _, _, _, hf, h => by
    cases hx
    rw [List.zip_nil_left]
    refine PySem.W.kat_nil ?_
    rw [kltA] at h
    rw [hf, decide_eq_true (by simp)]
    exact h
  | n :: ns, [], _, _, i, hx, hy, _, _, _, hf, h => by
    cases hy
    rw [List.zip_nil_right]
    refine PySem.W.kat_nil ?_
    rw [kltA] at h
    rw [hf, decide_eq_false (by simp)]
    exact h
  | n :: ns, m :: ms, _, _, i, hx, hy, hc, hu, h0, hf, h => by
    rw [kcmA] at hc
    obtain ⟨c1, c2⟩ := Bool.and_eq_true_iff.mp hc
    cases hx with
    | @cons _ x _ xs rx hx =>
      cases hy with
      | @cons _ y _ ys ry hy =>
        rw [List.zip_cons_cons]
        rw [kltA] at h
        refine PySem.W.kat_cons (eqAt_key n m A s x y (NI.nested _ _ rx) (NI.nested _ _ ry) (room_head hu) prog w _ _ ?_)
        cases hb : n.beq m with
        | true =>
          rw [hb, if_pos rfl] at h
          exact PySem.W.kat_yes (kat_nest (i + 1) hx hy c2 (room_tail hu) (fun _ z => absurd z (by omega)) (by rw [hf, List.length_cons, List.length_cons]; exact decide_eq_decide.mpr (by omega)) h)
        | false =>
          rw [hb, if_neg (by decide)] at h
          refine PySem.W.kat_no ?_
          cases hbi : (b && i == 0) with
          | true =>
            obtain ⟨b1, i1⟩ := Bool.and_eq_true_iff.mp hbi
            obtain ⟨k, t, rfl⟩ := h0 b1 (by simpa using i1) x rfl
            cases rx
            cases m with
            | num j =>
              cases ry
              rw [klt] at h
              exact oneLt_int h
            | none => cases ry
            | text _ => cases ry
            | tup _ => rw [kcm] at c1 <;> first | cases c1 | (intros; simp_all)
          | false => exact PySem.W.kat_one _ _ (lt_key n m A s x y rx ry c1 (room_head hu) prog w _ _ h)
end
end SrtO

set_option Elab.async false
set_option linter.all false
set_option maxRecDepth 100000
set_option maxHeartbeats 4000000
namespace SrtO
open PySem PySem.SeqAt PyProof.Rows Srt
section
variable {prog : Program} {w : World} {A : Around} {E : Value → Shared → Prop} {s : Shared}
/-- nests that can be sorted: tuples, none empty, comparable with each other; fi: their first items are ints -/
structure Sb (vs : List Value) (k : Value → NestedKey) (fi : Bool) : Prop where
  tup : ∀ v ∈ vs, ∃ k0 ks, k v = .tup (k0 :: ks) ∧ (fi = true → ∃ i, k0 = .num i) ∧ (fi = false → ∃ es, k0 = .tup es)
  cmp : ∀ v ∈ vs, ∀ u ∈ vs, kcm (k v) (k u) = true
  dep : ∀ v ∈ vs, (k v).depth ≤ 50
theorem firstsN_of {h : Heap} {k : Value → NestedKey} : ∀ {vs : List Value}, (∀ v ∈ vs, NI h (k v) v) → (∀ v ∈ vs, ∃ k0 ks, k v = .tup (k0 :: ks)) → ∃ fs : List Value, PySem.W.KatTups h vs fs ∧ fs.length = vs.length ∧ ∀ f ∈ fs, ∃ v ∈ vs, ∃ k0 ks, k v = .tup (k0 :: ks) ∧ NI h k0 f
  | [], _, _ => ⟨[], PySem.W.KatTups.nil, rfl, fun _ hm => by simp at hm⟩
  | v :: vs, hp, ht => by
    obtain ⟨fs, h1, h2, h3⟩ := firstsN_of (vs := vs) (fun v' hm => hp v' (List.mem_cons_of_mem _ hm)) (fun v' hm => ht v' (List.mem_cons_of_mem _ hm))
    have hv := hp v (List.mem_cons_self ..)
    obtain ⟨k0, ks, e⟩ := ht v (List.mem_cons_self ..)
    have e' := e
    rw [e] at hv
    cases hv with
    | @tup a o us n _ ho hc hd hi =>
      generalize hus : us.toList = ul at hi
      cases hi with
      | @cons _ f _ ul r hi =>
        have hf : us[0]? = some f := by
          rw [← Array.getElem?_toList, hus]
          rfl
        refine ⟨f :: fs, PySem.W.KatTups.cons ho hc hd hf h1, by rw [List.length_cons, List.length_cons, h2], fun g hg => ?_⟩
        rcases List.mem_cons.mp hg with rfl | hg
        · exact ⟨_, List.mem_cons_self .., k0, ks, e', r⟩
        · obtain ⟨u, hu, q⟩ := h3 g hg
          exact ⟨u, List.mem_cons_of_mem _ hu, q⟩
theorem nest_cmp {vs : List Value} {k : Value → NestedKey} {fi : Bool} (hp : ∀ v ∈ vs, NI s.heap (k v) v) (sb : Sb vs k fi) (hu : A.units + 60 < cLine) : Cmp prog w A s (tuples' fi) (fun p => p.1 ∈ vs) (lt2 fun v u => nlt (k v) (k u)) := by
  intro p q hm hm'
  have c := sb.cmp _ hm _ hm'
  have d := sb.dep _ hm
  have n1 := hp _ hm
  have n2 := hp _ hm'
  obtain ⟨k0, ks, e1, f1, _⟩ := sb.tup _ hm
  obtain ⟨j0, js, e2, _, _⟩ := sb.tup _ hm'
  show wpAny (model prog w) A (keyLt' (tuples' fi) p.1 q.1) (fun r s' => s' = s ∧ r = nlt (k p.1) (k q.1)) (fun _ _ => False) s
  rw [nlt_eq c]
  rw [e1] at n1 c d ⊢
  rw [e2] at n2 c ⊢
  generalize p.1 = v at n1
  generalize q.1 = u at n2
  cases n1 with
  | @tup a o us n _ ho hc hd hi =>
    cases n2 with
    | @tup a' o' us' n' _ ho' hc' hd' hi' =>
      rw [kcm] at c
      rw [NestedKey.depth] at d
      have l1 := hi.len
      have l2 := hi'.len
      refine PySem.W.kat_lt ho hd ho' hd' (kat_nest 0 hi hi' c (by have := Nat.min_le_left (NestedKey.depthAll (k0 :: ks)) (NestedKey.depthAll (j0 :: js)); omega) (fun hb _ x hx => ?_) ?_ ?_)
      · obtain ⟨i, rfl⟩ := f1 hb
        generalize us.toList = ul at hi hx
        cases hi with
        | @cons _ f _ ul r hi =>
          have : f = x := by simpa using hx
          subst this
          cases r
          exact ⟨_, _, rfl⟩
      · rw [← l1, ← l2, Array.length_toList, Array.length_toList]
      · rw [klt]
        exact ⟨rfl, rfl⟩
theorem nest_sortableO {a : Addr} {vs : List Value} {k : Value → NestedKey} {fi : Bool} (h0 : 0 < vs.length) (hp : ∀ v ∈ vs, NI s.heap (k v) v) (sb : Sb vs k fi) (hu : A.units + 60 < cLine) (ha : ∀ o, s.heap.get? a = some o → o.cls ≠ .type "tuple") : SortableO prog w A s a vs fun v u => nlt (k v) (k u) := by
  intro h' keep
  have hp' : ∀ v ∈ vs, NI h' (k v) v := fun v hm => NI.keeps (fun b o e c => keep b o (fun z => by subst z; exact ha o e c) e) _ _ (hp v hm)
  obtain ⟨fs, h1, h2, h3⟩ := firstsN_of hp' fun v hv => by
    obtain ⟨k0, ks, e, _, _⟩ := sb.tup v hv
    exact ⟨k0, ks, e⟩
  refine ⟨tuples' fi, fun Q E hq => ?_, nest_cmp hp' sb hu⟩
  cases fi with
  | true =>
    refine PySem.W.kat_kind (T := .type "int") h1 (by omega) (fun f hm => ?_) (by rfl) ?_
    · obtain ⟨v, hv, k0, ks, e, r⟩ := h3 f hm
      obtain ⟨k1, ks1, e1, q, _⟩ := sb.tup v hv
      rw [e] at e1
      cases e1
      obtain ⟨i, rfl⟩ := q rfl
      cases r
      exact PySem.W.Looks.now
    · have e : (Value.type "int" != Value.type "tuple") = true := by first | decide +kernel | rfl | decide
      rw [e]
      exact hq
  | false =>
    refine PySem.W.kat_kind (T := .type "tuple") h1 (by omega) (fun f hm => ?_) (by rfl) ?_
    · obtain ⟨v, hv, k0, ks, e, r⟩ := h3 f hm
      obtain ⟨k1, ks1, e1, _, q⟩ := sb.tup v hv
      rw [e] at e1
      cases e1
      obtain ⟨es, rfl⟩ := q rfl
      cases r with
      | tup ho hc hd hi =>
        rename_i q' o us n
        have z : PySem.W.Looks (model prog w) h' (typeOf (.ref q')) o.cls := (PySem.W.Looks.ld ho).andThen .now
        rw [hc] at z
        exact z
    · have e : (Value.type "tuple" != Value.type "tuple") = false := by first | decide +kernel | rfl | decide
      rw [e]
      exact hq
theorem sorted_nestO {l : Addr} {vs : List Value} {k : Value → NestedKey} {fi : Bool} {Q : Value → Shared → Prop} (hl : s.heap.IsList l vs.toArray) (hz : vs.length ≤ sizeLine) (hp : ∀ v ∈ vs, NI s.heap (k v) v) (sb : Sb vs k fi) (hu : A.units + 62 < cLine)
    (h : ∀ (h' : Heap) (d : Addr) (out : List Value), Srtd (fun v u => nlt (k v) (k u)) out → Stb (fun v u => nlt (k v) (k u)) out vs → (∀ b o, s.heap.get? b = some o → h'.get? b = some o) → s.heap.objs.size ≤ d → (∃ n, h'.get? d = some (seqObj "list" out.toArray n)) → Q (.ref d) { s with heap := h' }) :
    wpAny (model prog w) A (call (.builtin "sorted") [.ref l]) Q E s := by
  refine sorted_ord (ltv := fun v u => nlt (k v) (k u)) ⟨fun x y => swo_nlt.asym _ _, fun x y z => swo_nlt.tr _ _ _⟩ hl hz (fun h2 h₁ a ha kk => ?_) fun out hs hb => ?_
  · refine nest_sortableO (s := { s with heap := h₁ }) (by omega) (fun v hm => NI.keeps (fun b o e _ => (kk b o e).2) _ _ (hp v hm)) sb (by show A.units + 1 + 1 + 60 < cLine; omega) fun o e => ?_
    have e' : some o = some (seqObj "list" vs.toArray 0) := e.symm.trans ha
    cases e'
    intro c
    exact absurd (Value.type.inj c) (by decide)
  · exact h _ _ out hs hb (fun b o e => sortedAll_old e) (Nat.le_succ _) (sortedAll_at s.heap vs out.toArray)
end
end SrtO

set_option Elab.async false
set_option linter.all false
set_option maxRecDepth 100000
set_option maxHeartbeats 4000000
namespace L2
open PySem PySem.SeqAt PySem.Spec PyProof.Rows SrtO
mutual
/-- x stands for this nest of ints -/
def NV (K : PySem.W.Frag) (H : Hp) : NestedKey → V → Prop
  | .num i, x => x = .int i
  | .tup ks, x => ∃ t xs, x = V.ref t ∧ SqT K H t xs ∧ NVs K H ks xs
  | .none, _ => False
  | .text _, _ => False
def NVs (K : PySem.W.Frag) (H : Hp) : List NestedKey → List V → Prop
  | [], xs => xs = []
  | k :: ks, xs => ∃ x ys, xs = x :: ys ∧ NV K H k x ∧ NVs K H ks ys
end
section
variable {X : Cx}
mutual
theorem NV.ni {pins : List (Addr × Obj)} {s : Shared} {σ : St} {H : Hp} (I : Inv X pins σ H s) : ∀ (k : NestedKey) (x : V) (v : Value), NV X.K H k x → RelV x v → NI s.heap k v
  | .num i, _, _, h, r => by
    rw [NV] at h
    subst h
    obtain ⟨t, rfl⟩ := r
    exact .int _ _
  | .tup ks, _, _, h, r => by
    rw [NV] at h
    obtain ⟨t, xs, rfl, hq, hk⟩ := h
    obtain rfl : _ = Value.ref t := r
    obtain ⟨its, rv, ⟨o, ho, hc, n, hd⟩, _⟩ := I.tuple hq
    exact .tup ho hc hd (by simpa using NVs.nis I ks xs its hk rv)
  | .none, _, _, h, _ => by rw [NV] at h; exact h.elim
  | .text _, _, _, h, _ => by rw [NV] at h; exact h.elim
theorem NVs.nis {pins : List (Addr × Obj)} {s : Shared} {σ : St} {H : Hp} (I : Inv X pins σ H s) : ∀ (ks : List NestedKey) (xs : List V) (us : List Value), NVs X.K H ks xs → Vals xs us → NIs s.heap ks us
  | [], _, _, h, r => by
    rw [NVs] at h
    subst h
    cases r
    exact .nil
  | k :: ks, _, _, h, r => by
    rw [NVs] at h
    obtain ⟨x, ys, rfl, h1, h2⟩ := h
    cases r with
    | cons r1 r2 => exact .cons (NV.ni I k x _ h1 r1) (NVs.nis I ks ys _ h2 r2)
end
def rLtN (K : PySem.W.Frag) : R2 := fun x y H Q => ∃ a b, NV K H a x ∧ NV K H b y ∧ kcm a b = true ∧ a.depth ≤ 50 ∧ Q (.bl (klt a b)) H
theorem op_ltN (hu : X.A.units + 60 < cLine) : OpR X (compareOp .Lt) (rLtN X.K) := by
  intro pins s σ H x y v u Q I rx ry h
  obtain ⟨a, b, ha, hb, hc, hd, q⟩ := h
  refine lt_key a b X.A s v u (NV.ni I a x v ha rx) (NV.ni I b y u hb ry) hc (by have := Nat.min_le_left a.depth b.depth; omega) X.prog X.w _ _ ?_
  exact ⟨.bl _, H, I, rfl, q⟩
/-- sorted(xs), xs a list of nests of ints -/
def NVL (K : PySem.W.Frag) (H : Hp) : List NestedKey → List V → Prop := NVs K H
theorem NVs.of_map {K : PySem.W.Frag} {H : Hp} {k : V → NestedKey} : ∀ {ys : List V}, (∀ y ∈ ys, NV K H (k y) y) → NVs K H (ys.map k) ys
  | [], _ => by rw [List.map_nil, NVs]
  | y :: ys, h => by
    rw [List.map_cons, NVs]
    exact ⟨y, ys, rfl, h y List.mem_cons_self, NVs.of_map fun z hz => h z (List.mem_cons_of_mem _ hz)⟩
def rSortedN (K : PySem.W.Frag) : List V → Hp → VK → Prop := fun vs H Q => ∃ (a : Addr) (xs : List V) (ks : List NestedKey) (fi : Bool), vs = [V.ref a] ∧ SqL K H a xs ∧ NVs K H ks xs ∧
  (∀ k ∈ ks, ∃ k0 es, k = .tup (k0 :: es) ∧ (fi = true → ∃ i, k0 = .num i) ∧ (fi = false → ∃ gs, k0 = .tup gs)) ∧ (∀ k ∈ ks, ∀ j ∈ ks, kcm k j = true) ∧ (∀ k ∈ ks, k.depth ≤ 50) ∧
  ∀ ys us p, us.Perm ks → us.Pairwise (fun x y => nlt y x = false) → NVs K H us ys → H p = none → Q (.ref p) (upd H p (.lst ys))
open Classical in
theorem cr_sortedN (hu : X.A.units + 64 < cLine) : CallR X (.builtin "sorted") (rSortedN X.K) := by
  intro pins s σ H vs us Q I r h
  obtain ⟨a, xs, ks, fi, rfl, hs, hx, ht, hc, hd, q⟩ := h
  obtain ⟨its, rv, hl, hz⟩ := I.list hs
  obtain ⟨u, rfl, ru⟩ := vals1 r
  obtain rfl : u = Value.ref a := ru
  have mem : ∀ {ks : List NestedKey} {xs : List V}, NVs X.K H ks xs → ∀ x ∈ xs, ∃ k ∈ ks, NV X.K H k x := fun {ks} => by
    induction ks with
    | nil =>
      intro xs h x hx
      rw [NVs] at h
      subst h
      cases hx
    | cons k ks ih =>
      intro xs h x hx
      rw [NVs] at h
      obtain ⟨y, ys, rfl, h1, h2⟩ := h
      rcases List.mem_cons.mp hx with rfl | hx
      · exact ⟨k, List.mem_cons_self, h1⟩
      · obtain ⟨j, hj, hn⟩ := ih h2 x hx
        exact ⟨j, List.mem_cons_of_mem _ hj, hn⟩
  have isref : ∀ x ∈ xs, ∃ t, x = V.ref t := fun x m => by
    obtain ⟨k, hk, hn⟩ := mem hx x m
    obtain ⟨k0, es, rfl, _⟩ := ht k hk
    rw [NV] at hn
    obtain ⟨t, _, e, _⟩ := hn
    exact ⟨t, e⟩
  obtain ⟨e1, e2⟩ := refs_back rv isref
  -- what a reference to a nest stands for
  have uniq : ∀ k j x, NV X.K H k x → NV X.K H j x → (∃ t, x = V.ref t) → k = j := fun k j x h1 h2 ⟨t, e⟩ => by
    subst e
    exact NestedIs.inj k j (.ref t) (NI.nested _ _ (NV.ni I k (.ref t) (.ref t) h1 (show RelV (.ref t) (.ref t) from rfl))) (NI.nested _ _ (NV.ni I j (.ref t) (.ref t) h2 (show RelV (.ref t) (.ref t) from rfl)))
  obtain ⟨k, hk⟩ : ∃ k : V → NestedKey, ∀ j x, NV X.K H j x → (∃ t, x = V.ref t) → k x = j := by
    refine ⟨fun x => if h : ∃ w, NV X.K H w x then Classical.choose h else .none, fun w x hw hr => ?_⟩
    have h : ∃ w, NV X.K H w x := ⟨w, hw⟩
    show (if h : ∃ w, NV X.K H w x then Classical.choose h else NestedKey.none) = w
    rw [dif_pos h]
    exact uniq _ _ _ (Classical.choose_spec h) hw hr
  have all : ∀ {ks : List NestedKey} {xs : List V}, NVs X.K H ks xs → (∀ x ∈ xs, ∃ t, x = V.ref t) → xs.map k = ks ∧ ∀ x ∈ xs, NV X.K H (k x) x := fun {ks} => by
    induction ks with
    | nil =>
      intro xs h _
      rw [NVs] at h
      subst h
      exact ⟨rfl, fun _ h => by cases h⟩
    | cons w ws ih =>
      intro xs h hr
      rw [NVs] at h
      obtain ⟨x, ys, rfl, h1, h2⟩ := h
      obtain ⟨i1, i2⟩ := ih h2 fun z hz => hr z (List.mem_cons_of_mem _ hz)
      have e := hk w x h1 (hr x List.mem_cons_self)
      refine ⟨by rw [List.map_cons, e, i1], fun y hy => ?_⟩
      rcases List.mem_cons.mp hy with rfl | hy
      · rw [e]; exact h1
      · exact i2 y hy
  obtain ⟨m1, m2⟩ := all hx isref
  have inks : ∀ x ∈ xs, k x ∈ ks := fun x hx => by rw [← m1]; exact List.mem_map.mpr ⟨x, hx, rfl⟩
  have inxs : ∀ v ∈ its, backV v ∈ xs := fun v hv => by rw [e1]; exact List.mem_map.mpr ⟨v, hv, rfl⟩
  refine SrtO.sorted_nestO (k := fun u => k (backV u)) (fi := fi) hl.isList (by rw [← rv.length]; exact hz) (fun v hv => ?_) ⟨fun v hv => ht _ (inks _ (inxs v hv)), fun v hv u hu => hc _ (inks _ (inxs v hv)) _ (inks _ (inxs u hu)), fun v hv => hd _ (inks _ (inxs v hv))⟩ (by omega) fun h' d out h1 h2 kp hd hn => ?_
  · obtain ⟨t, rfl⟩ := e2 v hv
    exact NV.ni I _ _ _ (m2 _ (inxs _ hv)) (show RelV (.ref t) (.ref t) from rfl)
  · have h3 : ∀ u ∈ out, ∃ a, u = Value.ref a := fun u hu => e2 u (h2.perm.mem_iff.mp hu)
    obtain ⟨n, hn⟩ := hn
    have hb : SrtO.Stb (fun x y => nlt (k x) (k y)) (out.map backV) xs := by
      rw [e1]
      exact SrtO.Stb.map (lt := fun x y => nlt (k x) (k y)) ⟨fun x y => swo_nlt.asym _ _, fun x y z => swo_nlt.tr _ _ _⟩ backV h2
    refine ⟨.ref d, upd H d (.lst (out.map backV)), I.laid (t' := s.toks) kp hd ⟨?_, out, n, vals_back h3, hn⟩, rfl, q _ ((out.map backV).map k) d ?_ ?_ ?_ (I.hok.fresh hd)⟩
    · rw [hb.len]
      exact hz
    · rw [← m1]; exact hb.perm.map k
    · exact List.pairwise_map.mpr (SrtO.srtd_map (lt := fun x y => nlt (k x) (k y)) h1)
    · exact NVs.of_map fun y hy => m2 y (hb.perm.mem_iff.mp hy)
end
end L2

set_option Elab.async false
set_option linter.all false
set_option maxRecDepth 100000
set_option maxHeartbeats 4000000
/-! D0: dicts whose keys are nests of ints, sets of ints, as the abstract heap bears them. -/
namespace DL
open PySem PySem.Spec PyProof.Rows L2 SrtO
/-- the known objects, and whether sets are walked as the text of the orders says -/
structure KF where
  K : PySem.W.Frag
  ft : Bool
instance : Coe KF PySem.W.Frag := ⟨KF.K⟩
abbrev kf (K : PySem.W.Frag) (w : World) : KF := ⟨K, w.params.followText "set-order"⟩
end DL
abbrev L2.Cx.KK (X : L2.Cx) : DL.KF := DL.kf X.K X.w
namespace DL
open PySem PySem.Spec PyProof.Rows L2 SrtO
mutual
/-- hash(k), k without texts -/
def hash0 : NestedKey → Int
  | .none => reduceHash 0xFCA86420
  | .num i => hashInt i
  | .text _ => 0
  | .tup ks => reduceHash (Builtin.Tuple.tupleHashOf (hashes0 ks))
def hashes0 : List NestedKey → List Int
  | [] => []
  | k :: ks => hash0 k :: hashes0 ks
end
mutual
theorem hash0_eq (w : World) : ∀ k : NestedKey, isN k = true → k.hash w = hash0 k
  | .num i, _ => by rw [NestedKey.hash, hash0]
  | .tup ks, h => by rw [isN] at h; rw [NestedKey.hash, hash0, hashes0_eq w ks h]
  | .none, h => by rw [isN] at h <;> first | cases h | (intros; simp_all)
  | .text _, h => by rw [isN] at h <;> first | cases h | (intros; simp_all)
theorem hashes0_eq (w : World) : ∀ ks : List NestedKey, isNs ks = true → NestedKey.hashes w ks = hashes0 ks
  | [], _ => by rw [NestedKey.hashes, hashes0]
  | k :: ks, h => by
    rw [isNs, Bool.and_eq_true] at h
    rw [NestedKey.hashes, hashes0, hash0_eq w k h.1, hashes0_eq w ks h.2]
end
mutual
theorem NV.n {K : KF} {H : Hp} : ∀ (k : NestedKey) (x : V), NV K H k x → isN k = true
  | .num i, _, _ => by rw [isN]
  | .tup ks, _, h => by
    rw [NV] at h
    obtain ⟨t, xs, _, _, r⟩ := h
    rw [isN]; exact NVs.n ks xs r
  | .none, _, h => by rw [NV] at h; exact h.elim
  | .text _, _, h => by rw [NV] at h; exact h.elim
theorem NVs.n {K : KF} {H : Hp} : ∀ (ks : List NestedKey) (xs : List V), NVs K H ks xs → isNs ks = true
  | [], _, _ => by rw [isNs]
  | k :: ks, _, h => by
    rw [NVs] at h
    obtain ⟨x, ys, _, q, r⟩ := h
    rw [isNs, NV.n k x q, NVs.n ks ys r]; rfl
end
/-- an entry of such a dict, and what stands for it -/
abbrev EN := NestedKey × Addr × V
abbrev ER : EN → NestedKey × Addr × Value → Prop := fun e x => e.1 = x.1 ∧ e.2.1 = x.2.1 ∧ RelV e.2.2 x.2.2
/-- at a stands a dict whose keys are nests of ints -/
def DctR (a : Addr) (es : List EN) (h : Heap) : Prop := es.length ≤ sizeLine ∧ (a == sysModules) = false ∧ (es.map (·.1)).Nodup ∧
  ∃ o ds ep xs, h.get? a = some o ∧ o.ExactDict ∧ o.data = .dict ds ep ∧ Paired ER es xs ∧ ds.toList = xs.map fun x => ⟨hash0 x.1, .ref x.2.1, x.2.2⟩
def DctO (a : Addr) (es : List EN) : HO := .ext (DctR a es)
theorem dctO_ok {P : Program} {w : World} {H : Hp} {h : Heap} {a : Addr} {es : List EN} (r : DctR a es h) : ObjOk P w H h a (DctO a es) := by
  refine ⟨r, ?_, fun h1 h2 r k => ?_⟩
  · obtain ⟨_, _, _, o, _, _, _, e, _⟩ := r; exact ⟨o, e⟩
  · obtain ⟨z, y, n, o, ds, ep, xs, e, q⟩ := r
    exact ⟨z, y, n, o, ds, ep, xs, k _ e, q⟩
/-- the key of an int or a text as a nest -/
def nkOf : Key → NestedKey
  | .inl i => .num i
  | .inr x => .text x
theorem nkOf_inj {a b : Key} (h : nkOf a = nkOf b) : a = b := by
  cases a <;> cases b <;> simp_all [nkOf]
/-- at a stands a dict with these keys and these values -/
def DcA (K : KF) (H : Hp) (a : Addr) (ks : List NestedKey) (ws : List V) : Prop :=
  (∃ kvs : List (Key × V), H a = some (.dK kvs) ∧ kvs.map (fun p => nkOf p.1) = ks ∧ kvs.map (·.2) = ws) ∨
  ∃ es : List EN, H a = some (DctO a es) ∧ es.map (·.1) = ks ∧ es.map (·.2.2) = ws ∧ es ≠ [] ∧ ∀ e ∈ es, e.1.depth ≤ 8 ∧ NV K H e.1 (.ref e.2.1)
/-- at a stands a set of ints -/
def SetQ (ft : Bool) (a : Addr) (S : Int → Bool) (n : Nat) (h : Heap) : Prop :=
  ∃ o es ep t, h.get? a = some o ∧ o.ExactSet ∧ o.data = .set es ep t ∧ (∀ e ∈ es.toList, GoodE e) ∧ (es.toList.map keyOf).Nodup ∧ (∀ k, S k = true ↔ k ∈ es.toList.map keyOf) ∧
    es.size < scanBound ∧ t.fits es.size = true ∧ es.size = n ∧ Ris t.place.toList ∧ (ft = true ∨ t.led = true)
def SetF (ft : Bool) (a : Addr) (S : Int → Bool) (n : Nat) : HO := .ext (SetQ ft a S n)
theorem setF_eq (w : World) (a : Addr) (S : Int → Bool) (n : Nat) : SetF (w.params.followText "set-order") a S n = SetO w a S n := rfl
/-- at a stands a set with these members -/
def StA (K : KF) (H : Hp) (a : Addr) (b : Bool) (ks : List NestedKey) : Prop :=
  ∃ (S : Int → Bool), H a = some (if b = true then SetF K.ft a S ks.length else .set S ks.length) ∧ ks.Nodup ∧ (∀ k ∈ ks, ∃ i, k = .num i) ∧ ∀ i, S i = true ↔ NestedKey.num i ∈ ks
/-- what may be written -/
def Mt : HO → Prop
  | .lst _ => True
  | .dK _ => True
  | .set _ _ => True
  | .ext _ => True
  | _ => False
theorem DcA.mt {K : KF} {H : Hp} {a : Addr} {ks : List NestedKey} {ws : List V} (h : DcA K H a ks ws) : ∃ o, H a = some o ∧ Mt o := by
  rcases h with ⟨_, h, _⟩ | ⟨_, h, _⟩ <;> exact ⟨_, h, trivial⟩
theorem StA.mt {K : KF} {H : Hp} {a : Addr} {b : Bool} {ks : List NestedKey} (h : StA K H a b ks) : ∃ o, H a = some o ∧ Mt o := by
  obtain ⟨_, h, _⟩ := h; exact ⟨_, h, by cases b <;> trivial⟩
theorem DcA.length {K : KF} {H : Hp} {a : Addr} {ks : List NestedKey} {ws : List V} (h : DcA K H a ks ws) : ws.length = ks.length := by
  rcases h with ⟨kvs, _, e1, e2⟩ | ⟨es, _, e1, e2, _, _⟩ <;> rw [← e1, ← e2] <;> simp
end DL

set_option Elab.async false
set_option linter.all false
set_option maxRecDepth 100000
set_option maxHeartbeats 4000000
/-! D1: plain data D, how the abstract heap bears it, states by slot. -/
namespace DL
open PySem PySem.Spec PyProof.Rows L2 SrtO
/-- what a context bears: tables, the exception in hand, the names of the module, the wish of exceptions -/
structure Pm where
  tb : List Addr
  ea : Addr
  mg : Str → Option Value
  W : WX
  /-- slots that are never stored to -/
  pr : List Nat
variable {Tb : Pm}

/-- no table -/
def NT (o : HO) : Prop := ∀ ps, o ≠ .tbl ps
theorem Mt.nt {o : HO} (h : Mt o) : NT o := fun ps z => by subst z; exact h
/-- all that was tracked is as it was; tables may have grown -/
structure Same (H H' : Hp) : Prop where
  get' : ∀ b o, H b = some o → NT o → H' b = some o
  tbl : ∀ b ps, H b = some (.tbl ps) → ∃ ps', H' b = some (.tbl ps') ∧ (TriplesOk ps.toList → TriplesOk ps'.toList)
theorem Same.get {H H' : Hp} (e : Same H H') {b : Addr} {o : HO} (h : H b = some o) (n : NT o := by first | (intro ps z; cases z; done) | exact Mt.nt (by assumption)) : H' b = some o := e.get' b o h n
theorem nt_or (o : HO) : NT o ∨ ∃ ps, o = .tbl ps := by
  cases o <;> first | exact .inr ⟨_, rfl⟩ | exact .inl fun ps z => by cases z
theorem Same.of {H H' : Hp} (e : ∀ b o, H b = some o → H' b = some o) : Same H H' := ⟨fun b o h _ => e b o h, fun b ps h => ⟨ps, e b _ h, id⟩⟩
theorem Same.refl (H : Hp) : Same H H := Same.of fun _ _ h => h
theorem Same.trans {H H1 H2 : Hp} (a : Same H H1) (b : Same H1 H2) : Same H H2 := ⟨fun c o h n => b.get' c o (a.get' c o h n) n, fun c ps h => by
  obtain ⟨p1, h1, k1⟩ := a.tbl c ps h
  obtain ⟨p2, h2, k2⟩ := b.tbl c p1 h1
  exact ⟨p2, h2, fun z => k2 (k1 z)⟩⟩
theorem Same.some {H H' : Hp} (e : Same H H') {b : Addr} {o : HO} (h : H b = some o) : ∃ o', H' b = Option.some o' := by
  rcases nt_or o with n | ⟨ps, rfl⟩
  · exact ⟨o, e.get h n⟩
  · obtain ⟨p1, h1, _⟩ := e.tbl b ps h
    exact ⟨_, h1⟩
theorem Same.free {H H' : Hp} (e : Same H H') {l : Addr} (h : H' l = Option.none) : H l = Option.none := by
  cases q : H l with
  | none => rfl
  | some o =>
    obtain ⟨o', k⟩ := e.some q
    rw [h] at k
    cases k
theorem Same.upd {H H' : Hp} (s : Same H H') {a : Addr} {o : HO} (hn : H a = Option.none) : Same H (L2.upd H' a o) :=
  have ne : ∀ b u, H b = Option.some u → b ≠ a := fun b u h z => by rw [z, hn] at h; cases h
  ⟨fun b u h n => by rw [upd_ne (ne b u h)]; exact s.get h n, fun b ps h => by
    obtain ⟨p1, h1, k⟩ := s.tbl b ps h
    exact ⟨p1, by rw [upd_ne (ne b _ h)]; exact h1, k⟩⟩
theorem Same.keep {C H H' : Hp} (s : Same C H) (k : ∀ a u o, C a = Option.some u → H a = Option.some o → H' a = Option.some o) : Same C H' :=
  ⟨fun b u h n => k b u u h (s.get h n), fun b ps h => by
    obtain ⟨p1, h1, z⟩ := s.tbl b ps h
    exact ⟨p1, k b _ _ h h1, z⟩⟩
theorem Same.tab {H H' : Hp} (s : Same H H') {P : Addr} (h : GxR.TabG H P) : GxR.TabG H' P := by
  obtain ⟨ps, h1, h2⟩ := h
  obtain ⟨p1, h3, z⟩ := s.tbl P ps h1
  exact ⟨p1, h3, z h2⟩
theorem Same.seq {K : KF} {H H' : Hp} {a : Addr} {xs : List V} (e : Same H H') (h : SqL K H a xs) : SqL K H' a xs := by
  rcases h with (h | ⟨o, h⟩) | h
  · exact .inl (.inl (e.get h))
  · exact .inl (.inr ⟨o, e.get h⟩)
  · exact .inr h
/-- what is read off tuples alone stays -/
def TK (H H' : Hp) : Prop := ∀ a o, H a = some o → ¬ Mt o → NT o → H' a = some o
theorem TK.seqT {K : KF} {H H' : Hp} {a : Addr} {xs : List V} (e : TK H H') (h : SqT K H a xs) : SqT K H' a xs := by
  rcases h with (h | ⟨o, h⟩) | h
  · exact .inl (.inl (e _ _ h (fun z => z) (fun _ z => by cases z)))
  · exact .inl (.inr ⟨o, e _ _ h (fun z => z) (fun _ z => by cases z)⟩)
  · exact .inr h
theorem TK.of {H H' : Hp} (e : Same H H') : TK H H' := fun a o h _ n => e.get h n
theorem TK.trans {H1 H2 H3 : Hp} (a : TK H1 H2) (b : TK H2 H3) : TK H1 H3 := fun x o h n k => b x o (a x o h n k) n k
mutual
theorem NV.tk {K : KF} {H H' : Hp} (e : TK H H') : ∀ (k : NestedKey) (x : V), NV K H k x → NV K H' k x
  | .num i, _, h => by rw [NV] at h ⊢; exact h
  | .tup ks, _, h => by
    rw [NV] at h ⊢
    obtain ⟨t, xs, h1, q, r⟩ := h
    exact ⟨t, xs, h1, e.seqT q, NVs.tk e ks xs r⟩
  | .none, _, h => by rw [NV] at h; exact h.elim
  | .text _, _, h => by rw [NV] at h; exact h.elim
theorem NVs.tk {K : KF} {H H' : Hp} (e : TK H H') : ∀ (ks : List NestedKey) (xs : List V), NVs K H ks xs → NVs K H' ks xs
  | [], _, h => by rw [NVs] at h ⊢; exact h
  | k :: ks, _, h => by
    rw [NVs] at h ⊢
    obtain ⟨x, ys, h1, q, r⟩ := h
    exact ⟨x, ys, h1, NV.tk e k x q, NVs.tk e ks ys r⟩
end
theorem DcA.at {K : KF} {H H' : Hp} {a : Addr} {ks : List NestedKey} {ws : List V} (e : TK H H') (k : H' a = H a) (h : DcA K H a ks ws) : DcA K H' a ks ws := by
  rcases h with ⟨kvs, h, e1⟩ | ⟨es, h, e1, e2, m, n⟩
  · exact .inl ⟨kvs, k.trans h, e1⟩
  · exact .inr ⟨es, k.trans h, e1, e2, m, fun x hx => ⟨(n x hx).1, NV.tk e _ _ (n x hx).2⟩⟩
theorem DcA.mono {K : KF} {H H' : Hp} {a : Addr} {ks : List NestedKey} {ws : List V} (e : Same H H') (h : DcA K H a ks ws) : DcA K H' a ks ws := by
  rcases h with ⟨kvs, h, e1⟩ | ⟨es, h, e1, e2, m, n⟩
  · exact .inl ⟨kvs, e.get h, e1⟩
  · exact .inr ⟨es, e.get h, e1, e2, m, fun x hx => ⟨(n x hx).1, NV.tk (TK.of e) _ _ (n x hx).2⟩⟩
theorem StA.mono {K : KF} {H H' : Hp} {a : Addr} {w : Bool} {ks : List NestedKey} (e : Same H H') (h : StA K H a w ks) : StA K H' a w ks := by
  obtain ⟨S, h, q⟩ := h; exact ⟨S, e.get h (by cases w <;> (intro ps z; cases z)), q⟩
theorem StA.at {K : KF} {H H' : Hp} {a : Addr} {w : Bool} {ks : List NestedKey} (k : H' a = H a) (h : StA K H a w ks) : StA K H' a w ks := by
  obtain ⟨S, h, q⟩ := h; exact ⟨S, k.trans h, q⟩
inductive D where
  | non | bl (b : Bool) | int (i : Int) | str (x : Str) | tup (ds : List D) | lst (ds : List D)
  /-- the script: ints, read alone -/
  | scr (ns : List Int)
  /-- a dict: keys, values -/
  | dct (ks : List NestedKey) (vs : List D)
  /-- a set -/
  | set (b : Bool) (ks : List NestedKey)

mutual
/-- the value v is the datum -/
def Rp (K : KF) (H : Hp) : D → V → Prop
  | .non, v => v = V.non
  | .bl b, v => v = V.bl b
  | .int i, v => v = V.int i
  | .str x, v => v = V.str x
  | .tup ds, v => ∃ (a : Addr) (xs : List V), v = V.ref a ∧ SqT K H a xs ∧ RpL K H ds xs
  | .lst ds, v => ∃ (a : Addr) (xs : List V), v = V.ref a ∧ H a = some (.lst xs) ∧ RpL K H ds xs
  | .scr ns, v => ∃ a : Addr, v = V.ref a ∧ SqL K H a (ns.map V.int)
  | .dct ks vs, v => ∃ (a : Addr) (ws : List V), v = V.ref a ∧ DcA K H a ks ws ∧ RpL K H vs ws
  | .set w ks, v => ∃ a : Addr, v = V.ref a ∧ StA K H a w ks
def RpL (K : KF) (H : Hp) : List D → List V → Prop
  | [], xs => xs = []
  | d :: ds, xs => ∃ (x : V) (ys : List V), xs = x :: ys ∧ Rp K H d x ∧ RpL K H ds ys
end
mutual
/-- no list within -/
def pu : D → Bool
  | .non => true
  | .bl _ => true
  | .int _ => true
  | .str _ => true
  | .tup ds => puL ds
  | .lst _ => false
  | .scr _ => false
  | .dct _ _ => false
  | .set _ _ => false
def puL : List D → Bool
  | [] => true
  | d :: ds => pu d && puL ds
end
mutual
/-- the value v is the datum; its lists stand at φ and may be written -/
def Ow (K : KF) (H : Hp) : D → V → List Addr → Prop
  | .non, v, φ => v = V.non ∧ φ = []
  | .bl b, v, φ => v = V.bl b ∧ φ = []
  | .int i, v, φ => v = V.int i ∧ φ = []
  | .str x, v, φ => v = V.str x ∧ φ = []
  | .tup ds, v, φ => ∃ (a : Addr) (xs : List V), v = V.ref a ∧ SqT K H a xs ∧ OwL K H ds xs φ
  | .lst ds, v, φ => ∃ (a : Addr) (xs : List V) (ψ : List Addr), v = V.ref a ∧ H a = some (.lst xs) ∧ OwL K H ds xs ψ ∧ φ = a :: ψ
  | .scr _, _, _ => False
  | .dct ks vs, v, φ => ∃ (a : Addr) (ws : List V) (ψ : List Addr), v = V.ref a ∧ DcA K H a ks ws ∧ OwL K H vs ws ψ ∧ φ = a :: ψ
  | .set w ks, v, φ => ∃ a : Addr, v = V.ref a ∧ StA K H a w ks ∧ φ = [a]
def OwL (K : KF) (H : Hp) : List D → List V → List Addr → Prop
  | [], xs, φ => xs = [] ∧ φ = []
  | d :: ds, xs, φ => ∃ (x : V) (ys : List V) (φ1 φ2 : List Addr), xs = x :: ys ∧ Ow K H d x φ1 ∧ OwL K H ds ys φ2 ∧ φ = φ1 ++ φ2
end

section
variable {K : KF} {H H' : Hp}
theorem Same.seqT {a : Addr} {xs : List V} (e : Same H H') (h : SqT K H a xs) : SqT K H' a xs := by
  rcases h with (h | ⟨o, h⟩) | h
  · exact .inl (.inl (e.get h))
  · exact .inl (.inr ⟨o, e.get h⟩)
  · exact .inr h
mutual
theorem Rp.mono (e : Same H H') : ∀ (d : D) (v : V), Rp K H d v → Rp K H' d v
  | .non, _, h => by unfold Rp at h ⊢; exact h
  | .bl _, _, h => by unfold Rp at h ⊢; exact h
  | .int _, _, h => by unfold Rp at h ⊢; exact h
  | .str _, _, h => by unfold Rp at h ⊢; exact h
  | .tup ds, _, h => by
    unfold Rp at h ⊢
    obtain ⟨a, xs, e1, q, r⟩ := h
    exact ⟨a, xs, e1, Same.seqT e q, RpL.mono e ds xs r⟩
  | .lst ds, _, h => by
    unfold Rp at h ⊢
    obtain ⟨a, xs, e1, q, r⟩ := h
    exact ⟨a, xs, e1, e.get q, RpL.mono e ds xs r⟩
  | .scr ns, _, h => by
    unfold Rp at h ⊢
    obtain ⟨a, e1, q⟩ := h
    exact ⟨a, e1, Same.seq e q⟩
  | .dct ks vs, _, h => by
    unfold Rp at h ⊢
    obtain ⟨a, ws, e1, q, r⟩ := h
    exact ⟨a, ws, e1, q.mono e, RpL.mono e vs ws r⟩
  | .set w ks, _, h => by
    unfold Rp at h ⊢
    obtain ⟨a, e1, q⟩ := h
    exact ⟨a, e1, q.mono e⟩
theorem RpL.mono (e : Same H H') : ∀ (ds : List D) (vs : List V), RpL K H ds vs → RpL K H' ds vs
  | [], _, h => by unfold RpL at h ⊢; exact h
  | d :: ds, _, h => by
    unfold RpL at h ⊢
    obtain ⟨x, ys, e1, q, r⟩ := h
    exact ⟨x, ys, e1, Rp.mono e d x q, RpL.mono e ds ys r⟩
end
mutual
theorem Rp.tk (e : TK H H') : ∀ (d : D) (v : V), pu d = true → Rp K H d v → Rp K H' d v
  | .non, _, _, h => by unfold Rp at h ⊢; exact h
  | .bl _, _, _, h => by unfold Rp at h ⊢; exact h
  | .int _, _, _, h => by unfold Rp at h ⊢; exact h
  | .str _, _, _, h => by unfold Rp at h ⊢; exact h
  | .tup ds, _, p, h => by
    unfold Rp at h ⊢
    unfold pu at p
    obtain ⟨a, xs, e1, q, r⟩ := h
    exact ⟨a, xs, e1, TK.seqT e q, RpL.tk e ds xs p r⟩
  | .lst ds, _, p, h => by
    unfold pu at p
    cases p
  | .scr ds, _, p, h => by
    unfold pu at p
    cases p
  | .dct _ _, _, p, h => by
    unfold pu at p
    cases p
  | .set _ _, _, p, h => by
    unfold pu at p
    cases p
theorem RpL.tk (e : TK H H') : ∀ (ds : List D) (vs : List V), puL ds = true → RpL K H ds vs → RpL K H' ds vs
  | [], _, _, h => by unfold RpL at h ⊢; exact h
  | d :: ds, _, p, h => by
    unfold RpL at h ⊢
    unfold puL at p
    rw [Bool.and_eq_true] at p
    obtain ⟨x, ys, e1, q, r⟩ := h
    exact ⟨x, ys, e1, Rp.tk e d x p.1 q, RpL.tk e ds ys p.2 r⟩
end
mutual
theorem Ow.rp : ∀ (d : D) (v : V) (φ : List Addr), Ow K H d v φ → Rp K H d v
  | .non, _, _, h => by unfold Ow at h; unfold Rp; exact h.1
  | .bl _, _, _, h => by unfold Ow at h; unfold Rp; exact h.1
  | .int _, _, _, h => by unfold Ow at h; unfold Rp; exact h.1
  | .str _, _, _, h => by unfold Ow at h; unfold Rp; exact h.1
  | .tup ds, _, φ, h => by
    unfold Ow at h; unfold Rp
    obtain ⟨a, xs, e1, q, r⟩ := h
    exact ⟨a, xs, e1, q, OwL.rp ds xs φ r⟩
  | .lst ds, _, _, h => by
    unfold Ow at h; unfold Rp
    obtain ⟨a, xs, ψ, e1, q, r, _⟩ := h
    exact ⟨a, xs, e1, q, OwL.rp ds xs ψ r⟩
  | .scr _, _, _, h => by unfold Ow at h; exact h.elim
  | .dct ks vs, _, _, h => by
    unfold Ow at h; unfold Rp
    obtain ⟨a, ws, ψ, e1, q, r, _⟩ := h
    exact ⟨a, ws, e1, q, OwL.rp vs ws ψ r⟩
  | .set w ks, _, _, h => by
    unfold Ow at h; unfold Rp
    obtain ⟨a, e1, q, _⟩ := h
    exact ⟨a, e1, q⟩
theorem OwL.rp : ∀ (ds : List D) (vs : List V) (φ : List Addr), OwL K H ds vs φ → RpL K H ds vs
  | [], _, _, h => by unfold OwL at h; unfold RpL; exact h.1
  | d :: ds, _, _, h => by
    unfold OwL at h; unfold RpL
    obtain ⟨x, ys, φ1, φ2, e1, q, r, _⟩ := h
    exact ⟨x, ys, e1, Ow.rp d x φ1 q, OwL.rp ds ys φ2 r⟩
end
mutual
/-- the lists of a datum of our own are tracked -/
theorem Ow.trk : ∀ (d : D) (v : V) (φ : List Addr), Ow K H d v φ → ∀ a ∈ φ, ∃ o, H a = some o ∧ Mt o
  | .non, _, _, h => by unfold Ow at h; rw [h.2]; exact fun a z => by cases z
  | .bl _, _, _, h => by unfold Ow at h; rw [h.2]; exact fun a z => by cases z
  | .int _, _, _, h => by unfold Ow at h; rw [h.2]; exact fun a z => by cases z
  | .str _, _, _, h => by unfold Ow at h; rw [h.2]; exact fun a z => by cases z
  | .tup ds, _, φ, h => by
    unfold Ow at h
    obtain ⟨a, xs, e1, q, r⟩ := h
    exact OwL.trk ds xs φ r
  | .lst ds, _, _, h => by
    unfold Ow at h
    obtain ⟨a, xs, ψ, e1, q, r, rfl⟩ := h
    intro b hb
    rcases List.mem_cons.mp hb with rfl | hb
    · exact ⟨_, q, trivial⟩
    · exact OwL.trk ds xs ψ r b hb
  | .scr _, _, _, h => by unfold Ow at h; exact h.elim
  | .dct ks vs, _, _, h => by
    unfold Ow at h
    obtain ⟨a, ws, ψ, e1, q, r, rfl⟩ := h
    intro b hb
    rcases List.mem_cons.mp hb with rfl | hb
    · exact q.mt
    · exact OwL.trk vs ws ψ r b hb
  | .set w ks, _, _, h => by
    unfold Ow at h
    obtain ⟨a, e1, q, rfl⟩ := h
    intro b hb
    rw [List.mem_singleton.mp hb]
    exact q.mt
theorem OwL.trk : ∀ (ds : List D) (vs : List V) (φ : List Addr), OwL K H ds vs φ → ∀ a ∈ φ, ∃ o, H a = some o ∧ Mt o
  | [], _, _, h => by unfold OwL at h; rw [h.2]; exact fun a z => by cases z
  | d :: ds, _, _, h => by
    unfold OwL at h
    obtain ⟨x, ys, φ1, φ2, e1, q, r, rfl⟩ := h
    intro b hb
    rcases List.mem_append.mp hb with hb | hb
    · exact Ow.trk d x φ1 q b hb
    · exact OwL.trk ds ys φ2 r b hb
end
mutual
/-- it stays while its lists and all tuples stay -/
theorem Ow.mono (e : TK H H') : ∀ (d : D) (v : V) (φ : List Addr), (∀ a ∈ φ, H' a = H a) → Ow K H d v φ → Ow K H' d v φ
  | .non, _, _, _, h => by unfold Ow at h ⊢; exact h
  | .bl _, _, _, _, h => by unfold Ow at h ⊢; exact h
  | .int _, _, _, _, h => by unfold Ow at h ⊢; exact h
  | .str _, _, _, _, h => by unfold Ow at h ⊢; exact h
  | .tup ds, _, φ, k, h => by
    unfold Ow at h ⊢
    obtain ⟨a, xs, e1, q, r⟩ := h
    exact ⟨a, xs, e1, TK.seqT e q, OwL.mono e ds xs φ k r⟩
  | .lst ds, _, _, k, h => by
    unfold Ow at h ⊢
    obtain ⟨a, xs, ψ, e1, q, r, rfl⟩ := h
    exact ⟨a, xs, ψ, e1, (k a List.mem_cons_self).trans q, OwL.mono e ds xs ψ (fun b hb => k b (List.mem_cons_of_mem _ hb)) r, rfl⟩
  | .scr _, _, _, _, h => by unfold Ow at h; exact h.elim
  | .dct ks vs, _, _, k, h => by
    unfold Ow at h ⊢
    obtain ⟨a, ws, ψ, e1, q, r, rfl⟩ := h
    exact ⟨a, ws, ψ, e1, q.at e (k a List.mem_cons_self), OwL.mono e vs ws ψ (fun b hb => k b (List.mem_cons_of_mem _ hb)) r, rfl⟩
  | .set w ks, _, _, k, h => by
    unfold Ow at h ⊢
    obtain ⟨a, e1, q, rfl⟩ := h
    exact ⟨a, e1, q.at (k a List.mem_cons_self), rfl⟩
theorem OwL.mono (e : TK H H') : ∀ (ds : List D) (vs : List V) (φ : List Addr), (∀ a ∈ φ, H' a = H a) → OwL K H ds vs φ → OwL K H' ds vs φ
  | [], _, _, _, h => by unfold OwL at h ⊢; exact h
  | d :: ds, _, _, k, h => by
    unfold OwL at h ⊢
    obtain ⟨x, ys, φ1, φ2, e1, q, r, rfl⟩ := h
    exact ⟨x, ys, φ1, φ2, e1, Ow.mono e d x φ1 (fun b hb => k b (List.mem_append_left _ hb)) q, OwL.mono e ds ys φ2 (fun b hb => k b (List.mem_append_right _ hb)) r, rfl⟩
end
theorem Ow.same (e : Same H H') {d : D} {v : V} {φ : List Addr} (h : Ow K H d v φ) : Ow K H' d v φ :=
  Ow.mono (TK.of e) d v φ (fun a ha => by obtain ⟨o, q, m⟩ := Ow.trk d v φ h a ha; rw [q]; exact e.get q (Mt.nt m)) h
theorem OwL.same (e : Same H H') {d : List D} {v : List V} {φ : List Addr} (h : OwL K H d v φ) : OwL K H' d v φ :=
  OwL.mono (TK.of e) d v φ (fun a ha => by obtain ⟨o, q, m⟩ := OwL.trk d v φ h a ha; rw [q]; exact e.get q (Mt.nt m)) h
mutual
theorem Ow.pu : ∀ (d : D) (v : V), DL.pu d = true → Rp K H d v → Ow K H d v []
  | .non, _, _, h => by unfold Rp at h; unfold Ow; exact ⟨h, rfl⟩
  | .bl _, _, _, h => by unfold Rp at h; unfold Ow; exact ⟨h, rfl⟩
  | .int _, _, _, h => by unfold Rp at h; unfold Ow; exact ⟨h, rfl⟩
  | .str _, _, _, h => by unfold Rp at h; unfold Ow; exact ⟨h, rfl⟩
  | .tup ds, _, p, h => by
    unfold Rp at h; unfold Ow; unfold DL.pu at p
    obtain ⟨a, xs, e1, q, r⟩ := h
    exact ⟨a, xs, e1, q, OwL.pu ds xs p r⟩
  | .lst ds, _, p, h => by unfold DL.pu at p; cases p
  | .scr ds, _, p, h => by unfold DL.pu at p; cases p
  | .dct _ _, _, p, h => by unfold DL.pu at p; cases p
  | .set _ _, _, p, h => by unfold DL.pu at p; cases p
theorem OwL.pu : ∀ (ds : List D) (vs : List V), DL.puL ds = true → RpL K H ds vs → OwL K H ds vs []
  | [], _, _, h => by unfold RpL at h; unfold OwL; exact ⟨h, rfl⟩
  | d :: ds, _, p, h => by
    unfold RpL at h; unfold OwL
    unfold puL at p
    rw [Bool.and_eq_true] at p
    obtain ⟨x, ys, e1, q, r⟩ := h
    exact ⟨x, ys, [], [], e1, Ow.pu d x p.1 q, OwL.pu ds ys p.2 r, rfl⟩
end
mutual
theorem Ow.nil : ∀ (d : D) (v : V) (φ : List Addr), DL.pu d = true → Ow K H d v φ → φ = []
  | .non, _, _, _, h => by unfold Ow at h; exact h.2
  | .bl _, _, _, _, h => by unfold Ow at h; exact h.2
  | .int _, _, _, _, h => by unfold Ow at h; exact h.2
  | .str _, _, _, _, h => by unfold Ow at h; exact h.2
  | .tup ds, _, φ, p, h => by
    unfold Ow at h; unfold DL.pu at p
    obtain ⟨a, xs, e1, q, r⟩ := h
    exact OwL.nil ds xs φ p r
  | .lst ds, _, _, p, h => by unfold DL.pu at p; cases p
  | .scr ds, _, _, p, h => by unfold DL.pu at p; cases p
  | .dct _ _, _, _, p, h => by unfold DL.pu at p; cases p
  | .set _ _, _, _, p, h => by unfold DL.pu at p; cases p
theorem OwL.nil : ∀ (ds : List D) (vs : List V) (φ : List Addr), DL.puL ds = true → OwL K H ds vs φ → φ = []
  | [], _, _, _, h => by unfold OwL at h; exact h.2
  | d :: ds, _, _, p, h => by
    unfold OwL at h; unfold puL at p
    rw [Bool.and_eq_true] at p
    obtain ⟨x, ys, φ1, φ2, e1, q, r, rfl⟩ := h
    rw [Ow.nil d x φ1 p.1 q, OwL.nil ds ys φ2 p.2 r]; rfl
end
theorem RpL.length : ∀ {ds : List D} {vs : List V}, RpL K H ds vs → vs.length = ds.length
  | [], _, h => by unfold RpL at h; rw [h]; rfl
  | d :: ds, _, h => by
    unfold RpL at h
    obtain ⟨x, ys, rfl, _, r⟩ := h
    simp [RpL.length r]
theorem RpL.get : ∀ {ds : List D} {vs : List V} {i : Nat} {x : V}, RpL K H ds vs → vs[i]? = some x → ∃ d, ds[i]? = some d ∧ Rp K H d x
  | [], _, i, x, h, e => by unfold RpL at h; rw [h] at e; simp at e
  | d :: ds, _, i, x, h, e => by
    unfold RpL at h
    obtain ⟨y, ys, rfl, q, r⟩ := h
    cases i with
    | zero => simp at e; subst e; exact ⟨d, rfl, q⟩
    | succ i =>
      obtain ⟨d', e1, q1⟩ := RpL.get (i := i) (x := x) r (by simpa using e)
      exact ⟨d', by simpa using e1, q1⟩
theorem RpL.at : ∀ {ds : List D} {vs : List V} {i : Nat} {d : D}, RpL K H ds vs → ds[i]? = some d → ∃ x, vs[i]? = some x ∧ Rp K H d x
  | [], _, i, x, h, e => by simp at e
  | d :: ds, _, i, x, h, e => by
    unfold RpL at h
    obtain ⟨y, ys, rfl, q, r⟩ := h
    cases i with
    | zero => simp at e; subst e; exact ⟨y, rfl, q⟩
    | succ i =>
      obtain ⟨d', e1, q1⟩ := RpL.at (i := i) (d := x) r (by simpa using e)
      exact ⟨d', by simpa using e1, q1⟩
theorem RpL.append : ∀ {ds es : List D} {vs us : List V}, RpL K H ds vs → RpL K H es us → RpL K H (ds ++ es) (vs ++ us)
  | [], es, _, us, h, k => by unfold RpL at h; rw [h]; exact k
  | d :: ds, es, _, us, h, k => by
    unfold RpL at h
    obtain ⟨y, ys, rfl, q, r⟩ := h
    show RpL K H (d :: (ds ++ es)) (y :: (ys ++ us))
    unfold RpL
    exact ⟨y, _, rfl, q, RpL.append r k⟩
theorem RpL.take : ∀ {ds : List D} {vs : List V} (n : Nat), RpL K H ds vs → RpL K H (ds.take n) (vs.take n)
  | ds, vs, 0, h => by simp [RpL]
  | [], _, n + 1, h => by unfold RpL at h; rw [h]; simp [RpL]
  | d :: ds, _, n + 1, h => by
    unfold RpL at h
    obtain ⟨y, ys, rfl, q, r⟩ := h
    rw [List.take_succ_cons, List.take_succ_cons]
    unfold RpL
    exact ⟨y, _, rfl, q, RpL.take n r⟩
theorem RpL.drop : ∀ {ds : List D} {vs : List V} (n : Nat), RpL K H ds vs → RpL K H (ds.drop n) (vs.drop n)
  | ds, vs, 0, h => by simpa using h
  | [], _, n + 1, h => by unfold RpL at h; rw [h]; simp [RpL]
  | d :: ds, _, n + 1, h => by
    unfold RpL at h
    obtain ⟨y, ys, rfl, q, r⟩ := h
    rw [List.drop_succ_cons, List.drop_succ_cons]
    exact RpL.drop n r
theorem OwL.append : ∀ {ds es : List D} {vs us : List V} {φ ψ : List Addr}, OwL K H ds vs φ → OwL K H es us ψ → OwL K H (ds ++ es) (vs ++ us) (φ ++ ψ)
  | [], es, _, us, _, _, h, k => by unfold OwL at h; rw [h.1, h.2]; exact k
  | d :: ds, es, _, us, _, _, h, k => by
    unfold OwL at h
    obtain ⟨y, ys, φ1, φ2, rfl, q, r, rfl⟩ := h
    show OwL K H (d :: (ds ++ es)) (y :: (ys ++ us)) _
    unfold OwL
    exact ⟨y, _, φ1, _, rfl, q, OwL.append r k, List.append_assoc ..⟩
theorem puL_append {ds es : List D} : puL (ds ++ es) = (puL ds && puL es) := by
  induction ds with
  | nil => simp [puL]
  | cons d ds ih => simp [puL, ih, Bool.and_assoc]
theorem puL_mem : ∀ {ds : List D}, puL ds = true → ∀ d ∈ ds, pu d = true
  | [], _, d, h => by cases h
  | e :: ds, p, d, h => by
    unfold puL at p
    rw [Bool.and_eq_true] at p
    rcases List.mem_cons.mp h with rfl | h
    · exact p.1
    · exact puL_mem p.2 d h
theorem puL_of : ∀ {ds : List D}, (∀ d ∈ ds, pu d = true) → puL ds = true
  | [], _ => by unfold puL; rfl
  | e :: ds, h => by
    unfold puL
    rw [Bool.and_eq_true]
    exact ⟨h e List.mem_cons_self, puL_of fun d hd => h d (List.mem_cons_of_mem _ hd)⟩
theorem puL_take {ds : List D} (n : Nat) (h : puL ds = true) : puL (ds.take n) = true := puL_of fun d hd => puL_mem h d (List.mem_of_mem_take hd)
theorem puL_drop {ds : List D} (n : Nat) (h : puL ds = true) : puL (ds.drop n) = true := puL_of fun d hd => puL_mem h d (List.mem_of_mem_drop hd)
end

/-! ### values with the way they are held; slots -/
/-- val: no list within; par: an argument's; fr: it stands while the loop runs; bor: read off something of our own; own: our own, new -/
inductive R where
  | val (d : D) | par (d : D) | fr (d : D) | bor (d : D) | own (d : D)
@[reducible] def R.d : R → D
  | .val d => d | .par d => d | .fr d => d | .bor d => d | .own d => d
inductive Sl where
  | no | val (d : D) | par (d : D) | fr (d : D) | bor (d : D) | lck (d : D) | own (d : D)
  /-- the exception in hand -/
  | exc (c : Str)
/-- what a name gives -/
def Sl.rd : Sl → Option R
  | .no => none | .exc _ => none | .val d => some (.val d) | .par d => some (.par d) | .fr d => some (.fr d) | .bor d => some (.bor d) | .lck d => some (.fr d) | .own d => some (.bor d)
def R.sl : R → Sl
  | .val d => .val d | .par d => .par d | .fr d => .fr d | .bor d => .bor d | .own d => .own d
/-- B: the heap at the def's entry; C: what stands still from here on; H: now -/
def RR (K : KF) (B C H : Hp) : R → V → List Addr → Prop
  | .val d, v, φ => φ = [] ∧ pu d = true ∧ Rp K H d v
  | .par d, v, φ => φ = [] ∧ Rp K B d v
  | .fr d, v, φ => φ = [] ∧ Rp K C d v
  | .bor d, v, φ => φ = [] ∧ Rp K H d v
  | .own d, v, φ => Ow K H d v φ
def SlOk (Tb : Pm) (K : KF) (B C H : Hp) : Sl → Option V → List Addr → Prop
  | .no, _, φ => φ = []
  | .exc _, v, φ => φ = [] ∧ v = some (.ref Tb.ea)
  | .val d, v, φ => φ = [] ∧ pu d = true ∧ ∃ x, v = some x ∧ Rp K H d x
  | .par d, v, φ => φ = [] ∧ ∃ x, v = some x ∧ Rp K B d x
  | .fr d, v, φ => φ = [] ∧ ∃ x, v = some x ∧ Rp K C d x
  | .bor d, v, φ => φ = [] ∧ ∃ x, v = some x ∧ Rp K H d x
  | .lck d, v, φ => φ = [] ∧ ∃ x, v = some x ∧ Rp K C d x
  | .own d, v, φ => ∃ x, v = some x ∧ Ow K H d x φ
abbrev DSt := List Sl
structure RSt (Tb : Pm) (K : KF) (B C : Hp) (σ : L2.St) (H : Hp) (δ : DSt) (Φ : Nat → List Addr) : Prop where
  len : σ.length = δ.length
  sl : ∀ i, SlOk Tb K B C H (δ.getD i .no) (σ.getD i none) (Φ i)
  nd : ∀ i, (Φ i).Nodup
  dj : ∀ i j a, a ∈ Φ i → a ∈ Φ j → i = j
  bc : Same B C
  ch : Same C H
  fr : ∀ i a, a ∈ Φ i → C a = none
  tb : ∀ P ∈ Tb.tb, GxR.TabG C P
section
variable {K : KF} {B C H H' : Hp} {σ : L2.St} {δ : DSt} {Φ : Nat → List Addr}
theorem RR.rp {r : R} {v : V} {φ : List Addr} (bc : Same B C) (ch : Same C H) (h : RR K B C H r v φ) : Rp K H r.d v := by
  cases r with
  | val d => exact h.2.2
  | par d => exact Rp.mono (bc.trans ch) _ _ h.2
  | fr d => exact Rp.mono ch _ _ h.2
  | bor d => exact h.2
  | own d => exact Ow.rp _ _ _ h
theorem RR.same {r : R} {v : V} {φ : List Addr} (e : Same H H') (h : RR K B C H r v φ) : RR K B C H' r v φ := by
  cases r with
  | val d => exact ⟨h.1, h.2.1, Rp.mono e _ _ h.2.2⟩
  | par d => exact h
  | fr d => exact h
  | bor d => exact ⟨h.1, Rp.mono e _ _ h.2⟩
  | own d => exact Ow.same e h
theorem SlOk.same {s : Sl} {v : Option V} {φ : List Addr} (e : Same H H') (h : SlOk Tb K B C H s v φ) : SlOk Tb K B C H' s v φ := by
  cases s with
  | no => exact h
  | exc c => exact h
  | val d => obtain ⟨a, b, x, e1, q⟩ := h; exact ⟨a, b, x, e1, Rp.mono e _ _ q⟩
  | par d => exact h
  | fr d => exact h
  | bor d => obtain ⟨a, x, e1, q⟩ := h; exact ⟨a, x, e1, Rp.mono e _ _ q⟩
  | lck d => exact h
  | own d => obtain ⟨x, e1, q⟩ := h; exact ⟨x, e1, Ow.same e q⟩
theorem SlOk.trk {s : Sl} {v : Option V} {φ : List Addr} (h : SlOk Tb K B C H s v φ) : ∀ a ∈ φ, ∃ o, H a = some o ∧ Mt o := by
  cases s with
  | no => rw [show φ = [] from h]; exact fun a z => by cases z
  | exc c => rw [h.1]; exact fun a z => by cases z
  | val d => rw [h.1]; exact fun a z => by cases z
  | par d => rw [h.1]; exact fun a z => by cases z
  | fr d => rw [h.1]; exact fun a z => by cases z
  | bor d => rw [h.1]; exact fun a z => by cases z
  | lck d => rw [h.1]; exact fun a z => by cases z
  | own d => obtain ⟨x, _, q⟩ := h; exact Ow.trk _ _ _ q
theorem RSt.trk (h : RSt Tb K B C σ H δ Φ) {i : Nat} {a : Addr} (ha : a ∈ Φ i) : ∃ o, H a = some o ∧ Mt o := (h.sl i).trk a ha
theorem RSt.same (h : RSt Tb K B C σ H δ Φ) (e : Same H H') : RSt Tb K B C σ H' δ Φ :=
  ⟨h.len, fun i => (h.sl i).same e, h.nd, h.dj, h.bc, h.ch.trans e, h.fr, h.tb⟩
/-- a name is read -/
theorem RSt.rd (h : RSt Tb K B C σ H δ Φ) {i : Nat} {r : R} (e : (δ.getD i .no).rd = some r) : ∃ v, σ[i]? = some (some v) ∧ RR K B C H r v [] := by
  have q := h.sl i
  have fin : ∀ x, σ.getD i none = some x → σ[i]? = some (some x) := fun x e1 => by
    rw [List.getD_eq_getElem?_getD] at e1
    cases z : σ[i]? with
    | none => rw [z] at e1; cases e1
    | some y => rw [z] at e1; rw [show y = some x from e1]
  cases z : δ.getD i .no with
  | no => rw [z] at e; cases e
  | exc c => rw [z] at e; cases e
  | val d => rw [z] at e q; cases e; obtain ⟨_, p, x, e1, q⟩ := q; exact ⟨x, fin x e1, rfl, p, q⟩
  | par d => rw [z] at e q; cases e; obtain ⟨_, x, e1, q⟩ := q; exact ⟨x, fin x e1, rfl, q⟩
  | fr d => rw [z] at e q; cases e; obtain ⟨_, x, e1, q⟩ := q; exact ⟨x, fin x e1, rfl, q⟩
  | bor d => rw [z] at e q; cases e; obtain ⟨_, x, e1, q⟩ := q; exact ⟨x, fin x e1, rfl, q⟩
  | lck d => rw [z] at e q; cases e; obtain ⟨_, x, e1, q⟩ := q; exact ⟨x, fin x e1, rfl, q⟩
  | own d => rw [z] at e q; cases e; obtain ⟨x, e1, q⟩ := q; exact ⟨x, fin x e1, rfl, Ow.rp _ _ _ q⟩
theorem getD_set {α : Type} (l : List α) (i j : Nat) (x d : α) : (l.set i x).getD j d = if j = i ∧ i < l.length then x else l.getD j d := by
  rw [List.getD_eq_getElem?_getD, List.getD_eq_getElem?_getD]
  by_cases h : j = i
  · subst h
    by_cases hl : j < l.length
    · rw [if_pos ⟨rfl, hl⟩, List.getElem?_set_self hl]; rfl
    · rw [if_neg (fun z => hl z.2), List.getElem?_eq_none (by simpa using hl), List.getElem?_eq_none (by simpa using hl)]
  · rw [if_neg (fun z => h z.1), List.getElem?_set_ne (Ne.symm h)]
theorem RR.slOk {r : R} {v : V} {φ : List Addr} (h : RR K B C H r v φ) : SlOk Tb K B C H r.sl (some v) φ := by
  cases r with
  | val d => exact ⟨h.1, h.2.1, v, rfl, h.2.2⟩
  | par d => exact ⟨h.1, v, rfl, h.2⟩
  | fr d => exact ⟨h.1, v, rfl, h.2⟩
  | bor d => exact ⟨h.1, v, rfl, h.2⟩
  | own d => exact ⟨v, rfl, h⟩
/-- a store -/
def store (i : Nat) (r : R) (δ : DSt) : Option DSt := if i < δ.length then (match δ.getD i .no with | .lck _ => none | _ => some (δ.set i r.sl)) else none
theorem RSt.store (h : RSt Tb K B C σ H δ Φ) {i : Nat} {r : R} {v : V} {φ : List Addr} {δ' : DSt} (e : DL.store i r δ = some δ') (q : RR K B C H r v φ) (nd : φ.Nodup) (fc : ∀ a ∈ φ, C a = none) (fr : ∀ j a, a ∈ φ → a ∉ Φ j) :
    RSt Tb K B C (σ.set i (some v)) H δ' (fun j => if j = i then φ else Φ j) := by
  unfold DL.store at e
  split at e
  · rename_i hl
    have e1 : δ' = δ.set i r.sl := by
      split at e
      · cases e
      · exact (Option.some.inj e).symm
    subst e1
    refine ⟨by simpa using h.len, fun j => ?_, fun j => ?_, fun j k a ha hb => ?_, h.bc, h.ch, fun j a ha => ?_, h.tb⟩
    · rw [getD_set, getD_set, h.len]
      by_cases hj : j = i
      · subst hj
        rw [if_pos ⟨rfl, hl⟩, if_pos ⟨rfl, hl⟩, if_pos rfl]
        exact q.slOk
      · rw [if_neg (fun z => hj z.1), if_neg (fun z => hj z.1), if_neg hj]
        exact h.sl j
    · split
      · exact nd
      · exact h.nd j
    · split at ha
      · split at hb
        · rename_i e1 e2; rw [e1, e2]
        · exact absurd hb (fr k a ha)
      · split at hb
        · exact absurd ha (fr j a hb)
        · exact h.dj j k a ha hb
    · split at ha
      · exact fc a ha
      · exact h.fr j a ha
  · cases e
/-- slots that are locked stay, and none is locked besides; the slots P are never stored to -/
def Lk (P : List Nat) (σ : L2.St) (δ : DSt) (σ' : L2.St) (δ' : DSt) : Prop := (∀ i d, δ.getD i .no = .lck d → δ'.getD i .no = .lck d ∧ σ'.getD i none = σ.getD i none) ∧ (∀ i d, δ'.getD i .no = .lck d → δ.getD i .no = .lck d) ∧ ∀ i ∈ P, σ'.getD i none = σ.getD i none
theorem Lk.refl {P : List Nat} : Lk P σ δ σ δ := ⟨fun _ _ h => ⟨h, rfl⟩, fun _ _ h => h, fun _ _ => rfl⟩
theorem Lk.trans {P : List Nat} {σ1 σ2 σ3 : L2.St} {δ1 δ2 δ3 : DSt} (a : Lk P σ1 δ1 σ2 δ2) (b : Lk P σ2 δ2 σ3 δ3) : Lk P σ1 δ1 σ3 δ3 := ⟨fun i d h =>
  let ⟨h1, e1⟩ := a.1 i d h
  let ⟨h2, e2⟩ := b.1 i d h1
  ⟨h2, e2.trans e1⟩, fun i d h => a.2.1 i d (b.2.1 i d h), fun i h => (b.2.2 i h).trans (a.2.2 i h)⟩
theorem np0 {i : Nat} (h : (i == 0) = false := by rfl) : i ∉ [0] := fun z => by
  rw [List.mem_singleton.mp z] at h
  cases h
theorem set_stay {P : List Nat} {σ : L2.St} {i : Nat} {v : Option V} (hp : i ∉ P) : ∀ j ∈ P, (σ.set i v).getD j none = σ.getD j none := fun j hj => by
  have ne : j ≠ i := fun z => hp (z ▸ hj)
  rw [getD_set, if_neg (fun z => ne z.1)]
theorem Lk.store {P : List Nat} {i : Nat} {r : R} {v : V} {δ' : DSt} (hp : i ∉ P) (e : DL.store i r δ = some δ') : Lk P σ δ (σ.set i (some v)) δ' := by
  unfold DL.store at e
  split at e
  · rename_i hl
    have nl : ∀ d, δ.getD i .no ≠ .lck d := fun d z => by
      rw [z] at e
      cases e
    have e1 : δ' = δ.set i r.sl := by
      split at e
      · cases e
      · exact (Option.some.inj e).symm
    subst e1
    refine ⟨fun j d h => ?_, fun j d h => ?_, set_stay hp⟩
    · have ne : j ≠ i := fun z => nl d (z ▸ h)
      rw [getD_set, getD_set, if_neg (fun z => ne z.1), if_neg (fun z => ne z.1)]
      exact ⟨h, rfl⟩
    · rw [getD_set] at h
      split at h
      · cases r <;> cases h
      · exact h
  · cases e
end
end DL

set_option Elab.async false
set_option linter.all false
set_option maxRecDepth 100000
set_option maxHeartbeats 4000000
/-! D2: expressions over plain data. -/
namespace DL
open PySem PySem.Spec PyProof.Rows L2
variable {Tb : Pm}
section
variable {X : Cx} {e a b : Expr} {pos : Pos}
theorem pe_imp {t t' : TE} (h : PE X e t) (f : ∀ σ H Q, t' σ H Q → t σ H Q) : PE X e t' := ⟨fun pins s σ H Q I q => h.run pins s σ H Q I (f σ H Q q)⟩
theorem pt_imp {t t' : TT} (h : PT X e t) (f : ∀ σ H Q, t' σ H Q → t σ H Q) : PT X e t' := ⟨fun pins s σ H Q I q => h.run pins s σ H Q I (f σ H Q q)⟩
theorem pw_imp {t t' : TT} (h : PW X e t) (f : ∀ σ H Q, t' σ H Q → t σ H Q) : PW X e t' := ⟨fun wh pins s σ H Q I q => h.run wh pins s σ H Q I (f σ H Q q)⟩
theorem pa_imp {es : List Expr} {t t' : TA} (h : PA X es t) (f : ∀ σ H Q, t' σ H Q → t σ H Q) : PA X es t' := ⟨fun ps pins s σ H Q I q => h.run ps pins s σ H Q I (f σ H Q q)⟩
end
abbrev G := DSt → Option R
abbrev GT := DSt → Option Bool
abbrev GA := DSt → Option (List R)
/-- values in a row -/
def RRL (K : KF) (B C H : Hp) : List R → List V → List Addr → Prop
  | [], vs, φ => vs = [] ∧ φ = []
  | r :: rs, vs, φ => ∃ (v : V) (us : List V) (φ1 φ2 : List Addr), vs = v :: us ∧ RR K B C H r v φ1 ∧ RRL K B C H rs us φ2 ∧ φ = φ1 ++ φ2
def tD (Tb : Pm) (K : KF) (g : G) : TE := fun σ H Q => ∃ (B C : Hp) (δ : DSt) (Φ : Nat → List Addr) (r : R), RSt Tb K B C σ H δ Φ ∧ g δ = some r ∧
  ∀ v H' φ, Same H H' → RR K B C H' r v φ → (∀ a ∈ φ, H a = none) → φ.Nodup → Q v H'
def tDT (Tb : Pm) (K : KF) (g : GT) : TT := fun σ H Q => ∃ (B C : Hp) (δ : DSt) (Φ : Nat → List Addr) (b : Bool), RSt Tb K B C σ H δ Φ ∧ g δ = some b ∧ ∀ H', Same H H' → Q b H'
def tDA (Tb : Pm) (K : KF) (g : GA) : TA := fun σ H Q => ∃ (B C : Hp) (δ : DSt) (Φ : Nat → List Addr) (rs : List R), RSt Tb K B C σ H δ Φ ∧ g δ = some rs ∧
  ∀ vs H' φ, Same H H' → RRL K B C H' rs vs φ → (∀ a ∈ φ, H a = none) → φ.Nodup → Q vs H'
/-- an expression's value by the slots' data -/
structure DE (Tb : Pm) (X : Cx) (e : Expr) (g : G) : Prop where
  pe : PE X e (tD Tb X.KK g)
structure DT (Tb : Pm) (X : Cx) (e : Expr) (g : GT) : Prop where
  pt : PT X e (tDT Tb X.KK g)
structure DW (Tb : Pm) (X : Cx) (e : Expr) (g : GT) : Prop where
  pw : PW X e (tDT Tb X.KK g)
structure DA (Tb : Pm) (X : Cx) (es : List Expr) (g : GA) : Prop where
  pa : PA X es (tDA Tb X.KK g)
section
variable {K : KF} {B C H H' : Hp}
theorem RR.trk {r : R} {v : V} {φ : List Addr} (h : RR K B C H r v φ) : ∀ a ∈ φ, ∃ o, H a = some o ∧ Mt o := (h.slOk (Tb := ⟨[], 0, fun _ => none, fun _ _ _ _ => False, []⟩)).trk
theorem RRL.same : ∀ {rs : List R} {vs : List V} {φ : List Addr}, Same H H' → RRL K B C H rs vs φ → RRL K B C H' rs vs φ
  | [], _, _, _, h => h
  | r :: rs, _, _, e, ⟨v, us, φ1, φ2, e1, q, k, e2⟩ => ⟨v, us, φ1, φ2, e1, q.same e, RRL.same e k, e2⟩
theorem RRL.trk : ∀ {rs : List R} {vs : List V} {φ : List Addr}, RRL K B C H rs vs φ → ∀ a ∈ φ, ∃ o, H a = some o ∧ Mt o
  | [], _, _, h => by rw [h.2]; exact fun a z => by cases z
  | r :: rs, _, _, ⟨v, us, φ1, φ2, e1, q, k, e2⟩ => by
    subst e2
    intro a ha
    rcases List.mem_append.mp ha with ha | ha
    · exact q.trk a ha
    · exact RRL.trk k a ha
theorem RRL.rp : ∀ {rs : List R} {vs : List V} {φ : List Addr}, Same B C → Same C H → RRL K B C H rs vs φ → RpL K H (rs.map R.d) vs
  | [], _, _, _, _, h => by rw [h.1]; simp [RpL]
  | r :: rs, _, _, bc, ch, ⟨v, us, φ1, φ2, e1, q, k, e2⟩ => by
    rw [List.map_cons]
    unfold RpL
    exact ⟨v, us, e1, q.rp bc ch, RRL.rp bc ch k⟩
/-- all are without lists -/
def allVal : List R → Bool
  | [] => true
  | .val _ :: rs => allVal rs
  | _ :: _ => false
/-- all are without lists, or our own -/
def allOwn : List R → Bool
  | [] => true
  | .val _ :: rs => allOwn rs
  | .own _ :: rs => allOwn rs
  | _ :: _ => false
theorem RRL.val : ∀ {rs : List R} {vs : List V} {φ : List Addr}, allVal rs = true → RRL K B C H rs vs φ → φ = [] ∧ puL (rs.map R.d) = true
  | [], _, _, _, h => ⟨h.2, by simp [puL]⟩
  | .val d :: rs, _, _, e, ⟨v, us, φ1, φ2, e1, q, k, e2⟩ => by
    obtain ⟨h1, h2⟩ := RRL.val (rs := rs) (by simpa [allVal] using e) k
    rw [e2, h1, q.1]
    exact ⟨rfl, by simp [puL, q.2.1, h2]⟩
  | .par _ :: _, _, _, e, _ => by cases e
  | .fr _ :: _, _, _, e, _ => by cases e
  | .bor _ :: _, _, _, e, _ => by cases e
  | .own _ :: _, _, _, e, _ => by cases e
theorem RRL.own : ∀ {rs : List R} {vs : List V} {φ : List Addr}, allOwn rs = true → RRL K B C H rs vs φ → OwL K H (rs.map R.d) vs φ
  | [], _, _, _, h => by rw [h.1, h.2]; simp [OwL]
  | .val d :: rs, _, _, e, ⟨v, us, φ1, φ2, e1, q, k, e2⟩ => by
    rw [List.map_cons]
    unfold OwL
    exact ⟨v, us, φ1, φ2, e1, by rw [q.1]; exact Ow.pu _ _ q.2.1 q.2.2, RRL.own (by simpa [allOwn] using e) k, e2⟩
  | .own d :: rs, _, _, e, ⟨v, us, φ1, φ2, e1, q, k, e2⟩ => by
    rw [List.map_cons]
    unfold OwL
    exact ⟨v, us, φ1, φ2, e1, q, RRL.own (by simpa [allOwn] using e) k, e2⟩
  | .par _ :: _, _, _, e, _ => by cases e
  | .fr _ :: _, _, _, e, _ => by cases e
  | .bor _ :: _, _, _, e, _ => by cases e
end

/-! ### names, constants -/
section
variable {X : Cx} {e a b c : Expr} {pos : Pos} {ga gb gc : G}
def gVar (i : Nat) : G := fun δ => (δ.getD i .no).rd
theorem de_var (i : Nat) {x : Str} {pos : Pos} (hN : X.N[i]? = some x := by rfl) (hv : Vis X.env.scope x := by first | exact Or.inl rfl | exact Or.inr (Or.inl rfl) | exact Or.inr (Or.inr rfl)) (hd : (x == ("__debug__" : Str)) = false := by decide)
    (hcd : (x == ("__classdict__" : Str)) = false := by decide) : DE Tb X (.Name x pos) (gVar i) := by
  refine ⟨pe_imp (pe_var hN hv hd hcd) fun σ H Q h => ?_⟩
  obtain ⟨B, C, δ, Φ, r, S, e, k⟩ := h
  obtain ⟨v, e1, q⟩ := S.rd e
  exact ⟨v, e1, k v H [] (Same.refl _) q (fun _ z => by cases z) List.nodup_nil⟩
def gC (d : D) : G := fun _ => some (.val d)
theorem de_c {d : D} {v : V} (h : PE X e (tC v)) (hp : pu d = true := by rfl) (hr : ∀ H, Rp X.KK H d v := by intro _; unfold Rp; rfl) : DE Tb X e (gC d) := by
  refine ⟨pe_imp h fun σ H Q h => ?_⟩
  obtain ⟨B, C, δ, Φ, r, S, e, k⟩ := h
  cases e
  exact k v H [] (Same.refl _) ⟨rfl, hp, hr _⟩ (fun _ z => by cases z) List.nodup_nil
theorem de_int {i j pos} : DE Tb X (.Constant (.int i) j pos) (gC (.int i)) := de_c pe_int
theorem de_bl {i j pos} : DE Tb X (.Constant (.bool i) j pos) (gC (.bl i)) := de_c pe_bl
theorem de_non {j pos} : DE Tb X (.Constant .none j pos) (gC .non) := de_c pe_non
theorem de_str {i j pos} : DE Tb X (.Constant (.str i) j pos) (gC (.str i)) := de_c pe_str
/-- an int of the module's -/
theorem de_gint {x : Str} {i : Int} {t : Tok} {pos : Pos} (hm : X.mg x = some (.int i t)) (hg : Gl X x := by rfl) (hd : (x == ("__debug__" : Str)) = false := by decide) : DE Tb X (.Name x pos) (gC (.int i)) := de_c (v := .int i) (pe_glob (v := .int i) hg hm ⟨t, rfl⟩ hd)

/-! ### operators by data -/
/-- an operator of two values, by data -/
def OpD (X : Cx) (f : Value → Value → Sem Value) (op : D → D → Option R) : Prop :=
  ∃ r : R2, OpR X f r ∧ ∀ (B C H : Hp) (x y : V) (Q : VK) (d e : D) (c : R), Rp X.KK H d x → Rp X.KK H e y → op d e = some c →
    (∀ v H' φ, Same H H' → RR X.KK B C H' c v φ → (∀ a ∈ φ, H a = none) → φ.Nodup → Q v H') → r x y H Q
def gOp (op : D → D → Option R) (ga gb : G) : G := fun δ => (ga δ).bind fun x => (gb δ).bind fun y => op x.d y.d
theorem gOp_some {op : D → D → Option R} {ga gb : G} {δ : DSt} {r : R} (h : gOp op ga gb δ = some r) : ∃ x y, ga δ = some x ∧ gb δ = some y ∧ op x.d y.d = some r := by
  unfold gOp at h
  cases e : ga δ with
  | none => rw [e] at h; cases h
  | some x =>
    cases e2 : gb δ with
    | none => rw [e, e2] at h; cases h
    | some y => rw [e, e2] at h; exact ⟨x, y, rfl, rfl, h⟩
/-- two operands, then what is wanted -/
theorem two {K : KF} {ga gb : G} {σ : L2.St} {H : Hp} {B C : Hp} {δ : DSt} {Φ : Nat → List Addr} {x y : R} {R2 : V → V → Hp → Prop} (S : RSt Tb K B C σ H δ Φ) (e1 : ga δ = some x) (e2 : gb δ = some y)
    (h : ∀ u w H', Same H H' → Rp K H' x.d u → Rp K H' y.d w → R2 u w H') : tD Tb K ga σ H fun u H1 => tD Tb K gb σ H1 fun w H2 => R2 u w H2 :=
  ⟨B, C, δ, Φ, x, S, e1, fun u H1 φ1 s1 q1 _ _ => ⟨B, C, δ, Φ, y, S.same s1, e2, fun w H2 φ2 s2 q2 _ _ =>
    h u w H2 (s1.trans s2) (Rp.mono s2 _ _ (q1.rp S.bc (S.ch.trans s1))) (q2.rp S.bc (S.ch.trans (s1.trans s2)))⟩⟩
theorem de_op {op : Operator} {p : D → D → Option R} (ho : OpD X (binaryOp op) p) (ha : DE Tb X a ga) (hb : DE Tb X b gb) : DE Tb X (.BinOp a op b pos) (gOp p ga gb) := by
  obtain ⟨r, hr, hp⟩ := ho
  refine ⟨pe_imp (pe_op hr ha.pe hb.pe) fun σ H Q h => ?_⟩
  obtain ⟨B, C, δ, Φ, c, S, e, k⟩ := h
  obtain ⟨x, y, e1, e2, e3⟩ := gOp_some e
  exact two S e1 e2 fun u w H' s q1 q2 => hp B C H' u w Q _ _ c q1 q2 e3 fun v H2 φ s2 q3 f n => k v H2 φ (s.trans s2) q3 (fun a ha => s.free (f a ha)) n
theorem de_cmp {op : CmpOp} {p : D → D → Option R} (ho : OpD X (compareOp op) p) (ha : DE Tb X a ga) (hb : DE Tb X b gb) (hm : behindInMarks op b = false := by first | exact nomark _ | rfl) : DE Tb X (.Compare a [op] [b] pos) (gOp p ga gb) := by
  obtain ⟨r, hr, hp⟩ := ho
  refine ⟨pe_imp (pe_cmpR hr ha.pe hb.pe hm) fun σ H Q h => ?_⟩
  obtain ⟨B, C, δ, Φ, c, S, e, k⟩ := h
  obtain ⟨x, y, e1, e2, e3⟩ := gOp_some e
  exact two S e1 e2 fun u w H' s q1 q2 => hp B C H' u w Q _ _ c q1 q2 e3 fun v H2 φ s2 q3 f n => k v H2 φ (s.trans s2) q3 (fun a ha => s.free (f a ha)) n
/-- the answer as a Bool -/
def asB : R → Option Bool
  | .val (.bl k) => some k
  | _ => none
theorem asB_some {r : R} {k : Bool} (h : asB r = some k) : r = .val (.bl k) := by
  unfold asB at h
  split at h
  · cases h; rfl
  · cases h
def gT (g : G) : GT := fun δ => (g δ).bind asB
theorem gT_some {g : G} {δ : DSt} {k : Bool} (h : gT g δ = some k) : g δ = some (.val (.bl k)) := by
  unfold gT at h
  cases e : g δ with
  | none => rw [e] at h; cases h
  | some x => rw [e] at h; rw [asB_some h]
theorem dt_cmp {op : CmpOp} {p : D → D → Option R} (ho : OpD X (compareOp op) p) (ha : DE Tb X a ga) (hb : DE Tb X b gb) (hm : behindInMarks op b = false := by first | exact nomark _ | rfl) : DT Tb X (.Compare a [op] [b] pos) (gT (gOp p ga gb)) := by
  obtain ⟨r, hr, hp⟩ := ho
  refine ⟨pt_imp (pt_cmpR hr ha.pe hb.pe hm) fun σ H Q h => ?_⟩
  obtain ⟨B, C, δ, Φ, c, S, e, k⟩ := h
  obtain ⟨x, y, e1, e2, e3⟩ := gOp_some (gT_some e)
  refine two S e1 e2 fun u w H' s q1 q2 => hp B C H' u w _ _ _ _ q1 q2 e3 fun v H2 φ s2 q3 f n => ⟨c, ?_, k H2 (s.trans s2)⟩
  have q := q3.2.2
  unfold Rp at q
  exact q
/-- a < b < c -/
def gChain (p q : D → D → Option R) (ga gb gc : G) : G := fun δ => (ga δ).bind fun x => (gb δ).bind fun y => (p x.d y.d).bind fun r => (asB r).bind fun k =>
  if k = true then (gc δ).bind fun z => q y.d z.d else some (.val (.bl false))
theorem gChain_some {p q : D → D → Option R} {δ : DSt} {r : R} (h : gChain p q ga gb gc δ = some r) : ∃ x y k, ga δ = some x ∧ gb δ = some y ∧ p x.d y.d = some (.val (.bl k)) ∧
    ((k = true ∧ ∃ z, gc δ = some z ∧ q y.d z.d = some r) ∨ (k = false ∧ r = .val (.bl false))) := by
  unfold gChain at h
  cases e : ga δ with
  | none => rw [e] at h; cases h
  | some x =>
    cases e2 : gb δ with
    | none => rw [e, e2] at h; cases h
    | some y =>
      rw [e, e2] at h
      simp only [Option.bind_some] at h
      cases e3 : p x.d y.d with
      | none => rw [e3] at h; cases h
      | some w =>
        rw [e3] at h
        simp only [Option.bind_some] at h
        cases e4 : asB w with
        | none => rw [e4] at h; cases h
        | some k =>
          rw [e4] at h
          simp only [Option.bind_some] at h
          rw [asB_some e4] at e3
          refine ⟨x, y, k, rfl, rfl, e3, ?_⟩
          cases k with
          | false => rw [if_neg (by decide)] at h; exact .inr ⟨rfl, (Option.some.inj h).symm⟩
          | true =>
            rw [if_pos rfl] at h
            cases e5 : gc δ with
            | none => rw [e5] at h; cases h
            | some z => rw [e5] at h; exact .inl ⟨rfl, z, rfl, h⟩
theorem chain_use {p q : D → D → Option R} {r1 r2 : R2} (hp : ∀ (B C H : Hp) (x y : V) (Q : VK) (d e : D) (c : R), Rp X.KK H d x → Rp X.KK H e y → p d e = some c →
    (∀ v H' φ, Same H H' → RR X.KK B C H' c v φ → (∀ a ∈ φ, H a = none) → φ.Nodup → Q v H') → r1 x y H Q)
    (hq : ∀ (B C H : Hp) (x y : V) (Q : VK) (d e : D) (c : R), Rp X.KK H d x → Rp X.KK H e y → q d e = some c →
    (∀ v H' φ, Same H H' → RR X.KK B C H' c v φ → (∀ a ∈ φ, H a = none) → φ.Nodup → Q v H') → r2 x y H Q)
    {σ : L2.St} {H : Hp} {Q : VK} (h : tD Tb X.KK (gChain p q ga gb gc) σ H Q) : tChain r1 r2 (tD Tb X.KK ga) (tD Tb X.KK gb) (tD Tb X.KK gc) σ H Q := by
  obtain ⟨B, C, δ, Φ, c, S, e, k⟩ := h
  obtain ⟨x, y, b, e1, e2, e3, e4⟩ := gChain_some e
  refine ⟨B, C, δ, Φ, x, S, e1, fun u H1 φ1 s1 q1 _ _ => ⟨B, C, δ, Φ, y, S.same s1, e2, fun w H2 φ2 s2 q2 _ _ => ?_⟩⟩
  have s12 := s1.trans s2
  refine hp B C H2 u w _ _ _ _ (Rp.mono s2 _ _ (q1.rp S.bc (S.ch.trans s1))) (q2.rp S.bc (S.ch.trans s12)) e3 fun v H3 φ3 s3 q3 _ _ => ⟨b, ?_, ?_⟩
  · have q := q3.2.2
    unfold Rp at q
    exact q
  · have s13 := s12.trans s3
    rcases e4 with ⟨rfl, z, e5, e6⟩ | ⟨rfl, rfl⟩
    · rw [if_pos rfl]
      refine ⟨B, C, δ, Φ, z, S.same s13, e5, fun o H4 φ4 s4 q4 _ _ => ?_⟩
      have s14 := s13.trans s4
      exact hq B C H4 w o Q _ _ _ (Rp.mono (s3.trans s4) _ _ (q2.rp S.bc (S.ch.trans s12))) (q4.rp S.bc (S.ch.trans s14)) e6 fun v' H5 φ5 s5 q5 f n => k v' H5 φ5 (s14.trans s5) q5 (fun a ha => s14.free (f a ha)) n
    · rw [if_neg (by decide)]
      exact k _ H3 [] s13 ⟨rfl, rfl, by unfold Rp; rfl⟩ (fun _ z => by cases z) List.nodup_nil
theorem de_chain {op op' : CmpOp} {p q : D → D → Option R} (ho : OpD X (compareOp op) p) (ho' : OpD X (compareOp op') q) (ha : DE Tb X a ga) (hb : DE Tb X b gb) (hc : DE Tb X c gc)
    (hm : lastMarks [op, op'] [b, c] = false := by with_unfolding_all rfl) : DE Tb X (.Compare a [op, op'] [b, c] pos) (gChain p q ga gb gc) := by
  obtain ⟨r1, h1, hp⟩ := ho
  obtain ⟨r2, h2, hq⟩ := ho'
  exact ⟨pe_imp (pe_chain h1 h2 ha.pe hb.pe hc.pe hm) fun σ H Q h => chain_use hp hq h⟩
theorem tD_test {K : KF} {g : G} {σ : L2.St} {H : Hp} {Q : Bool → Hp → Prop} (h : tDT Tb K (gT g) σ H Q) : tD Tb K g σ H fun x H' => ∃ k, x = V.bl k ∧ Q k H' := by
  obtain ⟨B, C, δ, Φ, c, S, e, k⟩ := h
  refine ⟨B, C, δ, Φ, _, S, gT_some e, fun v H' φ s q _ _ => ⟨c, ?_, k H' s⟩⟩
  have q := q.2.2
  unfold Rp at q
  exact q
theorem dt_chain {op op' : CmpOp} {p q : D → D → Option R} (ho : OpD X (compareOp op) p) (ho' : OpD X (compareOp op') q) (ha : DE Tb X a ga) (hb : DE Tb X b gb) (hc : DE Tb X c gc)
    (hm : lastMarks [op, op'] [b, c] = false := by with_unfolding_all rfl) : DT Tb X (.Compare a [op, op'] [b, c] pos) (gT (gChain p q ga gb gc)) := by
  obtain ⟨r1, h1, hp⟩ := ho
  obtain ⟨r2, h2, hq⟩ := ho'
  exact ⟨pt_imp (pt_chain h1 h2 ha.pe hb.pe hc.pe hm) fun σ H Q h => chain_use hp hq (tD_test h)⟩

/-! ### truth, and, or, not -/
def tru : D → Option Bool
  | .non => some false
  | .bl b => some b
  | .int i => some (i != 0)
  | .str y => if y.length ≤ sizeLine then some ((y.length : Int) != 0) else none
  | .tup ds => some (!ds.isEmpty)
  | .lst ds => some (!ds.isEmpty)
  | .scr ns => some (!ns.isEmpty)
  | .dct _ _ => none
  | .set _ _ => none
theorem tru_v {K : KF} {H : Hp} {d : D} {v : V} {k : Bool} (h : Rp K H d v) (e : tru d = some k) : TruV K v H k := by
  cases d with
  | non => unfold Rp at h; subst h; cases e; rfl
  | bl b => unfold Rp at h; subst h; cases e; rfl
  | int i => unfold Rp at h; subst h; cases e; rfl
  | str y =>
    unfold Rp at h; subst h
    have e : (if y.length ≤ sizeLine then some ((y.length : Int) != 0) else none) = some k := e
    by_cases hl : y.length ≤ sizeLine
    · rw [if_pos hl] at e; cases e; exact ⟨hl, rfl⟩
    · rw [if_neg hl] at e; cases e
  | tup ds =>
    unfold Rp at h
    obtain ⟨a, xs, rfl, q, r⟩ := h
    cases e
    refine .inr (.inl ⟨xs, q, ?_⟩)
    have := r.length
    cases xs <;> cases ds <;> simp_all
  | lst ds =>
    unfold Rp at h
    obtain ⟨a, xs, rfl, q, r⟩ := h
    cases e
    refine .inl ⟨xs, SqL.of q, ?_⟩
    have := r.length
    cases xs <;> cases ds <;> simp_all
  | scr ns =>
    unfold Rp at h
    obtain ⟨a, rfl, q⟩ := h
    cases e
    exact .inl ⟨_, q, by cases ns <;> rfl⟩
  | dct ks vs => cases e
  | set _ ks => cases e
/-- a test by the value's truth -/
def gTru (g : G) : GT := fun δ => (g δ).bind fun r => tru r.d
theorem gTru_some {g : G} {δ : DSt} {k : Bool} (h : gTru g δ = some k) : ∃ r, g δ = some r ∧ tru r.d = some k := by
  unfold gTru at h
  cases e : g δ with
  | none => rw [e] at h; cases h
  | some x => rw [e] at h; exact ⟨x, rfl, h⟩
theorem dt_tru (ha : DE Tb X a ga) (he : ∀ whole, isTrue a X.env whole = (do let v ← whole; standAt a.pos; holding [v] (truthy v)) := by intro _; rfl) : DT Tb X a (gTru ga) := by
  refine ⟨pt_imp (pt_truth ha.pe he) fun σ H Q h => ?_⟩
  obtain ⟨B, C, δ, Φ, c, S, e, k⟩ := h
  obtain ⟨r, e1, e2⟩ := gTru_some e
  exact ⟨B, C, δ, Φ, r, S, e1, fun v H' φ s q _ _ => ⟨c, tru_v (q.rp S.bc (S.ch.trans s)) e2, k H' s⟩⟩
def gNotT (g : GT) : GT := fun δ => (g δ).map (!·)
theorem dt_not {g : GT} (ha : DT Tb X a g) : DT Tb X (.UnaryOp .Not a pos) (gNotT g) := by
  refine ⟨pt_imp (pt_not ha.pt) fun σ H Q h => ?_⟩
  obtain ⟨B, C, δ, Φ, c, S, e, k⟩ := h
  unfold gNotT at e
  cases e1 : g δ with
  | none => rw [e1] at e; cases e
  | some b =>
    rw [e1] at e
    cases e
    exact ⟨B, C, δ, Φ, b, S, e1, fun H' s => k H' s⟩
variable {rest : List Expr} {g1 g2 : GT}
def gAndT (g1 g2 : GT) : GT := fun δ => (g1 δ).bind fun k => if k = true then g2 δ else some false
def gOrT (g1 g2 : GT) : GT := fun δ => (g1 δ).bind fun k => if k = true then some true else g2 δ
theorem DW.dt (h : DW Tb X e g1) : DT Tb X e g1 := ⟨h.pw.pt⟩
theorem dw_and1 (ha : DT Tb X a g1) : DW Tb X (.BoolOp .And [a] pos) g1 := ⟨pw_and1 ha.pt⟩
theorem dw_or1 (ha : DT Tb X a g1) : DW Tb X (.BoolOp .Or [a] pos) g1 := ⟨pw_or1 ha.pt⟩
theorem dw_and (ha : DT Tb X a g1) (hb : DW Tb X (.BoolOp .And (b :: rest) pos) g2) : DW Tb X (.BoolOp .And (a :: b :: rest) pos) (gAndT g1 g2) := by
  refine ⟨pw_imp (pw_and ha.pt hb.pw) fun σ H Q h => ?_⟩
  obtain ⟨B, C, δ, Φ, c, S, e, k⟩ := h
  unfold gAndT at e
  cases e1 : g1 δ with
  | none => rw [e1] at e; cases e
  | some x =>
    rw [e1] at e
    refine ⟨B, C, δ, Φ, x, S, e1, fun H' s => ?_⟩
    cases x with
    | true => rw [if_pos rfl]; exact ⟨B, C, δ, Φ, c, S.same s, e, fun H2 s2 => k H2 (s.trans s2)⟩
    | false => rw [if_neg (by decide)]; cases e; exact k H' s
theorem dw_or (ha : DT Tb X a g1) (hb : DW Tb X (.BoolOp .Or (b :: rest) pos) g2) : DW Tb X (.BoolOp .Or (a :: b :: rest) pos) (gOrT g1 g2) := by
  refine ⟨pw_imp (pw_or ha.pt hb.pw) fun σ H Q h => ?_⟩
  obtain ⟨B, C, δ, Φ, c, S, e, k⟩ := h
  unfold gOrT at e
  cases e1 : g1 δ with
  | none => rw [e1] at e; cases e
  | some x =>
    rw [e1] at e
    refine ⟨B, C, δ, Φ, x, S, e1, fun H' s => ?_⟩
    cases x with
    | true => rw [if_pos rfl]; cases e; exact k H' s
    | false => rw [if_neg (by decide)]; exact ⟨B, C, δ, Φ, c, S.same s, e, fun H2 s2 => k H2 (s.trans s2)⟩
/-- as values -/
def gAnd (ga gb : G) : G := fun δ => (ga δ).bind fun x => (tru x.d).bind fun k => if k = true then gb δ else some x
def gOr (ga gb : G) : G := fun δ => (ga δ).bind fun x => (tru x.d).bind fun k => if k = true then some x else gb δ
def gNot (ga : G) : G := fun δ => (ga δ).bind fun x => (tru x.d).bind fun k => some (.val (.bl (!k)))
theorem de_one {op} (h : DE Tb X a ga) : DE Tb X (.BoolOp op [a] pos) ga := ⟨pe_one h.pe⟩
theorem de_and (ha : DE Tb X a ga) (hb : DE Tb X (.BoolOp .And (b :: rest) pos) gb) : DE Tb X (.BoolOp .And (a :: b :: rest) pos) (gAnd ga gb) := by
  refine ⟨pe_imp (pe_andT ha.pe hb.pe) fun σ H Q h => ?_⟩
  obtain ⟨B, C, δ, Φ, c, S, e, k⟩ := h
  unfold gAnd at e
  cases e1 : ga δ with
  | none => rw [e1] at e; cases e
  | some x =>
    rw [e1] at e
    simp only [Option.bind_some] at e
    cases e2 : tru x.d with
    | none => rw [e2] at e; cases e
    | some t =>
      rw [e2] at e
      simp only [Option.bind_some] at e
      refine ⟨B, C, δ, Φ, x, S, e1, fun v H' φ s q f n => ⟨t, tru_v (q.rp S.bc (S.ch.trans s)) e2, ?_⟩⟩
      cases t with
      | true => rw [if_pos rfl] at e ⊢; exact ⟨B, C, δ, Φ, c, S.same s, e, fun v2 H2 φ2 s2 q2 f2 n2 => k v2 H2 φ2 (s.trans s2) q2 (fun a ha => s.free (f2 a ha)) n2⟩
      | false => rw [if_neg (by decide)] at e ⊢; cases e; exact k v H' φ s q f n
theorem de_or (ha : DE Tb X a ga) (hb : DE Tb X (.BoolOp .Or (b :: rest) pos) gb) : DE Tb X (.BoolOp .Or (a :: b :: rest) pos) (gOr ga gb) := by
  refine ⟨pe_imp (pe_orT ha.pe hb.pe) fun σ H Q h => ?_⟩
  obtain ⟨B, C, δ, Φ, c, S, e, k⟩ := h
  unfold gOr at e
  cases e1 : ga δ with
  | none => rw [e1] at e; cases e
  | some x =>
    rw [e1] at e
    simp only [Option.bind_some] at e
    cases e2 : tru x.d with
    | none => rw [e2] at e; cases e
    | some t =>
      rw [e2] at e
      simp only [Option.bind_some] at e
      refine ⟨B, C, δ, Φ, x, S, e1, fun v H' φ s q f n => ⟨t, tru_v (q.rp S.bc (S.ch.trans s)) e2, ?_⟩⟩
      cases t with
      | false => rw [if_neg (by decide)] at e ⊢; exact ⟨B, C, δ, Φ, c, S.same s, e, fun v2 H2 φ2 s2 q2 f2 n2 => k v2 H2 φ2 (s.trans s2) q2 (fun a ha => s.free (f2 a ha)) n2⟩
      | true => rw [if_pos rfl] at e ⊢; cases e; exact k v H' φ s q f n
theorem de_not (ha : DE Tb X a ga) : DE Tb X (.UnaryOp .Not a pos) (gNot ga) := by
  refine ⟨pe_imp (pe_notT ha.pe) fun σ H Q h => ?_⟩
  obtain ⟨B, C, δ, Φ, c, S, e, k⟩ := h
  unfold gNot at e
  cases e1 : ga δ with
  | none => rw [e1] at e; cases e
  | some x =>
    rw [e1] at e
    simp only [Option.bind_some] at e
    cases e2 : tru x.d with
    | none => rw [e2] at e; cases e
    | some t =>
      rw [e2] at e
      cases e
      exact ⟨B, C, δ, Φ, x, S, e1, fun v H' φ s q f n => ⟨t, tru_v (q.rp S.bc (S.ch.trans s)) e2, k _ H' [] s ⟨rfl, rfl, by unfold Rp; rfl⟩ (fun _ z => by cases z) List.nodup_nil⟩⟩
def gIfE (c : GT) (ga gb : G) : G := fun δ => (c δ).bind fun k => if k = true then ga δ else gb δ
theorem de_if {gc : GT} (hc : DT Tb X c gc) (ha : DE Tb X a ga) (hb : DE Tb X b gb) : DE Tb X (.IfExp c a b pos) (gIfE gc ga gb) := by
  refine ⟨pe_imp (pe_ifExp hc.pt ha.pe hb.pe) fun σ H Q h => ?_⟩
  obtain ⟨B, C, δ, Φ, r, S, e, k⟩ := h
  unfold gIfE at e
  cases e1 : gc δ with
  | none => rw [e1] at e; cases e
  | some t =>
    rw [e1] at e
    simp only [Option.bind_some] at e
    refine ⟨B, C, δ, Φ, t, S, e1, fun H' s => ?_⟩
    cases t with
    | true => rw [if_pos rfl] at e ⊢; exact ⟨B, C, δ, Φ, r, S.same s, e, fun v2 H2 φ2 s2 q2 f2 n2 => k v2 H2 φ2 (s.trans s2) q2 (fun a ha => s.free (f2 a ha)) n2⟩
    | false => rw [if_neg (by decide)] at e ⊢; exact ⟨B, C, δ, Φ, r, S.same s, e, fun v2 H2 φ2 s2 q2 f2 n2 => k v2 H2 φ2 (s.trans s2) q2 (fun a ha => s.free (f2 a ha)) n2⟩
end
end DL

set_option Elab.async false
set_option linter.all false
set_option maxRecDepth 100000
set_option maxHeartbeats 4000000
/-! D3: operators, subscripts, displays, calls over plain data. -/
namespace DL
open PySem PySem.Spec PyProof.Rows L2
variable {Tb : Pm}
mutual
/-- no dict, no set within -/
def hd : D → Bool
  | .tup ds => hdL ds
  | .lst ds => hdL ds
  | .dct _ _ => false
  | .set _ _ => false
  | .non => true
  | .bl _ => true
  | .int _ => true
  | .str _ => true
  | .scr _ => true
def hdL : List D → Bool
  | [] => true
  | d :: ds => hd d && hdL ds
end
mutual
theorem hd_of_pu : ∀ d : D, pu d = true → hd d = true
  | .non, _ => by unfold hd; rfl
  | .bl _, _ => by unfold hd; rfl
  | .int _, _ => by unfold hd; rfl
  | .str _, _ => by unfold hd; rfl
  | .scr _, _ => by unfold hd; rfl
  | .tup ds, h => by unfold pu at h; unfold hd; exact hdL_of_puL ds h
  | .lst ds, h => by unfold pu at h; cases h
  | .dct _ _, h => by unfold pu at h; cases h
  | .set _ _, h => by unfold pu at h; cases h
theorem hdL_of_puL : ∀ ds : List D, puL ds = true → hdL ds = true
  | [], _ => by unfold hdL; rfl
  | d :: ds, h => by
    unfold puL at h
    rw [Bool.and_eq_true] at h
    unfold hdL
    rw [hd_of_pu d h.1, hdL_of_puL ds h.2]; rfl
end
mutual
def pd : D → PyData
  | .non => .none
  | .bl b => .bool b
  | .int i => .int i
  | .str x => .str x
  | .tup ds => .tuple (pdL ds)
  | .lst ds => .list (pdL ds)
  | .scr ns => .list (ns.map .int)
  | .dct _ _ => .none
  | .set _ _ => .none
def pdL : List D → List PyData
  | [] => []
  | d :: ds => pd d :: pdL ds
end
section
variable {K : KF} {B C H H' : Hp}
theorem intsDp : ∀ ns : List Int, DpAll K H (ns.map V.int) (ns.map PyData.int)
  | [] => .nil
  | n :: ns => .cons (.int n) (intsDp ns)
mutual
theorem Rp.dp : ∀ (d : D) (v : V), hd d = true → Rp K H d v → Dp K H v (pd d)
  | .non, _, _, h => by unfold Rp at h; subst h; unfold pd; exact .non
  | .bl _, _, _, h => by unfold Rp at h; subst h; unfold pd; exact .bl _
  | .int _, _, _, h => by unfold Rp at h; subst h; unfold pd; exact .int _
  | .str _, _, _, h => by unfold Rp at h; subst h; unfold pd; exact .str _
  | .tup ds, _, z, h => by
    unfold Rp at h; unfold pd
    obtain ⟨a, xs, rfl, q, r⟩ := h
    exact .tup q (RpL.dp ds xs (by unfold hd at z; exact z) r)
  | .lst ds, _, z, h => by
    unfold Rp at h; unfold pd
    obtain ⟨a, xs, rfl, q, r⟩ := h
    exact .lst (SqL.of q) (RpL.dp ds xs (by unfold hd at z; exact z) r)
  | .scr ns, _, _, h => by
    unfold Rp at h; unfold pd
    obtain ⟨a, rfl, q⟩ := h
    exact .lst q (intsDp ns)
  | .dct _ _, _, z, _ => by unfold hd at z; cases z
  | .set _ _, _, z, _ => by unfold hd at z; cases z
theorem RpL.dp : ∀ (ds : List D) (vs : List V), hdL ds = true → RpL K H ds vs → DpAll K H vs (pdL ds)
  | [], _, _, h => by unfold RpL at h; subst h; unfold pdL; exact .nil
  | d :: ds, _, z, h => by
    unfold hdL at z
    rw [Bool.and_eq_true] at z
    unfold RpL at h; unfold pdL
    obtain ⟨x, ys, rfl, q, r⟩ := h
    exact .cons (Rp.dp d x z.1 q) (RpL.dp ds ys z.2 r)
end
theorem rr_bl {b : Bool} : RR K B C H (.val (.bl b)) (.bl b) [] := ⟨rfl, rfl, by unfold Rp; rfl⟩
theorem rr_int {i : Int} : RR K B C H (.val (.int i)) (.int i) [] := ⟨rfl, rfl, by unfold Rp; rfl⟩
theorem rr_str {i : Str} : RR K B C H (.val (.str i)) (.str i) [] := ⟨rfl, rfl, by unfold Rp; rfl⟩
theorem rr_non : RR K B C H (.val .non) .non [] := ⟨rfl, rfl, by unfold Rp; rfl⟩
end
theorem same_upd {H : Hp} {p : Addr} {o : HO} (h : H p = none) : Same H (upd H p o) := Same.of fun b u e => by
  rw [upd_ne (ne_of_none e h)]; exact e
theorem OpR.or {X : Cx} {f : Value → Value → Sem Value} {r r' : R2} (h : OpR X f r) (h' : OpR X f r') : OpR X f (fun x y H Q => r x y H Q ∨ r' x y H Q) := by
  intro pins s σ H x y v u Q I rx ry q
  rcases q with q | q
  · exact h pins s σ H x y v u Q I rx ry q
  · exact h' pins s σ H x y v u Q I rx ry q
/-- equality -/
def eqOk (d : D) : Bool := hd d && SeqAt.shaped (pd d)
theorem eqOk_hd {d : D} (h : eqOk d = true) : hd d = true := (Bool.and_eq_true_iff.mp h).1
theorem eqOk_sh {d : D} (h : eqOk d = true) : SeqAt.shaped (pd d) = true := (Bool.and_eq_true_iff.mp h).2
def eqB (d e : D) : Bool := PyData.eqv (pd d) (pd e)
def eqD (d e : D) : Option R := if eqOk d = true ∧ eqOk e = true then some (.val (.bl (eqB d e))) else none
def neD (d e : D) : Option R := if eqOk d = true ∧ eqOk e = true then some (.val (.bl (!eqB d e))) else none
section
variable {X : Cx}
theorem no_fresh {H : Hp} : ∀ a ∈ ([] : List Addr), H a = none := fun _ z => by cases z
theorem od_eq {k : Nat} (hr : Room k X.A) : OpD X (compareOp .Eq) eqD := by
  refine ⟨_, op_eqD hr.units, fun B C H x y Q d e c hx hy h k => ?_⟩
  unfold eqD at h
  split at h
  · rename_i hz
    cases h
    exact ⟨pd d, pd e, Rp.dp _ _ (eqOk_hd hz.1) hx, Rp.dp _ _ (eqOk_hd hz.2) hy, eqOk_sh hz.1, eqOk_sh hz.2, k _ H [] (Same.refl _) rr_bl no_fresh List.nodup_nil⟩
  · cases h
theorem od_ne {k : Nat} (hr : Room k X.A) : OpD X (compareOp .NotEq) neD := by
  refine ⟨_, op_neD hr.units, fun B C H x y Q d e c hx hy h k => ?_⟩
  unfold neD at h
  split at h
  · rename_i hz
    cases h
    exact ⟨pd d, pd e, Rp.dp _ _ (eqOk_hd hz.1) hx, Rp.dp _ _ (eqOk_hd hz.2) hy, eqOk_sh hz.1, eqOk_sh hz.2, k _ H [] (Same.refl _) rr_bl no_fresh List.nodup_nil⟩
  · cases h
/-- two ints -/
def iiD (f : Int → Int → Option D) : D → D → Option R
  | .int i, .int j => (f i j).map .val
  | _, _ => none
theorem iiD_some {f : Int → Int → Option D} {d e : D} {c : R} (h : iiD f d e = some c) : ∃ i j z, d = .int i ∧ e = .int j ∧ f i j = some z ∧ c = .val z := by
  unfold iiD at h
  split at h
  · rename_i i j
    cases q : f i j with
    | none => rw [q] at h; cases h
    | some z => rw [q] at h; cases h; exact ⟨i, j, z, rfl, rfl, q, rfl⟩
  · cases h
def ltI : D → D → Option R := iiD fun i j => some (.bl (decide (i < j)))
def leD : D → D → Option R := iiD fun i j => some (.bl (decide (i ≤ j)))
def gtD : D → D → Option R := iiD fun i j => some (.bl (decide (j < i)))
def geD : D → D → Option R := iiD fun i j => some (.bl (decide (j ≤ i)))
def subD : D → D → Option R := iiD fun i j => some (.int (i - j))
def mulI : D → D → Option R := iiD fun i j => if (-(2 ^ 64) < i ∧ i < 2 ^ 64) ∨ (-(2 ^ 64) < j ∧ j < 2 ^ 64) then some (.int (i * j)) else none
def fdivD : D → D → Option R := iiD fun i j => if 0 < j ∧ j < 1073741824 then some (.int (i / j)) else none
def modD : D → D → Option R := iiD fun i j => if 0 < j then some (.int (i % j)) else none
def powD : D → D → Option R := iiD fun i j => if 0 ≤ j ∧ j ≤ 1000000 ∧ i.natAbs < 2 ^ 64 then some (.int (i ^ j.toNat)) else none
theorem rp_int {K : KF} {H : Hp} {i : Int} {v : V} (h : Rp K H (.int i) v) : v = .int i := by unfold Rp at h; exact h
theorem rp_str {K : KF} {H : Hp} {i : Str} {v : V} (h : Rp K H (.str i) v) : v = .str i := by unfold Rp at h; exact h
theorem rp_non {K : KF} {H : Hp} {v : V} (h : Rp K H .non v) : v = .non := by unfold Rp at h; exact h
theorem rp_bl {K : KF} {H : Hp} {i : Bool} {v : V} (h : Rp K H (.bl i) v) : v = .bl i := by unfold Rp at h; exact h
theorem od_le : OpD X (compareOp .LtE) leD := by
  refine ⟨_, op_le, fun B C H x y Q d e c hx hy h k => ?_⟩
  obtain ⟨i, j, z, rfl, rfl, hz, rfl⟩ := iiD_some h
  cases hz
  exact ⟨i, j, rp_int hx, rp_int hy, k _ H [] (Same.refl _) rr_bl no_fresh List.nodup_nil⟩
theorem od_gt : OpD X (compareOp .Gt) gtD := by
  refine ⟨_, op_gt, fun B C H x y Q d e c hx hy h k => ?_⟩
  obtain ⟨i, j, z, rfl, rfl, hz, rfl⟩ := iiD_some h
  cases hz
  exact ⟨i, j, rp_int hx, rp_int hy, k _ H [] (Same.refl _) rr_bl no_fresh List.nodup_nil⟩
theorem od_ge : OpD X (compareOp .GtE) geD := by
  refine ⟨_, op_ge, fun B C H x y Q d e c hx hy h k => ?_⟩
  obtain ⟨i, j, z, rfl, rfl, hz, rfl⟩ := iiD_some h
  cases hz
  exact ⟨i, j, rp_int hx, rp_int hy, k _ H [] (Same.refl _) rr_bl no_fresh List.nodup_nil⟩
theorem od_sub : OpD X (binaryOp .Sub) subD := by
  refine ⟨_, op_sub, fun B C H x y Q d e c hx hy h k => ?_⟩
  obtain ⟨i, j, z, rfl, rfl, hz, rfl⟩ := iiD_some h
  cases hz
  exact ⟨i, j, rp_int hx, rp_int hy, k _ H [] (Same.refl _) rr_int no_fresh List.nodup_nil⟩
theorem od_fdiv : OpD X (binaryOp .FloorDiv) fdivD := by
  refine ⟨_, op_fdiv, fun B C H x y Q d e c hx hy h k => ?_⟩
  obtain ⟨i, j, z, rfl, rfl, hz, rfl⟩ := iiD_some h
  split at hz
  · rename_i hm
    cases hz
    exact ⟨i, j, rp_int hx, rp_int hy, hm, k _ H [] (Same.refl _) rr_int no_fresh List.nodup_nil⟩
  · cases hz
theorem od_mod : OpD X (binaryOp .Mod) modD := by
  refine ⟨_, op_mod, fun B C H x y Q d e c hx hy h k => ?_⟩
  obtain ⟨i, j, z, rfl, rfl, hz, rfl⟩ := iiD_some h
  split at hz
  · rename_i hm
    cases hz
    exact ⟨i, j, rp_int hx, rp_int hy, hm, k _ H [] (Same.refl _) rr_int no_fresh List.nodup_nil⟩
  · cases hz
theorem od_pow : OpD X (binaryOp .Pow) powD := by
  refine ⟨_, op_pow, fun B C H x y Q d e c hx hy h k => ?_⟩
  obtain ⟨i, j, z, rfl, rfl, hz, rfl⟩ := iiD_some h
  split at hz
  · rename_i hm
    cases hz
    exact ⟨i, j, rp_int hx, rp_int hy, hm, k _ H [] (Same.refl _) rr_int no_fresh List.nodup_nil⟩
  · cases hz
/-- all ints -/
def intL : List D → Option (List Int)
  | [] => some []
  | .int i :: ds => (intL ds).map (i :: ·)
  | _ :: _ => none
theorem intL_some {K : KF} {H : Hp} : ∀ {ds : List D} {ns : List Int} {xs : List V}, intL ds = some ns → RpL K H ds xs → xs = ns.map V.int
  | [], _, _, h, r => by cases h; unfold RpL at r; rw [r]; rfl
  | .int i :: ds, _, _, h, r => by
    unfold intL at h
    cases q : intL ds with
    | none => rw [q] at h; cases h
    | some ms =>
      rw [q] at h; cases h
      unfold RpL at r
      obtain ⟨x, ys, rfl, r1, r2⟩ := r
      rw [rp_int r1, intL_some q r2]; rfl
  | .non :: _, _, _, h, _ => by cases h
  | .bl _ :: _, _, _, h, _ => by cases h
  | .str _ :: _, _, _, h, _ => by cases h
  | .tup _ :: _, _, _, h, _ => by cases h
  | .lst _ :: _, _, _, h, _ => by cases h
  | .scr _ :: _, _, _, h, _ => by cases h
  | .dct _ _ :: _, _, _, h, _ => by cases h
  | .set _ _ :: _, _, _, h, _ => by cases h
def ltD (d e : D) : Option R := match d, e with
  | .int i, .int j => some (.val (.bl (decide (i < j))))
  | .tup ds, .tup es => (intL ds).bind fun ns => (intL es).map fun ms => .val (.bl (HT.lexLt ns ms))
  | _, _ => none
theorem od_lt {k : Nat} (hr : Room k X.A) : OpD X (compareOp .Lt) ltD := by
  refine ⟨_, OpR.or op_lt (op_ltT hr.units0), fun B C H x y Q d e c hx hy h k => ?_⟩
  unfold ltD at h
  split at h
  · rename_i i j
    cases h
    exact .inl ⟨i, j, rp_int hx, rp_int hy, k _ H [] (Same.refl _) rr_bl no_fresh List.nodup_nil⟩
  · rename_i ds es
    cases e1 : intL ds with
    | none => rw [e1] at h; cases h
    | some ns =>
      cases e2 : intL es with
      | none => rw [e1, e2] at h; cases h
      | some ms =>
        rw [e1, e2] at h
        cases h
        unfold Rp at hx hy
        obtain ⟨a, xs, rfl, q1, r1⟩ := hx
        obtain ⟨b, ys, rfl, q2, r2⟩ := hy
        rw [intL_some e1 r1] at q1
        rw [intL_some e2 r2] at q2
        exact .inr ⟨a, b, ns, ms, rfl, rfl, q1, q2, k _ H [] (Same.refl _) rr_bl no_fresh List.nodup_nil⟩
  · cases h
def isNon : D → Bool
  | .non => true
  | _ => false
def isN (d e : D) : Option R := match e with
  | .non => some (.val (.bl (isNon d)))
  | _ => none
def notN (d e : D) : Option R := match e with
  | .non => some (.val (.bl (!isNon d)))
  | _ => none
theorem non_iff {K : KF} {H : Hp} {d : D} {v : V} (h : Rp K H d v) : decide (v = V.non) = isNon d := by
  cases d with
  | non => unfold Rp at h; subst h; rfl
  | bl => unfold Rp at h; subst h; rfl
  | int => unfold Rp at h; subst h; rfl
  | str => unfold Rp at h; subst h; rfl
  | tup => unfold Rp at h; obtain ⟨a, xs, rfl, _⟩ := h; rfl
  | lst => unfold Rp at h; obtain ⟨a, xs, rfl, _⟩ := h; rfl
  | scr => unfold Rp at h; obtain ⟨a, rfl, _⟩ := h; rfl
  | dct => unfold Rp at h; obtain ⟨a, ws, rfl, _⟩ := h; rfl
  | set => unfold Rp at h; obtain ⟨a, rfl, _⟩ := h; rfl
theorem od_is : OpD X (compareOp .Is) isN := by
  refine ⟨_, op_isN, fun B C H x y Q d e c hx hy h k => ?_⟩
  unfold isN at h
  split at h
  · cases h
    refine ⟨rp_non hy, ?_⟩
    rw [non_iff hx]
    exact k _ H [] (Same.refl _) rr_bl no_fresh List.nodup_nil
  · cases h
theorem od_isnot : OpD X (compareOp .IsNot) notN := by
  refine ⟨_, op_notN, fun B C H x y Q d e c hx hy h k => ?_⟩
  unfold notN at h
  split at h
  · cases h
    refine ⟨rp_non hy, ?_⟩
    rw [non_iff hx]
    exact k _ H [] (Same.refl _) rr_bl no_fresh List.nodup_nil
  · cases h
/-- a datum that nobody may change through us -/
def mkR (d : D) : R := if pu d = true then .val d else .bor d
theorem mkR_pu {d : D} (h : pu d = true) : mkR d = .val d := if_pos h
theorem rr_mk {K : KF} {B C H : Hp} {d : D} {v : V} (h : Rp K H d v) : RR K B C H (mkR d) v [] := by
  unfold mkR
  split
  · rename_i p; exact ⟨rfl, p, h⟩
  · exact ⟨rfl, h⟩
theorem mkR_d {d : D} : (mkR d).d = d := by
  unfold mkR
  split <;> rfl
/-- + of ints, texts, tuples, lists -/
def addD (d e : D) : Option R := match d, e with
  | .int i, .int j => some (.val (.int (i + j)))
  | .str x, .str y => if x.length + y.length ≤ sizeLine then some (.val (.str (x ++ y))) else none
  | .tup ds, .tup es => if ds.length + es.length ≤ sizeLine then some (mkR (.tup (ds ++ es))) else none
  | .lst ds, .lst es => if ds.length + es.length ≤ sizeLine ∧ puL ds = true ∧ puL es = true then some (.own (.lst (ds ++ es))) else none
  | _, _ => none
theorem cons_ne {α β : Type} {xs : List α} {ys : List β} (h : xs.length = ys.length) : xs = [] ↔ ys = [] := by
  cases xs <;> cases ys <;> simp_all
theorem od_add : OpD X (binaryOp .Add) addD := by
  refine ⟨_, OpR.or op_add (OpR.or op_add_str (OpR.or op_catA op_cat)), fun B C H x y Q d e c hx hy h k => ?_⟩
  unfold addD at h
  split at h
  · rename_i i j
    cases h
    exact .inl ⟨i, j, rp_int hx, rp_int hy, k _ H [] (Same.refl _) rr_int no_fresh List.nodup_nil⟩
  · rename_i i j
    split at h
    · rename_i hz
      cases h
      exact .inr (.inl ⟨i, j, rp_str hx, rp_str hy, hz, k _ H [] (Same.refl _) rr_str no_fresh List.nodup_nil⟩)
    · cases h
  · rename_i ds es
    split at h
    · rename_i hz
      cases h
      have hx0 := hx
      have hy0 := hy
      unfold Rp at hx hy
      obtain ⟨a, xs, rfl, q1, r1⟩ := hx
      obtain ⟨b, ys, rfl, q2, r2⟩ := hy
      refine .inr (.inr (.inl ⟨a, b, xs, ys, rfl, rfl, q1, q2, by rw [r1.length, r2.length]; exact hz, fun z => ?_, fun z1 z2 => ?_, fun z1 z2 p hp => ?_⟩))
      · have e1 : ds = [] := (cons_ne r1.length).mp z
        subst e1
        exact k _ H [] (Same.refl _) (rr_mk hy0) no_fresh List.nodup_nil
      · have e1 : es = [] := (cons_ne r2.length).mp z2
        subst e1
        rw [List.append_nil] at k
        exact k _ H [] (Same.refl _) (rr_mk hx0) no_fresh List.nodup_nil
      · refine k _ _ [] (same_upd hp) (rr_mk ?_) no_fresh List.nodup_nil
        unfold Rp
        exact ⟨p, _, rfl, SqT.of upd_same, (RpL.append r1 r2).mono (same_upd hp)⟩
    · cases h
  · rename_i ds es
    split at h
    · rename_i hz
      cases h
      unfold Rp at hx hy
      obtain ⟨a, xs, rfl, q1, r1⟩ := hx
      obtain ⟨b, ys, rfl, q2, r2⟩ := hy
      refine .inr (.inr (.inr ⟨a, b, xs, ys, rfl, rfl, q1, q2, by rw [r1.length, r2.length]; exact hz.1, fun p hp => ?_⟩))
      refine k _ _ [p] (same_upd hp) ?_ (fun a ha => by rw [List.mem_singleton.mp ha]; exact hp) (by simp)
      show Ow X.KK _ (.lst (ds ++ es)) _ _
      unfold Ow
      exact ⟨p, _, [], rfl, upd_same, OwL.pu _ _ (by rw [puL_append, hz.2.1, hz.2.2]; rfl) ((RpL.append r1 r2).mono (same_upd hp)), rfl⟩
    · cases h
  · cases h
/-- * of ints, of a tuple and an int -/
def mulD (d e : D) : Option R := match d, e with
  | .tup ds, .int j => if ds ≠ [] ∧ 2 ≤ j ∧ j ≤ 1000 ∧ ds.length ≤ 1000 then some (mkR (.tup (List.replicate j.toNat ds).flatten)) else none
  | d, e => mulI d e
theorem RpL.rep {K : KF} {H : Hp} {ds : List D} {xs : List V} (h : RpL K H ds xs) : ∀ m : Nat, RpL K H (List.replicate m ds).flatten (List.replicate m xs).flatten
  | 0 => by unfold RpL; rfl
  | m + 1 => by
    rw [List.replicate_succ, List.replicate_succ, List.flatten_cons, List.flatten_cons]
    exact RpL.append h (RpL.rep h m)
theorem od_mul : OpD X (binaryOp .Mult) mulD := by
  refine ⟨_, OpR.or op_mul L2.op_repT, fun B C H x y Q d e c hx hy h k => ?_⟩
  unfold mulD at h
  split at h
  · rename_i ds j
    split at h
    · rename_i hz
      cases h
      unfold Rp at hx
      obtain ⟨a, xs, rfl, q1, r1⟩ := hx
      refine .inr ⟨a, j, xs, rfl, rp_int hy, q1, fun z => hz.1 ((cons_ne r1.length).mp z), hz.2.1, hz.2.2.1, by rw [r1.length]; exact hz.2.2.2, fun p hp => ?_⟩
      refine k _ _ [] (same_upd hp) (rr_mk ?_) no_fresh List.nodup_nil
      unfold Rp
      exact ⟨p, _, rfl, SqT.of upd_same, (RpL.rep r1 j.toNat).mono (same_upd hp)⟩
    · cases h
  · obtain ⟨i, j, z, rfl, rfl, hz, rfl⟩ := iiD_some h
    split at hz
    · rename_i hm
      cases hz
      exact .inl ⟨i, j, rp_int hx, rp_int hy, hm, k _ H [] (Same.refl _) rr_int no_fresh List.nodup_nil⟩
    · cases hz
end
end DL

set_option Elab.async false
set_option linter.all false
set_option maxRecDepth 100000
set_option maxHeartbeats 4000000
/-! D4: subscripts, slices, displays, calls over plain data. -/
namespace DL
open PySem PySem.Spec PyProof.Rows L2
variable {Tb : Pm}
/-- an element is held as its holder -/
def R.elt (r : R) (d : D) : R := if pu d = true then .val d else match r with
  | .val _ => .bor d | .par _ => .par d | .fr _ => .fr d | .bor _ => .bor d | .own _ => .bor d
section
variable {K : KF} {B C H H' : Hp}
theorem RR.elt {r : R} {v : V} {φ : List Addr} (bc : Same B C) (ch : Same C H) (h : RR K B C H r v φ) : ∃ Z : Hp, Same Z H ∧ Rp K Z r.d v ∧ ∀ d w, Rp K Z d w → RR K B C H (r.elt d) w [] := by
  have pv : ∀ (Z : Hp), Same Z H → ∀ d w, pu d = true → Rp K Z d w → RR K B C H (.val d) w [] := fun Z s d w p q => ⟨rfl, p, Rp.mono s _ _ q⟩
  cases r with
  | val d0 =>
    refine ⟨H, Same.refl _, h.2.2, fun d w q => ?_⟩
    unfold R.elt; split
    · rename_i p; exact pv H (Same.refl _) d w p q
    · exact ⟨rfl, q⟩
  | par d0 =>
    refine ⟨B, bc.trans ch, h.2, fun d w q => ?_⟩
    unfold R.elt; split
    · rename_i p; exact pv B (bc.trans ch) d w p q
    · exact ⟨rfl, q⟩
  | fr d0 =>
    refine ⟨C, ch, h.2, fun d w q => ?_⟩
    unfold R.elt; split
    · rename_i p; exact pv C ch d w p q
    · exact ⟨rfl, q⟩
  | bor d0 =>
    refine ⟨H, Same.refl _, h.2, fun d w q => ?_⟩
    unfold R.elt; split
    · rename_i p; exact pv H (Same.refl _) d w p q
    · exact ⟨rfl, q⟩
  | own d0 =>
    refine ⟨H, Same.refl _, Ow.rp _ _ _ h, fun d w q => ?_⟩
    unfold R.elt; split
    · rename_i p; exact pv H (Same.refl _) d w p q
    · exact ⟨rfl, q⟩
theorem ixN_len {n m : Nat} (h : n = m) (i : Int) : ixN n i = ixN m i := by rw [h]
theorem RpL.atI {ds : List D} {xs : List V} {i : Int} {d : D} (r : RpL K H ds xs) (h : L2.atI ds i = some d) : ∃ w, L2.atI xs i = some w ∧ Rp K H d w := by
  unfold L2.atI at h ⊢
  rw [r.length]
  cases e : ixN ds.length i with
  | none => rw [e] at h; cases h
  | some j =>
    rw [e] at h
    exact RpL.at r h
end
/-- a[b] -/
def ixR (x : R) (y : D) : Option R := match y with
  | .int i => (match x.d with
    | .tup ds => (atI ds i).map x.elt
    | .lst ds => (atI ds i).map x.elt
    | .scr ns => (atI ns i).map fun n => .val (.int n)
    | .str z => if z.length ≤ sizeLine then (atI z.cps.toList i).map fun c => .val (.str ⟨#[c]⟩) else none
    | _ => none)
  | _ => none
def gIx (ga gb : G) : G := fun δ => (ga δ).bind fun x => (gb δ).bind fun y => ixR x y.d
section
variable {X : Cx} {e a b c : Expr} {pos : Pos} {ga gb gc : G}
theorem bind2_some {α β γ : Type} {x : Option α} {y : Option β} {f : α → β → Option γ} {z : γ} (h : (x.bind fun u => y.bind fun w => f u w) = some z) : ∃ u w, x = some u ∧ y = some w ∧ f u w = some z := by
  cases x with
  | none => cases h
  | some u =>
    cases y with
    | none => cases h
    | some w => exact ⟨u, w, rfl, rfl, h⟩
theorem bind1_some {α γ : Type} {x : Option α} {f : α → Option γ} {z : γ} (h : x.bind f = some z) : ∃ u, x = some u ∧ f u = some z := by
  cases x with
  | none => cases h
  | some u => exact ⟨u, rfl, h⟩
theorem map_some {α γ : Type} {x : Option α} {f : α → γ} {z : γ} (h : x.map f = some z) : ∃ u, x = some u ∧ f u = z := by
  cases x with
  | none => cases h
  | some u => exact ⟨u, rfl, Option.some.inj h⟩
theorem atI_map {α β : Type} {f : α → β} {xs : List α} {i : Int} {y : α} (h : atI xs i = some y) : atI (xs.map f) i = some (f y) := by
  unfold atI at h ⊢
  rw [List.length_map]
  cases e : ixN xs.length i with
  | none => rw [e] at h; cases h
  | some j =>
    rw [e] at h
    have h : xs[j]? = some y := h
    show (xs.map f)[j]? = some (f y)
    rw [List.getElem?_map, h]; rfl
theorem de_ix (ha : DE Tb X a ga) (hb : DE Tb X b gb) (hs : PlainIx b := by intro _ _; rfl) : DE Tb X (.Subscript a b pos) (gIx ga gb) := by
  refine ⟨pe_imp (pe_ix ix_seq ha.pe hb.pe hs) fun σ H Q h => ?_⟩
  obtain ⟨B, C, δ, Φ, r, S, e, k⟩ := h
  obtain ⟨x, y, e1, e2, e3⟩ := bind2_some e
  refine ⟨B, C, δ, Φ, x, S, e1, fun u H1 φ1 s1 q1 f1 n1 => ⟨B, C, δ, Φ, y, S.same s1, e2, fun w H2 φ2 s2 q2 _ _ => ?_⟩⟩
  have s12 := s1.trans s2
  have ch := S.ch.trans s12
  obtain ⟨Z, sz, qz, el⟩ := RR.elt S.bc ch (q1.same s2)
  have qy := q2.rp S.bc ch
  unfold ixR at e3
  split at e3
  · rename_i i hy
    rw [hy] at qy
    split at e3
    · rename_i ds hx
      rw [hx] at qz
      obtain ⟨d, e4, rfl⟩ := map_some e3
      unfold Rp at qz
      obtain ⟨p, xs, rfl, hp, r⟩ := qz
      obtain ⟨w', e5, q5⟩ := r.atI e4
      exact .inr (.inl ⟨p, xs, i, w', rfl, rp_int qy, Same.seqT sz hp, e5, k w' H2 [] s12 (el d w' q5) no_fresh List.nodup_nil⟩)
    · rename_i ds hx
      rw [hx] at qz
      obtain ⟨d, e4, rfl⟩ := map_some e3
      unfold Rp at qz
      obtain ⟨p, xs, rfl, hp, r⟩ := qz
      obtain ⟨w', e5, q5⟩ := r.atI e4
      exact .inl ⟨p, xs, i, w', rfl, rp_int qy, SqL.of (sz.get hp), e5, k w' H2 [] s12 (el d w' q5) no_fresh List.nodup_nil⟩
    · rename_i ns hx
      rw [hx] at qz
      obtain ⟨d, e4, rfl⟩ := map_some e3
      unfold Rp at qz
      obtain ⟨p, rfl, hp⟩ := qz
      exact .inl ⟨p, _, i, _, rfl, rp_int qy, Same.seq sz hp, atI_map e4, k _ H2 [] s12 rr_int no_fresh List.nodup_nil⟩
    · rename_i z hx
      rw [hx] at qz
      split at e3
      · rename_i hz
        obtain ⟨d, e4, rfl⟩ := map_some e3
        exact .inr (.inr ⟨z, i, d, rp_str qz, rp_int qy, hz, e4, k _ H2 [] s12 rr_str no_fresh List.nodup_nil⟩)
      · cases e3
    · cases e3
  · cases e3

/-! ### slices -/
def cutL {α : Type} (xs : List α) (lo hi : Option Int) : List α := (xs.drop (HT.sIx xs.length 0 lo)).take (HT.sIx xs.length xs.length hi - HT.sIx xs.length 0 lo)
theorem cutV_eq (xs : List V) (lo hi : Option Int) : cutV xs lo hi = cutL xs lo hi := rfl
theorem RpL.cut {K : KF} {H : Hp} {ds : List D} {xs : List V} (r : RpL K H ds xs) (lo hi : Option Int) : RpL K H (cutL ds lo hi) (cutL xs lo hi) := by
  unfold cutL
  rw [r.length]
  exact (r.drop _).take _
theorem puL_cut {ds : List D} (lo hi : Option Int) (h : puL ds = true) : puL (cutL ds lo hi) = true := puL_take _ (puL_drop _ h)
theorem cutL_whole {α : Type} {xs : List α} {lo hi : Option Int} (h : HT.sIx xs.length 0 lo = 0 ∧ HT.sIx xs.length xs.length hi = xs.length) : cutL xs lo hi = xs := by
  unfold cutL
  rw [h.1, h.2]
  simp
def slD (d : D) (lo hi : Option Int) : Option R := match d with
  | .tup ds => some (mkR (.tup (cutL ds lo hi)))
  | .lst ds => if puL ds = true then some (.own (.lst (cutL ds lo hi))) else none
  | _ => none
abbrev GO := DSt → Option (Option Int)
def gNoP : GO := fun _ => some none
def gP (g : G) : GO := fun δ => (g δ).bind fun r => match r.d with | .int i => some (some i) | _ => none
def tDO (Tb : Pm) (K : KF) (g : GO) : TO := fun σ H Q => ∃ (B C : Hp) (δ : DSt) (Φ : Nat → List Addr) (o : Option Int), RSt Tb K B C σ H δ Φ ∧ g δ = some o ∧ ∀ H', Same H H' → Q o H'
structure DO (Tb : Pm) (X : Cx) (e : Option Expr) (g : GO) : Prop where
  po : PO X e (tDO Tb X.KK g)
theorem po_imp {e : Option Expr} {t t' : TO} (h : PO X e t) (f : ∀ σ H Q, t' σ H Q → t σ H Q) : PO X e t' := ⟨fun pins s σ H Q I q => h.run pins s σ H Q I (f σ H Q q)⟩
theorem do_none : DO Tb X none gNoP := ⟨po_imp po_none fun σ H Q h => by
  obtain ⟨B, C, δ, Φ, r, S, e, k⟩ := h
  cases e
  exact k H (Same.refl _)⟩
theorem do_some (ha : DE Tb X a ga) : DO Tb X (some a) (gP ga) := ⟨po_imp (po_some ha.pe) fun σ H Q h => by
  obtain ⟨B, C, δ, Φ, r, S, e, k⟩ := h
  obtain ⟨x, e1, e2⟩ := bind1_some e
  refine ⟨B, C, δ, Φ, x, S, e1, fun v H' φ s q _ _ => ?_⟩
  have q := q.rp S.bc (S.ch.trans s)
  split at e2
  · rename_i i hx
    rw [hx] at q
    cases e2
    exact ⟨i, rp_int q, k H' s⟩
  · cases e2⟩
def gSl (ga : G) (gl gh : GO) : G := fun δ => (ga δ).bind fun x => (gl δ).bind fun l => (gh δ).bind fun u => slD x.d l u
theorem de_sl {lo hi : Option Expr} {gl gh : GO} {p2 : Pos} (ha : DE Tb X a ga) (hl : DO Tb X lo gl) (hh : DO Tb X hi gh) : DE Tb X (.Subscript a (.Slice lo hi none p2) pos) (gSl ga gl gh) := by
  refine ⟨pe_imp (pe_slice (SlR.or sl_tupA sl_list) ha.pe hl.po hh.po) fun σ H Q h => ?_⟩
  obtain ⟨B, C, δ, Φ, r, S, e, k⟩ := h
  obtain ⟨x, e1, e⟩ := bind1_some e
  obtain ⟨l, e2, e⟩ := bind1_some e
  obtain ⟨u, e3, e⟩ := bind1_some e
  refine ⟨B, C, δ, Φ, x, S, e1, fun v H1 φ1 s1 q1 _ _ => ⟨B, C, δ, Φ, l, S.same s1, e2, fun H2 s2 => ⟨B, C, δ, Φ, u, S.same (s1.trans s2), e3, fun H3 s3 => ?_⟩⟩⟩
  have s13 := (s1.trans s2).trans s3
  have q := (q1.same (s2.trans s3)).rp S.bc (S.ch.trans s13)
  unfold slD at e
  split at e
  · rename_i ds hx
    rw [hx] at q
    have q0 := q
    cases e
    unfold Rp at q
    obtain ⟨p, xs, rfl, hq, r⟩ := q
    refine .inl ⟨p, xs, rfl, hq, fun hw => ?_, fun hw t ht => ?_⟩
    · have e4 : cutL ds l u = ds := cutL_whole (by rw [← r.length]; exact hw)
      rw [e4] at k
      exact k _ H3 [] s13 (rr_mk q0) no_fresh List.nodup_nil
    · refine k _ _ [] (s13.trans (same_upd ht)) (rr_mk ?_) no_fresh List.nodup_nil
      unfold Rp
      exact ⟨t, _, rfl, SqT.of upd_same, (r.cut l u).mono (same_upd ht)⟩
  · rename_i ds hx
    rw [hx] at q
    split at e
    · rename_i hp
      cases e
      unfold Rp at q
      obtain ⟨p, xs, rfl, hq, r⟩ := q
      refine .inr ⟨p, xs, rfl, SqL.of hq, fun t ht => ?_⟩
      refine k _ _ [t] (s13.trans (same_upd ht)) ?_ (fun a ha => by rw [List.mem_singleton.mp ha]; exact s13.free ht) (by simp)
      show Ow X.KK _ (.lst _) _ _
      unfold Ow
      exact ⟨t, _, [], rfl, upd_same, OwL.pu _ _ (puL_cut _ _ hp) ((r.cut l u).mono (same_upd ht)), rfl⟩
    · cases e
  · cases e

/-! ### arguments, displays -/
variable {es : List Expr} {gs : GA}
def gNil : GA := fun _ => some []
def gCons (g : G) (gs : GA) : GA := fun δ => (g δ).bind fun x => (gs δ).bind fun xs => some (x :: xs)
theorem da_nil : DA Tb X [] gNil := ⟨pa_imp pa_nil fun σ H Q h => by
  obtain ⟨B, C, δ, Φ, r, S, e, k⟩ := h
  cases e
  exact k [] H [] (Same.refl _) ⟨rfl, rfl⟩ no_fresh List.nodup_nil⟩
theorem da_cons (ha : DE Tb X a ga) (hr : DA Tb X es gs) (hs : starEach (a :: es) X.env = (false, eval a X.env) :: starEach es X.env := by rfl) : DA Tb X (a :: es) (gCons ga gs) := ⟨pa_imp (pa_cons ha.pe hr.pa hs) fun σ H Q h => by
  obtain ⟨B, C, δ, Φ, r, S, e, k⟩ := h
  obtain ⟨x, xs, e1, e2, e3⟩ := bind2_some e
  cases e3
  refine ⟨B, C, δ, Φ, x, S, e1, fun v H1 φ1 s1 q1 f1 n1 => ⟨B, C, δ, Φ, xs, S.same s1, e2, fun vs H2 φ2 s2 q2 f2 n2 => ?_⟩⟩
  refine k (v :: vs) H2 (φ1 ++ φ2) (s1.trans s2) ⟨v, vs, φ1, φ2, rfl, q1.same s2, q2, rfl⟩ (fun a ha => ?_) ?_
  · rcases List.mem_append.mp ha with ha | ha
    · exact f1 a ha
    · exact s1.free (f2 a ha)
  · refine List.nodup_append.mpr ⟨n1, n2, fun a ha b hb z => ?_⟩
    subst z
    obtain ⟨ys, e5, _⟩ := q1.trk a ha
    rw [f2 a hb] at e5
    cases e5⟩
/-- a tuple of these -/
def mkTup (rs : List R) : Option R := if rs.length ≤ sizeLine then (if allVal rs = true then some (.val (.tup (rs.map R.d))) else if allOwn rs = true then some (.own (.tup (rs.map R.d))) else some (.bor (.tup (rs.map R.d)))) else none
def mkLst (rs : List R) : Option R := if rs.length ≤ sizeLine ∧ allOwn rs = true then some (.own (.lst (rs.map R.d))) else none
theorem RRL.length {K : KF} {B C H : Hp} : ∀ {rs : List R} {vs : List V} {φ : List Addr}, RRL K B C H rs vs φ → vs.length = rs.length
  | [], _, _, h => by rw [h.1]; rfl
  | r :: rs, _, _, ⟨v, us, φ1, φ2, e1, q, k, e2⟩ => by rw [e1]; simp [RRL.length k]
def gTup (gs : GA) : G := fun δ => (gs δ).bind mkTup
def gLst (gs : GA) : G := fun δ => (gs δ).bind mkLst
theorem de_tup {x1} (h : DA Tb X es gs) : DE Tb X (.Tuple es x1 pos) (gTup gs) := by
  refine ⟨pe_imp (pe_tup h.pa) fun σ H Q h => ?_⟩
  obtain ⟨B, C, δ, Φ, r, S, e, k⟩ := h
  obtain ⟨rs, e1, e2⟩ := bind1_some e
  refine ⟨B, C, δ, Φ, rs, S, e1, fun vs H1 φ s q f n => ?_⟩
  have ch := S.ch.trans s
  have rp := q.rp S.bc ch
  unfold mkTup at e2
  split at e2
  · rename_i hl
    refine ⟨by rw [q.length]; exact hl, fun p hp => ?_⟩
    have s' := s.trans (same_upd (o := .tup vs) hp)
    have rp' : Rp X.KK (upd H1 p (.tup vs)) (.tup (rs.map R.d)) (.ref p) := by
      unfold Rp
      exact ⟨p, vs, rfl, SqT.of upd_same, rp.mono (same_upd hp)⟩
    split at e2
    · rename_i hv
      cases e2
      obtain ⟨h1, h2⟩ := RRL.val hv q
      exact k _ _ [] s' ⟨rfl, by unfold pu; exact h2, rp'⟩ no_fresh List.nodup_nil
    · split at e2
      · rename_i ho
        cases e2
        refine k _ _ φ s' ?_ f n
        show Ow X.KK _ (.tup _) _ _
        unfold Ow
        exact ⟨p, vs, rfl, SqT.of upd_same, OwL.same (same_upd hp) (RRL.own ho q)⟩
      · cases e2
        exact k _ _ [] s' ⟨rfl, rp'⟩ no_fresh List.nodup_nil
  · cases e2
theorem de_lst (h : DA Tb X es gs) : DE Tb X (.List es pos) (gLst gs) := by
  refine ⟨pe_imp (pe_lst h.pa) fun σ H Q h => ?_⟩
  obtain ⟨B, C, δ, Φ, r, S, e, k⟩ := h
  obtain ⟨rs, e1, e2⟩ := bind1_some e
  refine ⟨B, C, δ, Φ, rs, S, e1, fun vs H1 φ s q f n => ?_⟩
  unfold mkLst at e2
  split at e2
  · rename_i hl
    cases e2
    refine ⟨by rw [q.length]; exact hl.1, fun p hp => ?_⟩
    refine k _ _ (p :: φ) (s.trans (same_upd hp)) ?_ (fun a ha => ?_) (List.nodup_cons.mpr ⟨fun ha => ?_, n⟩)
    · show Ow X.KK _ (.lst _) _ _
      unfold Ow
      exact ⟨p, vs, φ, rfl, upd_same, OwL.same (same_upd hp) (RRL.own hl.2 q), rfl⟩
    · rcases List.mem_cons.mp ha with rfl | ha
      · exact s.free hp
      · exact f a ha
    · obtain ⟨ys, e5, _⟩ := q.trk p ha
      rw [hp] at e5; cases e5
  · cases e2

/-! ### calls of built-in things by data -/
def CallD (X : Cx) (f : Value) (op : List R → Option R) : Prop := ∃ r, CallR X f r ∧ ∀ (B C H : Hp) (vs : List V) (φ : List Addr) (Q : VK) (rs : List R) (c : R), Same B C → Same C H → RRL X.KK B C H rs vs φ → φ.Nodup → op rs = some c →
  (∀ v H' φ', Same H H' → RR X.KK B C H' c v φ' → (∀ a ∈ φ', H a = none ∨ a ∈ φ) → φ'.Nodup → Q v H') → r vs H Q
def gCB (op : List R → Option R) (gs : GA) : G := fun δ => (gs δ).bind op
theorem callD_use {f : Value} {op : List R → Option R} {r : List V → Hp → VK → Prop} (hp : ∀ (B C H : Hp) (vs : List V) (φ : List Addr) (Q : VK) (rs : List R) (c : R), Same B C → Same C H → RRL X.KK B C H rs vs φ → φ.Nodup → op rs = some c →
  (∀ v H' φ', Same H H' → RR X.KK B C H' c v φ' → (∀ a ∈ φ', H a = none ∨ a ∈ φ) → φ'.Nodup → Q v H') → r vs H Q) {σ : L2.St} {H : Hp} {Q : VK} (h : tD Tb X.KK (gCB op gs) σ H Q) : tCB r (tDA Tb X.KK gs) σ H Q := by
  obtain ⟨B, C, δ, Φ, c, S, e, k⟩ := h
  obtain ⟨rs, e1, e2⟩ := bind1_some e
  refine ⟨B, C, δ, Φ, rs, S, e1, fun vs H1 φ s q f n => ?_⟩
  refine hp B C H1 vs φ Q rs c S.bc (S.ch.trans s) q n e2 fun v H' φ' s' q' f' n' => k v H' φ' (s.trans s') q' (fun a ha => ?_) n'
  rcases f' a ha with z | z
  · exact s.free z
  · exact f a z
theorem de_callB {x : Str} {id : String} {op : List R → Option R} {p : Pos} (hc : CallD X (.builtin id) op) (hm : X.mg x = none) (hv : bootBuiltins x = some (.builtin id)) (ha : DA Tb X (a :: es) gs) (hg : Gl X x := by rfl) (hn : x ≠ "__name__" := by decide) (hdb : (x == ("__debug__" : Str)) = false := by decide)
    (he : starEach (a :: es) X.env = (false, eval a X.env) :: starEach es X.env := by rfl) (hpl : (backTo pos (starEach es X.env)).any (·.1) = false := by rfl) : DE Tb X (.Call (.Name x p) (a :: es) [] pos) (gCB op gs) := by
  obtain ⟨r, h1, h2⟩ := hc
  exact ⟨pe_imp (pe_callB h1 hg hm hv ha.pa hn hdb he hpl) fun σ H Q h => callD_use (f := .builtin id) h2 h⟩
theorem de_callTy {x : Str} {T : String} {op : List R → Option R} {p : Pos} (hc : CallD X (.type T) op) (hm : X.mg x = none) (hv : bootBuiltins x = some (.type T)) (ha : DA Tb X (a :: es) gs) (hg : Gl X x := by rfl) (hn : x ≠ "__name__" := by decide) (hdb : (x == ("__debug__" : Str)) = false := by decide)
    (he : starEach (a :: es) X.env = (false, eval a X.env) :: starEach es X.env := by rfl) (hpl : (backTo pos (starEach es X.env)).any (·.1) = false := by rfl) : DE Tb X (.Call (.Name x p) (a :: es) [] pos) (gCB op gs) := by
  obtain ⟨r, h1, h2⟩ := hc
  exact ⟨pe_imp (pe_callTy h1 hg hm hv ha.pa hn hdb he hpl) fun σ H Q h => callD_use (f := .type T) h2 h⟩
theorem CallR.or' {f : Value} {r r' : List V → Hp → VK → Prop} (h : CallR X f r) (h' : CallR X f r') : CallR X f (fun xs H Q => r xs H Q ∨ r' xs H Q) := CallR.or h h'
/-- one argument -/
theorem RRL.one {K : KF} {B C H : Hp} {r : R} {vs : List V} {φ : List Addr} (h : RRL K B C H [r] vs φ) : ∃ v, vs = [v] ∧ RR K B C H r v φ := by
  obtain ⟨v, us, φ1, φ2, rfl, q, ⟨rfl, rfl⟩, rfl⟩ := h
  exact ⟨v, rfl, by rw [List.append_nil]; exact q⟩
theorem RRL.two {K : KF} {B C H : Hp} {r s : R} {vs : List V} {φ : List Addr} (h : RRL K B C H [r, s] vs φ) : ∃ v w φ1 φ2, vs = [v, w] ∧ RR K B C H r v φ1 ∧ RR K B C H s w φ2 ∧ φ = φ1 ++ φ2 := by
  obtain ⟨v, us, φ1, φ2, rfl, q, h, rfl⟩ := h
  obtain ⟨w, rfl, q2⟩ := h.one
  exact ⟨v, w, φ1, φ2, rfl, q, q2, rfl⟩
theorem no_fresh' {H : Hp} {φ : List Addr} : ∀ a ∈ ([] : List Addr), H a = none ∨ a ∈ φ := fun _ z => by cases z
def lenD : D → Option R
  | .tup ds => some (.val (.int ds.length))
  | .lst ds => some (.val (.int ds.length))
  | .scr ns => some (.val (.int ns.length))
  | .str z => if z.length ≤ sizeLine then some (.val (.int z.length)) else none
  | _ => none
def one (f : R → Option R) : List R → Option R
  | [r] => f r
  | _ => none
theorem one_some {f : R → Option R} {rs : List R} {c : R} (h : one f rs = some c) : ∃ r, rs = [r] ∧ f r = some c := by
  unfold one at h
  split at h
  · exact ⟨_, rfl, h⟩
  · cases h
def oLen : List R → Option R := one fun r => lenD r.d
theorem cd_len : CallD X (.builtin "len") oLen := by
  refine ⟨_, CallR.or' call_len_seq call_len_str, fun B C H vs φ Q rs c bc ch q n e k => ?_⟩
  obtain ⟨r, er, e1⟩ := one_some e
  clear e
  subst er
  obtain ⟨v, ev, q1⟩ := q.one
  clear q
  subst ev
  have e := e1
  have q := q1
  clear e1 q1
  have q := q.rp bc ch
  unfold lenD at e
  split at e
  · rename_i ds hx
    rw [hx] at q; cases e
    unfold Rp at q
    obtain ⟨p, xs, rfl, hp, r⟩ := q
    exact .inl ⟨p, xs, rfl, .inr hp, by rw [r.length]; exact k _ H [] (Same.refl _) rr_int no_fresh' List.nodup_nil⟩
  · rename_i ds hx
    rw [hx] at q; cases e
    unfold Rp at q
    obtain ⟨p, xs, rfl, hp, r⟩ := q
    exact .inl ⟨p, xs, rfl, .inl (SqL.of hp), by rw [r.length]; exact k _ H [] (Same.refl _) rr_int no_fresh' List.nodup_nil⟩
  · rename_i ns hx
    rw [hx] at q; cases e
    unfold Rp at q
    obtain ⟨p, rfl, hp⟩ := q
    exact .inl ⟨p, _, rfl, .inl hp, by rw [List.length_map]; exact k _ H [] (Same.refl _) rr_int no_fresh' List.nodup_nil⟩
  · rename_i z hx
    rw [hx] at q
    split at e
    · rename_i hz
      cases e
      exact .inr ⟨z, by rw [rp_str q], hz, k _ H [] (Same.refl _) rr_int no_fresh' List.nodup_nil⟩
    · cases e
  · cases e
def oInt : List R → Option R := one fun r => match r.d with
  | .int i => some (.val (.int i))
  | .bl b => some (.val (.int (if b then 1 else 0)))
  | _ => none
theorem cd_int : CallD X (.type "int") oInt := by
  refine ⟨_, call_int1, fun B C H vs φ Q rs c bc ch q n e k => ?_⟩
  obtain ⟨r, er, e1⟩ := one_some e
  clear e
  subst er
  obtain ⟨v, ev, q1⟩ := q.one
  clear q
  subst ev
  have e := e1
  have q := q1
  clear e1 q1
  have q := q.rp bc ch
  split at e
  · rename_i i hx
    rw [hx] at q; cases e
    exact .inl ⟨i, by rw [rp_int q], k _ H [] (Same.refl _) rr_int no_fresh' List.nodup_nil⟩
  · rename_i i hx
    rw [hx] at q; cases e
    exact .inr ⟨i, by rw [rp_bl q], k _ H [] (Same.refl _) rr_int no_fresh' List.nodup_nil⟩
  · cases e
/-- tuple(x) -/
def oTuple : List R → Option R := one fun r => match r with
  | .own (.lst ds) => some (if puL ds = true then .val (.tup ds) else .own (.tup ds))
  | r => (match r.d with
    | .lst ds => if puL ds = true then some (.val (.tup ds)) else none
    | .tup _ => some r
    | .scr ns => some (.val (.tup (ns.map .int)))
    | _ => none)
theorem rpL_ints {K : KF} {H : Hp} : ∀ ns : List Int, RpL K H (ns.map D.int) (ns.map V.int)
  | [] => by simp [RpL]
  | n :: ns => by rw [List.map_cons, List.map_cons]; unfold RpL; exact ⟨_, _, rfl, by unfold Rp; rfl, rpL_ints ns⟩
@[simp] theorem puL_ints : ∀ ns : List Int, puL (ns.map D.int) = true
  | [] => by simp [puL]
  | n :: ns => by rw [List.map_cons]; unfold puL; rw [puL_ints ns]; rfl
theorem cd_tuple : CallD X (.type "tuple") oTuple := by
  refine ⟨_, call_tuple_of, fun B C H vs φ Q rs c bc ch q n e k => ?_⟩
  obtain ⟨r, er, e1⟩ := one_some e
  clear e
  subst er
  obtain ⟨v, ev, q1⟩ := q.one
  clear q
  subst ev
  have e := e1
  have q := q1
  clear e1 q1
  have fin : ∀ (ds : List D) (a : Addr) (xs : List V), H a = some (.lst xs) → RpL X.KK H ds xs → puL ds = true → ∀ l, H l = none → RR X.KK B C (upd H l (.tup xs)) (.val (.tup ds)) (.ref l) [] := fun ds a xs ha r hp l hl => by
    refine ⟨rfl, by unfold pu; exact hp, ?_⟩
    unfold Rp
    exact ⟨l, xs, rfl, SqT.of upd_same, r.mono (same_upd hl)⟩
  split at e
  · rename_i ds
    have q : Ow X.KK H (.lst ds) v φ := q
    unfold Ow at q
    obtain ⟨a, xs, ψ, rfl, ha, hw, rfl⟩ := q
    refine ⟨a, xs, rfl, .inl ⟨SqL.of ha, fun l hl => ?_⟩⟩
    cases e
    split at k
    · rename_i hp
      exact k _ _ [] (same_upd hl) (fin ds a xs ha (OwL.rp _ _ _ hw) hp l hl) no_fresh' List.nodup_nil
    · refine k _ _ ψ (same_upd hl) ?_ (fun b hb => .inr (List.mem_cons_of_mem _ hb)) (List.nodup_cons.mp n).2
      show Ow X.KK _ (.tup ds) _ _
      unfold Ow
      exact ⟨l, xs, rfl, SqT.of upd_same, OwL.same (same_upd hl) hw⟩
  · have q0 := q
    have q9 := q.rp bc ch
    clear q
    split at e
    · rename_i ds hx
      rw [hx] at q9
      split at e
      · rename_i hp
        cases e
        unfold Rp at q9
        obtain ⟨a, xs, rfl, ha, r⟩ := q9
        exact ⟨a, xs, rfl, .inl ⟨SqL.of ha, fun l hl => k _ _ [] (same_upd hl) (fin ds a xs ha r hp l hl) no_fresh' List.nodup_nil⟩⟩
      · cases e
    · rename_i ds hx
      rw [hx] at q9
      cases e
      unfold Rp at q9
      obtain ⟨a, xs, rfl, ha, r⟩ := q9
      exact ⟨a, xs, rfl, .inr ⟨ha, k _ _ φ (Same.refl _) q0 (fun b hb => .inr hb) n⟩⟩
    · rename_i ns hx
      rw [hx] at q9
      cases e
      unfold Rp at q9
      obtain ⟨a, rfl, ha⟩ := q9
      refine ⟨a, _, rfl, .inl ⟨ha, fun l hl => k _ _ [] (same_upd hl) ⟨rfl, by unfold pu; exact puL_ints ns, ?_⟩ no_fresh' List.nodup_nil⟩⟩
      unfold Rp
      exact ⟨l, _, rfl, SqT.of upd_same, rpL_ints ns⟩
    · cases e
/-- list(x) -/
def oList : List R → Option R := one fun r => match r.d with
  | .lst ds => if puL ds = true then some (.own (.lst ds)) else none
  | .tup ds => if puL ds = true then some (.own (.lst ds)) else none
  | .scr ns => some (.own (.lst (ns.map .int)))
  | _ => none
theorem ow_new {K : KF} {H : Hp} {ds : List D} {xs : List V} {l : Addr} (hl : H l = none) (r : RpL K H ds xs) (hp : puL ds = true) : Ow K (upd H l (.lst xs)) (.lst ds) (.ref l) [l] := by
  unfold Ow
  exact ⟨l, xs, [], rfl, upd_same, OwL.pu _ _ hp (r.mono (same_upd hl)), rfl⟩
theorem cd_list : CallD X (.type "list") oList := by
  refine ⟨_, call_list_of, fun B C H vs φ Q rs c bc ch q n e k => ?_⟩
  obtain ⟨r, er, e1⟩ := one_some e
  clear e
  subst er
  obtain ⟨v, ev, q1⟩ := q.one
  clear q
  subst ev
  have e := e1
  have q := q1
  clear e1 q1
  have q := q.rp bc ch
  split at e
  · rename_i ds hx
    rw [hx] at q
    split at e
    · rename_i hp
      cases e
      unfold Rp at q
      obtain ⟨a, xs, rfl, ha, r⟩ := q
      exact ⟨a, xs, rfl, .inl (SqL.of ha), fun l hl => k _ _ [l] (same_upd hl) (ow_new hl r hp) (fun b hb => by rw [List.mem_singleton.mp hb]; exact .inl hl) (by simp)⟩
    · cases e
  · rename_i ds hx
    rw [hx] at q
    split at e
    · rename_i hp
      cases e
      unfold Rp at q
      obtain ⟨a, xs, rfl, ha, r⟩ := q
      exact ⟨a, xs, rfl, .inr ha, fun l hl => k _ _ [l] (same_upd hl) (ow_new hl r hp) (fun b hb => by rw [List.mem_singleton.mp hb]; exact .inl hl) (by simp)⟩
    · cases e
  · rename_i ns hx
    rw [hx] at q
    cases e
    unfold Rp at q
    obtain ⟨a, rfl, ha⟩ := q
    exact ⟨a, _, rfl, .inl ha, fun l hl => k _ _ [l] (same_upd hl) (ow_new hl (rpL_ints ns) (puL_ints ns)) (fun b hb => by rw [List.mem_singleton.mp hb]; exact .inl hl) (by simp)⟩
  · cases e
/-- all bools -/
def boolL : List D → Option (List Bool)
  | [] => some []
  | .bl i :: ds => (boolL ds).map (i :: ·)
  | _ :: _ => none
theorem boolL_some {K : KF} {H : Hp} : ∀ {ds : List D} {ns : List Bool} {xs : List V}, boolL ds = some ns → RpL K H ds xs → xs = ns.map V.bl
  | [], _, _, h, r => by cases h; unfold RpL at r; rw [r]; rfl
  | .bl i :: ds, _, _, h, r => by
    unfold boolL at h
    cases q : boolL ds with
    | none => rw [q] at h; cases h
    | some ms =>
      rw [q] at h; cases h
      unfold RpL at r
      obtain ⟨x, ys, rfl, r1, r2⟩ := r
      rw [rp_bl r1, boolL_some q r2]; rfl
  | .non :: _, _, _, h, _ => by cases h
  | .int _ :: _, _, _, h, _ => by cases h
  | .str _ :: _, _, _, h, _ => by cases h
  | .tup _ :: _, _, _, h, _ => by cases h
  | .lst _ :: _, _, _, h, _ => by cases h
  | .scr _ :: _, _, _, h, _ => by cases h
  | .dct _ _ :: _, _, _, h, _ => by cases h
  | .set _ _ :: _, _, _, h, _ => by cases h
def oAll : List R → Option R := one fun r => match r.d with
  | .lst ds => (boolL ds).map fun bs => .val (.bl (bs.all id))
  | _ => none
def oAny : List R → Option R := one fun r => match r.d with
  | .lst ds => (boolL ds).map fun bs => .val (.bl (bs.any id))
  | _ => none
theorem cd_all (hc : X.calm = true) : CallD X (.builtin "all") oAll := by
  refine ⟨_, cr_all hc, fun B C H vs φ Q rs c bc ch q n e k => ?_⟩
  obtain ⟨r, er, e1⟩ := one_some e
  clear e
  subst er
  obtain ⟨v, ev, q1⟩ := q.one
  clear q
  subst ev
  have e := e1
  have q := q1
  clear e1 q1
  have q := q.rp bc ch
  split at e
  · rename_i ds hx
    rw [hx] at q
    obtain ⟨bs, e1, rfl⟩ := map_some e
    unfold Rp at q
    obtain ⟨a, xs, rfl, ha, r⟩ := q
    rw [boolL_some e1 r] at ha
    exact ⟨a, bs, rfl, SqL.of ha, k _ H [] (Same.refl _) rr_bl no_fresh' List.nodup_nil⟩
  · cases e
theorem cd_any (hc : X.calm = true) : CallD X (.builtin "any") oAny := by
  refine ⟨_, cr_any hc, fun B C H vs φ Q rs c bc ch q n e k => ?_⟩
  obtain ⟨r, er, e1⟩ := one_some e
  clear e
  subst er
  obtain ⟨v, ev, q1⟩ := q.one
  clear q
  subst ev
  have e := e1
  have q := q1
  clear e1 q1
  have q := q.rp bc ch
  split at e
  · rename_i ds hx
    rw [hx] at q
    obtain ⟨bs, e1, rfl⟩ := map_some e
    unfold Rp at q
    obtain ⟨a, xs, rfl, ha, r⟩ := q
    rw [boolL_some e1 r] at ha
    exact ⟨a, bs, rfl, SqL.of ha, k _ H [] (Same.refl _) rr_bl no_fresh' List.nodup_nil⟩
  · cases e
def two2 (f : Int → Int → Int) : List R → Option R
  | [r, s] => (match r.d, s.d with | .int i, .int j => some (.val (.int (f i j))) | _, _ => none)
  | _ => none
def oMin : List R → Option R := two2 fun i j => if j < i then j else i
def oMax : List R → Option R := two2 fun i j => if j > i then j else i
theorem two2_some {f : Int → Int → Int} {rs : List R} {c : R} (h : two2 f rs = some c) : ∃ r s i j, rs = [r, s] ∧ r.d = .int i ∧ s.d = .int j ∧ c = .val (.int (f i j)) := by
  unfold two2 at h
  split at h
  · rename_i r s
    split at h
    · rename_i i j h1 h2
      cases h
      exact ⟨r, s, i, j, rfl, h1, h2, rfl⟩
    · cases h
  · cases h
theorem cd_min (hc : X.calm = true) : CallD X (.builtin "min") oMin := by
  refine ⟨_, call_min2 hc, fun B C H vs φ Q rs c bc ch q n e k => ?_⟩
  obtain ⟨r, s, i, j, er, h1, h2, ec⟩ := two2_some e
  clear e
  subst er ec
  obtain ⟨v, w, φ1, φ2, ev, q1, q2, ep⟩ := q.two
  clear q
  subst ev ep
  have q1 := q1.rp bc ch
  have q2 := q2.rp bc ch
  rw [h1] at q1; rw [h2] at q2
  exact ⟨i, j, by rw [rp_int q1, rp_int q2], k _ H [] (Same.refl _) rr_int no_fresh' List.nodup_nil⟩
theorem cd_max (hc : X.calm = true) : CallD X (.builtin "max") oMax := by
  refine ⟨_, call_max2 hc, fun B C H vs φ Q rs c bc ch q n e k => ?_⟩
  obtain ⟨r, s, i, j, er, h1, h2, ec⟩ := two2_some e
  clear e
  subst er ec
  obtain ⟨v, w, φ1, φ2, ev, q1, q2, ep⟩ := q.two
  clear q
  subst ev ep
  have q1 := q1.rp bc ch
  have q2 := q2.rp bc ch
  rw [h1] at q1; rw [h2] at q2
  exact ⟨i, j, by rw [rp_int q1, rp_int q2], k _ H [] (Same.refl _) rr_int no_fresh' List.nodup_nil⟩

/-! ### isinstance -/
inductive Ty where | int | bool | tuple | str | list
def Ty.nm : Ty → String
  | .int => "int" | .bool => "bool" | .tuple => "tuple" | .str => "str" | .list => "list"
def tyD : D → String
  | .non => "NoneType" | .bl _ => "bool" | .int _ => "int" | .str _ => "str" | .tup _ => "tuple" | .lst _ => "list" | .scr _ => "list" | .dct _ _ => "dict" | .set _ _ => "set"
def isa : Ty → D → Bool
  | .int, .int _ => true | .int, .bl _ => true
  | .bool, .bl _ => true
  | .tuple, .tup _ => true
  | .str, .str _ => true
  | .list, .lst _ => true | .list, .scr _ => true
  | _, _ => false
theorem isa_kit (T : Ty) (d : D) : kitB (tyD d) T.nm = some (isa T d) := by
  cases T <;> cases d <;> (show kitB _ _ = some _; simp only [tyD, Ty.nm, isa]; decide +kernel)
def tyOk : D → Bool
  | .dct (_ :: _) _ => false
  | .set _ _ => false
  | _ => true
theorem tyx {K : KF} {H : Hp} {d : D} {v : V} (ok : tyOk d = true) (h : Rp K H d v) : TyX K H v (.type (tyD d)) := by
  have sq : ∀ {a : Addr} {xs : List V}, SqL K H a xs → TyX K H (.ref a) (.type "list") := fun {a xs} q => by
    rcases q with (q | ⟨o, q⟩) | ⟨o, its, n, h1, h2, _⟩
    · exact .base (.lst q)
    · exact .base (.frz q)
    · exact .kList h1 h2
  cases d with
  | non => unfold Rp at h; subst h; exact .base .non
  | bl => unfold Rp at h; subst h; exact .base (.bl _)
  | int => unfold Rp at h; subst h; exact .base (.int _)
  | str => unfold Rp at h; subst h; exact .base (.str _)
  | tup =>
    unfold Rp at h; obtain ⟨a, xs, rfl, q, _⟩ := h
    rcases q with (q | ⟨o, q⟩) | ⟨o, its, n, h1, h2, _⟩
    · exact .base (.tup q)
    · exact .fTuple q
    · exact .kTuple h1 h2
  | lst => unfold Rp at h; obtain ⟨a, xs, rfl, q, _⟩ := h; exact .base (.lst q)
  | scr => unfold Rp at h; obtain ⟨a, rfl, q⟩ := h; exact sq q
  | dct ks vs =>
    unfold Rp at h
    obtain ⟨a, ws, rfl, q, _⟩ := h
    cases ks with
    | cons => cases ok
    | nil =>
      rcases q with ⟨kvs, q, _⟩ | ⟨es, _, e1, _, ne, _⟩
      · exact .base (.dK q)
      · exact absurd (List.map_eq_nil_iff.mp e1) ne
  | set _ ks => cases ok
def isiR (T : Ty) (d : D) : Option R := if tyOk d = true then some (.val (.bl (isa T d))) else none
def gIsi (T : Ty) (g : G) : G := fun δ => (g δ).bind fun r => isiR T r.d
theorem de_isi (T : Ty) {x : Str} {p p2 : Pos} (hm : X.mg "isinstance" = none) (hm2 : X.mg x = none) (hv2 : bootBuiltins x = some (.type T.nm)) (ha : DE Tb X a ga) (hg : Gl X "isinstance" := by rfl) (hg2 : Gl X x := by rfl)
    (hn2 : x ≠ "__name__" := by decide) (hdb2 : (x == ("__debug__" : Str)) = false := by decide)
    (he1 : starEach [a, .Name x p2] X.env = (false, eval a X.env) :: starEach [.Name x p2] X.env := by rfl) (he : starEach [.Name x p2] X.env = (false, eval (.Name x p2) X.env) :: starEach [] X.env := by rfl) (hpl : (backTo pos (starEach [.Name x p2] X.env)).any (·.1) = false := by rfl) :
    DE Tb X (.Call (.Name "isinstance" p) [a, .Name x p2] [] pos) (gIsi T ga) := by
  refine ⟨pe_imp (pe_callB call_isi hg hm (by decide +kernel) (pa_cons ha.pe (pa_cons (pe_bltn (v := .ty T.nm) hg2 hm2 hv2 rfl hn2 hdb2) pa_nil he) he1) (by decide) (by decide) he1 hpl) fun σ H Q h => ?_⟩
  obtain ⟨B, C, δ, Φ, c, S, e, k⟩ := h
  obtain ⟨r, e1, e2⟩ := bind1_some e
  unfold isiR at e2
  split at e2
  case isFalse => cases e2
  rename_i ok
  cases e2
  refine ⟨B, C, δ, Φ, r, S, e1, fun v H1 φ s q f n => ?_⟩
  exact ⟨v, .ty T.nm, _, _, _, rfl, .ty _, tyx ok (q.rp S.bc (S.ch.trans s)), kit_ty (isa_kit T r.d), k _ H1 [] s rr_bl no_fresh List.nodup_nil⟩
end
end DL

set_option Elab.async false
set_option linter.all false
set_option maxRecDepth 100000
set_option maxHeartbeats 4000000
/-! D5: what a loop walks; targets. -/
namespace DL
open PySem PySem.Spec PyProof.Rows L2
variable {Tb : Pm}

/-! ### enumerate of a tuple -/
set_option maxHeartbeats 1000000 in
theorem meets_enum1 {v : Value} {o : Obj} {P : Heap → Prop} (B : Begins v o P) :
    Meets (Builtin.«enumerate.__new__» ⟨[.type "enumerate", v], []⟩) (fun _ R s => P s.heap ∧
      R (.ok (.ret (.ref (s.heap.push o).objs.size))) { s with heap := (s.heap.push o).push { cls := .type "enumerate", data := .fields #[.none, .bool false, .ref s.heap.objs.size, rawInt 0, .none, .none] } }) :=
  .of_wp fun prog w A R s h => by
    obtain ⟨hh, gg, dd, tt, oo⟩ := s
    obtain ⟨ph, h⟩ := h
    have hsub := sub_enumerate
    have begun : ∀ {A' : Around} {E : Value → Shared → Prop} {Q : Value → Shared → Prop}, Q (.ref hh.objs.size) ⟨hh.push o, gg, dd, tt, oo⟩ → wpAny (model prog w) A' (pyIter v) Q E ⟨hh, gg, dd, tt, oo⟩ :=
      fun q => B.iter prog w _ _ ⟨hh, gg, dd, tt, oo⟩ _ ph q
    wp_walk using begun
    refine wpAny_stack_any fun st => wpAny_pure ?_
    split
    · rename_i c _ _ _ _ _
      cases (c == Value.type "enumerate") <;> (wp_walk using begun; exact ⟨_, rfl, h⟩)
    · wp_walk using begun
      exact ⟨_, rfl, h⟩
section
variable {prog : Program} {w : World} {A : Around} {E : Value → Shared → Prop} {s : Shared}
theorem call_enum1 {v : Value} {o : Obj} {P : Heap → Prop} {Q : Value → Shared → Prop} (B : Begins v o P) (ph : P s.heap)
    (h : ∀ h', IsEnum h' (s.heap.objs.size + 1) s.heap.objs.size 0 .none → h'.get? s.heap.objs.size = some o → h'.objs.size = s.heap.objs.size + 2 →
      (∀ b o', s.heap.get? b = some o' → h'.get? b = some o') → Q (.ref (s.heap.objs.size + 1)) { s with heap := h' }) : wpAny (model prog w) A (call (.type "enumerate") [v]) Q E s := by
  refine callType_new F.called_enumerate (by decide) (F.typeCall_enumerate_1 _) (F.newCall_enumerate_1 _) (fun obj => F.args_object_init_2 obj _) F.entry_enumerate_new (meets_enum1 B) ⟨ph, ?_⟩
  have hz : (s.heap.push o).objs.size = s.heap.objs.size + 1 := Heap.size_push ..
  show _ ∧ _
  rw [hz]
  have he : IsEnum ((s.heap.push o).push { cls := .type "enumerate", data := .fields #[.none, .bool false, .ref s.heap.objs.size, rawInt 0, .none, .none] }) (s.heap.objs.size + 1) s.heap.objs.size 0 .none := by
    have q := Heap.get?_push_size (s.heap.push o) (o := { cls := .type "enumerate", data := .fields #[.none, .bool false, .ref s.heap.objs.size, rawInt 0, .none, .none] }) rfl
    rw [hz] at q
    exact q
  exact ⟨⟨_, he, rfl⟩, h _ he (Heap.get?_push_of_some _ (Heap.get?_push_size _ B.free)) (by rw [Heap.size_push, hz]) fun b o' x => Heap.get?_push_of_some _ (Heap.get?_push_of_some _ x)⟩
end
/-- the tuple at a, each item in a new pair -/
def IteT (K : PySem.W.Frag) (a : Addr) : It :=
  ⟨fun i H => ∃ (xs : List V) (x : V), SqT K H a xs ∧ xs[i]? = some x, fun i H v H' => ∃ T x, v = .ref T ∧ H T = none ∧ H' = upd H T (.tup [.int (i : Nat), x]) ∧ ∀ xs, SqT K H a xs → xs[i]? = some x, fun i H => ∃ xs : List V, SqT K H a xs ∧ xs.length = i⟩
theorem turn_enumT {P : Program} {w : World} {K : PySem.W.Frag} {elts : List Expr} {kk : Nat} {tpos : Pos} (a e it : Addr) :
    Turn P w K (.Tuple elts kk tpos) (IteT K a) [e, it] e (fun i h => (∃ old, IsEnum h e it ((i : Nat) : Int) old) ∧ h.IsTupleIter it a i ∧ e ≠ it) where
  mem := by simp
  obj := fun i h st b hb => by
    obtain ⟨⟨old, he⟩, ⟨o, ho, hc, hd⟩, _⟩ := st
    rcases (by simpa using hb : b = e ∨ b = it) with z | z
    · rw [z]
      exact ⟨_, he, fun v q => nomatch q⟩
    · rw [z]
      exact ⟨o, ho, fun v q => by rw [hd] at q; cases q⟩
  keep := fun i h h' st k => let ⟨⟨old, he⟩, hi, hne⟩ := st; ⟨⟨old, k e (by simp) _ he⟩, hi.at fun o q => k it (by simp) o q, hne⟩
  item := by
    intro X hP hw hK hc i pins s σ H E I hf st hg
    subst hP hw hK
    obtain ⟨⟨old, he⟩, hit, hne⟩ := st
    obtain ⟨xs, x, hq, hx⟩ := hg
    obtain ⟨its, rv, p, hz⟩ := I.tuple hq
    obtain ⟨u, hu, ru⟩ := rv.get hx
    have hel : e < s.heap.objs.size := Heap.lt_size he
    have hil : it < s.heap.objs.size := by obtain ⟨_, q, _⟩ := hit; exact Heap.lt_size q
    have hlt : i < its.toArray.size := by
      have := (List.getElem?_eq_some_iff.mp hu).1
      simpa using this
    have pT : s.heap.IsTuple a its.toArray := p
    have nai : a ≠ it := fun z => by
      obtain ⟨o, ho, hc1, _⟩ := pT
      obtain ⟨o2, ho2, hc2, _⟩ := hit
      rw [z, ho2] at ho; cases ho
      rw [hc2] at hc1; exact absurd hc1 (by decide)
    have nae : e ∉ [it, a] := fun z => by
      rcases (by simpa using z : e = it ∨ e = a) with z | z
      · exact hne z
      · obtain ⟨o, ho, hc1, _⟩ := pT
        have he2 := he
        unfold IsEnum at he2
        rw [z, ho] at he2; cases he2
        exact absurd (show Value.type "enumerate" = Value.type "tuple" from hc1) (by decide)
    refine wpAny_pyNext_enum_itemC (Draws.tuple (A := X.A.in1) (I.ok.hd hc) it a nai its.toArray) he ⟨hit, pT⟩ hlt hne nae fun y h' tk hy ho hst hT hsz hk => ?_
    have ey : y = u := by
      have hu' : its.toArray[i]? = some u := by simpa using hu
      rw [hu'] at hy; exact (Option.some.inj hy).symm
    subst ey
    refine ⟨_, rfl, wpAny_letOwnedTupleGo_enum (s := { s with heap := h', toks := tk + 1 }) ho fun h'' he' sb => ?_⟩
    have hT2 : h''.get? s.heap.objs.size = some { cls := .type "tuple", data := .seq #[.int i tk, y] } := (sb.2 _ (Nat.ne_of_gt hel)).trans hT
    have new : ObjOk X.prog X.w (upd H s.heap.objs.size (.tup [.int (i : Nat), x])) h'' s.heap.objs.size (.tup [.int (i : Nat), x]) :=
      ⟨by show 2 ≤ sizeLine; decide, [.int i tk, y], .cons ⟨_, rfl⟩ (.cons ru .nil), ⟨_, hT2, rfl, _, rfl⟩⟩
    have I1 : Inv X pins σ (upd H s.heap.objs.size (.tup [.int (i : Nat), x])) { s with heap := h'', toks := tk + 1 } :=
      I.turnedNew (ch := [e, it]) (fun b ob hb q => (sb.2 b (fun z => hb (by simp [z]))).trans (hk b ob (fun z => hb (by simp [z])) (fun z => hb (by simp [z])) q)) hf (Nat.le_refl _) new
    refine ⟨.ref s.heap.objs.size, _, I1, rfl, ⟨_, x, rfl, I.hok.fresh (Nat.le_refl _), rfl, fun ys hy => by rw [I.tuple_inj hy hq]; exact hx⟩, ⟨⟨y, ?_⟩, hst.1.at fun o q => (sb.2 it (Ne.symm hne)).trans q, hne⟩, fun b hb => ?_⟩
    · have e1 : ((i + 1 : Nat) : Int) = (i : Int) + 1 := by omega
      rw [e1]
      exact he'
    · have hb' : b < s.heap.objs.size := by
        rcases (by simpa using hb : b = e ∨ b = it) with z | z
        · rw [z]; exact hel
        · rw [z]; exact hil
      rw [upd_ne (Nat.ne_of_lt hb')]
      exact (hf b hb).1
  done := by
    intro X hP hw hK hc i pins s σ H E I hf st hg
    subst hP hw hK
    obtain ⟨⟨old, he⟩, hit, hne⟩ := st
    obtain ⟨xs, hq, hx⟩ := hg
    obtain ⟨its, rv, p, hz⟩ := I.tuple hq
    obtain ⟨f0, f1, f2, f3, f4, f5⟩ := hf it (by simp)
    have pT : s.heap.IsTuple a its.toArray := p
    have hl : its.toArray.size = i := by
      have := rv.length
      simp only [List.size_toArray]
      omega
    have nai : a ≠ it := fun z => by
      obtain ⟨o, ho, hc1, _⟩ := pT
      obtain ⟨o2, ho2, hc2, _⟩ := hit
      rw [z, ho2] at ho; cases ho
      rw [hc2] at hc1; exact absurd hc1 (by decide)
    exact wpAny_pyNext_enum_endD (Draws.tuple (A := X.A.in1) (I.ok.hd hc) it a nai its.toArray) he (by rw [hl]; exact ⟨hit, pT⟩) fun h' eb => ⟨rfl, I.turned (t' := s.toks) (fun b o hb q => eb b o hb q) f0 f1 f3 f4 f5⟩
  self := fun A i s Q E st h => let ⟨⟨_, he⟩, _⟩ := st; wpAny_pyIter_enum he h
/-- enumerate of a list or a tuple -/
def iEnumS (K : PySem.W.Frag) (ta : TA) : TI := fun σ H R => ta σ H fun vs H1 => ∃ a, vs = [.ref a] ∧ ((∃ xs, SqL K H1 a xs ∧ R (Ite K a) H1) ∨ (∃ xs, SqT K H1 a xs ∧ R (IteT K a) H1))
theorem pi_enumS {X : Cx} {e : Expr} {ta : TA} {p pos tpos : Pos} {elts : List Expr} {kk : Nat} (hg : Gl X "enumerate") (hm : X.mg "enumerate" = none) (ha : PA X [e] ta) (hs : starEach [e] X.env = [(false, eval e X.env)] := by rfl) :
    PI X (.Tuple elts kk tpos) (.Call (.Name "enumerate" p) [e] [] pos) (iEnumS X.K ta) := by
  refine ⟨fun pins s σ H R I h => ?_⟩
  refine Call_ (ld_blt I hg hm boot_enumerate (PyProof.Rows.callWith_type1 (thn (ha.run pos pins s σ H _ I h) fun us s1 ⟨vs, H1, I1, r1, q1⟩ => ?_) hs rfl))
  obtain ⟨a, ex, q1⟩ := q1
  subst ex
  cases r1 with
  | cons r rr =>
    cases rr
    cases r
    have fp : ∀ b ∈ [s1.heap.objs.size + 1, s1.heap.objs.size], FpOk X pins H1 b := fun b hb => by
      have hle : s1.heap.objs.size ≤ b := by
        rcases (by simpa using hb : b = s1.heap.objs.size + 1 ∨ b = s1.heap.objs.size) with z | z
        · rw [z]; exact Nat.le_add_right _ _
        · rw [z]; exact Nat.le_refl _
      exact I1.fpOk hle (I1.hok.fresh hle)
    rcases q1 with ⟨xs, hq, q⟩ | ⟨xs, hq, q⟩
    · obtain ⟨its, rv, p', hz⟩ := I1.list hq
      refine call_enumerate_list p'.isList fun h' he hit hsz hk => wpAny_pyIter_enum he ?_
      exact ⟨s1.heap.objs.size + 1, [s1.heap.objs.size + 1, s1.heap.objs.size], _, _, H1, rfl, I1.kept (t' := s1.toks) hk, turn_enum a (s1.heap.objs.size + 1) s1.heap.objs.size, ⟨⟨.none, he⟩, hit, Nat.succ_ne_self _⟩, fp, q⟩
    · obtain ⟨its, rv, p', hz⟩ := I1.tuple hq
      refine call_enum1 (begins_tuple a its.toArray) (show s1.heap.IsTuple a its.toArray from p') fun h' he hit hsz hk => wpAny_pyIter_enum he ?_
      exact ⟨s1.heap.objs.size + 1, [s1.heap.objs.size + 1, s1.heap.objs.size], _, _, H1, rfl, I1.kept (t' := s1.toks) hk, turn_enumT a (s1.heap.objs.size + 1) s1.heap.objs.size, ⟨⟨.none, he⟩, ⟨_, hit, rfl, rfl⟩, Nat.succ_ne_self _⟩, fp, q⟩
/-- a list or a tuple, walked -/
def iSeq (K : PySem.W.Frag) (tl : TE) : TI := fun σ H R => tl σ H fun x H1 => ∃ a, x = .ref a ∧ ((∃ xs, SqL K H1 a xs ∧ R (Itl K a) H1) ∨ (∃ xs, SqT K H1 a xs ∧ R (Itt K a) H1))
theorem pi_seq {X : Cx} {tg l : Expr} {tl : TE} (hl : PE X l tl) : PI X tg l (iSeq X.K tl) := by
  refine ⟨fun pins s σ H R I h => ?_⟩
  refine thn (hl.run pins s σ H _ I h) fun v s1 ⟨x, H1, I1, r1, q1⟩ => ?_
  obtain ⟨a, e, q1⟩ := q1
  subst e
  cases r1
  have fp : ∀ b ∈ [s1.heap.objs.size], FpOk X pins H1 b := fun b hb => by
    rw [List.mem_singleton.mp hb]
    exact I1.fpOk (Nat.le_refl _) (I1.hok.fresh (Nat.le_refl _))
  rcases q1 with ⟨xs, hq, q⟩ | ⟨xs, hq, q⟩
  · obtain ⟨its, rv, p, hz⟩ := I1.list hq
    refine wpAny_pyIter_list p.isList ?_
    exact ⟨s1.heap.objs.size, [s1.heap.objs.size], _, _, H1, rfl, I1.kept (t' := s1.toks) fun b o e => Heap.get?_push_of_some _ e, turn_list a _, ⟨_, Heap.get?_push_size _ rfl, rfl, rfl⟩, fp, q⟩
  · obtain ⟨its, rv, p, hz⟩ := I1.tuple hq
    refine wpAny_pyIter_tuple (show s1.heap.IsTuple a its.toArray from p) ?_
    exact ⟨s1.heap.objs.size, [s1.heap.objs.size], _, _, H1, rfl, I1.kept (t' := s1.toks) fun b o e => Heap.get?_push_of_some _ e, turn_tuple a _, ⟨_, Heap.get?_push_size _ rfl, rfl, rfl⟩, fp, q⟩
end DL

set_option Elab.async false
set_option linter.all false
set_option maxRecDepth 100000
set_option maxHeartbeats 4000000
/-! D6: walked things and targets over plain data. -/
namespace DL
open PySem PySem.Spec PyProof.Rows L2
variable {Tb : Pm}
open Classical in
/-- H without the lists at Ψ -/
noncomputable def rem (Ψ : Addr → Prop) (H : Hp) : Hp := fun a => if Ψ a then none else H a
section
variable {Ψ : Addr → Prop} {H H' : Hp}
theorem rem_same : Same (rem Ψ H) H := Same.of fun a o h => by
  unfold rem at h
  split at h
  · cases h
  · exact h
theorem rem_at {a : Addr} (h : ¬ Ψ a) : rem Ψ H a = H a := by unfold rem; rw [if_neg h]
theorem rem_in {a : Addr} (h : Ψ a) : rem Ψ H a = none := by unfold rem; rw [if_pos h]
theorem rem_tk (hl : ∀ a, Ψ a → ∃ o, H a = some o ∧ Mt o) : TK H (rem Ψ H) := fun a o e n _ => by
  by_cases hz : Ψ a
  · obtain ⟨o', q, m⟩ := hl a hz
    rw [e] at q
    exact absurd (Option.some.inj q ▸ m) n
  · rw [rem_at hz]; exact e
end
/-- how the walked thing is held -/
inductive Kd where | val | par | fr | bor | own
def R.kd : R → Kd
  | .val _ => .val | .par _ => .par | .fr _ => .fr | .bor _ => .bor | .own _ => .own
/-- an item: a datum, or a new pair of a number and a datum -/
inductive SI where | one (d : D) | en (i : Nat) (d : D)
/-- the value is the item: its datum stands wherever T holds; H ahead of the turn, H' now -/
def SIOk (K : KF) (T : Hp → Prop) (H H' : Hp) : SI → V → Prop
  | .one d, x => ∀ Z, T Z → Same Z H → Rp K Z d x
  | .en i d, x => ∃ (a : Addr) (y : V), x = V.ref a ∧ SqT K H' a [.int (i : Nat), y] ∧ ∀ Z, T Z → Same Z H → Rp K Z d y
/-- the iterator J goes through the items wherever T holds -/
def Wk (K : KF) (T : Hp → Prop) (J : It) (its : List SI) : Prop := ∀ H, T H → ∀ i,
  (∀ it, its[i]? = some it → J.go i H ∧ ∀ x H', J.yld i H x H' → Same H H' ∧ SIOk K T H H' it x) ∧ (i = its.length → J.stop i H)
abbrev GI := DSt → Option (Kd × List SI)
def DIT (Tb : Pm) (K : KF) (wi : TI) (gi : GI) : Prop := ∀ (B C : Hp) (σ : L2.St) (H : Hp) (δ : DSt) (Φ : Nat → List Addr) (kd : Kd) (its : List SI) (R : It → Hp → Prop), RSt Tb K B C σ H δ Φ → gi δ = some (kd, its) →
  (∀ (J : It) (H1 : Hp) (T : Hp → Prop), Same H H1 → (∀ Z Z', T Z → Same Z Z' → T Z') → Wk K T J its → T H1 → (kd = .par → T B) → (kd = .fr → T C) →
    (kd = .val ∨ kd = .own → ∀ Ψ : Addr → Prop, (∀ a, Ψ a → ∃ o, H a = some o ∧ Mt o) → T (rem Ψ H1)) → R J H1) → wi σ H R
def tDI (Tb : Pm) (K : KF) (gi : GI) : TI := fun σ H R => ∃ (B C : Hp) (δ : DSt) (Φ : Nat → List Addr) (kd : Kd) (its : List SI), RSt Tb K B C σ H δ Φ ∧ gi δ = some (kd, its) ∧
  ∀ (J : It) (H1 : Hp) (T : Hp → Prop), Same H H1 → (∀ Z Z', T Z → Same Z Z' → T Z') → Wk K T J its → T H1 → (kd = .par → T B) → (kd = .fr → T C) →
    (kd = .val ∨ kd = .own → ∀ Ψ : Addr → Prop, (∀ a, Ψ a → ∃ o, H a = some o ∧ Mt o) → T (rem Ψ H1)) → R J H1
structure DI (Tb : Pm) (X : Cx) (tg iter : Expr) (gi : GI) : Prop where
  pi : PI X tg iter (tDI Tb X.KK gi)
theorem DI.of {X : Cx} {tg iter : Expr} {gi : GI} {wi : TI} (h : PI X tg iter wi) (f : DIT Tb X.KK wi gi) : DI Tb X tg iter gi :=
  ⟨⟨fun pins s σ H R I q => h.run pins s σ H R I (by obtain ⟨B, C, δ, Φ, kd, its, S, e, k⟩ := q; exact f B C σ H δ Φ kd its R S e k)⟩⟩
section
variable {K : KF} {B C H H' : Hp}
/-- where the datum of a value stands, for each way of holding it -/
theorem RR.src {r : R} {v : V} {φ : List Addr} {H0 : Hp} (bc : Same B C) (ch : Same C H) (h : RR K B C H r v φ) (s0 : Same H0 H) (fr : ∀ a ∈ φ, H0 a = none) :
    Rp K H r.d v ∧ (r.kd = .par → Rp K B r.d v) ∧ (r.kd = .fr → Rp K C r.d v) ∧ (r.kd = .val ∨ r.kd = .own → ∀ Ψ : Addr → Prop, (∀ a, Ψ a → ∃ o, H0 a = some o ∧ Mt o) → Rp K (rem Ψ H) r.d v) := by
  refine ⟨h.rp bc ch, ?_, ?_, ?_⟩
  · cases r <;> intro e <;> first | exact h.2 | cases e
  · cases r <;> intro e <;> first | exact h.2 | cases e
  · have lst : ∀ (Ψ : Addr → Prop), (∀ a, Ψ a → ∃ o, H0 a = some o ∧ Mt o) → ∀ a, Ψ a → ∃ o, H a = some o ∧ Mt o := fun Ψ k a z => by
      obtain ⟨o, q, m⟩ := k a z
      exact ⟨o, s0.get q (Mt.nt m), m⟩
    cases r with
    | val d => exact fun _ Ψ k => Rp.tk (rem_tk (lst Ψ k)) _ _ h.2.1 h.2.2
    | own d =>
      intro _ Ψ k
      have q : Ow K H d v φ := h
      refine Ow.rp _ _ φ (Ow.mono (rem_tk (lst Ψ k)) _ _ _ (fun a ha => rem_at fun z => ?_) q)
      obtain ⟨_, e, _⟩ := k a z
      rw [fr a ha] at e
      cases e
    | par d => intro e; rcases e with e | e <;> cases e
    | fr d => intro e; rcases e with e | e <;> cases e
    | bor d => intro e; rcases e with e | e <;> cases e
end
def itemsOf : D → Option (List D)
  | .tup ds => some ds
  | .lst ds => some ds
  | .scr ns => some (ns.map .int)
  | _ => none
/-- for x in e -/
def gSeq (g : G) : GI := fun δ => (g δ).bind fun r => (itemsOf r.d).map fun ds => (r.kd, ds.map SI.one)
def enumFrom : Nat → List D → List SI
  | _, [] => []
  | n, d :: ds => .en n d :: enumFrom (n + 1) ds
theorem enumFrom_get : ∀ {ds : List D} {n i : Nat}, (enumFrom n ds)[i]? = (ds[i]?).map (SI.en (n + i))
  | [], n, i => by simp [enumFrom]
  | d :: ds, n, 0 => by simp [enumFrom]
  | d :: ds, n, i + 1 => by
    have := enumFrom_get (ds := ds) (n := n + 1) (i := i)
    simp only [enumFrom, List.getElem?_cons_succ]
    rw [this, show n + 1 + i = n + (i + 1) by omega]
theorem enumFrom_length : ∀ (n : Nat) (ds : List D), (enumFrom n ds).length = ds.length
  | _, [] => rfl
  | n, d :: ds => by simp [enumFrom, enumFrom_length]
/-- for i, x in enumerate(e) -/
def gEnum (g : G) : GI := fun δ => (g δ).bind fun r => (itemsOf r.d).map fun ds => (r.kd, enumFrom 0 ds)
/-- for k in range(b), range(a, b) -/
def rangeL (i : Int) : Nat → List SI
  | 0 => []
  | n + 1 => .one (.int i) :: rangeL (i + 1) n
theorem rangeL_get : ∀ {n : Nat} {i : Int} {j : Nat}, (rangeL i n)[j]? = if j < n then some (.one (.int (i + j))) else none
  | 0, i, j => by simp [rangeL]
  | n + 1, i, 0 => by simp [rangeL]
  | n + 1, i, j + 1 => by
    simp only [rangeL, List.getElem?_cons_succ]
    rw [rangeL_get]
    by_cases h : j < n
    · rw [if_pos h, if_pos (by omega)]
      congr 3
      omega
    · rw [if_neg h, if_neg (by omega)]
theorem rangeL_length : ∀ (n : Nat) (i : Int), (rangeL i n).length = n
  | 0, _ => rfl
  | n + 1, i => by simp [rangeL, rangeL_length]
def small62 (i : Int) : Bool := decide (-(2 ^ 62) ≤ i ∧ i < 2 ^ 62)
def gRng1 (g : G) : GI := fun δ => (g δ).bind fun r => match r.d with
  | .int b => if small62 b = true then some (.val, rangeL 0 b.toNat) else none
  | _ => none
def gRng2 (g h : G) : GI := fun δ => (g δ).bind fun r => (h δ).bind fun s => match r.d, s.d with
  | .int a, .int b => if small62 a = true ∧ small62 b = true then some (.val, rangeL a (b - a).toNat) else none
  | _, _ => none
section
variable {X : Cx} {tg e a : Expr} {g : G} {pos : Pos}
/-- the list, the tuple of these data stands at b -/
def TL (K : KF) (b : Addr) (ds : List D) (Z : Hp) : Prop := ∃ xs, SqL K Z b xs ∧ RpL K Z ds xs
def TT' (K : KF) (b : Addr) (ds : List D) (Z : Hp) : Prop := ∃ xs, SqT K Z b xs ∧ RpL K Z ds xs
theorem TL.mono {K : KF} {b : Addr} {ds : List D} {Z Z' : Hp} (t : TL K b ds Z) (m : Same Z Z') : TL K b ds Z' := let ⟨xs, h1, h2⟩ := t; ⟨xs, Same.seq m h1, RpL.mono m _ _ h2⟩
theorem TT'.mono {K : KF} {b : Addr} {ds : List D} {Z Z' : Hp} (t : TT' K b ds Z) (m : Same Z Z') : TT' K b ds Z' := let ⟨xs, h1, h2⟩ := t; ⟨xs, Same.seqT m h1, RpL.mono m _ _ h2⟩
theorem wk_list {K : KF} {b : Addr} {ds : List D} : Wk K (TL K b ds) (Itl K b) (ds.map SI.one) := by
  intro H ⟨xs, h1, h2⟩ i
  refine ⟨fun it hi => ?_, fun hi => ⟨xs, h1, by rw [hi, List.length_map, h2.length]; exact Nat.le_refl _⟩⟩
  rw [List.getElem?_map] at hi
  obtain ⟨d, e1, rfl⟩ := map_some hi
  obtain ⟨x, e2, e3⟩ := RpL.at h2 e1
  refine ⟨⟨xs, x, h1, e2⟩, fun y H' hy => ?_⟩
  obtain ⟨rfl, hy⟩ := hy
  refine ⟨Same.refl _, fun Z ⟨zs, k1, k2⟩ m => ?_⟩
  obtain ⟨u, e4, e5⟩ := RpL.at k2 e1
  have q := hy zs (Same.seq m k1)
  rw [e4] at q; cases q
  exact e5
theorem wk_tup {K : KF} {b : Addr} {ds : List D} : Wk K (TT' K b ds) (Itt K b) (ds.map SI.one) := by
  intro H ⟨xs, h1, h2⟩ i
  refine ⟨fun it hi => ?_, fun hi => ⟨xs, h1, by rw [hi, List.length_map, h2.length]; exact Nat.le_refl _⟩⟩
  rw [List.getElem?_map] at hi
  obtain ⟨d, e1, rfl⟩ := map_some hi
  obtain ⟨x, e2, e3⟩ := RpL.at h2 e1
  refine ⟨⟨xs, x, h1, e2⟩, fun y H' hy => ?_⟩
  obtain ⟨rfl, hy⟩ := hy
  refine ⟨Same.refl _, fun Z ⟨zs, k1, k2⟩ m => ?_⟩
  obtain ⟨u, e4, e5⟩ := RpL.at k2 e1
  have q := hy zs (Same.seqT m k1)
  rw [e4] at q; cases q
  exact e5
theorem wk_enum {K : KF} {b : Addr} {ds : List D} : Wk K (TL K b ds) (Ite K b) (enumFrom 0 ds) := by
  intro H ⟨xs, h1, h2⟩ i
  refine ⟨fun it hi => ?_, fun hi => ⟨xs, h1, by rw [hi, enumFrom_length, h2.length]; exact Nat.le_refl _⟩⟩
  rw [enumFrom_get, Nat.zero_add] at hi
  obtain ⟨d, e1, rfl⟩ := map_some hi
  obtain ⟨x, e2, e3⟩ := RpL.at h2 e1
  refine ⟨⟨xs, x, h1, e2⟩, fun y H' hy => ?_⟩
  obtain ⟨t, z, rfl, ht, rfl, hy⟩ := hy
  refine ⟨same_upd ht, t, z, rfl, SqT.of upd_same, fun Z ⟨zs, k1, k2⟩ m => ?_⟩
  obtain ⟨u, e4, e5⟩ := RpL.at k2 e1
  have q := hy zs (Same.seq m k1)
  rw [e4] at q; cases q
  exact e5
theorem wk_enumT {K : KF} {b : Addr} {ds : List D} : Wk K (TT' K b ds) (IteT K b) (enumFrom 0 ds) := by
  intro H ⟨xs, h1, h2⟩ i
  refine ⟨fun it hi => ?_, fun hi => ⟨xs, h1, by rw [hi, enumFrom_length, h2.length]⟩⟩
  rw [enumFrom_get, Nat.zero_add] at hi
  obtain ⟨d, e1, rfl⟩ := map_some hi
  obtain ⟨x, e2, e3⟩ := RpL.at h2 e1
  refine ⟨⟨xs, x, h1, e2⟩, fun y H' hy => ?_⟩
  obtain ⟨t, z, rfl, ht, rfl, hy⟩ := hy
  refine ⟨same_upd ht, t, z, rfl, SqT.of upd_same, fun Z ⟨zs, k1, k2⟩ m => ?_⟩
  obtain ⟨u, e4, e5⟩ := RpL.at k2 e1
  have q := hy zs (Same.seqT m k1)
  rw [e4] at q; cases q
  exact e5
theorem wk_rng {K : KF} {i : Int} {n : Nat} : Wk K (fun _ => True) (Itr i n) (rangeL i n) := by
  intro H _ j
  refine ⟨fun it hi => ?_, fun hi => by rw [hi, rangeL_length]; exact Nat.le_refl _⟩
  rw [rangeL_get] at hi
  split at hi
  · rename_i hj
    cases hi
    refine ⟨hj, fun y H' hy => ?_⟩
    obtain ⟨rfl, rfl⟩ := hy
    exact ⟨Same.refl _, fun Z _ _ => by unfold Rp; rfl⟩
  · cases hi
/-- what stands where a datum that is walked is -/
def srcT (K : KF) (d : D) (b : Addr) (ds : List D) : Hp → Prop := match d with
  | .tup _ => TT' K b ds
  | _ => TL K b ds
theorem srcT.mono {K : KF} {d : D} {b : Addr} {ds : List D} {Z Z' : Hp} (t : srcT K d b ds Z) (m : Same Z Z') : srcT K d b ds Z' := by
  cases d <;> first | exact TT'.mono t m | exact TL.mono t m
theorem rp_src {K : KF} {H : Hp} {d : D} {v : V} {ds : List D} (h : Rp K H d v) (e : itemsOf d = some ds) : ∃ b, v = V.ref b ∧ srcT K d b ds H := by
  cases d with
  | tup es => cases e; unfold Rp at h; obtain ⟨a, xs, h1, h2, h3⟩ := h; exact ⟨a, h1, xs, h2, h3⟩
  | lst es => cases e; unfold Rp at h; obtain ⟨a, xs, h1, h2, h3⟩ := h; exact ⟨a, h1, xs, SqL.of h2, h3⟩
  | scr ns => cases e; unfold Rp at h; obtain ⟨a, h1, h2⟩ := h; exact ⟨a, h1, _, h2, rpL_ints ns⟩
  | non => cases e
  | bl => cases e
  | int => cases e
  | str => cases e
  | dct => cases e
  | set => cases e
theorem src_ref {K : KF} {H : Hp} {d : D} {b : Addr} {ds : List D} (h : Rp K H d (.ref b)) (e : itemsOf d = some ds) : srcT K d b ds H := by
  obtain ⟨b', e1, t⟩ := rp_src h e
  cases e1
  exact t
theorem di_seq (h : DE Tb X a g) : DI Tb X tg a (gSeq g) := by
  refine DI.of (pi_seq h.pe) fun B C σ H δ Φ kd its R S e k => ?_
  obtain ⟨r, e1, e2⟩ := bind1_some e
  obtain ⟨ds, e3, e4⟩ := map_some e2
  cases e4
  refine ⟨B, C, δ, Φ, r, S, e1, fun v H1 φ s q f n => ?_⟩
  have ch := S.ch.trans s
  obtain ⟨t1, t2, t3, t4⟩ := q.src S.bc ch s f
  obtain ⟨b, rfl, ht⟩ := rp_src t1 e3
  refine ⟨b, rfl, ?_⟩
  have kk := fun J (w : Wk X.KK (srcT X.KK r.d b ds) J (ds.map SI.one)) => k J H1 (srcT X.KK r.d b ds) s (fun Z Z' t m => t.mono m) w ht (fun z => src_ref (t2 z) e3) (fun z => src_ref (t3 z) e3) (fun z Ψ y => src_ref (t4 z Ψ y) e3)
  clear t1 t2 t3 t4
  revert kk ht
  cases r.d with
  | tup es => intro ht kk; exact .inr ⟨ht.choose, ht.choose_spec.1, kk _ wk_tup⟩
  | lst es => intro ht kk; exact .inl ⟨ht.choose, ht.choose_spec.1, kk _ wk_list⟩
  | scr es => intro ht kk; exact .inl ⟨ht.choose, ht.choose_spec.1, kk _ wk_list⟩
  | non => intro ht kk; exact .inl ⟨ht.choose, ht.choose_spec.1, kk _ wk_list⟩
  | bl => intro ht kk; exact .inl ⟨ht.choose, ht.choose_spec.1, kk _ wk_list⟩
  | int => intro ht kk; exact .inl ⟨ht.choose, ht.choose_spec.1, kk _ wk_list⟩
  | str => intro ht kk; exact .inl ⟨ht.choose, ht.choose_spec.1, kk _ wk_list⟩
  | dct => intro ht kk; exact .inl ⟨ht.choose, ht.choose_spec.1, kk _ wk_list⟩
  | set => intro ht kk; exact .inl ⟨ht.choose, ht.choose_spec.1, kk _ wk_list⟩
theorem di_enum {elts : List Expr} {kk : Nat} {p tpos : Pos} (h : DE Tb X a g) (hm : X.mg "enumerate" = none) (hg : Gl X "enumerate" := by rfl) (hs : starEach [a] X.env = (false, eval a X.env) :: starEach [] X.env := by rfl) (hs1 : starEach [a] X.env = [(false, eval a X.env)] := by rfl) :
    DI Tb X (.Tuple elts kk tpos) (.Call (.Name "enumerate" p) [a] [] pos) (gEnum g) := by
  refine DI.of (pi_enumS hg hm (pa_cons h.pe pa_nil hs) hs1) fun B C σ H δ Φ kd its R S e k => ?_
  obtain ⟨r, e1, e2⟩ := bind1_some e
  obtain ⟨ds, e3, e4⟩ := map_some e2
  cases e4
  refine ⟨B, C, δ, Φ, r, S, e1, fun v H1 φ s q f n => ?_⟩
  have ch := S.ch.trans s
  obtain ⟨t1, t2, t3, t4⟩ := q.src S.bc ch s f
  obtain ⟨b, rfl, ht⟩ := rp_src t1 e3
  refine ⟨b, rfl, ?_⟩
  have kk := fun J (w : Wk X.KK (srcT X.KK r.d b ds) J (enumFrom 0 ds)) => k J H1 (srcT X.KK r.d b ds) s (fun Z Z' t m => t.mono m) w ht (fun z => src_ref (t2 z) e3) (fun z => src_ref (t3 z) e3) (fun z Ψ y => src_ref (t4 z Ψ y) e3)
  clear t1 t2 t3 t4
  revert kk ht
  cases r.d with
  | tup es => intro ht kk; exact .inr ⟨ht.choose, ht.choose_spec.1, kk _ wk_enumT⟩
  | lst es => intro ht kk; exact .inl ⟨ht.choose, ht.choose_spec.1, kk _ wk_enum⟩
  | scr es => intro ht kk; exact .inl ⟨ht.choose, ht.choose_spec.1, kk _ wk_enum⟩
  | non => intro ht kk; exact .inl ⟨ht.choose, ht.choose_spec.1, kk _ wk_enum⟩
  | bl => intro ht kk; exact .inl ⟨ht.choose, ht.choose_spec.1, kk _ wk_enum⟩
  | int => intro ht kk; exact .inl ⟨ht.choose, ht.choose_spec.1, kk _ wk_enum⟩
  | str => intro ht kk; exact .inl ⟨ht.choose, ht.choose_spec.1, kk _ wk_enum⟩
  | dct => intro ht kk; exact .inl ⟨ht.choose, ht.choose_spec.1, kk _ wk_enum⟩
  | set => intro ht kk; exact .inl ⟨ht.choose, ht.choose_spec.1, kk _ wk_enum⟩
theorem small62_iff {i : Int} (h : small62 i = true) : -(2 ^ 62) ≤ i ∧ i < 2 ^ 62 := of_decide_eq_true h
theorem di_rng1 {p : Pos} (h : DE Tb X a g) (hm : X.mg "range" = none) (hg : Gl X "range" := by rfl) (hs : starEach [a] X.env = (false, eval a X.env) :: starEach [] X.env := by rfl) (hs1 : starEach [a] X.env = [(false, eval a X.env)] := by rfl) : DI Tb X tg (.Call (.Name "range" p) [a] [] pos) (gRng1 g) := by
  refine DI.of (pi_range1 hg hm (pa_cons h.pe pa_nil hs) hs1) fun B C σ H δ Φ kd its R S e k => ?_
  obtain ⟨r, e1, e2⟩ := bind1_some e
  refine ⟨B, C, δ, Φ, r, S, e1, fun v H1 φ s q f n => ?_⟩
  have rp := q.rp S.bc (S.ch.trans s)
  split at e2
  · rename_i b hb
    rw [hb] at rp
    split at e2
    · rename_i hz
      cases e2
      obtain ⟨z1, z2⟩ := small62_iff hz
      exact ⟨b, by rw [rp_int rp], z1, z2, k _ H1 (fun _ => True) s (fun _ _ _ _ => trivial) wk_rng trivial (fun _ => trivial) (fun _ => trivial) (fun _ _ _ => trivial)⟩
    · cases e2
  · cases e2
theorem di_rng2 {b : Expr} {g2 : G} {p : Pos} (ha : DE Tb X a g) (hb : DE Tb X b g2) (hm : X.mg "range" = none) (hg : Gl X "range" := by rfl) (he1 : starEach [a, b] X.env = (false, eval a X.env) :: starEach [b] X.env := by rfl) (he2 : starEach [b] X.env = (false, eval b X.env) :: starEach [] X.env := by rfl)
    (hs : starEach [a, b] X.env = [(false, eval a X.env), (false, eval b X.env)] := by rfl) (hs2 : starEach [b] X.env = [(false, eval b X.env)] := by rfl) : DI Tb X tg (.Call (.Name "range" p) [a, b] [] pos) (gRng2 g g2) := by
  refine DI.of (pi_range2 hg hm (pa_cons ha.pe (pa_cons hb.pe pa_nil he2) he1) hs hs2) fun B C σ H δ Φ kd its R S e k => ?_
  obtain ⟨x, y, e1, e2, e3⟩ := bind2_some e
  refine two S e1 e2 fun u w H' s q1 q2 => ?_
  split at e3
  · rename_i i j hx hy
    rw [hx] at q1
    rw [hy] at q2
    split at e3
    · rename_i hz
      cases e3
      obtain ⟨z1, z2⟩ := small62_iff hz.1
      obtain ⟨z3, z4⟩ := small62_iff hz.2
      exact ⟨i, j, by rw [rp_int q1, rp_int q2], ⟨z1, z2, z3, z4⟩, k _ H' (fun _ => True) s (fun _ _ _ _ => trivial) wk_rng trivial (fun _ => trivial) (fun _ => trivial) (fun _ _ _ => trivial)⟩
    · cases e3
  · cases e3
end

/-! ### targets -/
/-- an item on its way to a target -/
inductive Itm where | one (r : R) | tup (rs : List R)
def ItOk (K : KF) (B C H : Hp) : Itm → V → List Addr → Prop
  | .one r, v, φ => RR K B C H r v φ
  | .tup rs, v, φ => ∃ (a : Addr) (xs : List V), v = V.ref a ∧ SqT K H a xs ∧ RRL K B C H rs xs φ
abbrev GTg := Itm → DSt → Option DSt
abbrev GTgs := List R → DSt → Option DSt
/-- what a target's store leaves; ts: the slots that it may store -/
def TgEnd (Tb : Pm) (K : KF) (B C : Hp) (ts : List Nat) (σ : L2.St) (H : Hp) (δ : DSt) (Φ : Nat → List Addr) (φ : List Addr) (δ' : DSt) (σ' : L2.St) : Prop :=
  ∃ Φ', RSt Tb K B C σ' H δ' Φ' ∧ Lk Tb.pr σ δ σ' δ' ∧ (∀ j a, a ∈ Φ' j → a ∈ Φ j ∨ a ∈ φ) ∧ σ'.length = σ.length ∧ ∀ j, j ∉ ts → σ'[j]? = σ[j]?
def tDG (Tb : Pm) (K : KF) (ts : List Nat) (g : GTg) : TG := fun v σ H Q => ∃ (B C : Hp) (δ : DSt) (Φ : Nat → List Addr) (it : Itm) (φ : List Addr) (δ' : DSt), RSt Tb K B C σ H δ Φ ∧ ItOk K B C H it v φ ∧ φ.Nodup ∧ (∀ a ∈ φ, C a = none) ∧ (∀ j a, a ∈ φ → a ∉ Φ j) ∧ g it δ = some δ' ∧
  ∀ σ', TgEnd Tb K B C ts σ H δ Φ φ δ' σ' → Q σ' H
def tDGs (Tb : Pm) (K : KF) (ts : List Nat) (g : GTgs) : TGs := fun vs σ H Q => ∃ (B C : Hp) (δ : DSt) (Φ : Nat → List Addr) (rs : List R) (φ : List Addr) (δ' : DSt), RSt Tb K B C σ H δ Φ ∧ RRL K B C H rs vs φ ∧ φ.Nodup ∧ (∀ a ∈ φ, C a = none) ∧ (∀ j a, a ∈ φ → a ∉ Φ j) ∧ g rs δ = some δ' ∧
  ∀ σ', TgEnd Tb K B C ts σ H δ Φ φ δ' σ' → Q σ' H
structure DG (Tb : Pm) (X : Cx) (tg : Expr) (ts : List Nat) (g : GTg) : Prop where
  pg : PG X tg (tDG Tb X.KK ts g)
structure DGs (Tb : Pm) (X : Cx) (tgs : List Expr) (ts : List Nat) (n : Nat) (g : GTgs) : Prop where
  pgs : PGs X tgs (tDGs Tb X.KK ts g)
theorem DG.of {X : Cx} {tg : Expr} {ts : List Nat} {g : GTg} {t : TG} (h : PG X tg t) (f : ∀ (B C : Hp) (σ : L2.St) (H : Hp) (δ : DSt) (Φ : Nat → List Addr) (it : Itm) (v : V) (φ : List Addr) (δ' : DSt) (Q : L2.St → Hp → Prop), RSt Tb X.KK B C σ H δ Φ → ItOk X.KK B C H it v φ → φ.Nodup → (∀ a ∈ φ, C a = none) → (∀ j a, a ∈ φ → a ∉ Φ j) → g it δ = some δ' →
    (∀ σ', TgEnd Tb X.KK B C ts σ H δ Φ φ δ' σ' → Q σ' H) → t v σ H Q) : DG Tb X tg ts g :=
  ⟨⟨fun pins s σ H v u Q I r q => h.run pins s σ H v u Q I r (by obtain ⟨B, C, δ, Φ, it, φ, δ', a1, a2, a3, a4, a5, a6, a7⟩ := q; exact f B C σ H δ Φ it v φ δ' Q a1 a2 a3 a4 a5 a6 a7)⟩⟩
theorem DGs.of {X : Cx} {tgs : List Expr} {ts : List Nat} {n : Nat} {g : GTgs} {t : TGs} (h : PGs X tgs t) (f : ∀ (B C : Hp) (σ : L2.St) (H : Hp) (δ : DSt) (Φ : Nat → List Addr) (rs : List R) (vs : List V) (φ : List Addr) (δ' : DSt) (Q : L2.St → Hp → Prop), RSt Tb X.KK B C σ H δ Φ → RRL X.KK B C H rs vs φ → φ.Nodup → (∀ a ∈ φ, C a = none) → (∀ j a, a ∈ φ → a ∉ Φ j) → g rs δ = some δ' →
    (∀ σ', TgEnd Tb X.KK B C ts σ H δ Φ φ δ' σ' → Q σ' H) → t vs σ H Q) : DGs Tb X tgs ts n g :=
  ⟨⟨fun pins s σ H v u Q I r q => h.run pins s σ H v u Q I r (by obtain ⟨B, C, δ, Φ, it, φ, δ', a1, a2, a3, a4, a5, a6, a7⟩ := q; exact f B C σ H δ Φ it v φ δ' Q a1 a2 a3 a4 a5 a6 a7)⟩⟩
section
variable {X : Cx} {tg : Expr} {tgs : List Expr} {ts us : List Nat} {pos : Pos}
def gName (i : Nat) : GTg := fun it δ => match it with
  | .one r => store i r δ
  | .tup _ => none
theorem set_get_ne {α : Type} {l : List α} {i j : Nat} {x : α} (h : j ≠ i) : (l.set i x)[j]? = l[j]? := List.getElem?_set_ne (Ne.symm h)
theorem dg_name (i : Nat) {x : Str} (hN : X.N.Nodup) (hi : X.N[i]? = some x := by rfl) (hx : Loc X.env.scope x := by first | exact Or.inl rfl | exact Or.inr rfl) (hf : X.fn x = true ∨ X.env.scope.names.lookup x = some .local := by first | exact .inl rfl | exact .inr rfl | assumption) (hp : i ∉ Tb.pr := by first | exact List.not_mem_nil | exact np0) : DG Tb X (.Name x pos) [i] (gName i) := by
  refine DG.of (pg_name hN hi hx hf) fun B C σ H δ Φ it v φ δ' Q S q n fc fr e k => ?_
  cases it with
  | tup rs => cases e
  | one r =>
    refine k _ ⟨_, S.store e q n fc fr, Lk.store hp e, fun j a ha => ?_, List.length_set, fun j hj => set_get_ne (by simpa using hj)⟩
    split at ha
    · exact .inr ha
    · exact .inl ha
def gsNil : GTgs := fun rs δ => match rs with | [] => some δ | _ => none
def gsCons (g : GTg) (gs : GTgs) : GTgs := fun rs δ => match rs with
  | [] => none
  | r :: rs => (g (.one r) δ).bind fun δ1 => gs rs δ1
theorem dgs_nil : DGs Tb X [] [] 0 gsNil := by
  refine DGs.of pgs_nil fun B C σ H δ Φ rs vs φ δ' Q S q n fc fr e k => ?_
  cases rs with
  | nil =>
    cases e
    obtain ⟨rfl, rfl⟩ := q
    exact ⟨rfl, k σ ⟨Φ, S, Lk.refl, fun j a h => .inl h, rfl, fun _ _ => rfl⟩⟩
  | cons => cases e
theorem dgs_cons {e : Expr} {g : GTg} {gs : GTgs} {n : Nat} (h1 : DG Tb X e ts g) (h2 : DGs Tb X tgs us n gs) (hs : (assignEach (e :: tgs) X.env).map (·.2) = assign e X.env :: (assignEach tgs X.env).map (·.2) := by rfl) : DGs Tb X (e :: tgs) (ts ++ us) (n + 1) (gsCons g gs) := by
  refine DGs.of (pgs_cons h1.pg h2.pgs hs) fun B C σ H δ Φ rs vs φ δ' Q S q n fc fr e k => ?_
  cases rs with
  | nil => cases e
  | cons r rs =>
    obtain ⟨δ1, e1, e2⟩ := bind1_some e
    obtain ⟨v, w, φ1, φ2, rfl, q1, q2, rfl⟩ := q
    obtain ⟨n1, n2, n3⟩ := List.nodup_append.mp n
    refine ⟨v, w, rfl, B, C, δ, Φ, .one r, φ1, δ1, S, q1, n1, fun a ha => fc a (List.mem_append_left _ ha), fun j a ha => fr j a (List.mem_append_left _ ha), e1, fun σ1 ⟨Φ1, S1, L1, f1, l1, o1⟩ => ?_⟩
    refine ⟨B, C, δ1, Φ1, rs, φ2, δ', S1, q2, n2, fun a ha => fc a (List.mem_append_right _ ha), fun j a ha hb => ?_, e2, fun σ2 ⟨Φ2, S2, L2, f2, l2, o2⟩ => ?_⟩
    · rcases f1 j a hb with z | z
      · exact fr j a (List.mem_append_right _ ha) z
      · exact n3 a z a ha rfl
    · refine k σ2 ⟨Φ2, S2, L1.trans L2, fun j a ha => ?_, l2.trans l1, fun j hj => ?_⟩
      · rcases f2 j a ha with z | z
        · rcases f1 j a z with z | z
          · exact .inl z
          · exact .inr (List.mem_append_left _ z)
        · exact .inr (List.mem_append_right _ z)
      · rw [List.mem_append, not_or] at hj
        exact (o2 j hj.2).trans (o1 j hj.1)
/-- the parts of a tuple that is taken apart -/
def R.parts : R → Option (List R)
  | .own (.tup ds) => some (ds.map fun d => if pu d = true then .val d else .own d)
  | r => (match r.d with | .tup ds => some (ds.map r.elt) | _ => none)
def Itm.parts : Itm → Option (List R)
  | .one r => r.parts
  | .tup rs => some rs
theorem parts_own {K : KF} {B C H : Hp} : ∀ {ds : List D} {xs : List V} {φ : List Addr}, OwL K H ds xs φ → RRL K B C H (ds.map fun d => if pu d = true then R.val d else .own d) xs φ
  | [], _, _, h => by unfold OwL at h; exact h
  | d :: ds, _, _, h => by
    unfold OwL at h
    obtain ⟨x, ys, φ1, φ2, e1, q, r, e2⟩ := h
    refine ⟨x, ys, φ1, φ2, e1, ?_, parts_own r, e2⟩
    show RR K B C H (if pu d = true then R.val d else R.own d) x φ1
    split
    · rename_i hp
      exact ⟨Ow.nil _ _ _ hp q, hp, Ow.rp _ _ _ q⟩
    · exact q
theorem parts_elt {K : KF} {B C H Z : Hp} {r : R} (el : ∀ d w, Rp K Z d w → RR K B C H (r.elt d) w []) : ∀ {ds : List D} {xs : List V}, RpL K Z ds xs → RRL K B C H (ds.map r.elt) xs []
  | [], _, h => by unfold RpL at h; exact ⟨h, rfl⟩
  | d :: ds, _, h => by
    unfold RpL at h
    obtain ⟨x, ys, e1, q, k⟩ := h
    exact ⟨x, ys, [], [], e1, el d x q, parts_elt el k, rfl⟩
theorem parts_ok {K : KF} {B C H : Hp} {it : Itm} {v : V} {φ : List Addr} {rs : List R} (bc : Same B C) (ch : Same C H) (h : ItOk K B C H it v φ) (e : it.parts = some rs) : ∃ a xs ψ, v = V.ref a ∧ SqT K H a xs ∧ RRL K B C H rs xs ψ ∧ (ψ = φ ∨ ψ = []) := by
  cases it with
  | tup ss =>
    cases e
    obtain ⟨a, xs, h1, h2, h3⟩ := h
    exact ⟨a, xs, φ, h1, h2, h3, .inl rfl⟩
  | one r =>
    have e9 : r.parts = some rs := e
    have h : RR K B C H r v φ := h
    clear e
    have gen : ∀ ds, r.d = .tup ds → rs = ds.map r.elt → ∃ a xs ψ, v = V.ref a ∧ SqT K H a xs ∧ RRL K B C H rs xs ψ ∧ (ψ = φ ∨ ψ = []) := fun ds hd hrs => by
      obtain ⟨Z, sz, qz, el⟩ := RR.elt bc ch h
      rw [hd] at qz
      unfold Rp at qz
      obtain ⟨a, xs, e1, q1, q2⟩ := qz
      exact ⟨a, xs, [], e1, Same.seqT sz q1, by rw [hrs]; exact parts_elt el q2, .inr rfl⟩
    by_cases ho : ∃ ds, r = .own (.tup ds)
    · obtain ⟨ds, rfl⟩ := ho
      cases e9
      have h : Ow K H (.tup ds) v φ := h
      unfold Ow at h
      obtain ⟨a, xs, e1, q1, q2⟩ := h
      exact ⟨a, xs, φ, e1, q1, parts_own q2, .inl rfl⟩
    · have e10 : (match r.d with | .tup ds => some (ds.map r.elt) | _ => none) = some rs := by
        cases r with
        | own d => cases d with
          | tup ds => exact absurd ⟨ds, rfl⟩ ho
          | _ => exact e9
        | _ => exact e9
      split at e10
      · rename_i ds hd
        exact gen ds hd (Option.some.inj e10).symm
      · cases e10
def gTupT (n : Nat) (gs : GTgs) : GTg := fun it δ => it.parts.bind fun rs => if rs.length = n then gs rs δ else none
theorem dg_tup {n k : Nat} {gs : GTgs} (hc : X.calm = true) (h : DGs Tb X tgs ts n gs) (hn : (assignEach tgs X.env).length = n := by rfl) (hst : (assignEach tgs X.env).findIdx? (·.1) = none := by rfl) : DG Tb X (.Tuple tgs k pos) ts (gTupT n gs) := by
  refine DG.of (pg_tup hc h.pgs hn hst) fun B C σ H δ Φ it v φ δ' Q S q nd fc fr e kk => ?_
  obtain ⟨rs, e1, e2⟩ := bind1_some e
  split at e2
  · rename_i hl
    obtain ⟨a, xs, ψ, rfl, hs, hq, hψ⟩ := parts_ok S.bc S.ch q e1
    refine ⟨a, xs, rfl, hs, by rw [hq.length]; exact hl, ?_⟩
    rcases hψ with rfl | rfl
    · exact ⟨B, C, δ, Φ, rs, ψ, δ', S, hq, nd, fc, fr, e2, kk⟩
    · exact ⟨B, C, δ, Φ, rs, [], δ', S, hq, List.nodup_nil, (fun _ z => by cases z), (fun _ _ z => by cases z), e2, fun σ' ⟨Φ', a1, a2, a3, a4⟩ => kk σ' ⟨Φ', a1, a2, fun j b hb => .inl ((a3 j b hb).resolve_right fun z => by cases z), a4⟩⟩
  · cases e2
end
end DL

set_option Elab.async false
set_option linter.all false
set_option maxRecDepth 100000
set_option maxHeartbeats 4000000
/-! D7: list comprehensions over plain data. -/
namespace DL
open PySem PySem.Spec PyProof.Rows L2
variable {Tb : Pm}
def wipeD (δ : DSt) : List Nat → DSt
  | [] => δ
  | v :: vs => (wipeD δ vs).set v .no
section
variable {K : KF} {B C H : Hp} {σ : L2.St} {δ : DSt} {Φ : Nat → List Addr}
theorem RSt.forget (h : RSt Tb K B C σ H δ Φ) (i : Nat) : RSt Tb K B C (σ.set i none) H (δ.set i .no) (fun j => if j = i then [] else Φ j) := by
  refine ⟨by simpa using h.len, fun j => ?_, fun j => ?_, fun j k a ha hb => ?_, h.bc, h.ch, fun j a ha => ?_, h.tb⟩
  · rw [getD_set, getD_set, h.len]
    by_cases hj : j = i
    · subst hj
      rw [if_pos rfl]
      by_cases hl : j < δ.length
      · rw [if_pos ⟨rfl, hl⟩, if_pos ⟨rfl, hl⟩]
        rfl
      · rw [if_neg (fun z => hl z.2), if_neg (fun z => hl z.2)]
        have e : δ.getD j .no = .no := by rw [List.getD_eq_getElem?_getD, List.getElem?_eq_none (by omega)]; rfl
        rw [e]
        rfl
    · rw [if_neg (fun z => hj z.1), if_neg (fun z => hj z.1), if_neg hj]
      exact h.sl j
  · split
    · exact List.nodup_nil
    · exact h.nd j
  · split at ha
    · cases ha
    · split at hb
      · cases hb
      · exact h.dj j k a ha hb
  · split at ha
    · cases ha
    · exact h.fr j a ha
theorem RSt.wipe (h : RSt Tb K B C σ H δ Φ) : ∀ vs : List Nat, ∃ Φ', RSt Tb K B C (L2.wipe σ vs) H (wipeD δ vs) Φ'
  | [] => ⟨Φ, h⟩
  | v :: vs => by
    obtain ⟨Φ', q⟩ := RSt.wipe h vs
    exact ⟨_, q.forget v⟩
theorem wipe_mem {i : Nat} : ∀ {vs : List Nat}, i ∈ vs → (L2.wipe σ vs)[i]? = if i < σ.length then some none else none
  | v :: vs, h => by
    unfold L2.wipe
    by_cases hv : v = i
    · subst hv
      by_cases hl : v < σ.length
      · rw [if_pos hl, List.getElem?_set_self (by rw [wipe_length]; exact hl)]
      · rw [if_neg hl, List.getElem?_eq_none (by rw [List.length_set, wipe_length]; omega)]
    · rw [List.getElem?_set_ne hv]
      rcases List.mem_cons.mp h with z | z
      · exact absurd z.symm hv
      · exact wipe_mem z
theorem wipe_eq {σ2 : L2.St} {vs : List Nat} (hl : σ2.length = σ.length) (h : ∀ j, j ∉ vs → σ2[j]? = (L2.wipe σ vs)[j]?) : L2.wipe σ2 vs = L2.wipe σ vs := by
  apply List.ext_getElem?
  intro i
  by_cases hi : i ∈ vs
  · rw [wipe_mem hi, wipe_mem hi, hl]
  · rw [wipe_out hi, h i hi]
end
/-- an item of a comprehension's source -/
def Kd.mk (k : Kd) (d : D) : R := if pu d = true then .val d else match k with
  | .par => .par d | .fr => .fr d | _ => .bor d
def Kd.itm (k : Kd) : SI → Itm
  | .one d => .one (k.mk d)
  | .en i d => .tup [.val (.int i), k.mk d]
section
variable {K : KF} {B C H1 H H' : Hp}
theorem kd_mk {k : Kd} {d : D} {x : V} (hB : k = .par → Rp K B d x) (hC : k = .fr → Rp K C d x) (hH : Rp K H d x) : RR K B C H (k.mk d) x [] := by
  unfold Kd.mk
  split
  · rename_i p; exact ⟨rfl, p, hH⟩
  · cases k with
    | par => exact ⟨rfl, hB rfl⟩
    | fr => exact ⟨rfl, hC rfl⟩
    | val => exact ⟨rfl, hH⟩
    | bor => exact ⟨rfl, hH⟩
    | own => exact ⟨rfl, hH⟩
/-- the item that the iterator gives, as the target takes it -/
theorem itm_ok {T : Hp → Prop} {J : It} {its : List SI} {k : Kd} {i : Nat} {it : SI} {x : V} (wk : Wk K T J its) (sB : Same B H) (sC : Same C H) (s1 : Same H1 H) (tH : T H) (t1 : T H1) (tB : k = .par → T B) (tC : k = .fr → T C)
    (hi : its[i]? = some it) (hy : J.yld i H x H') : Same H H' ∧ ItOk K B C H' (k.itm it) x [] := by
  obtain ⟨ss, q1⟩ := ((wk H tH i).1 it hi).2 x H' hy
  refine ⟨ss, ?_⟩
  cases it with
  | one d => exact kd_mk (fun z => q1 B (tB z) sB) (fun z => q1 C (tC z) sC) (Rp.mono (s1.trans ss) _ _ (q1 H1 t1 s1))
  | en j d =>
    obtain ⟨a, y, rfl, hs, hr⟩ := q1
    exact ⟨a, [.int j, y], rfl, hs, .int j, [y], [], [], rfl, rr_int, ⟨y, [], [], [], rfl, kd_mk (fun z => hr B (tB z) sB) (fun z => hr C (tC z) sC) (Rp.mono (s1.trans ss) _ _ (hr H1 t1 s1)), ⟨rfl, rfl⟩, rfl⟩, rfl⟩
end

/-- a comprehension's tests -/
structure DTs (Tb : Pm) (X : Cx) (ifs : List Expr) (g : GT) : Prop where
  pts : PTs X ifs (tDT Tb X.KK g)
def gYes : GT := fun _ => some true
theorem dts_nil {X : Cx} : DTs Tb X [] gYes := ⟨⟨fun pins s σ H Q I h => pts_nil.run pins s σ H Q I (by
  obtain ⟨B, C, δ, Φ, b, S, e, k⟩ := h
  cases e
  exact k H (Same.refl _))⟩⟩
theorem dts_one {X : Cx} {c : Expr} {g : GT} (h : DT Tb X c g) : DTs Tb X [c] g := ⟨pts_one h.pt⟩
def R.okEl : R → Bool
  | .val _ => true | .own _ => true | _ => false
/-- the items that a comprehension makes -/
def lcL (vs : List Nat) (kd : Kd) (gt : GTg) (gc : GT) (ge : G) (δ : DSt) : List SI → Option (List D)
  | [] => some []
  | it :: its => (gt (kd.itm it) (wipeD δ vs)).bind fun δ1 => (gc δ1).bind fun b => if b = true then (ge δ1).bind fun r => if r.okEl = true then (lcL vs kd gt gc ge δ its).map (r.d :: ·) else none else lcL vs kd gt gc ge δ its
def gLc (vs : List Nat) (gi : GI) (gt : GTg) (gc : GT) (ge : G) : G := fun δ => (gi δ).bind fun p => if p.2.length ≤ sizeLine then (lcL vs p.1 gt gc ge δ p.2).map fun ds => .own (.lst ds) else none
theorem okEl_ow {K : KF} {B C H : Hp} {r : R} {v : V} {φ : List Addr} (h : RR K B C H r v φ) (e : r.okEl = true) : Ow K H r.d v φ := by
  cases r with
  | val d => obtain ⟨rfl, h2, h3⟩ := h; exact Ow.pu _ _ h2 h3
  | own d => exact h
  | par d => cases e
  | fr d => cases e
  | bor d => cases e
theorem tk_lst {H : Hp} {D : Addr} {xs ys : List V} (h : H D = some (.lst xs)) : TK H (upd H D (.lst ys)) := fun a o e n _ => by
  have ne : a ≠ D := fun z => by
    rw [z, h] at e
    exact n (Option.some.inj e ▸ trivial)
  rw [upd_ne ne]; exact e
theorem lc_use {K : KF} {vs ts : List Nat} {gi : GI} {gt : GTg} {gc : GT} {ge : G} {σ : L2.St} {H : Hp} {Q : VK} (hts : ∀ i ∈ ts, i ∈ vs) (h : tD Tb K (gLc vs gi gt gc ge) σ H Q) : tLc (tDI Tb K gi) (tDG Tb K ts gt) (tDT Tb K gc) (tD Tb K ge) vs σ H Q := by
  obtain ⟨B, C, δ, Φ, c, S, e, k⟩ := h
  obtain ⟨p, e1, e⟩ := bind1_some e
  obtain ⟨kd, its⟩ := p
  by_cases hz : its.length ≤ sizeLine
  · have e : (if its.length ≤ sizeLine then (lcL vs kd gt gc ge δ its).map fun ds => R.own (.lst ds) else none) = some c := e
    rw [if_pos hz] at e
    obtain ⟨ds, e2, ec⟩ := map_some e
    subst ec
    refine ⟨B, C, δ, Φ, kd, its, S, e1, fun J H1 T s tm wk t1 tB tC _ Da hD => ?_⟩
    have S1 := S.same s
    obtain ⟨Φw, Sw⟩ := S1.wipe vs
    refine ⟨fun i m Hn => m = its.length - i ∧ i ≤ its.length ∧ ∃ (acc : List V) (φ : List Addr) (ds1 ds2 : List D), Same H1 Hn ∧ Hn Da = some (.lst acc) ∧ OwL K Hn ds1 acc φ ∧ φ.Nodup ∧ (∀ a ∈ φ, H1 a = none ∧ a ≠ Da) ∧ ds1.length ≤ i ∧ lcL vs kd gt gc ge δ (its.drop i) = some ds2 ∧ ds = ds1 ++ ds2,
      ⟨its.length, by simp, Nat.zero_le _, [], [], [], ds, same_upd hD, upd_same, by simp [OwL], List.nodup_nil, (fun _ z => by cases z), Nat.le_refl _, by simpa using e2, rfl⟩, ?_⟩
    rintro i m Hn ⟨rfl, hi, acc, φ, ds1, ds2, sH, hacc, how, hnd, hfr, hle, e3, e4⟩
    have tH := tm _ _ t1 sH
    by_cases hlt : i < its.length
    · obtain ⟨it, hit⟩ : ∃ it, its[i]? = some it := ⟨its[i], by simp [hlt]⟩
      have hdrop : its.drop i = it :: its.drop (i + 1) := by
        rw [List.drop_eq_getElem_cons hlt]
        congr 1
        have := List.getElem?_eq_getElem hlt
        rw [hit] at this
        exact (Option.some.inj this).symm
      rw [hdrop] at e3
      refine .inr ⟨((wk Hn tH i).1 it hit).1, fun H' => ∃ (acc : List V) (φ : List Addr) (ds1 ds2 : List D), Same H1 H' ∧ H' Da = some (.lst acc) ∧ OwL K H' ds1 acc φ ∧ φ.Nodup ∧ (∀ a ∈ φ, H1 a = none ∧ a ≠ Da) ∧ ds1.length ≤ i + 1 ∧ lcL vs kd gt gc ge δ (its.drop (i + 1)) = some ds2 ∧ ds = ds1 ++ ds2,
        fun H' w => ⟨its.length - (i + 1), by omega, rfl, hlt, w⟩, fun x H' hy => ?_⟩
      obtain ⟨ss, ok⟩ := itm_ok (B := B) (C := C) (H1 := H1) wk (S1.bc.trans (S1.ch.trans sH)) (S1.ch.trans sH) sH tH t1 tB tC hit hy
      obtain ⟨δ1, e5, e6⟩ := bind1_some e3
      obtain ⟨b, e7, e8⟩ := bind1_some e6
      have sH' := sH.trans ss
      refine ⟨B, C, wipeD δ vs, Φw, kd.itm it, [], δ1, Sw.same sH', ok, List.nodup_nil, fun _ z => (by cases z), fun _ _ z => (by cases z), e5, fun σ2 ⟨Φ2, S2, _, _, l2, o2⟩ => ⟨?_, ?_⟩⟩
      · exact wipe_eq (l2.trans (wipe_length σ vs)) fun j hj => o2 j fun z => hj (hts j z)
      · refine ⟨B, C, δ1, Φ2, b, S2, e7, fun H3 s3 => ?_⟩
        have sH3 := sH'.trans s3
        have keepD : H3 Da = some (.lst acc) := s3.get (ss.get hacc)
        cases b with
        | true =>
          rw [if_pos rfl] at e8
          show if (_ : Bool) = true then _ else _
          refine iteT ?_
          obtain ⟨r, e9, e10⟩ := bind1_some e8
          split at e10
          · rename_i hok
            obtain ⟨ds3, e11, e12⟩ := map_some e10
            refine ⟨B, C, δ1, Φ2, r, S2.same s3, e9, fun y H4 φ4 s4 q4 f4 n4 => ?_⟩
            have hD4 := s4.get keepD
            have al : acc.length = ds1.length := (OwL.rp _ _ _ how).length
            have tk4 := tk_lst (ys := acc ++ [y]) hD4
            have lift : ∀ (dd : List D) (vv : List V) (ψ : List Addr), (∀ a ∈ ψ, a ≠ Da) → OwL K H4 dd vv ψ → OwL K (upd H4 Da (.lst (acc ++ [y]))) dd vv ψ := fun dd vv ψ nn hw =>
              OwL.mono tk4 dd vv ψ (fun a ha => upd_ne (nn a ha)) hw
            have ow4 : OwL K H4 ds1 acc φ := OwL.same ((ss.trans s3).trans s4) how
            have f4D : ∀ a ∈ φ4, a ≠ Da := fun a ha z => by
              have q := f4 a ha
              rw [z, keepD] at q; cases q
            refine ⟨acc, hD4, by omega, acc ++ [y], φ ++ φ4, ds1 ++ [r.d], ds3, (sH3.trans s4).upd hD, upd_same, ?_, ?_, fun a ha => ?_, by simp; omega, e11, by rw [e4, ← e12, List.append_assoc]; rfl⟩
            · refine OwL.append (lift _ _ _ (fun a ha => (hfr a ha).2) ow4) ?_
              refine lift [r.d] [y] φ4 f4D ?_
              unfold OwL
              exact ⟨y, [], φ4, [], rfl, okEl_ow q4 hok, by unfold OwL; exact ⟨rfl, rfl⟩, by simp⟩
            · refine List.nodup_append.mpr ⟨hnd, n4, fun a ha b hb z => ?_⟩
              subst z
              obtain ⟨ys, q, mt_q⟩ := OwL.trk _ _ _ how a ha
              have := (ss.trans s3).get q
              rw [f4 a hb] at this; cases this
            · rcases List.mem_append.mp ha with ha | ha
              · exact hfr a ha
              · exact ⟨sH3.free (f4 a ha), f4D a ha⟩
          · cases e10
        | false =>
          rw [if_neg (by decide)] at e8
          show if (_ : Bool) = true then _ else _
          refine iteF ?_
          exact ⟨acc, φ, ds1, ds2, sH3, keepD, OwL.same (ss.trans s3) how, hnd, hfr, by omega, e8, e4⟩
    · have hii : i = its.length := by omega
      refine .inl ⟨(wk Hn tH i).2 hii, ?_⟩
      have e5 : ds2 = [] := by
        rw [hii, List.drop_length] at e3
        exact (Option.some.inj e3).symm
      rw [e5, List.append_nil] at e4
      subst e4
      refine k (.ref Da) Hn (Da :: φ) (s.trans sH) ?_ (fun a ha => ?_) (List.nodup_cons.mpr ⟨fun z => (hfr Da z).2 rfl, hnd⟩)
      · show Ow K Hn (.lst ds) _ _
        unfold Ow
        exact ⟨Da, acc, φ, rfl, hacc, how, rfl⟩
      · rcases List.mem_cons.mp ha with rfl | ha
        · exact s.free hD
        · exact s.free (hfr a ha).1
  · have e : (if its.length ≤ sizeLine then (lcL vs kd gt gc ge δ its).map fun ds => R.own (.lst ds) else none) = some c := e
    rw [if_neg hz] at e
    cases e
section
variable {X : Cx} {elt tg iter : Expr} {ifs : List Expr} {scope : Scope} {own : List (Str × Nat)} {vs ts : List Nat} {pos : Pos} {gi : GI} {gt : GTg} {gc : GT} {ge : G}
theorem de_lc (own : List (Str × Nat)) (hc : X.calm = true) (hN : X.N.Nodup) (hi : DI Tb X tg iter gi) (ok : BlkOk X.N X.env.scope scope own)
    (hg : ∀ (s : Shared) (H : Hp) (C : Addr) (cl : List (Str × Addr)) (fp : List Addr), DG Tb (X.blk s H scope (compEnvC scope cl C X.env) fp) tg ts gt) (ht : ∀ (s : Shared) (H : Hp) (C : Addr) (cl : List (Str × Addr)) (fp : List Addr), DTs Tb (X.blk s H scope (compEnvC scope cl C X.env) fp) ifs gc)
    (he : ∀ (s : Shared) (H : Hp) (C : Addr) (cl : List (Str × Addr)) (fp : List Addr), DE Tb (X.blk s H scope (compEnvC scope cl C X.env) fp) elt ge) (hvs : own.map (·.2) = vs := by rfl) (hts : ∀ i ∈ ts, i ∈ vs := by decide) (hs : ∀ x, foldedSetIterable iter X.env x = pure x := by intro _; rfl) :
    DE Tb X (.ListComp elt [⟨tg, iter, ifs, 0⟩] scope pos) (gLc vs gi gt gc ge) := by
  subst hvs
  exact ⟨pe_imp (pe_lc hc hN hi.pi ok (fun s H C cl fp => (hg s H C cl fp).pg) (fun s H C cl fp => (ht s H C cl fp).pts) (fun s H C cl fp => (he s H C cl fp).pe) hs) fun σ H Q h => lc_use hts h⟩
end
end DL

set_option Elab.async false
set_option linter.all false
set_option maxRecDepth 100000
set_option maxHeartbeats 4000000
/-! D8: statements over plain data. -/
namespace DL
open PySem PySem.Spec PyProof.Rows L2
variable {Tb : Pm}
/-- what a statement comes to -/
inductive O where | nx (δ : DSt) | rt (r : R) | bk (δ : DSt) | ct (δ : DSt)
  /-- an exception of the class of that name -/
  | ex (c : Str) (δ : DSt)
abbrev GS := DSt → Option O
def KO (Tb : Pm) (K : KF) (B C : Hp) (En : Ends) (σ : L2.St) (δ : DSt) : O → Prop
  | .nx δ' => ∀ σ' H' Φ', RSt Tb K B C σ' H' δ' Φ' → Lk Tb.pr σ δ σ' δ' → En.nx σ' H'
  | .bk δ' => ∀ σ' H' Φ', RSt Tb K B C σ' H' δ' Φ' → Lk Tb.pr σ δ σ' δ' → En.bk σ' H'
  | .ct δ' => ∀ σ' H' Φ', RSt Tb K B C σ' H' δ' Φ' → Lk Tb.pr σ δ σ' δ' → En.ct σ' H'
  | .rt r => ∀ v H' φ, Same C H' → RR K B C H' r v φ → (∀ a ∈ φ, C a = none) → φ.Nodup → En.rt v H'
  | .ex c δ' => ∀ cls σ' H' Φ', Tb.mg c = some cls → RSt Tb K B C σ' H' δ' Φ' → Lk Tb.pr σ δ σ' δ' → Tb.W cls none σ' H'
def tDS (Tb : Pm) (K : KF) (g : GS) : TS := fun En σ H => ∃ (B C : Hp) (δ : DSt) (Φ : Nat → List Addr) (o : O), RSt Tb K B C σ H δ Φ ∧ g δ = some o ∧ KO Tb K B C En σ δ o
structure DS (Tb : Pm) (X : Cx) (st : Stmt) (g : GS) : Prop where
  ps : PS X st (tDS Tb X.KK g)
structure DSs (Tb : Pm) (X : Cx) (sts : List Stmt) (g : GS) : Prop where
  pss : PSs X sts (tDS Tb X.KK g)
section
variable {K : KF} {B C : Hp} {En : Ends} {σ σ1 : L2.St} {δ δ1 : DSt}
theorem KO.lk {o : O} (L : Lk Tb.pr σ δ σ1 δ1) (h : KO Tb K B C En σ δ o) : KO Tb K B C En σ1 δ1 o := by
  cases o with
  | nx δ' => exact fun σ' H' Φ' S l => h σ' H' Φ' S (L.trans l)
  | bk δ' => exact fun σ' H' Φ' S l => h σ' H' Φ' S (L.trans l)
  | ct δ' => exact fun σ' H' Φ' S l => h σ' H' Φ' S (L.trans l)
  | rt r => exact h
  | ex c δ' => exact fun cls σ' H' Φ' m S l => h cls σ' H' Φ' m S (L.trans l)
end
section
variable {X : Cx} {st : Stmt} {sts : List Stmt} {e a b c : Expr} {pos : Pos} {g g1 g2 : GS} {ge : G}
theorem ps_imp {t t' : TS} (h : PS X st t) (f : ∀ En σ H, t' En σ H → t En σ H) : PS X st t' := ⟨fun pins s σ H En I q => h.run pins s σ H En I (f En σ H q)⟩
theorem pss_imp {t t' : TS} (h : PSs X sts t) (f : ∀ En σ H, t' En σ H → t En σ H) : PSs X sts t' := ⟨fun pins s σ H En I q => h.run pins s σ H En I (f En σ H q)⟩
def gNop : GS := fun δ => some (.nx δ)
def gSeq2 (g1 g2 : GS) : GS := fun δ => (g1 δ).bind fun o => match o with
  | .nx δ1 => g2 δ1
  | .rt r => some (.rt r)
  | .bk δ1 => some (.bk δ1)
  | .ct δ1 => some (.ct δ1)
  | .ex c δ1 => some (.ex c δ1)
theorem dss_nil : DSs Tb X [] gNop := ⟨pss_imp pss_nil fun En σ H h => by
  obtain ⟨B, C, δ, Φ, o, S, e, k⟩ := h
  cases e
  exact k σ H Φ S Lk.refl⟩
theorem dss_cons (h1 : DS Tb X st g1) (h2 : DSs Tb X sts g2) : DSs Tb X (st :: sts) (gSeq2 g1 g2) := ⟨pss_imp (pss_cons h1.ps h2.pss) fun En σ H h => by
  obtain ⟨B, C, δ, Φ, o, S, e, k⟩ := h
  obtain ⟨o1, e1, e2⟩ := bind1_some e
  refine ⟨B, C, δ, Φ, o1, S, e1, ?_⟩
  cases o1 with
  | nx δ1 => exact fun σ1 H1 Φ1 S1 L1 => ⟨B, C, δ1, Φ1, o, S1, e2, k.lk L1⟩
  | rt r => cases e2; exact k
  | bk δ1 => cases e2; exact k
  | ct δ1 => cases e2; exact k
  | ex c δ1 => cases e2; exact k⟩
theorem dss_one (h1 : DS Tb X st g1) : DSs Tb X [st] g1 := ⟨pss_one h1.ps⟩
theorem ds_pass : DS Tb X (.Pass pos) gNop := ⟨ps_imp ps_pass fun En σ H h => by
  obtain ⟨B, C, δ, Φ, o, S, e, k⟩ := h
  cases e
  exact k σ H Φ S Lk.refl⟩
def gBrk : GS := fun δ => some (.bk δ)
def gCnt : GS := fun δ => some (.ct δ)
theorem ds_break : DS Tb X (.Break pos) gBrk := ⟨ps_imp ps_break fun En σ H h => by
  obtain ⟨B, C, δ, Φ, o, S, e, k⟩ := h
  cases e
  exact k σ H Φ S Lk.refl⟩
theorem ds_continue : DS Tb X (.Continue pos) gCnt := ⟨ps_imp ps_continue fun En σ H h => by
  obtain ⟨B, C, δ, Φ, o, S, e, k⟩ := h
  cases e
  exact k σ H Φ S Lk.refl⟩
/-- x = e -/
def gSet (i : Nat) (g : G) : GS := fun δ => (g δ).bind fun r => (store i r δ).map .nx
theorem set_end {K : KF} {B C H H1 : Hp} {En : Ends} {σ : L2.St} {δ : DSt} {Φ : Nat → List Addr} {i : Nat} {r : R} {v : V} {φ : List Addr} {o : O} (S : RSt Tb K B C σ H δ Φ) (s : Same H H1) (q : RR K B C H1 r v φ) (f : ∀ a ∈ φ, H a = none) (n : φ.Nodup)
    (e : (store i r δ).map O.nx = some o) (k : KO Tb K B C En σ δ o) (hp : i ∉ Tb.pr) : L2.gName i v σ H1 En.nx := by
  obtain ⟨δ', e1, rfl⟩ := map_some e
  have S1 := S.same s
  refine k _ H1 _ (S1.store e1 q n (fun a ha => S.ch.free (f a ha)) fun j a ha hb => ?_) (Lk.store hp e1)
  obtain ⟨xs, z, mt_z⟩ := S.trk hb
  rw [f a ha] at z; cases z
theorem ds_set (i : Nat) {x : Str} {pos' : Pos} (hN : X.N.Nodup) (he : DE Tb X e ge) (hi : X.N[i]? = some x := by rfl) (hx : Loc X.env.scope x := by first | exact Or.inl rfl | exact Or.inr rfl) (hs : swapsWith e (some (.Name x pos')) pos.line X.env = pure false := by rfl) (hf : X.fn x = true ∨ X.env.scope.names.lookup x = some .local := by first | exact .inl rfl | exact .inr rfl | assumption) (hp : i ∉ Tb.pr := by first | exact List.not_mem_nil | exact np0) :
    DS Tb X (.Assign [.Name x pos'] e pos) (gSet i ge) := ⟨ps_imp (ps_set hN hi hx he.pe hs hf) fun En σ H h => by
  obtain ⟨B, C, δ, Φ, o, S, e, k⟩ := h
  obtain ⟨r, e1, e2⟩ := bind1_some e
  exact ⟨B, C, δ, Φ, r, S, e1, fun v H1 φ s q f n => set_end S s q f n e2 k hp⟩⟩
/-- x = [..] -/
theorem ds_setLc {elt tg iter : Expr} {ifs : List Expr} {scope : Scope} {vs ts : List Nat} {gi : GI} {gt : GTg} {gc : GT} {ge : G} (i : Nat) {y : Str} {py spos : Pos} (own : List (Str × Nat)) (hc : X.calm = true) (hN : X.N.Nodup) (hi : DI Tb X tg iter gi) (ok : BlkOk X.N X.env.scope scope own)
    (hg : ∀ (s : Shared) (H : Hp) (C : Addr) (cl : List (Str × Addr)) (fp : List Addr), DG Tb (X.blk s H scope (compEnvC scope cl C X.env) fp) tg ts gt) (ht : ∀ (s : Shared) (H : Hp) (C : Addr) (cl : List (Str × Addr)) (fp : List Addr), DTs Tb (X.blk s H scope (compEnvC scope cl C X.env) fp) ifs gc)
    (he : ∀ (s : Shared) (H : Hp) (C : Addr) (cl : List (Str × Addr)) (fp : List Addr), DE Tb (X.blk s H scope (compEnvC scope cl C X.env) fp) elt ge) (hsw : swapsWith (.ListComp elt [⟨tg, iter, ifs, 0⟩] scope pos) (some (.Name y py)) spos.line X.env = pure true)
    (hy : X.N[i]? = some y := by rfl) (hyl : X.env.scope.names.lookup y = some .local := by rfl) (hvs : own.map (·.2) = vs := by rfl) (hts : ∀ i ∈ ts, i ∈ vs := by decide) (hs : ∀ x, foldedSetIterable iter X.env x = pure x := by intro _; rfl) (hp : i ∉ Tb.pr := by first | exact List.not_mem_nil | exact np0) :
    DS Tb X (.Assign [.Name y py] (.ListComp elt [⟨tg, iter, ifs, 0⟩] scope pos) spos) (gSet i (gLc vs gi gt gc ge)) := by
  subst hvs
  refine ⟨ps_imp (ps_setLc (wi := tDI Tb X.KK gi) (g := tDG Tb X.KK ts gt) (tt := tDT Tb X.KK gc) (te := tD Tb X.KK ge) hc hN hy hyl hsw hi.pi ok (fun s H C cl fp => (hg s H C cl fp).pg) (fun s H C cl fp => (ht s H C cl fp).pts) (fun s H C cl fp => (he s H C cl fp).pe) hs) fun En σ H h => ?_⟩
  obtain ⟨B, C, δ, Φ, o, S, e, k⟩ := h
  obtain ⟨r, e1, e2⟩ := bind1_some e
  exact lc_use hts ⟨B, C, δ, Φ, r, S, e1, fun v H1 φ s q f n => set_end S s q f n e2 k hp⟩
/-- a, b = e -/
def gAsg (g : G) (gt : GTg) : GS := fun δ => (g δ).bind fun r => (gt (.one r) δ).map .nx
theorem ds_asg {tg : Expr} {ts : List Nat} {gt : GTg} (he : DE Tb X e ge) (hg : DG Tb X tg ts gt) (hs : swapsWithSole [tg] e pos.line X.env = pure false := by rfl) (hw : swappedStores [tg] e X.env = pure none := by rfl)
    (h1 : (assignEach [tg] X.env).map (·.2) = [assign tg X.env] := by rfl) : DS Tb X (.Assign [tg] e pos) (gAsg ge gt) := ⟨ps_imp (ps_asg he.pe hg.pg hs hw h1) fun En σ H h => by
  obtain ⟨B, C, δ, Φ, o, S, e, k⟩ := h
  obtain ⟨r, e1, e2⟩ := bind1_some e
  refine ⟨B, C, δ, Φ, r, S, e1, fun v H1 φ s q f n => ?_⟩
  obtain ⟨δ', e3, eo⟩ := map_some e2
  subst eo
  refine ⟨B, C, δ, Φ, .one r, φ, δ', S.same s, q, n, fun a ha => S.ch.free (f a ha), fun j a ha hb => ?_, e3, fun σ' ⟨Φ', S', L', _, _, _⟩ => k σ' H1 Φ' S' L'⟩
  obtain ⟨xs, z, mt_z⟩ := S.trk hb
  rw [f a ha] at z; cases z⟩
/-- x op= e -/
def IpD (X : Cx) (op : Operator) (p : D → D → Option R) : Prop := ∃ r : TIp, PIp X op r ∧ ∀ (B C H : Hp) (x y : V) (Q : VK) (d e : D) (c : R), Rp X.KK H d x → Rp X.KK H e y → p d e = some c →
    (∀ v H' φ, Same H H' → RR X.KK B C H' c v φ → (∀ a ∈ φ, H a = none) → φ.Nodup → Q v H') → r x y H Q
def addI : D → D → Option R := iiD fun i j => some (.int (i + j))
theorem id_add : IpD X .Add addI := by
  refine ⟨_, ip_add, fun B C H x y Q d e c hx hy h k => ?_⟩
  obtain ⟨i, j, z, rfl, rfl, hz, rfl⟩ := iiD_some h
  cases hz
  exact ⟨i, j, rp_int hx, rp_int hy, k _ H [] (Same.refl _) rr_int no_fresh List.nodup_nil⟩
theorem id_sub : IpD X .Sub subD := by
  refine ⟨_, ip_sub, fun B C H x y Q d e c hx hy h k => ?_⟩
  obtain ⟨i, j, z, rfl, rfl, hz, rfl⟩ := iiD_some h
  cases hz
  exact ⟨i, j, rp_int hx, rp_int hy, k _ H [] (Same.refl _) rr_int no_fresh List.nodup_nil⟩
def gAug (i : Nat) (p : D → D → Option R) (g : G) : GS := fun δ => ((δ.getD i .no).rd).bind fun x => (g δ).bind fun y => (p x.d y.d).bind fun r => (store i r δ).map .nx
theorem ds_aug (i : Nat) {x : Str} {op : Operator} {p : D → D → Option R} {pos' : Pos} (hN : X.N.Nodup) (ho : IpD X op p) (he : DE Tb X e ge) (hi : X.N[i]? = some x := by rfl) (hx : Loc X.env.scope x := by first | exact Or.inl rfl | exact Or.inr rfl) (hf : X.fn x = true ∨ X.env.scope.names.lookup x = some .local := by first | exact .inl rfl | exact .inr rfl | assumption) (hp : i ∉ Tb.pr := by first | exact List.not_mem_nil | exact np0) :
    DS Tb X (.AugAssign (.Name x pos') op e pos) (gAug i p ge) := by
  obtain ⟨t, h1, h2⟩ := ho
  refine ⟨ps_imp (ps_aug hN hi hx he.pe h1 hf) fun En σ H h => ?_⟩
  obtain ⟨B, C, δ, Φ, o, S, e, k⟩ := h
  obtain ⟨x, y, e1, e2, e⟩ := bind2_some e
  obtain ⟨r, e3, e4⟩ := bind1_some e
  obtain ⟨v, hv, q⟩ := S.rd e1
  refine ⟨v, hv, B, C, δ, Φ, y, S, e2, fun w H1 φ1 s1 q1 _ _ => ?_⟩
  have ch := S.ch.trans s1
  exact h2 B C H1 v w _ _ _ r ((q.same s1).rp S.bc ch) (q1.rp S.bc ch) e3 fun z H2 φ s2 q2 f n => set_end S (s1.trans s2) q2 (fun a ha => s1.free (f a ha)) n e4 k hp

/-! ### return, if -/
def gRet (g : G) : GS := fun δ => (g δ).map .rt
theorem ds_ret (he : DE Tb X e ge) : DS Tb X (.Return (some e) pos) (gRet ge) := ⟨ps_imp (ps_ret he.pe) fun En σ H h => by
  obtain ⟨B, C, δ, Φ, o, S, e, k⟩ := h
  obtain ⟨r, e1, rfl⟩ := map_some e
  exact ⟨B, C, δ, Φ, r, S, e1, fun v H1 φ s q f n => k v H1 φ (S.ch.trans s) q (fun a ha => S.ch.free (f a ha)) n⟩⟩
/-- return x, where x may be our own list -/
def gRetV (i : Nat) : GS := fun δ => match δ.getD i .no with
  | .own d => some (.rt (.own d))
  | s => s.rd.map .rt
theorem ds_retV (i : Nat) {x : Str} {p : Pos} (hN : X.N[i]? = some x := by rfl) (hv : Vis X.env.scope x := by first | exact Or.inl rfl | exact Or.inr (Or.inl rfl) | exact Or.inr (Or.inr rfl)) (hd : (x == ("__debug__" : Str)) = false := by decide)
    (hcd : (x == ("__classdict__" : Str)) = false := by decide) : DS Tb X (.Return (some (.Name x p)) pos) (gRetV i) := ⟨ps_imp (ps_ret (pe_var hN hv hd hcd)) fun En σ H h => by
  obtain ⟨B, C, δ, Φ, o, S, e, k⟩ := h
  have gen : ∀ r, (δ.getD i .no).rd = some r → o = .rt r → tVar i σ H En.rt := fun r e1 e2 => by
    obtain ⟨v, h1, h2⟩ := S.rd e1
    subst e2
    exact ⟨v, h1, k v H [] S.ch h2 (fun _ z => by cases z) List.nodup_nil⟩
  have q := S.sl i
  unfold gRetV at e
  cases z : δ.getD i .no with
  | own d =>
    rw [z] at e q
    cases e
    obtain ⟨x, e1, ow⟩ := q
    refine ⟨x, ?_, k x H (Φ i) S.ch ow (S.fr i) (S.nd i)⟩
    rw [List.getD_eq_getElem?_getD] at e1
    cases w : σ[i]? with
    | none => rw [w] at e1; cases e1
    | some y => rw [w] at e1; rw [show y = some x from e1]
  | no => rw [z] at e; cases e
  | exc c => rw [z] at e; cases e
  | val d => rw [z] at e; exact gen _ (by rw [z]; rfl) (Option.some.inj e).symm
  | par d => rw [z] at e; exact gen _ (by rw [z]; rfl) (Option.some.inj e).symm
  | fr d => rw [z] at e; exact gen _ (by rw [z]; rfl) (Option.some.inj e).symm
  | bor d => rw [z] at e; exact gen _ (by rw [z]; rfl) (Option.some.inj e).symm
  | lck d => rw [z] at e; exact gen _ (by rw [z]; rfl) (Option.some.inj e).symm⟩
def gRetN : GS := fun _ => some (.rt (.val .non))
theorem ds_retN : DS Tb X (.Return none pos) gRetN := ⟨ps_imp ps_retN fun En σ H h => by
  obtain ⟨B, C, δ, Φ, o, S, e, k⟩ := h
  cases e
  exact k .non H [] S.ch rr_non (fun _ z => by cases z) List.nodup_nil⟩
def gIf (c : GT) (g1 g2 : GS) : GS := fun δ => (c δ).bind fun k => if k = true then g1 δ else g2 δ
theorem ds_if {gc : GT} {as bs : List Stmt} (hc : DT Tb X c gc) (ha : DSs Tb X as g1) (hb : DSs Tb X bs g2) : DS Tb X (.If c as bs pos) (gIf gc g1 g2) := ⟨ps_imp (ps_if hc.pt ha.pss hb.pss) fun En σ H h => by
  obtain ⟨B, C, δ, Φ, o, S, e, k⟩ := h
  obtain ⟨b, e1, e2⟩ := bind1_some e
  refine ⟨B, C, δ, Φ, b, S, e1, fun H1 s => ?_⟩
  cases b with
  | true => rw [if_pos rfl] at e2 ⊢; exact ⟨B, C, δ, Φ, o, S.same s, e2, k⟩
  | false => rw [if_neg (by decide)] at e2 ⊢; exact ⟨B, C, δ, Φ, o, S.same s, e2, k⟩⟩

/-! ### while -/
def whileL (c : GT) (b : GS) : Nat → GS
  | 0, _ => none
  | n + 1, δ => (c δ).bind fun k => if k = true then (b δ).bind fun o => (match o with
      | .nx δ' => whileL c b n δ'
      | .ct δ' => whileL c b n δ'
      | .bk δ' => some (.nx δ')
      | .rt r => some (.rt r)
      | .ex c δ' => some (.ex c δ')) else some (.nx δ)
theorem ds_while (n : Nat) {gc : GT} {body : List Stmt} (hp : PassesOwn (model X.prog X.w) X.A X.env X.xe) (hc : DT Tb X c gc) (hb : DSs Tb X body g) : DS Tb X (.While c body [] pos) (whileL gc g n) := ⟨ps_imp (ps_while hp hc.pt hb.pss) fun En σ H h => by
  obtain ⟨B, C, δ, Φ, o, S, e, k⟩ := h
  refine ⟨fun m σ' H' => ∃ δ' Φ', RSt Tb X.KK B C σ' H' δ' Φ' ∧ Lk Tb.pr σ δ σ' δ' ∧ whileL gc g m δ' = some o, ⟨n, δ, Φ, S, Lk.refl, e⟩, ?_⟩
  rintro m σ' H' ⟨δ', Φ', S', L', e'⟩
  cases m with
  | zero => cases e'
  | succ m =>
    obtain ⟨b, e1, e2⟩ := bind1_some e'
    refine ⟨B, C, δ', Φ', b, S', e1, fun H1 s => ?_⟩
    cases b with
    | true =>
      rw [if_pos rfl] at e2 ⊢
      obtain ⟨o1, e3, e4⟩ := bind1_some e2
      refine ⟨fun σ2 H2 => ∃ δ2 Φ2, RSt Tb X.KK B C σ2 H2 δ2 Φ2 ∧ Lk Tb.pr σ δ σ2 δ2 ∧ whileL gc g m δ2 = some o, fun σ2 H2 w => ⟨m, Nat.lt_succ_self m, w⟩, B, C, δ', Φ', o1, S'.same s, e3, ?_⟩
      cases o1 with
      | nx δ2 => exact fun σ2 H2 Φ2 S2 L2 => ⟨δ2, Φ2, S2, L'.trans L2, e4⟩
      | ct δ2 => exact fun σ2 H2 Φ2 S2 L2 => ⟨δ2, Φ2, S2, L'.trans L2, e4⟩
      | bk δ2 => cases e4; exact fun σ2 H2 Φ2 S2 L2 => k σ2 H2 Φ2 S2 (L'.trans L2)
      | rt r => cases e4; exact k
      | ex c δ2 => cases e4; exact fun cls σ2 H2 Φ2 m S2 L2 => k cls σ2 H2 Φ2 m S2 (L'.trans L2)
    | false =>
      rw [if_neg (by decide)] at e2 ⊢
      cases e2
      exact k σ' H1 Φ' (S'.same s) L'⟩
end
end DL

set_option Elab.async false
set_option linter.all false
set_option maxRecDepth 100000
set_option maxHeartbeats 4000000
/-! D9: lists that change, for, calls, defs over plain data. -/
namespace DL
open PySem PySem.Spec PyProof.Rows L2
variable {Tb : Pm}
def Sl.purge : Sl → Sl
  | .bor _ => .no
  | s => s
def purge (δ : DSt) : DSt := δ.map Sl.purge
theorem getD_map (f : Sl → Sl) (hf : f .no = .no) (δ : DSt) (j : Nat) : (δ.map f).getD j .no = f (δ.getD j .no) := by
  rw [List.getD_eq_getElem?_getD, List.getD_eq_getElem?_getD, List.getElem?_map]
  cases δ[j]? with
  | none => exact hf.symm
  | some x => rfl
theorem getD_mapIdx (f : Nat → Sl → Sl) (hf : ∀ j, f j .no = .no) (δ : DSt) (j : Nat) : (δ.mapIdx f).getD j .no = f j (δ.getD j .no) := by
  rw [List.getD_eq_getElem?_getD, List.getD_eq_getElem?_getD, List.getElem?_mapIdx]
  cases δ[j]? with
  | none => exact (hf j).symm
  | some x => rfl
section
variable {K : KF} {B C H H' : Hp} {σ : L2.St} {δ : DSt} {Φ : Nat → List Addr}
/-- the slot's own datum has been changed -/
theorem RSt.mut (h : RSt Tb K B C σ H δ Φ) {i : Nat} {d d' : D} {v : V} {φ' : List Addr} (e : δ.getD i .no = .own d) (hv : σ[i]? = some (some v)) (k : ∀ a o, a ∉ Φ i → H a = some o → H' a = some o)
    (q : Ow K H' d' v φ') (n : φ'.Nodup) (f : ∀ a ∈ φ', a ∈ Φ i ∨ (C a = none ∧ ∀ j, a ∉ Φ j)) : RSt Tb K B C σ H' (purge (δ.set i (.own d'))) (fun j => if j = i then φ' else Φ j) := by
  have hl : i < δ.length := by
    by_cases z : i < δ.length
    · exact z
    · rw [List.getD_eq_getElem?_getD, List.getElem?_eq_none (by omega)] at e; cases e
  have ne : ∀ j a, j ≠ i → a ∈ Φ j → a ∉ Φ i := fun j a hj ha hb => hj (h.dj j i a ha hb)
  have tk : TK H H' := fun a o e1 n1 _ => k a o (fun z => by
    obtain ⟨xs, w, mt_w⟩ := h.trk z
    rw [e1] at w
    exact n1 (Option.some.inj w ▸ mt_w)) e1
  refine ⟨by simpa [purge] using h.len, fun j => ?_, fun j => ?_, fun j m a ha hb => ?_, h.bc, h.ch.keep fun a u o e1 e2 => k a o (fun z => by rw [h.fr i a z] at e1; cases e1) e2, fun j a ha => ?_, h.tb⟩
  · show SlOk Tb K B C H' ((purge (δ.set i (.own d'))).getD j .no) _ _
    unfold purge
    rw [getD_map _ rfl, getD_set]
    by_cases hj : j = i
    · subst hj
      rw [if_pos ⟨rfl, hl⟩, if_pos rfl]
      exact ⟨v, by rw [List.getD_eq_getElem?_getD, hv]; rfl, q⟩
    · rw [if_neg (fun z => hj z.1), if_neg hj]
      have s := h.sl j
      cases z : δ.getD j .no with
      | no => rw [z] at s; exact s
      | exc c => rw [z] at s; exact s
      | val d => rw [z] at s; obtain ⟨a, b, x, e1, r⟩ := s; exact ⟨a, b, x, e1, Rp.tk tk _ _ b r⟩
      | par d => rw [z] at s; exact s
      | fr d => rw [z] at s; exact s
      | bor d => rw [z] at s; exact s.1
      | lck d => rw [z] at s; exact s
      | own d =>
        rw [z] at s
        obtain ⟨x, e1, r⟩ := s
        refine ⟨x, e1, Ow.mono tk _ _ _ (fun a ha => ?_) r⟩
        obtain ⟨xs, w, mt_w⟩ := h.trk ha
        rw [w]
        exact k a _ (ne j a hj ha) w
  · show (if j = i then φ' else Φ j).Nodup
    split
    · exact n
    · exact h.nd j
  · have no : ∀ j a, j ≠ i → a ∈ Φ j → a ∉ φ' := fun j a hj ha hb => by
      rcases f a hb with z | z
      · exact ne j a hj ha z
      · exact z.2 j ha
    by_cases hj : j = i
    · rw [if_pos hj] at ha
      by_cases hm : m = i
      · rw [hj, hm]
      · rw [if_neg hm] at hb
        exact absurd ha (no m a hm hb)
    · rw [if_neg hj] at ha
      by_cases hm : m = i
      · rw [if_pos hm] at hb
        exact absurd hb (no j a hj ha)
      · rw [if_neg hm] at hb
        exact h.dj j m a ha hb
  · by_cases hj : j = i
    · rw [if_pos hj] at ha
      rcases f a ha with z | z
      · exact h.fr i a z
      · exact z.1
    · rw [if_neg hj] at ha
      exact h.fr j a ha
theorem lk_mut {P : List Nat} {i : Nat} {d d' : D} (e : δ.getD i .no = .own d) : Lk P σ δ σ (purge (δ.set i (.own d'))) := by
  refine ⟨fun j x hj => ⟨?_, rfl⟩, fun j x hj => ?_, fun _ _ => rfl⟩
  · have ne : j ≠ i := fun z => by rw [z, e] at hj; cases hj
    unfold purge
    rw [getD_map _ rfl, getD_set, if_neg (fun z => ne z.1), hj]
    rfl
  · unfold purge at hj
    rw [getD_map _ rfl, getD_set] at hj
    split at hj
    · cases hj
    · cases z : δ.getD j .no <;> rw [z] at hj <;> first | exact hj | cases hj
/-- the slot's own list -/
theorem RSt.list (h : RSt Tb K B C σ H δ Φ) {i : Nat} {ds : List D} (e : δ.getD i .no = .own (.lst ds)) : ∃ l xs ψ, σ[i]? = some (some (.ref l)) ∧ H l = some (.lst xs) ∧ OwL K H ds xs ψ ∧ Φ i = l :: ψ := by
  have q := h.sl i
  rw [e] at q
  obtain ⟨x, e1, ow⟩ := q
  unfold Ow at ow
  obtain ⟨l, xs, ψ, rfl, h1, h2, h3⟩ := ow
  refine ⟨l, xs, ψ, ?_, h1, h2, h3⟩
  rw [List.getD_eq_getElem?_getD] at e1
  cases w : σ[i]? with
  | none => rw [w] at e1; cases e1
  | some y => rw [w] at e1; rw [show y = some (V.ref l) from e1]
end
section
variable {X : Cx} {e a b c o : Expr} {pos : Pos} {ge : G}
/-- xs.append(e) -/
def gApp (i : Nat) (g : G) : GS := fun δ => (g δ).bind fun r => match δ.getD i .no with
  | .own (.lst ds) => if ds.length < sizeLine ∧ r.okEl = true then some (.nx (purge (δ.set i (.own (.lst (ds ++ [r.d])))))) else none
  | _ => none
theorem app_use {K : KF} {i : Nat} {En : Ends} {σ : L2.St} {H : Hp} (h : tDS Tb K (gApp i ge) En σ H) : tDrop (tBM K "list" rAppend (tVar i) (tCons (tD Tb K ge) tNil)) En σ H := by
  obtain ⟨B, C, δ, Φ, o, S, e, k⟩ := h
  obtain ⟨r, e1, e2⟩ := bind1_some e
  split at e2
  · rename_i ds hd
    split at e2
    · rename_i hz
      cases e2
      obtain ⟨l, xs, ψ, hs, hl, ow, hp⟩ := S.list hd
      refine ⟨_, hs, .inl ⟨rfl, xs, SqL.of hl⟩, B, C, δ, Φ, r, S, e1, fun y H1 φ s q f n => ?_⟩
      have hl1 := s.get hl
      have lenx : xs.length = ds.length := (OwL.rp _ _ _ ow).length
      refine ⟨l, xs, y, rfl, rfl, hl1, by omega, ?_⟩
      have nd := S.nd i
      rw [hp] at nd
      obtain ⟨nl, nψ⟩ := List.nodup_cons.mp nd
      have fl : ∀ a ∈ φ, a ≠ l := fun a ha z => by
        have := f a ha
        rw [z, hl] at this; cases this
      have tk1 := tk_lst (ys := xs ++ [y]) hl1
      have S1 := S.same s
      refine k σ _ _ (S1.mut (H' := upd H1 l (.lst (xs ++ [y]))) (d' := .lst (ds ++ [r.d])) (φ' := l :: (ψ ++ φ)) hd hs (fun a o ha e3 => ?_) ?_ ?_ fun a ha => ?_) (lk_mut hd)
      · rw [upd_ne (fun z => ha (by rw [hp, z]; exact List.mem_cons_self))]; exact e3
      · unfold Ow
        refine ⟨l, _, ψ ++ φ, rfl, upd_same, OwL.append (OwL.mono tk1 _ _ _ (fun a ha => upd_ne fun z => nl (z ▸ ha)) (OwL.same s ow)) ?_, rfl⟩
        refine OwL.mono tk1 [r.d] [y] φ (fun a ha => upd_ne (fl a ha)) ?_
        unfold OwL
        exact ⟨y, [], φ, [], rfl, okEl_ow q hz.2, by unfold OwL; exact ⟨rfl, rfl⟩, by simp⟩
      · refine List.nodup_cons.mpr ⟨fun z => ?_, List.nodup_append.mpr ⟨nψ, n, fun a ha b hb z => ?_⟩⟩
        · rcases List.mem_append.mp z with z | z
          · exact nl z
          · exact fl l z rfl
        · subst z
          obtain ⟨ys, w, mt_w⟩ := S.trk (show a ∈ Φ i by rw [hp]; exact List.mem_cons_of_mem _ ha)
          rw [f a hb] at w; cases w
      · rcases List.mem_cons.mp ha with rfl | ha
        · exact .inl (by rw [hp]; exact List.mem_cons_self)
        · rcases List.mem_append.mp ha with ha | ha
          · exact .inl (by rw [hp]; exact List.mem_cons_of_mem _ ha)
          · refine .inr ⟨S.ch.free (f a ha), fun j hb => ?_⟩
            obtain ⟨ys, w, mt_w⟩ := S.trk hb
            rw [f a ha] at w; cases w
    · cases e2
  · cases e2
theorem ds_app (i : Nat) {x : Str} {p apos cpos : Pos} (he : DE Tb X e ge) (hN : X.N[i]? = some x := by rfl) (hv : Vis X.env.scope x := by first | exact Or.inl rfl | exact Or.inr (Or.inl rfl) | exact Or.inr (Or.inr rfl)) (hd : (x == ("__debug__" : Str)) = false := by decide)
    (hcd : (x == ("__classdict__" : Str)) = false := by decide) (hs : swapsWith (.Call (.Attribute (.Name x p) "append" apos) [e] [] cpos) none pos.line X.env = pure false := by rfl) (hst : starEach [e] X.env = (false, eval e X.env) :: starEach [] X.env := by rfl)
    (hbase : attributeBase (.Name x p) "append" X.env (eval (.Name x p) X.env) = eval (.Name x p) X.env := by rfl)
    (hfew : ((backTo cpos (starEach [e] X.env)).all (fun x => !x.1) && (backToKw cpos (keywordEach [] X.env)).all (fun x => x.1.isSome) && decide ([e].length + ([] : List Keyword).length + (if ([] : List Keyword).isEmpty then 0 else 1) < 30)) = true := by rfl)
    (hline : (apos.endLine == cpos.line) = true := by rfl) (hplain : (backTo cpos (starEach ([] : List Expr) X.env)).any (·.1) = false := by rfl) : DS Tb X (.Expr (.Call (.Attribute (.Name x p) "append" apos) [e] [] cpos) pos) (gApp i ge) :=
  ⟨ps_imp (ps_expr (pe_bm PySem.F.plainAttrs_list PySem.F.slot_list_append PySem.F.type_list_append mt_append (pe_var hN hv hd hcd) (pa_cons he.pe pa_nil hst) hbase hfew hline hst hplain) hs) fun En σ H h => app_use h⟩

/-! ### extend -/
end
set_option maxHeartbeats 1000000 in
theorem extend_tupW (l : Addr) (its : Array Value) (n : Nat) (b : Addr) (its2 : Array Value) (n2 : Nat) (dd : Option Addr) (sl : Array (Option Value)) (h0 : ¬(!its.isEmpty && Builtin.List.listTooLong (its.size + its2.size)) = true) (h1 : its.size ≤ sizeLine) (h2 : its.size + its2.size ≤ sizeLine + 1) :
    Meets (Builtin.«list.extend» ⟨[.ref l, .ref b], []⟩) (fun _ R s => s.heap.get? l = some { cls := .type "list", data := .seq its n } ∧ s.heap.get? b = some { cls := .type "tuple", dict := dd, data := .seq its2 n2, slots := sl } ∧
      R (.ok (.ret Value.none)) { s with heap := s.heap.update l (Obj.mapSeq fun x => x ++ its2) }) :=
  .of_wp fun prog w A R s h => by
    obtain ⟨hh, gg, dd', tt, oo⟩ := s
    obtain ⟨hl, hb, h⟩ := h
    have f1 := AutoSeq1.idx_int
    have f2 := AutoSeq1.sub_tuple_tuple
    have f3 := AutoSeq1.sub_list_list
    have f4 := AutoSeq1.sub_tuple_list
    have f5 := AutoSeq1.sub_list_tuple
    have hz' : (its ++ its2).size ≤ sizeLine + 1 := by
      rw [Array.size_append]
      exact h2
    wp_walk using (wpAny_updateSeq hl rfl (hz := h1) (_hz' := hz')), AutoSeq1.wpAny_loadPart' hl, AutoSeq1.wpAny_loadPart' hb
    exact ⟨_, rfl, h⟩

section
variable {X : Cx} {e a b c o : Expr} {pos : Pos} {ge : G}
def rExtendT (K : KF) : V → List V → Hp → VK → Prop := fun x vs H Q => ∃ l b xs zs, x = .ref l ∧ vs = [.ref b] ∧ H l = some (.lst xs) ∧ SqT K H b zs ∧ xs.length + zs.length ≤ sizeLine ∧ Q .non (upd H l (.lst (xs ++ zs)))
theorem mt_extendT : MtR X "list.extend" (rExtendT X.KK) := by
  intro pins s σ H x vs v us Q I rx rv h
  obtain ⟨l, b, xs, zs, rfl, rfl, hH, hB, hz, q⟩ := h
  cases rx
  obtain ⟨u, rfl, ru⟩ := rv.one
  cases ru
  obtain ⟨z, its, n, r, hl, e⟩ := I.lstM hH
  obtain ⟨its2, r2, ⟨ot, e2, c2, n2, d2⟩, z2⟩ := I.tuple hB
  obtain ⟨oc, od, odt, osl⟩ := ot
  simp only at c2 d2
  subst c2 d2
  have hl2 := r2.length
  have hsz : its.toArray.size + its2.toArray.size ≤ sizeLine := by rw [List.size_toArray, List.size_toArray]; omega
  have hlong : ¬ (!its.toArray.isEmpty && Builtin.List.listTooLong (its.toArray.size + its2.toArray.size)) = true := by
    rw [notLongL hsz, Bool.and_false]
    exact Bool.false_ne_true
  refine call_meets F.slot_list_extend ⟨_, e, rfl⟩ F.entry_list_extend (F.args_list_extend_2 _ _) (extend_tupW l its.toArray n b its2.toArray n2 od osl hlong (by rw [List.size_toArray]; omega) (by omega)) ⟨e, e2, ?_⟩
  refine ⟨.non, _, I.lset (its' := its ++ its2) hH e (by simp) (r.append r2) ?_, rfl, q⟩
  rw [List.length_append]
  omega
def gExt (i : Nat) (g : G) : GS := fun δ => (g δ).bind fun r => match δ.getD i .no with
  | .own (.lst ds) => (match r.d with
    | .lst es => if ds.length + es.length ≤ sizeLine ∧ puL es = true then some (.nx (purge (δ.set i (.own (.lst (ds ++ es)))))) else none
    | .tup es => if ds.length + es.length ≤ sizeLine ∧ puL es = true then some (.nx (purge (δ.set i (.own (.lst (ds ++ es)))))) else none
    | _ => none)
  | _ => none
/-- what is left of an own list's growth by pure things -/
theorem grow {K : KF} {B C H H1 : Hp} {σ : L2.St} {δ : DSt} {Φ : Nat → List Addr} {i : Nat} {ds es : List D} {l : Addr} {xs zs : List V} {ψ : List Addr} {En : Ends} (S : RSt Tb K B C σ H δ Φ) (s : Same H H1) (hd : δ.getD i .no = .own (.lst ds)) (hs : σ[i]? = some (some (.ref l))) (hl : H l = some (.lst xs)) (ow : OwL K H ds xs ψ) (hp : Φ i = l :: ψ)
    (hz : puL es = true) (r : RpL K H1 es zs) (k : KO Tb K B C En σ δ (.nx (purge (δ.set i (.own (.lst (ds ++ es))))))) : En.nx σ (upd H1 l (.lst (xs ++ zs))) := by
  have hl1 := s.get hl
  have nd := S.nd i
  rw [hp] at nd
  obtain ⟨nl, nψ⟩ := List.nodup_cons.mp nd
  have tk1 := tk_lst (ys := xs ++ zs) hl1
  refine k σ _ _ ((S.same s).mut (H' := upd H1 l (.lst (xs ++ zs))) (d' := .lst (ds ++ es)) (φ' := l :: ψ) hd hs (fun a o ha e3 => ?_) ?_ nd fun a ha => .inl (by rw [hp]; exact ha)) (lk_mut hd)
  · rw [upd_ne (fun z => ha (by rw [hp, z]; exact List.mem_cons_self))]; exact e3
  · unfold Ow
    refine ⟨l, _, ψ, rfl, upd_same, ?_, rfl⟩
    have q := OwL.append (OwL.mono tk1 _ _ _ (fun a ha => upd_ne fun z => nl (z ▸ ha)) (OwL.same s ow)) (OwL.pu _ _ hz (RpL.tk tk1 _ _ hz r))
    rw [List.append_nil] at q
    exact q
theorem ext_use {K : KF} {i : Nat} {En : Ends} {σ : L2.St} {H : Hp} (h : tDS Tb K (gExt i ge) En σ H) : tDrop (tBM K "list" (fun x xs H Q => rExtend x xs H Q ∨ rExtendT K x xs H Q) (tVar i) (tCons (tD Tb K ge) tNil)) En σ H := by
  obtain ⟨B, C, δ, Φ, o, S, e, k⟩ := h
  obtain ⟨r, e1, e2⟩ := bind1_some e
  split at e2
  · rename_i ds hd
    obtain ⟨l, xs, ψ, hs, hl, ow, hp⟩ := S.list hd
    have lenx : xs.length = ds.length := (OwL.rp _ _ _ ow).length
    refine ⟨_, hs, .inl ⟨rfl, xs, SqL.of hl⟩, B, C, δ, Φ, r, S, e1, fun y H1 φ s q f n => ?_⟩
    have rp := q.rp S.bc (S.ch.trans s)
    split at e2
    · rename_i es hx
      rw [hx] at rp
      split at e2
      · rename_i hz
        cases e2
        unfold Rp at rp
        obtain ⟨b, zs, rfl, hb, rr⟩ := rp
        exact .inl ⟨l, b, xs, zs, rfl, rfl, s.get hl, hb, by rw [rr.length]; omega, grow S s hd hs hl ow hp hz.2 rr k⟩
      · cases e2
    · rename_i es hx
      rw [hx] at rp
      split at e2
      · rename_i hz
        cases e2
        unfold Rp at rp
        obtain ⟨b, zs, rfl, hb, rr⟩ := rp
        exact .inr ⟨l, b, xs, zs, rfl, rfl, s.get hl, hb, by rw [rr.length]; omega, grow S s hd hs hl ow hp hz.2 rr k⟩
      · cases e2
    · cases e2
  · cases e2
theorem ds_ext (i : Nat) {x : Str} {p apos cpos : Pos} (he : DE Tb X e ge) (hN : X.N[i]? = some x := by rfl) (hv : Vis X.env.scope x := by first | exact Or.inl rfl | exact Or.inr (Or.inl rfl) | exact Or.inr (Or.inr rfl)) (hd : (x == ("__debug__" : Str)) = false := by decide)
    (hcd : (x == ("__classdict__" : Str)) = false := by decide) (hs : swapsWith (.Call (.Attribute (.Name x p) "extend" apos) [e] [] cpos) none pos.line X.env = pure false := by rfl) (hst : starEach [e] X.env = (false, eval e X.env) :: starEach [] X.env := by rfl)
    (hbase : attributeBase (.Name x p) "extend" X.env (eval (.Name x p) X.env) = eval (.Name x p) X.env := by rfl)
    (hfew : ((backTo cpos (starEach [e] X.env)).all (fun x => !x.1) && (backToKw cpos (keywordEach [] X.env)).all (fun x => x.1.isSome) && decide ([e].length + ([] : List Keyword).length + (if ([] : List Keyword).isEmpty then 0 else 1) < 30)) = true := by rfl)
    (hline : (apos.endLine == cpos.line) = true := by rfl) (hplain : (backTo cpos (starEach ([] : List Expr) X.env)).any (·.1) = false := by rfl) : DS Tb X (.Expr (.Call (.Attribute (.Name x p) "extend" apos) [e] [] cpos) pos) (gExt i ge) :=
  ⟨ps_imp (ps_expr (pe_bm PySem.F.plainAttrs_list PySem.F.slot_list_extend PySem.F.type_list_extend (MtR.or mt_extend mt_extendT) (pe_var hN hv hd hcd) (pa_cons he.pe pa_nil hst) hbase hfew hline hst hplain) hs) fun En σ H h => ext_use h⟩

/-! ### expressions that change a slot's own list -/
abbrev GM := DSt → Option (D × DSt)
def tDM (Tb : Pm) (K : KF) (g : GM) : TE := fun σ H Q => ∃ (B C : Hp) (δ : DSt) (Φ : Nat → List Addr) (d : D) (δ' : DSt), RSt Tb K B C σ H δ Φ ∧ g δ = some (d, δ') ∧
  ∀ v H' Φ', RSt Tb K B C σ H' δ' Φ' → Lk Tb.pr σ δ σ δ' → RR K B C H' (.val d) v [] → Q v H'
structure DM (Tb : Pm) (X : Cx) (e : Expr) (g : GM) : Prop where
  pe : PE X e (tDM Tb X.KK g)
theorem OwL.erase {K : KF} {H : Hp} : ∀ {ds : List D} {xs : List V} {ψ : List Addr} {m : Nat} {d : D}, OwL K H ds xs ψ → ds[m]? = some d → DL.pu d = true → OwL K H (ds.eraseIdx m) (xs.eraseIdx m) ψ ∧ ∃ x, xs[m]? = some x ∧ Rp K H d x
  | [], _, _, m, d, _, e, _ => by simp at e
  | d0 :: ds, _, _, 0, d, h, e, p => by
    unfold OwL at h
    obtain ⟨x, ys, φ1, φ2, rfl, q, r, rfl⟩ := h
    simp at e
    subst e
    rw [Ow.nil _ _ _ p q]
    exact ⟨by simpa using r, x, rfl, Ow.rp _ _ _ q⟩
  | d0 :: ds, _, _, m + 1, d, h, e, p => by
    unfold OwL at h
    obtain ⟨x, ys, φ1, φ2, rfl, q, r, rfl⟩ := h
    obtain ⟨h1, y, h2, h3⟩ := OwL.erase (m := m) (d := d) r (by simpa using e) p
    refine ⟨?_, y, by simpa using h2, h3⟩
    show OwL K H (d0 :: ds.eraseIdx m) (x :: ys.eraseIdx m) _
    unfold OwL
    exact ⟨x, _, φ1, φ2, rfl, q, h1, rfl⟩
/-- the list of slot j without its m-th item, which is d -/
def popD (j m : Nat) (δ : DSt) : Option (D × DSt) := match δ.getD j .no with
  | .own (.lst es) => (match es[m]? with
    | some d => if pu d = true then some (d, purge (δ.set j (.own (.lst (es.eraseIdx m))))) else none
    | none => none)
  | _ => none
theorem pop_use {K : KF} {B C H H1 : Hp} {σ : L2.St} {δ δ' : DSt} {Φ : Nat → List Addr} {j m : Nat} {d : D} (S : RSt Tb K B C σ H δ Φ) (s : Same H H1) (e : popD j m δ = some (d, δ')) : ∃ l xs es y, δ.getD j .no = .own (.lst es) ∧ σ[j]? = some (some (.ref l)) ∧ H1 l = some (.lst xs) ∧ xs.length = es.length ∧ xs[m]? = some y ∧
    (∃ Φ', RSt Tb K B C σ (upd H1 l (.lst (xs.eraseIdx m))) δ' Φ') ∧ Lk Tb.pr σ δ σ δ' ∧ RR K B C (upd H1 l (.lst (xs.eraseIdx m))) (.val d) y [] := by
  unfold popD at e
  split at e
  · rename_i es hd
    split at e
    · rename_i d0 hm
      split at e
      · rename_i hp0
        cases e
        obtain ⟨l, xs, ψ, hs, hl, ow, hp⟩ := S.list hd
        have hl1 := s.get hl
        obtain ⟨ow2, y, hy, ry⟩ := OwL.erase (OwL.same s ow) hm hp0
        have nd := S.nd j
        rw [hp] at nd
        obtain ⟨nl, nψ⟩ := List.nodup_cons.mp nd
        have tk1 := tk_lst (ys := xs.eraseIdx m) hl1
        refine ⟨l, xs, es, y, hd, hs, hl1, (OwL.rp _ _ _ ow).length, hy, ⟨_, (S.same s).mut (H' := upd H1 l (.lst (xs.eraseIdx m))) (d' := .lst (es.eraseIdx m)) (φ' := l :: ψ) hd hs (fun a o ha e3 => ?_) ?_ nd fun a ha => .inl (by rw [hp]; exact ha)⟩, lk_mut hd, rfl, hp0, Rp.tk tk1 _ _ hp0 ry⟩
        · rw [upd_ne (fun z => ha (by rw [hp, z]; exact List.mem_cons_self))]; exact e3
        · unfold Ow
          exact ⟨l, _, ψ, rfl, upd_same, OwL.mono tk1 _ _ _ (fun a ha => upd_ne fun z => nl (z ▸ ha)) ow2, rfl⟩
      · cases e
    · cases e
  · cases e
/-- xs.pop(e) -/
def gPopAt (j : Nat) (g : G) : GM := fun δ => (g δ).bind fun r => match r.d, δ.getD j .no with
  | .int i, .own (.lst es) => if -(2 ^ 63) ≤ i ∧ i < 2 ^ 63 then (seqIndex? i es.length).bind fun m => popD j m δ else none
  | _, _ => none
theorem dm_popAt (j : Nat) {x : Str} {p apos cpos : Pos} (he : DE Tb X e ge) (hN : X.N[j]? = some x := by rfl) (hv : Vis X.env.scope x := by first | exact Or.inl rfl | exact Or.inr (Or.inl rfl) | exact Or.inr (Or.inr rfl)) (hd : (x == ("__debug__" : Str)) = false := by decide)
    (hcd : (x == ("__classdict__" : Str)) = false := by decide) (hst : starEach [e] X.env = (false, eval e X.env) :: starEach [] X.env := by rfl)
    (hbase : attributeBase (.Name x p) "pop" X.env (eval (.Name x p) X.env) = eval (.Name x p) X.env := by rfl)
    (hfew : ((backTo cpos (starEach [e] X.env)).all (fun x => !x.1) && (backToKw cpos (keywordEach [] X.env)).all (fun x => x.1.isSome) && decide ([e].length + ([] : List Keyword).length + (if ([] : List Keyword).isEmpty then 0 else 1) < 30)) = true := by rfl)
    (hline : (apos.endLine == cpos.line) = true := by rfl) (hplain : (backTo cpos (starEach ([] : List Expr) X.env)).any (·.1) = false := by rfl) : DM Tb X (.Call (.Attribute (.Name x p) "pop" apos) [e] [] cpos) (gPopAt j ge) := by
  refine ⟨pe_imp (pe_bm PySem.F.plainAttrs_list PySem.F.slot_list_pop PySem.F.type_list_pop mt_popAt (pe_var hN hv hd hcd) (pa_cons he.pe pa_nil hst) hbase hfew hline hst hplain) fun σ H Q h => ?_⟩
  obtain ⟨B, C, δ, Φ, d, δ', S, e, k⟩ := h
  obtain ⟨r, e1, e2⟩ := bind1_some e
  split at e2
  · rename_i i es hr hd
    split at e2
    · rename_i hz
      obtain ⟨m, e3, e4⟩ := bind1_some e2
      obtain ⟨l0, xs0, ψ0, hs0, hl0, _, _⟩ := S.list hd
      refine ⟨_, hs0, .inl ⟨rfl, xs0, SqL.of hl0⟩, B, C, δ, Φ, r, S, e1, fun y H1 φ s q f n => ?_⟩
      have rp := q.rp S.bc (S.ch.trans s)
      rw [hr] at rp
      obtain ⟨l, xs, es2, y2, hd2, hs, hl, hlen, hy, ⟨Φ', S'⟩, L, q2⟩ := pop_use S s e4
      rw [hs0] at hs
      cases hs
      rw [hd] at hd2
      cases hd2
      exact ⟨l0, xs, i, m, y2, rfl, by rw [rp_int rp], hl, hz.1, hz.2, by rw [hlen]; exact e3, hy, k y2 _ Φ' S' L q2⟩
    · cases e2
  · cases e2
/-- ys.append(an expression that changes another list) -/
def gAppM (i : Nat) (g : GM) : GS := fun δ => (g δ).bind fun p => match δ.getD i .no, p.2.getD i .no with
  | .own (.lst _), .own (.lst ds) => if ds.length < sizeLine then some (.nx (purge (p.2.set i (.own (.lst (ds ++ [p.1])))))) else none
  | _, _ => none
theorem ds_appM (i : Nat) {gm : GM} {x : Str} {p apos cpos : Pos} (he : DM Tb X e gm) (hN : X.N[i]? = some x := by rfl) (hv : Vis X.env.scope x := by first | exact Or.inl rfl | exact Or.inr (Or.inl rfl) | exact Or.inr (Or.inr rfl)) (hd : (x == ("__debug__" : Str)) = false := by decide)
    (hcd : (x == ("__classdict__" : Str)) = false := by decide) (hs : swapsWith (.Call (.Attribute (.Name x p) "append" apos) [e] [] cpos) none pos.line X.env = pure false := by rfl) (hst : starEach [e] X.env = (false, eval e X.env) :: starEach [] X.env := by rfl)
    (hbase : attributeBase (.Name x p) "append" X.env (eval (.Name x p) X.env) = eval (.Name x p) X.env := by rfl)
    (hfew : ((backTo cpos (starEach [e] X.env)).all (fun x => !x.1) && (backToKw cpos (keywordEach [] X.env)).all (fun x => x.1.isSome) && decide ([e].length + ([] : List Keyword).length + (if ([] : List Keyword).isEmpty then 0 else 1) < 30)) = true := by rfl)
    (hline : (apos.endLine == cpos.line) = true := by rfl) (hplain : (backTo cpos (starEach ([] : List Expr) X.env)).any (·.1) = false := by rfl) : DS Tb X (.Expr (.Call (.Attribute (.Name x p) "append" apos) [e] [] cpos) pos) (gAppM i gm) := by
  refine ⟨ps_imp (ps_expr (pe_bm PySem.F.plainAttrs_list PySem.F.slot_list_append PySem.F.type_list_append mt_append (pe_var hN hv hd hcd) (pa_cons he.pe pa_nil hst) hbase hfew hline hst hplain) hs) fun En σ H h => ?_⟩
  obtain ⟨B, C, δ, Φ, o, S, e, k⟩ := h
  obtain ⟨⟨d, δ'⟩, e1, e2⟩ := bind1_some e
  split at e2
  · rename_i d0 ds h0 h1
    split at e2
    · rename_i hz
      cases e2
      have q0 := S.sl i
      rw [h0] at q0
      obtain ⟨v0, hv0, ow0⟩ := q0
      have hs0 : σ[i]? = some (some v0) := by
        rw [List.getD_eq_getElem?_getD] at hv0
        cases w : σ[i]? with
        | none => rw [w] at hv0; cases hv0
        | some y => rw [w] at hv0; rw [show y = some v0 from hv0]
      refine ⟨v0, hs0, ?_, B, C, δ, Φ, d, δ', S, e1, fun y H1 Φ1 S1 L1 q1 => ?_⟩
      · unfold Ow at ow0
        obtain ⟨l, xs, ψ, rfl, hl, _⟩ := ow0
        exact .inl ⟨rfl, xs, SqL.of hl⟩
      · obtain ⟨l, xs, ψ, hs, hl, ow, hp⟩ := S1.list h1
        rw [hs0] at hs
        cases hs
        have lenx : xs.length = ds.length := (OwL.rp _ _ _ ow).length
        refine ⟨l, xs, y, rfl, rfl, hl, by omega, ?_⟩
        have r1 : RpL X.KK H1 [d] [y] := by
          unfold RpL
          exact ⟨y, [], rfl, q1.2.2, by unfold RpL; rfl⟩
        exact grow S1 (Same.refl _) h1 hs0 hl ow hp (by simp [puL, q1.2.1]) r1 (k.lk L1)
    · cases e2
  · cases e2
end
end DL

set_option Elab.async false
set_option linter.all false
set_option maxRecDepth 100000
set_option maxHeartbeats 4000000
/-! D10: for, calls, defs over plain data. -/
namespace DL
open PySem PySem.Spec PyProof.Rows L2
variable {Tb : Pm}
def Sl.isOwn : Sl → Bool
  | .own _ => true
  | _ => false
def Sl.lock : Sl → Sl
  | .own d => .lck d
  | s => s
def Sl.unlock : Sl → Sl
  | .lck d => .own d
  | s => s
def Sl.unfr : Sl → Sl
  | .fr d => .bor d
  | s => s
def R.unfr : R → R
  | .fr d => .bor d
  | r => r
def lockAll (lks : List Nat) (δ : DSt) : DSt := δ.mapIdx fun j s => if lks.contains j = true then s.lock else s
def unlockAll (lks : List Nat) (δ0 δ : DSt) : DSt := δ.mapIdx fun j s => if (lks.contains j && (δ0.getD j .no).isOwn) = true then s.unlock else s.unfr
section
variable {K : KF} {B C H H' : Hp} {σ : L2.St} {δ : DSt} {Φ : Nat → List Addr}
/-- the slots that a loop locks -/
def lkd (lks : List Nat) (δ : DSt) (j : Nat) : Prop := lks.contains j = true ∧ (δ.getD j .no).isOwn = true
/-- what may change within the loop -/
def Mv (lks : List Nat) (δ : DSt) (Φ : Nat → List Addr) (a : Addr) : Prop := ∃ j, a ∈ Φ j ∧ ¬ lkd lks δ j
theorem lock_get (lks : List Nat) (j : Nat) : (lockAll lks δ).getD j .no = if lks.contains j = true then (δ.getD j .no).lock else δ.getD j .no := by
  unfold lockAll
  rw [getD_mapIdx _ (fun j => by split <;> rfl)]
theorem unlock_get (lks : List Nat) (δ0 : DSt) (j : Nat) : (unlockAll lks δ0 δ).getD j .no = if (lks.contains j && (δ0.getD j .no).isOwn) = true then (δ.getD j .no).unlock else (δ.getD j .no).unfr := by
  unfold unlockAll
  rw [getD_mapIdx _ (fun j => by split <;> rfl)]
open Classical in
noncomputable def lkΦ (lks : List Nat) (δ : DSt) (Φ : Nat → List Addr) (j : Nat) : List Addr := if lkd lks δ j then [] else Φ j
/-- the state with the slots locked, over a base that holds all that stands still -/
theorem RSt.lock (h : RSt Tb K B C σ H δ Φ) (lks : List Nat) : RSt Tb K B (rem (Mv lks δ Φ) H) σ H (lockAll lks δ) (lkΦ lks δ Φ) ∧ Same C (rem (Mv lks δ Φ) H) ∧ (∀ j d, δ.getD j .no = .lck d → (lockAll lks δ).getD j .no = .lck d) ∧
    (∀ a, Mv lks δ Φ a → ∃ o, H a = some o ∧ Mt o) ∧ ∀ j d, lkd lks δ j → δ.getD j .no = .own d → (lockAll lks δ).getD j .no = .lck d ∧ ∃ v, σ.getD j none = some v ∧ Ow K (rem (Mv lks δ Φ) H) d v (Φ j) := by
  have ml : ∀ a, Mv lks δ Φ a → ∃ o, H a = some o ∧ Mt o := fun a ⟨j, ha, _⟩ => h.trk ha
  have cc : Same C (rem (Mv lks δ Φ) H) := h.ch.keep fun a u o e e2 => by
    have nm : ¬ Mv lks δ Φ a := fun ⟨j, ha, _⟩ => by
      rw [h.fr j a ha] at e
      cases e
    rw [rem_at nm]
    exact e2
  have lkow : ∀ j d, lkd lks δ j → δ.getD j .no = .own d → (lockAll lks δ).getD j .no = .lck d ∧ ∃ v, σ.getD j none = some v ∧ Ow K (rem (Mv lks δ Φ) H) d v (Φ j) := fun j d hj e => by
    refine ⟨by rw [lock_get, if_pos hj.1, e]; rfl, ?_⟩
    have q := h.sl j
    rw [e] at q
    obtain ⟨v, e1, ow⟩ := q
    exact ⟨v, e1, Ow.mono (rem_tk ml) _ _ _ (fun a ha => rem_at fun ⟨m, hm, nm⟩ => nm (by rw [← h.dj j m a ha hm]; exact hj)) ow⟩
  refine ⟨⟨by simpa [lockAll] using h.len, fun j => ?_, fun j => ?_, fun j m a ha hb => ?_, h.bc.trans cc, rem_same, fun j a ha => ?_, fun P hP => cc.tab (h.tb P hP)⟩, cc, fun j d e => ?_, ml, lkow⟩
  · have s := h.sl j
    by_cases hj : lkd lks δ j
    · cases z : δ.getD j .no with
      | own d =>
        obtain ⟨e1, v, e2, ow⟩ := lkow j d hj z
        rw [e1, e2]
        unfold lkΦ
        rw [if_pos hj]
        exact ⟨rfl, v, rfl, Ow.rp _ _ _ ow⟩
      | _ => have := hj.2; rw [z] at this; cases this
    · have e1 : (lockAll lks δ).getD j .no = δ.getD j .no := by
        rw [lock_get]
        split
        · rename_i hc
          cases z : δ.getD j .no with
          | own d => exact absurd ⟨hc, by rw [z]; rfl⟩ hj
          | _ => rfl
        · rfl
      rw [e1]
      unfold lkΦ
      rw [if_neg hj]
      cases z : δ.getD j .no with
      | no => rw [z] at s; exact s
      | exc c => rw [z] at s; exact s
      | val d => rw [z] at s; exact s
      | par d => rw [z] at s; exact s
      | fr d => rw [z] at s; obtain ⟨a, x, e2, q⟩ := s; exact ⟨a, x, e2, Rp.mono cc _ _ q⟩
      | bor d => rw [z] at s; exact s
      | lck d => rw [z] at s; obtain ⟨a, x, e2, q⟩ := s; exact ⟨a, x, e2, Rp.mono cc _ _ q⟩
      | own d => rw [z] at s; exact s
  · unfold lkΦ
    split
    · exact List.nodup_nil
    · exact h.nd j
  · unfold lkΦ at ha hb
    split at ha
    · cases ha
    · split at hb
      · cases hb
      · exact h.dj j m a ha hb
  · unfold lkΦ at ha
    split at ha
    · cases ha
    · rename_i hn
      exact rem_in ⟨j, ha, hn⟩
  · rw [lock_get]
    split
    · rw [e]; rfl
    · exact e
/-- the loop is done: the locked slots are our own again -/
theorem RSt.unlock {lks : List Nat} {C' H2 : Hp} {σ2 : L2.St} {δ2 : DSt} {Φ2 : Nat → List Addr} (h : RSt Tb K B C σ H δ Φ) (cc : Same C C') (lkow : ∀ j d, lkd lks δ j → δ.getD j .no = .own d → (lockAll lks δ).getD j .no = .lck d ∧ ∃ v, σ.getD j none = some v ∧ Ow K C' d v (Φ j))
    (h2 : RSt Tb K B C' σ2 H2 δ2 Φ2) (L : Lk Tb.pr σ (lockAll lks δ) σ2 δ2) (ll : ∀ j d, δ.getD j .no = .lck d → (lockAll lks δ).getD j .no = .lck d) : ∃ Φ3, RSt Tb K B C σ2 H2 (unlockAll lks δ δ2) Φ3 ∧ Lk Tb.pr σ δ σ2 (unlockAll lks δ δ2) := by
  have own_of : ∀ j, lkd lks δ j → ∃ d, δ.getD j .no = .own d := fun j hj => by
    cases z : δ.getD j .no with
    | own d => exact ⟨d, rfl⟩
    | _ => have := hj.2; rw [z] at this; cases this
  have at_ : ∀ j d, lkd lks δ j → δ.getD j .no = .own d → δ2.getD j .no = .lck d ∧ ∃ v, σ2.getD j none = some v ∧ Ow K C' d v (Φ j) := fun j d hj e => by
    obtain ⟨e1, v, e2, ow⟩ := lkow j d hj e
    obtain ⟨e3, e4⟩ := L.1 j d e1
    exact ⟨e3, v, e4.trans e2, ow⟩
  classical
  refine ⟨fun j => if lkd lks δ j then Φ j else Φ2 j, ⟨by simpa [unlockAll] using h2.len, fun j => ?_, fun j => ?_, fun j m a ha hb => ?_, h.bc, cc.trans h2.ch, fun j a ha => ?_, h.tb⟩, fun j d e => ?_, fun j d e => ?_, L.2.2⟩
  · rw [unlock_get]
    by_cases hj : lkd lks δ j
    · obtain ⟨d, hd⟩ := own_of j hj
      obtain ⟨e1, v, e2, ow⟩ := at_ j d hj hd
      rw [if_pos hj, if_pos (by rw [hj.1, hj.2]; rfl), e1, e2]
      exact ⟨v, rfl, Ow.same h2.ch ow⟩
    · rw [if_neg hj, if_neg (fun z => hj (by rw [Bool.and_eq_true] at z; exact z))]
      have s := h2.sl j
      cases z : δ2.getD j .no with
      | no => rw [z] at s; exact s
      | exc c => rw [z] at s; exact s
      | val d => rw [z] at s; exact s
      | par d => rw [z] at s; exact s
      | fr d => rw [z] at s; obtain ⟨a, x, e2, q⟩ := s; exact ⟨a, x, e2, Rp.mono h2.ch _ _ q⟩
      | bor d => rw [z] at s; exact s
      | own d => rw [z] at s; exact s
      | lck d =>
        have e1 := L.2.1 j d z
        have e2 : δ.getD j .no = .lck d := by
          rw [lock_get] at e1
          split at e1
          · rename_i hc
            cases w : δ.getD j .no with
            | own d' => exact absurd ⟨hc, by rw [w]; rfl⟩ hj
            | _ => rw [w] at e1; exact e1
          · exact e1
        have s0 := h.sl j
        rw [e2] at s0
        obtain ⟨_, x, e3, q⟩ := s0
        rw [z] at s
        exact ⟨s.1, x, (L.1 j d e1).2.trans e3, q⟩
  · split
    · exact h.nd j
    · exact h2.nd j
  · have cr : ∀ j m a, lkd lks δ j → a ∈ Φ j → a ∈ Φ2 m → False := fun j m a hj ha hb => by
      obtain ⟨d, hd⟩ := own_of j hj
      obtain ⟨_, v, _, ow⟩ := at_ j d hj hd
      obtain ⟨xs, q, mt_q⟩ := Ow.trk _ _ _ ow a ha
      rw [h2.fr m a hb] at q; cases q
    split at ha
    · split at hb
      · exact h.dj j m a ha hb
      · rename_i hj _; exact (cr j m a hj ha hb).elim
    · split at hb
      · rename_i _ hm; exact (cr m j a hm hb ha).elim
      · exact h2.dj j m a ha hb
  · split at ha
    · exact h.fr j a ha
    · exact cc.free (h2.fr j a ha)
  · have e1 := ll j d e
    obtain ⟨e2, e3⟩ := L.1 j d e1
    refine ⟨?_, e3⟩
    rw [unlock_get, if_neg, e2]
    · rfl
    · intro z
      rw [Bool.and_eq_true, e] at z
      cases z.2
  · rw [unlock_get] at e
    split at e
    · rename_i hc
      cases z : δ2.getD j .no <;> rw [z] at e <;> cases e
    · rename_i hc
      have z : δ2.getD j .no = .lck d := by cases z : δ2.getD j .no <;> rw [z] at e <;> first | exact e | cases e
      have e1 := L.2.1 j d z
      rw [lock_get] at e1
      split at e1
      · rename_i hl
        cases w : δ.getD j .no with
        | own d' => exact absurd (by rw [hl, w]; rfl) hc
        | _ => rw [w] at e1; exact e1
      · exact e1
end

/-! ### for -/
def Kd.mkF (k : Kd) (d : D) : R := if pu d = true then .val d else match k with
  | .par => .par d | .bor => .bor d | _ => .fr d
def Kd.itmF (k : Kd) : SI → Itm
  | .one d => .one (k.mkF d)
  | .en i d => .tup [.val (.int i), k.mkF d]
def Kd.ok : Kd → Bool
  | .bor => false
  | _ => true
theorem kd_mkF {K : KF} {B C H : Hp} {k : Kd} {d : D} {x : V} (hk : k.ok = true) (ch : Same C H) (hB : k = .par → Rp K B d x) (hC : Rp K C d x) : RR K B C H (k.mkF d) x [] := by
  unfold Kd.mkF
  split
  · rename_i p; exact ⟨rfl, p, Rp.mono ch _ _ hC⟩
  · cases k with
    | par => exact ⟨rfl, hB rfl⟩
    | fr => exact ⟨rfl, hC⟩
    | val => exact ⟨rfl, hC⟩
    | own => exact ⟨rfl, hC⟩
    | bor => cases hk
theorem itmF_ok {K : KF} {B C H H' : Hp} {T : Hp → Prop} {J : It} {its : List SI} {k : Kd} {i : Nat} {it : SI} {x : V} (wk : Wk K T J its) (hk : k.ok = true) (sB : Same B H) (sC : Same C H) (tH : T H) (tB : k = .par → T B) (tC : T C)
    (hi : its[i]? = some it) (hy : J.yld i H x H') : Same H H' ∧ ItOk K B C H' (k.itmF it) x [] := by
  obtain ⟨ss, q1⟩ := ((wk H tH i).1 it hi).2 x H' hy
  refine ⟨ss, ?_⟩
  cases it with
  | one d => exact kd_mkF hk (sC.trans ss) (fun z => q1 B (tB z) sB) (q1 C tC sC)
  | en j d =>
    obtain ⟨a, y, rfl, hs, hr⟩ := q1
    exact ⟨a, [.int j, y], rfl, hs, .int j, [y], [], [], rfl, rr_int, ⟨y, [], [], [], rfl, kd_mkF hk (sC.trans ss) (fun z => hr B (tB z) sB) (hr C tC sC), ⟨rfl, rfl⟩, rfl⟩, rfl⟩
def forL (kd : Kd) (gt : GTg) (gb : GS) : List SI → GS
  | [], δ => some (.nx δ)
  | it :: its, δ => (gt (kd.itmF it) δ).bind fun δ1 => (gb δ1).bind fun o => match o with
    | .nx δ2 => forL kd gt gb its δ2
    | .ct δ2 => forL kd gt gb its δ2
    | .bk δ2 => some (.nx δ2)
    | .rt r => some (.rt r)
    | .ex c δ2 => some (.ex c δ2)
def gFor (lks : List Nat) (gi : GI) (gt : GTg) (gb : GS) : GS := fun δ => (gi (lockAll lks δ)).bind fun p => if p.1.ok = true then (forL p.1 gt gb p.2 (lockAll lks δ)).bind fun o => (match o with
    | .nx δ2 => some (.nx (unlockAll lks δ δ2))
    | .rt r => some (.rt r.unfr)
    | .ex c δ2 => some (.ex c (unlockAll lks δ δ2))
    | _ => none) else none
section
variable {X : Cx} {tg iter : Expr} {body : List Stmt} {pos : Pos} {gi : GI} {gt : GTg} {gb : GS}
theorem for_use {K : KF} {lks ts : List Nat} {En : Ends} {σ : L2.St} {H : Hp} (h : tDS Tb K (gFor lks gi gt gb) En σ H) : tFor (tDI Tb K gi) (tDG Tb K ts gt) (tDS Tb K gb) En σ H := by
  obtain ⟨B, C, δ, Φ, o, S, e, k⟩ := h
  obtain ⟨⟨kd, its⟩, e1, e⟩ := bind1_some e
  by_cases hk : kd.ok = true
  · have e : ((forL kd gt gb its (lockAll lks δ)).bind fun o => (match o with
      | O.nx δ2 => some (O.nx (unlockAll lks δ δ2))
      | O.rt r => some (O.rt r.unfr)
      | O.ex c δ2 => some (O.ex c (unlockAll lks δ δ2))
      | _ => none)) = some o := by
      have e : (if kd.ok = true then _ else _) = some o := e
      rw [if_pos hk] at e
      exact e
    obtain ⟨o1, e2, e3⟩ := bind1_some e
    obtain ⟨S1, cc1, ll, ml, lkow⟩ := S.lock lks
    refine ⟨B, _, lockAll lks δ, _, kd, its, S1, e1, fun J H1 T s tm wk t1 tB tC tN => ?_⟩
    -- the loop's base
    have S2 := S.same s
    obtain ⟨S3, cc, _, _, lkow3⟩ := S2.lock lks
    have c12 : Same (rem (Mv lks δ Φ) H) (rem (Mv lks δ Φ) H1) := (rem_same.trans s).keep fun a u o z z2 => by
      have nm : ¬ Mv lks δ Φ a := fun w => by rw [rem_in w] at z; cases z
      rw [rem_at nm]
      exact z2
    have tC2 : T (rem (Mv lks δ Φ) H1) := by
      cases kd with
      | par => exact tm _ _ (tB rfl) S3.bc
      | fr => exact tm _ _ (tC rfl) c12
      | val => exact tN (.inl rfl) _ ml
      | own => exact tN (.inr rfl) _ ml
      | bor => cases hk
    refine ⟨fun i m σ' H' => m = its.length - i ∧ i ≤ its.length ∧ ∃ δ' Φ', RSt Tb K B (rem (Mv lks δ Φ) H1) σ' H' δ' Φ' ∧ Lk Tb.pr σ (lockAll lks δ) σ' δ' ∧ forL kd gt gb (its.drop i) δ' = some o1, ⟨its.length, by simp, Nat.zero_le _, lockAll lks δ, _, S3, Lk.refl, by simpa using e2⟩, ?_⟩
    rintro i m σ' H' ⟨rfl, hi, δ', Φ', S', L', e4⟩
    have tH : T H' := tm _ _ tC2 S'.ch
    have fin : ∀ (σ2 : L2.St) (H2 : Hp) (δ2 : DSt) (Φ2 : Nat → List Addr), RSt Tb K B (rem (Mv lks δ Φ) H1) σ2 H2 δ2 Φ2 → Lk Tb.pr σ (lockAll lks δ) σ2 δ2 → o1 = .nx δ2 → En.nx σ2 H2 := fun σ2 H2 δ2 Φ2 S4 L4 eo => by
      subst eo
      cases e3
      obtain ⟨Φ3, S5, L5⟩ := S2.unlock cc lkow3 S4 L4 ll
      exact k σ2 H2 Φ3 S5 L5
    by_cases hlt : i < its.length
    · obtain ⟨it, hit⟩ : ∃ it, its[i]? = some it := ⟨its[i], by simp [hlt]⟩
      have hdrop : its.drop i = it :: its.drop (i + 1) := by
        rw [List.drop_eq_getElem_cons hlt]
        congr 1
        have := List.getElem?_eq_getElem hlt
        rw [hit] at this
        exact (Option.some.inj this).symm
      rw [hdrop] at e4
      obtain ⟨δ1, e5, e6⟩ := bind1_some e4
      obtain ⟨o2, e7, e8⟩ := bind1_some e6
      refine .inr ⟨((wk H' tH i).1 it hit).1, fun σ2 H2 => ∃ δ2 Φ2, RSt Tb K B (rem (Mv lks δ Φ) H1) σ2 H2 δ2 Φ2 ∧ Lk Tb.pr σ (lockAll lks δ) σ2 δ2 ∧ forL kd gt gb (its.drop (i + 1)) δ2 = some o1, fun σ2 H2 w => ⟨its.length - (i + 1), by omega, rfl, hlt, w⟩, fun x H3 hy => ?_⟩
      obtain ⟨ss, ok⟩ := itmF_ok (B := B) wk hk (S'.bc.trans S'.ch) S'.ch tH tB tC2 hit hy
      refine ⟨B, _, δ', Φ', kd.itmF it, [], δ1, S'.same ss, ok, List.nodup_nil, fun _ z => (by cases z), fun _ _ z => (by cases z), e5, fun σ3 ⟨Φ3, S4, L4, _, _, _⟩ => ⟨B, _, δ1, Φ3, o2, S4, e7, ?_⟩⟩
      have L5 := L'.trans L4
      cases o2 with
      | nx δ2 => exact fun σ4 H4 Φ4 S6 L6 => ⟨δ2, Φ4, S6, L5.trans L6, e8⟩
      | ct δ2 => exact fun σ4 H4 Φ4 S6 L6 => ⟨δ2, Φ4, S6, L5.trans L6, e8⟩
      | bk δ2 => exact fun σ4 H4 Φ4 S6 L6 => fin σ4 H4 δ2 Φ4 S6 (L5.trans L6) (Option.some.inj e8).symm
      | rt r =>
        have e9 : o1 = .rt r := (Option.some.inj e8).symm
        subst e9
        cases e3
        refine fun v H4 φ s4 q f n => k v H4 φ (cc.trans s4) ?_ (fun a ha => cc.free (f a ha)) n
        cases r with
        | val d => exact q
        | par d => exact q
        | fr d => exact ⟨q.1, Rp.mono s4 _ _ q.2⟩
        | bor d => exact q
        | own d => exact q
      | ex c δ2 =>
        have e9 : o1 = .ex c δ2 := (Option.some.inj e8).symm
        subst e9
        cases e3
        refine fun cls σ4 H4 Φ4 m S6 L6 => ?_
        obtain ⟨Φ5, S7, L7⟩ := S2.unlock cc lkow3 S6 (L5.trans L6) ll
        exact k cls σ4 H4 Φ5 m S7 L7
    · have hii : i = its.length := by omega
      refine .inl ⟨(wk H' tH i).2 hii, fin σ' H' δ' Φ' S' L' ?_⟩
      rw [hii, List.drop_length] at e4
      exact (Option.some.inj e4).symm
  · have e : (if kd.ok = true then _ else none) = some o := e
    rw [if_neg hk] at e
    cases e
theorem ds_for (lks : List Nat) {ts : List Nat} (hp : PassesOwn (model X.prog X.w) X.A X.env X.xe) (hc : X.calm = true) (hi : DI Tb X tg iter gi) (hg : DG Tb X tg ts gt) (hb : DSs Tb X body gb)
    (hs : ∀ x, foldedSetIterable iter X.env x = pure x := by intro _; rfl) : DS Tb X (.For tg iter body [] pos) (gFor lks gi gt gb) := ⟨ps_imp (ps_for hp hc hi.pi hg.pg hb.pss hs) fun En σ H h => for_use h⟩
end

/-! ### defs and their calls -/
/-- what a def hands back -/
def R.ret : R → Option R
  | .val d => some (.val d)
  | .own d => some (.own d)
  | .par d => some (.par d)
  | .bor d => some (.bor d)
  | .fr d => some (.bor d)
/-- how the caller holds it -/
def R.back : R → R
  | .par d => .bor d
  | .fr d => .bor d
  | r => r
/-- no exception leaves -/
@[reducible] def Pm.no (T : List Addr) (mg : Str → Option Value) : Pm := ⟨T, 0, mg, fun _ _ _ _ => False, []⟩
/-- the promise of a def of plain data -/
def spF (T : List Addr) (K : KF) (n : Nat) (F : List D → Option R) : Sp := fun vs H Q _ => ∃ ds r, ds.length = n ∧ RpL K H ds vs ∧ F ds = some r ∧ (∀ P ∈ T, GxR.TabG H P) ∧
  ∀ v H' φ, Same H H' → RR K H H H' r v φ → (∀ a ∈ φ, H a = none) → φ.Nodup → Q v H'
def argS (d : D) : Sl := if pu d = true then .val d else .par d
def startD (n : Nat) (ds : List D) : DSt := ds.map argS ++ List.replicate (n - ds.length) .no
/-- a def by its body -/
def runF (n : Nat) (g : GS) (ds : List D) : Option R := (g (startD n ds)).bind fun o => match o with
  | .nx _ => some (.val .non)
  | .rt r => r.ret
  | _ => none
theorem rst_start {K : KF} {H : Hp} {N : List Str} {ds : List D} {vs : List V} (h : RpL K H ds vs) (ht : ∀ P ∈ Tb.tb, GxR.TabG H P) : RSt Tb K H H (L2.start N vs) H (startD N.length ds) (fun _ => []) := by
  have hl := h.length
  refine ⟨by simp [L2.start, startD, hl], fun i => ?_, fun _ => List.nodup_nil, fun _ _ _ z => (by cases z), Same.refl _, Same.refl _, fun _ _ z => (by cases z), ht⟩
  unfold startD L2.start
  rw [List.getD_eq_getElem?_getD, List.getD_eq_getElem?_getD]
  by_cases hi : i < ds.length
  · obtain ⟨d, hd⟩ : ∃ d, ds[i]? = some d := ⟨ds[i], by simp [hi]⟩
    obtain ⟨x, hx, r⟩ := RpL.at h hd
    rw [List.getElem?_append_left (by simpa using hi), List.getElem?_append_left (by rw [List.length_map, hl]; exact hi), List.getElem?_map, List.getElem?_map, hd, hx]
    show SlOk Tb K H H H (argS d) (some x) []
    unfold argS
    split
    · rename_i p; exact ⟨rfl, p, x, rfl, r⟩
    · exact ⟨rfl, x, rfl, r⟩
  · have e : (List.map argS ds ++ List.replicate (N.length - ds.length) Sl.no)[i]?.getD Sl.no = Sl.no := by
      rw [List.getElem?_append_right (by simp; omega), List.getElem?_replicate]
      split <;> rfl
    rw [e]
    rfl
section
variable {P : Program} {w : World} {K : PySem.W.Frag} {mg : Str → Option Value} {base : Heap}
theorem fn_d {T : List Addr} {x qual : Str} {st : Stmt} {f : Addr} {fd : FuncData} {N ps : List Str} {k : Nat} {g : GS} (F : Fun K x qual st f fd) (S : FnScope N ps (defScope st))
    (hb : ∀ (cdv : Value) (A : Around) (outer : List Env) (s : Shared) (H : Hp) (E : XK), Room k (A.deeper (envOfC qual (defScope st) s.heap.objs.size f cdv)) → DSs (Pm.no T mg) (cxOf CX0 P w K mg base N qual (defScope st) f cdv A outer s H E).nox (defBody st) g) :
    FnOk P w K mg base CX0 (k + 1) f fd ps (spF T (kf K w) ps.length (runF N.length g)) := by
  refine F.ok S (fun vs H Q E h => ?_) (fun cdv A outer s H vs Q E hr h => ⟨_, (hb cdv A outer s H E hr).pss, ?_⟩)
  · obtain ⟨ds, r, h1, h2, _⟩ := h
    rw [h2.length, h1]
  · obtain ⟨ds, r, h1, h2, h3, ht, h4⟩ := h
    obtain ⟨o, e1, e2⟩ := bind1_some h3
    refine ⟨H, H, startD N.length ds, fun _ => [], o, rst_start h2 ht, e1, ?_⟩
    cases o with
    | nx δ' =>
      cases e2
      exact fun σ' H' Φ' S' _ => h4 .non H' [] S'.ch rr_non (fun _ z => by cases z) List.nodup_nil
    | rt r0 =>
      refine fun v H' φ s' q f n => h4 v H' φ s' ?_ f n
      cases r0 with
      | val d => cases e2; exact q
      | own d => cases e2; exact q
      | par d => cases e2; exact q
      | fr d => cases e2; exact ⟨q.1, Rp.mono s' _ _ q.2⟩
      | bor d => cases e2; exact q
    | bk δ' => cases e2
    | ct δ' => cases e2
    | ex c δ' => cases e2
end
section
variable {X : Cx} {a : Expr} {es : List Expr} {pos : Pos} {gs : GA}
def gCall (n : Nat) (F : List D → Option R) (gs : GA) : G := fun δ => (gs δ).bind fun rs => if rs.length = n then (F (rs.map R.d)).map R.back else none
theorem de_call {x : Str} {p : Pos} {f : Addr} {fd : FuncData} {ps : List Str} {k n : Nat} {F : List D → Option R} (Fn : FnOk X.prog X.w X.KK X.mg X.base CX0 k f fd ps (spF Tb.tb X.KK n F)) (hr : Room k X.A) (hm : X.mg x = some (.ref f)) (hk : PySem.W.keepIn X.KK (.ref f) = true) (hb : Binds X.KK fd ps []) (ha : DA Tb X (a :: es) gs)
    (hg : Gl X x := by rfl) (hd : (x == ("__debug__" : Str)) = false := by decide) (hs : starEach (a :: es) X.env = (false, eval a X.env) :: starEach es X.env := by rfl) (hpl : (backTo pos (starEach es X.env)).any (·.1) = false := by rfl) : DE Tb X (.Call (.Name x p) (a :: es) [] pos) (gCall n F gs) := by
  refine ⟨pe_imp (pe_call Fn hr hg hm hk hb .nil pass0 ha.pa hd hs hpl) fun σ H Q h => ?_⟩
  obtain ⟨B, C, δ, Φ, c, S, e, k'⟩ := h
  obtain ⟨rs, e1, e2⟩ := bind1_some e
  split at e2
  · rename_i hn
    obtain ⟨r, e3, e4⟩ := map_some e2
    refine ⟨B, C, δ, Φ, rs, S, e1, fun vs H1 φ s q f n => ?_⟩
    refine ⟨rs.map R.d, r, by simpa using hn, by rw [List.append_nil]; exact q.rp S.bc (S.ch.trans s), e3, fun P hP => (S.ch.trans s).tab (S.tb P hP), fun v H' φ' s' q' f' n' => k' v H' φ' (s.trans s') ?_ (fun a ha => s.free (f' a ha)) n'⟩
    subst e4
    cases r with
    | val d => exact q'
    | own d => exact q'
    | par d => exact ⟨q'.1, Rp.mono s' _ _ q'.2⟩
    | fr d => exact ⟨q'.1, Rp.mono s' _ _ q'.2⟩
    | bor d => exact q'
  · cases e2
end
end DL

set_option Elab.async false
set_option linter.all false
set_option maxRecDepth 100000
set_option maxHeartbeats 4000000
/-! D11: short words for printed derivations; the end of a law. -/
namespace DL
open PySem PySem.Spec PyProof.Rows L2
variable {Tb : Pm}
theorem bt_len : bootBuiltins "len" = some (.builtin "len") := by decide +kernel
theorem bt_int : bootBuiltins "int" = some (.type "int") := by decide +kernel
theorem bt_tuple : bootBuiltins "tuple" = some (.type "tuple") := by decide +kernel
theorem bt_list : bootBuiltins "list" = some (.type "list") := by decide +kernel
theorem bt_bool : bootBuiltins "bool" = some (.type "bool") := by decide +kernel
theorem bt_str : bootBuiltins "str" = some (.type "str") := by decide +kernel
theorem bt_all : bootBuiltins "all" = some (.builtin "all") := by decide +kernel
theorem bt_any : bootBuiltins "any" = some (.builtin "any") := by decide +kernel
theorem bt_min : bootBuiltins "min" = some (.builtin "min") := by decide +kernel
theorem bt_max : bootBuiltins "max" = some (.builtin "max") := by decide +kernel
theorem bt_sorted : bootBuiltins "sorted" = some (.builtin "sorted") := by decide +kernel
section
variable {X : Cx} {a : Expr} {es : List Expr} {pos : Pos} {ga : G} {gs : GA}
/-- -a -/
def gNeg (g : G) : G := fun δ => (g δ).bind fun r => match r.d with
  | .int i => some (.val (.int (-i)))
  | _ => none
theorem de_neg (ha : DE Tb X a ga) : DE Tb X (.UnaryOp .USub a pos) (gNeg ga) := ⟨pe_imp (pe_un un_neg ha.pe) fun σ H Q h => by
  obtain ⟨B, C, δ, Φ, c, S, e, k⟩ := h
  obtain ⟨x, e1, e2⟩ := bind1_some e
  refine ⟨B, C, δ, Φ, x, S, e1, fun v H1 φ s q f n => ?_⟩
  have q := q.rp S.bc (S.ch.trans s)
  split at e2
  · rename_i i hx
    rw [hx] at q
    cases e2
    exact ⟨i, rp_int q, k _ H1 [] s rr_int no_fresh List.nodup_nil⟩
  · cases e2⟩
end
/-- a def of the text as it stands behind the top -/
structure Df (K : PySem.W.Frag) (mg : Str → Option Value) (x : Str) (st : Stmt) (ps : List Str) : Prop where
  ex : ∃ f fd, mg x = some (.ref f) ∧ Fun K x x st f fd ∧ Binds K fd ps []
/-- a def with its promise -/
structure Cal (T : List Addr) (P : Program) (w : World) (K : PySem.W.Frag) (mg : Str → Option Value) (base : Heap) (x : Str) (ps : List Str) (k : Nat) (F : List D → Option R) : Prop where
  ex : ∃ f fd, mg x = some (.ref f) ∧ PySem.W.keepIn K (.ref f) = true ∧ Binds K fd ps [] ∧ FnOk P w K mg base CX0 k f fd ps (spF T (kf K w) ps.length F)
section
variable {T : List Addr} {P : Program} {w : World} {K : PySem.W.Frag} {mg : Str → Option Value} {base : Heap} {x : Str} {st : Stmt} {ps : List Str}
theorem Df.cal {N : List Str} {k : Nat} {g : GS} (h : Df K mg x st ps) (S : FnScope N ps (defScope st))
    (hb : ∀ (f : Addr) (cdv : Value) (A : Around) (outer : List Env) (s : Shared) (H : Hp) (E : XK), Room k (A.deeper (envOfC x (defScope st) s.heap.objs.size f cdv)) → DSs (Pm.no T mg) (cxOf CX0 P w K mg base N x (defScope st) f cdv A outer s H E).nox (defBody st) g) :
    Cal T P w K mg base x ps (k + 1) (runF N.length g) := by
  obtain ⟨f, fd, h1, h2, h3⟩ := h.ex
  exact ⟨f, fd, h1, h2.kp, h3, fn_d h2 S (hb f)⟩
theorem Df.never {k : Nat} (h : Df K mg x st ps) : Cal T P w K mg base x ps k (fun _ => none) := by
  obtain ⟨f, fd, h1, h2, h3⟩ := h.ex
  refine ⟨f, fd, h1, h2.kp, h3, ⟨fun vs H Q E ⟨ds, r, a1, a2, a3, _⟩ => (by cases a3), fun A outer s H args us vs Q E hr he hb hv ⟨ds, r, a1, a2, a3, _⟩ => (by cases a3)⟩⟩
theorem Cal.up {j k : Nat} {F : List D → Option R} (h : Cal T P w K mg base x ps j F) (hj : j ≤ k) : Cal T P w K mg base x ps k F := by
  obtain ⟨f, fd, h1, h2, h3, h4⟩ := h.ex
  exact ⟨f, fd, h1, h2, h3, h4.mono hj⟩
theorem Df.mk' {f : Addr} {h : Heap} {oc : Value} {od an : Option Addr} {osl : Array (Option Value)} {kV doc pm cdv ct : Value} (X : K.In h) (G : h.Ns mainGlobals mg) (a : PySem.W.nsIn K mainGlobals x = some (some (.ref f)))
    (l : K.lookup f = some ⟨oc, od, .func (PySem.W.fnOf x x (defArgs st) (defBody st) (defScope st) .none kV doc pm an cdv ct), osl⟩) (c : PySem.W.codeIn K cdv x = true) (kp : PySem.W.keepIn K (.ref f) = true)
    (hb : ∀ (kV doc pm : Value) (an : Option Addr) (cdv ct : Value) (us : List Value), us.length = ps.length → bindArgs (PySem.W.fnOf x x (defArgs st) (defBody st) (defScope st) .none kV doc pm an cdv ct) ⟨us, []⟩ = pure (ps.zip us)) : Df K mg x st ps :=
  ⟨f, _, PySem.W.mg_of X G a, fun_mk l c kp, (fun_mk l c kp).binds hb⟩
end
section
variable {X : Cx} {a : Expr} {es : List Expr} {pos : Pos} {gs : GA}
theorem de_fn {x : Str} {p : Pos} {ps : List Str} {k n : Nat} {F : List D → Option R} (c : Cal Tb.tb X.prog X.w X.KK X.mg X.base x ps k F) (hr : Room k X.A) (ha : DA Tb X (a :: es) gs) (hn : ps.length = n := by rfl)
    (hg : Gl X x := by rfl) (hd : (x == ("__debug__" : Str)) = false := by decide) (hs : starEach (a :: es) X.env = (false, eval a X.env) :: starEach es X.env := by rfl) (hpl : (backTo pos (starEach es X.env)).any (·.1) = false := by rfl) : DE Tb X (.Call (.Name x p) (a :: es) [] pos) (gCall n F gs) := by
  obtain ⟨f, fd, h1, h2, h3, h4⟩ := c.ex
  subst hn
  exact de_call h4 hr h1 h2 h3 ha hg hd hs hpl
end
/-- the law's promise -/
def spL (T : List Addr) (K : PySem.W.Frag) : Sp := fun vs H Q _ => (∀ P ∈ T, GxR.TabG H P) ∧ ∃ (a : Addr) (ns : List Int), vs = [.ref a] ∧ SqL K H a (ns.map V.int) ∧ ns.length ≤ 63 ∧ ∀ H', Q (.bl true) H'
theorem law_end {T : List Addr} {P : Program} {w : World} {K : PySem.W.Frag} {mg : Str → Option Value} {base : Heap} {k : Nat} {F : List D → Option R} {f : Addr} {fd : FuncData} (h : FnOk P w K mg base CX0 k f fd ["script"] (spF T (kf K w) 1 F)) (hF : ∀ ns : List Int, ns.length ≤ 63 → F [.scr ns] = some (.val (.bl true))) :
    FnOk P w K mg base CX0 k f fd ["script"] (spL T K) := by
  refine h.imp fun vs H Q E hs => ?_
  obtain ⟨ht, a, ns, rfl, hq, hl, q⟩ := hs
  refine ⟨[.scr ns], .val (.bl true), rfl, ?_, hF ns hl, ht, fun v H' φ s r f n => ?_⟩
  · unfold RpL
    refine ⟨_, [], rfl, ?_, by unfold RpL; rfl⟩
    unfold Rp
    exact ⟨a, rfl, hq⟩
  · have z := r.2.2
    unfold Rp at z
    rw [z]
    exact q H'
end DL

set_option Elab.async false
set_option linter.all false
set_option maxRecDepth 100000
set_option maxHeartbeats 4000000
/-! D12: a tuple that takes slots' own lists with it. -/
namespace DL
open PySem PySem.Spec PyProof.Rows L2
variable {Tb : Pm}
/-- arguments; the slots `ms` give their own things away -/
def tDAm (Tb : Pm) (K : KF) (ms : List Nat) (g : GA) : TA := fun σ H Q => ∃ (B C : Hp) (δ : DSt) (Φ : Nat → List Addr) (rs : List R), RSt Tb K B C σ H δ Φ ∧ g δ = some rs ∧
  ∀ vs H' φ, Same H H' → RRL K B C H' rs vs φ → (∀ a ∈ φ, H a = none ∨ ∃ i ∈ ms, a ∈ Φ i) → φ.Nodup → Q vs H'
structure DAm (Tb : Pm) (X : Cx) (es : List Expr) (ms : List Nat) (g : GA) : Prop where
  pa : PA X es (tDAm Tb X.KK ms g)
def gMv (i : Nat) : G := fun δ => match δ.getD i .no with
  | .own d => some (.own d)
  | s => s.rd
section
variable {X : Cx} {a : Expr} {ga : G} {es : List Expr} {gs : GA} {ms : List Nat} {pos : Pos}
theorem dam_nil : DAm Tb X [] [] gNil := ⟨pa_imp pa_nil fun σ H Q h => by
  obtain ⟨B, C, δ, Φ, r, S, e, k⟩ := h
  cases e
  exact k [] H [] (Same.refl _) ⟨rfl, rfl⟩ (fun _ z => by cases z) List.nodup_nil⟩
theorem dam_cons (ha : DE Tb X a ga) (hr : DAm Tb X es ms gs) (hs : starEach (a :: es) X.env = (false, eval a X.env) :: starEach es X.env := by rfl) : DAm Tb X (a :: es) ms (gCons ga gs) := ⟨pa_imp (pa_cons ha.pe hr.pa hs) fun σ H Q h => by
  obtain ⟨B, C, δ, Φ, r, S, e, k⟩ := h
  obtain ⟨x, xs, e1, e2, e3⟩ := bind2_some e
  cases e3
  refine ⟨B, C, δ, Φ, x, S, e1, fun v H1 φ1 s1 q1 f1 n1 => ⟨B, C, δ, Φ, xs, S.same s1, e2, fun vs H2 φ2 s2 q2 f2 n2 => ?_⟩⟩
  refine k (v :: vs) H2 (φ1 ++ φ2) (s1.trans s2) ⟨v, vs, φ1, φ2, rfl, q1.same s2, q2, rfl⟩ (fun a ha => ?_) ?_
  · rcases List.mem_append.mp ha with ha | ha
    · exact .inl (f1 a ha)
    · rcases f2 a ha with z | z
      · exact .inl (s1.free z)
      · exact .inr z
  · refine List.nodup_append.mpr ⟨n1, n2, fun a ha b hb z => ?_⟩
    subst z
    rcases f2 a hb with z | ⟨i, _, z⟩
    · obtain ⟨ys, e5, mt_e5⟩ := q1.trk a ha
      rw [z] at e5
      cases e5
    · obtain ⟨ys, e5, mt_e5⟩ := S.trk z
      rw [f1 a ha] at e5
      cases e5⟩
theorem dam_mv (i : Nat) {x : Str} {p : Pos} (hm : i ∉ ms) (hr : DAm Tb X es ms gs) (hN : X.N[i]? = some x := by rfl) (hv : Vis X.env.scope x := by first | exact Or.inl rfl | exact Or.inr (Or.inl rfl) | exact Or.inr (Or.inr rfl)) (hd : (x == ("__debug__" : Str)) = false := by decide)
    (hcd : (x == ("__classdict__" : Str)) = false := by decide) (hs : starEach (.Name x p :: es) X.env = (false, eval (.Name x p) X.env) :: starEach es X.env := by rfl) : DAm Tb X (.Name x p :: es) (i :: ms) (gCons (gMv i) gs) := ⟨pa_imp (pa_cons (pe_var hN hv hd hcd) hr.pa hs) fun σ H Q h => by
  obtain ⟨B, C, δ, Φ, r, S, e, k⟩ := h
  obtain ⟨x, xs, e1, e2, e3⟩ := bind2_some e
  cases e3
  have gen : ∀ v φ1, σ[i]? = some (some v) → RR X.KK B C H x v φ1 → (∀ a ∈ φ1, a ∈ Φ i) → φ1.Nodup → tVar i σ H fun v' H1 => tDAm Tb X.KK ms gs σ H1 fun vs H2 => Q (v' :: vs) H2 := fun v φ1 hv q1 f1 n1 => by
    refine ⟨v, hv, B, C, δ, Φ, xs, S, e2, fun vs H2 φ2 s2 q2 f2 n2 => ?_⟩
    refine k (v :: vs) H2 (φ1 ++ φ2) s2 ⟨v, vs, φ1, φ2, rfl, q1.same s2, q2, rfl⟩ (fun a ha => ?_) ?_
    · rcases List.mem_append.mp ha with ha | ha
      · exact .inr ⟨i, List.mem_cons_self, f1 a ha⟩
      · rcases f2 a ha with z | ⟨j, hj, z⟩
        · exact .inl z
        · exact .inr ⟨j, List.mem_cons_of_mem _ hj, z⟩
    · refine List.nodup_append.mpr ⟨n1, n2, fun a ha b hb z => ?_⟩
      subst z
      rcases f2 a hb with z | ⟨j, hj, z⟩
      · obtain ⟨ys, e5, mt_e5⟩ := S.trk (f1 a ha)
        rw [z] at e5
        cases e5
      · exact hm (S.dj i j a (f1 a ha) z ▸ hj)
  have rdc : ∀ r, (δ.getD i .no).rd = some r → x = r → tVar i σ H fun v' H1 => tDAm Tb X.KK ms gs σ H1 fun vs H2 => Q (v' :: vs) H2 := fun r h1 h2 => by
    subst h2
    obtain ⟨v, h1, h2⟩ := S.rd h1
    exact gen v [] h1 h2 (fun _ z => by cases z) List.nodup_nil
  have q := S.sl i
  unfold gMv at e1
  cases z : δ.getD i .no with
  | own d =>
    rw [z] at e1 q
    cases e1
    obtain ⟨y, e1, ow⟩ := q
    refine gen y (Φ i) ?_ ow (fun _ h => h) (S.nd i)
    rw [List.getD_eq_getElem?_getD] at e1
    cases w : σ[i]? with
    | none => rw [w] at e1; cases e1
    | some y2 => rw [w] at e1; rw [show y2 = some y from e1]
  | no => rw [z] at e1; cases e1
  | exc c => rw [z] at e1; cases e1
  | val d => rw [z] at e1; exact rdc _ (by rw [z]; rfl) (Option.some.inj e1).symm
  | par d => rw [z] at e1; exact rdc _ (by rw [z]; rfl) (Option.some.inj e1).symm
  | fr d => rw [z] at e1; exact rdc _ (by rw [z]; rfl) (Option.some.inj e1).symm
  | bor d => rw [z] at e1; exact rdc _ (by rw [z]; rfl) (Option.some.inj e1).symm
  | lck d => rw [z] at e1; exact rdc _ (by rw [z]; rfl) (Option.some.inj e1).symm⟩
/-- return of such a tuple -/
theorem ds_retMv {x1} {p : Pos} (h : DAm Tb X es ms gs) : DS Tb X (.Return (some (.Tuple es x1 p)) pos) (gRet (gTup gs)) := ⟨ps_imp (ps_ret (pe_tup h.pa)) fun En σ H h => by
  obtain ⟨B, C, δ, Φ, o, S, e, k⟩ := h
  obtain ⟨r, e0, rfl⟩ := map_some e
  obtain ⟨rs, e1, e2⟩ := bind1_some e0
  refine ⟨B, C, δ, Φ, rs, S, e1, fun vs H1 φ s q f n => ?_⟩
  have ch := S.ch.trans s
  have rp := q.rp S.bc ch
  have fc : ∀ a ∈ φ, C a = none := fun a ha => by
    rcases f a ha with z | ⟨i, _, z⟩
    · exact S.ch.free z
    · exact S.fr i a z
  unfold mkTup at e2
  split at e2
  · rename_i hl
    refine ⟨by rw [q.length]; exact hl, fun p hp => ?_⟩
    have s' := ch.trans (same_upd (o := .tup vs) hp)
    have rp' : Rp X.KK (upd H1 p (.tup vs)) (.tup (rs.map R.d)) (.ref p) := by
      unfold Rp
      exact ⟨p, vs, rfl, SqT.of upd_same, rp.mono (same_upd hp)⟩
    split at e2
    · rename_i hv
      cases e2
      obtain ⟨h1, h2⟩ := RRL.val hv q
      exact k _ _ [] s' ⟨rfl, by unfold pu; exact h2, rp'⟩ (fun _ z => by cases z) List.nodup_nil
    · split at e2
      · rename_i ho
        cases e2
        refine k _ _ φ s' ?_ fc n
        show Ow X.KK _ (.tup _) _ _
        unfold Ow
        exact ⟨p, vs, rfl, SqT.of upd_same, OwL.same (same_upd hp) (RRL.own ho q)⟩
      · cases e2
        exact k _ _ [] s' ⟨rfl, rp'⟩ (fun _ z => by cases z) List.nodup_nil
  · cases e2⟩
end
end DL

set_option Elab.async false
set_option linter.all false
set_option maxRecDepth 100000
set_option maxHeartbeats 4000000
/-! D13: list(range(n)), sorted of ints. -/
namespace DL
open PySem PySem.Spec PyProof.Rows L2
variable {Tb : Pm}
section
variable {X : Cx} {a : Expr} {ga : G} {pos : Pos}
def rgD (n : Int) : List D := (List.range n.toNat).map fun i : Nat => D.int i
def gListRg (g : G) : G := fun δ => (g δ).bind fun r => match r.d with
  | .int n => if 0 ≤ n ∧ n ≤ 1000000 then some (.own (.lst (rgD n))) else none
  | _ => none
theorem rgV_eq (n : Int) : rgV 0 n = ((List.range n.toNat).map fun i : Nat => (i : Int)).map V.int := by
  unfold rgV
  rw [List.map_map, Int.sub_zero]
  refine List.map_congr_left fun i _ => ?_
  simp
theorem rgD_eq (n : Int) : rgD n = ((List.range n.toNat).map fun i : Nat => (i : Int)).map D.int := by
  unfold rgD
  rw [List.map_map]; rfl
theorem de_listRg {p p2 pos2 : Pos} (hc : X.calm = true) (hm : X.mg "list" = none) (hm2 : X.mg "range" = none) (ha : DE Tb X a ga) (hg : Gl X "list" := by rfl) (hg2 : Gl X "range" := by rfl) (na : starEach [a] X.env = (false, eval a X.env) :: starEach [] X.env := by rfl)
    (na2 : starEach [.Call (.Name "range" p2) [a] [] pos2] X.env = (false, eval (.Call (.Name "range" p2) [a] [] pos2) X.env) :: starEach [] X.env := by rfl) : DE Tb X (.Call (.Name "list" p) [.Call (.Name "range" p2) [a] [] pos2] [] pos) (gListRg ga) := by
  refine ⟨pe_imp (pe_listRg hc hg hm (prg_1 hg2 hm2 ha.pe na) na2) fun σ H Q h => ?_⟩
  obtain ⟨B, C, δ, Φ, r, S, e, k⟩ := h
  obtain ⟨x, e1, e2⟩ := bind1_some e
  refine ⟨B, C, δ, Φ, x, S, e1, fun v H' φ s q _ _ => ?_⟩
  have q := q.rp S.bc (S.ch.trans s)
  split at e2
  · rename_i n hx
    rw [hx] at q
    split at e2
    · rename_i hn
      cases e2
      refine ⟨n, rp_int q, RgOk.of_le (by omega) (by omega) (by omega) hn.1, fun l hl => ?_⟩
      refine k _ _ [l] (s.trans (same_upd hl)) ?_ (fun b hb => by rw [List.mem_singleton.mp hb]; exact s.free hl) (by simp)
      rw [rgV_eq, rgD_eq]
      exact ow_new hl (rpL_ints _) (puL_ints _)
    · cases e2
  · cases e2
theorem intL_eq : ∀ {ds : List D} {ns : List Int}, intL ds = some ns → ds = ns.map D.int
  | [], _, h => by cases h; rfl
  | .int i :: ds, _, h => by
    unfold intL at h
    cases q : intL ds with
    | none => rw [q] at h; cases h
    | some ms =>
      rw [q] at h; cases h
      rw [intL_eq q]; rfl
  | .bl i :: _, _, h => by cases h
  | .non :: _, _, h => by cases h
  | .str _ :: _, _, h => by cases h
  | .tup _ :: _, _, h => by cases h
  | .lst _ :: _, _, h => by cases h
  | .scr _ :: _, _, h => by cases h
theorem intL_map : ∀ ns : List Int, intL (ns.map D.int) = some ns
  | [] => rfl
  | i :: ns => by show (intL (ns.map D.int)).map (i :: ·) = _; rw [intL_map ns]; rfl
theorem rpL_ints_eq {K : KF} {H : Hp} : ∀ {ns : List Int} {xs : List V}, RpL K H (ns.map D.int) xs → xs = ns.map V.int
  | [], _, h => by unfold RpL at h; exact h
  | n :: ns, _, h => by
    rw [List.map_cons] at h
    unfold RpL at h
    obtain ⟨x, ys, rfl, q, r⟩ := h
    rw [rp_int q, rpL_ints_eq r]; rfl
/-- in rising order -/
def sortI (ns : List Int) : List Int := ns.mergeSort fun a b => decide (a ≤ b)
theorem sortI_perm (ns : List Int) : (sortI ns).Perm ns := List.mergeSort_perm ns _
theorem sortI_rise (ns : List Int) : (sortI ns).Pairwise (· ≤ ·) := by
  have := List.pairwise_mergeSort (le := fun a b : Int => decide (a ≤ b)) (fun a b c h1 h2 => by simp at *; omega) (fun a b => by simp; omega) ns
  exact this.imp fun h => by simpa using h
theorem sortI_uniq {ns ms : List Int} (h : ms.Perm ns) (k : ms.Pairwise (· ≤ ·)) : ms = sortI ns :=
  List.Perm.eq_of_pairwise (fun a b _ _ h1 h2 => Int.le_antisymm h1 h2) k (sortI_rise ns) (h.trans (sortI_perm ns).symm)
def oSorted : List R → Option R := one fun r => match r.d with
  | .lst ds => (intL ds).map fun ns => .own (.lst ((sortI ns).map .int))
  | .scr ns => some (.own (.lst ((sortI ns).map .int)))
  | _ => none
theorem cd_sorted : CallD X (.builtin "sorted") oSorted := by
  refine ⟨_, cr_sortedI, fun B C H vs φ Q rs c bc ch q n e k => ?_⟩
  obtain ⟨r, er, e1⟩ := one_some e
  clear e
  subst er
  obtain ⟨v, ev, q1⟩ := q.one
  clear q
  subst ev
  have e := e1
  have q := q1
  clear e1 q1
  have q := q.rp bc ch
  split at e
  · rename_i ds hx
    rw [hx] at q
    obtain ⟨ns, e1, rfl⟩ := map_some e
    rw [intL_eq e1] at q
    unfold Rp at q
    obtain ⟨a, xs, rfl, ha, r⟩ := q
    rw [rpL_ints_eq r] at ha
    refine ⟨a, ns, rfl, SqL.of ha, fun ns' p h1 h2 hp => ?_⟩
    rw [sortI_uniq h1 h2]
    exact k _ _ [p] (same_upd hp) (ow_new hp (rpL_ints _) (puL_ints _)) (fun b hb => by rw [List.mem_singleton.mp hb]; exact .inl hp) (by simp)
  · rename_i ns hx
    rw [hx] at q
    cases e
    unfold Rp at q
    obtain ⟨a, rfl, ha⟩ := q
    refine ⟨a, ns, rfl, ha, fun ns' p h1 h2 hp => ?_⟩
    rw [sortI_uniq h1 h2]
    exact k _ _ [p] (same_upd hp) (ow_new hp (rpL_ints _) (puL_ints _)) (fun b hb => by rw [List.mem_singleton.mp hb]; exact .inl hp) (by simp)
  · cases e
end
end DL

set_option Elab.async false
set_option linter.all false
set_option maxRecDepth 100000
set_option maxHeartbeats 4000000
/-! D14: all, any of a generator expression; defs whose code has a table. -/
namespace DL
open PySem PySem.Spec PyProof.Rows L2
variable {Tb : Pm}
theorem same_tabbed {P : Addr} {H1 H2 : Hp} (h1 : GxR.TabG H1 P) (h : GxR.Tabbed P H1 H2) : Same H1 H2 := by
  obtain ⟨hg, ho⟩ := h
  refine ⟨fun b o e n => ?_, fun b ps e => ?_⟩
  · have nb : b ≠ P := fun z => by
      obtain ⟨ps, e1, _⟩ := h1
      rw [z, e1] at e
      exact n ps (Option.some.inj e).symm
    rw [ho b nb]; exact e
  · by_cases hb : b = P
    · subst hb
      obtain ⟨ps', e1, t⟩ := hg
      exact ⟨ps', e1, fun _ => t⟩
    · exact ⟨ps, by rw [ho b hb]; exact e, id⟩
/-- the walk of all (stop = false), of any (stop = true) -/
def genL (stop : Bool) (kd : Kd) (gt : GTg) (ge : G) : List SI → DSt → Option Bool
  | [], _ => some (!stop)
  | it :: its, δ => (gt (kd.itm it) δ).bind fun δ1 => (ge δ1).bind fun r => (asB r).bind fun b => if b = stop then some stop else genL stop kd gt ge its δ1
def gGen (stop : Bool) (vs : List Nat) (gi : GI) (gt : GTg) (ge : G) : G := fun δ => (gi δ).bind fun p => (genL stop p.1 gt ge p.2 (wipeD δ vs)).map fun b => .val (.bl b)
theorem gen_use {K : KF} {P : Addr} {stop : Bool} {vs ts : List Nat} {gi : GI} {gt : GTg} {ge : G} {σ : L2.St} {H : Hp} {Q : VK} (hP : P ∈ Tb.tb) (h : tD Tb K (gGen stop vs gi gt ge) σ H Q) :
    GG.tGen P stop (tDI Tb K gi) (tDG Tb K ts gt) (tD Tb K ge) vs σ H Q := by
  obtain ⟨B, C, δ, Φ, c, S, e, k⟩ := h
  obtain ⟨⟨kd, its⟩, e1, e2⟩ := bind1_some e
  obtain ⟨b0, e3, e0⟩ := map_some e2
  subst e0
  refine ⟨B, C, δ, Φ, kd, its, S, e1, fun J H1 T s tm wk t1 tB tC _ => ?_⟩
  have g1 := (S.ch.trans s).tab (S.tb P hP)
  refine ⟨g1, fun H2 hT => ?_⟩
  have s2 := same_tabbed g1 hT
  have S2 := S.same (s.trans s2)
  obtain ⟨Φw, Sw⟩ := S2.wipe vs
  refine ⟨its.length, fun i σ' H' => i ≤ its.length ∧ ∃ δ' Φ', RSt Tb K B C σ' H' δ' Φ' ∧ Same H2 H' ∧ genL stop kd gt ge (its.drop i) δ' = some b0, ⟨Nat.zero_le _, _, Φw, Sw, Same.refl _, by simpa using e3⟩, ?_⟩
  rintro i σ' H' ⟨hi, δ', Φ', S', sH, e4⟩
  have s12 := s2.trans sH
  have tH := tm _ _ t1 s12
  by_cases hlt : i < its.length
  · obtain ⟨it, hit⟩ : ∃ it, its[i]? = some it := ⟨its[i], by simp [hlt]⟩
    have hdrop : its.drop i = it :: its.drop (i + 1) := by
      rw [List.drop_eq_getElem_cons hlt]
      congr 1
      have := List.getElem?_eq_getElem hlt
      rw [hit] at this
      exact (Option.some.inj this).symm
    rw [hdrop] at e4
    obtain ⟨δ1, e5, e6⟩ := bind1_some e4
    obtain ⟨r, e7, e8⟩ := bind1_some e6
    obtain ⟨b, e9, e10⟩ := bind1_some e8
    refine .inr ⟨hlt, ((wk H' tH i).1 it hit).1, fun y H3 hy => ?_⟩
    obtain ⟨ss, ok⟩ := itm_ok (B := B) (C := C) (H1 := H1) wk (S'.bc.trans S'.ch) S'.ch s12 tH t1 tB tC hit hy
    refine ⟨B, C, δ', Φ', kd.itm it, [], δ1, S'.same ss, ok, List.nodup_nil, fun _ z => (by cases z), fun _ _ z => (by cases z), e5, fun σ2 ⟨Φ2, S3, _, _, l2, o2⟩ => ?_⟩
    refine ⟨B, C, δ1, Φ2, r, S3, e7, fun v H5 φ s5 q f n => ?_⟩
    have er := asB_some e9
    subst er
    have q2 := q.2.2
    unfold Rp at q2
    have sF := (sH.trans ss).trans s5
    refine ⟨b, q2, fun z => ?_, fun z => ?_⟩
    · rw [if_pos z] at e10
      have eb : b0 = stop := (Option.some.inj e10).symm
      rw [← eb]
      exact k _ H5 [] ((s.trans s2).trans sF) rr_bl (fun _ z => by cases z) List.nodup_nil
    · rw [if_neg (by rw [z]; cases stop <;> decide)] at e10
      exact ⟨hlt, δ1, Φ2, S3.same s5, sF, e10⟩
  · have hii : i = its.length := by omega
    refine .inl ⟨(wk H' tH i).2 hii, ?_⟩
    rw [hii, List.drop_length] at e4
    have eb : b0 = !stop := (Option.some.inj e4).symm
    rw [← eb]
    exact k _ H' [] ((s.trans s2).trans sH) rr_bl (fun _ z => by cases z) List.nodup_nil
section
variable {X : Cx} {elt iter : Expr} {x : Str} {p px pos gpos : Pos} {scope : Scope} {own : List (Str × Nat)} {vs ts : List Nat} {gi : GI} {gt : GTg} {ge : G} {c P : Addr} {k : Nat}
theorem de_allG (own : List (Str × Nat)) (hr : Room (k + 1) X.A) (TB : GxR.TabB X.base X.mg c P) (hP : P ∈ Tb.tb) (hN : X.N.Nodup) (hm : X.mg "all" = none) (hi : DI Tb X (.Name x px) iter gi) (ok : BlkOk X.N X.env.scope scope own)
    (hcell : ∀ y ∈ scope.names, y.2 ≠ .cell)
    (hg : ∀ (s : Shared) (H : Hp) (cl : List (Str × Addr)) (C : Addr) (code : Value) (A : Around) (fp : List Addr), DG Tb (GG.gx X s H (genEnv scope cl C code builtinsNs X.env) A fp) (.Name x px) ts gt)
    (he : ∀ (s : Shared) (H : Hp) (cl : List (Str × Addr)) (C : Addr) (code : Value) (A : Around) (fp : List Addr), Room k A → DE Tb (GG.gx X s H (genEnv scope cl C code builtinsNs X.env) A fp) elt ge)
    (hc : X.calm = true := by rfl) (hcode : X.env.code = .ref c := by rfl) (hvs : own.map (·.2) = vs := by rfl) (hdot : scope.names.lookup (".0" : Str) = some NameKind.local := by rfl) (hco : scope.isCoroutine = false := by rfl) (hgl : Gl X "all" := by rfl)
    (hb : bootBuiltins "all" = some (.builtin "all") := by exact bt_all) (hs : ∀ v, genFold iter X.env v = pure v := by intro _; rfl)
    (hst : starEach [.GeneratorExp elt [⟨.Name x px, iter, [], 0⟩] scope gpos] X.env = (false, eval (.GeneratorExp elt [⟨.Name x px, iter, [], 0⟩] scope gpos) X.env) :: starEach [] X.env := by rfl) :
    DE Tb X (.Call (.Name "all" p) [.GeneratorExp elt [⟨.Name x px, iter, [], 0⟩] scope gpos] [] pos) (gGen false vs gi gt ge) := by
  subst hvs
  exact ⟨pe_imp (GG.pe_allG hr hc TB hcode hN ok hcell hdot hco hgl hm hb hi.pi (fun s H cl C code A fp => (hg s H cl C code A fp).pg) (fun s H cl C code A fp h => (he s H cl C code A fp h).pe) hs hst) fun σ H Q h => gen_use hP h⟩
theorem de_anyG (own : List (Str × Nat)) (hr : Room (k + 1) X.A) (TB : GxR.TabB X.base X.mg c P) (hP : P ∈ Tb.tb) (hN : X.N.Nodup) (hm : X.mg "any" = none) (hi : DI Tb X (.Name x px) iter gi) (ok : BlkOk X.N X.env.scope scope own)
    (hcell : ∀ y ∈ scope.names, y.2 ≠ .cell)
    (hg : ∀ (s : Shared) (H : Hp) (cl : List (Str × Addr)) (C : Addr) (code : Value) (A : Around) (fp : List Addr), DG Tb (GG.gx X s H (genEnv scope cl C code builtinsNs X.env) A fp) (.Name x px) ts gt)
    (he : ∀ (s : Shared) (H : Hp) (cl : List (Str × Addr)) (C : Addr) (code : Value) (A : Around) (fp : List Addr), Room k A → DE Tb (GG.gx X s H (genEnv scope cl C code builtinsNs X.env) A fp) elt ge)
    (hc : X.calm = true := by rfl) (hcode : X.env.code = .ref c := by rfl) (hvs : own.map (·.2) = vs := by rfl) (hdot : scope.names.lookup (".0" : Str) = some NameKind.local := by rfl) (hco : scope.isCoroutine = false := by rfl) (hgl : Gl X "any" := by rfl)
    (hb : bootBuiltins "any" = some (.builtin "any") := by exact bt_any) (hs : ∀ v, genFold iter X.env v = pure v := by intro _; rfl)
    (hst : starEach [.GeneratorExp elt [⟨.Name x px, iter, [], 0⟩] scope gpos] X.env = (false, eval (.GeneratorExp elt [⟨.Name x px, iter, [], 0⟩] scope gpos) X.env) :: starEach [] X.env := by rfl) :
    DE Tb X (.Call (.Name "any" p) [.GeneratorExp elt [⟨.Name x px, iter, [], 0⟩] scope gpos] [] pos) (gGen true vs gi gt ge) := by
  subst hvs
  exact ⟨pe_imp (GG.pe_anyG hr hc TB hcode hN ok hcell hdot hco hgl hm hb hi.pi (fun s H cl C code A fp => (hg s H cl C code A fp).pg) (fun s H cl C code A fp h => (he s H cl C code A fp h).pe) hs hst) fun σ H Q h => gen_use hP h⟩
end
/-- a statement that is never reached -/
def gDead : GS := fun _ => none
theorem ds_dead {X : Cx} {st : Stmt} : DS Tb X st gDead := ⟨⟨fun pins s σ H En I h => by
  obtain ⟨B, C, δ, Φ, o, S, e, k⟩ := h
  cases e⟩⟩
/-- a def that stands at f, its code object at c -/
def FunT (K : PySem.W.Frag) (x qual : Str) (st : Stmt) (f : Addr) (fd : FuncData) (c : Addr) : Prop :=
  ∃ (oc : Value) (od : Option Addr) (kV doc pm : Value) (an : Option Addr) (ct : Value) (osl : Array (Option Value)), fd = PySem.W.fnOf x qual (defArgs st) (defBody st) (defScope st) .none kV doc pm an (.ref c) ct ∧ K.lookup f = some ⟨oc, od, .func fd, osl⟩ ∧ PySem.W.codeIn K (.ref c) qual = true
structure DfT (K : PySem.W.Frag) (mg : Str → Option Value) (x : Str) (st : Stmt) (ps : List Str) (c : Addr) : Prop where
  ex : ∃ f fd, mg x = some (.ref f) ∧ PySem.W.keepIn K (.ref f) = true ∧ FunT K x x st f fd c ∧ Binds K fd ps []
section
variable {T : List Addr} {P : Program} {w : World} {K : PySem.W.Frag} {mg : Str → Option Value} {base : Heap} {x qual : Str} {st : Stmt} {ps N : List Str} {f c : Addr} {fd : FuncData} {k : Nat} {g : GS}
theorem fn_dT (F : FunT K x qual st f fd c) (S : FnScope N ps (defScope st))
    (hb : ∀ (A : Around) (outer : List Env) (s : Shared) (H : Hp) (E : XK), Room k (A.deeper (envOfC qual (defScope st) s.heap.objs.size f (.ref c))) → DSs (Pm.no T mg) (cxOf CX0 P w K mg base N qual (defScope st) f (.ref c) A outer s H E).nox (defBody st) g) :
    FnOk P w K mg base CX0 (k + 1) f fd ps (spF T (kf K w) ps.length (runF N.length g)) := by
  obtain ⟨oc, od, kV, doc, pm, an, ct, osl, efd, lk, hcd⟩ := F
  subst efd
  refine fn_of lk hcd S (fun vs H Q E h => ?_) fun A outer s H vs Q E hr h => ⟨_, ((hb A outer s H E hr).pss).nox, ?_⟩
  · obtain ⟨ds, r, h1, h2, _⟩ := h
    rw [h2.length, h1]
  · obtain ⟨ds, r, h1, h2, h3, ht, h4⟩ := h
    obtain ⟨o, e1, e2⟩ := bind1_some h3
    refine ⟨H, H, startD N.length ds, fun _ => [], o, rst_start h2 ht, e1, ?_⟩
    cases o with
    | nx δ' =>
      cases e2
      exact fun σ' H' Φ' S' _ => h4 .non H' [] S'.ch rr_non (fun _ z => by cases z) List.nodup_nil
    | rt r0 =>
      refine fun v H' φ s' q f n => h4 v H' φ s' ?_ f n
      cases r0 with
      | val d => cases e2; exact q
      | own d => cases e2; exact q
      | par d => cases e2; exact q
      | fr d => cases e2; exact ⟨q.1, Rp.mono s' _ _ q.2⟩
      | bor d => cases e2; exact q
    | bk δ' => cases e2
    | ct δ' => cases e2
    | ex cc δ' => cases e2
theorem DfT.cal (h : DfT K mg x st ps c) (S : FnScope N ps (defScope st))
    (hb : ∀ (f : Addr) (A : Around) (outer : List Env) (s : Shared) (H : Hp) (E : XK), Room k (A.deeper (envOfC x (defScope st) s.heap.objs.size f (.ref c))) → DSs (Pm.no T mg) (cxOf CX0 P w K mg base N x (defScope st) f (.ref c) A outer s H E).nox (defBody st) g) :
    Cal T P w K mg base x ps (k + 1) (runF N.length g) := by
  obtain ⟨f, fd, h1, hk, h2, h3⟩ := h.ex
  exact ⟨f, fd, h1, hk, h3, fn_dT h2 S (hb f)⟩
theorem DfT.mk' {f : Addr} {h : Heap} {oc : Value} {od an : Option Addr} {osl : Array (Option Value)} {kV doc pm ct : Value} (X : K.In h) (G : h.Ns mainGlobals mg) (a : PySem.W.nsIn K mainGlobals x = some (some (.ref f)))
    (l : K.lookup f = some ⟨oc, od, .func (PySem.W.fnOf x x (defArgs st) (defBody st) (defScope st) .none kV doc pm an (.ref c) ct), osl⟩) (cd : PySem.W.codeIn K (.ref c) x = true) (kp : PySem.W.keepIn K (.ref f) = true)
    (hb : ∀ (kV doc pm : Value) (an : Option Addr) (cdv ct : Value) (us : List Value), us.length = ps.length → bindArgs (PySem.W.fnOf x x (defArgs st) (defBody st) (defScope st) .none kV doc pm an cdv ct) ⟨us, []⟩ = pure (ps.zip us)) : DfT K mg x st ps c :=
  ⟨f, _, PySem.W.mg_of X G a, kp, ⟨_, _, _, _, _, _, _, _, rfl, l, cd⟩, (fun_mk l cd kp).binds hb⟩
end
end DL

set_option Elab.async false
set_option linter.all false
set_option maxRecDepth 100000
set_option maxHeartbeats 4000000
/-! D15: raise, defs that raise, try. -/
namespace DL
open PySem PySem.Spec PyProof.Rows L2
variable {Tb : Pm}
/-- what a def comes to that may raise: its value, or an exception of the class of that name -/
inductive RX where | ok (r : R) | ex (c : Str)
abbrev GX := DSt → Option RX
def RX.back : RX → RX
  | .ok r => .ok r.back
  | .ex c => .ex c
def tDX (Tb : Pm) (K : KF) (g : GX) : TE := fun σ H Q => ∃ (B C : Hp) (δ : DSt) (Φ : Nat → List Addr) (x : RX), RSt Tb K B C σ H δ Φ ∧ g δ = some x ∧ match x with
  | .ok r => ∀ v H' φ, Same H H' → RR K B C H' r v φ → (∀ a ∈ φ, H a = none) → φ.Nodup → Q v H'
  | .ex c => ∀ cls H', Tb.mg c = some cls → Same H H' → Tb.W cls none σ H'
structure DEX (Tb : Pm) (X : Cx) (e : Expr) (g : GX) : Prop where
  pe : PE X e (tDX Tb X.KK g)
/-- the promise of a def that may raise -/
def spFX (T : List Addr) (mg : Str → Option Value) (K : KF) (n : Nat) (F : List D → Option RX) : Sp := fun vs H Q E => ∃ ds x, ds.length = n ∧ RpL K H ds vs ∧ F ds = some x ∧ (∀ P ∈ T, GxR.TabG H P) ∧ match x with
  | .ok r => ∀ v H' φ, Same H H' → RR K H H H' r v φ → (∀ a ∈ φ, H a = none) → φ.Nodup → Q v H'
  | .ex c => ∀ cls H', mg c = some cls → Same H H' → E cls none H'
def runFX (n : Nat) (g : GS) (ds : List D) : Option RX := (g (startD n ds)).bind fun o => match o with
  | .nx _ => some (.ok (.val .non))
  | .rt r => r.ret.map .ok
  | .ex c _ => some (.ex c)
  | _ => none
structure CalX (T : List Addr) (P : Program) (w : World) (K : PySem.W.Frag) (mg : Str → Option Value) (base : Heap) (x : Str) (ps : List Str) (k : Nat) (F : List D → Option RX) : Prop where
  ex : ∃ f fd, mg x = some (.ref f) ∧ PySem.W.keepIn K (.ref f) = true ∧ Binds K fd ps [] ∧ FnOk P w K mg base (L2.CX P w) k f fd ps (spFX T mg (kf K w) ps.length F)
section
variable {T : List Addr} {P : Program} {w : World} {K : PySem.W.Frag} {mg : Str → Option Value} {base : Heap} {x qual : Str} {st : Stmt} {ps N : List Str} {f c : Addr} {fd : FuncData} {k : Nat} {g : GS}
/-- the context of a def that may raise -/
@[reducible] def Pm.out (T : List Addr) (mg : Str → Option Value) (E : XK) : Pm := ⟨T, 0, mg, fun cls d _ H => E cls d H, []⟩
theorem fx_end {H : Hp} {ds : List D} {vs : List V} {Q : VK} {E : XK} (h : spFX T mg (kf K w) ps.length (runFX N.length g) vs H Q E) : tDS (Pm.out T mg E) (kf K w) g { nx := fun _ H' => Q .non H', rt := Q } (L2.start N vs) H := by
  obtain ⟨ds, r, h1, h2, h3, ht, h4⟩ := h
  obtain ⟨o, e1, e2⟩ := bind1_some h3
  refine ⟨H, H, startD N.length ds, fun _ => [], o, rst_start h2 ht, e1, ?_⟩
  cases o with
  | nx δ' =>
    cases e2
    exact fun σ' H' Φ' S' _ => h4 .non H' [] S'.ch rr_non (fun _ z => by cases z) List.nodup_nil
  | rt r0 =>
    obtain ⟨r1, e3, e4⟩ := map_some e2
    subst e4
    refine fun v H' φ s' q f n => h4 v H' φ s' ?_ f n
    cases r0 with
    | val d => cases e3; exact q
    | own d => cases e3; exact q
    | par d => cases e3; exact q
    | fr d => cases e3; exact ⟨q.1, Rp.mono s' _ _ q.2⟩
    | bor d => cases e3; exact q
  | bk δ' => cases e2
  | ct δ' => cases e2
  | ex cc δ' =>
    cases e2
    exact fun cls σ' H' Φ' m S' _ => h4 cls H' m S'.ch
theorem Df.calX (h : Df K mg x st ps) (S : FnScope N ps (defScope st))
    (hb : ∀ (f : Addr) (cdv : Value) (A : Around) (outer : List Env) (s : Shared) (H : Hp) (E : XK), Room k (A.deeper (envOfC x (defScope st) s.heap.objs.size f cdv)) → DSs (Pm.out T mg E) (cxOf (L2.CX P w) P w K mg base N x (defScope st) f cdv A outer s H E) (defBody st) g) :
    CalX T P w K mg base x ps (k + 1) (runFX N.length g) := by
  obtain ⟨f, fd, h1, h2, h3⟩ := h.ex
  refine ⟨f, fd, h1, h2.kp, h3, h2.okX S (fun vs H Q E h => ?_) fun cdv A outer s H vs Q E hr h => ⟨_, (hb f cdv A outer s H E hr).pss, fx_end (ds := []) h⟩⟩
  obtain ⟨ds, r, h1, h2, _⟩ := h
  rw [h2.length, h1]
theorem DfT.calX (h : DfT K mg x st ps c) (S : FnScope N ps (defScope st))
    (hb : ∀ (f : Addr) (A : Around) (outer : List Env) (s : Shared) (H : Hp) (E : XK), Room k (A.deeper (envOfC x (defScope st) s.heap.objs.size f (.ref c))) → DSs (Pm.out T mg E) (cxOf (L2.CX P w) P w K mg base N x (defScope st) f (.ref c) A outer s H E) (defBody st) g) :
    CalX T P w K mg base x ps (k + 1) (runFX N.length g) := by
  obtain ⟨f, fd, h1, hk, ⟨oc, od, kV, doc, pm, an, ct, osl, efd, lk, hcd⟩, h3⟩ := h.ex
  subst efd
  refine ⟨f, _, h1, hk, h3, fn_of lk hcd S (fun vs H Q E h => ?_) fun A outer s H vs Q E hr h => ⟨_, (hb f A outer s H E hr).pss, fx_end (ds := []) h⟩⟩
  obtain ⟨ds, r, h1, h2, _⟩ := h
  rw [h2.length, h1]
end
section
variable {X : Cx} {a e : Expr} {es : List Expr} {pos : Pos} {gs : GA} {g : GX}
def gCallX (n : Nat) (F : List D → Option RX) (gs : GA) : GX := fun δ => (gs δ).bind fun rs => if rs.length = n then (F (rs.map R.d)).map RX.back else none
theorem de_fnX {x : Str} {p : Pos} {ps : List Str} {k n : Nat} {F : List D → Option RX} (c : CalX Tb.tb X.prog X.w X.KK X.mg X.base x ps k F) (hr : Room k X.A) (tk : Takes X Tb.W) (hmg : Tb.mg = X.mg) (ha : DA Tb X (a :: es) gs) (hn : ps.length = n := by rfl)
    (hg : Gl X x := by rfl) (hd : (x == ("__debug__" : Str)) = false := by decide) (hs : starEach (a :: es) X.env = (false, eval a X.env) :: starEach es X.env := by rfl) (hpl : (backTo pos (starEach es X.env)).any (·.1) = false := by rfl) : DEX Tb X (.Call (.Name x p) (a :: es) [] pos) (gCallX n F gs) := by
  obtain ⟨f, fd, h1, h2, h3, h4⟩ := c.ex
  subst hn
  refine ⟨pe_imp (pe_callS h4 hr hg h1 h2 h3 (fun σ => passAt tk σ) ha.pa hd hs hpl) fun σ H Q h => ?_⟩
  obtain ⟨B, C, δ, Φ, c, S, e, k'⟩ := h
  obtain ⟨rs, e1, e2⟩ := bind1_some e
  split at e2
  · rename_i hn
    obtain ⟨x, e3, e4⟩ := map_some e2
    refine ⟨B, C, δ, Φ, rs, S, e1, fun vs H1 φ s q f n => ?_⟩
    refine ⟨rs.map R.d, x, by simpa using hn, q.rp S.bc (S.ch.trans s), e3, fun P hP => (S.ch.trans s).tab (S.tb P hP), ?_⟩
    subst e4
    cases x with
    | ok r =>
      refine fun v H' φ' s' q' f' n' => k' v H' φ' (s.trans s') ?_ (fun a ha => s.free (f' a ha)) n'
      cases r with
      | val d => exact q'
      | own d => exact q'
      | par d => exact ⟨q'.1, Rp.mono s' _ _ q'.2⟩
      | fr d => exact ⟨q'.1, Rp.mono s' _ _ q'.2⟩
      | bor d => exact q'
    | ex c => exact fun cls H' m s' => k' cls H' (by rw [hmg]; exact m) (s.trans s')
  · cases e2
/-- x = e, return e, e where e may raise -/
def gSetX (i : Nat) (g : GX) : GS := fun δ => (g δ).bind fun x => match x with
  | .ok r => (store i r δ).map .nx
  | .ex c => some (.ex c δ)
def gRetX (g : GX) : GS := fun δ => (g δ).map fun x => match x with
  | .ok r => .rt r
  | .ex c => .ex c δ
def gExprX (g : GX) : GS := fun δ => (g δ).map fun x => match x with
  | .ok r => .nx δ
  | .ex c => .ex c δ
theorem ds_setX (i : Nat) {x : Str} {pos' : Pos} (hN : X.N.Nodup) (he : DEX Tb X e g) (hi : X.N[i]? = some x := by rfl) (hx : Loc X.env.scope x := by first | exact Or.inl rfl | exact Or.inr rfl) (hs : swapsWith e (some (.Name x pos')) pos.line X.env = pure false := by rfl) (hf : X.fn x = true ∨ X.env.scope.names.lookup x = some .local := by first | exact .inl rfl | exact .inr rfl | assumption) (hp : i ∉ Tb.pr := by first | exact List.not_mem_nil | exact np0) :
    DS Tb X (.Assign [.Name x pos'] e pos) (gSetX i g) := ⟨ps_imp (ps_set hN hi hx he.pe hs hf) fun En σ H h => by
  obtain ⟨B, C, δ, Φ, o, S, e, k⟩ := h
  obtain ⟨r, e1, e2⟩ := bind1_some e
  refine ⟨B, C, δ, Φ, r, S, e1, ?_⟩
  cases r with
  | ok r => exact fun v H1 φ s q f n => set_end S s q f n e2 k hp
  | ex c => cases e2; exact fun cls H' m s => k cls σ H' Φ m (S.same s) Lk.refl⟩
theorem ds_retX (he : DEX Tb X e g) : DS Tb X (.Return (some e) pos) (gRetX g) := ⟨ps_imp (ps_ret he.pe) fun En σ H h => by
  obtain ⟨B, C, δ, Φ, o, S, e, k⟩ := h
  obtain ⟨r, e1, e2⟩ := map_some e
  refine ⟨B, C, δ, Φ, r, S, e1, ?_⟩
  subst e2
  cases r with
  | ok r => exact fun v H1 φ s q f n => k v H1 φ (S.ch.trans s) q (fun a ha => S.ch.free (f a ha)) n
  | ex c => exact fun cls H' m s => k cls σ H' Φ m (S.same s) Lk.refl⟩
theorem ds_exprX (he : DEX Tb X e g) (hs : swapsWith e none pos.line X.env = pure false := by rfl) : DS Tb X (.Expr e pos) (gExprX g) := ⟨ps_imp (ps_expr he.pe hs) fun En σ H h => by
  obtain ⟨B, C, δ, Φ, o, S, e, k⟩ := h
  obtain ⟨r, e1, e2⟩ := map_some e
  refine ⟨B, C, δ, Φ, r, S, e1, ?_⟩
  subst e2
  cases r with
  | ok r => exact fun v H1 φ s q f n => k σ H1 Φ (S.same s) Lk.refl
  | ex c => exact fun cls H' m s => k cls σ H' Φ m (S.same s) Lk.refl⟩
abbrev VT : List Value := PySem.HandSPX.veTail
/-- what the written part says of an own exception's class without __init__ -/
structure ExF (K : PySem.W.Frag) (mg : Str → Option Value) (x : Str) (C : Addr) : Prop where
  g : mg x = some (.ref C)
  ex : PySem.W.excIn K C VT "ValueError.__new__" = true
  kp : PySem.W.keepIn K (.ref C) = true
  sb : PySem.W.subIn K (.ref C) (.type "BaseException") = some true
  ty : PySem.W.typeIn K (.ref C) = some (.type "type")
  se : PySem.W.exmOne K (.ref C) (.ref C) = some true
/-- raise X('..') -/
def gRaise (c : Str) : GS := fun δ => some (.ex c δ)
theorem ds_raise {C : Addr} {x m : Str} {j : Nat} {p p2 pos2 : Pos} (F : ExF X.KK X.mg x C) (tk : Takes X Tb.W) (hmg : Tb.mg = X.mg) (hc : X.calm = true := by rfl) (hg : Gl X x := by rfl) (hdb : (x == ("__debug__" : Str)) = false := by decide) :
    DS Tb X (.Raise (some (.Call (.Name x p) [.Constant (.str m) j p2] [] pos)) none pos2) (gRaise x) := ⟨ps_imp (ps_raise hc tk (pmk_own PySem.F.excBase_ValueError F.ex F.g F.kp (raises_own F.sb F.ty) hg hdb)) fun En σ H h => by
  obtain ⟨B, C, δ, Φ, o, S, e, k⟩ := h
  cases e
  exact k _ σ H Φ (by rw [hmg]; exact F.g) S Lk.refl⟩
end

/-! ### try -/
def noExc (δ : DSt) : Bool := δ.all fun s => match s with
  | .exc _ => false
  | _ => true
theorem noExc_get {δ : DSt} (h : noExc δ = true) (i : Nat) : ∀ c, δ.getD i .no ≠ .exc c := by
  intro c z
  rw [List.getD_eq_getElem?_getD] at z
  cases w : δ[i]? with
  | none => rw [w] at z; cases z
  | some s =>
    rw [w] at z
    have z : s = .exc c := z
    have m := List.all_eq_true.mp h s (List.mem_of_getElem? w)
    rw [z] at m
    cases m
section
variable {K : KF} {B C H : Hp} {σ : L2.St} {δ : DSt} {Φ : Nat → List Addr} {Tb' : Pm}
theorem RSt.chg (h : RSt Tb K B C σ H δ Φ) (et : Tb'.tb = Tb.tb) (n : noExc δ = true) : RSt Tb' K B C σ H δ Φ := by
  refine ⟨h.len, fun i => ?_, h.nd, h.dj, h.bc, h.ch, h.fr, fun P hP => h.tb P (by rw [← et]; exact hP)⟩
  have s := h.sl i
  have ne := noExc_get n i
  cases z : δ.getD i .no with
  | no => rw [z] at s; exact s
  | val d => rw [z] at s; exact s
  | par d => rw [z] at s; exact s
  | fr d => rw [z] at s; exact s
  | bor d => rw [z] at s; exact s
  | lck d => rw [z] at s; exact s
  | own d => rw [z] at s; exact s
  | exc c => exact absurd z (ne c)
/-- the exception's name is bound -/
def putExc (i : Nat) (c : Str) (δ : DSt) : Option DSt := if i < δ.length ∧ noExc δ = true then (match δ.getD i .no with
  | .lck _ => none
  | _ => some (δ.set i (.exc c))) else none
theorem putExc_eq {i : Nat} {c : Str} {δ' : DSt} (e : putExc i c δ = some δ') : i < δ.length ∧ noExc δ = true ∧ (∀ d, δ.getD i .no ≠ .lck d) ∧ δ' = δ.set i (.exc c) := by
  unfold putExc at e
  split at e
  · rename_i hz
    refine ⟨hz.1, hz.2, (fun d z => by rw [z] at e; cases e), ?_⟩
    split at e
    · cases e
    · exact (Option.some.inj e).symm
  · cases e
theorem RSt.putExc {i : Nat} {c : Str} {a : Addr} {δ' : DSt} (h : RSt Tb K B C σ H δ Φ) (et : Tb'.tb = Tb.tb) (ea : Tb'.ea = a) (e : DL.putExc i c δ = some δ') : RSt Tb' K B C (σ.set i (some (.ref a))) H δ' (fun j => if j = i then [] else Φ j) := by
  obtain ⟨hl, hn, _, rfl⟩ := putExc_eq e
  have h := h.chg et hn
  refine ⟨by simpa using h.len, fun j => ?_, fun j => ?_, fun j k a ha hb => ?_, h.bc, h.ch, fun j a ha => ?_, h.tb⟩
  · rw [getD_set, getD_set, h.len]
    by_cases hj : j = i
    · subst hj
      rw [if_pos ⟨rfl, hl⟩, if_pos ⟨rfl, hl⟩, if_pos rfl]
      exact ⟨rfl, by rw [ea]⟩
    · rw [if_neg (fun z => hj z.1), if_neg (fun z => hj z.1), if_neg hj]
      exact h.sl j
  · split
    · exact List.nodup_nil
    · exact h.nd j
  · split at ha
    · cases ha
    · split at hb
      · cases hb
      · exact h.dj j k a ha hb
  · split at ha
    · cases ha
    · exact h.fr j a ha
theorem Lk.putExc {P : List Nat} {i : Nat} {c : Str} {v : Option V} {δ' : DSt} (hp : i ∉ P) (e : DL.putExc i c δ = some δ') : Lk P σ δ (σ.set i v) δ' := by
  obtain ⟨hl, hn, nl, rfl⟩ := putExc_eq e
  refine ⟨fun j d h => ?_, fun j d h => ?_, set_stay hp⟩
  · have ne : j ≠ i := fun z => nl d (z ▸ h)
    rw [getD_set, getD_set, if_neg (fun z => ne z.1), if_neg (fun z => ne z.1)]
    exact ⟨h, rfl⟩
  · rw [getD_set] at h
    split at h
    · cases h
    · exact h
/-- the exception's name goes -/
def dropExc (i : Nat) (δ : DSt) : Option DSt := if noExc (δ.set i .no) = true then (match δ.getD i .no with
  | .lck _ => none
  | _ => some (δ.set i .no)) else none
theorem dropExc_eq {i : Nat} {δ' : DSt} (e : dropExc i δ = some δ') : noExc δ' = true ∧ (∀ d, δ.getD i .no ≠ .lck d) ∧ δ' = δ.set i .no := by
  unfold dropExc at e
  split at e
  · rename_i hz
    have : δ' = δ.set i .no := by
      split at e
      · cases e
      · exact (Option.some.inj e).symm
    exact ⟨by rw [this]; exact hz, (fun d z => by rw [z] at e; cases e), this⟩
  · cases e
theorem RSt.dropExc {i : Nat} {δ' : DSt} (h : RSt Tb' K B C σ H δ Φ) (et : Tb.tb = Tb'.tb) (e : DL.dropExc i δ = some δ') : RSt Tb K B C (σ.set i none) H δ' (fun j => if j = i then [] else Φ j) := by
  obtain ⟨hn, _, rfl⟩ := dropExc_eq e
  exact (h.forget i).chg et hn
theorem Lk.dropExc {P : List Nat} {i : Nat} {δ' : DSt} (hp : i ∉ P) (e : DL.dropExc i δ = some δ') : Lk P σ δ (σ.set i none) δ' := by
  obtain ⟨hn, nl, rfl⟩ := dropExc_eq e
  refine ⟨fun j d h => ?_, fun j d h => ?_, set_stay hp⟩
  · have ne : j ≠ i := fun z => nl d (z ▸ h)
    rw [getD_set, getD_set, if_neg (fun z => ne z.1), if_neg (fun z => ne z.1)]
    exact ⟨h, rfl⟩
  · rw [getD_set] at h
    split at h
    · cases h
    · exact h
end
/-- the context of a suite: the exception in hand at a, no exception leaves -/
@[reducible] def Pm.suite (Tb : Pm) (a : Addr) : Pm := ⟨Tb.tb, a, Tb.mg, fun _ _ _ _ => False, Tb.pr⟩
@[reducible] def Pm.wish (Tb : Pm) (W : WX) : Pm := ⟨Tb.tb, Tb.ea, Tb.mg, W, Tb.pr⟩
/-- try: .. except x as n (slot i): .. -/
def tryE (x : Str) (i : Nat) (gs : GS) (c : Str) (δ1 : DSt) : Option O := if c = x then (putExc i c δ1).bind fun δ2 => (gs δ2).bind fun o2 => (match o2 with
    | .nx δ3 => (dropExc i δ3).map .nx
    | .bk δ3 => (dropExc i δ3).map .bk
    | .ct δ3 => (dropExc i δ3).map .ct
    | .rt r => some (.rt r)
    | .ex _ _ => none) else none
def gTry (x : Str) (i : Nat) (gb gs : GS) : GS := fun δ => (gb δ).bind fun o => match o with
  | .ex c δ1 => tryE x i gs c δ1
  | o => some o
/-- try: .. except x: .. -/
def keepExc (δ : DSt) : Option DSt := if noExc δ = true then some δ else none
theorem keepExc_eq {δ δ' : DSt} (e : keepExc δ = some δ') : noExc δ' = true ∧ δ' = δ := by
  unfold keepExc at e
  split at e
  · rename_i h
    cases e
    exact ⟨h, rfl⟩
  · cases e
def tryE0 (x : Str) (gs : GS) (c : Str) (δ1 : DSt) : Option O := if c = x ∧ noExc δ1 = true then (gs δ1).bind fun o2 => (match o2 with
    | .nx δ3 => (keepExc δ3).map .nx
    | .bk δ3 => (keepExc δ3).map .bk
    | .ct δ3 => (keepExc δ3).map .ct
    | .rt r => some (.rt r)
    | .ex _ _ => none) else none
def gTry0 (x : Str) (gb gs : GS) : GS := fun δ => (gb δ).bind fun o => match o with
  | .ex c δ1 => tryE0 x gs c δ1
  | o => some o
section
variable {X : Cx} {x n : Str} {C : Addr} {body suite : List Stmt} {b₀ : Stmt} {np pos pos' : Pos} {gb gs : GS}
theorem ds_try (i : Nat) (F : ExF X.KK X.mg x C) (tk : Takes X Tb.W) (hmg : Tb.mg = X.mg) (hN : X.N.Nodup)
    (hb : ∀ (W : WX) (pn : List (Addr × Obj)) (xe : Value → Shared → Prop), Takes (X.tr pn xe) W → PassesOwn (model X.prog X.w) X.A X.env xe → DSs (Tb.wish W) (X.tr pn xe) body gb)
    (hsu : ∀ (a : Addr) (oe : Obj) (pn : List (Addr × Obj)), Zc (.ref C) none oe → (∃ vs, oe.data = .fields vs) → DSs (Tb.suite a) (X.suite a ((a, oe) :: pn)) (b₀ :: suite) gs)
    (hs : X.stack = X.env :: X.outer := by rfl) (hf : X.env.frame = some X.env.locals := by rfl) (hi : X.N[i]? = some n := by rfl) (hln : X.env.kindOf n = some .local := by rfl) (hg : Gl X x := by rfl) (hdb : (x == ("__debug__" : Str)) = false := by decide) (hp : i ∉ Tb.pr := by first | exact List.not_mem_nil | exact np0) :
    DS Tb X (.Try body [.ExceptHandler (some (.Name x np)) (some n) (b₀ :: suite) pos'] [] [] pos) (gTry x i gb gs) := by
  refine ⟨ps_imp (ps_try_as (c := .ref C) (i := i) (tb := fun W => tDS (Tb.wish W) X.KK gb) (ts := fun a cls d En σ H => (cls = .ref C ∧ d = none) ∧ tDS (Tb.suite a) X.KK gs En σ H) hs hf hN hi hln ⟨hg, hdb, .inl F.g⟩ tk (fun W pn xe h1 h2 => (hb W pn xe h1 h2).pss) fun a oe cls d pn hz hd => ?_) fun En σ H h => ?_⟩
  · refine ⟨fun pins s σ H En I h => ?_⟩
    obtain ⟨⟨rfl, rfl⟩, h⟩ := h
    exact (hsu a oe pn hz hd).pss.run pins s σ H En I h
  · obtain ⟨B, C', δ, Φ, o, S, e, k⟩ := h
    obtain ⟨o1, e1, e2⟩ := bind1_some e
    refine ⟨B, C', δ, Φ, o1, ⟨S.len, S.sl, S.nd, S.dj, S.bc, S.ch, S.fr, S.tb⟩, e1, ?_⟩
    have up : ∀ {σ' : L2.St} {H' : Hp} {δ' : DSt} {Φ' : Nat → List Addr} {W : WX}, RSt (Tb.wish W) X.KK B C' σ' H' δ' Φ' → RSt Tb X.KK B C' σ' H' δ' Φ' := fun S => ⟨S.len, S.sl, S.nd, S.dj, S.bc, S.ch, S.fr, S.tb⟩
    cases o1 with
    | nx δ1 => cases e2; exact fun σ' H' Φ' S' L' => k σ' H' Φ' (up S') L'
    | bk δ1 => cases e2; exact fun σ' H' Φ' S' L' => k σ' H' Φ' (up S') L'
    | ct δ1 => cases e2; exact fun σ' H' Φ' S' L' => k σ' H' Φ' (up S') L'
    | rt r => cases e2; exact k
    | ex c δ1 =>
      replace e2 : tryE x i gs c δ1 = some o := e2
      unfold tryE at e2
      split at e2
      · rename_i hc
        subst hc
        obtain ⟨δ2, e3, e4⟩ := bind1_some e2
        obtain ⟨o2, e5, e6⟩ := bind1_some e4
        refine fun cls σ' H' Φ' m S' L' => ?_
        have m : Tb.mg c = some cls := m
        rw [hmg, F.g] at m
        cases m
        refine ⟨true, F.se, fun _ a ha => ⟨⟨rfl, rfl⟩, B, C', δ2, _, o2, S'.putExc (Tb' := Tb.suite a) rfl rfl e3, e5, ?_⟩, fun z => by cases z⟩
        have L2' := L'.trans (Lk.putExc (v := some (.ref a)) hp e3)
        cases o2 with
        | nx δ3 =>
          obtain ⟨δ4, e7, e8⟩ := map_some e6
          subst e8
          exact fun σ3 H3 Φ3 S3 L3 => k _ H3 _ (S3.dropExc rfl e7) ((L2'.trans L3).trans (Lk.dropExc hp e7))
        | bk δ3 =>
          obtain ⟨δ4, e7, e8⟩ := map_some e6
          subst e8
          exact fun σ3 H3 Φ3 S3 L3 => k _ H3 _ (S3.dropExc rfl e7) ((L2'.trans L3).trans (Lk.dropExc hp e7))
        | ct δ3 =>
          obtain ⟨δ4, e7, e8⟩ := map_some e6
          subst e8
          exact fun σ3 H3 Φ3 S3 L3 => k _ H3 _ (S3.dropExc rfl e7) ((L2'.trans L3).trans (Lk.dropExc hp e7))
        | rt r => cases e6; exact k
        | ex _ _ => cases e6
      · cases e2
theorem ds_try0 (F : ExF X.KK X.mg x C) (tk : Takes X Tb.W) (hmg : Tb.mg = X.mg)
    (hb : ∀ (W : WX) (pn : List (Addr × Obj)) (xe : Value → Shared → Prop), Takes (X.tr pn xe) W → PassesOwn (model X.prog X.w) X.A X.env xe → DSs (Tb.wish W) (X.tr pn xe) body gb)
    (hsu : ∀ (a : Addr) (oe : Obj) (pn : List (Addr × Obj)), Zc (.ref C) none oe → (∃ vs, oe.data = .fields vs) → DSs (Tb.suite a) (X.suite a ((a, oe) :: pn)) (b₀ :: suite) gs)
    (hs : X.stack = X.env :: X.outer := by rfl) (hf : X.env.frame = some X.env.locals := by rfl) (hg : Gl X x := by rfl) (hdb : (x == ("__debug__" : Str)) = false := by decide) :
    DS Tb X (.Try body [.ExceptHandler (some (.Name x np)) none (b₀ :: suite) pos'] [] [] pos) (gTry0 x gb gs) := by
  refine ⟨ps_imp (ps_try_only (c := .ref C) (tb := fun W => tDS (Tb.wish W) X.KK gb) (ts := fun a cls d En σ H => (cls = .ref C ∧ d = none) ∧ tDS (Tb.suite a) X.KK gs En σ H) hs hf ⟨hg, hdb, .inl F.g⟩ tk (fun W pn xe h1 h2 => (hb W pn xe h1 h2).pss) fun a oe cls d pn hz hd => ?_) fun En σ H h => ?_⟩
  · refine ⟨fun pins s σ H En I h => ?_⟩
    obtain ⟨⟨rfl, rfl⟩, h⟩ := h
    exact (hsu a oe pn hz hd).pss.run pins s σ H En I h
  · obtain ⟨B, C', δ, Φ, o, S, e, k⟩ := h
    obtain ⟨o1, e1, e2⟩ := bind1_some e
    refine ⟨B, C', δ, Φ, o1, ⟨S.len, S.sl, S.nd, S.dj, S.bc, S.ch, S.fr, S.tb⟩, e1, ?_⟩
    have up : ∀ {σ' : L2.St} {H' : Hp} {δ' : DSt} {Φ' : Nat → List Addr} {W : WX}, RSt (Tb.wish W) X.KK B C' σ' H' δ' Φ' → RSt Tb X.KK B C' σ' H' δ' Φ' := fun S => ⟨S.len, S.sl, S.nd, S.dj, S.bc, S.ch, S.fr, S.tb⟩
    cases o1 with
    | nx δ1 => cases e2; exact fun σ' H' Φ' S' L' => k σ' H' Φ' (up S') L'
    | bk δ1 => cases e2; exact fun σ' H' Φ' S' L' => k σ' H' Φ' (up S') L'
    | ct δ1 => cases e2; exact fun σ' H' Φ' S' L' => k σ' H' Φ' (up S') L'
    | rt r => cases e2; exact k
    | ex c δ1 =>
      replace e2 : tryE0 x gs c δ1 = some o := e2
      unfold tryE0 at e2
      split at e2
      · rename_i hc
        obtain ⟨hc, hn⟩ := hc
        subst hc
        obtain ⟨o2, e5, e6⟩ := bind1_some e2
        refine fun cls σ' H' Φ' m S' L' => ?_
        have m : Tb.mg c = some cls := m
        rw [hmg, F.g] at m
        cases m
        refine ⟨true, F.se, fun _ a ha => ⟨⟨rfl, rfl⟩, B, C', δ1, _, o2, S'.chg (Tb' := Tb.suite a) rfl hn, e5, ?_⟩, fun z => by cases z⟩
        cases o2 with
        | nx δ3 =>
          obtain ⟨δ4, e7, e8⟩ := map_some e6
          obtain ⟨hz, e9⟩ := keepExc_eq e7
          subst e8 e9
          exact fun σ3 H3 Φ3 S3 L3 => k _ H3 _ (S3.chg rfl hz) (L'.trans L3)
        | bk δ3 =>
          obtain ⟨δ4, e7, e8⟩ := map_some e6
          obtain ⟨hz, e9⟩ := keepExc_eq e7
          subst e8 e9
          exact fun σ3 H3 Φ3 S3 L3 => k _ H3 _ (S3.chg rfl hz) (L'.trans L3)
        | ct δ3 =>
          obtain ⟨δ4, e7, e8⟩ := map_some e6
          obtain ⟨hz, e9⟩ := keepExc_eq e7
          subst e8 e9
          exact fun σ3 H3 Φ3 S3 L3 => k _ H3 _ (S3.chg rfl hz) (L'.trans L3)
        | rt r => cases e6; exact k
        | ex _ _ => cases e6
      · cases e2
end

/-! ### isinstance of the exception in hand -/
/-- isinstance(e, (c1, ..)) -/
def rIsET (K : KF) (D a : Addr) : List V → Hp → VK → Prop := fun xs H Q => ∃ (tp : Addr) (cs : List V) (us : List Value) (b : Bool), xs = [.ref a, .ref tp] ∧ H tp = some (.tup cs) ∧ (∀ ws, Paired RelV cs ws → ws = us) ∧ PySem.W.kitAny K (.ref D) us = some b ∧ Q (.bl b) H
theorem call_isET {X : Cx} {a D : Addr} {oe : Obj} {pn : List (Addr × Obj)} (C : ExcC X.KK D) (hz : Zc (.ref D) none oe) (hf : ∃ vs, oe.data = .fields vs) : CallR (X.suite a ((a, oe) :: pn)) (.builtin "isinstance") (rIsET X.KK D a) := by
  intro pins s σ H xs us Q I r h
  obtain ⟨tp, cs, ws, b, rfl, hT, hcv, e, q⟩ := h
  obtain ⟨u1, u2, rfl, r1, r2⟩ := vals2 r
  cases (show u2 = Value.ref tp from r2)
  cases (show u1 = Value.ref a from r1)
  obtain ⟨hget, _⟩ := I.pin (a, oe) (List.mem_append.mpr (.inl List.mem_cons_self))
  obtain ⟨vs, hv⟩ := hf
  have J : PySem.W.InstAt s.heap a oe D none := by
    obtain ⟨z1, z2, z3, z4⟩ := oe
    have hc : z1 = .ref D := hz.1
    have hd : z2 = none := hz.2
    have hv : z3 = .fields vs := hv
    subst hc hd hv
    exact ⟨hget, rfl, rfl, trivial⟩
  obtain ⟨_, its, rv, o, h1, h2, n, h3⟩ := (show ObjOk X.prog X.w H s.heap tp (.tup cs) from I.hok tp _ hT)
  have e3 := hcv its rv
  subst e3
  obtain ⟨oc, od, dt, sl⟩ := o
  simp only at h2 h3
  subst h2 h3
  exact PySem.W.kia_tup (PySem.W.handS_kitx_exc C.hg C.hk C.hs C.hd C.ha C.hn C.ht C.hm) I.kIn J h1 e (fun z => nomatch z) fun tk => ⟨.bl b, H, I.tok tk, rfl, q⟩
def gIsE (i : Nat) (b : Bool) : G := fun δ => match δ.getD i .no with
  | .exc _ => some (.val (.bl b))
  | _ => none
/-- a name of a class: of the program, or built in -/
inductive ClN (X : Cx) (x : Str) : Value → Prop where
  | own {C : Addr} (h : X.mg x = some (.ref C)) : ClN X x (.ref C)
  | blt {n : String} (h : X.mg x = none) (b : bootBuiltins x = some (.type n)) : ClN X x (.type n)
def vOf : Value → V
  | .ref a => .ref a
  | .type n => .ty n
  | _ => .non
theorem ClN.pe {X : Cx} {x : Str} {u : Value} {p : Pos} (h : ClN X x u) (hg : Gl X x) (hn : x ≠ "__name__") (hd : (x == ("__debug__" : Str)) = false) : PE X (.Name x p) (tC (vOf u)) := by
  cases h with
  | own h => exact pe_glob hg h rfl hd
  | blt h b => exact pe_bltn hg h b rfl hn hd
theorem ClN.only {X : Cx} {x : Str} {u : Value} (h : ClN X x u) : ∀ w, RelV (vOf u) w → w = u := by
  cases h with
  | own h => exact fun w r => r
  | blt h b => exact fun w r => r
section
variable {X : Cx} {D a : Addr} {oe : Obj} {pn : List (Addr × Obj)} {x n : Str} {p p1 p2 pos : Pos} {b : Bool} {u : Value}
theorem exc_at {K : KF} {B C H : Hp} {σ : L2.St} {δ : DSt} {Φ : Nat → List Addr} {i : Nat} {r : R} (S : RSt (Tb.suite a) K B C σ H δ Φ) (e : gIsE i b δ = some r) : σ[i]? = some (some (.ref a)) ∧ r = .val (.bl b) := by
  unfold gIsE at e
  have s := S.sl i
  split at e
  · rename_i c hz
    rw [hz] at s
    have s2 : σ.getD i none = some (.ref a) := s.2
    refine ⟨?_, (Option.some.inj e).symm⟩
    rw [List.getD_eq_getElem?_getD] at s2
    cases w : σ[i]? with
    | none => rw [w] at s2; cases s2
    | some y => rw [w] at s2; rw [show y = some (V.ref a) from s2]
  · cases e
theorem de_isE (i : Nat) (EC : ExcC X.KK D) (hz : Zc (.ref D) none oe) (hf : ∃ vs, oe.data = .fields vs) (hm : X.mg "isinstance" = none) (hc : ClN (X.suite a ((a, oe) :: pn)) x u) (hk : PySem.W.kitOne X.KK (.ref D) u = some b)
    (hN : X.N[i]? = some n := by rfl) (hv : Vis X.env.scope n := by first | exact Or.inl rfl | exact Or.inr (Or.inl rfl) | exact Or.inr (Or.inr rfl)) (hd : (n == ("__debug__" : Str)) = false := by decide) (hcd : (n == ("__classdict__" : Str)) = false := by decide)
    (hg : Gl X "isinstance" := by rfl) (hg2 : Gl X x := by rfl) (hn2 : x ≠ "__name__" := by decide) (hdb2 : (x == ("__debug__" : Str)) = false := by decide)
    (he1 : starEach [.Name n p1, .Name x p2] X.env = (false, eval (.Name n p1) X.env) :: starEach [.Name x p2] X.env := by rfl) (he : starEach [.Name x p2] X.env = (false, eval (.Name x p2) X.env) :: starEach [] X.env := by rfl) (hpl : (backTo pos (starEach [.Name x p2] X.env)).any (·.1) = false := by rfl) :
    DE (Tb.suite a) (X.suite a ((a, oe) :: pn)) (.Call (.Name "isinstance" p) [.Name n p1, .Name x p2] [] pos) (gIsE i b) := by
  refine ⟨pe_imp (pe_callB (X := X.suite a ((a, oe) :: pn)) (call_isE EC hz hf) hg hm (by decide +kernel) (pa_cons (pe_var hN hv hd hcd) (pa_cons (hc.pe hg2 hn2 hdb2) pa_nil he) he1) (by decide) (by decide) he1 hpl) fun σ H Q h => ?_⟩
  obtain ⟨B, C, δ, Φ, c, S, e, k⟩ := h
  obtain ⟨h1, rfl⟩ := exc_at S e
  exact ⟨_, h1, _, u, b, rfl, hc.only, hk, k _ H [] (Same.refl _) rr_bl no_fresh List.nodup_nil⟩
/-- a row of names of classes -/
inductive ClNs (X : Cx) : List Expr → List Value → Prop where
  | nil : ClNs X [] []
  | cons {x : Str} {p : Pos} {es : List Expr} {u : Value} {us : List Value} (h : ClN X x u) (hg : Gl X x) (hn : x ≠ "__name__") (hd : (x == ("__debug__" : Str)) = false) (hs : starEach (.Name x p :: es) X.env = (false, eval (.Name x p) X.env) :: starEach es X.env) (r : ClNs X es us) : ClNs X (.Name x p :: es) (u :: us)
theorem ClNs.pa {es : List Expr} {us : List Value} (h : ClNs X es us) : PA X es (fun σ H Q => Q (us.map vOf) H) := by
  induction h with
  | nil => exact pa_imp pa_nil fun σ H Q h => h
  | cons h hg hn hd hs r ih => exact pa_imp (pa_cons (h.pe hg hn hd) ih hs) fun σ H Q h => h
theorem ClNs.only {es : List Expr} {us : List Value} (h : ClNs X es us) : ∀ ws, Paired RelV (us.map vOf) ws → ws = us := by
  induction h with
  | nil => intro ws r; cases r; rfl
  | cons h _ _ _ _ r ih =>
    intro ws q
    cases q with
    | cons q1 q2 => rw [h.only _ q1, ih _ q2]
theorem ClNs.len {es : List Expr} {us : List Value} (h : ClNs X es us) : us.length = es.length := by
  induction h with
  | nil => rfl
  | cons h _ _ _ _ r ih => simp [ih]
theorem de_isET (i : Nat) {es : List Expr} {us : List Value} {j : Nat} (EC : ExcC X.KK D) (hz : Zc (.ref D) none oe) (hf : ∃ vs, oe.data = .fields vs) (hm : X.mg "isinstance" = none) (hc : ClNs (X.suite a ((a, oe) :: pn)) es us) (hk : PySem.W.kitAny X.KK (.ref D) us = some b) (hlen : es.length ≤ 1000 := by decide)
    (hN : X.N[i]? = some n := by rfl) (hv : Vis X.env.scope n := by first | exact Or.inl rfl | exact Or.inr (Or.inl rfl) | exact Or.inr (Or.inr rfl)) (hd : (n == ("__debug__" : Str)) = false := by decide) (hcd : (n == ("__classdict__" : Str)) = false := by decide)
    (hg : Gl X "isinstance" := by rfl)
    (he1 : starEach [.Name n p1, .Tuple es j p2] X.env = (false, eval (.Name n p1) X.env) :: starEach [.Tuple es j p2] X.env := by rfl) (he : starEach [.Tuple es j p2] X.env = (false, eval (.Tuple es j p2) X.env) :: starEach [] X.env := by rfl) (hpl : (backTo pos (starEach [.Tuple es j p2] X.env)).any (·.1) = false := by rfl) :
    DE (Tb.suite a) (X.suite a ((a, oe) :: pn)) (.Call (.Name "isinstance" p) [.Name n p1, .Tuple es j p2] [] pos) (gIsE i b) := by
  refine ⟨pe_imp (pe_callB (X := X.suite a ((a, oe) :: pn)) (call_isET EC hz hf) hg hm (by decide +kernel) (pa_cons (pe_var hN hv hd hcd) (pa_cons (pe_tup hc.pa) pa_nil he) he1) (by decide) (by decide) he1 hpl) fun σ H Q h => ?_⟩
  obtain ⟨B, C, δ, Φ, c, S, e, k⟩ := h
  obtain ⟨h1, rfl⟩ := exc_at S e
  refine ⟨_, h1, by rw [List.length_map, hc.len, sizeLine_eq]; omega, fun tp hp => ?_⟩
  exact ⟨tp, us.map vOf, us, b, rfl, upd_same, hc.only, hk, k _ _ [] (same_upd hp) rr_bl no_fresh List.nodup_nil⟩
end
end DL

set_option Elab.async false
set_option linter.all false
set_option maxRecDepth 100000
set_option maxHeartbeats 4000000
/-! D16: the end of a law with tables. -/
namespace DL
open PySem PySem.Spec PyProof.Rows L2
theorem tab_free {K : PySem.W.Frag} {h : Heap} {f c P : Addr} {o : Obj} {fd : FuncData} (own : LamX.OwnTab K f h) (l : K.lookup f = some o) (hd : o.data = .func fd) (hc : fd.code = .ref c) (q : PySem.W.codeHdIn K c P = true) : h.get? P = some { cls := .none, data := .fields #[] } := by
  unfold PySem.W.codeHdIn at q
  split at q
  · rename_i vs sl hk
    simp only [Bool.and_eq_true] at q
    obtain ⟨⟨⟨⟨⟨q1, _⟩, _⟩, _⟩, _⟩, _⟩ := q
    split at q1
    · rename_i P1 h11
      have e : P1 = P := beq_iff_eq.mp q1
      rw [e] at h11
      exact own c P o fd _ _ vs _ l hd hc hk h11
    · cases q1
  · cases q
/-- the end, with the tables of the named defs -/
theorem walk_tabs {l : PySem.W.OpenLaw} {k : Nat} {q : Program} {loose : List Str} {XP : (Str → Option Value) → Heap → Prop} {YP : World → Heap → Prop} {d : DefRec} {K : Params → PySem.W.Frag} {names : List Str}
    (hmost : l.most = some 63) (hdef : d.params.defaults = []) (room : Room k callerA) (recs : ∀ y ∈ names, ((recsOf q).any fun e => e.name == y) = true) (inY : ∀ (w : World) (h : Heap), YP w h → (K w.params).In h)
    (F : ∀ (w : World) (mg : Str → Option Value) (fa : Addr) (h : Heap), (K w.params).In h → h.Ns mainGlobals mg → mg d.name = some (.ref fa) → (∀ y ∈ names, ∀ f, mg y = some (.ref f) → LamX.OwnTab (K w.params) f h) → LamX.LawAtS l w (K w.params) CX0 k 63 "script" mg fa h) :
    PySem.W.WalkO q loose XP YP l.row.toRowW d [] (fun f vs => PySem.call f vs) := by
  refine Att.attach_callB hmost hdef fun w sA sB mg mb fa o pm cd doc a vs ns G Y ho hd hcd hmg hobj hints hlen hbits hg => ?_
  have inK := inY w _ Y
  have tabs : ∀ y ∈ names, ∀ f, mg y = some (.ref f) → LamX.OwnTab (K w.params) f sB.heap := by
    intro y hy f hf c P o1 fd1 e dd vs1 sl t1 t2 t3 t4 t5
    obtain ⟨r, hr, hn⟩ := List.any_eq_true.mp (recs y hy)
    have hn := beq_iff_eq.mp hn
    obtain ⟨a1, o2, fd2, c2, P2, u1, u2, u3, u4, u5, u6⟩ := G.T.tab r hr
    rw [hn, hf] at u1
    cases u1
    have v1 := (inK _ _ t1).symm.trans u2
    cases v1
    have v2 := t2.symm.trans u3
    cases v2
    have v3 := t3.symm.trans u4
    cases v3
    obtain ⟨⟨oc, vc, w1, _, w2, w3⟩, w4⟩ := u6
    have v4 := (inK _ _ t4).symm.trans w1
    cases v4
    cases w2
    have v5 := t5.symm.trans w3
    cases v5
    exact w4
  obtain ⟨fd, cs, sp, hT, nT, C, hb, hsp, hF⟩ := F w mg fa _ inK G.T.g hmg tabs
  exact LamX.law_callTs inK G.T.g G.T.b G.T.builtins G.T.nolimit hg hT nT C G.T.bmain hobj hints (Nat.le_trans hlen (by decide)) room hF hb (fun H hH hS => hsp H a ns hlen hbits hH hS) fun _ _ _ z => z
/-- a law's own function at the head's heap, with its tables -/
theorem law_at {l : PySem.W.OpenLaw} {w : World} {K : PySem.W.Frag} {mg : Str → Option Value} {k : Nat} {fa : Addr} {h : Heap} {fd : FuncData} {F : List D → Option R} (cs : List (Addr × Addr))
    (hT : ∀ p ∈ cs, h.get? p.2 = some { cls := .none, data := .fields #[] }) (nT : ∀ p ∈ cs, K.lookup p.2 = none) (C : ∀ p ∈ cs, PySem.W.codeHdIn K p.1 p.2 = true) (KX : K.In h)
    (hb : ∀ (s : Shared) (u : Value), BindsTo s fd ⟨[u], []⟩ [("script", u)])
    (hf : ∀ base : Heap, (∀ p ∈ cs, GxR.TabB base mg p.1 p.2) → FnOk l.prog w K mg base CX0 k fa fd ["script"] (spF (cs.map (·.2)) (kf K w) 1 F)) (hF : ∀ ns : List Int, ns.length ≤ 63 → F [.scr ns] = some (.val (.bl true))) :
    LamX.LawAtS l w K CX0 k 63 "script" mg fa h := by
  refine ⟨fd, cs, spL (cs.map (·.2)) K, hT, nT, fun p hp => PySem.W.codeHd_of_K KX (C p hp), hb, fun H a ns hl _ hH hS => ⟨fun P hP => ?_, a, ns, rfl, hS, hl, fun _ => rfl⟩, fun base _ _ hTb => law_end (hf base fun p hp => ⟨(hTb p hp).code, (hTb p hp).bm, (hTb p hp).gP⟩) hF⟩
  obtain ⟨p, hp, e⟩ := List.mem_map.mp hP
  subst e
  exact ⟨#[], hH p hp, trivial⟩
end DL

set_option Elab.async false
set_option linter.all false
set_option maxRecDepth 100000
set_option maxHeartbeats 4000000
/-! D17: xs[i] = v for a list of our own. -/
namespace DL
open PySem PySem.Spec PyProof.Rows L2
variable {Tb : Pm}
theorem OwL.set {K : KF} {H : Hp} {d : D} {v : V} (p : DL.pu d = true) (r : Rp K H d v) : ∀ {ds : List D} {xs : List V} {ψ : List Addr} (n : Nat), OwL K H ds xs ψ → ∃ ψ', OwL K H (ds.set n d) (xs.set n v) ψ' ∧ ψ'.Sublist ψ
  | [], _, _, n, h => by
    unfold OwL at h
    obtain ⟨rfl, rfl⟩ := h
    exact ⟨[], by unfold OwL; exact ⟨rfl, rfl⟩, List.Sublist.refl _⟩
  | e :: ds, _, _, 0, h => by
    unfold OwL at h
    obtain ⟨x, ys, φ1, φ2, rfl, h1, h2, rfl⟩ := h
    refine ⟨φ2, ?_, List.sublist_append_right _ _⟩
    show OwL K H (d :: ds) (v :: ys) φ2
    unfold OwL
    exact ⟨v, ys, [], φ2, rfl, Ow.pu _ _ p r, h2, rfl⟩
  | e :: ds, _, _, n + 1, h => by
    unfold OwL at h
    obtain ⟨x, ys, φ1, φ2, rfl, h1, h2, rfl⟩ := h
    obtain ⟨ψ', h3, h4⟩ := OwL.set p r n h2
    refine ⟨φ1 ++ ψ', ?_, List.Sublist.append (List.Sublist.refl _) h4⟩
    show OwL K H (e :: ds.set n d) (x :: ys.set n v) _
    unfold OwL
    exact ⟨x, _, φ1, ψ', rfl, h1, h3, rfl⟩
/-- xs[j] = v, what comes of the slot -/
def stxK (i : Nat) (δ : DSt) (s : Sl) (j : D) (r : R) : Option O := match s with
  | .own (.lst ds) => (match j with
    | .int j => (match r with
      | .val d => (ixN ds.length j).map fun n => .nx (purge (δ.set i (.own (.lst (ds.set n d)))))
      | _ => none)
    | _ => none)
  | _ => none
def gStx (i : Nat) (gi ge : G) : GS := fun δ => (ge δ).bind fun r => (gi δ).bind fun j => stxK i δ (δ.getD i .no) j.d r
theorem stxK_eq {i : Nat} {δ : DSt} {s : Sl} {j : D} {r : R} {o : O} (e : stxK i δ s j r = some o) : ∃ ds k d n, s = .own (.lst ds) ∧ j = .int k ∧ r = .val d ∧ ixN ds.length k = some n ∧ o = .nx (purge (δ.set i (.own (.lst (ds.set n d))))) := by
  unfold stxK at e
  split at e
  · split at e
    · split at e
      · obtain ⟨n, e1, e2⟩ := map_some e
        exact ⟨_, _, _, n, rfl, rfl, rfl, e1, e2.symm⟩
      · cases e
    · cases e
  · cases e
section
variable {X : Cx} {v ix : Expr} {pos : Pos} {gi ge : G}
theorem ds_stx (i : Nat) {x : Str} {p pos' : Pos} (he : DE Tb X v ge) (hi : DE Tb X ix gi) (hN : X.N[i]? = some x := by rfl) (hv : Vis X.env.scope x := by first | exact Or.inl rfl | exact Or.inr (Or.inl rfl) | exact Or.inr (Or.inr rfl)) (hd : (x == ("__debug__" : Str)) = false := by decide)
    (hcd : (x == ("__classdict__" : Str)) = false := by decide) (hs : swapsWithSole [.Subscript (.Name x p) ix pos'] v pos.line X.env = pure false := by rfl) (hw : swappedStores [.Subscript (.Name x p) ix pos'] v X.env = pure none := by rfl)
    (h1 : (assignEach [.Subscript (.Name x p) ix pos'] X.env).map (·.2) = [assign (.Subscript (.Name x p) ix pos') X.env] := by rfl)
    (hin : ∀ u, assign (.Subscript (.Name x p) ix pos') X.env u = (do
      let a1 ← holding [u] (eval (.Name x p) X.env)
      let b1 ← holding [u, a1] (eval ix X.env)
      standAt pos'
      holding [u, a1, b1] (setItem a1 b1 u)
      release [u, a1, b1] []) := by intro _; rfl) :
    DS Tb X (.Assign [.Subscript (.Name x p) ix pos'] v pos) (gStx i gi ge) := ⟨ps_imp (ps_asg he.pe (pg_sub (pe_var hN hv hd hcd) hi.pe set_list hin) hs hw h1) fun En σ H h => by
  obtain ⟨B, C, δ, Φ, o, S, e, k⟩ := h
  obtain ⟨r, j, e1, e2, e3⟩ := bind2_some e
  obtain ⟨ds, kk, d, n, hsl, hj, rfl, hn, rfl⟩ := stxK_eq e3
  refine ⟨B, C, δ, Φ, _, S, e1, fun u H1 φ1 s1 q1 f1 n1 => ?_⟩
  have S1 := S.same s1
  obtain ⟨l, xs, ψ, hs, hl, ow, hp⟩ := S1.list hsl
  refine ⟨_, hs, B, C, δ, Φ, j, S1, e2, fun w H2 φ2 s2 q2 f2 n2 => ?_⟩
  have S2 := S1.same s2
  have rj := q2.rp S2.bc S2.ch
  rw [hj] at rj
  have hl2 := s2.get hl
  have lenx : xs.length = ds.length := (OwL.rp _ _ _ ow).length
  refine ⟨l, xs, kk, n, rfl, rp_int rj, hl2, by rw [lenx]; exact hn, ?_⟩
  obtain ⟨ψ', ow', sub⟩ := OwL.set q1.2.1 (Rp.mono s2 _ _ q1.2.2) n (OwL.same s2 ow)
  have nd := S.nd i
  rw [hp] at nd
  obtain ⟨nl, nψ⟩ := List.nodup_cons.mp nd
  have tk1 := tk_lst (ys := xs.set n u) hl2
  refine k σ _ _ (S2.mut (H' := upd H2 l (.lst (xs.set n u))) (d' := .lst (ds.set n d)) (φ' := l :: ψ') hsl hs (fun a o ha e5 => ?_) ?_ ?_ fun a ha => .inl ?_) (lk_mut hsl)
  · rw [upd_ne (fun z => ha (by rw [hp, z]; exact List.mem_cons_self))]; exact e5
  · unfold Ow
    exact ⟨l, _, ψ', rfl, upd_same, OwL.mono tk1 _ _ _ (fun a ha => upd_ne fun z => nl (z ▸ sub.subset ha)) ow', rfl⟩
  · exact List.nodup_cons.mpr ⟨fun z => nl (sub.subset z), nψ.sublist sub⟩
  · rw [hp]
    rcases List.mem_cons.mp ha with rfl | ha
    · exact List.mem_cons_self
    · exact List.mem_cons_of_mem _ (sub.subset ha)⟩
end
end DL

set_option Elab.async false
set_option linter.all false
set_option maxRecDepth 100000
set_option maxHeartbeats 1000000
/-! GR1: tuple(reversed(a tuple)). -/
namespace RT
open PySem PySem.Spec PyProof.Rows L2
theorem nolen_rt : typeLookup (.type "reversed") "__len__" = pure none := by rw [typeLookup_type, builtinLookup_eq_fast]; kernel_rfl
theorem slot_rt_hint : Slot "reversed" "__length_hint__" "reversed.__length_hint__" :=
  .of (owner := "reversed") (n := "__length_hint__") (by rw [typeLookup_type, builtinLookup_eq_fast]; kernel_rfl) (by decide +kernel) (by decide +kernel) (by decide +kernel)
    (by first | exact .inl (by decide +kernel) | exact .inr (by decide +kernel)) (by rw [isSubtype_type]; kernel_rfl)
theorem entry_rt_hint : entryFor table "reversed.__length_hint__" = some Builtin.«reversed.__length_hint__» := entryFor_of_tree (by kernel_rfl)
theorem args_rt_hint (a : Value) : argsOk "reversed.__length_hint__" ⟨[a], []⟩ := by
  unfold argsOk; rw [signature?_of (id := "reversed.__length_hint__") (n := ['_', '_', 't', 'n', 'i', 'h', '_', 'h', 't', 'g', 'n', 'e', 'l', '_', '_']) (o := ['d', 'e', 's', 'r', 'e', 'v', 'e', 'r']) (by kernel_rfl) owner_rt]; kernel_rfl
section
variable {prog : Program} {w : World} {A : Around} {E : Value → Shared → Prop} {s : Shared}
theorem call_rt_hint {it t : Addr} {items : Array Value} {Q : Value → Shared → Prop} (hit : IsRt s.heap it t ((items.size : Int) - 1)) (ht : IsTup s.heap t items) (hsz : items.size ≤ sizeLine)
    (hQ : ∀ tk tk2, s.toks ≤ tk → Q (.int items.size tk2) { s with toks := tk }) : wpAny (model prog w) A (call (.builtin "reversed.__length_hint__") [.ref it]) Q E s := by
  obtain ⟨o, ho, hc, hd⟩ := id hit
  rw [sizeLine_eq] at hsz
  refine wpAny_call_entry slot_rt_hint hit.typeIs entry_rt_hint ?_ (args_rt_hint _)
  unfold Builtin.«reversed.__length_hint__»
  refine wpAny_bind (wpAny_of_eq (a := Value.ref it) rfl ?_)
  try dsimp only
  refine wpAny_bind (wpAny_field ho hd (x := .ref t) rfl ?_)
  try dsimp only
  rw [if_neg (show ¬ ((Value.ref t == Value.none) = true) from Bool.false_ne_true)]
  refine wpAny_bind (len_tuple ht (by omega) ?_)
  refine wpAny_bind (wpAny_of_eq (a := some ((items.size : Nat) : Int)) rfl ?_)
  try dsimp only
  refine wpAny_bind (wpAny_field (s := { s with toks := s.toks + 1 + 1 }) ho hd (x := rawInt ((items.size : Int) - 1)) rfl ?_)
  show wpAny _ _ (if ((items.size : Nat) : Int) < ((items.size : Int) - 1) + 1 then _ else _) _ _ _
  rw [if_neg (by omega), show ((items.size : Int) - 1) + 1 = items.size by omega]
  refine wpAny_bind (wpAny_mkInt ?_)
  exact wpAny_pure ⟨_, rfl, hQ _ _ (by show s.toks ≤ s.toks + 1 + 1 + 1; omega)⟩
theorem walks_rt (hh : A.handled = none) (I t : Addr) (hne : t ≠ I) (items : Array Value) (hsz : items.size ≤ sizeLine) :
    Walks prog w A I [I, t] [I] items.size (fun i v => items[items.size - 1 - i]? = some v) (fun i h => i ≤ items.size ∧ IsRt h I t ((items.size : Int) - 1 - (i : Int)) ∧ IsTup h t items) where
  sub := fun b hb => by simp at hb; simp [hb]
  frame := fun _ _ _ x hk => ⟨x.1, x.2.1.at fun o e => hk I (by simp) o e, by
    obtain ⟨o, ho, r⟩ := x.2.2
    exact ⟨o, hk t (by simp) o ho, r⟩⟩
  item := fun i s Q E hi x hQ => by
    have e : (items.size : Int) - 1 - (i : Int) = ((items.size - 1 - i : Nat) : Int) := by omega
    have hit := x.2.1
    rw [e] at hit
    have hx : items[items.size - 1 - i]? = some (items[items.size - 1 - i]'(by omega)) := Array.getElem?_eq_getElem (by omega)
    refine next_rt_item hit x.2.2 hx hsz fun h' hit' hs' => ?_
    have e2 : ((items.size - 1 - i : Nat) : Int) - 1 = (items.size : Int) - 1 - ((i + 1 : Nat) : Int) := by omega
    rw [e2] at hit'
    refine hQ _ h' (s.toks + 1) hx ⟨hi, hit', ?_⟩ fun b o hb eo => hs'.extBut b o (fun h => hb (by simp [h])) eo
    obtain ⟨o, ho, r⟩ := x.2.2
    exact ⟨o, (hs'.2 t hne).trans ho, r⟩
  done := fun s Q E x hQ => by
    have e : (items.size : Int) - 1 - (items.size : Int) = -1 := by omega
    have hit := x.2.1
    rw [e] at hit
    exact next_rt_end hh hit fun h' he' => hQ h' s.toks fun b o hb eo => he' b o (fun h => hb (by simp [h])) eo
  self := fun _ _ _ _ x hQ => iter_rt x.2.1 hQ
theorem hint_rt {it t : Addr} {items : Array Value} {Q : Bool → Shared → Prop} (hit : IsRt s.heap it t ((items.size : Int) - 1)) (ht : IsTup s.heap t items) (hsz : items.size ≤ sizeLine)
    (hQ : ∀ tk, s.toks ≤ tk → Q (decide (((items.size : Nat) : Int) ≠ 0)) { s with toks := tk }) : wpAny (model prog w) A (Builtin.List.listLengthHint (.ref it)) Q E s := by
  have hT := hit.typeIs
  unfold Builtin.List.listLengthHint
  refine wpAny_bind (wpAny_specialOf hT nolen_rt ?_)
  show wpAny _ A (specialOf (Value.ref it) (Str.ofString "__length_hint__") >>= _) _ _ _
  refine wpAny_bind (wpAny_specialOf hT slot_rt_hint.lookup ?_)
  generalize hid : ("reversed.__length_hint__" : String) = id0
  wp_delta
  rw [show splitId id0 = some ("reversed", "__length_hint__") from by subst hid; decide +kernel]
  subst hid
  refine wpAny_bind (wpAny_isInstance (b := true) hT (by rw [isSubtype_type]; kernel_rfl) ?_)
  rw [if_neg (by decide)]
  dsimp only
  rw [if_neg (by decide +kernel)]
  refine wpAny_bind (wpAny_rule ?_)
  refine wpAny_bind (wpAny_of_eq (slot_rt_hint.bind _) ?_)
  dsimp only
  refine wpAny_bind (wpAny_attempt (call_rt_hint hit ht hsz fun tk tk2 htk => ?_))
  dsimp only
  rw [sizeLine_eq] at hsz
  have f1 : Builtin.List.listFitsIndex ((items.size : Nat) : Int) = true := by
    unfold Builtin.List.listFitsIndex
    rw [decide_eq_true (by omega), decide_eq_true (by omega)]
    rfl
  have f2 : Builtin.List.listTooLong ((items.size : Nat) : Int).toNat = false := by
    unfold Builtin.List.listTooLong
    rw [sizeLine_eq]
    exact decide_eq_false (by omega)
  have f3 : ¬ ((items.size : Nat) : Int) < 0 := by omega
  have e : (((items.size : Nat) : Int) != 0) = decide (((items.size : Nat) : Int) ≠ 0) := by
    by_cases h : ((items.size : Nat) : Int) = 0
    · rw [h]; rfl
    · rw [decide_eq_true h]; exact bne_iff_ne.mpr h
  rw [← e] at hQ
  generalize ((items.size : Nat) : Int) = n at f1 f2 f3 hQ ⊢
  have ha : asInt? (.int n tk2) = pure (some n) := rfl
  rw [ha]
  refine wpAny_bind (wpAny_pure ?_)
  dsimp only
  rw [f1, if_neg (by decide), if_neg f3, f2, if_neg (by decide)]
  exact wpAny_pure (hQ _ htk)
theorem collect_rt {it t : Addr} {items : Array Value} {Q : List Value → Shared → Prop} (hh : A.handled = none) (hit : IsRt s.heap it t ((items.size : Int) - 1)) (ht : IsTup s.heap t items) (hne : t ≠ it) (hn : items.size ≤ sizeLine)
    (hQ : ∀ (h' : Heap) (tk : Nat) (acc : Array Value), (∀ b o, b ≠ it → s.heap.get? b = some o → h'.get? b = some o) → ItemsOf (fun i v => items[items.size - 1 - i]? = some v) acc items.size → Q acc.toList { s with heap := h', toks := tk }) :
    wpAny (model prog w) A (collect (.ref it)) Q E s := by
  have W := (walks_rt (prog := prog) (w := w) (A := A.in1) hh it t hne items hn).toS
  obtain ⟨oi, hoi, _⟩ := id hit
  obtain ⟨ol, hol, _⟩ := id ht
  have hSi : s.heap.objs.size ≠ it := Nat.ne_of_gt (Heap.lt_size hoi)
  have hSl : s.heap.objs.size ≠ t := Nat.ne_of_gt (Heap.lt_size hol)
  have hSf : s.heap.objs.size ∉ [it, t] := by simp only [List.mem_cons, List.not_mem_nil, or_false, not_or]; exact ⟨hSi, hSl⟩
  unfold collect
  refine wpAny_bind (wpAny_runValue (codeAny_builtin F.entry_proto_collect ?_))
  rw [Around.under_plainId F.plain_proto_collect _]
  show wpAny _ A.in1 (newList [] >>= fun l' => again (.builtin "list.__iadd__" ⟨[l', .ref it], []⟩)) _ _ s
  refine wpAny_bind (wpAny_newObj_type ?_)
  refine wpAny_pure ⟨plainId_quiet F.plain_list_iadd _, codeAny_builtin F.entry_list_iadd ?_⟩
  rw [Around.under_plainId F.plain_list_iadd _]
  have hS₁ : (s.heap.push { cls := .type "list", data := .seq ([] : List Value).toArray }).get? s.heap.objs.size = some { cls := .type "list", data := .seq ([] : List Value).toArray } := Heap.get?_push_size _ rfl
  have hit1 : IsRt (s.heap.push { cls := .type "list", data := .seq ([] : List Value).toArray }) it t ((items.size : Int) - 1) := hit.at fun o e => Heap.get?_push_of_some _ e
  have ht1 : IsTup (s.heap.push { cls := .type "list", data := .seq ([] : List Value).toArray }) t items := by
    obtain ⟨o, ho, r⟩ := ht
    exact ⟨o, Heap.get?_push_of_some _ ho, r⟩
  have hT : ({ s with heap := s.heap.push { cls := .type "list", data := .seq ([] : List Value).toArray } } : Shared).TypeIs (.ref it) "reversed" := hit1.typeIs (s := { s with heap := s.heap.push { cls := .type "list", data := .seq ([] : List Value).toArray } })
  have h1 : Builtin.List.listSameRef (.ref s.heap.objs.size) (.ref it) = false := by simp [Builtin.List.listSameRef, hSi]
  show wpAny _ A.in1 (Builtin.List.listExtendWith (.ref s.heap.objs.size) (.ref it) (.ref s.heap.objs.size)) _ _ _
  unfold Builtin.List.listExtendWith
  refine wpAny_bind (wpAny_typeOf hT ?_)
  rw [if_neg (by rw [h1]; decide)]
  refine wpAny_bind (iter_rt (s := { s with heap := s.heap.push { cls := .type "list", data := .seq ([] : List Value).toArray } }) hit1 ?_)
  refine wpAny_bind (wpAny_holding (hint_rt (s := { s with heap := s.heap.push { cls := .type "list", data := .seq ([] : List Value).toArray } }) hit1 ht1 hn fun tk htk => ?_))
  have e0 : ((items.size : Nat) : Int) - 1 - ((0 : Nat) : Int) = (items.size : Int) - 1 := by omega
  by_cases h0 : items.size = 0
  · have c0 : (decide (((items.size : Nat) : Int) ≠ 0)) = false := decide_eq_false (by omega)
    rw [c0]
    dsimp only
    rw [if_neg (by decide +kernel)]
    refine wpAny_pure ⟨plainId_quiet F.plain_extend_loop _, codeAny_extend_loopS W hn _ hSf _ items.size 0 _ _ _ rfl (Nat.zero_le _) ⟨Nat.zero_le _, by rw [e0]; exact hit1, ht1⟩ hS₁ (ItemsOf.nil _) fun s' acc' c' hm hS' hacc => ?_⟩
    show wpAny _ A (load s.heap.objs.size >>= _) _ _ s'
    refine wpAny_bind (wpAny_load hS' ?_)
    refine wpAny_pure ?_
    rw [Moved.eq_with hm]
    refine hQ s'.heap s'.toks acc' (fun b o hb e => hm.heap b o (fun hmem => ?_) (Heap.get?_push_of_some _ e)) hacc
    rcases List.mem_cons.mp hmem with e' | hmem
    · exact absurd (Heap.lt_size e) (by rw [e']; exact Nat.lt_irrefl _)
    · exact hb (List.mem_singleton.mp hmem)
  · have c0 : (decide (((items.size : Nat) : Int) ≠ 0)) = true := decide_eq_true (by omega)
    rw [c0]
    dsimp only
    rw [if_pos (by rfl)]
    refine wpAny_bind (wpAny_rule ?_)
    have hS₂ := Heap.get?_update_self (Obj.mapSeq (·.push Value.none)) hS₁ rfl
    have hS₃ := Heap.get?_update_self (Obj.mapSeq (·.pop)) hS₂ rfl
    have oth : ∀ b o, b ≠ s.heap.objs.size → (s.heap.push { cls := .type "list", data := .seq ([] : List Value).toArray }).get? b = some o →
        (((s.heap.push { cls := .type "list", data := .seq ([] : List Value).toArray }).update s.heap.objs.size (Obj.mapSeq (·.push Value.none))).update s.heap.objs.size (Obj.mapSeq (·.pop))).get? b = some o :=
      fun b o hb e => (Heap.get?_update_other _ _ (Ne.symm hb)).trans ((Heap.get?_update_other _ _ (Ne.symm hb)).trans e)
    have hit3 := hit1.at fun o e => oth it o (Ne.symm hSi) e
    have ht3 : IsTup (((s.heap.push { cls := .type "list", data := .seq ([] : List Value).toArray }).update s.heap.objs.size (Obj.mapSeq (·.push Value.none))).update s.heap.objs.size (Obj.mapSeq (·.pop))) t items := by
      obtain ⟨o, ho, r⟩ := ht1
      exact ⟨o, oth t o (Ne.symm hSl) ho, r⟩
    refine wpAny_bind ?_
    show wpAny _ A.in1 (updateSeq s.heap.objs.size (·.push .none) >>= fun _ => updateSeq s.heap.objs.size (·.pop)) _ _ _
    refine wpAny_bind (wpAny_updateSeq hS₁ rfl ?_)
    refine wpAny_updateSeq hS₂ rfl ?_
    refine wpAny_pure ⟨plainId_quiet F.plain_extend_loop _, codeAny_extend_loopS W hn _ hSf _ items.size 0 _ _ _ rfl (Nat.zero_le _) ⟨Nat.zero_le _, by rw [e0]; exact hit3, ht3⟩ hS₃ (ItemsOf.nil _) fun s' acc' c' hm hS' hacc => ?_⟩
    show wpAny _ A (load s.heap.objs.size >>= _) _ _ s'
    refine wpAny_bind (wpAny_load hS' ?_)
    refine wpAny_pure ?_
    rw [Moved.eq_with hm]
    refine hQ s'.heap s'.toks acc' (fun b o hb e => hm.heap b o (fun hmem => ?_) (oth b o (Nat.ne_of_lt (Heap.lt_size e)) (Heap.get?_push_of_some _ e))) hacc
    rcases List.mem_cons.mp hmem with e' | hmem
    · exact absurd (Heap.lt_size e) (by rw [e']; exact Nat.lt_irrefl _)
    · exact hb (List.mem_singleton.mp hmem)
end
end RT

set_option Elab.async false
set_option linter.all false
set_option maxRecDepth 100000
set_option maxHeartbeats 1000000
namespace RT
open PySem PySem.Spec PyProof.Rows L2
section
variable {prog : Program} {w : World} {A : Around} {E : Value → Shared → Prop} {s : Shared}
theorem code_tuple_new_rt {it l : Addr} {items : Array Value} {Q₁ : Value → Shared → Prop} (hh : A.handled = none) (hit : IsRt s.heap it l ((items.size : Int) - 1)) (hl : IsTup s.heap l items) (hne : l ≠ it) (hn : items.size ≤ sizeLine)
    (h : ∀ (h' : Heap) (tk : Nat) (acc : Array Value), (∀ b o, b ≠ it → s.heap.get? b = some o → h'.get? b = some o) → ItemsOf (fun i v => items[items.size - 1 - i]? = some v) acc items.size →
      Q₁ (.ref h'.objs.size) { s with heap := h'.push { cls := .type "tuple", data := .seq acc }, toks := tk }) :
    codeAny (model prog w) A (.call (.builtin "tuple.__new__") ⟨[.type "tuple", .ref it], []⟩) (wants Q₁ E) s := by
  refine codeAny_of_tree ?_
  show wpAny _ A.in1 (do checkBuiltinCall "tuple.__new__" ⟨[.type "tuple", .ref it], []⟩; again (.builtin "tuple.__new__" ⟨[.type "tuple", .ref it], []⟩)) _ _ s
  refine wpAny_bind (wpAny_of_eq (F.newCall_tuple_1 _) (wpAny_pure ⟨plainId_quiet F.plain_tuple_new _, codeAny_builtin F.entry_tuple_new ?_⟩))
  rw [Around.under_plainId F.plain_tuple_new _]
  have hsub := sub_tuple_self
  have hinit := init_tuple_lookup
  have hmh := madeHere_tuple
  have hTI : s.TypeIs (.ref it) "reversed" := hit.typeIs
  have hh1 : A.in1.handled = none := hh
  wp_walk using wpAny_typeOf hTI, collect_rt (A := A.in1) hh1 hit hl hne hn
  intro h' tk acc hk hacc
  show wpAny _ _ (Builtin.Tuple.tupleExact acc.toList.toArray >>= fun v => ret v) _ _ _
  unfold Builtin.Tuple.tupleExact
  refine wpAny_bind (wpAny_newObj_type ?_ (by show acc.toList.toArray.size ≤ sizeLine; simp only [Array.toArray_toList]; rw [hacc.1]; exact hn))
  refine wpAny_pure ?_
  have e : acc.toList.toArray = acc := by simp
  rw [e]
  exact h h' tk acc hk hacc
theorem call_tuple_rt {it l : Addr} {items : Array Value} {Q : Value → Shared → Prop} (hh : A.handled = none) (hit : IsRt s.heap it l ((items.size : Int) - 1)) (hl : IsTup s.heap l items) (hne : l ≠ it) (hn : items.size ≤ sizeLine)
    (hQ : ∀ (h' : Heap) (tk : Nat) (acc : Array Value), (∀ b o, b ≠ it → s.heap.get? b = some o → h'.get? b = some o) → ItemsOf (fun i v => items[items.size - 1 - i]? = some v) acc items.size →
      Q (.ref h'.objs.size) { s with heap := h'.push { cls := .type "tuple", data := .seq acc }, toks := tk }) :
    wpAny (model prog w) A (call (.type "tuple") [.ref it]) Q E s := by
  refine callType_codes (Q₁ := fun obj s₁ => s₁.TypeIs obj "tuple" ∧ Q obj s₁) F.called_tuple (F.typeCall_tuple_1 _) F.entry_object_init
    (code_tuple_new_rt (A := A.in1) hh hit hl hne hn fun h' tk acc hk hacc => ⟨⟨_, Heap.get?_push_size _ rfl, rfl⟩, hQ h' tk acc hk hacc⟩) fun obj s₁ h₁ => ?_
  exact ⟨h₁.1, F.args_object_init_2 obj _, object_init_meets F.called_tuple.init.lookup F.called_tuple.made (by decide) prog w A.in1 _ s₁ ⟨h₁.1, rfl, h₁.2⟩⟩
end
/-- tuple(reversed(x)), x a list or a tuple: a new tuple -/
def tTupRevA (K : PySem.W.Frag) (te : TE) : TE := fun σ H Q => te σ H fun v H1 => ∃ (a : Addr) (xs : List V), v = .ref a ∧ (SqL K H1 a xs ∨ SqT K H1 a xs) ∧ ∀ q, H1 q = none → Q (.ref q) (upd H1 q (.tup xs.reverse))
section
variable {X : Cx}
theorem pe_tupRevA {e : Expr} {te : TE} {p p2 pos pos2 : Pos} (hc : X.calm = true) (hg : Gl X "tuple") (hm : X.mg "tuple" = none) (hg2 : Gl X "reversed") (hm2 : X.mg "reversed" = none) (he : PE X e te)
    (hs : starEach [e] X.env = (false, eval e X.env) :: starEach [] X.env := by rfl)
    (hs2 : starEach [.Call (.Name "reversed" p2) [e] [] pos2] X.env = (false, eval (.Call (.Name "reversed" p2) [e] [] pos2) X.env) :: starEach [] X.env := by rfl) :
    PE X (.Call (.Name "tuple" p) [.Call (.Name "reversed" p2) [e] [] pos2] [] pos) (tTupRevA X.K te) := by
  refine ⟨fun pins s σ H Q I h => ?_⟩
  refine Call_ (ld_blt I hg hm boot_tuple (PyProof.Rows.callWith_type1 (args_cons (Call_ (ld_blt I hg2 hm2 PyProof.Rows.boot_reversed (PyProof.Rows.callWith_type1 (args_cons (thn (he.run pins s σ H _ I h) fun u s1 ⟨v, H1, I1, r1, q1⟩ => args_nil ?_) hs) hs rfl))) hs2) hs2 rfl))
  obtain ⟨a, xs, ev, hq, q⟩ := q1
  subst ev
  obtain rfl : u = Value.ref a := r1
  rcases hq with hq | hq
  · obtain ⟨its, rv, p', hz⟩ := I1.list hq
    refine call_reversed_list p'.isList (args_nil ?_)
    have k0 : ∀ b o, s1.heap.get? b = some o → (s1.heap.push (revObj a ((its.toArray.size : Int) - 1))).get? b = some o := fun b o e => Heap.get?_push_of_some _ e
    have I2 : Inv X pins σ H1 { s1 with heap := s1.heap.push (revObj a ((its.toArray.size : Int) - 1)) } := I1.kept (t' := s1.toks) k0
    obtain ⟨f0, f1, f2, f3, f4, f5⟩ := I1.fpOk (H' := H1) (b := s1.heap.objs.size) (Nat.le_refl _) (I1.hok.fresh (Nat.le_refl _))
    have hl := p'.isList
    obtain ⟨ol, hol, _⟩ := id hl
    have hne : a ≠ s1.heap.objs.size := Nat.ne_of_lt (Heap.lt_size hol)
    have hn : its.toArray.size ≤ sizeLine := by rw [List.size_toArray, ← rv.length]; exact hz
    refine call_tuple_rev (s := { s1 with heap := s1.heap.push (revObj a ((its.toArray.size : Int) - 1)) }) (I1.ok.hd hc) ⟨_, Heap.get?_push_size _ rfl, rfl, rfl⟩ (hl.push _) hne hn fun h' tk acc hk hi => ?_
    have I3 : Inv X pins σ H1 { s1 with heap := h', toks := tk } := I2.turned (t' := tk) (fun b o hb e => hk b o hb e) f0 f1 f3 f4 f5
    refine ⟨.ref h'.objs.size, upd H1 h'.objs.size (.tup xs.reverse), I3.laid (t' := tk) (fun c o e => Heap.get?_push_of_some _ e) (Nat.le_refl _) (show ObjOk X.prog X.w _ _ _ (.tup xs.reverse) from ⟨by rw [List.length_reverse]; exact hz, acc.toList, vals_rev rv hi, ?_⟩), rfl, q _ (I3.hok.fresh (Nat.le_refl _))⟩
    rw [Array.toArray_toList]
    exact IsTup.new _ _
  · obtain ⟨its, rv, p', hz⟩ := I1.tuple hq
    have hn := line63
    have hsz : its.toArray.size ≤ sizeLine := by rw [List.size_toArray, ← rv.length]; exact hz
    refine call_reversed_tup p' (fun A E Q k => len_tuple p' (by simp only [List.size_toArray] at hsz ⊢; rw [sizeLine_eq] at hsz; omega) k) (args_nil ?_)
    have I2 : Inv X pins σ H1 { s1 with heap := s1.heap.push (rtObj a ((its.toArray.size : Int) - 1)), toks := s1.toks + 1 + 1 } := I1.kept (t' := s1.toks + 1 + 1) (fun b o e => Heap.get?_push_of_some _ e)
    obtain ⟨f0, f1, f2, f3, f4, f5⟩ := I1.fpOk (H' := H1) (b := s1.heap.objs.size) (Nat.le_refl _) (I1.hok.fresh (Nat.le_refl _))
    obtain ⟨ol, hol, hrest⟩ := id p'
    have hne : a ≠ s1.heap.objs.size := Nat.ne_of_lt (Heap.lt_size hol)
    have p2 : IsTup (s1.heap.push (rtObj a ((its.toArray.size : Int) - 1))) a its.toArray := ⟨ol, Heap.get?_push_of_some _ hol, hrest⟩
    refine call_tuple_rt (s := { s1 with heap := s1.heap.push (rtObj a ((its.toArray.size : Int) - 1)), toks := s1.toks + 1 + 1 }) (I1.ok.hd hc) ⟨_, Heap.get?_push_size _ rfl, rfl, rfl⟩ p2 hne hsz fun h' tk acc hk hi => ?_
    have I3 : Inv X pins σ H1 { s1 with heap := h', toks := tk } := I2.turned (t' := tk) (fun b o hb e => hk b o hb e) f0 f1 f3 f4 f5
    refine ⟨.ref h'.objs.size, upd H1 h'.objs.size (.tup xs.reverse), I3.laid (t' := tk) (fun c o e => Heap.get?_push_of_some _ e) (Nat.le_refl _) (show ObjOk X.prog X.w _ _ _ (.tup xs.reverse) from ⟨by rw [List.length_reverse]; exact hz, acc.toList, vals_rev rv hi, ?_⟩), rfl, q _ (I3.hok.fresh (Nat.le_refl _))⟩
    rw [Array.toArray_toList]
    exact IsTup.new _ _
end
end RT

set_option Elab.async false
set_option linter.all false
set_option maxRecDepth 100000
set_option maxHeartbeats 4000000
/-! D18: tuple(reversed(x)). -/
namespace DL
open PySem PySem.Spec PyProof.Rows L2
def gTupRev (g : G) : G := fun δ => (g δ).bind fun r => match r.d with
  | .tup ds => some (mkR (.tup ds.reverse))
  | .lst ds => some (mkR (.tup ds.reverse))
  | _ => none
theorem RpL.reverse {K : KF} {H : Hp} : ∀ {ds : List D} {xs : List V}, RpL K H ds xs → RpL K H ds.reverse xs.reverse
  | [], xs, h => by unfold RpL at h; rw [h]; unfold RpL; rfl
  | d :: ds, xs, h => by
    unfold RpL at h
    obtain ⟨x, ys, rfl, q, r⟩ := h
    rw [List.reverse_cons, List.reverse_cons]
    exact RpL.append (RpL.reverse r) (by unfold RpL; exact ⟨x, [], rfl, q, by unfold RpL; rfl⟩)
section
variable {Tb : Pm} {X : Cx} {a : Expr} {ga : G} {pos : Pos}
theorem de_tupRev {p p2 pos2 : Pos} (hc : X.calm = true) (hm : X.mg "tuple" = none) (hm2 : X.mg "reversed" = none) (ha : DE Tb X a ga) (hg : Gl X "tuple" := by rfl) (hg2 : Gl X "reversed" := by rfl) (na : starEach [a] X.env = (false, eval a X.env) :: starEach [] X.env := by rfl)
    (na2 : starEach [.Call (.Name "reversed" p2) [a] [] pos2] X.env = (false, eval (.Call (.Name "reversed" p2) [a] [] pos2) X.env) :: starEach [] X.env := by rfl) : DE Tb X (.Call (.Name "tuple" p) [.Call (.Name "reversed" p2) [a] [] pos2] [] pos) (gTupRev ga) := by
  refine ⟨pe_imp (RT.pe_tupRevA hc hg hm hg2 hm2 ha.pe na na2) fun σ H Q h => ?_⟩
  obtain ⟨B, C, δ, Φ, r, S, e, k⟩ := h
  obtain ⟨x, e1, e2⟩ := bind1_some e
  refine ⟨B, C, δ, Φ, x, S, e1, fun v H' φ s q _ _ => ?_⟩
  have q := q.rp S.bc (S.ch.trans s)
  split at e2
  · rename_i ds hx
    rw [hx] at q
    cases e2
    unfold Rp at q
    obtain ⟨b, xs, rfl, hq, r⟩ := q
    refine ⟨b, xs, rfl, .inr hq, fun t ht => ?_⟩
    refine k _ _ [] (s.trans (same_upd ht)) (rr_mk ?_) no_fresh List.nodup_nil
    unfold Rp
    exact ⟨t, _, rfl, SqT.of upd_same, r.reverse.mono (same_upd ht)⟩
  · rename_i ds hx
    rw [hx] at q
    cases e2
    unfold Rp at q
    obtain ⟨b, xs, rfl, hq, r⟩ := q
    refine ⟨b, xs, rfl, .inl (SqL.of hq), fun t ht => ?_⟩
    refine k _ _ [] (s.trans (same_upd ht)) (rr_mk ?_) no_fresh List.nodup_nil
    unfold Rp
    exact ⟨t, _, rfl, SqT.of upd_same, r.reverse.mono (same_upd ht)⟩
  · cases e2
end
section
variable {Tb : Pm} {X : Cx} {e a b c o : Expr} {pos : Pos}
/-- xs.append(e), e may raise -/
def gAppX (i : Nat) (g : GX) : GS := fun δ => (g δ).bind fun x => match δ.getD i .no, x with
  | .own (.lst ds), .ok r => if ds.length < sizeLine ∧ r.okEl = true then some (.nx (purge (δ.set i (.own (.lst (ds ++ [r.d])))))) else none
  | .own (.lst _), .ex c => some (.ex c δ)
  | _, _ => none
theorem app_useX {K : KF} {i : Nat} {gx : GX} {En : Ends} {σ : L2.St} {H : Hp} (h : tDS Tb K (gAppX i gx) En σ H) : tDrop (tBM K "list" rAppend (tVar i) (tCons (tDX Tb K gx) tNil)) En σ H := by
  obtain ⟨B, C, δ, Φ, o, S, e, k⟩ := h
  obtain ⟨x, e1, e2⟩ := bind1_some e
  split at e2
  · rename_i ds r hd
    split at e2
    · rename_i hz
      cases e2
      obtain ⟨l, xs, ψ, hs, hl, ow, hp⟩ := S.list hd
      refine ⟨_, hs, .inl ⟨rfl, xs, SqL.of hl⟩, B, C, δ, Φ, .ok r, S, e1, fun y H1 φ s q f n => ?_⟩
      have hl1 := s.get hl
      have lenx : xs.length = ds.length := (OwL.rp _ _ _ ow).length
      refine ⟨l, xs, y, rfl, rfl, hl1, by omega, ?_⟩
      have nd := S.nd i
      rw [hp] at nd
      obtain ⟨nl, nψ⟩ := List.nodup_cons.mp nd
      have fl : ∀ a ∈ φ, a ≠ l := fun a ha z => by
        have := f a ha
        rw [z, hl] at this; cases this
      have tk1 := tk_lst (ys := xs ++ [y]) hl1
      have S1 := S.same s
      refine k σ _ _ (S1.mut (H' := upd H1 l (.lst (xs ++ [y]))) (d' := .lst (ds ++ [r.d])) (φ' := l :: (ψ ++ φ)) hd hs (fun a o ha e3 => ?_) ?_ ?_ fun a ha => ?_) (lk_mut hd)
      · rw [upd_ne (fun z => ha (by rw [hp, z]; exact List.mem_cons_self))]; exact e3
      · unfold Ow
        refine ⟨l, _, ψ ++ φ, rfl, upd_same, OwL.append (OwL.mono tk1 _ _ _ (fun a ha => upd_ne fun z => nl (z ▸ ha)) (OwL.same s ow)) ?_, rfl⟩
        refine OwL.mono tk1 [r.d] [y] φ (fun a ha => upd_ne (fl a ha)) ?_
        unfold OwL
        exact ⟨y, [], φ, [], rfl, okEl_ow q hz.2, by unfold OwL; exact ⟨rfl, rfl⟩, by simp⟩
      · refine List.nodup_cons.mpr ⟨fun z => ?_, List.nodup_append.mpr ⟨nψ, n, fun a ha b hb z => ?_⟩⟩
        · rcases List.mem_append.mp z with z | z
          · exact nl z
          · exact fl l z rfl
        · subst z
          obtain ⟨ys, w, mt_w⟩ := S.trk (show a ∈ Φ i by rw [hp]; exact List.mem_cons_of_mem _ ha)
          rw [f a hb] at w; cases w
      · rcases List.mem_cons.mp ha with rfl | ha
        · exact .inl (by rw [hp]; exact List.mem_cons_self)
        · rcases List.mem_append.mp ha with ha | ha
          · exact .inl (by rw [hp]; exact List.mem_cons_of_mem _ ha)
          · refine .inr ⟨S.ch.free (f a ha), fun j hb => ?_⟩
            obtain ⟨ys, w, mt_w⟩ := S.trk hb
            rw [f a ha] at w; cases w
    · cases e2
  · rename_i ds c hd
    cases e2
    obtain ⟨l, xs, ψ, hs, hl, ow, hp⟩ := S.list hd
    exact ⟨_, hs, .inl ⟨rfl, xs, SqL.of hl⟩, B, C, δ, Φ, .ex c, S, e1, fun cls H' m s => k cls σ H' Φ m (S.same s) Lk.refl⟩
  · cases e2
theorem ds_appX (i : Nat) {x : Str} {p apos cpos : Pos} {gx : GX} (he : DEX Tb X e gx) (hN : X.N[i]? = some x := by rfl) (hv : Vis X.env.scope x := by first | exact Or.inl rfl | exact Or.inr (Or.inl rfl) | exact Or.inr (Or.inr rfl)) (hd : (x == ("__debug__" : Str)) = false := by decide)
    (hcd : (x == ("__classdict__" : Str)) = false := by decide) (hs : swapsWith (.Call (.Attribute (.Name x p) "append" apos) [e] [] cpos) none pos.line X.env = pure false := by rfl) (hst : starEach [e] X.env = (false, eval e X.env) :: starEach [] X.env := by rfl)
    (hbase : attributeBase (.Name x p) "append" X.env (eval (.Name x p) X.env) = eval (.Name x p) X.env := by rfl)
    (hfew : ((backTo cpos (starEach [e] X.env)).all (fun x => !x.1) && (backToKw cpos (keywordEach [] X.env)).all (fun x => x.1.isSome) && decide ([e].length + ([] : List Keyword).length + (if ([] : List Keyword).isEmpty then 0 else 1) < 30)) = true := by rfl)
    (hline : (apos.endLine == cpos.line) = true := by rfl) (hplain : (backTo cpos (starEach ([] : List Expr) X.env)).any (·.1) = false := by rfl) : DS Tb X (.Expr (.Call (.Attribute (.Name x p) "append" apos) [e] [] cpos) pos) (gAppX i gx) :=
  ⟨ps_imp (ps_expr (pe_bm PySem.F.plainAttrs_list PySem.F.slot_list_append PySem.F.type_list_append mt_append (pe_var hN hv hd hcd) (pa_cons he.pe pa_nil hst) hbase hfew hline hst hplain) hs) fun En σ H h => app_useX h⟩
end
end DL

set_option Elab.async false
set_option linter.all false
set_option maxRecDepth 100000
set_option maxHeartbeats 4000000
/-! D19: in, not in; sorted of tuples of ints. -/
namespace DL
open PySem PySem.Spec PyProof.Rows L2
/-- x in a list -/
def inD (d e : D) : Option R := match e with
  | .lst ds => if eqOk d = true ∧ eqOk (.lst ds) = true then some (.val (.bl (ds.any fun z => eqB z d))) else none
  | _ => none
def ninD (d e : D) : Option R := match e with
  | .lst ds => if eqOk d = true ∧ eqOk (.lst ds) = true then some (.val (.bl (!ds.any fun z => eqB z d))) else none
  | _ => none
theorem any_pd (d : D) : ∀ ds : List D, (pdL ds).any (fun z => PyData.eqv z (pd d)) = ds.any fun z => eqB z d
  | [] => by unfold pdL; rfl
  | e :: ds => by
    unfold pdL
    rw [List.any_cons, List.any_cons, any_pd d ds]
    rfl
section
variable {X : Cx}
theorem od_in {k : Nat} (hr : Room k X.A) : OpD X (compareOp .In) inD := by
  refine ⟨_, op_inD (by have := hr.un; omega), fun B C H x y Q d e c hx hy h k => ?_⟩
  unfold inD at h
  split at h
  · rename_i ds
    split at h
    · rename_i hz
      cases h
      have dy := Rp.dp _ _ (eqOk_hd hz.2) hy
      have sy := eqOk_sh hz.2
      unfold pd at dy sy
      refine ⟨pd d, pdL ds, Rp.dp _ _ (eqOk_hd hz.1) hx, dy, eqOk_sh hz.1, sy, ?_⟩
      rw [any_pd]
      exact k _ H [] (Same.refl _) rr_bl no_fresh List.nodup_nil
    · cases h
  · cases h
theorem od_nin {k : Nat} (hr : Room k X.A) : OpD X (compareOp .NotIn) ninD := by
  refine ⟨_, op_notInD (by have := hr.un; omega), fun B C H x y Q d e c hx hy h k => ?_⟩
  unfold ninD at h
  split at h
  · rename_i ds
    split at h
    · rename_i hz
      cases h
      have dy := Rp.dp _ _ (eqOk_hd hz.2) hy
      have sy := eqOk_sh hz.2
      unfold pd at dy sy
      refine ⟨pd d, pdL ds, Rp.dp _ _ (eqOk_hd hz.1) hx, dy, eqOk_sh hz.1, sy, ?_⟩
      rw [any_pd]
      exact k _ H [] (Same.refl _) rr_bl no_fresh List.nodup_nil
    · cases h
  · cases h
/-- words in rising order -/
def sortW (ws : List (List Int)) : List (List Int) := ws.mergeSort fun a b => !HT.lexLt b a
theorem sortW_perm (ws : List (List Int)) : (sortW ws).Perm ws := List.mergeSort_perm ws _
theorem sortW_rise (ws : List (List Int)) : (sortW ws).Pairwise (fun a b => HT.lexLt b a = false) := by
  have := List.pairwise_mergeSort (le := fun a b : List Int => !HT.lexLt b a) (fun a b c h1 h2 => by
    rw [Bool.not_eq_true'] at h1 h2 ⊢
    exact SrtO.swo_lexI.tr a b c h1 h2) (fun a b => by
    cases h : HT.lexLt b a with
    | false => rfl
    | true =>
      rw [SrtO.swo_lexI.asym b a h]
      rfl) ws
  exact this.imp fun h => by rw [Bool.not_eq_true'] at h; exact h
theorem lex_anti {a b : List Int} (h1 : HT.lexLt b a = false) (h2 : HT.lexLt a b = false) : a = b := by
  have k1 := SrtO.lexLt_no.mp h1
  have k2 := SrtO.lexLt_no.mp h2
  exact List.le_antisymm (List.not_lt.mp k1) (List.not_lt.mp k2)
theorem sortW_uniq {ws us : List (List Int)} (h : us.Perm ws) (k : us.Pairwise fun a b => HT.lexLt b a = false) : us = sortW ws :=
  List.Perm.eq_of_pairwise (fun a b _ _ h1 h2 => lex_anti h1 h2) k (sortW_rise ws) (h.trans (sortW_perm ws).symm)
/-- all tuples of ints, none empty -/
def intLL : List D → Option (List (List Int))
  | [] => some []
  | .tup ds :: es => (intL ds).bind fun ns => if ns = [] then none else (intLL es).map (ns :: ·)
  | _ :: _ => none
theorem intLL_its {K : KF} {H : Hp} : ∀ {ds : List D} {ws : List (List Int)} {xs : List V}, intLL ds = some ws → RpL K H ds xs → ITs K H ws xs
  | [], ws, xs, h, r => by
    cases h
    unfold RpL at r
    subst r
    exact trivial
  | .tup es :: ds, ws, xs, h, r => by
    unfold intLL at h
    cases e1 : intL es with
    | none => rw [e1] at h; cases h
    | some ns =>
      rw [e1] at h
      have h : (if ns = [] then none else (intLL ds).map (ns :: ·)) = some ws := h
      split at h
      · cases h
      · rename_i hn
        obtain ⟨us, e2, rfl⟩ := map_some h
        unfold RpL at r
        obtain ⟨x, ys, rfl, q, r⟩ := r
        refine ⟨?_, intLL_its e2 r⟩
        unfold Rp at q
        obtain ⟨a, zs, rfl, q1, q2⟩ := q
        rw [intL_some e1 q2] at q1
        exact ⟨a, rfl, q1, hn⟩
  | .non :: _, _, _, h, _ => by cases h
  | .bl _ :: _, _, _, h, _ => by cases h
  | .int _ :: _, _, _, h, _ => by cases h
  | .str _ :: _, _, _, h, _ => by cases h
  | .lst _ :: _, _, _, h, _ => by cases h
  | .scr _ :: _, _, _, h, _ => by cases h
  | .dct _ _ :: _, _, _, h, _ => by cases h
  | .set _ _ :: _, _, _, h, _ => by cases h
theorem its_rp {K : KF} {H : Hp} : ∀ {ws : List (List Int)} {xs : List V}, ITs K H ws xs → RpL K H (ws.map fun w => .tup (w.map .int)) xs
  | [], xs, h => by
    cases xs with
    | nil => unfold RpL; rfl
    | cons x xs => exact h.elim
  | w :: ws, xs, h => by
    cases xs with
    | nil => exact h.elim
    | cons x xs =>
      obtain ⟨⟨t, rfl, h1, _⟩, h2⟩ := h
      rw [List.map_cons]
      unfold RpL
      refine ⟨_, _, rfl, ?_, its_rp h2⟩
      unfold Rp
      exact ⟨t, _, rfl, h1, rpL_ints w⟩
theorem puL_ws (ws : List (List Int)) : puL (ws.map fun w => D.tup (w.map .int)) = true := by
  induction ws with
  | nil => rfl
  | cons w ws ih =>
    show (puL (w.map D.int) && puL (ws.map fun w => D.tup (w.map .int))) = true
    rw [puL_ints, ih]
    rfl
def oSortedW : List R → Option R := one fun r => match r.d with
  | .lst ds => (intLL ds).map fun ws => .own (.lst ((sortW ws).map fun w => .tup (w.map .int)))
  | _ => none
theorem cd_sortedW : CallD X (.builtin "sorted") oSortedW := by
  refine ⟨_, cr_sortedIW, fun B C H vs φ Q rs c bc ch q n e k => ?_⟩
  obtain ⟨r, er, e1⟩ := one_some e
  clear e
  subst er
  obtain ⟨v, ev, q1⟩ := q.one
  clear q
  subst ev
  have q := q1.rp bc ch
  have e := e1
  clear e1 q1
  split at e
  · rename_i ds hx
    rw [hx] at q
    obtain ⟨ws, e1, rfl⟩ := map_some e
    unfold Rp at q
    obtain ⟨a, xs, rfl, ha, r⟩ := q
    refine ⟨a, xs, ws, rfl, SqL.of ha, intLL_its e1 r, fun ys us p h1 h2 h3 hp => ?_⟩
    rw [sortW_uniq h1 h2] at h3
    exact k _ _ [p] (same_upd hp) (ow_new hp (its_rp h3) (puL_ws _)) (fun b hb => by rw [List.mem_singleton.mp hb]; exact .inl hp) (by simp)
  · cases e
end
/-- sorted of ints or of tuples of ints -/
def oSortedX (rs : List R) : Option R := match oSorted rs with
  | some r => some r
  | none => oSortedW rs
theorem CallD.or {X : Cx} {f : Value} {o1 o2 o : List R → Option R} (h1 : CallD X f o1) (h2 : CallD X f o2) (h : ∀ rs r, o rs = some r → o1 rs = some r ∨ o2 rs = some r) : CallD X f o := by
  obtain ⟨r1, a1, b1⟩ := h1
  obtain ⟨r2, a2, b2⟩ := h2
  refine ⟨fun vs H Q => r1 vs H Q ∨ r2 vs H Q, fun pins s σ H vs us Q I r q => ?_, fun B C H vs φ Q rs c bc ch q n e k => ?_⟩
  · rcases q with q | q
    · exact a1 pins s σ H vs us Q I r q
    · exact a2 pins s σ H vs us Q I r q
  · rcases h rs c e with e | e
    · exact .inl (b1 B C H vs φ Q rs c bc ch q n e k)
    · exact .inr (b2 B C H vs φ Q rs c bc ch q n e k)
theorem cd_sortedX {X : Cx} : CallD X (.builtin "sorted") oSortedX := CallD.or cd_sorted cd_sortedW fun rs r e => by
  unfold oSortedX at e
  split at e
  · rename_i r' h
    cases e
    exact .inl h
  · exact .inr e
end DL

set_option Elab.async false
set_option linter.all false
set_option maxRecDepth 100000
set_option maxHeartbeats 4000000
/-! D20: <, sorted of nested tuples of ints. -/
namespace DL
open PySem PySem.Spec PyProof.Rows L2 SrtO
mutual
def toK : D → Option NestedKey
  | .int i => some (.num i)
  | .tup ds => (toKs ds).map .tup
  | _ => none
def toKs : List D → Option (List NestedKey)
  | [] => some []
  | d :: ds => (toK d).bind fun k => (toKs ds).map (k :: ·)
end
mutual
def ofK : NestedKey → D
  | .none => .non
  | .num i => .int i
  | .text t => .str t
  | .tup ks => .tup (ofKs ks)
def ofKs : List NestedKey → List D
  | [] => []
  | k :: ks => ofK k :: ofKs ks
end
theorem ofKs_map : ∀ ks : List NestedKey, ofKs ks = ks.map ofK
  | [] => by rw [ofKs]; rfl
  | k :: ks => by rw [ofKs, ofKs_map ks]; rfl
mutual
theorem toK_nv {K : KF} {H : Hp} : ∀ (d : D) (k : NestedKey) (x : V), toK d = some k → Rp K H d x → NV K H k x
  | .int i, _, _, h, r => by
    rw [toK] at h
    cases h
    rw [NV]
    exact rp_int r
  | .tup ds, _, _, h, r => by
    rw [toK] at h
    obtain ⟨ks, e, rfl⟩ := map_some h
    rw [NV]
    unfold Rp at r
    obtain ⟨a, xs, rfl, q, r⟩ := r
    exact ⟨a, xs, rfl, q, toKs_nvs ds ks xs e r⟩
  | .non, _, _, h, _ => by rw [toK] at h <;> first | cases h | (intros; simp_all)
  | .bl _, _, _, h, _ => by rw [toK] at h <;> first | cases h | (intros; simp_all)
  | .str _, _, _, h, _ => by rw [toK] at h <;> first | cases h | (intros; simp_all)
  | .lst _, _, _, h, _ => by rw [toK] at h <;> first | cases h | (intros; simp_all)
  | .scr _, _, _, h, _ => by rw [toK] at h <;> first | cases h | (intros; simp_all)
  | .dct _ _, _, _, h, _ => by rw [toK] at h <;> first | cases h | (intros; simp_all)
  | .set _ _, _, _, h, _ => by rw [toK] at h <;> first | cases h | (intros; simp_all)
theorem toKs_nvs {K : KF} {H : Hp} : ∀ (ds : List D) (ks : List NestedKey) (xs : List V), toKs ds = some ks → RpL K H ds xs → NVs K H ks xs
  | [], _, _, h, r => by
    rw [toKs] at h
    cases h
    unfold RpL at r
    rw [NVs]
    exact r
  | d :: ds, _, _, h, r => by
    rw [toKs] at h
    obtain ⟨k, e1, h⟩ := bind1_some h
    obtain ⟨ks, e2, rfl⟩ := map_some h
    unfold RpL at r
    obtain ⟨x, ys, rfl, q, r⟩ := r
    rw [NVs]
    exact ⟨x, ys, rfl, toK_nv d k x e1 q, toKs_nvs ds ks ys e2 r⟩
end
mutual
theorem nv_rp {K : KF} {H : Hp} : ∀ (k : NestedKey) (x : V), NV K H k x → Rp K H (ofK k) x
  | .num i, _, h => by
    rw [NV] at h
    rw [ofK]
    unfold Rp
    exact h
  | .tup ks, _, h => by
    rw [NV] at h
    obtain ⟨t, xs, rfl, q, r⟩ := h
    rw [ofK]
    unfold Rp
    exact ⟨t, xs, rfl, q, nvs_rpL ks xs r⟩
  | .none, _, h => by rw [NV] at h; exact h.elim
  | .text _, _, h => by rw [NV] at h; exact h.elim
theorem nvs_rpL {K : KF} {H : Hp} : ∀ (ks : List NestedKey) (xs : List V), NVs K H ks xs → RpL K H (ofKs ks) xs
  | [], _, h => by
    rw [NVs] at h
    rw [ofKs]
    unfold RpL
    exact h
  | k :: ks, _, h => by
    rw [NVs] at h
    obtain ⟨x, ys, rfl, q, r⟩ := h
    rw [ofKs]
    unfold RpL
    exact ⟨x, ys, rfl, nv_rp k x q, nvs_rpL ks ys r⟩
end
mutual
theorem pu_ofK : ∀ k : NestedKey, pu (ofK k) = true
  | .none => by rw [ofK]; rfl
  | .num _ => by rw [ofK]; rfl
  | .text _ => by rw [ofK]; rfl
  | .tup ks => by rw [ofK]; exact puL_ofKs ks
theorem puL_ofKs : ∀ ks : List NestedKey, puL (ofKs ks) = true
  | [] => by rw [ofKs]; rfl
  | k :: ks => by
    rw [ofKs]
    show (pu (ofK k) && puL (ofKs ks)) = true
    rw [pu_ofK k, puL_ofKs ks]
    rfl
end
mutual
theorem toK_n : ∀ (d : D) (k : NestedKey), toK d = some k → SrtO.isN k = true
  | .int i, _, h => by
    rw [toK] at h
    cases h
    rw [SrtO.isN]
  | .tup ds, _, h => by
    rw [toK] at h
    obtain ⟨ks, e, rfl⟩ := map_some h
    rw [SrtO.isN]
    exact toKs_n ds ks e
  | .non, _, h => by rw [toK] at h <;> first | cases h | (intros; simp_all)
  | .bl _, _, h => by rw [toK] at h <;> first | cases h | (intros; simp_all)
  | .str _, _, h => by rw [toK] at h <;> first | cases h | (intros; simp_all)
  | .lst _, _, h => by rw [toK] at h <;> first | cases h | (intros; simp_all)
  | .scr _, _, h => by rw [toK] at h <;> first | cases h | (intros; simp_all)
  | .dct _ _, _, h => by rw [toK] at h <;> first | cases h | (intros; simp_all)
  | .set _ _, _, h => by rw [toK] at h <;> first | cases h | (intros; simp_all)
theorem toKs_n : ∀ (ds : List D) (ks : List NestedKey), toKs ds = some ks → isNs ks = true
  | [], _, h => by
    rw [toKs] at h
    cases h
    rw [isNs]
  | d :: ds, _, h => by
    rw [toKs] at h
    obtain ⟨k, e1, h⟩ := bind1_some h
    obtain ⟨ks, e2, rfl⟩ := map_some h
    rw [isNs, toK_n d k e1, toKs_n ds ks e2]
    rfl
end
theorem isNs_mem : ∀ {ks : List NestedKey}, isNs ks = true → ∀ k ∈ ks, SrtO.isN k = true
  | j :: ks, h, k, hk => by
    rw [isNs] at h
    obtain ⟨h1, h2⟩ := Bool.and_eq_true_iff.mp h
    rcases List.mem_cons.mp hk with rfl | hk
    · exact h1
    · exact isNs_mem h2 k hk
/-- < of ints, of tuples of ints, of nests of ints -/
def ltN (d e : D) : Option R := (toK d).bind fun a => (toK e).bind fun b => if kcm a b = true ∧ a.depth ≤ 50 then some (.val (.bl (klt a b))) else none
def ltX (d e : D) : Option R := match ltD d e with
  | some r => some r
  | none => ltN d e
theorem od_ltN {X : Cx} {k : Nat} (hr : Room k X.A) : OpD X (compareOp .Lt) ltN := by
  refine ⟨_, op_ltN (by have := hr.un; omega), fun B C H x y Q d e c hx hy h k => ?_⟩
  obtain ⟨a, e1, h⟩ := bind1_some h
  obtain ⟨b, e2, h⟩ := bind1_some h
  split at h
  · rename_i hz
    cases h
    exact ⟨a, b, toK_nv d a x e1 hx, toK_nv e b y e2 hy, hz.1, hz.2, k _ H [] (Same.refl _) rr_bl no_fresh List.nodup_nil⟩
  · cases h
theorem OpD.or {X : Cx} {f : Value → Value → Sem Value} {o1 o2 o : D → D → Option R} (h1 : OpD X f o1) (h2 : OpD X f o2) (h : ∀ d e r, o d e = some r → o1 d e = some r ∨ o2 d e = some r) : OpD X f o := by
  obtain ⟨r1, a1, b1⟩ := h1
  obtain ⟨r2, a2, b2⟩ := h2
  refine ⟨_, OpR.or a1 a2, fun B C H x y Q d e c hx hy he k => ?_⟩
  rcases h d e c he with q | q
  · exact .inl (b1 B C H x y Q d e c hx hy q k)
  · exact .inr (b2 B C H x y Q d e c hx hy q k)
theorem od_ltX {X : Cx} {k : Nat} (hr : Room k X.A) : OpD X (compareOp .Lt) ltX := OpD.or (od_lt hr) (od_ltN hr) fun d e r h => by
  unfold ltX at h
  split at h
  · rename_i r' h'
    cases h
    exact .inl h'
  · exact .inr h
/-- in rising order -/
def sortN (ks : List NestedKey) : List NestedKey := ks.mergeSort fun a b => !nlt b a
theorem sortN_perm (ks : List NestedKey) : (sortN ks).Perm ks := List.mergeSort_perm ks _
theorem sortN_rise (ks : List NestedKey) : (sortN ks).Pairwise (fun a b => nlt b a = false) := by
  have := List.pairwise_mergeSort (le := fun a b : NestedKey => !nlt b a) (fun a b c h1 h2 => by
    rw [Bool.not_eq_true'] at h1 h2 ⊢
    exact swo_nlt.tr a b c h1 h2) (fun a b => by
    cases h : nlt b a with
    | false => rfl
    | true =>
      rw [swo_nlt.asym b a h]
      rfl) ks
  exact this.imp fun h => by rw [Bool.not_eq_true'] at h; exact h
theorem sortN_uniq {ks us : List NestedKey} (hn : isNs ks = true) (h : us.Perm ks) (k : us.Pairwise fun a b => nlt b a = false) : us = sortN ks :=
  List.Perm.eq_of_pairwise (fun a b ha hb h1 h2 => nlt_anti (isNs_mem hn a (h.mem_iff.mp ha)) (isNs_mem hn b ((sortN_perm ks).mem_iff.mp hb)) h1 h2) k (sortN_rise ks) (h.trans (sortN_perm ks).symm)
def fNum : NestedKey → Bool
  | .tup (.num _ :: _) => true
  | _ => false
def fTup : NestedKey → Bool
  | .tup (.tup _ :: _) => true
  | _ => false
/-- they can be sorted -/
def sbOk (ks : List NestedKey) : Bool := (ks.all fNum || ks.all fTup) && ks.all (fun a => ks.all (kcm a)) && ks.all fun a => decide (a.depth ≤ 50)
def oSortedK : List R → Option R := one fun r => match r.d with
  | .lst ds => (toKs ds).bind fun ks => if sbOk ks = true then some (.own (.lst ((sortN ks).map ofK))) else none
  | _ => none
theorem fNum_some {k : NestedKey} (h : fNum k = true) : ∃ k0 es, k = .tup (k0 :: es) ∧ ∃ i, k0 = .num i := by
  unfold fNum at h
  split at h
  · exact ⟨_, _, rfl, _, rfl⟩
  · cases h
theorem fTup_some {k : NestedKey} (h : fTup k = true) : ∃ k0 es, k = .tup (k0 :: es) ∧ ∃ gs, k0 = .tup gs := by
  unfold fTup at h
  split at h
  · exact ⟨_, _, rfl, _, rfl⟩
  · cases h
theorem cd_sortedK {X : Cx} {k : Nat} (hr : Room k X.A) : CallD X (.builtin "sorted") oSortedK := by
  refine ⟨_, cr_sortedN (by have := hr.un; omega), fun B C H vs φ Q rs c bc ch q n e k => ?_⟩
  obtain ⟨r, er, e1⟩ := one_some e
  clear e
  subst er
  obtain ⟨v, ev, q1⟩ := q.one
  clear q
  subst ev
  have q := q1.rp bc ch
  have e := e1
  clear e1 q1
  split at e
  · rename_i ds hx
    rw [hx] at q
    obtain ⟨ks, e1, e⟩ := bind1_some e
    split at e
    · rename_i hs
      cases e
      unfold Rp at q
      obtain ⟨a, xs, rfl, ha, r⟩ := q
      unfold sbOk at hs
      simp only [Bool.and_eq_true, Bool.or_eq_true] at hs
      obtain ⟨⟨h1, h2⟩, h3⟩ := hs
      have fin : ∀ ys us p, us.Perm ks → us.Pairwise (fun x y => nlt y x = false) → NVs X.KK H us ys → H p = none → Q (.ref p) (upd H p (.lst ys)) := fun ys us p g1 g2 g3 hp => by
        rw [sortN_uniq (toKs_n ds ks e1) g1 g2] at g3
        have g4 := nvs_rpL _ _ g3
        rw [ofKs_map] at g4
        exact k _ _ [p] (same_upd hp) (ow_new hp g4 (by rw [← ofKs_map]; exact puL_ofKs _)) (fun b hb => by rw [List.mem_singleton.mp hb]; exact .inl hp) (by simp)
      have cm : ∀ k ∈ ks, ∀ j ∈ ks, kcm k j = true := fun k hk j hj => List.all_eq_true.mp (List.all_eq_true.mp h2 k hk) j hj
      have dp : ∀ k ∈ ks, k.depth ≤ 50 := fun k hk => of_decide_eq_true (List.all_eq_true.mp h3 k hk)
      rcases h1 with h1 | h1
      · exact ⟨a, xs, ks, true, rfl, SqL.of ha, toKs_nvs ds ks xs e1 r, fun k hk => by
          obtain ⟨k0, es, e, i⟩ := fNum_some (List.all_eq_true.mp h1 k hk)
          exact ⟨k0, es, e, (fun _ => i), (fun z => nomatch z)⟩, cm, dp, fin⟩
      · exact ⟨a, xs, ks, false, rfl, SqL.of ha, toKs_nvs ds ks xs e1 r, fun k hk => by
          obtain ⟨k0, es, e, i⟩ := fTup_some (List.all_eq_true.mp h1 k hk)
          exact ⟨k0, es, e, (fun z => nomatch z), (fun _ => i)⟩, cm, dp, fin⟩
    · cases e
  · cases e
/-- sorted of ints, of tuples of ints, of nests of ints -/
def oSortedN (rs : List R) : Option R := match oSortedX rs with
  | some r => some r
  | none => oSortedK rs
theorem cd_sortedN {X : Cx} {k : Nat} (hr : Room k X.A) : CallD X (.builtin "sorted") oSortedN := CallD.or cd_sortedX (cd_sortedK hr) fun rs r e => by
  unfold oSortedN at e
  split at e
  · rename_i r' h
    cases e
    exact .inl h
  · exact .inr e
end DL

set_option Elab.async false
set_option linter.all false
set_option maxRecDepth 100000
set_option maxHeartbeats 4000000
/-! GK1: sorted(xs, key=f), f a def of plain data. -/
namespace DL
open PySem PySem.Spec PyProof.Rows L2 PySem.W FbM
/-- the key -/
def kD (F : List D → Option R) (d : D) : D := match F [d] with
  | some (.val k) => k
  | _ => .non
def sortKD (kf : D → D) (ds : List D) : List D := ds.mergeSort (dataLe false fun d => pd (kf d))
theorem rpl_get {K : KF} {H : Hp} : ∀ {ds : List D} {xs : List V} {j : Nat} {d : D} {x : V}, RpL K H ds xs → ds[j]? = some d → xs[j]? = some x → Rp K H d x
  | [], _, _, _, _, _, e, _ => by simp at e
  | d :: ds, xs, j, d', x', h, e1, e2 => by
    unfold RpL at h
    obtain ⟨x, ys, rfl, q, r⟩ := h
    cases j with
    | zero => simp at e1 e2; subst e1; subst e2; exact q
    | succ j => simp at e1 e2; exact rpl_get r e1 e2
theorem rpl_one {K : KF} {H : Hp} {d : D} {x : V} (h : Rp K H d x) : RpL K H [d] [x] := by
  unfold RpL
  exact ⟨x, [], rfl, h, by unfold RpL; rfl⟩
theorem rpl_pairs {K : KF} {H : Hp} : ∀ {ps : List (D × V)}, (∀ p ∈ ps, Rp K H p.1 p.2) → RpL K H (ps.map (·.1)) (ps.map (·.2))
  | [], _ => by unfold RpL; rfl
  | p :: ps, h => by
    show RpL K H (p.1 :: ps.map (·.1)) (p.2 :: ps.map (·.2))
    unfold RpL
    exact ⟨p.2, _, rfl, h p List.mem_cons_self, rpl_pairs fun q hq => h q (List.mem_cons_of_mem _ hq)⟩
theorem each_zip {K : KF} {H : Hp} : ∀ {ds : List D} {xs : List V} {us : List Value}, RpL K H ds xs → Vals xs us → EachIs (fun u (p : D × V) => RelV p.2 u ∧ Rp K H p.1 p.2) us (ds.zip xs)
  | [], _, us, h, r => by
    unfold RpL at h
    subst h
    cases r
    exact .nil
  | d :: ds, _, us, h, r => by
    unfold RpL at h
    obtain ⟨x, ys, rfl, q, h⟩ := h
    cases r with
    | cons r1 r2 => exact .cons ⟨r1, q⟩ (each_zip h r2)
theorem each_vals {K : KF} {H : Hp} : ∀ {ps : List (D × V)} {us : List Value}, EachIs (fun u (p : D × V) => RelV p.2 u ∧ Rp K H p.1 p.2) us ps → Vals (ps.map (·.2)) us ∧ ∀ p ∈ ps, Rp K H p.1 p.2
  | [], _, h => by
    cases h
    exact ⟨.nil, by simp⟩
  | p :: ps, _, h => by
    cases h with
    | cons h1 h2 =>
      obtain ⟨a, b⟩ := each_vals h2
      exact ⟨.cons h1.1 a, fun q hq => by
        rcases List.mem_cons.mp hq with rfl | hq
        · exact h1.2
        · exact b q hq⟩
theorem each_imp {α β : Type} {R S : α → β → Prop} : ∀ {as : List α} {bs : List β}, EachIs R as bs → (∀ a b, R a b → S a b) → EachIs S as bs
  | _, _, .nil, _ => .nil
  | _, _, .cons h t, f => .cons (f _ _ h) (each_imp t f)
theorem each_mapk {α β γ : Type} {R : α → γ → Prop} (g : β → γ) : ∀ {as : List α} {bs : List β}, EachIs (fun a b => R a (g b)) as bs → EachIs R as (bs.map g)
  | _, _, .nil => .nil
  | _, _, .cons h t => .cons h (each_mapk g t)
variable {X : Cx}
section
variable {T : List Addr} {pins : List (Addr × Obj)} {σ : L2.St} {H0 H1 : Hp} {s : Shared} {kS Dl f : Addr} {fd : FuncData} {ps : List Str} {k e1 : Nat} {F : List D → Option R} {ds : List D} {xs : List V} {us : List Value} {P : PySem.Fin → Shared → Prop} {E : Value → Shared → Prop}
theorem key_call (Fn : FnOk X.prog X.w X.KK X.mg X.base CX0 k f fd ps (spF T X.KK 1 F)) (hb : Binds X.KK fd ps []) (hr : Room k X.A.in1.in1) {H' : Hp} {s' : Shared} (I : Inv X pins σ H' s') {d : D} {x : V} {u : Value} (rp : Rp X.KK H' d x) (rx : RelV x u)
    (hF : F [d] = some (.val (kD F d))) (tb : ∀ P ∈ T, GxR.TabG H' P) {Z : Value → Shared → Prop} (h : ∀ v vv H'' s'', Inv X pins σ H'' s'' → RelV v vv → Same H' H'' → (pu (kD F d) = true ∧ Rp X.KK H'' (kD F d) v) →
      (∀ b o, Rec X pins b → H' b = none → s'.heap.get? b = some o → s''.heap.get? b = some o ∧ H'' b = none) → Z vv s'') :
    wpAny (model X.prog X.w) X.A.in1.in1 (call (.ref f) [u]) Z E s' := by
  have e0 : Env0 X.prog X.w X.KK X.mg X.base X.A.in1.in1 X.stack s' H' := I.env0.in1.in1
  have sp : spF T X.KK 1 F [x] H' (fun v H'' => Same H' H'' ∧ (pu (kD F d) = true ∧ Rp X.KK H'' (kD F d) v)) E0 := ⟨[d], .val (kD F d), rfl, rpl_one rp, hF, tb, fun v H'' φ s2 q _ _ => ⟨s2, q.2⟩⟩
  have hl : ([u] ++ ([] : List Value)).length = ps.length := by
    have := Fn.len _ _ _ _ sp
    simpa using this
  refine wpAny_call (codeAny_mono (Fn.run X.A.in1.in1 X.stack s' H' ⟨[u], []⟩ [u] [x] _ E0 hr e0 (by simpa using hb s' [u] I.kIn hl) (.cons rx .nil) sp) fun r s'' hq => ?_)
  cases r with
  | error e => exact hq.elim
  | ok fl =>
    cases fl with
    | next => exact False.elim hq
    | brk => exact False.elim hq
    | cont => exact False.elim hq
    | ret vv =>
      obtain ⟨v, H'', os, bare, un, hok, rv, sm, rk⟩ := (show CE X.stack X.prog X.w H' s' _ vv s'' from hq)
      have I2 : Inv X pins σ H'' s'' := I.call' os un hok bare (fun b y => absurd y List.not_mem_nil)
      exact h v vv H'' s'' I2 rv sm rk fun b o rb n e => ⟨un.keep b o e n rb.fr List.not_mem_nil, un.free b o e n List.not_mem_nil⟩
theorem fin_inv {H' : Hp} {s' : Shared} (I : Inv X pins σ H' s') (rk : Rec X pins kS) (rd : Rec X pins Dl) (nk : H' kS = none) (nd : H' Dl = none) {h' : Heap} {tk c : Nat} {ys : List V} {out : List Value} (hv : Vals ys out) (hz : ys.length ≤ sizeLine)
    (kp : ∀ b o, b ≠ Dl → b ≠ kS → s'.heap.get? b = some o → h'.get? b = some o) (hD : h'.get? Dl = some (seqObj "list" out.toArray c)) : Inv X pins σ (upd H' Dl (.lst ys)) { s' with heap := h', toks := tk } := by
  have ne : ∀ b o, H' b = some o → b ≠ Dl := fun b o e z => by subst z; rw [nd] at e; cases e
  have ne2 : ∀ b o, H' b = some o → b ≠ kS := fun b o e z => by subst z; rw [nk] at e; cases e
  have un : Un (frs X.stack) [kS, Dl] H' (upd H' Dl (.lst ys)) s'.heap h' := by
    refine ⟨fun b o q n hb he => ?_, fun b o q n hb he => ⟨o.slots, ?_⟩, fun b o q n he => ?_, fun b o q he => ⟨o, ?_⟩, fun b us q => ?_, fun b o u q => ?_, fun b ps q => ⟨#[], ?_⟩⟩
    · simp at he
      exact kp b o he.2 he.1 q
    · simp at he
      exact kp b o he.2 he.1 q
    · simp at he
      rw [upd_ne he.2]
      exact n
    · simp at he
      exact kp b o he.2 he.1 q
    · rw [upd_ne (ne _ _ q)]
      exact q
    · rw [upd_ne (ne _ _ q)]
      exact q
    · rw [upd_ne (ne _ _ q), q]
      simp
  have ok : HOk X.prog X.w (upd H' Dl (.lst ys)) h' := fun a o e => by
    by_cases ha : a = Dl
    · subst ha
      rw [upd_same] at e
      cases e
      exact ⟨hz, out, c, hv, hD⟩
    · rw [upd_ne ha] at e
      refine (I.hok a o e).stay (fun b u hb q => ?_) (fun b q => by rw [upd_ne (ne _ _ q)]; exact q) fun b us q => by rw [upd_ne (ne _ _ q)]; exact q
      rcases hb with rfl | hb
      · exact kp b u ha (ne2 _ _ e) q
      · exact kp b u (ne _ _ hb) (ne2 _ _ hb) q
  refine I.call' (s' := { s' with heap := h', toks := tk }) (ch := [kS, Dl]) rfl un ok I.bare fun b hb => ?_
  rcases List.mem_cons.mp hb with rfl | hb
  · exact ⟨.inr rk.ge, rk.nl, rk.ce, rk.pn⟩
  · rw [List.mem_singleton.mp hb]
    exact ⟨.inr rd.ge, rd.nl, rd.ce, rd.pn⟩
end
end DL

set_option Elab.async false
set_option linter.all false
set_option maxRecDepth 100000
set_option maxHeartbeats 4000000
namespace DL
open PySem PySem.Spec PyProof.Rows L2 PySem.W FbM
variable {X : Cx}
section
variable {T : List Addr} {pins : List (Addr × Obj)} {σ : L2.St} {H0 H1 : Hp} {s : Shared} {kS Dl f : Addr} {fd : FuncData} {ps : List Str} {k e1 : Nat} {F : List D → Option R} {ds : List D} {xs : List V} {us : List Value} {P : PySem.Fin → Shared → Prop} {E : Value → Shared → Prop}
theorem key_rest (Fn : FnOk X.prog X.w X.KK X.mg X.base CX0 k f fd ps (spF T X.KK 1 F)) (hb : Binds X.KK fd ps []) (hr : Room k X.A.in1.in1) (S1 : Same H0 H1) (I : Inv X pins σ H1 s) (rk : Rec X pins kS) (rd : Rec X pins Dl) (nk : H1 kS = none) (nd : H1 Dl = none) (n0 : H0 Dl = none) (hka : kS ≠ Dl)
    (ok : s.heap.get? kS = some (seqObj "list" #[] 0)) (od : s.heap.get? Dl = some (seqObj "list" #[] e1))
    (rp : RpL X.KK H0 ds xs) (rv : Vals xs us) (hF : ∀ d ∈ ds, F [d] = some (.val (kD F d))) (tb : ∀ P ∈ T, GxR.TabG H0 P)
    (hal : AllAlike (ds.map fun d => pd (kD F d))) (hsk : Sortable (ds.map fun d => pd (kD F d))) (hu : ∀ d ∈ ds, (pd (kD F d)).depth ≤ 60) (hz : us.length ≤ 1000000)
    (h : ∀ H' s' ys, Inv X pins σ H' s' → Same H0 H' → H' Dl = some (.lst ys) → RpL X.KK H' (sortKD (kD F) ds) ys → P (.done (.ret .none)) s') :
    wpAny (model X.prog X.w) X.A.in1.in1 (ksk_rest Dl (.ref f) false us.toArray e1 (.ref kS)) P E s := by
  have lx : xs.length = ds.length := rp.length
  have lu : xs.length = us.length := rv.length
  have hZ : us.length ≤ sizeLine := by rw [sizeLine_eq]; omega
  unfold ksk_rest
  refine wpAny_bind (wpAny_rule ?_)
  first
    | rw [List.forIn_toArray]
    | (rw [← Array.forIn_toList]; simp only [List.toList_toArray])
    | rw [← Array.forIn_toList]
  refine wpAny_bind (ksk_fold (fun i s' => ∃ H' kA e, Inv X pins σ H' s' ∧ Same H0 H' ∧ H' kS = none ∧ H' Dl = none ∧ s'.heap.get? kS = some (seqObj "list" kA e) ∧ s'.heap.get? Dl = some (seqObj "list" #[] e1) ∧ EachIs (fun vv d => ∃ v, RelV v vv ∧ (pu (kD F d) = true ∧ Rp X.KK H' (kD F d) v)) kA.toList (ds.take i)) us 0 s
    ⟨H1, #[], 0, I, S1, nk, nd, ok, od, by rw [List.take_zero]; exact .nil⟩ ?step ?done)
  case step =>
    rintro j u s' hx ⟨H', kA, e, I', S', nk', nd', ok', od', hk⟩
    simp only [Nat.zero_add] at hk ⊢
    have hj : j < us.length := (List.getElem?_eq_some_iff.mp hx).1
    obtain ⟨d, hd⟩ : ∃ d, ds[j]? = some d := ⟨_, List.getElem?_eq_getElem (by omega)⟩
    obtain ⟨x, hxj⟩ : ∃ x, xs[j]? = some x := ⟨_, List.getElem?_eq_getElem (by omega)⟩
    obtain ⟨u', hu', rx⟩ := rv.get hxj
    rw [hx] at hu'
    cases hu'
    have hdm : d ∈ ds := List.mem_of_getElem? hd
    have kz : kA.size ≤ us.length := by
      have h1 := hk.length
      rw [Array.length_toList, List.length_take] at h1
      omega
    refine wpAny_bind (wpAny_attempt (key_call Fn hb hr I' ((rpl_get rp hd hxj).mono S') rx (hF d hdm) (fun P hP => S'.tab (tb P hP)) fun v vv H'' s'' I2 rv2 S2 rp2 kp => ?_))
    obtain ⟨ok2, nk2⟩ := kp kS _ rk nk' ok'
    obtain ⟨od2, nd2⟩ := kp Dl _ rd nd' od'
    try dsimp only
    have s1 := Heap.SameBut.update s''.heap kS (Obj.mapSeq (·.push vv))
    obtain ⟨c2, hc2⟩ : ∃ c2, (s''.heap.update kS (Obj.mapSeq (·.push vv))).get? kS = some (seqObj "list" (kA.push vv) c2) := ⟨_, get?_update_seq ok2 (·.push vv)⟩
    have ek : ds.take (j + 1) = ds.take j ++ [d] := by rw [List.take_add_one, hd]; simp
    have ea : (kA.push vv).toList = kA.toList ++ [vv] := by simp
    refine wpAny_bind (listUpdate_at ok2 rfl ?_ (Nat.le_trans kz hZ) (Nat.le_trans (Nat.le_of_eq (Array.size_push ..)) (Nat.succ_le_succ (Nat.le_trans kz hZ))))
    have I3 := rk.turn (h' := s''.heap.update kS (Obj.mapSeq (·.push vv))) (t' := s''.toks) I2 nk2 fun c o hc q => (s1.2 c hc).trans q
    refine wpAny_pure ⟨rfl, H'', kA.push vv, c2, I3, S'.trans S2, nk2, nd2, hc2, (s1.2 Dl hka.symm).trans od2, ?_⟩
    rw [ea, ek]
    exact each_snoc (R := fun (vv : Value) (d : D) => ∃ v, RelV v vv ∧ (pu (kD F d) = true ∧ Rp X.KK H'' (kD F d) v)) ⟨v, rv2, rp2⟩ (each_imp hk fun a b ⟨v, q1, q2⟩ => ⟨v, q1, q2.1, q2.2.mono S2⟩)
  case done =>
    rintro s' ⟨H', kA, e, I', S', nk', nd', ok', od', hk⟩
    have hk : EachIs (fun vv d => ∃ v, RelV v vv ∧ (pu (kD F d) = true ∧ Rp X.KK H' (kD F d) v)) kA.toList ds := by
      have e3 : ds.take (0 + us.length) = ds := List.take_of_length_le (by omega)
      rw [e3] at hk
      exact hk
    have hsz : kA.size = us.length := by
      have h1 := hk.length
      rw [Array.length_toList] at h1
      omega
    have hk' : EachIs (fun v d => ∃ as, Reads s'.heap v d as) kA.toList (ds.map fun d => pd (kD F d)) :=
      each_mapk (R := fun v d => ∃ as, Reads s'.heap v d as) (fun d => pd (kD F d)) (each_imp hk fun a b ⟨v, q1, q2⟩ => Dp.reads I' _ v a (Rp.dp _ _ (hd_of_pu _ q2.1) q2.2) q1)
    have hun : X.A.in1.in1.units + 64 < cLine := hr.units
    try dsimp only
    refine wpAny_bind (listItems_at ok' rfl ?_)
    refine keyH_end (κ := dataKind s'.heap (ds.map fun d => pd (kD F d))) (h₁ := hideAll s'.heap [kS]) (fun b o _ q => of_hideAll _ q) (hideAll_none _ (by simp)) ok' od' hka
      (SortsAt.data hk' hal hsk fun p hp => by
        obtain ⟨d, hd, rfl⟩ := List.mem_map.mp hp
        have := hu d hd
        omega) hsz hZ fun h' tk c kp hD => ?_
    have kd : KeyedOut false (ds.map fun d => pd (kD F d)) us (sortVals (dataKind s'.heap (ds.map fun d => pd (kD F d))) false kA.toList us) := ⟨s'.heap, kA.toList, hal, rfl, hk'⟩
    have em : (ds.zip xs).map (fun p : D × V => pd (kD F p.1)) = ds.map fun d => pd (kD F d) := by
      have := congrArg (List.map fun d => pd (kD F d)) (List.map_fst_zip (l₁ := ds) (l₂ := xs) (by omega))
      rw [List.map_map] at this
      exact this
    have each := keyedOut_each (R := fun u (p : D × V) => RelV p.2 u ∧ Rp X.KK H0 p.1 p.2) (bs := ds.zip xs) (fun p => pd (kD F p.1)) (by rw [em]; exact kd) (each_zip rp rv)
    obtain ⟨ps', hps⟩ : ∃ ps', ps' = (ds.zip xs).mergeSort (dataLe false fun p => pd (kD F p.1)) := ⟨_, rfl⟩
    rw [← hps] at each
    obtain ⟨hv, hp⟩ := each_vals each
    have e1 : ps'.map (·.1) = sortKD (kD F) ds := by
      have mm := List.map_mergeSort (r := dataLe false fun p : D × V => pd (kD F p.1)) (s := dataLe false fun d => pd (kD F d)) (f := fun p : D × V => p.1) (l := ds.zip xs) (fun a _ b _ => rfl)
      have mf : (ds.zip xs).map (fun p : D × V => p.1) = ds := List.map_fst_zip (l₁ := ds) (l₂ := xs) (by omega)
      rw [hps, mm, mf]
      rfl
    have ln : (ps'.map (·.2)).length ≤ sizeLine := by
      rw [List.length_map, hps, List.length_mergeSort, List.length_zip]
      omega
    have I3 := fin_inv (tk := tk) I' rk rd nk' nd' hv ln (fun b o hb hb2 q => kp b o hb (hideAll_get _ q (by simp; exact hb2))) hD
    have S3 := S'.trans (same_upd (o := .lst (ps'.map (·.2))) nd')
    exact h _ _ _ I3 S3 upd_same (RpL.mono S3 _ _ (by rw [← e1]; exact rpl_pairs hp))
end
end DL

set_option Elab.async false
set_option linter.all false
set_option maxRecDepth 100000
set_option maxHeartbeats 4000000
namespace DL
open PySem PySem.Spec PyProof.Rows L2 PySem.W FbM
variable {X : Cx}
section
variable {T : List Addr} {pins : List (Addr × Obj)} {σ : L2.St} {H : Hp} {s : Shared} {a f : Addr} {fd : FuncData} {ps : List Str} {k : Nat} {F : List D → Option R} {ds : List D} {xs : List V} {Q : VK}
theorem run_sortedK (Fn : FnOk X.prog X.w X.KK X.mg X.base CX0 k f fd ps (spF T X.KK 1 F)) (hb : Binds X.KK fd ps []) (hr : Room k X.A.in1.in1) (I : Inv X pins σ H s) (hs : SqL X.KK H a xs)
    (rp : RpL X.KK H ds xs) (hF : ∀ d ∈ ds, F [d] = some (.val (kD F d))) (tb : ∀ P ∈ T, GxR.TabG H P)
    (hal : AllAlike (ds.map fun d => pd (kD F d))) (hsk : Sortable (ds.map fun d => pd (kD F d))) (hu : ∀ d ∈ ds, (pd (kD F d)).depth ≤ 60) (hz : ds.length ≤ 1000000)
    (q : ∀ p H' ys, H p = none → Same H H' → H' p = some (.lst ys) → RpL X.KK H' (sortKD (kD F) ds) ys → Q (.ref p) H') :
    wpAny (model X.prog X.w) X.A (call (.builtin "sorted") [.ref a] [(Str.ofString "key", .ref f)]) (EP X pins σ Q) X.xe s := by
  obtain ⟨its, rv, hl, _⟩ := I.list hs
  have lx : xs.length = ds.length := rp.length
  have lu : xs.length = its.length := rv.length
  have hZ : its.length ≤ sizeLine := by rw [sizeLine_eq]; omega
  refine sorted_of_sort hl.isList hZ (ksk_s1 _ _) (fun x => ksk_l1 _ _) fun E' => ?_
  rw [ksk_t1]
  have ho := copyHeap_at s.heap its
  obtain ⟨h0, hh0⟩ : ∃ h0, h0 = copyHeap s.heap its := ⟨_, rfl⟩
  have old : ∀ b o, s.heap.get? b = some o → h0.get? b = some o := fun b o e => by rw [hh0]; exact copyHeap_old e
  rw [← hh0] at ho ⊢
  obtain ⟨Dl, hDl⟩ : ∃ Dl, Dl = s.heap.objs.size + 1 := ⟨_, rfl⟩
  rw [← hDl] at ho ⊢
  have hDs : Dl < h0.objs.size := Heap.lt_size ho
  obtain ⟨e1, ho1⟩ : ∃ e1, (h0.update Dl (Obj.mapSeq fun _ => (#[] : Array Value))).get? Dl = some (seqObj "list" #[] e1) := ⟨_, get?_update_seq ho fun _ => #[]⟩
  have hkS : ((h0.update Dl (Obj.mapSeq fun _ => (#[] : Array Value))).push (seqObj "tuple" its.toArray 0)).objs.size = h0.objs.size + 1 := by rw [size_push', Heap.size_update]
  unfold ksk_tree
  refine wpAny_bind (listItems_at ho rfl ?_)
  refine wpAny_bind (listUpdate_at ho rfl ?_ (by rw [List.size_toArray]; exact hZ) (Nat.zero_le _))
  refine wpAny_bind (seqEpoch_at ho1 rfl ?_)
  refine wpAny_bind (wpAny_newTuple ?_ (by show its.length ≤ _; exact hZ))
  refine wpAny_bind (wpAny_newList ?_ (Nat.zero_le _))
  refine wpAny_holding ?_
  obtain ⟨kS, hkS2⟩ : ∃ kS, kS = ((h0.update Dl (Obj.mapSeq fun _ => (#[] : Array Value))).push (seqObj "tuple" its.toArray 0)).objs.size := ⟨_, rfl⟩
  obtain ⟨h2, hh2⟩ : ∃ h2, h2 = ((h0.update Dl (Obj.mapSeq fun _ => (#[] : Array Value))).push (seqObj "tuple" its.toArray 0)).push (seqObj "list" #[] 0) := ⟨_, rfl⟩
  have ok : h2.get? kS = some (seqObj "list" #[] 0) := by rw [hh2, hkS2]; exact Heap.get?_push_size _ rfl
  have od : h2.get? Dl = some (seqObj "list" #[] e1) := by rw [hh2]; exact Heap.get?_push_of_some _ (Heap.get?_push_of_some _ ho1)
  have up : ∀ b o, s.heap.get? b = some o → h2.get? b = some o := fun b o e => by
    have lt := Heap.lt_size e
    rw [hh2]
    refine Heap.get?_push_of_some _ (Heap.get?_push_of_some _ ?_)
    exact (Heap.get?_update_ne _ _ _ _ (by rw [hDl]; exact Nat.ne_of_lt (Nat.lt_succ_of_lt lt))).trans (old b o e)
  have ls : s.heap.objs.size ≤ Dl := by rw [hDl]; exact Nat.le_succ _
  have hsz : s.heap.objs.size + 1 < h0.objs.size := by rw [hDl] at hDs; exact hDs
  have lk : s.heap.objs.size ≤ kS := by rw [hkS2, hkS]; exact Nat.le_trans (Nat.le_of_lt (Nat.lt_of_succ_lt hsz)) (Nat.le_succ _)
  have I2 : Inv X pins σ H { s with heap := h2 } := I.call' (s' := { s with heap := h2 }) (ch := []) rfl (Un.kept up) (I.hok.kept up) I.bare fun b y => absurd y List.not_mem_nil
  show wpAny _ _ (ksk_rest Dl (.ref f) false its.toArray e1 (.ref _)) _ _ { s with heap := _ }
  rw [← hh2]
  rw [← hkS2]
  exact key_rest Fn hb hr (Same.refl H) I2 (rec_new I lk) (rec_new I ls) (I.hok.fresh lk) (I.hok.fresh ls) (I.hok.fresh ls) (by rw [hkS2, hkS]; exact Nat.ne_of_gt (Nat.lt_succ_of_lt hDs)) ok od rp rv hF tb hal hsk hu (by omega)
    fun H' s' ys I' S' hD r => ⟨rfl, .ref Dl, H', I', rfl, q Dl H' ys (I.hok.fresh ls) S' hD r⟩
end
end DL

set_option Elab.async false
set_option linter.all false
set_option maxRecDepth 100000
set_option maxHeartbeats 4000000
/-! D21: sorted(xs, key=f), xs a list, f a def of plain data. -/
namespace DL
open PySem PySem.Spec PyProof.Rows L2 PySem.W
variable {X : Cx} {Tb : Pm}
/-- they can be sorted by their keys -/
structure SortOk (F : List D → Option R) (ds : List D) : Prop where
  key : ∀ d ∈ ds, F [d] = some (.val (kD F d))
  al : AllAlike (ds.map fun d => pd (kD F d))
  sb : Sortable (ds.map fun d => pd (kD F d))
  dp : ∀ d ∈ ds, (pd (kD F d)).depth ≤ 60
  ln : ds.length ≤ 1000000
  pu : puL ds = true
open Classical in
noncomputable def oSortK (F : List D → Option R) : List R → Option R := one fun r => match r.d with
  | .lst ds => if SortOk F ds then some (.own (.lst (sortKD (kD F) ds))) else none
  | _ => none
theorem oSortK_of {F : List D → Option R} {r : R} {ds : List D} (h : r.d = .lst ds) (k : SortOk F ds) : oSortK F [r] = some (.own (.lst (sortKD (kD F) ds))) := by
  unfold oSortK one
  simp only [h]
  rw [if_pos k]
theorem sortKD_perm (kf : D → D) (ds : List D) : (sortKD kf ds).Perm ds := List.mergeSort_perm ds _
theorem puK_mem : ∀ {ds : List D}, puL ds = true → ∀ d ∈ ds, DL.pu d = true
  | d :: ds, h, e, he => by
    have h2 : (DL.pu d && puL ds) = true := h
    rw [Bool.and_eq_true] at h2
    rcases List.mem_cons.mp he with rfl | he
    · exact h2.1
    · exact puK_mem h2.2 e he
theorem puK_all : ∀ {ds : List D}, (∀ d ∈ ds, DL.pu d = true) → puL ds = true
  | [], _ => rfl
  | d :: ds, h => by
    show (DL.pu d && puL ds) = true
    rw [h d List.mem_cons_self, puK_all fun e he => h e (List.mem_cons_of_mem _ he)]
    rfl
def rSK (X : Cx) (T : List Addr) (f : Addr) (F : List D → Option R) : List V → List V → Hp → VK → Prop := fun vs zs H Q => ∃ (a : Addr) (ds : List D) (xs : List V), vs = [V.ref a] ∧ zs = [V.ref f] ∧ SqL X.KK H a xs ∧ RpL X.KK H ds xs ∧ SortOk F ds ∧ (∀ P ∈ T, GxR.TabG H P) ∧
  ∀ p H' ys, H p = none → Same H H' → H' p = some (.lst ys) → RpL X.KK H' (sortKD (kD F) ds) ys → Q (.ref p) H'
theorem cr_sortK {T : List Addr} {f : Addr} {fd : FuncData} {ps : List Str} {k : Nat} {F : List D → Option R} (Fn : FnOk X.prog X.w X.KK X.mg X.base CX0 k f fd ps (spF T X.KK 1 F)) (hb : Binds X.KK fd ps []) (hr : Room k X.A.in1.in1) : CallRK X (.builtin "sorted") [Str.ofString "key"] (rSK X T f F) := by
  intro pins s σ H vs zs us ws Q I r rz h
  obtain ⟨a, ds, xs, rfl, rfl, hs, rp, ok, tb, q⟩ := h
  obtain rfl := Vals.ref1 r
  obtain rfl := Vals.ref1 rz
  exact run_sortedK Fn hb hr I hs rp ok.key tb ok.al ok.sb ok.dp ok.ln q
theorem pe_fn {y : Str} {f : Addr} {p : Pos} (hg : Gl X y) (hm : X.mg y = some (.ref f)) (hd : (y == ("__debug__" : Str)) = false := by decide) : PE X (.Name y p) (fun _ H Q => Q (.ref f) H) :=
  ⟨fun pins s σ H Q I h => ld_glob I hg hm ⟨.ref f, H, I, rfl, h⟩ hd⟩
theorem de_sortK {x y : Str} {p yp kp pos : Pos} {f : Addr} {fd : FuncData} {ps : List Str} {k : Nat} {F : List D → Option R} {e : Expr} {gs : GA} (Fn : FnOk X.prog X.w X.KK X.mg X.base CX0 k f fd ps (spF Tb.tb X.KK 1 F)) (hb : Binds X.KK fd ps []) (hr : Room (k + 2) X.A) (hmy : X.mg y = some (.ref f)) (ha : DA Tb X [e] gs)
    (hm : X.mg x = none) (hv : bootBuiltins x = some (.builtin "sorted")) (hg : Gl X x := by rfl) (hgy : Gl X y := by rfl) (hdy : (y == ("__debug__" : Str)) = false := by decide) (hn : x ≠ "__name__" := by decide) (hdb : (x == ("__debug__" : Str)) = false := by decide)
    (he : backTo pos (starEach [e] X.env) = (false, eval e X.env) :: backTo pos (starEach [] X.env) := by rfl) (hpl : (backTo pos (starEach [e] X.env)).any (·.1) = false := by rfl)
    (hall : (backToKw pos (keywordEach [⟨some (Str.ofString "key"), .Name y yp, kp⟩] X.env)).all (·.1.isSome) = true := by rfl) (hnone : (backToKw pos (keywordEach [⟨some (Str.ofString "key"), .Name y yp, kp⟩] X.env)).any (·.1.isNone) = false := by rfl) (hks : (backToKw pos (keywordEach [⟨some (Str.ofString "key"), .Name y yp, kp⟩] X.env)).filterMap (·.1) = [Str.ofString "key"] := by rfl) :
    DE Tb X (.Call (.Name x p) [e] [⟨some (Str.ofString "key"), .Name y yp, kp⟩] pos) (gCB (oSortK F) gs) := by
  refine ⟨pe_imp (pe_callBK (cr_sortK Fn hb hr.in1.in1) hg hm hv ha.pa (pk_cons (pe_fn hgy hmy hdy) pk_nil) hn hdb he hpl hall hnone hks) fun σ H Q h => ?_⟩
  obtain ⟨B, C, δ, Φ, c, S, e', k'⟩ := h
  obtain ⟨rs, e1, e2⟩ := bind1_some e'
  refine ⟨B, C, δ, Φ, rs, S, e1, fun vs H1 φ s q f' n => ?_⟩
  obtain ⟨r, er, e3⟩ := one_some e2
  subst er
  obtain ⟨v, ev, q1⟩ := q.one
  subst ev
  have q2 := q1.rp S.bc (S.ch.trans s)
  split at e3
  · rename_i ds hx
    rw [hx] at q2
    split at e3
    · rename_i hs
      cases e3
      unfold Rp at q2
      obtain ⟨a, xs, rfl, ha2, r2⟩ := q2
      show rSK X Tb.tb f F [V.ref a] [V.ref f] H1 Q
      refine ⟨a, ds, xs, rfl, rfl, SqL.of ha2, r2, hs, fun P hP => (S.ch.trans s).tab (S.tb P hP), fun p H' ys hp S' hD rr => ?_⟩
      have hpu : puL (sortKD (kD F) ds) = true := puK_all fun d hd => puK_mem hs.pu d ((sortKD_perm _ _).mem_iff.mp hd)
      exact k' (.ref p) H' [p] (s.trans S') ⟨p, ys, [], rfl, hD, OwL.pu _ _ hpu rr, rfl⟩ (fun b hb => by rw [List.mem_singleton.mp hb]; exact s.free hp) (by simp)
    · cases e3
  · cases e3
theorem de_sortF {x y : Str} {p yp kp pos : Pos} {ps : List Str} {k : Nat} {F : List D → Option R} {e : Expr} {gs : GA} (c : Cal Tb.tb X.prog X.w X.KK X.mg X.base y ps k F) (hr : Room (k + 2) X.A) (hm : X.mg x = none) (hv : bootBuiltins x = some (.builtin "sorted")) (ha : DA Tb X [e] gs)
    (h1 : ps.length = 1 := by rfl) (hg : Gl X x := by rfl) (hgy : Gl X y := by rfl) (hdy : (y == ("__debug__" : Str)) = false := by decide) (hn : x ≠ "__name__" := by decide) (hdb : (x == ("__debug__" : Str)) = false := by decide)
    (he : backTo pos (starEach [e] X.env) = (false, eval e X.env) :: backTo pos (starEach [] X.env) := by rfl) (hpl : (backTo pos (starEach [e] X.env)).any (·.1) = false := by rfl)
    (hall : (backToKw pos (keywordEach [⟨some (Str.ofString "key"), .Name y yp, kp⟩] X.env)).all (·.1.isSome) = true := by rfl) (hnone : (backToKw pos (keywordEach [⟨some (Str.ofString "key"), .Name y yp, kp⟩] X.env)).any (·.1.isNone) = false := by rfl) (hks : (backToKw pos (keywordEach [⟨some (Str.ofString "key"), .Name y yp, kp⟩] X.env)).filterMap (·.1) = [Str.ofString "key"] := by rfl) :
    DE Tb X (.Call (.Name x p) [e] [⟨some (Str.ofString "key"), .Name y yp, kp⟩] pos) (gCB (oSortK F) gs) := by
  obtain ⟨f, fd, h2, h3, h4, h5⟩ := c.ex
  rw [h1] at h5
  exact de_sortK h5 h4 hr h2 ha hm hv hg hgy hdy hn hdb he hpl hall hnone hks
end DL

set_option Elab.async false
set_option linter.all false
set_option maxRecDepth 100000
set_option maxHeartbeats 4000000
/-! D22: dicts and sets at the level of the abstract heap: in, get, put. -/
namespace DL
open PySem PySem.Spec PyProof.Rows L2 SrtO
section
variable {α : Type}
/-- the keys behind d[k] = v -/
def addN : List NestedKey → NestedKey → List NestedKey
  | [], k => [k]
  | j :: ks, k => if j = k then j :: ks else j :: addN ks k
/-- the values behind d[k] = v -/
def putN : List NestedKey → List α → NestedKey → α → List α
  | [], _, _, v => [v]
  | _ :: _, [], _, v => [v]
  | j :: ks, w :: ws, k, v => if j = k then v :: ws else w :: putN ks ws k v
def getN : List NestedKey → List α → NestedKey → Option α
  | j :: ks, w :: ws, k => if j = k then some w else getN ks ws k
  | _, _, _ => none
theorem addN_mem {k : NestedKey} : ∀ {ks : List NestedKey}, k ∈ ks → addN ks k = ks
  | j :: ks, h => by
    unfold addN
    by_cases e : j = k
    · rw [if_pos e]
    · rw [if_neg e, addN_mem ((List.mem_cons.mp h).resolve_left fun z => e z.symm)]
theorem addN_new {k : NestedKey} : ∀ {ks : List NestedKey}, k ∉ ks → addN ks k = ks ++ [k]
  | [], _ => rfl
  | j :: ks, h => by
    unfold addN
    rw [if_neg (fun e => h (by rw [e]; exact List.mem_cons_self)), addN_new (fun z => h (List.mem_cons_of_mem _ z))]
    rfl
theorem putN_new {k : NestedKey} {v : α} : ∀ {ks : List NestedKey} {ws : List α}, ws.length = ks.length → k ∉ ks → putN ks ws k v = ws ++ [v]
  | [], [], _, _ => rfl
  | j :: ks, w :: ws, hl, h => by
    unfold putN
    rw [if_neg (fun e => h (by rw [e]; exact List.mem_cons_self)), putN_new (by simpa using hl) (fun z => h (List.mem_cons_of_mem _ z))]
    rfl
theorem getN_none {k : NestedKey} : ∀ {ks : List NestedKey} {ws : List α}, k ∉ ks → getN ks ws k = none
  | [], _, _ => by simp [getN]
  | j :: ks, [], _ => by simp [getN]
  | j :: ks, w :: ws, h => by
    unfold getN
    rw [if_neg (fun e => h (by rw [e]; exact List.mem_cons_self)), getN_none (fun z => h (List.mem_cons_of_mem _ z))]
theorem getN_isSome {k : NestedKey} : ∀ {ks : List NestedKey} {ws : List α}, ws.length = ks.length → (getN ks ws k).isSome = decide (k ∈ ks)
  | [], [], _ => by simp [getN]
  | j :: ks, w :: ws, hl => by
    unfold getN
    by_cases e : j = k
    · rw [if_pos e]; simp [e]
    · rw [if_neg e, getN_isSome (by simpa using hl)]
      have e' : ¬ k = j := fun z => e z.symm
      simp [e']
theorem length_addN (ks : List NestedKey) (k : NestedKey) : (addN ks k).length ≤ ks.length + 1 := by
  by_cases h : k ∈ ks
  · rw [addN_mem h]; omega
  · rw [addN_new h]; simp
theorem nodup_addN {ks : List NestedKey} (h : ks.Nodup) (k : NestedKey) : (addN ks k).Nodup := by
  by_cases hk : k ∈ ks
  · rw [addN_mem hk]; exact h
  · rw [addN_new hk]
    refine List.nodup_append.mpr ⟨h, by simp, fun a ha b hb z => ?_⟩
    rw [List.mem_singleton.mp hb] at z
    exact hk (z ▸ ha)
theorem mem_addN {ks : List NestedKey} {k j : NestedKey} : j ∈ addN ks k ↔ j ∈ ks ∨ j = k := by
  by_cases hk : k ∈ ks
  · rw [addN_mem hk]
    exact ⟨.inl, fun h => h.elim id fun z => z ▸ hk⟩
  · rw [addN_new hk, List.mem_append, List.mem_singleton]
/-- a store in a row of entries -/
theorem row_put {β : Type} (ky : β → NestedKey) (vl : β → α) (k : NestedKey) (v : α) (rep : β → β) (nu : β) (h1 : ∀ b, ky b = k → ky (rep b) = k ∧ vl (rep b) = v) (h2 : ky nu = k ∧ vl nu = v) :
    ∀ L : List β, (L.map ky).Nodup → ((if (L.any fun b => decide (ky b = k)) = true then L.map (fun b => if ky b = k then rep b else b) else L ++ [nu]).map ky = addN (L.map ky) k) ∧
      ((if (L.any fun b => decide (ky b = k)) = true then L.map (fun b => if ky b = k then rep b else b) else L ++ [nu]).map vl = putN (L.map ky) (L.map vl) k v)
  | [], _ => by simp [addN, putN, h2.1, h2.2]
  | b :: L, nd => by
    rw [List.map_cons, List.nodup_cons] at nd
    by_cases e : ky b = k
    · have hm : L.map (fun b => if ky b = k then rep b else b) = L := by
        conv => rhs; rw [← List.map_id L]
        refine List.map_congr_left fun c hc => ?_
        rw [if_neg (fun z => nd.1 (List.mem_map.mpr ⟨c, hc, z.trans e.symm⟩))]
        rfl
      obtain ⟨r1, r2⟩ := h1 b e
      rw [if_pos (by simp [e]), List.map_cons, if_pos e, hm]
      simp [addN, putN, e, r1, r2]
    · obtain ⟨i1, i2⟩ := row_put ky vl k v rep nu h1 h2 L nd.2
      have ha : ((b :: L).any fun b => decide (ky b = k)) = L.any fun b => decide (ky b = k) := by simp [e]
      rw [ha]
      by_cases q : (L.any fun b => decide (ky b = k)) = true
      · rw [if_pos q] at i1 i2 ⊢
        rw [List.map_cons, if_neg e]
        simp only [List.map_cons, addN, putN, if_neg e]
        exact ⟨by rw [i1], by rw [i2]⟩
      · rw [if_neg q] at i1 i2 ⊢
        simp only [List.cons_append, List.map_cons, addN, putN, if_neg e]
        exact ⟨by rw [i1], by rw [i2]⟩
theorem row_get {β : Type} (ky : β → NestedKey) (vl : β → α) (k : NestedKey) : ∀ L : List β, (L.find? fun b => decide (ky b = k)).map vl = getN (L.map ky) (L.map vl) k
  | [] => by simp [getN]
  | b :: L => by
    rw [List.find?_cons]
    by_cases e : ky b = k
    · simp [getN, e]
    · simp [getN, e, row_get ky vl k L]
end
def isNum : NestedKey → Bool
  | .num _ => true
  | _ => false
def isTup : NestedKey → Bool
  | .tup _ => true
  | _ => false
/-- keys of one kind -/
def kOk (ks : List NestedKey) : NestedKey → Bool
  | .num _ => ks.all isNum
  | .tup es => ks.all isTup && decide ((NestedKey.tup es).depth ≤ 8)
  | _ => false
theorem tk_mt {H : Hp} {a : Addr} {u : HO} (h : ∃ o, H a = some o ∧ Mt o) : TK H (upd H a u) := fun b o e n _ => by
  have ne : b ≠ a := fun z => by
    obtain ⟨o', e', m⟩ := h
    rw [z, e'] at e
    exact n (Option.some.inj e ▸ m)
  rw [upd_ne ne]; exact e
section
variable {X : Cx} {pins : List (Addr × Obj)} {σ : L2.St} {H : Hp} {s : Shared} {a : Addr} {ks : List NestedKey} {ws : List V} {k : NestedKey} {y v : V} {u r : Value} {A : Around} {E : Value → Shared → Prop}
/-- a dict whose keys are ints -/
theorem dc_num (h : DcA X.KK H a ks ws) (t : ks.all isNum = true) : ∃ kvs, H a = some (.dK kvs) ∧ kvs.map (fun p => nkOf p.1) = ks ∧ kvs.map (·.2) = ws := by
  rcases h with h | ⟨es, h, e1, e2, ne, n⟩
  · exact h
  · exfalso
    cases es with
    | nil => exact ne rfl
    | cons e es =>
      have h1 : isNum e.1 = true := List.all_eq_true.mp t e.1 (by rw [← e1]; exact List.mem_cons_self)
      have h2 := (n e List.mem_cons_self).2
      cases q : e.1 with
      | num i => rw [q, NV] at h2; cases h2
      | none => rw [q] at h1; cases h1
      | text x => rw [q] at h1; cases h1
      | tup x => rw [q] at h1; cases h1
/-- a dict whose keys are tuples -/
theorem dc_tup (I : Inv X pins σ H s) (h : DcA X.KK H a ks ws) (t : ks.all isTup = true) : (a == sysModules) = false ∧ ks.length ≤ sizeLine ∧
    ∃ (es : List EN) (xs : List (NestedKey × Addr × Value)), Paired ER es xs ∧ s.heap.DictOfH (nestedKind X.prog X.w) a xs ∧ es.map (·.1) = ks ∧ es.map (·.2.2) = ws ∧ ∀ e ∈ es, e.1.depth ≤ 8 ∧ NV X.KK H e.1 (.ref e.2.1) := by
  rcases h with ⟨kvs, h, e1, e2⟩ | ⟨es, h, e1, e2, ne, n⟩
  · have e0 : kvs = [] := by
      cases kvs with
      | nil => rfl
      | cons p kvs =>
        have h1 : isTup (nkOf p.1) = true := List.all_eq_true.mp t _ (by rw [← e1]; exact List.mem_cons_self)
        exfalso
        cases q : p.1 with
        | inl i => rw [q] at h1; cases h1
        | inr x => rw [q] at h1; cases h1
    subst e0
    obtain ⟨z, hd, vs, rel, o, ds, ep, h1, h2, h3, h4, h5, h6⟩ := dk_of I.hok h
    cases rel
    subst e1 e2
    have hds : ds = #[] := by
      have := h5.length
      apply Array.eq_empty_of_size_eq_zero
      simpa using this
    subst hds
    exact ⟨hd, Nat.zero_le _, [], [], .nil, ⟨o, #[], ep, h1, h2, h3, rfl, fun x hx => (by cases hx), by simp⟩, rfl, rfl, fun e he => (by cases he)⟩
  · obtain ⟨⟨z, hd, nd, o, ds, ep, xs, h1, h2, h3, pr, h4⟩, _⟩ := (show ObjOk X.prog X.w H s.heap a (DctO a es) from I.hok a _ h)
    have fact : ∀ {l : List EN} {m : List (NestedKey × Addr × Value)}, Paired ER l m → (∀ e ∈ l, e.1.depth ≤ 8 ∧ NV X.KK H e.1 (.ref e.2.1)) →
        (m.map fun x => (⟨hash0 x.1, .ref x.2.1, x.2.2⟩ : DictEntry)) = m.map (entryOfKey (nestedKind X.prog X.w)) ∧ (∀ x ∈ m, (nestedKind X.prog X.w).is s.heap x.1 x.2.1) ∧ m.map (·.1) = l.map (·.1) := by
      intro l m q
      induction q with
      | nil => intro _; exact ⟨rfl, fun x hx => (by cases hx), rfl⟩
      | @cons p q ps qs hq t ih =>
        intro hn
        obtain ⟨i1, i2, i3⟩ := ih fun e he => hn e (List.mem_cons_of_mem _ he)
        obtain ⟨d8, nv⟩ := hn p List.mem_cons_self
        have h1 : (nestedKind X.prog X.w).is s.heap q.1 q.2.1 := by
          have := (NV.ni I _ _ _ nv (show RelV (.ref p.2.1) (.ref p.2.1) from rfl)).nested
          rw [hq.1, hq.2.1] at this
          exact ⟨this, by rw [← hq.1]; exact d8⟩
        refine ⟨?_, fun x hx => ?_, ?_⟩
        · rw [List.map_cons, List.map_cons, i1]
          have : hash0 q.1 = (nestedKind X.prog X.w).hash q.1 := by
            rw [← hq.1]
            exact (hash0_eq X.w _ (NV.n _ _ nv)).symm
          unfold entryOfKey
          rw [this]
        · rcases List.mem_cons.mp hx with rfl | hx
          · exact h1
          · exact i2 x hx
        · rw [List.map_cons, List.map_cons, i3, hq.1]
    obtain ⟨f1, f2, f3⟩ := fact pr n
    refine ⟨hd, by rw [← e1]; simpa using z, es, xs, pr, ⟨o, ds, ep, h1, h2, h3, by rw [h4, f1], f2, by rw [f3]; exact nd⟩, e1, e2, n⟩
theorem nv_num {K : PySem.W.Frag} {H : Hp} {i : Int} {y : V} (h : NV K H (.num i) y) : y = kV (.inl i) := by rw [NV] at h; exact h
theorem nv_tup {K : PySem.W.Frag} {H : Hp} {es : List NestedKey} {y : V} (h : NV K H (.tup es) y) : ∃ b, y = .ref b := by
  rw [NV] at h
  obtain ⟨t, xs, h, _⟩ := h
  exact ⟨t, h⟩
theorem nv_is {b : Addr} (I : Inv X pins σ H s) (h : NV X.KK H k (.ref b)) (d : k.depth ≤ 8) : (nestedKind X.prog X.w).is s.heap k b :=
  ⟨(NV.ni I _ _ _ h (show RelV (.ref b) (.ref b) from rfl)).nested, d⟩
theorem er_get {es : List EN} {xs : List (NestedKey × Addr × Value)} (h : Paired ER es xs) (k : NestedKey) : RelO (getN (es.map (·.1)) (es.map (·.2.2)) k) ((atKey xs k).map (·.2)) := by
  induction h with
  | nil => simp [getN, atKey]; trivial
  | @cons p q ps qs hq t ih =>
    rw [List.map_cons, List.map_cons]
    unfold getN
    by_cases e : p.1 = k
    · have e' : q.1 = k := hq.1.symm.trans e
      rw [if_pos e]
      have : atKey (q :: qs) k = some q.2 := by simp [atKey, List.find?_cons, e']
      rw [this]
      exact hq.2.2
    · have e' : ¬ q.1 = k := fun z => e (hq.1.trans z)
      rw [if_neg e]
      have : atKey (q :: qs) k = atKey qs k := by simp [atKey, List.find?_cons, e']
      rw [this]
      exact ih
theorem keys_get {kvs : List (Key × V)} (j : Key) : valV kvs j = getN (kvs.map fun p => nkOf p.1) (kvs.map (·.2)) (nkOf j) := by
  rw [← row_get (fun p : Key × V => nkOf p.1) (·.2) (nkOf j) kvs]
  unfold valV
  congr 2
  funext p
  exact decide_eq_decide.mpr ⟨fun e => by rw [e], nkOf_inj⟩
theorem room2 {A : Around} (hu : A.units + 10 < cLine) : (nestedKind X.prog X.w).room A.in1 := by
  show A.units + 1 + 8 < cLine
  omega
/-- y in d -/
theorem dc_in {Q : Value → Shared → Prop} (hu : A.units + 10 < cLine) (I : Inv X pins σ H s) (g : DcA X.KK H a ks ws) (nv : NV X.KK H k y) (ok : kOk ks k = true) (ry : RelV y u) (h : ∀ s', Inv X pins σ H s' → Q (.bool (decide (k ∈ ks))) s') :
    wpAny (model X.prog X.w) A (compareOp .In u (.ref a)) Q E s := by
  have hl := g.length
  cases k with
  | none => cases ok
  | text x => cases ok
  | num i =>
    obtain ⟨kvs, e, e1, e2⟩ := dc_num g ok
    rw [nv_num nv] at ry
    refine d_in (by omega) I (DGet.k e) ry fun s' I' => ?_
    rw [keys_get, e1, e2]
    show Q (.bool (getN ks ws (.num i)).isSome) s'
    rw [getN_isSome hl]
    exact h s' I'
  | tup es0 =>
    obtain ⟨o1, o2⟩ := Bool.and_eq_true_iff.mp ok
    obtain ⟨hd, z, es, xs, pr, dd, e1, e2, n⟩ := dc_tup I g o1
    obtain ⟨b, rfl⟩ := nv_tup nv
    cases (show u = Value.ref b from ry)
    refine wpAny_in_heap (room2 hu) (nv_is I nv (of_decide_eq_true o2)) hd dd ?_
    have q := (er_get pr (.tup es0)).isSome_eq
    rw [Option.isSome_map, e1, e2, getN_isSome hl] at q
    rw [← q]
    exact h _ (I.tok _)
theorem dc_notIn {Q : Value → Shared → Prop} (hu : A.units + 10 < cLine) (I : Inv X pins σ H s) (g : DcA X.KK H a ks ws) (nv : NV X.KK H k y) (ok : kOk ks k = true) (ry : RelV y u) (h : ∀ s', Inv X pins σ H s' → Q (.bool (!decide (k ∈ ks))) s') :
    wpAny (model X.prog X.w) A (compareOp .NotIn u (.ref a)) Q E s := by
  have hl := g.length
  cases k with
  | none => cases ok
  | text x => cases ok
  | num i =>
    obtain ⟨kvs, e, e1, e2⟩ := dc_num g ok
    rw [nv_num nv] at ry
    refine d_notIn (by omega) I (DGet.k e) ry fun s' I' => ?_
    rw [keys_get, e1, e2]
    show Q (.bool (!(getN ks ws (.num i)).isSome)) s'
    rw [getN_isSome hl]
    exact h s' I'
  | tup es0 =>
    obtain ⟨o1, o2⟩ := Bool.and_eq_true_iff.mp ok
    obtain ⟨hd, z, es, xs, pr, dd, e1, e2, n⟩ := dc_tup I g o1
    obtain ⟨b, rfl⟩ := nv_tup nv
    cases (show u = Value.ref b from ry)
    refine wpAny_notIn_heap (room2 hu) (nv_is I nv (of_decide_eq_true o2)) hd dd ?_
    have q := (er_get pr (.tup es0)).isSome_eq
    rw [Option.isSome_map, e1, e2, getN_isSome hl] at q
    rw [← q]
    exact h _ (I.tok _)
/-- d[y], there -/
theorem dc_get {Q : Value → Shared → Prop} (hu : A.units + 10 < cLine) (I : Inv X pins σ H s) (g : DcA X.KK H a ks ws) (nv : NV X.KK H k y) (ok : kOk ks k = true) (hv : getN ks ws k = some v) (ry : RelV y u) (h : ∀ w' s', Inv X pins σ H s' → RelV v w' → Q w' s') :
    wpAny (model X.prog X.w) A (getItem (.ref a) u) Q E s := by
  cases k with
  | none => cases ok
  | text x => cases ok
  | num i =>
    obtain ⟨kvs, e, e1, e2⟩ := dc_num g ok
    rw [nv_num nv] at ry
    refine d_getItem (v := v) (by omega) I (by
      have q := DGet.k (k := .inl i) e
      rw [keys_get, e1, e2, show nkOf (.inl i) = .num i from rfl, hv] at q
      exact q) ry h
  | tup es0 =>
    obtain ⟨o1, o2⟩ := Bool.and_eq_true_iff.mp ok
    obtain ⟨hd, z, es, xs, pr, dd, e1, e2, n⟩ := dc_tup I g o1
    obtain ⟨b, rfl⟩ := nv_tup nv
    cases (show u = Value.ref b from ry)
    obtain ⟨w', hw, rw'⟩ := RelO.some_of (v := v) (o := (atKey xs (.tup es0)).map (·.2)) (by rw [← hv, ← e1, ← e2]; exact er_get pr _)
    obtain ⟨p, hp, hp2⟩ := Option.map_eq_some_iff.mp hw
    refine wpAny_getItem_heap (room2 hu) (nv_is I nv (of_decide_eq_true o2)) dd hp ?_
    rw [hp2]
    exact h w' _ (I.tok _) rw'
end
end DL

set_option Elab.async false
set_option linter.all false
set_option maxRecDepth 100000
set_option maxHeartbeats 4000000
/-! D23: d[k] = v, d.get(k, x), sets at the level of the abstract heap. -/
namespace DL
open PySem PySem.Spec PyProof.Rows L2 SrtO
theorem mut_mt {H : Hp} {a : Addr} (h : ∃ o, H a = some o ∧ Mt o) : Mut (H a) := by
  obtain ⟨o, e, m⟩ := h
  rw [e]
  cases o <;> first | exact trivial | exact m
theorem nodup_nk : ∀ {l : List Key}, l.Nodup → (l.map nkOf).Nodup
  | [], _ => List.nodup_nil
  | k :: l, h => by
    rw [List.nodup_cons] at h
    rw [List.map_cons, List.nodup_cons]
    refine ⟨fun z => ?_, nodup_nk h.2⟩
    obtain ⟨j, hj, e⟩ := List.mem_map.mp z
    exact h.1 (nkOf_inj e ▸ hj)
section
variable {X : Cx} {pins : List (Addr × Obj)} {σ : L2.St} {H : Hp} {s : Shared} {a : Addr} {ks : List NestedKey} {ws : List V} {k : NestedKey} {y v d : V} {u r : Value} {A : Around} {E : Value → Shared → Prop}
theorem er_fact (w : World) {l : List EN} {m : List (NestedKey × Addr × Value)} (q : Paired ER l m) : (∀ e ∈ l, NV X.KK H e.1 (.ref e.2.1)) →
    (m.map fun x => (⟨hash0 x.1, .ref x.2.1, x.2.2⟩ : DictEntry)) = m.map (entryOfKey (nestedKind X.prog w)) := by
  induction q with
  | nil => intro _; rfl
  | @cons p q ps qs hq t ih =>
    intro hn
    have i1 := ih fun e he => hn e (List.mem_cons_of_mem _ he)
    have nv := hn p List.mem_cons_self
    rw [List.map_cons, List.map_cons, i1]
    have : hash0 q.1 = (nestedKind X.prog w).hash q.1 := by
      rw [← hq.1]
      exact (hash0_eq w _ (NV.n _ _ nv)).symm
    unfold entryOfKey
    rw [this]
theorem er_keys {l : List EN} {m : List (NestedKey × Addr × Value)} (p : Paired ER l m) : l.map (·.1) = m.map (·.1) := by
  induction p with
  | nil => rfl
  | cons hq t ih => rw [List.map_cons, List.map_cons, ih, hq.1]
/-- behind a store -/
def putE (es : List EN) (k : NestedKey) (b : Addr) (v : V) : List EN := if (es.any fun e => decide (e.1 = k)) = true then es.map (fun e => if e.1 = k then (e.1, e.2.1, v) else e) else es ++ [(k, b, v)]
theorem putE_rows (es : List EN) (k : NestedKey) (b : Addr) (v : V) (nd : (es.map (·.1)).Nodup) : (putE es k b v).map (·.1) = addN (es.map (·.1)) k ∧ (putE es k b v).map (·.2.2) = putN (es.map (·.1)) (es.map (·.2.2)) k v :=
  row_put (fun e : EN => e.1) (·.2.2) k v (fun e => (e.1, e.2.1, v)) (k, b, v) (fun e h => ⟨h, rfl⟩) ⟨rfl, rfl⟩ es nd
theorem putE_ne (es : List EN) (k : NestedKey) (b : Addr) (v : V) : putE es k b v ≠ [] := by
  unfold putE
  split
  · rename_i h
    intro z
    rw [List.map_eq_nil_iff.mp z] at h
    cases h
  · simp
theorem putE_mem {es : List EN} {k : NestedKey} {b : Addr} {v : V} {e : EN} (h : e ∈ putE es k b v) : (e.1 = k ∧ e.2.1 = b) ∨ ∃ e' ∈ es, e.1 = e'.1 ∧ e.2.1 = e'.2.1 := by
  unfold putE at h
  split at h
  · obtain ⟨e', he, rfl⟩ := List.mem_map.mp h
    refine .inr ⟨e', he, ?_⟩
    split <;> exact ⟨rfl, rfl⟩
  · rcases List.mem_append.mp h with h | h
    · exact .inr ⟨e, h, rfl, rfl⟩
    · rw [List.mem_singleton.mp h]; exact .inl ⟨rfl, rfl⟩
theorem putE_len (es : List EN) (k : NestedKey) (b : Addr) (v : V) : (putE es k b v).length ≤ es.length + 1 := by
  unfold putE
  split
  · rw [List.length_map]; omega
  · simp
theorem er_put {es : List EN} {xs : List (NestedKey × Addr × Value)} (h : Paired ER es xs) (k : NestedKey) (b : Addr) (rv : RelV v r) : Paired ER (putE es k b v) (storedH xs k b r) := by
  have e : (es.any fun kv => decide (kv.1 = k)) = (atKey xs k).isSome := by
    clear rv
    induction h with
    | nil => rfl
    | @cons p q ps qs hq t ih =>
      rw [List.any_cons, ih]
      by_cases e : p.1 = k
      · have e' : q.1 = k := hq.1.symm.trans e
        simp [atKey, List.find?_cons, e, e']
      · have e' : ¬ q.1 = k := fun z => e (hq.1.trans z)
        simp [atKey, List.find?_cons, e, e']
  unfold putE storedH
  rw [e]
  split
  · clear e
    induction h with
    | nil => exact .nil
    | @cons p q ps qs hq t ih =>
      rename_i hc
      rw [List.map_cons, List.map_cons]
      refine .cons ?_ ?_
      · obtain ⟨h1, h2, h3⟩ := hq
        unfold putAt
        by_cases e : p.1 = k
        · rw [if_pos e, if_pos (h1.symm.trans e)]; exact ⟨h1, h2, rv⟩
        · rw [if_neg e, if_neg (fun z => e (h1.trans z))]; exact ⟨h1, h2, h3⟩
      · clear hc ih hq
        induction t with
        | nil => exact .nil
        | @cons p q ps qs hq t ih =>
          rw [List.map_cons, List.map_cons]
          refine .cons ?_ ih
          obtain ⟨h1, h2, h3⟩ := hq
          unfold putAt
          by_cases e : p.1 = k
          · rw [if_pos e, if_pos (h1.symm.trans e)]; exact ⟨h1, h2, rv⟩
          · rw [if_neg e, if_neg (fun z => e (h1.trans z))]; exact ⟨h1, h2, h3⟩
  · exact Paired.snoc h ⟨rfl, rfl, rv⟩
/-- d[y] = v -/
theorem dc_put {Q : Unit → Shared → Prop} (hu : A.units + 10 < cLine) (I : Inv X pins σ H s) (g : DcA X.KK H a ks ws) (nv : NV X.KK H k y) (ok : kOk ks k = true) (hl : ks.length < sizeLine) (ry : RelV y u) (rv : RelV v r)
    (h : ∀ s' o', DcA X.KK (upd H a o') a (addN ks k) (putN ks ws k v) → Inv X pins σ (upd H a o') s' → Q () s') : wpAny (model X.prog X.w) A (setItem (.ref a) u r) Q E s := by
  have mt := g.mt
  cases k with
  | none => cases ok
  | text x => cases ok
  | num i =>
    obtain ⟨kvs, e, e1, e2⟩ := dc_num g ok
    rw [nv_num nv] at ry
    have hk : kvs.length < sizeLine := by rw [← e1] at hl; simpa using hl
    refine d_setItem (by omega) I (DPut.k (k := .inl i) e hk) ry rv fun s' I' => h s' _ (.inl ⟨_, upd_same, ?_⟩) I'
    obtain ⟨_, _, vs, rel, dd⟩ := dk_of I.hok e
    have nd : (kvs.map fun p => nkOf p.1).Nodup := by
      obtain ⟨_, _, _, _, _, _, _, _, nd⟩ := dd
      rw [← rel.keys] at nd
      have := nodup_nk nd
      rw [List.map_map] at this
      exact this
    have q := row_put (fun p : Key × V => nkOf p.1) (·.2) (nkOf (.inl i)) v (fun p => (p.1, v)) (.inl i, v) (fun b hb => ⟨hb, rfl⟩) ⟨rfl, rfl⟩ kvs nd
    have ee : putK kvs (.inl i) v = if (kvs.any fun b => decide (nkOf b.1 = nkOf (.inl i))) = true then kvs.map (fun b => if nkOf b.1 = nkOf (.inl i) then (b.1, v) else b) else kvs ++ [(.inl i, v)] := by
      unfold putK
      have e3 : ∀ p : Key × V, (p.1 = (.inl i : Key)) ↔ (nkOf p.1 = nkOf (.inl i)) := fun p => ⟨fun z => by rw [z], nkOf_inj⟩
      simp only [e3]
    rw [ee]
    rw [e1, e2] at q
    exact q
  | tup es0 =>
    obtain ⟨o1, o2⟩ := Bool.and_eq_true_iff.mp ok
    obtain ⟨hd, z, es, xs, pr, dd, e1, e2, n⟩ := dc_tup I g o1
    obtain ⟨b, rfl⟩ := nv_tup nv
    cases (show u = Value.ref b from ry)
    have hel : es.length = ks.length := by rw [← e1]; simp
    have hxl : xs.length = es.length := (Paired.length pr).symm
    have hz : xs.length ≤ sizeLine := by rw [hxl, hel]; exact z
    have nde : (es.map (·.1)).Nodup := by
      rw [er_keys pr]
      obtain ⟨_, _, _, _, _, _, _, _, nd⟩ := dd
      exact nd
    refine wpAny_setItem_heap (hsz := hz) (room2 hu) (nv_is I nv (of_decide_eq_true o2)) dd fun h' dd' hs => h _ (DctO a (putE es (.tup es0) b v)) ?_ ?_
    · refine .inr ⟨_, upd_same, ?_, ?_, putE_ne _ _ _ _, fun e he => ?_⟩
      · rw [← e1]; exact (putE_rows es _ b v nde).1
      · rw [← e1, ← e2]; exact (putE_rows es _ b v nde).2
      · rcases putE_mem he with ⟨h1, h2⟩ | ⟨e', he', h1, h2⟩
        · rw [h1, h2]; exact ⟨of_decide_eq_true o2, NV.tk (tk_mt mt) _ _ nv⟩
        · rw [h1, h2]; exact ⟨(n e' he').1, NV.tk (tk_mt mt) _ _ (n e' he').2⟩
    · obtain ⟨q, ds, ep, hq, h2, h3, h4, h5, h6⟩ := dd'
      have pr' := er_put pr (.tup es0) b rv
      have nvs : ∀ e ∈ putE es (.tup es0) b v, NV X.KK H e.1 (.ref e.2.1) := fun e he => by
        rcases putE_mem he with ⟨h1, h2⟩ | ⟨e', he', h1, h2⟩
        · rw [h1, h2]; exact nv
        · rw [h1, h2]; exact (n e' he').2
      refine d_write I (mut_mt mt) hs ⟨q, hq⟩ (dctO_ok ⟨?_, hd, ?_, q, ds, ep, _, hq, h2, h3, pr', ?_⟩)
      · have := putE_len es (.tup es0) b v
        omega
      · rw [er_keys pr']; exact h6
      · rw [h4]; exact (er_fact X.w pr' nvs).symm
/-- d.get(y, x) -/
theorem dc_get2 {Q : Value → Shared → Prop} (hu : A.units + 10 < cLine) (I : Inv X pins σ H s) (g : DcA X.KK H a ks ws) (nv : NV X.KK H k y) (ok : kOk ks k = true) (ry : RelV y u) (rd : RelV d r)
    (h : ∀ w' s', Inv X pins σ H s' → RelV ((getN ks ws k).getD d) w' → Q w' s') : wpAny (model X.prog X.w) A (call (.builtin "dict.get") [.ref a, u, r]) Q E s := by
  cases k with
  | none => cases ok
  | text x => cases ok
  | num i =>
    obtain ⟨kvs, e, e1, e2⟩ := dc_num g ok
    rw [nv_num nv] at ry
    refine d_get2 (by omega) I (by
      have q := DGet.k (k := .inl i) e
      rw [keys_get, e1, e2, show nkOf (.inl i) = .num i from rfl] at q
      exact q) ry rd h
  | tup es0 =>
    obtain ⟨o1, o2⟩ := Bool.and_eq_true_iff.mp ok
    obtain ⟨hd, z, es, xs, pr, dd, e1, e2, n⟩ := dc_tup I g o1
    obtain ⟨b, rfl⟩ := nv_tup nv
    cases (show u = Value.ref b from ry)
    refine call_meetsIn PySem.F.slot_dict_get dd.typeIs PySem.F.entry_dict_get (PySem.F.args_dict_get_3 _ _ _) (meetsH_dict_get_default (nestedKind X.prog X.w) a b hd r) ⟨room2 hu, _, xs, nv_is I nv (of_decide_eq_true o2), dd, h _ _ (I.tok _) ?_⟩
    have q := er_get pr (.tup es0)
    rw [e1, e2] at q
    exact q.getD rd
/-- d.get(y) -/
theorem dc_get1 {Q : Value → Shared → Prop} (hu : A.units + 10 < cLine) (I : Inv X pins σ H s) (g : DcA X.KK H a ks ws) (nv : NV X.KK H k y) (ok : kOk ks k = true) (ry : RelV y u)
    (h : ∀ w' s', Inv X pins σ H s' → RelV ((getN ks ws k).getD .non) w' → Q w' s') : wpAny (model X.prog X.w) A (call (.builtin "dict.get") [.ref a, u]) Q E s := by
  cases k with
  | none => cases ok
  | text x => cases ok
  | num i =>
    obtain ⟨kvs, e, e1, e2⟩ := dc_num g ok
    rw [nv_num nv] at ry
    refine d_get1 (by omega) I (by
      have q := DGet.k (k := .inl i) e
      rw [keys_get, e1, e2, show nkOf (.inl i) = .num i from rfl] at q
      exact q) ry h
  | tup es0 =>
    obtain ⟨o1, o2⟩ := Bool.and_eq_true_iff.mp ok
    obtain ⟨hd, z, es, xs, pr, dd, e1, e2, n⟩ := dc_tup I g o1
    obtain ⟨b, rfl⟩ := nv_tup nv
    cases (show u = Value.ref b from ry)
    refine call_meetsIn PySem.F.slot_dict_get dd.typeIs PySem.F.entry_dict_get (PySem.F.args_dict_get_2 _ _) (meetsH_dict_get (nestedKind X.prog X.w) a b hd) ⟨room2 hu, _, xs, nv_is I nv (of_decide_eq_true o2), dd, h _ _ (I.tok _) ?_⟩
    have q := er_get pr (.tup es0)
    rw [e1, e2] at q
    exact q.getD rfl
end
end DL

set_option Elab.async false
set_option linter.all false
set_option maxRecDepth 100000
set_option maxHeartbeats 4000000
/-! D24: rules of dicts and sets over the abstract heap. -/
namespace DL
open PySem PySem.Spec PyProof.Rows L2 SrtO
section
variable {X : Cx} {pins : List (Addr × Obj)} {σ : L2.St} {H : Hp} {s : Shared} {a : Addr} {ks : List NestedKey} {ws : List V} {k : NestedKey} {y v d : V} {u r : Value} {A : Around} {E : Value → Shared → Prop}
theorem dc_typeIs (I : Inv X pins σ H s) (g : DcA X.KK H a ks ws) : s.TypeIs (.ref a) "dict" ∧ (∀ b, Value.ref a = .ref b → ∃ ob, s.heap.get? b = some ob ∧ ob.dict = none) := by
  rcases g with ⟨kvs, h, _⟩ | ⟨es, h, _⟩
  · obtain ⟨_, _, vs, _, dd⟩ := dk_of I.hok h
    refine ⟨dd.typeIs, fun b q => ?_⟩
    cases q
    obtain ⟨ob, _, _, h1, h2, _⟩ := dd
    exact ⟨ob, h1, h2.2.1⟩
  · obtain ⟨⟨z, hd, nd, o, ds, ep, xs, h1, h2, h3, pr, h4⟩, _⟩ := (show ObjOk X.prog X.w H s.heap a (DctO a es) from I.hok a _ h)
    refine ⟨⟨o, h1, h2.1⟩, fun b q => ?_⟩
    cases q
    exact ⟨o, h1, h2.2.1⟩
/-- d[k] -/
def rIxC (K : KF) : R2 := fun x y H Q => ∃ a ks ws k v, x = .ref a ∧ DcA K H a ks ws ∧ NV K H k y ∧ kOk ks k = true ∧ getN ks ws k = some v ∧ Q v H
theorem ix_dct (hu : X.A.units + 10 < cLine) : IxR X (rIxC X.KK) := by
  intro value slice pins s σ H x y v u Q I rx ry h hs
  obtain ⟨a, ks, ws, k, w, rfl, g, nv, ok, hv, q⟩ := h
  obtain rfl : v = Value.ref a := rx
  have hT := (dc_typeIs I g).1
  unfold subscriptTail
  refine wpAny_bind ?_
  rw [getitemInPython_of_ne hT.not_modules]
  refine wpAny_bind (wpAny_specialOf hT PySem.F.slot_dict_getitem.lookup ?_)
  have fin : wpAny (model X.prog X.w) X.A (subscripted slice false (.ref a) u) (fun r s₃ => wpAny (model X.prog X.w) X.A (letTemporaryGo value (.ref a) r >>= fun _ => pure r) (EP X pins σ Q) X.xe s₃) X.xe s := by
    rw [hs]
    exact wpAny_operating (wpAny_mono (dc_get hu I g nv ok hv ry fun w' s' I' rw' => (⟨w, H, I', rw', q⟩ : EP X pins σ Q w' s')) (fun r s₃ h₃ => wpAny_bind (wpAny_letTemporaryGo (wpAny_pure h₃))) fun _ _ x => x)
  first
    | exact wpAny_pure (wpAny_bind fin)
    | exact wpAny_bind (wpAny_pure (wpAny_bind fin))
    | exact wpAny_bind fin
/-- d[k] = v -/
def rSetC (K : KF) : TSet := fun o i v H Q => ∃ a ks ws k, o = .ref a ∧ DcA K H a ks ws ∧ NV K H k i ∧ kOk ks k = true ∧ ks.length < sizeLine ∧ ∀ o', DcA K (upd H a o') a (addN ks k) (putN ks ws k v) → Q (upd H a o')
theorem set_dct (hu : X.A.units + 10 < cLine) : PSet X (rSetC X.KK) := by
  intro pins s σ H o i v ov iv u Q I ro ri rv h
  obtain ⟨a, ks, ws, k, rfl, g, nv, ok, hl, q⟩ := h
  obtain rfl : ov = Value.ref a := ro
  exact dc_put hu I g nv ok hl ri rv fun s' o' g' I' => ⟨_, I', q o' g'⟩
theorem PSet.or {t t' : TSet} (h : PSet X t) (h' : PSet X t') : PSet X (fun o i v H Q => t o i v H Q ∨ t' o i v H Q) := by
  intro pins s σ H o i v ov iv u Q I ro ri rv q
  rcases q with q | q
  · exact h pins s σ H o i v ov iv u Q I ro ri rv q
  · exact h' pins s σ H o i v ov iv u Q I ro ri rv q
/-- k in d -/
def rInC (K : KF) (neg : Bool) : R2 := fun x y H Q => ∃ a ks ws k, y = .ref a ∧ DcA K H a ks ws ∧ NV K H k x ∧ kOk ks k = true ∧ Q (.bl (if neg then !decide (k ∈ ks) else decide (k ∈ ks))) H
theorem op_inC (hu : X.A.units + 10 < cLine) : OpR X (compareOp .In) (rInC X.KK false) := by
  intro pins s σ H x y v u Q I rx ry h
  obtain ⟨a, ks, ws, k, rfl, g, nv, ok, q⟩ := h
  obtain rfl : u = Value.ref a := ry
  exact dc_in hu I g nv ok rx fun s' I' => ⟨.bl _, H, I', rfl, q⟩
theorem op_notInC (hu : X.A.units + 10 < cLine) : OpR X (compareOp .NotIn) (rInC X.KK true) := by
  intro pins s σ H x y v u Q I rx ry h
  obtain ⟨a, ks, ws, k, rfl, g, nv, ok, q⟩ := h
  obtain rfl : u = Value.ref a := ry
  exact dc_notIn hu I g nv ok rx fun s' I' => ⟨.bl _, H, I', rfl, q⟩
/-! ### a display of one pair -/
theorem store_one {P : Program} {w : World} {dd : Addr} {Q : PUnit → Shared → Prop} (h : wpAny (model P w) A (dictSet dd u r) (fun _ s' => Q PUnit.unit s') E s) :
    wpAny (model P w) A (forIn [(u, r)] PUnit.unit fun (x : Value × Value) (_ : PUnit) => (do dictSet dd x.1 x.2; pure (ForInStep.yield PUnit.unit) : Sem (ForInStep PUnit))) Q E s := by
  rw [List.forIn_cons]
  refine wpAny_bind (wpAny_bind (wpAny_mono h (fun _ s' q => wpAny_pure ?_) fun _ _ e => e))
  show wpAny (model P w) A (forIn ([] : List (Value × Value)) PUnit.unit _) Q E s'
  rw [List.forIn_nil]
  exact wpAny_pure q
def tDct1 (K : KF) (tk tv : TE) : TE := fun σ H Q => ∀ p, H p = none → tk σ (upd H p (.dK [])) fun x H1 => tv σ H1 fun y H2 => H2 p = some (.dK []) ∧ ∃ k, NV K H2 k x ∧ kOk [] k = true ∧ ∀ o', DcA K (upd H2 p o') p [k] [y] → Q (.ref p) (upd H2 p o')
theorem dc_set1 {Q : Unit → Shared → Prop} (hu : A.units + 10 < cLine) (I : Inv X pins σ H s) (g : H a = some (.dK [])) (nv : NV X.KK H k y) (ok : kOk [] k = true) (ry : RelV y u) (rv : RelV v r)
    (h : ∀ s' o', DcA X.KK (upd H a o') a [k] [v] → Inv X pins σ (upd H a o') s' → Q () s') : wpAny (model X.prog X.w) A (dictSet a u r) Q E s := by
  have mt : ∃ o, H a = some o ∧ Mt o := ⟨_, g, trivial⟩
  have gd : DcA X.KK H a [] [] := .inl ⟨[], g, rfl, rfl⟩
  cases k with
  | none => cases ok
  | text x => cases ok
  | num i =>
    obtain ⟨z, hd, vs, rel, dd⟩ := dk_of I.hok g
    cases rel
    rw [nv_num nv] at ry
    refine wpAny_dictSet_pairs (hsz := Nat.zero_le _) (kV_is ry) dd fun h' dd' hs => h _ (.dK [(.inl i, v)]) (.inl ⟨_, upd_same, rfl, rfl⟩) ?_
    have he : ∃ q, h'.get? a = some q := let ⟨q, _, _, hq, _⟩ := dd'; ⟨q, hq⟩
    exact d_write I (by rw [g]; exact True.intro) hs he (dk_new (by rw [sizeLine_eq]; simp) hd (.cons ⟨rfl, rv⟩ .nil) dd')
  | tup es0 =>
    have ok' : (([] : List NestedKey).all isTup && decide ((NestedKey.tup es0).depth ≤ 8)) = true := ok
    obtain ⟨o1, o2⟩ := Bool.and_eq_true_iff.mp ok'
    obtain ⟨hd, z, es, xs, pr, dd, e1, e2, n⟩ := dc_tup I gd o1
    have e0 : es = [] := List.map_eq_nil_iff.mp e1
    subst e0
    cases pr
    obtain ⟨b, rfl⟩ := nv_tup nv
    cases (show u = Value.ref b from ry)
    refine wpAny_dictSet_heap (hsz := Nat.zero_le _) (show A.units + 8 < cLine by omega) (nv_is I nv (of_decide_eq_true o2)) dd fun h' dd' hs => h _ (DctO a [(.tup es0, b, v)]) ?_ ?_
    · refine .inr ⟨_, upd_same, rfl, rfl, by simp, fun e he => ?_⟩
      rw [List.mem_singleton.mp he]
      exact ⟨of_decide_eq_true o2, NV.tk (tk_mt mt) _ _ nv⟩
    · obtain ⟨q, ds, ep, hq, h2, h3, h4, h5, h6⟩ := dd'
      have pr' : Paired ER [(.tup es0, b, v)] [((.tup es0 : NestedKey), b, r)] := .cons ⟨rfl, rfl, rv⟩ .nil
      refine d_write I (mut_mt mt) hs ⟨q, hq⟩ (dctO_ok ⟨by rw [sizeLine_eq]; simp, hd, by simp, q, ds, ep, _, hq, h2, h3, pr', ?_⟩)
      rw [h4]
      exact (er_fact (X := X) (H := H) X.w pr' fun e he => by rw [List.mem_singleton.mp he]; exact nv).symm
theorem pe_dct1 {ek ev : Expr} {tk tv : TE} {pos : Pos} (hu : X.A.units + 10 < cLine) (hk : PE X ek tk) (hv : PE X ev tv) : PE X (.Dict [some ek] [ev] pos) (tDct1 X.KK tk tv) := by
  refine ⟨fun pins s σ H Q I q => ?_⟩
  have hn := I.hok.fresh (Nat.le_refl s.heap.objs.size)
  have I1 := I.laid (a := s.heap.objs.size) (o := .dK []) (h' := s.heap.push { cls := .type "dict", data := .dict #[] }) (t' := s.toks) (fun _ _ q => Heap.get?_push_of_some _ q) (Nat.le_refl _) (dk_empty s.heap I.big)
  have hl := pairTrees_length [some ek] [ev] X.env pos rfl rfl
  rw [arm_eval_Dict, zip_pairTrees [some ek] [ev] X.env pos rfl rfl, dictDisplay_pairs (pairTrees [some ek] [ev] X.env pos) (fun z => by rw [z] at hl; cases hl) (by rw [hl]; show 1 < 17; omega)]
  refine wpAny_bind (wpAny_standAt (wpAny_bind ?_))
  unfold subDict
  refine wpAny_bind (wpAny_alloc ?_)
  refine wpAny_bind (wpAny_holding ?_)
  rw [if_pos (by rw [hl]; show 1 ≤ 15; omega)]
  refine wpAny_bind (pairTrees_cons_walk (thn (hk.run pins _ σ _ _ I1 (q _ hn)) fun u s1 ⟨x, H1, I2, rx, q1⟩ => thn (hv.run pins s1 σ H1 _ I2 q1) fun w2 s2 ⟨y, H2, I3, ry, e, k, nv, ok, q2⟩ => pairTrees_nil_walk ?_))
  refine wpAny_holding ?_
  exact wpAny_bind (store_one (dc_set1 hu I3 e nv ok rx ry fun s3 o' g I4 => wpAny_pure (wpAny_pure (wpAny_pure ⟨.ref s.heap.objs.size, _, I4, rfl, q2 o' g⟩))))
end
end DL

set_option Elab.async false
set_option linter.all false
set_option maxRecDepth 100000
set_option maxHeartbeats 4000000
/-! D30: sets of ints: set(xs), s.add(k), in, not in, sorted(s). -/
namespace DL
open PySem PySem.Spec PyProof.Rows L2 SrtO
variable {Tb : Pm}
/-- without doubles, in the order met -/
def ddI (ns : List Int) : List Int := ns.foldl step_dedup []
theorem dd_step {acc : List Int} {k x : Int} : x ∈ step_dedup acc k ↔ x ∈ acc ∨ x = k := by
  unfold step_dedup
  split
  · rename_i h
    obtain ⟨y, hy, e⟩ := List.any_eq_true.mp h
    have e := eq_of_beq e
    subst e
    exact ⟨.inl, fun z => z.elim id fun z => z ▸ hy⟩
  · simp
theorem dd_fold {x : Int} : ∀ {ns acc : List Int}, x ∈ ns.foldl step_dedup acc ↔ x ∈ acc ∨ x ∈ ns
  | [], acc => by simp
  | n :: ns, acc => by
    rw [List.foldl_cons, dd_fold, dd_step, List.mem_cons]
    constructor
    · rintro ((h | h) | h)
      · exact .inl h
      · exact .inr (.inl h)
      · exact .inr (.inr h)
    · rintro (h | h | h)
      · exact .inl (.inl h)
      · exact .inl (.inr h)
      · exact .inr h
theorem dd_mem {x : Int} {ns : List Int} : x ∈ ddI ns ↔ x ∈ ns := by
  unfold ddI
  rw [dd_fold]
  simp
theorem dd_ndS {acc : List Int} {k : Int} (h : acc.Nodup) : (step_dedup acc k).Nodup := by
  unfold step_dedup
  split
  · exact h
  · rename_i n
    refine List.nodup_append.mpr ⟨h, by simp, fun a ha b hb z => n ?_⟩
    rw [List.mem_singleton.mp hb] at z
    exact List.any_eq_true.mpr ⟨a, ha, by rw [z]; exact beq_self_eq_true k⟩
theorem dd_ndF : ∀ {ns acc : List Int}, acc.Nodup → (ns.foldl step_dedup acc).Nodup
  | [], _, h => h
  | k :: ns, acc, h => dd_ndF (ns := ns) (acc := step_dedup acc k) (dd_ndS h)
theorem dd_nodup (ns : List Int) : (ddI ns).Nodup := dd_ndF List.nodup_nil
theorem dd_lenF : ∀ {ns acc : List Int}, (ns.foldl step_dedup acc).length ≤ acc.length + ns.length
  | [], _ => Nat.le_refl _
  | n :: ns, acc => by
    rw [List.foldl_cons]
    refine Nat.le_trans dd_lenF ?_
    have : (step_dedup acc n).length ≤ acc.length + 1 := by unfold step_dedup; split <;> simp
    rw [List.length_cons]
    omega
theorem dd_len (ns : List Int) : (ddI ns).length ≤ ns.length := by
  have := dd_lenF (ns := ns) (acc := [])
  unfold ddI
  simpa using this
theorem met_dd (ns : List Int) : firstMet (fun i => ns.getD i 0) ns.length = ddI ns := by
  have : (List.range ns.length).map (fun i => ns.getD i 0) = ns := by
    apply List.ext_getElem?
    intro i
    rw [List.getElem?_map]
    by_cases h : i < ns.length
    · rw [List.getElem?_range h, List.getElem?_eq_getElem h]
      show some (ns.getD i 0) = _
      rw [List.getD_eq_getElem?_getD, List.getElem?_eq_getElem h]
      rfl
    · rw [List.getElem?_eq_none (by simp; omega), List.getElem?_eq_none (by omega)]
      rfl
  unfold firstMet ddI
  rw [this]
theorem ints_of_vals : ∀ {ns : List Int} {us : List Value}, Vals (ns.map V.int) us → IntsAre us ns
  | [], _, h => by
    cases h
    exact .nil
  | n :: ns, _, h => by
    cases h with
    | cons r h =>
      obtain ⟨t, rfl⟩ := r
      exact .cons n t (ints_of_vals h)
section
variable {X : Cx} {pins : List (Addr × Obj)} {σ : L2.St} {H : Hp} {s : Shared} {a : Addr} {b : Bool} {ks : List NestedKey}
def stS (ks : List NestedKey) : Int → Bool := fun i => decide (NestedKey.num i ∈ ks)
theorem stA_S (g : StA X.KK H a b ks) : H a = some (if b = true then SetF X.KK.ft a (stS ks) ks.length else .set (stS ks) ks.length) := by
  obtain ⟨S, h, _, _, m⟩ := g
  have : S = stS ks := funext fun i => by
    unfold stS
    rw [Bool.eq_iff_iff, decide_eq_true_eq]
    exact m i
  rw [← this]
  exact h
theorem st_setOf (I : Inv X pins σ H s) (g : StA X.KK H a b ks) : s.heap.SetOf (intKind X.prog X.w) a (stS ks) ks.length := by
  have h := stA_S g
  cases b with
  | false => exact I.hok a _ h
  | true => exact (setO_get I (h : H a = some (SetO X.w a (stS ks) ks.length))).setOf
theorem addN_nodup {k : NestedKey} (h : ks.Nodup) : (addN ks k).Nodup := by
  by_cases m : k ∈ ks
  · rw [addN_mem m]; exact h
  · rw [addN_new m]
    exact List.nodup_append.mpr ⟨h, by simp, fun x hx y hy z => m (by rw [List.mem_singleton.mp hy] at z; exact z ▸ hx)⟩
theorem addN_length {k : NestedKey} : (addN ks k).length = if k ∈ ks then ks.length else ks.length + 1 := by
  by_cases m : k ∈ ks
  · rw [addN_mem m, if_pos m]
  · rw [addN_new m, if_neg m]
    simp
theorem stS_add {k : Int} : (fun j => stS ks j || decide (j = k)) = stS (addN ks (.num k)) := funext fun j => by
  unfold stS
  rw [Bool.eq_iff_iff, Bool.or_eq_true, decide_eq_true_eq, decide_eq_true_eq, decide_eq_true_eq, mem_addN]
  exact ⟨fun h => h.imp id (fun z => by rw [z]), fun h => h.imp id (fun z => by cases z; rfl)⟩
theorem stA_of {H : Hp} {b : Bool} {K : KF} (h : H a = some (if b = true then SetF K.ft a (stS ks) ks.length else .set (stS ks) ks.length)) (n : ks.Nodup) (m : ∀ k ∈ ks, ∃ i, k = .num i) : StA K H a b ks :=
  ⟨stS ks, h, n, m, fun i => by unfold stS; rw [decide_eq_true_eq]⟩
/-- s.add(k) -/
theorem st_add {k : Int} {tk : Tok} {E : Value → Shared → Prop} {Q : Value → Shared → Prop} (I : Inv X pins σ H s) (g : StA X.KK H a b ks) (room : ks.length + 1 < scanBound)
    (h : ∀ s' o, StA X.KK (upd H a o) a b (addN ks (.num k)) → Inv X pins σ (upd H a o) s' → Q .none s') : wpAny (model X.prog X.w) X.A (call (.builtin "set.add") [.ref a, .int k tk]) Q E s := by
  have hS := stA_S g
  obtain ⟨_, _, nd, nm, _⟩ := g
  have nd2 := addN_nodup (k := .num k) nd
  have nm2 : ∀ x ∈ addN ks (.num k), ∃ i, x = NestedKey.num i := fun x hx => by
    rcases mem_addN.mp hx with z | z
    · exact nm x z
    · exact ⟨k, z⟩
  have ln : (if stS ks k = true then ks.length else ks.length + 1) = (addN ks (.num k)).length := by
    rw [addN_length]
    by_cases m : NestedKey.num k ∈ ks
    · rw [if_pos m, if_pos (by unfold stS; exact decide_eq_true m)]
    · rw [if_neg m, if_neg (by unfold stS; rw [decide_eq_false m]; decide)]
  cases b with
  | false =>
    have R : s.heap.SetOf (intKind X.prog X.w) a (stS ks) ks.length := I.hok a _ hS
    refine call_set_add (intKind_is _ _ _ _) rfl R room fun h' sb new => ?_
    rw [stS_add, ln] at new
    have he : ∃ u, h'.get? a = some u := by
      have ⟨o, _, _, _, ho, _⟩ := new
      exact ⟨o, ho⟩
    refine h _ (.set (stS (addN ks (.num k))) (addN ks (.num k)).length) (stA_of (by rw [upd_same]; rfl) nd2 nm2) ?_
    exact I.write (e := a) (t' := s.toks + 1) (by rw [hS]; trivial) (.inl rfl) (fun b u hb hu => (sb.2 b hb).trans hu) he new
  | true =>
    have R := setO_get I (hS : H a = some (SetO X.w a (stS ks) ks.length))
    refine setR_add R room fun h' sb new => ?_
    rw [stS_add, ln] at new
    have he : ∃ u, h'.get? a = some u := by
      have ⟨o, _, _, _, ho, _⟩ := new
      exact ⟨o, ho⟩
    refine h _ (SetO X.w a (stS (addN ks (.num k))) (addN ks (.num k)).length) (stA_of (by rw [upd_same]; rfl) nd2 nm2) ?_
    exact I.write (e := a) (t' := s.toks + 1) (by rw [hS]; trivial) (.inl rfl) (fun b u hb hu => (sb.2 b hb).trans hu) he (setO_new new)
def tSAddX (K : KF) (to : TE) (t : TA) : TE := fun σ H Q => to σ H fun x H1 => (∃ a b ks, x = V.ref a ∧ StA K H1 a b ks) ∧ t σ H1 fun xs H2 => ∃ a b ks k, x = V.ref a ∧ xs = [V.int k] ∧ StA K H2 a b ks ∧ ks.length + 1 < scanBound ∧ ∀ o, StA K (upd H2 a o) a b (addN ks (.num k)) → Q .non (upd H2 a o)
variable {o e : Expr} {es : List Expr} {to : TE} {t : TA} {apos cpos : Pos}
theorem pe_saddX (ho : PE X o to) (ha : PA X (e :: es) t)
    (hbase : attributeBase o "add" X.env (eval o X.env) = eval o X.env := by rfl)
    (hfew : ((backTo cpos (starEach (e :: es) X.env)).all (fun x => !x.1) && (backToKw cpos (keywordEach [] X.env)).all (fun x => x.1.isSome)
      && decide ((e :: es).length + ([] : List Keyword).length + (if ([] : List Keyword).isEmpty then 0 else 1) < 30)) = true := by rfl)
    (hline : (apos.endLine == cpos.line) = true := by rfl) (hs : starEach (e :: es) X.env = (false, eval e X.env) :: starEach es X.env := by rfl) (hplain : (backTo cpos (starEach es X.env)).any (·.1) = false := by rfl) :
    PE X (.Call (.Attribute o "add" apos) (e :: es) [] cpos) (tSAddX X.KK to t) := by
  refine ⟨fun pins s σ H Q I h => ?_⟩
  refine wpAny_Call_method_late hbase hfew hline rfl (thn (ho.run pins s σ H _ I h) fun v s1 ⟨x, H1, I1, r1, ty, q1⟩ => ?_)
  obtain ⟨a, b, ks, rfl, g⟩ := ty
  have hS := st_setOf I1 g
  cases r1
  refine ⟨"set", "set.add", PySem.F.plainAttrs_set, PySem.F.slot_set_add, PySem.F.type_set_add, hS.typeIs, hS.noDict, ?_⟩
  have hA := ha.run cpos pins s1 σ H1 _ I1 q1
  rw [hs] at hA ⊢
  refine Calls.callWith_builtin (by show (false || (backTo cpos (starEach es X.env)).any (·.1)) = false; rw [hplain] <;> rfl) (Calls.evalArgs_plain ?_)
  refine thn hA fun us s2 ⟨vs, H2, I2, r2, a', b', ks', k, ex, exs, g2, room, q2⟩ => ?_
  cases ex
  subst exs
  obtain ⟨u, rfl, ru⟩ := vals1 r2
  obtain ⟨tk, rfl⟩ := ru
  exact st_add I2 g2 room fun s' o' g' I' => ⟨.non, _, I', rfl, q2 o' g'⟩
/-- in, not in -/
def rSInX (K : KF) (neg : Bool) : R2 := fun x y H Q => ∃ k a b ks, x = V.int k ∧ y = V.ref a ∧ StA K H a b ks ∧ Q (.bl (if neg then !decide (NestedKey.num k ∈ ks) else decide (NestedKey.num k ∈ ks))) H
theorem op_inS : OpR X (compareOp .In) (rSInX X.KK false) := by
  intro pins s σ H x y v u Q I rx ry h
  obtain ⟨k, a, b, ks, rfl, rfl, ha, q⟩ := h
  obtain ⟨tk, rfl⟩ := rx
  cases ry
  exact wpAny_inSet_of (intKind_is _ _ _ _) rfl (st_setOf I ha) ⟨.bl _, H, I.tok _, rfl, q⟩
theorem op_ninS : OpR X (compareOp .NotIn) (rSInX X.KK true) := by
  intro pins s σ H x y v u Q I rx ry h
  obtain ⟨k, a, b, ks, rfl, rfl, ha, q⟩ := h
  obtain ⟨tk, rfl⟩ := rx
  cases ry
  exact wpAny_notInSet_of (intKind_is _ _ _ _) rfl (st_setOf I ha) ⟨.bl _, H, I.tok _, rfl, q⟩
/-- set(xs) -/
def rSetL (K : PySem.W.Frag) : List V → Hp → VK → Prop := fun xs H Q => ∃ (l : Addr) (ns : List Int), xs = [V.ref l] ∧ SqL K H l (ns.map V.int) ∧ ns.length + 1 < scanBound ∧ ∀ p, H p = none → Q (.ref p) (upd H p (.set (stS ((ddI ns).map .num)) (ddI ns).length))
theorem cr_setL (hc : X.calm = true) : CallR X (.type "set") (rSetL X.K) := by
  intro pins s σ H xs us Q I r h
  obtain ⟨l, ns, rfl, hl, hz, q⟩ := h
  rw [Vals.ref1 r]
  obtain ⟨its, rv, pl, _⟩ := I.list hl
  have hn : H s.heap.objs.size = none := I.hok.fresh (Nat.le_refl _)
  have len : its.length = ns.length := by
    have := rv.length
    rw [List.length_map] at this
    exact this.symm
  refine call_set_list (ns := ns) (I.ok.hd hc) pl.isList (by simpa using ints_of_vals rv) (by simpa [len] using hz) fun h' tk g k => ?_
  have kp : ∀ b u, s.heap.get? b = some u → h'.get? b = some u := fun b u e => k b u (Heap.lt_size e) e
  have lz : its.toArray.size = ns.length := by rw [List.size_toArray, len]
  rw [lz, met_dd] at g
  have eS : (fun k' => (ddI ns).any (· == k')) = stS ((ddI ns).map .num) := funext fun k' => by
    unfold stS
    rw [Bool.eq_iff_iff, List.any_eq_true, decide_eq_true_eq, List.mem_map]
    exact ⟨fun ⟨x, hx, e⟩ => ⟨x, hx, by rw [eq_of_beq e]⟩, fun ⟨x, hx, e⟩ => ⟨x, hx, by cases e; exact beq_self_eq_true _⟩⟩
  rw [eS] at g
  exact ⟨.ref _, _, I.laid (o := .set (stS ((ddI ns).map .num)) (ddI ns).length) (t' := tk) kp (Nat.le_refl _) g, rfl, q _ hn⟩
end
end DL

set_option Elab.async false
set_option linter.all false
set_option maxRecDepth 100000
set_option maxHeartbeats 4000000
/-! D25: dicts over plain data: displays, in, d[k], d.get, d[k] = v. -/
namespace DL
open PySem PySem.Spec PyProof.Rows L2 SrtO
variable {Tb : Pm}
theorem toK_rp {K : KF} {H : Hp} {d : D} {k : NestedKey} {x : V} (h : toK d = some k) (r : Rp K H d x) : NV K H k x := toK_nv d k x h r
theorem RpL.getN {K : KF} {H : Hp} {k : NestedKey} {d : D} : ∀ {ks : List NestedKey} {vs : List D} {ws : List V}, RpL K H vs ws → DL.getN ks vs k = some d → ∃ w, DL.getN ks ws k = some w ∧ Rp K H d w
  | [], _, _, _, h => by simp [DL.getN] at h
  | j :: ks, [], _, _, h => by simp [DL.getN] at h
  | j :: ks, e :: vs, _, r, h => by
    unfold RpL at r
    obtain ⟨x, ys, rfl, q, r⟩ := r
    unfold DL.getN at h ⊢
    by_cases z : j = k
    · rw [if_pos z] at h ⊢
      cases h
      exact ⟨x, rfl, q⟩
    · rw [if_neg z] at h ⊢
      exact RpL.getN r h
/-- x in a tuple of data -/
def inTd (neg : Bool) (d e : D) : Option R := match e with
  | .tup ds => if eqOk d = true ∧ eqOk (.tup ds) = true then some (.val (.bl (if neg then !ds.any fun z => eqB z d else ds.any fun z => eqB z d))) else none
  | _ => none
def rInTD (K : PySem.W.Frag) (neg : Bool) : R2 := fun x y H Q => ∃ d ds, Dp K H x d ∧ Dp K H y (.tuple ds) ∧ SeqAt.shaped d = true ∧ SeqAt.shaped (.tuple ds) = true ∧ Q (.bl (if neg then !ds.any fun z => PyData.eqv z d else ds.any fun z => PyData.eqv z d)) H
section
variable {X : Cx}
theorem op_inTD (hu : X.A.units + 65 < cLine) : OpR X (compareOp .In) (rInTD X.K false) := by
  intro pins s σ H x y v u Q I rx ry h
  obtain ⟨d, ds, hd, he, sd, se, q⟩ := h
  obtain ⟨as, r1⟩ := Dp.reads I d x v hd rx
  obtain ⟨bs, r2⟩ := Dp.reads I (.tuple ds) y u he ry
  exact SeqAt.in_tuple_reads r2 r1 (SeqAt.canLay_of_shaped se) (SeqAt.canLay_of_shaped sd) (room_in_shaped sd hu) ⟨.bl _, H, I, rfl, q⟩
theorem op_notInTD (hu : X.A.units + 65 < cLine) : OpR X (compareOp .NotIn) (rInTD X.K true) := by
  intro pins s σ H x y v u Q I rx ry h
  obtain ⟨d, ds, hd, he, sd, se, q⟩ := h
  obtain ⟨as, r1⟩ := Dp.reads I d x v hd rx
  obtain ⟨bs, r2⟩ := Dp.reads I (.tuple ds) y u he ry
  exact SeqAt.notIn_tuple_reads r2 r1 (SeqAt.canLay_of_shaped se) (SeqAt.canLay_of_shaped sd) (room_in_shaped sd hu) ⟨.bl _, H, I, rfl, q⟩
theorem od_inTd {neg : Bool} {op : CmpOp} (h : OpR X (compareOp op) (rInTD X.K neg)) : OpD X (compareOp op) (inTd neg) := by
  refine ⟨_, h, fun B C H x y Q d e c hx hy h k => ?_⟩
  unfold inTd at h
  split at h
  · rename_i ds
    split at h
    · rename_i hz
      cases h
      have dy := Rp.dp _ _ (eqOk_hd hz.2) hy
      have sy := eqOk_sh hz.2
      unfold pd at dy sy
      refine ⟨pd d, pdL ds, Rp.dp _ _ (eqOk_hd hz.1) hx, dy, eqOk_sh hz.1, sy, ?_⟩
      rw [any_pd]
      exact k _ H [] (Same.refl _) rr_bl no_fresh List.nodup_nil
    · cases h
  · cases h
end
/-- x in a dict, a tuple, a list -/
def inX (d e : D) : Option R := match e with
  | .dct ks _ => (toK d).bind fun k => if kOk ks k = true then some (.val (.bl (decide (k ∈ ks)))) else none
  | .tup es => (match d with
    | .int i => (intL es).map fun ns => .val (.bl (decide (i ∈ ns)))
    | _ => inTd false d e)
  | .set _ ks => (match d with
    | .int i => some (.val (.bl (decide (NestedKey.num i ∈ ks))))
    | _ => none)
  | _ => inD d e
def ninX (d e : D) : Option R := match e with
  | .dct ks _ => (toK d).bind fun k => if kOk ks k = true then some (.val (.bl (!decide (k ∈ ks)))) else none
  | .tup es => (match d with
    | .int i => (intL es).map fun ns => .val (.bl (!decide (i ∈ ns)))
    | _ => inTd true d e)
  | .set _ ks => (match d with
    | .int i => some (.val (.bl (!decide (NestedKey.num i ∈ ks))))
    | _ => none)
  | _ => ninD d e
theorem inV_ints (i : Int) : ∀ ns : List Int, inV (.int i) (ns.map V.int) = decide (i ∈ ns)
  | [] => by simp [inV]
  | n :: ns => by
    have ih := inV_ints i ns
    unfold inV at ih ⊢
    rw [List.map_cons, List.any_cons, ih]
    show ((n == i) || decide (i ∈ ns)) = decide (i ∈ n :: ns)
    by_cases e : n = i
    · simp [e]
    · have e' : ¬ i = n := fun z => e z.symm
      simp [e, e']
theorem flat_ints (ns : List Int) : (ns.map V.int).all flatV = true := by
  rw [List.all_map, List.all_eq_true]
  intro n _
  rfl
section
variable {X : Cx}
theorem OpD.or3 {f : Value → Value → Sem Value} {p q : D → D → Option R} (h : OpD X f p) (h' : OpD X f q) {o : D → D → Option R} (e : ∀ d d' c, o d d' = some c → p d d' = some c ∨ q d d' = some c) : OpD X f o := by
  obtain ⟨r1, a1, b1⟩ := h
  obtain ⟨r2, a2, b2⟩ := h'
  refine ⟨_, OpR.or a1 a2, fun B C H x y Q d d' c hx hy h k => ?_⟩
  rcases e d d' c h with h | h
  · exact .inl (b1 B C H x y Q d d' c hx hy h k)
  · exact .inr (b2 B C H x y Q d d' c hx hy h k)
/-- x in a dict -/
def inC (neg : Bool) (d e : D) : Option R := match e with
  | .dct ks _ => (toK d).bind fun k => if kOk ks k = true then some (.val (.bl (if neg then !decide (k ∈ ks) else decide (k ∈ ks)))) else none
  | _ => none
def inT (neg : Bool) (d e : D) : Option R := match e with
  | .tup es => (match d with
    | .int i => (intL es).map fun ns => .val (.bl (if neg then !decide (i ∈ ns) else decide (i ∈ ns)))
    | _ => none)
  | _ => none
theorem od_inC {neg : Bool} {op : CmpOp} (h : OpR X (compareOp op) (rInC X.KK neg)) : OpD X (compareOp op) (inC neg) := by
  refine ⟨_, h, fun B C H x y Q d e c hx hy h k => ?_⟩
  unfold inC at h
  split at h
  · rename_i ks vs
    obtain ⟨j, e1, e2⟩ := bind1_some h
    split at e2
    · rename_i ok
      cases e2
      unfold Rp at hy
      obtain ⟨a, ws, rfl, g, _⟩ := hy
      exact ⟨a, ks, ws, j, rfl, g, toK_rp e1 hx, ok, k _ H [] (Same.refl _) rr_bl no_fresh List.nodup_nil⟩
    · cases e2
  · cases h
theorem od_inT {neg : Bool} {op : CmpOp} (h : OpR X (compareOp op) (rIn X.KK neg)) : OpD X (compareOp op) (inT neg) := by
  refine ⟨_, h, fun B C H x y Q d e c hx hy h k => ?_⟩
  unfold inT at h
  split at h
  · rename_i es
    split at h
    · rename_i i
      obtain ⟨ns, e1, rfl⟩ := map_some h
      unfold Rp at hy
      obtain ⟨a, xs, rfl, q, r⟩ := hy
      rw [intL_some e1 r] at q
      refine ⟨a, _, rfl, .inr q, by rw [rp_int hx]; rfl, flat_ints ns, ?_⟩
      rw [rp_int hx, inV_ints]
      exact k _ H [] (Same.refl _) rr_bl no_fresh List.nodup_nil
    · cases h
  · cases h
/-- x in a set of ints -/
def inS (neg : Bool) (d e : D) : Option R := match e with
  | .set _ ks => (match d with
    | .int i => some (.val (.bl (if neg then !decide (NestedKey.num i ∈ ks) else decide (NestedKey.num i ∈ ks))))
    | _ => none)
  | _ => none
theorem od_inS {neg : Bool} {op : CmpOp} (h : OpR X (compareOp op) (rSInX X.KK neg)) : OpD X (compareOp op) (inS neg) := by
  refine ⟨_, h, fun B C H x y Q d e c hx hy h k => ?_⟩
  unfold inS at h
  split at h
  · rename_i b ks
    split at h
    · rename_i i
      cases h
      unfold Rp at hy
      obtain ⟨a, rfl, g⟩ := hy
      exact ⟨i, a, b, ks, rp_int hx, rfl, g, k _ H [] (Same.refl _) rr_bl no_fresh List.nodup_nil⟩
    · cases h
  · cases h
def inZ (neg : Bool) (d e : D) : Option R := match e with
  | .dct _ _ => inC neg d e
  | .set _ _ => inS neg d e
  | _ => (match d with
    | .int _ => inT neg d e
    | _ => inTd neg d e)
theorem od_inZ {neg : Bool} {op : CmpOp} (h1 : OpR X (compareOp op) (rInC X.KK neg)) (h2 : OpR X (compareOp op) (rSInX X.KK neg)) (h3 : OpR X (compareOp op) (rIn X.KK neg)) (h4 : OpR X (compareOp op) (rInTD X.K neg)) : OpD X (compareOp op) (inZ neg) :=
  OpD.or3 (od_inC h1) (OpD.or3 (od_inS h2) (OpD.or3 (od_inT h3) (od_inTd h4) (o := fun d e => match d with | .int _ => inT neg d e | _ => inTd neg d e) fun d e c h => by
    split at h
    · exact .inl h
    · exact .inr h) (o := fun d e => match e with | .set _ _ => inS neg d e | _ => (match d with | .int _ => inT neg d e | _ => inTd neg d e)) fun d e c h => by
    split at h
    · exact .inl h
    · exact .inr h) fun d e c h => by
    unfold inZ at h
    split at h
    · exact .inl h
    · exact .inr h
    · exact .inr (by
        split
        · simp_all
        · exact h)
theorem od_inX {k : Nat} (hr : Room k X.A) : OpD X (compareOp .In) inX :=
  OpD.or3 (od_in hr) (od_inZ (neg := false) (op_inC (by have := hr.un; omega)) op_inS op_in_seq (op_inTD (by have := hr.un; omega))) fun d e c h => by
    unfold inX at h
    split at h
    · exact .inr h
    · refine .inr ?_
      unfold inZ
      split at h
      · exact h
      · exact h
    · exact .inr h
    · exact .inl h
theorem od_ninX {k : Nat} (hr : Room k X.A) : OpD X (compareOp .NotIn) ninX :=
  OpD.or3 (od_nin hr) (od_inZ (neg := true) (op_notInC (by have := hr.un; omega)) op_ninS op_notIn_seq (op_notInTD (by have := hr.un; omega))) fun d e c h => by
    unfold ninX at h
    split at h
    · exact .inr h
    · refine .inr ?_
      unfold inZ
      split at h
      · exact h
      · exact h
    · exact .inr h
    · exact .inl h
end
/-! ### d[k] -/
def ixX (x : R) (y : D) : Option R := match x.d with
  | .dct ks vs => (toK y).bind fun k => if kOk ks k = true then (getN ks vs k).map x.elt else none
  | _ => ixR x y
def gIxX (ga gb : G) : G := fun δ => (ga δ).bind fun x => (gb δ).bind fun y => ixX x y.d
section
variable {X : Cx} {e a b c : Expr} {pos : Pos} {ga gb gc : G}
theorem de_ixX {k0 : Nat} (hr : Room k0 X.A) (ha : DE Tb X a ga) (hb : DE Tb X b gb) (hs : PlainIx b := by intro _ _; rfl) : DE Tb X (.Subscript a b pos) (gIxX ga gb) := by
  refine ⟨pe_imp (pe_ix (ix_seq.or (ix_dct (by have := hr.un; omega))) ha.pe hb.pe hs) fun σ H Q h => ?_⟩
  obtain ⟨B, C, δ, Φ, r, S, e, k⟩ := h
  obtain ⟨x, y, e1, e2, e3⟩ := bind2_some e
  refine ⟨B, C, δ, Φ, x, S, e1, fun u H1 φ1 s1 q1 f1 n1 => ⟨B, C, δ, Φ, y, S.same s1, e2, fun w H2 φ2 s2 q2 _ _ => ?_⟩⟩
  have s12 := s1.trans s2
  have ch := S.ch.trans s12
  obtain ⟨Z, sz, qz, el⟩ := RR.elt S.bc ch (q1.same s2)
  have qy := q2.rp S.bc ch
  unfold ixX at e3
  split at e3
  · rename_i ks vs hx
    rw [hx] at qz
    obtain ⟨j, e4, e5⟩ := bind1_some e3
    split at e5
    · rename_i ok
      obtain ⟨d, e6, rfl⟩ := map_some e5
      unfold Rp at qz
      obtain ⟨p, ws, rfl, g, r⟩ := qz
      obtain ⟨w', e7, q7⟩ := RpL.getN r e6
      exact .inr ⟨p, ks, ws, j, w', rfl, g.mono sz, toK_rp e4 qy, ok, e7, k w' H2 [] s12 (el d w' q7) no_fresh List.nodup_nil⟩
    · cases e5
  · left
    unfold ixR at e3
    split at e3
    · rename_i i hy
      rw [hy] at qy
      split at e3
      · rename_i ds hx
        rw [hx] at qz
        obtain ⟨d, e4, rfl⟩ := map_some e3
        unfold Rp at qz
        obtain ⟨p, xs, rfl, hp, r⟩ := qz
        obtain ⟨w', e5, q5⟩ := r.atI e4
        exact .inr (.inl ⟨p, xs, i, w', rfl, rp_int qy, Same.seqT sz hp, e5, k w' H2 [] s12 (el d w' q5) no_fresh List.nodup_nil⟩)
      · rename_i ds hx
        rw [hx] at qz
        obtain ⟨d, e4, rfl⟩ := map_some e3
        unfold Rp at qz
        obtain ⟨p, xs, rfl, hp, r⟩ := qz
        obtain ⟨w', e5, q5⟩ := r.atI e4
        exact .inl ⟨p, xs, i, w', rfl, rp_int qy, SqL.of (sz.get hp), e5, k w' H2 [] s12 (el d w' q5) no_fresh List.nodup_nil⟩
      · rename_i ns hx
        rw [hx] at qz
        obtain ⟨d, e4, rfl⟩ := map_some e3
        unfold Rp at qz
        obtain ⟨p, rfl, hp⟩ := qz
        exact .inl ⟨p, _, i, _, rfl, rp_int qy, Same.seq sz hp, atI_map e4, k _ H2 [] s12 rr_int no_fresh List.nodup_nil⟩
      · rename_i z hx
        rw [hx] at qz
        split at e3
        · rename_i hz
          obtain ⟨d, e4, rfl⟩ := map_some e3
          exact .inr (.inr ⟨z, i, d, rp_str qz, rp_int qy, hz, e4, k _ H2 [] s12 rr_str no_fresh List.nodup_nil⟩)
        · cases e3
      · cases e3
    · cases e3
end
/-! ### d[k] = v -/
theorem OwL.putN {K : KF} {H : Hp} {k : NestedKey} {d : D} {v : V} {φ : List Addr} (o : Ow K H d v φ) : ∀ {ks : List NestedKey} {vs : List D} {ws : List V} {ψ : List Addr}, vs.length = ks.length → OwL K H vs ws ψ → ψ.Nodup → φ.Nodup → (∀ a ∈ φ, a ∉ ψ) →
    ∃ ψ', OwL K H (DL.putN ks vs k d) (DL.putN ks ws k v) ψ' ∧ ψ'.Nodup ∧ ∀ a ∈ ψ', a ∈ ψ ∨ a ∈ φ
  | [], [], _, _, _, h, _, nd, _ => by
    unfold OwL at h
    obtain ⟨rfl, rfl⟩ := h
    refine ⟨φ, ?_, nd, fun a ha => .inr ha⟩
    show OwL K H [d] [v] φ
    unfold OwL
    exact ⟨v, [], φ, [], rfl, o, by unfold OwL; exact ⟨rfl, rfl⟩, by simp⟩
  | j :: ks, e :: vs, _, _, hl, h, n1, n2, dj => by
    unfold OwL at h
    obtain ⟨x, ys, φ1, φ2, rfl, h1, h2, rfl⟩ := h
    unfold DL.putN
    obtain ⟨m1, m2, m3⟩ := List.nodup_append.mp n1
    by_cases z : j = k
    · rw [if_pos z, if_pos z]
      refine ⟨φ ++ φ2, ?_, List.nodup_append.mpr ⟨n2, m2, fun a ha b hb q => dj a ha (by rw [q]; exact List.mem_append_right _ hb)⟩, fun a ha => ?_⟩
      · unfold OwL
        exact ⟨v, ys, φ, φ2, rfl, o, h2, rfl⟩
      · rcases List.mem_append.mp ha with ha | ha
        · exact .inr ha
        · exact .inl (List.mem_append_right _ ha)
    · rw [if_neg z, if_neg z]
      obtain ⟨ψ', h3, h4, h5⟩ := OwL.putN o (ks := ks) (by simpa using hl) h2 m2 n2 fun a ha q => dj a ha (List.mem_append_right _ q)
      refine ⟨φ1 ++ ψ', ?_, List.nodup_append.mpr ⟨m1, h4, fun a ha b hb q => ?_⟩, fun a ha => ?_⟩
      · unfold OwL
        exact ⟨x, _, φ1, ψ', rfl, h1, h3, rfl⟩
      · subst q
        rcases h5 a hb with w | w
        · exact m3 a ha a w rfl
        · exact dj a w (List.mem_append_left _ ha)
      · rcases List.mem_append.mp ha with ha | ha
        · exact .inl (List.mem_append_left _ ha)
        · rcases h5 a ha with w | w
          · exact .inl (List.mem_append_right _ w)
          · exact .inr w
/-- the slot's own dict -/
theorem RSt.dct {K : KF} {B C H : Hp} {σ : L2.St} {δ : DSt} {Φ : Nat → List Addr} (h : RSt Tb K B C σ H δ Φ) {i : Nat} {ks : List NestedKey} {vs : List D} (e : δ.getD i .no = .own (.dct ks vs)) :
    ∃ l ws ψ, σ[i]? = some (some (.ref l)) ∧ DcA K H l ks ws ∧ OwL K H vs ws ψ ∧ Φ i = l :: ψ := by
  have q := h.sl i
  rw [e] at q
  obtain ⟨x, e1, ow⟩ := q
  unfold Ow at ow
  obtain ⟨l, ws, ψ, rfl, h1, h2, h3⟩ := ow
  refine ⟨l, ws, ψ, ?_, h1, h2, h3⟩
  rw [List.getD_eq_getElem?_getD] at e1
  cases w : σ[i]? with
  | none => rw [w] at e1; cases e1
  | some y => rw [w] at e1; rw [show y = some (V.ref l) from e1]
/-- what comes of the slot -/
def stxC (i : Nat) (δ : DSt) (s : Sl) (j : D) (r : R) : Option O := match s with
  | .own (.dct ks vs) => (toK j).bind fun k => if kOk ks k = true ∧ ks.length < sizeLine ∧ vs.length = ks.length ∧ r.okEl = true then some (.nx (purge (δ.set i (.own (.dct (addN ks k) (putN ks vs k r.d)))))) else none
  | s => stxK i δ s j r
def gStxX (i : Nat) (gi ge : G) : GS := fun δ => (ge δ).bind fun r => (gi δ).bind fun j => stxC i δ (δ.getD i .no) j.d r
section
variable {X : Cx} {v ix : Expr} {pos : Pos} {gi ge : G}
theorem ds_stxX {k0 : Nat} (hr : Room k0 X.A) (i : Nat) {x : Str} {p pos' : Pos} (he : DE Tb X v ge) (hi : DE Tb X ix gi) (hN : X.N[i]? = some x := by rfl) (hv : Vis X.env.scope x := by first | exact Or.inl rfl | exact Or.inr (Or.inl rfl) | exact Or.inr (Or.inr rfl)) (hd : (x == ("__debug__" : Str)) = false := by decide)
    (hcd : (x == ("__classdict__" : Str)) = false := by decide) (hs : swapsWithSole [.Subscript (.Name x p) ix pos'] v pos.line X.env = pure false := by rfl) (hw : swappedStores [.Subscript (.Name x p) ix pos'] v X.env = pure none := by rfl)
    (h1 : (assignEach [.Subscript (.Name x p) ix pos'] X.env).map (·.2) = [assign (.Subscript (.Name x p) ix pos') X.env] := by rfl)
    (hin : ∀ u, assign (.Subscript (.Name x p) ix pos') X.env u = (do
      let a1 ← holding [u] (eval (.Name x p) X.env)
      let b1 ← holding [u, a1] (eval ix X.env)
      standAt pos'
      holding [u, a1, b1] (setItem a1 b1 u)
      release [u, a1, b1] []) := by intro _; rfl) :
    DS Tb X (.Assign [.Subscript (.Name x p) ix pos'] v pos) (gStxX i gi ge) := ⟨ps_imp (ps_asg he.pe (pg_sub (pe_var hN hv hd hcd) hi.pe (PSet.or set_list (set_dct (by have := hr.un; omega))) hin) hs hw h1) fun En σ H h => by
  obtain ⟨B, C, δ, Φ, o, S, e, k⟩ := h
  obtain ⟨r, j, e1, e2, e3⟩ := bind2_some e
  unfold stxC at e3
  split at e3
  · rename_i ks vs hsl
    obtain ⟨kk, e4, e5⟩ := bind1_some e3
    split at e5
    case isFalse => cases e5
    rename_i ok
    obtain ⟨ok1, ok2, ok3, ok4⟩ := ok
    cases e5
    refine ⟨B, C, δ, Φ, _, S, e1, fun u H1 φ1 s1 q1 f1 n1 => ?_⟩
    have S1 := S.same s1
    obtain ⟨l, ws, ψ, hs, g, ow, hp⟩ := S1.dct hsl
    refine ⟨_, hs, B, C, δ, Φ, j, S1, e2, fun w H2 φ2 s2 q2 f2 n2 => .inr ?_⟩
    have S2 := S1.same s2
    have rj := q2.rp S2.bc S2.ch
    have g2 := g.mono s2
    refine ⟨l, ks, ws, kk, rfl, g2, toK_rp e4 rj, ok1, ok2, fun o' go => ?_⟩
    have nd := S.nd i
    rw [hp] at nd
    obtain ⟨nl, nψ⟩ := List.nodup_cons.mp nd
    have tk := tk_mt (u := o') g2.mt
    have own : Ow X.KK H2 r.d u φ1 := Ow.same s2 (okEl_ow q1 ok4)
    have trkH : ∀ a ∈ l :: ψ, ∃ o, H a = some o ∧ Mt o := fun a ha => S.trk (by rw [hp]; exact ha)
    have fl : ∀ a ∈ φ1, a ∉ l :: ψ := fun a ha hb => by
      obtain ⟨o, w, _⟩ := trkH a hb
      rw [f1 a ha] at w; cases w
    obtain ⟨ψ', ow', n', m'⟩ := OwL.putN (k := kk) own ok3 (OwL.same s2 ow) nψ n1 fun a ha hb => fl a ha (List.mem_cons_of_mem _ hb)
    have nl' : l ∉ ψ' := fun z => by
      rcases m' l z with z | z
      · exact nl z
      · exact fl l z List.mem_cons_self
    refine k σ _ _ (S2.mut (H' := upd H2 l o') (d' := .dct (addN ks kk) (putN ks vs kk r.d)) (φ' := l :: ψ') hsl hs (fun a o ha e5 => ?_) ?_ ?_ fun a ha => ?_) (lk_mut hsl)
    · rw [upd_ne (fun z => ha (by rw [hp, z]; exact List.mem_cons_self))]; exact e5
    · unfold Ow
      exact ⟨l, _, ψ', rfl, go, OwL.mono tk _ _ _ (fun a ha => upd_ne fun z => nl' (z ▸ ha)) ow', rfl⟩
    · exact List.nodup_cons.mpr ⟨nl', n'⟩
    · rcases List.mem_cons.mp ha with rfl | ha
      · exact .inl (by rw [hp]; exact List.mem_cons_self)
      · rcases m' a ha with z | z
        · exact .inl (by rw [hp]; exact List.mem_cons_of_mem _ z)
        · refine .inr ⟨S.ch.free (f1 a z), fun j hb => ?_⟩
          obtain ⟨o, w, _⟩ := S.trk hb
          rw [f1 a z] at w; cases w
  · obtain ⟨ds, kk, d, n, hsl, hj, rfl, hn, rfl⟩ := stxK_eq e3
    refine ⟨B, C, δ, Φ, _, S, e1, fun u H1 φ1 s1 q1 f1 n1 => ?_⟩
    have S1 := S.same s1
    obtain ⟨l, xs, ψ, hs, hl, ow, hp⟩ := S1.list hsl
    refine ⟨_, hs, B, C, δ, Φ, j, S1, e2, fun w H2 φ2 s2 q2 f2 n2 => .inl ?_⟩
    have S2 := S1.same s2
    have rj := q2.rp S2.bc S2.ch
    rw [hj] at rj
    have hl2 := s2.get hl
    have lenx : xs.length = ds.length := (OwL.rp _ _ _ ow).length
    refine ⟨l, xs, kk, n, rfl, rp_int rj, hl2, by rw [lenx]; exact hn, ?_⟩
    obtain ⟨ψ', ow', sub⟩ := OwL.set q1.2.1 (Rp.mono s2 _ _ q1.2.2) n (OwL.same s2 ow)
    have nd := S.nd i
    rw [hp] at nd
    obtain ⟨nl, nψ⟩ := List.nodup_cons.mp nd
    have tk1 := tk_lst (ys := xs.set n u) hl2
    refine k σ _ _ (S2.mut (H' := upd H2 l (.lst (xs.set n u))) (d' := .lst (ds.set n d)) (φ' := l :: ψ') hsl hs (fun a o ha e5 => ?_) ?_ ?_ fun a ha => .inl ?_) (lk_mut hsl)
    · rw [upd_ne (fun z => ha (by rw [hp, z]; exact List.mem_cons_self))]; exact e5
    · unfold Ow
      exact ⟨l, _, ψ', rfl, upd_same, OwL.mono tk1 _ _ _ (fun a ha => upd_ne fun z => nl (z ▸ sub.subset ha)) ow', rfl⟩
    · exact List.nodup_cons.mpr ⟨fun z => nl (sub.subset z), nψ.sublist sub⟩
    · rw [hp]
      rcases List.mem_cons.mp ha with rfl | ha
      · exact List.mem_cons_self
      · exact List.mem_cons_of_mem _ (sub.subset ha)⟩
end
/-! ### displays -/
section
variable {X : Cx} {ek ev : Expr} {pos : Pos} {gk gv : G}
def gDct0 : G := fun _ => some (.own (.dct [] []))
theorem de_dct0 : DE Tb X (.Dict [] [] pos) gDct0 := by
  refine ⟨pe_imp pe_dnewK fun σ H Q h => ?_⟩
  obtain ⟨B, C, δ, Φ, r, S, e, k⟩ := h
  cases e
  intro p hp
  refine k _ _ [p] (same_upd hp) ?_ (fun a ha => by rw [List.mem_singleton.mp ha]; exact hp) (by simp)
  show Ow X.KK _ (.dct [] []) _ _
  unfold Ow
  exact ⟨p, [], [], rfl, .inl ⟨[], upd_same, rfl, rfl⟩, by unfold OwL; exact ⟨rfl, rfl⟩, rfl⟩
def mkDct (x y : R) : Option R := (toK x.d).bind fun k => if kOk [] k = true ∧ y.okEl = true then some (.own (.dct [k] [y.d])) else none
def gDct1 (gk gv : G) : G := fun δ => (gk δ).bind fun x => (gv δ).bind fun y => mkDct x y
theorem de_dct1 {k0 : Nat} (hr : Room k0 X.A) (hk : DE Tb X ek gk) (hv : DE Tb X ev gv) : DE Tb X (.Dict [some ek] [ev] pos) (gDct1 gk gv) := by
  refine ⟨pe_imp (pe_dct1 (by have := hr.un; omega) hk.pe hv.pe) fun σ H Q h => ?_⟩
  obtain ⟨B, C, δ, Φ, r, S, e, k⟩ := h
  obtain ⟨x, y, e1, e2, e3⟩ := bind2_some e
  obtain ⟨kk, e4, e5⟩ := bind1_some e3
  split at e5
  case isFalse => cases e5
  rename_i ok
  cases e5
  intro p hp
  have s0 : Same H (upd H p (.dK [])) := same_upd hp
  refine ⟨B, C, δ, Φ, x, S.same s0, e1, fun u H1 φ1 s1 q1 f1 n1 => ⟨B, C, δ, Φ, y, S.same (s0.trans s1), e2, fun w H2 φ2 s2 q2 f2 n2 => ?_⟩⟩
  have s12 := s1.trans s2
  have hp2 : H2 p = some (.dK []) := s12.get upd_same
  have ch := S.ch.trans (s0.trans s12)
  refine ⟨hp2, kk, toK_rp e4 (Rp.mono s2 _ _ (q1.rp S.bc (S.ch.trans (s0.trans s1)))), ok.1, fun o' g => ?_⟩
  have sH : Same H H2 := s0.trans s12
  have f2' : ∀ a ∈ φ2, a ≠ p := fun a ha z => by
    have h1 := f2 a ha
    rw [z, s1.get (show upd H p (.dK []) p = some (.dK []) from upd_same)] at h1
    cases h1
  refine k _ _ (p :: φ2) (Same.upd sH hp) ?_ (fun a ha => ?_) (List.nodup_cons.mpr ⟨fun z => f2' p z rfl, n2⟩)
  · show Ow X.KK _ (.dct [kk] [y.d]) _ _
    unfold Ow
    refine ⟨p, [w], φ2, rfl, g, ?_, rfl⟩
    refine OwL.mono (tk_mt ⟨_, hp2, trivial⟩) [y.d] [w] φ2 (fun a ha => upd_ne (f2' a ha)) ?_
    unfold OwL
    exact ⟨w, [], φ2, [], rfl, okEl_ow q2 ok.2, by unfold OwL; exact ⟨rfl, rfl⟩, by simp⟩
  · rcases List.mem_cons.mp ha with rfl | ha
    · exact hp
    · have := f2 a ha
      exact (s0.trans s1).free this
end
end DL

set_option Elab.async false
set_option linter.all false
set_option maxRecDepth 100000
set_option maxHeartbeats 4000000
/-! D26: d.get(k), d.get(k, x). -/
namespace DL
open PySem PySem.Spec PyProof.Rows L2 SrtO
variable {Tb : Pm}
def tGetC1 (K : KF) (td ty : TE) : TE := fun σ H Q => td σ H fun x H1 => (∃ a ks ws, x = V.ref a ∧ DcA K H1 a ks ws) ∧ ty σ H1 fun y H2 => ∃ a ks ws k, x = V.ref a ∧ DcA K H2 a ks ws ∧ NV K H2 k y ∧ kOk ks k = true ∧ Q ((getN ks ws k).getD .non) H2
def tGetC2 (K : KF) (td ty tx : TE) : TE := fun σ H Q => td σ H fun x H1 => (∃ a ks ws, x = V.ref a ∧ DcA K H1 a ks ws) ∧ ty σ H1 fun y H2 => tx σ H2 fun z H3 => ∃ a ks ws k, x = V.ref a ∧ DcA K H3 a ks ws ∧ NV K H3 k y ∧ kOk ks k = true ∧ Q ((getN ks ws k).getD z) H3
section
variable {X : Cx} {o e f : Expr} {apos cpos : Pos} {td ty tx : TE}
theorem pe_getC1 (hu : X.A.units + 10 < cLine) (ho : PE X o td) (he : PE X e ty) (m : M1 X o "get" apos e cpos) : PE X (.Call (.Attribute o "get" apos) [e] [] cpos) (tGetC1 X.KK td ty) := by
  refine ⟨fun pins s σ H Q I h => wpAny_Call_method m.base m.few m.line PySem.F.plainAttrs_dict PySem.F.slot_dict_get PySem.F.type_dict_get (thn (ho.run pins s σ H _ I h) fun u s1 ⟨x, H1, I1, rx, ⟨a, ks, ws, ex, g⟩, q1⟩ => ?_)⟩
  subst ex
  obtain rfl : u = Value.ref a := rx
  obtain ⟨t1, t2⟩ := dc_typeIs I1 g
  refine ⟨t1, t2, ?_⟩
  rw [m.trees]
  refine Calls.callWith_builtin rfl (Calls.evalArgs_plain (Calls.spliced_cons (thn (he.run pins s1 σ H1 _ I1 q1) fun iv s2 ⟨y, H2, I2, ry, a', ks', ws', k, e', g', nv, ok, q2⟩ => Calls.spliced_nil ?_)))
  cases e'
  exact dc_get1 hu I2 g' nv ok ry fun w' s3 I3 rw' => ⟨_, H2, I3, rw', q2⟩
theorem pe_getC2 (hu : X.A.units + 10 < cLine) (ho : PE X o td) (he : PE X e ty) (hf : PE X f tx) (m : M2 X o "get" apos e f cpos) : PE X (.Call (.Attribute o "get" apos) [e, f] [] cpos) (tGetC2 X.KK td ty tx) := by
  refine ⟨fun pins s σ H Q I h => wpAny_Call_method m.base m.few m.line PySem.F.plainAttrs_dict PySem.F.slot_dict_get PySem.F.type_dict_get (thn (ho.run pins s σ H _ I h) fun u s1 ⟨x, H1, I1, rx, ⟨a, ks, ws, ex, g⟩, q1⟩ => ?_)⟩
  subst ex
  obtain rfl : u = Value.ref a := rx
  obtain ⟨t1, t2⟩ := dc_typeIs I1 g
  refine ⟨t1, t2, ?_⟩
  rw [m.trees]
  refine Calls.callWith_builtin rfl (Calls.evalArgs_plain (Calls.spliced_cons (thn (he.run pins s1 σ H1 _ I1 q1) fun iv s2 ⟨y, H2, I2, ry, q2⟩ => Calls.spliced_cons (thn (hf.run pins s2 σ H2 _ I2 q2) fun fv s3 ⟨z, H3, I3, rz, a', ks', ws', k, e', g', nv, ok, q3⟩ => Calls.spliced_nil ?_))))
  cases e'
  exact dc_get2 hu I3 g' nv ok ry rz fun w' s4 I4 rw' => ⟨_, H3, I4, rw', q3⟩
end
/-- what d.get gives -/
def getR (x : R) (y : D) (z : R) : Option R := match x.d with
  | .dct ks vs => (toK y).bind fun k => if kOk ks k = true then (match getN ks vs k with
    | some d => some (x.elt d)
    | none => some z) else none
  | _ => none
def gGet1 (gd gk : G) : G := fun δ => (gd δ).bind fun x => (gk δ).bind fun y => getR x y.d (.val .non)
def gGet2 (gd gk gz : G) : G := fun δ => (gd δ).bind fun x => (gk δ).bind fun y => (gz δ).bind fun z => getR x y.d z
theorem getN_len {α β : Type} {k : NestedKey} : ∀ {ks : List NestedKey} {vs : List α} {ws : List β}, vs.length = ws.length → getN ks vs k = none → getN ks ws k = none
  | [], _, _, _, _ => by simp [getN]
  | j :: ks, [], [], _, _ => by simp [getN]
  | j :: ks, v :: vs, w :: ws, hl, h => by
    unfold getN at h ⊢
    by_cases e : j = k
    · rw [if_pos e] at h; cases h
    · rw [if_neg e] at h ⊢
      exact getN_len (by simpa using hl) h
section
variable {X : Cx} {o e f : Expr} {apos cpos : Pos} {gd gk gz : G}
theorem de_get1 {k0 : Nat} (hr : Room k0 X.A) (ho : DE Tb X o gd) (he : DE Tb X e gk) (m : M1 X o "get" apos e cpos) : DE Tb X (.Call (.Attribute o "get" apos) [e] [] cpos) (gGet1 gd gk) := by
  refine ⟨pe_imp (pe_getC1 (by have := hr.un; omega) ho.pe he.pe m) fun σ H Q h => ?_⟩
  obtain ⟨B, C, δ, Φ, r, S, e, k⟩ := h
  obtain ⟨x, y, e1, e2, e3⟩ := bind2_some e
  unfold getR at e3
  split at e3
  case h_2 => cases e3
  rename_i ks vs hx
  obtain ⟨kk, e4, e5⟩ := bind1_some e3
  split at e5
  case isFalse => cases e5
  rename_i ok
  refine ⟨B, C, δ, Φ, x, S, e1, fun u H1 φ1 s1 q1 f1 n1 => ?_⟩
  obtain ⟨Z, sz, qz, el⟩ := RR.elt S.bc (S.ch.trans s1) q1
  rw [hx] at qz
  unfold Rp at qz
  obtain ⟨a, ws, rfl, g, rl⟩ := qz
  refine ⟨⟨a, ks, ws, rfl, g.mono sz⟩, B, C, δ, Φ, y, S.same s1, e2, fun w H2 φ2 s2 q2 f2 n2 => ?_⟩
  have s12 := s1.trans s2
  have ch := S.ch.trans s12
  refine ⟨a, ks, ws, kk, rfl, (g.mono sz).mono s2, toK_rp e4 (q2.rp S.bc ch), ok, ?_⟩
  split at e5
  · rename_i d hd
    cases e5
    obtain ⟨w', e7, q7⟩ := RpL.getN rl hd
    rw [e7]
    exact k w' H2 [] s12 ((el d w' q7).same s2) no_fresh List.nodup_nil
  · rename_i hn
    cases e5
    rw [getN_len rl.length.symm hn]
    exact k _ H2 [] s12 rr_non no_fresh List.nodup_nil
theorem de_get2 {k0 : Nat} (hr : Room k0 X.A) (ho : DE Tb X o gd) (he : DE Tb X e gk) (hf : DE Tb X f gz) (m : M2 X o "get" apos e f cpos) : DE Tb X (.Call (.Attribute o "get" apos) [e, f] [] cpos) (gGet2 gd gk gz) := by
  refine ⟨pe_imp (pe_getC2 (by have := hr.un; omega) ho.pe he.pe hf.pe m) fun σ H Q h => ?_⟩
  obtain ⟨B, C, δ, Φ, r, S, e, k⟩ := h
  obtain ⟨x, e1, e⟩ := bind1_some e
  obtain ⟨y, z, e2, ez, e3⟩ := bind2_some e
  unfold getR at e3
  split at e3
  case h_2 => cases e3
  rename_i ks vs hx
  obtain ⟨kk, e4, e5⟩ := bind1_some e3
  split at e5
  case isFalse => cases e5
  rename_i ok
  refine ⟨B, C, δ, Φ, x, S, e1, fun u H1 φ1 s1 q1 f1 n1 => ?_⟩
  obtain ⟨Z, sz, qz, el⟩ := RR.elt S.bc (S.ch.trans s1) q1
  rw [hx] at qz
  unfold Rp at qz
  obtain ⟨a, ws, rfl, g, rl⟩ := qz
  refine ⟨⟨a, ks, ws, rfl, g.mono sz⟩, B, C, δ, Φ, y, S.same s1, e2, fun w H2 φ2 s2 q2 f2 n2 => ?_⟩
  have s12 := s1.trans s2
  have ch := S.ch.trans s12
  refine ⟨B, C, δ, Φ, z, S.same s12, ez, fun t H3 φ3 s3 q3 f3 n3 => ?_⟩
  have s13 := s12.trans s3
  refine ⟨a, ks, ws, kk, rfl, ((g.mono sz).mono s2).mono s3, toK_rp e4 (Rp.mono s3 _ _ (q2.rp S.bc ch)), ok, ?_⟩
  split at e5
  · rename_i d hd
    cases e5
    obtain ⟨w', e7, q7⟩ := RpL.getN rl hd
    rw [e7]
    exact k w' H3 [] s13 ((el d w' q7).same (s2.trans s3)) no_fresh List.nodup_nil
  · rename_i hn
    cases e5
    rw [getN_len rl.length.symm hn]
    exact k t H3 φ3 s13 q3 (fun a ha => s12.free (f3 a ha)) n3
end
end DL

set_option Elab.async false
set_option linter.all false
set_option maxRecDepth 100000
set_option maxHeartbeats 4000000
/-! D27: min of a list of nested tuples of ints. -/
namespace SrtO
open PySem PyProof.Rows
/-- the first of the least -/
def leastK (k : NestedKey) (ks : List NestedKey) : NestedKey := ks.foldl (fun a y => if klt y a = true then y else a) k
section
variable {prog : Program} {w : World} {A : Around} {E : Value → Shared → Prop} {s : Shared}
theorem NIs.at {h : Heap} : ∀ {ks : List NestedKey} {vs : List Value}, NIs h ks vs → ∀ (i : Nat) (v : Value), vs[i]? = some v → NI h (ks.getD i .none) v ∧ ks.getD i .none ∈ ks
  | [], _, x, i, v, e => by
    cases x
    simp at e
  | k :: ks, _, x, i, v, e => by
    cases x with
    | cons h1 h2 =>
      cases i with
      | zero =>
        obtain rfl : _ = v := by simpa using e
        exact ⟨h1, by simp⟩
      | succ i =>
        obtain ⟨g1, g2⟩ := NIs.at h2 i v (by simpa using e)
        exact ⟨by simpa using g1, List.mem_cons_of_mem _ (by simpa using g2)⟩
theorem min_nest {l : Addr} {vs : Array Value} {k : NestedKey} {ks : List NestedKey} {Q : Value → Shared → Prop} (hh : A.handled = none) (hl : s.heap.IsList l vs) (hr : NIs s.heap (k :: ks) vs.toList)
    (hc : ∀ a ∈ k :: ks, ∀ b ∈ k :: ks, kcm a b = true) (hd : ∀ a ∈ k :: ks, a.depth ≤ 50) (hu : A.units + 60 < cLine)
    (h : ∀ (i : Nat) v h' tk, vs[i]? = some v → NI s.heap (leastK k ks) v → (k :: ks).getD i .none = leastK k ks → i < (k :: ks).length → (∀ b o, s.heap.get? b = some o → h'.get? b = some o) → Q v { s with heap := h', toks := tk }) :
    wpAny (model prog w) A (call (.builtin "min") [.ref l]) Q E s := by
  have hn : vs.size = ks.length + 1 := by
    have := hr.len
    simpa using this
  refine call_min_walkH (W.iter_listW (A := A.in1) hh hl fun s₂ e W0 st hfp hw hk => ?_)
  refine ⟨_, _, _, _, _, _, _, s.heap, (fun i j => klt ((k :: ks).getD i NestedKey.none) ((k :: ks).getD j NestedKey.none)), rfl, W0, st, hfp, by omega, hw, hk, fun i j vi vj s' Q' E' kk hi hj hq => ?_, fun v s' hP m => ?_⟩
  · obtain ⟨g1, m1⟩ := hr.at i vi (by simpa using hi)
    obtain ⟨g2, m2⟩ := hr.at j vj (by simpa using hj)
    exact lt_key _ _ _ _ _ _ (NI.keeps (fun b o e _ => kk b o e) _ _ g1) (NI.keeps (fun b o e _ => kk b o e) _ _ g2) (hc _ m1 _ m2)
      (by have := Nat.min_le_left ((k :: ks).getD i .none).depth ((k :: ks).getD j .none).depth; have := hd _ m1; show A.units + 1 + _ < _; omega) prog w _ _ hq
  · obtain ⟨h', tk, rfl, hk'⟩ := W.moved_old e rfl m
    obtain ⟨g1, m1⟩ := hr.at _ v ((Array.getElem?_toList ..).trans hP)
    obtain ⟨e1, e2⟩ := W.argBest_fold klt NestedKey.none k ks ks.length (Nat.le_refl _)
    rw [List.take_length] at e2
    have e3 : vs.size - 1 = ks.length := by omega
    rw [e3] at g1 hP
    refine h _ v h' tk hP ?_ e2 (by rw [List.length_cons]; omega) hk'
    rw [e2] at g1
    exact g1
end
end SrtO
namespace L2
open PySem PySem.SeqAt PySem.Spec PyProof.Rows SrtO
variable {X : Cx}
/-- min(xs), xs a list of nests of ints -/
def rMinN (K : PySem.W.Frag) : List V → Hp → VK → Prop := fun vs H Q => ∃ (a : Addr) (xs : List V) (k : NestedKey) (ks : List NestedKey), vs = [V.ref a] ∧ SqL K H a xs ∧ NVs K H (k :: ks) xs ∧
  (∀ a ∈ k :: ks, ∀ b ∈ k :: ks, kcm a b = true) ∧ (∀ a ∈ k :: ks, a.depth ≤ 50) ∧ (∀ x, NV K H (leastK k ks) x → Q x H)
theorem NVs.get {K : PySem.W.Frag} {H : Hp} : ∀ {ks : List NestedKey} {xs : List V}, NVs K H ks xs → ∀ i, i < ks.length → ∃ x, xs[i]? = some x ∧ NV K H (ks.getD i .none) x
  | [], _, _, i, h => by simp at h
  | k :: ks, _, h, i, hi => by
    rw [NVs] at h
    obtain ⟨x, ys, rfl, h1, h2⟩ := h
    cases i with
    | zero => exact ⟨x, rfl, by simpa using h1⟩
    | succ i =>
      obtain ⟨y, g1, g2⟩ := NVs.get h2 i (by simpa using hi)
      exact ⟨y, by simpa using g1, by simpa using g2⟩
theorem Vals.atI {xs : List V} {us : List Value} (h : Vals xs us) : ∀ (i : Nat) (x : V) (v : Value), xs[i]? = some x → us[i]? = some v → RelV x v := by
  induction h with
  | nil => intro i x v e _; simp at e
  | cons r _ ih =>
    intro i x v e1 e2
    cases i with
    | zero =>
      obtain rfl : _ = x := by simpa using e1
      obtain rfl : _ = v := by simpa using e2
      exact r
    | succ i => exact ih i x v (by simpa using e1) (by simpa using e2)
theorem cr_minN (hcl : X.calm = true) (hu : X.A.units + 60 < cLine) : CallR X (.builtin "min") (rMinN X.K) := by
  intro pins s σ H vs us Q I r h
  obtain ⟨a, xs, k, ks, rfl, hs, hx, hc, hd, q⟩ := h
  obtain ⟨its, rv, hl, hz⟩ := I.list hs
  obtain ⟨u, rfl, ru⟩ := vals1 r
  obtain rfl : u = Value.ref a := ru
  refine min_nest (I.ok.hd hcl) hl.isList (by simpa using NVs.nis I (k :: ks) xs its hx rv) hc hd hu fun i v h' tk hv hn e hi kp => ?_
  obtain ⟨x, e1, e2⟩ := hx.get i hi
  rw [e] at e2
  exact ⟨x, H, I.kept kp, rv.atI i x v e1 (by simpa using hv), q x e2⟩
end L2
namespace DL
open PySem PySem.Spec PyProof.Rows L2 SrtO
variable {X : Cx}
def mnOk (ks : List NestedKey) : Bool := ks.all (fun a => ks.all (kcm a)) && ks.all fun a => decide (a.depth ≤ 50)
def oMinK : List R → Option R := one fun r => match r.d with
  | .lst ds => (toKs ds).bind fun ks => match ks with
    | [] => none
    | k :: js => if mnOk (k :: js) = true then some (.val (ofK (leastK k js))) else none
  | _ => none
theorem cd_minK {k : Nat} (hr : Room k X.A) (hc : X.calm = true) : CallD X (.builtin "min") oMinK := by
  refine ⟨_, cr_minN hc (by have := hr.un; omega), fun B C H vs φ Q rs c bc ch q n e k => ?_⟩
  obtain ⟨r, er, e1⟩ := one_some e
  clear e
  subst er
  obtain ⟨v, ev, q1⟩ := q.one
  clear q
  subst ev
  have q := q1.rp bc ch
  have e := e1
  clear e1 q1
  split at e
  · rename_i ds hx
    rw [hx] at q
    obtain ⟨ks, e1, e⟩ := bind1_some e
    split at e
    · cases e
    · rename_i j js
      split at e
      · rename_i hs
        cases e
        unfold Rp at q
        obtain ⟨a, xs, rfl, ha, r⟩ := q
        unfold mnOk at hs
        obtain ⟨h2, h3⟩ := Bool.and_eq_true_iff.mp hs
        refine ⟨a, xs, j, js, rfl, SqL.of ha, toKs_nvs ds _ xs e1 r, fun k hk j hj => List.all_eq_true.mp (List.all_eq_true.mp h2 k hk) j hj, fun k hk => of_decide_eq_true (List.all_eq_true.mp h3 k hk), fun x hx => ?_⟩
        exact k _ H [] (Same.refl _) ⟨rfl, pu_ofK _, nv_rp _ _ hx⟩ no_fresh' List.nodup_nil
      · cases e
  · cases e
/-- min of two ints, of a list of nests of ints -/
def oMinX (rs : List R) : Option R := match oMin rs with
  | some r => some r
  | none => oMinK rs
theorem cd_minX {k : Nat} (hr : Room k X.A) (hc : X.calm = true) : CallD X (.builtin "min") oMinX := CallD.or (cd_min hc) (cd_minK hr hc) fun rs r e => by
  unfold oMinX at e
  split at e
  · rename_i r' h
    cases e
    exact .inl h
  · exact .inr e
end DL

set_option Elab.async false
set_option linter.all false
set_option maxRecDepth 100000
set_option maxHeartbeats 4000000
/-! D28: xs[j].append(v), d[k].append(v): a list within a list or a dict of our own. -/
namespace DL
open PySem PySem.Spec PyProof.Rows L2 SrtO
variable {Tb : Pm}
theorem OwL.inn {K : KF} {H : Hp} : ∀ {ds : List D} {xs : List V} {ψ : List Addr} {n : Nat} {d : D}, OwL K H ds xs ψ → ds[n]? = some d →
    ∃ x ψ1 φ1 ψ2, xs[n]? = some x ∧ Ow K H d x φ1 ∧ ψ = ψ1 ++ (φ1 ++ ψ2) ∧ ∀ (H' : Hp) d' φ', TK H H' → (∀ a ∈ ψ1, H' a = H a) → (∀ a ∈ ψ2, H' a = H a) → Ow K H' d' x φ' → OwL K H' (ds.set n d') xs (ψ1 ++ (φ' ++ ψ2))
  | [], _, _, n, _, _, e => by simp at e
  | c :: ds, _, _, 0, d, h, e => by
    obtain rfl : c = d := by simpa using e
    unfold OwL at h
    obtain ⟨x, ys, φ1, φ2, rfl, h1, h2, rfl⟩ := h
    refine ⟨x, [], φ1, φ2, rfl, h1, rfl, fun H' d' φ' tk _ k2 o => ?_⟩
    show OwL K H' (d' :: ds) (x :: ys) _
    unfold OwL
    exact ⟨x, ys, φ', φ2, rfl, o, OwL.mono tk _ _ _ k2 h2, rfl⟩
  | c :: ds, _, _, n + 1, d, h, e => by
    unfold OwL at h
    obtain ⟨x, ys, φ1, φ2, rfl, h1, h2, rfl⟩ := h
    obtain ⟨y, ψ1, φ3, ψ2, e1, o, e2, k⟩ := OwL.inn (n := n) h2 (by simpa using e)
    refine ⟨y, φ1 ++ ψ1, φ3, ψ2, by simpa using e1, o, by rw [e2]; simp, fun H' d' φ' tk k1 k2 o' => ?_⟩
    show OwL K H' (c :: ds.set n d') (x :: ys) _
    unfold OwL
    refine ⟨x, ys, φ1, ψ1 ++ (φ' ++ ψ2), rfl, Ow.mono tk _ _ _ (fun a ha => k1 a (List.mem_append_left _ ha)) h1, k H' d' φ' tk (fun a ha => k1 a (List.mem_append_right _ ha)) k2 o', by simp⟩
theorem OwL.innN {K : KF} {H : Hp} {k : NestedKey} {d : D} : ∀ {ks : List NestedKey} {ds : List D} {xs : List V} {ψ : List Addr}, OwL K H ds xs ψ → getN ks ds k = some d →
    ∃ x ψ1 φ1 ψ2, getN ks xs k = some x ∧ Ow K H d x φ1 ∧ ψ = ψ1 ++ (φ1 ++ ψ2) ∧ ∀ (H' : Hp) d' φ', TK H H' → (∀ a ∈ ψ1, H' a = H a) → (∀ a ∈ ψ2, H' a = H a) → Ow K H' d' x φ' → OwL K H' (DL.putN ks ds k d') xs (ψ1 ++ (φ' ++ ψ2))
  | [], [], _, _, _, e => by simp [getN] at e
  | [], _ :: _, _, _, _, e => by simp [getN] at e
  | _ :: _, [], _, _, _, e => by simp [getN] at e
  | j :: ks, c :: ds, _, _, h, e => by
    unfold OwL at h
    obtain ⟨x, ys, φ1, φ2, rfl, h1, h2, rfl⟩ := h
    unfold getN at e
    by_cases z : j = k
    · rw [if_pos z] at e
      cases e
      refine ⟨x, [], φ1, φ2, by unfold getN; rw [if_pos z], h1, rfl, fun H' d' φ' tk _ k2 o => ?_⟩
      unfold DL.putN
      rw [if_pos z]
      unfold OwL
      exact ⟨x, ys, φ', φ2, rfl, o, OwL.mono tk _ _ _ k2 h2, rfl⟩
    · rw [if_neg z] at e
      obtain ⟨y, ψ1, φ3, ψ2, e1, o, e2, k⟩ := OwL.innN h2 e
      refine ⟨y, φ1 ++ ψ1, φ3, ψ2, by unfold getN; rw [if_neg z]; exact e1, o, by rw [e2]; simp, fun H' d' φ' tk k1 k2 o' => ?_⟩
      unfold DL.putN
      rw [if_neg z]
      unfold OwL
      refine ⟨x, ys, φ1, ψ1 ++ (φ' ++ ψ2), rfl, Ow.mono tk _ _ _ (fun a ha => k1 a (List.mem_append_left _ ha)) h1, k H' d' φ' tk (fun a ha => k1 a (List.mem_append_right _ ha)) k2 o', by simp⟩
/-- what comes of the slot -/
def appIxC (i : Nat) (δ : DSt) (s : Sl) (j : D) (r : R) : Option O := match s with
  | .own (.lst ds) => (match j with
    | .int j => (ixN ds.length j).bind fun n => (match ds[n]? with
      | some (.lst es) => if es.length < sizeLine ∧ r.okEl = true then some (.nx (purge (δ.set i (.own (.lst (ds.set n (.lst (es ++ [r.d])))))))) else none
      | _ => none)
    | _ => none)
  | .own (.dct ks vs) => (toK j).bind fun k => (match getN ks vs k with
      | some (.lst es) => if (kOk ks k = true ∧ es.length < sizeLine) ∧ r.okEl = true then some (.nx (purge (δ.set i (.own (.dct ks (DL.putN ks vs k (.lst (es ++ [r.d])))))))) else none
      | _ => none)
  | _ => none
def gAppIx (i : Nat) (gi ge : G) : GS := fun δ => (gi δ).bind fun j => (ge δ).bind fun r => appIxC i δ (δ.getD i .no) j.d r
/-- the inner list grows -/
theorem inn_app {K : KF} {B C H H1 : Hp} {σ : L2.St} {δ : DSt} {Φ : Nat → List Addr} {i : Nat} {d d' : D} {l p : Addr} {es : List D} {ys : List V} {y : V} {ψ1 ψ2 ψ' φ : List Addr} {r : R} {En : Ends} (S : RSt Tb K B C σ H δ Φ) (s : Same H H1) (hd : δ.getD i .no = .own d) (hs : σ[i]? = some (some (.ref l)))
    (hp : H p = some (.lst ys)) (ow : OwL K H es ys ψ') (hΦ : Φ i = l :: (ψ1 ++ ((p :: ψ') ++ ψ2))) (q : RR K B C H1 r y φ) (ok : r.okEl = true) (f : ∀ a ∈ φ, H a = none) (n : φ.Nodup)
    (fin : ∀ H', TK H H' → (∀ a, a ≠ p → H' a = H1 a) → (∀ a ∈ ψ1, H' a = H a) → (∀ a ∈ ψ2, H' a = H a) → H' l = H l → Ow K H' (.lst (es ++ [r.d])) (.ref p) (p :: (ψ' ++ φ)) → Ow K H' d' (.ref l) (l :: (ψ1 ++ ((p :: (ψ' ++ φ)) ++ ψ2))))
    (k : KO Tb K B C En σ δ (.nx (purge (δ.set i (.own d'))))) : En.nx σ (upd H1 p (.lst (ys ++ [y]))) := by
  have hp1 := s.get hp
  have S1 := S.same s
  have nd := S.nd i
  rw [hΦ] at nd
  have trk : ∀ a ∈ Φ i, ∃ o, H a = some o ∧ Mt o := fun a ha => S.trk ha
  rw [hΦ] at trk
  have fl : ∀ a ∈ φ, a ∉ l :: (ψ1 ++ ((p :: ψ') ++ ψ2)) := fun a ha z => by
    obtain ⟨o, e, _⟩ := trk a z
    rw [f a ha] at e; cases e
  have nn : (l :: (ψ1 ++ ((p :: (ψ' ++ φ)) ++ ψ2))).Nodup := by
    have e : (φ ++ (l :: (ψ1 ++ ((p :: ψ') ++ ψ2)))).Perm (l :: (ψ1 ++ ((p :: (ψ' ++ φ)) ++ ψ2))) := List.perm_iff_count.mpr fun a => by
      simp only [List.count_append, List.count_cons, List.cons_append, List.append_assoc]
      omega
    exact e.nodup_iff.mp (List.nodup_append.mpr ⟨n, nd, fun a ha b hb z => fl a ha (z ▸ hb)⟩)
  have tk : TK H (upd H1 p (.lst (ys ++ [y]))) := (TK.of s).trans (tk_lst hp1)
  have eqH : ∀ a ∈ l :: (ψ1 ++ ((p :: ψ') ++ ψ2)), H1 a = H a := fun a ha => by
    obtain ⟨o, e, m⟩ := trk a ha
    rw [e]
    exact s.get e
  have pn : ∀ a, a ∈ ψ1 ∨ a ∈ ψ2 ∨ a = l ∨ a ∈ ψ' → a ≠ p := fun a ha z => by
    subst z
    obtain ⟨n1, n2⟩ := List.nodup_cons.mp nd
    obtain ⟨m1, m2, m3⟩ := List.nodup_append.mp n2
    rw [List.cons_append] at m2
    obtain ⟨k1, k2⟩ := List.nodup_cons.mp m2
    rcases ha with ha | ha | ha | ha
    · exact m3 a ha a (by simp) rfl
    · exact k1 (List.mem_append_right _ ha)
    · subst ha
      exact n1 (by simp)
    · exact k1 (List.mem_append_left _ ha)
  refine k σ _ _ (S1.mut (H' := upd H1 p (.lst (ys ++ [y]))) (d' := d') (φ' := l :: (ψ1 ++ ((p :: (ψ' ++ φ)) ++ ψ2))) hd hs (fun a o ha e3 => ?_) ?_ nn fun a ha => ?_) (lk_mut hd)
  · rw [upd_ne (fun z => ha (by rw [hΦ, z]; simp))]; exact e3
  · refine fin _ tk (fun a ha => upd_ne ha) (fun a ha => ?_) (fun a ha => ?_) ?_ ?_
    · rw [upd_ne (pn a (.inl ha)), eqH a (by simp [ha])]
    · rw [upd_ne (pn a (.inr (.inl ha))), eqH a (by simp [ha])]
    · rw [upd_ne (pn l (.inr (.inr (.inl rfl)))), eqH l (by simp)]
    · unfold Ow
      refine ⟨p, _, ψ' ++ φ, rfl, upd_same, OwL.append (OwL.mono tk _ _ _ (fun a ha => ?_) ow) ?_, rfl⟩
      · rw [upd_ne (pn a (.inr (.inr (.inr ha)))), eqH a (by simp [ha])]
      · refine OwL.mono (tk_lst hp1) [r.d] [y] φ (fun a ha => upd_ne fun z => fl a ha (by rw [z]; simp)) ?_
        unfold OwL
        exact ⟨y, [], φ, [], rfl, okEl_ow q ok, by unfold OwL; exact ⟨rfl, rfl⟩, by simp⟩
  · have : a ∈ l :: (ψ1 ++ ((p :: ψ') ++ ψ2)) ∨ a ∈ φ := by
      simp only [List.mem_cons, List.mem_append, List.cons_append] at ha ⊢
      rcases ha with h | h | h | h | h
      · exact .inl (.inl h)
      · exact .inl (.inr (.inl h))
      · exact .inl (.inr (.inr (.inl h)))
      · rcases h with h | h
        · exact .inl (.inr (.inr (.inr (.inl h))))
        · exact .inr h
      · exact .inl (.inr (.inr (.inr (.inr h))))
    rcases this with h | h
    · exact .inl (by rw [hΦ]; exact h)
    · refine .inr ⟨S.ch.free (f a h), fun j hb => ?_⟩
      obtain ⟨o, w, _⟩ := S.trk hb
      rw [f a h] at w; cases w

section
variable {X : Cx} {e b : Expr} {pos : Pos} {gi ge : G}
theorem appIx_use {K : KF} {i : Nat} {En : Ends} {σ : L2.St} {H : Hp} (h : tDS Tb K (gAppIx i gi ge) En σ H) : tDrop (tBM K "list" rAppend (tOp (fun x y H Q => rIx K x y H Q ∨ rIxC K x y H Q) (tVar i) (tD Tb K gi)) (tCons (tD Tb K ge) tNil)) En σ H := by
  obtain ⟨B, C, δ, Φ, o, S, e, k⟩ := h
  obtain ⟨j, r, e1, e2, e3⟩ := bind2_some e
  unfold appIxC at e3
  split at e3
  · rename_i ds hd
    split at e3
    case h_2 => cases e3
    rename_i jj hj
    obtain ⟨n, e4, e5⟩ := bind1_some e3
    split at e5
    case h_2 => cases e5
    rename_i es he
    split at e5
    case isFalse => cases e5
    rename_i ok
    cases e5
    obtain ⟨l, xs, ψ, hs, hl, ow, hp⟩ := S.list hd
    have lenx : xs.length = ds.length := (OwL.rp _ _ _ ow).length
    refine ⟨_, hs, B, C, δ, Φ, j, S, e1, fun w H2 φ2 s2 q2 _ _ => ?_⟩
    have S2 := S.same s2
    have rj := q2.rp S2.bc S2.ch
    rw [hj] at rj
    have hl2 := s2.get hl
    obtain ⟨x, ψ1, φ1, ψ2, ex, ox, eψ, put⟩ := OwL.inn (OwL.same s2 ow) he
    unfold Ow at ox
    obtain ⟨p, ys, ψ', rfl, hpp, owp, rfl⟩ := ox
    have leny : ys.length = es.length := (OwL.rp _ _ _ owp).length
    have ea : atI xs jj = some (V.ref p) := by
      unfold atI
      rw [lenx, e4]
      exact ex
    refine .inl (.inl ⟨l, xs, jj, _, rfl, rp_int rj, SqL.of hl2, ea, .inl ⟨rfl, ys, SqL.of hpp⟩, B, C, δ, Φ, r, S2, e2, fun y H3 φ s3 q3 f3 n3 => ?_⟩)
    refine ⟨p, ys, y, rfl, rfl, s3.get hpp, by omega, ?_⟩
    refine inn_app (d' := .lst (ds.set n (.lst (es ++ [r.d])))) S2 s3 hd hs hpp owp (by rw [hp, eψ]) q3 ok.2 f3 n3 (fun H' tk _ k1 k2 kl oo => ?_) k
    unfold Ow
    exact ⟨l, xs, _, rfl, kl.trans hl2, put H' _ _ tk k1 k2 oo, rfl⟩
  · rename_i ks vs hd
    obtain ⟨kk, e4, e5⟩ := bind1_some e3
    split at e5
    case h_2 => cases e5
    rename_i es he
    split at e5
    case isFalse => cases e5
    rename_i ok
    cases e5
    obtain ⟨l, ws, ψ, hs, g, ow, hp⟩ := S.dct hd
    refine ⟨_, hs, B, C, δ, Φ, j, S, e1, fun w H2 φ2 s2 q2 _ _ => ?_⟩
    have S2 := S.same s2
    have rj := q2.rp S2.bc S2.ch
    have g2 := g.mono s2
    obtain ⟨x, ψ1, φ1, ψ2, ex, ox, eψ, put⟩ := OwL.innN (OwL.same s2 ow) he
    unfold Ow at ox
    obtain ⟨p, ys, ψ', rfl, hpp, owp, rfl⟩ := ox
    have leny : ys.length = es.length := (OwL.rp _ _ _ owp).length
    refine .inr ⟨l, ks, ws, kk, _, rfl, g2, toK_rp e4 rj, ok.1.1, ex, .inl ⟨rfl, ys, SqL.of hpp⟩, B, C, δ, Φ, r, S2, e2, fun y H3 φ s3 q3 f3 n3 => ?_⟩
    refine ⟨p, ys, y, rfl, rfl, s3.get hpp, by omega, ?_⟩
    refine inn_app (d' := .dct ks (DL.putN ks vs kk (.lst (es ++ [r.d])))) S2 s3 hd hs hpp owp (by rw [hp, eψ]) q3 ok.2 f3 n3 (fun H' tk _ k1 k2 kl oo => ?_) k
    unfold Ow
    exact ⟨l, ws, _, rfl, g2.at tk kl, put H' _ _ tk k1 k2 oo, rfl⟩
  · cases e3
theorem ds_appIx {k0 : Nat} (hr : Room k0 X.A) (i : Nat) {x : Str} {p spos apos cpos : Pos} (hi : DE Tb X b gi) (he : DE Tb X e ge) (hx : PlainIx b := by intro _ _; rfl) (hN : X.N[i]? = some x := by rfl) (hv : Vis X.env.scope x := by first | exact Or.inl rfl | exact Or.inr (Or.inl rfl) | exact Or.inr (Or.inr rfl)) (hd : (x == ("__debug__" : Str)) = false := by decide)
    (hcd : (x == ("__classdict__" : Str)) = false := by decide) (hs : swapsWith (.Call (.Attribute (.Subscript (.Name x p) b spos) "append" apos) [e] [] cpos) none pos.line X.env = pure false := by rfl) (hst : starEach [e] X.env = (false, eval e X.env) :: starEach [] X.env := by rfl)
    (hbase : attributeBase (.Subscript (.Name x p) b spos) "append" X.env (eval (.Subscript (.Name x p) b spos) X.env) = eval (.Subscript (.Name x p) b spos) X.env := by rfl)
    (hfew : ((backTo cpos (starEach [e] X.env)).all (fun x => !x.1) && (backToKw cpos (keywordEach [] X.env)).all (fun x => x.1.isSome) && decide ([e].length + ([] : List Keyword).length + (if ([] : List Keyword).isEmpty then 0 else 1) < 30)) = true := by rfl)
    (hline : (apos.endLine == cpos.line) = true := by rfl) (hplain : (backTo cpos (starEach ([] : List Expr) X.env)).any (·.1) = false := by rfl) : DS Tb X (.Expr (.Call (.Attribute (.Subscript (.Name x p) b spos) "append" apos) [e] [] cpos) pos) (gAppIx i gi ge) :=
  ⟨ps_imp (ps_expr (pe_bm PySem.F.plainAttrs_list PySem.F.slot_list_append PySem.F.type_list_append mt_append (pe_ix (ix_seq.or (ix_dct (by have := hr.un; omega))) (pe_var hN hv hd hcd) hi.pe hx) (pa_cons he.pe pa_nil hst) hbase hfew hline hst hplain) hs) fun En σ H h => appIx_use h⟩
end
end DL

set_option Elab.async false
set_option linter.all false
set_option maxRecDepth 100000
set_option maxHeartbeats 4000000
/-! D29: is, is not of truth values. -/
namespace DL
open PySem PySem.Spec PyProof.Rows L2 SrtO
variable {X : Cx}
def isB (d e : D) : Option R := match d, e with
  | .bl a, .bl b => some (.val (.bl (decide (a = b))))
  | _, _ => none
def notB (d e : D) : Option R := match d, e with
  | .bl a, .bl b => some (.val (.bl (!decide (a = b))))
  | _, _ => none
theorem rp_bl' {K : KF} {H : Hp} {b : Bool} {v : V} (h : Rp K H (.bl b) v) : v = V.bl b := by
  unfold Rp at h
  exact h
theorem od_isB : OpD X (compareOp .Is) isB := by
  refine ⟨_, op_is_bl, fun B C H x y Q d e c hx hy h k => ?_⟩
  unfold isB at h
  split at h
  · cases h
    exact ⟨_, _, rp_bl' hx, rp_bl' hy, k _ H [] (Same.refl _) rr_bl no_fresh List.nodup_nil⟩
  · cases h
theorem od_notB : OpD X (compareOp .IsNot) notB := by
  refine ⟨_, op_isnot_bl, fun B C H x y Q d e c hx hy h k => ?_⟩
  unfold notB at h
  split at h
  · cases h
    exact ⟨_, _, rp_bl' hx, rp_bl' hy, k _ H [] (Same.refl _) rr_bl no_fresh List.nodup_nil⟩
  · cases h
end DL

set_option Elab.async false
set_option linter.all false
set_option maxRecDepth 100000
set_option maxHeartbeats 4000000
/-! D30: sets of ints over plain data. -/
namespace DL
open PySem PySem.Spec PyProof.Rows L2 SrtO
variable {Tb : Pm}
section
variable {X : Cx}
theorem ow_set {K : KF} {H : Hp} {a : Addr} {b : Bool} {ks : List NestedKey} (g : StA K H a b ks) : Ow K H (.set b ks) (.ref a) [a] := by
  unfold Ow
  exact ⟨a, rfl, g, rfl⟩
/-- set(xs) -/
def oSetL : List R → Option R := one fun r => match r.d with
  | .lst ds => (intL ds).bind fun ns => if ns.length ≤ 4000 then some (.own (.set false ((ddI ns).map .num))) else none
  | _ => none
theorem cd_setL (hc : X.calm = true) : CallD X (.type "set") oSetL := by
  refine ⟨_, cr_setL hc, fun B C H vs φ Q rs c bc ch q n e k => ?_⟩
  obtain ⟨r, er, e1⟩ := one_some e
  clear e
  subst er
  obtain ⟨v, ev, q1⟩ := q.one
  clear q
  subst ev
  have q := q1.rp bc ch
  have e := e1
  clear e1 q1
  split at e
  · rename_i ds hx
    rw [hx] at q
    obtain ⟨ns, e1, e⟩ := bind1_some e
    split at e
    · rename_i hs
      cases e
      unfold Rp at q
      obtain ⟨a, xs, rfl, ha, r⟩ := q
      have ed := intL_eq e1
      subst ed
      have ex := rpL_ints_eq r
      subst ex
      refine ⟨a, ns, rfl, SqL.of ha, by show ns.length + 1 < 4096; omega, fun p hp => ?_⟩
      refine k _ _ [p] (same_upd hp) (ow_set (stA_of (by rw [upd_same, List.length_map]; rfl) ?_ ?_)) (fun b hb => by rw [List.mem_singleton.mp hb]; exact .inl hp) (by simp)
      · exact List.Pairwise.map _ (fun x y h z => h (by cases z; rfl)) (dd_nodup ns)
      · intro k hk
        obtain ⟨i, _, rfl⟩ := List.mem_map.mp hk
        exact ⟨i, rfl⟩
    · cases e
  · cases e
def keyI : List NestedKey → Option (List Int)
  | [] => some []
  | .num i :: ks => (keyI ks).map (i :: ·)
  | _ :: _ => none
theorem keyI_some : ∀ {ks : List NestedKey} {ns : List Int}, keyI ks = some ns → ks = ns.map .num
  | [], _, h => by cases h; rfl
  | .num i :: ks, _, h => by
    obtain ⟨ns, e, rfl⟩ := map_some h
    rw [keyI_some e]
    rfl
  | .none :: _, _, h => by cases h
  | .text _ :: _, _, h => by cases h
  | .tup _ :: _, _, h => by cases h
theorem keyI_map : ∀ ns : List Int, keyI (ns.map .num) = some ns
  | [] => rfl
  | i :: ns => by
    show (keyI (ns.map .num)).map (i :: ·) = _
    rw [keyI_map ns]
    rfl
/-- sorted(s), s a set that can be walked -/
def oSortSet : List R → Option R := one fun r => match r.d with
  | .set true ks => (keyI ks).bind fun ns => if ns.length < 64 then some (.own (.lst ((sortI ns).map .int))) else none
  | _ => none
theorem cd_sortSet (hc : X.calm = true) : CallD X (.builtin "sorted") oSortSet := by
  refine ⟨_, cr_sortedSet hc, fun B C H vs φ Q rs c bc ch q n e k => ?_⟩
  obtain ⟨r, er, e1⟩ := one_some e
  clear e
  subst er
  obtain ⟨v, ev, q1⟩ := q.one
  clear q
  subst ev
  have q := q1.rp bc ch
  have e := e1
  clear e1 q1
  split at e
  · rename_i ks hx
    rw [hx] at q
    obtain ⟨ns, e1, e⟩ := bind1_some e
    split at e
    · rename_i hs
      cases e
      unfold Rp at q
      obtain ⟨a, rfl, g⟩ := q
      have ek := keyI_some e1
      have hS := stA_S g
      obtain ⟨_, _, nd, _, _⟩ := g
      subst ek
      have ndn : ns.Nodup := (List.pairwise_map.mp nd).imp fun h z => h (by rw [z])
      refine ⟨a, stS (ns.map .num), ns.length, rfl, ?_, hs, fun ms p h1 h2 h3 hp => ?_⟩
      · rw [List.length_map] at hS
        exact hS
      · have pm : ms.Perm ns := (List.perm_ext_iff_of_nodup (h1.imp fun h z => by omega) ndn).mpr fun x => by
          rw [h2]
          unfold stS
          rw [decide_eq_true_eq, List.mem_map]
          exact ⟨fun ⟨y, hy, e⟩ => by cases e; exact hy, fun h => ⟨x, h, rfl⟩⟩
        have em := sortI_uniq pm (h1.imp fun h => Int.le_of_lt h)
        rw [← em] at k
        exact k _ _ [p] (same_upd hp) (ow_new hp (rpL_ints _) (puL_ints ms)) (fun b hb => by rw [List.mem_singleton.mp hb]; exact .inl hp) (by simp)
    · cases e
  · cases e
/-- the slot's own set -/
theorem RSt.set' {K : KF} {B C H : Hp} {σ : L2.St} {δ : DSt} {Φ : Nat → List Addr} (h : RSt Tb K B C σ H δ Φ) {i : Nat} {b : Bool} {ks : List NestedKey} (e : δ.getD i .no = .own (.set b ks)) :
    ∃ l, σ[i]? = some (some (.ref l)) ∧ StA K H l b ks ∧ Φ i = [l] := by
  have q := h.sl i
  rw [e] at q
  obtain ⟨x, e1, ow⟩ := q
  unfold Ow at ow
  obtain ⟨l, rfl, h1, h2⟩ := ow
  refine ⟨l, ?_, h1, h2⟩
  rw [List.getD_eq_getElem?_getD] at e1
  cases w : σ[i]? with
  | none => rw [w] at e1; cases e1
  | some y => rw [w] at e1; rw [show y = some (V.ref l) from e1]
/-- s.add(e) -/
def gSAdd (i : Nat) (g : G) : GS := fun δ => (g δ).bind fun r => match δ.getD i .no with
  | .own (.set b ks) => (match r.d with
    | .int k => if ks.length ≤ 4000 then some (.nx (purge (δ.set i (.own (.set b (addN ks (.num k))))))) else none
    | _ => none)
  | _ => none
variable {e : Expr} {ge : G} {pos : Pos}
theorem sadd_use {K : KF} {i : Nat} {En : Ends} {σ : L2.St} {H : Hp} (h : tDS Tb K (gSAdd i ge) En σ H) : tDrop (tSAddX K (tVar i) (tCons (tD Tb K ge) tNil)) En σ H := by
  obtain ⟨B, C, δ, Φ, o, S, e, k⟩ := h
  obtain ⟨r, e1, e2⟩ := bind1_some e
  split at e2
  case h_2 => cases e2
  rename_i b ks hd
  split at e2
  case h_2 => cases e2
  rename_i kk hk
  split at e2
  case isFalse => cases e2
  rename_i hz
  cases e2
  obtain ⟨l, hs, g, hp⟩ := S.set' hd
  refine ⟨_, hs, ⟨l, b, ks, rfl, g⟩, B, C, δ, Φ, r, S, e1, fun y H1 φ s q f n => ?_⟩
  have S1 := S.same s
  have rp := q.rp S.bc (S.ch.trans s)
  rw [hk] at rp
  have ey := rp_int rp
  subst ey
  refine ⟨l, b, ks, kk, rfl, rfl, g.mono s, by show ks.length + 1 < 4096; omega, fun o' g' => ?_⟩
  refine k σ _ _ (S1.mut (H' := upd H1 l o') (d' := .set b (addN ks (.num kk))) (φ' := [l]) hd hs (fun a o ha e3 => ?_) (ow_set g') (by simp) fun a ha => .inl (by rw [hp]; exact ha)) (lk_mut hd)
  rw [upd_ne (fun z => ha (by rw [hp, z]; exact List.mem_cons_self))]
  exact e3
theorem ds_sadd (i : Nat) {x : Str} {p apos cpos : Pos} (he : DE Tb X e ge) (hN : X.N[i]? = some x := by rfl) (hv : Vis X.env.scope x := by first | exact Or.inl rfl | exact Or.inr (Or.inl rfl) | exact Or.inr (Or.inr rfl)) (hd : (x == ("__debug__" : Str)) = false := by decide)
    (hcd : (x == ("__classdict__" : Str)) = false := by decide) (hs : swapsWith (.Call (.Attribute (.Name x p) "add" apos) [e] [] cpos) none pos.line X.env = pure false := by rfl) (hst : starEach [e] X.env = (false, eval e X.env) :: starEach [] X.env := by rfl)
    (hbase : attributeBase (.Name x p) "add" X.env (eval (.Name x p) X.env) = eval (.Name x p) X.env := by rfl)
    (hfew : ((backTo cpos (starEach [e] X.env)).all (fun x => !x.1) && (backToKw cpos (keywordEach [] X.env)).all (fun x => x.1.isSome) && decide ([e].length + ([] : List Keyword).length + (if ([] : List Keyword).isEmpty then 0 else 1) < 30)) = true := by rfl)
    (hline : (apos.endLine == cpos.line) = true := by rfl) (hplain : (backTo cpos (starEach ([] : List Expr) X.env)).any (·.1) = false := by rfl) : DS Tb X (.Expr (.Call (.Attribute (.Name x p) "add" apos) [e] [] cpos) pos) (gSAdd i ge) :=
  ⟨ps_imp (ps_expr (pe_saddX (pe_var hN hv hd hcd) (pa_cons he.pe pa_nil hst) hbase hfew hline hst hplain) hs) fun En σ H h => sadd_use h⟩
end
end DL

set_option Elab.async false
set_option linter.all false
set_option maxRecDepth 100000
set_option maxHeartbeats 4000000
/-! GC1: a comprehension's clause as one loop, walked once for the outer and the inner clause alike. -/
namespace L2
open PySem PySem.Spec PyProof.Rows
/-- the second knows what the first knows -/
def Ext (σ σ' : St) : Prop := σ'.length = σ.length ∧ ∀ (j : Nat) v, σ[j]? = some (some v) → σ'[j]? = some (some v)
theorem Ext.refl (σ : St) : Ext σ σ := ⟨rfl, fun _ _ h => h⟩
/-- one turn of a clause -/
def turnC (p : Pos) (it : Value) (tg : Expr) (ifs : List Expr) (env : Env) (body : Sem Fin) (c : Code) : Sem Fin := do
  standAt p
  match ← pyNext it with
  | none => pure (.done .next)
  | some v =>
    letOwnedTupleGo tg it v
    assign tg env v
    let mut ok := true
    for x in ifs do
      if ok then ok ← isTrue x env (eval x env)
    if ok then body else again c
/-- what the tests do -/
abbrev testsC (ifs : List Expr) (env : Env) : Sem Bool := forIn ifs true fun c r => if r = true then do let ok ← isTrue c env (eval c env); pure (ForInStep.yield ok) else pure (ForInStep.yield r)
section
variable {prog : Program} {w : World} {A : Around} {R : Result → Shared → Prop} {env : Env} {c : Code} {p : Pos} {it : Value} {tg : Expr} {ifs : List Expr} {body : Sem Fin}
abbrev noX : Value → Shared → Prop := fun _ _ => False
theorem loopC (hq : c.quiet = true) (hu : A.under c = A) (hd : (model prog w).den c = (turnC p it tg ifs env body c).onRaise (fun x => do noteFrame x env; theTreesLotGoes x)) (I : Nat → Shared → Prop)
    (turn : ∀ n s, I n s → wpAny (model prog w) A (pyNext it) (fun r s1 => match r with
      | none => R (.ok .next) s1
      | some v => wpAny (model prog w) A (letOwnedTupleGo tg it v) (fun _ s2 => wpAny (model prog w) A (assign tg env v) (fun _ s3 => wpAny (model prog w) A (testsC ifs env) (fun ok s4 =>
          if ok = true then wpAny (model prog w) A body (fun f s5 => f = .again c ∧ ∃ m, m < n ∧ I m s5) noX s4 else ∃ m, m < n ∧ I m s4) noX s3) noX s2) noX s1) noX s)
    (n : Nat) (s : Shared) (h : I n s) : codeAny (model prog w) A c R s := by
  refine codeAny_loop hq I (fun n s hI => ?_) n h
  rw [hu, hd]
  refine wpAny_noted ?_
  unfold turnC
  refine wpAny_bind (wpAny_standAt (wpAny_bind (wpAny_mono (turn n s hI) (fun r s1 h1 => ?_) fun _ _ z => False.elim z)))
  match r, h1 with
  | none, h1 => exact wpAny_pure h1
  | some v, h1 =>
    refine wpAny_bind (wpAny_mono h1 (fun _ s2 h2 => wpAny_bind (wpAny_mono h2 (fun _ s3 h3 => wpAny_bind (wpAny_mono h3 (fun ok s4 h4 => ?_) fun _ _ z => False.elim z)) fun _ _ z => False.elim z)) fun _ _ z => False.elim z)
    match ok, h4 with
    | false, h4 => exact wpAny_pure ⟨rfl, h4⟩
    | true, h4 => exact wpAny_mono h4 (fun f s5 ⟨e, h5⟩ => by rw [e]; exact ⟨rfl, h5⟩) fun _ _ z => False.elim z
end
section
variable {Y : Cx} {c : Code} {p : Pos} {it : Addr} {tg : Expr} {ifs : List Expr} {body : Sem Fin} {R : Result → Shared → Prop} {g : TG} {tt : TT} {pins : List (Addr × Obj)} {σ0 : St} {J : It} {fp : List Addr} {tn : Nat → Heap → Prop} {W : Nat → Nat → Hp → Prop} {Fin : Hp → Prop}
  {B : (Hp → Prop) → St → Hp → Prop}
/-- what a clause owes, turn for turn -/
def TurnsC (J : It) (W : Nat → Nat → Hp → Prop) (Fin : Hp → Prop) (g : TG) (tt : TT) (B : (Hp → Prop) → St → Hp → Prop) (σ0 : St) : Prop :=
  ∀ i m H, W i m H → (J.stop i H ∧ Fin H) ∨ (J.go i H ∧ ∃ Nx : Hp → Prop, (∀ H', Nx H' → ∃ m', m' < m ∧ W (i + 1) m' H') ∧ ∀ x H', J.yld i H x H' → g x σ0 H' fun σ2 H2 => Ext σ0 σ2 ∧ tt σ2 H2 fun b H3 => if b = true then B Nx σ2 H3 else Nx H3)
theorem walkC (hc : Y.calm = true) (hx : Y.xe = noX) (hq : c.quiet = true) (hu : Y.A.under c = Y.A) (hd : (model Y.prog Y.w).den c = (turnC p (.ref it) tg ifs Y.env body c).onRaise (fun x => do noteFrame x Y.env; theTreesLotGoes x))
    (T : Turn Y.prog Y.w Y.K tg J fp it tn) (stat : ∀ H', (∀ b ∈ fp, H' b = none) → ∀ b ∈ fp, FpOk Y pins H' b) (pg : PG Y tg g) (pt : PTs Y ifs tt) (turns : TurnsC J W Fin g tt B σ0)
    (pb : ∀ (ps : List (Addr × Obj)) (s : Shared) (σ : St) (H : Hp) (Nx : Hp → Prop), Inv Y (pins ++ ps) σ H s → Ext σ0 σ → B Nx σ H → wpAny (model Y.prog Y.w) Y.A body (fun f s' => f = .again c ∧ ∃ σ' H', Inv Y (pins ++ ps) σ' H' s' ∧ Ext σ0 σ' ∧ Nx H') noX s)
    (fin : ∀ s H', Inv Y pins σ0 H' s → Fin H' → R (.ok .next) s)
    {m0 : Nat} {s : Shared} {H : Hp} (I : Inv Y pins σ0 H s) (st : tn 0 s.heap) (nf : ∀ b ∈ fp, H b = none) (w0 : W 0 m0 H) : codeAny (model Y.prog Y.w) Y.A c R s := by
  refine loopC hq hu hd (fun n s' => ∃ i H', Inv Y pins σ0 H' s' ∧ tn i s'.heap ∧ (∀ b ∈ fp, H' b = none) ∧ W i n H') ?_ m0 s ⟨0, H, I, st, nf, w0⟩
  rintro n s1 ⟨i, H1, I1, st1, nf1, w1⟩
  rcases turns i n H1 w1 with ⟨stop, hf⟩ | ⟨go, Nx, hNx, step⟩
  · refine thnF (T.done Y rfl rfl rfl hc i pins s1 σ0 H1 noX I1 (stat H1 nf1) st1 stop) fun r s2 ⟨hr, I2⟩ => ?_
    subst hr
    exact fin s2 H1 I2 hf
  · refine thnF (T.item Y rfl rfl rfl hc i pins s1 σ0 H1 noX I1 (stat H1 nf1) st1 go) fun r s2 ⟨u, hr, h2⟩ => ?_
    subst hr
    refine thnF h2 fun _ s3 ⟨x, H3, I3, r3, y3, st3, nf3⟩ => ?_
    have I3' := I3.pinned (stat H3 nf3) (T.obj _ _ st3)
    -- the turn's end, with the iterator's objects as they stood
    have back : ∀ {σ' : St} {s' : Shared} {H' : Hp}, Inv Y (pins ++ pinsAt fp s3.heap) σ' H' s' → Ext σ0 σ' → Nx H' → ∃ m, m < n ∧ ∃ i H', Inv Y pins σ0 H' s' ∧ tn i s'.heap ∧ (∀ b ∈ fp, H' b = none) ∧ W i m H' := fun {σ' s' H'} I' e nx => by
      obtain ⟨m', hm, w'⟩ := hNx H' nx
      have there : ∀ b ∈ fp, ∀ o, s3.heap.get? b = some o → s'.heap.get? b = some o ∧ H' b = none := fun b hb o e => by
        have z := I'.pin (b, o) (List.mem_append_right _ (List.mem_append_right _ (mem_pinsAt hb e)))
        exact ⟨z.1, z.2.1⟩
      refine ⟨m', hm, i + 1, H', I'.unpinned.weak e.1.symm e.2, T.keep _ _ _ st3 fun b hb o e => (there b hb o e).1, fun b hb => ?_, w'⟩
      obtain ⟨o, e, _⟩ := T.obj _ _ st3 b hb
      exact (there b hb o e).2
    have a1 := pg.run _ s3 σ0 H3 x u _ I3' r3 (step x H3 y3)
    rw [hx] at a1
    refine thnF a1 fun _ s4 ⟨σ4, H4, I4, e4, q4⟩ => ?_
    have a2 := pt.run _ s4 σ4 H4 _ I4 q4
    rw [hx] at a2
    refine thnF a2 fun b s5 ⟨H5, I5, q5⟩ => ?_
    match b, q5 with
    | false, q5 => exact back I5 e4 q5
    | true, q5 => exact thnF (pb _ s5 σ4 H5 Nx I5 e4 q5) fun f s6 ⟨ef, σ6, H6, I6, e6, q6⟩ => ⟨ef, back I6 e6 q6⟩
end
end L2

set_option Elab.async false
set_option linter.all false
set_option maxRecDepth 100000
set_option maxHeartbeats 4000000
/-! GC2: a set comprehension's block, from its iterator to its first loop. -/
namespace DL
open PySem PySem.Spec PyProof.Rows L2
section
variable {X : Cx} {pins : List (Addr × Obj)} {σ : L2.St} {H : Hp} {s : Shared} {Q : VK} {elt tg iter : Expr} {ifs : List Expr} {rest : List Comprehension} {scope : Scope} {own : List (Str × Nat)} {pos : Pos} {wi : TI}
theorem stA_nil {K : KF} {H : Hp} {D : Addr} : StA K (upd H D (SetF K.ft D (stS []) 0)) D true [] := stA_of (by rw [upd_same]; rfl) List.nodup_nil (fun k h => by cases h)
theorem set_core (hc : X.calm = true) (hN : X.N.Nodup) (hi : PI X tg iter wi) (ok : BlkOk X.N X.env.scope scope own) (hs : ∀ x, foldedSetIterable iter X.env x = pure x) (I : Inv X pins σ H s) {Rest : It → Addr → Hp → Prop} {use : Option (Value → Sem Unit)} {Qf : Value → Shared → Prop} {pos' : Pos}
    (h : wi σ H fun J H1 => ∀ D o, H1 D = none → StA X.KK (upd H1 D o) D true [] → Rest J D (upd H1 D o))
    (loop : ∀ (s3 : Shared) (H3 : Hp) (C : Addr) (cl : List (Str × Addr)) (fp : List Addr) (it D : Addr) (J : It) (tn : Nat → Heap → Prop) (s4 : Shared) (R : Result → Shared → Prop), Turn X.prog X.w X.K tg J fp it tn →
      (∀ H', (∀ b ∈ fp, H' b = none) → ∀ b ∈ fp, FpOk (X.blk s3 H3 scope (compEnvC scope cl C X.env) fp) [] H' b) → Inv (X.blk s3 H3 scope (compEnvC scope cl C X.env) fp) [] (wipe σ (own.map (·.2))) H3 s4 → tn 0 s4.heap → (∀ b ∈ fp, H3 b = none) → Rest J D H3 →
      (∀ s' H', Inv (X.blk s3 H3 scope (compEnvC scope cl C X.env) fp) [] (wipe σ (own.map (·.2))) H' s' → Q (.ref D) H' → R (.ok .next) s') →
      codeAny (model X.prog X.w) X.A (.compLoop (.SetComp elt (⟨tg, iter, ifs, 0⟩ :: rest) scope pos) 0 (.ref it) (.ref D) (compEnvC scope cl C X.env)) R s4)
    (post : ∀ D C s' m H', Inv X pins σ H' s' → Q (.ref D) H' → s'.heap.Ns C m → FpOk X pins H' C → compPost (model X.prog X.w) X.A X.xe use Qf (.ref D) C (.ok .next) s') :
    wpAny (model X.prog X.w) X.A (comprehension (.SetComp elt (⟨tg, iter, ifs, 0⟩ :: rest) scope pos) scope X.env pos' (newSet (.type "set")) false (eval iter X.env) use) Qf X.xe s := by
  have free : ∀ y ∈ scope.names, y.2 = .free → ∃ c, X.env.cells.lookup y.1 = some c := fun y hy e => I.ok.has _ ((ok.free y hy e).imp id id)
  refine wpAny_comprehension_free (use := use) rfl hs (closure_ok free) ok.kind (fun y hy e => by rw [ok.uniq y hy, e]) (thn (hi.run pins s σ H _ I h) fun xv s1 g1 => thn g1 fun itv s2 g2 => ?_)
  obtain ⟨it, fp, tn, J, H2, e, I2, T, st2, f2, q⟩ := g2
  subst e
  refine wpAny_newSet_raw fun led hled => newEnv_comp ?_
  subst hled
  have fresh : H2 s2.heap.objs.size = none := I2.hok.fresh (Nat.le_refl _)
  obtain ⟨D, hD⟩ : ∃ D, D = s2.heap.objs.size := ⟨_, rfl⟩
  obtain ⟨s3, hs3⟩ : ∃ s3 : Shared, s3 = { s2 with heap := s2.heap.push { cls := .type "set", dict := none, data := .set #[] 0 (.fresh 0 0 (!X.w.params.followText "set-order")) } } := ⟨_, rfl⟩
  have sr : SetR X.w s3.heap D (stS []) 0 := by
    rw [hs3, hD]
    exact (setR_fresh X.w).congr fun k => by unfold stS; simp
  have old3 : ∀ b o, s2.heap.get? b = some o → s3.heap.get? b = some o := fun b o e => by rw [hs3]; exact Heap.get?_push_of_some _ e
  have size3 : s3.heap.objs.size = s2.heap.objs.size + 1 := by rw [hs3]; exact Heap.size_push _ _
  rw [← hD] at fresh
  have I3 : Inv X pins σ (upd H2 D (SetO X.w D (stS []) 0)) s3 := by
    have z := I2.laid (a := D) (o := SetO X.w D (stS []) 0) (h' := s3.heap) (t' := s2.toks) old3 (by rw [hD]; exact Nat.le_refl _) (setO_new sr)
    rw [show ({ s2 with heap := s3.heap, toks := s2.toks } : Shared) = s3 by rw [hs3]] at z
    exact z
  have below : ∀ b ∈ fp, b < s2.heap.objs.size := fun b hb => by
    obtain ⟨o, e, _⟩ := T.obj _ _ st2 b hb
    exact Heap.lt_size e
  obtain ⟨H3, hH3⟩ : ∃ H3, H3 = upd H2 D (SetO X.w D (stS []) 0) := ⟨_, rfl⟩
  have f3 : ∀ b ∈ fp, FpOk X pins H3 b ∧ b < s3.heap.objs.size := fun b hb => by
    have lt := below b hb
    refine ⟨⟨?_, (f2 b hb).2⟩, by rw [size3]; exact Nat.lt_succ_of_lt lt⟩
    rw [hH3, upd_ne (by rw [hD]; exact Nat.ne_of_lt lt)]
    exact (f2 b hb).1
  rw [← hH3] at I3
  have I4 := block_start I3 ok hN f3
  obtain ⟨C, hC⟩ : ∃ C, C = s3.heap.objs.size := ⟨_, rfl⟩
  rw [← hC] at I4
  obtain ⟨cl, hcl⟩ : ∃ cl, cl = cellsFrom (C + 1) scope.names (cloFrom X.env.cells scope.names []) := ⟨_, rfl⟩
  rw [← hcl] at I4
  obtain ⟨s4, hs4⟩ : ∃ s4 : Shared, s4 = { s3 with heap := pushCells (s3.heap.push { cls := .type "dict", data := .dict #[] }) scope.names } := ⟨_, rfl⟩
  rw [← hs4] at I4
  have st4 : tn 0 s4.heap := T.keep _ _ _ st2 fun b _ o e => by rw [hs4]; exact pushCells_keeps _ _ _ _ (Heap.get?_push_of_some _ (old3 b o e))
  have none3 : ∀ b ∈ fp, H3 b = none := fun b hb => (f3 b hb).1.1
  have stat : ∀ H', (∀ b ∈ fp, H' b = none) → ∀ b ∈ fp, FpOk (X.blk s3 H3 scope (compEnvC scope cl C X.env) fp) [] H' b := fun H' hn b hb =>
    ⟨hn b hb, (I4.ok.exf b hb).1, I4.ok.exfs b hb, .inl hb, fun x c e => (I4.ok.exf b hb).2 x c e, fun p hp => by cases hp⟩
  have rs : Rest J D H3 := by
    rw [hH3]
    exact q D _ fresh (stA_nil (K := X.KK))
  have main : codeAny (model X.prog X.w) X.A (.compLoop (.SetComp elt (⟨tg, iter, ifs, 0⟩ :: rest) scope pos) 0 (.ref it) (.ref D) (compEnvC scope cl C X.env)) (compPost (model X.prog X.w) X.A X.xe use Qf (.ref D) C) s4 := by
    refine loop s3 H3 C cl fp it D J tn s4 _ T stat I4 st4 none3 rs fun s' H' I' qq => ?_
    have I5 : Inv X pins σ H' s' := I3.call' (ch := fp) I'.os I'.base I'.hok I'.bare fun b hb => ⟨(f3 b hb).1.2.2.2.1, (f3 b hb).1.2.1, (f3 b hb).1.2.2.2.2.1, (f3 b hb).1.2.2.2.2.2⟩
    have nC : H' C = none := I'.free
    obtain ⟨m, hn, _⟩ := I'.loc
    have hn : s'.heap.Ns C m := hn
    have fC : FpOk X pins H' C := I3.fpOk (by rw [hC]; exact Nat.le_refl _) nC
    exact post D C s' m H' I5 qq hn fC
  have start := codeAny_compStart_set main (T.self X.A 0 _ _ _ st4 main)
  rw [hcl, hC, hs4, hs3, hD] at start
  rw [hs3] at hC
  exact start
/-- the new set as a value -/
theorem post_val {C D : Addr} {s' : Shared} {m : Str → Option Value} {H' : Hp} (I' : Inv X pins σ H' s') (q : Q (.ref D) H') (hn : s'.heap.Ns C m) (f : FpOk X pins H' C) : compPost (model X.prog X.w) X.A X.xe none (EP X pins σ Q) (.ref D) C (.ok .next) s' :=
  ⟨m, hn, fun h'' sb => ⟨.ref D, H', I'.turned (t' := s'.toks) (fun b o hb e => (sb.2 b hb).trans e) f.1 f.2.1 f.2.2.2.1 f.2.2.2.2.1 f.2.2.2.2.2, rfl, q⟩⟩
/-- the new set, kept by a local name -/
theorem post_name {i : Nat} {y : Str} {py : Pos} {En : Ends} {C D : Addr} {s' : Shared} {m : Str → Option Value} {H' : Hp} (hN : X.N.Nodup) (hy : X.N[i]? = some y) (hl : X.env.scope.names.lookup y = some .local) (I' : Inv X pins σ H' s') (q : L2.gName i (.ref D) σ H' En.nx) (hn : s'.heap.Ns C m) (f : FpOk X pins H' C) :
    compPost (model X.prog X.w) X.A X.xe (some (assign (.Name y py) X.env)) (fun _ s' => SP X pins En .next s') (.ref D) C (.ok .next) s' := by
  show wpAny _ _ (assign (.Name y py) X.env (.ref D)) _ _ _
  refine wpAny_assign_Name (store_ok2 (v := V.ref D) I' hN hy (.inl hl) rfl (fun s2 I2 ⟨a, sb, ha⟩ => ?_) (.inr hl))
  have ne : C ≠ a := ha.elim (fun z => by rw [z]; exact f.2.1) fun z e => f.2.2.2.2.1 y a z e.symm
  exact ⟨m, hn.sameBut sb ne, fun h3 sb3 => ⟨_, H', I2.turned (t' := s2.toks) (fun b o hb e => (sb3.2 b hb).trans e) f.1 f.2.1 f.2.2.2.1 f.2.2.2.2.1 f.2.2.2.2.2, q⟩⟩
/-- the set comprehension is made where its name is stored -/
theorem swap_set {gs : List Comprehension} {y : Str} {py : Pos} {l : Nat} {env : Env} (hk : env.scope.kind = .function) (hy : env.scope.names.lookup y = some .local) (hl : (py.line == pos.line) = true)
    (ha : (scope.names.any fun (n, k) => n == y && (k == .local || k == .cell)) = false) : swapsWith (.SetComp elt gs scope pos) (some (.Name y py)) l env = pure true := by
  have ky : env.kindOf y = some .local := hy
  have hb : env.blockKind = .function := by unfold Env.blockKind; rw [hk]; rfl
  unfold swapsWith
  simp only [hb, ky, ha, Expr.pos, hl]
  rfl
/-- name = {..} -/
theorem exec_set {gs : List Comprehension} {g0 : Comprehension} {y : Str} {py spos : Pos} {En : Ends} (hsw : swapsWith (.SetComp elt (g0 :: gs) scope pos) (some (.Name y py)) spos.line X.env = pure true) (ha : g0.is_async = 0)
    (h : ∀ pos', wpAny (model X.prog X.w) X.A (comprehension (.SetComp elt (g0 :: gs) scope pos) scope X.env pos' (newSet (.type "set")) false (eval g0.iter X.env) (some (assign (.Name y py) X.env))) (fun _ s' => SP X pins En .next s') X.xe s) :
    wpAny (model X.prog X.w) X.A (exec (.Assign [.Name y py] (.SetComp elt (g0 :: gs) scope pos) spos) X.env) (fun f s' => SP X pins En f s') X.xe s := by
  obtain ⟨a, b, c, d⟩ := g0
  cases ha
  rw [exec_Assign_Name_used _ _ _ _ hsw]
  refine wpAny_bind (wpAny_standAt (wpAny_bind ?_))
  show wpAny _ X.A (do let _ ← comprehension (.SetComp elt (⟨a, b, c, 0⟩ :: gs) scope pos) scope X.env (firstIterPos (⟨a, b, c, 0⟩ :: gs) pos) (newSet (.type "set")) false (eval b X.env) (some (assign (.Name y py) X.env))) _ _ s
  exact wpAny_bind (thn (h _) fun _ s' q => wpAny_pure (wpAny_pure q))
end
end DL

set_option Elab.async false
set_option linter.all false
set_option maxRecDepth 100000
set_option maxHeartbeats 4000000
/-! GC3: set comprehensions of ints with one and with two clauses. -/
namespace DL
open PySem PySem.Spec PyProof.Rows L2
section
variable {elt t0 i0 t1 i1 : Expr} {ifs0 ifs1 : List Expr} {scope : Scope} {pos : Pos} {it acc : Value} {env : Env}
/-- the new member goes in -/
abbrev addE (elt : Expr) (env : Env) (acc : Value) : Sem Unit := do let v ← eval elt env; standAt elt.pos; let _ ← call (.builtin "set.add") [acc, v]
abbrev addB (elt : Expr) (env : Env) (acc : Value) (c : Code) : Sem Fin := do
  addE elt env acc
  again c
/-- the inner clause's run -/
abbrev innB (e i1 : Expr) (env : Env) (acc : Value) (c : Code) : Sem Fin := do
  let x ← eval i1 env
  standAt i1.pos
  let x ← foldedSetIterable i1 env x
  let _ ← runOwn (.compStart e 1 (← holding [x] (pyIter x)) acc env) env
  again c
theorem turn_one : compTurn (.SetComp elt [⟨t0, i0, ifs0, 0⟩] scope pos) 0 it acc env = turnC i0.pos it t0 ifs0 env (addB elt env acc (.compLoop (.SetComp elt [⟨t0, i0, ifs0, 0⟩] scope pos) 0 it acc env)) (.compLoop (.SetComp elt [⟨t0, i0, ifs0, 0⟩] scope pos) 0 it acc env) := by rfl
theorem turn_out : compTurn (.SetComp elt [⟨t0, i0, ifs0, 0⟩, ⟨t1, i1, ifs1, 0⟩] scope pos) 0 it acc env = turnC i0.pos it t0 ifs0 env (innB (.SetComp elt [⟨t0, i0, ifs0, 0⟩, ⟨t1, i1, ifs1, 0⟩] scope pos) i1 env acc (.compLoop (.SetComp elt [⟨t0, i0, ifs0, 0⟩, ⟨t1, i1, ifs1, 0⟩] scope pos) 0 it acc env)) (.compLoop (.SetComp elt [⟨t0, i0, ifs0, 0⟩, ⟨t1, i1, ifs1, 0⟩] scope pos) 0 it acc env) := by rfl
theorem turn_inn : compTurn (.SetComp elt [⟨t0, i0, ifs0, 0⟩, ⟨t1, i1, ifs1, 0⟩] scope pos) 1 it acc env = turnC i1.pos it t1 ifs1 env (addB elt env acc (.compLoop (.SetComp elt [⟨t0, i0, ifs0, 0⟩, ⟨t1, i1, ifs1, 0⟩] scope pos) 1 it acc env)) (.compLoop (.SetComp elt [⟨t0, i0, ifs0, 0⟩, ⟨t1, i1, ifs1, 0⟩] scope pos) 1 it acc env) := by rfl
variable {prog : Program} {w : World} {A : Around} {R : Result → Shared → Prop} {s : Shared}
/-- the inner loop begins; its iterator may be asked for once more -/
theorem start_inn {it' : Addr} (l : codeAny (model prog w) A (.compLoop (.SetComp elt [⟨t0, i0, ifs0, 0⟩, ⟨t1, i1, ifs1, 0⟩] scope pos) 1 (.ref it') acc env) R s)
    (self : ∀ (Q : Value → Shared → Prop) (E : Value → Shared → Prop), Q (.ref it') s → wpAny (model prog w) A (pyIter (.ref it')) Q E s) :
    codeAny (model prog w) A (.compStart (.SetComp elt [⟨t0, i0, ifs0, 0⟩, ⟨t1, i1, ifs1, 0⟩] scope pos) 1 (.ref it') acc env) R s := by
  have body : wpAny (model prog w) A (compStart (.SetComp elt [⟨t0, i0, ifs0, 0⟩, ⟨t1, i1, ifs1, 0⟩] scope pos) 1 (.ref it') acc env) (fun fin s' => match fin with | .done f => R (.ok f) s' | .again c' => c'.quiet = true ∧ codeAny (model prog w) A c' R s') (notedBy (model prog w) A env fun e s' => R (.error e) s') s := by
    unfold compStart
    show wpAny _ _ (ask >>= _) _ _ s
    refine wpAny_bind (wpAny_askSetting (wpAny_ite ?_))
    split
    · first
        | exact wpAny_bind (wpAny_pure (wpAny_pure ⟨rfl, l⟩))
        | exact wpAny_pure ⟨rfl, l⟩
    · refine wpAny_bind (wpAny_rule ?_)
      show wpAny _ _ (standAt i1.pos >>= _) _ _ s
      exact wpAny_bind (wpAny_standAt (wpAny_bind (self _ _ (wpAny_pure ⟨rfl, l⟩))))
  refine codeAny_of_tree ?_
  show wpAny _ _ ((compStart (.SetComp elt [⟨t0, i0, ifs0, 0⟩, ⟨t1, i1, ifs1, 0⟩] scope pos) 1 (.ref it') acc env).onRaise (fun x => do noteFrame x env; standAt theWindowsPlace)) _ _ s
  refine wpAny_notedAt (wpAny_mono body (fun fin s' q => ?_) fun _ _ q => q)
  cases fin with
  | done f => exact q
  | again c' => exact q
end
/-- the member that the element's reading gives, and what is then reached -/
def tAddC (K : KF) (te : TE) (D : Addr) (Nx : Hp → Prop) : L2.St → Hp → Prop := fun σ H => te σ H fun y H7 => ∃ ks k, y = V.int k ∧ StA K H7 D true ks ∧ ks.length + 1 < scanBound ∧ ∀ o, StA K (upd H7 D o) D true (addN ks (.num k)) → Nx (upd H7 D o)
theorem add_body {Y : Cx} {elt : Expr} {te : TE} {D : Addr} {ps : List (Addr × Obj)} {s : Shared} {σ0 σ : L2.St} {H : Hp} {Nx : Hp → Prop} {c : Code} (hx : Y.xe = noX) (pe : PE Y elt te) (I : Inv Y ps σ H s) (e : Ext σ0 σ) (q : tAddC Y.KK te D Nx σ H) :
    wpAny (model Y.prog Y.w) Y.A (addB elt Y.env (.ref D) c) (fun f s' => f = .again c ∧ ∃ σ' H', Inv Y ps σ' H' s' ∧ Ext σ0 σ' ∧ Nx H') noX s := by
  have a := pe.run ps s σ H _ I q
  rw [hx] at a
  refine wpAny_bind (wpAny_bind (thn a fun v s1 ⟨y, H1, I1, r1, ks, k, ey, g, room, nx⟩ => wpAny_bind (wpAny_standAt (wpAny_bind ?_))))
  subst ey
  obtain ⟨tk, rfl⟩ := r1
  exact st_add I1 g room fun s' o g' I' => wpAny_pure (wpAny_pure ⟨rfl, σ, _, I', e, nx o g'⟩)
section
variable {X : Cx} {elt tg iter tg1 iter1 : Expr} {ifs ifs1 : List Expr} {scope : Scope} {own : List (Str × Nat)} {vs1 : List Nat} {pos : Pos} {wi wi1 : TI} {g g1 : TG} {tt tt1 : TT} {te : TE}
def tSc1 (K : KF) (wi : TI) (g : TG) (tt : TT) (te : TE) (vs : List Nat) : TE := fun σ H Q => wi σ H fun J H1 => ∀ D o, H1 D = none → StA K (upd H1 D o) D true [] → ∃ W : Nat → Nat → Hp → Prop, (∃ m, W 0 m (upd H1 D o)) ∧ TurnsC J W (fun H => Q (.ref D) H) g tt (fun Nx σ H => tAddC K te D Nx σ H) (wipe σ vs)
/-- the inner clause from these slots -/
def tInn (K : KF) (wi1 : TI) (g1 : TG) (tt1 : TT) (te : TE) (vs1 : List Nat) (D : Addr) (Nx : Hp → Prop) : L2.St → Hp → Prop := fun σ H => wi1 σ H fun J1 H4 => ∃ W1 : Nat → Nat → Hp → Prop, (∃ m, W1 0 m H4) ∧ TurnsC J1 W1 Nx g1 tt1 (fun Nx1 σ H => tAddC K te D Nx1 σ H) (wipe σ vs1)
def tSc2 (K : KF) (wi : TI) (g : TG) (tt : TT) (wi1 : TI) (g1 : TG) (tt1 : TT) (te : TE) (vs vs1 : List Nat) : TE := fun σ H Q => wi σ H fun J H1 => ∀ D o, H1 D = none → StA K (upd H1 D o) D true [] → ∃ W : Nat → Nat → Hp → Prop, (∃ m, W 0 m (upd H1 D o)) ∧ TurnsC J W (fun H => Q (.ref D) H) g tt (fun Nx σ H => tInn K wi1 g1 tt1 te vs1 D Nx σ H) (wipe σ vs)
theorem core_sc1 (hc : X.calm = true) (hN : X.N.Nodup) (hi : PI X tg iter wi) (ok : BlkOk X.N X.env.scope scope own)
    (hg : ∀ (s : Shared) (H : Hp) (C : Addr) (cl : List (Str × Addr)) (fp : List Addr), PG (X.blk s H scope (compEnvC scope cl C X.env) fp) tg g) (ht : ∀ (s : Shared) (H : Hp) (C : Addr) (cl : List (Str × Addr)) (fp : List Addr), PTs (X.blk s H scope (compEnvC scope cl C X.env) fp) ifs tt)
    (he : ∀ (s : Shared) (H : Hp) (C : Addr) (cl : List (Str × Addr)) (fp : List Addr), PE (X.blk s H scope (compEnvC scope cl C X.env) fp) elt te) (hs : ∀ x, foldedSetIterable iter X.env x = pure x := by intro _; rfl) 
    {pins : List (Addr × Obj)} {σ : L2.St} {H : Hp} {s : Shared} {Q : VK} {use : Option (Value → Sem Unit)} {Qf : Value → Shared → Prop} {pos' : Pos} (I : Inv X pins σ H s) (h : tSc1 X.KK wi g tt te (own.map (·.2)) σ H Q)
    (post : ∀ D C s' m H', Inv X pins σ H' s' → Q (.ref D) H' → s'.heap.Ns C m → FpOk X pins H' C → compPost (model X.prog X.w) X.A X.xe use Qf (.ref D) C (.ok .next) s') :
    wpAny (model X.prog X.w) X.A (comprehension (.SetComp elt [⟨tg, iter, ifs, 0⟩] scope pos) scope X.env pos' (newSet (.type "set")) false (eval iter X.env) use) Qf X.xe s := by
  refine set_core (Rest := fun J D H3 => ∃ W : Nat → Nat → Hp → Prop, (∃ m, W 0 m H3) ∧ TurnsC J W (fun H => Q (.ref D) H) g tt (fun Nx σ H => tAddC X.KK te D Nx σ H) (wipe σ (List.map (fun x : Str × Nat => x.2) own))) hc hN hi ok hs I h (fun s3 H3 C cl fp it D J tn s4 R T stat I4 st4 nf ⟨W, ⟨m0, w0⟩, tr⟩ fin => ?_) post
  exact walkC (Y := X.blk s3 H3 scope (compEnvC scope cl C X.env) fp) (pins := []) hc rfl rfl rfl (by show _ = _; rw [← turn_one]; rfl) T stat (hg s3 H3 C cl fp) (ht s3 H3 C cl fp) tr (fun ps s σ H Nx I e q => add_body rfl (he s3 H3 C cl fp) I e q) fin I4 st4 nf w0
theorem pe_sc1 (hc : X.calm = true) (hN : X.N.Nodup) (hi : PI X tg iter wi) (ok : BlkOk X.N X.env.scope scope own)
    (hg : ∀ (s : Shared) (H : Hp) (C : Addr) (cl : List (Str × Addr)) (fp : List Addr), PG (X.blk s H scope (compEnvC scope cl C X.env) fp) tg g) (ht : ∀ (s : Shared) (H : Hp) (C : Addr) (cl : List (Str × Addr)) (fp : List Addr), PTs (X.blk s H scope (compEnvC scope cl C X.env) fp) ifs tt)
    (he : ∀ (s : Shared) (H : Hp) (C : Addr) (cl : List (Str × Addr)) (fp : List Addr), PE (X.blk s H scope (compEnvC scope cl C X.env) fp) elt te) (hs : ∀ x, foldedSetIterable iter X.env x = pure x := by intro _; rfl) :
    PE X (.SetComp elt [⟨tg, iter, ifs, 0⟩] scope pos) (tSc1 X.KK wi g tt te (own.map (·.2))) := by
  refine ⟨fun pins s σ H Q I h => ?_⟩
  rw [arm_eval_SetComp]
  exact core_sc1 hc hN hi ok hg ht he hs I h fun D C s' m H' I' q hn f => post_val I' q hn f
theorem ps_setSc1 {i : Nat} {y : Str} {py spos : Pos} (hy : X.N[i]? = some y) (hyl : X.env.scope.names.lookup y = some .local) (hsw : swapsWith (.SetComp elt [⟨tg, iter, ifs, 0⟩] scope pos) (some (.Name y py)) spos.line X.env = pure true) (hc : X.calm = true) (hN : X.N.Nodup) (hi : PI X tg iter wi) (ok : BlkOk X.N X.env.scope scope own)
    (hg : ∀ (s : Shared) (H : Hp) (C : Addr) (cl : List (Str × Addr)) (fp : List Addr), PG (X.blk s H scope (compEnvC scope cl C X.env) fp) tg g) (ht : ∀ (s : Shared) (H : Hp) (C : Addr) (cl : List (Str × Addr)) (fp : List Addr), PTs (X.blk s H scope (compEnvC scope cl C X.env) fp) ifs tt)
    (he : ∀ (s : Shared) (H : Hp) (C : Addr) (cl : List (Str × Addr)) (fp : List Addr), PE (X.blk s H scope (compEnvC scope cl C X.env) fp) elt te) (hs : ∀ x, foldedSetIterable iter X.env x = pure x := by intro _; rfl) :
    PS X (.Assign [.Name y py] (.SetComp elt [⟨tg, iter, ifs, 0⟩] scope pos) spos) (tAsg (tSc1 X.KK wi g tt te (own.map (·.2))) (L2.gName i)) := by
  refine ⟨fun pins s σ H En I h => exec_set hsw rfl fun pos' => ?_⟩
  have h : (tSc1 X.KK wi g tt te (own.map (·.2))) σ H (fun x H1 => L2.gName i x σ H1 En.nx) := h
  exact core_sc1 hc hN hi ok hg ht he hs I h fun D C s' m H' I' q hn f => post_name hN hy hyl I' q hn f
theorem core_sc2 (hc : X.calm = true) (hN : X.N.Nodup) (hi : PI X tg iter wi) (ok : BlkOk X.N X.env.scope scope own) (hv : ∀ i ∈ vs1, i ∈ own.map (·.2))
    (hg : ∀ (s : Shared) (H : Hp) (C : Addr) (cl : List (Str × Addr)) (fp : List Addr), PG (X.blk s H scope (compEnvC scope cl C X.env) fp) tg g) (ht : ∀ (s : Shared) (H : Hp) (C : Addr) (cl : List (Str × Addr)) (fp : List Addr), PTs (X.blk s H scope (compEnvC scope cl C X.env) fp) ifs tt)
    (hi1 : ∀ (s : Shared) (H : Hp) (C : Addr) (cl : List (Str × Addr)) (fp : List Addr), PI (X.blk s H scope (compEnvC scope cl C X.env) fp) tg1 iter1 wi1)
    (hg1 : ∀ (s : Shared) (H : Hp) (C : Addr) (cl : List (Str × Addr)) (fp : List Addr), PG (X.blk s H scope (compEnvC scope cl C X.env) fp) tg1 g1) (ht1 : ∀ (s : Shared) (H : Hp) (C : Addr) (cl : List (Str × Addr)) (fp : List Addr), PTs (X.blk s H scope (compEnvC scope cl C X.env) fp) ifs1 tt1)
    (he : ∀ (s : Shared) (H : Hp) (C : Addr) (cl : List (Str × Addr)) (fp : List Addr), PE (X.blk s H scope (compEnvC scope cl C X.env) fp) elt te) (hs : ∀ x, foldedSetIterable iter X.env x = pure x := by intro _; rfl) (hs1 : ∀ env x, foldedSetIterable iter1 env x = pure x := by intro _ _; rfl) 
    {pins : List (Addr × Obj)} {σ : L2.St} {H : Hp} {s : Shared} {Q : VK} {use : Option (Value → Sem Unit)} {Qf : Value → Shared → Prop} {pos' : Pos} (I : Inv X pins σ H s) (h : tSc2 X.KK wi g tt wi1 g1 tt1 te (own.map (·.2)) vs1 σ H Q)
    (post : ∀ D C s' m H', Inv X pins σ H' s' → Q (.ref D) H' → s'.heap.Ns C m → FpOk X pins H' C → compPost (model X.prog X.w) X.A X.xe use Qf (.ref D) C (.ok .next) s') :
    wpAny (model X.prog X.w) X.A (comprehension (.SetComp elt [⟨tg, iter, ifs, 0⟩, ⟨tg1, iter1, ifs1, 0⟩] scope pos) scope X.env pos' (newSet (.type "set")) false (eval iter X.env) use) Qf X.xe s := by
  refine set_core (Rest := fun J D H3 => ∃ W : Nat → Nat → Hp → Prop, (∃ m, W 0 m H3) ∧ TurnsC J W (fun H => Q (.ref D) H) g tt (fun Nx σ H => tInn X.KK wi1 g1 tt1 te vs1 D Nx σ H) (wipe σ (List.map (fun x : Str × Nat => x.2) own))) hc hN hi ok hs I h (fun s3 H3 C cl fp it D J tn s4 R T stat I4 st4 nf ⟨W, ⟨m0, w0⟩, tr⟩ fin => ?_) post
  refine walkC (Y := X.blk s3 H3 scope (compEnvC scope cl C X.env) fp) (pins := []) hc rfl rfl rfl (by show _ = _; rw [← turn_out]; rfl) T stat (hg s3 H3 C cl fp) (ht s3 H3 C cl fp) tr (fun ps s5 σ5 H5 Nx I5 e5 q5 => ?_) fin I4 st4 nf w0
  -- the inner clause
  have a := (hi1 s3 H3 C cl fp).run _ s5 σ5 H5 _ I5 q5
  refine wpAny_bind (thn a fun xv s6 h6 => wpAny_bind (wpAny_standAt (wpAny_bind (wpAny_of_eq (hs1 _ xv) (wpAny_bind (wpAny_holding (thn h6 fun itv s7 h7 => ?_)))))))
  obtain ⟨it1, fp1, tn1, J1, H7, e7, I7, T1, st7, f7, W1, ⟨m1, w1⟩, tr1⟩ := h7
  subst e7
  have ext : Ext (wipe σ (own.map (·.2))) (wipe σ5 vs1) := by
    refine ⟨by rw [wipe_length, wipe_length, e5.1, wipe_length], fun j v q => ?_⟩
    obtain ⟨q1, q2⟩ := wipe_some q
    rw [wipe_out fun z => q2 (hv j z)]
    exact e5.2 j v q
  have l : codeAny (model X.prog X.w) X.A (.compLoop (.SetComp elt [⟨tg, iter, ifs, 0⟩, ⟨tg1, iter1, ifs1, 0⟩] scope pos) 1 (.ref it1) (.ref D) (compEnvC scope cl C X.env))
      (fun r s' => match r with
        | .ok _ => ∃ σ' H', Inv (X.blk s3 H3 scope (compEnvC scope cl C X.env) fp) ([] ++ ps) σ' H' s' ∧ Ext (wipe σ (own.map (·.2))) σ' ∧ Nx H'
        | .error _ => False) s7 :=
    walkC (Y := X.blk s3 H3 scope (compEnvC scope cl C X.env) fp) (pins := [] ++ ps) (σ0 := wipe σ5 vs1) (Fin := Nx) hc rfl rfl rfl (by show _ = _; rw [← turn_inn]; rfl) T1 (fun H' hn b hb => ⟨hn b hb, (f7 b hb).2⟩) (hg1 s3 H3 C cl fp) (ht1 s3 H3 C cl fp) tr1
      (fun ps' s σ H Nx I e q => add_body rfl (he s3 H3 C cl fp) I e q) (fun s' H' I' nx => ⟨_, H', I', ext, nx⟩) (I7.weak (wipe_length _ _) fun j v q => (wipe_some q).1) st7 (fun b hb => (f7 b hb).1) w1
  refine wpAny_bind (wpAny_runOwn ?_)
  rw [Around.mark_none]
  refine codeAny_mono (start_inn l fun Q E q => T1.self X.A 0 s7 Q E st7 q) fun r s' hr => ?_
  cases r with
  | ok f => exact wpAny_pure ⟨rfl, hr⟩
  | error e => exact hr.elim
theorem pe_sc2 (hc : X.calm = true) (hN : X.N.Nodup) (hi : PI X tg iter wi) (ok : BlkOk X.N X.env.scope scope own) (hv : ∀ i ∈ vs1, i ∈ own.map (·.2))
    (hg : ∀ (s : Shared) (H : Hp) (C : Addr) (cl : List (Str × Addr)) (fp : List Addr), PG (X.blk s H scope (compEnvC scope cl C X.env) fp) tg g) (ht : ∀ (s : Shared) (H : Hp) (C : Addr) (cl : List (Str × Addr)) (fp : List Addr), PTs (X.blk s H scope (compEnvC scope cl C X.env) fp) ifs tt)
    (hi1 : ∀ (s : Shared) (H : Hp) (C : Addr) (cl : List (Str × Addr)) (fp : List Addr), PI (X.blk s H scope (compEnvC scope cl C X.env) fp) tg1 iter1 wi1)
    (hg1 : ∀ (s : Shared) (H : Hp) (C : Addr) (cl : List (Str × Addr)) (fp : List Addr), PG (X.blk s H scope (compEnvC scope cl C X.env) fp) tg1 g1) (ht1 : ∀ (s : Shared) (H : Hp) (C : Addr) (cl : List (Str × Addr)) (fp : List Addr), PTs (X.blk s H scope (compEnvC scope cl C X.env) fp) ifs1 tt1)
    (he : ∀ (s : Shared) (H : Hp) (C : Addr) (cl : List (Str × Addr)) (fp : List Addr), PE (X.blk s H scope (compEnvC scope cl C X.env) fp) elt te) (hs : ∀ x, foldedSetIterable iter X.env x = pure x := by intro _; rfl) (hs1 : ∀ env x, foldedSetIterable iter1 env x = pure x := by intro _ _; rfl) :
    PE X (.SetComp elt [⟨tg, iter, ifs, 0⟩, ⟨tg1, iter1, ifs1, 0⟩] scope pos) (tSc2 X.KK wi g tt wi1 g1 tt1 te (own.map (·.2)) vs1) := by
  refine ⟨fun pins s σ H Q I h => ?_⟩
  rw [arm_eval_SetComp]
  exact core_sc2 hc hN hi ok hv hg ht hi1 hg1 ht1 he hs hs1 I h fun D C s' m H' I' q hn f => post_val I' q hn f
theorem ps_setSc2 {i : Nat} {y : Str} {py spos : Pos} (hy : X.N[i]? = some y) (hyl : X.env.scope.names.lookup y = some .local) (hsw : swapsWith (.SetComp elt [⟨tg, iter, ifs, 0⟩, ⟨tg1, iter1, ifs1, 0⟩] scope pos) (some (.Name y py)) spos.line X.env = pure true) (hc : X.calm = true) (hN : X.N.Nodup) (hi : PI X tg iter wi) (ok : BlkOk X.N X.env.scope scope own) (hv : ∀ i ∈ vs1, i ∈ own.map (·.2))
    (hg : ∀ (s : Shared) (H : Hp) (C : Addr) (cl : List (Str × Addr)) (fp : List Addr), PG (X.blk s H scope (compEnvC scope cl C X.env) fp) tg g) (ht : ∀ (s : Shared) (H : Hp) (C : Addr) (cl : List (Str × Addr)) (fp : List Addr), PTs (X.blk s H scope (compEnvC scope cl C X.env) fp) ifs tt)
    (hi1 : ∀ (s : Shared) (H : Hp) (C : Addr) (cl : List (Str × Addr)) (fp : List Addr), PI (X.blk s H scope (compEnvC scope cl C X.env) fp) tg1 iter1 wi1)
    (hg1 : ∀ (s : Shared) (H : Hp) (C : Addr) (cl : List (Str × Addr)) (fp : List Addr), PG (X.blk s H scope (compEnvC scope cl C X.env) fp) tg1 g1) (ht1 : ∀ (s : Shared) (H : Hp) (C : Addr) (cl : List (Str × Addr)) (fp : List Addr), PTs (X.blk s H scope (compEnvC scope cl C X.env) fp) ifs1 tt1)
    (he : ∀ (s : Shared) (H : Hp) (C : Addr) (cl : List (Str × Addr)) (fp : List Addr), PE (X.blk s H scope (compEnvC scope cl C X.env) fp) elt te) (hs : ∀ x, foldedSetIterable iter X.env x = pure x := by intro _; rfl) (hs1 : ∀ env x, foldedSetIterable iter1 env x = pure x := by intro _ _; rfl) :
    PS X (.Assign [.Name y py] (.SetComp elt [⟨tg, iter, ifs, 0⟩, ⟨tg1, iter1, ifs1, 0⟩] scope pos) spos) (tAsg (tSc2 X.KK wi g tt wi1 g1 tt1 te (own.map (·.2)) vs1) (L2.gName i)) := by
  refine ⟨fun pins s σ H En I h => exec_set hsw rfl fun pos' => ?_⟩
  have h : (tSc2 X.KK wi g tt wi1 g1 tt1 te (own.map (·.2)) vs1) σ H (fun x H1 => L2.gName i x σ H1 En.nx) := h
  exact core_sc2 hc hN hi ok hv hg ht hi1 hg1 ht1 he hs hs1 I h fun D C s' m H' I' q hn f => post_name hN hy hyl I' q hn f
end
end DL

set_option Elab.async false
set_option linter.all false
set_option maxRecDepth 100000
set_option maxHeartbeats 4000000
/-! D31: set comprehensions of ints over plain data. -/
namespace DL
open PySem PySem.Spec PyProof.Rows L2 SrtO
variable {Tb : Pm}
section
variable {K : KF} {B C H H' : Hp} {σ : L2.St} {δ : DSt} {Φ : Nat → List Addr}
/-- without what stands at D -/
theorem RSt.rem (h : RSt Tb K B C σ H δ Φ) {D : Addr} (m : ∃ o, H D = some o ∧ Mt o) (nD : ∀ j, D ∉ Φ j) (cD : C D = none) : RSt Tb K B C σ (DL.rem (fun a => a = D) H) (purge δ) Φ := by
  have tk : TK H (DL.rem (fun a => a = D) H) := rem_tk fun a z => by subst z; exact m
  have at' : ∀ a, a ≠ D → DL.rem (fun a => a = D) H a = H a := fun a z => rem_at z
  refine ⟨by simpa [purge] using h.len, fun j => ?_, h.nd, h.dj, h.bc, h.ch.keep fun a u o e1 e2 => ?_, h.fr, h.tb⟩
  · show SlOk Tb K B C _ ((purge δ).getD j .no) _ _
    unfold purge
    rw [getD_map _ rfl]
    have s := h.sl j
    cases z : δ.getD j .no with
    | no => rw [z] at s; exact s
    | exc c => rw [z] at s; exact s
    | val d => rw [z] at s; obtain ⟨a, b, x, e1, r⟩ := s; exact ⟨a, b, x, e1, Rp.tk tk _ _ b r⟩
    | par d => rw [z] at s; exact s
    | fr d => rw [z] at s; exact s
    | bor d => rw [z] at s; exact s.1
    | lck d => rw [z] at s; exact s
    | own d =>
      rw [z] at s
      obtain ⟨x, e1, r⟩ := s
      exact ⟨x, e1, Ow.mono tk _ _ _ (fun a ha => at' a fun q => nD j (q ▸ ha)) r⟩
  · rw [at' a fun q => by rw [q, cD] at e1; cases e1]
    exact e2
end

theorem ddI_snoc (ns : List Int) (k : Int) : (ddI (ns ++ [k])).map NestedKey.num = addN ((ddI ns).map .num) (.num k) := by
  have e : ddI (ns ++ [k]) = step_dedup (ddI ns) k := by
    unfold ddI
    rw [List.foldl_append]
    rfl
  have m : NestedKey.num k ∈ (ddI ns).map NestedKey.num ↔ k ∈ ddI ns := by
    rw [List.mem_map]
    exact ⟨fun ⟨x, hx, z⟩ => by cases z; exact hx, fun h => ⟨k, h, rfl⟩⟩
  rw [e]
  unfold step_dedup
  by_cases h : k ∈ ddI ns
  · have t : ((ddI ns).any fun x => x == k) = true := List.any_eq_true.mpr ⟨k, h, beq_self_eq_true k⟩
    rw [if_pos t, addN_mem (m.mpr h)]
  · have t : ¬ ((ddI ns).any fun x => x == k) = true := fun z => by
      obtain ⟨x, hx, q⟩ := List.any_eq_true.mp z
      exact h (eq_of_beq q ▸ hx)
    rw [if_neg t, addN_new fun z => h (m.mp z), List.map_append]
    rfl
theorem map_int_inj : ∀ {a b : List Int}, a.map D.int = b.map D.int → a = b
  | [], [], _ => rfl
  | [], _ :: _, h => by cases h
  | _ :: _, [], h => by cases h
  | x :: a, y :: b, h => by
    rw [List.map_cons, List.map_cons] at h
    obtain ⟨h1, h2⟩ := List.cons.inj h
    cases h1
    rw [map_int_inj h2]
/-- the turns of a clause that ends in the element -/
theorem set_turns {K : KF} {B C Z Hb H0 : Hp} {σ : L2.St} {δ : DSt} {Φ : Nat → List Addr} {vs ts : List Nat} {gt : GTg} {gc : GT} {ge : G} {kd : Kd} {its : List SI} {J : It} {T : Hp → Prop} {D : Addr} {acc ns : List Int} {Fin : Hp → Prop} (hts : ∀ i ∈ ts, i ∈ vs)
    (S : RSt Tb K B C σ Hb δ Φ) (hD : Hb D = none) (tZ : T Z) (sZ : Same Z Hb) (tm : ∀ Z Z', T Z → Same Z Z' → T Z') (wk : Wk K T J its) (tB : kd = .par → T B) (tC : kd = .fr → T C)
    (e : lcL vs kd gt gc ge δ its = some (ns.map .int)) (s0 : Same Hb H0) (g0 : StA K H0 D true ((ddI acc).map .num)) (room : acc.length + ns.length ≤ 4000) (fin : ∀ Hn, Same Hb Hn → StA K Hn D true ((ddI (acc ++ ns)).map .num) → Fin Hn) :
    ∃ W : Nat → Nat → Hp → Prop, (∃ m, W 0 m H0) ∧ TurnsC J W Fin (tDG Tb K ts gt) (tDT Tb K gc) (fun Nx σ H => tAddC K (tD Tb K ge) D Nx σ H) (wipe σ vs) := by
  obtain ⟨Φw, Sw⟩ := S.wipe vs
  refine ⟨fun i m Hn => m = its.length - i ∧ i ≤ its.length ∧ ∃ n1 n2 : List Int, Same Hb Hn ∧ StA K Hn D true ((ddI (acc ++ n1)).map .num) ∧ lcL vs kd gt gc ge δ (its.drop i) = some (n2.map .int) ∧ ns = n1 ++ n2,
    ⟨its.length, by simp, Nat.zero_le _, [], ns, s0, by rw [List.append_nil]; exact g0, by simpa using e, rfl⟩, ?_⟩
  rintro i m Hn ⟨rfl, hi, n1, n2, sH, hacc, e3, e4⟩
  have tH := tm _ _ tZ (sZ.trans sH)
  by_cases hlt : i < its.length
  · obtain ⟨it, hit⟩ : ∃ it, its[i]? = some it := ⟨its[i], by simp [hlt]⟩
    have hdrop : its.drop i = it :: its.drop (i + 1) := by
      rw [List.drop_eq_getElem_cons hlt]
      congr 1
      have := List.getElem?_eq_getElem hlt
      rw [hit] at this
      exact (Option.some.inj this).symm
    rw [hdrop] at e3
    refine .inr ⟨((wk Hn tH i).1 it hit).1, fun H' => ∃ n1 n2 : List Int, Same Hb H' ∧ StA K H' D true ((ddI (acc ++ n1)).map .num) ∧ lcL vs kd gt gc ge δ (its.drop (i + 1)) = some (n2.map .int) ∧ ns = n1 ++ n2,
      fun H' w => ⟨its.length - (i + 1), by omega, rfl, hlt, w⟩, fun x H' hy => ?_⟩
    obtain ⟨ss, ok⟩ := itm_ok (B := B) (C := C) (H1 := Z) wk (S.bc.trans (S.ch.trans sH)) (S.ch.trans sH) (sZ.trans sH) tH tZ tB tC hit hy
    obtain ⟨δ1, e5, e6⟩ := bind1_some e3
    obtain ⟨b, e7, e8⟩ := bind1_some e6
    have sH' := sH.trans ss
    refine ⟨B, C, wipeD δ vs, Φw, kd.itm it, [], δ1, Sw.same sH', ok, List.nodup_nil, fun _ z => (by cases z), fun _ _ z => (by cases z), e5, fun σ2 ⟨Φ2, S2, _, _, l2, o2⟩ => ⟨⟨l2, fun j v q => ?_⟩, ?_⟩⟩
    · obtain ⟨q1, q2⟩ := wipe_some q
      rw [o2 j fun z => q2 (hts j z)]
      exact q
    · refine ⟨B, C, δ1, Φ2, b, S2, e7, fun H3 s3 => ?_⟩
      have sH3 := sH'.trans s3
      have g3 := (hacc.mono ss).mono s3
      cases b with
      | true =>
        rw [if_pos rfl] at e8
        show if (_ : Bool) = true then _ else _
        refine iteT ?_
        obtain ⟨r, e9, e10⟩ := bind1_some e8
        split at e10
        · rename_i hok
          obtain ⟨ds3, e11, e12⟩ := map_some e10
          cases n2 with
          | nil => cases e12
          | cons k n2 =>
            rw [List.map_cons] at e12
            obtain ⟨er, e12⟩ := List.cons.inj e12
            refine ⟨B, C, δ1, Φ2, r, S2.same s3, e9, fun y H4 φ4 s4 q4 f4 n4 => ?_⟩
            have rp := q4.rp S2.bc ((S2.same s3).ch.trans s4)
            rw [er] at rp
            have g4 := g3.mono s4
            have ln : ((ddI (acc ++ n1)).map NestedKey.num).length ≤ acc.length + n1.length := by
              rw [List.length_map, ← List.length_append]
              exact dd_len _
            have tot : n1.length + (n2.length + 1) = ns.length := by
              rw [e4, List.length_append, List.length_cons]
            refine ⟨_, k, rp_int rp, g4, by show _ + 1 < 4096; omega, fun o g5 => ⟨n1 ++ [k], n2, (sH3.trans s4).upd hD, ?_, by rw [e11, ← e12], by rw [e4]; simp⟩⟩
            rw [← ddI_snoc, List.append_assoc] at g5
            exact g5
        · cases e10
      | false =>
        rw [if_neg (by decide)] at e8
        show if (_ : Bool) = true then _ else _
        refine iteF ?_
        exact ⟨n1, n2, sH3, g3, e8, e4⟩
  · have hii : i = its.length := by omega
    refine .inl ⟨(wk Hn tH i).2 hii, ?_⟩
    have e5 : n2 = [] := by
      rw [hii, List.drop_length] at e3
      have z := Option.some.inj e3
      cases n2 with
      | nil => rfl
      | cons a b => cases z
    rw [e5, List.append_nil] at e4
    subst e4
    exact fin Hn sH hacc
/-- {e for x in xs if ..} -/
def gSc (vs : List Nat) (gi : GI) (gt : GTg) (gc : GT) (ge : G) : G := fun δ => (gi δ).bind fun p => (lcL vs p.1 gt gc ge δ p.2).bind fun ds => (intL ds).bind fun ns => if ns.length ≤ 4000 then some (.own (.set true ((ddI ns).map .num))) else none
theorem sc1_use {K : KF} {vs ts : List Nat} {gi : GI} {gt : GTg} {gc : GT} {ge : G} {σ : L2.St} {H : Hp} {Q : VK} (hts : ∀ i ∈ ts, i ∈ vs) (h : tD Tb K (gSc vs gi gt gc ge) σ H Q) : tSc1 K (tDI Tb K gi) (tDG Tb K ts gt) (tDT Tb K gc) (tD Tb K ge) vs σ H Q := by
  obtain ⟨B, C, δ, Φ, c, S, e, k⟩ := h
  obtain ⟨p, e1, e⟩ := bind1_some e
  obtain ⟨kd, its⟩ := p
  obtain ⟨ds, e2, e⟩ := bind1_some e
  obtain ⟨ns, e3, e⟩ := bind1_some e
  split at e
  case isFalse => cases e
  rename_i hz
  cases e
  have ed := intL_eq e3
  subst ed
  refine ⟨B, C, δ, Φ, kd, its, S, e1, fun J H1 T s tm wk t1 tB tC _ Da o hD g0 => ?_⟩
  have S1 := S.same s
  refine set_turns (Tb := Tb) (Hb := H1) (Z := H1) (acc := []) hts S1 hD t1 (Same.refl _) tm wk tB tC e2 (same_upd hD) (by exact g0) (by simpa using hz) fun Hn sn g => ?_
  refine k (.ref Da) Hn [Da] (s.trans sn) (ow_set (by rw [List.nil_append] at g; exact g)) (fun a ha => ?_) (by simp)
  rw [List.mem_singleton.mp ha]
  exact s.free hD
/-- the items of two clauses: the inner one sees no borrowed things -/
def lc2L (vs vs1 : List Nat) (kd : Kd) (gt : GTg) (gc : GT) (gi1 : GI) (gt1 : GTg) (gc1 : GT) (ge : G) (δ : DSt) : List SI → Option (List D)
  | [] => some []
  | it :: its => (gt (kd.itm it) (wipeD δ vs)).bind fun δ1 => (gc δ1).bind fun b => if b = true then (gi1 δ1).bind fun p => if p.1.ok = true then (lcL vs1 p.1 gt1 gc1 ge (purge δ1) p.2).bind fun ds => (lc2L vs vs1 kd gt gc gi1 gt1 gc1 ge δ its).map (ds ++ ·) else none else lc2L vs vs1 kd gt gc gi1 gt1 gc1 ge δ its
def gSc2 (vs vs1 : List Nat) (gi : GI) (gt : GTg) (gc : GT) (gi1 : GI) (gt1 : GTg) (gc1 : GT) (ge : G) : G := fun δ => (gi δ).bind fun p => (lc2L vs vs1 p.1 gt gc gi1 gt1 gc1 ge δ p.2).bind fun ds => (intL ds).bind fun ns => if ns.length ≤ 4000 then some (.own (.set true ((ddI ns).map .num))) else none
theorem ints_app : ∀ {a b : List D} {ns : List Int}, a ++ b = ns.map D.int → ∃ n1 n2, a = n1.map D.int ∧ b = n2.map D.int ∧ ns = n1 ++ n2
  | [], b, ns, h => ⟨[], ns, rfl, h, rfl⟩
  | x :: a, b, [], h => by cases h
  | x :: a, b, n :: ns, h => by
    rw [List.cons_append, List.map_cons] at h
    obtain ⟨h1, h2⟩ := List.cons.inj h
    obtain ⟨n1, n2, q1, q2, q3⟩ := ints_app h2
    exact ⟨n :: n1, n2, by rw [h1, q1]; rfl, q2, by rw [q3]; rfl⟩
theorem sc2_use {K : KF} {vs vs1 ts ts1 : List Nat} {gi gi1 : GI} {gt gt1 : GTg} {gc gc1 : GT} {ge : G} {σ : L2.St} {H : Hp} {Q : VK} (hts : ∀ i ∈ ts, i ∈ vs) (hts1 : ∀ i ∈ ts1, i ∈ vs1) (h : tD Tb K (gSc2 vs vs1 gi gt gc gi1 gt1 gc1 ge) σ H Q) :
    tSc2 K (tDI Tb K gi) (tDG Tb K ts gt) (tDT Tb K gc) (tDI Tb K gi1) (tDG Tb K ts1 gt1) (tDT Tb K gc1) (tD Tb K ge) vs vs1 σ H Q := by
  obtain ⟨B, C, δ, Φ, c, S, e, k⟩ := h
  obtain ⟨p, e1, e⟩ := bind1_some e
  obtain ⟨kd, its⟩ := p
  obtain ⟨ds, e2, e⟩ := bind1_some e
  obtain ⟨ns, e3, e⟩ := bind1_some e
  split at e
  case isFalse => cases e
  rename_i hz
  cases e
  have ed := intL_eq e3
  subst ed
  refine ⟨B, C, δ, Φ, kd, its, S, e1, fun J H1 T s tm wk t1 tB tC _ Da o hD g0 => ?_⟩
  have S1 := S.same s
  obtain ⟨Φw, Sw⟩ := S1.wipe vs
  have nDw : ∀ j, Da ∉ Φw j := fun j z => by
    obtain ⟨o, q, _⟩ := Sw.trk z
    rw [hD] at q; cases q
  have cD : C Da = none := S1.ch.free hD
  refine ⟨fun i m Hn => m = its.length - i ∧ i ≤ its.length ∧ ∃ n1 n2 : List Int, Same H1 Hn ∧ StA K Hn Da true ((ddI n1).map .num) ∧ lc2L vs vs1 kd gt gc gi1 gt1 gc1 ge δ (its.drop i) = some (n2.map .int) ∧ ns = n1 ++ n2,
    ⟨its.length, by simp, Nat.zero_le _, [], ns, same_upd hD, g0, by simpa using e2, rfl⟩, ?_⟩
  rintro i m Hn ⟨rfl, hi, n1, n2, sH, hacc, e3, e4⟩
  have tH := tm _ _ t1 sH
  by_cases hlt : i < its.length
  · obtain ⟨it, hit⟩ : ∃ it, its[i]? = some it := ⟨its[i], by simp [hlt]⟩
    have hdrop : its.drop i = it :: its.drop (i + 1) := by
      rw [List.drop_eq_getElem_cons hlt]
      congr 1
      have := List.getElem?_eq_getElem hlt
      rw [hit] at this
      exact (Option.some.inj this).symm
    rw [hdrop] at e3
    refine .inr ⟨((wk Hn tH i).1 it hit).1, fun H' => ∃ n1 n2 : List Int, Same H1 H' ∧ StA K H' Da true ((ddI n1).map .num) ∧ lc2L vs vs1 kd gt gc gi1 gt1 gc1 ge δ (its.drop (i + 1)) = some (n2.map .int) ∧ ns = n1 ++ n2,
      fun H' w => ⟨its.length - (i + 1), by omega, rfl, hlt, w⟩, fun x H' hy => ?_⟩
    obtain ⟨ss, ok⟩ := itm_ok (B := B) (C := C) (H1 := H1) wk (S1.bc.trans (S1.ch.trans sH)) (S1.ch.trans sH) sH tH t1 tB tC hit hy
    obtain ⟨δ1, e5, e6⟩ := bind1_some e3
    obtain ⟨b, e7, e8⟩ := bind1_some e6
    have sH' := sH.trans ss
    refine ⟨B, C, wipeD δ vs, Φw, kd.itm it, [], δ1, Sw.same sH', ok, List.nodup_nil, fun _ z => (by cases z), fun _ _ z => (by cases z), e5, fun σ2 ⟨Φ2, S2, _, nP, l2, o2⟩ => ⟨⟨l2, fun j v q => ?_⟩, ?_⟩⟩
    · obtain ⟨q1, q2⟩ := wipe_some q
      rw [o2 j fun z => q2 (hts j z)]
      exact q
    · refine ⟨B, C, δ1, Φ2, b, S2, e7, fun H3 s3 => ?_⟩
      have sH3 := sH'.trans s3
      have g3 := (hacc.mono ss).mono s3
      cases b with
      | false =>
        rw [if_neg (by decide)] at e8
        show if (_ : Bool) = true then _ else _
        refine iteF ?_
        exact ⟨n1, n2, sH3, g3, e8, e4⟩
      | true =>
        rw [if_pos rfl] at e8
        show if (_ : Bool) = true then _ else _
        refine iteT ?_
        obtain ⟨p1, e9, e10⟩ := bind1_some e8
        obtain ⟨kd1, its1⟩ := p1
        split at e10
        case isFalse => cases e10
        rename_i kok
        obtain ⟨ds1, e11, e12⟩ := bind1_some e10
        obtain ⟨ds2, e13, e14⟩ := map_some e12
        obtain ⟨m1, m2, rfl, rfl, rfl⟩ := ints_app e14
        refine ⟨B, C, δ1, Φ2, kd1, its1, S2.same s3, e9, fun J1 H4 T1 s4 tm1 wk1 t41 tB1 tC1 tR1 => ?_⟩
        have S4 := (S2.same s3).same s4
        have g4 := g3.mono s4
        have nD2 : ∀ j, Da ∉ Φ2 j := fun j z => by
          rcases nP j Da z with q | q
          · exact nDw j q
          · cases q
        have Sb := S4.rem g4.mt nD2 cD
        have hbD : rem (fun a => a = Da) H4 Da = none := rem_in rfl
        have zz : ∃ Z, T1 Z ∧ Same Z (rem (fun a => a = Da) H4) := by
          cases kd1 with
          | bor => cases kok
          | par => exact ⟨B, tB1 rfl, Sb.bc.trans Sb.ch⟩
          | fr => exact ⟨C, tC1 rfl, Sb.ch⟩
          | val => exact ⟨_, tR1 (.inl rfl) (fun a => a = Da) (fun a z => by subst z; exact g3.mt), Same.refl _⟩
          | own => exact ⟨_, tR1 (.inr rfl) (fun a => a = Da) (fun a z => by subst z; exact g3.mt), Same.refl _⟩
        obtain ⟨Z, tZ, sZ⟩ := zz
        have tot : n1.length + (m1.length + m2.length) = ns.length := by
          rw [e4, List.length_append, List.length_append]
        refine set_turns (Tb := Tb) hts1 Sb hbD tZ sZ tm1 wk1 tB1 tC1 e11 rem_same g4 (by omega) fun Hm sm gm => ?_
        have s1b : Same H1 (rem (fun a => a = Da) H4) := (sH3.trans s4).keep fun a u o q1 q2 => by rw [rem_at fun z => by rw [z, hD] at q1; cases q1]; exact q2
        exact ⟨n1 ++ m1, m2, s1b.trans sm, gm, e13, by rw [e4, List.append_assoc]⟩
  · have hii : i = its.length := by omega
    refine .inl ⟨(wk Hn tH i).2 hii, ?_⟩
    have e5 : n2 = [] := by
      rw [hii, List.drop_length] at e3
      have z := Option.some.inj e3
      cases n2 with
      | nil => rfl
      | cons a b => cases z
    rw [e5, List.append_nil] at e4
    subst e4
    refine k (.ref Da) Hn [Da] (s.trans sH) (ow_set hacc) (fun a ha => ?_) (by simp)
    rw [List.mem_singleton.mp ha]
    exact s.free hD
section
variable {X : Cx} {elt tg iter tg1 iter1 : Expr} {ifs ifs1 : List Expr} {scope : Scope} {vs ts vs1 ts1 : List Nat} {pos : Pos} {gi gi1 : GI} {gt gt1 : GTg} {gc gc1 : GT} {ge : G}
theorem de_sc (own : List (Str × Nat)) (hc : X.calm = true) (hN : X.N.Nodup) (hi : DI Tb X tg iter gi) (ok : BlkOk X.N X.env.scope scope own)
    (hg : ∀ (s : Shared) (H : Hp) (C : Addr) (cl : List (Str × Addr)) (fp : List Addr), DG Tb (X.blk s H scope (compEnvC scope cl C X.env) fp) tg ts gt) (ht : ∀ (s : Shared) (H : Hp) (C : Addr) (cl : List (Str × Addr)) (fp : List Addr), DTs Tb (X.blk s H scope (compEnvC scope cl C X.env) fp) ifs gc)
    (he : ∀ (s : Shared) (H : Hp) (C : Addr) (cl : List (Str × Addr)) (fp : List Addr), DE Tb (X.blk s H scope (compEnvC scope cl C X.env) fp) elt ge) (hvs : own.map (·.2) = vs := by rfl) (hts : ∀ i ∈ ts, i ∈ vs := by decide) (hs : ∀ x, foldedSetIterable iter X.env x = pure x := by intro _; rfl) :
    DE Tb X (.SetComp elt [⟨tg, iter, ifs, 0⟩] scope pos) (gSc vs gi gt gc ge) := by
  subst hvs
  exact ⟨pe_imp (pe_sc1 hc hN hi.pi ok (fun s H C cl fp => (hg s H C cl fp).pg) (fun s H C cl fp => (ht s H C cl fp).pts) (fun s H C cl fp => (he s H C cl fp).pe) hs) fun σ H Q h => sc1_use hts h⟩
theorem de_sc2 (own : List (Str × Nat)) (hc : X.calm = true) (hN : X.N.Nodup) (hi : DI Tb X tg iter gi) (ok : BlkOk X.N X.env.scope scope own)
    (hg : ∀ (s : Shared) (H : Hp) (C : Addr) (cl : List (Str × Addr)) (fp : List Addr), DG Tb (X.blk s H scope (compEnvC scope cl C X.env) fp) tg ts gt) (ht : ∀ (s : Shared) (H : Hp) (C : Addr) (cl : List (Str × Addr)) (fp : List Addr), DTs Tb (X.blk s H scope (compEnvC scope cl C X.env) fp) ifs gc)
    (hi1 : ∀ (s : Shared) (H : Hp) (C : Addr) (cl : List (Str × Addr)) (fp : List Addr), DI Tb (X.blk s H scope (compEnvC scope cl C X.env) fp) tg1 iter1 gi1)
    (hg1 : ∀ (s : Shared) (H : Hp) (C : Addr) (cl : List (Str × Addr)) (fp : List Addr), DG Tb (X.blk s H scope (compEnvC scope cl C X.env) fp) tg1 ts1 gt1) (ht1 : ∀ (s : Shared) (H : Hp) (C : Addr) (cl : List (Str × Addr)) (fp : List Addr), DTs Tb (X.blk s H scope (compEnvC scope cl C X.env) fp) ifs1 gc1)
    (he : ∀ (s : Shared) (H : Hp) (C : Addr) (cl : List (Str × Addr)) (fp : List Addr), DE Tb (X.blk s H scope (compEnvC scope cl C X.env) fp) elt ge) (hvs : own.map (·.2) = vs := by rfl) (hts : ∀ i ∈ ts, i ∈ vs := by decide) (hv1 : ∀ i ∈ vs1, i ∈ vs := by decide) (hts1 : ∀ i ∈ ts1, i ∈ vs1 := by decide)
    (hs : ∀ x, foldedSetIterable iter X.env x = pure x := by intro _; rfl) (hs1 : ∀ env x, foldedSetIterable iter1 env x = pure x := by intro _ _; rfl) :
    DE Tb X (.SetComp elt [⟨tg, iter, ifs, 0⟩, ⟨tg1, iter1, ifs1, 0⟩] scope pos) (gSc2 vs vs1 gi gt gc gi1 gt1 gc1 ge) := by
  subst hvs
  exact ⟨pe_imp (pe_sc2 (vs1 := vs1) hc hN hi.pi ok hv1 (fun s H C cl fp => (hg s H C cl fp).pg) (fun s H C cl fp => (ht s H C cl fp).pts) (fun s H C cl fp => (hi1 s H C cl fp).pi) (fun s H C cl fp => (hg1 s H C cl fp).pg) (fun s H C cl fp => (ht1 s H C cl fp).pts) (fun s H C cl fp => (he s H C cl fp).pe) hs hs1) fun σ H Q h => sc2_use hts hts1 h⟩
theorem ds_setSc (i : Nat) {y : Str} {py spos : Pos} (own : List (Str × Nat)) (hc : X.calm = true) (hN : X.N.Nodup) (hi : DI Tb X tg iter gi) (ok : BlkOk X.N X.env.scope scope own)
    (hg : ∀ (s : Shared) (H : Hp) (C : Addr) (cl : List (Str × Addr)) (fp : List Addr), DG Tb (X.blk s H scope (compEnvC scope cl C X.env) fp) tg ts gt) (ht : ∀ (s : Shared) (H : Hp) (C : Addr) (cl : List (Str × Addr)) (fp : List Addr), DTs Tb (X.blk s H scope (compEnvC scope cl C X.env) fp) ifs gc)
    (he : ∀ (s : Shared) (H : Hp) (C : Addr) (cl : List (Str × Addr)) (fp : List Addr), DE Tb (X.blk s H scope (compEnvC scope cl C X.env) fp) elt ge) (hsw : swapsWith (.SetComp elt [⟨tg, iter, ifs, 0⟩] scope pos) (some (.Name y py)) spos.line X.env = pure true) (hy : X.N[i]? = some y := by rfl) (hyl : X.env.scope.names.lookup y = some .local := by rfl) (hvs : own.map (·.2) = vs := by rfl) (hts : ∀ i ∈ ts, i ∈ vs := by decide) (hs : ∀ x, foldedSetIterable iter X.env x = pure x := by intro _; rfl) (hp : i ∉ Tb.pr := by first | exact List.not_mem_nil | exact np0) :
    DS Tb X (.Assign [.Name y py] (.SetComp elt [⟨tg, iter, ifs, 0⟩] scope pos) spos) (gSet i (gSc vs gi gt gc ge)) := by
  subst hvs
  refine ⟨ps_imp (ps_setSc1 (wi := tDI Tb X.KK gi) (g := tDG Tb X.KK ts gt) (tt := tDT Tb X.KK gc) (te := tD Tb X.KK ge) hy hyl hsw hc hN hi.pi ok (fun s H C cl fp => (hg s H C cl fp).pg) (fun s H C cl fp => (ht s H C cl fp).pts) (fun s H C cl fp => (he s H C cl fp).pe) hs) fun En σ H h => ?_⟩
  obtain ⟨B, C, δ, Φ, o, S, e, k⟩ := h
  obtain ⟨r, e1, e2⟩ := bind1_some e
  exact sc1_use hts ⟨B, C, δ, Φ, r, S, e1, fun v H1 φ s q f n => set_end S s q f n e2 k hp⟩
theorem ds_setSc2 (i : Nat) {y : Str} {py spos : Pos} (own : List (Str × Nat)) (hc : X.calm = true) (hN : X.N.Nodup) (hi : DI Tb X tg iter gi) (ok : BlkOk X.N X.env.scope scope own)
    (hg : ∀ (s : Shared) (H : Hp) (C : Addr) (cl : List (Str × Addr)) (fp : List Addr), DG Tb (X.blk s H scope (compEnvC scope cl C X.env) fp) tg ts gt) (ht : ∀ (s : Shared) (H : Hp) (C : Addr) (cl : List (Str × Addr)) (fp : List Addr), DTs Tb (X.blk s H scope (compEnvC scope cl C X.env) fp) ifs gc)
    (hi1 : ∀ (s : Shared) (H : Hp) (C : Addr) (cl : List (Str × Addr)) (fp : List Addr), DI Tb (X.blk s H scope (compEnvC scope cl C X.env) fp) tg1 iter1 gi1)
    (hg1 : ∀ (s : Shared) (H : Hp) (C : Addr) (cl : List (Str × Addr)) (fp : List Addr), DG Tb (X.blk s H scope (compEnvC scope cl C X.env) fp) tg1 ts1 gt1) (ht1 : ∀ (s : Shared) (H : Hp) (C : Addr) (cl : List (Str × Addr)) (fp : List Addr), DTs Tb (X.blk s H scope (compEnvC scope cl C X.env) fp) ifs1 gc1)
    (he : ∀ (s : Shared) (H : Hp) (C : Addr) (cl : List (Str × Addr)) (fp : List Addr), DE Tb (X.blk s H scope (compEnvC scope cl C X.env) fp) elt ge) (hsw : swapsWith (.SetComp elt [⟨tg, iter, ifs, 0⟩, ⟨tg1, iter1, ifs1, 0⟩] scope pos) (some (.Name y py)) spos.line X.env = pure true) (hy : X.N[i]? = some y := by rfl) (hyl : X.env.scope.names.lookup y = some .local := by rfl) (hvs : own.map (·.2) = vs := by rfl) (hts : ∀ i ∈ ts, i ∈ vs := by decide) (hv1 : ∀ i ∈ vs1, i ∈ vs := by decide) (hts1 : ∀ i ∈ ts1, i ∈ vs1 := by decide) (hs : ∀ x, foldedSetIterable iter X.env x = pure x := by intro _; rfl) (hs1 : ∀ env x, foldedSetIterable iter1 env x = pure x := by intro _ _; rfl) (hp : i ∉ Tb.pr := by first | exact List.not_mem_nil | exact np0) :
    DS Tb X (.Assign [.Name y py] (.SetComp elt [⟨tg, iter, ifs, 0⟩, ⟨tg1, iter1, ifs1, 0⟩] scope pos) spos) (gSet i (gSc2 vs vs1 gi gt gc gi1 gt1 gc1 ge)) := by
  subst hvs
  refine ⟨ps_imp (ps_setSc2 (vs1 := vs1) (wi := tDI Tb X.KK gi) (g := tDG Tb X.KK ts gt) (tt := tDT Tb X.KK gc) (wi1 := tDI Tb X.KK gi1) (g1 := tDG Tb X.KK ts1 gt1) (tt1 := tDT Tb X.KK gc1) (te := tD Tb X.KK ge) hy hyl hsw hc hN hi.pi ok hv1 (fun s H C cl fp => (hg s H C cl fp).pg) (fun s H C cl fp => (ht s H C cl fp).pts) (fun s H C cl fp => (hi1 s H C cl fp).pi) (fun s H C cl fp => (hg1 s H C cl fp).pg) (fun s H C cl fp => (ht1 s H C cl fp).pts) (fun s H C cl fp => (he s H C cl fp).pe) hs hs1) fun En σ H h => ?_⟩
  obtain ⟨B, C, δ, Φ, o, S, e, k⟩ := h
  obtain ⟨r, e1, e2⟩ := bind1_some e
  exact sc2_use hts hts1 ⟨B, C, δ, Φ, r, S, e1, fun v H1 φ s q f n => set_end S s q f n e2 k hp⟩
theorem bt_set : bootBuiltins "set" = some (.type "set") := by decide +kernel
end
end DL

set_option Elab.async false
set_option linter.all false
set_option maxRecDepth 100000
set_option maxHeartbeats 4000000
/-! D32: sorted of a tuple of ints. -/
namespace SrtO
open PySem PyProof.Rows Srt
section
variable {prog : Program} {w : World} {A : Around} {E : Value → Shared → Prop} {s : Shared}
theorem sorted_ordT {l : Addr} {vs : List Value} {o : Obj} {n : Nat} {ltv : Value → Value → Bool} {Q : Value → Shared → Prop} (O : Swo ltv) (ho : s.heap.get? l = some o) (hc : o.cls = .type "tuple") (hd : o.data = .seq vs.toArray n) (hz : vs.length ≤ sizeLine)
    (hS : 2 ≤ vs.length → ∀ (h₁ : Heap) (a : Addr), SortableO prog w A.in1.in1 { s with heap := h₁ } a vs ltv)
    (h : ∀ (h' : Heap) (out : List Value), (∀ b o', s.heap.get? b = some o' → h'.get? b = some o') → Srtd ltv out → Stb ltv out vs → Q (.ref h'.objs.size) { s with heap := sortedHeap (h'.push (seqObj "list" vs.toArray 0)) h'.objs.size vs out.toArray }) :
    wpAny (model prog w) A (call (.builtin "sorted") [.ref l]) Q E s := by
  refine Calls.call_function_entry kind_sorted plain_sorted entry_sorted (args_sorted1 _) ?_
  unfold Builtin.«sorted»
  refine wpAny_bind (m := checkCount "sorted" 1 1 _) (wpAny_pure ?_)
  refine wpAny_bind (wpAny_collect_seq l (.inr rfl) ho hc hd (fun h' kp => ?_) (by rw [List.size_toArray]; exact hz))
  rw [show vs.toArray.toList = vs by simp]
  refine wpAny_bind (wpAny_newList ?_ hz)
  have hoL : (h'.push (seqObj "list" vs.toArray 0)).get? h'.objs.size = some (seqObj "list" vs.toArray 0) := Heap.get?_push_size _ rfl
  show wpAny _ _ _ _ _ { s with heap := h'.push (seqObj "list" vs.toArray 0) }
  refine wpAny_bind (wpAny_holding (wpAny_call_entry slot_list_sort ⟨_, hoL, rfl⟩ entry_list_sort (list_sort_ord O hoL hz (fun h2 => hS h2 _ _) fun out hs hb => ⟨_, rfl, ?_⟩) (args_list_sort _)))
  exact wpAny_pure ⟨_, rfl, h h' out kp hs hb⟩
end
end SrtO
namespace L2
open PySem PySem.Spec PyProof.Rows
def rSortedTI (K : PySem.W.Frag) : List V → Hp → VK → Prop := fun vs H Q => ∃ (a : Addr) (ns : List Int), vs = [V.ref a] ∧ SqT K H a (ns.map V.int) ∧
  ∀ (ns' : List Int) (p : Addr), ns'.Perm ns → ns'.Pairwise (· ≤ ·) → H p = none → Q (.ref p) (upd H p (.lst (ns'.map V.int)))
section
variable {X : Cx}
theorem cr_sortedTI : CallR X (.builtin "sorted") (rSortedTI X.K) := by
  intro pins s σ H vs us Q I r h
  obtain ⟨a, ns, rfl, hs, q⟩ := h
  obtain ⟨its, rv, ⟨o, ho, hc, n, hd⟩, hz⟩ := I.tuple hs
  rw [Vals.ref1 r]
  have hi := rv.ints
  have hz1 : its.length ≤ sizeLine := by rw [← rv.length]; exact hz
  refine SrtO.sorted_ordT SrtO.swo_int ho hc hd hz1 (fun h2 h₁ a' => SrtO.ints_sortable hi h2) fun h' out kp h1 h2 => ?_
  obtain ⟨k1, k2, k3⟩ := SrtO.ints_out hi h1 h2
  have I2 : Inv X pins σ H { s with heap := h' } := I.kept (t' := s.toks) kp
  have hoL : (h'.push (seqObj "list" its.toArray 0)).get? h'.objs.size = some (seqObj "list" its.toArray 0) := Heap.get?_push_size _ rfl
  obtain ⟨ep, he'⟩ := PyProof.Rows.sortedHeap_at (out := out.toArray) hoL
  have hlen : ((out.map SrtO.iv).map V.int).length ≤ sizeLine := by
    rw [List.length_map, k2.length_eq]
    rw [List.length_map] at hz
    exact hz
  refine ⟨.ref _, upd H h'.objs.size (.lst ((out.map SrtO.iv).map V.int)), I2.laid (t' := s.toks) (fun b u e => ?_) (Nat.le_refl _) ⟨hlen, out, ep, vals_of_ints k1, he'⟩, rfl, q _ _ k2 k3 (I2.hok.fresh (Nat.le_refl _))⟩
  have lt := Heap.lt_size e
  have e2 : (h'.push (seqObj "list" its.toArray 0)).get? b = some u := Heap.get?_push_of_some _ e
  rw [PyProof.Rows.sortedHeap_old (Nat.ne_of_lt lt) (Heap.lt_size e2)]
  exact e2
end
end L2
namespace DL
open PySem PySem.Spec PyProof.Rows L2 SrtO
section
variable {X : Cx}
/-- sorted(t), a tuple of ints -/
def oSortedT : List R → Option R := one fun r => match r.d with
  | .tup ds => (intL ds).map fun ns => .own (.lst ((sortI ns).map .int))
  | _ => none
theorem cd_sortedT : CallD X (.builtin "sorted") oSortedT := by
  refine ⟨_, cr_sortedTI, fun B C H vs φ Q rs c bc ch q n e k => ?_⟩
  obtain ⟨r, er, e1⟩ := one_some e
  clear e
  subst er
  obtain ⟨v, ev, q1⟩ := q.one
  clear q
  subst ev
  have e := e1
  have q := q1
  clear e1 q1
  have q := q.rp bc ch
  split at e
  · rename_i ds hx
    rw [hx] at q
    obtain ⟨ns, e1, rfl⟩ := map_some e
    rw [intL_eq e1] at q
    unfold Rp at q
    obtain ⟨a, xs, rfl, ha, r⟩ := q
    rw [rpL_ints_eq r] at ha
    refine ⟨a, ns, rfl, ha, fun ns' p h1 h2 hp => ?_⟩
    rw [sortI_uniq h1 h2]
    exact k _ _ [p] (same_upd hp) (ow_new hp (rpL_ints _) (puL_ints _)) (fun b hb => by rw [List.mem_singleton.mp hb]; exact .inl hp) (by simp)
  · cases e
/-- sorted: lists of ints or of tuples, tuples of ints -/
def oSortedY (rs : List R) : Option R := match oSortedT rs with
  | some r => some r
  | none => oSortedX rs
theorem cd_sortedY : CallD X (.builtin "sorted") oSortedY := CallD.or cd_sortedT cd_sortedX fun rs r e => by
  unfold oSortedY at e
  split at e
  · rename_i r' h
    cases e
    exact .inl h
  · exact .inr e
end
end DL

set_option Elab.async false
set_option linter.all false
set_option maxRecDepth 100000
set_option maxHeartbeats 4000000
/-! D33: list comprehensions with two fors. -/
namespace DL
open PySem PySem.Spec PyProof.Rows L2 SrtO
variable {Tb : Pm}
/-- the list under way -/
def Acc (K : KF) (H1 : Hp) (D : Addr) (Hn : Hp) (ds : List DL.D) : Prop := ∃ (acc : List V) (φ : List Addr), Hn D = some (.lst acc) ∧ OwL K Hn ds acc φ ∧ φ.Nodup ∧ ∀ a ∈ φ, H1 a = none ∧ a ≠ D
theorem Acc.same {K : KF} {H1 Hn Hm : Hp} {D : Addr} {ds : List DL.D} (s : Same Hn Hm) (h : Acc K H1 D Hn ds) : Acc K H1 D Hm ds := by
  obtain ⟨acc, φ, h1, h2, h3, h4⟩ := h
  exact ⟨acc, φ, s.get h1, OwL.same s h2, h3, h4⟩
theorem Acc.snoc {K : KF} {H1 Hn : Hp} {D : Addr} {ds : List DL.D} {B C : Hp} {r : R} {y : V} {φ4 : List Addr} {Hp0 : Hp} (h : Acc K H1 D Hp0 ds) (s : Same Hp0 Hn) (q : RR K B C Hn r y φ4) (ok : r.okEl = true) (f4 : ∀ a ∈ φ4, Hp0 a = none) (n4 : φ4.Nodup) (fr : ∀ a ∈ φ4, a ≠ D → H1 a = none) :
    ∃ acc, Hn D = some (.lst acc) ∧ acc.length = ds.length ∧ Acc K H1 D (upd Hn D (.lst (acc ++ [y]))) (ds ++ [r.d]) := by
  obtain ⟨acc, φ, hD0, how, hnd, hfr⟩ := h
  have hD4 := s.get hD0
  have al : acc.length = ds.length := (OwL.rp _ _ _ how).length
  have tk4 := tk_lst (ys := acc ++ [y]) hD4
  have lift : ∀ (dd : List DL.D) (vv : List V) (ψ : List Addr), (∀ a ∈ ψ, a ≠ D) → OwL K Hn dd vv ψ → OwL K (upd Hn D (.lst (acc ++ [y]))) dd vv ψ := fun dd vv ψ nn hw =>
    OwL.mono tk4 dd vv ψ (fun a ha => upd_ne (nn a ha)) hw
  have ow4 : OwL K Hn ds acc φ := OwL.same s how
  have f4D : ∀ a ∈ φ4, a ≠ D := fun a ha z => by
    have q := f4 a ha
    rw [z, hD0] at q; cases q
  refine ⟨acc, hD4, al, acc ++ [y], φ ++ φ4, upd_same, ?_, ?_, fun a ha => ?_⟩
  · refine OwL.append (lift _ _ _ (fun a ha => (hfr a ha).2) ow4) ?_
    refine lift [r.d] [y] φ4 f4D ?_
    unfold OwL
    exact ⟨y, [], φ4, [], rfl, okEl_ow q ok, by unfold OwL; exact ⟨rfl, rfl⟩, by simp⟩
  · refine List.nodup_append.mpr ⟨hnd, n4, fun a ha b hb z => ?_⟩
    subst z
    obtain ⟨ys, q, mt_q⟩ := OwL.trk _ _ _ how a ha
    rw [f4 a hb] at q; cases q
  · rcases List.mem_append.mp ha with ha | ha
    · exact hfr a ha
    · exact ⟨fr a ha (f4D a ha), f4D a ha⟩
theorem lst_turns {K : KF} {B C Z Hb H0 H1 : Hp} {σ : L2.St} {δ : DSt} {Φ : Nat → List Addr} {vs ts : List Nat} {gt : GTg} {gc : GT} {ge : G} {kd : Kd} {its : List SI} {J : It} {T : Hp → Prop} {D : Addr} {ds0 ds : List DL.D} {Fin : Hp → Prop} (hts : ∀ i ∈ ts, i ∈ vs)
    (S : RSt Tb K B C σ Hb δ Φ) (hD : Hb D = none) (tZ : T Z) (sZ : Same Z Hb) (tm : ∀ Z Z', T Z → Same Z Z' → T Z') (wk : Wk K T J its) (tB : kd = .par → T B) (tC : kd = .fr → T C)
    (e : lcL vs kd gt gc ge δ its = some ds) (s0 : Same Hb H0) (s1 : Same H1 Hb) (g0 : Acc K H1 D H0 ds0) (room : ds0.length + ds.length ≤ sizeLine) (fin : ∀ Hn, Same Hb Hn → Acc K H1 D Hn (ds0 ++ ds) → Fin Hn) :
    ∃ W : Nat → Nat → Hp → Prop, (∃ m, W 0 m H0) ∧ ∀ j k H, W j k H →
      (J.stop j H ∧ Fin H) ∨ (J.go j H ∧ ∃ Nx1 : Hp → Prop, (∀ H', Nx1 H' → ∃ k', k' < k ∧ W (j + 1) k' H') ∧ ∀ x H', J.yld j H x H' → tDG Tb K ts gt x (wipe σ vs) H' fun σ3 H5 => wipe σ3 vs = wipe σ vs ∧ tDT Tb K gc σ3 H5 fun b H6 =>
        if b = true then tD Tb K ge σ3 H6 fun y H7 => ∃ acc, H7 D = some (.lst acc) ∧ acc.length < sizeLine ∧ Nx1 (upd H7 D (.lst (acc ++ [y]))) else Nx1 H6) := by
  obtain ⟨Φw, Sw⟩ := S.wipe vs
  refine ⟨fun i m Hn => m = its.length - i ∧ i ≤ its.length ∧ ∃ n1 n2 : List DL.D, Same Hb Hn ∧ Acc K H1 D Hn (ds0 ++ n1) ∧ lcL vs kd gt gc ge δ (its.drop i) = some n2 ∧ ds = n1 ++ n2,
    ⟨its.length, by simp, Nat.zero_le _, [], ds, s0, by rw [List.append_nil]; exact g0, by simpa using e, rfl⟩, ?_⟩
  rintro i m Hn ⟨rfl, hi, n1, n2, sH, hacc, e3, e4⟩
  have tH := tm _ _ tZ (sZ.trans sH)
  by_cases hlt : i < its.length
  · obtain ⟨it, hit⟩ : ∃ it, its[i]? = some it := ⟨its[i], by simp [hlt]⟩
    have hdrop : its.drop i = it :: its.drop (i + 1) := by
      rw [List.drop_eq_getElem_cons hlt]
      congr 1
      have := List.getElem?_eq_getElem hlt
      rw [hit] at this
      exact (Option.some.inj this).symm
    rw [hdrop] at e3
    refine .inr ⟨((wk Hn tH i).1 it hit).1, fun H' => ∃ n1 n2 : List DL.D, Same Hb H' ∧ Acc K H1 D H' (ds0 ++ n1) ∧ lcL vs kd gt gc ge δ (its.drop (i + 1)) = some n2 ∧ ds = n1 ++ n2,
      fun H' w => ⟨its.length - (i + 1), by omega, rfl, hlt, w⟩, fun x H' hy => ?_⟩
    obtain ⟨ss, ok⟩ := itm_ok (B := B) (C := C) (H1 := Z) wk (S.bc.trans (S.ch.trans sH)) (S.ch.trans sH) (sZ.trans sH) tH tZ tB tC hit hy
    obtain ⟨δ1, e5, e6⟩ := bind1_some e3
    obtain ⟨b, e7, e8⟩ := bind1_some e6
    have sH' := sH.trans ss
    refine ⟨B, C, wipeD δ vs, Φw, kd.itm it, [], δ1, Sw.same sH', ok, List.nodup_nil, fun _ z => (by cases z), fun _ _ z => (by cases z), e5, fun σ2 ⟨Φ2, S2, _, _, l2, o2⟩ => ⟨?_, ?_⟩⟩
    · exact wipe_eq (l2.trans (wipe_length σ vs)) fun j hj => o2 j fun z => hj (hts j z)
    · refine ⟨B, C, δ1, Φ2, b, S2, e7, fun H3 s3 => ?_⟩
      have sH3 := sH'.trans s3
      have g3 := hacc.same (ss.trans s3)
      cases b with
      | true =>
        rw [if_pos rfl] at e8
        show if (_ : Bool) = true then _ else _
        refine iteT ?_
        obtain ⟨r, e9, e10⟩ := bind1_some e8
        split at e10
        · rename_i hok
          obtain ⟨ds3, e11, e12⟩ := map_some e10
          refine ⟨B, C, δ1, Φ2, r, S2.same s3, e9, fun y H4 φ4 s4 q4 f4 n4 => ?_⟩
          obtain ⟨acc, a1, a2, a3⟩ := g3.snoc s4 q4 hok f4 n4 fun a ha _ => (s1.trans sH3).free (f4 a ha)
          have tot : ds.length = n1.length + (ds3.length + 1) := by
            rw [e4, List.length_append, ← e12, List.length_cons]
          refine ⟨acc, a1, by rw [a2, List.length_append]; omega, n1 ++ [r.d], ds3, (sH3.trans s4).upd hD, by rw [← List.append_assoc]; exact a3, e11, by rw [e4, ← e12, List.append_assoc]; rfl⟩
        · cases e10
      | false =>
        rw [if_neg (by decide)] at e8
        show if (_ : Bool) = true then _ else _
        refine iteF ?_
        exact ⟨n1, n2, sH3, g3, e8, e4⟩
  · have hii : i = its.length := by omega
    refine .inl ⟨(wk Hn tH i).2 hii, ?_⟩
    have e5 : n2 = [] := by
      rw [hii, List.drop_length] at e3
      exact (Option.some.inj e3).symm
    rw [e5, List.append_nil] at e4
    subst e4
    exact fin Hn sH hacc
end DL

set_option Elab.async false
set_option linter.all false
set_option maxRecDepth 100000
set_option maxHeartbeats 4000000
/-! D34: list comprehensions with two fors, the rules. -/
namespace DL
open PySem PySem.Spec PyProof.Rows L2 SrtO
variable {Tb : Pm}
def gLc2 (vs vs1 : List Nat) (gi : GI) (gt : GTg) (gc : GT) (gi1 : GI) (gt1 : GTg) (gc1 : GT) (ge : G) : G := fun δ => (gi δ).bind fun p => (lc2L vs vs1 p.1 gt gc gi1 gt1 gc1 ge δ p.2).bind fun ds => if ds.length ≤ sizeLine then some (.own (.lst ds)) else none
theorem lc2_use {K : KF} {vs vs1 ts ts1 : List Nat} {gi gi1 : GI} {gt gt1 : GTg} {gc gc1 : GT} {ge : G} {σ : L2.St} {H : Hp} {Q : VK} (hts : ∀ i ∈ ts, i ∈ vs) (hts1 : ∀ i ∈ ts1, i ∈ vs1) (h : tD Tb K (gLc2 vs vs1 gi gt gc gi1 gt1 gc1 ge) σ H Q) :
    tLc2 (tDI Tb K gi) (tDG Tb K ts gt) (tDT Tb K gc) (tDI Tb K gi1) (tDG Tb K ts1 gt1) (tDT Tb K gc1) (tD Tb K ge) vs vs1 σ H Q := by
  obtain ⟨B, C, δ, Φ, c, S, e, k⟩ := h
  obtain ⟨p, e1, e⟩ := bind1_some e
  obtain ⟨kd, its⟩ := p
  obtain ⟨ds, e2, e⟩ := bind1_some e
  split at e
  case isFalse => cases e
  rename_i hz
  cases e
  refine ⟨B, C, δ, Φ, kd, its, S, e1, fun J H1 T s tm wk t1 tB tC _ Da hD => ?_⟩
  have S1 := S.same s
  obtain ⟨Φw, Sw⟩ := S1.wipe vs
  have nDw : ∀ j, Da ∉ Φw j := fun j z => by
    obtain ⟨o, q, _⟩ := Sw.trk z
    rw [hD] at q; cases q
  have cD : C Da = none := S1.ch.free hD
  refine ⟨fun i m Hn => m = its.length - i ∧ i ≤ its.length ∧ ∃ n1 n2 : List D, Same H1 Hn ∧ Acc K H1 Da Hn n1 ∧ lc2L vs vs1 kd gt gc gi1 gt1 gc1 ge δ (its.drop i) = some n2 ∧ ds = n1 ++ n2,
    ⟨its.length, by simp, Nat.zero_le _, [], ds, same_upd hD, ⟨[], [], upd_same, by simp [OwL], List.nodup_nil, fun _ z => by cases z⟩, by simpa using e2, rfl⟩, ?_⟩
  rintro i m Hn ⟨rfl, hi, n1, n2, sH, hacc, e3, e4⟩
  have tH := tm _ _ t1 sH
  by_cases hlt : i < its.length
  · obtain ⟨it, hit⟩ : ∃ it, its[i]? = some it := ⟨its[i], by simp [hlt]⟩
    have hdrop : its.drop i = it :: its.drop (i + 1) := by
      rw [List.drop_eq_getElem_cons hlt]
      congr 1
      have := List.getElem?_eq_getElem hlt
      rw [hit] at this
      exact (Option.some.inj this).symm
    rw [hdrop] at e3
    refine .inr ⟨((wk Hn tH i).1 it hit).1, fun H' => ∃ n1 n2 : List D, Same H1 H' ∧ Acc K H1 Da H' n1 ∧ lc2L vs vs1 kd gt gc gi1 gt1 gc1 ge δ (its.drop (i + 1)) = some n2 ∧ ds = n1 ++ n2,
      fun H' w => ⟨its.length - (i + 1), by omega, rfl, hlt, w⟩, fun x H' hy => ?_⟩
    obtain ⟨ss, ok⟩ := itm_ok (B := B) (C := C) (H1 := H1) wk (S1.bc.trans (S1.ch.trans sH)) (S1.ch.trans sH) sH tH t1 tB tC hit hy
    obtain ⟨δ1, e5, e6⟩ := bind1_some e3
    obtain ⟨b, e7, e8⟩ := bind1_some e6
    have sH' := sH.trans ss
    refine ⟨B, C, wipeD δ vs, Φw, kd.itm it, [], δ1, Sw.same sH', ok, List.nodup_nil, fun _ z => (by cases z), fun _ _ z => (by cases z), e5, fun σ2 ⟨Φ2, S2, _, nP, l2, o2⟩ => ⟨?_, ?_⟩⟩
    · exact wipe_eq (l2.trans (wipe_length σ vs)) fun j hj => o2 j fun z => hj (hts j z)
    · refine ⟨B, C, δ1, Φ2, b, S2, e7, fun H3 s3 => ?_⟩
      have sH3 := sH'.trans s3
      have g3 := hacc.same (ss.trans s3)
      cases b with
      | false =>
        rw [if_neg (by decide)] at e8
        show if (_ : Bool) = true then _ else _
        refine iteF ?_
        exact ⟨n1, n2, sH3, g3, e8, e4⟩
      | true =>
        rw [if_pos rfl] at e8
        show if (_ : Bool) = true then _ else _
        refine iteT ?_
        obtain ⟨p1, e9, e10⟩ := bind1_some e8
        obtain ⟨kd1, its1⟩ := p1
        split at e10
        case isFalse => cases e10
        rename_i kok
        obtain ⟨ds1, e11, e12⟩ := bind1_some e10
        obtain ⟨ds2, e13, e14⟩ := map_some e12
        subst e14
        refine ⟨B, C, δ1, Φ2, kd1, its1, S2.same s3, e9, fun J1 H4 T1 s4 tm1 wk1 t41 tB1 tC1 tR1 => ?_⟩
        have S4 := (S2.same s3).same s4
        have g4 := g3.same s4
        have nD2 : ∀ j, Da ∉ Φ2 j := fun j z => by
          rcases nP j Da z with q | q
          · exact nDw j q
          · cases q
        have mt3 : ∃ o, H3 Da = some o ∧ Mt o := by
          obtain ⟨acc, φ, h1, _⟩ := g3
          exact ⟨_, h1, trivial⟩
        have mt4 : ∃ o, H4 Da = some o ∧ Mt o := by
          obtain ⟨acc, φ, h1, _⟩ := g4
          exact ⟨_, h1, trivial⟩
        have Sb := S4.rem mt4 nD2 cD
        have hbD : rem (fun a => a = Da) H4 Da = none := rem_in rfl
        have zz : ∃ Z, T1 Z ∧ Same Z (rem (fun a => a = Da) H4) := by
          cases kd1 with
          | bor => cases kok
          | par => exact ⟨B, tB1 rfl, Sb.bc.trans Sb.ch⟩
          | fr => exact ⟨C, tC1 rfl, Sb.ch⟩
          | val => exact ⟨_, tR1 (.inl rfl) (fun a => a = Da) (fun a z => by subst z; exact mt3), Same.refl _⟩
          | own => exact ⟨_, tR1 (.inr rfl) (fun a => a = Da) (fun a z => by subst z; exact mt3), Same.refl _⟩
        obtain ⟨Z, tZ, sZ⟩ := zz
        have tot : n1.length + (ds1.length + ds2.length) = ds.length := by
          rw [e4, List.length_append, List.length_append]
        have s1b : Same H1 (rem (fun a => a = Da) H4) := (sH3.trans s4).keep fun a u o q1 q2 => by rw [rem_at fun z => by rw [z, hD] at q1; cases q1]; exact q2
        refine lst_turns (Tb := Tb) hts1 Sb hbD tZ sZ tm1 wk1 tB1 tC1 e11 rem_same s1b g4 (by omega) fun Hm sm gm => ?_
        exact ⟨n1 ++ ds1, ds2, s1b.trans sm, gm, e13, by rw [e4, List.append_assoc]⟩
  · have hii : i = its.length := by omega
    refine .inl ⟨(wk Hn tH i).2 hii, ?_⟩
    have e5 : n2 = [] := by
      rw [hii, List.drop_length] at e3
      exact (Option.some.inj e3).symm
    rw [e5, List.append_nil] at e4
    subst e4
    obtain ⟨acc, φ, h1, how, hnd, hfr⟩ := hacc
    refine k (.ref Da) Hn (Da :: φ) (s.trans sH) ?_ (fun a ha => ?_) (List.nodup_cons.mpr ⟨fun z => (hfr Da z).2 rfl, hnd⟩)
    · show Ow K Hn (.lst ds) _ _
      unfold Ow
      exact ⟨Da, acc, φ, rfl, h1, how, rfl⟩
    · rcases List.mem_cons.mp ha with rfl | ha
      · exact s.free hD
      · exact s.free (hfr a ha).1
section
variable {X : Cx} {elt tg iter tg1 iter1 : Expr} {ifs ifs1 : List Expr} {scope : Scope} {vs ts vs1 ts1 : List Nat} {pos : Pos} {gi gi1 : GI} {gt gt1 : GTg} {gc gc1 : GT} {ge : G}
theorem de_lc2 (own : List (Str × Nat)) (hc : X.calm = true) (hN : X.N.Nodup) (hi : DI Tb X tg iter gi) (ok : BlkOk X.N X.env.scope scope own)
    (hg : ∀ (s : Shared) (H : Hp) (C : Addr) (cl : List (Str × Addr)) (fp : List Addr), DG Tb (X.blk s H scope (compEnvC scope cl C X.env) fp) tg ts gt) (ht : ∀ (s : Shared) (H : Hp) (C : Addr) (cl : List (Str × Addr)) (fp : List Addr), DTs Tb (X.blk s H scope (compEnvC scope cl C X.env) fp) ifs gc)
    (hi1 : ∀ (s : Shared) (H : Hp) (C : Addr) (cl : List (Str × Addr)) (fp : List Addr), DI Tb (X.blk s H scope (compEnvC scope cl C X.env) fp) tg1 iter1 gi1)
    (hg1 : ∀ (s : Shared) (H : Hp) (C : Addr) (cl : List (Str × Addr)) (fp : List Addr), DG Tb (X.blk s H scope (compEnvC scope cl C X.env) fp) tg1 ts1 gt1) (ht1 : ∀ (s : Shared) (H : Hp) (C : Addr) (cl : List (Str × Addr)) (fp : List Addr), DTs Tb (X.blk s H scope (compEnvC scope cl C X.env) fp) ifs1 gc1)
    (he : ∀ (s : Shared) (H : Hp) (C : Addr) (cl : List (Str × Addr)) (fp : List Addr), DE Tb (X.blk s H scope (compEnvC scope cl C X.env) fp) elt ge) (hvs : own.map (·.2) = vs := by rfl) (hts : ∀ i ∈ ts, i ∈ vs := by decide) (hv1 : ∀ i ∈ vs1, i ∈ vs := by decide) (hts1 : ∀ i ∈ ts1, i ∈ vs1 := by decide)
    (hs : ∀ x, foldedSetIterable iter X.env x = pure x := by intro _; rfl) (hs1 : ∀ env x, foldedSetIterable iter1 env x = pure x := by intro _ _; rfl) :
    DE Tb X (.ListComp elt [⟨tg, iter, ifs, 0⟩, ⟨tg1, iter1, ifs1, 0⟩] scope pos) (gLc2 vs vs1 gi gt gc gi1 gt1 gc1 ge) := by
  subst hvs
  exact ⟨pe_imp (pe_lc2 (vs1 := vs1) hc hN hi.pi ok hv1 (fun s H C cl fp => (hg s H C cl fp).pg) (fun s H C cl fp => (ht s H C cl fp).pts) (fun s H C cl fp => (hi1 s H C cl fp).pi) (fun s H C cl fp => (hg1 s H C cl fp).pg) (fun s H C cl fp => (ht1 s H C cl fp).pts) (fun s H C cl fp => (he s H C cl fp).pe) hs hs1) fun σ H Q h => lc2_use hts hts1 h⟩
theorem ds_setLc2 (i : Nat) {y : Str} {py spos : Pos} (own : List (Str × Nat)) (hc : X.calm = true) (hN : X.N.Nodup) (hi : DI Tb X tg iter gi) (ok : BlkOk X.N X.env.scope scope own)
    (hg : ∀ (s : Shared) (H : Hp) (C : Addr) (cl : List (Str × Addr)) (fp : List Addr), DG Tb (X.blk s H scope (compEnvC scope cl C X.env) fp) tg ts gt) (ht : ∀ (s : Shared) (H : Hp) (C : Addr) (cl : List (Str × Addr)) (fp : List Addr), DTs Tb (X.blk s H scope (compEnvC scope cl C X.env) fp) ifs gc)
    (hi1 : ∀ (s : Shared) (H : Hp) (C : Addr) (cl : List (Str × Addr)) (fp : List Addr), DI Tb (X.blk s H scope (compEnvC scope cl C X.env) fp) tg1 iter1 gi1)
    (hg1 : ∀ (s : Shared) (H : Hp) (C : Addr) (cl : List (Str × Addr)) (fp : List Addr), DG Tb (X.blk s H scope (compEnvC scope cl C X.env) fp) tg1 ts1 gt1) (ht1 : ∀ (s : Shared) (H : Hp) (C : Addr) (cl : List (Str × Addr)) (fp : List Addr), DTs Tb (X.blk s H scope (compEnvC scope cl C X.env) fp) ifs1 gc1)
    (he : ∀ (s : Shared) (H : Hp) (C : Addr) (cl : List (Str × Addr)) (fp : List Addr), DE Tb (X.blk s H scope (compEnvC scope cl C X.env) fp) elt ge) (hsw : swapsWith (.ListComp elt [⟨tg, iter, ifs, 0⟩, ⟨tg1, iter1, ifs1, 0⟩] scope pos) (some (.Name y py)) spos.line X.env = pure true) (hy : X.N[i]? = some y := by rfl) (hyl : X.env.scope.names.lookup y = some .local := by rfl) (hvs : own.map (·.2) = vs := by rfl) (hts : ∀ i ∈ ts, i ∈ vs := by decide) (hv1 : ∀ i ∈ vs1, i ∈ vs := by decide) (hts1 : ∀ i ∈ ts1, i ∈ vs1 := by decide) (hs : ∀ x, foldedSetIterable iter X.env x = pure x := by intro _; rfl) (hs1 : ∀ env x, foldedSetIterable iter1 env x = pure x := by intro _ _; rfl) (hp : i ∉ Tb.pr := by first | exact List.not_mem_nil | exact np0) :
    DS Tb X (.Assign [.Name y py] (.ListComp elt [⟨tg, iter, ifs, 0⟩, ⟨tg1, iter1, ifs1, 0⟩] scope pos) spos) (gSet i (gLc2 vs vs1 gi gt gc gi1 gt1 gc1 ge)) := by
  subst hvs
  refine ⟨ps_imp (ps_setLc2 (vs1 := vs1) (wi := tDI Tb X.KK gi) (g := tDG Tb X.KK ts gt) (tt := tDT Tb X.KK gc) (wi1 := tDI Tb X.KK gi1) (g1 := tDG Tb X.KK ts1 gt1) (tt1 := tDT Tb X.KK gc1) (te := tD Tb X.KK ge) hc hN hy hyl hsw hi.pi ok hv1 (fun s H C cl fp => (hg s H C cl fp).pg) (fun s H C cl fp => (ht s H C cl fp).pts) (fun s H C cl fp => (hi1 s H C cl fp).pi) (fun s H C cl fp => (hg1 s H C cl fp).pg) (fun s H C cl fp => (ht1 s H C cl fp).pts) (fun s H C cl fp => (he s H C cl fp).pe) hs hs1) fun En σ H h => ?_⟩
  obtain ⟨B, C, δ, Φ, o, S, e, k⟩ := h
  obtain ⟨r, e1, e2⟩ := bind1_some e
  exact lc2_use hts hts1 ⟨B, C, δ, Φ, r, S, e1, fun v H1 φ s q f n => set_end S s q f n e2 k hp⟩
end
end DL

set_option Elab.async false
set_option linter.all false
set_option maxRecDepth 100000
set_option maxHeartbeats 4000000
/-! D35: target = xs.pop(e), target = xs.pop(). -/
namespace DL
open PySem PySem.Spec PyProof.Rows L2 SrtO
variable {Tb : Pm}
section
variable {X : Cx} {e : Expr} {ge : G} {pos : Pos}
/-- target = an expression that changes a list -/
def gAsgM (g : GM) (gt : GTg) : GS := fun δ => (g δ).bind fun p => (gt (.one (.val p.1)) p.2).map .nx
theorem ds_asgM {tg : Expr} {ts : List Nat} {gt : GTg} {gm : GM} (he : DM Tb X e gm) (hg : DG Tb X tg ts gt) (hs : swapsWithSole [tg] e pos.line X.env = pure false := by rfl) (hw : swappedStores [tg] e X.env = pure none := by rfl)
    (h1 : (assignEach [tg] X.env).map (·.2) = [assign tg X.env] := by rfl) : DS Tb X (.Assign [tg] e pos) (gAsgM gm gt) := ⟨ps_imp (ps_asg he.pe hg.pg hs hw h1) fun En σ H h => by
  obtain ⟨B, C, δ, Φ, o, S, e, k⟩ := h
  obtain ⟨⟨d, δ'⟩, e1, e2⟩ := bind1_some e
  obtain ⟨δ2, e3, eo⟩ := map_some e2
  subst eo
  refine ⟨B, C, δ, Φ, d, δ', S, e1, fun y H1 Φ1 S1 L1 q1 => ?_⟩
  exact ⟨B, C, δ', Φ1, .one (.val d), [], δ2, S1, q1, List.nodup_nil, fun _ z => (by cases z), fun _ _ z => (by cases z), e3, fun σ' ⟨Φ', S', L', _, _, _⟩ => k.lk L1 σ' H1 Φ' S' L'⟩⟩
theorem drop_erase {α : Type} : ∀ (xs : List α), xs.dropLast = xs.eraseIdx (xs.length - 1)
  | [] => rfl
  | [a] => rfl
  | a :: b :: xs => by
    have ih := drop_erase (b :: xs)
    rw [List.dropLast_cons₂, ih]
    rfl
/-- xs.pop() -/
def gPopL (j : Nat) : GM := fun δ => match δ.getD j .no with
  | .own (.lst es) => popD j (es.length - 1) δ
  | _ => none
theorem dm_popL (j : Nat) {x : Str} {p apos cpos : Pos} (hN : X.N[j]? = some x := by rfl) (hv : Vis X.env.scope x := by first | exact Or.inl rfl | exact Or.inr (Or.inl rfl) | exact Or.inr (Or.inr rfl)) (hd : (x == ("__debug__" : Str)) = false := by decide)
    (hcd : (x == ("__classdict__" : Str)) = false := by decide)
    (hbase : attributeBase (.Name x p) "pop" X.env (eval (.Name x p) X.env) = eval (.Name x p) X.env := by rfl) (hline : (apos.endLine == cpos.line) = true := by rfl) : DM Tb X (.Call (.Attribute (.Name x p) "pop" apos) [] [] cpos) (gPopL j) := by
  refine ⟨pe_imp (pe_bm0 PySem.F.plainAttrs_list PySem.F.slot_list_pop PySem.F.type_list_pop mt_pop (pe_var hN hv hd hcd) hbase hline) fun σ H Q h => ?_⟩
  obtain ⟨B, C, δ, Φ, d, δ', S, e, k⟩ := h
  unfold gPopL at e
  split at e
  · rename_i es hd
    obtain ⟨l, xs, es2, y, hd2, hs, hl, hlen, hy, ⟨Φ', S'⟩, L, q⟩ := pop_use S (Same.refl _) e
    rw [hd] at hd2
    cases hd2
    rw [← hlen] at hy S' q
    refine ⟨_, hs, .inl ⟨rfl, xs, SqL.of hl⟩, l, xs, y, rfl, rfl, hl, hy, ?_⟩
    rw [drop_erase]
    exact k y _ Φ' S' L q
  · cases e
end
end DL

set_option Elab.async false
set_option linter.all false
set_option maxRecDepth 100000
set_option maxHeartbeats 4000000
/-! D36: defs that change their first argument. -/
namespace DL
open PySem PySem.Spec PyProof.Rows L2 SrtO
variable {Tb : Pm}
/-- a body that ends in a return: what it hands back, and the state then -/
abbrev GIo := DSt → Option (R × DSt)
def ioSeq (g : GS) (k : GIo) : GIo := fun δ => (g δ).bind fun o => match o with
  | .nx δ1 => k δ1
  | _ => none
def ioRet (g : G) : GIo := fun δ => (g δ).map fun r => (r, δ)
def tIO (Tb : Pm) (K : KF) (k : GIo) : TS := fun En σ H => ∃ (B C : Hp) (δ : DSt) (Φ : Nat → List Addr) (r : R) (δ' : DSt), RSt Tb K B C σ H δ Φ ∧ k δ = some (r, δ') ∧
  ∀ v σ' H' Φ' φ, RSt Tb K B C σ' H' δ' Φ' → Lk Tb.pr σ δ σ' δ' → RR K B C H' r v φ → En.rt v H'
structure DIs (Tb : Pm) (X : Cx) (sts : List Stmt) (k : GIo) : Prop where
  pss : PSs X sts (tIO Tb X.KK k)
section
variable {X : Cx} {st : Stmt} {sts : List Stmt} {e : Expr} {pos : Pos} {g : GS} {ge : G} {k : GIo}
theorem dis_ret (he : DE Tb X e ge) : DIs Tb X [.Return (some e) pos] (ioRet ge) := ⟨pss_imp (pss_one (ps_ret he.pe)) fun En σ H h => by
  obtain ⟨B, C, δ, Φ, r, δ', S, e, k⟩ := h
  obtain ⟨r1, e1, e2⟩ := map_some e
  cases e2
  exact ⟨B, C, δ, Φ, r, S, e1, fun v H1 φ s q f n => k v σ H1 Φ φ (S.same s) Lk.refl q⟩⟩
theorem dis_cons (h1 : DS Tb X st g) (h2 : DIs Tb X sts k) : DIs Tb X (st :: sts) (ioSeq g k) := ⟨pss_imp (pss_cons h1.ps h2.pss) fun En σ H h => by
  obtain ⟨B, C, δ, Φ, r, δ', S, e, kk⟩ := h
  obtain ⟨o1, e1, e2⟩ := bind1_some e
  refine ⟨B, C, δ, Φ, o1, S, e1, ?_⟩
  cases o1 with
  | nx δ1 => exact fun σ1 H1 Φ1 S1 L1 => ⟨B, C, δ1, Φ1, r, δ', S1, e2, fun v σ' H' Φ' φ S' L' q => kk v σ' H' Φ' φ S' (L1.trans L') q⟩
  | rt r => cases e2
  | bk δ1 => cases e2
  | ct δ1 => cases e2
  | ex c δ1 => cases e2⟩
end
/-- no exception leaves, and the first slot is never stored to -/
@[reducible] def Pm.io (T : List Addr) (mg : Str → Option Value) : Pm := ⟨T, 0, mg, fun _ _ _ _ => False, [0]⟩
def startIO (n : Nat) (d0 : D) (ds : List D) : DSt := .own d0 :: (ds.map argS ++ List.replicate (n - 1 - ds.length) .no)
def ioK (r : R) (s : Sl) : Option (D × D) := match r, s with
  | .val r, .own d' => some (r, d')
  | _, _ => none
def runIO (n : Nat) (k : GIo) (d0 : D) (ds : List D) : Option (D × D) := (k (startIO n d0 ds)).bind fun p => ioK p.1 (p.2.getD 0 .no)
/-- the promise of such a def -/
def spIO (T : List Addr) (K : KF) (n : Nat) (F : D → List D → Option (D × D)) : Sp := fun vs H Q _ => ∃ (v0 : V) (us : List V) (d0 : D) (ds : List D) (φ : List Addr) (r d' : D), vs = v0 :: us ∧ ds.length + 1 = n ∧ Ow K H d0 v0 φ ∧ φ.Nodup ∧ RpL K (rem (fun a => a ∈ φ) H) ds us ∧ puL ds = true ∧ F d0 ds = some (r, d') ∧ (∀ P ∈ T, GxR.TabG (rem (fun a => a ∈ φ) H) P) ∧
  ∀ v H' φ', Same (rem (fun a => a ∈ φ) H) H' → Ow K H' d' v0 φ' → φ'.Nodup → (∀ a ∈ φ', rem (fun a => a ∈ φ) H a = none) → RR K H H H' (.val r) v [] → Q v H'
theorem puL_at : ∀ {ds : List D} {i : Nat} {d : D}, puL ds = true → ds[i]? = some d → pu d = true
  | [], _, _, _, e => by simp at e
  | d0 :: ds, 0, d, h, e => by
    have h : (pu d0 && puL ds) = true := h
    rw [Bool.and_eq_true] at h
    simp at e
    exact e ▸ h.1
  | d0 :: ds, i + 1, d, h, e => by
    have h : (pu d0 && puL ds) = true := h
    rw [Bool.and_eq_true] at h
    exact puL_at (ds := ds) h.2 (by simpa using e)
theorem rst_io {K : KF} {H : Hp} {N : List Str} {v0 : V} {us : List V} {d0 : D} {ds : List D} {φ : List Addr} (h0 : Ow K H d0 v0 φ) (nd : φ.Nodup) (h : RpL K (rem (fun a => a ∈ φ) H) ds us) (hp : puL ds = true) (hl : ds.length + 1 ≤ N.length) (ht : ∀ P ∈ Tb.tb, GxR.TabG (rem (fun a => a ∈ φ) H) P) :
    RSt Tb K (rem (fun a => a ∈ φ) H) (rem (fun a => a ∈ φ) H) (L2.start N (v0 :: us)) H (startIO N.length d0 ds) (fun i => if i = 0 then φ else []) := by
  have hlen := h.length
  have sm : Same (rem (fun a => a ∈ φ) H) H := rem_same
  refine ⟨by simp [L2.start, startIO, hlen]; omega, fun i => ?_, fun i => ?_, fun i j a ha hb => ?_, Same.refl _, sm, fun i a ha => ?_, ht⟩
  · cases i with
    | zero => exact ⟨v0, rfl, h0⟩
    | succ i =>
      rw [if_neg (by omega)]
      unfold startIO L2.start
      rw [List.getD_eq_getElem?_getD, List.getD_eq_getElem?_getD]
      by_cases hi : i < ds.length
      · obtain ⟨d, hd⟩ : ∃ d, ds[i]? = some d := ⟨ds[i], by simp [hi]⟩
        obtain ⟨x, hx, r⟩ := RpL.at h hd
        have pd := puL_at hp hd
        have e1 : (Sl.own d0 :: (List.map argS ds ++ List.replicate (N.length - 1 - ds.length) Sl.no))[i + 1]? = some (argS d) := by
          rw [List.getElem?_cons_succ, List.getElem?_append_left (by simpa using hi), List.getElem?_map, hd]
          rfl
        have e2 : (List.map some (v0 :: us) ++ List.replicate (N.length - (v0 :: us).length) none)[i + 1]? = some (some x) := by
          rw [List.getElem?_append_left (by rw [List.length_map, List.length_cons, hlen]; omega), List.getElem?_map, List.getElem?_cons_succ, hx]
          rfl
        rw [e1, e2]
        show SlOk Tb K _ _ H (argS d) (some x) []
        unfold argS
        rw [if_pos pd]
        exact ⟨rfl, pd, x, rfl, Rp.mono sm _ _ r⟩
      · have e : (Sl.own d0 :: (List.map argS ds ++ List.replicate (N.length - 1 - ds.length) Sl.no))[i + 1]?.getD Sl.no = Sl.no := by
          rw [List.getElem?_cons_succ, List.getElem?_append_right (by simp; omega), List.getElem?_replicate]
          split <;> rfl
        rw [e]
        rfl
  · show (if i = 0 then φ else []).Nodup
    split
    · exact nd
    · exact List.nodup_nil
  · by_cases hi : i = 0
    · by_cases hj : j = 0
      · omega
      · simp only [if_neg hj] at hb; cases hb
    · simp only [if_neg hi] at ha; cases ha
  · by_cases hi : i = 0
    · simp only [if_pos hi] at ha
      exact rem_in ha
    · simp only [if_neg hi] at ha; cases ha
structure CalIO (T : List Addr) (P : Program) (w : World) (K : PySem.W.Frag) (mg : Str → Option Value) (base : Heap) (x : Str) (ps : List Str) (k : Nat) (F : D → List D → Option (D × D)) : Prop where
  ex : ∃ f fd, mg x = some (.ref f) ∧ PySem.W.keepIn K (.ref f) = true ∧ Binds K fd ps [] ∧ FnOk P w K mg base CX0 k f fd ps (spIO T (kf K w) ps.length F)
section
variable {T : List Addr} {P : Program} {w : World} {K : PySem.W.Frag} {mg : Str → Option Value} {base : Heap} {x : Str} {st : Stmt} {ps : List Str}
theorem Df.calIO {N : List Str} {k : Nat} {g : GIo} (h : Df K mg x st ps) (S : FnScope N ps (defScope st)) (hl : ps.length ≤ N.length)
    (hb : ∀ (f : Addr) (cdv : Value) (A : Around) (outer : List Env) (s : Shared) (H : Hp) (E : XK), Room k (A.deeper (envOfC x (defScope st) s.heap.objs.size f cdv)) → DIs (Pm.io T mg) (cxOf CX0 P w K mg base N x (defScope st) f cdv A outer s H E).nox (defBody st) g) :
    CalIO T P w K mg base x ps (k + 1) (runIO N.length g) := by
  obtain ⟨f, fd, h1, F, h3⟩ := h.ex
  refine ⟨f, fd, h1, F.kp, h3, F.ok S (fun vs H Q E h => ?_) (fun cdv A outer s H vs Q E hr h => ⟨_, (hb f cdv A outer s H E hr).pss, ?_⟩)⟩
  · obtain ⟨v0, us, d0, ds, φ, r, d', rfl, hn, _, _, hr, _⟩ := h
    rw [List.length_cons, hr.length, hn]
  · obtain ⟨v0, us, d0, ds, φ, r, d', rfl, hn, h0, nd, hr, hp, hf, ht, kk⟩ := h
    obtain ⟨⟨r0, δ'⟩, e1, e2⟩ := bind1_some hf
    refine ⟨_, _, startIO N.length d0 ds, _, r0, δ', rst_io (Tb := Pm.io T mg) h0 nd hr hp (by omega) ht, e1, fun v σ' H' Φ' φ' S' L q => ?_⟩
    have e2 : ioK r0 (δ'.getD 0 .no) = some (r, d') := e2
    cases r0 with
    | val r1 =>
      cases hd : δ'.getD 0 .no with
      | own d1 =>
        rw [hd] at e2
        cases e2
        have s0 := S'.sl 0
        rw [hd] at s0
        obtain ⟨y, hy, ow⟩ := s0
        have st0 := L.2.2 0 List.mem_cons_self
        rw [hy] at st0
        have st1 : (L2.start N (v0 :: us)).getD 0 none = some v0 := rfl
        rw [st1] at st0
        cases st0
        exact kk v H' (Φ' 0) S'.ch ow (S'.nd 0) (fun a ha => S'.fr 0 a ha) ⟨rfl, q.2.1, q.2.2⟩
      | _ => rw [hd] at e2; cases e2
    | _ => cases e2
theorem CalIO.up {j k : Nat} {F : D → List D → Option (D × D)} (h : CalIO T P w K mg base x ps j F) (hj : j ≤ k) : CalIO T P w K mg base x ps k F := by
  obtain ⟨f, fd, h1, h2, h3, h4⟩ := h.ex
  exact ⟨f, fd, h1, h2, h3, h4.mono hj⟩
end
section
variable {X : Cx} {es : List Expr} {pos : Pos} {gs : GA}
def gCallIO (j n : Nat) (F : D → List D → Option (D × D)) (gs : GA) : GM := fun δ => (gs δ).bind fun rs => match δ.getD j .no with
  | .own d0 => if rs.length + 1 = n ∧ allVal rs = true then (F d0 (rs.map R.d)).map fun p => (p.1, purge (δ.set j (.own p.2))) else none
  | _ => none
theorem dm_io (j : Nat) {x y : Str} {p q : Pos} {ps : List Str} {k n : Nat} {F : D → List D → Option (D × D)} (c : CalIO Tb.tb X.prog X.w X.KK X.mg X.base x ps k F) (hr : Room k X.A) (ha : DA Tb X es gs) (hn : ps.length = n := by rfl)
    (hg : Gl X x := by rfl) (hd : (x == ("__debug__" : Str)) = false := by decide) (hN : X.N[j]? = some y := by rfl) (hv : Vis X.env.scope y := by first | exact Or.inl rfl | exact Or.inr (Or.inl rfl) | exact Or.inr (Or.inr rfl)) (hyd : (y == ("__debug__" : Str)) = false := by decide) (hcd : (y == ("__classdict__" : Str)) = false := by decide)
    (hs : starEach (.Name y q :: es) X.env = (false, eval (.Name y q) X.env) :: starEach es X.env := by rfl) (hpl : (backTo pos (starEach es X.env)).any (·.1) = false := by rfl) : DM Tb X (.Call (.Name x p) (.Name y q :: es) [] pos) (gCallIO j n F gs) := by
  obtain ⟨f, fd, h1, h2, h3, h4⟩ := c.ex
  subst hn
  refine ⟨pe_imp (pe_call h4 hr hg h1 h2 h3 .nil pass0 (pa_cons (pe_var hN hv hyd hcd) ha.pa hs) hd hs hpl) fun σ H Q h => ?_⟩
  obtain ⟨B, C, δ, Φ, d, δ', S, e, kk⟩ := h
  obtain ⟨rs, e1, e2⟩ := bind1_some e
  split at e2
  · rename_i d0 hd0
    split at e2
    · rename_i hc
      obtain ⟨⟨r, d1⟩, e3, e4⟩ := map_some e2
      cases e4
      have sj := S.sl j
      rw [hd0] at sj
      obtain ⟨v0, hv0, ow⟩ := sj
      have hs0 : σ[j]? = some (some v0) := by
        rw [List.getD_eq_getElem?_getD] at hv0
        cases w : σ[j]? with
        | none => rw [w] at hv0; cases hv0
        | some y => rw [w] at hv0; rw [show y = some v0 from hv0]
      refine ⟨v0, hs0, B, C, δ, Φ, rs, S, e1, fun us H1 φ1 s q f n => ?_⟩
      have S1 := S.same s
      have ml : ∀ a, a ∈ Φ j → ∃ o, H1 a = some o ∧ Mt o := fun a ha => S1.trk ha
      have tk : TK H1 (rem (fun a => a ∈ Φ j) H1) := rem_tk ml
      obtain ⟨hφ, hpu⟩ := RRL.val hc.2 q
      have rp := q.rp S1.bc S1.ch
      have cc : Same C (rem (fun a => a ∈ Φ j) H1) := S1.ch.keep fun a u o z z2 => by
        have nm : ¬ a ∈ Φ j := fun w => by rw [S1.fr j a w] at z; cases z
        rw [rem_at nm]
        exact z2
      refine ⟨v0, us, d0, rs.map R.d, Φ j, r, d1, by rw [List.append_nil], by rw [List.length_map]; exact hc.1, Ow.same s ow, S.nd j, RpL.tk tk _ _ hpu rp, hpu, e3, fun P hP => cc.tab (S.tb P hP), fun v H' φ' sm ow' nd' fr' q' => ?_⟩
      -- the heap with all but our own as it is now
      classical
      have sH : Same H1 (fun a => if a ∈ Φ j then H1 a else H' a) := by
        refine ⟨fun b o hb hn => ?_, fun b ps hb => ?_⟩
        · show (if b ∈ Φ j then H1 b else H' b) = some o
          split
          · exact hb
          · rename_i nb
            exact sm.get' b o (by rw [rem_at nb]; exact hb) hn
        · have nb : ¬ b ∈ Φ j := fun z => by
            obtain ⟨o, w, m⟩ := ml b z
            rw [hb] at w
            cases w
            exact m
          obtain ⟨p1, w, z⟩ := sm.tbl b ps (by rw [rem_at nb]; exact hb)
          exact ⟨p1, by show (if b ∈ Φ j then H1 b else H' b) = _; rw [if_neg nb]; exact w, z⟩
      have S2 := S1.same sH
      have S3 := S2.mut (H' := H') (d' := d1) (φ' := φ') hd0 hs0 (fun a o na h => by
        have h : (if a ∈ Φ j then H1 a else H' a) = some o := h
        rw [if_neg na] at h
        exact h) ow' nd' fun a ha => by
          by_cases z : a ∈ Φ j
          · exact .inl z
          · have hn1 : H1 a = none := by
              have := fr' a ha
              rw [rem_at z] at this
              exact this
            refine .inr ⟨S1.ch.free hn1, fun m hm => ?_⟩
            obtain ⟨o, w, _⟩ := S1.trk hm
            rw [hn1] at w
            cases w
      exact kk v H' _ S3 (lk_mut hd0) ⟨rfl, q'.2.1, q'.2.2⟩
    · cases e2
  · cases e2
end
end DL

set_option Elab.async false
set_option linter.all false
set_option maxRecDepth 100000
set_option maxHeartbeats 4000000
/-! D37: comprehensions with two fors over our own list of lists: it is locked while they run. -/
namespace DL
open PySem PySem.Spec PyProof.Rows L2 SrtO
variable {Tb : Pm}
def gLock (lks : List Nat) (g : G) : G := fun δ => (g (lockAll lks δ)).bind fun r => match r with
  | .own d => some (.own d)
  | .val d => some (.val d)
  | _ => none
theorem lock_tD {K : KF} {lks : List Nat} {g : G} {σ : L2.St} {H : Hp} {Q : VK} (h : tD Tb K (gLock lks g) σ H Q) : tD Tb K g σ H Q := by
  obtain ⟨B, C, δ, Φ, r, S, e, k⟩ := h
  obtain ⟨r1, e1, e2⟩ := bind1_some e
  obtain ⟨S1, _, _, _, _⟩ := S.lock lks
  refine ⟨B, _, lockAll lks δ, _, r1, S1, e1, fun v H1 φ s q f n => ?_⟩
  cases r1 with
  | own d => cases e2; exact k v H1 φ s q f n
  | val d => cases e2; exact k v H1 φ s q f n
  | par d => cases e2
  | fr d => cases e2
  | bor d => cases e2
section
variable {X : Cx} {elt tg iter tg1 iter1 : Expr} {ifs ifs1 : List Expr} {scope : Scope} {vs ts vs1 ts1 : List Nat} {pos : Pos} {gi gi1 : GI} {gt gt1 : GTg} {gc gc1 : GT} {ge : G}
theorem de_lc2L (lks : List Nat) (own : List (Str × Nat)) (hc : X.calm = true) (hN : X.N.Nodup) (hi : DI Tb X tg iter gi) (ok : BlkOk X.N X.env.scope scope own)
    (hg : ∀ (s : Shared) (H : Hp) (C : Addr) (cl : List (Str × Addr)) (fp : List Addr), DG Tb (X.blk s H scope (compEnvC scope cl C X.env) fp) tg ts gt) (ht : ∀ (s : Shared) (H : Hp) (C : Addr) (cl : List (Str × Addr)) (fp : List Addr), DTs Tb (X.blk s H scope (compEnvC scope cl C X.env) fp) ifs gc)
    (hi1 : ∀ (s : Shared) (H : Hp) (C : Addr) (cl : List (Str × Addr)) (fp : List Addr), DI Tb (X.blk s H scope (compEnvC scope cl C X.env) fp) tg1 iter1 gi1)
    (hg1 : ∀ (s : Shared) (H : Hp) (C : Addr) (cl : List (Str × Addr)) (fp : List Addr), DG Tb (X.blk s H scope (compEnvC scope cl C X.env) fp) tg1 ts1 gt1) (ht1 : ∀ (s : Shared) (H : Hp) (C : Addr) (cl : List (Str × Addr)) (fp : List Addr), DTs Tb (X.blk s H scope (compEnvC scope cl C X.env) fp) ifs1 gc1)
    (he : ∀ (s : Shared) (H : Hp) (C : Addr) (cl : List (Str × Addr)) (fp : List Addr), DE Tb (X.blk s H scope (compEnvC scope cl C X.env) fp) elt ge) (hvs : own.map (·.2) = vs := by rfl) (hts : ∀ i ∈ ts, i ∈ vs := by decide) (hv1 : ∀ i ∈ vs1, i ∈ vs := by decide) (hts1 : ∀ i ∈ ts1, i ∈ vs1 := by decide)
    (hs : ∀ x, foldedSetIterable iter X.env x = pure x := by intro _; rfl) (hs1 : ∀ env x, foldedSetIterable iter1 env x = pure x := by intro _ _; rfl) :
    DE Tb X (.ListComp elt [⟨tg, iter, ifs, 0⟩, ⟨tg1, iter1, ifs1, 0⟩] scope pos) (gLock lks (gLc2 vs vs1 gi gt gc gi1 gt1 gc1 ge)) := by
  subst hvs
  exact ⟨pe_imp (pe_lc2 (vs1 := vs1) hc hN hi.pi ok hv1 (fun s H C cl fp => (hg s H C cl fp).pg) (fun s H C cl fp => (ht s H C cl fp).pts) (fun s H C cl fp => (hi1 s H C cl fp).pi) (fun s H C cl fp => (hg1 s H C cl fp).pg) (fun s H C cl fp => (ht1 s H C cl fp).pts) (fun s H C cl fp => (he s H C cl fp).pe) hs hs1) fun σ H Q h => lc2_use hts hts1 (lock_tD h)⟩
theorem ds_setLc2L (lks : List Nat) (i : Nat) {y : Str} {py spos : Pos} (own : List (Str × Nat)) (hc : X.calm = true) (hN : X.N.Nodup) (hi : DI Tb X tg iter gi) (ok : BlkOk X.N X.env.scope scope own)
    (hg : ∀ (s : Shared) (H : Hp) (C : Addr) (cl : List (Str × Addr)) (fp : List Addr), DG Tb (X.blk s H scope (compEnvC scope cl C X.env) fp) tg ts gt) (ht : ∀ (s : Shared) (H : Hp) (C : Addr) (cl : List (Str × Addr)) (fp : List Addr), DTs Tb (X.blk s H scope (compEnvC scope cl C X.env) fp) ifs gc)
    (hi1 : ∀ (s : Shared) (H : Hp) (C : Addr) (cl : List (Str × Addr)) (fp : List Addr), DI Tb (X.blk s H scope (compEnvC scope cl C X.env) fp) tg1 iter1 gi1)
    (hg1 : ∀ (s : Shared) (H : Hp) (C : Addr) (cl : List (Str × Addr)) (fp : List Addr), DG Tb (X.blk s H scope (compEnvC scope cl C X.env) fp) tg1 ts1 gt1) (ht1 : ∀ (s : Shared) (H : Hp) (C : Addr) (cl : List (Str × Addr)) (fp : List Addr), DTs Tb (X.blk s H scope (compEnvC scope cl C X.env) fp) ifs1 gc1)
    (he : ∀ (s : Shared) (H : Hp) (C : Addr) (cl : List (Str × Addr)) (fp : List Addr), DE Tb (X.blk s H scope (compEnvC scope cl C X.env) fp) elt ge) (hsw : swapsWith (.ListComp elt [⟨tg, iter, ifs, 0⟩, ⟨tg1, iter1, ifs1, 0⟩] scope pos) (some (.Name y py)) spos.line X.env = pure true) (hy : X.N[i]? = some y := by rfl) (hyl : X.env.scope.names.lookup y = some .local := by rfl) (hvs : own.map (·.2) = vs := by rfl) (hts : ∀ i ∈ ts, i ∈ vs := by decide) (hv1 : ∀ i ∈ vs1, i ∈ vs := by decide) (hts1 : ∀ i ∈ ts1, i ∈ vs1 := by decide) (hs : ∀ x, foldedSetIterable iter X.env x = pure x := by intro _; rfl) (hs1 : ∀ env x, foldedSetIterable iter1 env x = pure x := by intro _ _; rfl) (hp : i ∉ Tb.pr := by first | exact List.not_mem_nil | exact np0) :
    DS Tb X (.Assign [.Name y py] (.ListComp elt [⟨tg, iter, ifs, 0⟩, ⟨tg1, iter1, ifs1, 0⟩] scope pos) spos) (gSet i (gLock lks (gLc2 vs vs1 gi gt gc gi1 gt1 gc1 ge))) := by
  subst hvs
  refine ⟨ps_imp (ps_setLc2 (vs1 := vs1) (wi := tDI Tb X.KK gi) (g := tDG Tb X.KK ts gt) (tt := tDT Tb X.KK gc) (wi1 := tDI Tb X.KK gi1) (g1 := tDG Tb X.KK ts1 gt1) (tt1 := tDT Tb X.KK gc1) (te := tD Tb X.KK ge) hc hN hy hyl hsw hi.pi ok hv1 (fun s H C cl fp => (hg s H C cl fp).pg) (fun s H C cl fp => (ht s H C cl fp).pts) (fun s H C cl fp => (hi1 s H C cl fp).pi) (fun s H C cl fp => (hg1 s H C cl fp).pg) (fun s H C cl fp => (ht1 s H C cl fp).pts) (fun s H C cl fp => (he s H C cl fp).pe) hs hs1) fun En σ H h => ?_⟩
  obtain ⟨B, C, δ, Φ, o, S, e, k⟩ := h
  obtain ⟨r, e1, e2⟩ := bind1_some e
  exact lc2_use hts hts1 (lock_tD ⟨B, C, δ, Φ, r, S, e1, fun v H1 φ s q f n => set_end S s q f n e2 k hp⟩)
end
end DL

set_option Elab.async false
set_option linter.all false
set_option maxRecDepth 100000
set_option maxHeartbeats 4000000
/-! D38: defs that are handed the exception of an except suite; list.count of truth values. -/
namespace DL
open PySem PySem.Spec PyProof.Rows L2 SrtO
variable {Tb : Pm}
/-- the context of the body of a def that is handed the exception in hand -/
@[reducible] def cxE (P : Program) (w : World) (K : PySem.W.Frag) (mg : Str → Option Value) (base : Heap) (N : List Str) (qual : Str) (sc : Scope) (f : Addr) (cd : Value) (A : Around) (outer : List Env) (s : Shared) (H : Hp) (a : Addr) (oe : Obj) : Cx :=
  (cxOf CX0 P w K mg base N qual sc f cd A outer s H E0).suite a [(a, oe)]
/-- what such a def hands back -/
def resE (T : List Addr) (K : KF) (F : Option R) (H : Hp) (Q : VK) : Prop := ∃ r, F = some r ∧ (∀ t ∈ T, GxR.TabG H t) ∧ ∀ v H' φ, Same H H' → RR K H H H' r v φ → (∀ b ∈ φ, H b = none) → φ.Nodup → Q v H'
def FnE (T : List Addr) (P : Program) (w : World) (K : PySem.W.Frag) (mg : Str → Option Value) (base : Heap) (k : Nat) (f : Addr) (fd : FuncData) (ps : List Str) (Dc : Addr) (F : Option R) : Prop :=
  ∀ (A : Around) (outer : List Env) (s : Shared) (H : Hp) (args : Args) (us : List Value) (a : Addr) (oe : Obj) (Q : VK), L2H.RoomH k A → Zc (.ref Dc) none oe → (∃ vs, oe.data = .fields vs) → L2H.PinOk outer H s (a, oe) →
    Env0 P w K mg base (A.mark (some (.ref a))) outer s H → BindsTo s fd args (ps.zip us) → Vals [V.ref a] us → resE T (kf K w) F H Q → codeAny (model P w) (A.mark (some (.ref a))) (.call (.ref f) args) (CR CX0 outer P w H s Q E0) s
def startE (n : Nat) (c : Str) : DSt := .exc c :: List.replicate (n - 1) .no
def runE (n : Nat) (c : Str) (g : GS) : Option R := (g (startE n c)).bind fun o => match o with
  | .nx _ => some (.val .non)
  | .rt r => r.ret
  | _ => none
@[reducible] def Pm.exc (T : List Addr) (mg : Str → Option Value) (a : Addr) : Pm := (Pm.no T mg).suite a
theorem rst_exc {K : KF} {H : Hp} {N : List Str} {a : Addr} {c : Str} (hn : 1 ≤ N.length) (ht : ∀ t ∈ Tb.tb, GxR.TabG H t) (ha : Tb.ea = a) : RSt Tb K H H (L2.start N [V.ref a]) H (startE N.length c) (fun _ => []) := by
  refine ⟨by simp [L2.start, startE], fun i => ?_, fun _ => List.nodup_nil, fun _ _ _ z => (by cases z), Same.refl _, Same.refl _, fun _ _ z => (by cases z), ht⟩
  unfold startE L2.start
  cases i with
  | zero => exact ⟨rfl, by rw [ha]; rfl⟩
  | succ i =>
    have e : (Sl.exc c :: List.replicate (N.length - 1) Sl.no).getD (i + 1) .no = .no := by
      rw [List.getD_cons_succ, List.getD_eq_getElem?_getD, List.getElem?_replicate]
      split <;> rfl
    rw [e]
    rfl
section
variable {T : List Addr} {P : Program} {w : World} {K : PySem.W.Frag} {mg : Str → Option Value} {base : Heap} {x qual c : Str} {st : Stmt} {ps N : List Str} {f Dc : Addr} {fd : FuncData} {k : Nat} {g : GS}
theorem endE {H : Hp} {a : Addr} {Q : VK} (hn : 1 ≤ N.length) (h : resE T (kf K w) (runE N.length c g) H Q) : tDS (Pm.exc T mg a) (kf K w) g { nx := fun _ H' => Q .non H', rt := Q } (L2.start N [V.ref a]) H := by
  obtain ⟨r, h3, ht, h4⟩ := h
  obtain ⟨o, e1, e2⟩ := bind1_some h3
  refine ⟨H, H, startE N.length c, fun _ => [], o, rst_exc hn ht rfl, e1, ?_⟩
  cases o with
  | nx δ' => cases e2; exact fun σ' H' Φ' S' _ => h4 .non H' [] S'.ch rr_non (fun _ z => by cases z) List.nodup_nil
  | rt r0 =>
    refine fun v H' φ s' q f n => h4 v H' φ s' ?_ f n
    cases r0 with
    | val d => cases e2; exact q
    | own d => cases e2; exact q
    | par d => cases e2; exact q
    | fr d => cases e2; exact ⟨q.1, Rp.mono s' _ _ q.2⟩
    | bor d => cases e2; exact q
  | bk δ' => cases e2
  | ct δ' => cases e2
  | ex c δ' => cases e2
theorem fnE_of (F : Fun K x qual st f fd) (S : FnScope N ps (defScope st)) (hp : ps.length = 1)
    (hb : ∀ (cdv : Value) (A : Around) (outer : List Env) (s : Shared) (H : Hp) (a : Addr) (oe : Obj), L2H.RoomH k (A.deeper (envOfC qual (defScope st) s.heap.objs.size f cdv)) → Zc (.ref Dc) none oe → (∃ vs, oe.data = .fields vs) → DSs (Pm.exc T mg a) (cxE P w K mg base N qual (defScope st) f cdv A outer s H a oe) (defBody st) g) :
    FnE T P w K mg base (k + 1) f fd ps Dc (runE N.length c g) := by
  obtain ⟨oc, od, kV, doc, pm, an, cdv, ct, osl, rfl, lk, hcd⟩ := F.ex
  intro A outer s H args us a oe Q hr hz hf hpin e0 hbd rv hres
  have hN : 1 ≤ N.length := by
    have h1 := congrArg List.length S.pre
    rw [List.length_take] at h1
    omega
  have kin : K.In s.heap := e0.mod.kin.keeps fun b o z => (e0.bs b o z).1
  have nol : s.heap.NoLimit := e0.mod.nolimit.keeps fun b o z => (e0.bs b o z).1
  refine codeAny_call_function (show (A.mark (some (.ref a))).depth < recursionLimit from (L2H.RoomH.depth (A := A) hr)) (kin _ _ lk) rfl S.co S.gen rfl (PySem.W.codeRec_of kin hcd) (hbd _ _ _ _ ?_)
  refine wpAny_newFunctionEnv_cells S.kind (fun ⟨n, v⟩ hy => ?_) fun env he s1 x => ?_
  · rcases S.par n (List.of_mem_zip hy).1 with q | q
    · exact .inl q
    · exact .inr ⟨q, PySem.W.cellsFrom_some _ _ _ (.inl q)⟩
  subst he
  refine ⟨nol.keeps x.toInCall.keep, codeAny_func ?_⟩
  have I0 := L2H.inv_startH (CX := CX0) (E := E0) S hpin e0 (vs := [V.ref a]) (by rw [hp]; rfl) rv x
  have I1 : Inv (cxE P w K mg base N qual (defScope st) f cdv A outer s H a oe) [] (L2.start N [V.ref a]) H s1 := I0.wish _
  refine wpAny_mono ((hb cdv A outer s H a oe (L2H.RoomH.deeper hr _) hz hf).pss.run [] s1 _ H _ I1 (endE hN hres)) (fun fl s' hs => ?_) fun e s' hs => hs.elim
  cases fl with
  | ret u =>
    obtain ⟨v, σ', H', J, r, q⟩ := hs
    exact ⟨v, H', J.os, J.bare, J.base, J.hok, r, q⟩
  | next =>
    obtain ⟨σ', H', J, q⟩ := hs
    exact ⟨V.non, H', J.os, J.bare, J.base, J.hok, rfl, q⟩
  | brk => obtain ⟨_, _, _, q⟩ := hs; exact q.elim
  | cont => obtain ⟨_, _, _, q⟩ := hs; exact q.elim
/-- a def of the exception in hand with its promise -/
structure CalE (T : List Addr) (P : Program) (w : World) (K : PySem.W.Frag) (mg : Str → Option Value) (base : Heap) (x : Str) (ps : List Str) (k : Nat) (Dc : Addr) (F : Option R) : Prop where
  ex : ∃ f fd, mg x = some (.ref f) ∧ PySem.W.keepIn K (.ref f) = true ∧ Binds K fd ps [] ∧ ps.length = 1 ∧ FnE T P w K mg base k f fd ps Dc F
theorem Df.calE (h : Df K mg x st ps) (S : FnScope N ps (defScope st)) (c : Str)
    (hb : ∀ (f : Addr) (cdv : Value) (A : Around) (outer : List Env) (s : Shared) (H : Hp) (a : Addr) (oe : Obj), L2H.RoomH k (A.deeper (envOfC x (defScope st) s.heap.objs.size f cdv)) → Zc (.ref Dc) none oe → (∃ vs, oe.data = .fields vs) → DSs (Pm.exc T mg a) (cxE P w K mg base N x (defScope st) f cdv A outer s H a oe) (defBody st) g) (hp : ps.length = 1 := by rfl) :
    CalE T P w K mg base x ps (k + 1) Dc (runE N.length c g) := by
  obtain ⟨f, fd, h1, F, h3⟩ := h.ex
  exact ⟨f, fd, h1, F.kp, h3, hp, fnE_of F S hp (hb f)⟩
end
section
variable {X : Cx} {Dc a : Addr} {oe : Obj} {pn : List (Addr × Obj)} {x n : Str} {p p1 pos : Pos} {ps : List Str} {k : Nat} {F : Option R}
def gCallE (i : Nat) (F : Option R) : G := fun δ => match δ.getD i .no with
  | .exc _ => F.map R.back
  | _ => none
theorem de_callE (i : Nat) (ce : CalE Tb.tb X.prog X.w X.KK X.mg X.base x ps k Dc F) (hr : L2H.RoomH k X.A) (hz : Zc (.ref Dc) none oe) (hf : ∃ vs, oe.data = .fields vs)
    (hN : X.N[i]? = some n := by rfl) (hv : Vis X.env.scope n := by first | exact Or.inl rfl | exact Or.inr (Or.inl rfl) | exact Or.inr (Or.inr rfl)) (hd : (n == ("__debug__" : Str)) = false := by decide) (hcd : (n == ("__classdict__" : Str)) = false := by decide)
    (hg : Gl X x := by rfl) (hdb : (x == ("__debug__" : Str)) = false := by decide) (he1 : starEach [.Name n p1] X.env = (false, eval (.Name n p1) X.env) :: starEach [] X.env := by rfl) (hpl : (backTo pos (starEach [] X.env)).any (·.1) = false := by rfl) :
    DE (Tb.suite a) (X.suite a ((a, oe) :: pn)) (.Call (.Name x p) [.Name n p1] [] pos) (gCallE i F) := by
  obtain ⟨f, fd, hm, hk, hb, hp, hF⟩ := ce.ex
  refine ⟨⟨fun pins s σ H Q I h => ?_⟩⟩
  refine wpAny_Call_Name_kw (ld_glob I hg hm ?_ hdb)
  have ha : PA (X.suite a ((a, oe) :: pn)) [.Name n p1] (fun σ H Q => ∃ v, σ[i]? = some (some v) ∧ Q [v] H) := pa_imp (pa_cons (pe_var hN hv hd hcd) pa_nil he1) fun σ H Q h => h
  obtain ⟨B, C, δ, Φ, r, S, e, kk⟩ := h
  obtain ⟨h1, F', e2, rfl⟩ : σ[i]? = some (some (V.ref a)) ∧ ∃ r1, F = some r1 ∧ r = r1.back := by
    unfold gCallE at e
    have s1 := S.sl i
    split at e
    · rename_i c hc
      rw [hc] at s1
      have s2 : σ.getD i none = some (V.ref a) := s1.2
      obtain ⟨r1, e2, e3⟩ := map_some e
      refine ⟨?_, r1, e2, e3.symm⟩
      rw [List.getD_eq_getElem?_getD] at s2
      cases w : σ[i]? with
      | none => rw [w] at s2; cases s2
      | some y => rw [w] at s2; rw [show y = some (V.ref a) from s2]
    · cases e
  refine PySem.W.callWith_K (h₀ := X.base) I.ok.mod.kin hk (thn (ha.run pos pins s σ H (fun vs H1 => vs = [V.ref a] ∧ H1 = H) I ⟨_, h1, rfl, rfl⟩) fun us s1 ⟨vs, H1, I1, rv, e3, e4⟩ => ⟨I1.kIn, ?_⟩) he1 hpl
  subst e3 e4
  have pn1 := I1.pin (a, oe) (List.mem_append.mpr (.inl List.mem_cons_self))
  have hpin : L2H.PinOk X.stack H1 s1 (a, oe) := ⟨pn1.1, pn1.2.1, fun hm => (List.mem_cons.mp (I1.stkSub a hm)).elim pn1.2.2.1 pn1.2.2.2.1, pn1.2.2.2.2⟩
  have hbd := hb s1 us I1.kIn (by rw [List.append_nil, hp]; exact rv.length.symm)
  rw [List.append_nil] at hbd
  refine wpAny_call (codeAny_mono (hF X.A X.stack s1 H1 ⟨us, []⟩ us a oe Q hr hz hf hpin I1.env0 hbd rv ⟨F', e2, fun t ht => S.ch.tab (S.tb t ht), fun v H' φ s' q fr nd => kk v H' φ s' ?_ (fun b hb => fr b hb) nd⟩) fun r s' hq => ?_)
  · cases F' with
    | val d => exact q
    | own d => exact q
    | par d => exact ⟨q.1, Rp.mono s' _ _ q.2⟩
    | fr d => exact ⟨q.1, Rp.mono s' _ _ q.2⟩
    | bor d => exact q
  · cases r with
    | error e => exact hq.elim
    | ok fl =>
      cases fl with
      | ret u => exact I1.after hq
      | next => exact hq.elim
      | brk => exact hq.elim
      | cont => exact hq.elim
end

theorem rmU {k : Nat} {A : Around} (hr : L2H.RoomH k A) : A.units + 64 < cLine := by have := hr.un; omega
theorem od_eqU {X : Cx} (hu : X.A.units + 64 < cLine) : OpD X (compareOp .Eq) eqD := by
  refine ⟨_, op_eqD hu, fun B C H x y Q d e c hx hy h k => ?_⟩
  unfold eqD at h
  split at h
  · rename_i hz
    cases h
    exact ⟨pd d, pd e, Rp.dp _ _ (eqOk_hd hz.1) hx, Rp.dp _ _ (eqOk_hd hz.2) hy, eqOk_sh hz.1, eqOk_sh hz.2, k _ H [] (Same.refl _) rr_bl no_fresh List.nodup_nil⟩
  · cases h
/-! ### list.count of a truth value -/
def rCntB (K : PySem.W.Frag) : V → List V → Hp → VK → Prop := fun x xs H Q => ∃ (p : Addr) (bs : List Bool) (b : Bool), x = .ref p ∧ xs = [.bl b] ∧ H p = some (.lst (bs.map V.bl)) ∧ Q (.int (bs.count b : Nat)) H
theorem bools_of {us : List Value} : ∀ {bs : List Bool}, Vals (bs.map V.bl) us → us = bs.map Value.bool := by
  induction us with
  | nil => intro bs h; cases bs with
    | nil => rfl
    | cons b bs => cases h
  | cons u us ih => intro bs h; cases bs with
    | nil => cases h
    | cons b bs => cases h with
      | cons h1 h2 => rw [ih h2]; rw [show u = Value.bool b from h1]; rfl
theorem countP_bl (b : Bool) : ∀ bs : List Bool, (bs.map Value.bool).countP (isBoolOf b) = bs.count b
  | [] => rfl
  | c :: bs => by
    rw [List.map_cons, List.countP_cons, List.count_cons, countP_bl b bs]
    rfl
theorem mt_cntB {X : Cx} : MtR X "list.count" (rCntB X.K) := by
  intro pins s σ H x xs v us Q I rx rxs h
  obtain ⟨p, bs, b, rfl, rfl, hs, q⟩ := h
  cases rx
  obtain ⟨u, rfl, ru⟩ := rxs.one
  obtain rfl : u = Value.bool b := ru
  obtain ⟨hlen, its, n, rv, ho⟩ := (show ObjOk X.prog X.w H s.heap p (.lst (bs.map V.bl)) from I.hok p _ hs)
  have e := bools_of rv
  subst e
  refine call_meets PySem.F.slot_list_count ⟨_, ho, rfl⟩ PySem.F.entry_list_count (PySem.F.args_list_count_2 _ _)
    (SeqAt.list_countAt p (bs.map Value.bool).toArray n none _ (.bool b) (isBoolOf b)) ⟨ho, fun y hy => ?_, ?_⟩
  · have hy : y ∈ bs.map Value.bool := by simpa using hy
    obtain ⟨c, _, rfl⟩ := List.mem_map.mp hy
    exact SeqAt.EqAt.bool_bool c b
  · refine ⟨.int (bs.count b : Nat), H, I.tok _, ⟨s.toks, ?_⟩, q⟩
    show Value.int ((((bs.map Value.bool).toArray.toList).countP (isBoolOf b) : Nat) : Int) s.toks = _
    rw [show (bs.map Value.bool).toArray.toList = bs.map Value.bool from rfl, countP_bl]
def asBl : List D → Option (List Bool)
  | [] => some []
  | .bl b :: ds => (asBl ds).map (b :: ·)
  | _ => none
theorem asBl_rp {K : KF} {H : Hp} : ∀ {ds : List D} {bs : List Bool} {xs : List V}, asBl ds = some bs → RpL K H ds xs → xs = bs.map V.bl
  | [], bs, xs, e, r => by
    cases e
    unfold RpL at r
    exact r
  | .bl b :: ds, bs, xs, e, r => by
    obtain ⟨bs', e1, e2⟩ := map_some (show (asBl ds).map (b :: ·) = some bs from e)
    unfold RpL at r
    obtain ⟨x, ys, rfl, q, r⟩ := r
    unfold Rp at q
    subst e2 q
    rw [asBl_rp e1 r]
    rfl
  | .non :: _, _, _, e, _ => by cases e
  | .int _ :: _, _, _, e, _ => by cases e
  | .str _ :: _, _, _, e, _ => by cases e
  | .tup _ :: _, _, _, e, _ => by cases e
  | .lst _ :: _, _, _, e, _ => by cases e
  | .scr _ :: _, _, _, e, _ => by cases e
  | .dct _ _ :: _, _, _, e, _ => by cases e
  | .set _ _ :: _, _, _, e, _ => by cases e
def gCntB (i : Nat) (b : Bool) : G := fun δ => match δ.getD i .no with
  | .own (.lst ds) => (asBl ds).map fun bs => .val (.int (bs.count b : Nat))
  | _ => none
theorem de_cntB {X : Cx} (i : Nat) (b : Bool) {x : Str} {p p2 apos cpos : Pos} (hN : X.N[i]? = some x := by rfl) (hv : Vis X.env.scope x := by first | exact Or.inl rfl | exact Or.inr (Or.inl rfl) | exact Or.inr (Or.inr rfl)) (hd : (x == ("__debug__" : Str)) = false := by decide)
    (hcd : (x == ("__classdict__" : Str)) = false := by decide)
    (hbase : attributeBase (.Name x p) "count" X.env (eval (.Name x p) X.env) = eval (.Name x p) X.env := by rfl) (hline : (apos.endLine == cpos.line) = true := by rfl) {j : Nat}
    (hfew : ((backTo cpos (starEach [.Constant (.bool b) j p2] X.env)).all (fun x => !x.1) && (backToKw cpos (keywordEach [] X.env)).all (fun x => x.1.isSome)
      && decide (([.Constant (.bool b) j p2] : List Expr).length + ([] : List Keyword).length + (if ([] : List Keyword).isEmpty then 0 else 1) < 30)) = true := by rfl)
    (hst : starEach [.Constant (.bool b) j p2] X.env = (false, eval (.Constant (.bool b) j p2) X.env) :: starEach [] X.env := by rfl) (hplain : (backTo cpos (starEach [] X.env)).any (·.1) = false := by rfl) :
    DE Tb X (.Call (.Attribute (.Name x p) "count" apos) [.Constant (.bool b) j p2] [] cpos) (gCntB i b) := by
  refine ⟨pe_imp (pe_bm PySem.F.plainAttrs_list PySem.F.slot_list_count PySem.F.type_list_count mt_cntB (pe_var hN hv hd hcd) (pa_cons pe_bl pa_nil hst) hbase hfew hline hst hplain) fun σ H Q h => ?_⟩
  obtain ⟨B, C, δ, Φ, r, S, e, kk⟩ := h
  unfold gCntB at e
  have s1 := S.sl i
  split at e
  · rename_i ds hds
    rw [hds] at s1
    obtain ⟨bs, e1, rfl⟩ := map_some e
    obtain ⟨y, hy, ow⟩ := s1
    have ow : Ow X.KK H (.lst ds) y (Φ i) := ow
    have rp := Ow.rp _ _ _ ow
    unfold Rp at rp
    obtain ⟨l, xs, rfl, hl, rl⟩ := rp
    obtain rfl := asBl_rp e1 rl
    refine ⟨V.ref l, ?_, .inl ⟨rfl, _, SqL.of hl⟩, l, bs, b, rfl, rfl, hl, kk _ H [] (Same.refl _) rr_int no_fresh List.nodup_nil⟩
    rw [List.getD_eq_getElem?_getD] at hy
    cases w : σ[i]? with
    | none => rw [w] at hy; cases hy
    | some z => rw [w] at hy; rw [show z = some (V.ref l) from hy]
  · cases e
end DL

set_option Elab.async false
set_option linter.all false
set_option maxRecDepth 100000
set_option maxHeartbeats 4000000
/-! GT1: a tuple read backward, t[::-1]. -/
namespace GT
open PySem PySem.Spec PyProof.Rows L2 HT
section
variable {prog : Program} {w : World} {A : Around} {E : Value → Shared → Prop} {s : Shared}
theorem adj_rev (n : Nat) : Builtin.Slice.sliceAdjust none none (-1) (n : Int) = ((n : Int) - 1, -1) := by
  unfold Builtin.Slice.sliceAdjust
  simp
theorem plc_rev (n : Nat) : Builtin.Slice.slicePlaces ((n : Int) - 1) (-1) (-1) = n := by
  unfold Builtin.Slice.slicePlaces
  rw [if_neg (by decide)]
  by_cases h : (n : Int) - 1 > -1
  · rw [if_pos h]
    simp
  · rw [if_neg h]
    have : n = 0 := by omega
    rw [this]
    rfl
theorem sapp_rev {sl : Addr} {vk : Value} {n : Nat} {Q : Int × Int × Nat → Shared → Prop} (hs : s.heap.IsSliceOf sl .none .none vk) (pk : IsPart vk (some (-1))) (h : Q ((n : Int) - 1, -1, n) s) :
    wpAny (model prog w) A (Builtin.Slice.sliceApplied (.ref sl) (pure (n : Int))) Q E s := by
  obtain ⟨o, h1, h2, h3⟩ := id hs
  unfold Builtin.Slice.sliceApplied Builtin.Slice.sliceFields
  have f0 : ∀ {R : Value → Shared → Prop}, R .none s → wpAny (model prog w) A (field (.ref sl) 0) R E s := fun r => wpAny_field h1 h3 (x := .none) rfl r
  have f1 : ∀ {R : Value → Shared → Prop}, R .none s → wpAny (model prog w) A (field (.ref sl) 1) R E s := fun r => wpAny_field h1 h3 (x := .none) rfl r
  have f2 : ∀ {R : Value → Shared → Prop}, R vk s → wpAny (model prog w) A (field (.ref sl) 2) R E s := fun r => wpAny_field h1 h3 (x := vk) rfl r
  refine wpAny_bind (wpAny_bind (f0 (wpAny_bind (f1 (wpAny_bind (f2 (wpAny_pure ?_)))))))
  refine wpAny_bind (slicePart_ pk ?_)
  show wpAny _ _ (if ((-1 : Int) == 0) = true then _ else _) _ _ s
  rw [if_neg (by decide)]
  refine wpAny_bind (slicePart_none (wpAny_bind (slicePart_none (wpAny_bind (wpAny_pure ?_)))))
  show wpAny _ _ (match Builtin.Slice.sliceAdjust none none (-1) (n : Int) with | (a, b) => pure (a, (-1 : Int), Builtin.Slice.slicePlaces a b (-1))) _ _ s
  rw [adj_rev]
  show wpAny _ _ (pure ((n : Int) - 1, (-1 : Int), Builtin.Slice.slicePlaces ((n : Int) - 1) (-1) (-1))) _ _ s
  rw [plc_rev]
  exact wpAny_pure h
theorem pick_rev (xs : Array Value) : ((List.range xs.size).filterMap fun (k : Nat) => xs[(((xs.size : Int) - 1) + (k : Int) * -1).toNat]?).toArray = xs.toList.reverse.toArray := by
  have go : ∀ n, n ≤ xs.size → ((List.range n).filterMap fun (k : Nat) => xs[(((xs.size : Int) - 1) + (k : Int) * -1).toNat]?) = xs.toList.reverse.take n := fun n => by
    induction n with
    | zero => intro _; simp
    | succ n ih =>
      intro hn
      rw [List.range_succ, List.filterMap_append, ih (by omega)]
      have e : (((xs.size : Int) - 1) + (n : Int) * -1).toNat = xs.size - 1 - n := by omega
      have hlt : xs.size - 1 - n < xs.size := by omega
      have g : xs[xs.size - 1 - n]? = some xs[xs.size - 1 - n] := Array.getElem?_eq_getElem hlt
      have g2 : xs.toList.reverse[n]? = some xs[xs.size - 1 - n] := by
        rw [List.getElem?_reverse (by rw [Array.length_toList]; omega), Array.length_toList, List.getElem?_eq_getElem (by rw [Array.length_toList]; omega)]
        rfl
      rw [List.filterMap_cons, e, g, List.filterMap_nil, List.take_succ, g2]
      rfl
  rw [go xs.size (Nat.le_refl _), List.take_of_length_le (by simp)]
theorem getItem_rev {t sl : Addr} {items : Array Value} {vk : Value} {Q : Value → Shared → Prop} (ht : IsTup s.heap t items) (hs : s.heap.IsSliceOf sl .none .none vk) (pk : IsPart vk (some (-1))) (hz : items.size ≤ sizeLine)
    (h : Q (.ref s.heap.objs.size) { s with heap := s.heap.push { cls := .type "tuple", data := .seq items.toList.reverse.toArray } }) : wpAny (model prog w) A (getItem (.ref t) (.ref sl)) Q E s := by
  have okz : sizeOk (.seq items.toList.reverse.toArray) := by
    show items.toList.reverse.toArray.size ≤ sizeLine
    simpa using hz
  obtain ⟨o, h1, h2, h3⟩ := id hs
  have ty : s.TypeIs (.ref sl) "slice" := ⟨o, h1, h2⟩
  unfold getItem
  try with_reducible refine wpAny_holding ?_
  first
    | refine wpAny_bind (wpAny_pure ?_)
    | skip
  refine wpAny_bind (wpAny_sequenceKey ht.typeIs (by decide) (wpAny_bind (wpAny_callSpecial?_slot (name := Str.ofString "__getitem__") ht.typeIs slot_tuple_getitem
    (wpAny_call_entry slot_tuple_getitem ht.typeIs entry_tuple_getitem ?_ (args_tuple_getitem _ _)))))
  show wpAny _ _ (Builtin.Tuple.tupleItemsOf (.ref t) >>= _) _ _ s
  refine wpAny_bind (tupleItemsOf_ ht (wpAny_bind (wpAny_typeOf ty ?_)))
  rw [if_pos (by decide)]
  refine wpAny_bind (sapp_rev hs pk ?_)
  have no1 : ¬ ((((items.size : Int) - 1) == 0 && (-1 : Int) == 1 && items.size == items.size) = true) := by
    rw [show ((-1 : Int) == 1) = false from rfl, Bool.and_false, Bool.false_and]
    decide
  show wpAny _ _ (if (((items.size : Int) - 1) == 0 && (-1 : Int) == 1 && items.size == items.size) = true then _ else _) _ _ s
  rw [if_neg no1, pick_rev]
  first
    | exact wpAny_bind (m := Builtin.Tuple.tupleExact _) (wpAny_newObj_type (wpAny_pure ⟨_, rfl, wpAny_pure h⟩) okz)
    | exact wpAny_bind (m := Builtin.Tuple.tupleExact _) (wpAny_newObj_type (wpAny_bind (wpAny_pure (wpAny_pure ⟨_, rfl, wpAny_pure h⟩))) okz)
    | exact wpAny_bind (wpAny_bind (m := Builtin.Tuple.tupleExact _) (wpAny_newObj_type (wpAny_pure (wpAny_pure ⟨_, rfl, wpAny_pure h⟩)) okz))
    | exact wpAny_bind (wpAny_bind (m := Builtin.Tuple.tupleExact _) (wpAny_newObj_type (wpAny_pure ⟨_, rfl, wpAny_pure h⟩) okz))
end
/-- x[::-1] of a tuple or a list -/
def tRev (K : PySem.W.Frag) (te : TE) : TE := fun σ H Q => te σ H fun x H1 => ∃ a xs, x = V.ref a ∧ ((SqT K H1 a xs ∧ ∀ p, H1 p = none → Q (.ref p) (upd H1 p (.tup xs.reverse))) ∨ (SqL K H1 a xs ∧ ∀ p, H1 p = none → Q (.ref p) (upd H1 p (.lst xs.reverse))))
theorem pe_rev {X : Cx} {e : Expr} {te : TE} {k : Nat} {p1 p2 p3 pos : Pos} (he : PE X e te) : PE X (.Subscript e (.Slice none none (some (.UnaryOp .USub (.Constant (.int 1) k p1) p2)) p3) pos) (tRev X.K te) := by
  refine ⟨fun pins s σ H Q I h => Subscript_ (thn (he.run pins s σ H _ I h) fun v s1 ⟨x, H1, I1, r1, a, xs, ex, q1⟩ => ?_)⟩
  subst ex
  cases r1
  have minus : PO X (some (.UnaryOp .USub (.Constant (.int 1) k p1) p2)) (tPart (tUn (rU fun i => .int (-i)) (tC (.int 1)))) := po_some (pe_un un_neg pe_int)
  refine wpAny_Slice (thn (po_none.run pins s1 σ H1 (fun o Ha => o = none ∧ Ha = H1) I1 ⟨rfl, rfl⟩) fun v2 s2 ⟨o2, H2, I2, p2', e2, f2⟩ => ?_)
  subst e2 f2
  refine thn (po_none.run pins s2 σ H2 (fun o Ha => o = none ∧ Ha = H2) I2 ⟨rfl, rfl⟩) fun v3 s3 ⟨o3, H3, I3, p3', e3, f3⟩ => ?_
  subst e3 f3
  refine thn (minus.run pins s3 σ H3 (fun o Ha => o = some (-1) ∧ Ha = H3) I3 ⟨1, rfl, -1, rfl, rfl, rfl⟩) fun v4 s4 ⟨o4, H4, I4, p4', e4, f4⟩ => ?_
  subst e4 f4
  cases p2'
  cases p3'
  have I5 : Inv X pins σ H4 { s4 with heap := s4.heap.push { cls := .type "slice", data := .fields #[.none, .none, v4] } } := I4.kept (t' := s4.toks) fun b ob q => Heap.get?_push_of_some _ q
  show wpAny (model X.prog X.w) X.A (subscriptTail e (.Slice none none (some (.UnaryOp .USub (.Constant (.int 1) k p1) p2)) p3) (.ref a) (.ref s4.heap.objs.size)) (EP X pins σ Q) X.xe _
  rcases q1 with ⟨hx, q⟩ | ⟨hx, q⟩
  · obtain ⟨its, r, ht, hz⟩ := I5.tuple hx
    have hlen := r.length
    refine tail_any (ops := [.ref a, .ref s4.heap.objs.size]) ht.typeIs slot_tuple_getitem.lookup (getItem_rev ht (Heap.IsSliceOf.new _ .none .none v4) p4' (by rw [List.size_toArray]; omega) ?_) (by with_unfolding_all rfl)
    refine ⟨.ref _, _, I5.laid (t' := s4.toks) (o := .tup xs.reverse) (fun b ob q => Heap.get?_push_of_some _ q) (Nat.le_refl _) ?_, rfl, q _ (I5.hok.fresh (Nat.le_refl _))⟩
    exact ⟨by rw [List.length_reverse]; omega, _, r.reverse, IsTup.new _ _⟩
  · obtain ⟨its, r, ht, hz⟩ := I5.list hx
    have hlen := r.length
    refine tail_any (ops := [.ref a, .ref s4.heap.objs.size]) ht.isList.typeIs (PySem.slot_list_getitem.lookup) (wpAny_getItem_list_slice ht.isList (Heap.IsSliceOf.new _ .none .none v4) .none .none p4' (by decide) ?_ (by rw [List.size_toArray]; omega)) (by with_unfolding_all rfl)
    rw [PySem.W.krv_pick]
    refine ⟨.ref _, _, I5.laid (t' := s4.toks) (o := .lst xs.reverse) (fun b ob q => Heap.get?_push_of_some _ q) (Nat.le_refl _) ?_, rfl, q _ (I5.hok.fresh (Nat.le_refl _))⟩
    exact ⟨by rw [List.length_reverse]; exact hz, _, 0, r.reverse, Heap.get?_push_size _ rfl⟩
end GT

set_option Elab.async false
set_option linter.all false
set_option maxRecDepth 100000
set_option maxHeartbeats 4000000
/-! D39: x[::-1] of a tuple or a list. -/
namespace DL
open PySem PySem.Spec PyProof.Rows L2 SrtO
variable {Tb : Pm}
def revD : D → Option R
  | .tup ds => if puL ds = true then some (.val (.tup ds.reverse)) else none
  | .lst ds => if puL ds = true then some (.own (.lst ds.reverse)) else none
  | _ => none
def gRev (ga : G) : G := fun δ => (ga δ).bind fun r => revD r.d
theorem puL_rev : ∀ {ds : List D}, puL ds = true → puL ds.reverse = true
  | [], _ => rfl
  | d :: ds, h => by
    have h : (pu d && puL ds) = true := h
    rw [Bool.and_eq_true] at h
    rw [List.reverse_cons]
    rw [puL_append, puL_rev h.2]
    show (true && (pu d && true)) = true
    rw [h.1]; rfl
theorem de_rev {X : Cx} {a : Expr} {ga : G} {k : Nat} {p1 p2 p3 pos : Pos} (ha : DE Tb X a ga) : DE Tb X (.Subscript a (.Slice none none (some (.UnaryOp .USub (.Constant (.int 1) k p1) p2)) p3) pos) (gRev ga) := by
  refine ⟨pe_imp (GT.pe_rev ha.pe) fun σ H Q h => ?_⟩
  obtain ⟨B, C, δ, Φ, r, S, e, kk⟩ := h
  obtain ⟨x, e1, e2⟩ := bind1_some e
  refine ⟨B, C, δ, Φ, x, S, e1, fun v H1 φ s q f n => ?_⟩
  have q := q.rp S.bc (S.ch.trans s)
  unfold revD at e2
  split at e2
  · rename_i ds hx
    rw [hx] at q
    split at e2
    · rename_i hp
      cases e2
      unfold Rp at q
      obtain ⟨p, xs, rfl, hq, r⟩ := q
      refine ⟨p, xs, rfl, .inl ⟨hq, fun t ht => kk _ _ [] (s.trans (same_upd ht)) ?_ no_fresh List.nodup_nil⟩⟩
      have mk : mkR (.tup ds.reverse) = .val (.tup ds.reverse) := if_pos (puL_rev hp)
      rw [← mk]
      refine rr_mk ?_
      unfold Rp
      exact ⟨t, _, rfl, SqT.of upd_same, (RpL.reverse r).mono (same_upd ht)⟩
    · cases e2
  · rename_i ds hx
    rw [hx] at q
    split at e2
    · rename_i hp
      cases e2
      unfold Rp at q
      obtain ⟨p, xs, rfl, hq, r⟩ := q
      exact ⟨p, xs, rfl, .inr ⟨SqL.of hq, fun t ht => kk _ _ [t] (s.trans (same_upd ht)) (ow_new ht (RpL.reverse r) (puL_rev hp)) (fun b hb => by rw [List.mem_singleton.mp hb]; exact s.free ht) (by simp)⟩⟩
    · cases e2
  · cases e2
@[simp] theorem ev_rev {ga : G} {δ : DSt} : gRev ga δ = (ga δ).bind fun r => revD r.d := (rfl)
end DL

set_option Elab.async false
set_option linter.all false
set_option maxRecDepth 100000
set_option maxHeartbeats 4000000
/-! M0: evaluating over plain data. -/
namespace DL
open PySem PySem.Spec PyProof.Rows L2
section
variable {δ : DSt} {g ga gb gc : G} {gs : GA} {i : Nat}
@[simp] theorem ev_var : gVar i δ = (δ.getD i .no).rd := (rfl)
@[simp] theorem ev_c {d : D} : gC d δ = some (.val d) := (rfl)
@[simp] theorem ev_op {p : D → D → Option R} : gOp p ga gb δ = (ga δ).bind fun x => (gb δ).bind fun y => p x.d y.d := (rfl)
@[simp] theorem ev_T : gT g δ = (g δ).bind asB := (rfl)
@[simp] theorem asB_bl {k : Bool} : asB (.val (.bl k)) = some k := (rfl)
@[simp] theorem ev_chain {p q : D → D → Option R} : gChain p q ga gb gc δ = (ga δ).bind fun x => (gb δ).bind fun y => (p x.d y.d).bind fun r => (asB r).bind fun k => if k = true then (gc δ).bind fun z => q y.d z.d else some (.val (.bl false)) := (rfl)
@[simp] theorem ev_tru : gTru g δ = (g δ).bind fun r => tru r.d := (rfl)
@[simp] theorem ev_notT {g : GT} : gNotT g δ = (g δ).map (!·) := (rfl)
@[simp] theorem ev_andT {g1 g2 : GT} : gAndT g1 g2 δ = (g1 δ).bind fun k => if k = true then g2 δ else some false := (rfl)
@[simp] theorem ev_orT {g1 g2 : GT} : gOrT g1 g2 δ = (g1 δ).bind fun k => if k = true then some true else g2 δ := (rfl)
@[simp] theorem ev_and : gAnd ga gb δ = (ga δ).bind fun x => (tru x.d).bind fun k => if k = true then gb δ else some x := (rfl)
@[simp] theorem ev_or : gOr ga gb δ = (ga δ).bind fun x => (tru x.d).bind fun k => if k = true then some x else gb δ := (rfl)
@[simp] theorem ev_not : gNot g δ = (g δ).bind fun x => (tru x.d).bind fun k => some (.val (.bl (!k))) := (rfl)
@[simp] theorem ev_ifE {c : GT} : gIfE c ga gb δ = (c δ).bind fun k => if k = true then ga δ else gb δ := (rfl)
@[simp] theorem ev_neg : gNeg g δ = (g δ).bind fun r => match r.d with | .int i => some (.val (.int (-i))) | _ => none := (rfl)
@[simp] theorem ev_ix : gIx ga gb δ = (ga δ).bind fun x => (gb δ).bind fun y => ixR x y.d := (rfl)
@[simp] theorem ev_P : gP g δ = (g δ).bind fun r => match r.d with | .int i => some (some i) | _ => none := (rfl)
@[simp] theorem ev_noP : gNoP δ = some none := (rfl)
@[simp] theorem ev_sl {gl gh : GO} : gSl g gl gh δ = (g δ).bind fun x => (gl δ).bind fun l => (gh δ).bind fun u => slD x.d l u := (rfl)
@[simp] theorem ev_nil : gNil δ = some [] := (rfl)
@[simp] theorem ev_cons : gCons g gs δ = (g δ).bind fun x => (gs δ).bind fun xs => some (x :: xs) := (rfl)
@[simp] theorem ev_tup : gTup gs δ = (gs δ).bind mkTup := (rfl)
@[simp] theorem ev_lst : gLst gs δ = (gs δ).bind mkLst := (rfl)
@[simp] theorem ev_CB {op : List R → Option R} : gCB op gs δ = (gs δ).bind op := (rfl)
@[simp] theorem ev_isi {T : Ty} : gIsi T g δ = (g δ).bind fun r => isiR T r.d := (rfl)
@[simp] theorem ev_call {n : Nat} {F : List D → Option R} : gCall n F gs δ = (gs δ).bind fun rs => if rs.length = n then (F (rs.map R.d)).map R.back else none := (rfl)
@[simp] theorem ev_yes : gYes δ = some true := (rfl)
theorem ev_lc {vs : List Nat} {gi : GI} {gt : GTg} {gc : GT} {ge : G} : gLc vs gi gt gc ge δ = (gi δ).bind fun p => if p.2.length ≤ sizeLine then (lcL vs p.1 gt gc ge δ p.2).map fun ds => .own (.lst ds) else none := (rfl)
@[simp] theorem ev_seq : gSeq g δ = (g δ).bind fun r => (itemsOf r.d).map fun ds => (r.kd, ds.map SI.one) := (rfl)
@[simp] theorem ev_enum : gEnum g δ = (g δ).bind fun r => (itemsOf r.d).map fun ds => (r.kd, enumFrom 0 ds) := (rfl)
@[simp] theorem ev_rng1 : gRng1 g δ = (g δ).bind fun r => match r.d with | .int b => if small62 b = true then some (.val, rangeL 0 b.toNat) else none | _ => none := (rfl)
@[simp] theorem ev_rng2 {h : G} : gRng2 g h δ = (g δ).bind fun r => (h δ).bind fun s => match r.d, s.d with | .int a, .int b => if small62 a = true ∧ small62 b = true then some (.val, rangeL a (b - a).toNat) else none | _, _ => none := (rfl)
-- statements
variable {g1 g2 : GS}
@[simp] theorem ev_nop : gNop δ = some (.nx δ) := (rfl)
@[simp] theorem ev_brk : gBrk δ = some (.bk δ) := (rfl)
@[simp] theorem ev_cnt : gCnt δ = some (.ct δ) := (rfl)
/-- what follows a statement -/
def seqK (o : Option O) (g : GS) : Option O := match o with
  | some (.nx δ) => g δ
  | o => o
@[simp] theorem seqK_nx {g : GS} : seqK (some (.nx δ)) g = g δ := (rfl)
@[simp] theorem seqK_rt {g : GS} {r : R} : seqK (some (.rt r)) g = some (.rt r) := (rfl)
@[simp] theorem seqK_bk {g : GS} : seqK (some (.bk δ)) g = some (.bk δ) := (rfl)
@[simp] theorem seqK_ct {g : GS} : seqK (some (.ct δ)) g = some (.ct δ) := (rfl)
@[simp] theorem seqK_ex {g : GS} {c : Str} : seqK (some (.ex c δ)) g = some (.ex c δ) := (rfl)
@[simp] theorem ev_seq2 : gSeq2 g1 g2 δ = seqK (g1 δ) g2 := by
  unfold gSeq2 seqK
  cases g1 δ with
  | none => rfl
  | some o => cases o <;> rfl
/-- a branch -/
def ifK (c : Option Bool) (g1 g2 : GS) (δ : DSt) : Option O := c.bind fun k => if k = true then g1 δ else g2 δ
@[simp] theorem ifK_t : ifK (some true) g1 g2 δ = g1 δ := (rfl)
@[simp] theorem ifK_f : ifK (some false) g1 g2 δ = g2 δ := (rfl)
theorem ifK_some {b : Bool} : ifK (some b) g1 g2 δ = if b = true then g1 δ else g2 δ := by cases b <;> rfl
@[simp] theorem ev_set : gSet i g δ = (g δ).bind fun r => (store i r δ).map .nx := (rfl)
@[simp] theorem ev_asg {gt : GTg} : gAsg g gt δ = (g δ).bind fun r => (gt (.one r) δ).map .nx := (rfl)
@[simp] theorem ev_aug {p : D → D → Option R} : gAug i p g δ = ((δ.getD i .no).rd).bind fun x => (g δ).bind fun y => (p x.d y.d).bind fun r => (store i r δ).map .nx := (rfl)
@[simp] theorem ev_ret : gRet g δ = (g δ).map .rt := (rfl)
@[simp] theorem ev_retN : gRetN δ = some (.rt (.val .non)) := (rfl)
def retVK (s : Sl) : Option O := match s with
  | .own d => some (.rt (.own d))
  | s => s.rd.map .rt
@[simp] theorem retVK_own {d : D} : retVK (.own d) = some (.rt (.own d)) := (rfl)
@[simp] theorem retVK_val {d : D} : retVK (.val d) = some (.rt (.val d)) := (rfl)
@[simp] theorem retVK_par {d : D} : retVK (.par d) = some (.rt (.par d)) := (rfl)
@[simp] theorem ev_retV : gRetV i δ = retVK (δ.getD i .no) := by
  unfold gRetV retVK
  cases δ.getD i .no <;> rfl
@[simp] theorem ev_if {c : GT} : gIf c g1 g2 δ = ifK (c δ) g1 g2 δ := (rfl)
/-- an append -/
def appK (i : Nat) (δ : DSt) (s : Sl) (r : R) : Option O := match s with
  | .own (.lst ds) => if ds.length < sizeLine ∧ r.okEl = true then some (.nx (purge (δ.set i (.own (.lst (ds ++ [r.d])))))) else none
  | _ => none
@[simp] theorem ev_app : gApp i g δ = (g δ).bind fun r => appK i δ (δ.getD i .no) r := by
  unfold gApp appK
  rfl
theorem appK_own {ds : List D} {r : R} (h : ds.length < sizeLine) (h2 : r.okEl = true) : appK i δ (.own (.lst ds)) r = some (.nx (purge (δ.set i (.own (.lst (ds ++ [r.d])))))) := by
  show (if ds.length < sizeLine ∧ r.okEl = true then _ else _) = _
  rw [if_pos ⟨h, h2⟩]
@[simp] theorem okEl_val {d : D} : (R.val d).okEl = true := (rfl)
@[simp] theorem okEl_own {d : D} : (R.own d).okEl = true := (rfl)
@[simp] theorem ev_purge_nil : purge [] = [] := (rfl)
@[simp] theorem ev_purge_cons {s : Sl} : purge (s :: δ) = s.purge :: purge δ := (rfl)
@[simp] theorem purge_val {d : D} : (Sl.val d).purge = .val d := (rfl)
@[simp] theorem purge_own {d : D} : (Sl.own d).purge = .own d := (rfl)
@[simp] theorem purge_par {d : D} : (Sl.par d).purge = .par d := (rfl)
@[simp] theorem purge_fr {d : D} : (Sl.fr d).purge = .fr d := (rfl)
@[simp] theorem purge_lck {d : D} : (Sl.lck d).purge = .lck d := (rfl)
@[simp] theorem purge_no : Sl.no.purge = .no := (rfl)
@[simp] theorem purge_bor {d : D} : (Sl.bor d).purge = .no := (rfl)
/-- a store -/
def stK (i : Nat) (r : R) (δ : DSt) (s : Sl) : Option DSt := match s with
  | .lck _ => none
  | _ => some (δ.set i r.sl)
theorem ev_store {r : R} (h : i < δ.length) : store i r δ = stK i r δ (δ.getD i .no) := by
  unfold store stK
  refine (if_pos h).trans ?_
  cases List.getD δ i Sl.no <;> rfl
@[simp] theorem stK_no {r : R} : stK i r δ .no = some (δ.set i r.sl) := (rfl)
@[simp] theorem stK_val {r : R} {d : D} : stK i r δ (.val d) = some (δ.set i r.sl) := (rfl)
@[simp] theorem stK_par {r : R} {d : D} : stK i r δ (.par d) = some (δ.set i r.sl) := (rfl)
@[simp] theorem stK_fr {r : R} {d : D} : stK i r δ (.fr d) = some (δ.set i r.sl) := (rfl)
@[simp] theorem stK_bor {r : R} {d : D} : stK i r δ (.bor d) = some (δ.set i r.sl) := (rfl)
@[simp] theorem stK_own {r : R} {d : D} : stK i r δ (.own d) = some (δ.set i r.sl) := (rfl)
@[simp] theorem sl_val {d : D} : (R.val d).sl = .val d := (rfl)
@[simp] theorem sl_par {d : D} : (R.par d).sl = .par d := (rfl)
@[simp] theorem sl_fr {d : D} : (R.fr d).sl = .fr d := (rfl)
@[simp] theorem sl_bor {d : D} : (R.bor d).sl = .bor d := (rfl)
@[simp] theorem sl_own {d : D} : (R.own d).sl = .own d := (rfl)
/-- a def's end -/
def retK (o : Option O) : Option R := match o with
  | some (.nx _) => some (.val .non)
  | some (.rt r) => r.ret
  | _ => none
@[simp] theorem retK_nx : retK (some (.nx δ)) = some (.val .non) := (rfl)
@[simp] theorem retK_rt {r : R} : retK (some (.rt r)) = r.ret := (rfl)
theorem ev_run {n : Nat} {ds : List D} : runF n g1 ds = retK (g1 (startD n ds)) := by
  unfold runF retK
  cases g1 (startD n ds) with
  | none => rfl
  | some o => cases o <;> rfl
@[simp] theorem ev_name {r : R} : gName i (.one r) δ = store i r δ := (rfl)
@[simp] theorem ev_tupT {n : Nat} {gs : GTgs} {it : Itm} : gTupT n gs it δ = it.parts.bind fun rs => if rs.length = n then gs rs δ else none := (rfl)
@[simp] theorem ev_tgnil : gsNil [] δ = some δ := (rfl)
@[simp] theorem ev_tgcons {gt : GTg} {gs : GTgs} {r : R} {rs : List R} : gsCons gt gs (r :: rs) δ = (gt (.one r) δ).bind fun δ1 => gs rs δ1 := (rfl)
end
-- slots
@[simp] theorem rd_val {d : D} : (Sl.val d).rd = some (.val d) := (rfl)
@[simp] theorem rd_par {d : D} : (Sl.par d).rd = some (.par d) := (rfl)
@[simp] theorem rd_fr {d : D} : (Sl.fr d).rd = some (.fr d) := (rfl)
@[simp] theorem rd_bor {d : D} : (Sl.bor d).rd = some (.bor d) := (rfl)
@[simp] theorem rd_lck {d : D} : (Sl.lck d).rd = some (.fr d) := (rfl)
@[simp] theorem rd_own {d : D} : (Sl.own d).rd = some (.bor d) := (rfl)
-- words
/-- a word -/
def eW (w : List Int) : D := .tup (w.map .int)
@[simp] theorem pu_int {i : Int} : pu (.int i) = true := (rfl)
@[simp] theorem pu_bl {i : Bool} : pu (.bl i) = true := (rfl)
@[simp] theorem pu_non : pu .non = true := (rfl)
@[simp] theorem pu_tup {ds : List D} : pu (.tup ds) = puL ds := (rfl)
@[simp] theorem pu_lst {ds : List D} : pu (.lst ds) = false := (rfl)
@[simp] theorem pu_scr {ds : List Int} : pu (.scr ds) = false := (rfl)
@[simp] theorem puL_nil : puL [] = true := (rfl)
@[simp] theorem puL_cons {d : D} {ds : List D} : puL (d :: ds) = (pu d && puL ds) := (rfl)
@[simp] theorem pu_eW {w : List Int} : pu (eW w) = true := puL_ints w
theorem pdL_ints (w : List Int) : pdL (w.map .int) = w.map PyData.int := by
  induction w with
  | nil => rfl
  | cons a w ih => show PyData.int a :: pdL (w.map .int) = _; rw [ih]; rfl
theorem canLayAll_ints (w : List Int) : PyData.canLayAll0 (w.map PyData.int) = true := by
  induction w with
  | nil => rfl
  | cons a w ih => show (true && PyData.canLayAll0 (w.map PyData.int)) = true; rw [ih]; rfl
theorem depthAll_ints (w : List Int) : PyData.depthAll (w.map PyData.int) = 0 := by
  induction w with
  | nil => rfl
  | cons a w ih => show max 0 (PyData.depthAll (w.map PyData.int)) = 0; rw [ih]; rfl
theorem hdL_ints (w : List Int) : hdL (w.map .int) = true := by
  induction w with
  | nil => rfl
  | cons a w ih => show (true && hdL (w.map .int)) = true; rw [ih]; rfl
@[simp] theorem eqOk_eW {w : List Int} : eqOk (eW w) = true := by
  show (hdL (w.map .int) && SeqAt.shaped (.tuple (pdL (w.map .int)))) = true
  rw [hdL_ints, Bool.true_and]
  rw [pdL_ints]
  unfold SeqAt.shaped
  have h1 : PyData.canLay0 (.tuple (w.map PyData.int)) = true := canLayAll_ints w
  have h2 : PyData.depth (.tuple (w.map PyData.int)) = 1 := by show PyData.depthAll (w.map PyData.int) + 1 = 1; rw [depthAll_ints]
  rw [h1, h2]; rfl
@[simp] theorem eqOk_int {i : Int} : eqOk (.int i) = true := (rfl)
@[simp] theorem eqOk_non : eqOk .non = true := (rfl)
@[simp] theorem eqOk_bl {b : Bool} : eqOk (.bl b) = true := (rfl)
theorem eqvAll_ints (w p : List Int) : PyData.eqvAll (w.map PyData.int) (p.map PyData.int) = decide (w = p) := by
  induction w generalizing p with
  | nil => cases p <;> rfl
  | cons a w ih =>
    cases p with
    | nil => rfl
    | cons b p =>
      show ((a == b) && PyData.eqvAll (w.map PyData.int) (p.map PyData.int)) = _
      rw [ih]
      by_cases h : a = b <;> by_cases h2 : w = p <;> simp [h, h2]
@[simp] theorem eqB_eW {w p : List Int} : eqB (eW w) (eW p) = decide (w = p) := by
  show PyData.eqvAll (pdL (w.map .int)) (pdL (p.map .int)) = _
  rw [pdL_ints, pdL_ints, eqvAll_ints]
@[simp] theorem eqB_int {i j : Int} : eqB (.int i) (.int j) = decide (i = j) := by
  show (i == j) = _
  exact Bool.beq_eq_decide_eq ..
theorem cutL_map {α β : Type} (f : α → β) (xs : List α) (lo hi : Option Int) : cutL (xs.map f) lo hi = (cutL xs lo hi).map f := by
  unfold cutL
  rw [List.length_map, List.map_take, List.map_drop]
@[simp] theorem slD_eW {w : List Int} {lo hi : Option Int} : slD (eW w) lo hi = some (.val (eW (cutL w lo hi))) := by
  show some (mkR (.tup (cutL (w.map .int) lo hi))) = _
  rw [cutL_map]
  exact congrArg some (mkR_pu (puL_ints _))
@[simp] theorem oLen_eW {w : List Int} : oLen [.val (eW w)] = some (.val (.int w.length)) := by
  show some (R.val (.int ((w.map D.int).length : Nat))) = _
  rw [List.length_map]
@[simp] theorem addD_int {i j : Int} : addD (.int i) (.int j) = some (.val (.int (i + j))) := (rfl)
@[simp] theorem subD_int {i j : Int} : subD (.int i) (.int j) = some (.val (.int (i - j))) := (rfl)
@[simp] theorem leD_int {i j : Int} : leD (.int i) (.int j) = some (.val (.bl (decide (i ≤ j)))) := (rfl)
@[simp] theorem ltD_int {i j : Int} : ltD (.int i) (.int j) = some (.val (.bl (decide (i < j)))) := (rfl)
@[simp] theorem gtD_int {i j : Int} : gtD (.int i) (.int j) = some (.val (.bl (decide (j < i)))) := (rfl)
@[simp] theorem geD_int {i j : Int} : geD (.int i) (.int j) = some (.val (.bl (decide (j ≤ i)))) := (rfl)
@[simp] theorem eqD_eW {w p : List Int} : eqD (eW w) (eW p) = some (.val (.bl (decide (w = p)))) := by unfold eqD; simp
@[simp] theorem neD_eW {w p : List Int} : neD (eW w) (eW p) = some (.val (.bl (!decide (w = p)))) := by unfold neD; simp
@[simp] theorem eqD_int {w p : Int} : eqD (.int w) (.int p) = some (.val (.bl (decide (w = p)))) := by unfold eqD; simp
@[simp] theorem neD_int {w p : Int} : neD (.int w) (.int p) = some (.val (.bl (!decide (w = p)))) := by unfold neD; simp
@[simp] theorem tru_bl {b : Bool} : tru (.bl b) = some b := (rfl)
@[simp] theorem tru_int {b : Int} : tru (.int b) = some (b != 0) := (rfl)
@[simp] theorem tru_non : tru .non = some false := (rfl)
@[simp] theorem argS_eW {w : List Int} : argS (eW w) = .val (eW w) := by unfold argS; simp
@[simp] theorem argS_int {i : Int} : argS (.int i) = .val (.int i) := (rfl)
@[simp] theorem argS_non : argS .non = .val .non := (rfl)
@[simp] theorem argS_bl {i : Bool} : argS (.bl i) = .val (.bl i) := (rfl)
@[simp] theorem argS_lst {ds : List D} : argS (.lst ds) = .par (.lst ds) := (rfl)
@[simp] theorem argS_scr {ds : List Int} : argS (.scr ds) = .par (.scr ds) := (rfl)
@[simp] theorem ret_val {d : D} : (R.val d).ret = some (.val d) := (rfl)
@[simp] theorem ret_own {d : D} : (R.own d).ret = some (.own d) := (rfl)
@[simp] theorem back_val {d : D} : (R.val d).back = .val d := (rfl)
@[simp] theorem back_own {d : D} : (R.own d).back = .own d := (rfl)

section
variable {δ : DSt} {g : GX} {gs : GA} {g1 g2 : GS} {i : Nat}
@[simp] theorem ev_callX {n : Nat} {F : List D → Option RX} : gCallX n F gs δ = (gs δ).bind fun rs => if rs.length = n then (F (rs.map R.d)).map RX.back else none := (rfl)
def setXK (i : Nat) (δ : DSt) (x : RX) : Option O := match x with
  | .ok r => (store i r δ).map .nx
  | .ex c => some (.ex c δ)
@[simp] theorem setXK_ok {r : R} : setXK i δ (.ok r) = (store i r δ).map .nx := (rfl)
@[simp] theorem setXK_ex {c : Str} : setXK i δ (.ex c) = some (.ex c δ) := (rfl)
@[simp] theorem ev_setX : gSetX i g δ = (g δ).bind (setXK i δ) := by
  unfold gSetX
  cases g δ with
  | none => rfl
  | some x => cases x <;> rfl
def retXK (δ : DSt) (x : RX) : O := match x with
  | .ok r => .rt r
  | .ex c => .ex c δ
@[simp] theorem retXK_ok {r : R} : retXK δ (.ok r) = .rt r := (rfl)
@[simp] theorem retXK_ex {c : Str} : retXK δ (.ex c) = .ex c δ := (rfl)
@[simp] theorem ev_retX : gRetX g δ = (g δ).map (retXK δ) := by
  unfold gRetX
  cases g δ with
  | none => rfl
  | some x => cases x <;> rfl
@[simp] theorem ev_raise {c : Str} : gRaise c δ = some (.ex c δ) := (rfl)
@[simp] theorem backX_ok {r : R} : (RX.ok r).back = .ok r.back := (rfl)
@[simp] theorem backX_ex {c : Str} : (RX.ex c).back = .ex c := (rfl)
/-- a raising def's end -/
def retKX (o : Option O) : Option RX := match o with
  | some (.nx _) => some (.ok (.val .non))
  | some (.rt r) => r.ret.map .ok
  | some (.ex c _) => some (.ex c)
  | _ => none
@[simp] theorem retKX_nx : retKX (some (.nx δ)) = some (.ok (.val .non)) := (rfl)
@[simp] theorem retKX_rt {r : R} : retKX (some (.rt r)) = r.ret.map .ok := (rfl)
@[simp] theorem retKX_ex {c : Str} : retKX (some (.ex c δ)) = some (.ex c) := (rfl)
theorem ev_runX {n : Nat} {ds : List D} : runFX n g1 ds = retKX (g1 (startD n ds)) := by
  unfold runFX retKX
  cases g1 (startD n ds) with
  | none => rfl
  | some o => cases o <;> rfl
theorem ev_gen {stop : Bool} {vs : List Nat} {gi : GI} {gt : GTg} {ge : G} : gGen stop vs gi gt ge δ = (gi δ).bind fun p => (genL stop p.1 gt ge p.2 (wipeD δ vs)).map fun b => .val (.bl b) := (rfl)
/-- try -/
def tryK (x : Str) (i : Nat) (gs : GS) (o : Option O) : Option O := match o with
  | some (.ex c δ) => tryE x i gs c δ
  | o => o
@[simp] theorem tryK_nx {x : Str} : tryK x i g2 (some (.nx δ)) = some (.nx δ) := (rfl)
@[simp] theorem tryK_rt {x : Str} {r : R} : tryK x i g2 (some (.rt r)) = some (.rt r) := (rfl)
@[simp] theorem tryK_ex {x : Str} {c : Str} : tryK x i g2 (some (.ex c δ)) = tryE x i g2 c δ := (rfl)
@[simp] theorem ev_try {x : Str} : gTry x i g1 g2 δ = tryK x i g2 (g1 δ) := by
  unfold gTry tryK
  cases g1 δ with
  | none => rfl
  | some o => cases o <;> rfl
def dropK (i : Nat) (o : Option O) : Option O := match o with
  | some (.nx δ) => (dropExc i δ).map .nx
  | some (.bk δ) => (dropExc i δ).map .bk
  | some (.ct δ) => (dropExc i δ).map .ct
  | some (.rt r) => some (.rt r)
  | _ => none
theorem ev_tryE {x : Str} : tryE x i g2 x δ = (putExc i x δ).bind fun δ2 => dropK i (g2 δ2) := by
  unfold tryE
  refine (if_pos rfl).trans ?_
  cases putExc i x δ with
  | none => rfl
  | some d2 =>
    simp only [Option.bind_some]
    unfold dropK
    cases g2 d2 with
    | none => rfl
    | some o => cases o <;> rfl
@[simp] theorem dropK_nx : dropK i (some (.nx δ)) = (dropExc i δ).map .nx := (rfl)
@[simp] theorem dropK_rt {r : R} : dropK i (some (.rt r)) = some (.rt r) := (rfl)
/-- isinstance of the exception -/
def isEK (b : Bool) (s : Sl) : Option R := match s with
  | .exc _ => some (.val (.bl b))
  | _ => none
@[simp] theorem isEK_exc {b : Bool} {c : Str} : isEK b (.exc c) = some (.val (.bl b)) := (rfl)
@[simp] theorem ev_isE {b : Bool} : gIsE i b δ = isEK b (δ.getD i .no) := by
  unfold gIsE isEK
  rfl
@[simp] theorem noExc_nil : noExc [] = true := (rfl)
@[simp] theorem noExc_cons {s : Sl} : noExc (s :: δ) = ((match s with | .exc _ => false | _ => true) && noExc δ) := (rfl)
def notLck (s : Sl) (d : DSt) : Option DSt := match s with
  | .lck _ => none
  | _ => some d
@[simp] theorem notLck_no {d : DSt} : notLck .no d = some d := (rfl)
@[simp] theorem notLck_exc {d : DSt} {c : Str} : notLck (.exc c) d = some d := (rfl)
theorem ev_put {c : Str} (h : i < δ.length) (n : noExc δ = true) : putExc i c δ = notLck (δ.getD i .no) (δ.set i (.exc c)) := by
  unfold putExc notLck
  refine (if_pos ⟨h, n⟩).trans ?_
  cases List.getD δ i Sl.no <;> rfl
theorem ev_drop (n : noExc (δ.set i .no) = true) : dropExc i δ = notLck (δ.getD i .no) (δ.set i .no) := by
  unfold dropExc notLck
  refine (if_pos n).trans ?_
  cases List.getD δ i Sl.no <;> rfl
end

section
variable {δ : DSt} {ga gb : G} {i : Nat}
@[simp] theorem ev_stx : gStx i ga gb δ = (gb δ).bind fun r => (ga δ).bind fun j => stxK i δ (δ.getD i .no) j.d r := (rfl)
theorem stxK_own {ds : List D} {j : Int} {n : Nat} {d : D} (h : ixN ds.length j = some n) : stxK i δ (.own (.lst ds)) (.int j) (.val d) = some (.nx (purge (δ.set i (.own (.lst (ds.set n d)))))) := by
  show (ixN ds.length j).map _ = _
  rw [h]; rfl
end
end DL

set_option Elab.async false
set_option linter.all false
set_option maxRecDepth 100000
set_option maxHeartbeats 4000000
/-! M1: arithmetic, rows, loops over plain data. -/
namespace DL
open PySem PySem.Spec PyProof.Rows L2
@[simp] theorem modD_int {i j : Int} (h : 0 < j) : modD (.int i) (.int j) = some (.val (.int (i % j))) := by
  show (if 0 < j then some (D.int (i % j)) else none).map R.val = _
  rw [if_pos h]; rfl
@[simp] theorem fdivD_int {i j : Int} (h : 0 < j) (h1 : j < 1073741824) : fdivD (.int i) (.int j) = some (.val (.int (i / j))) := by
  show (if 0 < j ∧ j < 1073741824 then some (D.int (i / j)) else none).map R.val = _
  rw [if_pos ⟨h, h1⟩]; rfl
theorem mulD_l {i j : Int} (h : -18446744073709551616 < i) (h1 : i < 18446744073709551616) : mulD (.int i) (.int j) = some (.val (.int (i * j))) := by
  show (if (-(2 ^ 64) < i ∧ i < 2 ^ 64) ∨ (-(2 ^ 64) < j ∧ j < 2 ^ 64) then some (D.int (i * j)) else none).map R.val = _
  rw [if_pos (.inl ⟨by omega, by omega⟩)]; rfl
theorem mulD_r {i j : Int} (h : -18446744073709551616 < j) (h1 : j < 18446744073709551616) : mulD (.int i) (.int j) = some (.val (.int (i * j))) := by
  show (if (-(2 ^ 64) < i ∧ i < 2 ^ 64) ∨ (-(2 ^ 64) < j ∧ j < 2 ^ 64) then some (D.int (i * j)) else none).map R.val = _
  rw [if_pos (.inr ⟨by omega, by omega⟩)]; rfl
@[simp] theorem pow_10_18 : powD (.int 10) (.int 18) = some (.val (.int 1000000000000000000)) := by
  have h : powD (.int 10) (.int 18) = some (.val (.int (10 ^ 18))) := rfl
  rw [h, show (10 : Int) ^ 18 = 1000000000000000000 by omega]
@[simp] theorem oInt_val {i : Int} : oInt [.val (.int i)] = some (.val (.int i)) := (rfl)
/-- a list of ints -/
def eL (r : List Int) : D := .lst (r.map .int)
@[simp] theorem pu_eL {r : List Int} : pu (eL r) = false := (rfl)
@[simp] theorem argS_eL {r : List Int} : argS (eL r) = .par (eL r) := (rfl)
theorem atI_get? {α : Type} {xs : List α} {i : Int} (h0 : 0 ≤ i) (h1 : i < xs.length) : atI xs i = xs[i.toNat]? := by
  unfold atI ixN
  rw [if_pos h0, if_pos h1]; rfl
theorem atI_some {α : Type} {xs : List α} {i : Int} (h0 : 0 ≤ i) (h1 : i < xs.length) (d : α) : atI xs i = some (xs.getD i.toNat d) := by
  rw [atI_get? h0 h1, List.getD_eq_getElem?_getD]
  have : i.toNat < xs.length := by omega
  rw [List.getElem?_eq_getElem this]; rfl
theorem atI_ints {xs : List Int} {i : Int} (h0 : 0 ≤ i) (h1 : i < xs.length) : atI (xs.map D.int) i = some (.int (xs.getD i.toNat 0)) := atI_map (atI_some h0 h1 0)
theorem ix_par {r : List Int} {i : Int} (h0 : 0 ≤ i) (h1 : i < r.length) : ixR (.par (eL r)) (.int i) = some (.val (.int (r.getD i.toNat 0))) := by
  show (atI (r.map D.int) i).map _ = _
  rw [atI_ints h0 h1]; rfl
theorem ix_bor {r : List Int} {i : Int} (h0 : 0 ≤ i) (h1 : i < r.length) : ixR (.bor (eL r)) (.int i) = some (.val (.int (r.getD i.toNat 0))) := by
  show (atI (r.map D.int) i).map _ = _
  rw [atI_ints h0 h1]; rfl
theorem ix_fr {r : List Int} {i : Int} (h0 : 0 ≤ i) (h1 : i < r.length) : ixR (.fr (eL r)) (.int i) = some (.val (.int (r.getD i.toNat 0))) := by
  show (atI (r.map D.int) i).map _ = _
  rw [atI_ints h0 h1]; rfl
theorem ix_eW {r : List Int} {i : Int} (h0 : 0 ≤ i) (h1 : i < r.length) : ixR (.val (eW r)) (.int i) = some (.val (.int (r.getD i.toNat 0))) := by
  show (atI (r.map D.int) i).map _ = _
  rw [atI_ints h0 h1]; rfl
theorem ix_scr {r : List Int} {i : Int} (h0 : 0 ≤ i) (h1 : i < r.length) : ixR (.par (.scr r)) (.int i) = some (.val (.int (r.getD i.toNat 0))) := by
  show (atI r i).map (fun n => R.val (.int n)) = _
  rw [atI_some h0 h1 0]; rfl
@[simp] theorem oLen_scr {ns : List Int} : oLen [.par (.scr ns)] = some (.val (.int ns.length)) := (rfl)
theorem oLen_par {ds : List D} : oLen [.par (.lst ds)] = some (.val (.int ds.length)) := (rfl)
theorem oLen_bor {ds : List D} : oLen [.bor (.lst ds)] = some (.val (.int ds.length)) := (rfl)
theorem oLen_fr {ds : List D} : oLen [.fr (.lst ds)] = some (.val (.int ds.length)) := (rfl)
theorem oLen_tup {ds : List D} : oLen [.val (.tup ds)] = some (.val (.int ds.length)) := (rfl)
@[simp] theorem oLen_eLp {r : List Int} : oLen [.par (eL r)] = some (.val (.int r.length)) := by
  show some (R.val (.int ((r.map D.int).length : Nat))) = _
  rw [List.length_map]
@[simp] theorem oLen_eLb {r : List Int} : oLen [.bor (eL r)] = some (.val (.int r.length)) := by
  show some (R.val (.int ((r.map D.int).length : Nat))) = _
  rw [List.length_map]
-- ranges
theorem rangeL_eq (n : Nat) (a : Int) : rangeL a n = (List.range n).map fun k : Nat => SI.one (.int (a + k)) := by
  apply List.ext_getElem?
  intro i
  rw [rangeL_get, List.getElem?_map]
  by_cases h : i < n
  · rw [if_pos h, List.getElem?_eq_getElem (by simpa using h), List.getElem_range]; rfl
  · rw [if_neg h, List.getElem?_eq_none (by simpa using h)]; rfl
theorem rangeL_zero (n : Nat) : rangeL 0 n = (List.range n).map fun k : Nat => SI.one (.int k) := by
  rw [rangeL_eq]
  simp
theorem small62_of {i : Int} (h : -1000000000000 ≤ i) (h1 : i ≤ 1000000000000) : small62 i = true := by
  unfold small62
  exact decide_eq_true ⟨by omega, by omega⟩
/-- a comprehension whose items are all made -/
theorem lcL_map {vs : List Nat} {kd : Kd} {gt : GTg} {gc : GT} {ge : G} {δ : DSt} (f : SI → D) : ∀ {its : List SI}, (∀ it ∈ its, ∃ δ1, gt (kd.itm it) (wipeD δ vs) = some δ1 ∧ gc δ1 = some true ∧ ∃ r, ge δ1 = some r ∧ r.okEl = true ∧ r.d = f it) → lcL vs kd gt gc ge δ its = some (its.map f)
  | [], _ => rfl
  | it :: its, h => by
    obtain ⟨δ1, h1, h2, r, h3, h4, h5⟩ := h it List.mem_cons_self
    have ih := lcL_map (vs := vs) (kd := kd) (gt := gt) (gc := gc) (ge := ge) (δ := δ) f (its := its) fun x hx => h x (List.mem_cons_of_mem _ hx)
    unfold lcL
    rw [h1]
    simp only [Option.bind_some]
    rw [h2]
    simp only [Option.bind_some, if_true]
    rw [h3]
    simp only [Option.bind_some]
    rw [if_pos h4, ih, h5]
    rfl
/-- .. with a test -/
theorem lcL_filter {vs : List Nat} {kd : Kd} {gt : GTg} {gc : GT} {ge : G} {δ : DSt} (p : SI → Bool) (f : SI → D) : ∀ {its : List SI}, (∀ it ∈ its, ∃ δ1, gt (kd.itm it) (wipeD δ vs) = some δ1 ∧ gc δ1 = some (p it) ∧ (p it = true → ∃ r, ge δ1 = some r ∧ r.okEl = true ∧ r.d = f it)) → lcL vs kd gt gc ge δ its = some ((its.filter p).map f)
  | [], _ => rfl
  | it :: its, h => by
    obtain ⟨δ1, h1, h2, h3⟩ := h it List.mem_cons_self
    have ih := lcL_filter (vs := vs) (kd := kd) (gt := gt) (gc := gc) (ge := ge) (δ := δ) p f (its := its) fun x hx => h x (List.mem_cons_of_mem _ hx)
    unfold lcL
    rw [h1]
    simp only [Option.bind_some]
    rw [h2]
    simp only [Option.bind_some]
    cases hp : p it with
    | true =>
      obtain ⟨r, h4, h5, h6⟩ := h3 hp
      rw [if_pos rfl, h4]
      simp only [Option.bind_some]
      rw [if_pos h5, ih, h6, List.filter_cons_of_pos hp]
      rfl
    | false =>
      rw [if_neg (by decide), ih, List.filter_cons_of_neg (by rw [hp]; decide)]
/-- a loop by its invariant; it may be left -/
theorem forL_ex {kd : Kd} {gt : GTg} {gb : GS} (P : Nat → DSt → Prop) (Qb : DSt → Prop) (Q : R → Prop) : ∀ (its : List SI) (n : Nat) (δ : DSt), P n δ → (∀ i it δ, its[i]? = some it → P (n + i) δ → ∃ δ1, gt (kd.itmF it) δ = some δ1 ∧ ∃ o, gb δ1 = some o ∧ (match o with | .nx δ2 => P (n + i + 1) δ2 | .ct δ2 => P (n + i + 1) δ2 | .bk δ2 => Qb δ2 | .rt r => Q r | .ex _ _ => False)) →
    ∃ o, forL kd gt gb its δ = some o ∧ ((∃ δ', o = .nx δ' ∧ (P (n + its.length) δ' ∨ Qb δ')) ∨ ∃ r, o = .rt r ∧ Q r)
  | [], n, δ, h, _ => ⟨_, rfl, .inl ⟨δ, rfl, .inl h⟩⟩
  | it :: its, n, δ, h, hs => by
    obtain ⟨δ1, h1, o, h2, h3⟩ := hs 0 it δ rfl h
    have step : ∀ δ2, P (n + 1) δ2 → ∃ o, forL kd gt gb its δ2 = some o ∧ ((∃ δ', o = .nx δ' ∧ (P (n + (it :: its).length) δ' ∨ Qb δ')) ∨ ∃ r, o = .rt r ∧ Q r) := fun δ2 p => by
      have := forL_ex P Qb Q its (n + 1) δ2 p fun i jt δ3 hi p3 => by
        have q := hs (i + 1) jt δ3 (by simpa using hi) (by rw [show n + (i + 1) = n + 1 + i by omega]; exact p3)
        rw [show n + (i + 1) + 1 = n + 1 + i + 1 by omega] at q
        exact q
      rw [show n + (it :: its).length = n + 1 + its.length by simp; omega]
      exact this
    unfold forL
    rw [h1]
    simp only [Option.bind_some]
    rw [h2]
    simp only [Option.bind_some]
    cases o with
    | nx δ2 => exact step δ2 h3
    | ct δ2 => exact step δ2 h3
    | bk δ2 => exact ⟨_, rfl, .inl ⟨δ2, rfl, .inr h3⟩⟩
    | rt r => exact ⟨_, rfl, .inr ⟨r, rfl, h3⟩⟩
    | ex _ _ => exact h3.elim
/-- a loop by its invariant, gone through to its end -/
theorem forL_inv {kd : Kd} {gt : GTg} {gb : GS} (P : Nat → DSt → Prop) {its : List SI} {δ : DSt} (h0 : P 0 δ) (hs : ∀ i it δ, its[i]? = some it → P i δ → ∃ δ1, gt (kd.itmF it) δ = some δ1 ∧ ∃ δ2, gb δ1 = some (.nx δ2) ∧ P (i + 1) δ2) :
    ∃ δ', forL kd gt gb its δ = some (.nx δ') ∧ P its.length δ' := by
  obtain ⟨o, h1, h2⟩ := forL_ex (kd := kd) (gt := gt) (gb := gb) P (fun _ => False) (fun _ => False) its 0 δ h0 fun i it δ hi p => by
    rw [Nat.zero_add] at p
    obtain ⟨δ1, e1, δ2, e2, p2⟩ := hs i it δ hi p
    exact ⟨δ1, e1, _, e2, by rw [Nat.zero_add]; exact p2⟩
  rcases h2 with ⟨δ', rfl, h3 | h3⟩ | ⟨r, _, h3⟩
  · rw [Nat.zero_add] at h3; exact ⟨δ', h1, h3⟩
  · exact h3.elim
  · exact h3.elim

/-- a slot that may be stored -/
def NL (v : Sl) : Prop := ∀ d, v ≠ .lck d
theorem nl_no : NL .no := fun _ h => by cases h
theorem nl_val {d : D} : NL (.val d) := fun _ h => by cases h
theorem nl_own {d : D} : NL (.own d) := fun _ h => by cases h
theorem nl_fr {d : D} : NL (.fr d) := fun _ h => by cases h
theorem nl_par {d : D} : NL (.par d) := fun _ h => by cases h
theorem nl_bor {d : D} : NL (.bor d) := fun _ h => by cases h
theorem NL.unfr {v : Sl} (h : NL v) : NL v.unfr := by
  cases v <;> first | exact h | exact nl_bor
theorem NL.purge {v : Sl} (h : NL v) : NL v.purge := by
  cases v <;> first | exact h | exact nl_no
theorem stK_nl {i : Nat} {r : R} {δ : DSt} {v : Sl} (h : NL v) : stK i r δ v = some (δ.set i r.sl) := by
  cases v <;> first | rfl | exact absurd rfl (h _)
@[simp] theorem lockAll_nil {δ : DSt} : lockAll [] δ = δ := by
  unfold lockAll
  apply List.ext_getElem?
  intro i
  rw [List.getElem?_mapIdx]
  cases δ[i]? <;> rfl
@[simp] theorem unlockAll_nil {δ0 δ : DSt} : unlockAll [] δ0 δ = δ.map Sl.unfr := by
  unfold unlockAll
  apply List.ext_getElem?
  intro i
  rw [List.getElem?_mapIdx, List.getElem?_map]
  cases δ[i]? <;> rfl
@[simp] theorem unfr_val {d : D} : (Sl.val d).unfr = .val d := (rfl)
@[simp] theorem unfr_par {d : D} : (Sl.par d).unfr = .par d := (rfl)
@[simp] theorem unfr_own {d : D} : (Sl.own d).unfr = .own d := (rfl)
@[simp] theorem unfr_lck {d : D} : (Sl.lck d).unfr = .lck d := (rfl)
@[simp] theorem unfr_bor {d : D} : (Sl.bor d).unfr = .bor d := (rfl)
@[simp] theorem unfr_fr {d : D} : (Sl.fr d).unfr = .bor d := (rfl)
@[simp] theorem unfr_no : Sl.no.unfr = .no := (rfl)
@[simp] theorem lock_own {d : D} : (Sl.own d).lock = .lck d := (rfl)
@[simp] theorem lock_val {d : D} : (Sl.val d).lock = .val d := (rfl)
@[simp] theorem lock_par {d : D} : (Sl.par d).lock = .par d := (rfl)
@[simp] theorem unlock_lck {d : D} : (Sl.lck d).unlock = .own d := (rfl)
@[simp] theorem isOwn_own {d : D} : (Sl.own d).isOwn = true := (rfl)
@[simp] theorem isOwn_val {d : D} : (Sl.val d).isOwn = false := (rfl)
@[simp] theorem isOwn_par {d : D} : (Sl.par d).isOwn = false := (rfl)
@[simp] theorem isOwn_lck {d : D} : (Sl.lck d).isOwn = false := (rfl)
@[simp] theorem isOwn_bor {d : D} : (Sl.bor d).isOwn = false := (rfl)
@[simp] theorem isOwn_fr {d : D} : (Sl.fr d).isOwn = false := (rfl)
@[simp] theorem isOwn_no : Sl.no.isOwn = false := (rfl)
@[simp] theorem runfr_val {d : D} : (R.val d).unfr = .val d := (rfl)
@[simp] theorem runfr_own {d : D} : (R.own d).unfr = .own d := (rfl)
theorem forK {lks : List Nat} {gi : GI} {gt : GTg} {gb : GS} {δ : DSt} {kd : Kd} {its : List SI} (h1 : gi (lockAll lks δ) = some (kd, its)) (hk : kd.ok = true) : gFor lks gi gt gb δ = (forL kd gt gb its (lockAll lks δ)).bind fun o => (match o with
    | .nx δ2 => some (.nx (unlockAll lks δ δ2))
    | .rt r => some (.rt r.unfr)
    | .ex c δ2 => some (.ex c (unlockAll lks δ δ2))
    | _ => none) := by
  unfold gFor
  rw [h1]
  simp only [Option.bind_some]
  refine (if_pos hk).trans ?_
  cases forL kd gt gb its (lockAll lks δ) with
  | none => rfl
  | some o => cases o <;> rfl
/-- a for that goes to its end -/
theorem for_inv {lks : List Nat} {gi : GI} {gt : GTg} {gb : GS} {δ : DSt} {kd : Kd} {its : List SI} (P : Nat → DSt → Prop) (h1 : gi (lockAll lks δ) = some (kd, its)) (hk : kd.ok = true) (h0 : P 0 (lockAll lks δ))
    (hs : ∀ i it δ, its[i]? = some it → P i δ → ∃ δ1, gt (kd.itmF it) δ = some δ1 ∧ ∃ δ2, gb δ1 = some (.nx δ2) ∧ P (i + 1) δ2) : ∃ δ2, gFor lks gi gt gb δ = some (.nx (unlockAll lks δ δ2)) ∧ P its.length δ2 := by
  obtain ⟨δ2, h2, h3⟩ := forL_inv (kd := kd) (gt := gt) (gb := gb) P h0 hs
  exact ⟨δ2, by rw [forK h1 hk, h2]; rfl, h3⟩
/-- a for that may be left -/
theorem for_ex {lks : List Nat} {gi : GI} {gt : GTg} {gb : GS} {δ : DSt} {kd : Kd} {its : List SI} (P : Nat → DSt → Prop) (Qb : DSt → Prop) (Q : R → Prop) (h1 : gi (lockAll lks δ) = some (kd, its)) (hk : kd.ok = true) (h0 : P 0 (lockAll lks δ))
    (hs : ∀ i it δ, its[i]? = some it → P i δ → ∃ δ1, gt (kd.itmF it) δ = some δ1 ∧ ∃ o, gb δ1 = some o ∧ (match o with | .nx δ2 => P (i + 1) δ2 | .ct δ2 => P (i + 1) δ2 | .bk δ2 => Qb δ2 | .rt r => Q r | .ex _ _ => False)) :
    (∃ δ2, gFor lks gi gt gb δ = some (.nx (unlockAll lks δ δ2)) ∧ (P its.length δ2 ∨ Qb δ2)) ∨ ∃ r, gFor lks gi gt gb δ = some (.rt r.unfr) ∧ Q r := by
  obtain ⟨o, h2, h3⟩ := forL_ex (kd := kd) (gt := gt) (gb := gb) P Qb Q its 0 _ h0 (fun i it δ hi p => by rw [Nat.zero_add] at p ⊢; exact hs i it δ hi p)
  rcases h3 with ⟨δ', rfl, h4⟩ | ⟨r, rfl, h4⟩
  · rw [Nat.zero_add] at h4
    exact .inl ⟨δ', by rw [forK h1 hk, h2]; rfl, h4⟩
  · exact .inr ⟨r, by rw [forK h1 hk, h2]; rfl, h4⟩
/-- .. over a range -/
theorem for_rng {lks : List Nat} {gi : GI} {gt : GTg} {gb : GS} {δ : DSt} (n : Nat) (P : Nat → DSt → Prop) (h1 : gi (lockAll lks δ) = some (.val, rangeL 0 n)) (h0 : P 0 (lockAll lks δ))
    (hs : ∀ (i : Nat) δ, i < n → P i δ → ∃ δ1, gt (.one (.val (.int i))) δ = some δ1 ∧ ∃ δ2, gb δ1 = some (.nx δ2) ∧ P (i + 1) δ2) : ∃ δ2, gFor lks gi gt gb δ = some (.nx (unlockAll lks δ δ2)) ∧ P n δ2 := by
  obtain ⟨δ2, h2, h3⟩ := for_inv (gt := gt) (gb := gb) P h1 rfl h0 fun i it δ hi p => by
    rw [rangeL_get] at hi
    split at hi
    · rename_i hlt
      cases hi
      rw [Int.zero_add]
      exact hs i δ hlt p
    · cases hi
  rw [rangeL_length] at h3
  exact ⟨δ2, h2, h3⟩
theorem for_rng_ex {lks : List Nat} {gi : GI} {gt : GTg} {gb : GS} {δ : DSt} (n : Nat) (P : Nat → DSt → Prop) (Qb : DSt → Prop) (Q : R → Prop) (h1 : gi (lockAll lks δ) = some (.val, rangeL 0 n)) (h0 : P 0 (lockAll lks δ))
    (hs : ∀ (i : Nat) δ, i < n → P i δ → ∃ δ1, gt (.one (.val (.int i))) δ = some δ1 ∧ ∃ o, gb δ1 = some o ∧ (match o with | .nx δ2 => P (i + 1) δ2 | .ct δ2 => P (i + 1) δ2 | .bk δ2 => Qb δ2 | .rt r => Q r | .ex _ _ => False)) :
    (∃ δ2, gFor lks gi gt gb δ = some (.nx (unlockAll lks δ δ2)) ∧ (P n δ2 ∨ Qb δ2)) ∨ ∃ r, gFor lks gi gt gb δ = some (.rt r.unfr) ∧ Q r := by
  have := for_ex (gt := gt) (gb := gb) P Qb Q h1 rfl h0 fun i it δ hi p => by
    rw [rangeL_get] at hi
    split at hi
    · rename_i hlt
      cases hi
      rw [Int.zero_add]
      exact hs i δ hlt p
    · cases hi
  rw [rangeL_length] at this
  exact this
/-- .. over a sequence -/
theorem for_seq {lks : List Nat} {gi : GI} {gt : GTg} {gb : GS} {δ : DSt} {kd : Kd} (ds : List D) (P : Nat → DSt → Prop) (h1 : gi (lockAll lks δ) = some (kd, ds.map SI.one)) (hk : kd.ok = true) (h0 : P 0 (lockAll lks δ))
    (hs : ∀ i d δ, ds[i]? = some d → P i δ → ∃ δ1, gt (.one (kd.mkF d)) δ = some δ1 ∧ ∃ δ2, gb δ1 = some (.nx δ2) ∧ P (i + 1) δ2) : ∃ δ2, gFor lks gi gt gb δ = some (.nx (unlockAll lks δ δ2)) ∧ P ds.length δ2 := by
  obtain ⟨δ2, h2, h3⟩ := for_inv (gt := gt) (gb := gb) P h1 hk h0 fun i it δ hi p => by
    rw [List.getElem?_map] at hi
    obtain ⟨d, e1, rfl⟩ := map_some hi
    exact hs i d δ e1 p
  rw [List.length_map] at h3
  exact ⟨δ2, h2, h3⟩
theorem for_seq_ex {lks : List Nat} {gi : GI} {gt : GTg} {gb : GS} {δ : DSt} {kd : Kd} (ds : List D) (P : Nat → DSt → Prop) (Qb : DSt → Prop) (Q : R → Prop) (h1 : gi (lockAll lks δ) = some (kd, ds.map SI.one)) (hk : kd.ok = true) (h0 : P 0 (lockAll lks δ))
    (hs : ∀ i d δ, ds[i]? = some d → P i δ → ∃ δ1, gt (.one (kd.mkF d)) δ = some δ1 ∧ ∃ o, gb δ1 = some o ∧ (match o with | .nx δ2 => P (i + 1) δ2 | .ct δ2 => P (i + 1) δ2 | .bk δ2 => Qb δ2 | .rt r => Q r | .ex _ _ => False)) :
    (∃ δ2, gFor lks gi gt gb δ = some (.nx (unlockAll lks δ δ2)) ∧ (P ds.length δ2 ∨ Qb δ2)) ∨ ∃ r, gFor lks gi gt gb δ = some (.rt r.unfr) ∧ Q r := by
  have := for_ex (gt := gt) (gb := gb) P Qb Q h1 hk h0 fun i it δ hi p => by
    rw [List.getElem?_map] at hi
    obtain ⟨d, e1, rfl⟩ := map_some hi
    exact hs i d δ e1 p
  rw [List.length_map] at this
  exact this
/-- .. over enumerate -/
theorem for_enum {lks : List Nat} {gi : GI} {gt : GTg} {gb : GS} {δ : DSt} {kd : Kd} (ds : List D) (P : Nat → DSt → Prop) (h1 : gi (lockAll lks δ) = some (kd, enumFrom 0 ds)) (hk : kd.ok = true) (h0 : P 0 (lockAll lks δ))
    (hs : ∀ (i : Nat) d δ, ds[i]? = some d → P i δ → ∃ δ1, gt (.tup [.val (.int i), kd.mkF d]) δ = some δ1 ∧ ∃ δ2, gb δ1 = some (.nx δ2) ∧ P (i + 1) δ2) : ∃ δ2, gFor lks gi gt gb δ = some (.nx (unlockAll lks δ δ2)) ∧ P ds.length δ2 := by
  obtain ⟨δ2, h2, h3⟩ := for_inv (gt := gt) (gb := gb) P h1 hk h0 fun i it δ hi p => by
    rw [enumFrom_get, Nat.zero_add] at hi
    obtain ⟨d, e1, rfl⟩ := map_some hi
    exact hs i d δ e1 p
  rw [enumFrom_length] at h3
  exact ⟨δ2, h2, h3⟩
@[simp] theorem itm_val_int {i : Int} : Kd.val.itm (.one (.int i)) = .one (.val (.int i)) := (rfl)
/-- a comprehension over a range -/
theorem lc_rng {vs : List Nat} {gi : GI} {gt : GTg} {gc : GT} {ge : G} {δ : DSt} (n : Nat) (f : Nat → D) (h1 : gi δ = some (.val, rangeL 0 n)) (hn : n ≤ 1000000)
    (h : ∀ i : Nat, i < n → ∃ δ1, gt (.one (.val (.int i))) (wipeD δ vs) = some δ1 ∧ gc δ1 = some true ∧ ∃ r, ge δ1 = some r ∧ r.okEl = true ∧ r.d = f i) : gLc vs gi gt gc ge δ = some (.own (.lst ((List.range n).map f))) := by
  rw [ev_lc, h1]
  simp only [Option.bind_some]
  rw [if_pos (by rw [rangeL_length, sizeLine_eq]; omega), rangeL_zero]
  rw [lcL_map (fun it => match it with | .one (.int i) => f i.toNat | _ => .non)]
  · simp [Function.comp_def]
  · intro it hit
    obtain ⟨i, hi, rfl⟩ := List.mem_map.mp hit
    simpa using h i (List.mem_range.mp hi)
/-- .. with a test -/
theorem lc_rngF {vs : List Nat} {gi : GI} {gt : GTg} {gc : GT} {ge : G} {δ : DSt} (n : Nat) (p : Nat → Bool) (f : Nat → D) (h1 : gi δ = some (.val, rangeL 0 n)) (hn : n ≤ 1000000)
    (h : ∀ i : Nat, i < n → ∃ δ1, gt (.one (.val (.int i))) (wipeD δ vs) = some δ1 ∧ gc δ1 = some (p i) ∧ (p i = true → ∃ r, ge δ1 = some r ∧ r.okEl = true ∧ r.d = f i)) : gLc vs gi gt gc ge δ = some (.own (.lst (((List.range n).filter p).map f))) := by
  rw [ev_lc, h1]
  simp only [Option.bind_some]
  rw [if_pos (by rw [rangeL_length, sizeLine_eq]; omega), rangeL_zero]
  rw [lcL_filter (fun it => match it with | .one (.int i) => p i.toNat | _ => false) (fun it => match it with | .one (.int i) => f i.toNat | _ => .non)]
  · simp [Function.comp_def, List.filter_map]
  · intro it hit
    obtain ⟨i, hi, rfl⟩ := List.mem_map.mp hit
    simpa using h i (List.mem_range.mp hi)
/-- a comprehension over a sequence -/
theorem lc_seq {vs : List Nat} {gi : GI} {gt : GTg} {gc : GT} {ge : G} {δ : DSt} {kd : Kd} (ds : List D) (f : D → D) (h1 : gi δ = some (kd, ds.map SI.one)) (hn : ds.length ≤ 1000000)
    (h : ∀ d ∈ ds, ∃ δ1, gt (.one (kd.mk d)) (wipeD δ vs) = some δ1 ∧ gc δ1 = some true ∧ ∃ r, ge δ1 = some r ∧ r.okEl = true ∧ r.d = f d) : gLc vs gi gt gc ge δ = some (.own (.lst (ds.map f))) := by
  rw [ev_lc, h1]
  simp only [Option.bind_some]
  rw [if_pos (by rw [List.length_map, sizeLine_eq]; omega)]
  rw [lcL_map (fun it => match it with | .one d => f d | _ => .non)]
  · simp [Function.comp_def]
  · intro it hit
    obtain ⟨d, hd, rfl⟩ := List.mem_map.mp hit
    exact h d hd
@[simp] theorem wipeD_nil {δ : DSt} : wipeD δ [] = δ := (rfl)
@[simp] theorem wipeD_cons {δ : DSt} {v : Nat} {vs : List Nat} : wipeD δ (v :: vs) = (wipeD δ vs).set v .no := (rfl)
theorem lt_size {n : Nat} (h : n ≤ 10000000) : n < sizeLine := by rw [sizeLine_eq]; omega
theorem le_size {n : Nat} (h : n ≤ 10000000) : n ≤ sizeLine := Nat.le_of_lt (lt_size h)
theorem appL {i : Nat} {δ : DSt} {r : List Int} {m : Int} (h : r.length ≤ 10000000) : appK i δ (.own (eL r)) (.val (.int m)) = some (.nx (purge (δ.set i (.own (eL (r ++ [m])))))) := by
  unfold eL
  rw [appK_own (by rw [List.length_map]; exact lt_size h) rfl, List.map_append]
  rfl
theorem eL_nil : D.lst [] = eL [] := (rfl)
theorem mkLst_nil : mkLst [] = some (.own (.lst [])) := by
  unfold mkLst
  rw [if_pos ⟨le_size (n := 0) (by decide), rfl⟩]
  rfl
theorem rng_ofI {g : G} {δ : DSt} {i : Int} (h : g δ = some (.val (.int i))) (h0 : -1000000 ≤ i) (hn : i ≤ 1000000) : gRng1 g δ = some (.val, rangeL 0 i.toNat) := by
  have hs := small62_of (i := i) (by omega) (by omega)
  have e : ∀ b : Bool, b = true → (if b = true then some (Kd.val, rangeL 0 i.toNat) else none) = some (Kd.val, rangeL 0 i.toNat) := fun b hb => by rw [hb]; rfl
  have e2 := e _ hs
  rw [ev_rng1, h]
  exact e2
theorem rng_of {g : G} {δ : DSt} {n : Nat} (h : g δ = some (.val (.int n))) (hn : n ≤ 1000000) : gRng1 g δ = some (.val, rangeL 0 n) :=
  rng_ofI h (by omega) (by omega)
/-- a cell -/
def cell (r : List Int) (i : Int) : Int := r.getD i.toNat 0
theorem ixp {r : List Int} {i : Int} (h0 : 0 ≤ i) (h1 : i < r.length) : ixR (.par (eL r)) (.int i) = some (.val (.int (cell r i))) := ix_par h0 h1
theorem ixb {r : List Int} {i : Int} (h0 : 0 ≤ i) (h1 : i < r.length) : ixR (.bor (eL r)) (.int i) = some (.val (.int (cell r i))) := ix_bor h0 h1
theorem ixw {r : List Int} {i : Int} (h0 : 0 ≤ i) (h1 : i < r.length) : ixR (.val (eW r)) (.int i) = some (.val (.int (cell r i))) := ix_eW h0 h1
theorem ixs {r : List Int} {i : Int} (h0 : 0 ≤ i) (h1 : i < r.length) : ixR (.par (.scr r)) (.int i) = some (.val (.int (cell r i))) := ix_scr h0 h1
theorem cell_mem {r : List Int} {i : Int} (h0 : 0 ≤ i) (h1 : i < r.length) : cell r i ∈ r := by
  unfold cell
  rw [List.getD_eq_getElem?_getD, List.getElem?_eq_getElem (by omega)]
  exact List.getElem_mem _
@[simp] theorem mkTup_0 : mkTup [] = some (.val (.tup [])) := by
  unfold mkTup; rw [if_pos (show ([] : List R).length ≤ sizeLine from le_size (n := 0) (by decide))]; exact if_pos rfl
@[simp] theorem mkTup_1 {a : D} : mkTup [.val a] = some (.val (.tup [a])) := by
  unfold mkTup; rw [if_pos (show ([R.val a] : List R).length ≤ sizeLine from le_size (n := 1) (by decide))]; exact if_pos rfl
@[simp] theorem mkTup_2 {a b : D} : mkTup [.val a, .val b] = some (.val (.tup [a, b])) := by
  unfold mkTup; rw [if_pos (show ([R.val a, R.val b] : List R).length ≤ sizeLine from le_size (n := 2) (by decide))]; exact if_pos rfl
@[simp] theorem mkTup_3 {a b c : D} : mkTup [.val a, .val b, .val c] = some (.val (.tup [a, b, c])) := by
  unfold mkTup; rw [if_pos (show ([R.val a, R.val b, R.val c] : List R).length ≤ sizeLine from le_size (n := 3) (by decide))]; exact if_pos rfl
@[simp] theorem mkTup_4 {a b c d : D} : mkTup [.val a, .val b, .val c, .val d] = some (.val (.tup [a, b, c, d])) := by
  unfold mkTup; rw [if_pos (show ([R.val a, R.val b, R.val c, R.val d] : List R).length ≤ sizeLine from le_size (n := 4) (by decide))]; exact if_pos rfl
theorem oTuple_p {ds : List D} (h : puL ds = true) : oTuple [.own (.lst ds)] = some (.val (.tup ds)) := by
  show some (if puL ds = true then R.val (.tup ds) else R.own (.tup ds)) = _
  rw [if_pos h]
@[simp] theorem oTuple_eL {r : List Int} : oTuple [.own (eL r)] = some (.val (eW r)) := oTuple_p (puL_ints r)
theorem puL_map {α : Type} {f : α → D} (h : ∀ a, pu (f a) = true) : ∀ as : List α, puL (as.map f) = true
  | [] => rfl
  | a :: as => by rw [List.map_cons, puL_cons, h a, puL_map h as]; rfl
theorem puL_app : ∀ {ds es : List D}, puL ds = true → puL es = true → puL (ds ++ es) = true
  | [], _, _, h => h
  | d :: ds, es, h, k => by
    rw [puL_cons] at h
    rw [List.cons_append, puL_cons]
    have := Bool.and_eq_true_iff.mp h
    rw [this.1, puL_app this.2 k]; rfl
theorem pu_mem : ∀ {ds : List D}, puL ds = true → ∀ d ∈ ds, pu d = true
  | d :: ds, h, e, he => by
    rw [puL_cons] at h
    have := Bool.and_eq_true_iff.mp h
    rcases List.mem_cons.mp he with rfl | he
    · exact this.1
    · exact pu_mem this.2 e he
theorem puL_all : ∀ {ds : List D}, (∀ d ∈ ds, pu d = true) → puL ds = true
  | [], _ => rfl
  | d :: ds, h => by rw [puL_cons, h d List.mem_cons_self, puL_all fun e he => h e (List.mem_cons_of_mem _ he)]; rfl
/-- a tuple's item -/
theorem ix_map {α : Type} {as : List α} {f : α → D} (a0 : α) {j : Nat} (hp : ∀ a, pu (f a) = true) (h : j < as.length) : ixR (.val (.tup (as.map f))) (.int j) = some (.val (f (as.getD j a0))) := by
  show (atI (as.map f) (j : Int)).map _ = _
  rw [atI_get? (by omega) (by rw [List.length_map]; omega), Int.toNat_natCast, List.getElem?_map, List.getElem?_eq_getElem h]
  show some (R.elt _ (f as[j])) = _
  unfold R.elt
  rw [if_pos (hp _), List.getD_eq_getElem?_getD, List.getElem?_eq_getElem h]
  rfl
theorem lc_rngP {vs : List Nat} {gi : GI} {gt : GTg} {gc : GT} {ge : G} {δ : DSt} (n : Nat) (P : D → Prop) (h1 : gi δ = some (.val, rangeL 0 n)) (hn : n ≤ 1000000)
    (h : ∀ i : Nat, i < n → ∃ δ1, gt (.one (.val (.int i))) (wipeD δ vs) = some δ1 ∧ gc δ1 = some true ∧ ∃ r, ge δ1 = some r ∧ r.okEl = true ∧ P r.d) : ∃ ds, gLc vs gi gt gc ge δ = some (.own (.lst ds)) ∧ ds.length = n ∧ ∀ d ∈ ds, P d := by
  have h2 : ∀ i : Nat, ∃ d, i < n → (∃ δ1, gt (.one (.val (.int i))) (wipeD δ vs) = some δ1 ∧ gc δ1 = some true ∧ ∃ r, ge δ1 = some r ∧ r.okEl = true ∧ r.d = d) ∧ P d := fun i => by
    by_cases hi : i < n
    · obtain ⟨δ1, e1, e2, r, e3, e4, e5⟩ := h i hi
      exact ⟨r.d, fun _ => ⟨⟨δ1, e1, e2, r, e3, e4, rfl⟩, e5⟩⟩
    · exact ⟨.non, fun z => absurd z hi⟩
  refine ⟨_, lc_rng n (fun i => Classical.choose (h2 i)) h1 hn fun i hi => (Classical.choose_spec (h2 i) hi).1, by simp, fun d hd => ?_⟩
  obtain ⟨i, hi, rfl⟩ := List.mem_map.mp hd
  exact (Classical.choose_spec (h2 i) (List.mem_range.mp hi)).2
theorem map_of {α : Type} (f : α → D) (Q : α → Prop) : ∀ {ds : List D}, (∀ d ∈ ds, ∃ a, d = f a ∧ Q a) → ∃ as : List α, ds = as.map f ∧ ∀ a ∈ as, Q a
  | [], _ => ⟨[], rfl, fun _ h => by cases h⟩
  | d :: ds, h => by
    obtain ⟨a, rfl, q⟩ := h d List.mem_cons_self
    obtain ⟨as, rfl, k⟩ := map_of f Q fun e he => h e (List.mem_cons_of_mem _ he)
    exact ⟨a :: as, rfl, fun b hb => by
      rcases List.mem_cons.mp hb with rfl | hb
      · exact q
      · exact k b hb⟩
/-- a comprehension of ints over a range -/
theorem lc_rngI {vs : List Nat} {gi : GI} {gt : GTg} {gc : GT} {ge : G} {δ : DSt} (n : Nat) (P : Int → Prop) (h1 : gi δ = some (.val, rangeL 0 n)) (hn : n ≤ 1000000)
    (h : ∀ i : Nat, i < n → ∃ δ1, gt (.one (.val (.int i))) (wipeD δ vs) = some δ1 ∧ gc δ1 = some true ∧ ∃ x : Int, ge δ1 = some (.val (.int x)) ∧ P x) : ∃ w, gLc vs gi gt gc ge δ = some (.own (eL w)) ∧ w.length = n ∧ ∀ x ∈ w, P x := by
  obtain ⟨ds, e1, e2, e3⟩ := lc_rngP (P := fun d => ∃ x, d = .int x ∧ P x) n h1 hn fun i hi => by
    obtain ⟨δ1, q1, q2, x, q3, q4⟩ := h i hi
    exact ⟨δ1, q1, q2, _, q3, rfl, x, rfl, q4⟩
  obtain ⟨w, rfl, q⟩ := map_of D.int P e3
  exact ⟨w, e1, by simpa using e2, q⟩
/-- length of what a range yields -/
theorem len_flat {α : Type} (f : Nat → List α) (k : Nat) : ∀ n, (∀ i < n, (f i).length ≤ k) → ((List.range n).flatMap f).length ≤ n * k
  | 0, _ => by simp
  | n + 1, h => by
    have := len_flat f k n fun i hi => h i (by omega)
    have h2 := h n (by omega)
    rw [List.range_succ, List.flatMap_append, List.length_append, Nat.add_mul]
    simp only [List.flatMap_cons, List.flatMap_nil, List.append_nil]
    omega
theorem flat_succ {α : Type} (f : Nat → List α) (n : Nat) : (List.range (n + 1)).flatMap f = (List.range n).flatMap f ++ f n := by
  rw [List.range_succ, List.flatMap_append]; simp
/-- a growth -/
def extK (i : Nat) (δ : DSt) (s : Sl) (r : R) : Option O := match s with
  | .own (.lst ds) => (match r.d with
    | .lst es => if ds.length + es.length ≤ sizeLine ∧ puL es = true then some (.nx (purge (δ.set i (.own (.lst (ds ++ es)))))) else none
    | .tup es => if ds.length + es.length ≤ sizeLine ∧ puL es = true then some (.nx (purge (δ.set i (.own (.lst (ds ++ es)))))) else none
    | _ => none)
  | _ => none
@[simp] theorem ev_ext {i : Nat} {g : G} {δ : DSt} : gExt i g δ = (g δ).bind fun r => extK i δ (δ.getD i .no) r := by
  unfold gExt extK
  rfl
theorem extK_t {i : Nat} {δ : DSt} {ds es : List D} {r : R} (hr : r.d = .tup es ∨ r.d = .lst es) (h : ds.length + es.length ≤ 10000000) (hp : puL es = true) : extK i δ (.own (.lst ds)) r = some (.nx (purge (δ.set i (.own (.lst (ds ++ es)))))) := by
  unfold extK
  rcases hr with hr | hr <;> rw [hr] <;> exact if_pos ⟨le_size h, hp⟩
theorem addD_eW {w p : List Int} (h : w.length + p.length ≤ 10000000) : addD (eW w) (eW p) = some (.val (eW (w ++ p))) := by
  unfold eW
  rw [List.map_append]
  exact (if_pos (by rw [List.length_map, List.length_map]; exact le_size h)).trans (congrArg some (mkR_pu (by show puL (w.map D.int ++ p.map D.int) = true; rw [puL_append, puL_ints w, puL_ints p]; rfl)))
theorem mkF_pu {k : Kd} {d : D} (h : pu d = true) : k.mkF d = .val d := if_pos h
theorem mk_pu {k : Kd} {d : D} (h : pu d = true) : k.mk d = .val d := if_pos h
theorem elt_pu {k : R} {d : D} (h : pu d = true) : k.elt d = .val d := if_pos h
@[simp] theorem elt_eW {k : R} {w : List Int} : k.elt (eW w) = .val (eW w) := elt_pu pu_eW
@[simp] theorem elt_int {k : R} {w : Int} : k.elt (.int w) = .val (.int w) := elt_pu pu_int
@[simp] theorem parts_tup {ds : List D} : (Itm.one (.val (.tup ds))).parts = some (ds.map (R.elt (.val (.tup ds)))) := (rfl)
@[simp] theorem parts_pair {rs : List R} : (Itm.tup rs).parts = some rs := (rfl)
@[simp] theorem oLen_map {α : Type} {as : List α} {f : α → D} : oLen [.val (.tup (as.map f))] = some (.val (.int as.length)) := by rw [oLen_tup, List.length_map]
@[simp] theorem oLen_mapb {α : Type} {as : List α} {f : α → D} : oLen [.bor (.lst (as.map f))] = some (.val (.int as.length)) := by rw [oLen_bor, List.length_map]
@[simp] theorem oLen_mapf {α : Type} {as : List α} {f : α → D} : oLen [.fr (.lst (as.map f))] = some (.val (.int as.length)) := by rw [oLen_fr, List.length_map]
theorem ixM {α : Type} {as : List α} {f : α → D} {r : R} (a0 : α) {i : Int} (hr : r.d = .tup (as.map f) ∨ r.d = .lst (as.map f)) (hp : ∀ a, pu (f a) = true) (h0 : 0 ≤ i) (h1 : i < as.length) : ixR r (.int i) = some (.val (f (as.getD i.toNat a0))) := by
  have h : i.toNat < as.length := by omega
  have e : (atI (as.map f) i).map r.elt = some (.val (f (as.getD i.toNat a0))) := by
    rw [atI_get? h0 (by rw [List.length_map]; omega), List.getElem?_map, List.getElem?_eq_getElem h]
    show some (R.elt _ (f as[i.toNat])) = _
    rw [elt_pu (hp _), List.getD_eq_getElem?_getD, List.getElem?_eq_getElem h]
    rfl
  unfold ixR
  rcases hr with hr | hr <;> rw [hr] <;> exact e
theorem tup_nil : D.tup [] = eW [] := (rfl)
theorem tup_int {i : Int} : D.tup [.int i] = eW [i] := (rfl)
theorem seq_of {g : G} {δ : DSt} {r : R} {ds : List D} (h : g δ = some r) (h2 : itemsOf r.d = some ds) : gSeq g δ = some (r.kd, ds.map SI.one) := by rw [ev_seq, h]; simp [h2]
theorem enum_of {g : G} {δ : DSt} {r : R} {ds : List D} (h : g δ = some r) (h2 : itemsOf r.d = some ds) : gEnum g δ = some (r.kd, enumFrom 0 ds) := by rw [ev_enum, h]; simp [h2]
theorem getD_mem {α : Type} {xs : List α} {i : Nat} {a : α} (h : i < xs.length) : xs.getD i a ∈ xs := by
  rw [List.getD_eq_getElem?_getD, List.getElem?_eq_getElem h]
  exact List.getElem_mem _
theorem len_flatten {α : Type} (k : Nat) : ∀ (b : List (List α)), (∀ x ∈ b, x.length ≤ k) → b.flatten.length ≤ b.length * k
  | [], _ => by simp
  | x :: b, h => by
    have := len_flatten k b fun y hy => h y (List.mem_cons_of_mem _ hy)
    have h2 := h x List.mem_cons_self
    rw [List.flatten_cons, List.length_append, List.length_cons, Nat.add_mul]
    omega
theorem take_succ_get {α : Type} {b : List α} {i : Nat} {x : α} (h : b[i]? = some x) : b.take (i + 1) = b.take i ++ [x] := by
  rw [List.take_add_one, h]; rfl
theorem getD_of {α : Type} {xs : List α} {i : Nat} {x a : α} (h : xs[i]? = some x) : xs.getD i a = x := by rw [List.getD_eq_getElem?_getD, h]; rfl
theorem len_flatL {α β : Type} (f : α → List β) (k : Nat) : ∀ xs : List α, (∀ x ∈ xs, (f x).length ≤ k) → (xs.flatMap f).length ≤ xs.length * k
  | [], _ => by simp
  | x :: xs, h => by
    have := len_flatL f k xs fun y hy => h y (List.mem_cons_of_mem _ hy)
    have h2 := h x List.mem_cons_self
    rw [List.flatMap_cons, List.length_append, List.length_cons, Nat.add_mul]
    omega
theorem oTuple_b {ds : List D} (h : puL ds = true) : oTuple [.bor (.lst ds)] = some (.val (.tup ds)) := by
  show (if puL ds = true then some (R.val (.tup ds)) else none) = _
  rw [if_pos h]
@[simp] theorem isN_non {d : D} : isN d .non = some (.val (.bl (isNon d))) := (rfl)
@[simp] theorem isNon_int {i : Int} : isNon (.int i) = false := (rfl)
@[simp] theorem isNon_tup {i : List D} : isNon (.tup i) = false := (rfl)
@[simp] theorem isiR_int {T : Ty} {i : Int} : isiR T (.int i) = some (.val (.bl (isa T (.int i)))) := (rfl)
@[simp] theorem isiR_tup {T : Ty} {i : List D} : isiR T (.tup i) = some (.val (.bl (isa T (.tup i)))) := (rfl)
@[simp] theorem isiR_lst {T : Ty} {i : List D} : isiR T (.lst i) = some (.val (.bl (isa T (.lst i)))) := (rfl)
@[simp] theorem isiR_non {T : Ty} : isiR T .non = some (.val (.bl (isa T .non))) := (rfl)
@[simp] theorem isiR_bl {T : Ty} {b : Bool} : isiR T (.bl b) = some (.val (.bl (isa T (.bl b)))) := (rfl)
@[simp] theorem isiR_str {T : Ty} {b : Str} : isiR T (.str b) = some (.val (.bl (isa T (.str b)))) := (rfl)
@[simp] theorem isiR_scr {T : Ty} {b : List Int} : isiR T (.scr b) = some (.val (.bl (isa T (.scr b)))) := (rfl)
@[simp] theorem isiR_eW {T : Ty} {w : List Int} : isiR T (eW w) = some (.val (.bl (isa T (eW w)))) := (rfl)
theorem isiR_ok {T : Ty} {d : D} (h : tyOk d = true) : isiR T d = some (.val (.bl (isa T d))) := if_pos h
theorem isiR_pu {T : Ty} {d : D} (h : pu d = true) : isiR T d = some (.val (.bl (isa T d))) := if_pos (by cases d <;> first | rfl | cases h)
@[simp] theorem isa_tt {i : List D} : isa .tuple (.tup i) = true := (rfl)
@[simp] theorem isa_ti {i : Int} : isa .tuple (.int i) = false := (rfl)
@[simp] theorem isa_ii {i : Int} : isa .int (.int i) = true := (rfl)
@[simp] theorem isa_bi {i : Int} : isa .bool (.int i) = false := (rfl)
theorem boolL_true : ∀ {ds : List D}, (∀ d ∈ ds, d = .bl true) → ∃ bs, boolL ds = some bs ∧ bs.all id = true
  | [], _ => ⟨[], rfl, rfl⟩
  | d :: ds, h => by
    have h1 := h d List.mem_cons_self
    subst h1
    obtain ⟨bs, e, k⟩ := boolL_true (ds := ds) fun e he => h e (List.mem_cons_of_mem _ he)
    exact ⟨true :: bs, by show (boolL ds).map (true :: ·) = _; rw [e]; rfl, by simpa using k⟩
theorem oAll_true {ds : List D} (h : ∀ d ∈ ds, d = .bl true) : oAll [.own (.lst ds)] = some (.val (.bl true)) := by
  obtain ⟨bs, e, k⟩ := boolL_true h
  show (boolL ds).map (fun bs => R.val (.bl (bs.all id))) = _
  rw [e]
  show some (R.val (.bl (bs.all id))) = _
  rw [k]
@[simp] theorem isNon_non : isNon .non = true := (rfl)
@[simp] theorem notN_non {d : D} : notN d .non = some (.val (.bl (!isNon d))) := (rfl)

/-- a loop that may be left by an exception, too -/
theorem forL_exX {kd : Kd} {gt : GTg} {gb : GS} (P : Nat → DSt → Prop) (Qb : DSt → Prop) (Q : R → Prop) (Qx : Str → DSt → Prop) : ∀ (its : List SI) (n : Nat) (δ : DSt), P n δ → (∀ i it δ, its[i]? = some it → P (n + i) δ → ∃ δ1, gt (kd.itmF it) δ = some δ1 ∧ ∃ o, gb δ1 = some o ∧ (match o with | .nx δ2 => P (n + i + 1) δ2 | .ct δ2 => P (n + i + 1) δ2 | .bk δ2 => Qb δ2 | .rt r => Q r | .ex c δ2 => Qx c δ2)) →
    ∃ o, forL kd gt gb its δ = some o ∧ ((∃ δ', o = .nx δ' ∧ (P (n + its.length) δ' ∨ Qb δ')) ∨ (∃ r, o = .rt r ∧ Q r) ∨ ∃ c δ', o = .ex c δ' ∧ Qx c δ')
  | [], n, δ, h, _ => ⟨_, rfl, .inl ⟨δ, rfl, .inl h⟩⟩
  | it :: its, n, δ, h, hs => by
    obtain ⟨δ1, h1, o, h2, h3⟩ := hs 0 it δ rfl h
    have step : ∀ δ2, P (n + 1) δ2 → ∃ o, forL kd gt gb its δ2 = some o ∧ ((∃ δ', o = .nx δ' ∧ (P (n + (it :: its).length) δ' ∨ Qb δ')) ∨ (∃ r, o = .rt r ∧ Q r) ∨ ∃ c δ', o = .ex c δ' ∧ Qx c δ') := fun δ2 p => by
      have := forL_exX P Qb Q Qx its (n + 1) δ2 p fun i jt δ3 hi p3 => by
        have q := hs (i + 1) jt δ3 (by simpa using hi) (by rw [show n + (i + 1) = n + 1 + i by omega]; exact p3)
        rw [show n + (i + 1) + 1 = n + 1 + i + 1 by omega] at q
        exact q
      rw [show n + (it :: its).length = n + 1 + its.length by simp; omega]
      exact this
    unfold forL
    rw [h1]
    simp only [Option.bind_some]
    rw [h2]
    simp only [Option.bind_some]
    cases o with
    | nx δ2 => exact step δ2 h3
    | ct δ2 => exact step δ2 h3
    | bk δ2 => exact ⟨_, rfl, .inl ⟨δ2, rfl, .inr h3⟩⟩
    | rt r => exact ⟨_, rfl, .inr (.inl ⟨r, rfl, h3⟩)⟩
    | ex c δ2 => exact ⟨_, rfl, .inr (.inr ⟨c, δ2, rfl, h3⟩)⟩
/-- all (stop = false), any (stop = true) of a generator expression, the element's bool by the item; P i: what is known of the slots ahead of item i -/
theorem genL_of {stop : Bool} {kd : Kd} {gt : GTg} {ge : G} (P : DSt → Prop) (f : SI → Bool) : ∀ (its : List SI) (δ : DSt), P δ → (∀ it ∈ its, ∀ δ, P δ → ∃ δ1, gt (kd.itm it) δ = some δ1 ∧ P δ1 ∧ ge δ1 = some (.val (.bl (f it)))) → genL stop kd gt ge its δ = some (if stop = true then its.any f else its.all f)
  | [], δ, _, _ => by cases stop <;> rfl
  | it :: its, δ, hp, h => by
    obtain ⟨δ1, e1, p1, e2⟩ := h it List.mem_cons_self δ hp
    unfold genL
    rw [e1]
    simp only [Option.bind_some]
    rw [e2]
    simp only [Option.bind_some, asB_bl]
    have ih := genL_of (stop := stop) (ge := ge) P f its δ1 p1 fun jt hj => h jt (List.mem_cons_of_mem _ hj)
    cases stop <;> cases hb : f it <;> simp [hb, ih]
/-- .. over a sequence -/
theorem gen_seq {stop : Bool} {vs : List Nat} {gi : GI} {gt : GTg} {ge : G} {δ : DSt} {kd : Kd} (ds : List D) (P : DSt → Prop) (f : D → Bool) (h1 : gi δ = some (kd, ds.map SI.one)) (h0 : P (wipeD δ vs))
    (h : ∀ d ∈ ds, ∀ δ, P δ → ∃ δ1, gt (.one (kd.mk d)) δ = some δ1 ∧ P δ1 ∧ ge δ1 = some (.val (.bl (f d)))) : gGen stop vs gi gt ge δ = some (.val (.bl (if stop = true then ds.any f else ds.all f))) := by
  rw [ev_gen, h1]
  simp only [Option.bind_some]
  rw [genL_of P (fun it => match it with | .one d => f d | _ => false) _ _ h0]
  · cases stop <;> simp [Function.comp_def]
  · intro it hit δ hp
    obtain ⟨d, hd, rfl⟩ := List.mem_map.mp hit
    exact h d hd δ hp
/-- .. over a range -/
theorem gen_rng {stop : Bool} {vs : List Nat} {gi : GI} {gt : GTg} {ge : G} {δ : DSt} (n : Nat) (P : DSt → Prop) (f : Nat → Bool) (h1 : gi δ = some (.val, rangeL 0 n)) (h0 : P (wipeD δ vs))
    (h : ∀ i : Nat, i < n → ∀ δ, P δ → ∃ δ1, gt (.one (.val (.int i))) δ = some δ1 ∧ P δ1 ∧ ge δ1 = some (.val (.bl (f i)))) : gGen stop vs gi gt ge δ = some (.val (.bl (if stop = true then (List.range n).any f else (List.range n).all f))) := by
  rw [ev_gen, h1]
  simp only [Option.bind_some]
  rw [genL_of P (fun it => match it with | .one (.int i) => f i.toNat | _ => false) _ _ h0]
  · rw [rangeL_zero]; cases stop <;> simp [Function.comp_def]
  · intro it hit δ hp
    rw [rangeL_zero] at hit
    obtain ⟨i, hi, rfl⟩ := List.mem_map.mp hit
    simpa using h i (List.mem_range.mp hi) δ hp
@[simp] theorem mkTup_5 {a0 a1 a2 a3 a4 : D} : mkTup [.val a0, .val a1, .val a2, .val a3, .val a4] = some (.val (.tup [a0, a1, a2, a3, a4])) := by
  unfold mkTup; rw [if_pos (show ([R.val a0, R.val a1, R.val a2, R.val a3, R.val a4] : List R).length ≤ sizeLine from le_size (n := 5) (by decide))]; exact if_pos rfl
@[simp] theorem mkTup_6 {a0 a1 a2 a3 a4 a5 : D} : mkTup [.val a0, .val a1, .val a2, .val a3, .val a4, .val a5] = some (.val (.tup [a0, a1, a2, a3, a4, a5])) := by
  unfold mkTup; rw [if_pos (show ([R.val a0, R.val a1, R.val a2, R.val a3, R.val a4, R.val a5] : List R).length ≤ sizeLine from le_size (n := 6) (by decide))]; exact if_pos rfl
@[simp] theorem mkTup_7 {a0 a1 a2 a3 a4 a5 a6 : D} : mkTup [.val a0, .val a1, .val a2, .val a3, .val a4, .val a5, .val a6] = some (.val (.tup [a0, a1, a2, a3, a4, a5, a6])) := by
  unfold mkTup; rw [if_pos (show ([R.val a0, R.val a1, R.val a2, R.val a3, R.val a4, R.val a5, R.val a6] : List R).length ≤ sizeLine from le_size (n := 7) (by decide))]; exact if_pos rfl
@[simp] theorem mkTup_8 {a0 a1 a2 a3 a4 a5 a6 a7 : D} : mkTup [.val a0, .val a1, .val a2, .val a3, .val a4, .val a5, .val a6, .val a7] = some (.val (.tup [a0, a1, a2, a3, a4, a5, a6, a7])) := by
  unfold mkTup; rw [if_pos (show ([R.val a0, R.val a1, R.val a2, R.val a3, R.val a4, R.val a5, R.val a6, R.val a7] : List R).length ≤ sizeLine from le_size (n := 8) (by decide))]; exact if_pos rfl
@[simp] theorem mkTup_9 {a0 a1 a2 a3 a4 a5 a6 a7 a8 : D} : mkTup [.val a0, .val a1, .val a2, .val a3, .val a4, .val a5, .val a6, .val a7, .val a8] = some (.val (.tup [a0, a1, a2, a3, a4, a5, a6, a7, a8])) := by
  unfold mkTup; rw [if_pos (show ([R.val a0, R.val a1, R.val a2, R.val a3, R.val a4, R.val a5, R.val a6, R.val a7, R.val a8] : List R).length ≤ sizeLine from le_size (n := 9) (by decide))]; exact if_pos rfl
@[simp] theorem mkTup_10 {a0 a1 a2 a3 a4 a5 a6 a7 a8 a9 : D} : mkTup [.val a0, .val a1, .val a2, .val a3, .val a4, .val a5, .val a6, .val a7, .val a8, .val a9] = some (.val (.tup [a0, a1, a2, a3, a4, a5, a6, a7, a8, a9])) := by
  unfold mkTup; rw [if_pos (show ([R.val a0, R.val a1, R.val a2, R.val a3, R.val a4, R.val a5, R.val a6, R.val a7, R.val a8, R.val a9] : List R).length ≤ sizeLine from le_size (n := 10) (by decide))]; exact if_pos rfl
@[simp] theorem mkTup_11 {a0 a1 a2 a3 a4 a5 a6 a7 a8 a9 a10 : D} : mkTup [.val a0, .val a1, .val a2, .val a3, .val a4, .val a5, .val a6, .val a7, .val a8, .val a9, .val a10] = some (.val (.tup [a0, a1, a2, a3, a4, a5, a6, a7, a8, a9, a10])) := by
  unfold mkTup; rw [if_pos (show ([R.val a0, R.val a1, R.val a2, R.val a3, R.val a4, R.val a5, R.val a6, R.val a7, R.val a8, R.val a9, R.val a10] : List R).length ≤ sizeLine from le_size (n := 11) (by decide))]; exact if_pos rfl
@[simp] theorem mkTup_12 {a0 a1 a2 a3 a4 a5 a6 a7 a8 a9 a10 a11 : D} : mkTup [.val a0, .val a1, .val a2, .val a3, .val a4, .val a5, .val a6, .val a7, .val a8, .val a9, .val a10, .val a11] = some (.val (.tup [a0, a1, a2, a3, a4, a5, a6, a7, a8, a9, a10, a11])) := by
  unfold mkTup; rw [if_pos (show ([R.val a0, R.val a1, R.val a2, R.val a3, R.val a4, R.val a5, R.val a6, R.val a7, R.val a8, R.val a9, R.val a10, R.val a11] : List R).length ≤ sizeLine from le_size (n := 12) (by decide))]; exact if_pos rfl
@[simp] theorem mkTup_13 {a0 a1 a2 a3 a4 a5 a6 a7 a8 a9 a10 a11 a12 : D} : mkTup [.val a0, .val a1, .val a2, .val a3, .val a4, .val a5, .val a6, .val a7, .val a8, .val a9, .val a10, .val a11, .val a12] = some (.val (.tup [a0, a1, a2, a3, a4, a5, a6, a7, a8, a9, a10, a11, a12])) := by
  unfold mkTup; rw [if_pos (show ([R.val a0, R.val a1, R.val a2, R.val a3, R.val a4, R.val a5, R.val a6, R.val a7, R.val a8, R.val a9, R.val a10, R.val a11, R.val a12] : List R).length ≤ sizeLine from le_size (n := 13) (by decide))]; exact if_pos rfl
@[simp] theorem mkTup_14 {a0 a1 a2 a3 a4 a5 a6 a7 a8 a9 a10 a11 a12 a13 : D} : mkTup [.val a0, .val a1, .val a2, .val a3, .val a4, .val a5, .val a6, .val a7, .val a8, .val a9, .val a10, .val a11, .val a12, .val a13] = some (.val (.tup [a0, a1, a2, a3, a4, a5, a6, a7, a8, a9, a10, a11, a12, a13])) := by
  unfold mkTup; rw [if_pos (show ([R.val a0, R.val a1, R.val a2, R.val a3, R.val a4, R.val a5, R.val a6, R.val a7, R.val a8, R.val a9, R.val a10, R.val a11, R.val a12, R.val a13] : List R).length ≤ sizeLine from le_size (n := 14) (by decide))]; exact if_pos rfl
@[simp] theorem mkTup_15 {a0 a1 a2 a3 a4 a5 a6 a7 a8 a9 a10 a11 a12 a13 a14 : D} : mkTup [.val a0, .val a1, .val a2, .val a3, .val a4, .val a5, .val a6, .val a7, .val a8, .val a9, .val a10, .val a11, .val a12, .val a13, .val a14] = some (.val (.tup [a0, a1, a2, a3, a4, a5, a6, a7, a8, a9, a10, a11, a12, a13, a14])) := by
  unfold mkTup; rw [if_pos (show ([R.val a0, R.val a1, R.val a2, R.val a3, R.val a4, R.val a5, R.val a6, R.val a7, R.val a8, R.val a9, R.val a10, R.val a11, R.val a12, R.val a13, R.val a14] : List R).length ≤ sizeLine from le_size (n := 15) (by decide))]; exact if_pos rfl
@[simp] theorem mkTup_16 {a0 a1 a2 a3 a4 a5 a6 a7 a8 a9 a10 a11 a12 a13 a14 a15 : D} : mkTup [.val a0, .val a1, .val a2, .val a3, .val a4, .val a5, .val a6, .val a7, .val a8, .val a9, .val a10, .val a11, .val a12, .val a13, .val a14, .val a15] = some (.val (.tup [a0, a1, a2, a3, a4, a5, a6, a7, a8, a9, a10, a11, a12, a13, a14, a15])) := by
  unfold mkTup; rw [if_pos (show ([R.val a0, R.val a1, R.val a2, R.val a3, R.val a4, R.val a5, R.val a6, R.val a7, R.val a8, R.val a9, R.val a10, R.val a11, R.val a12, R.val a13, R.val a14, R.val a15] : List R).length ≤ sizeLine from le_size (n := 16) (by decide))]; exact if_pos rfl
@[simp] theorem mkTup_17 {a0 a1 a2 a3 a4 a5 a6 a7 a8 a9 a10 a11 a12 a13 a14 a15 a16 : D} : mkTup [.val a0, .val a1, .val a2, .val a3, .val a4, .val a5, .val a6, .val a7, .val a8, .val a9, .val a10, .val a11, .val a12, .val a13, .val a14, .val a15, .val a16] = some (.val (.tup [a0, a1, a2, a3, a4, a5, a6, a7, a8, a9, a10, a11, a12, a13, a14, a15, a16])) := by
  unfold mkTup; rw [if_pos (show ([R.val a0, R.val a1, R.val a2, R.val a3, R.val a4, R.val a5, R.val a6, R.val a7, R.val a8, R.val a9, R.val a10, R.val a11, R.val a12, R.val a13, R.val a14, R.val a15, R.val a16] : List R).length ≤ sizeLine from le_size (n := 17) (by decide))]; exact if_pos rfl
@[simp] theorem mkTup_18 {a0 a1 a2 a3 a4 a5 a6 a7 a8 a9 a10 a11 a12 a13 a14 a15 a16 a17 : D} : mkTup [.val a0, .val a1, .val a2, .val a3, .val a4, .val a5, .val a6, .val a7, .val a8, .val a9, .val a10, .val a11, .val a12, .val a13, .val a14, .val a15, .val a16, .val a17] = some (.val (.tup [a0, a1, a2, a3, a4, a5, a6, a7, a8, a9, a10, a11, a12, a13, a14, a15, a16, a17])) := by
  unfold mkTup; rw [if_pos (show ([R.val a0, R.val a1, R.val a2, R.val a3, R.val a4, R.val a5, R.val a6, R.val a7, R.val a8, R.val a9, R.val a10, R.val a11, R.val a12, R.val a13, R.val a14, R.val a15, R.val a16, R.val a17] : List R).length ≤ sizeLine from le_size (n := 18) (by decide))]; exact if_pos rfl
@[simp] theorem mkTup_19 {a0 a1 a2 a3 a4 a5 a6 a7 a8 a9 a10 a11 a12 a13 a14 a15 a16 a17 a18 : D} : mkTup [.val a0, .val a1, .val a2, .val a3, .val a4, .val a5, .val a6, .val a7, .val a8, .val a9, .val a10, .val a11, .val a12, .val a13, .val a14, .val a15, .val a16, .val a17, .val a18] = some (.val (.tup [a0, a1, a2, a3, a4, a5, a6, a7, a8, a9, a10, a11, a12, a13, a14, a15, a16, a17, a18])) := by
  unfold mkTup; rw [if_pos (show ([R.val a0, R.val a1, R.val a2, R.val a3, R.val a4, R.val a5, R.val a6, R.val a7, R.val a8, R.val a9, R.val a10, R.val a11, R.val a12, R.val a13, R.val a14, R.val a15, R.val a16, R.val a17, R.val a18] : List R).length ≤ sizeLine from le_size (n := 19) (by decide))]; exact if_pos rfl
@[simp] theorem mkTup_20 {a0 a1 a2 a3 a4 a5 a6 a7 a8 a9 a10 a11 a12 a13 a14 a15 a16 a17 a18 a19 : D} : mkTup [.val a0, .val a1, .val a2, .val a3, .val a4, .val a5, .val a6, .val a7, .val a8, .val a9, .val a10, .val a11, .val a12, .val a13, .val a14, .val a15, .val a16, .val a17, .val a18, .val a19] = some (.val (.tup [a0, a1, a2, a3, a4, a5, a6, a7, a8, a9, a10, a11, a12, a13, a14, a15, a16, a17, a18, a19])) := by
  unfold mkTup; rw [if_pos (show ([R.val a0, R.val a1, R.val a2, R.val a3, R.val a4, R.val a5, R.val a6, R.val a7, R.val a8, R.val a9, R.val a10, R.val a11, R.val a12, R.val a13, R.val a14, R.val a15, R.val a16, R.val a17, R.val a18, R.val a19] : List R).length ≤ sizeLine from le_size (n := 20) (by decide))]; exact if_pos rfl
@[simp] theorem mkLst_1 {a0 : D} : mkLst [.val a0] = some (.own (.lst [a0])) := by
  unfold mkLst; exact if_pos ⟨le_size (n := 1) (by decide), rfl⟩
@[simp] theorem mkLst_2 {a0 a1 : D} : mkLst [.val a0, .val a1] = some (.own (.lst [a0, a1])) := by
  unfold mkLst; exact if_pos ⟨le_size (n := 2) (by decide), rfl⟩
@[simp] theorem mkLst_3 {a0 a1 a2 : D} : mkLst [.val a0, .val a1, .val a2] = some (.own (.lst [a0, a1, a2])) := by
  unfold mkLst; exact if_pos ⟨le_size (n := 3) (by decide), rfl⟩
@[simp] theorem mkLst_4 {a0 a1 a2 a3 : D} : mkLst [.val a0, .val a1, .val a2, .val a3] = some (.own (.lst [a0, a1, a2, a3])) := by
  unfold mkLst; exact if_pos ⟨le_size (n := 4) (by decide), rfl⟩
@[simp] theorem mkLst_5 {a0 a1 a2 a3 a4 : D} : mkLst [.val a0, .val a1, .val a2, .val a3, .val a4] = some (.own (.lst [a0, a1, a2, a3, a4])) := by
  unfold mkLst; exact if_pos ⟨le_size (n := 5) (by decide), rfl⟩
@[simp] theorem mkLst_6 {a0 a1 a2 a3 a4 a5 : D} : mkLst [.val a0, .val a1, .val a2, .val a3, .val a4, .val a5] = some (.own (.lst [a0, a1, a2, a3, a4, a5])) := by
  unfold mkLst; exact if_pos ⟨le_size (n := 6) (by decide), rfl⟩
@[simp] theorem mkLst_7 {a0 a1 a2 a3 a4 a5 a6 : D} : mkLst [.val a0, .val a1, .val a2, .val a3, .val a4, .val a5, .val a6] = some (.own (.lst [a0, a1, a2, a3, a4, a5, a6])) := by
  unfold mkLst; exact if_pos ⟨le_size (n := 7) (by decide), rfl⟩
@[simp] theorem mkLst_8 {a0 a1 a2 a3 a4 a5 a6 a7 : D} : mkLst [.val a0, .val a1, .val a2, .val a3, .val a4, .val a5, .val a6, .val a7] = some (.own (.lst [a0, a1, a2, a3, a4, a5, a6, a7])) := by
  unfold mkLst; exact if_pos ⟨le_size (n := 8) (by decide), rfl⟩
/-- a row of pure tuples -/
def TupL (ds : List D) : Prop := ∀ d ∈ ds, ∃ es, d = .tup es ∧ puL es = true ∧ es.length ≤ 1000
theorem ix_tups {ds : List D} (h : TupL ds) {i : Int} (h0 : 0 ≤ i) (h1 : i < ds.length) : ∃ es, ixR (.val (.tup ds)) (.int i) = some (.val (.tup es)) ∧ puL es = true ∧ es.length ≤ 1000 := by
  have hm := getD_mem (a := D.non) (xs := ds) (i := i.toNat) (by omega)
  obtain ⟨es, e1, e2, e3⟩ := h _ hm
  refine ⟨es, ?_, e2, e3⟩
  show (atI ds i).map _ = _
  rw [atI_some h0 h1 .non, e1]
  show some (R.elt _ (.tup es)) = _
  rw [elt_pu (by simpa using e2)]
/-- a row of pure things -/
theorem ix_pus {ds : List D} (h : puL ds = true) {i : Int} (h0 : 0 ≤ i) (h1 : i < ds.length) : ∃ d, ixR (.val (.tup ds)) (.int i) = some (.val d) ∧ d ∈ ds ∧ pu d = true := by
  have hm := getD_mem (a := D.non) (xs := ds) (i := i.toNat) (by omega)
  have hp := pu_mem h _ hm
  refine ⟨_, ?_, hm, hp⟩
  show (atI ds i).map _ = _
  rw [atI_some h0 h1 .non]
  show some (R.elt _ _) = _
  rw [elt_pu hp]
theorem slD_tup {ds : List D} (h : puL ds = true) {lo hi : Option Int} : slD (.tup ds) lo hi = some (.val (.tup (cutL ds lo hi))) := congrArg some (mkR_pu (puL_cut lo hi h))
theorem addD_tup {ds es : List D} (h : ds.length + es.length ≤ 10000000) (p : puL ds = true) (q : puL es = true) : addD (.tup ds) (.tup es) = some (.val (.tup (ds ++ es))) := (if_pos (le_size h)).trans (congrArg some (mkR_pu (by show puL (ds ++ es) = true; rw [puL_append, p, q]; rfl)))
theorem cutL_len {α : Type} (xs : List α) (lo hi : Option Int) : (cutL xs lo hi).length ≤ xs.length := by
  unfold cutL
  rw [List.length_take, List.length_drop]
  omega
theorem argS_of {d : D} (h : pu d = true) : argS d = .val d := if_pos h
@[simp] theorem pow_10_9 : powD (.int 10) (.int 9) = some (.val (.int 1000000000)) := by
  have h : powD (.int 10) (.int 9) = some (.val (.int (10 ^ 9))) := rfl
  rw [h, show (10 : Int) ^ 9 = 1000000000 by omega]
@[simp] theorem pow_10_6 : powD (.int 10) (.int 6) = some (.val (.int 1000000)) := by
  have h : powD (.int 10) (.int 6) = some (.val (.int (10 ^ 6))) := rfl
  rw [h, show (10 : Int) ^ 6 = 1000000 by omega]
@[simp] theorem pow_10_12 : powD (.int 10) (.int 12) = some (.val (.int 1000000000000)) := by
  have h : powD (.int 10) (.int 12) = some (.val (.int (10 ^ 12))) := rfl
  rw [h, show (10 : Int) ^ 12 = 1000000000000 by omega]
@[simp] theorem pu_str {x : Str} : pu (.str x) = true := (rfl)
end DL

set_option Elab.async false
set_option linter.all false
set_option maxRecDepth 100000
set_option maxHeartbeats 4000000
/-! M2: values held in any way. -/
namespace DL
open PySem PySem.Spec PyProof.Rows L2
/-- what reading a stored value gives -/
def R.rdd : R → R
  | .own d => .bor d
  | r => r
@[simp] theorem rdd_d {r : R} : r.rdd.d = r.d := by cases r <;> rfl
@[simp low] theorem sl_rd {r : R} : r.sl.rd = some r.rdd := by cases r <;> rfl
theorem nl_sl {r : R} : NL r.sl := by cases r <;> intro d h <;> cases h
@[simp low] theorem stK_sl {i : Nat} {r q : R} {δ : DSt} : stK i r δ q.sl = some (δ.set i r.sl) := stK_nl nl_sl
/-- an argument, read -/
def argR (d : D) : R := if pu d = true then .val d else .par d
@[simp] theorem argR_d {d : D} : (argR d).d = d := by unfold argR; split <;> rfl
@[simp low] theorem argS_eq {d : D} : argS d = (argR d).sl := by unfold argS argR; split <;> rfl
theorem argR_pu {d : D} (h : pu d = true) : argR d = .val d := if_pos h
theorem argR_kd {d : D} : (argR d).kd = .val ∨ (argR d).kd = .par := by
  unfold argR
  split
  · exact .inl rfl
  · exact .inr rfl
def R.rett : R → R
  | .fr d => .bor d
  | r => r
@[simp] theorem rett_d {r : R} : r.rett.d = r.d := by cases r <;> rfl
@[simp low] theorem ret_eq {r : R} : r.ret = some r.rett := by cases r <;> rfl
@[simp] theorem back_d {r : R} : r.back.d = r.d := by cases r <;> rfl
@[simp] theorem elt_d {r : R} {d : D} : (r.elt d).d = d := by
  unfold R.elt
  split
  · rfl
  · cases r <;> rfl
@[simp] theorem mk_d {k : Kd} {d : D} : (k.mk d).d = d := by
  unfold Kd.mk
  split
  · rfl
  · cases k <;> rfl
@[simp] theorem mkF_d {k : Kd} {d : D} : (k.mkF d).d = d := by
  unfold Kd.mkF
  split
  · rfl
  · cases k <;> rfl
@[simp] theorem mkR_dd {d : D} : (mkR d).d = d := mkR_d
/-- a tuple of values -/
def tupR (rs : List R) : R := if allVal rs = true then .val (.tup (rs.map R.d)) else if allOwn rs = true then .own (.tup (rs.map R.d)) else .bor (.tup (rs.map R.d))
@[simp] theorem tupR_d {rs : List R} : (tupR rs).d = .tup (rs.map R.d) := by
  unfold tupR
  split
  · rfl
  · split <;> rfl
@[simp low] theorem mkTup_eq {rs : List R} (h : rs.length ≤ 1000) : mkTup rs = some (tupR rs) := by
  unfold mkTup tupR
  refine (if_pos (le_size (by omega))).trans ?_
  split
  · rfl
  · split <;> rfl
/-- a value comes, of such a datum -/
def Sat (o : Option R) (P : D → Prop) : Prop := ∃ r, o = some r ∧ P r.d
@[simp] theorem sat_some {r : R} {P : D → Prop} : Sat (some r) P ↔ P r.d := ⟨fun ⟨q, e, h⟩ => by cases e; exact h, fun h => ⟨r, rfl, h⟩⟩
theorem Sat.imp {o : Option R} {P Q : D → Prop} (h : Sat o P) (f : ∀ d, P d → Q d) : Sat o Q := let ⟨r, e, p⟩ := h; ⟨r, e, f _ p⟩
theorem ixg {x : R} {ds : List D} {i : Int} (h : x.d = .tup ds) : ixR x (.int i) = (atI ds i).map x.elt := by
  unfold ixR
  rw [h]
theorem ixg_l {x : R} {ds : List D} {i : Int} (h : x.d = .lst ds) : ixR x (.int i) = (atI ds i).map x.elt := by
  unfold ixR
  rw [h]
theorem ixg0 {x : R} {a : D} {ds : List D} (h : x.d = .tup (a :: ds)) : ixR x (.int 0) = some (x.elt a) := by
  rw [ixg h, atI_some (by omega) (by simp) a]; rfl
theorem ixg1 {x : R} {a b : D} {ds : List D} (h : x.d = .tup (a :: b :: ds)) : ixR x (.int 1) = some (x.elt b) := by
  rw [ixg h, atI_some (by omega) (by simp; omega) b]; rfl
theorem ixg2 {x : R} {a b c : D} {ds : List D} (h : x.d = .tup (a :: b :: c :: ds)) : ixR x (.int 2) = some (x.elt c) := by
  rw [ixg h, atI_some (by omega) (by simp; omega) b]; rfl
theorem ixg3 {x : R} {a b c e : D} {ds : List D} (h : x.d = .tup (a :: b :: c :: e :: ds)) : ixR x (.int 3) = some (x.elt e) := by
  rw [ixg h, atI_some (by omega) (by simp; omega) b]; rfl
/-- an item of a tuple, by an index within -/
theorem sat_ix {x : R} {ds : List D} {i : Int} {P : D → Prop} (h : x.d = .tup ds) (h0 : 0 ≤ i) (h1 : i < ds.length) (k : ∀ d ∈ ds, P d) : Sat (ixR x (.int i)) P := by
  rw [ixg h, atI_some h0 h1 .non]
  refine ⟨_, rfl, ?_⟩
  rw [elt_d]
  exact k _ (getD_mem (by omega))
theorem sat_retix {x : R} {ds : List D} {i : Int} {P : D → Prop} (h : x.d = .tup ds) (h0 : 0 ≤ i) (h1 : i < ds.length) (k : ∀ d ∈ ds, P d) : Sat (retK ((ixR x (.int i)).map .rt)) P := by
  obtain ⟨r, e, p⟩ := sat_ix h h0 h1 k
  rw [e]
  simp [p]
/-- the parts of a tuple -/
theorem parts_g {r : R} {ds : List D} (h : r.d = .tup ds) : ∃ rs, (Itm.one r).parts = some rs ∧ rs.map R.d = ds := by
  cases r with
  | own d => cases h; exact ⟨_, rfl, by rw [List.map_map]; exact List.map_id'' (fun d => by show R.d (if pu d = true then R.val d else R.own d) = d; split <;> rfl) _⟩
  | val d => cases h; exact ⟨_, rfl, by rw [List.map_map]; exact List.map_id'' (fun d => elt_d) _⟩
  | par d => cases h; exact ⟨_, rfl, by rw [List.map_map]; exact List.map_id'' (fun d => elt_d) _⟩
  | fr d => cases h; exact ⟨_, rfl, by rw [List.map_map]; exact List.map_id'' (fun d => elt_d) _⟩
  | bor d => cases h; exact ⟨_, rfl, by rw [List.map_map]; exact List.map_id'' (fun d => elt_d) _⟩
mutual
/-- no sequence in it is long -/
def szD : D → Bool
  | .tup ds => decide (ds.length ≤ 100000) && szL ds
  | .lst ds => decide (ds.length ≤ 100000) && szL ds
  | _ => true
def szL : List D → Bool
  | [] => true
  | d :: ds => szD d && szL ds
end
@[simp] theorem szD_tup {ds : List D} : szD (.tup ds) = (decide (ds.length ≤ 100000) && szL ds) := (rfl)
@[simp] theorem szD_lst {ds : List D} : szD (.lst ds) = (decide (ds.length ≤ 100000) && szL ds) := (rfl)
@[simp] theorem szD_int {i : Int} : szD (.int i) = true := (rfl)
@[simp] theorem szD_bl {i : Bool} : szD (.bl i) = true := (rfl)
@[simp] theorem szD_non : szD .non = true := (rfl)
@[simp] theorem szD_str {x : Str} : szD (.str x) = true := (rfl)
@[simp] theorem szL_nil : szL [] = true := (rfl)
@[simp] theorem szL_cons {d : D} {ds : List D} : szL (d :: ds) = (szD d && szL ds) := (rfl)
theorem szL_iff : ∀ {ds : List D}, szL ds = true ↔ ∀ d ∈ ds, szD d = true
  | [] => by simp
  | d :: ds => by simp [szL_iff (ds := ds)]
theorem szL_app {ds es : List D} (h : szL ds = true) (k : szL es = true) : szL (ds ++ es) = true := szL_iff.mpr fun d hd => by
  rcases List.mem_append.mp hd with z | z
  · exact szL_iff.mp h d z
  · exact szL_iff.mp k d z
theorem mem_cut {α : Type} {xs : List α} {lo hi : Option Int} {x : α} (h : x ∈ cutL xs lo hi) : x ∈ xs := List.mem_of_mem_drop (List.mem_of_mem_take h)
theorem szL_cut {ds : List D} {lo hi : Option Int} (h : szL ds = true) : szL (cutL ds lo hi) = true := szL_iff.mpr fun d hd => szL_iff.mp h d (mem_cut hd)
theorem szL_ints (w : List Int) : szL (w.map .int) = true := szL_iff.mpr fun d hd => by
  obtain ⟨i, _, rfl⟩ := List.mem_map.mp hd
  rfl
theorem sz_eW {w : List Int} (h : w.length ≤ 100000) : szD (eW w) = true := by
  show szD (.tup (w.map .int)) = true
  simp [h, szL_ints]
@[simp] theorem addD_g {ds es : List D} (h : ds.length + es.length ≤ 10000000) : addD (.tup ds) (.tup es) = some (mkR (.tup (ds ++ es))) := if_pos (le_size h)
@[simp] theorem slD_g {ds : List D} {lo hi : Option Int} : slD (.tup ds) lo hi = some (mkR (.tup (cutL ds lo hi))) := (rfl)
@[simp high] theorem noExc_sl {q : R} {δ : DSt} : noExc (q.sl :: δ) = noExc δ := by cases q <;> rfl
theorem eqB_bl {a b : Bool} : eqB (.bl a) (.bl b) = decide (a = b) := by cases a <;> cases b <;> rfl
@[simp] theorem eqD_bl {a b : Bool} : eqD (.bl a) (.bl b) = some (.val (.bl (decide (a = b)))) := by
  unfold eqD
  rw [eqB_bl]
  rfl
@[simp] theorem neD_bl {a b : Bool} : neD (.bl a) (.bl b) = some (.val (.bl (!decide (a = b)))) := by
  unfold neD
  rw [eqB_bl]
  rfl
@[simp] theorem notN_g {d : D} : notN d .non = some (.val (.bl (!isNon d))) := (rfl)
@[simp] theorem isNon_n : isNon .non = true := (rfl)
end DL

set_option Elab.async false
set_option linter.all false
set_option maxRecDepth 100000
/-! M3: evaluation of dicts. -/
namespace DL
open PySem PySem.Spec PyProof.Rows L2 SrtO
section
variable {δ : DSt} {ga gb gc g : G} {d e : D} {i : Nat}
@[simp] theorem ev_ixX : gIxX ga gb δ = (ga δ).bind fun x => (gb δ).bind fun y => ixX x y.d := (rfl)
@[simp] theorem ev_stxX : gStxX i ga gb δ = (gb δ).bind fun r => (ga δ).bind fun j => stxC i δ (δ.getD i .no) j.d r := (rfl)
@[simp] theorem ev_dct0 : gDct0 δ = some (.own (.dct [] [])) := (rfl)
@[simp] theorem ev_dct1 : gDct1 ga gb δ = (ga δ).bind fun x => (gb δ).bind fun y => mkDct x y := (rfl)
@[simp] theorem ev_get1 : gGet1 ga gb δ = (ga δ).bind fun x => (gb δ).bind fun y => getR x y.d (.val .non) := (rfl)
@[simp] theorem ev_get2 : gGet2 ga gb gc δ = (ga δ).bind fun x => (gb δ).bind fun y => (gc δ).bind fun z => getR x y.d z := (rfl)
@[simp] theorem ltX_int {i j : Int} : ltX (.int i) (.int j) = some (.val (.bl (decide (i < j)))) := (rfl)
@[simp] theorem inX_lst {ds : List D} : inX d (.lst ds) = inD d (.lst ds) := (rfl)
@[simp] theorem ninX_lst {ds : List D} : ninX d (.lst ds) = ninD d (.lst ds) := (rfl)
theorem inX_dct {ks : List NestedKey} {vs : List D} : inX d (.dct ks vs) = (toK d).bind fun k => if kOk ks k = true then some (.val (.bl (decide (k ∈ ks)))) else none := (rfl)
theorem ninX_dct {ks : List NestedKey} {vs : List D} : ninX d (.dct ks vs) = (toK d).bind fun k => if kOk ks k = true then some (.val (.bl (!decide (k ∈ ks)))) else none := (rfl)
/-- a word as a key -/
def nW (w : List Int) : NestedKey := .tup (w.map .num)
theorem nums_inj : ∀ {w p : List Int}, w.map NestedKey.num = p.map NestedKey.num → w = p
  | [], [], _ => rfl
  | [], _ :: _, h => by cases h
  | _ :: _, [], h => by cases h
  | a :: w, b :: p, h => by
    rw [List.map_cons, List.map_cons] at h
    injection h with h1 h2
    injection h1 with h1
    rw [h1, nums_inj h2]
theorem nW_inj {w p : List Int} (h : nW w = nW p) : w = p := by
  injection h with h
  exact nums_inj h
@[simp] theorem nW_eq {w p : List Int} : nW w = nW p ↔ w = p := ⟨nW_inj, fun h => by rw [h]⟩
theorem toKs_ints : ∀ w : List Int, toKs (w.map .int) = some (w.map .num)
  | [] => by rw [List.map_nil, toKs]; rfl
  | a :: w => by
    rw [List.map_cons, toKs, toK, toKs_ints w]
    rfl
@[simp] theorem toK_int {i : Int} : toK (.int i) = some (.num i) := by rw [toK]
@[simp] theorem toK_eW {w : List Int} : toK (eW w) = some (nW w) := by
  show toK (.tup (w.map .int)) = _
  rw [toK, toKs_ints]
  rfl
theorem depth_nums : ∀ w : List Int, NestedKey.depthAll (w.map .num) = 0
  | [] => by rw [List.map_nil, NestedKey.depthAll]
  | a :: w => by rw [List.map_cons, NestedKey.depthAll, depth_nums w, NestedKey.depth]; rfl
@[simp] theorem depth_nW {w : List Int} : (nW w).depth = 1 := by
  unfold nW
  rw [NestedKey.depth, depth_nums]
theorem kOk_nW (ws : List (List Int)) (w : List Int) : kOk (ws.map nW) (nW w) = true := by
  show ((ws.map nW).all isTup && decide ((nW w).depth ≤ 8)) = true
  rw [depth_nW, List.all_map]
  have : ws.all (isTup ∘ nW) = true := List.all_eq_true.mpr fun _ _ => rfl
  rw [this]
  rfl
theorem kOk_num (ns : List Int) (i : Int) : kOk (ns.map .num) (.num i) = true := by
  show (ns.map NestedKey.num).all isNum = true
  rw [List.all_map]
  exact List.all_eq_true.mpr fun _ _ => rfl
theorem mem_nW {ws : List (List Int)} {w : List Int} : nW w ∈ ws.map nW ↔ w ∈ ws :=
  ⟨fun h => by
    obtain ⟨p, hp, e⟩ := List.mem_map.mp h
    exact nW_inj e ▸ hp, fun h => List.mem_map_of_mem h⟩
theorem mem_num {ns : List Int} {i : Int} : NestedKey.num i ∈ ns.map NestedKey.num ↔ i ∈ ns :=
  ⟨fun h => by
    obtain ⟨p, hp, e⟩ := List.mem_map.mp h
    injection e with e
    exact e ▸ hp, fun h => List.mem_map_of_mem h⟩
theorem nin_dW {ws : List (List Int)} {vs : List D} {w : List Int} : ninX (eW w) (.dct (ws.map nW) vs) = some (.val (.bl (!decide (w ∈ ws)))) := by
  rw [ninX_dct, toK_eW]
  show (if kOk (ws.map nW) (nW w) = true then some (R.val (.bl (!decide (nW w ∈ ws.map nW)))) else none) = _
  rw [if_pos (kOk_nW ws w), decide_eq_decide.mpr mem_nW]
theorem in_dW {ws : List (List Int)} {vs : List D} {w : List Int} : inX (eW w) (.dct (ws.map nW) vs) = some (.val (.bl (decide (w ∈ ws)))) := by
  rw [inX_dct, toK_eW]
  show (if kOk (ws.map nW) (nW w) = true then some (R.val (.bl (decide (nW w ∈ ws.map nW)))) else none) = _
  rw [if_pos (kOk_nW ws w), decide_eq_decide.mpr mem_nW]
/-- a new word in a dict -/
theorem stx_dW {δ : DSt} {ws : List (List Int)} {vs : List D} {w : List Int} {r : R} (h : w ∉ ws) (hl : vs.length = ws.length) (hz : ws.length ≤ 1000000) (ok : r.okEl = true) :
    stxC i δ (.own (.dct (ws.map nW) vs)) (eW w) r = some (.nx (purge (δ.set i (.own (.dct ((ws ++ [w]).map nW) (vs ++ [r.d])))))) := by
  have hk : nW w ∉ ws.map nW := fun z => h (mem_nW.mp z)
  show ((toK (eW w)).bind fun k => if kOk (ws.map nW) k = true ∧ (ws.map nW).length < sizeLine ∧ vs.length = (ws.map nW).length ∧ r.okEl = true then some (O.nx (purge (δ.set i (.own (.dct (addN (ws.map nW) k) (putN (ws.map nW) vs k r.d)))))) else none) = _
  rw [toK_eW]
  show (if kOk (ws.map nW) (nW w) = true ∧ (ws.map nW).length < sizeLine ∧ vs.length = (ws.map nW).length ∧ r.okEl = true then some (O.nx (purge (δ.set i (.own (.dct (addN (ws.map nW) (nW w)) (putN (ws.map nW) vs (nW w) r.d)))))) else none) = _
  rw [if_pos ⟨kOk_nW ws w, by rw [List.length_map]; exact lt_size (by omega), by rw [List.length_map]; exact hl, ok⟩, addN_new hk, putN_new (by rw [List.length_map]; exact hl) hk, List.map_append]
  rfl
theorem mkDct_W {w : List Int} {x y : R} (hx : x.d = eW w) (ok : y.okEl = true) : mkDct x y = some (.own (.dct ([w].map nW) [y.d])) := by
  unfold mkDct
  rw [hx, toK_eW]
  show (if kOk [] (nW w) = true ∧ y.okEl = true then some (R.own (.dct [nW w] [y.d])) else none) = _
  rw [if_pos ⟨kOk_nW [] w, ok⟩]
  rfl
end
end DL

set_option Elab.async false
set_option linter.all false
set_option maxRecDepth 100000
namespace DL
open PySem L2 DL
/-- 0 value -/
def G_x_is_integer : GS := (gRet (gAnd (gIsi .int (gVar 0)) (gNot (gIsi .bool (gVar 0)))))
def F_x_is_integer : List D → Option R := runF 1 G_x_is_integer
/-- 0 value, 1 signs -/
def G_x_is_sign : GS := (gRet (gAnd (gCall 1 F_x_is_integer (gCons (gVar 0) gNil)) (gChain leD ltX (gC (.int 0)) (gVar 0) (gVar 1))))
def F_x_is_sign : List D → Option R := runF 2 G_x_is_sign
/-- 0 value, 1 signs, 2 sign -/
def G_x_is_word : GS := (gRet (gAnd (gIsi .tuple (gVar 0)) (gGen false [2] (gSeq (gVar 0)) (gName 2) (gCall 2 F_x_is_sign (gCons (gVar 2) (gCons (gVar 1) gNil))))))
def F_x_is_word : List D → Option R := runF 3 G_x_is_word
/-- 0 rule, 1 signs, 2 left, 3 right -/
def G_x_is_seal_rule : GS := (gSeq2 (gIf (gOrT (gNotT (gTru (gIsi .tuple (gVar 0)))) (gT (gOp neD (gCB oLen (gCons (gVar 0) gNil)) (gC (.int 2))))) (gRet (gC (.bl false))) gNop)
  (gSeq2 (gAsg (gVar 0) (gTupT 2 (gsCons (gName 2) (gsCons (gName 3) gsNil))))
  (gSeq2 (gIf (gOrT (gNotT (gTru (gCall 2 F_x_is_word (gCons (gVar 2) (gCons (gVar 1) gNil))))) (gOrT (gNotT (gTru (gCall 2 F_x_is_word (gCons (gVar 3) (gCons (gVar 1) gNil))))) (gNotT (gT (gChain leD leD (gC (.int 1)) (gCB oLen (gCons (gVar 2) gNil)) (gC (.int (6)))))))) (gRet (gC (.bl false))) gNop)
  (gRet (gOr (gOp ltX (gCB oLen (gCons (gVar 3) gNil)) (gCB oLen (gCons (gVar 2) gNil))) (gAnd (gOp eqD (gCB oLen (gCons (gVar 2) gNil)) (gC (.int 1))) (gAnd (gOp eqD (gCB oLen (gCons (gVar 3) gNil)) (gC (.int 1))) (gOp ltX (gVar 3) (gVar 2)))))))))
def F_x_is_seal_rule : List D → Option R := runF 4 G_x_is_seal_rule
/-- 0 signs, 1 table, 2 rule -/
def G_x_check_seal_table : GS := (gSeq2 (gIf (gOrT (gNotT (gTru (gIsi .tuple (gVar 1)))) (gT (gOp gtD (gCB oLen (gCons (gVar 1) gNil)) (gC (.int (12)))))) (gRaise "InvalidSeal") gNop)
  (gIf (gNotT (gTru (gGen false [2] (gSeq (gVar 1)) (gName 2) (gCall 2 F_x_is_seal_rule (gCons (gVar 2) (gCons (gVar 0) gNil)))))) (gRaise "InvalidSeal") gNop))
def F_x_check_seal_table : List D → Option RX := runFX 3 G_x_check_seal_table
/-- 0 script, 1 k, 2 cell, 3 first, 4 second, 5 third -/
def G_x_law_mixed : GS := (gSeq2 (gSet 2 (gC (.int 0)))
  (gSeq2 (gIf (gT (gOp gtD (gCB oLen (gCons (gVar 0) gNil)) (gC (.int 0)))) (gSet 2 (gIx (gVar 0) (gOp modD (gVar 1) (gCB oLen (gCons (gVar 0) gNil))))) gNop)
  (gSeq2 (gSet 3 (gOp modD (gCB oInt (gCons (gOp addD (gOp addD (gOp mulD (gVar 2) (gC (.int 48271))) (gOp mulD (gVar 1) (gC (.int 69621)))) (gC (.int 8191))) gNil)) (gC (.int 2147483647))))
  (gSeq2 (gSet 4 (gOp modD (gCB oInt (gCons (gOp addD (gOp addD (gOp mulD (gVar 3) (gVar 3)) (gOp fdivD (gVar 3) (gC (.int 7)))) (gOp mulD (gVar 1) (gC (.int 16807)))) gNil)) (gC (.int 2147483629))))
  (gSeq2 (gSet 5 (gOp modD (gCB oInt (gCons (gOp addD (gOp addD (gOp mulD (gVar 4) (gVar 4)) (gOp fdivD (gVar 4) (gC (.int 11)))) (gC (.int 40692))) gNil)) (gC (.int 2147483563))))
  (gRet (gOp modD (gOp fdivD (gVar 5) (gC (.int 5))) (gC (.int 1000003)))))))))
def F_x_law_mixed : List D → Option R := runF 6 G_x_law_mixed
def B1_x_law_row : GS := (gIf (gT (gOp gtD (gVar 2) (gC (.int 0)))) (gSeq2 (gApp 3 (gOp modD (gCB oInt (gCons (gVar 2) gNil)) (gC (.int 1000))))
  (gSet 2 (gOp fdivD (gVar 2) (gC (.int 1000))))) (gApp 3 (gCall 2 F_x_law_mixed (gCons (gVar 0) (gCons (gVar 4) gNil)))))
def L1_x_law_row : GS := (gFor [] (gRng1 (gVar 1)) (gName 4) B1_x_law_row)
/-- 0 script, 1 many, 2 big, 3 row, 4 k -/
def G_x_law_row : GS := (gSeq2 (gSet 2 (gC (.int 0)))
  (gSeq2 (gIf (gAndT (gT (gOp gtD (gCB oLen (gCons (gVar 0) gNil)) (gC (.int 0)))) (gT (gOp geD (gIx (gVar 0) (gC (.int 0))) (gOp powD (gC (.int 10)) (gC (.int 18)))))) (gSet 2 (gIx (gVar 0) (gC (.int 0)))) gNop)
  (gSeq2 (gSet 3 (gLst gNil))
  (gSeq2 L1_x_law_row
  (gRetV 3)))))
def F_x_law_row : List D → Option R := runF 5 G_x_law_row
/-- 0 row, 1 at, 2 signs, 3 most, 4 size, 5 left, 6 k -/
def G_x_law_long_rule : GS := (gSeq2 (gSet 4 (gOp addD (gC (.int 1)) (gOp modD (gCB oInt (gCons (gIx (gVar 0) (gVar 1)) gNil)) (gVar 3))))
  (gSeq2 (gSet 5 (gCB oTuple (gCons (gLc [6] (gRng1 (gVar 4)) (gName 6) gYes (gOp modD (gCB oInt (gCons (gIx (gVar 0) (gOp addD (gOp addD (gVar 1) (gC (.int 1))) (gVar 6))) gNil)) (gVar 2))) gNil)))
  (gSeq2 (gIf (gAndT (gT (gOp eqD (gVar 4) (gC (.int 1)))) (gAndT (gT (gOp gtD (gIx (gVar 5) (gC (.int 0))) (gC (.int 0)))) (gT (gOp eqD (gOp modD (gCB oInt (gCons (gIx (gVar 0) (gOp addD (gVar 1) (gC (.int 7)))) gNil)) (gC (.int 2))) (gC (.int 1)))))) (gRet (gTup (gCons (gVar 5) (gCons (gTup (gCons (gOp modD (gCB oInt (gCons (gIx (gVar 0) (gOp addD (gVar 1) (gC (.int 8)))) gNil)) (gIx (gVar 5) (gC (.int 0)))) gNil)) gNil)))) gNop)
  (gRet (gTup (gCons (gVar 5) (gCons (gCB oTuple (gCons (gLc [6] (gRng1 (gOp modD (gCB oInt (gCons (gIx (gVar 0) (gOp addD (gVar 1) (gC (.int 7)))) gNil)) (gVar 4))) (gName 6) gYes (gOp modD (gCB oInt (gCons (gIx (gVar 0) (gOp addD (gOp addD (gVar 1) (gC (.int 8))) (gVar 6))) gNil)) (gVar 2))) gNil)) gNil)))))))
def F_x_law_long_rule : List D → Option R := runF 7 G_x_law_long_rule
/-- 0 row, 1 at, 2 signs, 3 most, 4 rules, 5 k -/
def G_x_law_long_table : GS := (gRet (gCB oTuple (gCons (gLc [5] (gRng1 (gOp modD (gCB oInt (gCons (gIx (gVar 0) (gVar 1)) gNil)) (gOp addD (gVar 4) (gC (.int 1))))) (gName 5) gYes (gCall 4 F_x_law_long_rule (gCons (gVar 0) (gCons (gOp addD (gOp addD (gVar 1) (gC (.int 1))) (gOp mulD (gC (.int 13)) (gVar 5))) (gCons (gVar 2) (gCons (gVar 3) gNil)))))) gNil)))
def F_x_law_long_table : List D → Option R := runF 6 G_x_law_long_table
/-- 0 error, 1 kinds -/
def G_x_law_one_kind : GS := (gSeq2 (gSet 1 (gLst (gCons (gIsE 0 false) (gCons (gIsE 0 false) (gCons (gIsE 0 false) (gCons (gIsE 0 false) (gCons (gIsE 0 false) (gCons (gIsE 0 true) (gCons (gIsE 0 false) (gCons (gIsE 0 false) (gCons (gIsE 0 false) (gCons (gIsE 0 false) (gCons (gIsE 0 false) (gCons (gIsE 0 false) (gCons (gIsE 0 false) (gCons (gIsE 0 false) gNil))))))))))))))))
  (gRet (gAnd (gIsE 0 true) (gAnd (gIsE 0 true) (gOp eqD (gCntB 1 true) (gC (.int 1)))))))
def F_x_law_one_kind : Option R := runE 2 "InvalidSeal" G_x_law_one_kind
/-- 0 row, 1 at, 2 signs, 3 rule, 4 kind, 5 left, 6 short, 7 first, 8 greater, 9 wrong, 10 spoilt, 11 k -/
def G_x_law_bad_rule : GS := (gSeq2 (gSet 4 (gOp modD (gCB oInt (gCons (gIx (gVar 0) (gVar 1)) gNil)) (gC (.int 14))))
  (gSeq2 (gSet 5 (gCB oTuple (gCons (gLc [11] (gRng1 (gC (.int 7))) (gName 11) gYes (gOp modD (gCB oInt (gCons (gIx (gVar 0) (gOp addD (gOp addD (gVar 1) (gC (.int 1))) (gVar 11))) gNil)) (gVar 2))) gNil)))
  (gSeq2 (gSet 6 (gSl (gVar 5) gNoP (gP (gOp addD (gC (.int 1)) (gOp modD (gCB oInt (gCons (gIx (gVar 0) (gOp addD (gVar 1) (gC (.int 8)))) gNil)) (gC (.int 6)))))))
  (gSeq2 (gSet 7 (gIx (gVar 5) (gC (.int 0))))
  (gSeq2 (gIf (gT (gOp eqD (gVar 4) (gC (.int 13)))) (gRet (gIx (gLst (gCons (gC .non) (gCons (gC (.int 0)) (gCons (gC (.str "ab")) (gCons (gC (.str "")) (gCons (gTup gNil) (gCons (gTup (gCons (gVar 6) gNil)) gNil))))))) (gOp modD (gCB oInt (gCons (gIx (gVar 0) (gOp addD (gVar 1) (gC (.int 9)))) gNil)) (gC (.int 6))))) gNop)
  (gSeq2 (gSet 8 (gOp addD (gVar 7) (gOp modD (gCB oInt (gCons (gIx (gVar 0) (gOp addD (gVar 1) (gC (.int 9)))) gNil)) (gOp subD (gVar 2) (gVar 7)))))
  (gSeq2 (gSet 9 (gIx (gLst (gCons (gNeg (gC (.int 1))) (gCons (gVar 2) (gCons (gC (.bl true)) (gCons (gC (.str "a")) gNil))))) (gOp modD (gCB oInt (gCons (gIx (gVar 0) (gOp addD (gVar 1) (gC (.int 9)))) gNil)) (gC (.int 4)))))
  (gSeq2 (gSet 10 (gLst (gCons (gTup (gCons (gVar 6) (gCons (gRev (gVar 6)) gNil))) (gCons (gTup (gCons (gTup (gCons (gVar 7) gNil)) (gCons (gTup (gCons (gVar 8) gNil)) gNil))) (gCons (gTup (gCons (gVar 5) (gCons (gTup gNil) gNil))) (gCons (gTup (gCons (gTup gNil) (gCons (gTup gNil) gNil))) (gCons (gTup (gCons (gOp addD (gSl (gVar 6) (gP (gC (.int 1))) gNoP) (gTup (gCons (gIx (gLst (gCons (gVar 2) (gCons (gNeg (gC (.int 1))) gNil))) (gOp modD (gCB oInt (gCons (gIx (gVar 0) (gOp addD (gVar 1) (gC (.int 9)))) gNil)) (gC (.int 2)))) gNil))) (gCons (gTup gNil) gNil))) (gCons (gTup (gCons (gOp addD (gSl (gVar 6) gNoP (gP (gC (.int 5)))) (gTup (gCons (gVar 7) gNil))) (gCons (gTup (gCons (gVar 9) gNil)) gNil))) (gCons (gTup (gCons (gOp addD (gSl (gVar 6) (gP (gC (.int 1))) gNoP) (gTup (gCons (gC (.bl true)) gNil))) (gCons (gTup gNil) gNil))) (gCons (gTup (gCons (gOp addD (gSl (gVar 6) (gP (gC (.int 1))) gNoP) (gTup (gCons (gC (.str "a")) gNil))) (gCons (gTup gNil) gNil))) (gCons (gTup (gCons (gVar 6) (gCons (gOp addD (gVar 6) (gTup (gCons (gVar 7) gNil))) gNil))) (gCons (gCB oList (gCons (gVar 3) gNil)) (gCons (gOp addD (gVar 3) (gTup (gCons (gTup gNil) gNil))) (gCons (gTup (gCons (gCB oList (gCons (gIx (gVar 3) (gC (.int 0))) gNil)) (gCons (gIx (gVar 3) (gC (.int 1))) gNil))) (gCons (gTup (gCons (gIx (gVar 3) (gC (.int 0))) (gCons (gCB oList (gCons (gIx (gVar 3) (gC (.int 1))) gNil)) gNil))) gNil)))))))))))))))
  (gRet (gIx (gVar 10) (gVar 4)))))))))))
def F_x_law_bad_rule : List D → Option R := runF 12 G_x_law_bad_rule
/-- 0 row, 1 at, 2 signs, 3 table, 4 kind, 5 rule, 6 place, 7 k -/
def G_x_law_bad_table : GS := (gSeq2 (gSet 4 (gOp modD (gCB oInt (gCons (gIx (gVar 0) (gVar 1)) gNil)) (gC (.int 16))))
  (gSeq2 (gSet 5 (gTup (gCons (gTup (gCons (gC (.int 0)) gNil)) (gCons (gTup gNil) gNil))))
  (gSeq2 (gIf (gT (gOp gtD (gCB oLen (gCons (gVar 3) gNil)) (gC (.int 0)))) (gSet 5 (gIx (gVar 3) (gOp modD (gCB oInt (gCons (gIx (gVar 0) (gOp addD (gVar 1) (gC (.int 1)))) gNil)) (gCB oLen (gCons (gVar 3) gNil))))) gNop)
  (gSeq2 (gIf (gT (gOp eqD (gVar 4) (gC (.int 0)))) (gRet (gCB oList (gCons (gVar 3) gNil))) gNop)
  (gSeq2 (gIf (gT (gOp eqD (gVar 4) (gC (.int 1)))) (gRet (gIx (gLst (gCons (gC .non) (gCons (gC (.int 0)) (gCons (gC (.bl true)) (gCons (gC (.str "")) (gCons (gC (.str "ab")) (gCons gDct0 gNil))))))) (gOp modD (gCB oInt (gCons (gIx (gVar 0) (gOp addD (gVar 1) (gC (.int 2)))) gNil)) (gC (.int 6))))) gNop)
  (gSeq2 (gIf (gT (gOp eqD (gVar 4) (gC (.int 2)))) (gRet (gSl (gOp addD (gVar 3) (gCB oTuple (gCons (gLc [7] (gRng1 (gC (.int 13))) (gName 7) gYes (gVar 5)) gNil))) gNoP (gP (gC (.int 13))))) gNop)
  (gSeq2 (gSet 6 (gOp modD (gCB oInt (gCons (gIx (gVar 0) (gOp addD (gVar 1) (gC (.int 1)))) gNil)) (gCB oMax (gCons (gC (.int 1)) (gCons (gCB oLen (gCons (gVar 3) gNil)) gNil)))))
  (gRet (gOp addD (gOp addD (gSl (gVar 3) gNoP (gP (gVar 6))) (gTup (gCons (gCall 4 F_x_law_bad_rule (gCons (gVar 0) (gCons (gOp addD (gVar 1) (gC (.int 3))) (gCons (gVar 2) (gCons (gVar 5) gNil))))) gNil))) (gSl (gVar 3) (gP (gOp addD (gVar 6) (gC (.int 1)))) gNoP))))))))))
def F_x_law_bad_table : List D → Option R := runF 8 G_x_law_bad_table
def B1_x_law_let : GS := (gSetX 2 (gCallX 2 F_x_check_seal_table (gCons (gVar 0) (gCons (gVar 1) gNil))))
def U1_x_law_let : GS := (gRet (gC (.bl false)))
/-- 0 signs, 1 table, 2 answer -/
def G_x_law_let : GS := (gSeq2 (gTry0 "AnychainError" B1_x_law_let U1_x_law_let)
  (gRet (gOp isN (gVar 2) (gC .non))))
def F_x_law_let : List D → Option R := runF 3 G_x_law_let
def B1_x_law_refused : GS := (gExprX (gCallX 2 F_x_check_seal_table (gCons (gVar 0) (gCons (gVar 1) gNil))))
def U1_x_law_refused : GS := (gRet (gCallE 2 F_x_law_one_kind))
/-- 0 signs, 1 table, 2 e -/
def G_x_law_refused : GS := (gSeq2 (gTry "InvalidSeal" 2 B1_x_law_refused U1_x_law_refused)
  (gRet (gC (.bl false))))
def F_x_law_refused : List D → Option R := runF 3 G_x_law_refused
/-- 0 script, 1 row, 2 signs, 3 table -/
def G_x_law : GS := (gSeq2 (gSet 1 (gCall 2 F_x_law_row (gCons (gVar 0) (gCons (gC (.int 184)) gNil))))
  (gSeq2 (gSet 2 (gOp addD (gC (.int 1)) (gOp modD (gCB oInt (gCons (gIx (gVar 1) (gC (.int 0))) gNil)) (gC (.int 30)))))
  (gSeq2 (gSet 3 (gCall 5 F_x_law_long_table (gCons (gVar 1) (gCons (gC (.int 6)) (gCons (gVar 2) (gCons (gC (.int 6)) (gCons (gC (.int 12)) gNil)))))))
  (gSeq2 (gIf (gNotT (gTru (gCall 2 F_x_law_let (gCons (gVar 2) (gCons (gVar 3) gNil))))) (gRet (gC (.bl false))) gNop)
  (gSeq2 (gIf (gAndT (gT (gOp gtD (gOp modD (gCB oInt (gCons (gIx (gVar 1) (gC (.int 1))) gNil)) (gC (.int 3))) (gC (.int 0)))) (gNotT (gTru (gCall 2 F_x_law_refused (gCons (gVar 2) (gCons (gCall 4 F_x_law_bad_table (gCons (gVar 1) (gCons (gC (.int 165)) (gCons (gVar 2) (gCons (gVar 3) gNil))))) gNil)))))) (gRet (gC (.bl false))) gNop)
  (gRet (gCall 2 F_x_law_let (gCons (gVar 2) (gCons (gVar 3) gNil)))))))))
def F_x_law : List D → Option R := runF 4 G_x_law
end DL

set_option Elab.async false
set_option linter.all false
set_option maxRecDepth 100000
set_option maxHeartbeats 4000000
namespace DL
open PySem L2 DL
/-- what is known of a row -/
def Row (r : List Int) (n : Nat) : Prop := r.length = n ∧ ∀ x ∈ r, 0 ≤ x ∧ x < 1000003
theorem f_mixed (ns : List Int) (k : Int) (h0 : 0 ≤ k) (h1 : k < 1000000) : ∃ m : Int, F_x_law_mixed [.scr ns, .int k] = some (.val (.int m)) ∧ 0 ≤ m ∧ m < 1000003 := by
  unfold F_x_law_mixed G_x_law_mixed
  rw [ev_run]
  unfold startD
  by_cases hl : ns.length = 0
  · have e : ns = [] := List.eq_nil_of_length_eq_zero hl
    subst e
    simp (disch := first | omega | simp) [ev_store, mulD_l]
    constructor <;> omega
  · have h2 : 0 ≤ k % (ns.length : Int) := Int.emod_nonneg _ (by omega)
    have h3 : k % (ns.length : Int) < ns.length := Int.emod_lt_of_pos _ (by omega)
    have h4 : (0 : Int) < ns.length := by omega
    have h5 : 0 < ns.length := by omega
    simp (disch := first | omega | simp) [ev_store, mulD_r, h5, h4, ix_scr h2 h3]
    constructor <;> omega
theorem f_row_tail (ns : List Int) (n : Nat) (hn : n ≤ 100000) (big : Int) : ∃ r u v, L1_x_law_row [.par (.scr ns), .val (.int n), .val (.int big), .own (eL []), .no] = some (.nx [.par (.scr ns), .val (.int n), u, .own (eL r), v]) ∧ Row r n := by
  unfold L1_x_law_row
  obtain ⟨δ', h1, b, r, v, rfl, hv, hr⟩ := for_rng (lks := []) (gi := gRng1 (gVar 1)) (gt := gName 4) (gb := B1_x_law_row) (δ := [.par (.scr ns), .val (.int n), .val (.int big), .own (eL []), .no]) n
      (fun i δ => ∃ (b : Int) (r : List Int) (v : Sl), δ = [.par (.scr ns), .val (.int n), .val (.int b), .own (eL r), v] ∧ NL v ∧ Row r i) (rng_of (by simp) (by omega)) ⟨big, [], .no, by simp [eL], nl_no, rfl, by simp⟩ (fun i δ hi ⟨b, r, v, hd, hv, hr⟩ => by
        subst hd
        have hl : r.length ≤ 10000000 := by have := hr.1; omega
        refine ⟨[.par (.scr ns), .val (.int n), .val (.int b), .own (eL r), .val (.int i)], by simp [ev_store, stK_nl hv], ?_⟩
        unfold B1_x_law_row
        by_cases hb : 0 < b
        · refine ⟨[.par (.scr ns), .val (.int n), .val (.int (b / 1000)), .own (eL (r ++ [b % 1000])), .val (.int i)], by simp [ev_store, hb, appL hl], _, _, _, rfl, nl_val, by simp [hr.1], fun x hx => ?_⟩
          rcases List.mem_append.mp hx with hx | hx
          · exact hr.2 x hx
          · rw [List.mem_singleton.mp hx]; constructor <;> omega
        · obtain ⟨m, e, m0, m1⟩ := f_mixed ns i (by omega) (by omega)
          refine ⟨[.par (.scr ns), .val (.int n), .val (.int b), .own (eL (r ++ [m])), .val (.int i)], by simp [ev_store, hb, e, appL hl], _, _, _, rfl, nl_val, by simp [hr.1], fun x hx => ?_⟩
          rcases List.mem_append.mp hx with hx | hx
          · exact hr.2 x hx
          · rw [List.mem_singleton.mp hx]; exact ⟨m0, m1⟩)
  exact ⟨r, _, _, by simpa using h1, hr⟩
theorem f_row_fin (ns : List Int) (n : Nat) (hn : n ≤ 100000) (big : Int) : ∃ r, retK (seqK (seqK (some (.nx [.par (.scr ns), .val (.int n), .val (.int big), .no, .no])) (gSet 3 (gLst gNil))) (gSeq2 L1_x_law_row (gRetV 3))) = some (.own (eL r)) ∧ Row r n := by
  obtain ⟨r, u, v, e, hr⟩ := f_row_tail ns n hn big
  exact ⟨r, by simp [ev_store, mkLst_nil, eL_nil, e], hr⟩
theorem f_row (ns : List Int) (n : Nat) (hn : n ≤ 100000) : ∃ r, F_x_law_row [.scr ns, .int n] = some (.own (eL r)) ∧ Row r n := by
  unfold F_x_law_row G_x_law_row
  rw [ev_run]
  unfold startD
  by_cases hl : ns.length = 0
  · obtain ⟨r, e, hr⟩ := f_row_fin ns n hn 0
    refine ⟨r, ?_, hr⟩
    rw [← e]
    simp [ev_store, hl]
  · have h5 : 0 < ns.length := by omega
    have h6 : (0 : Int) < ns.length := by omega
    obtain ⟨x, hx⟩ : ∃ x, ixR (.par (.scr ns)) (.int 0) = some (.val (.int x)) := ⟨_, ix_scr (i := 0) (by omega) h6⟩
    by_cases hb : 1000000000000000000 ≤ x
    · obtain ⟨r, e, hr⟩ := f_row_fin ns n hn x
      refine ⟨r, ?_, hr⟩
      rw [← e]
      simp [ev_store, h5, hx, hb]
    · obtain ⟨r, e, hr⟩ := f_row_fin ns n hn 0
      refine ⟨r, ?_, hr⟩
      rw [← e]
      simp [ev_store, h5, hx, hb]
end DL

set_option Elab.async false
set_option linter.all false
set_option maxRecDepth 100000
set_option maxHeartbeats 4000000
namespace DL
open PySem L2 DL
theorem Row.cell {r : List Int} {n : Nat} (h : Row r n) {i : Int} (h0 : 0 ≤ i) (h1 : i < n) : 0 ≤ cell r i ∧ cell r i < 1000003 := h.2 _ (cell_mem h0 (by rw [h.1]; exact h1))
/-- a word over s signs -/
def InS (s : Int) (w : List Int) : Prop := ∀ x ∈ w, 0 ≤ x ∧ x < s
theorem inS_nil {s : Int} : InS s [] := fun x hx => by cases hx
theorem inS_one {s c : Int} (hs : 0 < s) : InS s [c % s] := fun x hx => by
  rw [List.mem_singleton.mp hx]
  exact ⟨Int.emod_nonneg _ (by omega), Int.emod_lt_of_pos _ hs⟩
end DL

set_option Elab.async false
set_option linter.all false
set_option maxRecDepth 100000
set_option maxHeartbeats 4000000
namespace DL
open PySem L2 DL
theorem cut_mid (w : List Int) (p k : Nat) : cutL w (some (p : Int)) (some ((p : Int) + (k : Int))) = (w.drop p).take k := by
  unfold cutL
  rw [show (p : Int) + (k : Int) = ((p + k : Nat) : Int) by omega, HT.sIx_nat, HT.sIx_nat]
  by_cases h : p ≤ w.length
  · rw [Nat.min_eq_left h, List.take_eq_take_iff, List.length_drop]
    omega
  · rw [show min p w.length = w.length by omega, List.drop_of_length_le (Nat.le_refl _), List.drop_of_length_le (by omega)]
    simp
theorem cut_lo (w : List Int) (p : Nat) : cutL w none (some (p : Int)) = w.take p := by
  unfold cutL
  rw [HT.sIx_none, HT.sIx_nat, List.drop_zero, Nat.sub_zero, List.take_eq_take_iff]
  omega
theorem cut_hi (w : List Int) (p : Nat) : cutL w (some (p : Int)) none = w.drop p := by
  unfold cutL
  rw [HT.sIx_none, HT.sIx_nat]
  by_cases h : p ≤ w.length
  · rw [Nat.min_eq_left h, List.take_of_length_le (by rw [List.length_drop]; omega)]
  · rw [Nat.min_eq_right (by omega), List.drop_of_length_le (Nat.le_refl _), List.drop_of_length_le (by omega)]
    simp
def Wd (n : Nat) (w : List Int) : Prop := ∀ x ∈ w, 0 ≤ x ∧ x < n
theorem Wd.nil {n : Nat} : Wd n [] := fun _ h => nomatch h
theorem Wd.app {n : Nat} {a b : List Int} (h : Wd n a) (k : Wd n b) : Wd n (a ++ b) := fun x hx => by
  rcases List.mem_append.mp hx with hx | hx
  · exact h x hx
  · exact k x hx
theorem Wd.left {n : Nat} {a b : List Int} (h : Wd n (a ++ b)) : Wd n a := fun x hx => h x (List.mem_append_left _ hx)
theorem Wd.right {n : Nat} {a b : List Int} (h : Wd n (a ++ b)) : Wd n b := fun x hx => h x (List.mem_append_right _ hx)
theorem Wd.tail {n : Nat} {x : Int} {a : List Int} (h : Wd n (x :: a)) : Wd n a := fun y hy => h y (List.mem_cons_of_mem _ hy)
theorem Wd.take {n : Nat} {a : List Int} (h : Wd n a) (p : Nat) : Wd n (a.take p) := fun x hx => h x (List.mem_of_mem_take hx)
theorem Wd.drop {n : Nat} {a : List Int} (h : Wd n a) (p : Nat) : Wd n (a.drop p) := fun x hx => h x (List.mem_of_mem_drop hx)
abbrev Rule := List Int × List Int
def stB (w l : List Int) (p : Nat) : Bool := decide ((w.drop p).take l.length = l)
def repl (w : List Int) (p k : Nat) (r : List Int) : List Int := w.take p ++ r ++ w.drop (p + k)
def at1 (w : List Int) (p : Nat) (q : Rule) : Option (List Int) := if stB w q.1 p = true then some (repl w p q.1.length q.2) else none
def red1 (T : List Rule) (w : List Int) : Option (List Int) := (List.range w.length).findSome? fun p => T.findSome? (at1 w p)
-- new names
theorem fs_congr {α β : Type} {f g : α → Option β} : ∀ {l : List α}, (∀ a ∈ l, f a = g a) → l.findSome? f = l.findSome? g
  | [], _ => rfl
  | a :: l, h => by
    rw [List.findSome?_cons, List.findSome?_cons, h a List.mem_cons_self, fs_congr fun b hb => h b (List.mem_cons_of_mem _ hb)]
theorem fs_out {α β γ : Type} {f : α → Option β} {g : β → γ} : ∀ l : List α, (l.findSome? fun a => (f a).map g) = (l.findSome? f).map g
  | [] => rfl
  | a :: l => by
    rw [List.findSome?_cons, List.findSome?_cons, fs_out l]
    cases f a <;> rfl
theorem fs_in {α β γ : Type} {f : β → Option γ} {g : α → β} : ∀ l : List α, (l.map g).findSome? f = l.findSome? fun a => f (g a)
  | [] => rfl
  | a :: l => by rw [List.map_cons, List.findSome?_cons, List.findSome?_cons, fs_in l]
theorem fs_app {α β : Type} {f : α → Option β} : ∀ l m : List α, (l ++ m).findSome? f = match l.findSome? f with | some b => some b | none => m.findSome? f
  | [], m => rfl
  | a :: l, m => by
    rw [List.cons_append, List.findSome?_cons, List.findSome?_cons, fs_app l m]
    cases f a <;> rfl
theorem fs_one {α β : Type} {f : α → Option β} {a : α} : [a].findSome? f = f a := by
  rw [List.findSome?_cons]; cases f a <;> rfl
theorem fs_mem {α β : Type} {f : α → Option β} {b : β} : ∀ {l : List α}, l.findSome? f = some b → ∃ a ∈ l, f a = some b
  | [], h => by cases h
  | a :: l, h => by
    rw [List.findSome?_cons] at h
    cases e : f a with
    | some c => rw [e] at h; cases h; exact ⟨a, List.mem_cons_self, e⟩
    | none =>
      rw [e] at h
      obtain ⟨c, hc, k⟩ := fs_mem (l := l) h
      exact ⟨c, List.mem_cons_of_mem _ hc, k⟩
def Inj (s : Nat) (nm : Int → Int) : Prop := ∀ x y : Int, 0 ≤ x → x < s → 0 ≤ y → y < s → nm x = nm y → x = y
theorem map_inj {s : Nat} {nm : Int → Int} (hi : Inj s nm) : ∀ {a b : List Int}, Wd s a → Wd s b → a.map nm = b.map nm → a = b
  | [], [], _, _, _ => rfl
  | [], y :: b, _, _, h => by cases h
  | x :: a, [], _, _, h => by cases h
  | x :: a, y :: b, ha, hb, h => by
    rw [List.map_cons, List.map_cons] at h
    obtain ⟨h1, h2⟩ := List.cons.inj h
    obtain ⟨x0, x1⟩ := ha x List.mem_cons_self
    obtain ⟨y0, y1⟩ := hb y List.mem_cons_self
    rw [hi x y x0 x1 y0 y1 h1, map_inj hi ha.tail hb.tail h2]
def nmR (nm : Int → Int) (q : Rule) : Rule := (q.1.map nm, q.2.map nm)
theorem stB_map {s : Nat} {nm : Int → Int} (hi : Inj s nm) {w l : List Int} (hw : Wd s w) (hl : Wd s l) (p : Nat) : stB (w.map nm) (l.map nm) p = stB w l p := by
  unfold stB
  rw [List.length_map, ← List.map_drop, ← List.map_take]
  refine decide_eq_decide.mpr ⟨fun h => map_inj hi ((hw.drop p).take _) hl h, fun h => by rw [h]⟩
theorem repl_map (nm : Int → Int) (w : List Int) (p k : Nat) (r : List Int) : repl (w.map nm) p k (r.map nm) = (repl w p k r).map nm := by
  unfold repl
  rw [List.map_append, List.map_append, List.map_take, List.map_drop]
theorem at1_map {s : Nat} {nm : Int → Int} (hi : Inj s nm) {w : List Int} (hw : Wd s w) {q : Rule} (hl : Wd s q.1) (p : Nat) : at1 (w.map nm) p (nmR nm q) = (at1 w p q).map (List.map nm) := by
  unfold at1 nmR
  rw [stB_map hi hw hl, repl_map, List.length_map]
  cases stB w q.1 p <;> rfl
structure OkR (s : Nat) (q : Rule) : Prop where
  l : Wd s q.1
  r : Wd s q.2
  small : q.2.length < q.1.length ∨ ∃ a b, q = ([a], [b]) ∧ b < a
  len : q.1.length ≤ 6
theorem red1_map {s : Nat} {nm : Int → Int} (hi : Inj s nm) {w : List Int} (hw : Wd s w) {T : List Rule} (hT : ∀ q ∈ T, OkR s q) : red1 (T.map (nmR nm)) (w.map nm) = (red1 T w).map (List.map nm) := by
  unfold red1
  rw [List.length_map, ← fs_out]
  refine fs_congr fun p _ => ?_
  rw [fs_in, ← fs_out]
  exact fs_congr fun q hq => at1_map hi hw (hT q hq).l p
-- the measure
def sm (w : List Int) : Nat := (w.map Int.toNat).sum
theorem sm_app (a b : List Int) : sm (a ++ b) = sm a + sm b := by unfold sm; rw [List.map_append, List.sum_append]
theorem sm_le {s : Nat} : ∀ {w : List Int}, Wd (s + 1) w → sm w ≤ s * w.length
  | [], _ => Nat.zero_le _
  | x :: w, h => by
    have ih := sm_le (w := w) h.tail
    obtain ⟨x0, x1⟩ := h x List.mem_cons_self
    show Int.toNat x + sm w ≤ s * (w.length + 1)
    rw [Nat.mul_add, Nat.mul_one]
    omega
def tri (s : Nat) : Nat → Nat
  | 0 => 0
  | n + 1 => tri s n + s * n + 1
theorem tri_mono {s m : Nat} : ∀ {n : Nat}, m ≤ n → tri s m ≤ tri s n
  | 0, h => by rw [Nat.le_zero.mp h]; exact Nat.le_refl _
  | n + 1, h => by
    rcases Nat.lt_or_ge m (n + 1) with k | k
    · have := tri_mono (s := s) (n := n) (Nat.le_of_lt_succ k)
      show tri s m ≤ tri s n + s * n + 1
      omega
    · rw [Nat.le_antisymm h k]; exact Nat.le_refl _
def mu (s : Nat) (w : List Int) : Nat := tri s w.length + sm w
theorem split_at {w l : List Int} {p : Nat} (h : stB w l p = true) : w = w.take p ++ l ++ w.drop (p + l.length) := by
  have h := of_decide_eq_true h
  conv => lhs; rw [← List.take_append_drop p w, ← List.take_append_drop l.length (w.drop p), h, List.drop_drop]
  rw [List.append_assoc]
theorem mu_lt {s : Nat} {A Z : List Int} {q : Rule} (hq : OkR (s + 1) q) (hw : Wd (s + 1) (A ++ q.1 ++ Z)) : mu s (A ++ q.2 ++ Z) < mu s (A ++ q.1 ++ Z) ∧ Wd (s + 1) (A ++ q.2 ++ Z) ∧ (A ++ q.2 ++ Z).length ≤ (A ++ q.1 ++ Z).length := by
  have w2 : Wd (s + 1) (A ++ q.2 ++ Z) := (hw.left.left.app hq.r).app hw.right
  refine ⟨?_, w2, ?_⟩
  · rcases hq.small with h | ⟨a, b, rfl, h⟩
    · have hlt : (A ++ q.2 ++ Z).length < (A ++ q.1 ++ Z).length := by simp only [List.length_append]; omega
      have h1 := sm_le w2
      have h2 := tri_mono (s := s) (Nat.succ_le_of_lt hlt)
      have h3 : tri s ((A ++ q.2 ++ Z).length + 1) = tri s (A ++ q.2 ++ Z).length + s * (A ++ q.2 ++ Z).length + 1 := rfl
      have h4 : tri s (A ++ q.2 ++ Z).length.succ = tri s ((A ++ q.2 ++ Z).length + 1) := rfl
      unfold mu
      omega
    · have hl : (A ++ [b] ++ Z).length = (A ++ [a] ++ Z).length := by simp
      obtain ⟨b0, _⟩ := hq.r b List.mem_cons_self
      unfold mu
      show tri s (A ++ [b] ++ Z).length + sm (A ++ [b] ++ Z) < tri s (A ++ [a] ++ Z).length + sm (A ++ [a] ++ Z)
      rw [hl, sm_app, sm_app, sm_app, sm_app]
      have h1 : sm [b] = b.toNat := by show b.toNat + 0 = _; omega
      have h2 : sm [a] = a.toNat := by show a.toNat + 0 = _; omega
      rw [h1, h2]
      omega
  · rcases hq.small with h | ⟨a, b, rfl, h⟩
    · simp only [List.length_append]; omega
    · simp
theorem red1_step {s : Nat} {T : List Rule} (hT : ∀ q ∈ T, OkR (s + 1) q) {w w' : List Int} (hw : Wd (s + 1) w) (h : red1 T w = some w') : mu s w' < mu s w ∧ Wd (s + 1) w' ∧ w'.length ≤ w.length := by
  obtain ⟨p, _, h⟩ := fs_mem h
  obtain ⟨q, hq, h⟩ := fs_mem h
  unfold at1 at h
  cases e : stB w q.1 p with
  | false => rw [e] at h; cases h
  | true =>
    rw [e] at h
    cases h
    have sp := split_at e
    have := mu_lt (A := w.take p) (Z := w.drop (p + q.1.length)) (hT q hq) (by rw [← sp]; exact hw)
    rw [← sp] at this
    exact this
def nf (T : List Rule) : Nat → List Int → List Int
  | 0, w => w
  | n + 1, w => match red1 T w with
    | none => w
    | some w' => nf T n w'
def norm (s : Nat) (T : List Rule) (w : List Int) : List Int := nf T (mu s w) w
theorem nf_eq {s : Nat} {T : List Rule} (hT : ∀ q ∈ T, OkR (s + 1) q) : ∀ (n : Nat) (w : List Int), Wd (s + 1) w → mu s w ≤ n → red1 T (nf T n w) = none ∧ (∀ m, mu s w ≤ m → nf T m w = nf T n w) ∧ Wd (s + 1) (nf T n w) ∧ (nf T n w).length ≤ w.length
  | 0, w, hw, h => by
    have r0 : red1 T w = none := by
      cases e : red1 T w with
      | none => rfl
      | some w' => have := (red1_step hT hw e).1; omega
    refine ⟨r0, fun m _ => ?_, hw, Nat.le_refl _⟩
    cases m with
    | zero => rfl
    | succ m => show (match red1 T w with | none => w | some w' => nf T m w') = w; rw [r0]
  | n + 1, w, hw, h => by
    cases e : red1 T w with
    | none =>
      have e1 : ∀ m, nf T m w = w := fun m => by
        cases m with
        | zero => rfl
        | succ m => show (match red1 T w with | none => w | some w' => nf T m w') = w; rw [e]
      rw [e1]
      exact ⟨e, fun m _ => e1 m, hw, Nat.le_refl _⟩
    | some w' =>
      obtain ⟨s1, s2, s3⟩ := red1_step hT hw e
      obtain ⟨i1, i2, i3, i4⟩ := nf_eq hT n w' s2 (by omega)
      have e1 : nf T (n + 1) w = nf T n w' := by show (match red1 T w with | none => w | some w' => nf T n w') = _; rw [e]
      rw [e1]
      refine ⟨i1, fun m hm => ?_, i3, Nat.le_trans i4 s3⟩
      cases m with
      | zero => omega
      | succ m =>
        show (match red1 T w with | none => w | some w' => nf T m w') = _
        rw [e]
        exact i2 m (by omega)
theorem norm_none {s : Nat} {T : List Rule} (hT : ∀ q ∈ T, OkR (s + 1) q) {w : List Int} (hw : Wd (s + 1) w) : red1 T (norm s T w) = none := (nf_eq hT _ w hw (Nat.le_refl _)).1
theorem norm_len {s : Nat} {T : List Rule} (hT : ∀ q ∈ T, OkR (s + 1) q) {w : List Int} (hw : Wd (s + 1) w) : (norm s T w).length ≤ w.length := (nf_eq hT _ w hw (Nat.le_refl _)).2.2.2
theorem norm_wd {s : Nat} {T : List Rule} (hT : ∀ q ∈ T, OkR (s + 1) q) {w : List Int} (hw : Wd (s + 1) w) : Wd (s + 1) (norm s T w) := (nf_eq hT _ w hw (Nat.le_refl _)).2.2.1
theorem norm_eq {s : Nat} {T : List Rule} (hT : ∀ q ∈ T, OkR (s + 1) q) {w : List Int} (hw : Wd (s + 1) w) {n : Nat} (h : mu s w ≤ n) : nf T n w = norm s T w := (nf_eq hT _ w hw (Nat.le_refl _)).2.1 n h
theorem norm_stop {s : Nat} {T : List Rule} {w : List Int} (h : red1 T w = none) : norm s T w = w := by
  unfold norm
  cases mu s w with
  | zero => rfl
  | succ m => show (match red1 T w with | none => w | some w' => nf T m w') = w; rw [h]
theorem norm_step {s : Nat} {T : List Rule} (hT : ∀ q ∈ T, OkR (s + 1) q) {w w' : List Int} (hw : Wd (s + 1) w) (h : red1 T w = some w') : norm s T w = norm s T w' := by
  obtain ⟨s1, s2, s3⟩ := red1_step hT hw h
  rw [← norm_eq hT hw (n := mu s w + 1) (by omega), ← norm_eq hT s2 (n := mu s w) (by omega)]
  show (match red1 T w with | none => w | some w' => nf T (mu s w) w') = _
  rw [h]
/-- the bound -/
theorem mu_le {s L : Nat} {w : List Int} (hw : Wd (s + 1) w) (h : w.length ≤ L) : mu s w ≤ tri s L + s * L := by
  have h1 := sm_le hw
  have h2 := tri_mono (s := s) h
  have h3 := Nat.mul_le_mul_left s h
  unfold mu
  omega
end DL

set_option Elab.async false
set_option linter.all false
set_option maxRecDepth 100000
set_option maxHeartbeats 4000000
namespace DL
open PySem L2 DL
/-- a rule -/
def eRule (q : Rule) : D := .tup [eW q.1, eW q.2]
@[simp] theorem pu_eRule {q : Rule} : pu (eRule q) = true := by unfold eRule; simp
@[simp] theorem elt_eRule {k : R} {q : Rule} : k.elt (eRule q) = .val (eRule q) := elt_pu pu_eRule
@[simp] theorem ix_eRule {q : Rule} : ixR (.val (eRule q)) (.int 0) = some (.val (eW q.1)) := by
  show some (R.elt _ (eW q.1)) = _
  rw [elt_eW]
@[simp] theorem ix_eRule1 {q : Rule} : ixR (.val (eRule q)) (.int 1) = some (.val (eW q.2)) := by
  show some (R.elt _ (eW q.2)) = _
  rw [elt_eW]
@[simp] theorem parts_eRule {q : Rule} : (Itm.one (R.val (eRule q))).parts = some [R.val (eW q.1), R.val (eW q.2)] := by unfold eRule; simp
/-- a table -/
def eTab (T : List Rule) : D := .tup (T.map eRule)
@[simp] theorem pu_eTab {T : List Rule} : pu (eTab T) = true := puL_map (fun _ => pu_eRule) T
@[simp] theorem argS_eTab {T : List Rule} : argS (eTab T) = .val (eTab T) := by unfold argS; simp
@[simp] theorem oLen_eTab {T : List Rule} : oLen [.val (eTab T)] = some (.val (.int T.length)) := oLen_map
theorem lcL_M {α : Type} {vs : List Nat} {kd : Kd} {gt : GTg} {gc : GT} {ge : G} {δ : DSt} (enc dec : α → D) : ∀ {as : List α}, (∀ a ∈ as, ∃ δ1, gt (.one (kd.mk (enc a))) (wipeD δ vs) = some δ1 ∧ gc δ1 = some true ∧ ∃ r, ge δ1 = some r ∧ r.okEl = true ∧ r.d = dec a) → lcL vs kd gt gc ge δ ((as.map enc).map SI.one) = some (as.map dec)
  | [], _ => rfl
  | a :: as, h => by
    obtain ⟨δ1, h1, h2, r, h3, h4, h5⟩ := h a List.mem_cons_self
    have ih := lcL_M (vs := vs) (kd := kd) (gt := gt) (gc := gc) (ge := ge) (δ := δ) enc dec (as := as) fun x hx => h x (List.mem_cons_of_mem _ hx)
    rw [List.map_cons, List.map_cons]
    unfold lcL
    show (gt (.one (kd.mk (enc a))) (wipeD δ vs)).bind _ = _
    rw [h1]
    simp only [Option.bind_some]
    rw [h2]
    simp only [Option.bind_some, if_true]
    rw [h3]
    simp only [Option.bind_some]
    rw [if_pos h4, ih, h5]
    rfl
theorem lc_M {α : Type} {vs : List Nat} {gi : GI} {gt : GTg} {gc : GT} {ge : G} {δ : DSt} {kd : Kd} (enc dec : α → D) (as : List α) (h1 : gi δ = some (kd, (as.map enc).map SI.one)) (hn : as.length ≤ 1000000)
    (h : ∀ a ∈ as, ∃ δ1, gt (.one (kd.mk (enc a))) (wipeD δ vs) = some δ1 ∧ gc δ1 = some true ∧ ∃ r, ge δ1 = some r ∧ r.okEl = true ∧ r.d = dec a) : gLc vs gi gt gc ge δ = some (.own (.lst (as.map dec))) := by
  rw [ev_lc, h1]
  simp only [Option.bind_some]
  rw [if_pos (by rw [List.length_map, List.length_map, sizeLine_eq]; omega), lcL_M enc dec h]
  rfl
theorem f_long_rule {r : List Int} {n : Nat} (hr : Row r n) {p : Int} {s m : Nat} (h0 : 0 ≤ p) (h1 : p + 12 < n) (hs : 0 < s) (hm : 0 < m) (hm6 : m ≤ 6) : ∃ q, F_x_law_long_rule [eL r, .int p, .int s, .int m] = some (.val (eRule q)) ∧ OkR s q ∧ q.1.length ≤ m := by
  have hl := hr.1
  have S0 : (0 : Int) < s := by omega
  have M0 : (0 : Int) < m := by omega
  unfold F_x_law_long_rule G_x_law_long_rule
  rw [ev_run]
  unfold startD
  have z0 := Int.emod_nonneg (cell r p) (b := (m : Int)) (by omega)
  have z1 := Int.emod_lt_of_pos (cell r p) (b := (m : Int)) M0
  obtain ⟨z, hz⟩ : ∃ z, z = 1 + cell r p % (m : Int) := ⟨_, rfl⟩
  obtain ⟨w, e1, e2, e3⟩ := lc_rngI (vs := [6]) (gi := gRng1 (gVar 4)) (gt := gName 6) (gc := gYes) (ge := gOp modD (gCB oInt (gCons (gIx (gVar 0) (gOp addD (gOp addD (gVar 1) (gC (.int 1))) (gVar 6))) gNil)) (gVar 2))
    (δ := [.par (eL r), .val (.int p), .val (.int s), .val (.int m), .val (.int z), .no, .no]) z.toNat (fun x => 0 ≤ x ∧ x < s) (rng_ofI (by simp) (by omega) (by omega)) (by omega) fun i hi => ⟨[.par (eL r), .val (.int p), .val (.int s), .val (.int m), .val (.int z), .no, .val (.int i)], by simp [ev_store], rfl, _, by simp -implicitDefEqProofs (disch := first | omega | simp) [ixp, S0]; rfl, Int.emod_nonneg _ (by omega), Int.emod_lt_of_pos _ S0⟩
  have y0 := Int.emod_nonneg (cell r (p + 7)) (b := z) (by omega)
  have y1 := Int.emod_lt_of_pos (cell r (p + 7)) (b := z) (by omega)
  obtain ⟨y, hy⟩ : ∃ y, y = cell r (p + 7) % z := ⟨_, rfl⟩
  rw [← hy] at y0 y1
  have Z0 : 0 < z := by omega
  obtain ⟨v, f1, f2, f3⟩ := lc_rngI (vs := [6]) (gi := gRng1 (gOp modD (gCB oInt (gCons (gIx (gVar 0) (gOp addD (gVar 1) (gC (.int 7)))) gNil)) (gVar 4))) (gt := gName 6) (gc := gYes) (ge := gOp modD (gCB oInt (gCons (gIx (gVar 0) (gOp addD (gOp addD (gVar 1) (gC (.int 8))) (gVar 6))) gNil)) (gVar 2))
    (δ := [.par (eL r), .val (.int p), .val (.int s), .val (.int m), .val (.int z), .val (eW w), .no]) y.toNat (fun x => 0 ≤ x ∧ x < s) (rng_ofI (by simp -implicitDefEqProofs (disch := first | omega | simp) [ixp, Z0, ← hy]) (by omega) (by omega)) (by omega) fun i hi => ⟨[.par (eL r), .val (.int p), .val (.int s), .val (.int m), .val (.int z), .val (eW w), .val (.int i)], by simp [ev_store], rfl, _, by simp -implicitDefEqProofs (disch := first | omega | simp) [ixp, S0]; rfl, Int.emod_nonneg _ (by omega), Int.emod_lt_of_pos _ S0⟩
  have other : OkR s (w, v) ∧ w.length ≤ m := ⟨⟨e3, f3, .inl (by show v.length < w.length; omega), by show w.length ≤ 6; omega⟩, by omega⟩
  by_cases c1 : z = 1
  · have zt : (z = 1) = True := eq_true c1
    have wl : w.length = 1 := by omega
    obtain ⟨x, rfl⟩ : ∃ x, w = [x] := by
      match w, wl with
      | [x], _ => exact ⟨x, rfl⟩
    have ix0 : ixR (.val (eW [x])) (.int 0) = some (.val (.int x)) := by
      show some (R.elt _ (.int x)) = _
      rw [elt_int]
    obtain ⟨x0, x1⟩ := e3 x List.mem_cons_self
    by_cases c2 : 0 < x
    · by_cases c3 : cell r (p + 7) % 2 = 1
      · have b0 := Int.emod_nonneg (cell r (p + 8)) (b := x) (by omega)
        have b1 := Int.emod_lt_of_pos (cell r (p + 8)) (b := x) c2
        refine ⟨([x], [cell r (p + 8) % x]), ?_, ⟨e3, fun y hy => by rw [List.mem_singleton.mp hy]; exact ⟨b0, by omega⟩, .inr ⟨x, _, rfl, b1⟩, by simp⟩, by simp; omega⟩
        simp -implicitDefEqProofs (disch := first | omega | simp) [ev_store, ixp, M0, ← hz, e1, zt, ix0, c2, c3, tup_int]
        rfl
      · refine ⟨([x], v), ?_, other⟩
        simp -implicitDefEqProofs (disch := first | omega | simp) [ev_store, ixp, M0, ← hz, e1, zt, ix0, c2, c3, f1]
        rfl
    · refine ⟨([x], v), ?_, other⟩
      simp -implicitDefEqProofs (disch := first | omega | simp) [ev_store, ixp, M0, ← hz, e1, zt, ix0, c2, f1]
      rfl
  · refine ⟨(w, v), ?_, other⟩
    simp -implicitDefEqProofs (disch := first | omega | simp) [ev_store, ixp, M0, ← hz, e1, c1, f1]
    rfl
theorem f_long_table {r : List Int} {n : Nat} (hr : Row r n) {p : Int} {s m t : Nat} (h0 : 0 ≤ p) (h1 : p + 1 + 13 * (t : Int) ≤ n) (ht : t ≤ 100) (hs : 0 < s) (hm : 0 < m) (hm6 : m ≤ 6) : ∃ T, F_x_law_long_table [eL r, .int p, .int s, .int m, .int t] = some (.val (eTab T)) ∧ (∀ q ∈ T, OkR s q ∧ q.1.length ≤ m) ∧ T.length ≤ t := by
  have hl := hr.1
  unfold F_x_law_long_table G_x_law_long_table
  rw [ev_run]
  unfold startD
  have c0 := Int.emod_nonneg (cell r p) (b := t + 1) (by omega)
  have c1 := Int.emod_lt_of_pos (cell r p) (b := t + 1) (by omega)
  obtain ⟨z, hz⟩ : ∃ z, z = cell r p % (t + 1) := ⟨_, rfl⟩
  rw [← hz] at c0 c1
  obtain ⟨ds, e1, e2, e3⟩ := lc_rngP (P := fun d => ∃ q, d = eRule q ∧ OkR s q ∧ q.1.length ≤ m) (vs := [5]) (gi := (gRng1 (gOp modD (gCB oInt (gCons (gIx (gVar 0) (gVar 1)) gNil)) (gOp addD (gVar 4) (gC (.int 1)))))) (gt := gName 5) (gc := gYes) (ge := (gCall 4 F_x_law_long_rule (gCons (gVar 0) (gCons (gOp addD (gOp addD (gVar 1) (gC (.int 1))) (gOp mulD (gC (.int 13)) (gVar 5))) (gCons (gVar 2) (gCons (gVar 3) gNil))))))
    (δ := [.par (eL r), .val (.int p), .val (.int s), .val (.int m), .val (.int t), .no]) z.toNat (rng_ofI (by simp -implicitDefEqProofs (disch := first | omega | simp) [ixp, ← hz]) (by omega) (by omega)) (by omega) fun i hi => by
      obtain ⟨q, e, hq⟩ := f_long_rule hr (p := p + 1 + 13 * (i : Int)) (s := s) (m := m) (by omega) (by omega) hs hm hm6
      exact ⟨[.par (eL r), .val (.int p), .val (.int s), .val (.int m), .val (.int t), .val (.int i)], by simp [ev_store], rfl, .val (eRule q), by simp -implicitDefEqProofs (disch := first | omega | simp) [mulD_l, e], rfl, q, rfl, hq⟩
  obtain ⟨T, rfl, hT⟩ := map_of eRule (fun q => OkR s q ∧ q.1.length ≤ m) e3
  refine ⟨T, ?_, hT, by rw [List.length_map] at e2; omega⟩
  have ot : oTuple [.own (.lst (T.map eRule))] = some (.val (eTab T)) := oTuple_p (puL_map (fun _ => pu_eRule) T)
  simp -implicitDefEqProofs [e1, ot]
end DL

set_option Elab.async false
set_option linter.all false
set_option maxRecDepth 100000
set_option maxHeartbeats 4000000
/-! U1: signs, words, rules, tables as the program judges them. -/
namespace DL
open PySem L2 DL PySem.W SrtO
theorem argS_rd (d : D) : ∃ r, (argS d).rd = some r ∧ r.d = d := by
  unfold argS
  split
  · exact ⟨.val d, rfl, rfl⟩
  · exact ⟨.par d, rfl, rfl⟩
/-- a sign below s -/
def okSg (s : Int) : D → Bool
  | .int i => decide (0 ≤ i) && decide (i < s)
  | _ => false
/-- a plain thing -/
def plainD : D → Bool
  | .non => true
  | .bl _ => true
  | .int _ => true
  | .str _ => true
  | _ => false
theorem f_is_sign {s : Int} {d : D} (h : plainD d = true) : F_x_is_sign [d, .int s] = some (.val (.bl (okSg s d))) := by
  have fi : F_x_is_integer [d] = some (.val (.bl (match d with | .int _ => true | _ => false))) := by
    unfold F_x_is_integer G_x_is_integer
    rw [ev_run]
    unfold startD
    cases d with
    | non =>
      have e1 : isiR .int .non = some (.val (.bl false)) := rfl
      simp -implicitDefEqProofs [e1]
    | bl b =>
      have e1 : isiR .int (.bl b) = some (.val (.bl true)) := rfl
      have e2 : isiR .bool (.bl b) = some (.val (.bl true)) := rfl
      simp -implicitDefEqProofs [e1, e2]
    | int i =>
      have e1 : isiR .int (.int i) = some (.val (.bl true)) := rfl
      have e2 : isiR .bool (.int i) = some (.val (.bl false)) := rfl
      simp -implicitDefEqProofs [e1, e2]
    | str x =>
      have e1 : isiR .int (.str x) = some (.val (.bl false)) := rfl
      simp -implicitDefEqProofs [e1]
    | _ => cases h
  unfold F_x_is_sign G_x_is_sign
  rw [ev_run]
  unfold startD
  cases d with
  | non => simp -implicitDefEqProofs [fi]; rfl
  | bl b => simp -implicitDefEqProofs [fi]; rfl
  | int i =>
    unfold okSg
    by_cases h1 : 0 ≤ i
    · by_cases h2 : i < s
      · simp -implicitDefEqProofs [fi, h1, h2]
      · simp -implicitDefEqProofs [fi, h1, h2]
    · simp -implicitDefEqProofs [fi, h1]
  | str x => simp -implicitDefEqProofs [fi]; rfl
  | _ => cases h
/-- a word below s -/
def okW (s : Int) : D → Bool
  | .tup ds => ds.all (okSg s)
  | _ => false
theorem puL_plain {ds : List D} (h : ∀ d ∈ ds, plainD d = true) : puL ds = true := puL_all fun d hd => by
  have := h d hd
  cases d with
  | non => rfl
  | bl b => rfl
  | int i => rfl
  | str x => rfl
  | _ => cases this
/-- what is no tuple -/
theorem f_no_word {s : Int} {d : D} (h : isiR .tuple d = some (.val (.bl false))) : F_x_is_word [d, .int s] = some (.val (.bl false)) := by
  obtain ⟨r, e1, e2⟩ := argS_rd d
  unfold F_x_is_word G_x_is_word
  rw [ev_run]
  unfold startD
  obtain ⟨S, hS⟩ : ∃ S, S = argS d := ⟨_, rfl⟩
  rw [← hS] at e1
  have h : isiR .tuple r.d = some (.val (.bl false)) := by rw [e2]; exact h
  simp -implicitDefEqProofs [← hS, e1, h]
theorem f_is_word {s : Int} {ds : List D} (h : ∀ d ∈ ds, plainD d = true) : F_x_is_word [.tup ds, .int s] = some (.val (.bl (ds.all (okSg s)))) := by
  have ar : argS (.tup ds) = .val (.tup ds) := if_pos (puL_plain h)
  have e := gen_seq (stop := false) (vs := [2]) (gi := gSeq (gVar 0)) (gt := gName 2) (ge := gCall 2 F_x_is_sign (gCons (gVar 2) (gCons (gVar 1) gNil))) (δ := [.val (.tup ds), .val (.int s), .no]) (kd := .val) ds
    (fun δ => ∃ v, NL v ∧ δ = [.val (.tup ds), .val (.int s), v]) (okSg s) (seq_of (r := .val (.tup ds)) rfl rfl) ⟨.no, nl_no, rfl⟩ fun d hd δ ⟨v, hv, hd2⟩ => by
      subst hd2
      have pd := pu_mem (puL_plain h) d hd
      have fs := f_is_sign (s := s) (h d hd)
      exact ⟨[.val (.tup ds), .val (.int s), .val d], by simp [ev_store, mk_pu pd, stK_nl hv], ⟨_, nl_val, rfl⟩, by simp -implicitDefEqProofs [fs]⟩
  have it : isiR .tuple (.tup ds) = some (.val (.bl true)) := rfl
  have e : gGen false [2] (gSeq (gVar 0)) (gName 2) (gCall 2 F_x_is_sign (gCons (gVar 2) (gCons (gVar 1) gNil))) [.val (.tup ds), .val (.int s), .no] = some (.val (.bl (ds.all (okSg s)))) := by simpa using e
  obtain ⟨T, hT⟩ : ∃ T, T = D.tup ds := ⟨_, rfl⟩
  rw [← hT] at ar it e ⊢
  unfold F_x_is_word G_x_is_word
  rw [ev_run]
  unfold startD
  simp -implicitDefEqProofs [ar, it, e]
theorem okW_ints {s : Nat} {w : List Int} (h : Wd s w) : (w.map D.int).all (okSg s) = true := List.all_eq_true.mpr fun d hd => by
  obtain ⟨x, hx, rfl⟩ := List.mem_map.mp hd
  obtain ⟨h1, h2⟩ := h x hx
  show (decide (0 ≤ x) && decide (x < (s : Int))) = true
  rw [decide_eq_true h1, decide_eq_true h2]
  rfl
theorem f_word_ok {s : Nat} {w : List Int} (h : Wd s w) : F_x_is_word [eW w, .int s] = some (.val (.bl true)) := by
  have e := f_is_word (s := s) (ds := w.map D.int) fun d hd => by
    obtain ⟨x, _, rfl⟩ := List.mem_map.mp hd
    rfl
  rw [okW_ints h] at e
  exact e
/-! ### rules -/
/-- what a rule of a seal must keep, over words -/
def okRl (l r : List Int) : Bool := decide (1 ≤ l.length) && decide (l.length ≤ 6) && (decide (r.length < l.length) || (decide (l.length = 1) && (decide (r.length = 1) && decide (r.headD 0 < l.headD 0))))
theorem f_rule_no1 {s : Int} {d : D} (h : isiR .tuple d = some (.val (.bl false))) : F_x_is_seal_rule [d, .int s] = some (.val (.bl false)) := by
  obtain ⟨r, e1, e2⟩ := argS_rd d
  unfold F_x_is_seal_rule G_x_is_seal_rule
  rw [ev_run]
  unfold startD
  obtain ⟨S, hS⟩ : ∃ S, S = argS d := ⟨_, rfl⟩
  rw [← hS] at e1
  have h : isiR .tuple r.d = some (.val (.bl false)) := by rw [e2]; exact h
  simp -implicitDefEqProofs [← hS, e1, h]
theorem f_rule_no2 {s : Int} {ds : List D} (hl : ds.length ≠ 2) : F_x_is_seal_rule [.tup ds, .int s] = some (.val (.bl false)) := by
  obtain ⟨r, e1, e2⟩ := argS_rd (.tup ds)
  unfold F_x_is_seal_rule G_x_is_seal_rule
  rw [ev_run]
  unfold startD
  obtain ⟨S, hS⟩ : ∃ S, S = argS (.tup ds) := ⟨_, rfl⟩
  rw [← hS] at e1
  have h : isiR .tuple r.d = some (.val (.bl true)) := by rw [e2]; rfl
  have ol : oLen [r] = some (.val (.int ds.length)) := by
    show lenD r.d = _
    rw [e2]
    rfl
  have hl2 : ¬ (ds.length : Int) = 2 := by omega
  simp -implicitDefEqProofs [← hS, e1, h, ol, hl2]
theorem f_rule_pno {s : Int} {l r : D} (pl : pu l = true) (pr : pu r = true) {bl br : Bool} (hl : F_x_is_word [l, .int s] = some (.val (.bl bl))) (hr : F_x_is_word [r, .int s] = some (.val (.bl br))) (h : (bl && br) = false) : F_x_is_seal_rule [.tup [l, r], .int s] = some (.val (.bl false)) := by
  have pT : pu (.tup [l, r]) = true := by show (pu l && (pu r && true)) = true; rw [pl, pr]; rfl
  have ar : argS (.tup [l, r]) = .val (.tup [l, r]) := if_pos pT
  have pt : (Itm.one (R.val (.tup [l, r]))).parts = some [R.val l, R.val r] := by
    show some ([l, r].map (R.elt _)) = _
    simp only [List.map_cons, List.map_nil, elt_pu pl, elt_pu pr]
  have it : isiR .tuple (.tup [l, r]) = some (.val (.bl true)) := rfl
  have ol : oLen [.val (.tup [l, r])] = some (.val (.int 2)) := rfl
  obtain ⟨T, hT⟩ : ∃ T, T = D.tup [l, r] := ⟨_, rfl⟩
  rw [← hT] at pT ar pt it ol ⊢
  unfold F_x_is_seal_rule G_x_is_seal_rule
  rw [ev_run]
  unfold startD
  cases bl with
  | false => simp -implicitDefEqProofs [ar, it, ol, ev_store, pt, hl, pl, pr]
  | true =>
    cases br with
    | false => simp -implicitDefEqProofs [ar, it, ol, ev_store, pt, hl, hr, pl, pr]
    | true => cases h
theorem ltX_1 {a b : Int} : ltX (eW [b]) (eW [a]) = some (.val (.bl (decide (b < a)))) := by
  have e : ltX (eW [b]) (eW [a]) = some (.val (.bl (HT.lexLt [b] [a]))) := rfl
  rw [e]
  have e2 : HT.lexLt [b] [a] = decide (b < a) := by
    unfold HT.lexLt
    by_cases h : b = a
    · subst h; simp [HT.lexLt]
    · simp [HT.lexLt, h]
  rw [e2]
theorem f_rule_words {s : Nat} {l r : List Int} (hl : Wd s l) (hr : Wd s r) : F_x_is_seal_rule [eRule (l, r), .int s] = some (.val (.bl (okRl l r))) := by
  have wl := f_word_ok hl
  have wr := f_word_ok hr
  have ol : oLen [.val (eRule (l, r))] = some (.val (.int 2)) := rfl
  have it : isiR .tuple (eRule (l, r)) = some (.val (.bl true)) := rfl
  have ar : argS (eRule (l, r)) = .val (eRule (l, r)) := if_pos pu_eRule
  have pt := parts_eRule (q := (l, r))
  obtain ⟨T, hT⟩ : ∃ T, T = eRule (l, r) := ⟨_, rfl⟩
  rw [← hT] at ol it ar pt ⊢
  unfold F_x_is_seal_rule G_x_is_seal_rule okRl
  rw [ev_run]
  unfold startD
  by_cases h1 : 1 ≤ l.length
  · have h1' : (1 : Int) ≤ l.length := by omega
    by_cases h2 : l.length ≤ 6
    · have h2' : (l.length : Int) ≤ 6 := by omega
      by_cases h3 : r.length < l.length
      · have h3' : (r.length : Int) < l.length := by omega
        simp -implicitDefEqProofs [ar, it, ol, ev_store, pt, wl, wr, h1, h1', h2, h2', h3, h3']
      · have h3' : ¬ (r.length : Int) < l.length := by omega
        by_cases h4 : l.length = 1
        · have h4' : (l.length : Int) = 1 := by omega
          by_cases h5 : r.length = 1
          · have h5' : (r.length : Int) = 1 := by omega
            have lt : ltX (eW r) (eW l) = some (.val (.bl (decide (r.headD 0 < l.headD 0)))) := by
              match l, r, h4, h5 with
              | [a], [b], _, _ => exact ltX_1
            obtain ⟨x, hx⟩ : ∃ x, x = decide (r.headD 0 < l.headD 0) := ⟨_, rfl⟩
            rw [← hx] at lt ⊢
            simp -implicitDefEqProofs [ar, it, ol, ev_store, pt, wl, wr, h4, h4', h5, h5', lt]
          · have h5' : ¬ (r.length : Int) = 1 := by omega
            have h3'' : ¬ (r.length : Int) < 1 := by omega
            have h6 : ¬ r.length < 1 := by omega
            simp -implicitDefEqProofs [ar, it, ol, ev_store, pt, wl, wr, h4, h4', h5, h5', h3'', h6]
        · have h4' : ¬ (l.length : Int) = 1 := by omega
          simp -implicitDefEqProofs [ar, it, ol, ev_store, pt, wl, wr, h1, h1', h2, h2', h3, h3', h4, h4']
    · have h2' : ¬ (l.length : Int) ≤ 6 := by omega
      simp -implicitDefEqProofs [ar, it, ol, ev_store, pt, wl, wr, h1, h1', h2, h2']
  · have h1' : ¬ (1 : Int) ≤ l.length := by omega
    simp -implicitDefEqProofs [ar, it, ol, ev_store, pt, wl, wr, h1, h1']
/-- a list where a word should be -/
theorem f_rule_l1 {s : Int} {ds : List D} {r : D} (pr : pu r = true) : F_x_is_seal_rule [.tup [.lst ds, r], .int s] = some (.val (.bl false)) := by
  have ar : argS (.tup [.lst ds, r]) = .par (.tup [.lst ds, r]) := rfl
  have pt : (Itm.one (R.par (.tup [.lst ds, r]))).parts = some [R.par (.lst ds), R.val r] := by
    show some ([.lst ds, r].map (R.elt _)) = _
    simp only [List.map_cons, List.map_nil, elt_pu pr]
    rfl
  have it : isiR .tuple (.tup [.lst ds, r]) = some (.val (.bl true)) := rfl
  have ol : oLen [.par (.tup [.lst ds, r])] = some (.val (.int 2)) := rfl
  have hl := f_no_word (s := s) (d := .lst ds) rfl
  obtain ⟨T, hT⟩ : ∃ T, T = D.tup [.lst ds, r] := ⟨_, rfl⟩
  obtain ⟨L, hL⟩ : ∃ L, L = D.lst ds := ⟨_, rfl⟩
  rw [← hT] at ar pt it ol ⊢
  rw [← hL] at pt hl
  unfold F_x_is_seal_rule G_x_is_seal_rule
  rw [ev_run]
  unfold startD
  simp -implicitDefEqProofs [ar, it, ol, ev_store, pt, hl, pr]
theorem f_rule_l2 {s : Nat} {ds : List D} {l : List Int} (hl : Wd s l) : F_x_is_seal_rule [.tup [eW l, .lst ds], .int s] = some (.val (.bl false)) := by
  have ar : argS (.tup [eW l, .lst ds]) = .par (.tup [eW l, .lst ds]) := by
    unfold argS
    rw [if_neg]
    intro h
    have h : (pu (eW l) && (false && true)) = true := h
    rw [Bool.false_and, Bool.and_false] at h
    cases h
  have pt : (Itm.one (R.par (.tup [eW l, .lst ds]))).parts = some [R.val (eW l), R.par (.lst ds)] := by
    show some ([eW l, .lst ds].map (R.elt _)) = _
    simp only [List.map_cons, List.map_nil, elt_eW]
    rfl
  have it : isiR .tuple (.tup [eW l, .lst ds]) = some (.val (.bl true)) := rfl
  have ol : oLen [.par (.tup [eW l, .lst ds])] = some (.val (.int 2)) := rfl
  have wl := f_word_ok hl
  have hr := f_no_word (s := s) (d := .lst ds) rfl
  obtain ⟨T, hT⟩ : ∃ T, T = D.tup [eW l, .lst ds] := ⟨_, rfl⟩
  obtain ⟨L, hL⟩ : ∃ L, L = D.lst ds := ⟨_, rfl⟩
  rw [← hT] at ar pt it ol ⊢
  rw [← hL] at pt hr
  unfold F_x_is_seal_rule G_x_is_seal_rule
  rw [ev_run]
  unfold startD
  simp -implicitDefEqProofs [ar, it, ol, ev_store, pt, wl, hr]
end DL

set_option Elab.async false
set_option linter.all false
set_option maxRecDepth 100000
set_option maxHeartbeats 4000000
/-! U2: tables. -/
namespace DL
open PySem L2 DL PySem.W SrtO
theorem f_tab_no1 {s : Int} {d : D} (h : isiR .tuple d = some (.val (.bl false))) : F_x_check_seal_table [.int s, d] = some (.ex "InvalidSeal") := by
  obtain ⟨r, e1, e2⟩ := argS_rd d
  unfold F_x_check_seal_table G_x_check_seal_table
  rw [ev_runX]
  unfold startD
  obtain ⟨S, hS⟩ : ∃ S, S = argS d := ⟨_, rfl⟩
  rw [← hS] at e1
  have h : isiR .tuple r.d = some (.val (.bl false)) := by rw [e2]; exact h
  simp -implicitDefEqProofs [← hS, e1, h]
theorem f_tab_no2 {s : Int} {ds : List D} (hl : 12 < ds.length) : F_x_check_seal_table [.int s, .tup ds] = some (.ex "InvalidSeal") := by
  obtain ⟨r, e1, e2⟩ := argS_rd (.tup ds)
  unfold F_x_check_seal_table G_x_check_seal_table
  rw [ev_runX]
  unfold startD
  obtain ⟨S, hS⟩ : ∃ S, S = argS (.tup ds) := ⟨_, rfl⟩
  rw [← hS] at e1
  have h : isiR .tuple r.d = some (.val (.bl true)) := by rw [e2]; rfl
  have ol : oLen [r] = some (.val (.int ds.length)) := by
    show lenD r.d = _
    rw [e2]
    rfl
  have hl2 : (12 : Int) < ds.length := by omega
  simp -implicitDefEqProofs [← hS, e1, h, ol, hl2]
theorem f_tab {s : Int} {ds : List D} (hl : ds.length ≤ 12) {f : D → Bool} (hf : ∀ d ∈ ds, F_x_is_seal_rule [d, .int s] = some (.val (.bl (f d)))) : F_x_check_seal_table [.int s, .tup ds] = some (if ds.all f = true then .ok (.val .non) else .ex "InvalidSeal") := by
  have hl2 : ¬ (12 : Int) < ds.length := by omega
  obtain ⟨r, e1, e2⟩ := argS_rd (.tup ds)
  have gen : ∀ (kd : Kd) (S : Sl), S.rd = some r → r.kd = kd → kd = .val ∨ kd = .par → gGen false [2] (gSeq (gVar 1)) (gName 2) (gCall 2 F_x_is_seal_rule (gCons (gVar 2) (gCons (gVar 0) gNil))) [.val (.int s), S, .no] = some (.val (.bl (ds.all f))) := fun kd S hS hk hkd => by
    have e := gen_seq (stop := false) (vs := [2]) (gi := gSeq (gVar 1)) (gt := gName 2) (ge := gCall 2 F_x_is_seal_rule (gCons (gVar 2) (gCons (gVar 0) gNil))) (δ := [.val (.int s), S, .no]) (kd := kd) ds
      (fun δ => ∃ v, NL v ∧ δ = [.val (.int s), S, v]) f (by rw [← hk]; exact seq_of (r := r) (by simp -implicitDefEqProofs [hS]) (by rw [e2]; rfl)) ⟨.no, nl_no, rfl⟩ fun d hd δ ⟨v, hv, hd2⟩ => by
        subst hd2
        have fr := hf d hd
        by_cases pd : pu d = true
        · exact ⟨[.val (.int s), S, .val d], by simp [ev_store, mk_pu pd, stK_nl hv], ⟨_, nl_val, rfl⟩, by simp -implicitDefEqProofs [fr]⟩
        · have pd : pu d = false := by simpa using pd
          rcases hkd with rfl | rfl
          · have mk : Kd.val.mk d = .bor d := by show (if pu d = true then R.val d else _) = _; rw [if_neg (by rw [pd]; decide)]
            exact ⟨[.val (.int s), S, .bor d], by rw [mk]; simp [ev_store, stK_nl hv], ⟨_, nl_bor, rfl⟩, by simp -implicitDefEqProofs [fr]⟩
          · have mk : Kd.par.mk d = .par d := by show (if pu d = true then R.val d else _) = _; rw [if_neg (by rw [pd]; decide)]
            exact ⟨[.val (.int s), S, .par d], by rw [mk]; simp [ev_store, stK_nl hv], ⟨_, nl_par, rfl⟩, by simp -implicitDefEqProofs [fr]⟩
    simpa using e
  have g := gen r.kd (argS (.tup ds)) e1 rfl (by
    unfold argS at e1
    split at e1
    · cases e1; exact .inl rfl
    · cases e1; exact .inr rfl)
  obtain ⟨S, hS⟩ : ∃ S, S = argS (.tup ds) := ⟨_, rfl⟩
  rw [← hS] at e1 g
  have h : isiR .tuple r.d = some (.val (.bl true)) := by rw [e2]; rfl
  have ol : oLen [r] = some (.val (.int ds.length)) := by
    show lenD r.d = _
    rw [e2]
    rfl
  unfold F_x_check_seal_table G_x_check_seal_table
  rw [ev_runX]
  unfold startD
  cases hb : ds.all f with
  | true =>
    rw [hb] at g
    simp -implicitDefEqProofs [← hS, e1, h, ol, hl2, g]
  | false =>
    rw [hb] at g
    simp -implicitDefEqProofs [← hS, e1, h, ol, hl2, g]
theorem okR_rl {s : Nat} {q : Rule} (h : OkR s q) : okRl q.1 q.2 = true := by
  unfold okRl
  have l6 := h.len
  rcases h.small with z | ⟨a, b, rfl, z⟩
  · rw [decide_eq_true (show 1 ≤ q.1.length by omega), decide_eq_true l6, decide_eq_true z]
    rfl
  · simp [z]
theorem f_tab_ok {s : Nat} {T : List Rule} (hT : ∀ q ∈ T, OkR s q) (hl : T.length ≤ 12) : F_x_check_seal_table [.int s, eTab T] = some (.ok (.val .non)) := by
  have e := f_tab (s := s) (ds := T.map eRule) (by rw [List.length_map]; exact hl) (f := fun _ => true) fun d hd => by
    obtain ⟨q, hq, rfl⟩ := List.mem_map.mp hd
    have ok := hT q hq
    have e := f_rule_words ok.l ok.r
    rw [okR_rl ok] at e
    exact e
  rw [if_pos (by simp)] at e
  exact e
theorem f_one_kind : F_x_law_one_kind = some (.val (.bl true)) := by
  unfold F_x_law_one_kind runE startE G_x_law_one_kind
  rfl
theorem f_let {s : Nat} {T : List Rule} (hT : ∀ q ∈ T, OkR s q) (hl : T.length ≤ 12) : F_x_law_let [.int s, eTab T] = some (.val (.bl true)) := by
  have e := f_tab_ok hT hl
  obtain ⟨U, hU⟩ : ∃ U, U = eTab T := ⟨_, rfl⟩
  have aU : argS U = .val U := by rw [hU]; simp
  rw [← hU] at e ⊢
  have tb : B1_x_law_let [.val (.int s), .val U, .no] = some (.nx [.val (.int s), .val U, .val .non]) := by
    unfold B1_x_law_let
    simp -implicitDefEqProofs [ev_store, e]
  have tr : gTry0 "AnychainError" B1_x_law_let U1_x_law_let [.val (.int s), .val U, .no] = some (.nx [.val (.int s), .val U, .val .non]) := by
    unfold gTry0
    rw [tb]
    rfl
  unfold F_x_law_let G_x_law_let
  rw [ev_run]
  unfold startD
  simp -implicitDefEqProofs [aU, tr, tb]
theorem f_refused {s : Nat} {d : D} (e : F_x_check_seal_table [.int s, d] = some (.ex "InvalidSeal")) : F_x_law_refused [.int s, d] = some (.val (.bl true)) := by
  obtain ⟨r, e1, e2⟩ := argS_rd d
  obtain ⟨S, hS⟩ : ∃ S, S = argS d := ⟨_, rfl⟩
  have nS : (∀ c, S ≠ .exc c) := by
    rw [hS]
    unfold argS
    split <;> (intro c z; cases z)
  rw [← hS] at e1
  have e : F_x_check_seal_table [.int s, r.d] = some (.ex "InvalidSeal") := by rw [e2]; exact e
  have tb : B1_x_law_refused [.val (.int s), S, .no] = some (.ex "InvalidSeal" [.val (.int s), S, .no]) := by
    have cx : gCallX 2 F_x_check_seal_table (gCons (gVar 0) (gCons (gVar 1) gNil)) [.val (.int s), S, .no] = some (.ex "InvalidSeal") := by
      simp -implicitDefEqProofs [e1, e]
    unfold B1_x_law_refused gExprX
    rw [cx]
    rfl
  have ce : gCallE 2 F_x_law_one_kind [.val (.int s), S, .exc "InvalidSeal"] = some (.val (.bl true)) := by
    rw [f_one_kind]; rfl
  have tu : U1_x_law_refused [.val (.int s), S, .exc "InvalidSeal"] = some (.rt (.val (.bl true))) := by
    unfold U1_x_law_refused gRet
    rw [ce]
    rfl
  have px : putExc 2 "InvalidSeal" [.val (.int s), S, .no] = some [.val (.int s), S, .exc "InvalidSeal"] := by
    unfold putExc noExc
    cases S with
    | exc c => exact absurd rfl (nS c)
    | _ => rfl
  have te : tryE "InvalidSeal" 2 U1_x_law_refused "InvalidSeal" [.val (.int s), S, .no] = some (.rt (.val (.bl true))) := by
    unfold tryE
    rw [if_pos rfl, px]
    show (U1_x_law_refused [.val (.int s), S, .exc "InvalidSeal"]).bind _ = _
    rw [tu]
    rfl
  unfold F_x_law_refused G_x_law_refused
  rw [ev_run]
  unfold startD
  simp -implicitDefEqProofs [← hS, tb, te]
end DL

set_option Elab.async false
set_option linter.all false
set_option maxRecDepth 100000
set_option maxHeartbeats 4000000
/-! U3: the law's bad rules. -/
namespace DL
open PySem L2 DL PySem.W SrtO
def spl (q : Rule) (w sh : List Int) (f g b4 : Int) (wr : D) : List D := [.tup [eW sh, eW sh.reverse],
  .tup [eW [f], eW [g]],
  .tup [eW w, eW []],
  .tup [eW [], eW []],
  .tup [eW (cutL sh (some 1) none ++ [b4]), eW []],
  .tup [eW (cutL sh none (some 5) ++ [f]), .tup [wr]],
  .tup [.tup ((cutL sh (some 1) none).map D.int ++ [.bl true]), eW []],
  .tup [.tup ((cutL sh (some 1) none).map D.int ++ [.str "a"]), eW []],
  .tup [eW sh, eW (sh ++ [f])],
  .lst [eW q.1, eW q.2],
  .tup [eW q.1, eW q.2, eW []],
  .tup [.lst (q.1.map D.int), eW q.2],
  .tup [eW q.1, .lst (q.2.map D.int)]]
theorem sp_list {r : List Int} {p s kd f g : Int} {q : Rule} {w sh : List Int} {wr : D} (hw : plainD wr = true) (p0 : 0 ≤ p) (p1 : p + 9 < r.length) (hq1 : q.1.length ≤ 100) (hq2 : q.2.length ≤ 100) (hs6 : sh.length ≤ 6) :
    ∃ b4, (b4 = s ∨ b4 = -1) ∧ (gLst (gCons (gTup (gCons (gVar 6) (gCons (gRev (gVar 6)) gNil))) (gCons (gTup (gCons (gTup (gCons (gVar 7) gNil)) (gCons (gTup (gCons (gVar 8) gNil)) gNil))) (gCons (gTup (gCons (gVar 5) (gCons (gTup gNil) gNil))) (gCons (gTup (gCons (gTup gNil) (gCons (gTup gNil) gNil))) (gCons (gTup (gCons (gOp addD (gSl (gVar 6) (gP (gC (.int 1))) gNoP) (gTup (gCons (gIx (gLst (gCons (gVar 2) (gCons (gNeg (gC (.int 1))) gNil))) (gOp modD (gCB oInt (gCons (gIx (gVar 0) (gOp addD (gVar 1) (gC (.int 9)))) gNil)) (gC (.int 2)))) gNil))) (gCons (gTup gNil) gNil))) (gCons (gTup (gCons (gOp addD (gSl (gVar 6) gNoP (gP (gC (.int 5)))) (gTup (gCons (gVar 7) gNil))) (gCons (gTup (gCons (gVar 9) gNil)) gNil))) (gCons (gTup (gCons (gOp addD (gSl (gVar 6) (gP (gC (.int 1))) gNoP) (gTup (gCons (gC (.bl true)) gNil))) (gCons (gTup gNil) gNil))) (gCons (gTup (gCons (gOp addD (gSl (gVar 6) (gP (gC (.int 1))) gNoP) (gTup (gCons (gC (.str "a")) gNil))) (gCons (gTup gNil) gNil))) (gCons (gTup (gCons (gVar 6) (gCons (gOp addD (gVar 6) (gTup (gCons (gVar 7) gNil))) gNil))) (gCons (gCB oList (gCons (gVar 3) gNil)) (gCons (gOp addD (gVar 3) (gTup (gCons (gTup gNil) gNil))) (gCons (gTup (gCons (gCB oList (gCons (gIx (gVar 3) (gC (.int 0))) gNil)) (gCons (gIx (gVar 3) (gC (.int 1))) gNil))) (gCons (gTup (gCons (gIx (gVar 3) (gC (.int 0))) (gCons (gCB oList (gCons (gIx (gVar 3) (gC (.int 1))) gNil)) gNil))) gNil)))))))))))))) [.par (eL r), .val (.int p), .val (.int s), .val (eRule q), .val (.int kd), .val (eW w), .val (eW sh), .val (.int f), .val (.int g), .val wr, .no, .no] = some (.own (.lst (spl q w sh f g b4 wr))) := by
  have pw : pu wr = true := by
    cases wr with
    | non => rfl
    | bl b => rfl
    | int i => rfl
    | str x => rfl
    | _ => cases hw
  obtain ⟨z, hz⟩ : ∃ z, z = cell r (p + 9) % 2 := ⟨_, rfl⟩
  have zz : z = 0 ∨ z = 1 := by omega
  obtain ⟨b4, hb4, ib4⟩ : ∃ b4, (b4 = s ∨ b4 = -1) ∧ ixR (.own (.lst [.int s, .int (-1)])) (.int z) = some (.val (.int b4)) := by
    rcases zz with rfl | rfl
    · exact ⟨s, .inl rfl, rfl⟩
    · exact ⟨-1, .inr rfl, rfl⟩
  refine ⟨b4, hb4, ?_⟩
  have c1 := cutL_len sh (some 1) none
  have c5 := cutL_len sh none (some 5)
  have a4 := addD_eW (w := cutL sh (some 1) none) (p := [b4]) (by simp; omega)
  have a5 := addD_eW (w := cutL sh none (some 5)) (p := [f]) (by simp; omega)
  have a6 := addD_tup (ds := (cutL sh (some 1) none).map D.int) (es := [.bl true]) (by simp; omega) (puL_ints _) rfl
  have a7 := addD_tup (ds := (cutL sh (some 1) none).map D.int) (es := [.str "a"]) (by simp; omega) (puL_ints _) rfl
  have a8 := addD_eW (w := sh) (p := [f]) (by simp; omega)
  have a10 := addD_tup (ds := [eW q.1, eW q.2]) (es := [eW []]) (by simp) (by simp [puL]) (by simp [puL])
  have a6 : addD (eW (cutL sh (some 1) none)) (.tup [.bl true]) = _ := a6
  have a7 : addD (eW (cutL sh (some 1) none)) (.tup [.str "a"]) = _ := a7
  have a10 : addD (eRule q) (.tup [eW []]) = some (.val (.tup [eW q.1, eW q.2, eW []])) := a10
  have rv : revD (eW sh) = some (.val (eW sh.reverse)) := by
    show (if puL (sh.map D.int) = true then some (R.val (.tup (sh.map D.int).reverse)) else none) = _
    rw [if_pos (puL_ints sh), ← List.map_reverse]
    rfl
  have l1 : oList [.val (eW q.1)] = some (.own (.lst (q.1.map D.int))) := if_pos (puL_ints q.1)
  have l2 : oList [.val (eW q.2)] = some (.own (.lst (q.2.map D.int))) := if_pos (puL_ints q.2)
  have l9 : oList [.val (eRule q)] = some (.own (.lst [eW q.1, eW q.2])) := if_pos (show puL [eW q.1, eW q.2] = true by simp [puL])
  have h0 : (gTup (gCons (gVar 6) (gCons (gRev (gVar 6)) gNil))) [.par (eL r), .val (.int p), .val (.int s), .val (eRule q), .val (.int kd), .val (eW w), .val (eW sh), .val (.int f), .val (.int g), .val wr, .no, .no] = some (.val (.tup [eW sh, eW sh.reverse])) := by
    simp -implicitDefEqProofs (disch := first | omega | simp) [ixp, ← hz, ib4, a4, a5, a6, a7, a8, a10, rv, l1, l2, l9, tup_nil, tup_int, pw]
  have h1 : (gTup (gCons (gTup (gCons (gVar 7) gNil)) (gCons (gTup (gCons (gVar 8) gNil)) gNil))) [.par (eL r), .val (.int p), .val (.int s), .val (eRule q), .val (.int kd), .val (eW w), .val (eW sh), .val (.int f), .val (.int g), .val wr, .no, .no] = some (.val (.tup [eW [f], eW [g]])) := by
    simp -implicitDefEqProofs (disch := first | omega | simp) [ixp, ← hz, ib4, a4, a5, a6, a7, a8, a10, rv, l1, l2, l9, tup_nil, tup_int, pw]
  have h2 : (gTup (gCons (gVar 5) (gCons (gTup gNil) gNil))) [.par (eL r), .val (.int p), .val (.int s), .val (eRule q), .val (.int kd), .val (eW w), .val (eW sh), .val (.int f), .val (.int g), .val wr, .no, .no] = some (.val (.tup [eW w, eW []])) := by
    simp -implicitDefEqProofs (disch := first | omega | simp) [ixp, ← hz, ib4, a4, a5, a6, a7, a8, a10, rv, l1, l2, l9, tup_nil, tup_int, pw]
  have h3 : (gTup (gCons (gTup gNil) (gCons (gTup gNil) gNil))) [.par (eL r), .val (.int p), .val (.int s), .val (eRule q), .val (.int kd), .val (eW w), .val (eW sh), .val (.int f), .val (.int g), .val wr, .no, .no] = some (.val (.tup [eW [], eW []])) := by
    simp -implicitDefEqProofs (disch := first | omega | simp) [ixp, ← hz, ib4, a4, a5, a6, a7, a8, a10, rv, l1, l2, l9, tup_nil, tup_int, pw]
  have h4 : (gTup (gCons (gOp addD (gSl (gVar 6) (gP (gC (.int 1))) gNoP) (gTup (gCons (gIx (gLst (gCons (gVar 2) (gCons (gNeg (gC (.int 1))) gNil))) (gOp modD (gCB oInt (gCons (gIx (gVar 0) (gOp addD (gVar 1) (gC (.int 9)))) gNil)) (gC (.int 2)))) gNil))) (gCons (gTup gNil) gNil))) [.par (eL r), .val (.int p), .val (.int s), .val (eRule q), .val (.int kd), .val (eW w), .val (eW sh), .val (.int f), .val (.int g), .val wr, .no, .no] = some (.val (.tup [eW (cutL sh (some 1) none ++ [b4]), eW []])) := by
    simp -implicitDefEqProofs (disch := first | omega | simp) [ixp, ← hz, ib4, a4, a5, a6, a7, a8, a10, rv, l1, l2, l9, tup_nil, tup_int, pw]
  have h5 : (gTup (gCons (gOp addD (gSl (gVar 6) gNoP (gP (gC (.int 5)))) (gTup (gCons (gVar 7) gNil))) (gCons (gTup (gCons (gVar 9) gNil)) gNil))) [.par (eL r), .val (.int p), .val (.int s), .val (eRule q), .val (.int kd), .val (eW w), .val (eW sh), .val (.int f), .val (.int g), .val wr, .no, .no] = some (.val (.tup [eW (cutL sh none (some 5) ++ [f]), .tup [wr]])) := by
    simp -implicitDefEqProofs (disch := first | omega | simp) [ixp, ← hz, ib4, a4, a5, a6, a7, a8, a10, rv, l1, l2, l9, tup_nil, tup_int, pw]
  have h6 : (gTup (gCons (gOp addD (gSl (gVar 6) (gP (gC (.int 1))) gNoP) (gTup (gCons (gC (.bl true)) gNil))) (gCons (gTup gNil) gNil))) [.par (eL r), .val (.int p), .val (.int s), .val (eRule q), .val (.int kd), .val (eW w), .val (eW sh), .val (.int f), .val (.int g), .val wr, .no, .no] = some (.val (.tup [.tup ((cutL sh (some 1) none).map D.int ++ [.bl true]), eW []])) := by
    simp -implicitDefEqProofs (disch := first | omega | simp) [ixp, ← hz, ib4, a4, a5, a6, a7, a8, a10, rv, l1, l2, l9, tup_nil, tup_int, pw]
  have h7 : (gTup (gCons (gOp addD (gSl (gVar 6) (gP (gC (.int 1))) gNoP) (gTup (gCons (gC (.str "a")) gNil))) (gCons (gTup gNil) gNil))) [.par (eL r), .val (.int p), .val (.int s), .val (eRule q), .val (.int kd), .val (eW w), .val (eW sh), .val (.int f), .val (.int g), .val wr, .no, .no] = some (.val (.tup [.tup ((cutL sh (some 1) none).map D.int ++ [.str "a"]), eW []])) := by
    simp -implicitDefEqProofs (disch := first | omega | simp) [ixp, ← hz, ib4, a4, a5, a6, a7, a8, a10, rv, l1, l2, l9, tup_nil, tup_int, pw]
  have h8 : (gTup (gCons (gVar 6) (gCons (gOp addD (gVar 6) (gTup (gCons (gVar 7) gNil))) gNil))) [.par (eL r), .val (.int p), .val (.int s), .val (eRule q), .val (.int kd), .val (eW w), .val (eW sh), .val (.int f), .val (.int g), .val wr, .no, .no] = some (.val (.tup [eW sh, eW (sh ++ [f])])) := by
    simp -implicitDefEqProofs (disch := first | omega | simp) [ixp, ← hz, ib4, a4, a5, a6, a7, a8, a10, rv, l1, l2, l9, tup_nil, tup_int, pw]
  have h9 : (gCB oList (gCons (gVar 3) gNil)) [.par (eL r), .val (.int p), .val (.int s), .val (eRule q), .val (.int kd), .val (eW w), .val (eW sh), .val (.int f), .val (.int g), .val wr, .no, .no] = some (.own (.lst [eW q.1, eW q.2])) := by
    simp -implicitDefEqProofs (disch := first | omega | simp) [ixp, ← hz, ib4, a4, a5, a6, a7, a8, a10, rv, l1, l2, l9, tup_nil, tup_int, pw]
  have h10 : (gOp addD (gVar 3) (gTup (gCons (gTup gNil) gNil))) [.par (eL r), .val (.int p), .val (.int s), .val (eRule q), .val (.int kd), .val (eW w), .val (eW sh), .val (.int f), .val (.int g), .val wr, .no, .no] = some (.val (.tup [eW q.1, eW q.2, eW []])) := by
    simp -implicitDefEqProofs (disch := first | omega | simp) [ixp, ← hz, ib4, a4, a5, a6, a7, a8, a10, rv, l1, l2, l9, tup_nil, tup_int, pw]
  have h11 : (gTup (gCons (gCB oList (gCons (gIx (gVar 3) (gC (.int 0))) gNil)) (gCons (gIx (gVar 3) (gC (.int 1))) gNil))) [.par (eL r), .val (.int p), .val (.int s), .val (eRule q), .val (.int kd), .val (eW w), .val (eW sh), .val (.int f), .val (.int g), .val wr, .no, .no] = some (.own (.tup [.lst (q.1.map D.int), eW q.2])) := by
    have mk : mkTup [.own (.lst (q.1.map D.int)), .val (eW q.2)] = some (.own (.tup [.lst (q.1.map D.int), eW q.2])) := rfl
    simp -implicitDefEqProofs (disch := first | omega | simp) [ixp, ← hz, ib4, a4, a5, a6, a7, a8, a10, rv, l1, l2, l9, tup_nil, tup_int, mk]
  have h12 : (gTup (gCons (gIx (gVar 3) (gC (.int 0))) (gCons (gCB oList (gCons (gIx (gVar 3) (gC (.int 1))) gNil)) gNil))) [.par (eL r), .val (.int p), .val (.int s), .val (eRule q), .val (.int kd), .val (eW w), .val (eW sh), .val (.int f), .val (.int g), .val wr, .no, .no] = some (.own (.tup [eW q.1, .lst (q.2.map D.int)])) := by
    have mk : mkTup [.val (eW q.1), .own (.lst (q.2.map D.int))] = some (.own (.tup [eW q.1, .lst (q.2.map D.int)])) := rfl
    simp -implicitDefEqProofs (disch := first | omega | simp) [ixp, ← hz, ib4, a4, a5, a6, a7, a8, a10, rv, l1, l2, l9, tup_nil, tup_int, mk]
  have go : ∀ {δ : DSt} {g : G} {gs : GA} {x : R} {xs : List R}, g δ = some x → gs δ = some xs → gCons g gs δ = some (x :: xs) := fun h k => by
    unfold gCons; rw [h]; simp only [Option.bind_some]; rw [k]; rfl
  have hL := (go h0 (go h1 (go h2 (go h3 (go h4 (go h5 (go h6 (go h7 (go h8 (go h9 (go h10 (go h11 (go h12 (show gNil _ = some [] from rfl))))))))))))))
  rw [ev_lst, hL]
  simp only [Option.bind_some]
  unfold mkLst
  rw [if_pos ⟨by rw [sizeLine_eq]; simp, rfl⟩]
  rfl
end DL

set_option Elab.async false
set_option linter.all false
set_option maxRecDepth 100000
set_option maxHeartbeats 4000000
/-! U4: the law's bad rules are refused. -/
namespace DL
open PySem L2 DL PySem.W SrtO
theorem elt_mkR {l d : D} : (R.bor l).elt d = mkR d := by unfold R.elt mkR; split <;> rfl
theorem Wd.cut {s : Nat} {w : List Int} (h : Wd s w) (lo hi : Option Int) : Wd s (cutL w lo hi) := fun x hx => h x (mem_cut hx)
theorem okSg_no {s b : Int} (h : b = s ∨ b = -1) : okSg s (.int b) = false := by
  show (decide (0 ≤ b) && decide (b < s)) = false
  rcases h with rfl | rfl
  · rw [decide_eq_false (show ¬ b < b by omega), Bool.and_false]
  · rfl
theorem all_last {f : D → Bool} {ds : List D} {d : D} (h : f d = false) : (ds ++ [d]).all f = false := by
  rw [List.all_append]
  simp [h]
/-- each of the spoilt rules is refused -/
theorem spl_no {s : Nat} {q : Rule} {w sh : List Int} {f g b4 : Int} {wr : D} (hq : OkR s q) (hw : Wd s w) (hw7 : w.length = 7) (hsh : Wd s sh) (hs1 : 1 ≤ sh.length) (hs6 : sh.length ≤ 6) (hf : 0 ≤ f ∧ f < s) (hg : f ≤ g ∧ g < s) (h4 : b4 = s ∨ b4 = -1) (hwr : plainD wr = true) (hwo : okSg s wr = false) :
    ∀ x ∈ spl q w sh f g b4 wr, F_x_is_seal_rule [x, .int s] = some (.val (.bl false)) := by
  have nilW : Wd s [] := Wd.nil
  have e0 : F_x_is_word [eW [], .int s] = some (.val (.bl true)) := f_word_ok nilW
  have pl6 : ∀ e : D, plainD e = true → okSg s e = false → F_x_is_seal_rule [.tup [.tup ((cutL sh (some 1) none).map D.int ++ [e]), eW []], .int s] = some (.val (.bl false)) := fun e he hn => by
    have hp : ∀ d ∈ (cutL sh (some 1) none).map D.int ++ [e], plainD d = true := fun d hd => by
      rcases List.mem_append.mp hd with hd | hd
      · obtain ⟨x, _, rfl⟩ := List.mem_map.mp hd
        rfl
      · rw [List.mem_singleton.mp hd]; exact he
    have iw := f_is_word (s := s) hp
    rw [all_last hn] at iw
    exact f_rule_pno (puL_plain hp) (by simp) iw e0 rfl
  intro x hx
  unfold spl at hx
  simp only [List.mem_cons, List.not_mem_nil, or_false] at hx
  rcases hx with rfl | rfl | rfl | rfl | rfl | rfl | rfl | rfl | rfl | rfl | rfl | rfl | rfl
  · have e := f_rule_words (l := sh) (r := sh.reverse) hsh (fun y hy => hsh y (List.mem_reverse.mp hy))
    have no : okRl sh sh.reverse = false := by
      unfold okRl
      rw [List.length_reverse, decide_eq_false (show ¬ sh.length < sh.length by omega)]
      by_cases h1 : sh.length = 1
      · match sh, h1 with
        | [a], _ => simp
      · rw [decide_eq_false h1]
        simp
    rw [no] at e
    exact e
  · have e := f_rule_words (s := s) (l := [f]) (r := [g]) (fun y hy => by rw [List.mem_singleton.mp hy]; exact hf) (fun y hy => by rw [List.mem_singleton.mp hy]; omega)
    have no : okRl [f] [g] = false := by
      unfold okRl
      simp
      omega
    rw [no] at e
    exact e
  · have e := f_rule_words (l := w) (r := []) hw nilW
    have no : okRl w [] = false := by
      unfold okRl
      rw [hw7]
      rfl
    rw [no] at e
    exact e
  · have e := f_rule_words (s := s) (l := []) (r := []) nilW nilW
    have no : okRl [] [] = false := rfl
    rw [no] at e
    exact e
  · have e1 : eW (cutL sh (some 1) none ++ [b4]) = .tup ((cutL sh (some 1) none).map D.int ++ [.int b4]) := by
      unfold eW
      rw [List.map_append]
      rfl
    rw [e1]
    exact pl6 _ rfl (okSg_no h4)
  · have hp : ∀ d ∈ [wr], plainD d = true := fun d hd => by rw [List.mem_singleton.mp hd]; exact hwr
    have iw := f_is_word (s := s) hp
    rw [show ([wr] : List D).all (okSg s) = false by simp [hwo]] at iw
    have il := f_word_ok (s := s) (w := cutL sh none (some 5) ++ [f]) ((hsh.cut _ _).app fun y hy => by rw [List.mem_singleton.mp hy]; exact hf)
    exact f_rule_pno (by simp) (puL_plain hp) il iw rfl
  · exact pl6 _ rfl rfl
  · exact pl6 _ rfl rfl
  · have e := f_rule_words (l := sh) (r := sh ++ [f]) hsh (hsh.app fun y hy => by rw [List.mem_singleton.mp hy]; exact hf)
    have no : okRl sh (sh ++ [f]) = false := by
      unfold okRl
      rw [List.length_append, decide_eq_false (show ¬ sh.length + [f].length < sh.length by rw [List.length_singleton]; omega), decide_eq_false (show ¬ sh.length + [f].length = 1 by rw [List.length_singleton]; omega)]
      simp
    rw [no] at e
    exact e
  · exact f_rule_no1 rfl
  · exact f_rule_no2 (by simp)
  · exact f_rule_l1 (by simp)
  · exact f_rule_l2 hq.l
theorem f_bad_rule {r : List Int} {n : Nat} (hr : Row r n) {p : Int} (p0 : 0 ≤ p) (p1 : p + 9 < n) {s : Nat} (hs : 0 < s) {q : Rule} (hq : OkR s q) : ∃ x : D, F_x_law_bad_rule [eL r, .int p, .int s, eRule q] = some (mkR x) ∧ F_x_is_seal_rule [x, .int s] = some (.val (.bl false)) := by
  have hl := hr.1
  have S0 : (0 : Int) < s := by omega
  obtain ⟨kd, hkd⟩ : ∃ kd, kd = cell r p % 14 := ⟨_, rfl⟩
  have k0 : 0 ≤ kd := by omega
  have k1 : kd < 14 := by omega
  obtain ⟨w, ew, wl, wp⟩ := lc_rngI (vs := [11]) (gi := gRng1 (gC (.int 7))) (gt := gName 11) (gc := gYes) (ge := (gOp modD (gCB oInt (gCons (gIx (gVar 0) (gOp addD (gOp addD (gVar 1) (gC (.int 1))) (gVar 11))) gNil)) (gVar 2)))
    (δ := [.par (eL r), .val (.int p), .val (.int s), .val (eRule q), .val (.int kd), .no, .no, .no, .no, .no, .no, .no]) 7 (fun x => 0 ≤ x ∧ x < s) (rng_of (by simp) (by omega)) (by omega) fun i hi =>
      ⟨[.par (eL r), .val (.int p), .val (.int s), .val (eRule q), .val (.int kd), .no, .no, .no, .no, .no, .no, .val (.int i)], by simp [ev_store], rfl, cell r (p + 1 + i) % (s : Int), by simp -implicitDefEqProofs (disch := first | omega | simp) [ixp, S0], Int.emod_nonneg _ (by omega), Int.emod_lt_of_pos _ S0⟩
  have hw : Wd s w := wp
  obtain ⟨m, hm⟩ : ∃ m : Nat, (m : Int) = 1 + cell r (p + 8) % 6 := ⟨(1 + cell r (p + 8) % 6).toNat, by omega⟩
  obtain ⟨sh, hsh⟩ : ∃ sh, sh = cutL w none (some (m : Int)) := ⟨_, rfl⟩
  have shl : sh.length = m := by
    rw [hsh, cut_lo, List.length_take]
    omega
  have wsh : Wd s sh := by rw [hsh]; exact hw.cut _ _
  obtain ⟨f, hf⟩ : ∃ f, f = w.headD 0 := ⟨_, rfl⟩
  have ixf : ixR (.val (eW w)) (.int 0) = some (.val (.int f)) := by
    have h := ixM (r := .val (eW w)) (as := w) (f := D.int) 0 (i := 0) (.inl rfl) (fun _ => rfl) (by omega) (by omega)
    rw [h, hf]
    match w, wl with
    | a :: w', _ => rfl
  have f01 : 0 ≤ f ∧ f < s := by
    match w, wl with
    | a :: w', _ => rw [hf]; exact hw a List.mem_cons_self
  have G0 : (0 : Int) < s - f := by omega
  have g0 := Int.emod_nonneg (cell r (p + 9)) (b := (s : Int) - f) (by omega)
  have g1 := Int.emod_lt_of_pos (cell r (p + 9)) (b := (s : Int) - f) G0
  obtain ⟨g', hg'⟩ : ∃ g', g' = cell r (p + 9) % ((s : Int) - f) := ⟨_, rfl⟩
  rw [← hg'] at g0 g1
  obtain ⟨y, hy⟩ : ∃ y, y = cell r (p + 9) % 4 := ⟨_, rfl⟩
  obtain ⟨wr, iwr, pwr, owr⟩ : ∃ wr, ixR (.own (.lst [.int (-1), .int s, .bl true, .str "a"])) (.int y) = some (.val wr) ∧ plainD wr = true ∧ okSg s wr = false := by
    have yy : y = 0 ∨ y = 1 ∨ y = 2 ∨ y = 3 := by omega
    rcases yy with rfl | rfl | rfl | rfl
    · exact ⟨.int (-1), rfl, rfl, rfl⟩
    · exact ⟨.int s, rfl, rfl, okSg_no (.inl rfl)⟩
    · exact ⟨.bl true, rfl, rfl, rfl⟩
    · exact ⟨.str "a", rfl, rfl, rfl⟩
  have pur : pu wr = true := by
    cases wr with
    | non => rfl
    | bl b => rfl
    | int i => rfl
    | str x => rfl
    | _ => cases pwr
  have ml := hq.len
  have mr : q.2.length ≤ 100 := by
    rcases hq.small with z | ⟨a, b, rfl, _⟩
    · omega
    · simp
  obtain ⟨b4, hb4, eL4⟩ := sp_list (r := r) (p := p) (s := s) (kd := kd) (f := f) (g := f + g') (q := q) (w := w) (sh := sh) (wr := wr) pwr p0 (by omega) (by omega) mr (by omega)
  have no := spl_no (b4 := b4) hq hw wl wsh (by omega) (by omega) f01 (g := f + g') (by omega) hb4 pwr owr
  have eR : eRule q = eRule q := rfl
  by_cases h13 : kd = 13
  · obtain ⟨z, hz⟩ : ∃ z, z = cell r (p + 9) % 6 := ⟨_, rfl⟩
    have zz : z = 0 ∨ z = 1 ∨ z = 2 ∨ z = 3 ∨ z = 4 ∨ z = 5 := by omega
    obtain ⟨x, ex, px, hx⟩ : ∃ x, ixR (.own (.lst [.non, .int 0, .str "ab", .str "", eW [], .tup [eW sh]])) (.int z) = some (.val x) ∧ pu x = true ∧ F_x_is_seal_rule [x, .int s] = some (.val (.bl false)) := by
      rcases zz with rfl | rfl | rfl | rfl | rfl | rfl
      · exact ⟨.non, rfl, rfl, f_rule_no1 rfl⟩
      · exact ⟨.int 0, rfl, rfl, f_rule_no1 rfl⟩
      · exact ⟨.str "ab", rfl, rfl, f_rule_no1 rfl⟩
      · exact ⟨.str "", rfl, rfl, f_rule_no1 rfl⟩
      · exact ⟨.tup [], rfl, rfl, f_rule_no2 (by simp)⟩
      · refine ⟨.tup [eW sh], ?_, by simp [puL], f_rule_no2 (by simp)⟩
        show some (R.elt _ (.tup [eW sh])) = _
        rw [elt_pu (by simp [puL])]
    refine ⟨x, ?_, hx⟩
    rw [mkR_pu px]
    rw [h13] at ew hkd
    have hkd : cell r p % 14 = 13 := hkd.symm
    obtain ⟨Q, hQ⟩ : ∃ Q, Q = eRule q := ⟨_, rfl⟩
    have aQ : argS Q = .val Q := by rw [hQ]; exact if_pos pu_eRule
    rw [← hQ] at ew ⊢
    unfold F_x_law_bad_rule G_x_law_bad_rule
    rw [ev_run]
    unfold startD
    simp -implicitDefEqProofs (disch := first | omega | simp) [ev_store, aQ, ixp, hkd, ew, ← hm, ← hsh, ixf, ← hz, tup_nil, ex]
  · obtain ⟨k, hk⟩ : ∃ k : Nat, (k : Int) = kd := ⟨kd.toNat, by omega⟩
    have lenS : (spl q w sh f (f + g') b4 wr).length = 13 := rfl
    have hk13 : k < 13 := by omega
    obtain ⟨x, hx⟩ : ∃ x, (spl q w sh f (f + g') b4 wr)[k]? = some x := ⟨_, List.getElem?_eq_getElem (by rw [lenS]; exact hk13)⟩
    refine ⟨x, ?_, no x (List.mem_of_getElem? hx)⟩
    have ix : ixR (.bor (.lst (spl q w sh f (f + g') b4 wr))) (.int kd) = some (mkR x) := by
      have e : ixR (.bor (.lst (spl q w sh f (f + g') b4 wr))) (.int kd) = (atI (spl q w sh f (f + g') b4 wr) kd).map (R.elt (.bor (.lst (spl q w sh f (f + g') b4 wr)))) := rfl
      rw [e, atI_get? (by omega) (by rw [lenS]; omega), show kd.toNat = k by omega, hx]
      show some (R.elt _ x) = _
      rw [elt_mkR]
    obtain ⟨L, hL⟩ : ∃ L, L = spl q w sh f (f + g') b4 wr := ⟨_, rfl⟩
    rw [← hL] at ix eL4
    have h13' : ¬ cell r p % 14 = 13 := by omega
    obtain ⟨A, hA⟩ : ∃ A, A = mkR x := ⟨_, rfl⟩
    have rA : A.ret = some A := by rw [hA]; unfold mkR; split <;> rfl
    rw [← hA] at ix ⊢
    obtain ⟨Q, hQ⟩ : ∃ Q, Q = eRule q := ⟨_, rfl⟩
    have aQ : argS Q = .val Q := by rw [hQ]; exact if_pos pu_eRule
    rw [← hQ] at ew eL4 ⊢
    obtain ⟨GL, hGL⟩ : ∃ GL : G, GL = gLst (gCons (gTup (gCons (gVar 6) (gCons (gRev (gVar 6)) gNil))) (gCons (gTup (gCons (gTup (gCons (gVar 7) gNil)) (gCons (gTup (gCons (gVar 8) gNil)) gNil))) (gCons (gTup (gCons (gVar 5) (gCons (gTup gNil) gNil))) (gCons (gTup (gCons (gTup gNil) (gCons (gTup gNil) gNil))) (gCons (gTup (gCons (gOp addD (gSl (gVar 6) (gP (gC (.int 1))) gNoP) (gTup (gCons (gIx (gLst (gCons (gVar 2) (gCons (gNeg (gC (.int 1))) gNil))) (gOp modD (gCB oInt (gCons (gIx (gVar 0) (gOp addD (gVar 1) (gC (.int 9)))) gNil)) (gC (.int 2)))) gNil))) (gCons (gTup gNil) gNil))) (gCons (gTup (gCons (gOp addD (gSl (gVar 6) gNoP (gP (gC (.int 5)))) (gTup (gCons (gVar 7) gNil))) (gCons (gTup (gCons (gVar 9) gNil)) gNil))) (gCons (gTup (gCons (gOp addD (gSl (gVar 6) (gP (gC (.int 1))) gNoP) (gTup (gCons (gC (.bl true)) gNil))) (gCons (gTup gNil) gNil))) (gCons (gTup (gCons (gOp addD (gSl (gVar 6) (gP (gC (.int 1))) gNoP) (gTup (gCons (gC (.str "a")) gNil))) (gCons (gTup gNil) gNil))) (gCons (gTup (gCons (gVar 6) (gCons (gOp addD (gVar 6) (gTup (gCons (gVar 7) gNil))) gNil))) (gCons (gCB oList (gCons (gVar 3) gNil)) (gCons (gOp addD (gVar 3) (gTup (gCons (gTup gNil) gNil))) (gCons (gTup (gCons (gCB oList (gCons (gIx (gVar 3) (gC (.int 0))) gNil)) (gCons (gIx (gVar 3) (gC (.int 1))) gNil))) (gCons (gTup (gCons (gIx (gVar 3) (gC (.int 0))) (gCons (gCB oList (gCons (gIx (gVar 3) (gC (.int 1))) gNil)) gNil))) gNil))))))))))))) := ⟨_, rfl⟩
    rw [← hGL] at eL4
    unfold F_x_law_bad_rule G_x_law_bad_rule
    rw [ev_run, ← hGL]
    unfold startD
    simp -implicitDefEqProofs (disch := first | omega | simp) [ev_store, aQ, ixp, ← hkd, h13, ew, ← hm, ← hsh, ixf, G0, ← hg', ← hy, iwr, pur, eL4, ix, rA]
end DL

set_option Elab.async false
set_option linter.all false
set_option maxRecDepth 100000
set_option maxHeartbeats 4000000
/-! U5: the law's bad tables are refused. -/
namespace DL
open PySem L2 DL PySem.W SrtO
theorem mkTup_mk {x : D} : mkTup [mkR x] = some (mkR (.tup [x])) := by
  have e : pu (.tup [x]) = pu x := by show (pu x && true) = pu x; rw [Bool.and_true]
  unfold mkR
  rw [e]
  by_cases h : pu x = true
  · rw [if_pos h, if_pos h, mkTup_1]
  · rw [if_neg h, if_neg h]
    rfl
theorem back_mkR {x : D} : (mkR x).back = mkR x := by unfold mkR; split <;> rfl
open Classical in
/-- a table with one bad rule -/
theorem f_tab_bad {s : Nat} {A B : List Rule} {x : D} (hA : ∀ q ∈ A, OkR s q) (hB : ∀ q ∈ B, OkR s q) (hx : F_x_is_seal_rule [x, .int s] = some (.val (.bl false))) (hl : A.length + B.length ≤ 11) :
    F_x_check_seal_table [.int s, .tup (A.map eRule ++ [x] ++ B.map eRule)] = some (.ex "InvalidSeal") := by
  have good : ∀ q : Rule, OkR s q → F_x_is_seal_rule [eRule q, .int s] = some (.val (.bl true)) := fun q ok => by
    have e := f_rule_words ok.l ok.r
    rw [okR_rl ok] at e
    exact e
  have hno : decide (F_x_is_seal_rule [x, .int s] = some (.val (.bl true))) = false := decide_eq_false (by
    rw [hx]
    intro z
    injection z with z
    injection z with z
    injection z with z
    cases z)
  have e := f_tab (s := s) (ds := A.map eRule ++ [x] ++ B.map eRule) (by simp; omega) (f := fun d => decide (F_x_is_seal_rule [d, .int s] = some (.val (.bl true)))) fun d hd => by
    rcases List.mem_append.mp hd with hd | hd
    · rcases List.mem_append.mp hd with hd | hd
      · obtain ⟨q, hq, rfl⟩ := List.mem_map.mp hd
        rw [decide_eq_true (good q (hA q hq))]
        exact good q (hA q hq)
      · rw [List.mem_singleton.mp hd, hno]
        exact hx
    · obtain ⟨q, hq, rfl⟩ := List.mem_map.mp hd
      rw [decide_eq_true (good q (hB q hq))]
      exact good q (hB q hq)
  rw [if_neg] at e
  · exact e
  · rw [List.all_append, List.all_append]
    simp [hno]
theorem f_bad_table {r : List Int} {n : Nat} (hr : Row r n) (hn : 178 ≤ n) {s : Nat} (hs : 0 < s) {T : List Rule} (hT : ∀ q ∈ T, OkR s q) (hl : T.length ≤ 12) :
    ∃ ro : R, F_x_law_bad_table [eL r, .int 165, .int s, eTab T] = some ro ∧ F_x_check_seal_table [.int s, ro.d] = some (.ex "InvalidSeal") := by
  have hrl := hr.1
  obtain ⟨kd, hkd⟩ : ∃ kd, kd = cell r 165 % 16 := ⟨_, rfl⟩
  -- the rule
  obtain ⟨q, hq, eq⟩ : ∃ q : Rule, OkR s q ∧ ∀ v6 v7 : Sl, (gIf (gT (gOp gtD (gCB oLen (gCons (gVar 3) gNil)) (gC (.int 0)))) (gSet 5 (gIx (gVar 3) (gOp modD (gCB oInt (gCons (gIx (gVar 0) (gOp addD (gVar 1) (gC (.int 1)))) gNil)) (gCB oLen (gCons (gVar 3) gNil))))) gNop) [.par (eL r), .val (.int 165), .val (.int s), .val (eTab T), .val (.int kd), .val (eRule ([0], [])), .no, .no] = some (.nx [.par (eL r), .val (.int 165), .val (.int s), .val (eTab T), .val (.int kd), .val (eRule q), .no, .no]) := by
    by_cases h0 : 0 < T.length
    · have H0 : (0 : Int) < T.length := by omega
      have c0 := Int.emod_nonneg (cell r 166) (b := (T.length : Int)) (by omega)
      have c1 := Int.emod_lt_of_pos (cell r 166) (b := (T.length : Int)) H0
      obtain ⟨z, hz⟩ : ∃ z, z = cell r 166 % (T.length : Int) := ⟨_, rfl⟩
      rw [← hz] at c0 c1
      have ix := ixM (r := .val (eTab T)) (as := T) (f := eRule) ([], []) (i := z) (.inl rfl) (fun _ => pu_eRule) c0 c1
      have ok := hT _ (getD_mem (a := (([], []) : Rule)) (show z.toNat < T.length by omega))
      obtain ⟨q, hq⟩ : ∃ q, q = T.getD z.toNat ([], []) := ⟨_, rfl⟩
      rw [← hq] at ix ok
      refine ⟨q, ok, fun _ _ => ?_⟩
      have ol := oLen_eTab (T := T)
      obtain ⟨U, hU⟩ : ∃ U, U = eTab T := ⟨_, rfl⟩
      rw [← hU] at ix ol ⊢
      obtain ⟨Q, hQ⟩ : ∃ Q, Q = eRule q := ⟨_, rfl⟩
      have pQ : pu Q = true := by rw [hQ]; simp
      rw [← hQ] at ix ⊢
      simp -implicitDefEqProofs (disch := first | omega | simp) [ev_store, ixp, ol, H0, h0, ← hz, ix, pQ]
    · refine ⟨([0], []), ⟨fun y hy => by rw [List.mem_singleton.mp hy]; omega, Wd.nil, .inl (by simp), by simp⟩, fun _ _ => ?_⟩
      have H0 : ¬ (0 : Int) < T.length := by omega
      have ol := oLen_eTab (T := T)
      obtain ⟨U, hU⟩ : ∃ U, U = eTab T := ⟨_, rfl⟩
      rw [← hU] at ol ⊢
      simp -implicitDefEqProofs (disch := first | omega | simp) [ol, H0, h0]
  have eq := eq .no .no
  have px : ∀ q : Rule, pu (eRule q) = true := fun _ => pu_eRule
  obtain ⟨IF, hIF⟩ : ∃ g : GS, g = (gIf (gT (gOp gtD (gCB oLen (gCons (gVar 3) gNil)) (gC (.int 0)))) (gSet 5 (gIx (gVar 3) (gOp modD (gCB oInt (gCons (gIx (gVar 0) (gOp addD (gVar 1) (gC (.int 1)))) gNil)) (gCB oLen (gCons (gVar 3) gNil))))) gNop) := ⟨_, rfl⟩
  rw [← hIF] at eq
  have ol := oLen_eTab (T := T)
  have aT : argS (eTab T) = .val (eTab T) := argS_eTab
  have lT : oList [.val (eTab T)] = some (.own (.lst (T.map eRule))) := if_pos (puL_map (fun _ => pu_eRule) T)
  have e0 : D.tup [eW [0], eW []] = eRule ([0], []) := rfl
  by_cases c0 : kd = 0
  · rw [c0] at eq hkd
    refine ⟨.own (.lst (T.map eRule)), ?_, f_tab_no1 rfl⟩
    obtain ⟨U, hU⟩ : ∃ U, U = eTab T := ⟨_, rfl⟩
    rw [← hU] at aT lT ol eq ⊢
    unfold F_x_law_bad_table G_x_law_bad_table
    rw [ev_run, ← hIF]
    unfold startD
    simp -implicitDefEqProofs (disch := first | omega | simp) [ev_store, aT, ixp, ← hkd, tup_nil, tup_int, e0, eq, lT]
  · by_cases c1 : kd = 1
    · obtain ⟨z, hz⟩ : ∃ z, z = cell r 167 % 6 := ⟨_, rfl⟩
      have zz : z = 0 ∨ z = 1 ∨ z = 2 ∨ z = 3 ∨ z = 4 ∨ z = 5 := by omega
      have mk : mkLst [.val .non, .val (.int 0), .val (.bl true), .val (.str ""), .val (.str "ab"), .own (.dct [] [])] = some (.own (.lst [.non, .int 0, .bl true, .str "", .str "ab", .dct [] []])) := rfl
      obtain ⟨x, ex, hx⟩ : ∃ x, ixR (.own (.lst [.non, .int 0, .bl true, .str "", .str "ab", .dct [] []])) (.int z) = some (mkR x) ∧ isiR .tuple x = some (.val (.bl false)) := by
        rcases zz with rfl | rfl | rfl | rfl | rfl | rfl
        · exact ⟨.non, rfl, rfl⟩
        · exact ⟨.int 0, rfl, rfl⟩
        · exact ⟨.bl true, rfl, rfl⟩
        · exact ⟨.str "", rfl, rfl⟩
        · exact ⟨.str "ab", rfl, rfl⟩
        · exact ⟨.dct [] [], rfl, rfl⟩
      refine ⟨mkR x, ?_, by rw [mkR_d]; exact f_tab_no1 hx⟩
      rw [c1] at eq hkd
      obtain ⟨A, hA⟩ : ∃ A, A = mkR x := ⟨_, rfl⟩
      have rA : A.ret = some A := by rw [hA]; unfold mkR; split <;> rfl
      rw [← hA] at ex ⊢
      obtain ⟨U, hU⟩ : ∃ U, U = eTab T := ⟨_, rfl⟩
      rw [← hU] at aT lT ol eq ⊢
      have d0 : ∀ δ : DSt, gDct0 δ = some (.own (.dct [] [])) := fun _ => rfl
      unfold F_x_law_bad_table G_x_law_bad_table
      rw [ev_run, ← hIF]
      unfold startD
      simp -implicitDefEqProofs (disch := first | omega | simp) [ev_store, aT, ixp, ← hkd, tup_nil, tup_int, e0, eq, d0, mk, ← hz, ex, rA]
    · by_cases c2 : kd = 2
      · rw [c2] at eq hkd
        obtain ⟨U, hU⟩ : ∃ U, U = eTab T := ⟨_, rfl⟩
        rw [← hU] at aT lT ol eq
        obtain ⟨Q, hQ⟩ : ∃ Q, Q = eRule q := ⟨_, rfl⟩
        have pQ : pu Q = true := by rw [hQ]; simp
        rw [← hQ] at eq
        have lc := lc_rngF (vs := [7]) (gi := gRng1 (gC (.int 13))) (gt := gName 7) (gc := gYes) (ge := gVar 5) (δ := [.par (eL r), .val (.int 165), .val (.int s), .val U, .val (.int 2), .val Q, .no, .no]) 13 (fun _ => true) (fun _ => Q) (rng_of (by simp) (by omega)) (by omega) fun k hk =>
          ⟨[.par (eL r), .val (.int 165), .val (.int s), .val U, .val (.int 2), .val Q, .no, .val (.int k)], by simp [ev_store], rfl, fun _ => ⟨.val Q, by simp, rfl, rfl⟩⟩
        rw [List.filter_eq_self.mpr fun _ _ => rfl] at lc
        obtain ⟨X, hX⟩ : ∃ X, X = (List.range 13).map fun _ => Q := ⟨_, rfl⟩
        have pX : puL X = true := by rw [hX]; exact puL_map (fun _ => pQ) _
        have xl : X.length = 13 := by rw [hX]; simp
        rw [← hX] at lc
        have ot : oTuple [.own (.lst X)] = some (.val (.tup X)) := oTuple_p pX
        have ad := addD_tup (ds := T.map eRule) (es := X) (by rw [List.length_map]; omega) (puL_map (fun _ => pu_eRule) _) pX
        have pTX : puL (T.map eRule ++ X) = true := by rw [puL_append, pX, puL_map (fun _ => pu_eRule) T]; rfl
        have sl := slD_tup pTX (lo := none) (hi := some 13)
        have ad : addD U (.tup X) = some (.val (.tup (T.map eRule ++ X))) := by rw [hU]; exact ad
        refine ⟨.val (.tup (cutL (T.map eRule ++ X) none (some 13))), ?_, f_tab_no2 ?_⟩
        · rw [← hU]
          obtain ⟨Y, hY⟩ : ∃ Y, Y = D.tup (T.map eRule ++ X) := ⟨_, rfl⟩
          rw [← hY] at ad sl
          unfold F_x_law_bad_table G_x_law_bad_table
          rw [ev_run, ← hIF]
          unfold startD
          simp -implicitDefEqProofs (disch := first | omega | simp) [ev_store, aT, ixp, ← hkd, tup_nil, tup_int, e0, eq, lc, ot, ad, sl]
        · have : cutL (T.map eRule ++ X) none (some ((13 : Nat) : Int)) = (T.map eRule ++ X).take 13 := by
            unfold cutL
            rw [HT.sIx_none, HT.sIx_nat, List.drop_zero, Nat.sub_zero, List.take_eq_take_iff]
            omega
          have e : cutL (T.map eRule ++ X) none (some 13) = (T.map eRule ++ X).take 13 := this
          rw [e, List.length_take, List.length_append, xl]
          omega
      · obtain ⟨x, bx, nx⟩ := f_bad_rule hr (p := 168) (by omega) (by omega) hs hq
        have M1 : (0 : Int) < max 1 T.length := by omega
        obtain ⟨mx, hmx⟩ : ∃ mx : Int, mx = if (T.length : Int) > 1 then (T.length : Int) else 1 := ⟨_, rfl⟩
        have M0 : 0 < mx := by rw [hmx]; split <;> omega
        have om : oMax [.val (.int 1), .val (.int T.length)] = some (.val (.int mx)) := by rw [hmx]; rfl
        have p0 := Int.emod_nonneg (cell r 166) (b := mx) (by omega)
        have p1 := Int.emod_lt_of_pos (cell r 166) M0
        obtain ⟨z, hz⟩ : ∃ z, z = cell r 166 % mx := ⟨_, rfl⟩
        rw [← hz] at p0 p1
        obtain ⟨pl, rfl⟩ : ∃ k : Nat, z = k := ⟨z.toNat, by omega⟩
        have ct1 : cutL (T.map eRule) none (some (pl : Int)) = (T.take pl).map eRule := by
          rw [cutL_map]
          unfold cutL
          rw [HT.sIx_none, HT.sIx_nat, List.drop_zero, Nat.sub_zero]
          congr 1
          rw [List.take_eq_take_iff]
          omega
        have ct2 : cutL (T.map eRule) (some (((pl + 1 : Nat)) : Int)) none = (T.drop (pl + 1)).map eRule := by
          rw [cutL_map]
          unfold cutL
          rw [HT.sIx_none, HT.sIx_nat]
          congr 1
          by_cases h : pl + 1 ≤ T.length
          · rw [Nat.min_eq_left h, List.take_of_length_le (by rw [List.length_drop]; omega)]
          · rw [Nat.min_eq_right (by omega), List.drop_of_length_le (Nat.le_refl _), List.drop_of_length_le (by omega)]
            simp
        have s1 := slD_tup (ds := T.map eRule) (puL_map (fun _ => pu_eRule) _) (lo := none) (hi := some (pl : Int))
        have s2 := slD_tup (ds := T.map eRule) (puL_map (fun _ => pu_eRule) _) (lo := some ((pl + 1 : Nat) : Int)) (hi := none)
        rw [ct1] at s1
        rw [ct2] at s2
        have s2 : slD (.tup (T.map eRule)) (some ((pl : Int) + 1)) none = _ := s2
        have g1 := addD_g (ds := (T.take pl).map eRule) (es := [x]) (by simp; omega)
        have g2 := addD_g (ds := (T.take pl).map eRule ++ [x]) (es := (T.drop (pl + 1)).map eRule) (by simp; omega)
        refine ⟨mkR (.tup ((T.take pl).map eRule ++ [x] ++ (T.drop (pl + 1)).map eRule)), ?_, ?_⟩
        · obtain ⟨U, hU⟩ : ∃ U, U = eTab T := ⟨_, rfl⟩
          have s1 : slD U none (some (pl : Int)) = some (.val (.tup ((T.take pl).map eRule))) := by rw [hU]; exact s1
          have s2 : slD U (some ((pl : Int) + 1)) none = some (.val (.tup ((T.drop (pl + 1)).map eRule))) := by rw [hU]; exact s2
          rw [← hU] at aT lT ol eq ⊢
          obtain ⟨Q, hQ⟩ : ∃ Q, Q = eRule q := ⟨_, rfl⟩
          rw [← hQ] at eq bx
          obtain ⟨A, hA⟩ : ∃ A, A = mkR x := ⟨_, rfl⟩
          have bA : A.back = A := by rw [hA]; exact back_mkR
          have tA := mkTup_mk (x := x)
          rw [← hA] at bx tA
          obtain ⟨A1, hA1⟩ : ∃ A, A = D.tup ((T.take pl).map eRule) := ⟨_, rfl⟩
          obtain ⟨A2, hA2⟩ : ∃ A, A = D.tup ((T.drop (pl + 1)).map eRule) := ⟨_, rfl⟩
          obtain ⟨A3, hA3⟩ : ∃ A, A = D.tup ((T.take pl).map eRule ++ [x]) := ⟨_, rfl⟩
          obtain ⟨A4, hA4⟩ : ∃ A, A = D.tup ((T.take pl).map eRule ++ [x] ++ (T.drop (pl + 1)).map eRule) := ⟨_, rfl⟩
          obtain ⟨A5, hA5⟩ : ∃ A, A = D.tup [x] := ⟨_, rfl⟩
          rw [← hA1] at s1 g1
          rw [← hA2] at s2 g2
          rw [← hA3] at g1 g2
          rw [← hA4] at g2 ⊢
          rw [← hA5] at tA g1
          have d3 : (mkR A3).d = A3 := mkR_d
          have d5 : (mkR A5).d = A5 := mkR_d
          have r4 : (mkR A4).ret = some (mkR A4) := by unfold mkR; split <;> rfl
          have c0' : ¬ cell r 165 % 16 = 0 := by omega
          have c1' : ¬ cell r 165 % 16 = 1 := by omega
          have c2' : ¬ cell r 165 % 16 = 2 := by omega
          unfold F_x_law_bad_table G_x_law_bad_table
          rw [ev_run, ← hIF]
          unfold startD
          simp -implicitDefEqProofs (disch := first | omega | simp) [ev_store, aT, ixp, ← hkd, c0, c1, c2, tup_nil, tup_int, e0, eq, ol, om, M0, ← hz, s1, s2, bx, bA, tA, g1, g2, d3, d5, r4]
        · rw [mkR_d]
          exact f_tab_bad (fun q hq => hT q (List.mem_of_mem_take hq)) (fun q hq => hT q (List.mem_of_mem_drop hq)) nx (by
            rw [List.length_take, List.length_drop]
            rw [hmx] at p1
            split at p1 <;> omega)
end DL

set_option Elab.async false
set_option linter.all false
set_option maxRecDepth 100000
set_option maxHeartbeats 8000000
namespace DL
open PySem PySem.Spec PyProof.Rows L2 DL
def topS (i : Nat) : Stmt := PySem.Challenge.pw_anychain_k69_check_seal_table.main.body.getD i (.Pass ⟨0, 0, 0, 0⟩)
/-- what the names of the module hold -/
structure Bt (K : PySem.W.Frag) (mg : Str → Option Value) {C_AnychainError C_BadLetter C_BadStep C_Confused C_Endless C_InvalidBook C_InvalidMachine C_InvalidNet C_InvalidSeal C_InvalidTranslator C_Mismatch C_NoHistory C_NotSettling C_TooLong C_UnknownName : Addr} : Prop where
  b_ValueError : mg "ValueError" = none
  b_all : mg "all" = none
  b_bool : mg "bool" = none
  b_int : mg "int" = none
  b_isinstance : mg "isinstance" = none
  b_len : mg "len" = none
  b_list : mg "list" = none
  b_max : mg "max" = none
  b_range : mg "range" = none
  b_tuple : mg "tuple" = none
  c_MOST_SEAL_LEFT : ∃ t, mg "MOST_SEAL_LEFT" = some (.int (6) t)
  c_MOST_SEAL_RULES : ∃ t, mg "MOST_SEAL_RULES" = some (.int (12) t)
  g_AnychainError : mg "AnychainError" = some (.ref C_AnychainError)
  g_BadLetter : mg "BadLetter" = some (.ref C_BadLetter)
  g_BadStep : mg "BadStep" = some (.ref C_BadStep)
  g_Confused : mg "Confused" = some (.ref C_Confused)
  g_Endless : mg "Endless" = some (.ref C_Endless)
  g_InvalidBook : mg "InvalidBook" = some (.ref C_InvalidBook)
  g_InvalidMachine : mg "InvalidMachine" = some (.ref C_InvalidMachine)
  g_InvalidNet : mg "InvalidNet" = some (.ref C_InvalidNet)
  g_InvalidSeal : mg "InvalidSeal" = some (.ref C_InvalidSeal)
  g_InvalidTranslator : mg "InvalidTranslator" = some (.ref C_InvalidTranslator)
  g_Mismatch : mg "Mismatch" = some (.ref C_Mismatch)
  g_NoHistory : mg "NoHistory" = some (.ref C_NoHistory)
  g_NotSettling : mg "NotSettling" = some (.ref C_NotSettling)
  g_TooLong : mg "TooLong" = some (.ref C_TooLong)
  g_UnknownName : mg "UnknownName" = some (.ref C_UnknownName)
  ex_AnychainError : ExF K mg "AnychainError" C_AnychainError
  ec_AnychainError : ExcC K C_AnychainError
  ex_InvalidSeal : ExF K mg "InvalidSeal" C_InvalidSeal
  ec_InvalidSeal : ExcC K C_InvalidSeal
  kt_InvalidSeal_AnychainError : PySem.W.kitOne K (.ref C_InvalidSeal) (.ref C_AnychainError) = some true
  kt_InvalidSeal_BadLetter : PySem.W.kitOne K (.ref C_InvalidSeal) (.ref C_BadLetter) = some false
  kt_InvalidSeal_BadStep : PySem.W.kitOne K (.ref C_InvalidSeal) (.ref C_BadStep) = some false
  kt_InvalidSeal_Confused : PySem.W.kitOne K (.ref C_InvalidSeal) (.ref C_Confused) = some false
  kt_InvalidSeal_Endless : PySem.W.kitOne K (.ref C_InvalidSeal) (.ref C_Endless) = some false
  kt_InvalidSeal_InvalidBook : PySem.W.kitOne K (.ref C_InvalidSeal) (.ref C_InvalidBook) = some false
  kt_InvalidSeal_InvalidMachine : PySem.W.kitOne K (.ref C_InvalidSeal) (.ref C_InvalidMachine) = some false
  kt_InvalidSeal_InvalidNet : PySem.W.kitOne K (.ref C_InvalidSeal) (.ref C_InvalidNet) = some false
  kt_InvalidSeal_InvalidSeal : PySem.W.kitOne K (.ref C_InvalidSeal) (.ref C_InvalidSeal) = some true
  kt_InvalidSeal_InvalidTranslator : PySem.W.kitOne K (.ref C_InvalidSeal) (.ref C_InvalidTranslator) = some false
  kt_InvalidSeal_Mismatch : PySem.W.kitOne K (.ref C_InvalidSeal) (.ref C_Mismatch) = some false
  kt_InvalidSeal_NoHistory : PySem.W.kitOne K (.ref C_InvalidSeal) (.ref C_NoHistory) = some false
  kt_InvalidSeal_NotSettling : PySem.W.kitOne K (.ref C_InvalidSeal) (.ref C_NotSettling) = some false
  kt_InvalidSeal_TooLong : PySem.W.kitOne K (.ref C_InvalidSeal) (.ref C_TooLong) = some false
  kt_InvalidSeal_UnknownName : PySem.W.kitOne K (.ref C_InvalidSeal) (.ref C_UnknownName) = some false
  kt_InvalidSeal_ValueError : PySem.W.kitOne K (.ref C_InvalidSeal) (.type "ValueError") = some true
section
variable {P : Program} {w : World} {K : PySem.W.Frag} {mg : Str → Option Value} {base : Heap} {TL : List Addr} {cc PP : Addr} {C_AnychainError C_BadLetter C_BadStep C_Confused C_Endless C_InvalidBook C_InvalidMachine C_InvalidNet C_InvalidSeal C_InvalidTranslator C_Mismatch C_NoHistory C_NotSettling C_TooLong C_UnknownName : Addr}
abbrev s_x_is_integer : Stmt := topS 17
abbrev ns_x_is_integer : List Str := ["value"]
theorem sc_x_is_integer : FnScope ns_x_is_integer ["value"] (defScope s_x_is_integer) := ⟨rfl, rfl, rfl, by decide +kernel, rfl, by decide +kernel, by decide +kernel⟩
theorem ok_x_is_integer (h : Df K mg "is_integer" s_x_is_integer ["value"]) (T : @Bt K mg C_AnychainError C_BadLetter C_BadStep C_Confused C_Endless C_InvalidBook C_InvalidMachine C_InvalidNet C_InvalidSeal C_InvalidTranslator C_Mismatch C_NoHistory C_NotSettling C_TooLong C_UnknownName) : Cal TL P w K mg base "is_integer" ["value"] 1 F_x_is_integer :=
  Df.cal (k := 0) h sc_x_is_integer fun f cdv A outer s H E hr =>
  (dss_one (ds_ret (de_and (de_isi .int T.b_isinstance T.b_int bt_int (de_var 0)) (de_one (de_not (de_isi .bool T.b_isinstance T.b_bool bt_bool (de_var 0)))))))
abbrev s_x_is_sign : Stmt := topS 18
abbrev ns_x_is_sign : List Str := ["value", "signs"]
theorem sc_x_is_sign : FnScope ns_x_is_sign ["value", "signs"] (defScope s_x_is_sign) := ⟨rfl, rfl, rfl, by decide +kernel, rfl, by decide +kernel, by decide +kernel⟩
theorem ok_x_is_sign (h : Df K mg "is_sign" s_x_is_sign ["value", "signs"]) (T : @Bt K mg C_AnychainError C_BadLetter C_BadStep C_Confused C_Endless C_InvalidBook C_InvalidMachine C_InvalidNet C_InvalidSeal C_InvalidTranslator C_Mismatch C_NoHistory C_NotSettling C_TooLong C_UnknownName) (c_x_is_integer : Cal TL P w K mg base "is_integer" ["value"] 1 F_x_is_integer) : Cal TL P w K mg base "is_sign" ["value", "signs"] 2 F_x_is_sign :=
  Df.cal (k := 1) h sc_x_is_sign fun f cdv A outer s H E hr =>
  (dss_one (ds_ret (de_and (de_fn c_x_is_integer (hr.mono (by decide)) (da_cons (de_var 0) da_nil)) (de_one (de_chain od_le (od_ltX hr) de_int (de_var 0) (de_var 1))))))
abbrev s_x_is_word : Stmt := topS 19
abbrev ns_x_is_word : List Str := ["value", "signs", "sign"]
theorem sc_x_is_word : FnScope ns_x_is_word ["value", "signs"] (defScope s_x_is_word) := ⟨rfl, rfl, rfl, by decide +kernel, rfl, by decide +kernel, by decide +kernel⟩
theorem ok_x_is_word (h : DfT K mg "is_word" s_x_is_word ["value", "signs"] cc) (tb : GxR.TabB base mg cc PP) (hP : PP ∈ TL) (T : @Bt K mg C_AnychainError C_BadLetter C_BadStep C_Confused C_Endless C_InvalidBook C_InvalidMachine C_InvalidNet C_InvalidSeal C_InvalidTranslator C_Mismatch C_NoHistory C_NotSettling C_TooLong C_UnknownName) (c_x_is_sign : Cal TL P w K mg base "is_sign" ["value", "signs"] 2 F_x_is_sign) : Cal TL P w K mg base "is_word" ["value", "signs"] 4 F_x_is_word :=
  DfT.cal (k := 3) h sc_x_is_word fun f A outer s H E hr =>
  (dss_one (ds_ret (de_and (de_isi .tuple T.b_isinstance T.b_tuple bt_tuple (de_var 0)) (de_one (de_allG [("sign", 2)] (k := 2) hr tb hP sc_x_is_word.nd T.b_all (di_seq (de_var 0)) (blkOk_by (N := ns_x_is_word) (sc := defScope s_x_is_word) (own := [("sign", 2)]) (by decide +kernel)) (by decide +kernel) (fun _ _ _ _ _ _ _ => (dg_name 2 sc_x_is_word.nd)) (fun _ _ _ _ _ _ _ hr => (de_fn c_x_is_sign (hr.mono (by decide)) (da_cons (de_var 2) (da_cons (de_var 1) da_nil)))))))))
abbrev s_x_is_seal_rule : Stmt := topS 23
abbrev ns_x_is_seal_rule : List Str := ["rule", "signs", "left", "right"]
theorem sc_x_is_seal_rule : FnScope ns_x_is_seal_rule ["rule", "signs"] (defScope s_x_is_seal_rule) := ⟨rfl, rfl, rfl, by decide +kernel, rfl, by decide +kernel, by decide +kernel⟩
theorem ok_x_is_seal_rule (h : Df K mg "is_seal_rule" s_x_is_seal_rule ["rule", "signs"]) (T : @Bt K mg C_AnychainError C_BadLetter C_BadStep C_Confused C_Endless C_InvalidBook C_InvalidMachine C_InvalidNet C_InvalidSeal C_InvalidTranslator C_Mismatch C_NoHistory C_NotSettling C_TooLong C_UnknownName) (c_x_is_word : Cal TL P w K mg base "is_word" ["value", "signs"] 4 F_x_is_word) : Cal TL P w K mg base "is_seal_rule" ["rule", "signs"] 5 F_x_is_seal_rule :=
  Df.cal (k := 4) h sc_x_is_seal_rule fun f cdv A outer s H E hr =>
  (dss_cons (ds_if (DW.dt (dw_or (dt_not (dt_tru (de_isi .tuple T.b_isinstance T.b_tuple bt_tuple (de_var 0)))) (dw_or1 (dt_cmp (od_ne hr) (de_callB cd_len T.b_len bt_len (da_cons (de_var 0) da_nil)) de_int)))) (dss_one (ds_ret de_bl)) dss_nil)
  (dss_cons (ds_asg (de_var 0) (dg_tup rfl (dgs_cons (dg_name 2 sc_x_is_seal_rule.nd) (dgs_cons (dg_name 3 sc_x_is_seal_rule.nd) dgs_nil))))
  (dss_cons (ds_if (DW.dt (dw_or (dt_not (dt_tru (de_fn c_x_is_word (hr.mono (by decide)) (da_cons (de_var 2) (da_cons (de_var 1) da_nil))))) (dw_or (dt_not (dt_tru (de_fn c_x_is_word (hr.mono (by decide)) (da_cons (de_var 3) (da_cons (de_var 1) da_nil))))) (dw_or1 (dt_not (dt_chain od_le od_le de_int (de_callB cd_len T.b_len bt_len (da_cons (de_var 2) da_nil)) (de_gint T.c_MOST_SEAL_LEFT.choose_spec))))))) (dss_one (ds_ret de_bl)) dss_nil)
  (dss_one (ds_ret (de_or (de_cmp (od_ltX hr) (de_callB cd_len T.b_len bt_len (da_cons (de_var 3) da_nil)) (de_callB cd_len T.b_len bt_len (da_cons (de_var 2) da_nil))) (de_one (de_and (de_cmp (od_eq hr) (de_callB cd_len T.b_len bt_len (da_cons (de_var 2) da_nil)) de_int) (de_and (de_cmp (od_eq hr) (de_callB cd_len T.b_len bt_len (da_cons (de_var 3) da_nil)) de_int) (de_one (de_cmp (od_ltX hr) (de_var 3) (de_var 2))))))))))))
abbrev s_x_check_seal_table : Stmt := topS 24
abbrev ns_x_check_seal_table : List Str := ["signs", "table", "rule"]
theorem sc_x_check_seal_table : FnScope ns_x_check_seal_table ["signs", "table"] (defScope s_x_check_seal_table) := ⟨rfl, rfl, rfl, by decide +kernel, rfl, by decide +kernel, by decide +kernel⟩
theorem ok_x_check_seal_table (h : DfT K mg "check_seal_table" s_x_check_seal_table ["signs", "table"] cc) (tb : GxR.TabB base mg cc PP) (hP : PP ∈ TL) (T : @Bt K mg C_AnychainError C_BadLetter C_BadStep C_Confused C_Endless C_InvalidBook C_InvalidMachine C_InvalidNet C_InvalidSeal C_InvalidTranslator C_Mismatch C_NoHistory C_NotSettling C_TooLong C_UnknownName) (c_x_is_seal_rule : Cal TL P w K mg base "is_seal_rule" ["rule", "signs"] 5 F_x_is_seal_rule) : CalX TL P w K mg base "check_seal_table" ["signs", "table"] 7 F_x_check_seal_table :=
  DfT.calX (k := 6) h sc_x_check_seal_table fun f A outer s H E hr =>
  have tk := takes_of (X := cxOf (L2.CX P w) P w K mg base ns_x_check_seal_table "check_seal_table" (defScope s_x_check_seal_table) f (.ref cc) A outer s H E) rfl rfl rfl rfl
  (dss_cons (ds_if (DW.dt (dw_or (dt_not (dt_tru (de_isi .tuple T.b_isinstance T.b_tuple bt_tuple (de_var 1)))) (dw_or1 (dt_cmp od_gt (de_callB cd_len T.b_len bt_len (da_cons (de_var 1) da_nil)) (de_gint T.c_MOST_SEAL_RULES.choose_spec))))) (dss_one (ds_raise T.ex_InvalidSeal tk rfl)) dss_nil)
  (dss_one (ds_if (dt_not (dt_tru (de_allG [("rule", 2)] (k := 5) hr tb hP sc_x_check_seal_table.nd T.b_all (di_seq (de_var 1)) (blkOk_by (N := ns_x_check_seal_table) (sc := defScope s_x_check_seal_table) (own := [("rule", 2)]) (by decide +kernel)) (by decide +kernel) (fun _ _ _ _ _ _ _ => (dg_name 2 sc_x_check_seal_table.nd)) (fun _ _ _ _ _ _ _ hr => (de_fn c_x_is_seal_rule (hr.mono (by decide)) (da_cons (de_var 2) (da_cons (de_var 0) da_nil))))))) (dss_one (ds_raise T.ex_InvalidSeal tk rfl)) dss_nil)))
abbrev s_x_law_mixed : Stmt := topS 26
abbrev ns_x_law_mixed : List Str := ["script", "k", "cell", "first", "second", "third"]
theorem sc_x_law_mixed : FnScope ns_x_law_mixed ["script", "k"] (defScope s_x_law_mixed) := ⟨rfl, rfl, rfl, by decide +kernel, rfl, by decide +kernel, by decide +kernel⟩
theorem ok_x_law_mixed (h : Df K mg "_law_mixed" s_x_law_mixed ["script", "k"]) (T : @Bt K mg C_AnychainError C_BadLetter C_BadStep C_Confused C_Endless C_InvalidBook C_InvalidMachine C_InvalidNet C_InvalidSeal C_InvalidTranslator C_Mismatch C_NoHistory C_NotSettling C_TooLong C_UnknownName) : Cal TL P w K mg base "_law_mixed" ["script", "k"] 1 F_x_law_mixed :=
  Df.cal (k := 0) h sc_x_law_mixed fun f cdv A outer s H E hr =>
  (dss_cons (ds_set 2 sc_x_law_mixed.nd de_int)
  (dss_cons (ds_if (dt_cmp od_gt (de_callB cd_len T.b_len bt_len (da_cons (de_var 0) da_nil)) de_int) (dss_one (ds_set 2 sc_x_law_mixed.nd (de_ix (de_var 0) (de_op od_mod (de_var 1) (de_callB cd_len T.b_len bt_len (da_cons (de_var 0) da_nil)))))) dss_nil)
  (dss_cons (ds_set 3 sc_x_law_mixed.nd (de_op od_mod (de_callTy cd_int T.b_int bt_int (da_cons (de_op od_add (de_op od_add (de_op od_mul (de_var 2) de_int) (de_op od_mul (de_var 1) de_int)) de_int) da_nil)) de_int))
  (dss_cons (ds_set 4 sc_x_law_mixed.nd (de_op od_mod (de_callTy cd_int T.b_int bt_int (da_cons (de_op od_add (de_op od_add (de_op od_mul (de_var 3) (de_var 3)) (de_op od_fdiv (de_var 3) de_int)) (de_op od_mul (de_var 1) de_int)) da_nil)) de_int))
  (dss_cons (ds_set 5 sc_x_law_mixed.nd (de_op od_mod (de_callTy cd_int T.b_int bt_int (da_cons (de_op od_add (de_op od_add (de_op od_mul (de_var 4) (de_var 4)) (de_op od_fdiv (de_var 4) de_int)) de_int) da_nil)) de_int))
  (dss_one (ds_ret (de_op od_mod (de_op od_fdiv (de_var 5) de_int) de_int))))))))
abbrev s_x_law_row : Stmt := topS 27
abbrev ns_x_law_row : List Str := ["script", "many", "big", "row", "k"]
theorem sc_x_law_row : FnScope ns_x_law_row ["script", "many"] (defScope s_x_law_row) := ⟨rfl, rfl, rfl, by decide +kernel, rfl, by decide +kernel, by decide +kernel⟩
theorem ok_x_law_row (h : Df K mg "_law_row" s_x_law_row ["script", "many"]) (T : @Bt K mg C_AnychainError C_BadLetter C_BadStep C_Confused C_Endless C_InvalidBook C_InvalidMachine C_InvalidNet C_InvalidSeal C_InvalidTranslator C_Mismatch C_NoHistory C_NotSettling C_TooLong C_UnknownName) (c_x_law_mixed : Cal TL P w K mg base "_law_mixed" ["script", "k"] 1 F_x_law_mixed) : Cal TL P w K mg base "_law_row" ["script", "many"] 2 F_x_law_row :=
  Df.cal (k := 1) h sc_x_law_row fun f cdv A outer s H E hr =>
  (dss_cons (ds_set 2 sc_x_law_row.nd de_int)
  (dss_cons (ds_if (DW.dt (dw_and (dt_cmp od_gt (de_callB cd_len T.b_len bt_len (da_cons (de_var 0) da_nil)) de_int) (dw_and1 (dt_cmp od_ge (de_ix (de_var 0) de_int) (de_op od_pow de_int de_int))))) (dss_one (ds_set 2 sc_x_law_row.nd (de_ix (de_var 0) de_int))) dss_nil)
  (dss_cons (ds_set 3 sc_x_law_row.nd (de_lst da_nil))
  (dss_cons (ds_for [] PassesOwn.never rfl (di_rng1 (de_var 1) T.b_range) (dg_name 4 sc_x_law_row.nd) (dss_one (ds_if (dt_cmp od_gt (de_var 2) de_int) (dss_cons (ds_app 3 (de_op od_mod (de_callTy cd_int T.b_int bt_int (da_cons (de_var 2) da_nil)) de_int))
  (dss_one (ds_set 2 sc_x_law_row.nd (de_op od_fdiv (de_var 2) de_int)))) (dss_one (ds_app 3 (de_fn c_x_law_mixed (hr.mono (by decide)) (da_cons (de_var 0) (da_cons (de_var 4) da_nil))))))))
  (dss_one (ds_retV 3))))))
abbrev s_x_law_long_rule : Stmt := topS 28
abbrev ns_x_law_long_rule : List Str := ["row", "at", "signs", "most", "size", "left", "k"]
theorem sc_x_law_long_rule : FnScope ns_x_law_long_rule ["row", "at", "signs", "most"] (defScope s_x_law_long_rule) := ⟨rfl, rfl, rfl, by decide +kernel, rfl, by decide +kernel, by decide +kernel⟩
theorem ok_x_law_long_rule (h : Df K mg "_law_long_rule" s_x_law_long_rule ["row", "at", "signs", "most"]) (T : @Bt K mg C_AnychainError C_BadLetter C_BadStep C_Confused C_Endless C_InvalidBook C_InvalidMachine C_InvalidNet C_InvalidSeal C_InvalidTranslator C_Mismatch C_NoHistory C_NotSettling C_TooLong C_UnknownName) : Cal TL P w K mg base "_law_long_rule" ["row", "at", "signs", "most"] 1 F_x_law_long_rule :=
  Df.cal (k := 0) h sc_x_law_long_rule fun f cdv A outer s H E hr =>
  (dss_cons (ds_set 4 sc_x_law_long_rule.nd (de_op od_add de_int (de_op od_mod (de_callTy cd_int T.b_int bt_int (da_cons (de_ix (de_var 0) (de_var 1)) da_nil)) (de_var 3))))
  (dss_cons (ds_set 5 sc_x_law_long_rule.nd (de_callTy cd_tuple T.b_tuple bt_tuple (da_cons (de_lc [("k", 6)] rfl sc_x_law_long_rule.nd (di_rng1 (de_var 4) T.b_range) (blkOk_by (N := ns_x_law_long_rule) (sc := defScope s_x_law_long_rule) (own := [("k", 6)]) (by decide +kernel)) (fun _ _ _ _ _ => (dg_name 6 sc_x_law_long_rule.nd)) (fun _ _ _ _ _ => dts_nil) (fun _ _ _ _ _ => (de_op od_mod (de_callTy cd_int T.b_int bt_int (da_cons (de_ix (de_var 0) (de_op od_add (de_op od_add (de_var 1) de_int) (de_var 6))) da_nil)) (de_var 2)))) da_nil)))
  (dss_cons (ds_if (DW.dt (dw_and (dt_cmp (od_eq hr) (de_var 4) de_int) (dw_and (dt_cmp od_gt (de_ix (de_var 5) de_int) de_int) (dw_and1 (dt_cmp (od_eq hr) (de_op od_mod (de_callTy cd_int T.b_int bt_int (da_cons (de_ix (de_var 0) (de_op od_add (de_var 1) de_int)) da_nil)) de_int) de_int))))) (dss_one (ds_ret (de_tup (da_cons (de_var 5) (da_cons (de_tup (da_cons (de_op od_mod (de_callTy cd_int T.b_int bt_int (da_cons (de_ix (de_var 0) (de_op od_add (de_var 1) de_int)) da_nil)) (de_ix (de_var 5) de_int)) da_nil)) da_nil))))) dss_nil)
  (dss_one (ds_ret (de_tup (da_cons (de_var 5) (da_cons (de_callTy cd_tuple T.b_tuple bt_tuple (da_cons (de_lc [("k", 6)] rfl sc_x_law_long_rule.nd (di_rng1 (de_op od_mod (de_callTy cd_int T.b_int bt_int (da_cons (de_ix (de_var 0) (de_op od_add (de_var 1) de_int)) da_nil)) (de_var 4)) T.b_range) (blkOk_by (N := ns_x_law_long_rule) (sc := defScope s_x_law_long_rule) (own := [("k", 6)]) (by decide +kernel)) (fun _ _ _ _ _ => (dg_name 6 sc_x_law_long_rule.nd)) (fun _ _ _ _ _ => dts_nil) (fun _ _ _ _ _ => (de_op od_mod (de_callTy cd_int T.b_int bt_int (da_cons (de_ix (de_var 0) (de_op od_add (de_op od_add (de_var 1) de_int) (de_var 6))) da_nil)) (de_var 2)))) da_nil)) da_nil))))))))
abbrev s_x_law_long_table : Stmt := topS 29
abbrev ns_x_law_long_table : List Str := ["row", "at", "signs", "most", "rules", "k"]
theorem sc_x_law_long_table : FnScope ns_x_law_long_table ["row", "at", "signs", "most", "rules"] (defScope s_x_law_long_table) := ⟨rfl, rfl, rfl, by decide +kernel, rfl, by decide +kernel, by decide +kernel⟩
theorem ok_x_law_long_table (h : Df K mg "_law_long_table" s_x_law_long_table ["row", "at", "signs", "most", "rules"]) (T : @Bt K mg C_AnychainError C_BadLetter C_BadStep C_Confused C_Endless C_InvalidBook C_InvalidMachine C_InvalidNet C_InvalidSeal C_InvalidTranslator C_Mismatch C_NoHistory C_NotSettling C_TooLong C_UnknownName) (c_x_law_long_rule : Cal TL P w K mg base "_law_long_rule" ["row", "at", "signs", "most"] 1 F_x_law_long_rule) : Cal TL P w K mg base "_law_long_table" ["row", "at", "signs", "most", "rules"] 2 F_x_law_long_table :=
  Df.cal (k := 1) h sc_x_law_long_table fun f cdv A outer s H E hr =>
  (dss_one (ds_ret (de_callTy cd_tuple T.b_tuple bt_tuple (da_cons (de_lc [("k", 5)] rfl sc_x_law_long_table.nd (di_rng1 (de_op od_mod (de_callTy cd_int T.b_int bt_int (da_cons (de_ix (de_var 0) (de_var 1)) da_nil)) (de_op od_add (de_var 4) de_int)) T.b_range) (blkOk_by (N := ns_x_law_long_table) (sc := defScope s_x_law_long_table) (own := [("k", 5)]) (by decide +kernel)) (fun _ _ _ _ _ => (dg_name 5 sc_x_law_long_table.nd)) (fun _ _ _ _ _ => dts_nil) (fun _ _ _ _ _ => (de_fn c_x_law_long_rule (hr.mono (by decide)) (da_cons (de_var 0) (da_cons (de_op od_add (de_op od_add (de_var 1) de_int) (de_op od_mul de_int (de_var 5))) (da_cons (de_var 2) (da_cons (de_var 3) da_nil))))))) da_nil))))
abbrev s_x_law_one_kind : Stmt := topS 30
abbrev ns_x_law_one_kind : List Str := ["error", "kinds"]
theorem sc_x_law_one_kind : FnScope ns_x_law_one_kind ["error"] (defScope s_x_law_one_kind) := ⟨rfl, rfl, rfl, by decide +kernel, rfl, by decide +kernel, by decide +kernel⟩
theorem ok_x_law_one_kind (h : Df K mg "_law_one_kind" s_x_law_one_kind ["error"]) (T : @Bt K mg C_AnychainError C_BadLetter C_BadStep C_Confused C_Endless C_InvalidBook C_InvalidMachine C_InvalidNet C_InvalidSeal C_InvalidTranslator C_Mismatch C_NoHistory C_NotSettling C_TooLong C_UnknownName) : CalE TL P w K mg base "_law_one_kind" ["error"] 1 C_InvalidSeal F_x_law_one_kind :=
  Df.calE (k := 0) h sc_x_law_one_kind "InvalidSeal" fun f cdv A outer s H a oe hr hz hf =>
  (dss_cons (ds_set 1 sc_x_law_one_kind.nd (de_lst (da_cons (de_isE 0 T.ec_InvalidSeal hz hf T.b_isinstance (.own T.g_InvalidBook) T.kt_InvalidSeal_InvalidBook) (da_cons (de_isE 0 T.ec_InvalidSeal hz hf T.b_isinstance (.own T.g_BadStep) T.kt_InvalidSeal_BadStep) (da_cons (de_isE 0 T.ec_InvalidSeal hz hf T.b_isinstance (.own T.g_InvalidMachine) T.kt_InvalidSeal_InvalidMachine) (da_cons (de_isE 0 T.ec_InvalidSeal hz hf T.b_isinstance (.own T.g_InvalidNet) T.kt_InvalidSeal_InvalidNet) (da_cons (de_isE 0 T.ec_InvalidSeal hz hf T.b_isinstance (.own T.g_InvalidTranslator) T.kt_InvalidSeal_InvalidTranslator) (da_cons (de_isE 0 T.ec_InvalidSeal hz hf T.b_isinstance (.own T.g_InvalidSeal) T.kt_InvalidSeal_InvalidSeal) (da_cons (de_isE 0 T.ec_InvalidSeal hz hf T.b_isinstance (.own T.g_Mismatch) T.kt_InvalidSeal_Mismatch) (da_cons (de_isE 0 T.ec_InvalidSeal hz hf T.b_isinstance (.own T.g_TooLong) T.kt_InvalidSeal_TooLong) (da_cons (de_isE 0 T.ec_InvalidSeal hz hf T.b_isinstance (.own T.g_Confused) T.kt_InvalidSeal_Confused) (da_cons (de_isE 0 T.ec_InvalidSeal hz hf T.b_isinstance (.own T.g_NotSettling) T.kt_InvalidSeal_NotSettling) (da_cons (de_isE 0 T.ec_InvalidSeal hz hf T.b_isinstance (.own T.g_Endless) T.kt_InvalidSeal_Endless) (da_cons (de_isE 0 T.ec_InvalidSeal hz hf T.b_isinstance (.own T.g_BadLetter) T.kt_InvalidSeal_BadLetter) (da_cons (de_isE 0 T.ec_InvalidSeal hz hf T.b_isinstance (.own T.g_UnknownName) T.kt_InvalidSeal_UnknownName) (da_cons (de_isE 0 T.ec_InvalidSeal hz hf T.b_isinstance (.own T.g_NoHistory) T.kt_InvalidSeal_NoHistory) da_nil))))))))))))))))
  (dss_one (ds_ret (de_and (de_isE 0 T.ec_InvalidSeal hz hf T.b_isinstance (.own T.g_AnychainError) T.kt_InvalidSeal_AnychainError) (de_and (de_isE 0 T.ec_InvalidSeal hz hf T.b_isinstance (.blt T.b_ValueError (by decide +kernel)) T.kt_InvalidSeal_ValueError) (de_one (de_cmp (od_eqU (rmU hr :)) (de_cntB 1 true) de_int)))))))
abbrev s_x_law_bad_rule : Stmt := topS 31
abbrev ns_x_law_bad_rule : List Str := ["row", "at", "signs", "rule", "kind", "left", "short", "first", "greater", "wrong", "spoilt", "k"]
theorem sc_x_law_bad_rule : FnScope ns_x_law_bad_rule ["row", "at", "signs", "rule"] (defScope s_x_law_bad_rule) := ⟨rfl, rfl, rfl, by decide +kernel, rfl, by decide +kernel, by decide +kernel⟩
theorem ok_x_law_bad_rule (h : Df K mg "_law_bad_rule" s_x_law_bad_rule ["row", "at", "signs", "rule"]) (T : @Bt K mg C_AnychainError C_BadLetter C_BadStep C_Confused C_Endless C_InvalidBook C_InvalidMachine C_InvalidNet C_InvalidSeal C_InvalidTranslator C_Mismatch C_NoHistory C_NotSettling C_TooLong C_UnknownName) : Cal TL P w K mg base "_law_bad_rule" ["row", "at", "signs", "rule"] 1 F_x_law_bad_rule :=
  Df.cal (k := 0) h sc_x_law_bad_rule fun f cdv A outer s H E hr =>
  (dss_cons (ds_set 4 sc_x_law_bad_rule.nd (de_op od_mod (de_callTy cd_int T.b_int bt_int (da_cons (de_ix (de_var 0) (de_var 1)) da_nil)) de_int))
  (dss_cons (ds_set 5 sc_x_law_bad_rule.nd (de_callTy cd_tuple T.b_tuple bt_tuple (da_cons (de_lc [("k", 11)] rfl sc_x_law_bad_rule.nd (di_rng1 de_int T.b_range) (blkOk_by (N := ns_x_law_bad_rule) (sc := defScope s_x_law_bad_rule) (own := [("k", 11)]) (by decide +kernel)) (fun _ _ _ _ _ => (dg_name 11 sc_x_law_bad_rule.nd)) (fun _ _ _ _ _ => dts_nil) (fun _ _ _ _ _ => (de_op od_mod (de_callTy cd_int T.b_int bt_int (da_cons (de_ix (de_var 0) (de_op od_add (de_op od_add (de_var 1) de_int) (de_var 11))) da_nil)) (de_var 2)))) da_nil)))
  (dss_cons (ds_set 6 sc_x_law_bad_rule.nd (de_sl (de_var 5) do_none (do_some (de_op od_add de_int (de_op od_mod (de_callTy cd_int T.b_int bt_int (da_cons (de_ix (de_var 0) (de_op od_add (de_var 1) de_int)) da_nil)) de_int)))))
  (dss_cons (ds_set 7 sc_x_law_bad_rule.nd (de_ix (de_var 5) de_int))
  (dss_cons (ds_if (dt_cmp (od_eq hr) (de_var 4) de_int) (dss_one (ds_ret (de_ix (de_lst (da_cons de_non (da_cons de_int (da_cons de_str (da_cons de_str (da_cons (de_tup da_nil) (da_cons (de_tup (da_cons (de_var 6) da_nil)) da_nil))))))) (de_op od_mod (de_callTy cd_int T.b_int bt_int (da_cons (de_ix (de_var 0) (de_op od_add (de_var 1) de_int)) da_nil)) de_int)))) dss_nil)
  (dss_cons (ds_set 8 sc_x_law_bad_rule.nd (de_op od_add (de_var 7) (de_op od_mod (de_callTy cd_int T.b_int bt_int (da_cons (de_ix (de_var 0) (de_op od_add (de_var 1) de_int)) da_nil)) (de_op od_sub (de_var 2) (de_var 7)))))
  (dss_cons (ds_set 9 sc_x_law_bad_rule.nd (de_ix (de_lst (da_cons (de_neg de_int) (da_cons (de_var 2) (da_cons de_bl (da_cons de_str da_nil))))) (de_op od_mod (de_callTy cd_int T.b_int bt_int (da_cons (de_ix (de_var 0) (de_op od_add (de_var 1) de_int)) da_nil)) de_int)))
  (dss_cons (ds_set 10 sc_x_law_bad_rule.nd (de_lst (da_cons (de_tup (da_cons (de_var 6) (da_cons (de_rev (de_var 6)) da_nil))) (da_cons (de_tup (da_cons (de_tup (da_cons (de_var 7) da_nil)) (da_cons (de_tup (da_cons (de_var 8) da_nil)) da_nil))) (da_cons (de_tup (da_cons (de_var 5) (da_cons (de_tup da_nil) da_nil))) (da_cons (de_tup (da_cons (de_tup da_nil) (da_cons (de_tup da_nil) da_nil))) (da_cons (de_tup (da_cons (de_op od_add (de_sl (de_var 6) (do_some de_int) do_none) (de_tup (da_cons (de_ix (de_lst (da_cons (de_var 2) (da_cons (de_neg de_int) da_nil))) (de_op od_mod (de_callTy cd_int T.b_int bt_int (da_cons (de_ix (de_var 0) (de_op od_add (de_var 1) de_int)) da_nil)) de_int)) da_nil))) (da_cons (de_tup da_nil) da_nil))) (da_cons (de_tup (da_cons (de_op od_add (de_sl (de_var 6) do_none (do_some de_int)) (de_tup (da_cons (de_var 7) da_nil))) (da_cons (de_tup (da_cons (de_var 9) da_nil)) da_nil))) (da_cons (de_tup (da_cons (de_op od_add (de_sl (de_var 6) (do_some de_int) do_none) (de_tup (da_cons de_bl da_nil))) (da_cons (de_tup da_nil) da_nil))) (da_cons (de_tup (da_cons (de_op od_add (de_sl (de_var 6) (do_some de_int) do_none) (de_tup (da_cons de_str da_nil))) (da_cons (de_tup da_nil) da_nil))) (da_cons (de_tup (da_cons (de_var 6) (da_cons (de_op od_add (de_var 6) (de_tup (da_cons (de_var 7) da_nil))) da_nil))) (da_cons (de_callTy cd_list T.b_list bt_list (da_cons (de_var 3) da_nil)) (da_cons (de_op od_add (de_var 3) (de_tup (da_cons (de_tup da_nil) da_nil))) (da_cons (de_tup (da_cons (de_callTy cd_list T.b_list bt_list (da_cons (de_ix (de_var 3) de_int) da_nil)) (da_cons (de_ix (de_var 3) de_int) da_nil))) (da_cons (de_tup (da_cons (de_ix (de_var 3) de_int) (da_cons (de_callTy cd_list T.b_list bt_list (da_cons (de_ix (de_var 3) de_int) da_nil)) da_nil))) da_nil)))))))))))))))
  (dss_one (ds_ret (de_ix (de_var 10) (de_var 4))))))))))))
abbrev s_x_law_bad_table : Stmt := topS 32
abbrev ns_x_law_bad_table : List Str := ["row", "at", "signs", "table", "kind", "rule", "place", "k"]
theorem sc_x_law_bad_table : FnScope ns_x_law_bad_table ["row", "at", "signs", "table"] (defScope s_x_law_bad_table) := ⟨rfl, rfl, rfl, by decide +kernel, rfl, by decide +kernel, by decide +kernel⟩
theorem ok_x_law_bad_table (h : Df K mg "_law_bad_table" s_x_law_bad_table ["row", "at", "signs", "table"]) (T : @Bt K mg C_AnychainError C_BadLetter C_BadStep C_Confused C_Endless C_InvalidBook C_InvalidMachine C_InvalidNet C_InvalidSeal C_InvalidTranslator C_Mismatch C_NoHistory C_NotSettling C_TooLong C_UnknownName) (c_x_law_bad_rule : Cal TL P w K mg base "_law_bad_rule" ["row", "at", "signs", "rule"] 1 F_x_law_bad_rule) : Cal TL P w K mg base "_law_bad_table" ["row", "at", "signs", "table"] 2 F_x_law_bad_table :=
  Df.cal (k := 1) h sc_x_law_bad_table fun f cdv A outer s H E hr =>
  (dss_cons (ds_set 4 sc_x_law_bad_table.nd (de_op od_mod (de_callTy cd_int T.b_int bt_int (da_cons (de_ix (de_var 0) (de_var 1)) da_nil)) de_int))
  (dss_cons (ds_set 5 sc_x_law_bad_table.nd (de_tup (da_cons (de_tup (da_cons de_int da_nil)) (da_cons (de_tup da_nil) da_nil))))
  (dss_cons (ds_if (dt_cmp od_gt (de_callB cd_len T.b_len bt_len (da_cons (de_var 3) da_nil)) de_int) (dss_one (ds_set 5 sc_x_law_bad_table.nd (de_ix (de_var 3) (de_op od_mod (de_callTy cd_int T.b_int bt_int (da_cons (de_ix (de_var 0) (de_op od_add (de_var 1) de_int)) da_nil)) (de_callB cd_len T.b_len bt_len (da_cons (de_var 3) da_nil)))))) dss_nil)
  (dss_cons (ds_if (dt_cmp (od_eq hr) (de_var 4) de_int) (dss_one (ds_ret (de_callTy cd_list T.b_list bt_list (da_cons (de_var 3) da_nil)))) dss_nil)
  (dss_cons (ds_if (dt_cmp (od_eq hr) (de_var 4) de_int) (dss_one (ds_ret (de_ix (de_lst (da_cons de_non (da_cons de_int (da_cons de_bl (da_cons de_str (da_cons de_str (da_cons de_dct0 da_nil))))))) (de_op od_mod (de_callTy cd_int T.b_int bt_int (da_cons (de_ix (de_var 0) (de_op od_add (de_var 1) de_int)) da_nil)) de_int)))) dss_nil)
  (dss_cons (ds_if (dt_cmp (od_eq hr) (de_var 4) de_int) (dss_one (ds_ret (de_sl (de_op od_add (de_var 3) (de_callTy cd_tuple T.b_tuple bt_tuple (da_cons (de_lc [("k", 7)] rfl sc_x_law_bad_table.nd (di_rng1 de_int T.b_range) (blkOk_by (N := ns_x_law_bad_table) (sc := defScope s_x_law_bad_table) (own := [("k", 7)]) (by decide +kernel)) (fun _ _ _ _ _ => (dg_name 7 sc_x_law_bad_table.nd)) (fun _ _ _ _ _ => dts_nil) (fun _ _ _ _ _ => (de_var 5))) da_nil))) do_none (do_some de_int)))) dss_nil)
  (dss_cons (ds_set 6 sc_x_law_bad_table.nd (de_op od_mod (de_callTy cd_int T.b_int bt_int (da_cons (de_ix (de_var 0) (de_op od_add (de_var 1) de_int)) da_nil)) (de_callB (cd_max rfl) T.b_max bt_max (da_cons de_int (da_cons (de_callB cd_len T.b_len bt_len (da_cons (de_var 3) da_nil)) da_nil)))))
  (dss_one (ds_ret (de_op od_add (de_op od_add (de_sl (de_var 3) do_none (do_some (de_var 6))) (de_tup (da_cons (de_fn c_x_law_bad_rule (hr.mono (by decide)) (da_cons (de_var 0) (da_cons (de_op od_add (de_var 1) de_int) (da_cons (de_var 2) (da_cons (de_var 5) da_nil))))) da_nil))) (de_sl (de_var 3) (do_some (de_op od_add (de_var 6) de_int)) do_none)))))))))))
abbrev s_x_law_let : Stmt := topS 33
abbrev ns_x_law_let : List Str := ["signs", "table", "answer"]
theorem sc_x_law_let : FnScope ns_x_law_let ["signs", "table"] (defScope s_x_law_let) := ⟨rfl, rfl, rfl, by decide +kernel, rfl, by decide +kernel, by decide +kernel⟩
theorem ok_x_law_let (h : Df K mg "_law_let" s_x_law_let ["signs", "table"]) (T : @Bt K mg C_AnychainError C_BadLetter C_BadStep C_Confused C_Endless C_InvalidBook C_InvalidMachine C_InvalidNet C_InvalidSeal C_InvalidTranslator C_Mismatch C_NoHistory C_NotSettling C_TooLong C_UnknownName) (c_x_check_seal_table : CalX TL P w K mg base "check_seal_table" ["signs", "table"] 7 F_x_check_seal_table) : Cal TL P w K mg base "_law_let" ["signs", "table"] 8 F_x_law_let :=
  Df.cal (k := 7) h sc_x_law_let fun f cdv A outer s H E hr =>
  (dss_cons (ds_try0 T.ex_AnychainError takes0 rfl (fun W pn xe tk hp => (dss_one (ds_setX 2 sc_x_law_let.nd (de_fnX c_x_check_seal_table (hr.mono (by decide)) tk rfl (da_cons (de_var 0) (da_cons (de_var 1) da_nil)))))) (fun a oe pn hz hf => (dss_one (ds_ret de_bl))))
  (dss_one (ds_ret (de_cmp od_is (de_var 2) de_non))))
abbrev s_x_law_refused : Stmt := topS 34
abbrev ns_x_law_refused : List Str := ["signs", "table", "e"]
theorem sc_x_law_refused : FnScope ns_x_law_refused ["signs", "table"] (defScope s_x_law_refused) := ⟨rfl, rfl, rfl, by decide +kernel, rfl, by decide +kernel, by decide +kernel⟩
theorem ok_x_law_refused (h : Df K mg "_law_refused" s_x_law_refused ["signs", "table"]) (T : @Bt K mg C_AnychainError C_BadLetter C_BadStep C_Confused C_Endless C_InvalidBook C_InvalidMachine C_InvalidNet C_InvalidSeal C_InvalidTranslator C_Mismatch C_NoHistory C_NotSettling C_TooLong C_UnknownName) (c_x_check_seal_table : CalX TL P w K mg base "check_seal_table" ["signs", "table"] 7 F_x_check_seal_table) (c_x_law_one_kind : CalE TL P w K mg base "_law_one_kind" ["error"] 1 C_InvalidSeal F_x_law_one_kind) : Cal TL P w K mg base "_law_refused" ["signs", "table"] 8 F_x_law_refused :=
  Df.cal (k := 7) h sc_x_law_refused fun f cdv A outer s H E hr =>
  (dss_cons (ds_try 2 T.ex_InvalidSeal takes0 rfl sc_x_law_refused.nd (fun W pn xe tk hp => (dss_one (ds_exprX (de_fnX c_x_check_seal_table (hr.mono (by decide)) tk rfl (da_cons (de_var 0) (da_cons (de_var 1) da_nil)))))) (fun a oe pn hz hf => (dss_one (ds_ret (de_callE 2 c_x_law_one_kind (L2H.roomH_of (hr.mono (by decide))) hz hf)))))
  (dss_one (ds_ret de_bl)))
abbrev s_x_law : Stmt := topS 35
abbrev ns_x_law : List Str := ["script", "row", "signs", "table"]
theorem sc_x_law : FnScope ns_x_law ["script"] (defScope s_x_law) := ⟨rfl, rfl, rfl, by decide +kernel, rfl, by decide +kernel, by decide +kernel⟩
end
end DL

set_option Elab.async false
set_option linter.all false
set_option maxRecDepth 100000
set_option maxHeartbeats 4000000
namespace DL
open PySem L2 DL PySem.W SrtO
theorem law_true (ns : List Int) (hns : ns.length ≤ 63) : F_x_law [.scr ns] = some (.val (.bl true)) := by
  obtain ⟨r, er, hr⟩ := f_row ns 184 (by omega)
  have hl := hr.1
  have er : F_x_law_row [.scr ns, .int 184] = some (.own (eL r)) := er
  obtain ⟨s, hs⟩ : ∃ s : Nat, (s : Int) = 1 + cell r 0 % 30 := ⟨(1 + cell r 0 % 30).toNat, by omega⟩
  have s0 : 0 < s := by omega
  obtain ⟨T, e1, hT, tl⟩ := f_long_table hr (p := 6) (s := s) (m := 6) (t := 12) (by omega) (by omega) (by omega) s0 (by omega) (by omega)
  have e1 : F_x_law_long_table [eL r, .int 6, .int s, .int 6, .int 12] = some (.val (eTab T)) := e1
  have hT1 : ∀ q ∈ T, OkR s q := fun q hq => (hT q hq).1
  have fl := f_let hT1 tl
  obtain ⟨ro, e2, e3⟩ := f_bad_table hr (by omega) s0 hT1 tl
  have fr := f_refused e3
  have rd : ro.back.d = ro.d := by cases ro <;> rfl
  obtain ⟨U, hU⟩ : ∃ U, U = eTab T := ⟨_, rfl⟩
  have pU : pu U = true := by rw [hU]; simp
  rw [← hU] at e1 fl e2
  obtain ⟨Rb, hRb⟩ : ∃ x, x = ro.back := ⟨_, rfl⟩
  rw [← hRb] at rd
  have e2 : (F_x_law_bad_table [eL r, .int 165, .int s, U]).map R.back = some Rb := by rw [e2, hRb]; rfl
  obtain ⟨dd, hdd⟩ : ∃ d, d = ro.d := ⟨_, rfl⟩
  rw [← hdd] at fr rd
  by_cases h : 0 < cell r 1 % 3
  · unfold F_x_law G_x_law
    rw [ev_run]
    unfold startD
    simp -implicitDefEqProofs (disch := first | omega | simp) [ev_store, er, ixb, ← hs, e1, pU, fl, h, e2, rd, fr]
  · unfold F_x_law G_x_law
    rw [ev_run]
    unfold startD
    simp -implicitDefEqProofs (disch := first | omega | simp) [ev_store, er, ixb, ← hs, e1, pU, fl, h]
end DL

set_option Elab.async false
set_option linter.all false
set_option maxRecDepth 100000
set_option maxHeartbeats 4000000
namespace DL
open PySem PySem.Spec PyProof.Rows L2 DL
section
variable {P : Program} {w : World} {K : PySem.W.Frag} {mg : Str → Option Value} {base : Heap} {TL : List Addr} {C_AnychainError C_BadLetter C_BadStep C_Confused C_Endless C_InvalidBook C_InvalidMachine C_InvalidNet C_InvalidSeal C_InvalidTranslator C_Mismatch C_NoHistory C_NotSettling C_TooLong C_UnknownName : Addr}
theorem ok_law_fn {f : Addr} {fd : FuncData} (h : Fun K "law" "law" s_x_law f fd) (T : @Bt K mg C_AnychainError C_BadLetter C_BadStep C_Confused C_Endless C_InvalidBook C_InvalidMachine C_InvalidNet C_InvalidSeal C_InvalidTranslator C_Mismatch C_NoHistory C_NotSettling C_TooLong C_UnknownName) (c_x_law_row : Cal TL P w K mg base "_law_row" ["script", "many"] 2 F_x_law_row) (c_x_law_long_table : Cal TL P w K mg base "_law_long_table" ["row", "at", "signs", "most", "rules"] 2 F_x_law_long_table) (c_x_law_let : Cal TL P w K mg base "_law_let" ["signs", "table"] 8 F_x_law_let) (c_x_law_refused : Cal TL P w K mg base "_law_refused" ["signs", "table"] 8 F_x_law_refused) (c_x_law_bad_table : Cal TL P w K mg base "_law_bad_table" ["row", "at", "signs", "table"] 2 F_x_law_bad_table) : FnOk P w K mg base CX0 9 f fd ["script"] (spF TL (kf K w) 1 F_x_law) :=
  fn_d (k := 8) h sc_x_law fun cdv A outer s H E hr =>
  (dss_cons (ds_set 1 sc_x_law.nd (de_fn c_x_law_row (hr.mono (by decide)) (da_cons (de_var 0) (da_cons de_int da_nil))))
  (dss_cons (ds_set 2 sc_x_law.nd (de_op od_add de_int (de_op od_mod (de_callTy cd_int T.b_int bt_int (da_cons (de_ix (de_var 1) de_int) da_nil)) de_int)))
  (dss_cons (ds_set 3 sc_x_law.nd (de_fn c_x_law_long_table (hr.mono (by decide)) (da_cons (de_var 1) (da_cons de_int (da_cons (de_var 2) (da_cons de_int (da_cons de_int da_nil)))))))
  (dss_cons (ds_if (dt_not (dt_tru (de_fn c_x_law_let (hr.mono (by decide)) (da_cons (de_var 2) (da_cons (de_var 3) da_nil))))) (dss_one (ds_ret de_bl)) dss_nil)
  (dss_cons (ds_if (DW.dt (dw_and (dt_cmp od_gt (de_op od_mod (de_callTy cd_int T.b_int bt_int (da_cons (de_ix (de_var 1) de_int) da_nil)) de_int) de_int) (dw_and1 (dt_not (dt_tru (de_fn c_x_law_refused (hr.mono (by decide)) (da_cons (de_var 2) (da_cons (de_fn c_x_law_bad_table (hr.mono (by decide)) (da_cons (de_var 1) (da_cons de_int (da_cons (de_var 2) (da_cons (de_var 3) da_nil))))) da_nil)))))))) (dss_one (ds_ret de_bl)) dss_nil)
  (dss_one (ds_ret (de_fn c_x_law_let (hr.mono (by decide)) (da_cons (de_var 2) (da_cons (de_var 3) da_nil))))))))))
end
end DL
namespace DL
open PySem PySem.Spec PyProof.Rows L2 DL
theorem all_mk {l : PySem.W.OpenLaw} {w : World} {K : PySem.W.Frag} {h : Heap} {mg : Str → Option Value} {fa : Addr} (X : K.In h) (G : h.Ns mainGlobals mg) (hfa : mg "law" = some (.ref fa)) (own : ∀ y ∈ (["is_word", "check_seal_table"] : List Str), ∀ f, mg y = some (.ref f) → LamX.OwnTab K f h)
    {f0 : Addr} {od0 an0 : Option Addr} {sl0 : Array (Option Value)} {oc0 kV0 dc0 pm0 cd0 ct0 : Value}
    (a0 : PySem.W.nsIn K mainGlobals "is_integer" = some (some (.ref f0))) (l0 : K.lookup f0 = some ⟨oc0, od0, .func (PySem.W.fnOf "is_integer" "is_integer" (defArgs s_x_is_integer) (defBody s_x_is_integer) (defScope s_x_is_integer) .none kV0 dc0 pm0 an0 cd0 ct0), sl0⟩) (c0 : PySem.W.codeIn K cd0 "is_integer" = true) (k0 : PySem.W.keepIn K (.ref f0) = true)
    {f1 : Addr} {od1 an1 : Option Addr} {sl1 : Array (Option Value)} {oc1 kV1 dc1 pm1 cd1 ct1 : Value}
    (a1 : PySem.W.nsIn K mainGlobals "is_sign" = some (some (.ref f1))) (l1 : K.lookup f1 = some ⟨oc1, od1, .func (PySem.W.fnOf "is_sign" "is_sign" (defArgs s_x_is_sign) (defBody s_x_is_sign) (defScope s_x_is_sign) .none kV1 dc1 pm1 an1 cd1 ct1), sl1⟩) (c1 : PySem.W.codeIn K cd1 "is_sign" = true) (k1 : PySem.W.keepIn K (.ref f1) = true)
    {f2 : Addr} {od2 an2 : Option Addr} {sl2 : Array (Option Value)} {oc2 kV2 dc2 pm2 ct2 : Value} {cd2 P2 : Addr}
    (a2 : PySem.W.nsIn K mainGlobals "is_word" = some (some (.ref f2))) (l2 : K.lookup f2 = some ⟨oc2, od2, .func (PySem.W.fnOf "is_word" "is_word" (defArgs s_x_is_word) (defBody s_x_is_word) (defScope s_x_is_word) .none kV2 dc2 pm2 an2 (.ref cd2) ct2), sl2⟩) (c2 : PySem.W.codeIn K (.ref cd2) "is_word" = true) (k2 : PySem.W.keepIn K (.ref f2) = true)
    {ox2 : Value} {dx2 : Option Addr} {vs2 : Array Value} {sx2 : Array (Option Value)} (m2 : K.lookup cd2 = some ⟨ox2, dx2, .fields vs2, sx2⟩) (n2 : vs2[11]? = some (.ref P2)) (q2 : PySem.W.codeHdIn K cd2 P2 = true) (p2 : K.lookup P2 = none)
    {f3 : Addr} {od3 an3 : Option Addr} {sl3 : Array (Option Value)} {oc3 kV3 dc3 pm3 cd3 ct3 : Value}
    (a3 : PySem.W.nsIn K mainGlobals "is_seal_rule" = some (some (.ref f3))) (l3 : K.lookup f3 = some ⟨oc3, od3, .func (PySem.W.fnOf "is_seal_rule" "is_seal_rule" (defArgs s_x_is_seal_rule) (defBody s_x_is_seal_rule) (defScope s_x_is_seal_rule) .none kV3 dc3 pm3 an3 cd3 ct3), sl3⟩) (c3 : PySem.W.codeIn K cd3 "is_seal_rule" = true) (k3 : PySem.W.keepIn K (.ref f3) = true)
    {f4 : Addr} {od4 an4 : Option Addr} {sl4 : Array (Option Value)} {oc4 kV4 dc4 pm4 ct4 : Value} {cd4 P4 : Addr}
    (a4 : PySem.W.nsIn K mainGlobals "check_seal_table" = some (some (.ref f4))) (l4 : K.lookup f4 = some ⟨oc4, od4, .func (PySem.W.fnOf "check_seal_table" "check_seal_table" (defArgs s_x_check_seal_table) (defBody s_x_check_seal_table) (defScope s_x_check_seal_table) .none kV4 dc4 pm4 an4 (.ref cd4) ct4), sl4⟩) (c4 : PySem.W.codeIn K (.ref cd4) "check_seal_table" = true) (k4 : PySem.W.keepIn K (.ref f4) = true)
    {ox4 : Value} {dx4 : Option Addr} {vs4 : Array Value} {sx4 : Array (Option Value)} (m4 : K.lookup cd4 = some ⟨ox4, dx4, .fields vs4, sx4⟩) (n4 : vs4[11]? = some (.ref P4)) (q4 : PySem.W.codeHdIn K cd4 P4 = true) (p4 : K.lookup P4 = none)
    {f5 : Addr} {od5 an5 : Option Addr} {sl5 : Array (Option Value)} {oc5 kV5 dc5 pm5 cd5 ct5 : Value}
    (a5 : PySem.W.nsIn K mainGlobals "_law_mixed" = some (some (.ref f5))) (l5 : K.lookup f5 = some ⟨oc5, od5, .func (PySem.W.fnOf "_law_mixed" "_law_mixed" (defArgs s_x_law_mixed) (defBody s_x_law_mixed) (defScope s_x_law_mixed) .none kV5 dc5 pm5 an5 cd5 ct5), sl5⟩) (c5 : PySem.W.codeIn K cd5 "_law_mixed" = true) (k5 : PySem.W.keepIn K (.ref f5) = true)
    {f6 : Addr} {od6 an6 : Option Addr} {sl6 : Array (Option Value)} {oc6 kV6 dc6 pm6 cd6 ct6 : Value}
    (a6 : PySem.W.nsIn K mainGlobals "_law_row" = some (some (.ref f6))) (l6 : K.lookup f6 = some ⟨oc6, od6, .func (PySem.W.fnOf "_law_row" "_law_row" (defArgs s_x_law_row) (defBody s_x_law_row) (defScope s_x_law_row) .none kV6 dc6 pm6 an6 cd6 ct6), sl6⟩) (c6 : PySem.W.codeIn K cd6 "_law_row" = true) (k6 : PySem.W.keepIn K (.ref f6) = true)
    {f7 : Addr} {od7 an7 : Option Addr} {sl7 : Array (Option Value)} {oc7 kV7 dc7 pm7 cd7 ct7 : Value}
    (a7 : PySem.W.nsIn K mainGlobals "_law_long_rule" = some (some (.ref f7))) (l7 : K.lookup f7 = some ⟨oc7, od7, .func (PySem.W.fnOf "_law_long_rule" "_law_long_rule" (defArgs s_x_law_long_rule) (defBody s_x_law_long_rule) (defScope s_x_law_long_rule) .none kV7 dc7 pm7 an7 cd7 ct7), sl7⟩) (c7 : PySem.W.codeIn K cd7 "_law_long_rule" = true) (k7 : PySem.W.keepIn K (.ref f7) = true)
    {f8 : Addr} {od8 an8 : Option Addr} {sl8 : Array (Option Value)} {oc8 kV8 dc8 pm8 cd8 ct8 : Value}
    (a8 : PySem.W.nsIn K mainGlobals "_law_long_table" = some (some (.ref f8))) (l8 : K.lookup f8 = some ⟨oc8, od8, .func (PySem.W.fnOf "_law_long_table" "_law_long_table" (defArgs s_x_law_long_table) (defBody s_x_law_long_table) (defScope s_x_law_long_table) .none kV8 dc8 pm8 an8 cd8 ct8), sl8⟩) (c8 : PySem.W.codeIn K cd8 "_law_long_table" = true) (k8 : PySem.W.keepIn K (.ref f8) = true)
    {f9 : Addr} {od9 an9 : Option Addr} {sl9 : Array (Option Value)} {oc9 kV9 dc9 pm9 cd9 ct9 : Value}
    (a9 : PySem.W.nsIn K mainGlobals "_law_one_kind" = some (some (.ref f9))) (l9 : K.lookup f9 = some ⟨oc9, od9, .func (PySem.W.fnOf "_law_one_kind" "_law_one_kind" (defArgs s_x_law_one_kind) (defBody s_x_law_one_kind) (defScope s_x_law_one_kind) .none kV9 dc9 pm9 an9 cd9 ct9), sl9⟩) (c9 : PySem.W.codeIn K cd9 "_law_one_kind" = true) (k9 : PySem.W.keepIn K (.ref f9) = true)
    {f10 : Addr} {od10 an10 : Option Addr} {sl10 : Array (Option Value)} {oc10 kV10 dc10 pm10 cd10 ct10 : Value}
    (a10 : PySem.W.nsIn K mainGlobals "_law_bad_rule" = some (some (.ref f10))) (l10 : K.lookup f10 = some ⟨oc10, od10, .func (PySem.W.fnOf "_law_bad_rule" "_law_bad_rule" (defArgs s_x_law_bad_rule) (defBody s_x_law_bad_rule) (defScope s_x_law_bad_rule) .none kV10 dc10 pm10 an10 cd10 ct10), sl10⟩) (c10 : PySem.W.codeIn K cd10 "_law_bad_rule" = true) (k10 : PySem.W.keepIn K (.ref f10) = true)
    {f11 : Addr} {od11 an11 : Option Addr} {sl11 : Array (Option Value)} {oc11 kV11 dc11 pm11 cd11 ct11 : Value}
    (a11 : PySem.W.nsIn K mainGlobals "_law_bad_table" = some (some (.ref f11))) (l11 : K.lookup f11 = some ⟨oc11, od11, .func (PySem.W.fnOf "_law_bad_table" "_law_bad_table" (defArgs s_x_law_bad_table) (defBody s_x_law_bad_table) (defScope s_x_law_bad_table) .none kV11 dc11 pm11 an11 cd11 ct11), sl11⟩) (c11 : PySem.W.codeIn K cd11 "_law_bad_table" = true) (k11 : PySem.W.keepIn K (.ref f11) = true)
    {f12 : Addr} {od12 an12 : Option Addr} {sl12 : Array (Option Value)} {oc12 kV12 dc12 pm12 cd12 ct12 : Value}
    (a12 : PySem.W.nsIn K mainGlobals "_law_let" = some (some (.ref f12))) (l12 : K.lookup f12 = some ⟨oc12, od12, .func (PySem.W.fnOf "_law_let" "_law_let" (defArgs s_x_law_let) (defBody s_x_law_let) (defScope s_x_law_let) .none kV12 dc12 pm12 an12 cd12 ct12), sl12⟩) (c12 : PySem.W.codeIn K cd12 "_law_let" = true) (k12 : PySem.W.keepIn K (.ref f12) = true)
    {f13 : Addr} {od13 an13 : Option Addr} {sl13 : Array (Option Value)} {oc13 kV13 dc13 pm13 cd13 ct13 : Value}
    (a13 : PySem.W.nsIn K mainGlobals "_law_refused" = some (some (.ref f13))) (l13 : K.lookup f13 = some ⟨oc13, od13, .func (PySem.W.fnOf "_law_refused" "_law_refused" (defArgs s_x_law_refused) (defBody s_x_law_refused) (defScope s_x_law_refused) .none kV13 dc13 pm13 an13 cd13 ct13), sl13⟩) (c13 : PySem.W.codeIn K cd13 "_law_refused" = true) (k13 : PySem.W.keepIn K (.ref f13) = true)
    {f14 : Addr} {od14 an14 : Option Addr} {sl14 : Array (Option Value)} {oc14 kV14 dc14 pm14 cd14 ct14 : Value}
    (a14 : PySem.W.nsIn K mainGlobals "law" = some (some (.ref f14))) (l14 : K.lookup f14 = some ⟨oc14, od14, .func (PySem.W.fnOf "law" "law" (defArgs s_x_law) (defBody s_x_law) (defScope s_x_law) .none kV14 dc14 pm14 an14 cd14 ct14), sl14⟩) (c14 : PySem.W.codeIn K cd14 "law" = true) (k14 : PySem.W.keepIn K (.ref f14) = true)
    (z_ValueError : PySem.W.nsIn K mainGlobals "ValueError" = some none)
    (z_all : PySem.W.nsIn K mainGlobals "all" = some none)
    (z_bool : PySem.W.nsIn K mainGlobals "bool" = some none)
    (z_int : PySem.W.nsIn K mainGlobals "int" = some none)
    (z_isinstance : PySem.W.nsIn K mainGlobals "isinstance" = some none)
    (z_len : PySem.W.nsIn K mainGlobals "len" = some none)
    (z_list : PySem.W.nsIn K mainGlobals "list" = some none)
    (z_max : PySem.W.nsIn K mainGlobals "max" = some none)
    (z_range : PySem.W.nsIn K mainGlobals "range" = some none)
    (z_tuple : PySem.W.nsIn K mainGlobals "tuple" = some none)
    {t_MOST_SEAL_LEFT : Tok} (g_MOST_SEAL_LEFT : PySem.W.nsIn K mainGlobals "MOST_SEAL_LEFT" = some (some (.int (6) t_MOST_SEAL_LEFT)))
    {t_MOST_SEAL_RULES : Tok} (g_MOST_SEAL_RULES : PySem.W.nsIn K mainGlobals "MOST_SEAL_RULES" = some (some (.int (12) t_MOST_SEAL_RULES)))
    {C_AnychainError : Addr} (y_AnychainError : PySem.W.nsIn K mainGlobals "AnychainError" = some (some (.ref C_AnychainError)))
    {C_BadLetter : Addr} (y_BadLetter : PySem.W.nsIn K mainGlobals "BadLetter" = some (some (.ref C_BadLetter)))
    {C_BadStep : Addr} (y_BadStep : PySem.W.nsIn K mainGlobals "BadStep" = some (some (.ref C_BadStep)))
    {C_Confused : Addr} (y_Confused : PySem.W.nsIn K mainGlobals "Confused" = some (some (.ref C_Confused)))
    {C_Endless : Addr} (y_Endless : PySem.W.nsIn K mainGlobals "Endless" = some (some (.ref C_Endless)))
    {C_InvalidBook : Addr} (y_InvalidBook : PySem.W.nsIn K mainGlobals "InvalidBook" = some (some (.ref C_InvalidBook)))
    {C_InvalidMachine : Addr} (y_InvalidMachine : PySem.W.nsIn K mainGlobals "InvalidMachine" = some (some (.ref C_InvalidMachine)))
    {C_InvalidNet : Addr} (y_InvalidNet : PySem.W.nsIn K mainGlobals "InvalidNet" = some (some (.ref C_InvalidNet)))
    {C_InvalidSeal : Addr} (y_InvalidSeal : PySem.W.nsIn K mainGlobals "InvalidSeal" = some (some (.ref C_InvalidSeal)))
    {C_InvalidTranslator : Addr} (y_InvalidTranslator : PySem.W.nsIn K mainGlobals "InvalidTranslator" = some (some (.ref C_InvalidTranslator)))
    {C_Mismatch : Addr} (y_Mismatch : PySem.W.nsIn K mainGlobals "Mismatch" = some (some (.ref C_Mismatch)))
    {C_NoHistory : Addr} (y_NoHistory : PySem.W.nsIn K mainGlobals "NoHistory" = some (some (.ref C_NoHistory)))
    {C_NotSettling : Addr} (y_NotSettling : PySem.W.nsIn K mainGlobals "NotSettling" = some (some (.ref C_NotSettling)))
    {C_TooLong : Addr} (y_TooLong : PySem.W.nsIn K mainGlobals "TooLong" = some (some (.ref C_TooLong)))
    {C_UnknownName : Addr} (y_UnknownName : PySem.W.nsIn K mainGlobals "UnknownName" = some (some (.ref C_UnknownName)))
    (ex_AnychainError : PySem.W.excIn K C_AnychainError VT "ValueError.__new__" = true)
    (kp_AnychainError : PySem.W.keepIn K (.ref C_AnychainError) = true)
    (sb_AnychainError : PySem.W.subIn K (.ref C_AnychainError) (.type "BaseException") = some true)
    (ty_AnychainError : PySem.W.typeIn K (.ref C_AnychainError) = some (.type "type"))
    (se_AnychainError : PySem.W.exmOne K (.ref C_AnychainError) (.ref C_AnychainError) = some true)
    (hg_AnychainError : PySem.W.findIn K (.ref C_AnychainError) "__getattribute__" = some (some (.builtin "BaseException.__getattribute__")))
    (hk_AnychainError : PySem.W.findIn K (.ref C_AnychainError) "__getattr__" = some none)
    (hd_AnychainError : PySem.W.hasDictIn K C_AnychainError = true)
    (ha_AnychainError : PySem.W.findIn K (.ref C_AnychainError) "__class__" = some (some (.builtin "object.__class__")))
    (hm_AnychainError : PySem.W.mroIn K C_AnychainError (.type "object") = some true)
    (ex_InvalidSeal : PySem.W.excIn K C_InvalidSeal VT "ValueError.__new__" = true)
    (kp_InvalidSeal : PySem.W.keepIn K (.ref C_InvalidSeal) = true)
    (sb_InvalidSeal : PySem.W.subIn K (.ref C_InvalidSeal) (.type "BaseException") = some true)
    (ty_InvalidSeal : PySem.W.typeIn K (.ref C_InvalidSeal) = some (.type "type"))
    (se_InvalidSeal : PySem.W.exmOne K (.ref C_InvalidSeal) (.ref C_InvalidSeal) = some true)
    (hg_InvalidSeal : PySem.W.findIn K (.ref C_InvalidSeal) "__getattribute__" = some (some (.builtin "BaseException.__getattribute__")))
    (hk_InvalidSeal : PySem.W.findIn K (.ref C_InvalidSeal) "__getattr__" = some none)
    (hd_InvalidSeal : PySem.W.hasDictIn K C_InvalidSeal = true)
    (ha_InvalidSeal : PySem.W.findIn K (.ref C_InvalidSeal) "__class__" = some (some (.builtin "object.__class__")))
    (hm_InvalidSeal : PySem.W.mroIn K C_InvalidSeal (.type "object") = some true)
    (hn : PySem.W.specialIn K (.builtin "object.__class__") "__get__" = some (some (.builtin "getset_descriptor.__get__"))) (ht : PySem.W.takesIn K (.builtin "object.__class__") = some true)
    (kt_InvalidSeal_AnychainError : PySem.W.kitOne K (.ref C_InvalidSeal) (.ref C_AnychainError) = some true)
    (kt_InvalidSeal_BadLetter : PySem.W.kitOne K (.ref C_InvalidSeal) (.ref C_BadLetter) = some false)
    (kt_InvalidSeal_BadStep : PySem.W.kitOne K (.ref C_InvalidSeal) (.ref C_BadStep) = some false)
    (kt_InvalidSeal_Confused : PySem.W.kitOne K (.ref C_InvalidSeal) (.ref C_Confused) = some false)
    (kt_InvalidSeal_Endless : PySem.W.kitOne K (.ref C_InvalidSeal) (.ref C_Endless) = some false)
    (kt_InvalidSeal_InvalidBook : PySem.W.kitOne K (.ref C_InvalidSeal) (.ref C_InvalidBook) = some false)
    (kt_InvalidSeal_InvalidMachine : PySem.W.kitOne K (.ref C_InvalidSeal) (.ref C_InvalidMachine) = some false)
    (kt_InvalidSeal_InvalidNet : PySem.W.kitOne K (.ref C_InvalidSeal) (.ref C_InvalidNet) = some false)
    (kt_InvalidSeal_InvalidSeal : PySem.W.kitOne K (.ref C_InvalidSeal) (.ref C_InvalidSeal) = some true)
    (kt_InvalidSeal_InvalidTranslator : PySem.W.kitOne K (.ref C_InvalidSeal) (.ref C_InvalidTranslator) = some false)
    (kt_InvalidSeal_Mismatch : PySem.W.kitOne K (.ref C_InvalidSeal) (.ref C_Mismatch) = some false)
    (kt_InvalidSeal_NoHistory : PySem.W.kitOne K (.ref C_InvalidSeal) (.ref C_NoHistory) = some false)
    (kt_InvalidSeal_NotSettling : PySem.W.kitOne K (.ref C_InvalidSeal) (.ref C_NotSettling) = some false)
    (kt_InvalidSeal_TooLong : PySem.W.kitOne K (.ref C_InvalidSeal) (.ref C_TooLong) = some false)
    (kt_InvalidSeal_UnknownName : PySem.W.kitOne K (.ref C_InvalidSeal) (.ref C_UnknownName) = some false)
    (kt_InvalidSeal_ValueError : PySem.W.kitOne K (.ref C_InvalidSeal) (.type "ValueError") = some true)
    (hF : ∀ ns : List Int, ns.length ≤ 63 → F_x_law [.scr ns] = some (.val (.bl true))) : LamX.LawAtS l w K CX0 9 63 "script" mg fa h := by
  have g_AnychainError := PySem.W.mg_of X G y_AnychainError
  have g_BadLetter := PySem.W.mg_of X G y_BadLetter
  have g_BadStep := PySem.W.mg_of X G y_BadStep
  have g_Confused := PySem.W.mg_of X G y_Confused
  have g_Endless := PySem.W.mg_of X G y_Endless
  have g_InvalidBook := PySem.W.mg_of X G y_InvalidBook
  have g_InvalidMachine := PySem.W.mg_of X G y_InvalidMachine
  have g_InvalidNet := PySem.W.mg_of X G y_InvalidNet
  have g_InvalidSeal := PySem.W.mg_of X G y_InvalidSeal
  have g_InvalidTranslator := PySem.W.mg_of X G y_InvalidTranslator
  have g_Mismatch := PySem.W.mg_of X G y_Mismatch
  have g_NoHistory := PySem.W.mg_of X G y_NoHistory
  have g_NotSettling := PySem.W.mg_of X G y_NotSettling
  have g_TooLong := PySem.W.mg_of X G y_TooLong
  have g_UnknownName := PySem.W.mg_of X G y_UnknownName
  have T : @Bt K mg C_AnychainError C_BadLetter C_BadStep C_Confused C_Endless C_InvalidBook C_InvalidMachine C_InvalidNet C_InvalidSeal C_InvalidTranslator C_Mismatch C_NoHistory C_NotSettling C_TooLong C_UnknownName := ⟨PySem.W.mg_none_of X G z_ValueError, PySem.W.mg_none_of X G z_all, PySem.W.mg_none_of X G z_bool, PySem.W.mg_none_of X G z_int, PySem.W.mg_none_of X G z_isinstance, PySem.W.mg_none_of X G z_len, PySem.W.mg_none_of X G z_list, PySem.W.mg_none_of X G z_max, PySem.W.mg_none_of X G z_range, PySem.W.mg_none_of X G z_tuple, ⟨_, PySem.W.mg_of X G g_MOST_SEAL_LEFT⟩, ⟨_, PySem.W.mg_of X G g_MOST_SEAL_RULES⟩, g_AnychainError, g_BadLetter, g_BadStep, g_Confused, g_Endless, g_InvalidBook, g_InvalidMachine, g_InvalidNet, g_InvalidSeal, g_InvalidTranslator, g_Mismatch, g_NoHistory, g_NotSettling, g_TooLong, g_UnknownName, ⟨g_AnychainError, ex_AnychainError, kp_AnychainError, sb_AnychainError, ty_AnychainError, se_AnychainError⟩, ⟨hg_AnychainError, hk_AnychainError, sb_AnychainError, hd_AnychainError, ha_AnychainError, hn, ht, hm_AnychainError⟩, ⟨g_InvalidSeal, ex_InvalidSeal, kp_InvalidSeal, sb_InvalidSeal, ty_InvalidSeal, se_InvalidSeal⟩, ⟨hg_InvalidSeal, hk_InvalidSeal, sb_InvalidSeal, hd_InvalidSeal, ha_InvalidSeal, hn, ht, hm_InvalidSeal⟩, kt_InvalidSeal_AnychainError, kt_InvalidSeal_BadLetter, kt_InvalidSeal_BadStep, kt_InvalidSeal_Confused, kt_InvalidSeal_Endless, kt_InvalidSeal_InvalidBook, kt_InvalidSeal_InvalidMachine, kt_InvalidSeal_InvalidNet, kt_InvalidSeal_InvalidSeal, kt_InvalidSeal_InvalidTranslator, kt_InvalidSeal_Mismatch, kt_InvalidSeal_NoHistory, kt_InvalidSeal_NotSettling, kt_InvalidSeal_TooLong, kt_InvalidSeal_UnknownName, kt_InvalidSeal_ValueError⟩
  have D0 : Df K mg "is_integer" s_x_is_integer ["value"] := Df.mk' X G a0 l0 c0 k0 fun _ _ _ _ _ _ us hl => match us, hl with | [_], _ => rfl
  have D1 : Df K mg "is_sign" s_x_is_sign ["value", "signs"] := Df.mk' X G a1 l1 c1 k1 fun _ _ _ _ _ _ us hl => match us, hl with | [_, _], _ => rfl
  have D2 : DfT K mg "is_word" s_x_is_word ["value", "signs"] cd2 := DfT.mk' X G a2 l2 c2 k2 fun _ _ _ _ _ _ us hl => match us, hl with | [_, _], _ => rfl
  have D3 : Df K mg "is_seal_rule" s_x_is_seal_rule ["rule", "signs"] := Df.mk' X G a3 l3 c3 k3 fun _ _ _ _ _ _ us hl => match us, hl with | [_, _], _ => rfl
  have D4 : DfT K mg "check_seal_table" s_x_check_seal_table ["signs", "table"] cd4 := DfT.mk' X G a4 l4 c4 k4 fun _ _ _ _ _ _ us hl => match us, hl with | [_, _], _ => rfl
  have D5 : Df K mg "_law_mixed" s_x_law_mixed ["script", "k"] := Df.mk' X G a5 l5 c5 k5 fun _ _ _ _ _ _ us hl => match us, hl with | [_, _], _ => rfl
  have D6 : Df K mg "_law_row" s_x_law_row ["script", "many"] := Df.mk' X G a6 l6 c6 k6 fun _ _ _ _ _ _ us hl => match us, hl with | [_, _], _ => rfl
  have D7 : Df K mg "_law_long_rule" s_x_law_long_rule ["row", "at", "signs", "most"] := Df.mk' X G a7 l7 c7 k7 fun _ _ _ _ _ _ us hl => match us, hl with | [_, _, _, _], _ => rfl
  have D8 : Df K mg "_law_long_table" s_x_law_long_table ["row", "at", "signs", "most", "rules"] := Df.mk' X G a8 l8 c8 k8 fun _ _ _ _ _ _ us hl => match us, hl with | [_, _, _, _, _], _ => rfl
  have D9 : Df K mg "_law_one_kind" s_x_law_one_kind ["error"] := Df.mk' X G a9 l9 c9 k9 fun _ _ _ _ _ _ us hl => match us, hl with | [_], _ => rfl
  have D10 : Df K mg "_law_bad_rule" s_x_law_bad_rule ["row", "at", "signs", "rule"] := Df.mk' X G a10 l10 c10 k10 fun _ _ _ _ _ _ us hl => match us, hl with | [_, _, _, _], _ => rfl
  have D11 : Df K mg "_law_bad_table" s_x_law_bad_table ["row", "at", "signs", "table"] := Df.mk' X G a11 l11 c11 k11 fun _ _ _ _ _ _ us hl => match us, hl with | [_, _, _, _], _ => rfl
  have D12 : Df K mg "_law_let" s_x_law_let ["signs", "table"] := Df.mk' X G a12 l12 c12 k12 fun _ _ _ _ _ _ us hl => match us, hl with | [_, _], _ => rfl
  have D13 : Df K mg "_law_refused" s_x_law_refused ["signs", "table"] := Df.mk' X G a13 l13 c13 k13 fun _ _ _ _ _ _ us hl => match us, hl with | [_, _], _ => rfl
  have e := hfa.symm.trans (PySem.W.mg_of X G a14)
  cases e
  refine law_at (fd := PySem.W.fnOf "law" "law" (defArgs s_x_law) (defBody s_x_law) (defScope s_x_law) .none kV14 dc14 pm14 an14 cd14 ct14) [(cd2, P2), (cd4, P4)] (List.forall_mem_cons.mpr ⟨tab_free (own _ (by simp) _ (PySem.W.mg_of X G a2)) l2 rfl rfl q2, (List.forall_mem_cons.mpr ⟨tab_free (own _ (by simp) _ (PySem.W.mg_of X G a4)) l4 rfl rfl q4, (fun _ z => by cases z)⟩)⟩) (List.forall_mem_cons.mpr ⟨p2, (List.forall_mem_cons.mpr ⟨p4, (fun _ z => by cases z)⟩)⟩) (List.forall_mem_cons.mpr ⟨q2, (List.forall_mem_cons.mpr ⟨q4, (fun _ z => by cases z)⟩)⟩) X (fun s v => .of_eq rfl) (fun base tabs => ?_) hF
  have b2 := tabs (cd2, P2) (by simp)
  have b4 := tabs (cd4, P4) (by simp)
  have C0 := ok_x_is_integer (P := l.prog) (w := w) (base := base) (TL := ([(cd2, P2), (cd4, P4)] : List (Addr × Addr)).map (·.2)) D0 T
  have C1 := ok_x_is_sign (P := l.prog) (w := w) (base := base) (TL := ([(cd2, P2), (cd4, P4)] : List (Addr × Addr)).map (·.2)) D1 T C0
  have C2 := ok_x_is_word (P := l.prog) (w := w) (base := base) (TL := ([(cd2, P2), (cd4, P4)] : List (Addr × Addr)).map (·.2)) D2 b2 (by simp) T C1
  have C3 := ok_x_is_seal_rule (P := l.prog) (w := w) (base := base) (TL := ([(cd2, P2), (cd4, P4)] : List (Addr × Addr)).map (·.2)) D3 T C2
  have C4 := ok_x_check_seal_table (P := l.prog) (w := w) (base := base) (TL := ([(cd2, P2), (cd4, P4)] : List (Addr × Addr)).map (·.2)) D4 b4 (by simp) T C3
  have C5 := ok_x_law_mixed (P := l.prog) (w := w) (base := base) (TL := ([(cd2, P2), (cd4, P4)] : List (Addr × Addr)).map (·.2)) D5 T
  have C6 := ok_x_law_row (P := l.prog) (w := w) (base := base) (TL := ([(cd2, P2), (cd4, P4)] : List (Addr × Addr)).map (·.2)) D6 T C5
  have C7 := ok_x_law_long_rule (P := l.prog) (w := w) (base := base) (TL := ([(cd2, P2), (cd4, P4)] : List (Addr × Addr)).map (·.2)) D7 T
  have C8 := ok_x_law_long_table (P := l.prog) (w := w) (base := base) (TL := ([(cd2, P2), (cd4, P4)] : List (Addr × Addr)).map (·.2)) D8 T C7
  have C9 := ok_x_law_one_kind (P := l.prog) (w := w) (base := base) (TL := ([(cd2, P2), (cd4, P4)] : List (Addr × Addr)).map (·.2)) D9 T
  have C10 := ok_x_law_bad_rule (P := l.prog) (w := w) (base := base) (TL := ([(cd2, P2), (cd4, P4)] : List (Addr × Addr)).map (·.2)) D10 T
  have C11 := ok_x_law_bad_table (P := l.prog) (w := w) (base := base) (TL := ([(cd2, P2), (cd4, P4)] : List (Addr × Addr)).map (·.2)) D11 T C10
  have C12 := ok_x_law_let (P := l.prog) (w := w) (base := base) (TL := ([(cd2, P2), (cd4, P4)] : List (Addr × Addr)).map (·.2)) D12 T C4
  have C13 := ok_x_law_refused (P := l.prog) (w := w) (base := base) (TL := ([(cd2, P2), (cd4, P4)] : List (Addr × Addr)).map (·.2)) D13 T C4 C9
  exact ok_law_fn (P := l.prog) (w := w) (base := base) (fun_mk l14 c14 k14) T C6 C8 C12 C13 C11
end DL
open PySem PySem.W PyProof.Rows in
set_option maxRecDepth 100000 in
set_option maxHeartbeats 0 in
theorem PySem.Challenge.cw_anychain_k69_check_seal_table_holds : PySem.Challenge.rw_anychain_k69_check_seal_table.Holds := by
  w_on; o_law; k_head; (case hw => w_witness2)
  k_fill
  refine DL.walk_tabs (k := 9) (names := ["is_word", "check_seal_table"]) rfl rfl ⟨rfl, by decide, by decide⟩ (by decide +kernel) (fun w h Y => PySem.W.kIn_of Y) ?F
  case F =>
    intro w mg fa h KX G hmg own
    refine' DL.all_mk KX G hmg own ?a0 ?l0 ?c0 ?k0 ?a1 ?l1 ?c1 ?k1 ?a2 ?l2 ?c2 ?k2 ?m2 ?n2 ?q2 ?p2 ?a3 ?l3 ?c3 ?k3 ?a4 ?l4 ?c4 ?k4 ?m4 ?n4 ?q4 ?p4 ?a5 ?l5 ?c5 ?k5 ?a6 ?l6 ?c6 ?k6 ?a7 ?l7 ?c7 ?k7 ?a8 ?l8 ?c8 ?k8 ?a9 ?l9 ?c9 ?k9 ?a10 ?l10 ?c10 ?k10 ?a11 ?l11 ?c11 ?k11 ?a12 ?l12 ?c12 ?k12 ?a13 ?l13 ?c13 ?k13 ?a14 ?l14 ?c14 ?k14 ?z_ValueError ?z_all ?z_bool ?z_int ?z_isinstance ?z_len ?z_list ?z_max ?z_range ?z_tuple ?g_MOST_SEAL_LEFT ?g_MOST_SEAL_RULES ?y_AnychainError ?y_BadLetter ?y_BadStep ?y_Confused ?y_Endless ?y_InvalidBook ?y_InvalidMachine ?y_InvalidNet ?y_InvalidSeal ?y_InvalidTranslator ?y_Mismatch ?y_NoHistory ?y_NotSettling ?y_TooLong ?y_UnknownName ?ex_AnychainError ?kp_AnychainError ?sb_AnychainError ?ty_AnychainError ?se_AnychainError ?hg_AnychainError ?hk_AnychainError ?hd_AnychainError ?ha_AnychainError ?hm_AnychainError ?ex_InvalidSeal ?kp_InvalidSeal ?sb_InvalidSeal ?ty_InvalidSeal ?se_InvalidSeal ?hg_InvalidSeal ?hk_InvalidSeal ?hd_InvalidSeal ?ha_InvalidSeal ?hm_InvalidSeal ?hn ?ht ?kt_InvalidSeal_AnychainError ?kt_InvalidSeal_BadLetter ?kt_InvalidSeal_BadStep ?kt_InvalidSeal_Confused ?kt_InvalidSeal_Endless ?kt_InvalidSeal_InvalidBook ?kt_InvalidSeal_InvalidMachine ?kt_InvalidSeal_InvalidNet ?kt_InvalidSeal_InvalidSeal ?kt_InvalidSeal_InvalidTranslator ?kt_InvalidSeal_Mismatch ?kt_InvalidSeal_NoHistory ?kt_InvalidSeal_NotSettling ?kt_InvalidSeal_TooLong ?kt_InvalidSeal_UnknownName ?kt_InvalidSeal_ValueError DL.law_true
    (case a0 => k_is)
    (case l0 => k_is)
    (case c0 => k_is)
    (case k0 => k_is)
    (case a1 => k_is)
    (case l1 => k_is)
    (case c1 => k_is)
    (case k1 => k_is)
    (case a2 => k_is)
    (case l2 => k_is)
    (case c2 => k_is)
    (case k2 => k_is)
    (case m2 => k_is)
    (case n2 => rfl)
    (case q2 => kernel_rfl)
    (case p2 => kernel_rfl)
    (case a3 => k_is)
    (case l3 => k_is)
    (case c3 => k_is)
    (case k3 => k_is)
    (case a4 => k_is)
    (case l4 => k_is)
    (case c4 => k_is)
    (case k4 => k_is)
    (case m4 => k_is)
    (case n4 => rfl)
    (case q4 => kernel_rfl)
    (case p4 => kernel_rfl)
    (case a5 => k_is)
    (case l5 => k_is)
    (case c5 => k_is)
    (case k5 => k_is)
    (case a6 => k_is)
    (case l6 => k_is)
    (case c6 => k_is)
    (case k6 => k_is)
    (case a7 => k_is)
    (case l7 => k_is)
    (case c7 => k_is)
    (case k7 => k_is)
    (case a8 => k_is)
    (case l8 => k_is)
    (case c8 => k_is)
    (case k8 => k_is)
    (case a9 => k_is)
    (case l9 => k_is)
    (case c9 => k_is)
    (case k9 => k_is)
    (case a10 => k_is)
    (case l10 => k_is)
    (case c10 => k_is)
    (case k10 => k_is)
    (case a11 => k_is)
    (case l11 => k_is)
    (case c11 => k_is)
    (case k11 => k_is)
    (case a12 => k_is)
    (case l12 => k_is)
    (case c12 => k_is)
    (case k12 => k_is)
    (case a13 => k_is)
    (case l13 => k_is)
    (case c13 => k_is)
    (case k13 => k_is)
    (case a14 => k_is)
    (case l14 => k_is)
    (case c14 => k_is)
    (case k14 => k_is)
    (case z_ValueError => k_is)
    (case z_all => k_is)
    (case z_bool => k_is)
    (case z_int => k_is)
    (case z_isinstance => k_is)
    (case z_len => k_is)
    (case z_list => k_is)
    (case z_max => k_is)
    (case z_range => k_is)
    (case z_tuple => k_is)
    (case g_MOST_SEAL_LEFT => k_is)
    (case g_MOST_SEAL_RULES => k_is)
    (case y_AnychainError => k_is)
    (case y_BadLetter => k_is)
    (case y_BadStep => k_is)
    (case y_Confused => k_is)
    (case y_Endless => k_is)
    (case y_InvalidBook => k_is)
    (case y_InvalidMachine => k_is)
    (case y_InvalidNet => k_is)
    (case y_InvalidSeal => k_is)
    (case y_InvalidTranslator => k_is)
    (case y_Mismatch => k_is)
    (case y_NoHistory => k_is)
    (case y_NotSettling => k_is)
    (case y_TooLong => k_is)
    (case y_UnknownName => k_is)
    (case ex_AnychainError => k_exc)
    (case kp_AnychainError => k_is)
    (case sb_AnychainError => k_is)
    (case ty_AnychainError => k_is)
    (case se_AnychainError => kernel_rfl)
    (case hg_AnychainError => k_is)
    (case hk_AnychainError => k_is)
    (case hd_AnychainError => k_is)
    (case ha_AnychainError => k_is)
    (case hm_AnychainError => k_is)
    (case ex_InvalidSeal => k_exc)
    (case kp_InvalidSeal => k_is)
    (case sb_InvalidSeal => k_is)
    (case ty_InvalidSeal => k_is)
    (case se_InvalidSeal => kernel_rfl)
    (case hg_InvalidSeal => k_is)
    (case hk_InvalidSeal => k_is)
    (case hd_InvalidSeal => k_is)
    (case ha_InvalidSeal => k_is)
    (case hm_InvalidSeal => k_is)
    (case hn => k_is)
    (case ht => k_is)
    (case kt_InvalidSeal_AnychainError => kernel_rfl)
    (case kt_InvalidSeal_BadLetter => kernel_rfl)
    (case kt_InvalidSeal_BadStep => kernel_rfl)
    (case kt_InvalidSeal_Confused => kernel_rfl)
    (case kt_InvalidSeal_Endless => kernel_rfl)
    (case kt_InvalidSeal_InvalidBook => kernel_rfl)
    (case kt_InvalidSeal_InvalidMachine => kernel_rfl)
    (case kt_InvalidSeal_InvalidNet => kernel_rfl)
    (case kt_InvalidSeal_InvalidSeal => kernel_rfl)
    (case kt_InvalidSeal_InvalidTranslator => kernel_rfl)
    (case kt_InvalidSeal_Mismatch => kernel_rfl)
    (case kt_InvalidSeal_NoHistory => kernel_rfl)
    (case kt_InvalidSeal_NotSettling => kernel_rfl)
    (case kt_InvalidSeal_TooLong => kernel_rfl)
    (case kt_InvalidSeal_UnknownName => kernel_rfl)
    (case kt_InvalidSeal_ValueError => kernel_rfl)

