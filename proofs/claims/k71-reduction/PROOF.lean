import PyProof.Rows.All
import Wide.All
import OpenK.AllK
import Wide.FinOn
import HandS.ForMost
import HandS.Flow
import HandS.IsInst
import HandS.TupAny
import HandS.SortInts
import HandS.Conv
import HandS.Zip
import KE.GoesEnum
import PySem.Challenge.RW_anychain_k71_reduction
set_option Elab.async false
set_option linter.all false
set_option maxRecDepth 100000
set_option maxHeartbeats 4000000
/-! D1: plain data D, how the abstract heap bears it, states by slot. -/
namespace DL
open PySem PySem.Spec PyProof.Rows L2

inductive D where
  | non | bl (b : Bool) | int (i : Int) | str (x : Str) | tup (ds : List D) | lst (ds : List D)
  /-- the script: ints, read alone -/
  | scr (ns : List Int)

mutual
/-- the value v is the datum -/
def Rp (K : PySem.W.Frag) (H : Hp) : D → V → Prop
  | .non, v => v = V.non
  | .bl b, v => v = V.bl b
  | .int i, v => v = V.int i
  | .str x, v => v = V.str x
  | .tup ds, v => ∃ (a : Addr) (xs : List V), v = V.ref a ∧ SqT K H a xs ∧ RpL K H ds xs
  | .lst ds, v => ∃ (a : Addr) (xs : List V), v = V.ref a ∧ H a = some (.lst xs) ∧ RpL K H ds xs
  | .scr ns, v => ∃ a : Addr, v = V.ref a ∧ SqL K H a (ns.map V.int)
def RpL (K : PySem.W.Frag) (H : Hp) : List D → List V → Prop
  | [], xs => xs = []
  | d :: ds, xs => ∃ (x : V) (ys : List V), xs = x :: ys ∧ Rp K H d x ∧ RpL K H ds ys
end
mutual
/-- no list within -/
def pu : D → Bool
  | .non => true
  | .bl _ => true
  | .int _ => true
  | .str _ => true
  | .tup ds => puL ds
  | .lst _ => false
  | .scr _ => false
def puL : List D → Bool
  | [] => true
  | d :: ds => pu d && puL ds
end
mutual
/-- the value v is the datum; its lists stand at φ and may be written -/
def Ow (K : PySem.W.Frag) (H : Hp) : D → V → List Addr → Prop
  | .non, v, φ => v = V.non ∧ φ = []
  | .bl b, v, φ => v = V.bl b ∧ φ = []
  | .int i, v, φ => v = V.int i ∧ φ = []
  | .str x, v, φ => v = V.str x ∧ φ = []
  | .tup ds, v, φ => ∃ (a : Addr) (xs : List V), v = V.ref a ∧ SqT K H a xs ∧ OwL K H ds xs φ
  | .lst ds, v, φ => ∃ (a : Addr) (xs : List V) (ψ : List Addr), v = V.ref a ∧ H a = some (.lst xs) ∧ OwL K H ds xs ψ ∧ φ = a :: ψ
  | .scr _, _, _ => False
def OwL (K : PySem.W.Frag) (H : Hp) : List D → List V → List Addr → Prop
  | [], xs, φ => xs = [] ∧ φ = []
  | d :: ds, xs, φ => ∃ (x : V) (ys : List V) (φ1 φ2 : List Addr), xs = x :: ys ∧ Ow K H d x φ1 ∧ OwL K H ds ys φ2 ∧ φ = φ1 ++ φ2
end

section
variable {K : PySem.W.Frag} {H H' : Hp}
theorem Same.seqT {a : Addr} {xs : List V} (e : Same H H') (h : SqT K H a xs) : SqT K H' a xs := by
  rcases h with (h | ⟨o, h⟩) | h
  · exact .inl (.inl (e _ _ h))
  · exact .inl (.inr ⟨o, e _ _ h⟩)
  · exact .inr h
/-- what is read off tuples alone stays -/
def TK (H H' : Hp) : Prop := ∀ a o, H a = some o → (∀ xs, o ≠ .lst xs) → H' a = some o
theorem TK.seqT {a : Addr} {xs : List V} (e : TK H H') (h : SqT K H a xs) : SqT K H' a xs := by
  rcases h with (h | ⟨o, h⟩) | h
  · exact .inl (.inl (e _ _ h (fun _ z => by cases z)))
  · exact .inl (.inr ⟨o, e _ _ h (fun _ z => by cases z)⟩)
  · exact .inr h
theorem TK.of (e : Same H H') : TK H H' := fun a o h _ => e a o h
theorem TK.trans {H1 H2 H3 : Hp} (a : TK H1 H2) (b : TK H2 H3) : TK H1 H3 := fun x o h n => b x o (a x o h n) n
mutual
theorem Rp.mono (e : Same H H') : ∀ (d : D) (v : V), Rp K H d v → Rp K H' d v
  | .non, _, h => by unfold Rp at h ⊢; exact h
  | .bl _, _, h => by unfold Rp at h ⊢; exact h
  | .int _, _, h => by unfold Rp at h ⊢; exact h
  | .str _, _, h => by unfold Rp at h ⊢; exact h
  | .tup ds, _, h => by
    unfold Rp at h ⊢
    obtain ⟨a, xs, e1, q, r⟩ := h
    exact ⟨a, xs, e1, Same.seqT e q, RpL.mono e ds xs r⟩
  | .lst ds, _, h => by
    unfold Rp at h ⊢
    obtain ⟨a, xs, e1, q, r⟩ := h
    exact ⟨a, xs, e1, e _ _ q, RpL.mono e ds xs r⟩
  | .scr ns, _, h => by
    unfold Rp at h ⊢
    obtain ⟨a, e1, q⟩ := h
    exact ⟨a, e1, Same.seq e q⟩
theorem RpL.mono (e : Same H H') : ∀ (ds : List D) (vs : List V), RpL K H ds vs → RpL K H' ds vs
  | [], _, h => by unfold RpL at h ⊢; exact h
  | d :: ds, _, h => by
    unfold RpL at h ⊢
    obtain ⟨x, ys, e1, q, r⟩ := h
    exact ⟨x, ys, e1, Rp.mono e d x q, RpL.mono e ds ys r⟩
end
mutual
theorem Rp.tk (e : TK H H') : ∀ (d : D) (v : V), pu d = true → Rp K H d v → Rp K H' d v
  | .non, _, _, h => by unfold Rp at h ⊢; exact h
  | .bl _, _, _, h => by unfold Rp at h ⊢; exact h
  | .int _, _, _, h => by unfold Rp at h ⊢; exact h
  | .str _, _, _, h => by unfold Rp at h ⊢; exact h
  | .tup ds, _, p, h => by
    unfold Rp at h ⊢
    unfold pu at p
    obtain ⟨a, xs, e1, q, r⟩ := h
    exact ⟨a, xs, e1, TK.seqT e q, RpL.tk e ds xs p r⟩
  | .lst ds, _, p, h => by
    unfold pu at p
    cases p
  | .scr ds, _, p, h => by
    unfold pu at p
    cases p
theorem RpL.tk (e : TK H H') : ∀ (ds : List D) (vs : List V), puL ds = true → RpL K H ds vs → RpL K H' ds vs
  | [], _, _, h => by unfold RpL at h ⊢; exact h
  | d :: ds, _, p, h => by
    unfold RpL at h ⊢
    unfold puL at p
    rw [Bool.and_eq_true] at p
    obtain ⟨x, ys, e1, q, r⟩ := h
    exact ⟨x, ys, e1, Rp.tk e d x p.1 q, RpL.tk e ds ys p.2 r⟩
end
mutual
theorem Ow.rp : ∀ (d : D) (v : V) (φ : List Addr), Ow K H d v φ → Rp K H d v
  | .non, _, _, h => by unfold Ow at h; unfold Rp; exact h.1
  | .bl _, _, _, h => by unfold Ow at h; unfold Rp; exact h.1
  | .int _, _, _, h => by unfold Ow at h; unfold Rp; exact h.1
  | .str _, _, _, h => by unfold Ow at h; unfold Rp; exact h.1
  | .tup ds, _, φ, h => by
    unfold Ow at h; unfold Rp
    obtain ⟨a, xs, e1, q, r⟩ := h
    exact ⟨a, xs, e1, q, OwL.rp ds xs φ r⟩
  | .lst ds, _, _, h => by
    unfold Ow at h; unfold Rp
    obtain ⟨a, xs, ψ, e1, q, r, _⟩ := h
    exact ⟨a, xs, e1, q, OwL.rp ds xs ψ r⟩
  | .scr _, _, _, h => by unfold Ow at h; exact h.elim
theorem OwL.rp : ∀ (ds : List D) (vs : List V) (φ : List Addr), OwL K H ds vs φ → RpL K H ds vs
  | [], _, _, h => by unfold OwL at h; unfold RpL; exact h.1
  | d :: ds, _, _, h => by
    unfold OwL at h; unfold RpL
    obtain ⟨x, ys, φ1, φ2, e1, q, r, _⟩ := h
    exact ⟨x, ys, e1, Ow.rp d x φ1 q, OwL.rp ds ys φ2 r⟩
end
mutual
/-- the lists of a datum of our own are tracked -/
theorem Ow.trk : ∀ (d : D) (v : V) (φ : List Addr), Ow K H d v φ → ∀ a ∈ φ, ∃ xs, H a = some (.lst xs)
  | .non, _, _, h => by unfold Ow at h; rw [h.2]; exact fun a z => by cases z
  | .bl _, _, _, h => by unfold Ow at h; rw [h.2]; exact fun a z => by cases z
  | .int _, _, _, h => by unfold Ow at h; rw [h.2]; exact fun a z => by cases z
  | .str _, _, _, h => by unfold Ow at h; rw [h.2]; exact fun a z => by cases z
  | .tup ds, _, φ, h => by
    unfold Ow at h
    obtain ⟨a, xs, e1, q, r⟩ := h
    exact OwL.trk ds xs φ r
  | .lst ds, _, _, h => by
    unfold Ow at h
    obtain ⟨a, xs, ψ, e1, q, r, rfl⟩ := h
    intro b hb
    rcases List.mem_cons.mp hb with rfl | hb
    · exact ⟨xs, q⟩
    · exact OwL.trk ds xs ψ r b hb
  | .scr _, _, _, h => by unfold Ow at h; exact h.elim
theorem OwL.trk : ∀ (ds : List D) (vs : List V) (φ : List Addr), OwL K H ds vs φ → ∀ a ∈ φ, ∃ xs, H a = some (.lst xs)
  | [], _, _, h => by unfold OwL at h; rw [h.2]; exact fun a z => by cases z
  | d :: ds, _, _, h => by
    unfold OwL at h
    obtain ⟨x, ys, φ1, φ2, e1, q, r, rfl⟩ := h
    intro b hb
    rcases List.mem_append.mp hb with hb | hb
    · exact Ow.trk d x φ1 q b hb
    · exact OwL.trk ds ys φ2 r b hb
end
mutual
/-- it stays while its lists and all tuples stay -/
theorem Ow.mono (e : TK H H') : ∀ (d : D) (v : V) (φ : List Addr), (∀ a ∈ φ, H' a = H a) → Ow K H d v φ → Ow K H' d v φ
  | .non, _, _, _, h => by unfold Ow at h ⊢; exact h
  | .bl _, _, _, _, h => by unfold Ow at h ⊢; exact h
  | .int _, _, _, _, h => by unfold Ow at h ⊢; exact h
  | .str _, _, _, _, h => by unfold Ow at h ⊢; exact h
  | .tup ds, _, φ, k, h => by
    unfold Ow at h ⊢
    obtain ⟨a, xs, e1, q, r⟩ := h
    exact ⟨a, xs, e1, TK.seqT e q, OwL.mono e ds xs φ k r⟩
  | .lst ds, _, _, k, h => by
    unfold Ow at h ⊢
    obtain ⟨a, xs, ψ, e1, q, r, rfl⟩ := h
    exact ⟨a, xs, ψ, e1, (k a List.mem_cons_self).trans q, OwL.mono e ds xs ψ (fun b hb => k b (List.mem_cons_of_mem _ hb)) r, rfl⟩
  | .scr _, _, _, _, h => by unfold Ow at h; exact h.elim
theorem OwL.mono (e : TK H H') : ∀ (ds : List D) (vs : List V) (φ : List Addr), (∀ a ∈ φ, H' a = H a) → OwL K H ds vs φ → OwL K H' ds vs φ
  | [], _, _, _, h => by unfold OwL at h ⊢; exact h
  | d :: ds, _, _, k, h => by
    unfold OwL at h ⊢
    obtain ⟨x, ys, φ1, φ2, e1, q, r, rfl⟩ := h
    exact ⟨x, ys, φ1, φ2, e1, Ow.mono e d x φ1 (fun b hb => k b (List.mem_append_left _ hb)) q, OwL.mono e ds ys φ2 (fun b hb => k b (List.mem_append_right _ hb)) r, rfl⟩
end
theorem Ow.same (e : Same H H') {d : D} {v : V} {φ : List Addr} (h : Ow K H d v φ) : Ow K H' d v φ :=
  Ow.mono (TK.of e) d v φ (fun a ha => by obtain ⟨xs, q⟩ := Ow.trk d v φ h a ha; rw [q]; exact e _ _ q) h
theorem OwL.same (e : Same H H') {d : List D} {v : List V} {φ : List Addr} (h : OwL K H d v φ) : OwL K H' d v φ :=
  OwL.mono (TK.of e) d v φ (fun a ha => by obtain ⟨xs, q⟩ := OwL.trk d v φ h a ha; rw [q]; exact e _ _ q) h
mutual
theorem Ow.pu : ∀ (d : D) (v : V), DL.pu d = true → Rp K H d v → Ow K H d v []
  | .non, _, _, h => by unfold Rp at h; unfold Ow; exact ⟨h, rfl⟩
  | .bl _, _, _, h => by unfold Rp at h; unfold Ow; exact ⟨h, rfl⟩
  | .int _, _, _, h => by unfold Rp at h; unfold Ow; exact ⟨h, rfl⟩
  | .str _, _, _, h => by unfold Rp at h; unfold Ow; exact ⟨h, rfl⟩
  | .tup ds, _, p, h => by
    unfold Rp at h; unfold Ow; unfold DL.pu at p
    obtain ⟨a, xs, e1, q, r⟩ := h
    exact ⟨a, xs, e1, q, OwL.pu ds xs p r⟩
  | .lst ds, _, p, h => by unfold DL.pu at p; cases p
  | .scr ds, _, p, h => by unfold DL.pu at p; cases p
theorem OwL.pu : ∀ (ds : List D) (vs : List V), DL.puL ds = true → RpL K H ds vs → OwL K H ds vs []
  | [], _, _, h => by unfold RpL at h; unfold OwL; exact ⟨h, rfl⟩
  | d :: ds, _, p, h => by
    unfold RpL at h; unfold OwL
    unfold puL at p
    rw [Bool.and_eq_true] at p
    obtain ⟨x, ys, e1, q, r⟩ := h
    exact ⟨x, ys, [], [], e1, Ow.pu d x p.1 q, OwL.pu ds ys p.2 r, rfl⟩
end
mutual
theorem Ow.nil : ∀ (d : D) (v : V) (φ : List Addr), DL.pu d = true → Ow K H d v φ → φ = []
  | .non, _, _, _, h => by unfold Ow at h; exact h.2
  | .bl _, _, _, _, h => by unfold Ow at h; exact h.2
  | .int _, _, _, _, h => by unfold Ow at h; exact h.2
  | .str _, _, _, _, h => by unfold Ow at h; exact h.2
  | .tup ds, _, φ, p, h => by
    unfold Ow at h; unfold DL.pu at p
    obtain ⟨a, xs, e1, q, r⟩ := h
    exact OwL.nil ds xs φ p r
  | .lst ds, _, _, p, h => by unfold DL.pu at p; cases p
  | .scr ds, _, _, p, h => by unfold DL.pu at p; cases p
theorem OwL.nil : ∀ (ds : List D) (vs : List V) (φ : List Addr), DL.puL ds = true → OwL K H ds vs φ → φ = []
  | [], _, _, _, h => by unfold OwL at h; exact h.2
  | d :: ds, _, _, p, h => by
    unfold OwL at h; unfold puL at p
    rw [Bool.and_eq_true] at p
    obtain ⟨x, ys, φ1, φ2, e1, q, r, rfl⟩ := h
    rw [Ow.nil d x φ1 p.1 q, OwL.nil ds ys φ2 p.2 r]; rfl
end
theorem RpL.length : ∀ {ds : List D} {vs : List V}, RpL K H ds vs → vs.length = ds.length
  | [], _, h => by unfold RpL at h; rw [h]; rfl
  | d :: ds, _, h => by
    unfold RpL at h
    obtain ⟨x, ys, rfl, _, r⟩ := h
    simp [RpL.length r]
theorem RpL.get : ∀ {ds : List D} {vs : List V} {i : Nat} {x : V}, RpL K H ds vs → vs[i]? = some x → ∃ d, ds[i]? = some d ∧ Rp K H d x
  | [], _, i, x, h, e => by unfold RpL at h; rw [h] at e; simp at e
  | d :: ds, _, i, x, h, e => by
    unfold RpL at h
    obtain ⟨y, ys, rfl, q, r⟩ := h
    cases i with
    | zero => simp at e; subst e; exact ⟨d, rfl, q⟩
    | succ i =>
      obtain ⟨d', e1, q1⟩ := RpL.get (i := i) (x := x) r (by simpa using e)
      exact ⟨d', by simpa using e1, q1⟩
theorem RpL.at : ∀ {ds : List D} {vs : List V} {i : Nat} {d : D}, RpL K H ds vs → ds[i]? = some d → ∃ x, vs[i]? = some x ∧ Rp K H d x
  | [], _, i, x, h, e => by simp at e
  | d :: ds, _, i, x, h, e => by
    unfold RpL at h
    obtain ⟨y, ys, rfl, q, r⟩ := h
    cases i with
    | zero => simp at e; subst e; exact ⟨y, rfl, q⟩
    | succ i =>
      obtain ⟨d', e1, q1⟩ := RpL.at (i := i) (d := x) r (by simpa using e)
      exact ⟨d', by simpa using e1, q1⟩
theorem RpL.append : ∀ {ds es : List D} {vs us : List V}, RpL K H ds vs → RpL K H es us → RpL K H (ds ++ es) (vs ++ us)
  | [], es, _, us, h, k => by unfold RpL at h; rw [h]; exact k
  | d :: ds, es, _, us, h, k => by
    unfold RpL at h
    obtain ⟨y, ys, rfl, q, r⟩ := h
    show RpL K H (d :: (ds ++ es)) (y :: (ys ++ us))
    unfold RpL
    exact ⟨y, _, rfl, q, RpL.append r k⟩
theorem RpL.take : ∀ {ds : List D} {vs : List V} (n : Nat), RpL K H ds vs → RpL K H (ds.take n) (vs.take n)
  | ds, vs, 0, h => by simp [RpL]
  | [], _, n + 1, h => by unfold RpL at h; rw [h]; simp [RpL]
  | d :: ds, _, n + 1, h => by
    unfold RpL at h
    obtain ⟨y, ys, rfl, q, r⟩ := h
    rw [List.take_succ_cons, List.take_succ_cons]
    unfold RpL
    exact ⟨y, _, rfl, q, RpL.take n r⟩
theorem RpL.drop : ∀ {ds : List D} {vs : List V} (n : Nat), RpL K H ds vs → RpL K H (ds.drop n) (vs.drop n)
  | ds, vs, 0, h => by simpa using h
  | [], _, n + 1, h => by unfold RpL at h; rw [h]; simp [RpL]
  | d :: ds, _, n + 1, h => by
    unfold RpL at h
    obtain ⟨y, ys, rfl, q, r⟩ := h
    rw [List.drop_succ_cons, List.drop_succ_cons]
    exact RpL.drop n r
theorem OwL.append : ∀ {ds es : List D} {vs us : List V} {φ ψ : List Addr}, OwL K H ds vs φ → OwL K H es us ψ → OwL K H (ds ++ es) (vs ++ us) (φ ++ ψ)
  | [], es, _, us, _, _, h, k => by unfold OwL at h; rw [h.1, h.2]; exact k
  | d :: ds, es, _, us, _, _, h, k => by
    unfold OwL at h
    obtain ⟨y, ys, φ1, φ2, rfl, q, r, rfl⟩ := h
    show OwL K H (d :: (ds ++ es)) (y :: (ys ++ us)) _
    unfold OwL
    exact ⟨y, _, φ1, _, rfl, q, OwL.append r k, List.append_assoc ..⟩
theorem puL_append {ds es : List D} : puL (ds ++ es) = (puL ds && puL es) := by
  induction ds with
  | nil => simp [puL]
  | cons d ds ih => simp [puL, ih, Bool.and_assoc]
theorem puL_mem : ∀ {ds : List D}, puL ds = true → ∀ d ∈ ds, pu d = true
  | [], _, d, h => by cases h
  | e :: ds, p, d, h => by
    unfold puL at p
    rw [Bool.and_eq_true] at p
    rcases List.mem_cons.mp h with rfl | h
    · exact p.1
    · exact puL_mem p.2 d h
theorem puL_of : ∀ {ds : List D}, (∀ d ∈ ds, pu d = true) → puL ds = true
  | [], _ => by unfold puL; rfl
  | e :: ds, h => by
    unfold puL
    rw [Bool.and_eq_true]
    exact ⟨h e List.mem_cons_self, puL_of fun d hd => h d (List.mem_cons_of_mem _ hd)⟩
theorem puL_take {ds : List D} (n : Nat) (h : puL ds = true) : puL (ds.take n) = true := puL_of fun d hd => puL_mem h d (List.mem_of_mem_take hd)
theorem puL_drop {ds : List D} (n : Nat) (h : puL ds = true) : puL (ds.drop n) = true := puL_of fun d hd => puL_mem h d (List.mem_of_mem_drop hd)
end

/-! ### values with the way they are held; slots -/
/-- val: no list within; par: an argument's; fr: it stands while the loop runs; bor: read off something of our own; own: our own, new -/
inductive R where
  | val (d : D) | par (d : D) | fr (d : D) | bor (d : D) | own (d : D)
@[reducible] def R.d : R → D
  | .val d => d | .par d => d | .fr d => d | .bor d => d | .own d => d
inductive Sl where
  | no | val (d : D) | par (d : D) | fr (d : D) | bor (d : D) | lck (d : D) | own (d : D)
/-- what a name gives -/
def Sl.rd : Sl → Option R
  | .no => none | .val d => some (.val d) | .par d => some (.par d) | .fr d => some (.fr d) | .bor d => some (.bor d) | .lck d => some (.fr d) | .own d => some (.bor d)
def R.sl : R → Sl
  | .val d => .val d | .par d => .par d | .fr d => .fr d | .bor d => .bor d | .own d => .own d
/-- B: the heap at the def's entry; C: what stands still from here on; H: now -/
def RR (K : PySem.W.Frag) (B C H : Hp) : R → V → List Addr → Prop
  | .val d, v, φ => φ = [] ∧ pu d = true ∧ Rp K H d v
  | .par d, v, φ => φ = [] ∧ Rp K B d v
  | .fr d, v, φ => φ = [] ∧ Rp K C d v
  | .bor d, v, φ => φ = [] ∧ Rp K H d v
  | .own d, v, φ => Ow K H d v φ
def SlOk (K : PySem.W.Frag) (B C H : Hp) : Sl → Option V → List Addr → Prop
  | .no, _, φ => φ = []
  | .val d, v, φ => φ = [] ∧ pu d = true ∧ ∃ x, v = some x ∧ Rp K H d x
  | .par d, v, φ => φ = [] ∧ ∃ x, v = some x ∧ Rp K B d x
  | .fr d, v, φ => φ = [] ∧ ∃ x, v = some x ∧ Rp K C d x
  | .bor d, v, φ => φ = [] ∧ ∃ x, v = some x ∧ Rp K H d x
  | .lck d, v, φ => φ = [] ∧ ∃ x, v = some x ∧ Rp K C d x
  | .own d, v, φ => ∃ x, v = some x ∧ Ow K H d x φ
abbrev DSt := List Sl
structure RSt (K : PySem.W.Frag) (B C : Hp) (σ : L2.St) (H : Hp) (δ : DSt) (Φ : Nat → List Addr) : Prop where
  len : σ.length = δ.length
  sl : ∀ i, SlOk K B C H (δ.getD i .no) (σ.getD i none) (Φ i)
  nd : ∀ i, (Φ i).Nodup
  dj : ∀ i j a, a ∈ Φ i → a ∈ Φ j → i = j
  bc : Same B C
  ch : Same C H
  fr : ∀ i a, a ∈ Φ i → C a = none
section
variable {K : PySem.W.Frag} {B C H H' : Hp} {σ : L2.St} {δ : DSt} {Φ : Nat → List Addr}
theorem RR.rp {r : R} {v : V} {φ : List Addr} (bc : Same B C) (ch : Same C H) (h : RR K B C H r v φ) : Rp K H r.d v := by
  cases r with
  | val d => exact h.2.2
  | par d => exact Rp.mono (bc.trans ch) _ _ h.2
  | fr d => exact Rp.mono ch _ _ h.2
  | bor d => exact h.2
  | own d => exact Ow.rp _ _ _ h
theorem RR.same {r : R} {v : V} {φ : List Addr} (e : Same H H') (h : RR K B C H r v φ) : RR K B C H' r v φ := by
  cases r with
  | val d => exact ⟨h.1, h.2.1, Rp.mono e _ _ h.2.2⟩
  | par d => exact h
  | fr d => exact h
  | bor d => exact ⟨h.1, Rp.mono e _ _ h.2⟩
  | own d => exact Ow.same e h
theorem SlOk.same {s : Sl} {v : Option V} {φ : List Addr} (e : Same H H') (h : SlOk K B C H s v φ) : SlOk K B C H' s v φ := by
  cases s with
  | no => exact h
  | val d => obtain ⟨a, b, x, e1, q⟩ := h; exact ⟨a, b, x, e1, Rp.mono e _ _ q⟩
  | par d => exact h
  | fr d => exact h
  | bor d => obtain ⟨a, x, e1, q⟩ := h; exact ⟨a, x, e1, Rp.mono e _ _ q⟩
  | lck d => exact h
  | own d => obtain ⟨x, e1, q⟩ := h; exact ⟨x, e1, Ow.same e q⟩
theorem SlOk.trk {s : Sl} {v : Option V} {φ : List Addr} (h : SlOk K B C H s v φ) : ∀ a ∈ φ, ∃ xs, H a = some (.lst xs) := by
  cases s with
  | no => rw [show φ = [] from h]; exact fun a z => by cases z
  | val d => rw [h.1]; exact fun a z => by cases z
  | par d => rw [h.1]; exact fun a z => by cases z
  | fr d => rw [h.1]; exact fun a z => by cases z
  | bor d => rw [h.1]; exact fun a z => by cases z
  | lck d => rw [h.1]; exact fun a z => by cases z
  | own d => obtain ⟨x, _, q⟩ := h; exact Ow.trk _ _ _ q
theorem RSt.trk (h : RSt K B C σ H δ Φ) {i : Nat} {a : Addr} (ha : a ∈ Φ i) : ∃ xs, H a = some (.lst xs) := (h.sl i).trk a ha
theorem RSt.same (h : RSt K B C σ H δ Φ) (e : Same H H') : RSt K B C σ H' δ Φ :=
  ⟨h.len, fun i => (h.sl i).same e, h.nd, h.dj, h.bc, h.ch.trans e, h.fr⟩
/-- a name is read -/
theorem RSt.rd (h : RSt K B C σ H δ Φ) {i : Nat} {r : R} (e : (δ.getD i .no).rd = some r) : ∃ v, σ[i]? = some (some v) ∧ RR K B C H r v [] := by
  have q := h.sl i
  have fin : ∀ x, σ.getD i none = some x → σ[i]? = some (some x) := fun x e1 => by
    rw [List.getD_eq_getElem?_getD] at e1
    cases z : σ[i]? with
    | none => rw [z] at e1; cases e1
    | some y => rw [z] at e1; rw [show y = some x from e1]
  cases z : δ.getD i .no with
  | no => rw [z] at e; cases e
  | val d => rw [z] at e q; cases e; obtain ⟨_, p, x, e1, q⟩ := q; exact ⟨x, fin x e1, rfl, p, q⟩
  | par d => rw [z] at e q; cases e; obtain ⟨_, x, e1, q⟩ := q; exact ⟨x, fin x e1, rfl, q⟩
  | fr d => rw [z] at e q; cases e; obtain ⟨_, x, e1, q⟩ := q; exact ⟨x, fin x e1, rfl, q⟩
  | bor d => rw [z] at e q; cases e; obtain ⟨_, x, e1, q⟩ := q; exact ⟨x, fin x e1, rfl, q⟩
  | lck d => rw [z] at e q; cases e; obtain ⟨_, x, e1, q⟩ := q; exact ⟨x, fin x e1, rfl, q⟩
  | own d => rw [z] at e q; cases e; obtain ⟨x, e1, q⟩ := q; exact ⟨x, fin x e1, rfl, Ow.rp _ _ _ q⟩
theorem getD_set {α : Type} (l : List α) (i j : Nat) (x d : α) : (l.set i x).getD j d = if j = i ∧ i < l.length then x else l.getD j d := by
  rw [List.getD_eq_getElem?_getD, List.getD_eq_getElem?_getD]
  by_cases h : j = i
  · subst h
    by_cases hl : j < l.length
    · rw [if_pos ⟨rfl, hl⟩, List.getElem?_set_self hl]; rfl
    · rw [if_neg (fun z => hl z.2), List.getElem?_eq_none (by simpa using hl), List.getElem?_eq_none (by simpa using hl)]
  · rw [if_neg (fun z => h z.1), List.getElem?_set_ne (Ne.symm h)]
theorem RR.slOk {r : R} {v : V} {φ : List Addr} (h : RR K B C H r v φ) : SlOk K B C H r.sl (some v) φ := by
  cases r with
  | val d => exact ⟨h.1, h.2.1, v, rfl, h.2.2⟩
  | par d => exact ⟨h.1, v, rfl, h.2⟩
  | fr d => exact ⟨h.1, v, rfl, h.2⟩
  | bor d => exact ⟨h.1, v, rfl, h.2⟩
  | own d => exact ⟨v, rfl, h⟩
/-- a store -/
def store (i : Nat) (r : R) (δ : DSt) : Option DSt := if i < δ.length then (match δ.getD i .no with | .lck _ => none | _ => some (δ.set i r.sl)) else none
theorem RSt.store (h : RSt K B C σ H δ Φ) {i : Nat} {r : R} {v : V} {φ : List Addr} {δ' : DSt} (e : DL.store i r δ = some δ') (q : RR K B C H r v φ) (nd : φ.Nodup) (fc : ∀ a ∈ φ, C a = none) (fr : ∀ j a, a ∈ φ → a ∉ Φ j) :
    RSt K B C (σ.set i (some v)) H δ' (fun j => if j = i then φ else Φ j) := by
  unfold DL.store at e
  split at e
  · rename_i hl
    have e1 : δ' = δ.set i r.sl := by
      split at e
      · cases e
      · exact (Option.some.inj e).symm
    subst e1
    refine ⟨by simpa using h.len, fun j => ?_, fun j => ?_, fun j k a ha hb => ?_, h.bc, h.ch, fun j a ha => ?_⟩
    · rw [getD_set, getD_set, h.len]
      by_cases hj : j = i
      · subst hj
        rw [if_pos ⟨rfl, hl⟩, if_pos ⟨rfl, hl⟩, if_pos rfl]
        exact q.slOk
      · rw [if_neg (fun z => hj z.1), if_neg (fun z => hj z.1), if_neg hj]
        exact h.sl j
    · split
      · exact nd
      · exact h.nd j
    · split at ha
      · split at hb
        · rename_i e1 e2; rw [e1, e2]
        · exact absurd hb (fr k a ha)
      · split at hb
        · exact absurd ha (fr j a hb)
        · exact h.dj j k a ha hb
    · split at ha
      · exact fc a ha
      · exact h.fr j a ha
  · cases e
/-- slots that are locked stay, and none is locked besides -/
def Lk (σ : L2.St) (δ : DSt) (σ' : L2.St) (δ' : DSt) : Prop := (∀ i d, δ.getD i .no = .lck d → δ'.getD i .no = .lck d ∧ σ'.getD i none = σ.getD i none) ∧ ∀ i d, δ'.getD i .no = .lck d → δ.getD i .no = .lck d
theorem Lk.refl : Lk σ δ σ δ := ⟨fun _ _ h => ⟨h, rfl⟩, fun _ _ h => h⟩
theorem Lk.trans {σ1 σ2 σ3 : L2.St} {δ1 δ2 δ3 : DSt} (a : Lk σ1 δ1 σ2 δ2) (b : Lk σ2 δ2 σ3 δ3) : Lk σ1 δ1 σ3 δ3 := ⟨fun i d h =>
  let ⟨h1, e1⟩ := a.1 i d h
  let ⟨h2, e2⟩ := b.1 i d h1
  ⟨h2, e2.trans e1⟩, fun i d h => a.2 i d (b.2 i d h)⟩
theorem Lk.store {i : Nat} {r : R} {v : V} {δ' : DSt} (e : DL.store i r δ = some δ') : Lk σ δ (σ.set i (some v)) δ' := by
  unfold DL.store at e
  split at e
  · rename_i hl
    have nl : ∀ d, δ.getD i .no ≠ .lck d := fun d z => by
      rw [z] at e
      cases e
    have e1 : δ' = δ.set i r.sl := by
      split at e
      · cases e
      · exact (Option.some.inj e).symm
    subst e1
    refine ⟨fun j d h => ?_, fun j d h => ?_⟩
    · have ne : j ≠ i := fun z => nl d (z ▸ h)
      rw [getD_set, getD_set, if_neg (fun z => ne z.1), if_neg (fun z => ne z.1)]
      exact ⟨h, rfl⟩
    · rw [getD_set] at h
      split at h
      · cases r <;> cases h
      · exact h
  · cases e
end
end DL

set_option Elab.async false
set_option linter.all false
set_option maxRecDepth 100000
set_option maxHeartbeats 4000000
/-! D2: expressions over plain data. -/
namespace DL
open PySem PySem.Spec PyProof.Rows L2
section
variable {X : Cx} {e a b : Expr} {pos : Pos}
theorem pe_imp {t t' : TE} (h : PE X e t) (f : ∀ σ H Q, t' σ H Q → t σ H Q) : PE X e t' := ⟨fun pins s σ H Q I q => h.run pins s σ H Q I (f σ H Q q)⟩
theorem pt_imp {t t' : TT} (h : PT X e t) (f : ∀ σ H Q, t' σ H Q → t σ H Q) : PT X e t' := ⟨fun pins s σ H Q I q => h.run pins s σ H Q I (f σ H Q q)⟩
theorem pw_imp {t t' : TT} (h : PW X e t) (f : ∀ σ H Q, t' σ H Q → t σ H Q) : PW X e t' := ⟨fun wh pins s σ H Q I q => h.run wh pins s σ H Q I (f σ H Q q)⟩
theorem pa_imp {es : List Expr} {t t' : TA} (h : PA X es t) (f : ∀ σ H Q, t' σ H Q → t σ H Q) : PA X es t' := ⟨fun ps pins s σ H Q I q => h.run ps pins s σ H Q I (f σ H Q q)⟩
end
abbrev G := DSt → Option R
abbrev GT := DSt → Option Bool
abbrev GA := DSt → Option (List R)
/-- values in a row -/
def RRL (K : PySem.W.Frag) (B C H : Hp) : List R → List V → List Addr → Prop
  | [], vs, φ => vs = [] ∧ φ = []
  | r :: rs, vs, φ => ∃ (v : V) (us : List V) (φ1 φ2 : List Addr), vs = v :: us ∧ RR K B C H r v φ1 ∧ RRL K B C H rs us φ2 ∧ φ = φ1 ++ φ2
def tD (K : PySem.W.Frag) (g : G) : TE := fun σ H Q => ∃ (B C : Hp) (δ : DSt) (Φ : Nat → List Addr) (r : R), RSt K B C σ H δ Φ ∧ g δ = some r ∧
  ∀ v H' φ, Same H H' → RR K B C H' r v φ → (∀ a ∈ φ, H a = none) → φ.Nodup → Q v H'
def tDT (K : PySem.W.Frag) (g : GT) : TT := fun σ H Q => ∃ (B C : Hp) (δ : DSt) (Φ : Nat → List Addr) (b : Bool), RSt K B C σ H δ Φ ∧ g δ = some b ∧ ∀ H', Same H H' → Q b H'
def tDA (K : PySem.W.Frag) (g : GA) : TA := fun σ H Q => ∃ (B C : Hp) (δ : DSt) (Φ : Nat → List Addr) (rs : List R), RSt K B C σ H δ Φ ∧ g δ = some rs ∧
  ∀ vs H' φ, Same H H' → RRL K B C H' rs vs φ → (∀ a ∈ φ, H a = none) → φ.Nodup → Q vs H'
/-- an expression's value by the slots' data -/
structure DE (X : Cx) (e : Expr) (g : G) : Prop where
  pe : PE X e (tD X.K g)
structure DT (X : Cx) (e : Expr) (g : GT) : Prop where
  pt : PT X e (tDT X.K g)
structure DW (X : Cx) (e : Expr) (g : GT) : Prop where
  pw : PW X e (tDT X.K g)
structure DA (X : Cx) (es : List Expr) (g : GA) : Prop where
  pa : PA X es (tDA X.K g)
section
variable {K : PySem.W.Frag} {B C H H' : Hp}
theorem RR.trk {r : R} {v : V} {φ : List Addr} (h : RR K B C H r v φ) : ∀ a ∈ φ, ∃ xs, H a = some (.lst xs) := h.slOk.trk
theorem RRL.same : ∀ {rs : List R} {vs : List V} {φ : List Addr}, Same H H' → RRL K B C H rs vs φ → RRL K B C H' rs vs φ
  | [], _, _, _, h => h
  | r :: rs, _, _, e, ⟨v, us, φ1, φ2, e1, q, k, e2⟩ => ⟨v, us, φ1, φ2, e1, q.same e, RRL.same e k, e2⟩
theorem RRL.trk : ∀ {rs : List R} {vs : List V} {φ : List Addr}, RRL K B C H rs vs φ → ∀ a ∈ φ, ∃ xs, H a = some (.lst xs)
  | [], _, _, h => by rw [h.2]; exact fun a z => by cases z
  | r :: rs, _, _, ⟨v, us, φ1, φ2, e1, q, k, e2⟩ => by
    subst e2
    intro a ha
    rcases List.mem_append.mp ha with ha | ha
    · exact q.trk a ha
    · exact RRL.trk k a ha
theorem RRL.rp : ∀ {rs : List R} {vs : List V} {φ : List Addr}, Same B C → Same C H → RRL K B C H rs vs φ → RpL K H (rs.map R.d) vs
  | [], _, _, _, _, h => by rw [h.1]; simp [RpL]
  | r :: rs, _, _, bc, ch, ⟨v, us, φ1, φ2, e1, q, k, e2⟩ => by
    rw [List.map_cons]
    unfold RpL
    exact ⟨v, us, e1, q.rp bc ch, RRL.rp bc ch k⟩
/-- all are without lists -/
def allVal : List R → Bool
  | [] => true
  | .val _ :: rs => allVal rs
  | _ :: _ => false
/-- all are without lists, or our own -/
def allOwn : List R → Bool
  | [] => true
  | .val _ :: rs => allOwn rs
  | .own _ :: rs => allOwn rs
  | _ :: _ => false
theorem RRL.val : ∀ {rs : List R} {vs : List V} {φ : List Addr}, allVal rs = true → RRL K B C H rs vs φ → φ = [] ∧ puL (rs.map R.d) = true
  | [], _, _, _, h => ⟨h.2, by simp [puL]⟩
  | .val d :: rs, _, _, e, ⟨v, us, φ1, φ2, e1, q, k, e2⟩ => by
    obtain ⟨h1, h2⟩ := RRL.val (rs := rs) (by simpa [allVal] using e) k
    rw [e2, h1, q.1]
    exact ⟨rfl, by simp [puL, q.2.1, h2]⟩
  | .par _ :: _, _, _, e, _ => by cases e
  | .fr _ :: _, _, _, e, _ => by cases e
  | .bor _ :: _, _, _, e, _ => by cases e
  | .own _ :: _, _, _, e, _ => by cases e
theorem RRL.own : ∀ {rs : List R} {vs : List V} {φ : List Addr}, allOwn rs = true → RRL K B C H rs vs φ → OwL K H (rs.map R.d) vs φ
  | [], _, _, _, h => by rw [h.1, h.2]; simp [OwL]
  | .val d :: rs, _, _, e, ⟨v, us, φ1, φ2, e1, q, k, e2⟩ => by
    rw [List.map_cons]
    unfold OwL
    exact ⟨v, us, φ1, φ2, e1, by rw [q.1]; exact Ow.pu _ _ q.2.1 q.2.2, RRL.own (by simpa [allOwn] using e) k, e2⟩
  | .own d :: rs, _, _, e, ⟨v, us, φ1, φ2, e1, q, k, e2⟩ => by
    rw [List.map_cons]
    unfold OwL
    exact ⟨v, us, φ1, φ2, e1, q, RRL.own (by simpa [allOwn] using e) k, e2⟩
  | .par _ :: _, _, _, e, _ => by cases e
  | .fr _ :: _, _, _, e, _ => by cases e
  | .bor _ :: _, _, _, e, _ => by cases e
end

/-! ### names, constants -/
section
variable {X : Cx} {e a b c : Expr} {pos : Pos} {ga gb gc : G}
def gVar (i : Nat) : G := fun δ => (δ.getD i .no).rd
theorem de_var (i : Nat) {x : Str} {pos : Pos} (hN : X.N[i]? = some x := by rfl) (hv : Vis X.env.scope x := by first | exact Or.inl rfl | exact Or.inr (Or.inl rfl) | exact Or.inr (Or.inr rfl)) (hd : (x == ("__debug__" : Str)) = false := by decide)
    (hcd : (x == ("__classdict__" : Str)) = false := by decide) : DE X (.Name x pos) (gVar i) := by
  refine ⟨pe_imp (pe_var hN hv hd hcd) fun σ H Q h => ?_⟩
  obtain ⟨B, C, δ, Φ, r, S, e, k⟩ := h
  obtain ⟨v, e1, q⟩ := S.rd e
  exact ⟨v, e1, k v H [] (Same.refl _) q (fun _ z => by cases z) List.nodup_nil⟩
def gC (d : D) : G := fun _ => some (.val d)
theorem de_c {d : D} {v : V} (h : PE X e (tC v)) (hp : pu d = true := by rfl) (hr : ∀ H, Rp X.K H d v := by intro _; unfold Rp; rfl) : DE X e (gC d) := by
  refine ⟨pe_imp h fun σ H Q h => ?_⟩
  obtain ⟨B, C, δ, Φ, r, S, e, k⟩ := h
  cases e
  exact k v H [] (Same.refl _) ⟨rfl, hp, hr _⟩ (fun _ z => by cases z) List.nodup_nil
theorem de_int {i j pos} : DE X (.Constant (.int i) j pos) (gC (.int i)) := de_c pe_int
theorem de_bl {i j pos} : DE X (.Constant (.bool i) j pos) (gC (.bl i)) := de_c pe_bl
theorem de_non {j pos} : DE X (.Constant .none j pos) (gC .non) := de_c pe_non
theorem de_str {i j pos} : DE X (.Constant (.str i) j pos) (gC (.str i)) := de_c pe_str
/-- an int of the module's -/
theorem de_gint {x : Str} {i : Int} {t : Tok} {pos : Pos} (hm : X.mg x = some (.int i t)) (hg : Gl X x := by rfl) (hd : (x == ("__debug__" : Str)) = false := by decide) : DE X (.Name x pos) (gC (.int i)) := de_c (v := .int i) (pe_glob (v := .int i) hg hm ⟨t, rfl⟩ hd)

/-! ### operators by data -/
/-- an operator of two values, by data -/
def OpD (X : Cx) (f : Value → Value → Sem Value) (op : D → D → Option R) : Prop :=
  ∃ r : R2, OpR X f r ∧ ∀ (B C H : Hp) (x y : V) (Q : VK) (d e : D) (c : R), Rp X.K H d x → Rp X.K H e y → op d e = some c →
    (∀ v H' φ, Same H H' → RR X.K B C H' c v φ → (∀ a ∈ φ, H a = none) → φ.Nodup → Q v H') → r x y H Q
def gOp (op : D → D → Option R) (ga gb : G) : G := fun δ => (ga δ).bind fun x => (gb δ).bind fun y => op x.d y.d
theorem gOp_some {op : D → D → Option R} {ga gb : G} {δ : DSt} {r : R} (h : gOp op ga gb δ = some r) : ∃ x y, ga δ = some x ∧ gb δ = some y ∧ op x.d y.d = some r := by
  unfold gOp at h
  cases e : ga δ with
  | none => rw [e] at h; cases h
  | some x =>
    cases e2 : gb δ with
    | none => rw [e, e2] at h; cases h
    | some y => rw [e, e2] at h; exact ⟨x, y, rfl, rfl, h⟩
/-- two operands, then what is wanted -/
theorem two {K : PySem.W.Frag} {ga gb : G} {σ : L2.St} {H : Hp} {B C : Hp} {δ : DSt} {Φ : Nat → List Addr} {x y : R} {R2 : V → V → Hp → Prop} (S : RSt K B C σ H δ Φ) (e1 : ga δ = some x) (e2 : gb δ = some y)
    (h : ∀ u w H', Same H H' → Rp K H' x.d u → Rp K H' y.d w → R2 u w H') : tD K ga σ H fun u H1 => tD K gb σ H1 fun w H2 => R2 u w H2 :=
  ⟨B, C, δ, Φ, x, S, e1, fun u H1 φ1 s1 q1 _ _ => ⟨B, C, δ, Φ, y, S.same s1, e2, fun w H2 φ2 s2 q2 _ _ =>
    h u w H2 (s1.trans s2) (Rp.mono s2 _ _ (q1.rp S.bc (S.ch.trans s1))) (q2.rp S.bc (S.ch.trans (s1.trans s2)))⟩⟩
theorem de_op {op : Operator} {p : D → D → Option R} (ho : OpD X (binaryOp op) p) (ha : DE X a ga) (hb : DE X b gb) : DE X (.BinOp a op b pos) (gOp p ga gb) := by
  obtain ⟨r, hr, hp⟩ := ho
  refine ⟨pe_imp (pe_op hr ha.pe hb.pe) fun σ H Q h => ?_⟩
  obtain ⟨B, C, δ, Φ, c, S, e, k⟩ := h
  obtain ⟨x, y, e1, e2, e3⟩ := gOp_some e
  exact two S e1 e2 fun u w H' s q1 q2 => hp B C H' u w Q _ _ c q1 q2 e3 fun v H2 φ s2 q3 f n => k v H2 φ (s.trans s2) q3 (fun a ha => s.free (f a ha)) n
theorem de_cmp {op : CmpOp} {p : D → D → Option R} (ho : OpD X (compareOp op) p) (ha : DE X a ga) (hb : DE X b gb) (hm : behindInMarks op b = false := by first | exact nomark _ | rfl) : DE X (.Compare a [op] [b] pos) (gOp p ga gb) := by
  obtain ⟨r, hr, hp⟩ := ho
  refine ⟨pe_imp (pe_cmpR hr ha.pe hb.pe hm) fun σ H Q h => ?_⟩
  obtain ⟨B, C, δ, Φ, c, S, e, k⟩ := h
  obtain ⟨x, y, e1, e2, e3⟩ := gOp_some e
  exact two S e1 e2 fun u w H' s q1 q2 => hp B C H' u w Q _ _ c q1 q2 e3 fun v H2 φ s2 q3 f n => k v H2 φ (s.trans s2) q3 (fun a ha => s.free (f a ha)) n
/-- the answer as a Bool -/
def asB : R → Option Bool
  | .val (.bl k) => some k
  | _ => none
theorem asB_some {r : R} {k : Bool} (h : asB r = some k) : r = .val (.bl k) := by
  unfold asB at h
  split at h
  · cases h; rfl
  · cases h
def gT (g : G) : GT := fun δ => (g δ).bind asB
theorem gT_some {g : G} {δ : DSt} {k : Bool} (h : gT g δ = some k) : g δ = some (.val (.bl k)) := by
  unfold gT at h
  cases e : g δ with
  | none => rw [e] at h; cases h
  | some x => rw [e] at h; rw [asB_some h]
theorem dt_cmp {op : CmpOp} {p : D → D → Option R} (ho : OpD X (compareOp op) p) (ha : DE X a ga) (hb : DE X b gb) (hm : behindInMarks op b = false := by first | exact nomark _ | rfl) : DT X (.Compare a [op] [b] pos) (gT (gOp p ga gb)) := by
  obtain ⟨r, hr, hp⟩ := ho
  refine ⟨pt_imp (pt_cmpR hr ha.pe hb.pe hm) fun σ H Q h => ?_⟩
  obtain ⟨B, C, δ, Φ, c, S, e, k⟩ := h
  obtain ⟨x, y, e1, e2, e3⟩ := gOp_some (gT_some e)
  refine two S e1 e2 fun u w H' s q1 q2 => hp B C H' u w _ _ _ _ q1 q2 e3 fun v H2 φ s2 q3 f n => ⟨c, ?_, k H2 (s.trans s2)⟩
  have q := q3.2.2
  unfold Rp at q
  exact q
/-- a < b < c -/
def gChain (p q : D → D → Option R) (ga gb gc : G) : G := fun δ => (ga δ).bind fun x => (gb δ).bind fun y => (p x.d y.d).bind fun r => (asB r).bind fun k =>
  if k = true then (gc δ).bind fun z => q y.d z.d else some (.val (.bl false))
theorem gChain_some {p q : D → D → Option R} {δ : DSt} {r : R} (h : gChain p q ga gb gc δ = some r) : ∃ x y k, ga δ = some x ∧ gb δ = some y ∧ p x.d y.d = some (.val (.bl k)) ∧
    ((k = true ∧ ∃ z, gc δ = some z ∧ q y.d z.d = some r) ∨ (k = false ∧ r = .val (.bl false))) := by
  unfold gChain at h
  cases e : ga δ with
  | none => rw [e] at h; cases h
  | some x =>
    cases e2 : gb δ with
    | none => rw [e, e2] at h; cases h
    | some y =>
      rw [e, e2] at h
      simp only [Option.bind_some] at h
      cases e3 : p x.d y.d with
      | none => rw [e3] at h; cases h
      | some w =>
        rw [e3] at h
        simp only [Option.bind_some] at h
        cases e4 : asB w with
        | none => rw [e4] at h; cases h
        | some k =>
          rw [e4] at h
          simp only [Option.bind_some] at h
          rw [asB_some e4] at e3
          refine ⟨x, y, k, rfl, rfl, e3, ?_⟩
          cases k with
          | false => rw [if_neg (by decide)] at h; exact .inr ⟨rfl, (Option.some.inj h).symm⟩
          | true =>
            rw [if_pos rfl] at h
            cases e5 : gc δ with
            | none => rw [e5] at h; cases h
            | some z => rw [e5] at h; exact .inl ⟨rfl, z, rfl, h⟩
theorem chain_use {p q : D → D → Option R} {r1 r2 : R2} (hp : ∀ (B C H : Hp) (x y : V) (Q : VK) (d e : D) (c : R), Rp X.K H d x → Rp X.K H e y → p d e = some c →
    (∀ v H' φ, Same H H' → RR X.K B C H' c v φ → (∀ a ∈ φ, H a = none) → φ.Nodup → Q v H') → r1 x y H Q)
    (hq : ∀ (B C H : Hp) (x y : V) (Q : VK) (d e : D) (c : R), Rp X.K H d x → Rp X.K H e y → q d e = some c →
    (∀ v H' φ, Same H H' → RR X.K B C H' c v φ → (∀ a ∈ φ, H a = none) → φ.Nodup → Q v H') → r2 x y H Q)
    {σ : L2.St} {H : Hp} {Q : VK} (h : tD X.K (gChain p q ga gb gc) σ H Q) : tChain r1 r2 (tD X.K ga) (tD X.K gb) (tD X.K gc) σ H Q := by
  obtain ⟨B, C, δ, Φ, c, S, e, k⟩ := h
  obtain ⟨x, y, b, e1, e2, e3, e4⟩ := gChain_some e
  refine ⟨B, C, δ, Φ, x, S, e1, fun u H1 φ1 s1 q1 _ _ => ⟨B, C, δ, Φ, y, S.same s1, e2, fun w H2 φ2 s2 q2 _ _ => ?_⟩⟩
  have s12 := s1.trans s2
  refine hp B C H2 u w _ _ _ _ (Rp.mono s2 _ _ (q1.rp S.bc (S.ch.trans s1))) (q2.rp S.bc (S.ch.trans s12)) e3 fun v H3 φ3 s3 q3 _ _ => ⟨b, ?_, ?_⟩
  · have q := q3.2.2
    unfold Rp at q
    exact q
  · have s13 := s12.trans s3
    rcases e4 with ⟨rfl, z, e5, e6⟩ | ⟨rfl, rfl⟩
    · rw [if_pos rfl]
      refine ⟨B, C, δ, Φ, z, S.same s13, e5, fun o H4 φ4 s4 q4 _ _ => ?_⟩
      have s14 := s13.trans s4
      exact hq B C H4 w o Q _ _ _ (Rp.mono (s3.trans s4) _ _ (q2.rp S.bc (S.ch.trans s12))) (q4.rp S.bc (S.ch.trans s14)) e6 fun v' H5 φ5 s5 q5 f n => k v' H5 φ5 (s14.trans s5) q5 (fun a ha => s14.free (f a ha)) n
    · rw [if_neg (by decide)]
      exact k _ H3 [] s13 ⟨rfl, rfl, by unfold Rp; rfl⟩ (fun _ z => by cases z) List.nodup_nil
theorem de_chain {op op' : CmpOp} {p q : D → D → Option R} (ho : OpD X (compareOp op) p) (ho' : OpD X (compareOp op') q) (ha : DE X a ga) (hb : DE X b gb) (hc : DE X c gc)
    (hm : lastMarks [op, op'] [b, c] = false := by with_unfolding_all rfl) : DE X (.Compare a [op, op'] [b, c] pos) (gChain p q ga gb gc) := by
  obtain ⟨r1, h1, hp⟩ := ho
  obtain ⟨r2, h2, hq⟩ := ho'
  exact ⟨pe_imp (pe_chain h1 h2 ha.pe hb.pe hc.pe hm) fun σ H Q h => chain_use hp hq h⟩
theorem tD_test {K : PySem.W.Frag} {g : G} {σ : L2.St} {H : Hp} {Q : Bool → Hp → Prop} (h : tDT K (gT g) σ H Q) : tD K g σ H fun x H' => ∃ k, x = V.bl k ∧ Q k H' := by
  obtain ⟨B, C, δ, Φ, c, S, e, k⟩ := h
  refine ⟨B, C, δ, Φ, _, S, gT_some e, fun v H' φ s q _ _ => ⟨c, ?_, k H' s⟩⟩
  have q := q.2.2
  unfold Rp at q
  exact q
theorem dt_chain {op op' : CmpOp} {p q : D → D → Option R} (ho : OpD X (compareOp op) p) (ho' : OpD X (compareOp op') q) (ha : DE X a ga) (hb : DE X b gb) (hc : DE X c gc)
    (hm : lastMarks [op, op'] [b, c] = false := by with_unfolding_all rfl) : DT X (.Compare a [op, op'] [b, c] pos) (gT (gChain p q ga gb gc)) := by
  obtain ⟨r1, h1, hp⟩ := ho
  obtain ⟨r2, h2, hq⟩ := ho'
  exact ⟨pt_imp (pt_chain h1 h2 ha.pe hb.pe hc.pe hm) fun σ H Q h => chain_use hp hq (tD_test h)⟩

/-! ### truth, and, or, not -/
def tru : D → Option Bool
  | .non => some false
  | .bl b => some b
  | .int i => some (i != 0)
  | .str y => if y.length ≤ sizeLine then some ((y.length : Int) != 0) else none
  | .tup ds => some (!ds.isEmpty)
  | .lst ds => some (!ds.isEmpty)
  | .scr ns => some (!ns.isEmpty)
theorem tru_v {K : PySem.W.Frag} {H : Hp} {d : D} {v : V} {k : Bool} (h : Rp K H d v) (e : tru d = some k) : TruV K v H k := by
  cases d with
  | non => unfold Rp at h; subst h; cases e; rfl
  | bl b => unfold Rp at h; subst h; cases e; rfl
  | int i => unfold Rp at h; subst h; cases e; rfl
  | str y =>
    unfold Rp at h; subst h
    have e : (if y.length ≤ sizeLine then some ((y.length : Int) != 0) else none) = some k := e
    by_cases hl : y.length ≤ sizeLine
    · rw [if_pos hl] at e; cases e; exact ⟨hl, rfl⟩
    · rw [if_neg hl] at e; cases e
  | tup ds =>
    unfold Rp at h
    obtain ⟨a, xs, rfl, q, r⟩ := h
    cases e
    refine .inr (.inl ⟨xs, q, ?_⟩)
    have := r.length
    cases xs <;> cases ds <;> simp_all
  | lst ds =>
    unfold Rp at h
    obtain ⟨a, xs, rfl, q, r⟩ := h
    cases e
    refine .inl ⟨xs, SqL.of q, ?_⟩
    have := r.length
    cases xs <;> cases ds <;> simp_all
  | scr ns =>
    unfold Rp at h
    obtain ⟨a, rfl, q⟩ := h
    cases e
    exact .inl ⟨_, q, by cases ns <;> rfl⟩
/-- a test by the value's truth -/
def gTru (g : G) : GT := fun δ => (g δ).bind fun r => tru r.d
theorem gTru_some {g : G} {δ : DSt} {k : Bool} (h : gTru g δ = some k) : ∃ r, g δ = some r ∧ tru r.d = some k := by
  unfold gTru at h
  cases e : g δ with
  | none => rw [e] at h; cases h
  | some x => rw [e] at h; exact ⟨x, rfl, h⟩
theorem dt_tru (ha : DE X a ga) (he : ∀ whole, isTrue a X.env whole = (do let v ← whole; standAt a.pos; holding [v] (truthy v)) := by intro _; rfl) : DT X a (gTru ga) := by
  refine ⟨pt_imp (pt_truth ha.pe he) fun σ H Q h => ?_⟩
  obtain ⟨B, C, δ, Φ, c, S, e, k⟩ := h
  obtain ⟨r, e1, e2⟩ := gTru_some e
  exact ⟨B, C, δ, Φ, r, S, e1, fun v H' φ s q _ _ => ⟨c, tru_v (q.rp S.bc (S.ch.trans s)) e2, k H' s⟩⟩
def gNotT (g : GT) : GT := fun δ => (g δ).map (!·)
theorem dt_not {g : GT} (ha : DT X a g) : DT X (.UnaryOp .Not a pos) (gNotT g) := by
  refine ⟨pt_imp (pt_not ha.pt) fun σ H Q h => ?_⟩
  obtain ⟨B, C, δ, Φ, c, S, e, k⟩ := h
  unfold gNotT at e
  cases e1 : g δ with
  | none => rw [e1] at e; cases e
  | some b =>
    rw [e1] at e
    cases e
    exact ⟨B, C, δ, Φ, b, S, e1, fun H' s => k H' s⟩
variable {rest : List Expr} {g1 g2 : GT}
def gAndT (g1 g2 : GT) : GT := fun δ => (g1 δ).bind fun k => if k = true then g2 δ else some false
def gOrT (g1 g2 : GT) : GT := fun δ => (g1 δ).bind fun k => if k = true then some true else g2 δ
theorem DW.dt (h : DW X e g1) : DT X e g1 := ⟨h.pw.pt⟩
theorem dw_and1 (ha : DT X a g1) : DW X (.BoolOp .And [a] pos) g1 := ⟨pw_and1 ha.pt⟩
theorem dw_or1 (ha : DT X a g1) : DW X (.BoolOp .Or [a] pos) g1 := ⟨pw_or1 ha.pt⟩
theorem dw_and (ha : DT X a g1) (hb : DW X (.BoolOp .And (b :: rest) pos) g2) : DW X (.BoolOp .And (a :: b :: rest) pos) (gAndT g1 g2) := by
  refine ⟨pw_imp (pw_and ha.pt hb.pw) fun σ H Q h => ?_⟩
  obtain ⟨B, C, δ, Φ, c, S, e, k⟩ := h
  unfold gAndT at e
  cases e1 : g1 δ with
  | none => rw [e1] at e; cases e
  | some x =>
    rw [e1] at e
    refine ⟨B, C, δ, Φ, x, S, e1, fun H' s => ?_⟩
    cases x with
    | true => rw [if_pos rfl]; exact ⟨B, C, δ, Φ, c, S.same s, e, fun H2 s2 => k H2 (s.trans s2)⟩
    | false => rw [if_neg (by decide)]; cases e; exact k H' s
theorem dw_or (ha : DT X a g1) (hb : DW X (.BoolOp .Or (b :: rest) pos) g2) : DW X (.BoolOp .Or (a :: b :: rest) pos) (gOrT g1 g2) := by
  refine ⟨pw_imp (pw_or ha.pt hb.pw) fun σ H Q h => ?_⟩
  obtain ⟨B, C, δ, Φ, c, S, e, k⟩ := h
  unfold gOrT at e
  cases e1 : g1 δ with
  | none => rw [e1] at e; cases e
  | some x =>
    rw [e1] at e
    refine ⟨B, C, δ, Φ, x, S, e1, fun H' s => ?_⟩
    cases x with
    | true => rw [if_pos rfl]; cases e; exact k H' s
    | false => rw [if_neg (by decide)]; exact ⟨B, C, δ, Φ, c, S.same s, e, fun H2 s2 => k H2 (s.trans s2)⟩
/-- as values -/
def gAnd (ga gb : G) : G := fun δ => (ga δ).bind fun x => (tru x.d).bind fun k => if k = true then gb δ else some x
def gOr (ga gb : G) : G := fun δ => (ga δ).bind fun x => (tru x.d).bind fun k => if k = true then some x else gb δ
def gNot (ga : G) : G := fun δ => (ga δ).bind fun x => (tru x.d).bind fun k => some (.val (.bl (!k)))
theorem de_one {op} (h : DE X a ga) : DE X (.BoolOp op [a] pos) ga := ⟨pe_one h.pe⟩
theorem de_and (ha : DE X a ga) (hb : DE X (.BoolOp .And (b :: rest) pos) gb) : DE X (.BoolOp .And (a :: b :: rest) pos) (gAnd ga gb) := by
  refine ⟨pe_imp (pe_andT ha.pe hb.pe) fun σ H Q h => ?_⟩
  obtain ⟨B, C, δ, Φ, c, S, e, k⟩ := h
  unfold gAnd at e
  cases e1 : ga δ with
  | none => rw [e1] at e; cases e
  | some x =>
    rw [e1] at e
    simp only [Option.bind_some] at e
    cases e2 : tru x.d with
    | none => rw [e2] at e; cases e
    | some t =>
      rw [e2] at e
      simp only [Option.bind_some] at e
      refine ⟨B, C, δ, Φ, x, S, e1, fun v H' φ s q f n => ⟨t, tru_v (q.rp S.bc (S.ch.trans s)) e2, ?_⟩⟩
      cases t with
      | true => rw [if_pos rfl] at e ⊢; exact ⟨B, C, δ, Φ, c, S.same s, e, fun v2 H2 φ2 s2 q2 f2 n2 => k v2 H2 φ2 (s.trans s2) q2 (fun a ha => s.free (f2 a ha)) n2⟩
      | false => rw [if_neg (by decide)] at e ⊢; cases e; exact k v H' φ s q f n
theorem de_or (ha : DE X a ga) (hb : DE X (.BoolOp .Or (b :: rest) pos) gb) : DE X (.BoolOp .Or (a :: b :: rest) pos) (gOr ga gb) := by
  refine ⟨pe_imp (pe_orT ha.pe hb.pe) fun σ H Q h => ?_⟩
  obtain ⟨B, C, δ, Φ, c, S, e, k⟩ := h
  unfold gOr at e
  cases e1 : ga δ with
  | none => rw [e1] at e; cases e
  | some x =>
    rw [e1] at e
    simp only [Option.bind_some] at e
    cases e2 : tru x.d with
    | none => rw [e2] at e; cases e
    | some t =>
      rw [e2] at e
      simp only [Option.bind_some] at e
      refine ⟨B, C, δ, Φ, x, S, e1, fun v H' φ s q f n => ⟨t, tru_v (q.rp S.bc (S.ch.trans s)) e2, ?_⟩⟩
      cases t with
      | false => rw [if_neg (by decide)] at e ⊢; exact ⟨B, C, δ, Φ, c, S.same s, e, fun v2 H2 φ2 s2 q2 f2 n2 => k v2 H2 φ2 (s.trans s2) q2 (fun a ha => s.free (f2 a ha)) n2⟩
      | true => rw [if_pos rfl] at e ⊢; cases e; exact k v H' φ s q f n
theorem de_not (ha : DE X a ga) : DE X (.UnaryOp .Not a pos) (gNot ga) := by
  refine ⟨pe_imp (pe_notT ha.pe) fun σ H Q h => ?_⟩
  obtain ⟨B, C, δ, Φ, c, S, e, k⟩ := h
  unfold gNot at e
  cases e1 : ga δ with
  | none => rw [e1] at e; cases e
  | some x =>
    rw [e1] at e
    simp only [Option.bind_some] at e
    cases e2 : tru x.d with
    | none => rw [e2] at e; cases e
    | some t =>
      rw [e2] at e
      cases e
      exact ⟨B, C, δ, Φ, x, S, e1, fun v H' φ s q f n => ⟨t, tru_v (q.rp S.bc (S.ch.trans s)) e2, k _ H' [] s ⟨rfl, rfl, by unfold Rp; rfl⟩ (fun _ z => by cases z) List.nodup_nil⟩⟩
def gIfE (c : GT) (ga gb : G) : G := fun δ => (c δ).bind fun k => if k = true then ga δ else gb δ
theorem de_if {gc : GT} (hc : DT X c gc) (ha : DE X a ga) (hb : DE X b gb) : DE X (.IfExp c a b pos) (gIfE gc ga gb) := by
  refine ⟨pe_imp (pe_ifExp hc.pt ha.pe hb.pe) fun σ H Q h => ?_⟩
  obtain ⟨B, C, δ, Φ, r, S, e, k⟩ := h
  unfold gIfE at e
  cases e1 : gc δ with
  | none => rw [e1] at e; cases e
  | some t =>
    rw [e1] at e
    simp only [Option.bind_some] at e
    refine ⟨B, C, δ, Φ, t, S, e1, fun H' s => ?_⟩
    cases t with
    | true => rw [if_pos rfl] at e ⊢; exact ⟨B, C, δ, Φ, r, S.same s, e, fun v2 H2 φ2 s2 q2 f2 n2 => k v2 H2 φ2 (s.trans s2) q2 (fun a ha => s.free (f2 a ha)) n2⟩
    | false => rw [if_neg (by decide)] at e ⊢; exact ⟨B, C, δ, Φ, r, S.same s, e, fun v2 H2 φ2 s2 q2 f2 n2 => k v2 H2 φ2 (s.trans s2) q2 (fun a ha => s.free (f2 a ha)) n2⟩
end
end DL

set_option Elab.async false
set_option linter.all false
set_option maxRecDepth 100000
set_option maxHeartbeats 4000000
/-! D3: operators, subscripts, displays, calls over plain data. -/
namespace DL
open PySem PySem.Spec PyProof.Rows L2
mutual
def pd : D → PyData
  | .non => .none
  | .bl b => .bool b
  | .int i => .int i
  | .str x => .str x
  | .tup ds => .tuple (pdL ds)
  | .lst ds => .list (pdL ds)
  | .scr ns => .list (ns.map .int)
def pdL : List D → List PyData
  | [] => []
  | d :: ds => pd d :: pdL ds
end
section
variable {K : PySem.W.Frag} {B C H H' : Hp}
theorem intsDp : ∀ ns : List Int, DpAll K H (ns.map V.int) (ns.map PyData.int)
  | [] => .nil
  | n :: ns => .cons (.int n) (intsDp ns)
mutual
theorem Rp.dp : ∀ (d : D) (v : V), Rp K H d v → Dp K H v (pd d)
  | .non, _, h => by unfold Rp at h; subst h; unfold pd; exact .non
  | .bl _, _, h => by unfold Rp at h; subst h; unfold pd; exact .bl _
  | .int _, _, h => by unfold Rp at h; subst h; unfold pd; exact .int _
  | .str _, _, h => by unfold Rp at h; subst h; unfold pd; exact .str _
  | .tup ds, _, h => by
    unfold Rp at h; unfold pd
    obtain ⟨a, xs, rfl, q, r⟩ := h
    exact .tup q (RpL.dp ds xs r)
  | .lst ds, _, h => by
    unfold Rp at h; unfold pd
    obtain ⟨a, xs, rfl, q, r⟩ := h
    exact .lst (SqL.of q) (RpL.dp ds xs r)
  | .scr ns, _, h => by
    unfold Rp at h; unfold pd
    obtain ⟨a, rfl, q⟩ := h
    exact .lst q (intsDp ns)
theorem RpL.dp : ∀ (ds : List D) (vs : List V), RpL K H ds vs → DpAll K H vs (pdL ds)
  | [], _, h => by unfold RpL at h; subst h; unfold pdL; exact .nil
  | d :: ds, _, h => by
    unfold RpL at h; unfold pdL
    obtain ⟨x, ys, rfl, q, r⟩ := h
    exact .cons (Rp.dp d x q) (RpL.dp ds ys r)
end
theorem rr_bl {b : Bool} : RR K B C H (.val (.bl b)) (.bl b) [] := ⟨rfl, rfl, by unfold Rp; rfl⟩
theorem rr_int {i : Int} : RR K B C H (.val (.int i)) (.int i) [] := ⟨rfl, rfl, by unfold Rp; rfl⟩
theorem rr_str {i : Str} : RR K B C H (.val (.str i)) (.str i) [] := ⟨rfl, rfl, by unfold Rp; rfl⟩
theorem rr_non : RR K B C H (.val .non) .non [] := ⟨rfl, rfl, by unfold Rp; rfl⟩
end
theorem same_upd {H : Hp} {p : Addr} {o : HO} (h : H p = none) : Same H (upd H p o) := fun b u e => by
  rw [upd_ne (ne_of_none e h)]; exact e
theorem OpR.or {X : Cx} {f : Value → Value → Sem Value} {r r' : R2} (h : OpR X f r) (h' : OpR X f r') : OpR X f (fun x y H Q => r x y H Q ∨ r' x y H Q) := by
  intro pins s σ H x y v u Q I rx ry q
  rcases q with q | q
  · exact h pins s σ H x y v u Q I rx ry q
  · exact h' pins s σ H x y v u Q I rx ry q
/-- equality -/
def eqOk (d : D) : Bool := SeqAt.shaped (pd d)
def eqB (d e : D) : Bool := PyData.eqv (pd d) (pd e)
def eqD (d e : D) : Option R := if eqOk d = true ∧ eqOk e = true then some (.val (.bl (eqB d e))) else none
def neD (d e : D) : Option R := if eqOk d = true ∧ eqOk e = true then some (.val (.bl (!eqB d e))) else none
section
variable {X : Cx}
theorem no_fresh {H : Hp} : ∀ a ∈ ([] : List Addr), H a = none := fun _ z => by cases z
theorem od_eq {k : Nat} (hr : Room k X.A) : OpD X (compareOp .Eq) eqD := by
  refine ⟨_, op_eqD hr.units, fun B C H x y Q d e c hx hy h k => ?_⟩
  unfold eqD at h
  split at h
  · rename_i hz
    cases h
    exact ⟨pd d, pd e, Rp.dp _ _ hx, Rp.dp _ _ hy, hz.1, hz.2, k _ H [] (Same.refl _) rr_bl no_fresh List.nodup_nil⟩
  · cases h
theorem od_ne {k : Nat} (hr : Room k X.A) : OpD X (compareOp .NotEq) neD := by
  refine ⟨_, op_neD hr.units, fun B C H x y Q d e c hx hy h k => ?_⟩
  unfold neD at h
  split at h
  · rename_i hz
    cases h
    exact ⟨pd d, pd e, Rp.dp _ _ hx, Rp.dp _ _ hy, hz.1, hz.2, k _ H [] (Same.refl _) rr_bl no_fresh List.nodup_nil⟩
  · cases h
/-- two ints -/
def iiD (f : Int → Int → Option D) : D → D → Option R
  | .int i, .int j => (f i j).map .val
  | _, _ => none
theorem iiD_some {f : Int → Int → Option D} {d e : D} {c : R} (h : iiD f d e = some c) : ∃ i j z, d = .int i ∧ e = .int j ∧ f i j = some z ∧ c = .val z := by
  unfold iiD at h
  split at h
  · rename_i i j
    cases q : f i j with
    | none => rw [q] at h; cases h
    | some z => rw [q] at h; cases h; exact ⟨i, j, z, rfl, rfl, q, rfl⟩
  · cases h
def ltI : D → D → Option R := iiD fun i j => some (.bl (decide (i < j)))
def leD : D → D → Option R := iiD fun i j => some (.bl (decide (i ≤ j)))
def gtD : D → D → Option R := iiD fun i j => some (.bl (decide (j < i)))
def geD : D → D → Option R := iiD fun i j => some (.bl (decide (j ≤ i)))
def subD : D → D → Option R := iiD fun i j => some (.int (i - j))
def mulD : D → D → Option R := iiD fun i j => if (-(2 ^ 64) < i ∧ i < 2 ^ 64) ∨ (-(2 ^ 64) < j ∧ j < 2 ^ 64) then some (.int (i * j)) else none
def fdivD : D → D → Option R := iiD fun i j => if 0 < j ∧ j < 1073741824 then some (.int (i / j)) else none
def modD : D → D → Option R := iiD fun i j => if 0 < j then some (.int (i % j)) else none
def powD : D → D → Option R := iiD fun i j => if 0 ≤ j ∧ j ≤ 1000000 ∧ i.natAbs < 2 ^ 64 then some (.int (i ^ j.toNat)) else none
theorem rp_int {K : PySem.W.Frag} {H : Hp} {i : Int} {v : V} (h : Rp K H (.int i) v) : v = .int i := by unfold Rp at h; exact h
theorem rp_str {K : PySem.W.Frag} {H : Hp} {i : Str} {v : V} (h : Rp K H (.str i) v) : v = .str i := by unfold Rp at h; exact h
theorem rp_non {K : PySem.W.Frag} {H : Hp} {v : V} (h : Rp K H .non v) : v = .non := by unfold Rp at h; exact h
theorem rp_bl {K : PySem.W.Frag} {H : Hp} {i : Bool} {v : V} (h : Rp K H (.bl i) v) : v = .bl i := by unfold Rp at h; exact h
theorem od_le : OpD X (compareOp .LtE) leD := by
  refine ⟨_, op_le, fun B C H x y Q d e c hx hy h k => ?_⟩
  obtain ⟨i, j, z, rfl, rfl, hz, rfl⟩ := iiD_some h
  cases hz
  exact ⟨i, j, rp_int hx, rp_int hy, k _ H [] (Same.refl _) rr_bl no_fresh List.nodup_nil⟩
theorem od_gt : OpD X (compareOp .Gt) gtD := by
  refine ⟨_, op_gt, fun B C H x y Q d e c hx hy h k => ?_⟩
  obtain ⟨i, j, z, rfl, rfl, hz, rfl⟩ := iiD_some h
  cases hz
  exact ⟨i, j, rp_int hx, rp_int hy, k _ H [] (Same.refl _) rr_bl no_fresh List.nodup_nil⟩
theorem od_ge : OpD X (compareOp .GtE) geD := by
  refine ⟨_, op_ge, fun B C H x y Q d e c hx hy h k => ?_⟩
  obtain ⟨i, j, z, rfl, rfl, hz, rfl⟩ := iiD_some h
  cases hz
  exact ⟨i, j, rp_int hx, rp_int hy, k _ H [] (Same.refl _) rr_bl no_fresh List.nodup_nil⟩
theorem od_sub : OpD X (binaryOp .Sub) subD := by
  refine ⟨_, op_sub, fun B C H x y Q d e c hx hy h k => ?_⟩
  obtain ⟨i, j, z, rfl, rfl, hz, rfl⟩ := iiD_some h
  cases hz
  exact ⟨i, j, rp_int hx, rp_int hy, k _ H [] (Same.refl _) rr_int no_fresh List.nodup_nil⟩
theorem od_mul : OpD X (binaryOp .Mult) mulD := by
  refine ⟨_, op_mul, fun B C H x y Q d e c hx hy h k => ?_⟩
  obtain ⟨i, j, z, rfl, rfl, hz, rfl⟩ := iiD_some h
  split at hz
  · rename_i hm
    cases hz
    exact ⟨i, j, rp_int hx, rp_int hy, hm, k _ H [] (Same.refl _) rr_int no_fresh List.nodup_nil⟩
  · cases hz
theorem od_fdiv : OpD X (binaryOp .FloorDiv) fdivD := by
  refine ⟨_, op_fdiv, fun B C H x y Q d e c hx hy h k => ?_⟩
  obtain ⟨i, j, z, rfl, rfl, hz, rfl⟩ := iiD_some h
  split at hz
  · rename_i hm
    cases hz
    exact ⟨i, j, rp_int hx, rp_int hy, hm, k _ H [] (Same.refl _) rr_int no_fresh List.nodup_nil⟩
  · cases hz
theorem od_mod : OpD X (binaryOp .Mod) modD := by
  refine ⟨_, op_mod, fun B C H x y Q d e c hx hy h k => ?_⟩
  obtain ⟨i, j, z, rfl, rfl, hz, rfl⟩ := iiD_some h
  split at hz
  · rename_i hm
    cases hz
    exact ⟨i, j, rp_int hx, rp_int hy, hm, k _ H [] (Same.refl _) rr_int no_fresh List.nodup_nil⟩
  · cases hz
theorem od_pow : OpD X (binaryOp .Pow) powD := by
  refine ⟨_, op_pow, fun B C H x y Q d e c hx hy h k => ?_⟩
  obtain ⟨i, j, z, rfl, rfl, hz, rfl⟩ := iiD_some h
  split at hz
  · rename_i hm
    cases hz
    exact ⟨i, j, rp_int hx, rp_int hy, hm, k _ H [] (Same.refl _) rr_int no_fresh List.nodup_nil⟩
  · cases hz
/-- all ints -/
def intL : List D → Option (List Int)
  | [] => some []
  | .int i :: ds => (intL ds).map (i :: ·)
  | _ :: _ => none
theorem intL_some {K : PySem.W.Frag} {H : Hp} : ∀ {ds : List D} {ns : List Int} {xs : List V}, intL ds = some ns → RpL K H ds xs → xs = ns.map V.int
  | [], _, _, h, r => by cases h; unfold RpL at r; rw [r]; rfl
  | .int i :: ds, _, _, h, r => by
    unfold intL at h
    cases q : intL ds with
    | none => rw [q] at h; cases h
    | some ms =>
      rw [q] at h; cases h
      unfold RpL at r
      obtain ⟨x, ys, rfl, r1, r2⟩ := r
      rw [rp_int r1, intL_some q r2]; rfl
  | .non :: _, _, _, h, _ => by cases h
  | .bl _ :: _, _, _, h, _ => by cases h
  | .str _ :: _, _, _, h, _ => by cases h
  | .tup _ :: _, _, _, h, _ => by cases h
  | .lst _ :: _, _, _, h, _ => by cases h
  | .scr _ :: _, _, _, h, _ => by cases h
def ltD (d e : D) : Option R := match d, e with
  | .int i, .int j => some (.val (.bl (decide (i < j))))
  | .tup ds, .tup es => (intL ds).bind fun ns => (intL es).map fun ms => .val (.bl (HT.lexLt ns ms))
  | _, _ => none
theorem od_lt {k : Nat} (hr : Room k X.A) : OpD X (compareOp .Lt) ltD := by
  refine ⟨_, OpR.or op_lt (op_ltT hr.units0), fun B C H x y Q d e c hx hy h k => ?_⟩
  unfold ltD at h
  split at h
  · rename_i i j
    cases h
    exact .inl ⟨i, j, rp_int hx, rp_int hy, k _ H [] (Same.refl _) rr_bl no_fresh List.nodup_nil⟩
  · rename_i ds es
    cases e1 : intL ds with
    | none => rw [e1] at h; cases h
    | some ns =>
      cases e2 : intL es with
      | none => rw [e1, e2] at h; cases h
      | some ms =>
        rw [e1, e2] at h
        cases h
        unfold Rp at hx hy
        obtain ⟨a, xs, rfl, q1, r1⟩ := hx
        obtain ⟨b, ys, rfl, q2, r2⟩ := hy
        rw [intL_some e1 r1] at q1
        rw [intL_some e2 r2] at q2
        exact .inr ⟨a, b, ns, ms, rfl, rfl, q1, q2, k _ H [] (Same.refl _) rr_bl no_fresh List.nodup_nil⟩
  · cases h
def isNon : D → Bool
  | .non => true
  | _ => false
def isN (d e : D) : Option R := match e with
  | .non => some (.val (.bl (isNon d)))
  | _ => none
def notN (d e : D) : Option R := match e with
  | .non => some (.val (.bl (!isNon d)))
  | _ => none
theorem non_iff {K : PySem.W.Frag} {H : Hp} {d : D} {v : V} (h : Rp K H d v) : decide (v = V.non) = isNon d := by
  cases d with
  | non => unfold Rp at h; subst h; rfl
  | bl => unfold Rp at h; subst h; rfl
  | int => unfold Rp at h; subst h; rfl
  | str => unfold Rp at h; subst h; rfl
  | tup => unfold Rp at h; obtain ⟨a, xs, rfl, _⟩ := h; rfl
  | lst => unfold Rp at h; obtain ⟨a, xs, rfl, _⟩ := h; rfl
  | scr => unfold Rp at h; obtain ⟨a, rfl, _⟩ := h; rfl
theorem od_is : OpD X (compareOp .Is) isN := by
  refine ⟨_, op_isN, fun B C H x y Q d e c hx hy h k => ?_⟩
  unfold isN at h
  split at h
  · cases h
    refine ⟨rp_non hy, ?_⟩
    rw [non_iff hx]
    exact k _ H [] (Same.refl _) rr_bl no_fresh List.nodup_nil
  · cases h
theorem od_isnot : OpD X (compareOp .IsNot) notN := by
  refine ⟨_, op_notN, fun B C H x y Q d e c hx hy h k => ?_⟩
  unfold notN at h
  split at h
  · cases h
    refine ⟨rp_non hy, ?_⟩
    rw [non_iff hx]
    exact k _ H [] (Same.refl _) rr_bl no_fresh List.nodup_nil
  · cases h
/-- + of ints, texts, tuples, lists -/
def addD (d e : D) : Option R := match d, e with
  | .int i, .int j => some (.val (.int (i + j)))
  | .str x, .str y => if x.length + y.length ≤ sizeLine then some (.val (.str (x ++ y))) else none
  | .tup ds, .tup es => if ds.length + es.length ≤ sizeLine ∧ puL ds = true ∧ puL es = true then some (.val (.tup (ds ++ es))) else none
  | .lst ds, .lst es => if ds.length + es.length ≤ sizeLine ∧ puL ds = true ∧ puL es = true then some (.own (.lst (ds ++ es))) else none
  | _, _ => none
theorem cons_ne {α β : Type} {xs : List α} {ys : List β} (h : xs.length = ys.length) : xs = [] ↔ ys = [] := by
  cases xs <;> cases ys <;> simp_all
theorem od_add : OpD X (binaryOp .Add) addD := by
  refine ⟨_, OpR.or op_add (OpR.or op_add_str (OpR.or op_catA op_cat)), fun B C H x y Q d e c hx hy h k => ?_⟩
  unfold addD at h
  split at h
  · rename_i i j
    cases h
    exact .inl ⟨i, j, rp_int hx, rp_int hy, k _ H [] (Same.refl _) rr_int no_fresh List.nodup_nil⟩
  · rename_i i j
    split at h
    · rename_i hz
      cases h
      exact .inr (.inl ⟨i, j, rp_str hx, rp_str hy, hz, k _ H [] (Same.refl _) rr_str no_fresh List.nodup_nil⟩)
    · cases h
  · rename_i ds es
    split at h
    · rename_i hz
      cases h
      have hx0 := hx
      have hy0 := hy
      unfold Rp at hx hy
      obtain ⟨a, xs, rfl, q1, r1⟩ := hx
      obtain ⟨b, ys, rfl, q2, r2⟩ := hy
      have pp : pu (.tup (ds ++ es)) = true := by unfold pu; rw [puL_append, hz.2.1, hz.2.2]; rfl
      refine .inr (.inr (.inl ⟨a, b, xs, ys, rfl, rfl, q1, q2, by rw [r1.length, r2.length]; exact hz.1, fun z => ?_, fun z1 z2 => ?_, fun z1 z2 p hp => ?_⟩))
      · have e1 : ds = [] := (cons_ne r1.length).mp z
        subst e1
        exact k _ H [] (Same.refl _) ⟨rfl, pp, hy0⟩ no_fresh List.nodup_nil
      · have e1 : es = [] := (cons_ne r2.length).mp z2
        subst e1
        rw [List.append_nil] at pp k
        exact k _ H [] (Same.refl _) ⟨rfl, pp, hx0⟩ no_fresh List.nodup_nil
      · refine k _ _ [] (same_upd hp) ⟨rfl, pp, ?_⟩ no_fresh List.nodup_nil
        unfold Rp
        exact ⟨p, _, rfl, SqT.of upd_same, (RpL.append r1 r2).mono (same_upd hp)⟩
    · cases h
  · rename_i ds es
    split at h
    · rename_i hz
      cases h
      unfold Rp at hx hy
      obtain ⟨a, xs, rfl, q1, r1⟩ := hx
      obtain ⟨b, ys, rfl, q2, r2⟩ := hy
      refine .inr (.inr (.inr ⟨a, b, xs, ys, rfl, rfl, q1, q2, by rw [r1.length, r2.length]; exact hz.1, fun p hp => ?_⟩))
      refine k _ _ [p] (same_upd hp) ?_ (fun a ha => by rw [List.mem_singleton.mp ha]; exact hp) (by simp)
      show Ow X.K _ (.lst (ds ++ es)) _ _
      unfold Ow
      exact ⟨p, _, [], rfl, upd_same, OwL.pu _ _ (by rw [puL_append, hz.2.1, hz.2.2]; rfl) ((RpL.append r1 r2).mono (same_upd hp)), rfl⟩
    · cases h
  · cases h
end
end DL

set_option Elab.async false
set_option linter.all false
set_option maxRecDepth 100000
set_option maxHeartbeats 4000000
/-! D4: subscripts, slices, displays, calls over plain data. -/
namespace DL
open PySem PySem.Spec PyProof.Rows L2
/-- an element is held as its holder -/
def R.elt (r : R) (d : D) : R := if pu d = true then .val d else match r with
  | .val _ => .bor d | .par _ => .par d | .fr _ => .fr d | .bor _ => .bor d | .own _ => .bor d
section
variable {K : PySem.W.Frag} {B C H H' : Hp}
theorem RR.elt {r : R} {v : V} {φ : List Addr} (bc : Same B C) (ch : Same C H) (h : RR K B C H r v φ) : ∃ Z : Hp, Same Z H ∧ Rp K Z r.d v ∧ ∀ d w, Rp K Z d w → RR K B C H (r.elt d) w [] := by
  have pv : ∀ (Z : Hp), Same Z H → ∀ d w, pu d = true → Rp K Z d w → RR K B C H (.val d) w [] := fun Z s d w p q => ⟨rfl, p, Rp.mono s _ _ q⟩
  cases r with
  | val d0 =>
    refine ⟨H, Same.refl _, h.2.2, fun d w q => ?_⟩
    unfold R.elt; split
    · rename_i p; exact pv H (Same.refl _) d w p q
    · exact ⟨rfl, q⟩
  | par d0 =>
    refine ⟨B, bc.trans ch, h.2, fun d w q => ?_⟩
    unfold R.elt; split
    · rename_i p; exact pv B (bc.trans ch) d w p q
    · exact ⟨rfl, q⟩
  | fr d0 =>
    refine ⟨C, ch, h.2, fun d w q => ?_⟩
    unfold R.elt; split
    · rename_i p; exact pv C ch d w p q
    · exact ⟨rfl, q⟩
  | bor d0 =>
    refine ⟨H, Same.refl _, h.2, fun d w q => ?_⟩
    unfold R.elt; split
    · rename_i p; exact pv H (Same.refl _) d w p q
    · exact ⟨rfl, q⟩
  | own d0 =>
    refine ⟨H, Same.refl _, Ow.rp _ _ _ h, fun d w q => ?_⟩
    unfold R.elt; split
    · rename_i p; exact pv H (Same.refl _) d w p q
    · exact ⟨rfl, q⟩
theorem ixN_len {n m : Nat} (h : n = m) (i : Int) : ixN n i = ixN m i := by rw [h]
theorem RpL.atI {ds : List D} {xs : List V} {i : Int} {d : D} (r : RpL K H ds xs) (h : L2.atI ds i = some d) : ∃ w, L2.atI xs i = some w ∧ Rp K H d w := by
  unfold L2.atI at h ⊢
  rw [r.length]
  cases e : ixN ds.length i with
  | none => rw [e] at h; cases h
  | some j =>
    rw [e] at h
    exact RpL.at r h
end
/-- a[b] -/
def ixR (x : R) (y : D) : Option R := match y with
  | .int i => (match x.d with
    | .tup ds => (atI ds i).map x.elt
    | .lst ds => (atI ds i).map x.elt
    | .scr ns => (atI ns i).map fun n => .val (.int n)
    | .str z => if z.length ≤ sizeLine then (atI z.cps.toList i).map fun c => .val (.str ⟨#[c]⟩) else none
    | _ => none)
  | _ => none
def gIx (ga gb : G) : G := fun δ => (ga δ).bind fun x => (gb δ).bind fun y => ixR x y.d
section
variable {X : Cx} {e a b c : Expr} {pos : Pos} {ga gb gc : G}
theorem bind2_some {α β γ : Type} {x : Option α} {y : Option β} {f : α → β → Option γ} {z : γ} (h : (x.bind fun u => y.bind fun w => f u w) = some z) : ∃ u w, x = some u ∧ y = some w ∧ f u w = some z := by
  cases x with
  | none => cases h
  | some u =>
    cases y with
    | none => cases h
    | some w => exact ⟨u, w, rfl, rfl, h⟩
theorem bind1_some {α γ : Type} {x : Option α} {f : α → Option γ} {z : γ} (h : x.bind f = some z) : ∃ u, x = some u ∧ f u = some z := by
  cases x with
  | none => cases h
  | some u => exact ⟨u, rfl, h⟩
theorem map_some {α γ : Type} {x : Option α} {f : α → γ} {z : γ} (h : x.map f = some z) : ∃ u, x = some u ∧ f u = z := by
  cases x with
  | none => cases h
  | some u => exact ⟨u, rfl, Option.some.inj h⟩
theorem atI_map {α β : Type} {f : α → β} {xs : List α} {i : Int} {y : α} (h : atI xs i = some y) : atI (xs.map f) i = some (f y) := by
  unfold atI at h ⊢
  rw [List.length_map]
  cases e : ixN xs.length i with
  | none => rw [e] at h; cases h
  | some j =>
    rw [e] at h
    have h : xs[j]? = some y := h
    show (xs.map f)[j]? = some (f y)
    rw [List.getElem?_map, h]; rfl
theorem de_ix (ha : DE X a ga) (hb : DE X b gb) (hs : PlainIx b := by intro _ _; rfl) : DE X (.Subscript a b pos) (gIx ga gb) := by
  refine ⟨pe_imp (pe_ix ix_seq ha.pe hb.pe hs) fun σ H Q h => ?_⟩
  obtain ⟨B, C, δ, Φ, r, S, e, k⟩ := h
  obtain ⟨x, y, e1, e2, e3⟩ := bind2_some e
  refine ⟨B, C, δ, Φ, x, S, e1, fun u H1 φ1 s1 q1 f1 n1 => ⟨B, C, δ, Φ, y, S.same s1, e2, fun w H2 φ2 s2 q2 _ _ => ?_⟩⟩
  have s12 := s1.trans s2
  have ch := S.ch.trans s12
  obtain ⟨Z, sz, qz, el⟩ := RR.elt S.bc ch (q1.same s2)
  have qy := q2.rp S.bc ch
  unfold ixR at e3
  split at e3
  · rename_i i hy
    rw [hy] at qy
    split at e3
    · rename_i ds hx
      rw [hx] at qz
      obtain ⟨d, e4, rfl⟩ := map_some e3
      unfold Rp at qz
      obtain ⟨p, xs, rfl, hp, r⟩ := qz
      obtain ⟨w', e5, q5⟩ := r.atI e4
      exact .inr (.inl ⟨p, xs, i, w', rfl, rp_int qy, Same.seqT sz hp, e5, k w' H2 [] s12 (el d w' q5) no_fresh List.nodup_nil⟩)
    · rename_i ds hx
      rw [hx] at qz
      obtain ⟨d, e4, rfl⟩ := map_some e3
      unfold Rp at qz
      obtain ⟨p, xs, rfl, hp, r⟩ := qz
      obtain ⟨w', e5, q5⟩ := r.atI e4
      exact .inl ⟨p, xs, i, w', rfl, rp_int qy, SqL.of (sz _ _ hp), e5, k w' H2 [] s12 (el d w' q5) no_fresh List.nodup_nil⟩
    · rename_i ns hx
      rw [hx] at qz
      obtain ⟨d, e4, rfl⟩ := map_some e3
      unfold Rp at qz
      obtain ⟨p, rfl, hp⟩ := qz
      exact .inl ⟨p, _, i, _, rfl, rp_int qy, Same.seq sz hp, atI_map e4, k _ H2 [] s12 rr_int no_fresh List.nodup_nil⟩
    · rename_i z hx
      rw [hx] at qz
      split at e3
      · rename_i hz
        obtain ⟨d, e4, rfl⟩ := map_some e3
        exact .inr (.inr ⟨z, i, d, rp_str qz, rp_int qy, hz, e4, k _ H2 [] s12 rr_str no_fresh List.nodup_nil⟩)
      · cases e3
    · cases e3
  · cases e3

/-! ### slices -/
def cutL {α : Type} (xs : List α) (lo hi : Option Int) : List α := (xs.drop (HT.sIx xs.length 0 lo)).take (HT.sIx xs.length xs.length hi - HT.sIx xs.length 0 lo)
theorem cutV_eq (xs : List V) (lo hi : Option Int) : cutV xs lo hi = cutL xs lo hi := rfl
theorem RpL.cut {K : PySem.W.Frag} {H : Hp} {ds : List D} {xs : List V} (r : RpL K H ds xs) (lo hi : Option Int) : RpL K H (cutL ds lo hi) (cutL xs lo hi) := by
  unfold cutL
  rw [r.length]
  exact (r.drop _).take _
theorem puL_cut {ds : List D} (lo hi : Option Int) (h : puL ds = true) : puL (cutL ds lo hi) = true := puL_take _ (puL_drop _ h)
theorem cutL_whole {α : Type} {xs : List α} {lo hi : Option Int} (h : HT.sIx xs.length 0 lo = 0 ∧ HT.sIx xs.length xs.length hi = xs.length) : cutL xs lo hi = xs := by
  unfold cutL
  rw [h.1, h.2]
  simp
def slD (d : D) (lo hi : Option Int) : Option R := match d with
  | .tup ds => if puL ds = true then some (.val (.tup (cutL ds lo hi))) else none
  | .lst ds => if puL ds = true then some (.own (.lst (cutL ds lo hi))) else none
  | _ => none
abbrev GO := DSt → Option (Option Int)
def gNoP : GO := fun _ => some none
def gP (g : G) : GO := fun δ => (g δ).bind fun r => match r.d with | .int i => some (some i) | _ => none
def tDO (K : PySem.W.Frag) (g : GO) : TO := fun σ H Q => ∃ (B C : Hp) (δ : DSt) (Φ : Nat → List Addr) (o : Option Int), RSt K B C σ H δ Φ ∧ g δ = some o ∧ ∀ H', Same H H' → Q o H'
structure DO (X : Cx) (e : Option Expr) (g : GO) : Prop where
  po : PO X e (tDO X.K g)
theorem po_imp {e : Option Expr} {t t' : TO} (h : PO X e t) (f : ∀ σ H Q, t' σ H Q → t σ H Q) : PO X e t' := ⟨fun pins s σ H Q I q => h.run pins s σ H Q I (f σ H Q q)⟩
theorem do_none : DO X none gNoP := ⟨po_imp po_none fun σ H Q h => by
  obtain ⟨B, C, δ, Φ, r, S, e, k⟩ := h
  cases e
  exact k H (Same.refl _)⟩
theorem do_some (ha : DE X a ga) : DO X (some a) (gP ga) := ⟨po_imp (po_some ha.pe) fun σ H Q h => by
  obtain ⟨B, C, δ, Φ, r, S, e, k⟩ := h
  obtain ⟨x, e1, e2⟩ := bind1_some e
  refine ⟨B, C, δ, Φ, x, S, e1, fun v H' φ s q _ _ => ?_⟩
  have q := q.rp S.bc (S.ch.trans s)
  split at e2
  · rename_i i hx
    rw [hx] at q
    cases e2
    exact ⟨i, rp_int q, k H' s⟩
  · cases e2⟩
def gSl (ga : G) (gl gh : GO) : G := fun δ => (ga δ).bind fun x => (gl δ).bind fun l => (gh δ).bind fun u => slD x.d l u
theorem de_sl {lo hi : Option Expr} {gl gh : GO} {p2 : Pos} (ha : DE X a ga) (hl : DO X lo gl) (hh : DO X hi gh) : DE X (.Subscript a (.Slice lo hi none p2) pos) (gSl ga gl gh) := by
  refine ⟨pe_imp (pe_slice (SlR.or sl_tupA sl_list) ha.pe hl.po hh.po) fun σ H Q h => ?_⟩
  obtain ⟨B, C, δ, Φ, r, S, e, k⟩ := h
  obtain ⟨x, e1, e⟩ := bind1_some e
  obtain ⟨l, e2, e⟩ := bind1_some e
  obtain ⟨u, e3, e⟩ := bind1_some e
  refine ⟨B, C, δ, Φ, x, S, e1, fun v H1 φ1 s1 q1 _ _ => ⟨B, C, δ, Φ, l, S.same s1, e2, fun H2 s2 => ⟨B, C, δ, Φ, u, S.same (s1.trans s2), e3, fun H3 s3 => ?_⟩⟩⟩
  have s13 := (s1.trans s2).trans s3
  have q := (q1.same (s2.trans s3)).rp S.bc (S.ch.trans s13)
  unfold slD at e
  split at e
  · rename_i ds hx
    rw [hx] at q
    have q0 := q
    split at e
    · rename_i hp
      cases e
      unfold Rp at q
      obtain ⟨p, xs, rfl, hq, r⟩ := q
      refine .inl ⟨p, xs, rfl, hq, fun hw => ?_, fun hw t ht => ?_⟩
      · have e4 : cutL ds l u = ds := cutL_whole (by rw [← r.length]; exact hw)
        rw [e4] at k
        exact k _ H3 [] s13 ⟨rfl, by unfold pu; exact hp, q0⟩ no_fresh List.nodup_nil
      · refine k _ _ [] (s13.trans (same_upd ht)) ⟨rfl, by unfold pu; exact puL_cut _ _ hp, ?_⟩ no_fresh List.nodup_nil
        unfold Rp
        exact ⟨t, _, rfl, SqT.of upd_same, (r.cut l u).mono (same_upd ht)⟩
    · cases e
  · rename_i ds hx
    rw [hx] at q
    split at e
    · rename_i hp
      cases e
      unfold Rp at q
      obtain ⟨p, xs, rfl, hq, r⟩ := q
      refine .inr ⟨p, xs, rfl, SqL.of hq, fun t ht => ?_⟩
      refine k _ _ [t] (s13.trans (same_upd ht)) ?_ (fun a ha => by rw [List.mem_singleton.mp ha]; exact s13.free ht) (by simp)
      show Ow X.K _ (.lst _) _ _
      unfold Ow
      exact ⟨t, _, [], rfl, upd_same, OwL.pu _ _ (puL_cut _ _ hp) ((r.cut l u).mono (same_upd ht)), rfl⟩
    · cases e
  · cases e

/-! ### arguments, displays -/
variable {es : List Expr} {gs : GA}
def gNil : GA := fun _ => some []
def gCons (g : G) (gs : GA) : GA := fun δ => (g δ).bind fun x => (gs δ).bind fun xs => some (x :: xs)
theorem da_nil : DA X [] gNil := ⟨pa_imp pa_nil fun σ H Q h => by
  obtain ⟨B, C, δ, Φ, r, S, e, k⟩ := h
  cases e
  exact k [] H [] (Same.refl _) ⟨rfl, rfl⟩ no_fresh List.nodup_nil⟩
theorem da_cons (ha : DE X a ga) (hr : DA X es gs) (hs : starEach (a :: es) X.env = (false, eval a X.env) :: starEach es X.env := by rfl) : DA X (a :: es) (gCons ga gs) := ⟨pa_imp (pa_cons ha.pe hr.pa hs) fun σ H Q h => by
  obtain ⟨B, C, δ, Φ, r, S, e, k⟩ := h
  obtain ⟨x, xs, e1, e2, e3⟩ := bind2_some e
  cases e3
  refine ⟨B, C, δ, Φ, x, S, e1, fun v H1 φ1 s1 q1 f1 n1 => ⟨B, C, δ, Φ, xs, S.same s1, e2, fun vs H2 φ2 s2 q2 f2 n2 => ?_⟩⟩
  refine k (v :: vs) H2 (φ1 ++ φ2) (s1.trans s2) ⟨v, vs, φ1, φ2, rfl, q1.same s2, q2, rfl⟩ (fun a ha => ?_) ?_
  · rcases List.mem_append.mp ha with ha | ha
    · exact f1 a ha
    · exact s1.free (f2 a ha)
  · refine List.nodup_append.mpr ⟨n1, n2, fun a ha b hb z => ?_⟩
    subst z
    obtain ⟨ys, e5⟩ := q1.trk a ha
    rw [f2 a hb] at e5
    cases e5⟩
/-- a tuple of these -/
def mkTup (rs : List R) : Option R := if rs.length ≤ sizeLine then (if allVal rs = true then some (.val (.tup (rs.map R.d))) else if allOwn rs = true then some (.own (.tup (rs.map R.d))) else some (.bor (.tup (rs.map R.d)))) else none
def mkLst (rs : List R) : Option R := if rs.length ≤ sizeLine ∧ allOwn rs = true then some (.own (.lst (rs.map R.d))) else none
theorem RRL.length {K : PySem.W.Frag} {B C H : Hp} : ∀ {rs : List R} {vs : List V} {φ : List Addr}, RRL K B C H rs vs φ → vs.length = rs.length
  | [], _, _, h => by rw [h.1]; rfl
  | r :: rs, _, _, ⟨v, us, φ1, φ2, e1, q, k, e2⟩ => by rw [e1]; simp [RRL.length k]
def gTup (gs : GA) : G := fun δ => (gs δ).bind mkTup
def gLst (gs : GA) : G := fun δ => (gs δ).bind mkLst
theorem de_tup {x1} (h : DA X es gs) : DE X (.Tuple es x1 pos) (gTup gs) := by
  refine ⟨pe_imp (pe_tup h.pa) fun σ H Q h => ?_⟩
  obtain ⟨B, C, δ, Φ, r, S, e, k⟩ := h
  obtain ⟨rs, e1, e2⟩ := bind1_some e
  refine ⟨B, C, δ, Φ, rs, S, e1, fun vs H1 φ s q f n => ?_⟩
  have ch := S.ch.trans s
  have rp := q.rp S.bc ch
  unfold mkTup at e2
  split at e2
  · rename_i hl
    refine ⟨by rw [q.length]; exact hl, fun p hp => ?_⟩
    have s' := s.trans (same_upd (o := .tup vs) hp)
    have rp' : Rp X.K (upd H1 p (.tup vs)) (.tup (rs.map R.d)) (.ref p) := by
      unfold Rp
      exact ⟨p, vs, rfl, SqT.of upd_same, rp.mono (same_upd hp)⟩
    split at e2
    · rename_i hv
      cases e2
      obtain ⟨h1, h2⟩ := RRL.val hv q
      exact k _ _ [] s' ⟨rfl, by unfold pu; exact h2, rp'⟩ no_fresh List.nodup_nil
    · split at e2
      · rename_i ho
        cases e2
        refine k _ _ φ s' ?_ f n
        show Ow X.K _ (.tup _) _ _
        unfold Ow
        exact ⟨p, vs, rfl, SqT.of upd_same, OwL.same (same_upd hp) (RRL.own ho q)⟩
      · cases e2
        exact k _ _ [] s' ⟨rfl, rp'⟩ no_fresh List.nodup_nil
  · cases e2
theorem de_lst (h : DA X es gs) : DE X (.List es pos) (gLst gs) := by
  refine ⟨pe_imp (pe_lst h.pa) fun σ H Q h => ?_⟩
  obtain ⟨B, C, δ, Φ, r, S, e, k⟩ := h
  obtain ⟨rs, e1, e2⟩ := bind1_some e
  refine ⟨B, C, δ, Φ, rs, S, e1, fun vs H1 φ s q f n => ?_⟩
  unfold mkLst at e2
  split at e2
  · rename_i hl
    cases e2
    refine ⟨by rw [q.length]; exact hl.1, fun p hp => ?_⟩
    refine k _ _ (p :: φ) (s.trans (same_upd hp)) ?_ (fun a ha => ?_) (List.nodup_cons.mpr ⟨fun ha => ?_, n⟩)
    · show Ow X.K _ (.lst _) _ _
      unfold Ow
      exact ⟨p, vs, φ, rfl, upd_same, OwL.same (same_upd hp) (RRL.own hl.2 q), rfl⟩
    · rcases List.mem_cons.mp ha with rfl | ha
      · exact s.free hp
      · exact f a ha
    · obtain ⟨ys, e5⟩ := q.trk p ha
      rw [hp] at e5; cases e5
  · cases e2

/-! ### calls of built-in things by data -/
def CallD (X : Cx) (f : Value) (op : List R → Option R) : Prop := ∃ r, CallR X f r ∧ ∀ (B C H : Hp) (vs : List V) (φ : List Addr) (Q : VK) (rs : List R) (c : R), Same B C → Same C H → RRL X.K B C H rs vs φ → φ.Nodup → op rs = some c →
  (∀ v H' φ', Same H H' → RR X.K B C H' c v φ' → (∀ a ∈ φ', H a = none ∨ a ∈ φ) → φ'.Nodup → Q v H') → r vs H Q
def gCB (op : List R → Option R) (gs : GA) : G := fun δ => (gs δ).bind op
theorem callD_use {f : Value} {op : List R → Option R} {r : List V → Hp → VK → Prop} (hp : ∀ (B C H : Hp) (vs : List V) (φ : List Addr) (Q : VK) (rs : List R) (c : R), Same B C → Same C H → RRL X.K B C H rs vs φ → φ.Nodup → op rs = some c →
  (∀ v H' φ', Same H H' → RR X.K B C H' c v φ' → (∀ a ∈ φ', H a = none ∨ a ∈ φ) → φ'.Nodup → Q v H') → r vs H Q) {σ : L2.St} {H : Hp} {Q : VK} (h : tD X.K (gCB op gs) σ H Q) : tCB r (tDA X.K gs) σ H Q := by
  obtain ⟨B, C, δ, Φ, c, S, e, k⟩ := h
  obtain ⟨rs, e1, e2⟩ := bind1_some e
  refine ⟨B, C, δ, Φ, rs, S, e1, fun vs H1 φ s q f n => ?_⟩
  refine hp B C H1 vs φ Q rs c S.bc (S.ch.trans s) q n e2 fun v H' φ' s' q' f' n' => k v H' φ' (s.trans s') q' (fun a ha => ?_) n'
  rcases f' a ha with z | z
  · exact s.free z
  · exact f a z
theorem de_callB {x : Str} {id : String} {op : List R → Option R} {p : Pos} (hc : CallD X (.builtin id) op) (hm : X.mg x = none) (hv : bootBuiltins x = some (.builtin id)) (ha : DA X (a :: es) gs) (hg : Gl X x := by rfl) (hn : x ≠ "__name__" := by decide) (hdb : (x == ("__debug__" : Str)) = false := by decide)
    (he : starEach (a :: es) X.env = (false, eval a X.env) :: starEach es X.env := by rfl) (hpl : (backTo pos (starEach es X.env)).any (·.1) = false := by rfl) : DE X (.Call (.Name x p) (a :: es) [] pos) (gCB op gs) := by
  obtain ⟨r, h1, h2⟩ := hc
  exact ⟨pe_imp (pe_callB h1 hg hm hv ha.pa hn hdb he hpl) fun σ H Q h => callD_use (f := .builtin id) h2 h⟩
theorem de_callTy {x : Str} {T : String} {op : List R → Option R} {p : Pos} (hc : CallD X (.type T) op) (hm : X.mg x = none) (hv : bootBuiltins x = some (.type T)) (ha : DA X (a :: es) gs) (hg : Gl X x := by rfl) (hn : x ≠ "__name__" := by decide) (hdb : (x == ("__debug__" : Str)) = false := by decide)
    (he : starEach (a :: es) X.env = (false, eval a X.env) :: starEach es X.env := by rfl) (hpl : (backTo pos (starEach es X.env)).any (·.1) = false := by rfl) : DE X (.Call (.Name x p) (a :: es) [] pos) (gCB op gs) := by
  obtain ⟨r, h1, h2⟩ := hc
  exact ⟨pe_imp (pe_callTy h1 hg hm hv ha.pa hn hdb he hpl) fun σ H Q h => callD_use (f := .type T) h2 h⟩
theorem CallR.or' {f : Value} {r r' : List V → Hp → VK → Prop} (h : CallR X f r) (h' : CallR X f r') : CallR X f (fun xs H Q => r xs H Q ∨ r' xs H Q) := CallR.or h h'
/-- one argument -/
theorem RRL.one {K : PySem.W.Frag} {B C H : Hp} {r : R} {vs : List V} {φ : List Addr} (h : RRL K B C H [r] vs φ) : ∃ v, vs = [v] ∧ RR K B C H r v φ := by
  obtain ⟨v, us, φ1, φ2, rfl, q, ⟨rfl, rfl⟩, rfl⟩ := h
  exact ⟨v, rfl, by rw [List.append_nil]; exact q⟩
theorem RRL.two {K : PySem.W.Frag} {B C H : Hp} {r s : R} {vs : List V} {φ : List Addr} (h : RRL K B C H [r, s] vs φ) : ∃ v w φ1 φ2, vs = [v, w] ∧ RR K B C H r v φ1 ∧ RR K B C H s w φ2 ∧ φ = φ1 ++ φ2 := by
  obtain ⟨v, us, φ1, φ2, rfl, q, h, rfl⟩ := h
  obtain ⟨w, rfl, q2⟩ := h.one
  exact ⟨v, w, φ1, φ2, rfl, q, q2, rfl⟩
theorem no_fresh' {H : Hp} {φ : List Addr} : ∀ a ∈ ([] : List Addr), H a = none ∨ a ∈ φ := fun _ z => by cases z
def lenD : D → Option R
  | .tup ds => some (.val (.int ds.length))
  | .lst ds => some (.val (.int ds.length))
  | .scr ns => some (.val (.int ns.length))
  | .str z => if z.length ≤ sizeLine then some (.val (.int z.length)) else none
  | _ => none
def one (f : R → Option R) : List R → Option R
  | [r] => f r
  | _ => none
theorem one_some {f : R → Option R} {rs : List R} {c : R} (h : one f rs = some c) : ∃ r, rs = [r] ∧ f r = some c := by
  unfold one at h
  split at h
  · exact ⟨_, rfl, h⟩
  · cases h
def oLen : List R → Option R := one fun r => lenD r.d
theorem cd_len : CallD X (.builtin "len") oLen := by
  refine ⟨_, CallR.or' call_len_seq call_len_str, fun B C H vs φ Q rs c bc ch q n e k => ?_⟩
  obtain ⟨r, er, e1⟩ := one_some e
  clear e
  subst er
  obtain ⟨v, ev, q1⟩ := q.one
  clear q
  subst ev
  have e := e1
  have q := q1
  clear e1 q1
  have q := q.rp bc ch
  unfold lenD at e
  split at e
  · rename_i ds hx
    rw [hx] at q; cases e
    unfold Rp at q
    obtain ⟨p, xs, rfl, hp, r⟩ := q
    exact .inl ⟨p, xs, rfl, .inr hp, by rw [r.length]; exact k _ H [] (Same.refl _) rr_int no_fresh' List.nodup_nil⟩
  · rename_i ds hx
    rw [hx] at q; cases e
    unfold Rp at q
    obtain ⟨p, xs, rfl, hp, r⟩ := q
    exact .inl ⟨p, xs, rfl, .inl (SqL.of hp), by rw [r.length]; exact k _ H [] (Same.refl _) rr_int no_fresh' List.nodup_nil⟩
  · rename_i ns hx
    rw [hx] at q; cases e
    unfold Rp at q
    obtain ⟨p, rfl, hp⟩ := q
    exact .inl ⟨p, _, rfl, .inl hp, by rw [List.length_map]; exact k _ H [] (Same.refl _) rr_int no_fresh' List.nodup_nil⟩
  · rename_i z hx
    rw [hx] at q
    split at e
    · rename_i hz
      cases e
      exact .inr ⟨z, by rw [rp_str q], hz, k _ H [] (Same.refl _) rr_int no_fresh' List.nodup_nil⟩
    · cases e
  · cases e
def oInt : List R → Option R := one fun r => match r.d with
  | .int i => some (.val (.int i))
  | .bl b => some (.val (.int (if b then 1 else 0)))
  | _ => none
theorem cd_int : CallD X (.type "int") oInt := by
  refine ⟨_, call_int1, fun B C H vs φ Q rs c bc ch q n e k => ?_⟩
  obtain ⟨r, er, e1⟩ := one_some e
  clear e
  subst er
  obtain ⟨v, ev, q1⟩ := q.one
  clear q
  subst ev
  have e := e1
  have q := q1
  clear e1 q1
  have q := q.rp bc ch
  split at e
  · rename_i i hx
    rw [hx] at q; cases e
    exact .inl ⟨i, by rw [rp_int q], k _ H [] (Same.refl _) rr_int no_fresh' List.nodup_nil⟩
  · rename_i i hx
    rw [hx] at q; cases e
    exact .inr ⟨i, by rw [rp_bl q], k _ H [] (Same.refl _) rr_int no_fresh' List.nodup_nil⟩
  · cases e
/-- tuple(x) -/
def oTuple : List R → Option R := one fun r => match r with
  | .own (.lst ds) => some (if puL ds = true then .val (.tup ds) else .own (.tup ds))
  | r => (match r.d with
    | .lst ds => if puL ds = true then some (.val (.tup ds)) else none
    | .tup _ => some r
    | .scr ns => some (.val (.tup (ns.map .int)))
    | _ => none)
theorem rpL_ints {K : PySem.W.Frag} {H : Hp} : ∀ ns : List Int, RpL K H (ns.map D.int) (ns.map V.int)
  | [] => by simp [RpL]
  | n :: ns => by rw [List.map_cons, List.map_cons]; unfold RpL; exact ⟨_, _, rfl, by unfold Rp; rfl, rpL_ints ns⟩
@[simp] theorem puL_ints : ∀ ns : List Int, puL (ns.map D.int) = true
  | [] => by simp [puL]
  | n :: ns => by rw [List.map_cons]; unfold puL; rw [puL_ints ns]; rfl
theorem cd_tuple : CallD X (.type "tuple") oTuple := by
  refine ⟨_, call_tuple_of, fun B C H vs φ Q rs c bc ch q n e k => ?_⟩
  obtain ⟨r, er, e1⟩ := one_some e
  clear e
  subst er
  obtain ⟨v, ev, q1⟩ := q.one
  clear q
  subst ev
  have e := e1
  have q := q1
  clear e1 q1
  have fin : ∀ (ds : List D) (a : Addr) (xs : List V), H a = some (.lst xs) → RpL X.K H ds xs → puL ds = true → ∀ l, H l = none → RR X.K B C (upd H l (.tup xs)) (.val (.tup ds)) (.ref l) [] := fun ds a xs ha r hp l hl => by
    refine ⟨rfl, by unfold pu; exact hp, ?_⟩
    unfold Rp
    exact ⟨l, xs, rfl, SqT.of upd_same, r.mono (same_upd hl)⟩
  split at e
  · rename_i ds
    have q : Ow X.K H (.lst ds) v φ := q
    unfold Ow at q
    obtain ⟨a, xs, ψ, rfl, ha, hw, rfl⟩ := q
    refine ⟨a, xs, rfl, .inl ⟨SqL.of ha, fun l hl => ?_⟩⟩
    cases e
    split at k
    · rename_i hp
      exact k _ _ [] (same_upd hl) (fin ds a xs ha (OwL.rp _ _ _ hw) hp l hl) no_fresh' List.nodup_nil
    · refine k _ _ ψ (same_upd hl) ?_ (fun b hb => .inr (List.mem_cons_of_mem _ hb)) (List.nodup_cons.mp n).2
      show Ow X.K _ (.tup ds) _ _
      unfold Ow
      exact ⟨l, xs, rfl, SqT.of upd_same, OwL.same (same_upd hl) hw⟩
  · have q0 := q
    have q9 := q.rp bc ch
    clear q
    split at e
    · rename_i ds hx
      rw [hx] at q9
      split at e
      · rename_i hp
        cases e
        unfold Rp at q9
        obtain ⟨a, xs, rfl, ha, r⟩ := q9
        exact ⟨a, xs, rfl, .inl ⟨SqL.of ha, fun l hl => k _ _ [] (same_upd hl) (fin ds a xs ha r hp l hl) no_fresh' List.nodup_nil⟩⟩
      · cases e
    · rename_i ds hx
      rw [hx] at q9
      cases e
      unfold Rp at q9
      obtain ⟨a, xs, rfl, ha, r⟩ := q9
      exact ⟨a, xs, rfl, .inr ⟨ha, k _ _ φ (Same.refl _) q0 (fun b hb => .inr hb) n⟩⟩
    · rename_i ns hx
      rw [hx] at q9
      cases e
      unfold Rp at q9
      obtain ⟨a, rfl, ha⟩ := q9
      refine ⟨a, _, rfl, .inl ⟨ha, fun l hl => k _ _ [] (same_upd hl) ⟨rfl, by unfold pu; exact puL_ints ns, ?_⟩ no_fresh' List.nodup_nil⟩⟩
      unfold Rp
      exact ⟨l, _, rfl, SqT.of upd_same, rpL_ints ns⟩
    · cases e
/-- list(x) -/
def oList : List R → Option R := one fun r => match r.d with
  | .lst ds => if puL ds = true then some (.own (.lst ds)) else none
  | .tup ds => if puL ds = true then some (.own (.lst ds)) else none
  | .scr ns => some (.own (.lst (ns.map .int)))
  | _ => none
theorem ow_new {K : PySem.W.Frag} {H : Hp} {ds : List D} {xs : List V} {l : Addr} (hl : H l = none) (r : RpL K H ds xs) (hp : puL ds = true) : Ow K (upd H l (.lst xs)) (.lst ds) (.ref l) [l] := by
  unfold Ow
  exact ⟨l, xs, [], rfl, upd_same, OwL.pu _ _ hp (r.mono (same_upd hl)), rfl⟩
theorem cd_list : CallD X (.type "list") oList := by
  refine ⟨_, call_list_of, fun B C H vs φ Q rs c bc ch q n e k => ?_⟩
  obtain ⟨r, er, e1⟩ := one_some e
  clear e
  subst er
  obtain ⟨v, ev, q1⟩ := q.one
  clear q
  subst ev
  have e := e1
  have q := q1
  clear e1 q1
  have q := q.rp bc ch
  split at e
  · rename_i ds hx
    rw [hx] at q
    split at e
    · rename_i hp
      cases e
      unfold Rp at q
      obtain ⟨a, xs, rfl, ha, r⟩ := q
      exact ⟨a, xs, rfl, .inl (SqL.of ha), fun l hl => k _ _ [l] (same_upd hl) (ow_new hl r hp) (fun b hb => by rw [List.mem_singleton.mp hb]; exact .inl hl) (by simp)⟩
    · cases e
  · rename_i ds hx
    rw [hx] at q
    split at e
    · rename_i hp
      cases e
      unfold Rp at q
      obtain ⟨a, xs, rfl, ha, r⟩ := q
      exact ⟨a, xs, rfl, .inr ha, fun l hl => k _ _ [l] (same_upd hl) (ow_new hl r hp) (fun b hb => by rw [List.mem_singleton.mp hb]; exact .inl hl) (by simp)⟩
    · cases e
  · rename_i ns hx
    rw [hx] at q
    cases e
    unfold Rp at q
    obtain ⟨a, rfl, ha⟩ := q
    exact ⟨a, _, rfl, .inl ha, fun l hl => k _ _ [l] (same_upd hl) (ow_new hl (rpL_ints ns) (puL_ints ns)) (fun b hb => by rw [List.mem_singleton.mp hb]; exact .inl hl) (by simp)⟩
  · cases e
/-- all bools -/
def boolL : List D → Option (List Bool)
  | [] => some []
  | .bl i :: ds => (boolL ds).map (i :: ·)
  | _ :: _ => none
theorem boolL_some {K : PySem.W.Frag} {H : Hp} : ∀ {ds : List D} {ns : List Bool} {xs : List V}, boolL ds = some ns → RpL K H ds xs → xs = ns.map V.bl
  | [], _, _, h, r => by cases h; unfold RpL at r; rw [r]; rfl
  | .bl i :: ds, _, _, h, r => by
    unfold boolL at h
    cases q : boolL ds with
    | none => rw [q] at h; cases h
    | some ms =>
      rw [q] at h; cases h
      unfold RpL at r
      obtain ⟨x, ys, rfl, r1, r2⟩ := r
      rw [rp_bl r1, boolL_some q r2]; rfl
  | .non :: _, _, _, h, _ => by cases h
  | .int _ :: _, _, _, h, _ => by cases h
  | .str _ :: _, _, _, h, _ => by cases h
  | .tup _ :: _, _, _, h, _ => by cases h
  | .lst _ :: _, _, _, h, _ => by cases h
  | .scr _ :: _, _, _, h, _ => by cases h
def oAll : List R → Option R := one fun r => match r.d with
  | .lst ds => (boolL ds).map fun bs => .val (.bl (bs.all id))
  | _ => none
def oAny : List R → Option R := one fun r => match r.d with
  | .lst ds => (boolL ds).map fun bs => .val (.bl (bs.any id))
  | _ => none
theorem cd_all (hc : X.calm = true) : CallD X (.builtin "all") oAll := by
  refine ⟨_, cr_all hc, fun B C H vs φ Q rs c bc ch q n e k => ?_⟩
  obtain ⟨r, er, e1⟩ := one_some e
  clear e
  subst er
  obtain ⟨v, ev, q1⟩ := q.one
  clear q
  subst ev
  have e := e1
  have q := q1
  clear e1 q1
  have q := q.rp bc ch
  split at e
  · rename_i ds hx
    rw [hx] at q
    obtain ⟨bs, e1, rfl⟩ := map_some e
    unfold Rp at q
    obtain ⟨a, xs, rfl, ha, r⟩ := q
    rw [boolL_some e1 r] at ha
    exact ⟨a, bs, rfl, SqL.of ha, k _ H [] (Same.refl _) rr_bl no_fresh' List.nodup_nil⟩
  · cases e
theorem cd_any (hc : X.calm = true) : CallD X (.builtin "any") oAny := by
  refine ⟨_, cr_any hc, fun B C H vs φ Q rs c bc ch q n e k => ?_⟩
  obtain ⟨r, er, e1⟩ := one_some e
  clear e
  subst er
  obtain ⟨v, ev, q1⟩ := q.one
  clear q
  subst ev
  have e := e1
  have q := q1
  clear e1 q1
  have q := q.rp bc ch
  split at e
  · rename_i ds hx
    rw [hx] at q
    obtain ⟨bs, e1, rfl⟩ := map_some e
    unfold Rp at q
    obtain ⟨a, xs, rfl, ha, r⟩ := q
    rw [boolL_some e1 r] at ha
    exact ⟨a, bs, rfl, SqL.of ha, k _ H [] (Same.refl _) rr_bl no_fresh' List.nodup_nil⟩
  · cases e
def two2 (f : Int → Int → Int) : List R → Option R
  | [r, s] => (match r.d, s.d with | .int i, .int j => some (.val (.int (f i j))) | _, _ => none)
  | _ => none
def oMin : List R → Option R := two2 fun i j => if j < i then j else i
def oMax : List R → Option R := two2 fun i j => if j > i then j else i
theorem two2_some {f : Int → Int → Int} {rs : List R} {c : R} (h : two2 f rs = some c) : ∃ r s i j, rs = [r, s] ∧ r.d = .int i ∧ s.d = .int j ∧ c = .val (.int (f i j)) := by
  unfold two2 at h
  split at h
  · rename_i r s
    split at h
    · rename_i i j h1 h2
      cases h
      exact ⟨r, s, i, j, rfl, h1, h2, rfl⟩
    · cases h
  · cases h
theorem cd_min (hc : X.calm = true) : CallD X (.builtin "min") oMin := by
  refine ⟨_, call_min2 hc, fun B C H vs φ Q rs c bc ch q n e k => ?_⟩
  obtain ⟨r, s, i, j, er, h1, h2, ec⟩ := two2_some e
  clear e
  subst er ec
  obtain ⟨v, w, φ1, φ2, ev, q1, q2, ep⟩ := q.two
  clear q
  subst ev ep
  have q1 := q1.rp bc ch
  have q2 := q2.rp bc ch
  rw [h1] at q1; rw [h2] at q2
  exact ⟨i, j, by rw [rp_int q1, rp_int q2], k _ H [] (Same.refl _) rr_int no_fresh' List.nodup_nil⟩
theorem cd_max (hc : X.calm = true) : CallD X (.builtin "max") oMax := by
  refine ⟨_, call_max2 hc, fun B C H vs φ Q rs c bc ch q n e k => ?_⟩
  obtain ⟨r, s, i, j, er, h1, h2, ec⟩ := two2_some e
  clear e
  subst er ec
  obtain ⟨v, w, φ1, φ2, ev, q1, q2, ep⟩ := q.two
  clear q
  subst ev ep
  have q1 := q1.rp bc ch
  have q2 := q2.rp bc ch
  rw [h1] at q1; rw [h2] at q2
  exact ⟨i, j, by rw [rp_int q1, rp_int q2], k _ H [] (Same.refl _) rr_int no_fresh' List.nodup_nil⟩

/-! ### isinstance -/
inductive Ty where | int | bool | tuple | str | list
def Ty.nm : Ty → String
  | .int => "int" | .bool => "bool" | .tuple => "tuple" | .str => "str" | .list => "list"
def tyD : D → String
  | .non => "NoneType" | .bl _ => "bool" | .int _ => "int" | .str _ => "str" | .tup _ => "tuple" | .lst _ => "list" | .scr _ => "list"
def isa : Ty → D → Bool
  | .int, .int _ => true | .int, .bl _ => true
  | .bool, .bl _ => true
  | .tuple, .tup _ => true
  | .str, .str _ => true
  | .list, .lst _ => true | .list, .scr _ => true
  | _, _ => false
theorem isa_kit (T : Ty) (d : D) : kitB (tyD d) T.nm = some (isa T d) := by
  cases T <;> cases d <;> (show kitB _ _ = some _; simp only [tyD, Ty.nm, isa]; decide +kernel)
theorem tyx {K : PySem.W.Frag} {H : Hp} {d : D} {v : V} (h : Rp K H d v) : TyX K H v (.type (tyD d)) := by
  have sq : ∀ {a : Addr} {xs : List V}, SqL K H a xs → TyX K H (.ref a) (.type "list") := fun {a xs} q => by
    rcases q with (q | ⟨o, q⟩) | ⟨o, its, n, h1, h2, _⟩
    · exact .base (.lst q)
    · exact .base (.frz q)
    · exact .kList h1 h2
  cases d with
  | non => unfold Rp at h; subst h; exact .base .non
  | bl => unfold Rp at h; subst h; exact .base (.bl _)
  | int => unfold Rp at h; subst h; exact .base (.int _)
  | str => unfold Rp at h; subst h; exact .base (.str _)
  | tup =>
    unfold Rp at h; obtain ⟨a, xs, rfl, q, _⟩ := h
    rcases q with (q | ⟨o, q⟩) | ⟨o, its, n, h1, h2, _⟩
    · exact .base (.tup q)
    · exact .fTuple q
    · exact .kTuple h1 h2
  | lst => unfold Rp at h; obtain ⟨a, xs, rfl, q, _⟩ := h; exact .base (.lst q)
  | scr => unfold Rp at h; obtain ⟨a, rfl, q⟩ := h; exact sq q
def gIsi (T : Ty) (g : G) : G := fun δ => (g δ).map fun r => .val (.bl (isa T r.d))
theorem de_isi (T : Ty) {x : Str} {p p2 : Pos} (hm : X.mg "isinstance" = none) (hm2 : X.mg x = none) (hv2 : bootBuiltins x = some (.type T.nm)) (ha : DE X a ga) (hg : Gl X "isinstance" := by rfl) (hg2 : Gl X x := by rfl)
    (hn2 : x ≠ "__name__" := by decide) (hdb2 : (x == ("__debug__" : Str)) = false := by decide)
    (he1 : starEach [a, .Name x p2] X.env = (false, eval a X.env) :: starEach [.Name x p2] X.env := by rfl) (he : starEach [.Name x p2] X.env = (false, eval (.Name x p2) X.env) :: starEach [] X.env := by rfl) (hpl : (backTo pos (starEach [.Name x p2] X.env)).any (·.1) = false := by rfl) :
    DE X (.Call (.Name "isinstance" p) [a, .Name x p2] [] pos) (gIsi T ga) := by
  refine ⟨pe_imp (pe_callB call_isi hg hm (by decide +kernel) (pa_cons ha.pe (pa_cons (pe_bltn (v := .ty T.nm) hg2 hm2 hv2 rfl hn2 hdb2) pa_nil he) he1) (by decide) (by decide) he1 hpl) fun σ H Q h => ?_⟩
  obtain ⟨B, C, δ, Φ, c, S, e, k⟩ := h
  obtain ⟨r, e1, rfl⟩ := map_some e
  refine ⟨B, C, δ, Φ, r, S, e1, fun v H1 φ s q f n => ?_⟩
  exact ⟨v, .ty T.nm, _, _, _, rfl, .ty _, tyx (q.rp S.bc (S.ch.trans s)), kit_ty (isa_kit T r.d), k _ H1 [] s rr_bl no_fresh List.nodup_nil⟩
end
end DL

set_option Elab.async false
set_option linter.all false
set_option maxRecDepth 100000
set_option maxHeartbeats 4000000
/-! D5: what a loop walks; targets. -/
namespace DL
open PySem PySem.Spec PyProof.Rows L2

/-! ### enumerate of a tuple -/
set_option maxHeartbeats 1000000 in
theorem meets_enum1 {v : Value} {o : Obj} {P : Heap → Prop} (B : Begins v o P) :
    Meets (Builtin.«enumerate.__new__» ⟨[.type "enumerate", v], []⟩) (fun _ R s => P s.heap ∧
      R (.ok (.ret (.ref (s.heap.push o).objs.size))) { s with heap := (s.heap.push o).push { cls := .type "enumerate", data := .fields #[.none, .bool false, .ref s.heap.objs.size, rawInt 0, .none, .none] } }) :=
  .of_wp fun prog w A R s h => by
    obtain ⟨hh, gg, dd, tt, oo⟩ := s
    obtain ⟨ph, h⟩ := h
    have hsub := sub_enumerate
    have begun : ∀ {A' : Around} {E : Value → Shared → Prop} {Q : Value → Shared → Prop}, Q (.ref hh.objs.size) ⟨hh.push o, gg, dd, tt, oo⟩ → wpAny (model prog w) A' (pyIter v) Q E ⟨hh, gg, dd, tt, oo⟩ :=
      fun q => B.iter prog w _ _ ⟨hh, gg, dd, tt, oo⟩ _ ph q
    wp_walk using begun
    refine wpAny_stack_any fun st => wpAny_pure ?_
    split
    · rename_i c _ _ _ _ _
      cases (c == Value.type "enumerate") <;> (wp_walk using begun; exact ⟨_, rfl, h⟩)
    · wp_walk using begun
      exact ⟨_, rfl, h⟩
section
variable {prog : Program} {w : World} {A : Around} {E : Value → Shared → Prop} {s : Shared}
theorem call_enum1 {v : Value} {o : Obj} {P : Heap → Prop} {Q : Value → Shared → Prop} (B : Begins v o P) (ph : P s.heap)
    (h : ∀ h', IsEnum h' (s.heap.objs.size + 1) s.heap.objs.size 0 .none → h'.get? s.heap.objs.size = some o → h'.objs.size = s.heap.objs.size + 2 →
      (∀ b o', s.heap.get? b = some o' → h'.get? b = some o') → Q (.ref (s.heap.objs.size + 1)) { s with heap := h' }) : wpAny (model prog w) A (call (.type "enumerate") [v]) Q E s := by
  refine callType_new F.called_enumerate (by decide) (F.typeCall_enumerate_1 _) (F.newCall_enumerate_1 _) (fun obj => F.args_object_init_2 obj _) F.entry_enumerate_new (meets_enum1 B) ⟨ph, ?_⟩
  have hz : (s.heap.push o).objs.size = s.heap.objs.size + 1 := Heap.size_push ..
  show _ ∧ _
  rw [hz]
  have he : IsEnum ((s.heap.push o).push { cls := .type "enumerate", data := .fields #[.none, .bool false, .ref s.heap.objs.size, rawInt 0, .none, .none] }) (s.heap.objs.size + 1) s.heap.objs.size 0 .none := by
    have q := Heap.get?_push_size (s.heap.push o) (o := { cls := .type "enumerate", data := .fields #[.none, .bool false, .ref s.heap.objs.size, rawInt 0, .none, .none] }) rfl
    rw [hz] at q
    exact q
  exact ⟨⟨_, he, rfl⟩, h _ he (Heap.get?_push_of_some _ (Heap.get?_push_size _ B.free)) (by rw [Heap.size_push, hz]) fun b o' x => Heap.get?_push_of_some _ (Heap.get?_push_of_some _ x)⟩
end
/-- the tuple at a, each item in a new pair -/
def IteT (K : PySem.W.Frag) (a : Addr) : It :=
  ⟨fun i H => ∃ (xs : List V) (x : V), SqT K H a xs ∧ xs[i]? = some x, fun i H v H' => ∃ T x, v = .ref T ∧ H T = none ∧ H' = upd H T (.tup [.int (i : Nat), x]) ∧ ∀ xs, SqT K H a xs → xs[i]? = some x, fun i H => ∃ xs : List V, SqT K H a xs ∧ xs.length = i⟩
theorem turn_enumT {P : Program} {w : World} {K : PySem.W.Frag} {elts : List Expr} {kk : Nat} {tpos : Pos} (a e it : Addr) :
    Turn P w K (.Tuple elts kk tpos) (IteT K a) [e, it] e (fun i h => (∃ old, IsEnum h e it ((i : Nat) : Int) old) ∧ h.IsTupleIter it a i ∧ e ≠ it) where
  mem := by simp
  obj := fun i h st b hb => by
    obtain ⟨⟨old, he⟩, ⟨o, ho, hc, hd⟩, _⟩ := st
    rcases (by simpa using hb : b = e ∨ b = it) with z | z
    · rw [z]
      exact ⟨_, he, fun v q => nomatch q⟩
    · rw [z]
      exact ⟨o, ho, fun v q => by rw [hd] at q; cases q⟩
  keep := fun i h h' st k => let ⟨⟨old, he⟩, hi, hne⟩ := st; ⟨⟨old, k e (by simp) _ he⟩, hi.at fun o q => k it (by simp) o q, hne⟩
  item := by
    intro X hP hw hK hc i pins s σ H E I hf st hg
    subst hP hw hK
    obtain ⟨⟨old, he⟩, hit, hne⟩ := st
    obtain ⟨xs, x, hq, hx⟩ := hg
    obtain ⟨its, rv, p, hz⟩ := I.tuple hq
    obtain ⟨u, hu, ru⟩ := rv.get hx
    have hel : e < s.heap.objs.size := Heap.lt_size he
    have hil : it < s.heap.objs.size := by obtain ⟨_, q, _⟩ := hit; exact Heap.lt_size q
    have hlt : i < its.toArray.size := by
      have := (List.getElem?_eq_some_iff.mp hu).1
      simpa using this
    have pT : s.heap.IsTuple a its.toArray := p
    have nai : a ≠ it := fun z => by
      obtain ⟨o, ho, hc1, _⟩ := pT
      obtain ⟨o2, ho2, hc2, _⟩ := hit
      rw [z, ho2] at ho; cases ho
      rw [hc2] at hc1; exact absurd hc1 (by decide)
    have nae : e ∉ [it, a] := fun z => by
      rcases (by simpa using z : e = it ∨ e = a) with z | z
      · exact hne z
      · obtain ⟨o, ho, hc1, _⟩ := pT
        have he2 := he
        unfold IsEnum at he2
        rw [z, ho] at he2; cases he2
        exact absurd (show Value.type "enumerate" = Value.type "tuple" from hc1) (by decide)
    refine wpAny_pyNext_enum_itemC (Draws.tuple (A := X.A.in1) (I.ok.hd hc) it a nai its.toArray) he ⟨hit, pT⟩ hlt hne nae fun y h' tk hy ho hst hT hsz hk => ?_
    have ey : y = u := by
      have hu' : its.toArray[i]? = some u := by simpa using hu
      rw [hu'] at hy; exact (Option.some.inj hy).symm
    subst ey
    refine ⟨_, rfl, wpAny_letOwnedTupleGo_enum (s := { s with heap := h', toks := tk + 1 }) ho fun h'' he' sb => ?_⟩
    have hT2 : h''.get? s.heap.objs.size = some { cls := .type "tuple", data := .seq #[.int i tk, y] } := (sb.2 _ (Nat.ne_of_gt hel)).trans hT
    have new : ObjOk X.prog X.w (upd H s.heap.objs.size (.tup [.int (i : Nat), x])) h'' s.heap.objs.size (.tup [.int (i : Nat), x]) :=
      ⟨by show 2 ≤ sizeLine; decide, [.int i tk, y], .cons ⟨_, rfl⟩ (.cons ru .nil), ⟨_, hT2, rfl, _, rfl⟩⟩
    have I1 : Inv X pins σ (upd H s.heap.objs.size (.tup [.int (i : Nat), x])) { s with heap := h'', toks := tk + 1 } :=
      I.turnedNew (ch := [e, it]) (fun b ob hb q => (sb.2 b (fun z => hb (by simp [z]))).trans (hk b ob (fun z => hb (by simp [z])) (fun z => hb (by simp [z])) q)) hf (Nat.le_refl _) new
    refine ⟨.ref s.heap.objs.size, _, I1, rfl, ⟨_, x, rfl, I.hok.fresh (Nat.le_refl _), rfl, fun ys hy => by rw [I.tuple_inj hy hq]; exact hx⟩, ⟨⟨y, ?_⟩, hst.1.at fun o q => (sb.2 it (Ne.symm hne)).trans q, hne⟩, fun b hb => ?_⟩
    · have e1 : ((i + 1 : Nat) : Int) = (i : Int) + 1 := by omega
      rw [e1]
      exact he'
    · have hb' : b < s.heap.objs.size := by
        rcases (by simpa using hb : b = e ∨ b = it) with z | z
        · rw [z]; exact hel
        · rw [z]; exact hil
      rw [upd_ne (Nat.ne_of_lt hb')]
      exact (hf b hb).1
  done := by
    intro X hP hw hK hc i pins s σ H E I hf st hg
    subst hP hw hK
    obtain ⟨⟨old, he⟩, hit, hne⟩ := st
    obtain ⟨xs, hq, hx⟩ := hg
    obtain ⟨its, rv, p, hz⟩ := I.tuple hq
    obtain ⟨f0, f1, f2, f3, f4, f5⟩ := hf it (by simp)
    have pT : s.heap.IsTuple a its.toArray := p
    have hl : its.toArray.size = i := by
      have := rv.length
      simp only [List.size_toArray]
      omega
    have nai : a ≠ it := fun z => by
      obtain ⟨o, ho, hc1, _⟩ := pT
      obtain ⟨o2, ho2, hc2, _⟩ := hit
      rw [z, ho2] at ho; cases ho
      rw [hc2] at hc1; exact absurd hc1 (by decide)
    exact wpAny_pyNext_enum_endD (Draws.tuple (A := X.A.in1) (I.ok.hd hc) it a nai its.toArray) he (by rw [hl]; exact ⟨hit, pT⟩) fun h' eb => ⟨rfl, I.turned (t' := s.toks) (fun b o hb q => eb b o hb q) f0 f1 f3 f4 f5⟩
  self := fun A i s Q E st h => let ⟨⟨_, he⟩, _⟩ := st; wpAny_pyIter_enum he h
/-- enumerate of a list or a tuple -/
def iEnumS (K : PySem.W.Frag) (ta : TA) : TI := fun σ H R => ta σ H fun vs H1 => ∃ a, vs = [.ref a] ∧ ((∃ xs, SqL K H1 a xs ∧ R (Ite K a) H1) ∨ (∃ xs, SqT K H1 a xs ∧ R (IteT K a) H1))
theorem pi_enumS {X : Cx} {e : Expr} {ta : TA} {p pos tpos : Pos} {elts : List Expr} {kk : Nat} (hg : Gl X "enumerate") (hm : X.mg "enumerate" = none) (ha : PA X [e] ta) (hs : starEach [e] X.env = [(false, eval e X.env)] := by rfl) :
    PI X (.Tuple elts kk tpos) (.Call (.Name "enumerate" p) [e] [] pos) (iEnumS X.K ta) := by
  refine ⟨fun pins s σ H R I h => ?_⟩
  refine Call_ (ld_blt I hg hm boot_enumerate (PyProof.Rows.callWith_type1 (thn (ha.run pos pins s σ H _ I h) fun us s1 ⟨vs, H1, I1, r1, q1⟩ => ?_) hs rfl))
  obtain ⟨a, ex, q1⟩ := q1
  subst ex
  cases r1 with
  | cons r rr =>
    cases rr
    cases r
    have fp : ∀ b ∈ [s1.heap.objs.size + 1, s1.heap.objs.size], FpOk X pins H1 b := fun b hb => by
      have hle : s1.heap.objs.size ≤ b := by
        rcases (by simpa using hb : b = s1.heap.objs.size + 1 ∨ b = s1.heap.objs.size) with z | z
        · rw [z]; exact Nat.le_add_right _ _
        · rw [z]; exact Nat.le_refl _
      exact I1.fpOk hle (I1.hok.fresh hle)
    rcases q1 with ⟨xs, hq, q⟩ | ⟨xs, hq, q⟩
    · obtain ⟨its, rv, p', hz⟩ := I1.list hq
      refine call_enumerate_list p'.isList fun h' he hit hsz hk => wpAny_pyIter_enum he ?_
      exact ⟨s1.heap.objs.size + 1, [s1.heap.objs.size + 1, s1.heap.objs.size], _, _, H1, rfl, I1.kept (t' := s1.toks) hk, turn_enum a (s1.heap.objs.size + 1) s1.heap.objs.size, ⟨⟨.none, he⟩, hit, Nat.succ_ne_self _⟩, fp, q⟩
    · obtain ⟨its, rv, p', hz⟩ := I1.tuple hq
      refine call_enum1 (begins_tuple a its.toArray) (show s1.heap.IsTuple a its.toArray from p') fun h' he hit hsz hk => wpAny_pyIter_enum he ?_
      exact ⟨s1.heap.objs.size + 1, [s1.heap.objs.size + 1, s1.heap.objs.size], _, _, H1, rfl, I1.kept (t' := s1.toks) hk, turn_enumT a (s1.heap.objs.size + 1) s1.heap.objs.size, ⟨⟨.none, he⟩, ⟨_, hit, rfl, rfl⟩, Nat.succ_ne_self _⟩, fp, q⟩
/-- a list or a tuple, walked -/
def iSeq (K : PySem.W.Frag) (tl : TE) : TI := fun σ H R => tl σ H fun x H1 => ∃ a, x = .ref a ∧ ((∃ xs, SqL K H1 a xs ∧ R (Itl K a) H1) ∨ (∃ xs, SqT K H1 a xs ∧ R (Itt K a) H1))
theorem pi_seq {X : Cx} {tg l : Expr} {tl : TE} (hl : PE X l tl) : PI X tg l (iSeq X.K tl) := by
  refine ⟨fun pins s σ H R I h => ?_⟩
  refine thn (hl.run pins s σ H _ I h) fun v s1 ⟨x, H1, I1, r1, q1⟩ => ?_
  obtain ⟨a, e, q1⟩ := q1
  subst e
  cases r1
  have fp : ∀ b ∈ [s1.heap.objs.size], FpOk X pins H1 b := fun b hb => by
    rw [List.mem_singleton.mp hb]
    exact I1.fpOk (Nat.le_refl _) (I1.hok.fresh (Nat.le_refl _))
  rcases q1 with ⟨xs, hq, q⟩ | ⟨xs, hq, q⟩
  · obtain ⟨its, rv, p, hz⟩ := I1.list hq
    refine wpAny_pyIter_list p.isList ?_
    exact ⟨s1.heap.objs.size, [s1.heap.objs.size], _, _, H1, rfl, I1.kept (t' := s1.toks) fun b o e => Heap.get?_push_of_some _ e, turn_list a _, ⟨_, Heap.get?_push_size _ rfl, rfl, rfl⟩, fp, q⟩
  · obtain ⟨its, rv, p, hz⟩ := I1.tuple hq
    refine wpAny_pyIter_tuple (show s1.heap.IsTuple a its.toArray from p) ?_
    exact ⟨s1.heap.objs.size, [s1.heap.objs.size], _, _, H1, rfl, I1.kept (t' := s1.toks) fun b o e => Heap.get?_push_of_some _ e, turn_tuple a _, ⟨_, Heap.get?_push_size _ rfl, rfl, rfl⟩, fp, q⟩
end DL

set_option Elab.async false
set_option linter.all false
set_option maxRecDepth 100000
set_option maxHeartbeats 4000000
/-! D6: walked things and targets over plain data. -/
namespace DL
open PySem PySem.Spec PyProof.Rows L2
open Classical in
/-- H without the lists at Ψ -/
noncomputable def rem (Ψ : Addr → Prop) (H : Hp) : Hp := fun a => if Ψ a then none else H a
section
variable {Ψ : Addr → Prop} {H H' : Hp}
theorem rem_same : Same (rem Ψ H) H := fun a o h => by
  unfold rem at h
  split at h
  · cases h
  · exact h
theorem rem_at {a : Addr} (h : ¬ Ψ a) : rem Ψ H a = H a := by unfold rem; rw [if_neg h]
theorem rem_in {a : Addr} (h : Ψ a) : rem Ψ H a = none := by unfold rem; rw [if_pos h]
theorem rem_tk (hl : ∀ a, Ψ a → ∃ xs, H a = some (.lst xs)) : TK H (rem Ψ H) := fun a o e n => by
  by_cases hz : Ψ a
  · obtain ⟨xs, q⟩ := hl a hz
    rw [e] at q
    exact absurd (Option.some.inj q) (n xs)
  · rw [rem_at hz]; exact e
end
/-- how the walked thing is held -/
inductive Kd where | val | par | fr | bor | own
def R.kd : R → Kd
  | .val _ => .val | .par _ => .par | .fr _ => .fr | .bor _ => .bor | .own _ => .own
/-- an item: a datum, or a new pair of a number and a datum -/
inductive SI where | one (d : D) | en (i : Nat) (d : D)
/-- the value is the item: its datum stands wherever T holds; H ahead of the turn, H' now -/
def SIOk (K : PySem.W.Frag) (T : Hp → Prop) (H H' : Hp) : SI → V → Prop
  | .one d, x => ∀ Z, T Z → Same Z H → Rp K Z d x
  | .en i d, x => ∃ (a : Addr) (y : V), x = V.ref a ∧ SqT K H' a [.int (i : Nat), y] ∧ ∀ Z, T Z → Same Z H → Rp K Z d y
/-- the iterator J goes through the items wherever T holds -/
def Wk (K : PySem.W.Frag) (T : Hp → Prop) (J : It) (its : List SI) : Prop := ∀ H, T H → ∀ i,
  (∀ it, its[i]? = some it → J.go i H ∧ ∀ x H', J.yld i H x H' → Same H H' ∧ SIOk K T H H' it x) ∧ (i = its.length → J.stop i H)
abbrev GI := DSt → Option (Kd × List SI)
def DIT (K : PySem.W.Frag) (wi : TI) (gi : GI) : Prop := ∀ (B C : Hp) (σ : L2.St) (H : Hp) (δ : DSt) (Φ : Nat → List Addr) (kd : Kd) (its : List SI) (R : It → Hp → Prop), RSt K B C σ H δ Φ → gi δ = some (kd, its) →
  (∀ (J : It) (H1 : Hp) (T : Hp → Prop), Same H H1 → (∀ Z Z', T Z → Same Z Z' → T Z') → Wk K T J its → T H1 → (kd = .par → T B) → (kd = .fr → T C) →
    (kd = .val ∨ kd = .own → ∀ Ψ : Addr → Prop, (∀ a, Ψ a → ∃ xs, H a = some (.lst xs)) → T (rem Ψ H1)) → R J H1) → wi σ H R
def tDI (K : PySem.W.Frag) (gi : GI) : TI := fun σ H R => ∃ (B C : Hp) (δ : DSt) (Φ : Nat → List Addr) (kd : Kd) (its : List SI), RSt K B C σ H δ Φ ∧ gi δ = some (kd, its) ∧
  ∀ (J : It) (H1 : Hp) (T : Hp → Prop), Same H H1 → (∀ Z Z', T Z → Same Z Z' → T Z') → Wk K T J its → T H1 → (kd = .par → T B) → (kd = .fr → T C) →
    (kd = .val ∨ kd = .own → ∀ Ψ : Addr → Prop, (∀ a, Ψ a → ∃ xs, H a = some (.lst xs)) → T (rem Ψ H1)) → R J H1
structure DI (X : Cx) (tg iter : Expr) (gi : GI) : Prop where
  pi : PI X tg iter (tDI X.K gi)
theorem DI.of {X : Cx} {tg iter : Expr} {gi : GI} {wi : TI} (h : PI X tg iter wi) (f : DIT X.K wi gi) : DI X tg iter gi :=
  ⟨⟨fun pins s σ H R I q => h.run pins s σ H R I (by obtain ⟨B, C, δ, Φ, kd, its, S, e, k⟩ := q; exact f B C σ H δ Φ kd its R S e k)⟩⟩
section
variable {K : PySem.W.Frag} {B C H H' : Hp}
/-- where the datum of a value stands, for each way of holding it -/
theorem RR.src {r : R} {v : V} {φ : List Addr} {H0 : Hp} (bc : Same B C) (ch : Same C H) (h : RR K B C H r v φ) (s0 : Same H0 H) (fr : ∀ a ∈ φ, H0 a = none) :
    Rp K H r.d v ∧ (r.kd = .par → Rp K B r.d v) ∧ (r.kd = .fr → Rp K C r.d v) ∧ (r.kd = .val ∨ r.kd = .own → ∀ Ψ : Addr → Prop, (∀ a, Ψ a → ∃ xs, H0 a = some (.lst xs)) → Rp K (rem Ψ H) r.d v) := by
  refine ⟨h.rp bc ch, ?_, ?_, ?_⟩
  · cases r <;> intro e <;> first | exact h.2 | cases e
  · cases r <;> intro e <;> first | exact h.2 | cases e
  · have lst : ∀ (Ψ : Addr → Prop), (∀ a, Ψ a → ∃ xs, H0 a = some (.lst xs)) → ∀ a, Ψ a → ∃ xs, H a = some (.lst xs) := fun Ψ k a z => by
      obtain ⟨xs, q⟩ := k a z
      exact ⟨xs, s0 _ _ q⟩
    cases r with
    | val d => exact fun _ Ψ k => Rp.tk (rem_tk (lst Ψ k)) _ _ h.2.1 h.2.2
    | own d =>
      intro _ Ψ k
      have q : Ow K H d v φ := h
      refine Ow.rp _ _ φ (Ow.mono (rem_tk (lst Ψ k)) _ _ _ (fun a ha => rem_at fun z => ?_) q)
      obtain ⟨xs, e⟩ := k a z
      rw [fr a ha] at e
      cases e
    | par d => intro e; rcases e with e | e <;> cases e
    | fr d => intro e; rcases e with e | e <;> cases e
    | bor d => intro e; rcases e with e | e <;> cases e
end
def itemsOf : D → Option (List D)
  | .tup ds => some ds
  | .lst ds => some ds
  | .scr ns => some (ns.map .int)
  | _ => none
/-- for x in e -/
def gSeq (g : G) : GI := fun δ => (g δ).bind fun r => (itemsOf r.d).map fun ds => (r.kd, ds.map SI.one)
def enumFrom : Nat → List D → List SI
  | _, [] => []
  | n, d :: ds => .en n d :: enumFrom (n + 1) ds
theorem enumFrom_get : ∀ {ds : List D} {n i : Nat}, (enumFrom n ds)[i]? = (ds[i]?).map (SI.en (n + i))
  | [], n, i => by simp [enumFrom]
  | d :: ds, n, 0 => by simp [enumFrom]
  | d :: ds, n, i + 1 => by
    have := enumFrom_get (ds := ds) (n := n + 1) (i := i)
    simp only [enumFrom, List.getElem?_cons_succ]
    rw [this, show n + 1 + i = n + (i + 1) by omega]
theorem enumFrom_length : ∀ (n : Nat) (ds : List D), (enumFrom n ds).length = ds.length
  | _, [] => rfl
  | n, d :: ds => by simp [enumFrom, enumFrom_length]
/-- for i, x in enumerate(e) -/
def gEnum (g : G) : GI := fun δ => (g δ).bind fun r => (itemsOf r.d).map fun ds => (r.kd, enumFrom 0 ds)
/-- for k in range(b), range(a, b) -/
def rangeL (i : Int) : Nat → List SI
  | 0 => []
  | n + 1 => .one (.int i) :: rangeL (i + 1) n
theorem rangeL_get : ∀ {n : Nat} {i : Int} {j : Nat}, (rangeL i n)[j]? = if j < n then some (.one (.int (i + j))) else none
  | 0, i, j => by simp [rangeL]
  | n + 1, i, 0 => by simp [rangeL]
  | n + 1, i, j + 1 => by
    simp only [rangeL, List.getElem?_cons_succ]
    rw [rangeL_get]
    by_cases h : j < n
    · rw [if_pos h, if_pos (by omega)]
      congr 3
      omega
    · rw [if_neg h, if_neg (by omega)]
theorem rangeL_length : ∀ (n : Nat) (i : Int), (rangeL i n).length = n
  | 0, _ => rfl
  | n + 1, i => by simp [rangeL, rangeL_length]
def small62 (i : Int) : Bool := decide (-(2 ^ 62) ≤ i ∧ i < 2 ^ 62)
def gRng1 (g : G) : GI := fun δ => (g δ).bind fun r => match r.d with
  | .int b => if small62 b = true then some (.val, rangeL 0 b.toNat) else none
  | _ => none
def gRng2 (g h : G) : GI := fun δ => (g δ).bind fun r => (h δ).bind fun s => match r.d, s.d with
  | .int a, .int b => if small62 a = true ∧ small62 b = true then some (.val, rangeL a (b - a).toNat) else none
  | _, _ => none
section
variable {X : Cx} {tg e a : Expr} {g : G} {pos : Pos}
/-- the list, the tuple of these data stands at b -/
def TL (K : PySem.W.Frag) (b : Addr) (ds : List D) (Z : Hp) : Prop := ∃ xs, SqL K Z b xs ∧ RpL K Z ds xs
def TT' (K : PySem.W.Frag) (b : Addr) (ds : List D) (Z : Hp) : Prop := ∃ xs, SqT K Z b xs ∧ RpL K Z ds xs
theorem TL.mono {K : PySem.W.Frag} {b : Addr} {ds : List D} {Z Z' : Hp} (t : TL K b ds Z) (m : Same Z Z') : TL K b ds Z' := let ⟨xs, h1, h2⟩ := t; ⟨xs, Same.seq m h1, RpL.mono m _ _ h2⟩
theorem TT'.mono {K : PySem.W.Frag} {b : Addr} {ds : List D} {Z Z' : Hp} (t : TT' K b ds Z) (m : Same Z Z') : TT' K b ds Z' := let ⟨xs, h1, h2⟩ := t; ⟨xs, Same.seqT m h1, RpL.mono m _ _ h2⟩
theorem wk_list {K : PySem.W.Frag} {b : Addr} {ds : List D} : Wk K (TL K b ds) (Itl K b) (ds.map SI.one) := by
  intro H ⟨xs, h1, h2⟩ i
  refine ⟨fun it hi => ?_, fun hi => ⟨xs, h1, by rw [hi, List.length_map, h2.length]; exact Nat.le_refl _⟩⟩
  rw [List.getElem?_map] at hi
  obtain ⟨d, e1, rfl⟩ := map_some hi
  obtain ⟨x, e2, e3⟩ := RpL.at h2 e1
  refine ⟨⟨xs, x, h1, e2⟩, fun y H' hy => ?_⟩
  obtain ⟨rfl, hy⟩ := hy
  refine ⟨Same.refl _, fun Z ⟨zs, k1, k2⟩ m => ?_⟩
  obtain ⟨u, e4, e5⟩ := RpL.at k2 e1
  have q := hy zs (Same.seq m k1)
  rw [e4] at q; cases q
  exact e5
theorem wk_tup {K : PySem.W.Frag} {b : Addr} {ds : List D} : Wk K (TT' K b ds) (Itt K b) (ds.map SI.one) := by
  intro H ⟨xs, h1, h2⟩ i
  refine ⟨fun it hi => ?_, fun hi => ⟨xs, h1, by rw [hi, List.length_map, h2.length]; exact Nat.le_refl _⟩⟩
  rw [List.getElem?_map] at hi
  obtain ⟨d, e1, rfl⟩ := map_some hi
  obtain ⟨x, e2, e3⟩ := RpL.at h2 e1
  refine ⟨⟨xs, x, h1, e2⟩, fun y H' hy => ?_⟩
  obtain ⟨rfl, hy⟩ := hy
  refine ⟨Same.refl _, fun Z ⟨zs, k1, k2⟩ m => ?_⟩
  obtain ⟨u, e4, e5⟩ := RpL.at k2 e1
  have q := hy zs (Same.seqT m k1)
  rw [e4] at q; cases q
  exact e5
theorem wk_enum {K : PySem.W.Frag} {b : Addr} {ds : List D} : Wk K (TL K b ds) (Ite K b) (enumFrom 0 ds) := by
  intro H ⟨xs, h1, h2⟩ i
  refine ⟨fun it hi => ?_, fun hi => ⟨xs, h1, by rw [hi, enumFrom_length, h2.length]; exact Nat.le_refl _⟩⟩
  rw [enumFrom_get, Nat.zero_add] at hi
  obtain ⟨d, e1, rfl⟩ := map_some hi
  obtain ⟨x, e2, e3⟩ := RpL.at h2 e1
  refine ⟨⟨xs, x, h1, e2⟩, fun y H' hy => ?_⟩
  obtain ⟨t, z, rfl, ht, rfl, hy⟩ := hy
  refine ⟨same_upd ht, t, z, rfl, SqT.of upd_same, fun Z ⟨zs, k1, k2⟩ m => ?_⟩
  obtain ⟨u, e4, e5⟩ := RpL.at k2 e1
  have q := hy zs (Same.seq m k1)
  rw [e4] at q; cases q
  exact e5
theorem wk_enumT {K : PySem.W.Frag} {b : Addr} {ds : List D} : Wk K (TT' K b ds) (IteT K b) (enumFrom 0 ds) := by
  intro H ⟨xs, h1, h2⟩ i
  refine ⟨fun it hi => ?_, fun hi => ⟨xs, h1, by rw [hi, enumFrom_length, h2.length]⟩⟩
  rw [enumFrom_get, Nat.zero_add] at hi
  obtain ⟨d, e1, rfl⟩ := map_some hi
  obtain ⟨x, e2, e3⟩ := RpL.at h2 e1
  refine ⟨⟨xs, x, h1, e2⟩, fun y H' hy => ?_⟩
  obtain ⟨t, z, rfl, ht, rfl, hy⟩ := hy
  refine ⟨same_upd ht, t, z, rfl, SqT.of upd_same, fun Z ⟨zs, k1, k2⟩ m => ?_⟩
  obtain ⟨u, e4, e5⟩ := RpL.at k2 e1
  have q := hy zs (Same.seqT m k1)
  rw [e4] at q; cases q
  exact e5
theorem wk_rng {K : PySem.W.Frag} {i : Int} {n : Nat} : Wk K (fun _ => True) (Itr i n) (rangeL i n) := by
  intro H _ j
  refine ⟨fun it hi => ?_, fun hi => by rw [hi, rangeL_length]; exact Nat.le_refl _⟩
  rw [rangeL_get] at hi
  split at hi
  · rename_i hj
    cases hi
    refine ⟨hj, fun y H' hy => ?_⟩
    obtain ⟨rfl, rfl⟩ := hy
    exact ⟨Same.refl _, fun Z _ _ => by unfold Rp; rfl⟩
  · cases hi
/-- what stands where a datum that is walked is -/
def srcT (K : PySem.W.Frag) (d : D) (b : Addr) (ds : List D) : Hp → Prop := match d with
  | .tup _ => TT' K b ds
  | _ => TL K b ds
theorem srcT.mono {K : PySem.W.Frag} {d : D} {b : Addr} {ds : List D} {Z Z' : Hp} (t : srcT K d b ds Z) (m : Same Z Z') : srcT K d b ds Z' := by
  cases d <;> first | exact TT'.mono t m | exact TL.mono t m
theorem rp_src {K : PySem.W.Frag} {H : Hp} {d : D} {v : V} {ds : List D} (h : Rp K H d v) (e : itemsOf d = some ds) : ∃ b, v = V.ref b ∧ srcT K d b ds H := by
  cases d with
  | tup es => cases e; unfold Rp at h; obtain ⟨a, xs, h1, h2, h3⟩ := h; exact ⟨a, h1, xs, h2, h3⟩
  | lst es => cases e; unfold Rp at h; obtain ⟨a, xs, h1, h2, h3⟩ := h; exact ⟨a, h1, xs, SqL.of h2, h3⟩
  | scr ns => cases e; unfold Rp at h; obtain ⟨a, h1, h2⟩ := h; exact ⟨a, h1, _, h2, rpL_ints ns⟩
  | non => cases e
  | bl => cases e
  | int => cases e
  | str => cases e
theorem src_ref {K : PySem.W.Frag} {H : Hp} {d : D} {b : Addr} {ds : List D} (h : Rp K H d (.ref b)) (e : itemsOf d = some ds) : srcT K d b ds H := by
  obtain ⟨b', e1, t⟩ := rp_src h e
  cases e1
  exact t
theorem di_seq (h : DE X a g) : DI X tg a (gSeq g) := by
  refine DI.of (pi_seq h.pe) fun B C σ H δ Φ kd its R S e k => ?_
  obtain ⟨r, e1, e2⟩ := bind1_some e
  obtain ⟨ds, e3, e4⟩ := map_some e2
  cases e4
  refine ⟨B, C, δ, Φ, r, S, e1, fun v H1 φ s q f n => ?_⟩
  have ch := S.ch.trans s
  obtain ⟨t1, t2, t3, t4⟩ := q.src S.bc ch s f
  obtain ⟨b, rfl, ht⟩ := rp_src t1 e3
  refine ⟨b, rfl, ?_⟩
  have kk := fun J (w : Wk X.K (srcT X.K r.d b ds) J (ds.map SI.one)) => k J H1 (srcT X.K r.d b ds) s (fun Z Z' t m => t.mono m) w ht (fun z => src_ref (t2 z) e3) (fun z => src_ref (t3 z) e3) (fun z Ψ y => src_ref (t4 z Ψ y) e3)
  clear t1 t2 t3 t4
  revert kk ht
  cases r.d with
  | tup es => intro ht kk; exact .inr ⟨ht.choose, ht.choose_spec.1, kk _ wk_tup⟩
  | lst es => intro ht kk; exact .inl ⟨ht.choose, ht.choose_spec.1, kk _ wk_list⟩
  | scr es => intro ht kk; exact .inl ⟨ht.choose, ht.choose_spec.1, kk _ wk_list⟩
  | non => intro ht kk; exact .inl ⟨ht.choose, ht.choose_spec.1, kk _ wk_list⟩
  | bl => intro ht kk; exact .inl ⟨ht.choose, ht.choose_spec.1, kk _ wk_list⟩
  | int => intro ht kk; exact .inl ⟨ht.choose, ht.choose_spec.1, kk _ wk_list⟩
  | str => intro ht kk; exact .inl ⟨ht.choose, ht.choose_spec.1, kk _ wk_list⟩
theorem di_enum {elts : List Expr} {kk : Nat} {p tpos : Pos} (h : DE X a g) (hm : X.mg "enumerate" = none) (hg : Gl X "enumerate" := by rfl) (hs : starEach [a] X.env = (false, eval a X.env) :: starEach [] X.env := by rfl) (hs1 : starEach [a] X.env = [(false, eval a X.env)] := by rfl) :
    DI X (.Tuple elts kk tpos) (.Call (.Name "enumerate" p) [a] [] pos) (gEnum g) := by
  refine DI.of (pi_enumS hg hm (pa_cons h.pe pa_nil hs) hs1) fun B C σ H δ Φ kd its R S e k => ?_
  obtain ⟨r, e1, e2⟩ := bind1_some e
  obtain ⟨ds, e3, e4⟩ := map_some e2
  cases e4
  refine ⟨B, C, δ, Φ, r, S, e1, fun v H1 φ s q f n => ?_⟩
  have ch := S.ch.trans s
  obtain ⟨t1, t2, t3, t4⟩ := q.src S.bc ch s f
  obtain ⟨b, rfl, ht⟩ := rp_src t1 e3
  refine ⟨b, rfl, ?_⟩
  have kk := fun J (w : Wk X.K (srcT X.K r.d b ds) J (enumFrom 0 ds)) => k J H1 (srcT X.K r.d b ds) s (fun Z Z' t m => t.mono m) w ht (fun z => src_ref (t2 z) e3) (fun z => src_ref (t3 z) e3) (fun z Ψ y => src_ref (t4 z Ψ y) e3)
  clear t1 t2 t3 t4
  revert kk ht
  cases r.d with
  | tup es => intro ht kk; exact .inr ⟨ht.choose, ht.choose_spec.1, kk _ wk_enumT⟩
  | lst es => intro ht kk; exact .inl ⟨ht.choose, ht.choose_spec.1, kk _ wk_enum⟩
  | scr es => intro ht kk; exact .inl ⟨ht.choose, ht.choose_spec.1, kk _ wk_enum⟩
  | non => intro ht kk; exact .inl ⟨ht.choose, ht.choose_spec.1, kk _ wk_enum⟩
  | bl => intro ht kk; exact .inl ⟨ht.choose, ht.choose_spec.1, kk _ wk_enum⟩
  | int => intro ht kk; exact .inl ⟨ht.choose, ht.choose_spec.1, kk _ wk_enum⟩
  | str => intro ht kk; exact .inl ⟨ht.choose, ht.choose_spec.1, kk _ wk_enum⟩
theorem small62_iff {i : Int} (h : small62 i = true) : -(2 ^ 62) ≤ i ∧ i < 2 ^ 62 := of_decide_eq_true h
theorem di_rng1 {p : Pos} (h : DE X a g) (hm : X.mg "range" = none) (hg : Gl X "range" := by rfl) (hs : starEach [a] X.env = (false, eval a X.env) :: starEach [] X.env := by rfl) (hs1 : starEach [a] X.env = [(false, eval a X.env)] := by rfl) : DI X tg (.Call (.Name "range" p) [a] [] pos) (gRng1 g) := by
  refine DI.of (pi_range1 hg hm (pa_cons h.pe pa_nil hs) hs1) fun B C σ H δ Φ kd its R S e k => ?_
  obtain ⟨r, e1, e2⟩ := bind1_some e
  refine ⟨B, C, δ, Φ, r, S, e1, fun v H1 φ s q f n => ?_⟩
  have rp := q.rp S.bc (S.ch.trans s)
  split at e2
  · rename_i b hb
    rw [hb] at rp
    split at e2
    · rename_i hz
      cases e2
      obtain ⟨z1, z2⟩ := small62_iff hz
      exact ⟨b, by rw [rp_int rp], z1, z2, k _ H1 (fun _ => True) s (fun _ _ _ _ => trivial) wk_rng trivial (fun _ => trivial) (fun _ => trivial) (fun _ _ _ => trivial)⟩
    · cases e2
  · cases e2
theorem di_rng2 {b : Expr} {g2 : G} {p : Pos} (ha : DE X a g) (hb : DE X b g2) (hm : X.mg "range" = none) (hg : Gl X "range" := by rfl) (he1 : starEach [a, b] X.env = (false, eval a X.env) :: starEach [b] X.env := by rfl) (he2 : starEach [b] X.env = (false, eval b X.env) :: starEach [] X.env := by rfl)
    (hs : starEach [a, b] X.env = [(false, eval a X.env), (false, eval b X.env)] := by rfl) (hs2 : starEach [b] X.env = [(false, eval b X.env)] := by rfl) : DI X tg (.Call (.Name "range" p) [a, b] [] pos) (gRng2 g g2) := by
  refine DI.of (pi_range2 hg hm (pa_cons ha.pe (pa_cons hb.pe pa_nil he2) he1) hs hs2) fun B C σ H δ Φ kd its R S e k => ?_
  obtain ⟨x, y, e1, e2, e3⟩ := bind2_some e
  refine two S e1 e2 fun u w H' s q1 q2 => ?_
  split at e3
  · rename_i i j hx hy
    rw [hx] at q1
    rw [hy] at q2
    split at e3
    · rename_i hz
      cases e3
      obtain ⟨z1, z2⟩ := small62_iff hz.1
      obtain ⟨z3, z4⟩ := small62_iff hz.2
      exact ⟨i, j, by rw [rp_int q1, rp_int q2], ⟨z1, z2, z3, z4⟩, k _ H' (fun _ => True) s (fun _ _ _ _ => trivial) wk_rng trivial (fun _ => trivial) (fun _ => trivial) (fun _ _ _ => trivial)⟩
    · cases e3
  · cases e3
end

/-! ### targets -/
/-- an item on its way to a target -/
inductive Itm where | one (r : R) | tup (rs : List R)
def ItOk (K : PySem.W.Frag) (B C H : Hp) : Itm → V → List Addr → Prop
  | .one r, v, φ => RR K B C H r v φ
  | .tup rs, v, φ => ∃ (a : Addr) (xs : List V), v = V.ref a ∧ SqT K H a xs ∧ RRL K B C H rs xs φ
abbrev GTg := Itm → DSt → Option DSt
abbrev GTgs := List R → DSt → Option DSt
/-- what a target's store leaves; ts: the slots that it may store -/
def TgEnd (K : PySem.W.Frag) (B C : Hp) (ts : List Nat) (σ : L2.St) (H : Hp) (δ : DSt) (Φ : Nat → List Addr) (φ : List Addr) (δ' : DSt) (σ' : L2.St) : Prop :=
  ∃ Φ', RSt K B C σ' H δ' Φ' ∧ Lk σ δ σ' δ' ∧ (∀ j a, a ∈ Φ' j → a ∈ Φ j ∨ a ∈ φ) ∧ σ'.length = σ.length ∧ ∀ j, j ∉ ts → σ'[j]? = σ[j]?
def tDG (K : PySem.W.Frag) (ts : List Nat) (g : GTg) : TG := fun v σ H Q => ∃ (B C : Hp) (δ : DSt) (Φ : Nat → List Addr) (it : Itm) (φ : List Addr) (δ' : DSt), RSt K B C σ H δ Φ ∧ ItOk K B C H it v φ ∧ φ.Nodup ∧ (∀ a ∈ φ, C a = none) ∧ (∀ j a, a ∈ φ → a ∉ Φ j) ∧ g it δ = some δ' ∧
  ∀ σ', TgEnd K B C ts σ H δ Φ φ δ' σ' → Q σ' H
def tDGs (K : PySem.W.Frag) (ts : List Nat) (g : GTgs) : TGs := fun vs σ H Q => ∃ (B C : Hp) (δ : DSt) (Φ : Nat → List Addr) (rs : List R) (φ : List Addr) (δ' : DSt), RSt K B C σ H δ Φ ∧ RRL K B C H rs vs φ ∧ φ.Nodup ∧ (∀ a ∈ φ, C a = none) ∧ (∀ j a, a ∈ φ → a ∉ Φ j) ∧ g rs δ = some δ' ∧
  ∀ σ', TgEnd K B C ts σ H δ Φ φ δ' σ' → Q σ' H
structure DG (X : Cx) (tg : Expr) (ts : List Nat) (g : GTg) : Prop where
  pg : PG X tg (tDG X.K ts g)
structure DGs (X : Cx) (tgs : List Expr) (ts : List Nat) (n : Nat) (g : GTgs) : Prop where
  pgs : PGs X tgs (tDGs X.K ts g)
theorem DG.of {X : Cx} {tg : Expr} {ts : List Nat} {g : GTg} {t : TG} (h : PG X tg t) (f : ∀ (B C : Hp) (σ : L2.St) (H : Hp) (δ : DSt) (Φ : Nat → List Addr) (it : Itm) (v : V) (φ : List Addr) (δ' : DSt) (Q : L2.St → Hp → Prop), RSt X.K B C σ H δ Φ → ItOk X.K B C H it v φ → φ.Nodup → (∀ a ∈ φ, C a = none) → (∀ j a, a ∈ φ → a ∉ Φ j) → g it δ = some δ' →
    (∀ σ', TgEnd X.K B C ts σ H δ Φ φ δ' σ' → Q σ' H) → t v σ H Q) : DG X tg ts g :=
  ⟨⟨fun pins s σ H v u Q I r q => h.run pins s σ H v u Q I r (by obtain ⟨B, C, δ, Φ, it, φ, δ', a1, a2, a3, a4, a5, a6, a7⟩ := q; exact f B C σ H δ Φ it v φ δ' Q a1 a2 a3 a4 a5 a6 a7)⟩⟩
theorem DGs.of {X : Cx} {tgs : List Expr} {ts : List Nat} {n : Nat} {g : GTgs} {t : TGs} (h : PGs X tgs t) (f : ∀ (B C : Hp) (σ : L2.St) (H : Hp) (δ : DSt) (Φ : Nat → List Addr) (rs : List R) (vs : List V) (φ : List Addr) (δ' : DSt) (Q : L2.St → Hp → Prop), RSt X.K B C σ H δ Φ → RRL X.K B C H rs vs φ → φ.Nodup → (∀ a ∈ φ, C a = none) → (∀ j a, a ∈ φ → a ∉ Φ j) → g rs δ = some δ' →
    (∀ σ', TgEnd X.K B C ts σ H δ Φ φ δ' σ' → Q σ' H) → t vs σ H Q) : DGs X tgs ts n g :=
  ⟨⟨fun pins s σ H v u Q I r q => h.run pins s σ H v u Q I r (by obtain ⟨B, C, δ, Φ, it, φ, δ', a1, a2, a3, a4, a5, a6, a7⟩ := q; exact f B C σ H δ Φ it v φ δ' Q a1 a2 a3 a4 a5 a6 a7)⟩⟩
section
variable {X : Cx} {tg : Expr} {tgs : List Expr} {ts us : List Nat} {pos : Pos}
def gName (i : Nat) : GTg := fun it δ => match it with
  | .one r => store i r δ
  | .tup _ => none
theorem set_get_ne {α : Type} {l : List α} {i j : Nat} {x : α} (h : j ≠ i) : (l.set i x)[j]? = l[j]? := List.getElem?_set_ne (Ne.symm h)
theorem dg_name (i : Nat) {x : Str} (hN : X.N.Nodup) (hi : X.N[i]? = some x := by rfl) (hx : Loc X.env.scope x := by first | exact Or.inl rfl | exact Or.inr rfl) (hf : X.fn x = true ∨ X.env.scope.names.lookup x = some .local := by first | exact .inl rfl | exact .inr rfl | assumption) : DG X (.Name x pos) [i] (gName i) := by
  refine DG.of (pg_name hN hi hx hf) fun B C σ H δ Φ it v φ δ' Q S q n fc fr e k => ?_
  cases it with
  | tup rs => cases e
  | one r =>
    refine k _ ⟨_, S.store e q n fc fr, Lk.store e, fun j a ha => ?_, List.length_set, fun j hj => set_get_ne (by simpa using hj)⟩
    split at ha
    · exact .inr ha
    · exact .inl ha
def gsNil : GTgs := fun rs δ => match rs with | [] => some δ | _ => none
def gsCons (g : GTg) (gs : GTgs) : GTgs := fun rs δ => match rs with
  | [] => none
  | r :: rs => (g (.one r) δ).bind fun δ1 => gs rs δ1
theorem dgs_nil : DGs X [] [] 0 gsNil := by
  refine DGs.of pgs_nil fun B C σ H δ Φ rs vs φ δ' Q S q n fc fr e k => ?_
  cases rs with
  | nil =>
    cases e
    obtain ⟨rfl, rfl⟩ := q
    exact ⟨rfl, k σ ⟨Φ, S, Lk.refl, fun j a h => .inl h, rfl, fun _ _ => rfl⟩⟩
  | cons => cases e
theorem dgs_cons {e : Expr} {g : GTg} {gs : GTgs} {n : Nat} (h1 : DG X e ts g) (h2 : DGs X tgs us n gs) (hs : (assignEach (e :: tgs) X.env).map (·.2) = assign e X.env :: (assignEach tgs X.env).map (·.2) := by rfl) : DGs X (e :: tgs) (ts ++ us) (n + 1) (gsCons g gs) := by
  refine DGs.of (pgs_cons h1.pg h2.pgs hs) fun B C σ H δ Φ rs vs φ δ' Q S q n fc fr e k => ?_
  cases rs with
  | nil => cases e
  | cons r rs =>
    obtain ⟨δ1, e1, e2⟩ := bind1_some e
    obtain ⟨v, w, φ1, φ2, rfl, q1, q2, rfl⟩ := q
    obtain ⟨n1, n2, n3⟩ := List.nodup_append.mp n
    refine ⟨v, w, rfl, B, C, δ, Φ, .one r, φ1, δ1, S, q1, n1, fun a ha => fc a (List.mem_append_left _ ha), fun j a ha => fr j a (List.mem_append_left _ ha), e1, fun σ1 ⟨Φ1, S1, L1, f1, l1, o1⟩ => ?_⟩
    refine ⟨B, C, δ1, Φ1, rs, φ2, δ', S1, q2, n2, fun a ha => fc a (List.mem_append_right _ ha), fun j a ha hb => ?_, e2, fun σ2 ⟨Φ2, S2, L2, f2, l2, o2⟩ => ?_⟩
    · rcases f1 j a hb with z | z
      · exact fr j a (List.mem_append_right _ ha) z
      · exact n3 a z a ha rfl
    · refine k σ2 ⟨Φ2, S2, L1.trans L2, fun j a ha => ?_, l2.trans l1, fun j hj => ?_⟩
      · rcases f2 j a ha with z | z
        · rcases f1 j a z with z | z
          · exact .inl z
          · exact .inr (List.mem_append_left _ z)
        · exact .inr (List.mem_append_right _ z)
      · rw [List.mem_append, not_or] at hj
        exact (o2 j hj.2).trans (o1 j hj.1)
/-- the parts of a tuple that is taken apart -/
def R.parts : R → Option (List R)
  | .own (.tup ds) => some (ds.map fun d => if pu d = true then .val d else .own d)
  | r => (match r.d with | .tup ds => some (ds.map r.elt) | _ => none)
def Itm.parts : Itm → Option (List R)
  | .one r => r.parts
  | .tup rs => some rs
theorem parts_own {K : PySem.W.Frag} {B C H : Hp} : ∀ {ds : List D} {xs : List V} {φ : List Addr}, OwL K H ds xs φ → RRL K B C H (ds.map fun d => if pu d = true then R.val d else .own d) xs φ
  | [], _, _, h => by unfold OwL at h; exact h
  | d :: ds, _, _, h => by
    unfold OwL at h
    obtain ⟨x, ys, φ1, φ2, e1, q, r, e2⟩ := h
    refine ⟨x, ys, φ1, φ2, e1, ?_, parts_own r, e2⟩
    show RR K B C H (if pu d = true then R.val d else R.own d) x φ1
    split
    · rename_i hp
      exact ⟨Ow.nil _ _ _ hp q, hp, Ow.rp _ _ _ q⟩
    · exact q
theorem parts_elt {K : PySem.W.Frag} {B C H Z : Hp} {r : R} (el : ∀ d w, Rp K Z d w → RR K B C H (r.elt d) w []) : ∀ {ds : List D} {xs : List V}, RpL K Z ds xs → RRL K B C H (ds.map r.elt) xs []
  | [], _, h => by unfold RpL at h; exact ⟨h, rfl⟩
  | d :: ds, _, h => by
    unfold RpL at h
    obtain ⟨x, ys, e1, q, k⟩ := h
    exact ⟨x, ys, [], [], e1, el d x q, parts_elt el k, rfl⟩
theorem parts_ok {K : PySem.W.Frag} {B C H : Hp} {it : Itm} {v : V} {φ : List Addr} {rs : List R} (bc : Same B C) (ch : Same C H) (h : ItOk K B C H it v φ) (e : it.parts = some rs) : ∃ a xs ψ, v = V.ref a ∧ SqT K H a xs ∧ RRL K B C H rs xs ψ ∧ (ψ = φ ∨ ψ = []) := by
  cases it with
  | tup ss =>
    cases e
    obtain ⟨a, xs, h1, h2, h3⟩ := h
    exact ⟨a, xs, φ, h1, h2, h3, .inl rfl⟩
  | one r =>
    have e9 : r.parts = some rs := e
    have h : RR K B C H r v φ := h
    clear e
    have gen : ∀ ds, r.d = .tup ds → rs = ds.map r.elt → ∃ a xs ψ, v = V.ref a ∧ SqT K H a xs ∧ RRL K B C H rs xs ψ ∧ (ψ = φ ∨ ψ = []) := fun ds hd hrs => by
      obtain ⟨Z, sz, qz, el⟩ := RR.elt bc ch h
      rw [hd] at qz
      unfold Rp at qz
      obtain ⟨a, xs, e1, q1, q2⟩ := qz
      exact ⟨a, xs, [], e1, Same.seqT sz q1, by rw [hrs]; exact parts_elt el q2, .inr rfl⟩
    by_cases ho : ∃ ds, r = .own (.tup ds)
    · obtain ⟨ds, rfl⟩ := ho
      cases e9
      have h : Ow K H (.tup ds) v φ := h
      unfold Ow at h
      obtain ⟨a, xs, e1, q1, q2⟩ := h
      exact ⟨a, xs, φ, e1, q1, parts_own q2, .inl rfl⟩
    · have e10 : (match r.d with | .tup ds => some (ds.map r.elt) | _ => none) = some rs := by
        cases r with
        | own d => cases d with
          | tup ds => exact absurd ⟨ds, rfl⟩ ho
          | _ => exact e9
        | _ => exact e9
      split at e10
      · rename_i ds hd
        exact gen ds hd (Option.some.inj e10).symm
      · cases e10
def gTupT (n : Nat) (gs : GTgs) : GTg := fun it δ => it.parts.bind fun rs => if rs.length = n then gs rs δ else none
theorem dg_tup {n k : Nat} {gs : GTgs} (hc : X.calm = true) (h : DGs X tgs ts n gs) (hn : (assignEach tgs X.env).length = n := by rfl) (hst : (assignEach tgs X.env).findIdx? (·.1) = none := by rfl) : DG X (.Tuple tgs k pos) ts (gTupT n gs) := by
  refine DG.of (pg_tup hc h.pgs hn hst) fun B C σ H δ Φ it v φ δ' Q S q nd fc fr e kk => ?_
  obtain ⟨rs, e1, e2⟩ := bind1_some e
  split at e2
  · rename_i hl
    obtain ⟨a, xs, ψ, rfl, hs, hq, hψ⟩ := parts_ok S.bc S.ch q e1
    refine ⟨a, xs, rfl, hs, by rw [hq.length]; exact hl, ?_⟩
    rcases hψ with rfl | rfl
    · exact ⟨B, C, δ, Φ, rs, ψ, δ', S, hq, nd, fc, fr, e2, kk⟩
    · exact ⟨B, C, δ, Φ, rs, [], δ', S, hq, List.nodup_nil, (fun _ z => by cases z), (fun _ _ z => by cases z), e2, fun σ' ⟨Φ', a1, a2, a3, a4⟩ => kk σ' ⟨Φ', a1, a2, fun j b hb => .inl ((a3 j b hb).resolve_right fun z => by cases z), a4⟩⟩
  · cases e2
end
end DL

set_option Elab.async false
set_option linter.all false
set_option maxRecDepth 100000
set_option maxHeartbeats 4000000
/-! D7: list comprehensions over plain data. -/
namespace DL
open PySem PySem.Spec PyProof.Rows L2
def wipeD (δ : DSt) : List Nat → DSt
  | [] => δ
  | v :: vs => (wipeD δ vs).set v .no
section
variable {K : PySem.W.Frag} {B C H : Hp} {σ : L2.St} {δ : DSt} {Φ : Nat → List Addr}
theorem RSt.forget (h : RSt K B C σ H δ Φ) (i : Nat) : RSt K B C (σ.set i none) H (δ.set i .no) (fun j => if j = i then [] else Φ j) := by
  refine ⟨by simpa using h.len, fun j => ?_, fun j => ?_, fun j k a ha hb => ?_, h.bc, h.ch, fun j a ha => ?_⟩
  · rw [getD_set, getD_set, h.len]
    by_cases hj : j = i
    · subst hj
      rw [if_pos rfl]
      by_cases hl : j < δ.length
      · rw [if_pos ⟨rfl, hl⟩, if_pos ⟨rfl, hl⟩]
        rfl
      · rw [if_neg (fun z => hl z.2), if_neg (fun z => hl z.2)]
        have e : δ.getD j .no = .no := by rw [List.getD_eq_getElem?_getD, List.getElem?_eq_none (by omega)]; rfl
        rw [e]
        rfl
    · rw [if_neg (fun z => hj z.1), if_neg (fun z => hj z.1), if_neg hj]
      exact h.sl j
  · split
    · exact List.nodup_nil
    · exact h.nd j
  · split at ha
    · cases ha
    · split at hb
      · cases hb
      · exact h.dj j k a ha hb
  · split at ha
    · cases ha
    · exact h.fr j a ha
theorem RSt.wipe (h : RSt K B C σ H δ Φ) : ∀ vs : List Nat, ∃ Φ', RSt K B C (L2.wipe σ vs) H (wipeD δ vs) Φ'
  | [] => ⟨Φ, h⟩
  | v :: vs => by
    obtain ⟨Φ', q⟩ := RSt.wipe h vs
    exact ⟨_, q.forget v⟩
theorem wipe_mem {i : Nat} : ∀ {vs : List Nat}, i ∈ vs → (L2.wipe σ vs)[i]? = if i < σ.length then some none else none
  | v :: vs, h => by
    unfold L2.wipe
    by_cases hv : v = i
    · subst hv
      by_cases hl : v < σ.length
      · rw [if_pos hl, List.getElem?_set_self (by rw [wipe_length]; exact hl)]
      · rw [if_neg hl, List.getElem?_eq_none (by rw [List.length_set, wipe_length]; omega)]
    · rw [List.getElem?_set_ne hv]
      rcases List.mem_cons.mp h with z | z
      · exact absurd z.symm hv
      · exact wipe_mem z
theorem wipe_eq {σ2 : L2.St} {vs : List Nat} (hl : σ2.length = σ.length) (h : ∀ j, j ∉ vs → σ2[j]? = (L2.wipe σ vs)[j]?) : L2.wipe σ2 vs = L2.wipe σ vs := by
  apply List.ext_getElem?
  intro i
  by_cases hi : i ∈ vs
  · rw [wipe_mem hi, wipe_mem hi, hl]
  · rw [wipe_out hi, h i hi]
end
/-- an item of a comprehension's source -/
def Kd.mk (k : Kd) (d : D) : R := if pu d = true then .val d else match k with
  | .par => .par d | .fr => .fr d | _ => .bor d
def Kd.itm (k : Kd) : SI → Itm
  | .one d => .one (k.mk d)
  | .en i d => .tup [.val (.int i), k.mk d]
section
variable {K : PySem.W.Frag} {B C H1 H H' : Hp}
theorem kd_mk {k : Kd} {d : D} {x : V} (hB : k = .par → Rp K B d x) (hC : k = .fr → Rp K C d x) (hH : Rp K H d x) : RR K B C H (k.mk d) x [] := by
  unfold Kd.mk
  split
  · rename_i p; exact ⟨rfl, p, hH⟩
  · cases k with
    | par => exact ⟨rfl, hB rfl⟩
    | fr => exact ⟨rfl, hC rfl⟩
    | val => exact ⟨rfl, hH⟩
    | bor => exact ⟨rfl, hH⟩
    | own => exact ⟨rfl, hH⟩
/-- the item that the iterator gives, as the target takes it -/
theorem itm_ok {T : Hp → Prop} {J : It} {its : List SI} {k : Kd} {i : Nat} {it : SI} {x : V} (wk : Wk K T J its) (sB : Same B H) (sC : Same C H) (s1 : Same H1 H) (tH : T H) (t1 : T H1) (tB : k = .par → T B) (tC : k = .fr → T C)
    (hi : its[i]? = some it) (hy : J.yld i H x H') : Same H H' ∧ ItOk K B C H' (k.itm it) x [] := by
  obtain ⟨ss, q1⟩ := ((wk H tH i).1 it hi).2 x H' hy
  refine ⟨ss, ?_⟩
  cases it with
  | one d => exact kd_mk (fun z => q1 B (tB z) sB) (fun z => q1 C (tC z) sC) (Rp.mono (s1.trans ss) _ _ (q1 H1 t1 s1))
  | en j d =>
    obtain ⟨a, y, rfl, hs, hr⟩ := q1
    exact ⟨a, [.int j, y], rfl, hs, .int j, [y], [], [], rfl, rr_int, ⟨y, [], [], [], rfl, kd_mk (fun z => hr B (tB z) sB) (fun z => hr C (tC z) sC) (Rp.mono (s1.trans ss) _ _ (hr H1 t1 s1)), ⟨rfl, rfl⟩, rfl⟩, rfl⟩
end

/-- a comprehension's tests -/
structure DTs (X : Cx) (ifs : List Expr) (g : GT) : Prop where
  pts : PTs X ifs (tDT X.K g)
def gYes : GT := fun _ => some true
theorem dts_nil {X : Cx} : DTs X [] gYes := ⟨⟨fun pins s σ H Q I h => pts_nil.run pins s σ H Q I (by
  obtain ⟨B, C, δ, Φ, b, S, e, k⟩ := h
  cases e
  exact k H (Same.refl _))⟩⟩
theorem dts_one {X : Cx} {c : Expr} {g : GT} (h : DT X c g) : DTs X [c] g := ⟨pts_one h.pt⟩
def R.okEl : R → Bool
  | .val _ => true | .own _ => true | _ => false
/-- the items that a comprehension makes -/
def lcL (vs : List Nat) (kd : Kd) (gt : GTg) (gc : GT) (ge : G) (δ : DSt) : List SI → Option (List D)
  | [] => some []
  | it :: its => (gt (kd.itm it) (wipeD δ vs)).bind fun δ1 => (gc δ1).bind fun b => if b = true then (ge δ1).bind fun r => if r.okEl = true then (lcL vs kd gt gc ge δ its).map (r.d :: ·) else none else lcL vs kd gt gc ge δ its
def gLc (vs : List Nat) (gi : GI) (gt : GTg) (gc : GT) (ge : G) : G := fun δ => (gi δ).bind fun p => if p.2.length ≤ sizeLine then (lcL vs p.1 gt gc ge δ p.2).map fun ds => .own (.lst ds) else none
theorem okEl_ow {K : PySem.W.Frag} {B C H : Hp} {r : R} {v : V} {φ : List Addr} (h : RR K B C H r v φ) (e : r.okEl = true) : Ow K H r.d v φ := by
  cases r with
  | val d => obtain ⟨rfl, h2, h3⟩ := h; exact Ow.pu _ _ h2 h3
  | own d => exact h
  | par d => cases e
  | fr d => cases e
  | bor d => cases e
theorem tk_lst {H : Hp} {D : Addr} {xs ys : List V} (h : H D = some (.lst xs)) : TK H (upd H D (.lst ys)) := fun a o e n => by
  have ne : a ≠ D := fun z => by
    rw [z, h] at e
    exact n xs (Option.some.inj e).symm
  rw [upd_ne ne]; exact e
theorem lc_use {K : PySem.W.Frag} {vs ts : List Nat} {gi : GI} {gt : GTg} {gc : GT} {ge : G} {σ : L2.St} {H : Hp} {Q : VK} (hts : ∀ i ∈ ts, i ∈ vs) (h : tD K (gLc vs gi gt gc ge) σ H Q) : tLc (tDI K gi) (tDG K ts gt) (tDT K gc) (tD K ge) vs σ H Q := by
  obtain ⟨B, C, δ, Φ, c, S, e, k⟩ := h
  obtain ⟨p, e1, e⟩ := bind1_some e
  obtain ⟨kd, its⟩ := p
  by_cases hz : its.length ≤ sizeLine
  · have e : (if its.length ≤ sizeLine then (lcL vs kd gt gc ge δ its).map fun ds => R.own (.lst ds) else none) = some c := e
    rw [if_pos hz] at e
    obtain ⟨ds, e2, ec⟩ := map_some e
    subst ec
    refine ⟨B, C, δ, Φ, kd, its, S, e1, fun J H1 T s tm wk t1 tB tC _ Da hD => ?_⟩
    have S1 := S.same s
    obtain ⟨Φw, Sw⟩ := S1.wipe vs
    refine ⟨fun i m Hn => m = its.length - i ∧ i ≤ its.length ∧ ∃ (acc : List V) (φ : List Addr) (ds1 ds2 : List D), Same H1 Hn ∧ Hn Da = some (.lst acc) ∧ OwL K Hn ds1 acc φ ∧ φ.Nodup ∧ (∀ a ∈ φ, H1 a = none ∧ a ≠ Da) ∧ ds1.length ≤ i ∧ lcL vs kd gt gc ge δ (its.drop i) = some ds2 ∧ ds = ds1 ++ ds2,
      ⟨its.length, by simp, Nat.zero_le _, [], [], [], ds, same_upd hD, upd_same, by simp [OwL], List.nodup_nil, (fun _ z => by cases z), Nat.le_refl _, by simpa using e2, rfl⟩, ?_⟩
    rintro i m Hn ⟨rfl, hi, acc, φ, ds1, ds2, sH, hacc, how, hnd, hfr, hle, e3, e4⟩
    have tH := tm _ _ t1 sH
    by_cases hlt : i < its.length
    · obtain ⟨it, hit⟩ : ∃ it, its[i]? = some it := ⟨its[i], by simp [hlt]⟩
      have hdrop : its.drop i = it :: its.drop (i + 1) := by
        rw [List.drop_eq_getElem_cons hlt]
        congr 1
        have := List.getElem?_eq_getElem hlt
        rw [hit] at this
        exact (Option.some.inj this).symm
      rw [hdrop] at e3
      refine .inr ⟨((wk Hn tH i).1 it hit).1, fun H' => ∃ (acc : List V) (φ : List Addr) (ds1 ds2 : List D), Same H1 H' ∧ H' Da = some (.lst acc) ∧ OwL K H' ds1 acc φ ∧ φ.Nodup ∧ (∀ a ∈ φ, H1 a = none ∧ a ≠ Da) ∧ ds1.length ≤ i + 1 ∧ lcL vs kd gt gc ge δ (its.drop (i + 1)) = some ds2 ∧ ds = ds1 ++ ds2,
        fun H' w => ⟨its.length - (i + 1), by omega, rfl, hlt, w⟩, fun x H' hy => ?_⟩
      obtain ⟨ss, ok⟩ := itm_ok (B := B) (C := C) (H1 := H1) wk (S1.bc.trans (S1.ch.trans sH)) (S1.ch.trans sH) sH tH t1 tB tC hit hy
      obtain ⟨δ1, e5, e6⟩ := bind1_some e3
      obtain ⟨b, e7, e8⟩ := bind1_some e6
      have sH' := sH.trans ss
      refine ⟨B, C, wipeD δ vs, Φw, kd.itm it, [], δ1, Sw.same sH', ok, List.nodup_nil, fun _ z => (by cases z), fun _ _ z => (by cases z), e5, fun σ2 ⟨Φ2, S2, _, _, l2, o2⟩ => ⟨?_, ?_⟩⟩
      · exact wipe_eq (l2.trans (wipe_length σ vs)) fun j hj => o2 j fun z => hj (hts j z)
      · refine ⟨B, C, δ1, Φ2, b, S2, e7, fun H3 s3 => ?_⟩
        have sH3 := sH'.trans s3
        have keepD : H3 Da = some (.lst acc) := s3 _ _ (ss _ _ hacc)
        cases b with
        | true =>
          rw [if_pos rfl] at e8
          show if (_ : Bool) = true then _ else _
          refine iteT ?_
          obtain ⟨r, e9, e10⟩ := bind1_some e8
          split at e10
          · rename_i hok
            obtain ⟨ds3, e11, e12⟩ := map_some e10
            refine ⟨B, C, δ1, Φ2, r, S2.same s3, e9, fun y H4 φ4 s4 q4 f4 n4 => ?_⟩
            have hD4 := s4 _ _ keepD
            have al : acc.length = ds1.length := (OwL.rp _ _ _ how).length
            have tk4 := tk_lst (ys := acc ++ [y]) hD4
            have lift : ∀ (dd : List D) (vv : List V) (ψ : List Addr), (∀ a ∈ ψ, a ≠ Da) → OwL K H4 dd vv ψ → OwL K (upd H4 Da (.lst (acc ++ [y]))) dd vv ψ := fun dd vv ψ nn hw =>
              OwL.mono tk4 dd vv ψ (fun a ha => upd_ne (nn a ha)) hw
            have ow4 : OwL K H4 ds1 acc φ := OwL.same ((ss.trans s3).trans s4) how
            have f4D : ∀ a ∈ φ4, a ≠ Da := fun a ha z => by
              have q := f4 a ha
              rw [z, keepD] at q; cases q
            refine ⟨acc, hD4, by omega, acc ++ [y], φ ++ φ4, ds1 ++ [r.d], ds3, fun a o z => ?_, upd_same, ?_, ?_, fun a ha => ?_, by simp; omega, e11, by rw [e4, ← e12, List.append_assoc]; rfl⟩
            · have ne : a ≠ Da := fun q => by rw [q, hD] at z; cases z
              rw [upd_ne ne]
              exact s4 _ _ (sH3 _ _ z)
            · refine OwL.append (lift _ _ _ (fun a ha => (hfr a ha).2) ow4) ?_
              refine lift [r.d] [y] φ4 f4D ?_
              unfold OwL
              exact ⟨y, [], φ4, [], rfl, okEl_ow q4 hok, by unfold OwL; exact ⟨rfl, rfl⟩, by simp⟩
            · refine List.nodup_append.mpr ⟨hnd, n4, fun a ha b hb z => ?_⟩
              subst z
              obtain ⟨ys, q⟩ := OwL.trk _ _ _ how a ha
              have := (ss.trans s3) _ _ q
              rw [f4 a hb] at this; cases this
            · rcases List.mem_append.mp ha with ha | ha
              · exact hfr a ha
              · exact ⟨sH3.free (f4 a ha), f4D a ha⟩
          · cases e10
        | false =>
          rw [if_neg (by decide)] at e8
          show if (_ : Bool) = true then _ else _
          refine iteF ?_
          exact ⟨acc, φ, ds1, ds2, sH3, keepD, OwL.same (ss.trans s3) how, hnd, hfr, by omega, e8, e4⟩
    · have hii : i = its.length := by omega
      refine .inl ⟨(wk Hn tH i).2 hii, ?_⟩
      have e5 : ds2 = [] := by
        rw [hii, List.drop_length] at e3
        exact (Option.some.inj e3).symm
      rw [e5, List.append_nil] at e4
      subst e4
      refine k (.ref Da) Hn (Da :: φ) (s.trans sH) ?_ (fun a ha => ?_) (List.nodup_cons.mpr ⟨fun z => (hfr Da z).2 rfl, hnd⟩)
      · show Ow K Hn (.lst ds) _ _
        unfold Ow
        exact ⟨Da, acc, φ, rfl, hacc, how, rfl⟩
      · rcases List.mem_cons.mp ha with rfl | ha
        · exact s.free hD
        · exact s.free (hfr a ha).1
  · have e : (if its.length ≤ sizeLine then (lcL vs kd gt gc ge δ its).map fun ds => R.own (.lst ds) else none) = some c := e
    rw [if_neg hz] at e
    cases e
section
variable {X : Cx} {elt tg iter : Expr} {ifs : List Expr} {scope : Scope} {own : List (Str × Nat)} {vs ts : List Nat} {pos : Pos} {gi : GI} {gt : GTg} {gc : GT} {ge : G}
theorem de_lc (own : List (Str × Nat)) (hc : X.calm = true) (hN : X.N.Nodup) (hi : DI X tg iter gi) (ok : BlkOk X.N X.env.scope scope own)
    (hg : ∀ (s : Shared) (H : Hp) (C : Addr) (cl : List (Str × Addr)) (fp : List Addr), DG (X.blk s H scope (compEnvC scope cl C X.env) fp) tg ts gt) (ht : ∀ (s : Shared) (H : Hp) (C : Addr) (cl : List (Str × Addr)) (fp : List Addr), DTs (X.blk s H scope (compEnvC scope cl C X.env) fp) ifs gc)
    (he : ∀ (s : Shared) (H : Hp) (C : Addr) (cl : List (Str × Addr)) (fp : List Addr), DE (X.blk s H scope (compEnvC scope cl C X.env) fp) elt ge) (hvs : own.map (·.2) = vs := by rfl) (hts : ∀ i ∈ ts, i ∈ vs := by decide) (hs : ∀ x, foldedSetIterable iter X.env x = pure x := by intro _; rfl) :
    DE X (.ListComp elt [⟨tg, iter, ifs, 0⟩] scope pos) (gLc vs gi gt gc ge) := by
  subst hvs
  exact ⟨pe_imp (pe_lc hc hN hi.pi ok (fun s H C cl fp => (hg s H C cl fp).pg) (fun s H C cl fp => (ht s H C cl fp).pts) (fun s H C cl fp => (he s H C cl fp).pe) hs) fun σ H Q h => lc_use hts h⟩
end
end DL

set_option Elab.async false
set_option linter.all false
set_option maxRecDepth 100000
set_option maxHeartbeats 4000000
/-! D8: statements over plain data. -/
namespace DL
open PySem PySem.Spec PyProof.Rows L2
/-- what a statement comes to -/
inductive O where | nx (δ : DSt) | rt (r : R) | bk (δ : DSt) | ct (δ : DSt)
abbrev GS := DSt → Option O
def KO (K : PySem.W.Frag) (B C : Hp) (En : Ends) (σ : L2.St) (δ : DSt) : O → Prop
  | .nx δ' => ∀ σ' H' Φ', RSt K B C σ' H' δ' Φ' → Lk σ δ σ' δ' → En.nx σ' H'
  | .bk δ' => ∀ σ' H' Φ', RSt K B C σ' H' δ' Φ' → Lk σ δ σ' δ' → En.bk σ' H'
  | .ct δ' => ∀ σ' H' Φ', RSt K B C σ' H' δ' Φ' → Lk σ δ σ' δ' → En.ct σ' H'
  | .rt r => ∀ v H' φ, Same C H' → RR K B C H' r v φ → (∀ a ∈ φ, C a = none) → φ.Nodup → En.rt v H'
def tDS (K : PySem.W.Frag) (g : GS) : TS := fun En σ H => ∃ (B C : Hp) (δ : DSt) (Φ : Nat → List Addr) (o : O), RSt K B C σ H δ Φ ∧ g δ = some o ∧ KO K B C En σ δ o
structure DS (X : Cx) (st : Stmt) (g : GS) : Prop where
  ps : PS X st (tDS X.K g)
structure DSs (X : Cx) (sts : List Stmt) (g : GS) : Prop where
  pss : PSs X sts (tDS X.K g)
section
variable {K : PySem.W.Frag} {B C : Hp} {En : Ends} {σ σ1 : L2.St} {δ δ1 : DSt}
theorem KO.lk {o : O} (L : Lk σ δ σ1 δ1) (h : KO K B C En σ δ o) : KO K B C En σ1 δ1 o := by
  cases o with
  | nx δ' => exact fun σ' H' Φ' S l => h σ' H' Φ' S (L.trans l)
  | bk δ' => exact fun σ' H' Φ' S l => h σ' H' Φ' S (L.trans l)
  | ct δ' => exact fun σ' H' Φ' S l => h σ' H' Φ' S (L.trans l)
  | rt r => exact h
end
section
variable {X : Cx} {st : Stmt} {sts : List Stmt} {e a b c : Expr} {pos : Pos} {g g1 g2 : GS} {ge : G}
theorem ps_imp {t t' : TS} (h : PS X st t) (f : ∀ En σ H, t' En σ H → t En σ H) : PS X st t' := ⟨fun pins s σ H En I q => h.run pins s σ H En I (f En σ H q)⟩
theorem pss_imp {t t' : TS} (h : PSs X sts t) (f : ∀ En σ H, t' En σ H → t En σ H) : PSs X sts t' := ⟨fun pins s σ H En I q => h.run pins s σ H En I (f En σ H q)⟩
def gNop : GS := fun δ => some (.nx δ)
def gSeq2 (g1 g2 : GS) : GS := fun δ => (g1 δ).bind fun o => match o with
  | .nx δ1 => g2 δ1
  | .rt r => some (.rt r)
  | .bk δ1 => some (.bk δ1)
  | .ct δ1 => some (.ct δ1)
theorem dss_nil : DSs X [] gNop := ⟨pss_imp pss_nil fun En σ H h => by
  obtain ⟨B, C, δ, Φ, o, S, e, k⟩ := h
  cases e
  exact k σ H Φ S Lk.refl⟩
theorem dss_cons (h1 : DS X st g1) (h2 : DSs X sts g2) : DSs X (st :: sts) (gSeq2 g1 g2) := ⟨pss_imp (pss_cons h1.ps h2.pss) fun En σ H h => by
  obtain ⟨B, C, δ, Φ, o, S, e, k⟩ := h
  obtain ⟨o1, e1, e2⟩ := bind1_some e
  refine ⟨B, C, δ, Φ, o1, S, e1, ?_⟩
  cases o1 with
  | nx δ1 => exact fun σ1 H1 Φ1 S1 L1 => ⟨B, C, δ1, Φ1, o, S1, e2, k.lk L1⟩
  | rt r => cases e2; exact k
  | bk δ1 => cases e2; exact k
  | ct δ1 => cases e2; exact k⟩
theorem dss_one (h1 : DS X st g1) : DSs X [st] g1 := ⟨pss_one h1.ps⟩
theorem ds_pass : DS X (.Pass pos) gNop := ⟨ps_imp ps_pass fun En σ H h => by
  obtain ⟨B, C, δ, Φ, o, S, e, k⟩ := h
  cases e
  exact k σ H Φ S Lk.refl⟩
def gBrk : GS := fun δ => some (.bk δ)
def gCnt : GS := fun δ => some (.ct δ)
theorem ds_break : DS X (.Break pos) gBrk := ⟨ps_imp ps_break fun En σ H h => by
  obtain ⟨B, C, δ, Φ, o, S, e, k⟩ := h
  cases e
  exact k σ H Φ S Lk.refl⟩
theorem ds_continue : DS X (.Continue pos) gCnt := ⟨ps_imp ps_continue fun En σ H h => by
  obtain ⟨B, C, δ, Φ, o, S, e, k⟩ := h
  cases e
  exact k σ H Φ S Lk.refl⟩
/-- x = e -/
def gSet (i : Nat) (g : G) : GS := fun δ => (g δ).bind fun r => (store i r δ).map .nx
theorem set_end {K : PySem.W.Frag} {B C H H1 : Hp} {En : Ends} {σ : L2.St} {δ : DSt} {Φ : Nat → List Addr} {i : Nat} {r : R} {v : V} {φ : List Addr} {o : O} (S : RSt K B C σ H δ Φ) (s : Same H H1) (q : RR K B C H1 r v φ) (f : ∀ a ∈ φ, H a = none) (n : φ.Nodup)
    (e : (store i r δ).map O.nx = some o) (k : KO K B C En σ δ o) : L2.gName i v σ H1 En.nx := by
  obtain ⟨δ', e1, rfl⟩ := map_some e
  have S1 := S.same s
  refine k _ H1 _ (S1.store e1 q n (fun a ha => S.ch.free (f a ha)) fun j a ha hb => ?_) (Lk.store e1)
  obtain ⟨xs, z⟩ := S.trk hb
  rw [f a ha] at z; cases z
theorem ds_set (i : Nat) {x : Str} {pos' : Pos} (hN : X.N.Nodup) (he : DE X e ge) (hi : X.N[i]? = some x := by rfl) (hx : Loc X.env.scope x := by first | exact Or.inl rfl | exact Or.inr rfl) (hs : swapsWith e (some (.Name x pos')) pos.line X.env = pure false := by rfl) (hf : X.fn x = true ∨ X.env.scope.names.lookup x = some .local := by first | exact .inl rfl | exact .inr rfl | assumption) :
    DS X (.Assign [.Name x pos'] e pos) (gSet i ge) := ⟨ps_imp (ps_set hN hi hx he.pe hs hf) fun En σ H h => by
  obtain ⟨B, C, δ, Φ, o, S, e, k⟩ := h
  obtain ⟨r, e1, e2⟩ := bind1_some e
  exact ⟨B, C, δ, Φ, r, S, e1, fun v H1 φ s q f n => set_end S s q f n e2 k⟩⟩
/-- x = [..] -/
theorem ds_setLc {elt tg iter : Expr} {ifs : List Expr} {scope : Scope} {vs ts : List Nat} {gi : GI} {gt : GTg} {gc : GT} {ge : G} (i : Nat) {y : Str} {py spos : Pos} (own : List (Str × Nat)) (hc : X.calm = true) (hN : X.N.Nodup) (hi : DI X tg iter gi) (ok : BlkOk X.N X.env.scope scope own)
    (hg : ∀ (s : Shared) (H : Hp) (C : Addr) (cl : List (Str × Addr)) (fp : List Addr), DG (X.blk s H scope (compEnvC scope cl C X.env) fp) tg ts gt) (ht : ∀ (s : Shared) (H : Hp) (C : Addr) (cl : List (Str × Addr)) (fp : List Addr), DTs (X.blk s H scope (compEnvC scope cl C X.env) fp) ifs gc)
    (he : ∀ (s : Shared) (H : Hp) (C : Addr) (cl : List (Str × Addr)) (fp : List Addr), DE (X.blk s H scope (compEnvC scope cl C X.env) fp) elt ge) (hsw : swapsWith (.ListComp elt [⟨tg, iter, ifs, 0⟩] scope pos) (some (.Name y py)) spos.line X.env = pure true)
    (hy : X.N[i]? = some y := by rfl) (hyl : X.env.scope.names.lookup y = some .local := by rfl) (hvs : own.map (·.2) = vs := by rfl) (hts : ∀ i ∈ ts, i ∈ vs := by decide) (hs : ∀ x, foldedSetIterable iter X.env x = pure x := by intro _; rfl) :
    DS X (.Assign [.Name y py] (.ListComp elt [⟨tg, iter, ifs, 0⟩] scope pos) spos) (gSet i (gLc vs gi gt gc ge)) := by
  subst hvs
  refine ⟨ps_imp (ps_setLc (wi := tDI X.K gi) (g := tDG X.K ts gt) (tt := tDT X.K gc) (te := tD X.K ge) hc hN hy hyl hsw hi.pi ok (fun s H C cl fp => (hg s H C cl fp).pg) (fun s H C cl fp => (ht s H C cl fp).pts) (fun s H C cl fp => (he s H C cl fp).pe) hs) fun En σ H h => ?_⟩
  obtain ⟨B, C, δ, Φ, o, S, e, k⟩ := h
  obtain ⟨r, e1, e2⟩ := bind1_some e
  exact lc_use hts ⟨B, C, δ, Φ, r, S, e1, fun v H1 φ s q f n => set_end S s q f n e2 k⟩
/-- a, b = e -/
def gAsg (g : G) (gt : GTg) : GS := fun δ => (g δ).bind fun r => (gt (.one r) δ).map .nx
theorem ds_asg {tg : Expr} {ts : List Nat} {gt : GTg} (he : DE X e ge) (hg : DG X tg ts gt) (hs : swapsWithSole [tg] e pos.line X.env = pure false := by rfl) (hw : swappedStores [tg] e X.env = pure none := by rfl)
    (h1 : (assignEach [tg] X.env).map (·.2) = [assign tg X.env] := by rfl) : DS X (.Assign [tg] e pos) (gAsg ge gt) := ⟨ps_imp (ps_asg he.pe hg.pg hs hw h1) fun En σ H h => by
  obtain ⟨B, C, δ, Φ, o, S, e, k⟩ := h
  obtain ⟨r, e1, e2⟩ := bind1_some e
  refine ⟨B, C, δ, Φ, r, S, e1, fun v H1 φ s q f n => ?_⟩
  obtain ⟨δ', e3, eo⟩ := map_some e2
  subst eo
  refine ⟨B, C, δ, Φ, .one r, φ, δ', S.same s, q, n, fun a ha => S.ch.free (f a ha), fun j a ha hb => ?_, e3, fun σ' ⟨Φ', S', L', _, _, _⟩ => k σ' H1 Φ' S' L'⟩
  obtain ⟨xs, z⟩ := S.trk hb
  rw [f a ha] at z; cases z⟩
/-- x op= e -/
def IpD (X : Cx) (op : Operator) (p : D → D → Option R) : Prop := ∃ r : TIp, PIp X op r ∧ ∀ (B C H : Hp) (x y : V) (Q : VK) (d e : D) (c : R), Rp X.K H d x → Rp X.K H e y → p d e = some c →
    (∀ v H' φ, Same H H' → RR X.K B C H' c v φ → (∀ a ∈ φ, H a = none) → φ.Nodup → Q v H') → r x y H Q
def addI : D → D → Option R := iiD fun i j => some (.int (i + j))
theorem id_add : IpD X .Add addI := by
  refine ⟨_, ip_add, fun B C H x y Q d e c hx hy h k => ?_⟩
  obtain ⟨i, j, z, rfl, rfl, hz, rfl⟩ := iiD_some h
  cases hz
  exact ⟨i, j, rp_int hx, rp_int hy, k _ H [] (Same.refl _) rr_int no_fresh List.nodup_nil⟩
theorem id_sub : IpD X .Sub subD := by
  refine ⟨_, ip_sub, fun B C H x y Q d e c hx hy h k => ?_⟩
  obtain ⟨i, j, z, rfl, rfl, hz, rfl⟩ := iiD_some h
  cases hz
  exact ⟨i, j, rp_int hx, rp_int hy, k _ H [] (Same.refl _) rr_int no_fresh List.nodup_nil⟩
def gAug (i : Nat) (p : D → D → Option R) (g : G) : GS := fun δ => ((δ.getD i .no).rd).bind fun x => (g δ).bind fun y => (p x.d y.d).bind fun r => (store i r δ).map .nx
theorem ds_aug (i : Nat) {x : Str} {op : Operator} {p : D → D → Option R} {pos' : Pos} (hN : X.N.Nodup) (ho : IpD X op p) (he : DE X e ge) (hi : X.N[i]? = some x := by rfl) (hx : Loc X.env.scope x := by first | exact Or.inl rfl | exact Or.inr rfl) (hf : X.fn x = true ∨ X.env.scope.names.lookup x = some .local := by first | exact .inl rfl | exact .inr rfl | assumption) :
    DS X (.AugAssign (.Name x pos') op e pos) (gAug i p ge) := by
  obtain ⟨t, h1, h2⟩ := ho
  refine ⟨ps_imp (ps_aug hN hi hx he.pe h1 hf) fun En σ H h => ?_⟩
  obtain ⟨B, C, δ, Φ, o, S, e, k⟩ := h
  obtain ⟨x, y, e1, e2, e⟩ := bind2_some e
  obtain ⟨r, e3, e4⟩ := bind1_some e
  obtain ⟨v, hv, q⟩ := S.rd e1
  refine ⟨v, hv, B, C, δ, Φ, y, S, e2, fun w H1 φ1 s1 q1 _ _ => ?_⟩
  have ch := S.ch.trans s1
  exact h2 B C H1 v w _ _ _ r ((q.same s1).rp S.bc ch) (q1.rp S.bc ch) e3 fun z H2 φ s2 q2 f n => set_end S (s1.trans s2) q2 (fun a ha => s1.free (f a ha)) n e4 k

/-! ### return, if -/
def gRet (g : G) : GS := fun δ => (g δ).map .rt
theorem ds_ret (he : DE X e ge) : DS X (.Return (some e) pos) (gRet ge) := ⟨ps_imp (ps_ret he.pe) fun En σ H h => by
  obtain ⟨B, C, δ, Φ, o, S, e, k⟩ := h
  obtain ⟨r, e1, rfl⟩ := map_some e
  exact ⟨B, C, δ, Φ, r, S, e1, fun v H1 φ s q f n => k v H1 φ (S.ch.trans s) q (fun a ha => S.ch.free (f a ha)) n⟩⟩
/-- return x, where x may be our own list -/
def gRetV (i : Nat) : GS := fun δ => match δ.getD i .no with
  | .own d => some (.rt (.own d))
  | s => s.rd.map .rt
theorem ds_retV (i : Nat) {x : Str} {p : Pos} (hN : X.N[i]? = some x := by rfl) (hv : Vis X.env.scope x := by first | exact Or.inl rfl | exact Or.inr (Or.inl rfl) | exact Or.inr (Or.inr rfl)) (hd : (x == ("__debug__" : Str)) = false := by decide)
    (hcd : (x == ("__classdict__" : Str)) = false := by decide) : DS X (.Return (some (.Name x p)) pos) (gRetV i) := ⟨ps_imp (ps_ret (pe_var hN hv hd hcd)) fun En σ H h => by
  obtain ⟨B, C, δ, Φ, o, S, e, k⟩ := h
  have gen : ∀ r, (δ.getD i .no).rd = some r → o = .rt r → tVar i σ H En.rt := fun r e1 e2 => by
    obtain ⟨v, h1, h2⟩ := S.rd e1
    subst e2
    exact ⟨v, h1, k v H [] S.ch h2 (fun _ z => by cases z) List.nodup_nil⟩
  have q := S.sl i
  unfold gRetV at e
  cases z : δ.getD i .no with
  | own d =>
    rw [z] at e q
    cases e
    obtain ⟨x, e1, ow⟩ := q
    refine ⟨x, ?_, k x H (Φ i) S.ch ow (S.fr i) (S.nd i)⟩
    rw [List.getD_eq_getElem?_getD] at e1
    cases w : σ[i]? with
    | none => rw [w] at e1; cases e1
    | some y => rw [w] at e1; rw [show y = some x from e1]
  | no => rw [z] at e; cases e
  | val d => rw [z] at e; exact gen _ (by rw [z]; rfl) (Option.some.inj e).symm
  | par d => rw [z] at e; exact gen _ (by rw [z]; rfl) (Option.some.inj e).symm
  | fr d => rw [z] at e; exact gen _ (by rw [z]; rfl) (Option.some.inj e).symm
  | bor d => rw [z] at e; exact gen _ (by rw [z]; rfl) (Option.some.inj e).symm
  | lck d => rw [z] at e; exact gen _ (by rw [z]; rfl) (Option.some.inj e).symm⟩
def gRetN : GS := fun _ => some (.rt (.val .non))
theorem ds_retN : DS X (.Return none pos) gRetN := ⟨ps_imp ps_retN fun En σ H h => by
  obtain ⟨B, C, δ, Φ, o, S, e, k⟩ := h
  cases e
  exact k .non H [] S.ch rr_non (fun _ z => by cases z) List.nodup_nil⟩
def gIf (c : GT) (g1 g2 : GS) : GS := fun δ => (c δ).bind fun k => if k = true then g1 δ else g2 δ
theorem ds_if {gc : GT} {as bs : List Stmt} (hc : DT X c gc) (ha : DSs X as g1) (hb : DSs X bs g2) : DS X (.If c as bs pos) (gIf gc g1 g2) := ⟨ps_imp (ps_if hc.pt ha.pss hb.pss) fun En σ H h => by
  obtain ⟨B, C, δ, Φ, o, S, e, k⟩ := h
  obtain ⟨b, e1, e2⟩ := bind1_some e
  refine ⟨B, C, δ, Φ, b, S, e1, fun H1 s => ?_⟩
  cases b with
  | true => rw [if_pos rfl] at e2 ⊢; exact ⟨B, C, δ, Φ, o, S.same s, e2, k⟩
  | false => rw [if_neg (by decide)] at e2 ⊢; exact ⟨B, C, δ, Φ, o, S.same s, e2, k⟩⟩

/-! ### while -/
def whileL (c : GT) (b : GS) : Nat → GS
  | 0, _ => none
  | n + 1, δ => (c δ).bind fun k => if k = true then (b δ).bind fun o => (match o with
      | .nx δ' => whileL c b n δ'
      | .ct δ' => whileL c b n δ'
      | .bk δ' => some (.nx δ')
      | .rt r => some (.rt r)) else some (.nx δ)
theorem ds_while (n : Nat) {gc : GT} {body : List Stmt} (hp : PassesOwn (model X.prog X.w) X.A X.env X.xe) (hc : DT X c gc) (hb : DSs X body g) : DS X (.While c body [] pos) (whileL gc g n) := ⟨ps_imp (ps_while hp hc.pt hb.pss) fun En σ H h => by
  obtain ⟨B, C, δ, Φ, o, S, e, k⟩ := h
  refine ⟨fun m σ' H' => ∃ δ' Φ', RSt X.K B C σ' H' δ' Φ' ∧ Lk σ δ σ' δ' ∧ whileL gc g m δ' = some o, ⟨n, δ, Φ, S, Lk.refl, e⟩, ?_⟩
  rintro m σ' H' ⟨δ', Φ', S', L', e'⟩
  cases m with
  | zero => cases e'
  | succ m =>
    obtain ⟨b, e1, e2⟩ := bind1_some e'
    refine ⟨B, C, δ', Φ', b, S', e1, fun H1 s => ?_⟩
    cases b with
    | true =>
      rw [if_pos rfl] at e2 ⊢
      obtain ⟨o1, e3, e4⟩ := bind1_some e2
      refine ⟨fun σ2 H2 => ∃ δ2 Φ2, RSt X.K B C σ2 H2 δ2 Φ2 ∧ Lk σ δ σ2 δ2 ∧ whileL gc g m δ2 = some o, fun σ2 H2 w => ⟨m, Nat.lt_succ_self m, w⟩, B, C, δ', Φ', o1, S'.same s, e3, ?_⟩
      cases o1 with
      | nx δ2 => exact fun σ2 H2 Φ2 S2 L2 => ⟨δ2, Φ2, S2, L'.trans L2, e4⟩
      | ct δ2 => exact fun σ2 H2 Φ2 S2 L2 => ⟨δ2, Φ2, S2, L'.trans L2, e4⟩
      | bk δ2 => cases e4; exact fun σ2 H2 Φ2 S2 L2 => k σ2 H2 Φ2 S2 (L'.trans L2)
      | rt r => cases e4; exact k
    | false =>
      rw [if_neg (by decide)] at e2 ⊢
      cases e2
      exact k σ' H1 Φ' (S'.same s) L'⟩
end
end DL

set_option Elab.async false
set_option linter.all false
set_option maxRecDepth 100000
set_option maxHeartbeats 4000000
/-! D9: lists that change, for, calls, defs over plain data. -/
namespace DL
open PySem PySem.Spec PyProof.Rows L2
def Sl.purge : Sl → Sl
  | .bor _ => .no
  | s => s
def purge (δ : DSt) : DSt := δ.map Sl.purge
theorem getD_map (f : Sl → Sl) (hf : f .no = .no) (δ : DSt) (j : Nat) : (δ.map f).getD j .no = f (δ.getD j .no) := by
  rw [List.getD_eq_getElem?_getD, List.getD_eq_getElem?_getD, List.getElem?_map]
  cases δ[j]? with
  | none => exact hf.symm
  | some x => rfl
theorem getD_mapIdx (f : Nat → Sl → Sl) (hf : ∀ j, f j .no = .no) (δ : DSt) (j : Nat) : (δ.mapIdx f).getD j .no = f j (δ.getD j .no) := by
  rw [List.getD_eq_getElem?_getD, List.getD_eq_getElem?_getD, List.getElem?_mapIdx]
  cases δ[j]? with
  | none => exact (hf j).symm
  | some x => rfl
section
variable {K : PySem.W.Frag} {B C H H' : Hp} {σ : L2.St} {δ : DSt} {Φ : Nat → List Addr}
/-- the slot's own datum has been changed -/
theorem RSt.mut (h : RSt K B C σ H δ Φ) {i : Nat} {d d' : D} {v : V} {φ' : List Addr} (e : δ.getD i .no = .own d) (hv : σ[i]? = some (some v)) (k : ∀ a o, a ∉ Φ i → H a = some o → H' a = some o)
    (q : Ow K H' d' v φ') (n : φ'.Nodup) (f : ∀ a ∈ φ', a ∈ Φ i ∨ (C a = none ∧ ∀ j, a ∉ Φ j)) : RSt K B C σ H' (purge (δ.set i (.own d'))) (fun j => if j = i then φ' else Φ j) := by
  have hl : i < δ.length := by
    by_cases z : i < δ.length
    · exact z
    · rw [List.getD_eq_getElem?_getD, List.getElem?_eq_none (by omega)] at e; cases e
  have ne : ∀ j a, j ≠ i → a ∈ Φ j → a ∉ Φ i := fun j a hj ha hb => hj (h.dj j i a ha hb)
  have tk : TK H H' := fun a o e1 n1 => k a o (fun z => by
    obtain ⟨xs, w⟩ := h.trk z
    rw [e1] at w
    exact n1 xs (Option.some.inj w)) e1
  refine ⟨by simpa [purge] using h.len, fun j => ?_, fun j => ?_, fun j m a ha hb => ?_, h.bc, fun a o e1 => k a o (fun z => by rw [h.fr i a z] at e1; cases e1) (h.ch a o e1), fun j a ha => ?_⟩
  · show SlOk K B C H' ((purge (δ.set i (.own d'))).getD j .no) _ _
    unfold purge
    rw [getD_map _ rfl, getD_set]
    by_cases hj : j = i
    · subst hj
      rw [if_pos ⟨rfl, hl⟩, if_pos rfl]
      exact ⟨v, by rw [List.getD_eq_getElem?_getD, hv]; rfl, q⟩
    · rw [if_neg (fun z => hj z.1), if_neg hj]
      have s := h.sl j
      cases z : δ.getD j .no with
      | no => rw [z] at s; exact s
      | val d => rw [z] at s; obtain ⟨a, b, x, e1, r⟩ := s; exact ⟨a, b, x, e1, Rp.tk tk _ _ b r⟩
      | par d => rw [z] at s; exact s
      | fr d => rw [z] at s; exact s
      | bor d => rw [z] at s; exact s.1
      | lck d => rw [z] at s; exact s
      | own d =>
        rw [z] at s
        obtain ⟨x, e1, r⟩ := s
        refine ⟨x, e1, Ow.mono tk _ _ _ (fun a ha => ?_) r⟩
        obtain ⟨xs, w⟩ := h.trk ha
        rw [w]
        exact k a _ (ne j a hj ha) w
  · show (if j = i then φ' else Φ j).Nodup
    split
    · exact n
    · exact h.nd j
  · have no : ∀ j a, j ≠ i → a ∈ Φ j → a ∉ φ' := fun j a hj ha hb => by
      rcases f a hb with z | z
      · exact ne j a hj ha z
      · exact z.2 j ha
    by_cases hj : j = i
    · rw [if_pos hj] at ha
      by_cases hm : m = i
      · rw [hj, hm]
      · rw [if_neg hm] at hb
        exact absurd ha (no m a hm hb)
    · rw [if_neg hj] at ha
      by_cases hm : m = i
      · rw [if_pos hm] at hb
        exact absurd hb (no j a hj ha)
      · rw [if_neg hm] at hb
        exact h.dj j m a ha hb
  · by_cases hj : j = i
    · rw [if_pos hj] at ha
      rcases f a ha with z | z
      · exact h.fr i a z
      · exact z.1
    · rw [if_neg hj] at ha
      exact h.fr j a ha
theorem lk_mut {i : Nat} {d d' : D} (e : δ.getD i .no = .own d) : Lk σ δ σ (purge (δ.set i (.own d'))) := by
  refine ⟨fun j x hj => ⟨?_, rfl⟩, fun j x hj => ?_⟩
  · have ne : j ≠ i := fun z => by rw [z, e] at hj; cases hj
    unfold purge
    rw [getD_map _ rfl, getD_set, if_neg (fun z => ne z.1), hj]
    rfl
  · unfold purge at hj
    rw [getD_map _ rfl, getD_set] at hj
    split at hj
    · cases hj
    · cases z : δ.getD j .no <;> rw [z] at hj <;> first | exact hj | cases hj
/-- the slot's own list -/
theorem RSt.list (h : RSt K B C σ H δ Φ) {i : Nat} {ds : List D} (e : δ.getD i .no = .own (.lst ds)) : ∃ l xs ψ, σ[i]? = some (some (.ref l)) ∧ H l = some (.lst xs) ∧ OwL K H ds xs ψ ∧ Φ i = l :: ψ := by
  have q := h.sl i
  rw [e] at q
  obtain ⟨x, e1, ow⟩ := q
  unfold Ow at ow
  obtain ⟨l, xs, ψ, rfl, h1, h2, h3⟩ := ow
  refine ⟨l, xs, ψ, ?_, h1, h2, h3⟩
  rw [List.getD_eq_getElem?_getD] at e1
  cases w : σ[i]? with
  | none => rw [w] at e1; cases e1
  | some y => rw [w] at e1; rw [show y = some (V.ref l) from e1]
end
section
variable {X : Cx} {e a b c o : Expr} {pos : Pos} {ge : G}
/-- xs.append(e) -/
def gApp (i : Nat) (g : G) : GS := fun δ => (g δ).bind fun r => match δ.getD i .no with
  | .own (.lst ds) => if ds.length < sizeLine ∧ r.okEl = true then some (.nx (purge (δ.set i (.own (.lst (ds ++ [r.d])))))) else none
  | _ => none
theorem app_use {K : PySem.W.Frag} {i : Nat} {En : Ends} {σ : L2.St} {H : Hp} (h : tDS K (gApp i ge) En σ H) : tDrop (tBM K "list" rAppend (tVar i) (tCons (tD K ge) tNil)) En σ H := by
  obtain ⟨B, C, δ, Φ, o, S, e, k⟩ := h
  obtain ⟨r, e1, e2⟩ := bind1_some e
  split at e2
  · rename_i ds hd
    split at e2
    · rename_i hz
      cases e2
      obtain ⟨l, xs, ψ, hs, hl, ow, hp⟩ := S.list hd
      refine ⟨_, hs, .inl ⟨rfl, xs, SqL.of hl⟩, B, C, δ, Φ, r, S, e1, fun y H1 φ s q f n => ?_⟩
      have hl1 := s _ _ hl
      have lenx : xs.length = ds.length := (OwL.rp _ _ _ ow).length
      refine ⟨l, xs, y, rfl, rfl, hl1, by omega, ?_⟩
      have nd := S.nd i
      rw [hp] at nd
      obtain ⟨nl, nψ⟩ := List.nodup_cons.mp nd
      have fl : ∀ a ∈ φ, a ≠ l := fun a ha z => by
        have := f a ha
        rw [z, hl] at this; cases this
      have tk1 := tk_lst (ys := xs ++ [y]) hl1
      have S1 := S.same s
      refine k σ _ _ (S1.mut (H' := upd H1 l (.lst (xs ++ [y]))) (d' := .lst (ds ++ [r.d])) (φ' := l :: (ψ ++ φ)) hd hs (fun a o ha e3 => ?_) ?_ ?_ fun a ha => ?_) (lk_mut hd)
      · rw [upd_ne (fun z => ha (by rw [hp, z]; exact List.mem_cons_self))]; exact e3
      · unfold Ow
        refine ⟨l, _, ψ ++ φ, rfl, upd_same, OwL.append (OwL.mono tk1 _ _ _ (fun a ha => upd_ne fun z => nl (z ▸ ha)) (OwL.same s ow)) ?_, rfl⟩
        refine OwL.mono tk1 [r.d] [y] φ (fun a ha => upd_ne (fl a ha)) ?_
        unfold OwL
        exact ⟨y, [], φ, [], rfl, okEl_ow q hz.2, by unfold OwL; exact ⟨rfl, rfl⟩, by simp⟩
      · refine List.nodup_cons.mpr ⟨fun z => ?_, List.nodup_append.mpr ⟨nψ, n, fun a ha b hb z => ?_⟩⟩
        · rcases List.mem_append.mp z with z | z
          · exact nl z
          · exact fl l z rfl
        · subst z
          obtain ⟨ys, w⟩ := S.trk (show a ∈ Φ i by rw [hp]; exact List.mem_cons_of_mem _ ha)
          rw [f a hb] at w; cases w
      · rcases List.mem_cons.mp ha with rfl | ha
        · exact .inl (by rw [hp]; exact List.mem_cons_self)
        · rcases List.mem_append.mp ha with ha | ha
          · exact .inl (by rw [hp]; exact List.mem_cons_of_mem _ ha)
          · refine .inr ⟨S.ch.free (f a ha), fun j hb => ?_⟩
            obtain ⟨ys, w⟩ := S.trk hb
            rw [f a ha] at w; cases w
    · cases e2
  · cases e2
theorem ds_app (i : Nat) {x : Str} {p apos cpos : Pos} (he : DE X e ge) (hN : X.N[i]? = some x := by rfl) (hv : Vis X.env.scope x := by first | exact Or.inl rfl | exact Or.inr (Or.inl rfl) | exact Or.inr (Or.inr rfl)) (hd : (x == ("__debug__" : Str)) = false := by decide)
    (hcd : (x == ("__classdict__" : Str)) = false := by decide) (hs : swapsWith (.Call (.Attribute (.Name x p) "append" apos) [e] [] cpos) none pos.line X.env = pure false := by rfl) (hst : starEach [e] X.env = (false, eval e X.env) :: starEach [] X.env := by rfl)
    (hbase : attributeBase (.Name x p) "append" X.env (eval (.Name x p) X.env) = eval (.Name x p) X.env := by rfl)
    (hfew : ((backTo cpos (starEach [e] X.env)).all (fun x => !x.1) && (backToKw cpos (keywordEach [] X.env)).all (fun x => x.1.isSome) && decide ([e].length + ([] : List Keyword).length + (if ([] : List Keyword).isEmpty then 0 else 1) < 30)) = true := by rfl)
    (hline : (apos.endLine == cpos.line) = true := by rfl) (hplain : (backTo cpos (starEach ([] : List Expr) X.env)).any (·.1) = false := by rfl) : DS X (.Expr (.Call (.Attribute (.Name x p) "append" apos) [e] [] cpos) pos) (gApp i ge) :=
  ⟨ps_imp (ps_expr (pe_bm PySem.F.plainAttrs_list PySem.F.slot_list_append PySem.F.type_list_append mt_append (pe_var hN hv hd hcd) (pa_cons he.pe pa_nil hst) hbase hfew hline hst hplain) hs) fun En σ H h => app_use h⟩

/-! ### extend -/
end
set_option maxHeartbeats 1000000 in
theorem extend_tupW (l : Addr) (its : Array Value) (n : Nat) (b : Addr) (its2 : Array Value) (n2 : Nat) (dd : Option Addr) (sl : Array (Option Value)) (h0 : ¬(!its.isEmpty && Builtin.List.listTooLong (its.size + its2.size)) = true) (h1 : its.size ≤ sizeLine) (h2 : its.size + its2.size ≤ sizeLine + 1) :
    Meets (Builtin.«list.extend» ⟨[.ref l, .ref b], []⟩) (fun _ R s => s.heap.get? l = some { cls := .type "list", data := .seq its n } ∧ s.heap.get? b = some { cls := .type "tuple", dict := dd, data := .seq its2 n2, slots := sl } ∧
      R (.ok (.ret Value.none)) { s with heap := s.heap.update l (Obj.mapSeq fun x => x ++ its2) }) :=
  .of_wp fun prog w A R s h => by
    obtain ⟨hh, gg, dd', tt, oo⟩ := s
    obtain ⟨hl, hb, h⟩ := h
    have f1 := AutoSeq1.idx_int
    have f2 := AutoSeq1.sub_tuple_tuple
    have f3 := AutoSeq1.sub_list_list
    have f4 := AutoSeq1.sub_tuple_list
    have f5 := AutoSeq1.sub_list_tuple
    have hz' : (its ++ its2).size ≤ sizeLine + 1 := by
      rw [Array.size_append]
      exact h2
    wp_walk using (wpAny_updateSeq hl rfl (hz := h1) (_hz' := hz')), AutoSeq1.wpAny_loadPart' hl, AutoSeq1.wpAny_loadPart' hb
    exact ⟨_, rfl, h⟩

section
variable {X : Cx} {e a b c o : Expr} {pos : Pos} {ge : G}
def rExtendT (K : PySem.W.Frag) : V → List V → Hp → VK → Prop := fun x vs H Q => ∃ l b xs zs, x = .ref l ∧ vs = [.ref b] ∧ H l = some (.lst xs) ∧ SqT K H b zs ∧ xs.length + zs.length ≤ sizeLine ∧ Q .non (upd H l (.lst (xs ++ zs)))
theorem mt_extendT : MtR X "list.extend" (rExtendT X.K) := by
  intro pins s σ H x vs v us Q I rx rv h
  obtain ⟨l, b, xs, zs, rfl, rfl, hH, hB, hz, q⟩ := h
  cases rx
  obtain ⟨u, rfl, ru⟩ := rv.one
  cases ru
  obtain ⟨z, its, n, r, hl, e⟩ := I.lstM hH
  obtain ⟨its2, r2, ⟨ot, e2, c2, n2, d2⟩, z2⟩ := I.tuple hB
  obtain ⟨oc, od, odt, osl⟩ := ot
  simp only at c2 d2
  subst c2 d2
  have hl2 := r2.length
  have hsz : its.toArray.size + its2.toArray.size ≤ sizeLine := by rw [List.size_toArray, List.size_toArray]; omega
  have hlong : ¬ (!its.toArray.isEmpty && Builtin.List.listTooLong (its.toArray.size + its2.toArray.size)) = true := by
    rw [notLongL hsz, Bool.and_false]
    exact Bool.false_ne_true
  refine call_meets F.slot_list_extend ⟨_, e, rfl⟩ F.entry_list_extend (F.args_list_extend_2 _ _) (extend_tupW l its.toArray n b its2.toArray n2 od osl hlong (by rw [List.size_toArray]; omega) (by omega)) ⟨e, e2, ?_⟩
  refine ⟨.non, _, I.lset (its' := its ++ its2) hH e (by simp) (r.append r2) ?_, rfl, q⟩
  rw [List.length_append]
  omega
def gExt (i : Nat) (g : G) : GS := fun δ => (g δ).bind fun r => match δ.getD i .no with
  | .own (.lst ds) => (match r.d with
    | .lst es => if ds.length + es.length ≤ sizeLine ∧ puL es = true then some (.nx (purge (δ.set i (.own (.lst (ds ++ es)))))) else none
    | .tup es => if ds.length + es.length ≤ sizeLine ∧ puL es = true then some (.nx (purge (δ.set i (.own (.lst (ds ++ es)))))) else none
    | _ => none)
  | _ => none
/-- what is left of an own list's growth by pure things -/
theorem grow {K : PySem.W.Frag} {B C H H1 : Hp} {σ : L2.St} {δ : DSt} {Φ : Nat → List Addr} {i : Nat} {ds es : List D} {l : Addr} {xs zs : List V} {ψ : List Addr} {En : Ends} (S : RSt K B C σ H δ Φ) (s : Same H H1) (hd : δ.getD i .no = .own (.lst ds)) (hs : σ[i]? = some (some (.ref l))) (hl : H l = some (.lst xs)) (ow : OwL K H ds xs ψ) (hp : Φ i = l :: ψ)
    (hz : puL es = true) (r : RpL K H1 es zs) (k : KO K B C En σ δ (.nx (purge (δ.set i (.own (.lst (ds ++ es))))))) : En.nx σ (upd H1 l (.lst (xs ++ zs))) := by
  have hl1 := s _ _ hl
  have nd := S.nd i
  rw [hp] at nd
  obtain ⟨nl, nψ⟩ := List.nodup_cons.mp nd
  have tk1 := tk_lst (ys := xs ++ zs) hl1
  refine k σ _ _ ((S.same s).mut (H' := upd H1 l (.lst (xs ++ zs))) (d' := .lst (ds ++ es)) (φ' := l :: ψ) hd hs (fun a o ha e3 => ?_) ?_ nd fun a ha => .inl (by rw [hp]; exact ha)) (lk_mut hd)
  · rw [upd_ne (fun z => ha (by rw [hp, z]; exact List.mem_cons_self))]; exact e3
  · unfold Ow
    refine ⟨l, _, ψ, rfl, upd_same, ?_, rfl⟩
    have q := OwL.append (OwL.mono tk1 _ _ _ (fun a ha => upd_ne fun z => nl (z ▸ ha)) (OwL.same s ow)) (OwL.pu _ _ hz (RpL.tk tk1 _ _ hz r))
    rw [List.append_nil] at q
    exact q
theorem ext_use {K : PySem.W.Frag} {i : Nat} {En : Ends} {σ : L2.St} {H : Hp} (h : tDS K (gExt i ge) En σ H) : tDrop (tBM K "list" (fun x xs H Q => rExtend x xs H Q ∨ rExtendT K x xs H Q) (tVar i) (tCons (tD K ge) tNil)) En σ H := by
  obtain ⟨B, C, δ, Φ, o, S, e, k⟩ := h
  obtain ⟨r, e1, e2⟩ := bind1_some e
  split at e2
  · rename_i ds hd
    obtain ⟨l, xs, ψ, hs, hl, ow, hp⟩ := S.list hd
    have lenx : xs.length = ds.length := (OwL.rp _ _ _ ow).length
    refine ⟨_, hs, .inl ⟨rfl, xs, SqL.of hl⟩, B, C, δ, Φ, r, S, e1, fun y H1 φ s q f n => ?_⟩
    have rp := q.rp S.bc (S.ch.trans s)
    split at e2
    · rename_i es hx
      rw [hx] at rp
      split at e2
      · rename_i hz
        cases e2
        unfold Rp at rp
        obtain ⟨b, zs, rfl, hb, rr⟩ := rp
        exact .inl ⟨l, b, xs, zs, rfl, rfl, s _ _ hl, hb, by rw [rr.length]; omega, grow S s hd hs hl ow hp hz.2 rr k⟩
      · cases e2
    · rename_i es hx
      rw [hx] at rp
      split at e2
      · rename_i hz
        cases e2
        unfold Rp at rp
        obtain ⟨b, zs, rfl, hb, rr⟩ := rp
        exact .inr ⟨l, b, xs, zs, rfl, rfl, s _ _ hl, hb, by rw [rr.length]; omega, grow S s hd hs hl ow hp hz.2 rr k⟩
      · cases e2
    · cases e2
  · cases e2
theorem ds_ext (i : Nat) {x : Str} {p apos cpos : Pos} (he : DE X e ge) (hN : X.N[i]? = some x := by rfl) (hv : Vis X.env.scope x := by first | exact Or.inl rfl | exact Or.inr (Or.inl rfl) | exact Or.inr (Or.inr rfl)) (hd : (x == ("__debug__" : Str)) = false := by decide)
    (hcd : (x == ("__classdict__" : Str)) = false := by decide) (hs : swapsWith (.Call (.Attribute (.Name x p) "extend" apos) [e] [] cpos) none pos.line X.env = pure false := by rfl) (hst : starEach [e] X.env = (false, eval e X.env) :: starEach [] X.env := by rfl)
    (hbase : attributeBase (.Name x p) "extend" X.env (eval (.Name x p) X.env) = eval (.Name x p) X.env := by rfl)
    (hfew : ((backTo cpos (starEach [e] X.env)).all (fun x => !x.1) && (backToKw cpos (keywordEach [] X.env)).all (fun x => x.1.isSome) && decide ([e].length + ([] : List Keyword).length + (if ([] : List Keyword).isEmpty then 0 else 1) < 30)) = true := by rfl)
    (hline : (apos.endLine == cpos.line) = true := by rfl) (hplain : (backTo cpos (starEach ([] : List Expr) X.env)).any (·.1) = false := by rfl) : DS X (.Expr (.Call (.Attribute (.Name x p) "extend" apos) [e] [] cpos) pos) (gExt i ge) :=
  ⟨ps_imp (ps_expr (pe_bm PySem.F.plainAttrs_list PySem.F.slot_list_extend PySem.F.type_list_extend (MtR.or mt_extend mt_extendT) (pe_var hN hv hd hcd) (pa_cons he.pe pa_nil hst) hbase hfew hline hst hplain) hs) fun En σ H h => ext_use h⟩

/-! ### expressions that change a slot's own list -/
abbrev GM := DSt → Option (D × DSt)
def tDM (K : PySem.W.Frag) (g : GM) : TE := fun σ H Q => ∃ (B C : Hp) (δ : DSt) (Φ : Nat → List Addr) (d : D) (δ' : DSt), RSt K B C σ H δ Φ ∧ g δ = some (d, δ') ∧
  ∀ v H' Φ', RSt K B C σ H' δ' Φ' → Lk σ δ σ δ' → RR K B C H' (.val d) v [] → Q v H'
structure DM (X : Cx) (e : Expr) (g : GM) : Prop where
  pe : PE X e (tDM X.K g)
theorem OwL.erase {K : PySem.W.Frag} {H : Hp} : ∀ {ds : List D} {xs : List V} {ψ : List Addr} {m : Nat} {d : D}, OwL K H ds xs ψ → ds[m]? = some d → DL.pu d = true → OwL K H (ds.eraseIdx m) (xs.eraseIdx m) ψ ∧ ∃ x, xs[m]? = some x ∧ Rp K H d x
  | [], _, _, m, d, _, e, _ => by simp at e
  | d0 :: ds, _, _, 0, d, h, e, p => by
    unfold OwL at h
    obtain ⟨x, ys, φ1, φ2, rfl, q, r, rfl⟩ := h
    simp at e
    subst e
    rw [Ow.nil _ _ _ p q]
    exact ⟨by simpa using r, x, rfl, Ow.rp _ _ _ q⟩
  | d0 :: ds, _, _, m + 1, d, h, e, p => by
    unfold OwL at h
    obtain ⟨x, ys, φ1, φ2, rfl, q, r, rfl⟩ := h
    obtain ⟨h1, y, h2, h3⟩ := OwL.erase (m := m) (d := d) r (by simpa using e) p
    refine ⟨?_, y, by simpa using h2, h3⟩
    show OwL K H (d0 :: ds.eraseIdx m) (x :: ys.eraseIdx m) _
    unfold OwL
    exact ⟨x, _, φ1, φ2, rfl, q, h1, rfl⟩
/-- the list of slot j without its m-th item, which is d -/
def popD (j m : Nat) (δ : DSt) : Option (D × DSt) := match δ.getD j .no with
  | .own (.lst es) => (match es[m]? with
    | some d => if pu d = true then some (d, purge (δ.set j (.own (.lst (es.eraseIdx m))))) else none
    | none => none)
  | _ => none
theorem pop_use {K : PySem.W.Frag} {B C H H1 : Hp} {σ : L2.St} {δ δ' : DSt} {Φ : Nat → List Addr} {j m : Nat} {d : D} (S : RSt K B C σ H δ Φ) (s : Same H H1) (e : popD j m δ = some (d, δ')) : ∃ l xs es y, δ.getD j .no = .own (.lst es) ∧ σ[j]? = some (some (.ref l)) ∧ H1 l = some (.lst xs) ∧ xs.length = es.length ∧ xs[m]? = some y ∧
    (∃ Φ', RSt K B C σ (upd H1 l (.lst (xs.eraseIdx m))) δ' Φ') ∧ Lk σ δ σ δ' ∧ RR K B C (upd H1 l (.lst (xs.eraseIdx m))) (.val d) y [] := by
  unfold popD at e
  split at e
  · rename_i es hd
    split at e
    · rename_i d0 hm
      split at e
      · rename_i hp0
        cases e
        obtain ⟨l, xs, ψ, hs, hl, ow, hp⟩ := S.list hd
        have hl1 := s _ _ hl
        obtain ⟨ow2, y, hy, ry⟩ := OwL.erase (OwL.same s ow) hm hp0
        have nd := S.nd j
        rw [hp] at nd
        obtain ⟨nl, nψ⟩ := List.nodup_cons.mp nd
        have tk1 := tk_lst (ys := xs.eraseIdx m) hl1
        refine ⟨l, xs, es, y, hd, hs, hl1, (OwL.rp _ _ _ ow).length, hy, ⟨_, (S.same s).mut (H' := upd H1 l (.lst (xs.eraseIdx m))) (d' := .lst (es.eraseIdx m)) (φ' := l :: ψ) hd hs (fun a o ha e3 => ?_) ?_ nd fun a ha => .inl (by rw [hp]; exact ha)⟩, lk_mut hd, rfl, hp0, Rp.tk tk1 _ _ hp0 ry⟩
        · rw [upd_ne (fun z => ha (by rw [hp, z]; exact List.mem_cons_self))]; exact e3
        · unfold Ow
          exact ⟨l, _, ψ, rfl, upd_same, OwL.mono tk1 _ _ _ (fun a ha => upd_ne fun z => nl (z ▸ ha)) ow2, rfl⟩
      · cases e
    · cases e
  · cases e
/-- xs.pop(e) -/
def gPopAt (j : Nat) (g : G) : GM := fun δ => (g δ).bind fun r => match r.d, δ.getD j .no with
  | .int i, .own (.lst es) => if -(2 ^ 63) ≤ i ∧ i < 2 ^ 63 then (seqIndex? i es.length).bind fun m => popD j m δ else none
  | _, _ => none
theorem dm_popAt (j : Nat) {x : Str} {p apos cpos : Pos} (he : DE X e ge) (hN : X.N[j]? = some x := by rfl) (hv : Vis X.env.scope x := by first | exact Or.inl rfl | exact Or.inr (Or.inl rfl) | exact Or.inr (Or.inr rfl)) (hd : (x == ("__debug__" : Str)) = false := by decide)
    (hcd : (x == ("__classdict__" : Str)) = false := by decide) (hst : starEach [e] X.env = (false, eval e X.env) :: starEach [] X.env := by rfl)
    (hbase : attributeBase (.Name x p) "pop" X.env (eval (.Name x p) X.env) = eval (.Name x p) X.env := by rfl)
    (hfew : ((backTo cpos (starEach [e] X.env)).all (fun x => !x.1) && (backToKw cpos (keywordEach [] X.env)).all (fun x => x.1.isSome) && decide ([e].length + ([] : List Keyword).length + (if ([] : List Keyword).isEmpty then 0 else 1) < 30)) = true := by rfl)
    (hline : (apos.endLine == cpos.line) = true := by rfl) (hplain : (backTo cpos (starEach ([] : List Expr) X.env)).any (·.1) = false := by rfl) : DM X (.Call (.Attribute (.Name x p) "pop" apos) [e] [] cpos) (gPopAt j ge) := by
  refine ⟨pe_imp (pe_bm PySem.F.plainAttrs_list PySem.F.slot_list_pop PySem.F.type_list_pop mt_popAt (pe_var hN hv hd hcd) (pa_cons he.pe pa_nil hst) hbase hfew hline hst hplain) fun σ H Q h => ?_⟩
  obtain ⟨B, C, δ, Φ, d, δ', S, e, k⟩ := h
  obtain ⟨r, e1, e2⟩ := bind1_some e
  split at e2
  · rename_i i es hr hd
    split at e2
    · rename_i hz
      obtain ⟨m, e3, e4⟩ := bind1_some e2
      obtain ⟨l0, xs0, ψ0, hs0, hl0, _, _⟩ := S.list hd
      refine ⟨_, hs0, .inl ⟨rfl, xs0, SqL.of hl0⟩, B, C, δ, Φ, r, S, e1, fun y H1 φ s q f n => ?_⟩
      have rp := q.rp S.bc (S.ch.trans s)
      rw [hr] at rp
      obtain ⟨l, xs, es2, y2, hd2, hs, hl, hlen, hy, ⟨Φ', S'⟩, L, q2⟩ := pop_use S s e4
      rw [hs0] at hs
      cases hs
      rw [hd] at hd2
      cases hd2
      exact ⟨l0, xs, i, m, y2, rfl, by rw [rp_int rp], hl, hz.1, hz.2, by rw [hlen]; exact e3, hy, k y2 _ Φ' S' L q2⟩
    · cases e2
  · cases e2
/-- ys.append(an expression that changes another list) -/
def gAppM (i : Nat) (g : GM) : GS := fun δ => (g δ).bind fun p => match δ.getD i .no, p.2.getD i .no with
  | .own (.lst _), .own (.lst ds) => if ds.length < sizeLine then some (.nx (purge (p.2.set i (.own (.lst (ds ++ [p.1])))))) else none
  | _, _ => none
theorem ds_appM (i : Nat) {gm : GM} {x : Str} {p apos cpos : Pos} (he : DM X e gm) (hN : X.N[i]? = some x := by rfl) (hv : Vis X.env.scope x := by first | exact Or.inl rfl | exact Or.inr (Or.inl rfl) | exact Or.inr (Or.inr rfl)) (hd : (x == ("__debug__" : Str)) = false := by decide)
    (hcd : (x == ("__classdict__" : Str)) = false := by decide) (hs : swapsWith (.Call (.Attribute (.Name x p) "append" apos) [e] [] cpos) none pos.line X.env = pure false := by rfl) (hst : starEach [e] X.env = (false, eval e X.env) :: starEach [] X.env := by rfl)
    (hbase : attributeBase (.Name x p) "append" X.env (eval (.Name x p) X.env) = eval (.Name x p) X.env := by rfl)
    (hfew : ((backTo cpos (starEach [e] X.env)).all (fun x => !x.1) && (backToKw cpos (keywordEach [] X.env)).all (fun x => x.1.isSome) && decide ([e].length + ([] : List Keyword).length + (if ([] : List Keyword).isEmpty then 0 else 1) < 30)) = true := by rfl)
    (hline : (apos.endLine == cpos.line) = true := by rfl) (hplain : (backTo cpos (starEach ([] : List Expr) X.env)).any (·.1) = false := by rfl) : DS X (.Expr (.Call (.Attribute (.Name x p) "append" apos) [e] [] cpos) pos) (gAppM i gm) := by
  refine ⟨ps_imp (ps_expr (pe_bm PySem.F.plainAttrs_list PySem.F.slot_list_append PySem.F.type_list_append mt_append (pe_var hN hv hd hcd) (pa_cons he.pe pa_nil hst) hbase hfew hline hst hplain) hs) fun En σ H h => ?_⟩
  obtain ⟨B, C, δ, Φ, o, S, e, k⟩ := h
  obtain ⟨⟨d, δ'⟩, e1, e2⟩ := bind1_some e
  split at e2
  · rename_i d0 ds h0 h1
    split at e2
    · rename_i hz
      cases e2
      have q0 := S.sl i
      rw [h0] at q0
      obtain ⟨v0, hv0, ow0⟩ := q0
      have hs0 : σ[i]? = some (some v0) := by
        rw [List.getD_eq_getElem?_getD] at hv0
        cases w : σ[i]? with
        | none => rw [w] at hv0; cases hv0
        | some y => rw [w] at hv0; rw [show y = some v0 from hv0]
      refine ⟨v0, hs0, ?_, B, C, δ, Φ, d, δ', S, e1, fun y H1 Φ1 S1 L1 q1 => ?_⟩
      · unfold Ow at ow0
        obtain ⟨l, xs, ψ, rfl, hl, _⟩ := ow0
        exact .inl ⟨rfl, xs, SqL.of hl⟩
      · obtain ⟨l, xs, ψ, hs, hl, ow, hp⟩ := S1.list h1
        rw [hs0] at hs
        cases hs
        have lenx : xs.length = ds.length := (OwL.rp _ _ _ ow).length
        refine ⟨l, xs, y, rfl, rfl, hl, by omega, ?_⟩
        have r1 : RpL X.K H1 [d] [y] := by
          unfold RpL
          exact ⟨y, [], rfl, q1.2.2, by unfold RpL; rfl⟩
        exact grow S1 (Same.refl _) h1 hs0 hl ow hp (by simp [puL, q1.2.1]) r1 (k.lk L1)
    · cases e2
  · cases e2
end
end DL

set_option Elab.async false
set_option linter.all false
set_option maxRecDepth 100000
set_option maxHeartbeats 4000000
/-! D10: for, calls, defs over plain data. -/
namespace DL
open PySem PySem.Spec PyProof.Rows L2
def Sl.isOwn : Sl → Bool
  | .own _ => true
  | _ => false
def Sl.lock : Sl → Sl
  | .own d => .lck d
  | s => s
def Sl.unlock : Sl → Sl
  | .lck d => .own d
  | s => s
def Sl.unfr : Sl → Sl
  | .fr d => .bor d
  | s => s
def R.unfr : R → R
  | .fr d => .bor d
  | r => r
def lockAll (lks : List Nat) (δ : DSt) : DSt := δ.mapIdx fun j s => if lks.contains j = true then s.lock else s
def unlockAll (lks : List Nat) (δ0 δ : DSt) : DSt := δ.mapIdx fun j s => if (lks.contains j && (δ0.getD j .no).isOwn) = true then s.unlock else s.unfr
section
variable {K : PySem.W.Frag} {B C H H' : Hp} {σ : L2.St} {δ : DSt} {Φ : Nat → List Addr}
/-- the slots that a loop locks -/
def lkd (lks : List Nat) (δ : DSt) (j : Nat) : Prop := lks.contains j = true ∧ (δ.getD j .no).isOwn = true
/-- what may change within the loop -/
def Mv (lks : List Nat) (δ : DSt) (Φ : Nat → List Addr) (a : Addr) : Prop := ∃ j, a ∈ Φ j ∧ ¬ lkd lks δ j
theorem lock_get (lks : List Nat) (j : Nat) : (lockAll lks δ).getD j .no = if lks.contains j = true then (δ.getD j .no).lock else δ.getD j .no := by
  unfold lockAll
  rw [getD_mapIdx _ (fun j => by split <;> rfl)]
theorem unlock_get (lks : List Nat) (δ0 : DSt) (j : Nat) : (unlockAll lks δ0 δ).getD j .no = if (lks.contains j && (δ0.getD j .no).isOwn) = true then (δ.getD j .no).unlock else (δ.getD j .no).unfr := by
  unfold unlockAll
  rw [getD_mapIdx _ (fun j => by split <;> rfl)]
open Classical in
noncomputable def lkΦ (lks : List Nat) (δ : DSt) (Φ : Nat → List Addr) (j : Nat) : List Addr := if lkd lks δ j then [] else Φ j
/-- the state with the slots locked, over a base that holds all that stands still -/
theorem RSt.lock (h : RSt K B C σ H δ Φ) (lks : List Nat) : RSt K B (rem (Mv lks δ Φ) H) σ H (lockAll lks δ) (lkΦ lks δ Φ) ∧ Same C (rem (Mv lks δ Φ) H) ∧ (∀ j d, δ.getD j .no = .lck d → (lockAll lks δ).getD j .no = .lck d) ∧
    (∀ a, Mv lks δ Φ a → ∃ xs, H a = some (.lst xs)) ∧ ∀ j d, lkd lks δ j → δ.getD j .no = .own d → (lockAll lks δ).getD j .no = .lck d ∧ ∃ v, σ.getD j none = some v ∧ Ow K (rem (Mv lks δ Φ) H) d v (Φ j) := by
  have ml : ∀ a, Mv lks δ Φ a → ∃ xs, H a = some (.lst xs) := fun a ⟨j, ha, _⟩ => h.trk ha
  have cc : Same C (rem (Mv lks δ Φ) H) := fun a o e => by
    have nm : ¬ Mv lks δ Φ a := fun ⟨j, ha, _⟩ => by
      rw [h.fr j a ha] at e
      cases e
    rw [rem_at nm]
    exact h.ch a o e
  have lkow : ∀ j d, lkd lks δ j → δ.getD j .no = .own d → (lockAll lks δ).getD j .no = .lck d ∧ ∃ v, σ.getD j none = some v ∧ Ow K (rem (Mv lks δ Φ) H) d v (Φ j) := fun j d hj e => by
    refine ⟨by rw [lock_get, if_pos hj.1, e]; rfl, ?_⟩
    have q := h.sl j
    rw [e] at q
    obtain ⟨v, e1, ow⟩ := q
    exact ⟨v, e1, Ow.mono (rem_tk ml) _ _ _ (fun a ha => rem_at fun ⟨m, hm, nm⟩ => nm (by rw [← h.dj j m a ha hm]; exact hj)) ow⟩
  refine ⟨⟨by simpa [lockAll] using h.len, fun j => ?_, fun j => ?_, fun j m a ha hb => ?_, h.bc.trans cc, rem_same, fun j a ha => ?_⟩, cc, fun j d e => ?_, ml, lkow⟩
  · have s := h.sl j
    by_cases hj : lkd lks δ j
    · cases z : δ.getD j .no with
      | own d =>
        obtain ⟨e1, v, e2, ow⟩ := lkow j d hj z
        rw [e1, e2]
        unfold lkΦ
        rw [if_pos hj]
        exact ⟨rfl, v, rfl, Ow.rp _ _ _ ow⟩
      | _ => have := hj.2; rw [z] at this; cases this
    · have e1 : (lockAll lks δ).getD j .no = δ.getD j .no := by
        rw [lock_get]
        split
        · rename_i hc
          cases z : δ.getD j .no with
          | own d => exact absurd ⟨hc, by rw [z]; rfl⟩ hj
          | _ => rfl
        · rfl
      rw [e1]
      unfold lkΦ
      rw [if_neg hj]
      cases z : δ.getD j .no with
      | no => rw [z] at s; exact s
      | val d => rw [z] at s; exact s
      | par d => rw [z] at s; exact s
      | fr d => rw [z] at s; obtain ⟨a, x, e2, q⟩ := s; exact ⟨a, x, e2, Rp.mono cc _ _ q⟩
      | bor d => rw [z] at s; exact s
      | lck d => rw [z] at s; obtain ⟨a, x, e2, q⟩ := s; exact ⟨a, x, e2, Rp.mono cc _ _ q⟩
      | own d => rw [z] at s; exact s
  · unfold lkΦ
    split
    · exact List.nodup_nil
    · exact h.nd j
  · unfold lkΦ at ha hb
    split at ha
    · cases ha
    · split at hb
      · cases hb
      · exact h.dj j m a ha hb
  · unfold lkΦ at ha
    split at ha
    · cases ha
    · rename_i hn
      exact rem_in ⟨j, ha, hn⟩
  · rw [lock_get]
    split
    · rw [e]; rfl
    · exact e
/-- the loop is done: the locked slots are our own again -/
theorem RSt.unlock {lks : List Nat} {C' H2 : Hp} {σ2 : L2.St} {δ2 : DSt} {Φ2 : Nat → List Addr} (h : RSt K B C σ H δ Φ) (cc : Same C C') (lkow : ∀ j d, lkd lks δ j → δ.getD j .no = .own d → (lockAll lks δ).getD j .no = .lck d ∧ ∃ v, σ.getD j none = some v ∧ Ow K C' d v (Φ j))
    (h2 : RSt K B C' σ2 H2 δ2 Φ2) (L : Lk σ (lockAll lks δ) σ2 δ2) (ll : ∀ j d, δ.getD j .no = .lck d → (lockAll lks δ).getD j .no = .lck d) : ∃ Φ3, RSt K B C σ2 H2 (unlockAll lks δ δ2) Φ3 ∧ Lk σ δ σ2 (unlockAll lks δ δ2) := by
  have own_of : ∀ j, lkd lks δ j → ∃ d, δ.getD j .no = .own d := fun j hj => by
    cases z : δ.getD j .no with
    | own d => exact ⟨d, rfl⟩
    | _ => have := hj.2; rw [z] at this; cases this
  have at_ : ∀ j d, lkd lks δ j → δ.getD j .no = .own d → δ2.getD j .no = .lck d ∧ ∃ v, σ2.getD j none = some v ∧ Ow K C' d v (Φ j) := fun j d hj e => by
    obtain ⟨e1, v, e2, ow⟩ := lkow j d hj e
    obtain ⟨e3, e4⟩ := L.1 j d e1
    exact ⟨e3, v, e4.trans e2, ow⟩
  classical
  refine ⟨fun j => if lkd lks δ j then Φ j else Φ2 j, ⟨by simpa [unlockAll] using h2.len, fun j => ?_, fun j => ?_, fun j m a ha hb => ?_, h.bc, cc.trans h2.ch, fun j a ha => ?_⟩, fun j d e => ?_, fun j d e => ?_⟩
  · rw [unlock_get]
    by_cases hj : lkd lks δ j
    · obtain ⟨d, hd⟩ := own_of j hj
      obtain ⟨e1, v, e2, ow⟩ := at_ j d hj hd
      rw [if_pos hj, if_pos (by rw [hj.1, hj.2]; rfl), e1, e2]
      exact ⟨v, rfl, Ow.same h2.ch ow⟩
    · rw [if_neg hj, if_neg (fun z => hj (by rw [Bool.and_eq_true] at z; exact z))]
      have s := h2.sl j
      cases z : δ2.getD j .no with
      | no => rw [z] at s; exact s
      | val d => rw [z] at s; exact s
      | par d => rw [z] at s; exact s
      | fr d => rw [z] at s; obtain ⟨a, x, e2, q⟩ := s; exact ⟨a, x, e2, Rp.mono h2.ch _ _ q⟩
      | bor d => rw [z] at s; exact s
      | own d => rw [z] at s; exact s
      | lck d =>
        have e1 := L.2 j d z
        have e2 : δ.getD j .no = .lck d := by
          rw [lock_get] at e1
          split at e1
          · rename_i hc
            cases w : δ.getD j .no with
            | own d' => exact absurd ⟨hc, by rw [w]; rfl⟩ hj
            | _ => rw [w] at e1; exact e1
          · exact e1
        have s0 := h.sl j
        rw [e2] at s0
        obtain ⟨_, x, e3, q⟩ := s0
        rw [z] at s
        exact ⟨s.1, x, (L.1 j d e1).2.trans e3, q⟩
  · split
    · exact h.nd j
    · exact h2.nd j
  · have cr : ∀ j m a, lkd lks δ j → a ∈ Φ j → a ∈ Φ2 m → False := fun j m a hj ha hb => by
      obtain ⟨d, hd⟩ := own_of j hj
      obtain ⟨_, v, _, ow⟩ := at_ j d hj hd
      obtain ⟨xs, q⟩ := Ow.trk _ _ _ ow a ha
      rw [h2.fr m a hb] at q; cases q
    split at ha
    · split at hb
      · exact h.dj j m a ha hb
      · rename_i hj _; exact (cr j m a hj ha hb).elim
    · split at hb
      · rename_i _ hm; exact (cr m j a hm hb ha).elim
      · exact h2.dj j m a ha hb
  · split at ha
    · exact h.fr j a ha
    · exact cc.free (h2.fr j a ha)
  · have e1 := ll j d e
    obtain ⟨e2, e3⟩ := L.1 j d e1
    refine ⟨?_, e3⟩
    rw [unlock_get, if_neg, e2]
    · rfl
    · intro z
      rw [Bool.and_eq_true, e] at z
      cases z.2
  · rw [unlock_get] at e
    split at e
    · rename_i hc
      cases z : δ2.getD j .no <;> rw [z] at e <;> cases e
    · rename_i hc
      have z : δ2.getD j .no = .lck d := by cases z : δ2.getD j .no <;> rw [z] at e <;> first | exact e | cases e
      have e1 := L.2 j d z
      rw [lock_get] at e1
      split at e1
      · rename_i hl
        cases w : δ.getD j .no with
        | own d' => exact absurd (by rw [hl, w]; rfl) hc
        | _ => rw [w] at e1; exact e1
      · exact e1
end

/-! ### for -/
def Kd.mkF (k : Kd) (d : D) : R := if pu d = true then .val d else match k with
  | .par => .par d | .bor => .bor d | _ => .fr d
def Kd.itmF (k : Kd) : SI → Itm
  | .one d => .one (k.mkF d)
  | .en i d => .tup [.val (.int i), k.mkF d]
def Kd.ok : Kd → Bool
  | .bor => false
  | _ => true
theorem kd_mkF {K : PySem.W.Frag} {B C H : Hp} {k : Kd} {d : D} {x : V} (hk : k.ok = true) (ch : Same C H) (hB : k = .par → Rp K B d x) (hC : Rp K C d x) : RR K B C H (k.mkF d) x [] := by
  unfold Kd.mkF
  split
  · rename_i p; exact ⟨rfl, p, Rp.mono ch _ _ hC⟩
  · cases k with
    | par => exact ⟨rfl, hB rfl⟩
    | fr => exact ⟨rfl, hC⟩
    | val => exact ⟨rfl, hC⟩
    | own => exact ⟨rfl, hC⟩
    | bor => cases hk
theorem itmF_ok {K : PySem.W.Frag} {B C H H' : Hp} {T : Hp → Prop} {J : It} {its : List SI} {k : Kd} {i : Nat} {it : SI} {x : V} (wk : Wk K T J its) (hk : k.ok = true) (sB : Same B H) (sC : Same C H) (tH : T H) (tB : k = .par → T B) (tC : T C)
    (hi : its[i]? = some it) (hy : J.yld i H x H') : Same H H' ∧ ItOk K B C H' (k.itmF it) x [] := by
  obtain ⟨ss, q1⟩ := ((wk H tH i).1 it hi).2 x H' hy
  refine ⟨ss, ?_⟩
  cases it with
  | one d => exact kd_mkF hk (sC.trans ss) (fun z => q1 B (tB z) sB) (q1 C tC sC)
  | en j d =>
    obtain ⟨a, y, rfl, hs, hr⟩ := q1
    exact ⟨a, [.int j, y], rfl, hs, .int j, [y], [], [], rfl, rr_int, ⟨y, [], [], [], rfl, kd_mkF hk (sC.trans ss) (fun z => hr B (tB z) sB) (hr C tC sC), ⟨rfl, rfl⟩, rfl⟩, rfl⟩
def forL (kd : Kd) (gt : GTg) (gb : GS) : List SI → GS
  | [], δ => some (.nx δ)
  | it :: its, δ => (gt (kd.itmF it) δ).bind fun δ1 => (gb δ1).bind fun o => match o with
    | .nx δ2 => forL kd gt gb its δ2
    | .ct δ2 => forL kd gt gb its δ2
    | .bk δ2 => some (.nx δ2)
    | .rt r => some (.rt r)
def gFor (lks : List Nat) (gi : GI) (gt : GTg) (gb : GS) : GS := fun δ => (gi (lockAll lks δ)).bind fun p => if p.1.ok = true then (forL p.1 gt gb p.2 (lockAll lks δ)).bind fun o => (match o with
    | .nx δ2 => some (.nx (unlockAll lks δ δ2))
    | .rt r => some (.rt r.unfr)
    | _ => none) else none
section
variable {X : Cx} {tg iter : Expr} {body : List Stmt} {pos : Pos} {gi : GI} {gt : GTg} {gb : GS}
theorem for_use {K : PySem.W.Frag} {lks ts : List Nat} {En : Ends} {σ : L2.St} {H : Hp} (h : tDS K (gFor lks gi gt gb) En σ H) : tFor (tDI K gi) (tDG K ts gt) (tDS K gb) En σ H := by
  obtain ⟨B, C, δ, Φ, o, S, e, k⟩ := h
  obtain ⟨⟨kd, its⟩, e1, e⟩ := bind1_some e
  by_cases hk : kd.ok = true
  · have e : ((forL kd gt gb its (lockAll lks δ)).bind fun o => (match o with
      | O.nx δ2 => some (O.nx (unlockAll lks δ δ2))
      | O.rt r => some (O.rt r.unfr)
      | _ => none)) = some o := by
      have e : (if kd.ok = true then _ else _) = some o := e
      rw [if_pos hk] at e
      exact e
    obtain ⟨o1, e2, e3⟩ := bind1_some e
    obtain ⟨S1, cc1, ll, ml, lkow⟩ := S.lock lks
    refine ⟨B, _, lockAll lks δ, _, kd, its, S1, e1, fun J H1 T s tm wk t1 tB tC tN => ?_⟩
    -- the loop's base
    have S2 := S.same s
    obtain ⟨S3, cc, _, _, lkow3⟩ := S2.lock lks
    have c12 : Same (rem (Mv lks δ Φ) H) (rem (Mv lks δ Φ) H1) := fun a u z => by
      have nm : ¬ Mv lks δ Φ a := fun w => by rw [rem_in w] at z; cases z
      rw [rem_at nm] at z ⊢
      exact s a u z
    have tC2 : T (rem (Mv lks δ Φ) H1) := by
      cases kd with
      | par => exact tm _ _ (tB rfl) S3.bc
      | fr => exact tm _ _ (tC rfl) c12
      | val => exact tN (.inl rfl) _ ml
      | own => exact tN (.inr rfl) _ ml
      | bor => cases hk
    refine ⟨fun i m σ' H' => m = its.length - i ∧ i ≤ its.length ∧ ∃ δ' Φ', RSt K B (rem (Mv lks δ Φ) H1) σ' H' δ' Φ' ∧ Lk σ (lockAll lks δ) σ' δ' ∧ forL kd gt gb (its.drop i) δ' = some o1, ⟨its.length, by simp, Nat.zero_le _, lockAll lks δ, _, S3, Lk.refl, by simpa using e2⟩, ?_⟩
    rintro i m σ' H' ⟨rfl, hi, δ', Φ', S', L', e4⟩
    have tH : T H' := tm _ _ tC2 S'.ch
    have fin : ∀ (σ2 : L2.St) (H2 : Hp) (δ2 : DSt) (Φ2 : Nat → List Addr), RSt K B (rem (Mv lks δ Φ) H1) σ2 H2 δ2 Φ2 → Lk σ (lockAll lks δ) σ2 δ2 → o1 = .nx δ2 → En.nx σ2 H2 := fun σ2 H2 δ2 Φ2 S4 L4 eo => by
      subst eo
      cases e3
      obtain ⟨Φ3, S5, L5⟩ := S2.unlock cc lkow3 S4 L4 ll
      exact k σ2 H2 Φ3 S5 L5
    by_cases hlt : i < its.length
    · obtain ⟨it, hit⟩ : ∃ it, its[i]? = some it := ⟨its[i], by simp [hlt]⟩
      have hdrop : its.drop i = it :: its.drop (i + 1) := by
        rw [List.drop_eq_getElem_cons hlt]
        congr 1
        have := List.getElem?_eq_getElem hlt
        rw [hit] at this
        exact (Option.some.inj this).symm
      rw [hdrop] at e4
      obtain ⟨δ1, e5, e6⟩ := bind1_some e4
      obtain ⟨o2, e7, e8⟩ := bind1_some e6
      refine .inr ⟨((wk H' tH i).1 it hit).1, fun σ2 H2 => ∃ δ2 Φ2, RSt K B (rem (Mv lks δ Φ) H1) σ2 H2 δ2 Φ2 ∧ Lk σ (lockAll lks δ) σ2 δ2 ∧ forL kd gt gb (its.drop (i + 1)) δ2 = some o1, fun σ2 H2 w => ⟨its.length - (i + 1), by omega, rfl, hlt, w⟩, fun x H3 hy => ?_⟩
      obtain ⟨ss, ok⟩ := itmF_ok (B := B) wk hk (S'.bc.trans S'.ch) S'.ch tH tB tC2 hit hy
      refine ⟨B, _, δ', Φ', kd.itmF it, [], δ1, S'.same ss, ok, List.nodup_nil, fun _ z => (by cases z), fun _ _ z => (by cases z), e5, fun σ3 ⟨Φ3, S4, L4, _, _, _⟩ => ⟨B, _, δ1, Φ3, o2, S4, e7, ?_⟩⟩
      have L5 := L'.trans L4
      cases o2 with
      | nx δ2 => exact fun σ4 H4 Φ4 S6 L6 => ⟨δ2, Φ4, S6, L5.trans L6, e8⟩
      | ct δ2 => exact fun σ4 H4 Φ4 S6 L6 => ⟨δ2, Φ4, S6, L5.trans L6, e8⟩
      | bk δ2 => exact fun σ4 H4 Φ4 S6 L6 => fin σ4 H4 δ2 Φ4 S6 (L5.trans L6) (Option.some.inj e8).symm
      | rt r =>
        have e9 : o1 = .rt r := (Option.some.inj e8).symm
        subst e9
        cases e3
        refine fun v H4 φ s4 q f n => k v H4 φ (cc.trans s4) ?_ (fun a ha => cc.free (f a ha)) n
        cases r with
        | val d => exact q
        | par d => exact q
        | fr d => exact ⟨q.1, Rp.mono s4 _ _ q.2⟩
        | bor d => exact q
        | own d => exact q
    · have hii : i = its.length := by omega
      refine .inl ⟨(wk H' tH i).2 hii, fin σ' H' δ' Φ' S' L' ?_⟩
      rw [hii, List.drop_length] at e4
      exact (Option.some.inj e4).symm
  · have e : (if kd.ok = true then _ else none) = some o := e
    rw [if_neg hk] at e
    cases e
theorem ds_for (lks : List Nat) {ts : List Nat} (hp : PassesOwn (model X.prog X.w) X.A X.env X.xe) (hc : X.calm = true) (hi : DI X tg iter gi) (hg : DG X tg ts gt) (hb : DSs X body gb)
    (hs : ∀ x, foldedSetIterable iter X.env x = pure x := by intro _; rfl) : DS X (.For tg iter body [] pos) (gFor lks gi gt gb) := ⟨ps_imp (ps_for hp hc hi.pi hg.pg hb.pss hs) fun En σ H h => for_use h⟩
end

/-! ### defs and their calls -/
/-- what a def hands back -/
def R.ret : R → Option R
  | .val d => some (.val d)
  | .own d => some (.own d)
  | .par d => some (.par d)
  | _ => none
/-- how the caller holds it -/
def R.back : R → R
  | .par d => .bor d
  | .fr d => .bor d
  | r => r
/-- the promise of a def of plain data -/
def spF (K : PySem.W.Frag) (n : Nat) (F : List D → Option R) : Sp := fun vs H Q _ => ∃ ds r, ds.length = n ∧ RpL K H ds vs ∧ F ds = some r ∧
  ∀ v H' φ, Same H H' → RR K H H H' r v φ → (∀ a ∈ φ, H a = none) → φ.Nodup → Q v H'
def argS (d : D) : Sl := if pu d = true then .val d else .par d
def startD (n : Nat) (ds : List D) : DSt := ds.map argS ++ List.replicate (n - ds.length) .no
/-- a def by its body -/
def runF (n : Nat) (g : GS) (ds : List D) : Option R := (g (startD n ds)).bind fun o => match o with
  | .nx _ => some (.val .non)
  | .rt r => r.ret
  | _ => none
theorem rst_start {K : PySem.W.Frag} {H : Hp} {N : List Str} {ds : List D} {vs : List V} (h : RpL K H ds vs) : RSt K H H (L2.start N vs) H (startD N.length ds) (fun _ => []) := by
  have hl := h.length
  refine ⟨by simp [L2.start, startD, hl], fun i => ?_, fun _ => List.nodup_nil, fun _ _ _ z => (by cases z), Same.refl _, Same.refl _, fun _ _ z => (by cases z)⟩
  unfold startD L2.start
  rw [List.getD_eq_getElem?_getD, List.getD_eq_getElem?_getD]
  by_cases hi : i < ds.length
  · obtain ⟨d, hd⟩ : ∃ d, ds[i]? = some d := ⟨ds[i], by simp [hi]⟩
    obtain ⟨x, hx, r⟩ := RpL.at h hd
    rw [List.getElem?_append_left (by simpa using hi), List.getElem?_append_left (by rw [List.length_map, hl]; exact hi), List.getElem?_map, List.getElem?_map, hd, hx]
    show SlOk K H H H (argS d) (some x) []
    unfold argS
    split
    · rename_i p; exact ⟨rfl, p, x, rfl, r⟩
    · exact ⟨rfl, x, rfl, r⟩
  · have e : (List.map argS ds ++ List.replicate (N.length - ds.length) Sl.no)[i]?.getD Sl.no = Sl.no := by
      rw [List.getElem?_append_right (by simp; omega), List.getElem?_replicate]
      split <;> rfl
    rw [e]
    rfl
section
variable {P : Program} {w : World} {K : PySem.W.Frag} {mg : Str → Option Value} {base : Heap}
theorem fn_d {x qual : Str} {st : Stmt} {f : Addr} {fd : FuncData} {N ps : List Str} {k : Nat} {g : GS} (F : Fun K x qual st f fd) (S : FnScope N ps (defScope st))
    (hb : ∀ (cdv : Value) (A : Around) (outer : List Env) (s : Shared) (H : Hp) (E : XK), Room k (A.deeper (envOfC qual (defScope st) s.heap.objs.size f cdv)) → DSs (cxOf CX0 P w K mg base N qual (defScope st) f cdv A outer s H E).nox (defBody st) g) :
    FnOk P w K mg base CX0 (k + 1) f fd ps (spF K ps.length (runF N.length g)) := by
  refine F.ok S (fun vs H Q E h => ?_) (fun cdv A outer s H vs Q E hr h => ⟨_, (hb cdv A outer s H E hr).pss, ?_⟩)
  · obtain ⟨ds, r, h1, h2, _⟩ := h
    rw [h2.length, h1]
  · obtain ⟨ds, r, h1, h2, h3, h4⟩ := h
    obtain ⟨o, e1, e2⟩ := bind1_some h3
    refine ⟨H, H, startD N.length ds, fun _ => [], o, rst_start h2, e1, ?_⟩
    cases o with
    | nx δ' =>
      cases e2
      exact fun σ' H' Φ' S' _ => h4 .non H' [] S'.ch rr_non (fun _ z => by cases z) List.nodup_nil
    | rt r0 =>
      refine fun v H' φ s' q f n => h4 v H' φ s' ?_ f n
      cases r0 with
      | val d => cases e2; exact q
      | own d => cases e2; exact q
      | par d => cases e2; exact q
      | fr d => cases e2
      | bor d => cases e2
    | bk δ' => cases e2
    | ct δ' => cases e2
end
section
variable {X : Cx} {a : Expr} {es : List Expr} {pos : Pos} {gs : GA}
def gCall (n : Nat) (F : List D → Option R) (gs : GA) : G := fun δ => (gs δ).bind fun rs => if rs.length = n then (F (rs.map R.d)).map R.back else none
theorem de_call {x : Str} {p : Pos} {f : Addr} {fd : FuncData} {ps : List Str} {k n : Nat} {F : List D → Option R} (Fn : FnOk X.prog X.w X.K X.mg X.base CX0 k f fd ps (spF X.K n F)) (hr : Room k X.A) (hm : X.mg x = some (.ref f)) (hk : PySem.W.keepIn X.K (.ref f) = true) (hb : Binds X.K fd ps []) (ha : DA X (a :: es) gs)
    (hg : Gl X x := by rfl) (hd : (x == ("__debug__" : Str)) = false := by decide) (hs : starEach (a :: es) X.env = (false, eval a X.env) :: starEach es X.env := by rfl) (hpl : (backTo pos (starEach es X.env)).any (·.1) = false := by rfl) : DE X (.Call (.Name x p) (a :: es) [] pos) (gCall n F gs) := by
  refine ⟨pe_imp (pe_call Fn hr hg hm hk hb .nil pass0 ha.pa hd hs hpl) fun σ H Q h => ?_⟩
  obtain ⟨B, C, δ, Φ, c, S, e, k'⟩ := h
  obtain ⟨rs, e1, e2⟩ := bind1_some e
  split at e2
  · rename_i hn
    obtain ⟨r, e3, e4⟩ := map_some e2
    refine ⟨B, C, δ, Φ, rs, S, e1, fun vs H1 φ s q f n => ?_⟩
    refine ⟨rs.map R.d, r, by simpa using hn, by rw [List.append_nil]; exact q.rp S.bc (S.ch.trans s), e3, fun v H' φ' s' q' f' n' => k' v H' φ' (s.trans s') ?_ (fun a ha => s.free (f' a ha)) n'⟩
    subst e4
    cases r with
    | val d => exact q'
    | own d => exact q'
    | par d => exact ⟨q'.1, Rp.mono s' _ _ q'.2⟩
    | fr d => exact ⟨q'.1, Rp.mono s' _ _ q'.2⟩
    | bor d => exact q'
  · cases e2
end
end DL

set_option Elab.async false
set_option linter.all false
set_option maxRecDepth 100000
set_option maxHeartbeats 4000000
/-! D11: short words for printed derivations; the end of a law. -/
namespace DL
open PySem PySem.Spec PyProof.Rows L2
theorem bt_len : bootBuiltins "len" = some (.builtin "len") := by decide +kernel
theorem bt_int : bootBuiltins "int" = some (.type "int") := by decide +kernel
theorem bt_tuple : bootBuiltins "tuple" = some (.type "tuple") := by decide +kernel
theorem bt_list : bootBuiltins "list" = some (.type "list") := by decide +kernel
theorem bt_bool : bootBuiltins "bool" = some (.type "bool") := by decide +kernel
theorem bt_str : bootBuiltins "str" = some (.type "str") := by decide +kernel
theorem bt_all : bootBuiltins "all" = some (.builtin "all") := by decide +kernel
theorem bt_any : bootBuiltins "any" = some (.builtin "any") := by decide +kernel
theorem bt_min : bootBuiltins "min" = some (.builtin "min") := by decide +kernel
theorem bt_max : bootBuiltins "max" = some (.builtin "max") := by decide +kernel
theorem bt_sorted : bootBuiltins "sorted" = some (.builtin "sorted") := by decide +kernel
section
variable {X : Cx} {a : Expr} {es : List Expr} {pos : Pos} {ga : G} {gs : GA}
/-- -a -/
def gNeg (g : G) : G := fun δ => (g δ).bind fun r => match r.d with
  | .int i => some (.val (.int (-i)))
  | _ => none
theorem de_neg (ha : DE X a ga) : DE X (.UnaryOp .USub a pos) (gNeg ga) := ⟨pe_imp (pe_un un_neg ha.pe) fun σ H Q h => by
  obtain ⟨B, C, δ, Φ, c, S, e, k⟩ := h
  obtain ⟨x, e1, e2⟩ := bind1_some e
  refine ⟨B, C, δ, Φ, x, S, e1, fun v H1 φ s q f n => ?_⟩
  have q := q.rp S.bc (S.ch.trans s)
  split at e2
  · rename_i i hx
    rw [hx] at q
    cases e2
    exact ⟨i, rp_int q, k _ H1 [] s rr_int no_fresh List.nodup_nil⟩
  · cases e2⟩
end
/-- a def of the text as it stands behind the top -/
structure Df (K : PySem.W.Frag) (mg : Str → Option Value) (x : Str) (st : Stmt) (ps : List Str) : Prop where
  ex : ∃ f fd, mg x = some (.ref f) ∧ Fun K x x st f fd ∧ Binds K fd ps []
/-- a def with its promise -/
structure Cal (P : Program) (w : World) (K : PySem.W.Frag) (mg : Str → Option Value) (base : Heap) (x : Str) (ps : List Str) (k : Nat) (F : List D → Option R) : Prop where
  ex : ∃ f fd, mg x = some (.ref f) ∧ PySem.W.keepIn K (.ref f) = true ∧ Binds K fd ps [] ∧ FnOk P w K mg base CX0 k f fd ps (spF K ps.length F)
section
variable {P : Program} {w : World} {K : PySem.W.Frag} {mg : Str → Option Value} {base : Heap} {x : Str} {st : Stmt} {ps : List Str}
theorem Df.cal {N : List Str} {k : Nat} {g : GS} (h : Df K mg x st ps) (S : FnScope N ps (defScope st))
    (hb : ∀ (f : Addr) (cdv : Value) (A : Around) (outer : List Env) (s : Shared) (H : Hp) (E : XK), Room k (A.deeper (envOfC x (defScope st) s.heap.objs.size f cdv)) → DSs (cxOf CX0 P w K mg base N x (defScope st) f cdv A outer s H E).nox (defBody st) g) :
    Cal P w K mg base x ps (k + 1) (runF N.length g) := by
  obtain ⟨f, fd, h1, h2, h3⟩ := h.ex
  exact ⟨f, fd, h1, h2.kp, h3, fn_d h2 S (hb f)⟩
theorem Df.never {k : Nat} (h : Df K mg x st ps) : Cal P w K mg base x ps k (fun _ => none) := by
  obtain ⟨f, fd, h1, h2, h3⟩ := h.ex
  refine ⟨f, fd, h1, h2.kp, h3, ⟨fun vs H Q E ⟨ds, r, a1, a2, a3, _⟩ => (by cases a3), fun A outer s H args us vs Q E hr he hb hv ⟨ds, r, a1, a2, a3, _⟩ => (by cases a3)⟩⟩
theorem Cal.up {j k : Nat} {F : List D → Option R} (h : Cal P w K mg base x ps j F) (hj : j ≤ k) : Cal P w K mg base x ps k F := by
  obtain ⟨f, fd, h1, h2, h3, h4⟩ := h.ex
  exact ⟨f, fd, h1, h2, h3, h4.mono hj⟩
theorem Df.mk' {f : Addr} {h : Heap} {oc : Value} {od an : Option Addr} {osl : Array (Option Value)} {kV doc pm cdv ct : Value} (X : K.In h) (G : h.Ns mainGlobals mg) (a : PySem.W.nsIn K mainGlobals x = some (some (.ref f)))
    (l : K.lookup f = some ⟨oc, od, .func (PySem.W.fnOf x x (defArgs st) (defBody st) (defScope st) .none kV doc pm an cdv ct), osl⟩) (c : PySem.W.codeIn K cdv x = true) (kp : PySem.W.keepIn K (.ref f) = true)
    (hb : ∀ (kV doc pm : Value) (an : Option Addr) (cdv ct : Value) (us : List Value), us.length = ps.length → bindArgs (PySem.W.fnOf x x (defArgs st) (defBody st) (defScope st) .none kV doc pm an cdv ct) ⟨us, []⟩ = pure (ps.zip us)) : Df K mg x st ps :=
  ⟨f, _, PySem.W.mg_of X G a, fun_mk l c kp, (fun_mk l c kp).binds hb⟩
end
section
variable {X : Cx} {a : Expr} {es : List Expr} {pos : Pos} {gs : GA}
theorem de_fn {x : Str} {p : Pos} {ps : List Str} {k n : Nat} {F : List D → Option R} (c : Cal X.prog X.w X.K X.mg X.base x ps k F) (hr : Room k X.A) (ha : DA X (a :: es) gs) (hn : ps.length = n := by rfl)
    (hg : Gl X x := by rfl) (hd : (x == ("__debug__" : Str)) = false := by decide) (hs : starEach (a :: es) X.env = (false, eval a X.env) :: starEach es X.env := by rfl) (hpl : (backTo pos (starEach es X.env)).any (·.1) = false := by rfl) : DE X (.Call (.Name x p) (a :: es) [] pos) (gCall n F gs) := by
  obtain ⟨f, fd, h1, h2, h3, h4⟩ := c.ex
  subst hn
  exact de_call h4 hr h1 h2 h3 ha hg hd hs hpl
end
/-- the law's promise -/
def spL (K : PySem.W.Frag) : Sp := fun vs H Q _ => ∃ (a : Addr) (ns : List Int), vs = [.ref a] ∧ SqL K H a (ns.map V.int) ∧ ns.length ≤ 63 ∧ ∀ H', Q (.bl true) H'
theorem law_end {P : Program} {w : World} {K : PySem.W.Frag} {mg : Str → Option Value} {base : Heap} {k : Nat} {F : List D → Option R} {f : Addr} {fd : FuncData} (h : FnOk P w K mg base CX0 k f fd ["script"] (spF K 1 F)) (hF : ∀ ns : List Int, ns.length ≤ 63 → F [.scr ns] = some (.val (.bl true))) :
    FnOk P w K mg base CX0 k f fd ["script"] (spL K) := by
  refine h.imp fun vs H Q E hs => ?_
  obtain ⟨a, ns, rfl, hq, hl, q⟩ := hs
  refine ⟨[.scr ns], .val (.bl true), rfl, ?_, hF ns hl, fun v H' φ s r f n => ?_⟩
  · unfold RpL
    refine ⟨_, [], rfl, ?_, by unfold RpL; rfl⟩
    unfold Rp
    exact ⟨a, rfl, hq⟩
  · have z := r.2.2
    unfold Rp at z
    rw [z]
    exact q H'
end DL

set_option Elab.async false
set_option linter.all false
set_option maxRecDepth 100000
set_option maxHeartbeats 4000000
/-! D12: a tuple that takes slots' own lists with it. -/
namespace DL
open PySem PySem.Spec PyProof.Rows L2
/-- arguments; the slots `ms` give their own things away -/
def tDAm (K : PySem.W.Frag) (ms : List Nat) (g : GA) : TA := fun σ H Q => ∃ (B C : Hp) (δ : DSt) (Φ : Nat → List Addr) (rs : List R), RSt K B C σ H δ Φ ∧ g δ = some rs ∧
  ∀ vs H' φ, Same H H' → RRL K B C H' rs vs φ → (∀ a ∈ φ, H a = none ∨ ∃ i ∈ ms, a ∈ Φ i) → φ.Nodup → Q vs H'
structure DAm (X : Cx) (es : List Expr) (ms : List Nat) (g : GA) : Prop where
  pa : PA X es (tDAm X.K ms g)
def gMv (i : Nat) : G := fun δ => match δ.getD i .no with
  | .own d => some (.own d)
  | s => s.rd
section
variable {X : Cx} {a : Expr} {ga : G} {es : List Expr} {gs : GA} {ms : List Nat} {pos : Pos}
theorem dam_nil : DAm X [] [] gNil := ⟨pa_imp pa_nil fun σ H Q h => by
  obtain ⟨B, C, δ, Φ, r, S, e, k⟩ := h
  cases e
  exact k [] H [] (Same.refl _) ⟨rfl, rfl⟩ (fun _ z => by cases z) List.nodup_nil⟩
theorem dam_cons (ha : DE X a ga) (hr : DAm X es ms gs) (hs : starEach (a :: es) X.env = (false, eval a X.env) :: starEach es X.env := by rfl) : DAm X (a :: es) ms (gCons ga gs) := ⟨pa_imp (pa_cons ha.pe hr.pa hs) fun σ H Q h => by
  obtain ⟨B, C, δ, Φ, r, S, e, k⟩ := h
  obtain ⟨x, xs, e1, e2, e3⟩ := bind2_some e
  cases e3
  refine ⟨B, C, δ, Φ, x, S, e1, fun v H1 φ1 s1 q1 f1 n1 => ⟨B, C, δ, Φ, xs, S.same s1, e2, fun vs H2 φ2 s2 q2 f2 n2 => ?_⟩⟩
  refine k (v :: vs) H2 (φ1 ++ φ2) (s1.trans s2) ⟨v, vs, φ1, φ2, rfl, q1.same s2, q2, rfl⟩ (fun a ha => ?_) ?_
  · rcases List.mem_append.mp ha with ha | ha
    · exact .inl (f1 a ha)
    · rcases f2 a ha with z | z
      · exact .inl (s1.free z)
      · exact .inr z
  · refine List.nodup_append.mpr ⟨n1, n2, fun a ha b hb z => ?_⟩
    subst z
    rcases f2 a hb with z | ⟨i, _, z⟩
    · obtain ⟨ys, e5⟩ := q1.trk a ha
      rw [z] at e5
      cases e5
    · obtain ⟨ys, e5⟩ := S.trk z
      rw [f1 a ha] at e5
      cases e5⟩
theorem dam_mv (i : Nat) {x : Str} {p : Pos} (hm : i ∉ ms) (hr : DAm X es ms gs) (hN : X.N[i]? = some x := by rfl) (hv : Vis X.env.scope x := by first | exact Or.inl rfl | exact Or.inr (Or.inl rfl) | exact Or.inr (Or.inr rfl)) (hd : (x == ("__debug__" : Str)) = false := by decide)
    (hcd : (x == ("__classdict__" : Str)) = false := by decide) (hs : starEach (.Name x p :: es) X.env = (false, eval (.Name x p) X.env) :: starEach es X.env := by rfl) : DAm X (.Name x p :: es) (i :: ms) (gCons (gMv i) gs) := ⟨pa_imp (pa_cons (pe_var hN hv hd hcd) hr.pa hs) fun σ H Q h => by
  obtain ⟨B, C, δ, Φ, r, S, e, k⟩ := h
  obtain ⟨x, xs, e1, e2, e3⟩ := bind2_some e
  cases e3
  have gen : ∀ v φ1, σ[i]? = some (some v) → RR X.K B C H x v φ1 → (∀ a ∈ φ1, a ∈ Φ i) → φ1.Nodup → tVar i σ H fun v' H1 => tDAm X.K ms gs σ H1 fun vs H2 => Q (v' :: vs) H2 := fun v φ1 hv q1 f1 n1 => by
    refine ⟨v, hv, B, C, δ, Φ, xs, S, e2, fun vs H2 φ2 s2 q2 f2 n2 => ?_⟩
    refine k (v :: vs) H2 (φ1 ++ φ2) s2 ⟨v, vs, φ1, φ2, rfl, q1.same s2, q2, rfl⟩ (fun a ha => ?_) ?_
    · rcases List.mem_append.mp ha with ha | ha
      · exact .inr ⟨i, List.mem_cons_self, f1 a ha⟩
      · rcases f2 a ha with z | ⟨j, hj, z⟩
        · exact .inl z
        · exact .inr ⟨j, List.mem_cons_of_mem _ hj, z⟩
    · refine List.nodup_append.mpr ⟨n1, n2, fun a ha b hb z => ?_⟩
      subst z
      rcases f2 a hb with z | ⟨j, hj, z⟩
      · obtain ⟨ys, e5⟩ := S.trk (f1 a ha)
        rw [z] at e5
        cases e5
      · exact hm (S.dj i j a (f1 a ha) z ▸ hj)
  have rdc : ∀ r, (δ.getD i .no).rd = some r → x = r → tVar i σ H fun v' H1 => tDAm X.K ms gs σ H1 fun vs H2 => Q (v' :: vs) H2 := fun r h1 h2 => by
    subst h2
    obtain ⟨v, h1, h2⟩ := S.rd h1
    exact gen v [] h1 h2 (fun _ z => by cases z) List.nodup_nil
  have q := S.sl i
  unfold gMv at e1
  cases z : δ.getD i .no with
  | own d =>
    rw [z] at e1 q
    cases e1
    obtain ⟨y, e1, ow⟩ := q
    refine gen y (Φ i) ?_ ow (fun _ h => h) (S.nd i)
    rw [List.getD_eq_getElem?_getD] at e1
    cases w : σ[i]? with
    | none => rw [w] at e1; cases e1
    | some y2 => rw [w] at e1; rw [show y2 = some y from e1]
  | no => rw [z] at e1; cases e1
  | val d => rw [z] at e1; exact rdc _ (by rw [z]; rfl) (Option.some.inj e1).symm
  | par d => rw [z] at e1; exact rdc _ (by rw [z]; rfl) (Option.some.inj e1).symm
  | fr d => rw [z] at e1; exact rdc _ (by rw [z]; rfl) (Option.some.inj e1).symm
  | bor d => rw [z] at e1; exact rdc _ (by rw [z]; rfl) (Option.some.inj e1).symm
  | lck d => rw [z] at e1; exact rdc _ (by rw [z]; rfl) (Option.some.inj e1).symm⟩
/-- return of such a tuple -/
theorem ds_retMv {x1} {p : Pos} (h : DAm X es ms gs) : DS X (.Return (some (.Tuple es x1 p)) pos) (gRet (gTup gs)) := ⟨ps_imp (ps_ret (pe_tup h.pa)) fun En σ H h => by
  obtain ⟨B, C, δ, Φ, o, S, e, k⟩ := h
  obtain ⟨r, e0, rfl⟩ := map_some e
  obtain ⟨rs, e1, e2⟩ := bind1_some e0
  refine ⟨B, C, δ, Φ, rs, S, e1, fun vs H1 φ s q f n => ?_⟩
  have ch := S.ch.trans s
  have rp := q.rp S.bc ch
  have fc : ∀ a ∈ φ, C a = none := fun a ha => by
    rcases f a ha with z | ⟨i, _, z⟩
    · exact S.ch.free z
    · exact S.fr i a z
  unfold mkTup at e2
  split at e2
  · rename_i hl
    refine ⟨by rw [q.length]; exact hl, fun p hp => ?_⟩
    have s' := ch.trans (same_upd (o := .tup vs) hp)
    have rp' : Rp X.K (upd H1 p (.tup vs)) (.tup (rs.map R.d)) (.ref p) := by
      unfold Rp
      exact ⟨p, vs, rfl, SqT.of upd_same, rp.mono (same_upd hp)⟩
    split at e2
    · rename_i hv
      cases e2
      obtain ⟨h1, h2⟩ := RRL.val hv q
      exact k _ _ [] s' ⟨rfl, by unfold pu; exact h2, rp'⟩ (fun _ z => by cases z) List.nodup_nil
    · split at e2
      · rename_i ho
        cases e2
        refine k _ _ φ s' ?_ fc n
        show Ow X.K _ (.tup _) _ _
        unfold Ow
        exact ⟨p, vs, rfl, SqT.of upd_same, OwL.same (same_upd hp) (RRL.own ho q)⟩
      · cases e2
        exact k _ _ [] s' ⟨rfl, rp'⟩ (fun _ z => by cases z) List.nodup_nil
  · cases e2⟩
end
end DL

set_option Elab.async false
set_option linter.all false
set_option maxRecDepth 100000
set_option maxHeartbeats 4000000
/-! D13: list(range(n)), sorted of ints. -/
namespace DL
open PySem PySem.Spec PyProof.Rows L2
section
variable {X : Cx} {a : Expr} {ga : G} {pos : Pos}
def rgD (n : Int) : List D := (List.range n.toNat).map fun i : Nat => D.int i
def gListRg (g : G) : G := fun δ => (g δ).bind fun r => match r.d with
  | .int n => if 0 ≤ n ∧ n ≤ 1000000 then some (.own (.lst (rgD n))) else none
  | _ => none
theorem rgV_eq (n : Int) : rgV 0 n = ((List.range n.toNat).map fun i : Nat => (i : Int)).map V.int := by
  unfold rgV
  rw [List.map_map, Int.sub_zero]
  refine List.map_congr_left fun i _ => ?_
  simp
theorem rgD_eq (n : Int) : rgD n = ((List.range n.toNat).map fun i : Nat => (i : Int)).map D.int := by
  unfold rgD
  rw [List.map_map]; rfl
theorem de_listRg {p p2 pos2 : Pos} (hc : X.calm = true) (hm : X.mg "list" = none) (hm2 : X.mg "range" = none) (ha : DE X a ga) (hg : Gl X "list" := by rfl) (hg2 : Gl X "range" := by rfl) (na : starEach [a] X.env = (false, eval a X.env) :: starEach [] X.env := by rfl)
    (na2 : starEach [.Call (.Name "range" p2) [a] [] pos2] X.env = (false, eval (.Call (.Name "range" p2) [a] [] pos2) X.env) :: starEach [] X.env := by rfl) : DE X (.Call (.Name "list" p) [.Call (.Name "range" p2) [a] [] pos2] [] pos) (gListRg ga) := by
  refine ⟨pe_imp (pe_listRg hc hg hm (prg_1 hg2 hm2 ha.pe na) na2) fun σ H Q h => ?_⟩
  obtain ⟨B, C, δ, Φ, r, S, e, k⟩ := h
  obtain ⟨x, e1, e2⟩ := bind1_some e
  refine ⟨B, C, δ, Φ, x, S, e1, fun v H' φ s q _ _ => ?_⟩
  have q := q.rp S.bc (S.ch.trans s)
  split at e2
  · rename_i n hx
    rw [hx] at q
    split at e2
    · rename_i hn
      cases e2
      refine ⟨n, rp_int q, RgOk.of_le (by omega) (by omega) (by omega) hn.1, fun l hl => ?_⟩
      refine k _ _ [l] (s.trans (same_upd hl)) ?_ (fun b hb => by rw [List.mem_singleton.mp hb]; exact s.free hl) (by simp)
      rw [rgV_eq, rgD_eq]
      exact ow_new hl (rpL_ints _) (puL_ints _)
    · cases e2
  · cases e2
theorem intL_eq : ∀ {ds : List D} {ns : List Int}, intL ds = some ns → ds = ns.map D.int
  | [], _, h => by cases h; rfl
  | .int i :: ds, _, h => by
    unfold intL at h
    cases q : intL ds with
    | none => rw [q] at h; cases h
    | some ms =>
      rw [q] at h; cases h
      rw [intL_eq q]; rfl
  | .bl i :: _, _, h => by cases h
  | .non :: _, _, h => by cases h
  | .str _ :: _, _, h => by cases h
  | .tup _ :: _, _, h => by cases h
  | .lst _ :: _, _, h => by cases h
  | .scr _ :: _, _, h => by cases h
theorem intL_map : ∀ ns : List Int, intL (ns.map D.int) = some ns
  | [] => rfl
  | i :: ns => by show (intL (ns.map D.int)).map (i :: ·) = _; rw [intL_map ns]; rfl
theorem rpL_ints_eq {K : PySem.W.Frag} {H : Hp} : ∀ {ns : List Int} {xs : List V}, RpL K H (ns.map D.int) xs → xs = ns.map V.int
  | [], _, h => by unfold RpL at h; exact h
  | n :: ns, _, h => by
    rw [List.map_cons] at h
    unfold RpL at h
    obtain ⟨x, ys, rfl, q, r⟩ := h
    rw [rp_int q, rpL_ints_eq r]; rfl
/-- in rising order -/
def sortI (ns : List Int) : List Int := ns.mergeSort fun a b => decide (a ≤ b)
theorem sortI_perm (ns : List Int) : (sortI ns).Perm ns := List.mergeSort_perm ns _
theorem sortI_rise (ns : List Int) : (sortI ns).Pairwise (· ≤ ·) := by
  have := List.pairwise_mergeSort (le := fun a b : Int => decide (a ≤ b)) (fun a b c h1 h2 => by simp at *; omega) (fun a b => by simp; omega) ns
  exact this.imp fun h => by simpa using h
theorem sortI_uniq {ns ms : List Int} (h : ms.Perm ns) (k : ms.Pairwise (· ≤ ·)) : ms = sortI ns :=
  List.Perm.eq_of_pairwise (fun a b _ _ h1 h2 => Int.le_antisymm h1 h2) k (sortI_rise ns) (h.trans (sortI_perm ns).symm)
def oSorted : List R → Option R := one fun r => match r.d with
  | .lst ds => (intL ds).map fun ns => .own (.lst ((sortI ns).map .int))
  | .scr ns => some (.own (.lst ((sortI ns).map .int)))
  | _ => none
theorem cd_sorted : CallD X (.builtin "sorted") oSorted := by
  refine ⟨_, cr_sortedI, fun B C H vs φ Q rs c bc ch q n e k => ?_⟩
  obtain ⟨r, er, e1⟩ := one_some e
  clear e
  subst er
  obtain ⟨v, ev, q1⟩ := q.one
  clear q
  subst ev
  have e := e1
  have q := q1
  clear e1 q1
  have q := q.rp bc ch
  split at e
  · rename_i ds hx
    rw [hx] at q
    obtain ⟨ns, e1, rfl⟩ := map_some e
    rw [intL_eq e1] at q
    unfold Rp at q
    obtain ⟨a, xs, rfl, ha, r⟩ := q
    rw [rpL_ints_eq r] at ha
    refine ⟨a, ns, rfl, SqL.of ha, fun ns' p h1 h2 hp => ?_⟩
    rw [sortI_uniq h1 h2]
    exact k _ _ [p] (same_upd hp) (ow_new hp (rpL_ints _) (puL_ints _)) (fun b hb => by rw [List.mem_singleton.mp hb]; exact .inl hp) (by simp)
  · rename_i ns hx
    rw [hx] at q
    cases e
    unfold Rp at q
    obtain ⟨a, rfl, ha⟩ := q
    refine ⟨a, ns, rfl, ha, fun ns' p h1 h2 hp => ?_⟩
    rw [sortI_uniq h1 h2]
    exact k _ _ [p] (same_upd hp) (ow_new hp (rpL_ints _) (puL_ints _)) (fun b hb => by rw [List.mem_singleton.mp hb]; exact .inl hp) (by simp)
  · cases e
end
end DL

set_option Elab.async false
set_option linter.all false
set_option maxRecDepth 100000
set_option maxHeartbeats 4000000
/-! M0: evaluating over plain data. -/
namespace DL
open PySem PySem.Spec PyProof.Rows L2
section
variable {δ : DSt} {g ga gb gc : G} {gs : GA} {i : Nat}
@[simp] theorem ev_var : gVar i δ = (δ.getD i .no).rd := (rfl)
@[simp] theorem ev_c {d : D} : gC d δ = some (.val d) := (rfl)
@[simp] theorem ev_op {p : D → D → Option R} : gOp p ga gb δ = (ga δ).bind fun x => (gb δ).bind fun y => p x.d y.d := (rfl)
@[simp] theorem ev_T : gT g δ = (g δ).bind asB := (rfl)
@[simp] theorem asB_bl {k : Bool} : asB (.val (.bl k)) = some k := (rfl)
@[simp] theorem ev_chain {p q : D → D → Option R} : gChain p q ga gb gc δ = (ga δ).bind fun x => (gb δ).bind fun y => (p x.d y.d).bind fun r => (asB r).bind fun k => if k = true then (gc δ).bind fun z => q y.d z.d else some (.val (.bl false)) := (rfl)
@[simp] theorem ev_tru : gTru g δ = (g δ).bind fun r => tru r.d := (rfl)
@[simp] theorem ev_notT {g : GT} : gNotT g δ = (g δ).map (!·) := (rfl)
@[simp] theorem ev_andT {g1 g2 : GT} : gAndT g1 g2 δ = (g1 δ).bind fun k => if k = true then g2 δ else some false := (rfl)
@[simp] theorem ev_orT {g1 g2 : GT} : gOrT g1 g2 δ = (g1 δ).bind fun k => if k = true then some true else g2 δ := (rfl)
@[simp] theorem ev_and : gAnd ga gb δ = (ga δ).bind fun x => (tru x.d).bind fun k => if k = true then gb δ else some x := (rfl)
@[simp] theorem ev_or : gOr ga gb δ = (ga δ).bind fun x => (tru x.d).bind fun k => if k = true then some x else gb δ := (rfl)
@[simp] theorem ev_not : gNot g δ = (g δ).bind fun x => (tru x.d).bind fun k => some (.val (.bl (!k))) := (rfl)
@[simp] theorem ev_ifE {c : GT} : gIfE c ga gb δ = (c δ).bind fun k => if k = true then ga δ else gb δ := (rfl)
@[simp] theorem ev_neg : gNeg g δ = (g δ).bind fun r => match r.d with | .int i => some (.val (.int (-i))) | _ => none := (rfl)
@[simp] theorem ev_ix : gIx ga gb δ = (ga δ).bind fun x => (gb δ).bind fun y => ixR x y.d := (rfl)
@[simp] theorem ev_P : gP g δ = (g δ).bind fun r => match r.d with | .int i => some (some i) | _ => none := (rfl)
@[simp] theorem ev_noP : gNoP δ = some none := (rfl)
@[simp] theorem ev_sl {gl gh : GO} : gSl g gl gh δ = (g δ).bind fun x => (gl δ).bind fun l => (gh δ).bind fun u => slD x.d l u := (rfl)
@[simp] theorem ev_nil : gNil δ = some [] := (rfl)
@[simp] theorem ev_cons : gCons g gs δ = (g δ).bind fun x => (gs δ).bind fun xs => some (x :: xs) := (rfl)
@[simp] theorem ev_tup : gTup gs δ = (gs δ).bind mkTup := (rfl)
@[simp] theorem ev_lst : gLst gs δ = (gs δ).bind mkLst := (rfl)
@[simp] theorem ev_CB {op : List R → Option R} : gCB op gs δ = (gs δ).bind op := (rfl)
@[simp] theorem ev_isi {T : Ty} : gIsi T g δ = (g δ).map fun r => .val (.bl (isa T r.d)) := (rfl)
@[simp] theorem ev_call {n : Nat} {F : List D → Option R} : gCall n F gs δ = (gs δ).bind fun rs => if rs.length = n then (F (rs.map R.d)).map R.back else none := (rfl)
@[simp] theorem ev_yes : gYes δ = some true := (rfl)
theorem ev_lc {vs : List Nat} {gi : GI} {gt : GTg} {gc : GT} {ge : G} : gLc vs gi gt gc ge δ = (gi δ).bind fun p => if p.2.length ≤ sizeLine then (lcL vs p.1 gt gc ge δ p.2).map fun ds => .own (.lst ds) else none := (rfl)
@[simp] theorem ev_seq : gSeq g δ = (g δ).bind fun r => (itemsOf r.d).map fun ds => (r.kd, ds.map SI.one) := (rfl)
@[simp] theorem ev_enum : gEnum g δ = (g δ).bind fun r => (itemsOf r.d).map fun ds => (r.kd, enumFrom 0 ds) := (rfl)
@[simp] theorem ev_rng1 : gRng1 g δ = (g δ).bind fun r => match r.d with | .int b => if small62 b = true then some (.val, rangeL 0 b.toNat) else none | _ => none := (rfl)
@[simp] theorem ev_rng2 {h : G} : gRng2 g h δ = (g δ).bind fun r => (h δ).bind fun s => match r.d, s.d with | .int a, .int b => if small62 a = true ∧ small62 b = true then some (.val, rangeL a (b - a).toNat) else none | _, _ => none := (rfl)
-- statements
variable {g1 g2 : GS}
@[simp] theorem ev_nop : gNop δ = some (.nx δ) := (rfl)
@[simp] theorem ev_brk : gBrk δ = some (.bk δ) := (rfl)
@[simp] theorem ev_cnt : gCnt δ = some (.ct δ) := (rfl)
/-- what follows a statement -/
def seqK (o : Option O) (g : GS) : Option O := match o with
  | some (.nx δ) => g δ
  | o => o
@[simp] theorem seqK_nx {g : GS} : seqK (some (.nx δ)) g = g δ := (rfl)
@[simp] theorem seqK_rt {g : GS} {r : R} : seqK (some (.rt r)) g = some (.rt r) := (rfl)
@[simp] theorem seqK_bk {g : GS} : seqK (some (.bk δ)) g = some (.bk δ) := (rfl)
@[simp] theorem seqK_ct {g : GS} : seqK (some (.ct δ)) g = some (.ct δ) := (rfl)
@[simp] theorem ev_seq2 : gSeq2 g1 g2 δ = seqK (g1 δ) g2 := by
  unfold gSeq2 seqK
  cases g1 δ with
  | none => rfl
  | some o => cases o <;> rfl
/-- a branch -/
def ifK (c : Option Bool) (g1 g2 : GS) (δ : DSt) : Option O := c.bind fun k => if k = true then g1 δ else g2 δ
@[simp] theorem ifK_t : ifK (some true) g1 g2 δ = g1 δ := (rfl)
@[simp] theorem ifK_f : ifK (some false) g1 g2 δ = g2 δ := (rfl)
theorem ifK_some {b : Bool} : ifK (some b) g1 g2 δ = if b = true then g1 δ else g2 δ := by cases b <;> rfl
@[simp] theorem ev_set : gSet i g δ = (g δ).bind fun r => (store i r δ).map .nx := (rfl)
@[simp] theorem ev_asg {gt : GTg} : gAsg g gt δ = (g δ).bind fun r => (gt (.one r) δ).map .nx := (rfl)
@[simp] theorem ev_aug {p : D → D → Option R} : gAug i p g δ = ((δ.getD i .no).rd).bind fun x => (g δ).bind fun y => (p x.d y.d).bind fun r => (store i r δ).map .nx := (rfl)
@[simp] theorem ev_ret : gRet g δ = (g δ).map .rt := (rfl)
@[simp] theorem ev_retN : gRetN δ = some (.rt (.val .non)) := (rfl)
def retVK (s : Sl) : Option O := match s with
  | .own d => some (.rt (.own d))
  | s => s.rd.map .rt
@[simp] theorem retVK_own {d : D} : retVK (.own d) = some (.rt (.own d)) := (rfl)
@[simp] theorem retVK_val {d : D} : retVK (.val d) = some (.rt (.val d)) := (rfl)
@[simp] theorem retVK_par {d : D} : retVK (.par d) = some (.rt (.par d)) := (rfl)
@[simp] theorem ev_retV : gRetV i δ = retVK (δ.getD i .no) := by
  unfold gRetV retVK
  cases δ.getD i .no <;> rfl
@[simp] theorem ev_if {c : GT} : gIf c g1 g2 δ = ifK (c δ) g1 g2 δ := (rfl)
/-- an append -/
def appK (i : Nat) (δ : DSt) (s : Sl) (r : R) : Option O := match s with
  | .own (.lst ds) => if ds.length < sizeLine ∧ r.okEl = true then some (.nx (purge (δ.set i (.own (.lst (ds ++ [r.d])))))) else none
  | _ => none
@[simp] theorem ev_app : gApp i g δ = (g δ).bind fun r => appK i δ (δ.getD i .no) r := by
  unfold gApp appK
  rfl
theorem appK_own {ds : List D} {r : R} (h : ds.length < sizeLine) (h2 : r.okEl = true) : appK i δ (.own (.lst ds)) r = some (.nx (purge (δ.set i (.own (.lst (ds ++ [r.d])))))) := by
  show (if ds.length < sizeLine ∧ r.okEl = true then _ else _) = _
  rw [if_pos ⟨h, h2⟩]
@[simp] theorem okEl_val {d : D} : (R.val d).okEl = true := (rfl)
@[simp] theorem okEl_own {d : D} : (R.own d).okEl = true := (rfl)
@[simp] theorem ev_purge_nil : purge [] = [] := (rfl)
@[simp] theorem ev_purge_cons {s : Sl} : purge (s :: δ) = s.purge :: purge δ := (rfl)
@[simp] theorem purge_val {d : D} : (Sl.val d).purge = .val d := (rfl)
@[simp] theorem purge_own {d : D} : (Sl.own d).purge = .own d := (rfl)
@[simp] theorem purge_par {d : D} : (Sl.par d).purge = .par d := (rfl)
@[simp] theorem purge_fr {d : D} : (Sl.fr d).purge = .fr d := (rfl)
@[simp] theorem purge_lck {d : D} : (Sl.lck d).purge = .lck d := (rfl)
@[simp] theorem purge_no : Sl.no.purge = .no := (rfl)
@[simp] theorem purge_bor {d : D} : (Sl.bor d).purge = .no := (rfl)
/-- a store -/
def stK (i : Nat) (r : R) (δ : DSt) (s : Sl) : Option DSt := match s with
  | .lck _ => none
  | _ => some (δ.set i r.sl)
theorem ev_store {r : R} (h : i < δ.length) : store i r δ = stK i r δ (δ.getD i .no) := by
  unfold store stK
  refine (if_pos h).trans ?_
  cases List.getD δ i Sl.no <;> rfl
@[simp] theorem stK_no {r : R} : stK i r δ .no = some (δ.set i r.sl) := (rfl)
@[simp] theorem stK_val {r : R} {d : D} : stK i r δ (.val d) = some (δ.set i r.sl) := (rfl)
@[simp] theorem stK_par {r : R} {d : D} : stK i r δ (.par d) = some (δ.set i r.sl) := (rfl)
@[simp] theorem stK_fr {r : R} {d : D} : stK i r δ (.fr d) = some (δ.set i r.sl) := (rfl)
@[simp] theorem stK_bor {r : R} {d : D} : stK i r δ (.bor d) = some (δ.set i r.sl) := (rfl)
@[simp] theorem stK_own {r : R} {d : D} : stK i r δ (.own d) = some (δ.set i r.sl) := (rfl)
@[simp] theorem sl_val {d : D} : (R.val d).sl = .val d := (rfl)
@[simp] theorem sl_par {d : D} : (R.par d).sl = .par d := (rfl)
@[simp] theorem sl_fr {d : D} : (R.fr d).sl = .fr d := (rfl)
@[simp] theorem sl_bor {d : D} : (R.bor d).sl = .bor d := (rfl)
@[simp] theorem sl_own {d : D} : (R.own d).sl = .own d := (rfl)
/-- a def's end -/
def retK (o : Option O) : Option R := match o with
  | some (.nx _) => some (.val .non)
  | some (.rt r) => r.ret
  | _ => none
@[simp] theorem retK_nx : retK (some (.nx δ)) = some (.val .non) := (rfl)
@[simp] theorem retK_rt {r : R} : retK (some (.rt r)) = r.ret := (rfl)
theorem ev_run {n : Nat} {ds : List D} : runF n g1 ds = retK (g1 (startD n ds)) := by
  unfold runF retK
  cases g1 (startD n ds) with
  | none => rfl
  | some o => cases o <;> rfl
@[simp] theorem ev_name {r : R} : gName i (.one r) δ = store i r δ := (rfl)
@[simp] theorem ev_tupT {n : Nat} {gs : GTgs} {it : Itm} : gTupT n gs it δ = it.parts.bind fun rs => if rs.length = n then gs rs δ else none := (rfl)
@[simp] theorem ev_tgnil : gsNil [] δ = some δ := (rfl)
@[simp] theorem ev_tgcons {gt : GTg} {gs : GTgs} {r : R} {rs : List R} : gsCons gt gs (r :: rs) δ = (gt (.one r) δ).bind fun δ1 => gs rs δ1 := (rfl)
end
-- slots
@[simp] theorem rd_val {d : D} : (Sl.val d).rd = some (.val d) := (rfl)
@[simp] theorem rd_par {d : D} : (Sl.par d).rd = some (.par d) := (rfl)
@[simp] theorem rd_fr {d : D} : (Sl.fr d).rd = some (.fr d) := (rfl)
@[simp] theorem rd_bor {d : D} : (Sl.bor d).rd = some (.bor d) := (rfl)
@[simp] theorem rd_lck {d : D} : (Sl.lck d).rd = some (.fr d) := (rfl)
@[simp] theorem rd_own {d : D} : (Sl.own d).rd = some (.bor d) := (rfl)
-- words
/-- a word -/
def eW (w : List Int) : D := .tup (w.map .int)
@[simp] theorem pu_int {i : Int} : pu (.int i) = true := (rfl)
@[simp] theorem pu_bl {i : Bool} : pu (.bl i) = true := (rfl)
@[simp] theorem pu_non : pu .non = true := (rfl)
@[simp] theorem pu_tup {ds : List D} : pu (.tup ds) = puL ds := (rfl)
@[simp] theorem pu_lst {ds : List D} : pu (.lst ds) = false := (rfl)
@[simp] theorem pu_scr {ds : List Int} : pu (.scr ds) = false := (rfl)
@[simp] theorem puL_nil : puL [] = true := (rfl)
@[simp] theorem puL_cons {d : D} {ds : List D} : puL (d :: ds) = (pu d && puL ds) := (rfl)
@[simp] theorem pu_eW {w : List Int} : pu (eW w) = true := puL_ints w
theorem pdL_ints (w : List Int) : pdL (w.map .int) = w.map PyData.int := by
  induction w with
  | nil => rfl
  | cons a w ih => show PyData.int a :: pdL (w.map .int) = _; rw [ih]; rfl
theorem canLayAll_ints (w : List Int) : PyData.canLayAll0 (w.map PyData.int) = true := by
  induction w with
  | nil => rfl
  | cons a w ih => show (true && PyData.canLayAll0 (w.map PyData.int)) = true; rw [ih]; rfl
theorem depthAll_ints (w : List Int) : PyData.depthAll (w.map PyData.int) = 0 := by
  induction w with
  | nil => rfl
  | cons a w ih => show max 0 (PyData.depthAll (w.map PyData.int)) = 0; rw [ih]; rfl
@[simp] theorem eqOk_eW {w : List Int} : eqOk (eW w) = true := by
  show SeqAt.shaped (.tuple (pdL (w.map .int))) = true
  rw [pdL_ints]
  unfold SeqAt.shaped
  have h1 : PyData.canLay0 (.tuple (w.map PyData.int)) = true := canLayAll_ints w
  have h2 : PyData.depth (.tuple (w.map PyData.int)) = 1 := by show PyData.depthAll (w.map PyData.int) + 1 = 1; rw [depthAll_ints]
  rw [h1, h2]; rfl
@[simp] theorem eqOk_int {i : Int} : eqOk (.int i) = true := (rfl)
@[simp] theorem eqOk_non : eqOk .non = true := (rfl)
@[simp] theorem eqOk_bl {b : Bool} : eqOk (.bl b) = true := (rfl)
theorem eqvAll_ints (w p : List Int) : PyData.eqvAll (w.map PyData.int) (p.map PyData.int) = decide (w = p) := by
  induction w generalizing p with
  | nil => cases p <;> rfl
  | cons a w ih =>
    cases p with
    | nil => rfl
    | cons b p =>
      show ((a == b) && PyData.eqvAll (w.map PyData.int) (p.map PyData.int)) = _
      rw [ih]
      by_cases h : a = b <;> by_cases h2 : w = p <;> simp [h, h2]
@[simp] theorem eqB_eW {w p : List Int} : eqB (eW w) (eW p) = decide (w = p) := by
  show PyData.eqvAll (pdL (w.map .int)) (pdL (p.map .int)) = _
  rw [pdL_ints, pdL_ints, eqvAll_ints]
@[simp] theorem eqB_int {i j : Int} : eqB (.int i) (.int j) = decide (i = j) := by
  show (i == j) = _
  exact Bool.beq_eq_decide_eq ..
theorem cutL_map {α β : Type} (f : α → β) (xs : List α) (lo hi : Option Int) : cutL (xs.map f) lo hi = (cutL xs lo hi).map f := by
  unfold cutL
  rw [List.length_map, List.map_take, List.map_drop]
@[simp] theorem slD_eW {w : List Int} {lo hi : Option Int} : slD (eW w) lo hi = some (.val (eW (cutL w lo hi))) := by
  show (if puL (w.map .int) = true then some (R.val (.tup (cutL (w.map .int) lo hi))) else none) = _
  rw [if_pos (puL_ints w), cutL_map]; rfl
@[simp] theorem oLen_eW {w : List Int} : oLen [.val (eW w)] = some (.val (.int w.length)) := by
  show some (R.val (.int ((w.map D.int).length : Nat))) = _
  rw [List.length_map]
@[simp] theorem addD_int {i j : Int} : addD (.int i) (.int j) = some (.val (.int (i + j))) := (rfl)
@[simp] theorem subD_int {i j : Int} : subD (.int i) (.int j) = some (.val (.int (i - j))) := (rfl)
@[simp] theorem leD_int {i j : Int} : leD (.int i) (.int j) = some (.val (.bl (decide (i ≤ j)))) := (rfl)
@[simp] theorem ltD_int {i j : Int} : ltD (.int i) (.int j) = some (.val (.bl (decide (i < j)))) := (rfl)
@[simp] theorem gtD_int {i j : Int} : gtD (.int i) (.int j) = some (.val (.bl (decide (j < i)))) := (rfl)
@[simp] theorem geD_int {i j : Int} : geD (.int i) (.int j) = some (.val (.bl (decide (j ≤ i)))) := (rfl)
@[simp] theorem eqD_eW {w p : List Int} : eqD (eW w) (eW p) = some (.val (.bl (decide (w = p)))) := by unfold eqD; simp
@[simp] theorem neD_eW {w p : List Int} : neD (eW w) (eW p) = some (.val (.bl (!decide (w = p)))) := by unfold neD; simp
@[simp] theorem eqD_int {w p : Int} : eqD (.int w) (.int p) = some (.val (.bl (decide (w = p)))) := by unfold eqD; simp
@[simp] theorem neD_int {w p : Int} : neD (.int w) (.int p) = some (.val (.bl (!decide (w = p)))) := by unfold neD; simp
@[simp] theorem tru_bl {b : Bool} : tru (.bl b) = some b := (rfl)
@[simp] theorem tru_int {b : Int} : tru (.int b) = some (b != 0) := (rfl)
@[simp] theorem tru_non : tru .non = some false := (rfl)
@[simp] theorem argS_eW {w : List Int} : argS (eW w) = .val (eW w) := by unfold argS; simp
@[simp] theorem argS_int {i : Int} : argS (.int i) = .val (.int i) := (rfl)
@[simp] theorem argS_non : argS .non = .val .non := (rfl)
@[simp] theorem argS_bl {i : Bool} : argS (.bl i) = .val (.bl i) := (rfl)
@[simp] theorem argS_lst {ds : List D} : argS (.lst ds) = .par (.lst ds) := (rfl)
@[simp] theorem argS_scr {ds : List Int} : argS (.scr ds) = .par (.scr ds) := (rfl)
@[simp] theorem ret_val {d : D} : (R.val d).ret = some (.val d) := (rfl)
@[simp] theorem ret_own {d : D} : (R.own d).ret = some (.own d) := (rfl)
@[simp] theorem back_val {d : D} : (R.val d).back = .val d := (rfl)
@[simp] theorem back_own {d : D} : (R.own d).back = .own d := (rfl)
end DL

set_option Elab.async false
set_option linter.all false
set_option maxRecDepth 100000
set_option maxHeartbeats 4000000
/-! M1: arithmetic, rows, loops over plain data. -/
namespace DL
open PySem PySem.Spec PyProof.Rows L2
@[simp] theorem modD_int {i j : Int} (h : 0 < j) : modD (.int i) (.int j) = some (.val (.int (i % j))) := by
  show (if 0 < j then some (D.int (i % j)) else none).map R.val = _
  rw [if_pos h]; rfl
@[simp] theorem fdivD_int {i j : Int} (h : 0 < j) (h1 : j < 1073741824) : fdivD (.int i) (.int j) = some (.val (.int (i / j))) := by
  show (if 0 < j ∧ j < 1073741824 then some (D.int (i / j)) else none).map R.val = _
  rw [if_pos ⟨h, h1⟩]; rfl
theorem mulD_l {i j : Int} (h : -18446744073709551616 < i) (h1 : i < 18446744073709551616) : mulD (.int i) (.int j) = some (.val (.int (i * j))) := by
  show (if (-(2 ^ 64) < i ∧ i < 2 ^ 64) ∨ (-(2 ^ 64) < j ∧ j < 2 ^ 64) then some (D.int (i * j)) else none).map R.val = _
  rw [if_pos (.inl ⟨by omega, by omega⟩)]; rfl
theorem mulD_r {i j : Int} (h : -18446744073709551616 < j) (h1 : j < 18446744073709551616) : mulD (.int i) (.int j) = some (.val (.int (i * j))) := by
  show (if (-(2 ^ 64) < i ∧ i < 2 ^ 64) ∨ (-(2 ^ 64) < j ∧ j < 2 ^ 64) then some (D.int (i * j)) else none).map R.val = _
  rw [if_pos (.inr ⟨by omega, by omega⟩)]; rfl
@[simp] theorem pow_10_18 : powD (.int 10) (.int 18) = some (.val (.int 1000000000000000000)) := by
  have h : powD (.int 10) (.int 18) = some (.val (.int (10 ^ 18))) := rfl
  rw [h, show (10 : Int) ^ 18 = 1000000000000000000 by omega]
@[simp] theorem oInt_val {i : Int} : oInt [.val (.int i)] = some (.val (.int i)) := (rfl)
/-- a list of ints -/
def eL (r : List Int) : D := .lst (r.map .int)
@[simp] theorem pu_eL {r : List Int} : pu (eL r) = false := (rfl)
@[simp] theorem argS_eL {r : List Int} : argS (eL r) = .par (eL r) := (rfl)
theorem atI_get? {α : Type} {xs : List α} {i : Int} (h0 : 0 ≤ i) (h1 : i < xs.length) : atI xs i = xs[i.toNat]? := by
  unfold atI ixN
  rw [if_pos h0, if_pos h1]; rfl
theorem atI_some {α : Type} {xs : List α} {i : Int} (h0 : 0 ≤ i) (h1 : i < xs.length) (d : α) : atI xs i = some (xs.getD i.toNat d) := by
  rw [atI_get? h0 h1, List.getD_eq_getElem?_getD]
  have : i.toNat < xs.length := by omega
  rw [List.getElem?_eq_getElem this]; rfl
theorem atI_ints {xs : List Int} {i : Int} (h0 : 0 ≤ i) (h1 : i < xs.length) : atI (xs.map D.int) i = some (.int (xs.getD i.toNat 0)) := atI_map (atI_some h0 h1 0)
theorem ix_par {r : List Int} {i : Int} (h0 : 0 ≤ i) (h1 : i < r.length) : ixR (.par (eL r)) (.int i) = some (.val (.int (r.getD i.toNat 0))) := by
  show (atI (r.map D.int) i).map _ = _
  rw [atI_ints h0 h1]; rfl
theorem ix_bor {r : List Int} {i : Int} (h0 : 0 ≤ i) (h1 : i < r.length) : ixR (.bor (eL r)) (.int i) = some (.val (.int (r.getD i.toNat 0))) := by
  show (atI (r.map D.int) i).map _ = _
  rw [atI_ints h0 h1]; rfl
theorem ix_fr {r : List Int} {i : Int} (h0 : 0 ≤ i) (h1 : i < r.length) : ixR (.fr (eL r)) (.int i) = some (.val (.int (r.getD i.toNat 0))) := by
  show (atI (r.map D.int) i).map _ = _
  rw [atI_ints h0 h1]; rfl
theorem ix_eW {r : List Int} {i : Int} (h0 : 0 ≤ i) (h1 : i < r.length) : ixR (.val (eW r)) (.int i) = some (.val (.int (r.getD i.toNat 0))) := by
  show (atI (r.map D.int) i).map _ = _
  rw [atI_ints h0 h1]; rfl
theorem ix_scr {r : List Int} {i : Int} (h0 : 0 ≤ i) (h1 : i < r.length) : ixR (.par (.scr r)) (.int i) = some (.val (.int (r.getD i.toNat 0))) := by
  show (atI r i).map (fun n => R.val (.int n)) = _
  rw [atI_some h0 h1 0]; rfl
@[simp] theorem oLen_scr {ns : List Int} : oLen [.par (.scr ns)] = some (.val (.int ns.length)) := (rfl)
theorem oLen_par {ds : List D} : oLen [.par (.lst ds)] = some (.val (.int ds.length)) := (rfl)
theorem oLen_bor {ds : List D} : oLen [.bor (.lst ds)] = some (.val (.int ds.length)) := (rfl)
theorem oLen_fr {ds : List D} : oLen [.fr (.lst ds)] = some (.val (.int ds.length)) := (rfl)
theorem oLen_tup {ds : List D} : oLen [.val (.tup ds)] = some (.val (.int ds.length)) := (rfl)
@[simp] theorem oLen_eLp {r : List Int} : oLen [.par (eL r)] = some (.val (.int r.length)) := by
  show some (R.val (.int ((r.map D.int).length : Nat))) = _
  rw [List.length_map]
@[simp] theorem oLen_eLb {r : List Int} : oLen [.bor (eL r)] = some (.val (.int r.length)) := by
  show some (R.val (.int ((r.map D.int).length : Nat))) = _
  rw [List.length_map]
-- ranges
theorem rangeL_eq (n : Nat) (a : Int) : rangeL a n = (List.range n).map fun k : Nat => SI.one (.int (a + k)) := by
  apply List.ext_getElem?
  intro i
  rw [rangeL_get, List.getElem?_map]
  by_cases h : i < n
  · rw [if_pos h, List.getElem?_eq_getElem (by simpa using h), List.getElem_range]; rfl
  · rw [if_neg h, List.getElem?_eq_none (by simpa using h)]; rfl
theorem rangeL_zero (n : Nat) : rangeL 0 n = (List.range n).map fun k : Nat => SI.one (.int k) := by
  rw [rangeL_eq]
  simp
theorem small62_of {i : Int} (h : -1000000000000 ≤ i) (h1 : i ≤ 1000000000000) : small62 i = true := by
  unfold small62
  exact decide_eq_true ⟨by omega, by omega⟩
/-- a comprehension whose items are all made -/
theorem lcL_map {vs : List Nat} {kd : Kd} {gt : GTg} {gc : GT} {ge : G} {δ : DSt} (f : SI → D) : ∀ {its : List SI}, (∀ it ∈ its, ∃ δ1, gt (kd.itm it) (wipeD δ vs) = some δ1 ∧ gc δ1 = some true ∧ ∃ r, ge δ1 = some r ∧ r.okEl = true ∧ r.d = f it) → lcL vs kd gt gc ge δ its = some (its.map f)
  | [], _ => rfl
  | it :: its, h => by
    obtain ⟨δ1, h1, h2, r, h3, h4, h5⟩ := h it List.mem_cons_self
    have ih := lcL_map (vs := vs) (kd := kd) (gt := gt) (gc := gc) (ge := ge) (δ := δ) f (its := its) fun x hx => h x (List.mem_cons_of_mem _ hx)
    unfold lcL
    rw [h1]
    simp only [Option.bind_some]
    rw [h2]
    simp only [Option.bind_some, if_true]
    rw [h3]
    simp only [Option.bind_some]
    rw [if_pos h4, ih, h5]
    rfl
/-- .. with a test -/
theorem lcL_filter {vs : List Nat} {kd : Kd} {gt : GTg} {gc : GT} {ge : G} {δ : DSt} (p : SI → Bool) (f : SI → D) : ∀ {its : List SI}, (∀ it ∈ its, ∃ δ1, gt (kd.itm it) (wipeD δ vs) = some δ1 ∧ gc δ1 = some (p it) ∧ (p it = true → ∃ r, ge δ1 = some r ∧ r.okEl = true ∧ r.d = f it)) → lcL vs kd gt gc ge δ its = some ((its.filter p).map f)
  | [], _ => rfl
  | it :: its, h => by
    obtain ⟨δ1, h1, h2, h3⟩ := h it List.mem_cons_self
    have ih := lcL_filter (vs := vs) (kd := kd) (gt := gt) (gc := gc) (ge := ge) (δ := δ) p f (its := its) fun x hx => h x (List.mem_cons_of_mem _ hx)
    unfold lcL
    rw [h1]
    simp only [Option.bind_some]
    rw [h2]
    simp only [Option.bind_some]
    cases hp : p it with
    | true =>
      obtain ⟨r, h4, h5, h6⟩ := h3 hp
      rw [if_pos rfl, h4]
      simp only [Option.bind_some]
      rw [if_pos h5, ih, h6, List.filter_cons_of_pos hp]
      rfl
    | false =>
      rw [if_neg (by decide), ih, List.filter_cons_of_neg (by rw [hp]; decide)]
/-- a loop by its invariant; it may be left -/
theorem forL_ex {kd : Kd} {gt : GTg} {gb : GS} (P : Nat → DSt → Prop) (Qb : DSt → Prop) (Q : R → Prop) : ∀ (its : List SI) (n : Nat) (δ : DSt), P n δ → (∀ i it δ, its[i]? = some it → P (n + i) δ → ∃ δ1, gt (kd.itmF it) δ = some δ1 ∧ ∃ o, gb δ1 = some o ∧ (match o with | .nx δ2 => P (n + i + 1) δ2 | .ct δ2 => P (n + i + 1) δ2 | .bk δ2 => Qb δ2 | .rt r => Q r)) →
    ∃ o, forL kd gt gb its δ = some o ∧ ((∃ δ', o = .nx δ' ∧ (P (n + its.length) δ' ∨ Qb δ')) ∨ ∃ r, o = .rt r ∧ Q r)
  | [], n, δ, h, _ => ⟨_, rfl, .inl ⟨δ, rfl, .inl h⟩⟩
  | it :: its, n, δ, h, hs => by
    obtain ⟨δ1, h1, o, h2, h3⟩ := hs 0 it δ rfl h
    have step : ∀ δ2, P (n + 1) δ2 → ∃ o, forL kd gt gb its δ2 = some o ∧ ((∃ δ', o = .nx δ' ∧ (P (n + (it :: its).length) δ' ∨ Qb δ')) ∨ ∃ r, o = .rt r ∧ Q r) := fun δ2 p => by
      have := forL_ex P Qb Q its (n + 1) δ2 p fun i jt δ3 hi p3 => by
        have q := hs (i + 1) jt δ3 (by simpa using hi) (by rw [show n + (i + 1) = n + 1 + i by omega]; exact p3)
        rw [show n + (i + 1) + 1 = n + 1 + i + 1 by omega] at q
        exact q
      rw [show n + (it :: its).length = n + 1 + its.length by simp; omega]
      exact this
    unfold forL
    rw [h1]
    simp only [Option.bind_some]
    rw [h2]
    simp only [Option.bind_some]
    cases o with
    | nx δ2 => exact step δ2 h3
    | ct δ2 => exact step δ2 h3
    | bk δ2 => exact ⟨_, rfl, .inl ⟨δ2, rfl, .inr h3⟩⟩
    | rt r => exact ⟨_, rfl, .inr ⟨r, rfl, h3⟩⟩
/-- a loop by its invariant, gone through to its end -/
theorem forL_inv {kd : Kd} {gt : GTg} {gb : GS} (P : Nat → DSt → Prop) {its : List SI} {δ : DSt} (h0 : P 0 δ) (hs : ∀ i it δ, its[i]? = some it → P i δ → ∃ δ1, gt (kd.itmF it) δ = some δ1 ∧ ∃ δ2, gb δ1 = some (.nx δ2) ∧ P (i + 1) δ2) :
    ∃ δ', forL kd gt gb its δ = some (.nx δ') ∧ P its.length δ' := by
  obtain ⟨o, h1, h2⟩ := forL_ex (kd := kd) (gt := gt) (gb := gb) P (fun _ => False) (fun _ => False) its 0 δ h0 fun i it δ hi p => by
    rw [Nat.zero_add] at p
    obtain ⟨δ1, e1, δ2, e2, p2⟩ := hs i it δ hi p
    exact ⟨δ1, e1, _, e2, by rw [Nat.zero_add]; exact p2⟩
  rcases h2 with ⟨δ', rfl, h3 | h3⟩ | ⟨r, _, h3⟩
  · rw [Nat.zero_add] at h3; exact ⟨δ', h1, h3⟩
  · exact h3.elim
  · exact h3.elim

/-- a slot that may be stored -/
def NL (v : Sl) : Prop := ∀ d, v ≠ .lck d
theorem nl_no : NL .no := fun _ h => by cases h
theorem nl_val {d : D} : NL (.val d) := fun _ h => by cases h
theorem nl_own {d : D} : NL (.own d) := fun _ h => by cases h
theorem nl_fr {d : D} : NL (.fr d) := fun _ h => by cases h
theorem nl_par {d : D} : NL (.par d) := fun _ h => by cases h
theorem nl_bor {d : D} : NL (.bor d) := fun _ h => by cases h
theorem NL.unfr {v : Sl} (h : NL v) : NL v.unfr := by
  cases v <;> first | exact h | exact nl_bor
theorem NL.purge {v : Sl} (h : NL v) : NL v.purge := by
  cases v <;> first | exact h | exact nl_no
theorem stK_nl {i : Nat} {r : R} {δ : DSt} {v : Sl} (h : NL v) : stK i r δ v = some (δ.set i r.sl) := by
  cases v <;> first | rfl | exact absurd rfl (h _)
@[simp] theorem lockAll_nil {δ : DSt} : lockAll [] δ = δ := by
  unfold lockAll
  apply List.ext_getElem?
  intro i
  rw [List.getElem?_mapIdx]
  cases δ[i]? <;> rfl
@[simp] theorem unlockAll_nil {δ0 δ : DSt} : unlockAll [] δ0 δ = δ.map Sl.unfr := by
  unfold unlockAll
  apply List.ext_getElem?
  intro i
  rw [List.getElem?_mapIdx, List.getElem?_map]
  cases δ[i]? <;> rfl
@[simp] theorem unfr_val {d : D} : (Sl.val d).unfr = .val d := (rfl)
@[simp] theorem unfr_par {d : D} : (Sl.par d).unfr = .par d := (rfl)
@[simp] theorem unfr_own {d : D} : (Sl.own d).unfr = .own d := (rfl)
@[simp] theorem unfr_lck {d : D} : (Sl.lck d).unfr = .lck d := (rfl)
@[simp] theorem unfr_bor {d : D} : (Sl.bor d).unfr = .bor d := (rfl)
@[simp] theorem unfr_fr {d : D} : (Sl.fr d).unfr = .bor d := (rfl)
@[simp] theorem unfr_no : Sl.no.unfr = .no := (rfl)
@[simp] theorem lock_own {d : D} : (Sl.own d).lock = .lck d := (rfl)
@[simp] theorem lock_val {d : D} : (Sl.val d).lock = .val d := (rfl)
@[simp] theorem lock_par {d : D} : (Sl.par d).lock = .par d := (rfl)
@[simp] theorem unlock_lck {d : D} : (Sl.lck d).unlock = .own d := (rfl)
@[simp] theorem isOwn_own {d : D} : (Sl.own d).isOwn = true := (rfl)
@[simp] theorem isOwn_val {d : D} : (Sl.val d).isOwn = false := (rfl)
@[simp] theorem isOwn_par {d : D} : (Sl.par d).isOwn = false := (rfl)
@[simp] theorem isOwn_lck {d : D} : (Sl.lck d).isOwn = false := (rfl)
@[simp] theorem isOwn_bor {d : D} : (Sl.bor d).isOwn = false := (rfl)
@[simp] theorem isOwn_fr {d : D} : (Sl.fr d).isOwn = false := (rfl)
@[simp] theorem isOwn_no : Sl.no.isOwn = false := (rfl)
@[simp] theorem runfr_val {d : D} : (R.val d).unfr = .val d := (rfl)
@[simp] theorem runfr_own {d : D} : (R.own d).unfr = .own d := (rfl)
theorem forK {lks : List Nat} {gi : GI} {gt : GTg} {gb : GS} {δ : DSt} {kd : Kd} {its : List SI} (h1 : gi (lockAll lks δ) = some (kd, its)) (hk : kd.ok = true) : gFor lks gi gt gb δ = (forL kd gt gb its (lockAll lks δ)).bind fun o => (match o with
    | .nx δ2 => some (.nx (unlockAll lks δ δ2))
    | .rt r => some (.rt r.unfr)
    | _ => none) := by
  unfold gFor
  rw [h1]
  simp only [Option.bind_some]
  refine (if_pos hk).trans ?_
  cases forL kd gt gb its (lockAll lks δ) with
  | none => rfl
  | some o => cases o <;> rfl
/-- a for that goes to its end -/
theorem for_inv {lks : List Nat} {gi : GI} {gt : GTg} {gb : GS} {δ : DSt} {kd : Kd} {its : List SI} (P : Nat → DSt → Prop) (h1 : gi (lockAll lks δ) = some (kd, its)) (hk : kd.ok = true) (h0 : P 0 (lockAll lks δ))
    (hs : ∀ i it δ, its[i]? = some it → P i δ → ∃ δ1, gt (kd.itmF it) δ = some δ1 ∧ ∃ δ2, gb δ1 = some (.nx δ2) ∧ P (i + 1) δ2) : ∃ δ2, gFor lks gi gt gb δ = some (.nx (unlockAll lks δ δ2)) ∧ P its.length δ2 := by
  obtain ⟨δ2, h2, h3⟩ := forL_inv (kd := kd) (gt := gt) (gb := gb) P h0 hs
  exact ⟨δ2, by rw [forK h1 hk, h2]; rfl, h3⟩
/-- a for that may be left -/
theorem for_ex {lks : List Nat} {gi : GI} {gt : GTg} {gb : GS} {δ : DSt} {kd : Kd} {its : List SI} (P : Nat → DSt → Prop) (Qb : DSt → Prop) (Q : R → Prop) (h1 : gi (lockAll lks δ) = some (kd, its)) (hk : kd.ok = true) (h0 : P 0 (lockAll lks δ))
    (hs : ∀ i it δ, its[i]? = some it → P i δ → ∃ δ1, gt (kd.itmF it) δ = some δ1 ∧ ∃ o, gb δ1 = some o ∧ (match o with | .nx δ2 => P (i + 1) δ2 | .ct δ2 => P (i + 1) δ2 | .bk δ2 => Qb δ2 | .rt r => Q r)) :
    (∃ δ2, gFor lks gi gt gb δ = some (.nx (unlockAll lks δ δ2)) ∧ (P its.length δ2 ∨ Qb δ2)) ∨ ∃ r, gFor lks gi gt gb δ = some (.rt r.unfr) ∧ Q r := by
  obtain ⟨o, h2, h3⟩ := forL_ex (kd := kd) (gt := gt) (gb := gb) P Qb Q its 0 _ h0 (fun i it δ hi p => by rw [Nat.zero_add] at p ⊢; exact hs i it δ hi p)
  rcases h3 with ⟨δ', rfl, h4⟩ | ⟨r, rfl, h4⟩
  · rw [Nat.zero_add] at h4
    exact .inl ⟨δ', by rw [forK h1 hk, h2]; rfl, h4⟩
  · exact .inr ⟨r, by rw [forK h1 hk, h2]; rfl, h4⟩
/-- .. over a range -/
theorem for_rng {lks : List Nat} {gi : GI} {gt : GTg} {gb : GS} {δ : DSt} (n : Nat) (P : Nat → DSt → Prop) (h1 : gi (lockAll lks δ) = some (.val, rangeL 0 n)) (h0 : P 0 (lockAll lks δ))
    (hs : ∀ (i : Nat) δ, i < n → P i δ → ∃ δ1, gt (.one (.val (.int i))) δ = some δ1 ∧ ∃ δ2, gb δ1 = some (.nx δ2) ∧ P (i + 1) δ2) : ∃ δ2, gFor lks gi gt gb δ = some (.nx (unlockAll lks δ δ2)) ∧ P n δ2 := by
  obtain ⟨δ2, h2, h3⟩ := for_inv (gt := gt) (gb := gb) P h1 rfl h0 fun i it δ hi p => by
    rw [rangeL_get] at hi
    split at hi
    · rename_i hlt
      cases hi
      rw [Int.zero_add]
      exact hs i δ hlt p
    · cases hi
  rw [rangeL_length] at h3
  exact ⟨δ2, h2, h3⟩
theorem for_rng_ex {lks : List Nat} {gi : GI} {gt : GTg} {gb : GS} {δ : DSt} (n : Nat) (P : Nat → DSt → Prop) (Qb : DSt → Prop) (Q : R → Prop) (h1 : gi (lockAll lks δ) = some (.val, rangeL 0 n)) (h0 : P 0 (lockAll lks δ))
    (hs : ∀ (i : Nat) δ, i < n → P i δ → ∃ δ1, gt (.one (.val (.int i))) δ = some δ1 ∧ ∃ o, gb δ1 = some o ∧ (match o with | .nx δ2 => P (i + 1) δ2 | .ct δ2 => P (i + 1) δ2 | .bk δ2 => Qb δ2 | .rt r => Q r)) :
    (∃ δ2, gFor lks gi gt gb δ = some (.nx (unlockAll lks δ δ2)) ∧ (P n δ2 ∨ Qb δ2)) ∨ ∃ r, gFor lks gi gt gb δ = some (.rt r.unfr) ∧ Q r := by
  have := for_ex (gt := gt) (gb := gb) P Qb Q h1 rfl h0 fun i it δ hi p => by
    rw [rangeL_get] at hi
    split at hi
    · rename_i hlt
      cases hi
      rw [Int.zero_add]
      exact hs i δ hlt p
    · cases hi
  rw [rangeL_length] at this
  exact this
/-- .. over a sequence -/
theorem for_seq {lks : List Nat} {gi : GI} {gt : GTg} {gb : GS} {δ : DSt} {kd : Kd} (ds : List D) (P : Nat → DSt → Prop) (h1 : gi (lockAll lks δ) = some (kd, ds.map SI.one)) (hk : kd.ok = true) (h0 : P 0 (lockAll lks δ))
    (hs : ∀ i d δ, ds[i]? = some d → P i δ → ∃ δ1, gt (.one (kd.mkF d)) δ = some δ1 ∧ ∃ δ2, gb δ1 = some (.nx δ2) ∧ P (i + 1) δ2) : ∃ δ2, gFor lks gi gt gb δ = some (.nx (unlockAll lks δ δ2)) ∧ P ds.length δ2 := by
  obtain ⟨δ2, h2, h3⟩ := for_inv (gt := gt) (gb := gb) P h1 hk h0 fun i it δ hi p => by
    rw [List.getElem?_map] at hi
    obtain ⟨d, e1, rfl⟩ := map_some hi
    exact hs i d δ e1 p
  rw [List.length_map] at h3
  exact ⟨δ2, h2, h3⟩
theorem for_seq_ex {lks : List Nat} {gi : GI} {gt : GTg} {gb : GS} {δ : DSt} {kd : Kd} (ds : List D) (P : Nat → DSt → Prop) (Qb : DSt → Prop) (Q : R → Prop) (h1 : gi (lockAll lks δ) = some (kd, ds.map SI.one)) (hk : kd.ok = true) (h0 : P 0 (lockAll lks δ))
    (hs : ∀ i d δ, ds[i]? = some d → P i δ → ∃ δ1, gt (.one (kd.mkF d)) δ = some δ1 ∧ ∃ o, gb δ1 = some o ∧ (match o with | .nx δ2 => P (i + 1) δ2 | .ct δ2 => P (i + 1) δ2 | .bk δ2 => Qb δ2 | .rt r => Q r)) :
    (∃ δ2, gFor lks gi gt gb δ = some (.nx (unlockAll lks δ δ2)) ∧ (P ds.length δ2 ∨ Qb δ2)) ∨ ∃ r, gFor lks gi gt gb δ = some (.rt r.unfr) ∧ Q r := by
  have := for_ex (gt := gt) (gb := gb) P Qb Q h1 hk h0 fun i it δ hi p => by
    rw [List.getElem?_map] at hi
    obtain ⟨d, e1, rfl⟩ := map_some hi
    exact hs i d δ e1 p
  rw [List.length_map] at this
  exact this
/-- .. over enumerate -/
theorem for_enum {lks : List Nat} {gi : GI} {gt : GTg} {gb : GS} {δ : DSt} {kd : Kd} (ds : List D) (P : Nat → DSt → Prop) (h1 : gi (lockAll lks δ) = some (kd, enumFrom 0 ds)) (hk : kd.ok = true) (h0 : P 0 (lockAll lks δ))
    (hs : ∀ (i : Nat) d δ, ds[i]? = some d → P i δ → ∃ δ1, gt (.tup [.val (.int i), kd.mkF d]) δ = some δ1 ∧ ∃ δ2, gb δ1 = some (.nx δ2) ∧ P (i + 1) δ2) : ∃ δ2, gFor lks gi gt gb δ = some (.nx (unlockAll lks δ δ2)) ∧ P ds.length δ2 := by
  obtain ⟨δ2, h2, h3⟩ := for_inv (gt := gt) (gb := gb) P h1 hk h0 fun i it δ hi p => by
    rw [enumFrom_get, Nat.zero_add] at hi
    obtain ⟨d, e1, rfl⟩ := map_some hi
    exact hs i d δ e1 p
  rw [enumFrom_length] at h3
  exact ⟨δ2, h2, h3⟩
@[simp] theorem itm_val_int {i : Int} : Kd.val.itm (.one (.int i)) = .one (.val (.int i)) := (rfl)
/-- a comprehension over a range -/
theorem lc_rng {vs : List Nat} {gi : GI} {gt : GTg} {gc : GT} {ge : G} {δ : DSt} (n : Nat) (f : Nat → D) (h1 : gi δ = some (.val, rangeL 0 n)) (hn : n ≤ 1000000)
    (h : ∀ i : Nat, i < n → ∃ δ1, gt (.one (.val (.int i))) (wipeD δ vs) = some δ1 ∧ gc δ1 = some true ∧ ∃ r, ge δ1 = some r ∧ r.okEl = true ∧ r.d = f i) : gLc vs gi gt gc ge δ = some (.own (.lst ((List.range n).map f))) := by
  rw [ev_lc, h1]
  simp only [Option.bind_some]
  rw [if_pos (by rw [rangeL_length, sizeLine_eq]; omega), rangeL_zero]
  rw [lcL_map (fun it => match it with | .one (.int i) => f i.toNat | _ => .non)]
  · simp [Function.comp_def]
  · intro it hit
    obtain ⟨i, hi, rfl⟩ := List.mem_map.mp hit
    simpa using h i (List.mem_range.mp hi)
/-- .. with a test -/
theorem lc_rngF {vs : List Nat} {gi : GI} {gt : GTg} {gc : GT} {ge : G} {δ : DSt} (n : Nat) (p : Nat → Bool) (f : Nat → D) (h1 : gi δ = some (.val, rangeL 0 n)) (hn : n ≤ 1000000)
    (h : ∀ i : Nat, i < n → ∃ δ1, gt (.one (.val (.int i))) (wipeD δ vs) = some δ1 ∧ gc δ1 = some (p i) ∧ (p i = true → ∃ r, ge δ1 = some r ∧ r.okEl = true ∧ r.d = f i)) : gLc vs gi gt gc ge δ = some (.own (.lst (((List.range n).filter p).map f))) := by
  rw [ev_lc, h1]
  simp only [Option.bind_some]
  rw [if_pos (by rw [rangeL_length, sizeLine_eq]; omega), rangeL_zero]
  rw [lcL_filter (fun it => match it with | .one (.int i) => p i.toNat | _ => false) (fun it => match it with | .one (.int i) => f i.toNat | _ => .non)]
  · simp [Function.comp_def, List.filter_map]
  · intro it hit
    obtain ⟨i, hi, rfl⟩ := List.mem_map.mp hit
    simpa using h i (List.mem_range.mp hi)
/-- a comprehension over a sequence -/
theorem lc_seq {vs : List Nat} {gi : GI} {gt : GTg} {gc : GT} {ge : G} {δ : DSt} {kd : Kd} (ds : List D) (f : D → D) (h1 : gi δ = some (kd, ds.map SI.one)) (hn : ds.length ≤ 1000000)
    (h : ∀ d ∈ ds, ∃ δ1, gt (.one (kd.mk d)) (wipeD δ vs) = some δ1 ∧ gc δ1 = some true ∧ ∃ r, ge δ1 = some r ∧ r.okEl = true ∧ r.d = f d) : gLc vs gi gt gc ge δ = some (.own (.lst (ds.map f))) := by
  rw [ev_lc, h1]
  simp only [Option.bind_some]
  rw [if_pos (by rw [List.length_map, sizeLine_eq]; omega)]
  rw [lcL_map (fun it => match it with | .one d => f d | _ => .non)]
  · simp [Function.comp_def]
  · intro it hit
    obtain ⟨d, hd, rfl⟩ := List.mem_map.mp hit
    exact h d hd
@[simp] theorem wipeD_nil {δ : DSt} : wipeD δ [] = δ := (rfl)
@[simp] theorem wipeD_cons {δ : DSt} {v : Nat} {vs : List Nat} : wipeD δ (v :: vs) = (wipeD δ vs).set v .no := (rfl)
theorem lt_size {n : Nat} (h : n ≤ 10000000) : n < sizeLine := by rw [sizeLine_eq]; omega
theorem le_size {n : Nat} (h : n ≤ 10000000) : n ≤ sizeLine := Nat.le_of_lt (lt_size h)
theorem appL {i : Nat} {δ : DSt} {r : List Int} {m : Int} (h : r.length ≤ 10000000) : appK i δ (.own (eL r)) (.val (.int m)) = some (.nx (purge (δ.set i (.own (eL (r ++ [m])))))) := by
  unfold eL
  rw [appK_own (by rw [List.length_map]; exact lt_size h) rfl, List.map_append]
  rfl
theorem eL_nil : D.lst [] = eL [] := (rfl)
theorem mkLst_nil : mkLst [] = some (.own (.lst [])) := by
  unfold mkLst
  rw [if_pos ⟨le_size (n := 0) (by decide), rfl⟩]
  rfl
theorem rng_ofI {g : G} {δ : DSt} {i : Int} (h : g δ = some (.val (.int i))) (h0 : -1000000 ≤ i) (hn : i ≤ 1000000) : gRng1 g δ = some (.val, rangeL 0 i.toNat) := by
  have hs := small62_of (i := i) (by omega) (by omega)
  have e : ∀ b : Bool, b = true → (if b = true then some (Kd.val, rangeL 0 i.toNat) else none) = some (Kd.val, rangeL 0 i.toNat) := fun b hb => by rw [hb]; rfl
  have e2 := e _ hs
  rw [ev_rng1, h]
  exact e2
theorem rng_of {g : G} {δ : DSt} {n : Nat} (h : g δ = some (.val (.int n))) (hn : n ≤ 1000000) : gRng1 g δ = some (.val, rangeL 0 n) :=
  rng_ofI h (by omega) (by omega)
/-- a cell -/
def cell (r : List Int) (i : Int) : Int := r.getD i.toNat 0
theorem ixp {r : List Int} {i : Int} (h0 : 0 ≤ i) (h1 : i < r.length) : ixR (.par (eL r)) (.int i) = some (.val (.int (cell r i))) := ix_par h0 h1
theorem ixb {r : List Int} {i : Int} (h0 : 0 ≤ i) (h1 : i < r.length) : ixR (.bor (eL r)) (.int i) = some (.val (.int (cell r i))) := ix_bor h0 h1
theorem ixw {r : List Int} {i : Int} (h0 : 0 ≤ i) (h1 : i < r.length) : ixR (.val (eW r)) (.int i) = some (.val (.int (cell r i))) := ix_eW h0 h1
theorem ixs {r : List Int} {i : Int} (h0 : 0 ≤ i) (h1 : i < r.length) : ixR (.par (.scr r)) (.int i) = some (.val (.int (cell r i))) := ix_scr h0 h1
theorem cell_mem {r : List Int} {i : Int} (h0 : 0 ≤ i) (h1 : i < r.length) : cell r i ∈ r := by
  unfold cell
  rw [List.getD_eq_getElem?_getD, List.getElem?_eq_getElem (by omega)]
  exact List.getElem_mem _
@[simp] theorem mkTup_0 : mkTup [] = some (.val (.tup [])) := by
  unfold mkTup; rw [if_pos (show ([] : List R).length ≤ sizeLine from le_size (n := 0) (by decide))]; exact if_pos rfl
@[simp] theorem mkTup_1 {a : D} : mkTup [.val a] = some (.val (.tup [a])) := by
  unfold mkTup; rw [if_pos (show ([R.val a] : List R).length ≤ sizeLine from le_size (n := 1) (by decide))]; exact if_pos rfl
@[simp] theorem mkTup_2 {a b : D} : mkTup [.val a, .val b] = some (.val (.tup [a, b])) := by
  unfold mkTup; rw [if_pos (show ([R.val a, R.val b] : List R).length ≤ sizeLine from le_size (n := 2) (by decide))]; exact if_pos rfl
@[simp] theorem mkTup_3 {a b c : D} : mkTup [.val a, .val b, .val c] = some (.val (.tup [a, b, c])) := by
  unfold mkTup; rw [if_pos (show ([R.val a, R.val b, R.val c] : List R).length ≤ sizeLine from le_size (n := 3) (by decide))]; exact if_pos rfl
@[simp] theorem mkTup_4 {a b c d : D} : mkTup [.val a, .val b, .val c, .val d] = some (.val (.tup [a, b, c, d])) := by
  unfold mkTup; rw [if_pos (show ([R.val a, R.val b, R.val c, R.val d] : List R).length ≤ sizeLine from le_size (n := 4) (by decide))]; exact if_pos rfl
theorem oTuple_p {ds : List D} (h : puL ds = true) : oTuple [.own (.lst ds)] = some (.val (.tup ds)) := by
  show some (if puL ds = true then R.val (.tup ds) else R.own (.tup ds)) = _
  rw [if_pos h]
@[simp] theorem oTuple_eL {r : List Int} : oTuple [.own (eL r)] = some (.val (eW r)) := oTuple_p (puL_ints r)
theorem puL_map {α : Type} {f : α → D} (h : ∀ a, pu (f a) = true) : ∀ as : List α, puL (as.map f) = true
  | [] => rfl
  | a :: as => by rw [List.map_cons, puL_cons, h a, puL_map h as]; rfl
theorem puL_app : ∀ {ds es : List D}, puL ds = true → puL es = true → puL (ds ++ es) = true
  | [], _, _, h => h
  | d :: ds, es, h, k => by
    rw [puL_cons] at h
    rw [List.cons_append, puL_cons]
    have := Bool.and_eq_true_iff.mp h
    rw [this.1, puL_app this.2 k]; rfl
theorem pu_mem : ∀ {ds : List D}, puL ds = true → ∀ d ∈ ds, pu d = true
  | d :: ds, h, e, he => by
    rw [puL_cons] at h
    have := Bool.and_eq_true_iff.mp h
    rcases List.mem_cons.mp he with rfl | he
    · exact this.1
    · exact pu_mem this.2 e he
theorem puL_all : ∀ {ds : List D}, (∀ d ∈ ds, pu d = true) → puL ds = true
  | [], _ => rfl
  | d :: ds, h => by rw [puL_cons, h d List.mem_cons_self, puL_all fun e he => h e (List.mem_cons_of_mem _ he)]; rfl
/-- a tuple's item -/
theorem ix_map {α : Type} {as : List α} {f : α → D} (a0 : α) {j : Nat} (hp : ∀ a, pu (f a) = true) (h : j < as.length) : ixR (.val (.tup (as.map f))) (.int j) = some (.val (f (as.getD j a0))) := by
  show (atI (as.map f) (j : Int)).map _ = _
  rw [atI_get? (by omega) (by rw [List.length_map]; omega), Int.toNat_natCast, List.getElem?_map, List.getElem?_eq_getElem h]
  show some (R.elt _ (f as[j])) = _
  unfold R.elt
  rw [if_pos (hp _), List.getD_eq_getElem?_getD, List.getElem?_eq_getElem h]
  rfl
theorem lc_rngP {vs : List Nat} {gi : GI} {gt : GTg} {gc : GT} {ge : G} {δ : DSt} (n : Nat) (P : D → Prop) (h1 : gi δ = some (.val, rangeL 0 n)) (hn : n ≤ 1000000)
    (h : ∀ i : Nat, i < n → ∃ δ1, gt (.one (.val (.int i))) (wipeD δ vs) = some δ1 ∧ gc δ1 = some true ∧ ∃ r, ge δ1 = some r ∧ r.okEl = true ∧ P r.d) : ∃ ds, gLc vs gi gt gc ge δ = some (.own (.lst ds)) ∧ ds.length = n ∧ ∀ d ∈ ds, P d := by
  have h2 : ∀ i : Nat, ∃ d, i < n → (∃ δ1, gt (.one (.val (.int i))) (wipeD δ vs) = some δ1 ∧ gc δ1 = some true ∧ ∃ r, ge δ1 = some r ∧ r.okEl = true ∧ r.d = d) ∧ P d := fun i => by
    by_cases hi : i < n
    · obtain ⟨δ1, e1, e2, r, e3, e4, e5⟩ := h i hi
      exact ⟨r.d, fun _ => ⟨⟨δ1, e1, e2, r, e3, e4, rfl⟩, e5⟩⟩
    · exact ⟨.non, fun z => absurd z hi⟩
  refine ⟨_, lc_rng n (fun i => Classical.choose (h2 i)) h1 hn fun i hi => (Classical.choose_spec (h2 i) hi).1, by simp, fun d hd => ?_⟩
  obtain ⟨i, hi, rfl⟩ := List.mem_map.mp hd
  exact (Classical.choose_spec (h2 i) (List.mem_range.mp hi)).2
theorem map_of {α : Type} (f : α → D) (Q : α → Prop) : ∀ {ds : List D}, (∀ d ∈ ds, ∃ a, d = f a ∧ Q a) → ∃ as : List α, ds = as.map f ∧ ∀ a ∈ as, Q a
  | [], _ => ⟨[], rfl, fun _ h => by cases h⟩
  | d :: ds, h => by
    obtain ⟨a, rfl, q⟩ := h d List.mem_cons_self
    obtain ⟨as, rfl, k⟩ := map_of f Q fun e he => h e (List.mem_cons_of_mem _ he)
    exact ⟨a :: as, rfl, fun b hb => by
      rcases List.mem_cons.mp hb with rfl | hb
      · exact q
      · exact k b hb⟩
/-- a comprehension of ints over a range -/
theorem lc_rngI {vs : List Nat} {gi : GI} {gt : GTg} {gc : GT} {ge : G} {δ : DSt} (n : Nat) (P : Int → Prop) (h1 : gi δ = some (.val, rangeL 0 n)) (hn : n ≤ 1000000)
    (h : ∀ i : Nat, i < n → ∃ δ1, gt (.one (.val (.int i))) (wipeD δ vs) = some δ1 ∧ gc δ1 = some true ∧ ∃ x : Int, ge δ1 = some (.val (.int x)) ∧ P x) : ∃ w, gLc vs gi gt gc ge δ = some (.own (eL w)) ∧ w.length = n ∧ ∀ x ∈ w, P x := by
  obtain ⟨ds, e1, e2, e3⟩ := lc_rngP (P := fun d => ∃ x, d = .int x ∧ P x) n h1 hn fun i hi => by
    obtain ⟨δ1, q1, q2, x, q3, q4⟩ := h i hi
    exact ⟨δ1, q1, q2, _, q3, rfl, x, rfl, q4⟩
  obtain ⟨w, rfl, q⟩ := map_of D.int P e3
  exact ⟨w, e1, by simpa using e2, q⟩
/-- length of what a range yields -/
theorem len_flat {α : Type} (f : Nat → List α) (k : Nat) : ∀ n, (∀ i < n, (f i).length ≤ k) → ((List.range n).flatMap f).length ≤ n * k
  | 0, _ => by simp
  | n + 1, h => by
    have := len_flat f k n fun i hi => h i (by omega)
    have h2 := h n (by omega)
    rw [List.range_succ, List.flatMap_append, List.length_append, Nat.add_mul]
    simp only [List.flatMap_cons, List.flatMap_nil, List.append_nil]
    omega
theorem flat_succ {α : Type} (f : Nat → List α) (n : Nat) : (List.range (n + 1)).flatMap f = (List.range n).flatMap f ++ f n := by
  rw [List.range_succ, List.flatMap_append]; simp
/-- a growth -/
def extK (i : Nat) (δ : DSt) (s : Sl) (r : R) : Option O := match s with
  | .own (.lst ds) => (match r.d with
    | .lst es => if ds.length + es.length ≤ sizeLine ∧ puL es = true then some (.nx (purge (δ.set i (.own (.lst (ds ++ es)))))) else none
    | .tup es => if ds.length + es.length ≤ sizeLine ∧ puL es = true then some (.nx (purge (δ.set i (.own (.lst (ds ++ es)))))) else none
    | _ => none)
  | _ => none
@[simp] theorem ev_ext {i : Nat} {g : G} {δ : DSt} : gExt i g δ = (g δ).bind fun r => extK i δ (δ.getD i .no) r := by
  unfold gExt extK
  rfl
theorem extK_t {i : Nat} {δ : DSt} {ds es : List D} {r : R} (hr : r.d = .tup es ∨ r.d = .lst es) (h : ds.length + es.length ≤ 10000000) (hp : puL es = true) : extK i δ (.own (.lst ds)) r = some (.nx (purge (δ.set i (.own (.lst (ds ++ es)))))) := by
  unfold extK
  rcases hr with hr | hr <;> rw [hr] <;> exact if_pos ⟨le_size h, hp⟩
theorem addD_eW {w p : List Int} (h : w.length + p.length ≤ 10000000) : addD (eW w) (eW p) = some (.val (eW (w ++ p))) := by
  unfold eW
  rw [List.map_append]
  exact if_pos ⟨by rw [List.length_map, List.length_map]; exact le_size h, puL_ints w, puL_ints p⟩
theorem mkF_pu {k : Kd} {d : D} (h : pu d = true) : k.mkF d = .val d := if_pos h
theorem mk_pu {k : Kd} {d : D} (h : pu d = true) : k.mk d = .val d := if_pos h
theorem elt_pu {k : R} {d : D} (h : pu d = true) : k.elt d = .val d := if_pos h
@[simp] theorem elt_eW {k : R} {w : List Int} : k.elt (eW w) = .val (eW w) := elt_pu pu_eW
@[simp] theorem elt_int {k : R} {w : Int} : k.elt (.int w) = .val (.int w) := elt_pu pu_int
@[simp] theorem parts_tup {ds : List D} : (Itm.one (.val (.tup ds))).parts = some (ds.map (R.elt (.val (.tup ds)))) := (rfl)
@[simp] theorem parts_pair {rs : List R} : (Itm.tup rs).parts = some rs := (rfl)
@[simp] theorem oLen_map {α : Type} {as : List α} {f : α → D} : oLen [.val (.tup (as.map f))] = some (.val (.int as.length)) := by rw [oLen_tup, List.length_map]
@[simp] theorem oLen_mapb {α : Type} {as : List α} {f : α → D} : oLen [.bor (.lst (as.map f))] = some (.val (.int as.length)) := by rw [oLen_bor, List.length_map]
@[simp] theorem oLen_mapf {α : Type} {as : List α} {f : α → D} : oLen [.fr (.lst (as.map f))] = some (.val (.int as.length)) := by rw [oLen_fr, List.length_map]
theorem ixM {α : Type} {as : List α} {f : α → D} {r : R} (a0 : α) {i : Int} (hr : r.d = .tup (as.map f) ∨ r.d = .lst (as.map f)) (hp : ∀ a, pu (f a) = true) (h0 : 0 ≤ i) (h1 : i < as.length) : ixR r (.int i) = some (.val (f (as.getD i.toNat a0))) := by
  have h : i.toNat < as.length := by omega
  have e : (atI (as.map f) i).map r.elt = some (.val (f (as.getD i.toNat a0))) := by
    rw [atI_get? h0 (by rw [List.length_map]; omega), List.getElem?_map, List.getElem?_eq_getElem h]
    show some (R.elt _ (f as[i.toNat])) = _
    rw [elt_pu (hp _), List.getD_eq_getElem?_getD, List.getElem?_eq_getElem h]
    rfl
  unfold ixR
  rcases hr with hr | hr <;> rw [hr] <;> exact e
theorem tup_nil : D.tup [] = eW [] := (rfl)
theorem tup_int {i : Int} : D.tup [.int i] = eW [i] := (rfl)
theorem seq_of {g : G} {δ : DSt} {r : R} {ds : List D} (h : g δ = some r) (h2 : itemsOf r.d = some ds) : gSeq g δ = some (r.kd, ds.map SI.one) := by rw [ev_seq, h]; simp [h2]
theorem enum_of {g : G} {δ : DSt} {r : R} {ds : List D} (h : g δ = some r) (h2 : itemsOf r.d = some ds) : gEnum g δ = some (r.kd, enumFrom 0 ds) := by rw [ev_enum, h]; simp [h2]
theorem getD_mem {α : Type} {xs : List α} {i : Nat} {a : α} (h : i < xs.length) : xs.getD i a ∈ xs := by
  rw [List.getD_eq_getElem?_getD, List.getElem?_eq_getElem h]
  exact List.getElem_mem _
theorem len_flatten {α : Type} (k : Nat) : ∀ (b : List (List α)), (∀ x ∈ b, x.length ≤ k) → b.flatten.length ≤ b.length * k
  | [], _ => by simp
  | x :: b, h => by
    have := len_flatten k b fun y hy => h y (List.mem_cons_of_mem _ hy)
    have h2 := h x List.mem_cons_self
    rw [List.flatten_cons, List.length_append, List.length_cons, Nat.add_mul]
    omega
theorem take_succ_get {α : Type} {b : List α} {i : Nat} {x : α} (h : b[i]? = some x) : b.take (i + 1) = b.take i ++ [x] := by
  rw [List.take_add_one, h]; rfl
theorem getD_of {α : Type} {xs : List α} {i : Nat} {x a : α} (h : xs[i]? = some x) : xs.getD i a = x := by rw [List.getD_eq_getElem?_getD, h]; rfl
theorem len_flatL {α β : Type} (f : α → List β) (k : Nat) : ∀ xs : List α, (∀ x ∈ xs, (f x).length ≤ k) → (xs.flatMap f).length ≤ xs.length * k
  | [], _ => by simp
  | x :: xs, h => by
    have := len_flatL f k xs fun y hy => h y (List.mem_cons_of_mem _ hy)
    have h2 := h x List.mem_cons_self
    rw [List.flatMap_cons, List.length_append, List.length_cons, Nat.add_mul]
    omega
theorem oTuple_b {ds : List D} (h : puL ds = true) : oTuple [.bor (.lst ds)] = some (.val (.tup ds)) := by
  show (if puL ds = true then some (R.val (.tup ds)) else none) = _
  rw [if_pos h]
@[simp] theorem isN_non {d : D} : isN d .non = some (.val (.bl (isNon d))) := (rfl)
@[simp] theorem isNon_int {i : Int} : isNon (.int i) = false := (rfl)
@[simp] theorem isNon_tup {i : List D} : isNon (.tup i) = false := (rfl)
@[simp] theorem isa_tt {i : List D} : isa .tuple (.tup i) = true := (rfl)
@[simp] theorem isa_ti {i : Int} : isa .tuple (.int i) = false := (rfl)
@[simp] theorem isa_ii {i : Int} : isa .int (.int i) = true := (rfl)
@[simp] theorem isa_bi {i : Int} : isa .bool (.int i) = false := (rfl)
theorem boolL_true : ∀ {ds : List D}, (∀ d ∈ ds, d = .bl true) → ∃ bs, boolL ds = some bs ∧ bs.all id = true
  | [], _ => ⟨[], rfl, rfl⟩
  | d :: ds, h => by
    have h1 := h d List.mem_cons_self
    subst h1
    obtain ⟨bs, e, k⟩ := boolL_true (ds := ds) fun e he => h e (List.mem_cons_of_mem _ he)
    exact ⟨true :: bs, by show (boolL ds).map (true :: ·) = _; rw [e]; rfl, by simpa using k⟩
theorem oAll_true {ds : List D} (h : ∀ d ∈ ds, d = .bl true) : oAll [.own (.lst ds)] = some (.val (.bl true)) := by
  obtain ⟨bs, e, k⟩ := boolL_true h
  show (boolL ds).map (fun bs => R.val (.bl (bs.all id))) = _
  rw [e]
  show some (R.val (.bl (bs.all id))) = _
  rw [k]
@[simp] theorem isNon_non : isNon .non = true := (rfl)
@[simp] theorem notN_non {d : D} : notN d .non = some (.val (.bl (!isNon d))) := (rfl)
end DL

set_option Elab.async false
set_option linter.all false
set_option maxRecDepth 100000
namespace DL
open PySem L2 DL
/-- 0 word, 1 part, 2 place -/
def G_x_stands_at : GS := (gRet (gAnd (gOp leD (gC (.int 0)) (gVar 2)) (gAnd (gOp leD (gOp addD (gVar 2) (gCB oLen (gCons (gVar 1) gNil))) (gCB oLen (gCons (gVar 0) gNil))) (gOp eqD (gSl (gVar 0) (gP (gVar 2)) (gP (gOp addD (gVar 2) (gCB oLen (gCons (gVar 1) gNil))))) (gVar 1)))))
def F_x_stands_at : List D → Option R := runF 3 G_x_stands_at
/-- 0 word, 1 place, 2 count, 3 right -/
def G_x_replaced : GS := (gRet (gOp addD (gOp addD (gSl (gVar 0) gNoP (gP (gVar 1))) (gVar 3)) (gSl (gVar 0) (gP (gOp addD (gVar 1) (gVar 2))) gNoP)))
def F_x_replaced : List D → Option R := runF 4 G_x_replaced
def B2_x_reduced_once : GS := (gIf (gTru (gCall 3 F_x_stands_at (gCons (gVar 1) (gCons (gVar 3) (gCons (gVar 2) gNil))))) (gRet (gCall 4 F_x_replaced (gCons (gVar 1) (gCons (gVar 2) (gCons (gCB oLen (gCons (gVar 3) gNil)) (gCons (gVar 4) gNil)))))) gNop)
def L2_x_reduced_once : GS := (gFor [0] (gSeq (gVar 0)) (gTupT 2 (gsCons (gName 3) (gsCons (gName 4) gsNil))) B2_x_reduced_once)
def B1_x_reduced_once : GS := L2_x_reduced_once
def L1_x_reduced_once : GS := (gFor [] (gRng1 (gCB oLen (gCons (gVar 1) gNil))) (gName 2) B1_x_reduced_once)
/-- 0 table, 1 word, 2 place, 3 left, 4 right -/
def G_x_reduced_once : GS := (gSeq2 L1_x_reduced_once
  (gRet (gC .non)))
def F_x_reduced_once : List D → Option R := runF 5 G_x_reduced_once
def B1_x_reduction : GS := (gSeq2 (gApp 2 (gVar 3))
  (gSet 3 (gCall 2 F_x_reduced_once (gCons (gVar 0) (gCons (gVar 3) gNil)))))
def L1_x_reduction : GS := (whileL (gT (gOp notN (gVar 3) (gC .non))) B1_x_reduction (700))
/-- 0 table, 1 word, 2 words, 3 after -/
def G_x_reduction : GS := (gSeq2 (gSet 2 (gLst (gCons (gVar 1) gNil)))
  (gSeq2 (gSet 3 (gCall 2 F_x_reduced_once (gCons (gVar 0) (gCons (gVar 1) gNil))))
  (gSeq2 L1_x_reduction
  (gRet (gCB oTuple (gCons (gVar 2) gNil))))))
def F_x_reduction : List D → Option R := runF 4 G_x_reduction
/-- 0 script, 1 k, 2 cell, 3 first, 4 second, 5 third -/
def G_x_law_mixed : GS := (gSeq2 (gSet 2 (gC (.int 0)))
  (gSeq2 (gIf (gT (gOp gtD (gCB oLen (gCons (gVar 0) gNil)) (gC (.int 0)))) (gSet 2 (gIx (gVar 0) (gOp modD (gVar 1) (gCB oLen (gCons (gVar 0) gNil))))) gNop)
  (gSeq2 (gSet 3 (gOp modD (gCB oInt (gCons (gOp addD (gOp addD (gOp mulD (gVar 2) (gC (.int 48271))) (gOp mulD (gVar 1) (gC (.int 69621)))) (gC (.int 8191))) gNil)) (gC (.int 2147483647))))
  (gSeq2 (gSet 4 (gOp modD (gCB oInt (gCons (gOp addD (gOp addD (gOp mulD (gVar 3) (gVar 3)) (gOp fdivD (gVar 3) (gC (.int 7)))) (gOp mulD (gVar 1) (gC (.int 16807)))) gNil)) (gC (.int 2147483629))))
  (gSeq2 (gSet 5 (gOp modD (gCB oInt (gCons (gOp addD (gOp addD (gOp mulD (gVar 4) (gVar 4)) (gOp fdivD (gVar 4) (gC (.int 11)))) (gC (.int 40692))) gNil)) (gC (.int 2147483563))))
  (gRet (gOp modD (gOp fdivD (gVar 5) (gC (.int 5))) (gC (.int 1000003)))))))))
def F_x_law_mixed : List D → Option R := runF 6 G_x_law_mixed
def B1_x_law_row : GS := (gIf (gT (gOp gtD (gVar 2) (gC (.int 0)))) (gSeq2 (gApp 3 (gOp modD (gCB oInt (gCons (gVar 2) gNil)) (gC (.int 1000))))
  (gSet 2 (gOp fdivD (gVar 2) (gC (.int 1000))))) (gApp 3 (gCall 2 F_x_law_mixed (gCons (gVar 0) (gCons (gVar 4) gNil)))))
def L1_x_law_row : GS := (gFor [] (gRng1 (gVar 1)) (gName 4) B1_x_law_row)
/-- 0 script, 1 many, 2 big, 3 row, 4 k -/
def G_x_law_row : GS := (gSeq2 (gSet 2 (gC (.int 0)))
  (gSeq2 (gIf (gAndT (gT (gOp gtD (gCB oLen (gCons (gVar 0) gNil)) (gC (.int 0)))) (gT (gOp geD (gIx (gVar 0) (gC (.int 0))) (gOp powD (gC (.int 10)) (gC (.int 18)))))) (gSet 2 (gIx (gVar 0) (gC (.int 0)))) gNop)
  (gSeq2 (gSet 3 (gLst gNil))
  (gSeq2 L1_x_law_row
  (gRetV 3)))))
def F_x_law_row : List D → Option R := runF 5 G_x_law_row
/-- 0 value -/
def G_x_law_is_int : GS := (gRet (gAnd (gIsi .int (gVar 0)) (gNot (gIsi .bool (gVar 0)))))
def F_x_law_is_int : List D → Option R := runF 1 G_x_law_is_int
/-- 0 value, 1 signs, 2 sign -/
def G_x_law_is_word : GS := (gRet (gAnd (gIsi .tuple (gVar 0)) (gCB oAll (gCons (gLc [2] (gSeq (gVar 0)) (gName 2) gYes (gAnd (gCall 1 F_x_law_is_int (gCons (gVar 2) gNil)) (gChain leD ltD (gC (.int 0)) (gVar 2) (gVar 1)))) gNil))))
def F_x_law_is_word : List D → Option R := runF 3 G_x_law_is_word
/-- 0 row, 1 at, 2 signs, 3 most, 4 size, 5 k -/
def G_x_law_word : GS := (gSeq2 (gSet 4 (gOp modD (gCB oInt (gCons (gIx (gVar 0) (gVar 1)) gNil)) (gOp addD (gVar 3) (gC (.int 1)))))
  (gRet (gCB oTuple (gCons (gLc [5] (gRng1 (gVar 4)) (gName 5) gYes (gOp modD (gCB oInt (gCons (gIx (gVar 0) (gOp addD (gOp addD (gVar 1) (gC (.int 1))) (gVar 5))) gNil)) (gVar 2))) gNil))))
def F_x_law_word : List D → Option R := runF 6 G_x_law_word
def B1_x_law_chosen : GS := (gAppM 5 (gPopAt 4 (gOp modD (gCB oInt (gCons (gIx (gVar 0) (gOp addD (gVar 1) (gVar 6))) gNil)) (gCB oLen (gCons (gVar 4) gNil)))))
def L1_x_law_chosen : GS := (gFor [] (gRng1 (gVar 2)) (gName 6) B1_x_law_chosen)
/-- 0 row, 1 at, 2 many, 3 signs, 4 free, 5 chosen, 6 k -/
def G_x_law_chosen : GS := (gSeq2 (gSet 4 (gListRg (gVar 3)))
  (gSeq2 (gSet 5 (gLst gNil))
  (gSeq2 L1_x_law_chosen
  (gRetV 5))))
def F_x_law_chosen : List D → Option R := runF 7 G_x_law_chosen
/-- 0 word, 1 chosen, 2 sign -/
def G_x_law_named_word : GS := (gRet (gCB oTuple (gCons (gLc [2] (gSeq (gVar 0)) (gName 2) gYes (gIx (gVar 1) (gVar 2))) gNil)))
def F_x_law_named_word : List D → Option R := runF 3 G_x_law_named_word
/-- 0 row, 1 at, 2 signs, 3 most, 4 size, 5 left, 6 k -/
def G_x_law_long_rule : GS := (gSeq2 (gSet 4 (gOp addD (gC (.int 1)) (gOp modD (gCB oInt (gCons (gIx (gVar 0) (gVar 1)) gNil)) (gVar 3))))
  (gSeq2 (gSet 5 (gCB oTuple (gCons (gLc [6] (gRng1 (gVar 4)) (gName 6) gYes (gOp modD (gCB oInt (gCons (gIx (gVar 0) (gOp addD (gOp addD (gVar 1) (gC (.int 1))) (gVar 6))) gNil)) (gVar 2))) gNil)))
  (gSeq2 (gIf (gAndT (gT (gOp eqD (gVar 4) (gC (.int 1)))) (gAndT (gT (gOp gtD (gIx (gVar 5) (gC (.int 0))) (gC (.int 0)))) (gT (gOp eqD (gOp modD (gCB oInt (gCons (gIx (gVar 0) (gOp addD (gVar 1) (gC (.int 7)))) gNil)) (gC (.int 2))) (gC (.int 1)))))) (gRet (gTup (gCons (gVar 5) (gCons (gTup (gCons (gOp modD (gCB oInt (gCons (gIx (gVar 0) (gOp addD (gVar 1) (gC (.int 8)))) gNil)) (gIx (gVar 5) (gC (.int 0)))) gNil)) gNil)))) gNop)
  (gRet (gTup (gCons (gVar 5) (gCons (gCB oTuple (gCons (gLc [6] (gRng1 (gOp modD (gCB oInt (gCons (gIx (gVar 0) (gOp addD (gVar 1) (gC (.int 7)))) gNil)) (gVar 4))) (gName 6) gYes (gOp modD (gCB oInt (gCons (gIx (gVar 0) (gOp addD (gOp addD (gVar 1) (gC (.int 8))) (gVar 6))) gNil)) (gVar 2))) gNil)) gNil)))))))
def F_x_law_long_rule : List D → Option R := runF 7 G_x_law_long_rule
/-- 0 row, 1 at, 2 signs, 3 most, 4 rules, 5 k -/
def G_x_law_long_table : GS := (gRet (gCB oTuple (gCons (gLc [5] (gRng1 (gOp modD (gCB oInt (gCons (gIx (gVar 0) (gVar 1)) gNil)) (gOp addD (gVar 4) (gC (.int 1))))) (gName 5) gYes (gCall 4 F_x_law_long_rule (gCons (gVar 0) (gCons (gOp addD (gOp addD (gVar 1) (gC (.int 1))) (gOp mulD (gC (.int 13)) (gVar 5))) (gCons (gVar 2) (gCons (gVar 3) gNil)))))) gNil)))
def F_x_law_long_table : List D → Option R := runF 6 G_x_law_long_table
/-- 0 table, 1 chosen, 2 rule -/
def G_x_law_named_table : GS := (gRet (gCB oTuple (gCons (gLc [2] (gSeq (gVar 0)) (gName 2) gYes (gTup (gCons (gCall 2 F_x_law_named_word (gCons (gIx (gVar 2) (gC (.int 0))) (gCons (gVar 1) gNil))) (gCons (gCall 2 F_x_law_named_word (gCons (gIx (gVar 2) (gC (.int 1))) (gCons (gVar 1) gNil))) gNil)))) gNil)))
def F_x_law_named_table : List D → Option R := runF 3 G_x_law_named_table
def B1_x_law_seal_word : GS := (gSeq2 (gSet 6 (gOp addD (gOp addD (gVar 1) (gC (.int 1))) (gOp mulD (gC (.int 4)) (gVar 5))))
  (gIf (gAndT (gT (gOp gtD (gCB oLen (gCons (gVar 2) gNil)) (gC (.int 0)))) (gT (gOp gtD (gOp modD (gCB oInt (gCons (gIx (gVar 0) (gVar 6)) gNil)) (gC (.int 3))) (gC (.int 0))))) (gSet 4 (gOp addD (gVar 4) (gIx (gIx (gVar 2) (gOp modD (gCB oInt (gCons (gIx (gVar 0) (gOp addD (gVar 6) (gC (.int 1)))) gNil)) (gCB oLen (gCons (gVar 2) gNil)))) (gC (.int 0))))) (gSet 4 (gOp addD (gVar 4) (gCall 4 F_x_law_word (gCons (gVar 0) (gCons (gOp addD (gVar 6) (gC (.int 1))) (gCons (gVar 3) (gCons (gC (.int 2)) gNil)))))))))
def L1_x_law_seal_word : GS := (gFor [] (gRng1 (gOp modD (gCB oInt (gCons (gIx (gVar 0) (gVar 1)) gNil)) (gC (.int 5)))) (gName 5) B1_x_law_seal_word)
/-- 0 row, 1 at, 2 table, 3 signs, 4 word, 5 k, 6 start -/
def G_x_law_seal_word : GS := (gSeq2 (gSet 4 (gTup gNil))
  (gSeq2 L1_x_law_seal_word
  (gRetV 4)))
def F_x_law_seal_word : List D → Option R := runF 7 G_x_law_seal_word
def B2_x_law_reduced : GS := (gIf (gT (gOp eqD (gSl (gVar 1) (gP (gVar 2)) (gP (gOp addD (gVar 2) (gCB oLen (gCons (gVar 3) gNil))))) (gVar 3))) (gRet (gOp addD (gOp addD (gSl (gVar 1) gNoP (gP (gVar 2))) (gVar 4)) (gSl (gVar 1) (gP (gOp addD (gVar 2) (gCB oLen (gCons (gVar 3) gNil)))) gNoP))) gNop)
def L2_x_law_reduced : GS := (gFor [0] (gSeq (gVar 0)) (gTupT 2 (gsCons (gName 3) (gsCons (gName 4) gsNil))) B2_x_law_reduced)
def B1_x_law_reduced : GS := L2_x_law_reduced
def L1_x_law_reduced : GS := (gFor [] (gRng1 (gCB oLen (gCons (gVar 1) gNil))) (gName 2) B1_x_law_reduced)
/-- 0 table, 1 word, 2 place, 3 left, 4 right -/
def G_x_law_reduced : GS := (gSeq2 L1_x_law_reduced
  (gRet (gC .non)))
def F_x_law_reduced : List D → Option R := runF 5 G_x_law_reduced
/-- 0 found, 1 signs, 2 word -/
def G_x_law_are_words : GS := (gRet (gAnd (gIsi .tuple (gVar 0)) (gCB oAll (gCons (gLc [2] (gSeq (gVar 0)) (gName 2) gYes (gCall 2 F_x_law_is_word (gCons (gVar 2) (gCons (gVar 1) gNil)))) gNil))))
def F_x_law_are_words : List D → Option R := runF 3 G_x_law_are_words
/-- 0 row, 1 kind -/
def G_x_law_seal_signs : GS := (gSeq2 (gSet 1 (gOp modD (gCB oInt (gCons (gIx (gVar 0) (gC (.int 1))) gNil)) (gC (.int 16))))
  (gSeq2 (gIf (gT (gOp eqD (gVar 1) (gC (.int 6)))) (gRet (gC (.int 2))) gNop)
  (gSeq2 (gIf (gT (gOp eqD (gVar 1) (gC (.int 7)))) (gRet (gC (.int 4))) gNop)
  (gRet (gC (.int 3))))))
def F_x_law_seal_signs : List D → Option R := runF 2 G_x_law_seal_signs
/-- 0 row, 1 kind -/
def G_x_law_seal_table : GS := (gSeq2 (gSet 1 (gOp modD (gCB oInt (gCons (gIx (gVar 0) (gC (.int 1))) gNil)) (gC (.int 16))))
  (gSeq2 (gIf (gT (gOp eqD (gVar 1) (gC (.int 6)))) (gRet (gCall 5 F_x_law_long_table (gCons (gVar 0) (gCons (gC (.int 6)) (gCons (gC (.int 2)) (gCons (gC (.int 6)) (gCons (gC (.int 12)) gNil))))))) gNop)
  (gSeq2 (gIf (gT (gOp eqD (gVar 1) (gC (.int 7)))) (gRet (gCall 5 F_x_law_long_table (gCons (gVar 0) (gCons (gC (.int 6)) (gCons (gC (.int 4)) (gCons (gC (.int 4)) (gCons (gC (.int 12)) gNil))))))) gNop)
  (gRet (gCall 5 F_x_law_long_table (gCons (gVar 0) (gCons (gC (.int 6)) (gCons (gC (.int 3)) (gCons (gC (.int 3)) (gCons (gC (.int 4)) gNil))))))))))
def F_x_law_seal_table : List D → Option R := runF 2 G_x_law_seal_table
def B1_x_law : GS := (gSeq2 (gSet 5 (gCall 2 F_x_law_reduced (gCons (gVar 4) (gCons (gVar 5) gNil))))
  (gSeq2 (gIf (gT (gOp isN (gVar 5) (gC .non))) gBrk gNop)
  (gApp 6 (gCall 2 F_x_law_named_word (gCons (gVar 5) (gCons (gVar 3) gNil))))))
def L1_x_law : GS := (gFor [] (gRng1 (gC (.int 600))) (gName 7) B1_x_law)
/-- 0 script, 1 row, 2 signs, 3 chosen, 4 table, 5 word, 6 due, 7 k, 8 found -/
def G_x_law : GS := (gSeq2 (gSet 1 (gCall 2 F_x_law_row (gCons (gVar 0) (gCons (gC (.int 182)) gNil))))
  (gSeq2 (gSet 2 (gOp addD (gC (.int 4)) (gOp modD (gCB oInt (gCons (gIx (gVar 1) (gC (.int 0))) gNil)) (gC (.int 27)))))
  (gSeq2 (gSet 3 (gCB oSorted (gCons (gCall 4 F_x_law_chosen (gCons (gVar 1) (gCons (gC (.int 2)) (gCons (gC (.int 4)) (gCons (gVar 2) gNil))))) gNil)))
  (gSeq2 (gSet 4 (gCall 1 F_x_law_seal_table (gCons (gVar 1) gNil)))
  (gSeq2 (gSet 5 (gCall 4 F_x_law_seal_word (gCons (gVar 1) (gCons (gC (.int 164)) (gCons (gVar 4) (gCons (gCall 1 F_x_law_seal_signs (gCons (gVar 1) gNil)) gNil))))))
  (gSeq2 (gSet 6 (gLst (gCons (gCall 2 F_x_law_named_word (gCons (gVar 5) (gCons (gVar 3) gNil))) gNil)))
  (gSeq2 L1_x_law
  (gSeq2 (gSet 8 (gCall 2 F_x_reduction (gCons (gCall 2 F_x_law_named_table (gCons (gVar 4) (gCons (gVar 3) gNil))) (gCons (gIx (gVar 6) (gC (.int 0))) gNil))))
  (gRet (gAnd (gCall 2 F_x_law_are_words (gCons (gVar 8) (gCons (gVar 2) gNil))) (gOp eqD (gVar 8) (gCB oTuple (gCons (gVar 6) gNil)))))))))))))
def F_x_law : List D → Option R := runF 9 G_x_law
end DL

set_option Elab.async false
set_option linter.all false
set_option maxRecDepth 100000
set_option maxHeartbeats 4000000
namespace DL
open PySem L2 DL
/-- what is known of a row -/
def Row (r : List Int) (n : Nat) : Prop := r.length = n ∧ ∀ x ∈ r, 0 ≤ x ∧ x < 1000003
theorem f_mixed (ns : List Int) (k : Int) (h0 : 0 ≤ k) (h1 : k < 1000000) : ∃ m : Int, F_x_law_mixed [.scr ns, .int k] = some (.val (.int m)) ∧ 0 ≤ m ∧ m < 1000003 := by
  unfold F_x_law_mixed G_x_law_mixed
  rw [ev_run]
  unfold startD
  by_cases hl : ns.length = 0
  · have e : ns = [] := List.eq_nil_of_length_eq_zero hl
    subst e
    simp (disch := first | omega | simp) [ev_store, mulD_l]
    constructor <;> omega
  · have h2 : 0 ≤ k % (ns.length : Int) := Int.emod_nonneg _ (by omega)
    have h3 : k % (ns.length : Int) < ns.length := Int.emod_lt_of_pos _ (by omega)
    have h4 : (0 : Int) < ns.length := by omega
    have h5 : 0 < ns.length := by omega
    simp (disch := first | omega | simp) [ev_store, mulD_r, h5, h4, ix_scr h2 h3]
    constructor <;> omega
theorem f_row_tail (ns : List Int) (n : Nat) (hn : n ≤ 100000) (big : Int) : ∃ r u v, L1_x_law_row [.par (.scr ns), .val (.int n), .val (.int big), .own (eL []), .no] = some (.nx [.par (.scr ns), .val (.int n), u, .own (eL r), v]) ∧ Row r n := by
  unfold L1_x_law_row
  obtain ⟨δ', h1, b, r, v, rfl, hv, hr⟩ := for_rng (lks := []) (gi := gRng1 (gVar 1)) (gt := gName 4) (gb := B1_x_law_row) (δ := [.par (.scr ns), .val (.int n), .val (.int big), .own (eL []), .no]) n
      (fun i δ => ∃ (b : Int) (r : List Int) (v : Sl), δ = [.par (.scr ns), .val (.int n), .val (.int b), .own (eL r), v] ∧ NL v ∧ Row r i) (rng_of (by simp) (by omega)) ⟨big, [], .no, by simp [eL], nl_no, rfl, by simp⟩ (fun i δ hi ⟨b, r, v, hd, hv, hr⟩ => by
        subst hd
        have hl : r.length ≤ 10000000 := by have := hr.1; omega
        refine ⟨[.par (.scr ns), .val (.int n), .val (.int b), .own (eL r), .val (.int i)], by simp [ev_store, stK_nl hv], ?_⟩
        unfold B1_x_law_row
        by_cases hb : 0 < b
        · refine ⟨[.par (.scr ns), .val (.int n), .val (.int (b / 1000)), .own (eL (r ++ [b % 1000])), .val (.int i)], by simp [ev_store, hb, appL hl], _, _, _, rfl, nl_val, by simp [hr.1], fun x hx => ?_⟩
          rcases List.mem_append.mp hx with hx | hx
          · exact hr.2 x hx
          · rw [List.mem_singleton.mp hx]; constructor <;> omega
        · obtain ⟨m, e, m0, m1⟩ := f_mixed ns i (by omega) (by omega)
          refine ⟨[.par (.scr ns), .val (.int n), .val (.int b), .own (eL (r ++ [m])), .val (.int i)], by simp [ev_store, hb, e, appL hl], _, _, _, rfl, nl_val, by simp [hr.1], fun x hx => ?_⟩
          rcases List.mem_append.mp hx with hx | hx
          · exact hr.2 x hx
          · rw [List.mem_singleton.mp hx]; exact ⟨m0, m1⟩)
  exact ⟨r, _, _, by simpa using h1, hr⟩
theorem f_row_fin (ns : List Int) (n : Nat) (hn : n ≤ 100000) (big : Int) : ∃ r, retK (seqK (seqK (some (.nx [.par (.scr ns), .val (.int n), .val (.int big), .no, .no])) (gSet 3 (gLst gNil))) (gSeq2 L1_x_law_row (gRetV 3))) = some (.own (eL r)) ∧ Row r n := by
  obtain ⟨r, u, v, e, hr⟩ := f_row_tail ns n hn big
  exact ⟨r, by simp [ev_store, mkLst_nil, eL_nil, e], hr⟩
theorem f_row (ns : List Int) (n : Nat) (hn : n ≤ 100000) : ∃ r, F_x_law_row [.scr ns, .int n] = some (.own (eL r)) ∧ Row r n := by
  unfold F_x_law_row G_x_law_row
  rw [ev_run]
  unfold startD
  by_cases hl : ns.length = 0
  · obtain ⟨r, e, hr⟩ := f_row_fin ns n hn 0
    refine ⟨r, ?_, hr⟩
    rw [← e]
    simp [ev_store, hl]
  · have h5 : 0 < ns.length := by omega
    have h6 : (0 : Int) < ns.length := by omega
    obtain ⟨x, hx⟩ : ∃ x, ixR (.par (.scr ns)) (.int 0) = some (.val (.int x)) := ⟨_, ix_scr (i := 0) (by omega) h6⟩
    by_cases hb : 1000000000000000000 ≤ x
    · obtain ⟨r, e, hr⟩ := f_row_fin ns n hn x
      refine ⟨r, ?_, hr⟩
      rw [← e]
      simp [ev_store, h5, hx, hb]
    · obtain ⟨r, e, hr⟩ := f_row_fin ns n hn 0
      refine ⟨r, ?_, hr⟩
      rw [← e]
      simp [ev_store, h5, hx, hb]
end DL

set_option Elab.async false
set_option linter.all false
set_option maxRecDepth 100000
set_option maxHeartbeats 4000000
namespace DL
open PySem L2 DL
theorem Row.cell {r : List Int} {n : Nat} (h : Row r n) {i : Int} (h0 : 0 ≤ i) (h1 : i < n) : 0 ≤ cell r i ∧ cell r i < 1000003 := h.2 _ (cell_mem h0 (by rw [h.1]; exact h1))
theorem f_word {r : List Int} {n : Nat} (hr : Row r n) {p s m : Int} (h0 : 0 ≤ p) (hm : 0 ≤ m) (hm1 : m ≤ 1000) (h1 : p + 1 + m ≤ n) (hs : 0 < s) : ∃ w, F_x_law_word [eL r, .int p, .int s, .int m] = some (.val (eW w)) ∧ w.length ≤ m.toNat := by
  have hl := hr.1
  unfold F_x_law_word G_x_law_word
  rw [ev_run]
  unfold startD
  have c0 := Int.emod_nonneg (cell r p) (b := m + 1) (by omega)
  have c1 := Int.emod_lt_of_pos (cell r p) (b := m + 1) (by omega)
  obtain ⟨z, hz⟩ : ∃ z, z = cell r p % (m + 1) := ⟨_, rfl⟩
  rw [← hz] at c0 c1
  obtain ⟨w, e1, e2, -⟩ := lc_rngI (vs := [5]) (gi := gRng1 (gVar 4)) (gt := gName 5) (gc := gYes) (ge := gOp modD (gCB oInt (gCons (gIx (gVar 0) (gOp addD (gOp addD (gVar 1) (gC (.int 1))) (gVar 5))) gNil)) (gVar 2))
    (δ := [.par (eL r), .val (.int p), .val (.int s), .val (.int m), .val (.int z), .no]) z.toNat (fun _ => True) (rng_ofI (by simp) (by omega) (by omega)) (by omega) fun i hi => ⟨[.par (eL r), .val (.int p), .val (.int s), .val (.int m), .val (.int z), .val (.int i)], by simp [ev_store], rfl, _, by simp (disch := first | omega | simp) [ixp, hs]; rfl, trivial⟩
  refine ⟨w, ?_, by omega⟩
  simp (disch := first | omega | simp) [ev_store, ixp, ← hz, e1]
theorem f_wordP {r : List Int} {n : Nat} (hr : Row r n) {p s m : Int} (h0 : 0 ≤ p) (hm : 0 ≤ m) (hm1 : m ≤ 1000) (h1 : p + 1 + m ≤ n) (hs : 0 < s) : ∃ w, F_x_law_word [eL r, .int p, .int s, .int m] = some (.val (eW w)) ∧ w.length ≤ m.toNat ∧ ∀ x ∈ w, 0 ≤ x ∧ x < s := by
  have hl := hr.1
  unfold F_x_law_word G_x_law_word
  rw [ev_run]
  unfold startD
  have c0 := Int.emod_nonneg (cell r p) (b := m + 1) (by omega)
  have c1 := Int.emod_lt_of_pos (cell r p) (b := m + 1) (by omega)
  obtain ⟨z, hz⟩ : ∃ z, z = cell r p % (m + 1) := ⟨_, rfl⟩
  rw [← hz] at c0 c1
  obtain ⟨w, e1, e2, e3⟩ := lc_rngI (vs := [5]) (gi := gRng1 (gVar 4)) (gt := gName 5) (gc := gYes) (ge := gOp modD (gCB oInt (gCons (gIx (gVar 0) (gOp addD (gOp addD (gVar 1) (gC (.int 1))) (gVar 5))) gNil)) (gVar 2))
    (δ := [.par (eL r), .val (.int p), .val (.int s), .val (.int m), .val (.int z), .no]) z.toNat (fun x => 0 ≤ x ∧ x < s) (rng_ofI (by simp) (by omega) (by omega)) (by omega) fun i hi => ⟨[.par (eL r), .val (.int p), .val (.int s), .val (.int m), .val (.int z), .val (.int i)], by simp [ev_store], rfl, _, by simp (disch := first | omega | simp) [ixp, hs]; rfl, Int.emod_nonneg _ (by omega), Int.emod_lt_of_pos _ hs⟩
  refine ⟨w, ?_, by omega, e3⟩
  simp (disch := first | omega | simp) [ev_store, ixp, ← hz, e1]
end DL

set_option Elab.async false
set_option linter.all false
set_option maxRecDepth 100000
set_option maxHeartbeats 4000000
namespace DL
open PySem L2 DL
theorem cut_mid (w : List Int) (p k : Nat) : cutL w (some (p : Int)) (some ((p : Int) + (k : Int))) = (w.drop p).take k := by
  unfold cutL
  rw [show (p : Int) + (k : Int) = ((p + k : Nat) : Int) by omega, HT.sIx_nat, HT.sIx_nat]
  by_cases h : p ≤ w.length
  · rw [Nat.min_eq_left h, List.take_eq_take_iff, List.length_drop]
    omega
  · rw [show min p w.length = w.length by omega, List.drop_of_length_le (Nat.le_refl _), List.drop_of_length_le (by omega)]
    simp
theorem cut_lo (w : List Int) (p : Nat) : cutL w none (some (p : Int)) = w.take p := by
  unfold cutL
  rw [HT.sIx_none, HT.sIx_nat, List.drop_zero, Nat.sub_zero, List.take_eq_take_iff]
  omega
theorem cut_hi (w : List Int) (p : Nat) : cutL w (some (p : Int)) none = w.drop p := by
  unfold cutL
  rw [HT.sIx_none, HT.sIx_nat]
  by_cases h : p ≤ w.length
  · rw [Nat.min_eq_left h, List.take_of_length_le (by rw [List.length_drop]; omega)]
  · rw [Nat.min_eq_right (by omega), List.drop_of_length_le (Nat.le_refl _), List.drop_of_length_le (by omega)]
    simp
def Wd (n : Nat) (w : List Int) : Prop := ∀ x ∈ w, 0 ≤ x ∧ x < n
theorem Wd.nil {n : Nat} : Wd n [] := fun _ h => nomatch h
theorem Wd.app {n : Nat} {a b : List Int} (h : Wd n a) (k : Wd n b) : Wd n (a ++ b) := fun x hx => by
  rcases List.mem_append.mp hx with hx | hx
  · exact h x hx
  · exact k x hx
theorem Wd.left {n : Nat} {a b : List Int} (h : Wd n (a ++ b)) : Wd n a := fun x hx => h x (List.mem_append_left _ hx)
theorem Wd.right {n : Nat} {a b : List Int} (h : Wd n (a ++ b)) : Wd n b := fun x hx => h x (List.mem_append_right _ hx)
theorem Wd.tail {n : Nat} {x : Int} {a : List Int} (h : Wd n (x :: a)) : Wd n a := fun y hy => h y (List.mem_cons_of_mem _ hy)
theorem Wd.take {n : Nat} {a : List Int} (h : Wd n a) (p : Nat) : Wd n (a.take p) := fun x hx => h x (List.mem_of_mem_take hx)
theorem Wd.drop {n : Nat} {a : List Int} (h : Wd n a) (p : Nat) : Wd n (a.drop p) := fun x hx => h x (List.mem_of_mem_drop hx)
abbrev Rule := List Int × List Int
def stB (w l : List Int) (p : Nat) : Bool := decide ((w.drop p).take l.length = l)
def repl (w : List Int) (p k : Nat) (r : List Int) : List Int := w.take p ++ r ++ w.drop (p + k)
def at1 (w : List Int) (p : Nat) (q : Rule) : Option (List Int) := if stB w q.1 p = true then some (repl w p q.1.length q.2) else none
def red1 (T : List Rule) (w : List Int) : Option (List Int) := (List.range w.length).findSome? fun p => T.findSome? (at1 w p)
-- new names
theorem fs_congr {α β : Type} {f g : α → Option β} : ∀ {l : List α}, (∀ a ∈ l, f a = g a) → l.findSome? f = l.findSome? g
  | [], _ => rfl
  | a :: l, h => by
    rw [List.findSome?_cons, List.findSome?_cons, h a List.mem_cons_self, fs_congr fun b hb => h b (List.mem_cons_of_mem _ hb)]
theorem fs_out {α β γ : Type} {f : α → Option β} {g : β → γ} : ∀ l : List α, (l.findSome? fun a => (f a).map g) = (l.findSome? f).map g
  | [] => rfl
  | a :: l => by
    rw [List.findSome?_cons, List.findSome?_cons, fs_out l]
    cases f a <;> rfl
theorem fs_in {α β γ : Type} {f : β → Option γ} {g : α → β} : ∀ l : List α, (l.map g).findSome? f = l.findSome? fun a => f (g a)
  | [] => rfl
  | a :: l => by rw [List.map_cons, List.findSome?_cons, List.findSome?_cons, fs_in l]
theorem fs_app {α β : Type} {f : α → Option β} : ∀ l m : List α, (l ++ m).findSome? f = match l.findSome? f with | some b => some b | none => m.findSome? f
  | [], m => rfl
  | a :: l, m => by
    rw [List.cons_append, List.findSome?_cons, List.findSome?_cons, fs_app l m]
    cases f a <;> rfl
theorem fs_one {α β : Type} {f : α → Option β} {a : α} : [a].findSome? f = f a := by
  rw [List.findSome?_cons]; cases f a <;> rfl
theorem fs_mem {α β : Type} {f : α → Option β} {b : β} : ∀ {l : List α}, l.findSome? f = some b → ∃ a ∈ l, f a = some b
  | [], h => by cases h
  | a :: l, h => by
    rw [List.findSome?_cons] at h
    cases e : f a with
    | some c => rw [e] at h; cases h; exact ⟨a, List.mem_cons_self, e⟩
    | none =>
      rw [e] at h
      obtain ⟨c, hc, k⟩ := fs_mem (l := l) h
      exact ⟨c, List.mem_cons_of_mem _ hc, k⟩
def Inj (s : Nat) (nm : Int → Int) : Prop := ∀ x y : Int, 0 ≤ x → x < s → 0 ≤ y → y < s → nm x = nm y → x = y
theorem map_inj {s : Nat} {nm : Int → Int} (hi : Inj s nm) : ∀ {a b : List Int}, Wd s a → Wd s b → a.map nm = b.map nm → a = b
  | [], [], _, _, _ => rfl
  | [], y :: b, _, _, h => by cases h
  | x :: a, [], _, _, h => by cases h
  | x :: a, y :: b, ha, hb, h => by
    rw [List.map_cons, List.map_cons] at h
    obtain ⟨h1, h2⟩ := List.cons.inj h
    obtain ⟨x0, x1⟩ := ha x List.mem_cons_self
    obtain ⟨y0, y1⟩ := hb y List.mem_cons_self
    rw [hi x y x0 x1 y0 y1 h1, map_inj hi ha.tail hb.tail h2]
def nmR (nm : Int → Int) (q : Rule) : Rule := (q.1.map nm, q.2.map nm)
theorem stB_map {s : Nat} {nm : Int → Int} (hi : Inj s nm) {w l : List Int} (hw : Wd s w) (hl : Wd s l) (p : Nat) : stB (w.map nm) (l.map nm) p = stB w l p := by
  unfold stB
  rw [List.length_map, ← List.map_drop, ← List.map_take]
  refine decide_eq_decide.mpr ⟨fun h => map_inj hi ((hw.drop p).take _) hl h, fun h => by rw [h]⟩
theorem repl_map (nm : Int → Int) (w : List Int) (p k : Nat) (r : List Int) : repl (w.map nm) p k (r.map nm) = (repl w p k r).map nm := by
  unfold repl
  rw [List.map_append, List.map_append, List.map_take, List.map_drop]
theorem at1_map {s : Nat} {nm : Int → Int} (hi : Inj s nm) {w : List Int} (hw : Wd s w) {q : Rule} (hl : Wd s q.1) (p : Nat) : at1 (w.map nm) p (nmR nm q) = (at1 w p q).map (List.map nm) := by
  unfold at1 nmR
  rw [stB_map hi hw hl, repl_map, List.length_map]
  cases stB w q.1 p <;> rfl
structure OkR (s : Nat) (q : Rule) : Prop where
  l : Wd s q.1
  r : Wd s q.2
  small : q.2.length < q.1.length ∨ ∃ a b, q = ([a], [b]) ∧ b < a
  len : q.1.length ≤ 6
theorem red1_map {s : Nat} {nm : Int → Int} (hi : Inj s nm) {w : List Int} (hw : Wd s w) {T : List Rule} (hT : ∀ q ∈ T, OkR s q) : red1 (T.map (nmR nm)) (w.map nm) = (red1 T w).map (List.map nm) := by
  unfold red1
  rw [List.length_map, ← fs_out]
  refine fs_congr fun p _ => ?_
  rw [fs_in, ← fs_out]
  exact fs_congr fun q hq => at1_map hi hw (hT q hq).l p
-- the measure
def sm (w : List Int) : Nat := (w.map Int.toNat).sum
theorem sm_app (a b : List Int) : sm (a ++ b) = sm a + sm b := by unfold sm; rw [List.map_append, List.sum_append]
theorem sm_le {s : Nat} : ∀ {w : List Int}, Wd (s + 1) w → sm w ≤ s * w.length
  | [], _ => Nat.zero_le _
  | x :: w, h => by
    have ih := sm_le (w := w) h.tail
    obtain ⟨x0, x1⟩ := h x List.mem_cons_self
    show Int.toNat x + sm w ≤ s * (w.length + 1)
    rw [Nat.mul_add, Nat.mul_one]
    omega
def tri (s : Nat) : Nat → Nat
  | 0 => 0
  | n + 1 => tri s n + s * n + 1
theorem tri_mono {s m : Nat} : ∀ {n : Nat}, m ≤ n → tri s m ≤ tri s n
  | 0, h => by rw [Nat.le_zero.mp h]; exact Nat.le_refl _
  | n + 1, h => by
    rcases Nat.lt_or_ge m (n + 1) with k | k
    · have := tri_mono (s := s) (n := n) (Nat.le_of_lt_succ k)
      show tri s m ≤ tri s n + s * n + 1
      omega
    · rw [Nat.le_antisymm h k]; exact Nat.le_refl _
def mu (s : Nat) (w : List Int) : Nat := tri s w.length + sm w
theorem split_at {w l : List Int} {p : Nat} (h : stB w l p = true) : w = w.take p ++ l ++ w.drop (p + l.length) := by
  have h := of_decide_eq_true h
  conv => lhs; rw [← List.take_append_drop p w, ← List.take_append_drop l.length (w.drop p), h, List.drop_drop]
  rw [List.append_assoc]
theorem mu_lt {s : Nat} {A Z : List Int} {q : Rule} (hq : OkR (s + 1) q) (hw : Wd (s + 1) (A ++ q.1 ++ Z)) : mu s (A ++ q.2 ++ Z) < mu s (A ++ q.1 ++ Z) ∧ Wd (s + 1) (A ++ q.2 ++ Z) ∧ (A ++ q.2 ++ Z).length ≤ (A ++ q.1 ++ Z).length := by
  have w2 : Wd (s + 1) (A ++ q.2 ++ Z) := (hw.left.left.app hq.r).app hw.right
  refine ⟨?_, w2, ?_⟩
  · rcases hq.small with h | ⟨a, b, rfl, h⟩
    · have hlt : (A ++ q.2 ++ Z).length < (A ++ q.1 ++ Z).length := by simp only [List.length_append]; omega
      have h1 := sm_le w2
      have h2 := tri_mono (s := s) (Nat.succ_le_of_lt hlt)
      have h3 : tri s ((A ++ q.2 ++ Z).length + 1) = tri s (A ++ q.2 ++ Z).length + s * (A ++ q.2 ++ Z).length + 1 := rfl
      have h4 : tri s (A ++ q.2 ++ Z).length.succ = tri s ((A ++ q.2 ++ Z).length + 1) := rfl
      unfold mu
      omega
    · have hl : (A ++ [b] ++ Z).length = (A ++ [a] ++ Z).length := by simp
      obtain ⟨b0, _⟩ := hq.r b List.mem_cons_self
      unfold mu
      show tri s (A ++ [b] ++ Z).length + sm (A ++ [b] ++ Z) < tri s (A ++ [a] ++ Z).length + sm (A ++ [a] ++ Z)
      rw [hl, sm_app, sm_app, sm_app, sm_app]
      have h1 : sm [b] = b.toNat := by show b.toNat + 0 = _; omega
      have h2 : sm [a] = a.toNat := by show a.toNat + 0 = _; omega
      rw [h1, h2]
      omega
  · rcases hq.small with h | ⟨a, b, rfl, h⟩
    · simp only [List.length_append]; omega
    · simp
theorem red1_step {s : Nat} {T : List Rule} (hT : ∀ q ∈ T, OkR (s + 1) q) {w w' : List Int} (hw : Wd (s + 1) w) (h : red1 T w = some w') : mu s w' < mu s w ∧ Wd (s + 1) w' ∧ w'.length ≤ w.length := by
  obtain ⟨p, _, h⟩ := fs_mem h
  obtain ⟨q, hq, h⟩ := fs_mem h
  unfold at1 at h
  cases e : stB w q.1 p with
  | false => rw [e] at h; cases h
  | true =>
    rw [e] at h
    cases h
    have sp := split_at e
    have := mu_lt (A := w.take p) (Z := w.drop (p + q.1.length)) (hT q hq) (by rw [← sp]; exact hw)
    rw [← sp] at this
    exact this
def nf (T : List Rule) : Nat → List Int → List Int
  | 0, w => w
  | n + 1, w => match red1 T w with
    | none => w
    | some w' => nf T n w'
def norm (s : Nat) (T : List Rule) (w : List Int) : List Int := nf T (mu s w) w
theorem nf_eq {s : Nat} {T : List Rule} (hT : ∀ q ∈ T, OkR (s + 1) q) : ∀ (n : Nat) (w : List Int), Wd (s + 1) w → mu s w ≤ n → red1 T (nf T n w) = none ∧ (∀ m, mu s w ≤ m → nf T m w = nf T n w) ∧ Wd (s + 1) (nf T n w) ∧ (nf T n w).length ≤ w.length
  | 0, w, hw, h => by
    have r0 : red1 T w = none := by
      cases e : red1 T w with
      | none => rfl
      | some w' => have := (red1_step hT hw e).1; omega
    refine ⟨r0, fun m _ => ?_, hw, Nat.le_refl _⟩
    cases m with
    | zero => rfl
    | succ m => show (match red1 T w with | none => w | some w' => nf T m w') = w; rw [r0]
  | n + 1, w, hw, h => by
    cases e : red1 T w with
    | none =>
      have e1 : ∀ m, nf T m w = w := fun m => by
        cases m with
        | zero => rfl
        | succ m => show (match red1 T w with | none => w | some w' => nf T m w') = w; rw [e]
      rw [e1]
      exact ⟨e, fun m _ => e1 m, hw, Nat.le_refl _⟩
    | some w' =>
      obtain ⟨s1, s2, s3⟩ := red1_step hT hw e
      obtain ⟨i1, i2, i3, i4⟩ := nf_eq hT n w' s2 (by omega)
      have e1 : nf T (n + 1) w = nf T n w' := by show (match red1 T w with | none => w | some w' => nf T n w') = _; rw [e]
      rw [e1]
      refine ⟨i1, fun m hm => ?_, i3, Nat.le_trans i4 s3⟩
      cases m with
      | zero => omega
      | succ m =>
        show (match red1 T w with | none => w | some w' => nf T m w') = _
        rw [e]
        exact i2 m (by omega)
theorem norm_none {s : Nat} {T : List Rule} (hT : ∀ q ∈ T, OkR (s + 1) q) {w : List Int} (hw : Wd (s + 1) w) : red1 T (norm s T w) = none := (nf_eq hT _ w hw (Nat.le_refl _)).1
theorem norm_len {s : Nat} {T : List Rule} (hT : ∀ q ∈ T, OkR (s + 1) q) {w : List Int} (hw : Wd (s + 1) w) : (norm s T w).length ≤ w.length := (nf_eq hT _ w hw (Nat.le_refl _)).2.2.2
theorem norm_wd {s : Nat} {T : List Rule} (hT : ∀ q ∈ T, OkR (s + 1) q) {w : List Int} (hw : Wd (s + 1) w) : Wd (s + 1) (norm s T w) := (nf_eq hT _ w hw (Nat.le_refl _)).2.2.1
theorem norm_eq {s : Nat} {T : List Rule} (hT : ∀ q ∈ T, OkR (s + 1) q) {w : List Int} (hw : Wd (s + 1) w) {n : Nat} (h : mu s w ≤ n) : nf T n w = norm s T w := (nf_eq hT _ w hw (Nat.le_refl _)).2.1 n h
theorem norm_stop {s : Nat} {T : List Rule} {w : List Int} (h : red1 T w = none) : norm s T w = w := by
  unfold norm
  cases mu s w with
  | zero => rfl
  | succ m => show (match red1 T w with | none => w | some w' => nf T m w') = w; rw [h]
theorem norm_step {s : Nat} {T : List Rule} (hT : ∀ q ∈ T, OkR (s + 1) q) {w w' : List Int} (hw : Wd (s + 1) w) (h : red1 T w = some w') : norm s T w = norm s T w' := by
  obtain ⟨s1, s2, s3⟩ := red1_step hT hw h
  rw [← norm_eq hT hw (n := mu s w + 1) (by omega), ← norm_eq hT s2 (n := mu s w) (by omega)]
  show (match red1 T w with | none => w | some w' => nf T (mu s w) w') = _
  rw [h]
/-- the bound -/
theorem mu_le {s L : Nat} {w : List Int} (hw : Wd (s + 1) w) (h : w.length ≤ L) : mu s w ≤ tri s L + s * L := by
  have h1 := sm_le hw
  have h2 := tri_mono (s := s) h
  have h3 := Nat.mul_le_mul_left s h
  unfold mu
  omega
end DL

set_option Elab.async false
set_option linter.all false
set_option maxRecDepth 100000
set_option maxHeartbeats 4000000
namespace DL
open PySem L2 DL
/-- a rule -/
def eRule (q : Rule) : D := .tup [eW q.1, eW q.2]
@[simp] theorem pu_eRule {q : Rule} : pu (eRule q) = true := by unfold eRule; simp
@[simp] theorem elt_eRule {k : R} {q : Rule} : k.elt (eRule q) = .val (eRule q) := elt_pu pu_eRule
@[simp] theorem ix_eRule {q : Rule} : ixR (.val (eRule q)) (.int 0) = some (.val (eW q.1)) := by
  show some (R.elt _ (eW q.1)) = _
  rw [elt_eW]
@[simp] theorem ix_eRule1 {q : Rule} : ixR (.val (eRule q)) (.int 1) = some (.val (eW q.2)) := by
  show some (R.elt _ (eW q.2)) = _
  rw [elt_eW]
@[simp] theorem parts_eRule {q : Rule} : (Itm.one (R.val (eRule q))).parts = some [R.val (eW q.1), R.val (eW q.2)] := by unfold eRule; simp
/-- a table -/
def eT (T : List Rule) : D := .tup (T.map eRule)
@[simp] theorem pu_eT {T : List Rule} : pu (eT T) = true := puL_map (fun _ => pu_eRule) T
@[simp] theorem argS_eT {T : List Rule} : argS (eT T) = .val (eT T) := by unfold argS; simp
@[simp] theorem oLen_eT {T : List Rule} : oLen [.val (eT T)] = some (.val (.int T.length)) := oLen_map
def eO : Option (List Int) → D
  | none => .non
  | some w => eW w
@[simp] theorem eO_some {w : List Int} : eO (some w) = eW w := (rfl)
@[simp] theorem eO_none : eO none = .non := (rfl)
@[simp] theorem isNon_eW {w : List Int} : isNon (eW w) = false := (rfl)
theorem f_stands {w l : List Int} {p : Nat} (hp : p < w.length) : F_x_stands_at [eW w, eW l, .int p] = some (.val (.bl (stB w l p))) := by
  unfold F_x_stands_at G_x_stands_at
  rw [ev_run]
  unfold startD
  have h0 : (0 : Int) ≤ p := by omega
  by_cases h1 : (p : Int) + l.length ≤ w.length
  · simp -implicitDefEqProofs [h0, h1, cut_mid]
    rfl
  · have : stB w l p = false := by
      refine decide_eq_false fun e => h1 ?_
      have := congrArg List.length e
      rw [List.length_take, List.length_drop] at this
      omega
    rw [this]
    simp -implicitDefEqProofs [h0, h1]
theorem f_replaced {w r : List Int} {p k : Nat} (hw : w.length ≤ 10000) (hr : r.length ≤ 10000) : F_x_replaced [eW w, .int p, .int k, eW r] = some (.val (eW (repl w p k r))) := by
  have a1 := addD_eW (w := w.take p) (p := r) (by rw [List.length_take]; omega)
  have a2 := addD_eW (w := w.take p ++ r) (p := w.drop (p + k)) (by rw [List.length_append, List.length_take, List.length_drop]; omega)
  have c1 := cut_lo w p
  have c2 := cut_hi w (p + k)
  rw [show ((p + k : Nat) : Int) = (p : Int) + (k : Int) by omega] at c2
  unfold repl
  obtain ⟨z, hz⟩ : ∃ z, z = w.take p ++ r := ⟨_, rfl⟩
  rw [← hz] at a1 a2 ⊢
  obtain ⟨z2, hz2⟩ : ∃ z2, z2 = z ++ w.drop (p + k) := ⟨_, rfl⟩
  rw [← hz2] at a2 ⊢
  unfold F_x_replaced G_x_replaced
  rw [ev_run]
  unfold startD
  simp -implicitDefEqProofs [c1, c2, a1, a2]
/-- the loops of a search: places, rules -/
theorem search {gb2 : GS} {w : List Int} {T : List Rule} (hb : ∀ (p : Nat) (q : Rule), p < w.length → q ∈ T → gb2 [.val (eT T), .val (eW w), .val (.int p), .val (eW q.1), .val (eW q.2)] = match at1 w p q with | none => some (.nx [.val (eT T), .val (eW w), .val (.int p), .val (eW q.1), .val (eW q.2)]) | some x => some (.rt (.val (eW x))))
    (hw : w.length ≤ 10000) : (∃ v2 v3 v4, gFor [] (gRng1 (gCB oLen (gCons (gVar 1) gNil))) (gName 2) (gFor [0] (gSeq (gVar 0)) (gTupT 2 (gsCons (gName 3) (gsCons (gName 4) gsNil))) gb2) [.val (eT T), .val (eW w), .no, .no, .no] = some (.nx [.val (eT T), .val (eW w), v2, v3, v4]) ∧ red1 T w = none) ∨
      ∃ x, gFor [] (gRng1 (gCB oLen (gCons (gVar 1) gNil))) (gName 2) (gFor [0] (gSeq (gVar 0)) (gTupT 2 (gsCons (gName 3) (gsCons (gName 4) gsNil))) gb2) [.val (eT T), .val (eW w), .no, .no, .no] = some (.rt (.val (eW x))) ∧ red1 T w = some x := by
  have := for_rng_ex (lks := []) (gi := gRng1 (gCB oLen (gCons (gVar 1) gNil))) (gt := gName 2) (gb := gFor [0] (gSeq (gVar 0)) (gTupT 2 (gsCons (gName 3) (gsCons (gName 4) gsNil))) gb2) (δ := [.val (eT T), .val (eW w), .no, .no, .no]) w.length
    (fun n δ => ∃ v2 v3 v4, NL v2 ∧ NL v3 ∧ NL v4 ∧ δ = [.val (eT T), .val (eW w), v2, v3, v4] ∧ (List.range n).findSome? (fun p => T.findSome? (at1 w p)) = none)
    (fun _ => False) (fun r => ∃ x, r = .val (eW x) ∧ red1 T w = some x)
    (rng_of (by simp) (by omega)) ⟨.no, .no, .no, nl_no, nl_no, nl_no, by simp, rfl⟩ (fun p δ hp ⟨v2, v3, v4, h2, h3, h4, hd, hf⟩ => by
      subst hd
      refine ⟨[.val (eT T), .val (eW w), .val (.int p), v3, v4], by simp -implicitDefEqProofs [ev_store, stK_nl h2], ?_⟩
      have := for_seq_ex (lks := [0]) (gi := gSeq (gVar 0)) (gt := gTupT 2 (gsCons (gName 3) (gsCons (gName 4) gsNil))) (gb := gb2) (kd := .val) (δ := [.val (eT T), .val (eW w), .val (.int p), v3, v4]) (T.map eRule)
        (fun n δ => ∃ v3 v4, NL v3 ∧ NL v4 ∧ δ = [.val (eT T), .val (eW w), .val (.int p), v3, v4] ∧ (T.take n).findSome? (at1 w p) = none)
        (fun _ => False) (fun r => ∃ x, r = .val (eW x) ∧ T.findSome? (at1 w p) = some x)
        (seq_of (r := .val (eT T)) rfl rfl) rfl ⟨v3, v4, h3, h4, rfl, rfl⟩ (fun n d δ hi ⟨v3, v4, h3, h4, hd, hg⟩ => by
          subst hd
          rw [List.getElem?_map] at hi
          obtain ⟨q, e1, rfl⟩ := map_some hi
          refine ⟨[.val (eT T), .val (eW w), .val (.int p), .val (eW q.1), .val (eW q.2)], by simp -implicitDefEqProofs [ev_store, mkF_pu, stK_nl h3, stK_nl h4], ?_⟩
          rw [hb p q hp (List.mem_of_getElem? e1)]
          cases ha : at1 w p q with
          | none => exact ⟨_, rfl, _, _, nl_val, nl_val, rfl, by rw [take_succ_get e1, fs_app, hg]; show [q].findSome? (at1 w p) = none; rw [fs_one, ha]⟩
          | some x => exact ⟨_, rfl, x, rfl, by
              rw [← List.take_append_drop (n + 1) T, take_succ_get e1, List.append_assoc, fs_app, hg]
              show ([q] ++ T.drop (n + 1)).findSome? (at1 w p) = some x
              rw [fs_app, fs_one, ha]⟩)
      rcases this with ⟨δ2, e, ⟨v3, v4, h3, h4, rfl, hg⟩ | h⟩ | ⟨r, e, x, rfl, hg⟩
      · rw [List.length_map, List.take_length] at hg
        exact ⟨_, e, _, _, _, nl_val, h3.unfr, h4.unfr, rfl, by
          rw [List.range_succ, fs_app, hf]
          show [p].findSome? (fun p => T.findSome? (at1 w p)) = none
          rw [fs_one, hg]⟩
      · exact h.elim
      · refine ⟨_, e, x, rfl, ?_⟩
        unfold red1
        have : List.range w.length = List.range p ++ ([p] ++ (List.range' (p + 1) (w.length - (p + 1)))) := by
          rw [← List.append_assoc, ← List.range_succ, List.range_eq_range', List.range_eq_range']
          have := List.range'_append_1 (s := 0) (m := p + 1) (n := w.length - (p + 1))
          rw [Nat.zero_add] at this
          rw [this]
          congr 1
          omega
        rw [this, fs_app, hf]
        show ([p] ++ _).findSome? _ = some x
        rw [fs_app, fs_one, hg])
  rcases this with ⟨δ2, e, ⟨v2, v3, v4, h2, h3, h4, rfl, hg⟩ | h⟩ | ⟨r, e, x, rfl, hg⟩
  · exact .inl ⟨_, _, _, e, hg⟩
  · exact h.elim
  · exact .inr ⟨x, e, hg⟩
theorem f_reduced_once {T : List Rule} {w : List Int} (hT : ∀ q ∈ T, q.2.length ≤ 1000) (hw : w.length ≤ 1000) : F_x_reduced_once [eT T, eW w] = some (.val (eO (red1 T w))) := by
  have hs := search (gb2 := B2_x_reduced_once) (w := w) (T := T) (fun p q hp hq => by
    unfold B2_x_reduced_once at1
    have fs := f_stands (l := q.1) hp
    have fr := f_replaced (w := w) (r := q.2) (p := p) (k := q.1.length) (by omega) (by have := hT q hq; omega)
    cases e : stB w q.1 p with
    | true => rw [e] at fs; simp -implicitDefEqProofs [fs, fr]
    | false => rw [e] at fs; simp -implicitDefEqProofs [fs]) (by omega)
  unfold F_x_reduced_once G_x_reduced_once L1_x_reduced_once B1_x_reduced_once L2_x_reduced_once
  rw [ev_run]
  unfold startD
  rcases hs with ⟨v2, v3, v4, e, hr⟩ | ⟨x, e, hr⟩
  · rw [hr]; simp -implicitDefEqProofs [e]
  · rw [hr]; simp -implicitDefEqProofs [e]
theorem f_law_reduced {T : List Rule} {w : List Int} (hT : ∀ q ∈ T, q.2.length ≤ 1000) (hw : w.length ≤ 1000) : F_x_law_reduced [eT T, eW w] = some (.val (eO (red1 T w))) := by
  have hs := search (gb2 := B2_x_law_reduced) (w := w) (T := T) (fun p q hp hq => by
    unfold B2_x_law_reduced at1
    have hr := hT q hq
    have a1 := addD_eW (w := w.take p) (p := q.2) (by rw [List.length_take]; omega)
    have a2 := addD_eW (w := w.take p ++ q.2) (p := w.drop (p + q.1.length)) (by rw [List.length_append, List.length_take, List.length_drop]; omega)
    have c1 := cut_lo w p
    have c2 := cut_hi w (p + q.1.length)
    have c3 := cut_mid w p q.1.length
    rw [show ((p + q.1.length : Nat) : Int) = (p : Int) + (q.1.length : Int) by omega] at c2
    have hz2 : repl w p q.1.length q.2 = w.take p ++ q.2 ++ w.drop (p + q.1.length) := rfl
    obtain ⟨z, hz⟩ : ∃ z, z = w.take p ++ q.2 := ⟨_, rfl⟩
    rw [← hz] at a1 a2 hz2
    rw [← hz2] at a2
    cases e : stB w q.1 p with
    | true =>
      have e := of_decide_eq_true e
      simp -implicitDefEqProofs [c3, e, c1, c2, a1, a2]
    | false =>
      have e := of_decide_eq_false e
      simp -implicitDefEqProofs [c3, e]) (by omega)
  unfold F_x_law_reduced G_x_law_reduced L1_x_law_reduced B1_x_law_reduced L2_x_law_reduced
  rw [ev_run]
  unfold startD
  rcases hs with ⟨v2, v3, v4, e, hr⟩ | ⟨x, e, hr⟩
  · rw [hr]; simp -implicitDefEqProofs [e]
  · rw [hr]; simp -implicitDefEqProofs [e]
end DL

set_option Elab.async false
set_option linter.all false
set_option maxRecDepth 100000
set_option maxHeartbeats 4000000
namespace DL
open PySem L2 DL
theorem lcL_M {α : Type} {vs : List Nat} {kd : Kd} {gt : GTg} {gc : GT} {ge : G} {δ : DSt} (enc dec : α → D) : ∀ {as : List α}, (∀ a ∈ as, ∃ δ1, gt (.one (kd.mk (enc a))) (wipeD δ vs) = some δ1 ∧ gc δ1 = some true ∧ ∃ r, ge δ1 = some r ∧ r.okEl = true ∧ r.d = dec a) → lcL vs kd gt gc ge δ ((as.map enc).map SI.one) = some (as.map dec)
  | [], _ => rfl
  | a :: as, h => by
    obtain ⟨δ1, h1, h2, r, h3, h4, h5⟩ := h a List.mem_cons_self
    have ih := lcL_M (vs := vs) (kd := kd) (gt := gt) (gc := gc) (ge := ge) (δ := δ) enc dec (as := as) fun x hx => h x (List.mem_cons_of_mem _ hx)
    rw [List.map_cons, List.map_cons]
    unfold lcL
    show (gt (.one (kd.mk (enc a))) (wipeD δ vs)).bind _ = _
    rw [h1]
    simp only [Option.bind_some]
    rw [h2]
    simp only [Option.bind_some, if_true]
    rw [h3]
    simp only [Option.bind_some]
    rw [if_pos h4, ih, h5]
    rfl
theorem lc_M {α : Type} {vs : List Nat} {gi : GI} {gt : GTg} {gc : GT} {ge : G} {δ : DSt} {kd : Kd} (enc dec : α → D) (as : List α) (h1 : gi δ = some (kd, (as.map enc).map SI.one)) (hn : as.length ≤ 1000000)
    (h : ∀ a ∈ as, ∃ δ1, gt (.one (kd.mk (enc a))) (wipeD δ vs) = some δ1 ∧ gc δ1 = some true ∧ ∃ r, ge δ1 = some r ∧ r.okEl = true ∧ r.d = dec a) : gLc vs gi gt gc ge δ = some (.own (.lst (as.map dec))) := by
  rw [ev_lc, h1]
  simp only [Option.bind_some]
  rw [if_pos (by rw [List.length_map, List.length_map, sizeLine_eq]; omega), lcL_M enc dec h]
  rfl
theorem f_long_rule {r : List Int} {n : Nat} (hr : Row r n) {p : Int} {s m : Nat} (h0 : 0 ≤ p) (h1 : p + 12 < n) (hs : 0 < s) (hm : 0 < m) (hm6 : m ≤ 6) : ∃ q, F_x_law_long_rule [eL r, .int p, .int s, .int m] = some (.val (eRule q)) ∧ OkR s q ∧ q.1.length ≤ m := by
  have hl := hr.1
  have S0 : (0 : Int) < s := by omega
  have M0 : (0 : Int) < m := by omega
  unfold F_x_law_long_rule G_x_law_long_rule
  rw [ev_run]
  unfold startD
  have z0 := Int.emod_nonneg (cell r p) (b := (m : Int)) (by omega)
  have z1 := Int.emod_lt_of_pos (cell r p) (b := (m : Int)) M0
  obtain ⟨z, hz⟩ : ∃ z, z = 1 + cell r p % (m : Int) := ⟨_, rfl⟩
  obtain ⟨w, e1, e2, e3⟩ := lc_rngI (vs := [6]) (gi := gRng1 (gVar 4)) (gt := gName 6) (gc := gYes) (ge := gOp modD (gCB oInt (gCons (gIx (gVar 0) (gOp addD (gOp addD (gVar 1) (gC (.int 1))) (gVar 6))) gNil)) (gVar 2))
    (δ := [.par (eL r), .val (.int p), .val (.int s), .val (.int m), .val (.int z), .no, .no]) z.toNat (fun x => 0 ≤ x ∧ x < s) (rng_ofI (by simp) (by omega) (by omega)) (by omega) fun i hi => ⟨[.par (eL r), .val (.int p), .val (.int s), .val (.int m), .val (.int z), .no, .val (.int i)], by simp [ev_store], rfl, _, by simp -implicitDefEqProofs (disch := first | omega | simp) [ixp, S0]; rfl, Int.emod_nonneg _ (by omega), Int.emod_lt_of_pos _ S0⟩
  have y0 := Int.emod_nonneg (cell r (p + 7)) (b := z) (by omega)
  have y1 := Int.emod_lt_of_pos (cell r (p + 7)) (b := z) (by omega)
  obtain ⟨y, hy⟩ : ∃ y, y = cell r (p + 7) % z := ⟨_, rfl⟩
  rw [← hy] at y0 y1
  have Z0 : 0 < z := by omega
  obtain ⟨v, f1, f2, f3⟩ := lc_rngI (vs := [6]) (gi := gRng1 (gOp modD (gCB oInt (gCons (gIx (gVar 0) (gOp addD (gVar 1) (gC (.int 7)))) gNil)) (gVar 4))) (gt := gName 6) (gc := gYes) (ge := gOp modD (gCB oInt (gCons (gIx (gVar 0) (gOp addD (gOp addD (gVar 1) (gC (.int 8))) (gVar 6))) gNil)) (gVar 2))
    (δ := [.par (eL r), .val (.int p), .val (.int s), .val (.int m), .val (.int z), .val (eW w), .no]) y.toNat (fun x => 0 ≤ x ∧ x < s) (rng_ofI (by simp -implicitDefEqProofs (disch := first | omega | simp) [ixp, Z0, ← hy]) (by omega) (by omega)) (by omega) fun i hi => ⟨[.par (eL r), .val (.int p), .val (.int s), .val (.int m), .val (.int z), .val (eW w), .val (.int i)], by simp [ev_store], rfl, _, by simp -implicitDefEqProofs (disch := first | omega | simp) [ixp, S0]; rfl, Int.emod_nonneg _ (by omega), Int.emod_lt_of_pos _ S0⟩
  have other : OkR s (w, v) ∧ w.length ≤ m := ⟨⟨e3, f3, .inl (by show v.length < w.length; omega), by show w.length ≤ 6; omega⟩, by omega⟩
  by_cases c1 : z = 1
  · have zt : (z = 1) = True := eq_true c1
    have wl : w.length = 1 := by omega
    obtain ⟨x, rfl⟩ : ∃ x, w = [x] := by
      match w, wl with
      | [x], _ => exact ⟨x, rfl⟩
    have ix0 : ixR (.val (eW [x])) (.int 0) = some (.val (.int x)) := by
      show some (R.elt _ (.int x)) = _
      rw [elt_int]
    obtain ⟨x0, x1⟩ := e3 x List.mem_cons_self
    by_cases c2 : 0 < x
    · by_cases c3 : cell r (p + 7) % 2 = 1
      · have b0 := Int.emod_nonneg (cell r (p + 8)) (b := x) (by omega)
        have b1 := Int.emod_lt_of_pos (cell r (p + 8)) (b := x) c2
        refine ⟨([x], [cell r (p + 8) % x]), ?_, ⟨e3, fun y hy => by rw [List.mem_singleton.mp hy]; exact ⟨b0, by omega⟩, .inr ⟨x, _, rfl, b1⟩, by simp⟩, by simp; omega⟩
        simp -implicitDefEqProofs (disch := first | omega | simp) [ev_store, ixp, M0, ← hz, e1, zt, ix0, c2, c3, tup_int]
        rfl
      · refine ⟨([x], v), ?_, other⟩
        simp -implicitDefEqProofs (disch := first | omega | simp) [ev_store, ixp, M0, ← hz, e1, zt, ix0, c2, c3, f1]
        rfl
    · refine ⟨([x], v), ?_, other⟩
      simp -implicitDefEqProofs (disch := first | omega | simp) [ev_store, ixp, M0, ← hz, e1, zt, ix0, c2, f1]
      rfl
  · refine ⟨(w, v), ?_, other⟩
    simp -implicitDefEqProofs (disch := first | omega | simp) [ev_store, ixp, M0, ← hz, e1, c1, f1]
    rfl
theorem f_long_table {r : List Int} {n : Nat} (hr : Row r n) {p : Int} {s m t : Nat} (h0 : 0 ≤ p) (h1 : p + 1 + 13 * (t : Int) ≤ n) (ht : t ≤ 100) (hs : 0 < s) (hm : 0 < m) (hm6 : m ≤ 6) : ∃ T, F_x_law_long_table [eL r, .int p, .int s, .int m, .int t] = some (.val (eT T)) ∧ (∀ q ∈ T, OkR s q ∧ q.1.length ≤ m) ∧ T.length ≤ t := by
  have hl := hr.1
  unfold F_x_law_long_table G_x_law_long_table
  rw [ev_run]
  unfold startD
  have c0 := Int.emod_nonneg (cell r p) (b := t + 1) (by omega)
  have c1 := Int.emod_lt_of_pos (cell r p) (b := t + 1) (by omega)
  obtain ⟨z, hz⟩ : ∃ z, z = cell r p % (t + 1) := ⟨_, rfl⟩
  rw [← hz] at c0 c1
  obtain ⟨ds, e1, e2, e3⟩ := lc_rngP (P := fun d => ∃ q, d = eRule q ∧ OkR s q ∧ q.1.length ≤ m) (vs := [5]) (gi := (gRng1 (gOp modD (gCB oInt (gCons (gIx (gVar 0) (gVar 1)) gNil)) (gOp addD (gVar 4) (gC (.int 1)))))) (gt := gName 5) (gc := gYes) (ge := (gCall 4 F_x_law_long_rule (gCons (gVar 0) (gCons (gOp addD (gOp addD (gVar 1) (gC (.int 1))) (gOp mulD (gC (.int 13)) (gVar 5))) (gCons (gVar 2) (gCons (gVar 3) gNil))))))
    (δ := [.par (eL r), .val (.int p), .val (.int s), .val (.int m), .val (.int t), .no]) z.toNat (rng_ofI (by simp -implicitDefEqProofs (disch := first | omega | simp) [ixp, ← hz]) (by omega) (by omega)) (by omega) fun i hi => by
      obtain ⟨q, e, hq⟩ := f_long_rule hr (p := p + 1 + 13 * (i : Int)) (s := s) (m := m) (by omega) (by omega) hs hm hm6
      exact ⟨[.par (eL r), .val (.int p), .val (.int s), .val (.int m), .val (.int t), .val (.int i)], by simp [ev_store], rfl, .val (eRule q), by simp -implicitDefEqProofs (disch := first | omega | simp) [mulD_l, e], rfl, q, rfl, hq⟩
  obtain ⟨T, rfl, hT⟩ := map_of eRule (fun q => OkR s q ∧ q.1.length ≤ m) e3
  refine ⟨T, ?_, hT, by rw [List.length_map] at e2; omega⟩
  have ot : oTuple [.own (.lst (T.map eRule))] = some (.val (eT T)) := oTuple_p (puL_map (fun _ => pu_eRule) T)
  simp -implicitDefEqProofs [e1, ot]
theorem f_seal_word {r : List Int} {n : Nat} (hr : Row r n) {T : List Rule} {s m : Nat} (hT : ∀ q ∈ T, OkR s q ∧ q.1.length ≤ m) (hTl : T.length ≤ 100) (hs : 0 < s) (hm : 2 ≤ m) (hm6 : m ≤ 6) {p : Int} (h0 : 0 ≤ p) (h1 : p + 18 ≤ n) : ∃ w, F_x_law_seal_word [eL r, .int p, eT T, .int s] = some (.val (eW w)) ∧ Wd s w ∧ w.length ≤ m * 4 := by
  have hl := hr.1
  have c0 := Int.emod_nonneg (cell r p) (b := 5) (by omega)
  have c1 := Int.emod_lt_of_pos (cell r p) (b := 5) (by omega)
  obtain ⟨z, hz⟩ : ∃ z, z = cell r p % 5 := ⟨_, rfl⟩
  rw [← hz] at c0 c1
  obtain ⟨w, v5, v6, e, hw, hwl⟩ : ∃ w v5 v6, L1_x_law_seal_word [.par (eL r), .val (.int p), .val (eT T), .val (.int s), .val (eW []), .no, .no] = some (.nx [.par (eL r), .val (.int p), .val (eT T), .val (.int s), .val (eW w), v5, v6]) ∧ Wd s w ∧ w.length ≤ m * 4 := by
    unfold L1_x_law_seal_word
    obtain ⟨δ', h1, w, v5, v6, h5, h6, rfl, hw, hwl⟩ := for_rng (lks := []) (gi := (gRng1 (gOp modD (gCB oInt (gCons (gIx (gVar 0) (gVar 1)) gNil)) (gC (.int 5))))) (gt := gName 5) (gb := B1_x_law_seal_word)
      (δ := [.par (eL r), .val (.int p), .val (eT T), .val (.int s), .val (eW []), .no, .no]) z.toNat
      (fun i δ => ∃ w v5 v6, NL v5 ∧ NL v6 ∧ δ = [.par (eL r), .val (.int p), .val (eT T), .val (.int s), .val (eW w), v5, v6] ∧ Wd s w ∧ w.length ≤ m * i)
      (rng_ofI (by simp -implicitDefEqProofs (disch := first | omega | simp) [ixp, ← hz]) (by omega) (by omega)) ⟨[], .no, .no, nl_no, nl_no, by simp, Wd.nil, by simp⟩ (fun i δ hi ⟨w, v5, v6, h5, h6, hd, hw, hwl⟩ => by
        subst hd
        have hi4 : i ≤ 3 := by omega
        have hmi : m * i ≤ 6 * 4 := Nat.mul_le_mul hm6 (by omega)
        have hms : m * (i + 1) = m * i + m := by rw [Nat.mul_add, Nat.mul_one]
        refine ⟨[.par (eL r), .val (.int p), .val (eT T), .val (.int s), .val (eW w), .val (.int i), v6], by simp -implicitDefEqProofs [ev_store, stK_nl h5], ?_⟩
        unfold B1_x_law_seal_word
        obtain ⟨st, hst⟩ : ∃ st : Int, st = p + 1 + 4 * (i : Int) := ⟨_, rfl⟩
        have add : ∀ v : List Int, v.length ≤ m → addD (eW w) (eW v) = some (.val (eW (w ++ v))) := fun v hv => addD_eW (by omega)
        have fin : ∀ v : List Int, Wd s v → v.length ≤ m → Wd s (w ++ v) ∧ (w ++ v).length ≤ m * (i + 1) := fun v a b => ⟨hw.app a, by rw [List.length_append]; omega⟩
        obtain ⟨u, eu, ul, uw⟩ := f_wordP hr (p := st + 1) (s := s) (m := 2) (by omega) (by omega) (by omega) (by omega) (by omega)
        have au := add u (by omega)
        have els : ∃ w', seqK (some (.nx [.par (eL r), .val (.int p), .val (eT T), .val (.int s), .val (eW w), .val (.int i), .val (.int st)])) (gSet 4 (gOp addD (gVar 4) (gCall 4 F_x_law_word (gCons (gVar 0) (gCons (gOp addD (gVar 6) (gC (.int 1))) (gCons (gVar 3) (gCons (gC (.int 2)) gNil))))))) = some (.nx [.par (eL r), .val (.int p), .val (eT T), .val (.int s), .val (eW w'), .val (.int i), .val (.int st)]) ∧ w' = w ++ u :=
          ⟨w ++ u, by simp -implicitDefEqProofs [ev_store, eu, au], rfl⟩
        obtain ⟨w', els, hw'⟩ := els
        obtain ⟨fa, fb⟩ := fin u uw (by omega)
        rw [← hw'] at fa fb
        by_cases g1 : 0 < T.length
        · by_cases g2 : 0 < cell r st % 3
          · have g3 : (0 : Int) < T.length := by omega
            obtain ⟨c, hc⟩ : ∃ c, c = cell r (st + 1) := ⟨_, rfl⟩
            have d0 := Int.emod_nonneg c (b := (T.length : Int)) (by omega)
            have d1 := Int.emod_lt_of_pos c (b := (T.length : Int)) (by omega)
            have ex := ixM (r := .val (eT T)) (as := T) (f := eRule) ([], []) (.inl rfl) (fun _ => pu_eRule) d0 d1
            obtain ⟨q, hq1⟩ : ∃ q, q = T.getD (c % (T.length : Int)).toNat ([], []) := ⟨_, rfl⟩
            have q4 := hT q (by rw [hq1]; exact getD_mem (by omega))
            rw [← hq1] at ex
            obtain ⟨ga, gb⟩ := fin q.1 q4.1.l q4.2
            refine ⟨[.par (eL r), .val (.int p), .val (eT T), .val (.int s), .val (eW (w ++ q.1)), .val (.int i), .val (.int st)], ?_, _, _, _, nl_val, nl_val, rfl, ga, gb⟩
            simp -implicitDefEqProofs (disch := first | omega | simp) [ev_store, mulD_l, ← hst, stK_nl h6, ixp, ← hc, g1, g2, g3, ex, add q.1 q4.2]
          · refine ⟨[.par (eL r), .val (.int p), .val (eT T), .val (.int s), .val (eW w'), .val (.int i), .val (.int st)], ?_, _, _, _, nl_val, nl_val, rfl, fa, fb⟩
            rw [← els]
            simp -implicitDefEqProofs (disch := first | omega | simp) [ev_store, mulD_l, ← hst, stK_nl h6, ixp, g1, g2]
        · refine ⟨[.par (eL r), .val (.int p), .val (eT T), .val (.int s), .val (eW w'), .val (.int i), .val (.int st)], ?_, _, _, _, nl_val, nl_val, rfl, fa, fb⟩
          rw [← els]
          simp -implicitDefEqProofs (disch := first | omega | simp) [ev_store, mulD_l, ← hst, stK_nl h6, ixp, g1])
    have : m * z.toNat ≤ m * 4 := Nat.mul_le_mul_left m (by omega)
    exact ⟨w, _, _, h1, hw, by omega⟩
  refine ⟨w, ?_, hw, hwl⟩
  unfold F_x_law_seal_word G_x_law_seal_word
  rw [ev_run]
  unfold startD
  simp -implicitDefEqProofs [ev_store, tup_nil, e]
end DL

set_option Elab.async false
set_option linter.all false
set_option maxRecDepth 100000
set_option maxHeartbeats 4000000
namespace DL
open PySem L2 DL
theorem f_scene {r : List Int} (hr : Row r 182) : ∃ (T : List Rule) (s : Nat) (w : List Int), F_x_law_seal_table [eL r] = some (.val (eT T)) ∧ F_x_law_seal_signs [eL r] = some (.val (.int ((s + 1 : Nat) : Int))) ∧ F_x_law_seal_word [eL r, .int 164, eT T, .int ((s + 1 : Nat) : Int)] = some (.val (eW w)) ∧
    (∀ q ∈ T, OkR (s + 1) q) ∧ T.length ≤ 12 ∧ Wd (s + 1) w ∧ mu s w ≤ 500 ∧ s ≤ 3 ∧ w.length ≤ 24 := by
  have hl := hr.1
  by_cases h6 : cell r 1 % 16 = 6
  · obtain ⟨T, e1, hT, tl⟩ := f_long_table hr (p := 6) (s := 2) (m := 6) (t := 12) (by omega) (by omega) (by omega) (by omega) (by omega) (by omega)
    obtain ⟨w, e2, hw, wl⟩ := f_seal_word hr (T := T) (s := 2) (m := 6) hT (by omega) (by omega) (by omega) (by omega) (p := 164) (by omega) (by omega)
    have e1 : F_x_law_long_table [eL r, .int 6, .int 2, .int 6, .int 12] = some (.val (eT T)) := e1
    refine ⟨T, 1, w, ?_, ?_, e2, fun q hq => (hT q hq).1, by omega, hw, Nat.le_trans (mu_le (L := 24) hw (by omega)) (by decide), by omega, by omega⟩
    · unfold F_x_law_seal_table G_x_law_seal_table
      rw [ev_run]
      unfold startD
      simp -implicitDefEqProofs (disch := first | omega | simp) [ev_store, ixp, h6, e1]
    · unfold F_x_law_seal_signs G_x_law_seal_signs
      rw [ev_run]
      unfold startD
      simp -implicitDefEqProofs (disch := first | omega | simp) [ev_store, ixp, h6]
  · by_cases h7 : cell r 1 % 16 = 7
    · obtain ⟨T, e1, hT, tl⟩ := f_long_table hr (p := 6) (s := 4) (m := 4) (t := 12) (by omega) (by omega) (by omega) (by omega) (by omega) (by omega)
      obtain ⟨w, e2, hw, wl⟩ := f_seal_word hr (T := T) (s := 4) (m := 4) hT (by omega) (by omega) (by omega) (by omega) (p := 164) (by omega) (by omega)
      have e1 : F_x_law_long_table [eL r, .int 6, .int 4, .int 4, .int 12] = some (.val (eT T)) := e1
      refine ⟨T, 3, w, ?_, ?_, e2, fun q hq => (hT q hq).1, by omega, hw, Nat.le_trans (mu_le (L := 16) hw (by omega)) (by decide), by omega, by omega⟩
      · unfold F_x_law_seal_table G_x_law_seal_table
        rw [ev_run]
        unfold startD
        simp -implicitDefEqProofs (disch := first | omega | simp) [ev_store, ixp, h7, e1]
      · unfold F_x_law_seal_signs G_x_law_seal_signs
        rw [ev_run]
        unfold startD
        simp -implicitDefEqProofs (disch := first | omega | simp) [ev_store, ixp, h7]
    · obtain ⟨T, e1, hT, tl⟩ := f_long_table hr (p := 6) (s := 3) (m := 3) (t := 4) (by omega) (by omega) (by omega) (by omega) (by omega) (by omega)
      obtain ⟨w, e2, hw, wl⟩ := f_seal_word hr (T := T) (s := 3) (m := 3) hT (by omega) (by omega) (by omega) (by omega) (p := 164) (by omega) (by omega)
      have e1 : F_x_law_long_table [eL r, .int 6, .int 3, .int 3, .int 4] = some (.val (eT T)) := e1
      refine ⟨T, 2, w, ?_, ?_, e2, fun q hq => (hT q hq).1, by omega, hw, Nat.le_trans (mu_le (L := 12) hw (by omega)) (by decide), by omega, by omega⟩
      · unfold F_x_law_seal_table G_x_law_seal_table
        rw [ev_run]
        unfold startD
        simp -implicitDefEqProofs (disch := first | omega | simp) [ev_store, ixp, h6, h7, e1]
      · unfold F_x_law_seal_signs G_x_law_seal_signs
        rw [ev_run]
        unfold startD
        simp -implicitDefEqProofs (disch := first | omega | simp) [ev_store, ixp, h6, h7]
theorem erase_map {α β : Type} (f : α → β) : ∀ (l : List α) (i : Nat), (l.map f).eraseIdx i = (l.eraseIdx i).map f
  | [], _ => rfl
  | a :: l, 0 => rfl
  | a :: l, i + 1 => by
    show f a :: (l.map f).eraseIdx i = f a :: (l.eraseIdx i).map f
    rw [erase_map f l i]
theorem ge_perm {α : Type} : ∀ (l : List α) {i : Nat} (h : i < l.length), (l[i] :: l.eraseIdx i).Perm l
  | a :: l, 0, _ => List.Perm.refl _
  | a :: l, i + 1, h => (List.Perm.swap a (l[i]'(by simpa using h)) (l.eraseIdx i)).trans ((ge_perm l (by simpa using h)).cons a)
theorem norm_mu {s : Nat} {T : List Rule} (hT : ∀ q ∈ T, OkR (s + 1) q) {w : List Int} (hw : Wd (s + 1) w) : mu s (norm s T w) ≤ mu s w := by
  have go : ∀ (n : Nat) (w : List Int), Wd (s + 1) w → mu s (nf T n w) ≤ mu s w := fun n => by
    induction n with
    | zero => exact fun w _ => Nat.le_refl _
    | succ n ih =>
      intro w hw
      show mu s (match red1 T w with | none => w | some w' => nf T n w') ≤ _
      cases e : red1 T w with
      | none => exact Nat.le_refl _
      | some w' =>
        obtain ⟨s1, s2, _⟩ := red1_step hT hw e
        exact Nat.le_trans (ih w' s2) (Nat.le_of_lt s1)
  exact go _ w hw
-- the chosen signs
theorem f_chosen {r : List Int} {n : Nat} (hr : Row r n) {m : Nat} (hn : 6 ≤ n) (hm : 4 ≤ m) (hm1 : m ≤ 1000) : ∃ c, F_x_law_chosen [eL r, .int 2, .int 4, .int m] = some (.own (eL c)) ∧ c.length = 4 ∧ c.Nodup ∧ Wd m c := by
  have hl := hr.1
  obtain ⟨rg, hrg⟩ : ∃ rg : List Int, rg = (List.range m).map fun i : Nat => (i : Int) := ⟨_, rfl⟩
  have rgl : rg.length = m := by rw [hrg]; simp
  have rgn : rg.Nodup := by
    rw [hrg]
    exact List.Pairwise.map _ (fun a b h e => h (by omega)) List.nodup_range
  have rgw : Wd m rg := fun x hx => by
    rw [hrg] at hx
    obtain ⟨i, hi, rfl⟩ := List.mem_map.mp hx
    have := List.mem_range.mp hi
    exact ⟨by omega, by omega⟩
  obtain ⟨fr, c, v6, e, hcl, hp⟩ : ∃ fr c v6, L1_x_law_chosen [.par (eL r), .val (.int 2), .val (.int 4), .val (.int m), .own (eL rg), .own (eL []), .no] = some (.nx [.par (eL r), .val (.int 2), .val (.int 4), .val (.int m), .own (eL fr), .own (eL c), v6]) ∧ c.length = 4 ∧ (c ++ fr).Perm rg := by
    unfold L1_x_law_chosen
    obtain ⟨δ', h1, fr, c, v6, h6, rfl, hcl, hp⟩ := for_rng (lks := []) (gi := gRng1 (gVar 2)) (gt := gName 6) (gb := B1_x_law_chosen) (δ := [.par (eL r), .val (.int 2), .val (.int 4), .val (.int m), .own (eL rg), .own (eL []), .no]) 4
      (fun i δ => ∃ fr c v6, NL v6 ∧ δ = [.par (eL r), .val (.int 2), .val (.int 4), .val (.int m), .own (eL fr), .own (eL c), v6] ∧ c.length = i ∧ (c ++ fr).Perm rg)
      (rng_of (by simp) (by omega)) ⟨rg, [], .no, nl_no, by simp, rfl, List.Perm.refl _⟩ (fun i δ hi ⟨fr, c, v6, h6, hd, hcl, hp⟩ => by
        subst hd
        have fl : fr.length + i = m := by
          have := hp.length_eq
          rw [List.length_append] at this
          omega
        refine ⟨[.par (eL r), .val (.int 2), .val (.int 4), .val (.int m), .own (eL fr), .own (eL c), .val (.int i)], by simp -implicitDefEqProofs [ev_store, stK_nl h6], ?_⟩
        unfold B1_x_law_chosen
        have F0 : (0 : Int) < fr.length := by omega
        have d0 := Int.emod_nonneg (cell r (2 + i)) (b := (fr.length : Int)) (by omega)
        have d1 := Int.emod_lt_of_pos (cell r (2 + i)) (b := (fr.length : Int)) F0
        obtain ⟨z, hz⟩ : ∃ z, z = cell r (2 + i) % (fr.length : Int) := ⟨_, rfl⟩
        rw [← hz] at d0 d1
        have zl : z.toNat < fr.length := by omega
        have ev : gOp modD (gCB oInt (gCons (gIx (gVar 0) (gOp addD (gVar 1) (gVar 6))) gNil)) (gCB oLen (gCons (gVar 4) gNil)) [.par (eL r), .val (.int 2), .val (.int 4), .val (.int m), .own (eL fr), .own (eL c), .val (.int i)] = some (.val (.int z)) := by
          simp -implicitDefEqProofs (disch := first | omega | simp) [ixp, F0, ← hz]
        have hpop : gPopAt 4 (gOp modD (gCB oInt (gCons (gIx (gVar 0) (gOp addD (gVar 1) (gVar 6))) gNil)) (gCB oLen (gCons (gVar 4) gNil))) [.par (eL r), .val (.int 2), .val (.int 4), .val (.int m), .own (eL fr), .own (eL c), .val (.int i)] =
            some (.int fr[z.toNat], [.par (eL r), .val (.int 2), .val (.int 4), .val (.int m), .own (eL (fr.eraseIdx z.toNat)), .own (eL c), .val (.int i)]) := by
          unfold gPopAt
          rw [ev]
          show (if -(2 ^ 63) ≤ z ∧ z < 2 ^ 63 then (seqIndex? z (fr.map D.int).length).bind fun m => popD 4 m _ else none) = _
          rw [if_pos ⟨by omega, by omega⟩]
          have si : seqIndex? z (fr.map D.int).length = some z.toNat := by
            have nz : ¬ z < 0 := by omega
            simp [seqIndex?, nz, d0, d1]
          rw [si]
          show (match (fr.map D.int)[z.toNat]? with | some d => if pu d = true then some (d, purge _) else none | none => none) = _
          rw [List.getElem?_map, List.getElem?_eq_getElem zl]
          show (if pu (.int fr[z.toNat]) = true then some (D.int fr[z.toNat], purge ([.par (eL r), .val (.int 2), .val (.int 4), .val (.int m), .own (.lst ((fr.map D.int).eraseIdx z.toNat)), .own (eL c), .val (.int i)] : DSt)) else none) = _
          rw [if_pos pu_int, erase_map]
          rfl
        refine ⟨[.par (eL r), .val (.int 2), .val (.int 4), .val (.int m), .own (eL (fr.eraseIdx z.toNat)), .own (eL (c ++ [fr[z.toNat]])), .val (.int i)], ?_, fr.eraseIdx z.toNat, c ++ [fr[z.toNat]], _, nl_val, rfl, by rw [List.length_append, hcl]; rfl, ?_⟩
        · unfold gAppM
          rw [hpop]
          show (if (c.map D.int).length < sizeLine then some (O.nx (purge ([.par (eL r), .val (.int 2), .val (.int 4), .val (.int m), .own (eL (fr.eraseIdx z.toNat)), .own (.lst (c.map D.int ++ [D.int fr[z.toNat]])), .val (.int i)] : DSt))) else none) = _
          rw [if_pos (by rw [List.length_map]; exact lt_size (by omega)), show c.map D.int ++ [D.int fr[z.toNat]] = (c ++ [fr[z.toNat]]).map D.int by rw [List.map_append]; rfl]
          rfl
        · rw [List.append_assoc]
          exact ((ge_perm fr zl).append_left c).trans hp)
    exact ⟨fr, c, _, h1, hcl, hp⟩
  refine ⟨c, ?_, hcl, ?_, fun x hx => rgw x (hp.subset (List.mem_append_left _ hx))⟩
  · unfold F_x_law_chosen G_x_law_chosen
    rw [ev_run]
    unfold startD
    have lr : ∀ δ : DSt, gVar 3 δ = some (.val (.int m)) → gListRg (gVar 3) δ = some (.own (eL rg)) := fun δ h => by
      unfold gListRg
      rw [h]
      show (if 0 ≤ (m : Int) ∧ (m : Int) ≤ 1000000 then some (R.own (.lst (rgD m))) else none) = _
      rw [if_pos ⟨by omega, by omega⟩, rgD_eq, Int.toNat_natCast, hrg]
      rfl
    simp -implicitDefEqProofs [ev_store, lr, mkLst_nil, eL_nil, e]
  · exact (List.nodup_append.mp (hp.nodup_iff.mpr rgn)).1
theorem inj_of {c : List Int} (h : c.Nodup) {s : Nat} (hs : s ≤ c.length) : Inj s (cell c) := fun x y x0 x1 y0 y1 e => by
  unfold cell at e
  rw [List.getD_eq_getElem?_getD, List.getD_eq_getElem?_getD, List.getElem?_eq_getElem (by omega), List.getElem?_eq_getElem (by omega)] at e
  have e : c[x.toNat]'(by omega) = c[y.toNat]'(by omega) := e
  rcases Nat.lt_trichotomy x.toNat y.toNat with k | k | k
  · exact absurd e (List.pairwise_iff_getElem.mp h _ _ _ _ k)
  · omega
  · exact absurd e.symm (List.pairwise_iff_getElem.mp h _ _ _ _ k)
theorem f_named_word {w c : List Int} {s : Nat} (hw : Wd s w) (hs : s ≤ c.length) (hl : w.length ≤ 1000) : F_x_law_named_word [eW w, eL c] = some (.val (eW (w.map (cell c)))) := by
  have e := lc_M (vs := [2]) (gi := gSeq (gVar 0)) (gt := gName 2) (gc := gYes) (ge := gIx (gVar 1) (gVar 2)) (δ := [.val (eW w), .par (eL c), .no]) (kd := .val) D.int (fun x => D.int (cell c x)) w (seq_of (r := .val (eW w)) rfl rfl) (by omega) fun x hx => by
    obtain ⟨x0, x1⟩ := hw x hx
    exact ⟨[.val (eW w), .par (eL c), .val (.int x)], by simp -implicitDefEqProofs [ev_store, mk_pu], rfl, .val (.int (cell c x)), by simp -implicitDefEqProofs (disch := first | omega | simp) [ixp], rfl, rfl⟩
  have e2 : w.map (fun x => D.int (cell c x)) = (w.map (cell c)).map D.int := by rw [List.map_map]; rfl
  rw [e2] at e
  have e : gLc [2] (gSeq (gVar 0)) (gName 2) gYes (gIx (gVar 1) (gVar 2)) [.val (eW w), .par (eL c), .no] = some (.own (eL (w.map (cell c)))) := e
  unfold F_x_law_named_word G_x_law_named_word
  rw [ev_run]
  unfold startD
  simp -implicitDefEqProofs [e]
theorem f_named_table {T : List Rule} {c : List Int} {s : Nat} (hT : ∀ q ∈ T, OkR s q) (hs : s ≤ c.length) (hl : T.length ≤ 1000) : F_x_law_named_table [eT T, eL c] = some (.val (eT (T.map (nmR (cell c))))) := by
  have e := lc_M (vs := [2]) (gi := gSeq (gVar 0)) (gt := gName 2) (gc := gYes) (ge := (gTup (gCons (gCall 2 F_x_law_named_word (gCons (gIx (gVar 2) (gC (.int 0))) (gCons (gVar 1) gNil))) (gCons (gCall 2 F_x_law_named_word (gCons (gIx (gVar 2) (gC (.int 1))) (gCons (gVar 1) gNil))) gNil)))) (δ := [.val (eT T), .par (eL c), .no]) (kd := .val) eRule (fun q => eRule (nmR (cell c) q)) T (seq_of (r := .val (eT T)) rfl rfl) (by omega) fun q hq => by
    have ok := hT q hq
    have q1 := ok.len
    have q2 : q.2.length ≤ 6 := by
      rcases ok.small with h | ⟨a, b, rfl, _⟩
      · omega
      · simp
    have a1 := f_named_word (c := c) ok.l hs (by omega)
    have a2 := f_named_word (c := c) ok.r hs (by omega)
    exact ⟨[.val (eT T), .par (eL c), .val (eRule q)], by simp -implicitDefEqProofs [ev_store, mk_pu], rfl, .val (eRule (nmR (cell c) q)), by simp -implicitDefEqProofs [a1, a2]; rfl, rfl, rfl⟩
  have e2 : T.map (fun q => eRule (nmR (cell c) q)) = (T.map (nmR (cell c))).map eRule := by rw [List.map_map]; rfl
  rw [e2] at e
  have ot : oTuple [.own (.lst ((T.map (nmR (cell c))).map eRule))] = some (.val (eT (T.map (nmR (cell c))))) := oTuple_p (puL_map (fun _ => pu_eRule) _)
  obtain ⟨T2, hT2⟩ : ∃ T2, T2 = (T.map (nmR (cell c))).map eRule := ⟨_, rfl⟩
  rw [← hT2] at e ot
  unfold F_x_law_named_table G_x_law_named_table
  rw [ev_run]
  unfold startD
  simp -implicitDefEqProofs [e, ot]
theorem f_is_int (i : Int) : F_x_law_is_int [.int i] = some (.val (.bl true)) := by
  unfold F_x_law_is_int G_x_law_is_int
  rw [ev_run]
  unfold startD
  simp -implicitDefEqProofs
@[simp] theorem isa_tW {w : List Int} : isa .tuple (eW w) = true := (rfl)
theorem f_is_word {w : List Int} {m : Nat} (hw : Wd m w) (hl : w.length ≤ 1000) : F_x_law_is_word [eW w, .int m] = some (.val (.bl true)) := by
  have e := lc_M (vs := [2]) (gi := gSeq (gVar 0)) (gt := gName 2) (gc := gYes) (ge := (gAnd (gCall 1 F_x_law_is_int (gCons (gVar 2) gNil)) (gChain leD ltD (gC (.int 0)) (gVar 2) (gVar 1)))) (δ := [.val (eW w), .val (.int m), .no]) (kd := .val) D.int (fun _ => D.bl true) w (seq_of (r := .val (eW w)) rfl rfl) (by omega) fun x hx => by
    obtain ⟨x0, x1⟩ := hw x hx
    exact ⟨[.val (eW w), .val (.int m), .val (.int x)], by simp -implicitDefEqProofs [ev_store, mk_pu], rfl, .val (.bl true), by simp -implicitDefEqProofs [f_is_int, x0, x1], rfl, rfl⟩
  have oa : oAll [.own (.lst (w.map fun _ => D.bl true))] = some (.val (.bl true)) := oAll_true fun d hd => by
    obtain ⟨_, _, rfl⟩ := List.mem_map.mp hd; rfl
  obtain ⟨T2, hT2⟩ : ∃ T2, T2 = w.map fun _ : Int => D.bl true := ⟨_, rfl⟩
  rw [← hT2] at e oa
  unfold F_x_law_is_word G_x_law_is_word
  rw [ev_run]
  unfold startD
  simp -implicitDefEqProofs [e, oa]
end DL

set_option Elab.async false
set_option linter.all false
set_option maxRecDepth 100000
set_option maxHeartbeats 4000000
namespace DL
open PySem L2 DL
theorem OkR.rlen {s : Nat} {q : Rule} (h : OkR s q) : q.2.length ≤ 6 := by
  have q1 := h.len
  rcases h.small with h | ⟨a, b, rfl, _⟩
  · omega
  · simp
theorem while_t {c : GT} {b : GS} {n : Nat} {δ δ2 : DSt} (h : c δ = some true) (h2 : b δ = some (.nx δ2)) : whileL c b (n + 1) δ = whileL c b n δ2 := by
  show (c δ).bind _ = _
  rw [h]
  simp only [Option.bind_some, if_true]
  rw [h2]
  rfl
theorem while_f {c : GT} {b : GS} {n : Nat} {δ : DSt} (h : c δ = some false) : whileL c b (n + 1) δ = some (.nx δ) := by
  show (c δ).bind _ = _
  rw [h]
  rfl
/-- all the words of a reduction but the first -/
def ch (T : List Rule) : Nat → List Int → List (List Int)
  | 0, _ => []
  | n + 1, w => match red1 T w with
    | none => []
    | some w' => w' :: ch T n w'
def chain (s : Nat) (T : List Rule) (w : List Int) : List (List Int) := ch T (mu s w) w
theorem ch_none {T : List Rule} {w : List Int} (h : red1 T w = none) (n : Nat) : ch T n w = [] := by
  cases n with
  | zero => rfl
  | succ n => show (match red1 T w with | none => [] | some w' => w' :: ch T n w') = []; rw [h]
theorem ch_some {T : List Rule} {w w' : List Int} (h : red1 T w = some w') (n : Nat) : ch T (n + 1) w = w' :: ch T n w' := by
  show (match red1 T w with | none => [] | some w' => w' :: ch T n w') = _
  rw [h]
theorem ch_eq {s : Nat} {T : List Rule} (hT : ∀ q ∈ T, OkR (s + 1) q) : ∀ (n m : Nat) (w : List Int), Wd (s + 1) w → mu s w ≤ n → mu s w ≤ m → ch T n w = ch T m w
  | 0, m, w, hw, h, h2 => by
    have r0 : red1 T w = none := by
      cases e : red1 T w with
      | none => rfl
      | some w' => have := (red1_step hT hw e).1; omega
    rw [ch_none r0, ch_none r0]
  | n + 1, m, w, hw, h, h2 => by
    cases e : red1 T w with
    | none => rw [ch_none e, ch_none e]
    | some w' =>
      obtain ⟨s1, s2, s3⟩ := red1_step hT hw e
      cases m with
      | zero => omega
      | succ m => rw [ch_some e, ch_some e, ch_eq hT n m w' s2 (by omega) (by omega)]
theorem chain_stop {s : Nat} {T : List Rule} {w : List Int} (h : red1 T w = none) : chain s T w = [] := ch_none h _
theorem chain_step {s : Nat} {T : List Rule} (hT : ∀ q ∈ T, OkR (s + 1) q) {w w' : List Int} (hw : Wd (s + 1) w) (h : red1 T w = some w') : chain s T w = w' :: chain s T w' := by
  obtain ⟨s1, s2, s3⟩ := red1_step hT hw h
  unfold chain
  rw [ch_eq hT (mu s w) (mu s w + 1) w hw (Nat.le_refl _) (by omega), ch_some h, ch_eq hT (mu s w) (mu s w') w' s2 (by omega) (Nat.le_refl _)]
theorem ch_len {T : List Rule} : ∀ (n : Nat) (w : List Int), (ch T n w).length ≤ n
  | 0, w => Nat.le_refl _
  | n + 1, w => by
    cases e : red1 T w with
    | none => rw [ch_none e]; exact Nat.zero_le _
    | some w' => rw [ch_some e, List.length_cons]; have := ch_len (T := T) n w'; omega
theorem ch_all {s : Nat} {T : List Rule} (hT : ∀ q ∈ T, OkR (s + 1) q) : ∀ (n : Nat) (w : List Int), Wd (s + 1) w → ∀ x ∈ ch T n w, Wd (s + 1) x ∧ x.length ≤ w.length
  | 0, w, hw, x, hx => nomatch hx
  | n + 1, w, hw, x, hx => by
    cases e : red1 T w with
    | none => rw [ch_none e] at hx; exact nomatch hx
    | some w' =>
      obtain ⟨s1, s2, s3⟩ := red1_step hT hw e
      rw [ch_some e] at hx
      rcases List.mem_cons.mp hx with rfl | hx
      · exact ⟨s2, s3⟩
      · have := ch_all hT n w' s2 x hx
        exact ⟨this.1, Nat.le_trans this.2 s3⟩
theorem appW {i : Nat} {δ : DSt} {as : List (List Int)} {a : List Int} (h : as.length ≤ 100000) : appK i δ (.own (.lst (as.map eW))) (.val (eW a)) = some (.nx (purge (δ.set i (.own (.lst ((as ++ [a]).map eW)))))) := by
  rw [appK_own (by rw [List.length_map]; exact lt_size (by omega)) rfl, List.map_append]
  rfl
theorem red_len {T : List Rule} {s : Nat} (hT : ∀ q ∈ T, OkR (s + 1) q) (nm : Int → Int) : ∀ q ∈ T.map (nmR nm), q.2.length ≤ 1000 := fun q hq => by
  obtain ⟨q', hq', rfl⟩ := List.mem_map.mp hq
  have := (hT q' hq').rlen
  show (q'.2.map nm).length ≤ 1000
  rw [List.length_map]; omega
theorem f_red_loop {T : List Rule} {s : Nat} (hT : ∀ q ∈ T, OkR (s + 1) q) {nm : Int → Int} (hi : Inj (s + 1) nm) {W0 : List Int} : ∀ (n : Nat) (cur : List Int) (acc : List (List Int)), Wd (s + 1) cur → cur.length ≤ 100 → mu s cur < n → acc.length + n ≤ 10000 →
    whileL (gT (gOp notN (gVar 3) (gC .non))) B1_x_reduction n [.val (eT (T.map (nmR nm))), .val (eW W0), .own (.lst (acc.map eW)), .val (eO ((red1 T cur).map (List.map nm)))] = some (.nx [.val (eT (T.map (nmR nm))), .val (eW W0), .own (.lst ((acc ++ (chain s T cur).map (List.map nm)).map eW)), .val .non])
  | 0, cur, acc, hc, hcl, h, _ => by omega
  | n + 1, cur, acc, hc, hcl, h, ha => by
    have hT2 := red_len hT nm
    cases hr : red1 T cur with
    | none =>
      rw [chain_stop hr, List.map_nil, List.append_nil]
      refine while_f ?_
      simp -implicitDefEqProofs
    | some w' =>
      obtain ⟨s1, s2, s3⟩ := red1_step hT hc hr
      rw [chain_step hT hc hr]
      have ih := f_red_loop hT hi (W0 := W0) n w' (acc ++ [w'.map nm]) s2 (by omega) (by omega) (by rw [List.length_append, List.length_singleton]; omega)
      have fr := f_reduced_once hT2 (w := w'.map nm) (by rw [List.length_map]; omega)
      rw [red1_map hi s2 hT] at fr
      rw [List.map_cons, show acc ++ List.map nm w' :: List.map (List.map nm) (chain s T w') = acc ++ [List.map nm w'] ++ List.map (List.map nm) (chain s T w') by simp]
      rw [← ih]
      have ap : ∀ δ, appK 2 δ (.own (.lst (acc.map eW))) (.val (eW (w'.map nm))) = _ := fun δ => appW (by omega)
      obtain ⟨W, hW⟩ : ∃ W, W = w'.map nm := ⟨_, rfl⟩
      obtain ⟨T', hT'⟩ : ∃ T', T' = T.map (nmR nm) := ⟨_, rfl⟩
      refine while_t ?_ ?_
      · simp -implicitDefEqProofs
      · unfold B1_x_reduction
        rw [Option.map_some, ← hW, ← hT']
        rw [← hW] at ap
        rw [← hW, ← hT'] at fr
        obtain ⟨A, hA⟩ : ∃ A, A = (acc ++ [W]).map eW := ⟨_, rfl⟩
        rw [← hA] at ap ⊢
        simp -implicitDefEqProofs [ev_store, ap, fr]
theorem mkLst_1 {d : D} : mkLst [.val d] = some (.own (.lst [d])) := by
  unfold mkLst
  exact if_pos ⟨le_size (n := 1) (by decide), rfl⟩
theorem f_reduction {T : List Rule} {s : Nat} (hT : ∀ q ∈ T, OkR (s + 1) q) {nm : Int → Int} (hi : Inj (s + 1) nm) {w : List Int} (hw : Wd (s + 1) w) (hl : w.length ≤ 100) (hm : mu s w ≤ 500) :
    F_x_reduction [eT (T.map (nmR nm)), eW (w.map nm)] = some (.val (.tup ((w.map nm :: (chain s T w).map (List.map nm)).map eW))) := by
  have hT2 := red_len hT nm
  have fr := f_reduced_once hT2 (w := w.map nm) (by rw [List.length_map]; omega)
  rw [red1_map hi hw hT] at fr
  have e := f_red_loop hT hi (W0 := w.map nm) 700 w [w.map nm] hw hl (by omega) (by simp)
  obtain ⟨W, hW⟩ : ∃ W, W = w.map nm := ⟨_, rfl⟩
  obtain ⟨T', hT'⟩ : ∃ T', T' = T.map (nmR nm) := ⟨_, rfl⟩
  obtain ⟨A, hA⟩ : ∃ A, A = eO ((red1 T w).map (List.map nm)) := ⟨_, rfl⟩
  obtain ⟨L, hL⟩ : ∃ L, L = (W :: (chain s T w).map (List.map nm)).map eW := ⟨_, rfl⟩
  have pA : pu A = true := by
    rw [hA]
    cases red1 T w with
    | none => rfl
    | some x => exact pu_eW
  have pL : puL L = true := by rw [hL]; exact puL_map (fun _ => pu_eW) _
  rw [← hW, ← hT', ← hA] at fr
  rw [← hW, ← hT', ← hA, List.singleton_append, ← hL] at e
  have e : L1_x_reduction [.val (eT T'), .val (eW W), .own (.lst [eW W]), .val A] = some (.nx [.val (eT T'), .val (eW W), .own (.lst L), .val .non]) := e
  rw [← hW, ← hT', ← hL]
  have ot := oTuple_b pL
  unfold F_x_reduction G_x_reduction
  rw [ev_run]
  unfold startD
  simp -implicitDefEqProofs [ev_store, mkLst_1, fr, e, ot]
-- equality of tuples of words
theorem pdL_eWs : ∀ ws : List (List Int), pdL (ws.map eW) = ws.map fun w => PyData.tuple (w.map PyData.int)
  | [] => rfl
  | w :: ws => by
    show PyData.tuple (pdL (w.map D.int)) :: pdL (ws.map eW) = _
    rw [pdL_ints, pdL_eWs ws]; rfl
theorem canLay_eWs : ∀ ws : List (List Int), PyData.canLayAll0 (ws.map fun w => PyData.tuple (w.map PyData.int)) = true
  | [] => rfl
  | w :: ws => by
    show (PyData.canLayAll0 (w.map PyData.int) && PyData.canLayAll0 (ws.map fun w => PyData.tuple (w.map PyData.int))) = true
    rw [canLayAll_ints, canLay_eWs ws]; rfl
theorem depth_eWs : ∀ ws : List (List Int), PyData.depthAll (ws.map fun w => PyData.tuple (w.map PyData.int)) ≤ 1
  | [] => Nat.zero_le _
  | w :: ws => by
    show max (PyData.depthAll (w.map PyData.int) + 1) (PyData.depthAll (ws.map fun w => PyData.tuple (w.map PyData.int))) ≤ 1
    rw [depthAll_ints]
    have := depth_eWs ws
    omega
theorem eqv_eWs : ∀ ws : List (List Int), PyData.eqvAll (ws.map fun w => PyData.tuple (w.map PyData.int)) (ws.map fun w => PyData.tuple (w.map PyData.int)) = true
  | [] => rfl
  | w :: ws => by
    show (PyData.eqvAll (w.map PyData.int) (w.map PyData.int) && PyData.eqvAll (ws.map fun w => PyData.tuple (w.map PyData.int)) (ws.map fun w => PyData.tuple (w.map PyData.int))) = true
    rw [eqvAll_ints, eqv_eWs ws]; simp
theorem eqD_eWs (ws : List (List Int)) : eqD (.tup (ws.map eW)) (.tup (ws.map eW)) = some (.val (.bl true)) := by
  have ok : eqOk (.tup (ws.map eW)) = true := by
    show SeqAt.shaped (.tuple (pdL (ws.map eW))) = true
    rw [pdL_eWs]
    unfold SeqAt.shaped
    have h1 : PyData.canLay0 (.tuple (ws.map fun w => PyData.tuple (w.map PyData.int))) = true := canLay_eWs ws
    have h2 : PyData.depth (.tuple (ws.map fun w => PyData.tuple (w.map PyData.int))) ≤ 64 := by
      show PyData.depthAll (ws.map fun w => PyData.tuple (w.map PyData.int)) + 1 ≤ 64
      have := depth_eWs ws
      omega
    rw [h1, decide_eq_true h2]; rfl
  have eq : eqB (.tup (ws.map eW)) (.tup (ws.map eW)) = true := by
    show PyData.eqvAll (pdL (ws.map eW)) (pdL (ws.map eW)) = true
    rw [pdL_eWs]
    exact eqv_eWs ws
  unfold eqD
  rw [if_pos ⟨ok, ok⟩, eq]
theorem f_are_words {ws : List (List Int)} {m : Nat} (hw : ∀ w ∈ ws, Wd m w ∧ w.length ≤ 1000) (hl : ws.length ≤ 10000) : F_x_law_are_words [.tup (ws.map eW), .int m] = some (.val (.bl true)) := by
  have pL : puL (ws.map eW) = true := puL_map (fun _ => pu_eW) ws
  have e := lc_M (vs := [2]) (gi := gSeq (gVar 0)) (gt := gName 2) (gc := gYes) (ge := (gCall 2 F_x_law_is_word (gCons (gVar 2) (gCons (gVar 1) gNil)))) (δ := [.val (.tup (ws.map eW)), .val (.int m), .no]) (kd := .val) eW (fun _ => D.bl true) ws (seq_of (r := .val (.tup (ws.map eW))) rfl rfl) (by omega) fun x hx => by
    have f := f_is_word (hw x hx).1 (hw x hx).2
    exact ⟨[.val (.tup (ws.map eW)), .val (.int m), .val (eW x)], by simp -implicitDefEqProofs [ev_store, mk_pu], rfl, .val (.bl true), by simp -implicitDefEqProofs [f], rfl, rfl⟩
  have oa : oAll [.own (.lst (ws.map fun _ => D.bl true))] = some (.val (.bl true)) := oAll_true fun d hd => by
    obtain ⟨_, _, rfl⟩ := List.mem_map.mp hd; rfl
  obtain ⟨T2, hT2⟩ : ∃ T2, T2 = ws.map fun _ : List Int => D.bl true := ⟨_, rfl⟩
  obtain ⟨W2, hW2⟩ : ∃ W2, W2 = ws.map eW := ⟨_, rfl⟩
  rw [← hT2, ← hW2] at e
  rw [← hT2] at oa
  rw [← hW2] at pL ⊢
  have ar : argS (.tup W2) = .val (.tup W2) := by unfold argS; simp [pL]
  unfold F_x_law_are_words G_x_law_are_words
  rw [ev_run]
  unfold startD
  simp -implicitDefEqProofs [ar, e, oa]
theorem law_true (ns : List Int) (hns : ns.length ≤ 63) : F_x_law [.scr ns] = some (.val (.bl true)) := by
  obtain ⟨r, er, hr⟩ := f_row ns 182 (by omega)
  have hl := hr.1
  have er : F_x_law_row [.scr ns, .int 182] = some (.own (eL r)) := er
  obtain ⟨m, hm⟩ : ∃ m : Nat, (m : Int) = 4 + cell r 0 % 27 := ⟨(4 + cell r 0 % 27).toNat, by omega⟩
  obtain ⟨c0, ec, cl0, cn0, cw0⟩ := f_chosen hr (m := m) (by omega) (by omega) (by omega)
  obtain ⟨c, hc⟩ : ∃ c, c = sortI c0 := ⟨_, rfl⟩
  have hp := sortI_perm c0
  rw [← hc] at hp
  have cl : c.length = 4 := by rw [hp.length_eq, cl0]
  have cn : c.Nodup := hp.nodup_iff.mpr cn0
  have cw : Wd m c := fun x hx => cw0 x (hp.subset hx)
  have es : oSorted [.own (eL c0)] = some (.own (eL c)) := by
    show (intL (c0.map D.int)).map _ = _
    rw [show intL (c0.map D.int) = some c0 from intL_map c0, hc]
    rfl
  obtain ⟨T, s, w, e1, e2, e3, hT, tl, hw, hmu, hs, wl⟩ := f_scene hr
  have hT2 : ∀ q ∈ T, q.2.length ≤ 1000 := fun q hq => Nat.le_trans (hT q hq).rlen (by omega)
  have hi := inj_of cn (s := s + 1) (by omega)
  have f3 := f_named_table (c := c) hT (by omega) (by omega)
  have f4 := f_named_word (c := c) hw (by omega) (by omega)
  have f5 := f_reduction hT hi hw (by omega) hmu
  have cln : (chain s T w).length ≤ 500 := Nat.le_trans (ch_len _ _) hmu
  have call : ∀ x ∈ w.map (cell c) :: (chain s T w).map (List.map (cell c)), Wd m x ∧ x.length ≤ 1000 := fun x hx => by
    have one : ∀ y : List Int, Wd (s + 1) y → y.length ≤ 100 → Wd m (y.map (cell c)) ∧ (y.map (cell c)).length ≤ 1000 := fun y hy hyl => ⟨fun z hz => by
      obtain ⟨u, hu, rfl⟩ := List.mem_map.mp hz
      obtain ⟨y0, y1⟩ := hy u hu
      exact cw _ (cell_mem y0 (by omega)), by rw [List.length_map]; omega⟩
    rcases List.mem_cons.mp hx with rfl | hx
    · exact one w hw (by omega)
    · obtain ⟨y, hy, rfl⟩ := List.mem_map.mp hx
      obtain ⟨h1, h2⟩ := ch_all hT _ w hw y hy
      exact one y h1 (by omega)
  obtain ⟨C, hC⟩ : ∃ C, C = w.map (cell c) :: (chain s T w).map (List.map (cell c)) := ⟨_, rfl⟩
  have Cl : C.length ≤ 501 := by rw [hC, List.length_cons, List.length_map]; omega
  rw [← hC] at f5 call
  have f6 := f_are_words call (by omega)
  have f7 := eqD_eWs C
  have pC : puL (C.map eW) = true := puL_map (fun _ => pu_eW) C
  have loop : ∃ v5 v7, L1_x_law [.par (.scr ns), .own (eL r), .val (.int m), .own (eL c), .val (eT T), .val (eW w), .own (.lst [eW (w.map (cell c))]), .no, .no] = some (.nx [.par (.scr ns), .own (eL r), .val (.int m), .own (eL c), .val (eT T), v5, .own (.lst (C.map eW)), v7, .no]) := by
    unfold L1_x_law
    have := for_rng_ex (lks := []) (gi := (gRng1 (gC (.int 600)))) (gt := gName 7) (gb := B1_x_law) (δ := [.par (.scr ns), .own (eL r), .val (.int m), .own (eL c), .val (eT T), .val (eW w), .own (.lst [eW (w.map (cell c))]), .no, .no]) 600
      (fun i δ => ∃ cur acc v7, NL v7 ∧ δ = [.par (.scr ns), .own (eL r), .val (.int m), .own (eL c), .val (eT T), .val (eW cur), .own (.lst (acc.map eW)), v7, .no] ∧ Wd (s + 1) cur ∧ cur.length ≤ 100 ∧ acc ++ (chain s T cur).map (List.map (cell c)) = C ∧ mu s cur + i ≤ 600)
      (fun δ => ∃ v5 v7, δ = [.par (.scr ns), .own (eL r), .val (.int m), .own (eL c), .val (eT T), v5, .own (.lst (C.map eW)), v7, .no]) (fun _ => False)
      (rng_of (by simp) (by omega)) ⟨w, [w.map (cell c)], .no, nl_no, by simp, hw, by omega, by rw [hC]; rfl, by omega⟩ (fun i δ hi2 ⟨cur, acc, v7, h7, hd, hcu, hcl, hac, hmu2⟩ => by
        subst hd
        have fr := f_law_reduced hT2 (w := cur) (by omega)
        refine ⟨[.par (.scr ns), .own (eL r), .val (.int m), .own (eL c), .val (eT T), .val (eW cur), .own (.lst (acc.map eW)), .val (.int i), .no], by simp -implicitDefEqProofs [ev_store, stK_nl h7], ?_⟩
        unfold B1_x_law
        cases hrd : red1 T cur with
        | none =>
          rw [hrd] at fr
          rw [chain_stop hrd, List.map_nil, List.append_nil] at hac
          rw [hac]
          refine ⟨.bk [.par (.scr ns), .own (eL r), .val (.int m), .own (eL c), .val (eT T), .val .non, .own (.lst (C.map eW)), .val (.int i), .no], ?_, _, _, rfl⟩
          simp -implicitDefEqProofs [ev_store, fr]
        | some w' =>
          rw [hrd] at fr
          obtain ⟨s1, s2, s3⟩ := red1_step hT hcu hrd
          rw [chain_step hT hcu hrd] at hac
          have fn := f_named_word (c := c) s2 (by omega) (by omega)
          have acl : acc.length ≤ 501 := by rw [← hac, List.length_append] at Cl; omega
          have ap : ∀ δ, appK 6 δ (.own (.lst (acc.map eW))) (.val (eW (w'.map (cell c)))) = _ := fun δ => appW (by omega)
          refine ⟨.nx [.par (.scr ns), .own (eL r), .val (.int m), .own (eL c), .val (eT T), .val (eW w'), .own (.lst ((acc ++ [w'.map (cell c)]).map eW)), .val (.int i), .no], ?_, w', acc ++ [w'.map (cell c)], _, nl_val, rfl, s2, by omega, by rw [← hac]; simp, by omega⟩
          obtain ⟨W, hW⟩ : ∃ W, W = w'.map (cell c) := ⟨_, rfl⟩
          rw [← hW] at ap fn ⊢
          obtain ⟨A, hA⟩ : ∃ A, A = (acc ++ [W]).map eW := ⟨_, rfl⟩
          rw [← hA] at ap ⊢
          simp -implicitDefEqProofs [ev_store, fr, fn, ap])
    rcases this with ⟨δ2, e, ⟨cur, acc, v7, h7, rfl, hcu, hcl, hac, hmu2⟩ | ⟨v5, v7, rfl⟩⟩ | ⟨r, e, h⟩
    · have hnone : red1 T cur = none := by
        cases hr : red1 T cur with
        | none => rfl
        | some w' => have := (red1_step hT hcu hr).1; omega
      rw [chain_stop hnone, List.map_nil, List.append_nil] at hac
      rw [← hac]
      exact ⟨_, _, e⟩
    · exact ⟨_, _, e⟩
    · exact h.elim
  obtain ⟨v5, v7, e4⟩ := loop
  obtain ⟨W, hW⟩ : ∃ W, W = w.map (cell c) := ⟨_, rfl⟩
  obtain ⟨T', hT'⟩ : ∃ T', T' = T.map (nmR (cell c)) := ⟨_, rfl⟩
  have hd0 : ixR (.bor (.lst (C.map eW))) (.int 0) = some (.val (eW W)) := by
    have := ixM (r := .bor (.lst (C.map eW))) (as := C) (f := eW) [] (i := 0) (.inr rfl) (fun _ => pu_eW) (by omega) (by rw [hC, List.length_cons]; omega)
    rw [this, hC, hW]; rfl
  have ot := oTuple_b pC
  obtain ⟨CL, hCL⟩ : ∃ CL, CL = C.map eW := ⟨_, rfl⟩
  rw [← hCL] at hd0 ot f7 f6 f5 e4 pC
  rw [← hW] at f4 f5 e4
  rw [← hT'] at f3 f5
  obtain ⟨S, hS⟩ : ∃ S : Int, S = ((s + 1 : Nat) : Int) := ⟨_, rfl⟩
  rw [← hS] at e2 e3
  unfold F_x_law G_x_law
  rw [ev_run]
  unfold startD
  simp -implicitDefEqProofs (disch := first | omega | simp) [ev_store, er, ixb, ← hm, ec, es, e1, e2, e3, f3, f4, mkLst_1, e4, hd0, f5, f6, f7, ot]
end DL

set_option Elab.async false
set_option linter.all false
set_option maxRecDepth 100000
set_option maxHeartbeats 8000000
namespace DL
open PySem PySem.Spec PyProof.Rows L2 DL
def topS (i : Nat) : Stmt := PySem.Challenge.pw_anychain_k71_reduction.main.body.getD i (.Pass ⟨0, 0, 0, 0⟩)
/-- what the names of the module hold -/
structure Bt (mg : Str → Option Value) : Prop where
  b_all : mg "all" = none
  b_bool : mg "bool" = none
  b_int : mg "int" = none
  b_isinstance : mg "isinstance" = none
  b_len : mg "len" = none
  b_list : mg "list" = none
  b_range : mg "range" = none
  b_sorted : mg "sorted" = none
  b_tuple : mg "tuple" = none
section
variable {P : Program} {w : World} {K : PySem.W.Frag} {mg : Str → Option Value} {base : Heap}
abbrev s_x_stands_at : Stmt := topS 1
abbrev ns_x_stands_at : List Str := ["word", "part", "place"]
theorem sc_x_stands_at : FnScope ns_x_stands_at ["word", "part", "place"] (defScope s_x_stands_at) := ⟨rfl, rfl, rfl, by decide +kernel, rfl, by decide +kernel, by decide +kernel⟩
theorem ok_x_stands_at (h : Df K mg "stands_at" s_x_stands_at ["word", "part", "place"]) (T : Bt mg) : Cal P w K mg base "stands_at" ["word", "part", "place"] 1 F_x_stands_at :=
  Df.cal (k := 0) h sc_x_stands_at fun f cdv A outer s H E hr =>
  (dss_one (ds_ret (de_and (de_cmp od_le de_int (de_var 2)) (de_and (de_cmp od_le (de_op od_add (de_var 2) (de_callB cd_len T.b_len bt_len (da_cons (de_var 1) da_nil))) (de_callB cd_len T.b_len bt_len (da_cons (de_var 0) da_nil))) (de_one (de_cmp (od_eq hr) (de_sl (de_var 0) (do_some (de_var 2)) (do_some (de_op od_add (de_var 2) (de_callB cd_len T.b_len bt_len (da_cons (de_var 1) da_nil))))) (de_var 1)))))))
abbrev s_x_replaced : Stmt := topS 2
abbrev ns_x_replaced : List Str := ["word", "place", "count", "right"]
theorem sc_x_replaced : FnScope ns_x_replaced ["word", "place", "count", "right"] (defScope s_x_replaced) := ⟨rfl, rfl, rfl, by decide +kernel, rfl, by decide +kernel, by decide +kernel⟩
theorem ok_x_replaced (h : Df K mg "replaced" s_x_replaced ["word", "place", "count", "right"]) (T : Bt mg) : Cal P w K mg base "replaced" ["word", "place", "count", "right"] 1 F_x_replaced :=
  Df.cal (k := 0) h sc_x_replaced fun f cdv A outer s H E hr =>
  (dss_one (ds_ret (de_op od_add (de_op od_add (de_sl (de_var 0) do_none (do_some (de_var 1))) (de_var 3)) (de_sl (de_var 0) (do_some (de_op od_add (de_var 1) (de_var 2))) do_none))))
abbrev s_x_reduced_once : Stmt := topS 4
abbrev ns_x_reduced_once : List Str := ["table", "word", "place", "left", "right"]
theorem sc_x_reduced_once : FnScope ns_x_reduced_once ["table", "word"] (defScope s_x_reduced_once) := ⟨rfl, rfl, rfl, by decide +kernel, rfl, by decide +kernel, by decide +kernel⟩
theorem ok_x_reduced_once (h : Df K mg "reduced_once" s_x_reduced_once ["table", "word"]) (T : Bt mg) (c_x_stands_at : Cal P w K mg base "stands_at" ["word", "part", "place"] 1 F_x_stands_at) (c_x_replaced : Cal P w K mg base "replaced" ["word", "place", "count", "right"] 1 F_x_replaced) : Cal P w K mg base "reduced_once" ["table", "word"] 2 F_x_reduced_once :=
  Df.cal (k := 1) h sc_x_reduced_once fun f cdv A outer s H E hr =>
  (dss_cons (ds_for [] PassesOwn.never rfl (di_rng1 (de_callB cd_len T.b_len bt_len (da_cons (de_var 1) da_nil)) T.b_range) (dg_name 2 sc_x_reduced_once.nd) (dss_one (ds_for [0] PassesOwn.never rfl (di_seq (de_var 0)) (dg_tup rfl (dgs_cons (dg_name 3 sc_x_reduced_once.nd) (dgs_cons (dg_name 4 sc_x_reduced_once.nd) dgs_nil))) (dss_one (ds_if (dt_tru (de_fn c_x_stands_at (hr.mono (by decide)) (da_cons (de_var 1) (da_cons (de_var 3) (da_cons (de_var 2) da_nil))))) (dss_one (ds_ret (de_fn c_x_replaced (hr.mono (by decide)) (da_cons (de_var 1) (da_cons (de_var 2) (da_cons (de_callB cd_len T.b_len bt_len (da_cons (de_var 3) da_nil)) (da_cons (de_var 4) da_nil))))))) dss_nil)))))
  (dss_one (ds_ret de_non)))
abbrev s_x_reduction : Stmt := topS 5
abbrev ns_x_reduction : List Str := ["table", "word", "words", "after"]
theorem sc_x_reduction : FnScope ns_x_reduction ["table", "word"] (defScope s_x_reduction) := ⟨rfl, rfl, rfl, by decide +kernel, rfl, by decide +kernel, by decide +kernel⟩
theorem ok_x_reduction (h : Df K mg "reduction" s_x_reduction ["table", "word"]) (T : Bt mg) (c_x_reduced_once : Cal P w K mg base "reduced_once" ["table", "word"] 2 F_x_reduced_once) : Cal P w K mg base "reduction" ["table", "word"] 3 F_x_reduction :=
  Df.cal (k := 2) h sc_x_reduction fun f cdv A outer s H E hr =>
  (dss_cons (ds_set 2 sc_x_reduction.nd (de_lst (da_cons (de_var 1) da_nil)))
  (dss_cons (ds_set 3 sc_x_reduction.nd (de_fn c_x_reduced_once (hr.mono (by decide)) (da_cons (de_var 0) (da_cons (de_var 1) da_nil))))
  (dss_cons (ds_while (700) PassesOwn.never (dt_cmp od_isnot (de_var 3) de_non) (dss_cons (ds_app 2 (de_var 3))
  (dss_one (ds_set 3 sc_x_reduction.nd (de_fn c_x_reduced_once (hr.mono (by decide)) (da_cons (de_var 0) (da_cons (de_var 3) da_nil)))))))
  (dss_one (ds_ret (de_callTy cd_tuple T.b_tuple bt_tuple (da_cons (de_var 2) da_nil)))))))
abbrev s_x_law_mixed : Stmt := topS 7
abbrev ns_x_law_mixed : List Str := ["script", "k", "cell", "first", "second", "third"]
theorem sc_x_law_mixed : FnScope ns_x_law_mixed ["script", "k"] (defScope s_x_law_mixed) := ⟨rfl, rfl, rfl, by decide +kernel, rfl, by decide +kernel, by decide +kernel⟩
theorem ok_x_law_mixed (h : Df K mg "_law_mixed" s_x_law_mixed ["script", "k"]) (T : Bt mg) : Cal P w K mg base "_law_mixed" ["script", "k"] 1 F_x_law_mixed :=
  Df.cal (k := 0) h sc_x_law_mixed fun f cdv A outer s H E hr =>
  (dss_cons (ds_set 2 sc_x_law_mixed.nd de_int)
  (dss_cons (ds_if (dt_cmp od_gt (de_callB cd_len T.b_len bt_len (da_cons (de_var 0) da_nil)) de_int) (dss_one (ds_set 2 sc_x_law_mixed.nd (de_ix (de_var 0) (de_op od_mod (de_var 1) (de_callB cd_len T.b_len bt_len (da_cons (de_var 0) da_nil)))))) dss_nil)
  (dss_cons (ds_set 3 sc_x_law_mixed.nd (de_op od_mod (de_callTy cd_int T.b_int bt_int (da_cons (de_op od_add (de_op od_add (de_op od_mul (de_var 2) de_int) (de_op od_mul (de_var 1) de_int)) de_int) da_nil)) de_int))
  (dss_cons (ds_set 4 sc_x_law_mixed.nd (de_op od_mod (de_callTy cd_int T.b_int bt_int (da_cons (de_op od_add (de_op od_add (de_op od_mul (de_var 3) (de_var 3)) (de_op od_fdiv (de_var 3) de_int)) (de_op od_mul (de_var 1) de_int)) da_nil)) de_int))
  (dss_cons (ds_set 5 sc_x_law_mixed.nd (de_op od_mod (de_callTy cd_int T.b_int bt_int (da_cons (de_op od_add (de_op od_add (de_op od_mul (de_var 4) (de_var 4)) (de_op od_fdiv (de_var 4) de_int)) de_int) da_nil)) de_int))
  (dss_one (ds_ret (de_op od_mod (de_op od_fdiv (de_var 5) de_int) de_int))))))))
abbrev s_x_law_row : Stmt := topS 8
abbrev ns_x_law_row : List Str := ["script", "many", "big", "row", "k"]
theorem sc_x_law_row : FnScope ns_x_law_row ["script", "many"] (defScope s_x_law_row) := ⟨rfl, rfl, rfl, by decide +kernel, rfl, by decide +kernel, by decide +kernel⟩
theorem ok_x_law_row (h : Df K mg "_law_row" s_x_law_row ["script", "many"]) (T : Bt mg) (c_x_law_mixed : Cal P w K mg base "_law_mixed" ["script", "k"] 1 F_x_law_mixed) : Cal P w K mg base "_law_row" ["script", "many"] 2 F_x_law_row :=
  Df.cal (k := 1) h sc_x_law_row fun f cdv A outer s H E hr =>
  (dss_cons (ds_set 2 sc_x_law_row.nd de_int)
  (dss_cons (ds_if (DW.dt (dw_and (dt_cmp od_gt (de_callB cd_len T.b_len bt_len (da_cons (de_var 0) da_nil)) de_int) (dw_and1 (dt_cmp od_ge (de_ix (de_var 0) de_int) (de_op od_pow de_int de_int))))) (dss_one (ds_set 2 sc_x_law_row.nd (de_ix (de_var 0) de_int))) dss_nil)
  (dss_cons (ds_set 3 sc_x_law_row.nd (de_lst da_nil))
  (dss_cons (ds_for [] PassesOwn.never rfl (di_rng1 (de_var 1) T.b_range) (dg_name 4 sc_x_law_row.nd) (dss_one (ds_if (dt_cmp od_gt (de_var 2) de_int) (dss_cons (ds_app 3 (de_op od_mod (de_callTy cd_int T.b_int bt_int (da_cons (de_var 2) da_nil)) de_int))
  (dss_one (ds_set 2 sc_x_law_row.nd (de_op od_fdiv (de_var 2) de_int)))) (dss_one (ds_app 3 (de_fn c_x_law_mixed (hr.mono (by decide)) (da_cons (de_var 0) (da_cons (de_var 4) da_nil))))))))
  (dss_one (ds_retV 3))))))
abbrev s_x_law_is_int : Stmt := topS 9
abbrev ns_x_law_is_int : List Str := ["value"]
theorem sc_x_law_is_int : FnScope ns_x_law_is_int ["value"] (defScope s_x_law_is_int) := ⟨rfl, rfl, rfl, by decide +kernel, rfl, by decide +kernel, by decide +kernel⟩
theorem ok_x_law_is_int (h : Df K mg "_law_is_int" s_x_law_is_int ["value"]) (T : Bt mg) : Cal P w K mg base "_law_is_int" ["value"] 1 F_x_law_is_int :=
  Df.cal (k := 0) h sc_x_law_is_int fun f cdv A outer s H E hr =>
  (dss_one (ds_ret (de_and (de_isi .int T.b_isinstance T.b_int bt_int (de_var 0)) (de_one (de_not (de_isi .bool T.b_isinstance T.b_bool bt_bool (de_var 0)))))))
abbrev s_x_law_is_word : Stmt := topS 10
abbrev ns_x_law_is_word : List Str := ["value", "signs", "sign"]
theorem sc_x_law_is_word : FnScope ns_x_law_is_word ["value", "signs"] (defScope s_x_law_is_word) := ⟨rfl, rfl, rfl, by decide +kernel, rfl, by decide +kernel, by decide +kernel⟩
theorem ok_x_law_is_word (h : Df K mg "_law_is_word" s_x_law_is_word ["value", "signs"]) (T : Bt mg) (c_x_law_is_int : Cal P w K mg base "_law_is_int" ["value"] 1 F_x_law_is_int) : Cal P w K mg base "_law_is_word" ["value", "signs"] 2 F_x_law_is_word :=
  Df.cal (k := 1) h sc_x_law_is_word fun f cdv A outer s H E hr =>
  (dss_one (ds_ret (de_and (de_isi .tuple T.b_isinstance T.b_tuple bt_tuple (de_var 0)) (de_one (de_callB (cd_all rfl) T.b_all bt_all (da_cons (de_lc [("sign", 2)] rfl sc_x_law_is_word.nd (di_seq (de_var 0)) (blkOk_by (N := ns_x_law_is_word) (sc := defScope s_x_law_is_word) (own := [("sign", 2)]) (by decide +kernel)) (fun _ _ _ _ _ => (dg_name 2 sc_x_law_is_word.nd)) (fun _ _ _ _ _ => dts_nil) (fun _ _ _ _ _ => (de_and (de_fn c_x_law_is_int (hr.mono (by decide)) (da_cons (de_var 2) da_nil)) (de_one (de_chain od_le (od_lt hr) de_int (de_var 2) (de_var 1)))))) da_nil))))))
abbrev s_x_law_word : Stmt := topS 11
abbrev ns_x_law_word : List Str := ["row", "at", "signs", "most", "size", "k"]
theorem sc_x_law_word : FnScope ns_x_law_word ["row", "at", "signs", "most"] (defScope s_x_law_word) := ⟨rfl, rfl, rfl, by decide +kernel, rfl, by decide +kernel, by decide +kernel⟩
theorem ok_x_law_word (h : Df K mg "_law_word" s_x_law_word ["row", "at", "signs", "most"]) (T : Bt mg) : Cal P w K mg base "_law_word" ["row", "at", "signs", "most"] 1 F_x_law_word :=
  Df.cal (k := 0) h sc_x_law_word fun f cdv A outer s H E hr =>
  (dss_cons (ds_set 4 sc_x_law_word.nd (de_op od_mod (de_callTy cd_int T.b_int bt_int (da_cons (de_ix (de_var 0) (de_var 1)) da_nil)) (de_op od_add (de_var 3) de_int)))
  (dss_one (ds_ret (de_callTy cd_tuple T.b_tuple bt_tuple (da_cons (de_lc [("k", 5)] rfl sc_x_law_word.nd (di_rng1 (de_var 4) T.b_range) (blkOk_by (N := ns_x_law_word) (sc := defScope s_x_law_word) (own := [("k", 5)]) (by decide +kernel)) (fun _ _ _ _ _ => (dg_name 5 sc_x_law_word.nd)) (fun _ _ _ _ _ => dts_nil) (fun _ _ _ _ _ => (de_op od_mod (de_callTy cd_int T.b_int bt_int (da_cons (de_ix (de_var 0) (de_op od_add (de_op od_add (de_var 1) de_int) (de_var 5))) da_nil)) (de_var 2)))) da_nil)))))
abbrev s_x_law_chosen : Stmt := topS 12
abbrev ns_x_law_chosen : List Str := ["row", "at", "many", "signs", "free", "chosen", "k"]
theorem sc_x_law_chosen : FnScope ns_x_law_chosen ["row", "at", "many", "signs"] (defScope s_x_law_chosen) := ⟨rfl, rfl, rfl, by decide +kernel, rfl, by decide +kernel, by decide +kernel⟩
theorem ok_x_law_chosen (h : Df K mg "_law_chosen" s_x_law_chosen ["row", "at", "many", "signs"]) (T : Bt mg) : Cal P w K mg base "_law_chosen" ["row", "at", "many", "signs"] 1 F_x_law_chosen :=
  Df.cal (k := 0) h sc_x_law_chosen fun f cdv A outer s H E hr =>
  (dss_cons (ds_set 4 sc_x_law_chosen.nd (de_listRg rfl T.b_list T.b_range (de_var 3)))
  (dss_cons (ds_set 5 sc_x_law_chosen.nd (de_lst da_nil))
  (dss_cons (ds_for [] PassesOwn.never rfl (di_rng1 (de_var 2) T.b_range) (dg_name 6 sc_x_law_chosen.nd) (dss_one (ds_appM 5 (dm_popAt 4 (de_op od_mod (de_callTy cd_int T.b_int bt_int (da_cons (de_ix (de_var 0) (de_op od_add (de_var 1) (de_var 6))) da_nil)) (de_callB cd_len T.b_len bt_len (da_cons (de_var 4) da_nil)))))))
  (dss_one (ds_retV 5)))))
abbrev s_x_law_named_word : Stmt := topS 13
abbrev ns_x_law_named_word : List Str := ["word", "chosen", "sign"]
theorem sc_x_law_named_word : FnScope ns_x_law_named_word ["word", "chosen"] (defScope s_x_law_named_word) := ⟨rfl, rfl, rfl, by decide +kernel, rfl, by decide +kernel, by decide +kernel⟩
theorem ok_x_law_named_word (h : Df K mg "_law_named_word" s_x_law_named_word ["word", "chosen"]) (T : Bt mg) : Cal P w K mg base "_law_named_word" ["word", "chosen"] 1 F_x_law_named_word :=
  Df.cal (k := 0) h sc_x_law_named_word fun f cdv A outer s H E hr =>
  (dss_one (ds_ret (de_callTy cd_tuple T.b_tuple bt_tuple (da_cons (de_lc [("sign", 2)] rfl sc_x_law_named_word.nd (di_seq (de_var 0)) (blkOk_by (N := ns_x_law_named_word) (sc := defScope s_x_law_named_word) (own := [("sign", 2)]) (by decide +kernel)) (fun _ _ _ _ _ => (dg_name 2 sc_x_law_named_word.nd)) (fun _ _ _ _ _ => dts_nil) (fun _ _ _ _ _ => (de_ix (de_var 1) (de_var 2)))) da_nil))))
abbrev s_x_law_long_rule : Stmt := topS 14
abbrev ns_x_law_long_rule : List Str := ["row", "at", "signs", "most", "size", "left", "k"]
theorem sc_x_law_long_rule : FnScope ns_x_law_long_rule ["row", "at", "signs", "most"] (defScope s_x_law_long_rule) := ⟨rfl, rfl, rfl, by decide +kernel, rfl, by decide +kernel, by decide +kernel⟩
theorem ok_x_law_long_rule (h : Df K mg "_law_long_rule" s_x_law_long_rule ["row", "at", "signs", "most"]) (T : Bt mg) : Cal P w K mg base "_law_long_rule" ["row", "at", "signs", "most"] 1 F_x_law_long_rule :=
  Df.cal (k := 0) h sc_x_law_long_rule fun f cdv A outer s H E hr =>
  (dss_cons (ds_set 4 sc_x_law_long_rule.nd (de_op od_add de_int (de_op od_mod (de_callTy cd_int T.b_int bt_int (da_cons (de_ix (de_var 0) (de_var 1)) da_nil)) (de_var 3))))
  (dss_cons (ds_set 5 sc_x_law_long_rule.nd (de_callTy cd_tuple T.b_tuple bt_tuple (da_cons (de_lc [("k", 6)] rfl sc_x_law_long_rule.nd (di_rng1 (de_var 4) T.b_range) (blkOk_by (N := ns_x_law_long_rule) (sc := defScope s_x_law_long_rule) (own := [("k", 6)]) (by decide +kernel)) (fun _ _ _ _ _ => (dg_name 6 sc_x_law_long_rule.nd)) (fun _ _ _ _ _ => dts_nil) (fun _ _ _ _ _ => (de_op od_mod (de_callTy cd_int T.b_int bt_int (da_cons (de_ix (de_var 0) (de_op od_add (de_op od_add (de_var 1) de_int) (de_var 6))) da_nil)) (de_var 2)))) da_nil)))
  (dss_cons (ds_if (DW.dt (dw_and (dt_cmp (od_eq hr) (de_var 4) de_int) (dw_and (dt_cmp od_gt (de_ix (de_var 5) de_int) de_int) (dw_and1 (dt_cmp (od_eq hr) (de_op od_mod (de_callTy cd_int T.b_int bt_int (da_cons (de_ix (de_var 0) (de_op od_add (de_var 1) de_int)) da_nil)) de_int) de_int))))) (dss_one (ds_ret (de_tup (da_cons (de_var 5) (da_cons (de_tup (da_cons (de_op od_mod (de_callTy cd_int T.b_int bt_int (da_cons (de_ix (de_var 0) (de_op od_add (de_var 1) de_int)) da_nil)) (de_ix (de_var 5) de_int)) da_nil)) da_nil))))) dss_nil)
  (dss_one (ds_ret (de_tup (da_cons (de_var 5) (da_cons (de_callTy cd_tuple T.b_tuple bt_tuple (da_cons (de_lc [("k", 6)] rfl sc_x_law_long_rule.nd (di_rng1 (de_op od_mod (de_callTy cd_int T.b_int bt_int (da_cons (de_ix (de_var 0) (de_op od_add (de_var 1) de_int)) da_nil)) (de_var 4)) T.b_range) (blkOk_by (N := ns_x_law_long_rule) (sc := defScope s_x_law_long_rule) (own := [("k", 6)]) (by decide +kernel)) (fun _ _ _ _ _ => (dg_name 6 sc_x_law_long_rule.nd)) (fun _ _ _ _ _ => dts_nil) (fun _ _ _ _ _ => (de_op od_mod (de_callTy cd_int T.b_int bt_int (da_cons (de_ix (de_var 0) (de_op od_add (de_op od_add (de_var 1) de_int) (de_var 6))) da_nil)) (de_var 2)))) da_nil)) da_nil))))))))
abbrev s_x_law_long_table : Stmt := topS 15
abbrev ns_x_law_long_table : List Str := ["row", "at", "signs", "most", "rules", "k"]
theorem sc_x_law_long_table : FnScope ns_x_law_long_table ["row", "at", "signs", "most", "rules"] (defScope s_x_law_long_table) := ⟨rfl, rfl, rfl, by decide +kernel, rfl, by decide +kernel, by decide +kernel⟩
theorem ok_x_law_long_table (h : Df K mg "_law_long_table" s_x_law_long_table ["row", "at", "signs", "most", "rules"]) (T : Bt mg) (c_x_law_long_rule : Cal P w K mg base "_law_long_rule" ["row", "at", "signs", "most"] 1 F_x_law_long_rule) : Cal P w K mg base "_law_long_table" ["row", "at", "signs", "most", "rules"] 2 F_x_law_long_table :=
  Df.cal (k := 1) h sc_x_law_long_table fun f cdv A outer s H E hr =>
  (dss_one (ds_ret (de_callTy cd_tuple T.b_tuple bt_tuple (da_cons (de_lc [("k", 5)] rfl sc_x_law_long_table.nd (di_rng1 (de_op od_mod (de_callTy cd_int T.b_int bt_int (da_cons (de_ix (de_var 0) (de_var 1)) da_nil)) (de_op od_add (de_var 4) de_int)) T.b_range) (blkOk_by (N := ns_x_law_long_table) (sc := defScope s_x_law_long_table) (own := [("k", 5)]) (by decide +kernel)) (fun _ _ _ _ _ => (dg_name 5 sc_x_law_long_table.nd)) (fun _ _ _ _ _ => dts_nil) (fun _ _ _ _ _ => (de_fn c_x_law_long_rule (hr.mono (by decide)) (da_cons (de_var 0) (da_cons (de_op od_add (de_op od_add (de_var 1) de_int) (de_op od_mul de_int (de_var 5))) (da_cons (de_var 2) (da_cons (de_var 3) da_nil))))))) da_nil))))
abbrev s_x_law_named_table : Stmt := topS 16
abbrev ns_x_law_named_table : List Str := ["table", "chosen", "rule"]
theorem sc_x_law_named_table : FnScope ns_x_law_named_table ["table", "chosen"] (defScope s_x_law_named_table) := ⟨rfl, rfl, rfl, by decide +kernel, rfl, by decide +kernel, by decide +kernel⟩
theorem ok_x_law_named_table (h : Df K mg "_law_named_table" s_x_law_named_table ["table", "chosen"]) (T : Bt mg) (c_x_law_named_word : Cal P w K mg base "_law_named_word" ["word", "chosen"] 1 F_x_law_named_word) : Cal P w K mg base "_law_named_table" ["table", "chosen"] 2 F_x_law_named_table :=
  Df.cal (k := 1) h sc_x_law_named_table fun f cdv A outer s H E hr =>
  (dss_one (ds_ret (de_callTy cd_tuple T.b_tuple bt_tuple (da_cons (de_lc [("rule", 2)] rfl sc_x_law_named_table.nd (di_seq (de_var 0)) (blkOk_by (N := ns_x_law_named_table) (sc := defScope s_x_law_named_table) (own := [("rule", 2)]) (by decide +kernel)) (fun _ _ _ _ _ => (dg_name 2 sc_x_law_named_table.nd)) (fun _ _ _ _ _ => dts_nil) (fun _ _ _ _ _ => (de_tup (da_cons (de_fn c_x_law_named_word (hr.mono (by decide)) (da_cons (de_ix (de_var 2) de_int) (da_cons (de_var 1) da_nil))) (da_cons (de_fn c_x_law_named_word (hr.mono (by decide)) (da_cons (de_ix (de_var 2) de_int) (da_cons (de_var 1) da_nil))) da_nil))))) da_nil))))
abbrev s_x_law_seal_word : Stmt := topS 17
abbrev ns_x_law_seal_word : List Str := ["row", "at", "table", "signs", "word", "k", "start"]
theorem sc_x_law_seal_word : FnScope ns_x_law_seal_word ["row", "at", "table", "signs"] (defScope s_x_law_seal_word) := ⟨rfl, rfl, rfl, by decide +kernel, rfl, by decide +kernel, by decide +kernel⟩
theorem ok_x_law_seal_word (h : Df K mg "_law_seal_word" s_x_law_seal_word ["row", "at", "table", "signs"]) (T : Bt mg) (c_x_law_word : Cal P w K mg base "_law_word" ["row", "at", "signs", "most"] 1 F_x_law_word) : Cal P w K mg base "_law_seal_word" ["row", "at", "table", "signs"] 2 F_x_law_seal_word :=
  Df.cal (k := 1) h sc_x_law_seal_word fun f cdv A outer s H E hr =>
  (dss_cons (ds_set 4 sc_x_law_seal_word.nd (de_tup da_nil))
  (dss_cons (ds_for [] PassesOwn.never rfl (di_rng1 (de_op od_mod (de_callTy cd_int T.b_int bt_int (da_cons (de_ix (de_var 0) (de_var 1)) da_nil)) de_int) T.b_range) (dg_name 5 sc_x_law_seal_word.nd) (dss_cons (ds_set 6 sc_x_law_seal_word.nd (de_op od_add (de_op od_add (de_var 1) de_int) (de_op od_mul de_int (de_var 5))))
  (dss_one (ds_if (DW.dt (dw_and (dt_cmp od_gt (de_callB cd_len T.b_len bt_len (da_cons (de_var 2) da_nil)) de_int) (dw_and1 (dt_cmp od_gt (de_op od_mod (de_callTy cd_int T.b_int bt_int (da_cons (de_ix (de_var 0) (de_var 6)) da_nil)) de_int) de_int)))) (dss_one (ds_set 4 sc_x_law_seal_word.nd (de_op od_add (de_var 4) (de_ix (de_ix (de_var 2) (de_op od_mod (de_callTy cd_int T.b_int bt_int (da_cons (de_ix (de_var 0) (de_op od_add (de_var 6) de_int)) da_nil)) (de_callB cd_len T.b_len bt_len (da_cons (de_var 2) da_nil)))) de_int)))) (dss_one (ds_set 4 sc_x_law_seal_word.nd (de_op od_add (de_var 4) (de_fn c_x_law_word (hr.mono (by decide)) (da_cons (de_var 0) (da_cons (de_op od_add (de_var 6) de_int) (da_cons (de_var 3) (da_cons de_int da_nil))))))))))))
  (dss_one (ds_retV 4))))
abbrev s_x_law_reduced : Stmt := topS 18
abbrev ns_x_law_reduced : List Str := ["table", "word", "place", "left", "right"]
theorem sc_x_law_reduced : FnScope ns_x_law_reduced ["table", "word"] (defScope s_x_law_reduced) := ⟨rfl, rfl, rfl, by decide +kernel, rfl, by decide +kernel, by decide +kernel⟩
theorem ok_x_law_reduced (h : Df K mg "_law_reduced" s_x_law_reduced ["table", "word"]) (T : Bt mg) : Cal P w K mg base "_law_reduced" ["table", "word"] 1 F_x_law_reduced :=
  Df.cal (k := 0) h sc_x_law_reduced fun f cdv A outer s H E hr =>
  (dss_cons (ds_for [] PassesOwn.never rfl (di_rng1 (de_callB cd_len T.b_len bt_len (da_cons (de_var 1) da_nil)) T.b_range) (dg_name 2 sc_x_law_reduced.nd) (dss_one (ds_for [0] PassesOwn.never rfl (di_seq (de_var 0)) (dg_tup rfl (dgs_cons (dg_name 3 sc_x_law_reduced.nd) (dgs_cons (dg_name 4 sc_x_law_reduced.nd) dgs_nil))) (dss_one (ds_if (dt_cmp (od_eq hr) (de_sl (de_var 1) (do_some (de_var 2)) (do_some (de_op od_add (de_var 2) (de_callB cd_len T.b_len bt_len (da_cons (de_var 3) da_nil))))) (de_var 3)) (dss_one (ds_ret (de_op od_add (de_op od_add (de_sl (de_var 1) do_none (do_some (de_var 2))) (de_var 4)) (de_sl (de_var 1) (do_some (de_op od_add (de_var 2) (de_callB cd_len T.b_len bt_len (da_cons (de_var 3) da_nil)))) do_none)))) dss_nil)))))
  (dss_one (ds_ret de_non)))
abbrev s_x_law_are_words : Stmt := topS 19
abbrev ns_x_law_are_words : List Str := ["found", "signs", "word"]
theorem sc_x_law_are_words : FnScope ns_x_law_are_words ["found", "signs"] (defScope s_x_law_are_words) := ⟨rfl, rfl, rfl, by decide +kernel, rfl, by decide +kernel, by decide +kernel⟩
theorem ok_x_law_are_words (h : Df K mg "_law_are_words" s_x_law_are_words ["found", "signs"]) (T : Bt mg) (c_x_law_is_word : Cal P w K mg base "_law_is_word" ["value", "signs"] 2 F_x_law_is_word) : Cal P w K mg base "_law_are_words" ["found", "signs"] 3 F_x_law_are_words :=
  Df.cal (k := 2) h sc_x_law_are_words fun f cdv A outer s H E hr =>
  (dss_one (ds_ret (de_and (de_isi .tuple T.b_isinstance T.b_tuple bt_tuple (de_var 0)) (de_one (de_callB (cd_all rfl) T.b_all bt_all (da_cons (de_lc [("word", 2)] rfl sc_x_law_are_words.nd (di_seq (de_var 0)) (blkOk_by (N := ns_x_law_are_words) (sc := defScope s_x_law_are_words) (own := [("word", 2)]) (by decide +kernel)) (fun _ _ _ _ _ => (dg_name 2 sc_x_law_are_words.nd)) (fun _ _ _ _ _ => dts_nil) (fun _ _ _ _ _ => (de_fn c_x_law_is_word (hr.mono (by decide)) (da_cons (de_var 2) (da_cons (de_var 1) da_nil))))) da_nil))))))
abbrev s_x_law_seal_signs : Stmt := topS 20
abbrev ns_x_law_seal_signs : List Str := ["row", "kind"]
theorem sc_x_law_seal_signs : FnScope ns_x_law_seal_signs ["row"] (defScope s_x_law_seal_signs) := ⟨rfl, rfl, rfl, by decide +kernel, rfl, by decide +kernel, by decide +kernel⟩
theorem ok_x_law_seal_signs (h : Df K mg "_law_seal_signs" s_x_law_seal_signs ["row"]) (T : Bt mg) : Cal P w K mg base "_law_seal_signs" ["row"] 1 F_x_law_seal_signs :=
  Df.cal (k := 0) h sc_x_law_seal_signs fun f cdv A outer s H E hr =>
  (dss_cons (ds_set 1 sc_x_law_seal_signs.nd (de_op od_mod (de_callTy cd_int T.b_int bt_int (da_cons (de_ix (de_var 0) de_int) da_nil)) de_int))
  (dss_cons (ds_if (dt_cmp (od_eq hr) (de_var 1) de_int) (dss_one (ds_ret de_int)) dss_nil)
  (dss_cons (ds_if (dt_cmp (od_eq hr) (de_var 1) de_int) (dss_one (ds_ret de_int)) dss_nil)
  (dss_one (ds_ret de_int)))))
abbrev s_x_law_seal_table : Stmt := topS 21
abbrev ns_x_law_seal_table : List Str := ["row", "kind"]
theorem sc_x_law_seal_table : FnScope ns_x_law_seal_table ["row"] (defScope s_x_law_seal_table) := ⟨rfl, rfl, rfl, by decide +kernel, rfl, by decide +kernel, by decide +kernel⟩
theorem ok_x_law_seal_table (h : Df K mg "_law_seal_table" s_x_law_seal_table ["row"]) (T : Bt mg) (c_x_law_long_table : Cal P w K mg base "_law_long_table" ["row", "at", "signs", "most", "rules"] 2 F_x_law_long_table) : Cal P w K mg base "_law_seal_table" ["row"] 3 F_x_law_seal_table :=
  Df.cal (k := 2) h sc_x_law_seal_table fun f cdv A outer s H E hr =>
  (dss_cons (ds_set 1 sc_x_law_seal_table.nd (de_op od_mod (de_callTy cd_int T.b_int bt_int (da_cons (de_ix (de_var 0) de_int) da_nil)) de_int))
  (dss_cons (ds_if (dt_cmp (od_eq hr) (de_var 1) de_int) (dss_one (ds_ret (de_fn c_x_law_long_table (hr.mono (by decide)) (da_cons (de_var 0) (da_cons de_int (da_cons de_int (da_cons de_int (da_cons de_int da_nil)))))))) dss_nil)
  (dss_cons (ds_if (dt_cmp (od_eq hr) (de_var 1) de_int) (dss_one (ds_ret (de_fn c_x_law_long_table (hr.mono (by decide)) (da_cons (de_var 0) (da_cons de_int (da_cons de_int (da_cons de_int (da_cons de_int da_nil)))))))) dss_nil)
  (dss_one (ds_ret (de_fn c_x_law_long_table (hr.mono (by decide)) (da_cons (de_var 0) (da_cons de_int (da_cons de_int (da_cons de_int (da_cons de_int da_nil)))))))))))
abbrev s_x_law : Stmt := topS 22
abbrev ns_x_law : List Str := ["script", "row", "signs", "chosen", "table", "word", "due", "k", "found"]
theorem sc_x_law : FnScope ns_x_law ["script"] (defScope s_x_law) := ⟨rfl, rfl, rfl, by decide +kernel, rfl, by decide +kernel, by decide +kernel⟩
theorem ok_x_law (h : Df K mg "law" s_x_law ["script"]) (T : Bt mg) (c_x_law_row : Cal P w K mg base "_law_row" ["script", "many"] 2 F_x_law_row) (c_x_law_chosen : Cal P w K mg base "_law_chosen" ["row", "at", "many", "signs"] 1 F_x_law_chosen) (c_x_law_seal_table : Cal P w K mg base "_law_seal_table" ["row"] 3 F_x_law_seal_table) (c_x_law_seal_word : Cal P w K mg base "_law_seal_word" ["row", "at", "table", "signs"] 2 F_x_law_seal_word) (c_x_law_seal_signs : Cal P w K mg base "_law_seal_signs" ["row"] 1 F_x_law_seal_signs) (c_x_law_named_word : Cal P w K mg base "_law_named_word" ["word", "chosen"] 1 F_x_law_named_word) (c_x_law_reduced : Cal P w K mg base "_law_reduced" ["table", "word"] 1 F_x_law_reduced) (c_x_reduction : Cal P w K mg base "reduction" ["table", "word"] 3 F_x_reduction) (c_x_law_named_table : Cal P w K mg base "_law_named_table" ["table", "chosen"] 2 F_x_law_named_table) (c_x_law_are_words : Cal P w K mg base "_law_are_words" ["found", "signs"] 3 F_x_law_are_words) : Cal P w K mg base "law" ["script"] 4 F_x_law :=
  Df.cal (k := 3) h sc_x_law fun f cdv A outer s H E hr =>
  (dss_cons (ds_set 1 sc_x_law.nd (de_fn c_x_law_row (hr.mono (by decide)) (da_cons (de_var 0) (da_cons de_int da_nil))))
  (dss_cons (ds_set 2 sc_x_law.nd (de_op od_add de_int (de_op od_mod (de_callTy cd_int T.b_int bt_int (da_cons (de_ix (de_var 1) de_int) da_nil)) de_int)))
  (dss_cons (ds_set 3 sc_x_law.nd (de_callB cd_sorted T.b_sorted bt_sorted (da_cons (de_fn c_x_law_chosen (hr.mono (by decide)) (da_cons (de_var 1) (da_cons de_int (da_cons de_int (da_cons (de_var 2) da_nil))))) da_nil)))
  (dss_cons (ds_set 4 sc_x_law.nd (de_fn c_x_law_seal_table (hr.mono (by decide)) (da_cons (de_var 1) da_nil)))
  (dss_cons (ds_set 5 sc_x_law.nd (de_fn c_x_law_seal_word (hr.mono (by decide)) (da_cons (de_var 1) (da_cons de_int (da_cons (de_var 4) (da_cons (de_fn c_x_law_seal_signs (hr.mono (by decide)) (da_cons (de_var 1) da_nil)) da_nil))))))
  (dss_cons (ds_set 6 sc_x_law.nd (de_lst (da_cons (de_fn c_x_law_named_word (hr.mono (by decide)) (da_cons (de_var 5) (da_cons (de_var 3) da_nil))) da_nil)))
  (dss_cons (ds_for [] PassesOwn.never rfl (di_rng1 de_int T.b_range) (dg_name 7 sc_x_law.nd) (dss_cons (ds_set 5 sc_x_law.nd (de_fn c_x_law_reduced (hr.mono (by decide)) (da_cons (de_var 4) (da_cons (de_var 5) da_nil))))
  (dss_cons (ds_if (dt_cmp od_is (de_var 5) de_non) (dss_one ds_break) dss_nil)
  (dss_one (ds_app 6 (de_fn c_x_law_named_word (hr.mono (by decide)) (da_cons (de_var 5) (da_cons (de_var 3) da_nil))))))))
  (dss_cons (ds_set 8 sc_x_law.nd (de_fn c_x_reduction (hr.mono (by decide)) (da_cons (de_fn c_x_law_named_table (hr.mono (by decide)) (da_cons (de_var 4) (da_cons (de_var 3) da_nil))) (da_cons (de_ix (de_var 6) de_int) da_nil))))
  (dss_one (ds_ret (de_and (de_fn c_x_law_are_words (hr.mono (by decide)) (da_cons (de_var 8) (da_cons (de_var 2) da_nil))) (de_one (de_cmp (od_eq hr) (de_var 8) (de_callTy cd_tuple T.b_tuple bt_tuple (da_cons (de_var 6) da_nil)))))))))))))))
end
end DL

namespace DL
open PySem PySem.Spec PyProof.Rows L2 DL
section
variable {P : Program} {w : World} {K : PySem.W.Frag} {mg : Str → Option Value} {base : Heap}
theorem ok_law_fn {f : Addr} {fd : FuncData} (h : Fun K "law" "law" s_x_law f fd) (T : Bt mg) (c_x_law_row : Cal P w K mg base "_law_row" ["script", "many"] 2 F_x_law_row) (c_x_law_chosen : Cal P w K mg base "_law_chosen" ["row", "at", "many", "signs"] 1 F_x_law_chosen) (c_x_law_seal_table : Cal P w K mg base "_law_seal_table" ["row"] 3 F_x_law_seal_table) (c_x_law_seal_word : Cal P w K mg base "_law_seal_word" ["row", "at", "table", "signs"] 2 F_x_law_seal_word) (c_x_law_seal_signs : Cal P w K mg base "_law_seal_signs" ["row"] 1 F_x_law_seal_signs) (c_x_law_named_word : Cal P w K mg base "_law_named_word" ["word", "chosen"] 1 F_x_law_named_word) (c_x_law_reduced : Cal P w K mg base "_law_reduced" ["table", "word"] 1 F_x_law_reduced) (c_x_reduction : Cal P w K mg base "reduction" ["table", "word"] 3 F_x_reduction) (c_x_law_named_table : Cal P w K mg base "_law_named_table" ["table", "chosen"] 2 F_x_law_named_table) (c_x_law_are_words : Cal P w K mg base "_law_are_words" ["found", "signs"] 3 F_x_law_are_words) : FnOk P w K mg base CX0 4 f fd ["script"] (spF K 1 F_x_law) :=
  fn_d (k := 3) h sc_x_law fun cdv A outer s H E hr =>
  (dss_cons (ds_set 1 sc_x_law.nd (de_fn c_x_law_row (hr.mono (by decide)) (da_cons (de_var 0) (da_cons de_int da_nil))))
  (dss_cons (ds_set 2 sc_x_law.nd (de_op od_add de_int (de_op od_mod (de_callTy cd_int T.b_int bt_int (da_cons (de_ix (de_var 1) de_int) da_nil)) de_int)))
  (dss_cons (ds_set 3 sc_x_law.nd (de_callB cd_sorted T.b_sorted bt_sorted (da_cons (de_fn c_x_law_chosen (hr.mono (by decide)) (da_cons (de_var 1) (da_cons de_int (da_cons de_int (da_cons (de_var 2) da_nil))))) da_nil)))
  (dss_cons (ds_set 4 sc_x_law.nd (de_fn c_x_law_seal_table (hr.mono (by decide)) (da_cons (de_var 1) da_nil)))
  (dss_cons (ds_set 5 sc_x_law.nd (de_fn c_x_law_seal_word (hr.mono (by decide)) (da_cons (de_var 1) (da_cons de_int (da_cons (de_var 4) (da_cons (de_fn c_x_law_seal_signs (hr.mono (by decide)) (da_cons (de_var 1) da_nil)) da_nil))))))
  (dss_cons (ds_set 6 sc_x_law.nd (de_lst (da_cons (de_fn c_x_law_named_word (hr.mono (by decide)) (da_cons (de_var 5) (da_cons (de_var 3) da_nil))) da_nil)))
  (dss_cons (ds_for [] PassesOwn.never rfl (di_rng1 de_int T.b_range) (dg_name 7 sc_x_law.nd) (dss_cons (ds_set 5 sc_x_law.nd (de_fn c_x_law_reduced (hr.mono (by decide)) (da_cons (de_var 4) (da_cons (de_var 5) da_nil))))
  (dss_cons (ds_if (dt_cmp od_is (de_var 5) de_non) (dss_one ds_break) dss_nil)
  (dss_one (ds_app 6 (de_fn c_x_law_named_word (hr.mono (by decide)) (da_cons (de_var 5) (da_cons (de_var 3) da_nil))))))))
  (dss_cons (ds_set 8 sc_x_law.nd (de_fn c_x_reduction (hr.mono (by decide)) (da_cons (de_fn c_x_law_named_table (hr.mono (by decide)) (da_cons (de_var 4) (da_cons (de_var 3) da_nil))) (da_cons (de_ix (de_var 6) de_int) da_nil))))
  (dss_one (ds_ret (de_and (de_fn c_x_law_are_words (hr.mono (by decide)) (da_cons (de_var 8) (da_cons (de_var 2) da_nil))) (de_one (de_cmp (od_eq hr) (de_var 8) (de_callTy cd_tuple T.b_tuple bt_tuple (da_cons (de_var 6) da_nil)))))))))))))))
end
end DL
namespace DL
open PySem PySem.Spec PyProof.Rows L2 DL
theorem all_mk {l : PySem.W.OpenLaw} {w : World} {K : PySem.W.Frag} {h : Heap} {mg : Str → Option Value} {fa : Addr} (X : K.In h) (G : h.Ns mainGlobals mg) (hfa : mg "law" = some (.ref fa))
    {f0 : Addr} {od0 an0 : Option Addr} {sl0 : Array (Option Value)} {oc0 kV0 dc0 pm0 cd0 ct0 : Value}
    (a0 : PySem.W.nsIn K mainGlobals "stands_at" = some (some (.ref f0))) (l0 : K.lookup f0 = some ⟨oc0, od0, .func (PySem.W.fnOf "stands_at" "stands_at" (defArgs s_x_stands_at) (defBody s_x_stands_at) (defScope s_x_stands_at) .none kV0 dc0 pm0 an0 cd0 ct0), sl0⟩) (c0 : PySem.W.codeIn K cd0 "stands_at" = true) (k0 : PySem.W.keepIn K (.ref f0) = true)
    {f1 : Addr} {od1 an1 : Option Addr} {sl1 : Array (Option Value)} {oc1 kV1 dc1 pm1 cd1 ct1 : Value}
    (a1 : PySem.W.nsIn K mainGlobals "replaced" = some (some (.ref f1))) (l1 : K.lookup f1 = some ⟨oc1, od1, .func (PySem.W.fnOf "replaced" "replaced" (defArgs s_x_replaced) (defBody s_x_replaced) (defScope s_x_replaced) .none kV1 dc1 pm1 an1 cd1 ct1), sl1⟩) (c1 : PySem.W.codeIn K cd1 "replaced" = true) (k1 : PySem.W.keepIn K (.ref f1) = true)
    {f2 : Addr} {od2 an2 : Option Addr} {sl2 : Array (Option Value)} {oc2 kV2 dc2 pm2 cd2 ct2 : Value}
    (a2 : PySem.W.nsIn K mainGlobals "reduced_once" = some (some (.ref f2))) (l2 : K.lookup f2 = some ⟨oc2, od2, .func (PySem.W.fnOf "reduced_once" "reduced_once" (defArgs s_x_reduced_once) (defBody s_x_reduced_once) (defScope s_x_reduced_once) .none kV2 dc2 pm2 an2 cd2 ct2), sl2⟩) (c2 : PySem.W.codeIn K cd2 "reduced_once" = true) (k2 : PySem.W.keepIn K (.ref f2) = true)
    {f3 : Addr} {od3 an3 : Option Addr} {sl3 : Array (Option Value)} {oc3 kV3 dc3 pm3 cd3 ct3 : Value}
    (a3 : PySem.W.nsIn K mainGlobals "reduction" = some (some (.ref f3))) (l3 : K.lookup f3 = some ⟨oc3, od3, .func (PySem.W.fnOf "reduction" "reduction" (defArgs s_x_reduction) (defBody s_x_reduction) (defScope s_x_reduction) .none kV3 dc3 pm3 an3 cd3 ct3), sl3⟩) (c3 : PySem.W.codeIn K cd3 "reduction" = true) (k3 : PySem.W.keepIn K (.ref f3) = true)
    {f4 : Addr} {od4 an4 : Option Addr} {sl4 : Array (Option Value)} {oc4 kV4 dc4 pm4 cd4 ct4 : Value}
    (a4 : PySem.W.nsIn K mainGlobals "_law_mixed" = some (some (.ref f4))) (l4 : K.lookup f4 = some ⟨oc4, od4, .func (PySem.W.fnOf "_law_mixed" "_law_mixed" (defArgs s_x_law_mixed) (defBody s_x_law_mixed) (defScope s_x_law_mixed) .none kV4 dc4 pm4 an4 cd4 ct4), sl4⟩) (c4 : PySem.W.codeIn K cd4 "_law_mixed" = true) (k4 : PySem.W.keepIn K (.ref f4) = true)
    {f5 : Addr} {od5 an5 : Option Addr} {sl5 : Array (Option Value)} {oc5 kV5 dc5 pm5 cd5 ct5 : Value}
    (a5 : PySem.W.nsIn K mainGlobals "_law_row" = some (some (.ref f5))) (l5 : K.lookup f5 = some ⟨oc5, od5, .func (PySem.W.fnOf "_law_row" "_law_row" (defArgs s_x_law_row) (defBody s_x_law_row) (defScope s_x_law_row) .none kV5 dc5 pm5 an5 cd5 ct5), sl5⟩) (c5 : PySem.W.codeIn K cd5 "_law_row" = true) (k5 : PySem.W.keepIn K (.ref f5) = true)
    {f6 : Addr} {od6 an6 : Option Addr} {sl6 : Array (Option Value)} {oc6 kV6 dc6 pm6 cd6 ct6 : Value}
    (a6 : PySem.W.nsIn K mainGlobals "_law_is_int" = some (some (.ref f6))) (l6 : K.lookup f6 = some ⟨oc6, od6, .func (PySem.W.fnOf "_law_is_int" "_law_is_int" (defArgs s_x_law_is_int) (defBody s_x_law_is_int) (defScope s_x_law_is_int) .none kV6 dc6 pm6 an6 cd6 ct6), sl6⟩) (c6 : PySem.W.codeIn K cd6 "_law_is_int" = true) (k6 : PySem.W.keepIn K (.ref f6) = true)
    {f7 : Addr} {od7 an7 : Option Addr} {sl7 : Array (Option Value)} {oc7 kV7 dc7 pm7 cd7 ct7 : Value}
    (a7 : PySem.W.nsIn K mainGlobals "_law_is_word" = some (some (.ref f7))) (l7 : K.lookup f7 = some ⟨oc7, od7, .func (PySem.W.fnOf "_law_is_word" "_law_is_word" (defArgs s_x_law_is_word) (defBody s_x_law_is_word) (defScope s_x_law_is_word) .none kV7 dc7 pm7 an7 cd7 ct7), sl7⟩) (c7 : PySem.W.codeIn K cd7 "_law_is_word" = true) (k7 : PySem.W.keepIn K (.ref f7) = true)
    {f8 : Addr} {od8 an8 : Option Addr} {sl8 : Array (Option Value)} {oc8 kV8 dc8 pm8 cd8 ct8 : Value}
    (a8 : PySem.W.nsIn K mainGlobals "_law_word" = some (some (.ref f8))) (l8 : K.lookup f8 = some ⟨oc8, od8, .func (PySem.W.fnOf "_law_word" "_law_word" (defArgs s_x_law_word) (defBody s_x_law_word) (defScope s_x_law_word) .none kV8 dc8 pm8 an8 cd8 ct8), sl8⟩) (c8 : PySem.W.codeIn K cd8 "_law_word" = true) (k8 : PySem.W.keepIn K (.ref f8) = true)
    {f9 : Addr} {od9 an9 : Option Addr} {sl9 : Array (Option Value)} {oc9 kV9 dc9 pm9 cd9 ct9 : Value}
    (a9 : PySem.W.nsIn K mainGlobals "_law_chosen" = some (some (.ref f9))) (l9 : K.lookup f9 = some ⟨oc9, od9, .func (PySem.W.fnOf "_law_chosen" "_law_chosen" (defArgs s_x_law_chosen) (defBody s_x_law_chosen) (defScope s_x_law_chosen) .none kV9 dc9 pm9 an9 cd9 ct9), sl9⟩) (c9 : PySem.W.codeIn K cd9 "_law_chosen" = true) (k9 : PySem.W.keepIn K (.ref f9) = true)
    {f10 : Addr} {od10 an10 : Option Addr} {sl10 : Array (Option Value)} {oc10 kV10 dc10 pm10 cd10 ct10 : Value}
    (a10 : PySem.W.nsIn K mainGlobals "_law_named_word" = some (some (.ref f10))) (l10 : K.lookup f10 = some ⟨oc10, od10, .func (PySem.W.fnOf "_law_named_word" "_law_named_word" (defArgs s_x_law_named_word) (defBody s_x_law_named_word) (defScope s_x_law_named_word) .none kV10 dc10 pm10 an10 cd10 ct10), sl10⟩) (c10 : PySem.W.codeIn K cd10 "_law_named_word" = true) (k10 : PySem.W.keepIn K (.ref f10) = true)
    {f11 : Addr} {od11 an11 : Option Addr} {sl11 : Array (Option Value)} {oc11 kV11 dc11 pm11 cd11 ct11 : Value}
    (a11 : PySem.W.nsIn K mainGlobals "_law_long_rule" = some (some (.ref f11))) (l11 : K.lookup f11 = some ⟨oc11, od11, .func (PySem.W.fnOf "_law_long_rule" "_law_long_rule" (defArgs s_x_law_long_rule) (defBody s_x_law_long_rule) (defScope s_x_law_long_rule) .none kV11 dc11 pm11 an11 cd11 ct11), sl11⟩) (c11 : PySem.W.codeIn K cd11 "_law_long_rule" = true) (k11 : PySem.W.keepIn K (.ref f11) = true)
    {f12 : Addr} {od12 an12 : Option Addr} {sl12 : Array (Option Value)} {oc12 kV12 dc12 pm12 cd12 ct12 : Value}
    (a12 : PySem.W.nsIn K mainGlobals "_law_long_table" = some (some (.ref f12))) (l12 : K.lookup f12 = some ⟨oc12, od12, .func (PySem.W.fnOf "_law_long_table" "_law_long_table" (defArgs s_x_law_long_table) (defBody s_x_law_long_table) (defScope s_x_law_long_table) .none kV12 dc12 pm12 an12 cd12 ct12), sl12⟩) (c12 : PySem.W.codeIn K cd12 "_law_long_table" = true) (k12 : PySem.W.keepIn K (.ref f12) = true)
    {f13 : Addr} {od13 an13 : Option Addr} {sl13 : Array (Option Value)} {oc13 kV13 dc13 pm13 cd13 ct13 : Value}
    (a13 : PySem.W.nsIn K mainGlobals "_law_named_table" = some (some (.ref f13))) (l13 : K.lookup f13 = some ⟨oc13, od13, .func (PySem.W.fnOf "_law_named_table" "_law_named_table" (defArgs s_x_law_named_table) (defBody s_x_law_named_table) (defScope s_x_law_named_table) .none kV13 dc13 pm13 an13 cd13 ct13), sl13⟩) (c13 : PySem.W.codeIn K cd13 "_law_named_table" = true) (k13 : PySem.W.keepIn K (.ref f13) = true)
    {f14 : Addr} {od14 an14 : Option Addr} {sl14 : Array (Option Value)} {oc14 kV14 dc14 pm14 cd14 ct14 : Value}
    (a14 : PySem.W.nsIn K mainGlobals "_law_seal_word" = some (some (.ref f14))) (l14 : K.lookup f14 = some ⟨oc14, od14, .func (PySem.W.fnOf "_law_seal_word" "_law_seal_word" (defArgs s_x_law_seal_word) (defBody s_x_law_seal_word) (defScope s_x_law_seal_word) .none kV14 dc14 pm14 an14 cd14 ct14), sl14⟩) (c14 : PySem.W.codeIn K cd14 "_law_seal_word" = true) (k14 : PySem.W.keepIn K (.ref f14) = true)
    {f15 : Addr} {od15 an15 : Option Addr} {sl15 : Array (Option Value)} {oc15 kV15 dc15 pm15 cd15 ct15 : Value}
    (a15 : PySem.W.nsIn K mainGlobals "_law_reduced" = some (some (.ref f15))) (l15 : K.lookup f15 = some ⟨oc15, od15, .func (PySem.W.fnOf "_law_reduced" "_law_reduced" (defArgs s_x_law_reduced) (defBody s_x_law_reduced) (defScope s_x_law_reduced) .none kV15 dc15 pm15 an15 cd15 ct15), sl15⟩) (c15 : PySem.W.codeIn K cd15 "_law_reduced" = true) (k15 : PySem.W.keepIn K (.ref f15) = true)
    {f16 : Addr} {od16 an16 : Option Addr} {sl16 : Array (Option Value)} {oc16 kV16 dc16 pm16 cd16 ct16 : Value}
    (a16 : PySem.W.nsIn K mainGlobals "_law_are_words" = some (some (.ref f16))) (l16 : K.lookup f16 = some ⟨oc16, od16, .func (PySem.W.fnOf "_law_are_words" "_law_are_words" (defArgs s_x_law_are_words) (defBody s_x_law_are_words) (defScope s_x_law_are_words) .none kV16 dc16 pm16 an16 cd16 ct16), sl16⟩) (c16 : PySem.W.codeIn K cd16 "_law_are_words" = true) (k16 : PySem.W.keepIn K (.ref f16) = true)
    {f17 : Addr} {od17 an17 : Option Addr} {sl17 : Array (Option Value)} {oc17 kV17 dc17 pm17 cd17 ct17 : Value}
    (a17 : PySem.W.nsIn K mainGlobals "_law_seal_signs" = some (some (.ref f17))) (l17 : K.lookup f17 = some ⟨oc17, od17, .func (PySem.W.fnOf "_law_seal_signs" "_law_seal_signs" (defArgs s_x_law_seal_signs) (defBody s_x_law_seal_signs) (defScope s_x_law_seal_signs) .none kV17 dc17 pm17 an17 cd17 ct17), sl17⟩) (c17 : PySem.W.codeIn K cd17 "_law_seal_signs" = true) (k17 : PySem.W.keepIn K (.ref f17) = true)
    {f18 : Addr} {od18 an18 : Option Addr} {sl18 : Array (Option Value)} {oc18 kV18 dc18 pm18 cd18 ct18 : Value}
    (a18 : PySem.W.nsIn K mainGlobals "_law_seal_table" = some (some (.ref f18))) (l18 : K.lookup f18 = some ⟨oc18, od18, .func (PySem.W.fnOf "_law_seal_table" "_law_seal_table" (defArgs s_x_law_seal_table) (defBody s_x_law_seal_table) (defScope s_x_law_seal_table) .none kV18 dc18 pm18 an18 cd18 ct18), sl18⟩) (c18 : PySem.W.codeIn K cd18 "_law_seal_table" = true) (k18 : PySem.W.keepIn K (.ref f18) = true)
    {f19 : Addr} {od19 an19 : Option Addr} {sl19 : Array (Option Value)} {oc19 kV19 dc19 pm19 cd19 ct19 : Value}
    (a19 : PySem.W.nsIn K mainGlobals "law" = some (some (.ref f19))) (l19 : K.lookup f19 = some ⟨oc19, od19, .func (PySem.W.fnOf "law" "law" (defArgs s_x_law) (defBody s_x_law) (defScope s_x_law) .none kV19 dc19 pm19 an19 cd19 ct19), sl19⟩) (c19 : PySem.W.codeIn K cd19 "law" = true) (k19 : PySem.W.keepIn K (.ref f19) = true)
    (z_all : PySem.W.nsIn K mainGlobals "all" = some none)
    (z_bool : PySem.W.nsIn K mainGlobals "bool" = some none)
    (z_int : PySem.W.nsIn K mainGlobals "int" = some none)
    (z_isinstance : PySem.W.nsIn K mainGlobals "isinstance" = some none)
    (z_len : PySem.W.nsIn K mainGlobals "len" = some none)
    (z_list : PySem.W.nsIn K mainGlobals "list" = some none)
    (z_range : PySem.W.nsIn K mainGlobals "range" = some none)
    (z_sorted : PySem.W.nsIn K mainGlobals "sorted" = some none)
    (z_tuple : PySem.W.nsIn K mainGlobals "tuple" = some none)
    (hF : ∀ ns : List Int, ns.length ≤ 63 → F_x_law [.scr ns] = some (.val (.bl true))) : ∃ fd : FuncData, (∀ (s : Shared) (v : Value), BindsTo s fd ⟨[v], []⟩ [("script", v)]) ∧ ∀ base : Heap, K.In base → base.Ns mainGlobals mg → FnOk l.prog w K mg base CX0 4 fa fd ["script"] (spL K) := by
  have T : Bt mg := ⟨PySem.W.mg_none_of X G z_all, PySem.W.mg_none_of X G z_bool, PySem.W.mg_none_of X G z_int, PySem.W.mg_none_of X G z_isinstance, PySem.W.mg_none_of X G z_len, PySem.W.mg_none_of X G z_list, PySem.W.mg_none_of X G z_range, PySem.W.mg_none_of X G z_sorted, PySem.W.mg_none_of X G z_tuple⟩
  have D0 : Df K mg "stands_at" s_x_stands_at ["word", "part", "place"] := Df.mk' X G a0 l0 c0 k0 fun _ _ _ _ _ _ us hl => match us, hl with | [_, _, _], _ => rfl
  have D1 : Df K mg "replaced" s_x_replaced ["word", "place", "count", "right"] := Df.mk' X G a1 l1 c1 k1 fun _ _ _ _ _ _ us hl => match us, hl with | [_, _, _, _], _ => rfl
  have D2 : Df K mg "reduced_once" s_x_reduced_once ["table", "word"] := Df.mk' X G a2 l2 c2 k2 fun _ _ _ _ _ _ us hl => match us, hl with | [_, _], _ => rfl
  have D3 : Df K mg "reduction" s_x_reduction ["table", "word"] := Df.mk' X G a3 l3 c3 k3 fun _ _ _ _ _ _ us hl => match us, hl with | [_, _], _ => rfl
  have D4 : Df K mg "_law_mixed" s_x_law_mixed ["script", "k"] := Df.mk' X G a4 l4 c4 k4 fun _ _ _ _ _ _ us hl => match us, hl with | [_, _], _ => rfl
  have D5 : Df K mg "_law_row" s_x_law_row ["script", "many"] := Df.mk' X G a5 l5 c5 k5 fun _ _ _ _ _ _ us hl => match us, hl with | [_, _], _ => rfl
  have D6 : Df K mg "_law_is_int" s_x_law_is_int ["value"] := Df.mk' X G a6 l6 c6 k6 fun _ _ _ _ _ _ us hl => match us, hl with | [_], _ => rfl
  have D7 : Df K mg "_law_is_word" s_x_law_is_word ["value", "signs"] := Df.mk' X G a7 l7 c7 k7 fun _ _ _ _ _ _ us hl => match us, hl with | [_, _], _ => rfl
  have D8 : Df K mg "_law_word" s_x_law_word ["row", "at", "signs", "most"] := Df.mk' X G a8 l8 c8 k8 fun _ _ _ _ _ _ us hl => match us, hl with | [_, _, _, _], _ => rfl
  have D9 : Df K mg "_law_chosen" s_x_law_chosen ["row", "at", "many", "signs"] := Df.mk' X G a9 l9 c9 k9 fun _ _ _ _ _ _ us hl => match us, hl with | [_, _, _, _], _ => rfl
  have D10 : Df K mg "_law_named_word" s_x_law_named_word ["word", "chosen"] := Df.mk' X G a10 l10 c10 k10 fun _ _ _ _ _ _ us hl => match us, hl with | [_, _], _ => rfl
  have D11 : Df K mg "_law_long_rule" s_x_law_long_rule ["row", "at", "signs", "most"] := Df.mk' X G a11 l11 c11 k11 fun _ _ _ _ _ _ us hl => match us, hl with | [_, _, _, _], _ => rfl
  have D12 : Df K mg "_law_long_table" s_x_law_long_table ["row", "at", "signs", "most", "rules"] := Df.mk' X G a12 l12 c12 k12 fun _ _ _ _ _ _ us hl => match us, hl with | [_, _, _, _, _], _ => rfl
  have D13 : Df K mg "_law_named_table" s_x_law_named_table ["table", "chosen"] := Df.mk' X G a13 l13 c13 k13 fun _ _ _ _ _ _ us hl => match us, hl with | [_, _], _ => rfl
  have D14 : Df K mg "_law_seal_word" s_x_law_seal_word ["row", "at", "table", "signs"] := Df.mk' X G a14 l14 c14 k14 fun _ _ _ _ _ _ us hl => match us, hl with | [_, _, _, _], _ => rfl
  have D15 : Df K mg "_law_reduced" s_x_law_reduced ["table", "word"] := Df.mk' X G a15 l15 c15 k15 fun _ _ _ _ _ _ us hl => match us, hl with | [_, _], _ => rfl
  have D16 : Df K mg "_law_are_words" s_x_law_are_words ["found", "signs"] := Df.mk' X G a16 l16 c16 k16 fun _ _ _ _ _ _ us hl => match us, hl with | [_, _], _ => rfl
  have D17 : Df K mg "_law_seal_signs" s_x_law_seal_signs ["row"] := Df.mk' X G a17 l17 c17 k17 fun _ _ _ _ _ _ us hl => match us, hl with | [_], _ => rfl
  have D18 : Df K mg "_law_seal_table" s_x_law_seal_table ["row"] := Df.mk' X G a18 l18 c18 k18 fun _ _ _ _ _ _ us hl => match us, hl with | [_], _ => rfl
  have D19 : Df K mg "law" s_x_law ["script"] := Df.mk' X G a19 l19 c19 k19 fun _ _ _ _ _ _ us hl => match us, hl with | [_], _ => rfl
  have e := hfa.symm.trans (PySem.W.mg_of X G a19)
  cases e
  refine ⟨PySem.W.fnOf "law" "law" (defArgs s_x_law) (defBody s_x_law) (defScope s_x_law) .none kV19 dc19 pm19 an19 cd19 ct19, fun s v => .of_eq rfl, fun base _ _ => ?_⟩
  have C0 := ok_x_stands_at (P := l.prog) (w := w) (base := base) D0 T
  have C1 := ok_x_replaced (P := l.prog) (w := w) (base := base) D1 T
  have C2 := ok_x_reduced_once (P := l.prog) (w := w) (base := base) D2 T C0 C1
  have C3 := ok_x_reduction (P := l.prog) (w := w) (base := base) D3 T C2
  have C4 := ok_x_law_mixed (P := l.prog) (w := w) (base := base) D4 T
  have C5 := ok_x_law_row (P := l.prog) (w := w) (base := base) D5 T C4
  have C6 := ok_x_law_is_int (P := l.prog) (w := w) (base := base) D6 T
  have C7 := ok_x_law_is_word (P := l.prog) (w := w) (base := base) D7 T C6
  have C8 := ok_x_law_word (P := l.prog) (w := w) (base := base) D8 T
  have C9 := ok_x_law_chosen (P := l.prog) (w := w) (base := base) D9 T
  have C10 := ok_x_law_named_word (P := l.prog) (w := w) (base := base) D10 T
  have C11 := ok_x_law_long_rule (P := l.prog) (w := w) (base := base) D11 T
  have C12 := ok_x_law_long_table (P := l.prog) (w := w) (base := base) D12 T C11
  have C13 := ok_x_law_named_table (P := l.prog) (w := w) (base := base) D13 T C10
  have C14 := ok_x_law_seal_word (P := l.prog) (w := w) (base := base) D14 T C8
  have C15 := ok_x_law_reduced (P := l.prog) (w := w) (base := base) D15 T
  have C16 := ok_x_law_are_words (P := l.prog) (w := w) (base := base) D16 T C7
  have C17 := ok_x_law_seal_signs (P := l.prog) (w := w) (base := base) D17 T
  have C18 := ok_x_law_seal_table (P := l.prog) (w := w) (base := base) D18 T C12
  exact law_end (ok_law_fn (P := l.prog) (w := w) (base := base) (fun_mk l19 c19 k19) T C5 C9 C18 C14 C17 C10 C15 C3 C13 C16) hF
theorem walk {l : PySem.W.OpenLaw} {q : Program} {loose : List Str} {XP : (Str → Option Value) → Heap → Prop} {YP : World → Heap → Prop} {d : DefRec} {K : Params → PySem.W.Frag} (hn : l.most = some 63) (hdf : d.params.defaults = [])
    (hY : ∀ (w : World) (h : Heap), YP w h → (K w.params).In h)
    (F : ∀ (w : World) (mg : Str → Option Value) (fa : Addr) (h : Heap), (K w.params).In h → h.Ns mainGlobals mg → mg d.name = some (.ref fa) →
      ∃ fd : FuncData, (∀ (s : Shared) (u : Value), BindsTo s fd ⟨[u], []⟩ [("script", u)]) ∧ ∀ base : Heap, (K w.params).In base → base.Ns mainGlobals mg → FnOk l.prog w (K w.params) mg base CX0 4 fa fd ["script"] (spL (K w.params))) :
    PySem.W.WalkO q loose XP YP l.row.toRowW d [] (fun f vs => PySem.call f vs) :=
  L2.walk_of (n := 63) (k := 4) (x := "script") (CX := fun _ => CX0) (sp := fun w => spL (K w.params)) hn (by decide) hdf ⟨rfl, by decide, by decide⟩ hY F (fun _ _ a ns hl _ hS => ⟨a, ns, rfl, hS, hl, fun _ => rfl⟩) fun _ _ _ _ _ z => z
end DL
open PySem PySem.W PyProof.Rows in
set_option maxRecDepth 100000 in
set_option maxHeartbeats 0 in
theorem PySem.Challenge.cw_anychain_k71_reduction_holds : PySem.Challenge.rw_anychain_k71_reduction.Holds := by
  w_on; o_law; k_head; (case hw => w_witness2)
  k_fill
  refine DL.walk (l := PySem.Challenge.rw_anychain_k71_reduction) rfl rfl (fun w h Y => PySem.W.kIn_of Y) ?F
  case F =>
    intro w mg fa h KX G hmg
    refine' DL.all_mk KX G hmg ?a0 ?l0 ?c0 ?k0 ?a1 ?l1 ?c1 ?k1 ?a2 ?l2 ?c2 ?k2 ?a3 ?l3 ?c3 ?k3 ?a4 ?l4 ?c4 ?k4 ?a5 ?l5 ?c5 ?k5 ?a6 ?l6 ?c6 ?k6 ?a7 ?l7 ?c7 ?k7 ?a8 ?l8 ?c8 ?k8 ?a9 ?l9 ?c9 ?k9 ?a10 ?l10 ?c10 ?k10 ?a11 ?l11 ?c11 ?k11 ?a12 ?l12 ?c12 ?k12 ?a13 ?l13 ?c13 ?k13 ?a14 ?l14 ?c14 ?k14 ?a15 ?l15 ?c15 ?k15 ?a16 ?l16 ?c16 ?k16 ?a17 ?l17 ?c17 ?k17 ?a18 ?l18 ?c18 ?k18 ?a19 ?l19 ?c19 ?k19 ?z_all ?z_bool ?z_int ?z_isinstance ?z_len ?z_list ?z_range ?z_sorted ?z_tuple DL.law_true
    (case a0 => k_is)
    (case l0 => k_is)
    (case c0 => k_is)
    (case k0 => k_is)
    (case a1 => k_is)
    (case l1 => k_is)
    (case c1 => k_is)
    (case k1 => k_is)
    (case a2 => k_is)
    (case l2 => k_is)
    (case c2 => k_is)
    (case k2 => k_is)
    (case a3 => k_is)
    (case l3 => k_is)
    (case c3 => k_is)
    (case k3 => k_is)
    (case a4 => k_is)
    (case l4 => k_is)
    (case c4 => k_is)
    (case k4 => k_is)
    (case a5 => k_is)
    (case l5 => k_is)
    (case c5 => k_is)
    (case k5 => k_is)
    (case a6 => k_is)
    (case l6 => k_is)
    (case c6 => k_is)
    (case k6 => k_is)
    (case a7 => k_is)
    (case l7 => k_is)
    (case c7 => k_is)
    (case k7 => k_is)
    (case a8 => k_is)
    (case l8 => k_is)
    (case c8 => k_is)
    (case k8 => k_is)
    (case a9 => k_is)
    (case l9 => k_is)
    (case c9 => k_is)
    (case k9 => k_is)
    (case a10 => k_is)
    (case l10 => k_is)
    (case c10 => k_is)
    (case k10 => k_is)
    (case a11 => k_is)
    (case l11 => k_is)
    (case c11 => k_is)
    (case k11 => k_is)
    (case a12 => k_is)
    (case l12 => k_is)
    (case c12 => k_is)
    (case k12 => k_is)
    (case a13 => k_is)
    (case l13 => k_is)
    (case c13 => k_is)
    (case k13 => k_is)
    (case a14 => k_is)
    (case l14 => k_is)
    (case c14 => k_is)
    (case k14 => k_is)
    (case a15 => k_is)
    (case l15 => k_is)
    (case c15 => k_is)
    (case k15 => k_is)
    (case a16 => k_is)
    (case l16 => k_is)
    (case c16 => k_is)
    (case k16 => k_is)
    (case a17 => k_is)
    (case l17 => k_is)
    (case c17 => k_is)
    (case k17 => k_is)
    (case a18 => k_is)
    (case l18 => k_is)
    (case c18 => k_is)
    (case k18 => k_is)
    (case a19 => k_is)
    (case l19 => k_is)
    (case c19 => k_is)
    (case k19 => k_is)
    (case z_all => k_is)
    (case z_bool => k_is)
    (case z_int => k_is)
    (case z_isinstance => k_is)
    (case z_len => k_is)
    (case z_list => k_is)
    (case z_range => k_is)
    (case z_sorted => k_is)
    (case z_tuple => k_is)

