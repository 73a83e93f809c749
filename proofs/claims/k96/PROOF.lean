import PyProof.Rows.All
import Wide.All
import OpenK.AllK
import Wide.FinOn
import HandS.ForMost
import HandS.ForExc
import HandS.ExcInit
import HandS.ExcField
import HandS.Style
import HandS.TupAny
import HandS.Deep
import HandS.CallSlots
import HandS.IsInst
import HandS.SortInts
import HandS.TryOnly
import HandS.TryMany
import HandS.ExcIs
import HandS.Iter
import KE.KExcIs
import PyProof.Rows.SortShellAny
import HandS.Codes
import PySem.Challenge.RW_lightstold_k96_whole_single_or_double
set_option Elab.async false
set_option linter.all false
set_option maxRecDepth 100000
set_option maxHeartbeats 4000000
/-! A value layer over the hand layer: what a piece of Python computes, as a function over plain data. -/
namespace VS
open PySem PySem.Spec L2
open PyProof.Rows hiding St

/-- plain data that nobody changes any more -/
inductive D where
  | non | bl (b : Bool) | int (i : Int) | str (x : Str)
  | lst (xs : List D) | tup (xs : List D) | scr (ns : List Int) | ty (n : String)
  | dk (kvs : List (Key × D))
  | ob (c : Str) (fs : List (Str × D))

/-- a value that a name holds: shared data, or an object that this name alone holds -/
inductive T where
  | s (d : D)
  | l (xs : List T)
  | dk (kvs : List (Key × T))
  | ob (c : Str) (fs : List (Str × T))
  | p (xs : List T)

abbrev En := List (Option T)

/-- an end: a value, an exception (its class, its attributes), nothing said -/
inductive R (ε α : Type) where
  | ok (a : α) | ex (c : Str) (fs : List (Str × D)) (e : ε) | no

structure Kt where
  K : PySem.W.Frag
  mg : Str → Option Value
abbrev kt (X : Cx) : Kt := ⟨X.K, X.mg⟩

/-- a tuple: tracked, or of the written part -/
def RT (K : PySem.W.Frag) (F : Hp) (a : Addr) (xs : List V) : Prop := F a = some (.tup xs) ∨
  ∃ (o : Obj) (its : Array Value) (n : Nat), K.lookup a = some o ∧ o.cls = .type "tuple" ∧ o.data = .seq its n ∧ its.size ≤ sizeLine ∧ Vals xs its.toList
theorem RT.sq {K : PySem.W.Frag} {F : Hp} {a : Addr} {xs : List V} (h : RT K F a xs) : SqT K F a xs := h.elim (fun h => .inl (.inl h)) .inr
theorem RT.mono {K : PySem.W.Frag} {F F' : Hp} {a : Addr} {xs : List V} (s : Same F F') (h : RT K F a xs) : RT K F' a xs := h.elim (fun h => .inl (s _ _ h)) .inr
mutual
def Rep (G : Kt) (F : Hp) : D → V → Prop
  | .non, v => v = .non
  | .bl b, v => v = .bl b
  | .int i, v => v = .int i
  | .str x, v => v = .str x
  | .lst xs, v => ∃ a vs, v = .ref a ∧ F a = some (.lst vs) ∧ Reps G F xs vs
  | .scr ns, v => ∃ a, v = .ref a ∧ SqL G.K F a (ns.map V.int)
  | .ty n, v => v = .ty n
  | .tup xs, v => ∃ a vs, v = .ref a ∧ RT G.K F a vs ∧ Reps G F xs vs
  | .dk kvs, v => ∃ a vs, v = .ref a ∧ F a = some (.dK vs) ∧ RepK G F kvs vs
  | .ob c fs, v => ∃ a C dx vs, v = .ref a ∧ G.mg c = some (.ref C) ∧ F a = some (.ins C dx vs) ∧ F dx = some (.own a) ∧ RepF G F fs vs
def Reps (G : Kt) (F : Hp) : List D → List V → Prop
  | [], vs => vs = []
  | d :: ds, vs => ∃ v r, vs = v :: r ∧ Rep G F d v ∧ Reps G F ds r
def RepK (G : Kt) (F : Hp) : List (Key × D) → List (Key × V) → Prop
  | [], vs => vs = []
  | (x, d) :: ds, vs => ∃ v r, vs = (x, v) :: r ∧ Rep G F d v ∧ RepK G F ds r
def RepF (G : Kt) (F : Hp) : List (Str × D) → List (Str × V) → Prop
  | [], vs => vs = []
  | (x, d) :: ds, vs => ∃ v r, vs = (x, v) :: r ∧ Rep G F d v ∧ RepF G F ds r
end

mutual
def Own (G : Kt) (F H : Hp) : T → V → List Addr → Prop
  | .s d, v, fp => Rep G F d v ∧ fp = []
  | .l xs, v, fp => ∃ p vs f1, v = .ref p ∧ H p = some (.lst vs) ∧ Owns G F H xs vs f1 ∧ fp = p :: f1
  | .p xs, v, fp => ∃ p vs f1, v = .ref p ∧ H p = some (.tup vs) ∧ Owns G F H xs vs f1 ∧ fp = p :: f1
  | .dk kvs, v, fp => ∃ p vs f1, v = .ref p ∧ H p = some (.dK vs) ∧ OwnK G F H kvs vs f1 ∧ fp = p :: f1
  | .ob c fs, v, fp => ∃ p C dx vs f1, v = .ref p ∧ G.mg c = some (.ref C) ∧ H p = some (.ins C dx vs) ∧ H dx = some (.own p) ∧ OwnF G F H fs vs f1 ∧ fp = p :: dx :: f1
def Owns (G : Kt) (F H : Hp) : List T → List V → List Addr → Prop
  | [], vs, fp => vs = [] ∧ fp = []
  | t :: ts, vs, fp => ∃ v r f1 f2, vs = v :: r ∧ Own G F H t v f1 ∧ Owns G F H ts r f2 ∧ fp = f1 ++ f2
def OwnK (G : Kt) (F H : Hp) : List (Key × T) → List (Key × V) → List Addr → Prop
  | [], vs, fp => vs = [] ∧ fp = []
  | (k, t) :: ts, vs, fp => ∃ v r f1 f2, vs = (k, v) :: r ∧ Own G F H t v f1 ∧ OwnK G F H ts r f2 ∧ fp = f1 ++ f2
def OwnF (G : Kt) (F H : Hp) : List (Str × T) → List (Str × V) → List Addr → Prop
  | [], vs, fp => vs = [] ∧ fp = []
  | (k, t) :: ts, vs, fp => ∃ v r f1 f2, vs = (k, v) :: r ∧ Own G F H t v f1 ∧ OwnF G F H ts r f2 ∧ fp = f1 ++ f2
end

def OwnE (G : Kt) (F H : Hp) : En → St → List Addr → Prop
  | [], σ, fp => σ = [] ∧ fp = []
  | none :: e, σ, fp => ∃ v r, σ = v :: r ∧ OwnE G F H e r fp
  | some t :: e, σ, fp => ∃ v r f1 f2, σ = some v :: r ∧ Own G F H t v f1 ∧ OwnE G F H e r f2 ∧ fp = f1 ++ f2

/-! ### what stays -/
theorem sq_monoL {K : PySem.W.Frag} {F F' : Hp} (s : Same F F') {a : Addr} {xs : List V} (h : SqL K F a xs) : SqL K F' a xs := s.seq h
mutual
theorem Rep.mono {G : Kt} {F F' : Hp} (s : Same F F') : ∀ (d : D) (v : V), Rep G F d v → Rep G F' d v
  | .non, v, h => by simpa only [Rep] using h
  | .bl b, v, h => by simpa only [Rep] using h
  | .int i, v, h => by simpa only [Rep] using h
  | .str x, v, h => by simpa only [Rep] using h
  | .lst xs, v, h => by
    simp only [Rep] at h ⊢
    obtain ⟨a, vs, e, q, r⟩ := h
    exact ⟨a, vs, e, s _ _ q, Reps.mono s xs vs r⟩
  | .scr ns, v, h => by
    simp only [Rep] at h ⊢
    obtain ⟨a, e, q⟩ := h
    exact ⟨a, e, sq_monoL s q⟩
  | .tup xs, v, h => by
    simp only [Rep] at h ⊢
    obtain ⟨a, vs, e, q, r⟩ := h
    exact ⟨a, vs, e, q.mono s, Reps.mono s xs vs r⟩
  | .ty n, v, h => by simpa only [Rep] using h
  | .dk xs, v, h => by
    simp only [Rep] at h ⊢
    obtain ⟨a, vs, e, q, r⟩ := h
    exact ⟨a, vs, e, s _ _ q, RepK.mono s xs vs r⟩
  | .ob c fs, v, h => by
    simp only [Rep] at h ⊢
    obtain ⟨a, C, dx, vs, e, g, q, q', r⟩ := h
    exact ⟨a, C, dx, vs, e, g, s _ _ q, s _ _ q', RepF.mono s fs vs r⟩
theorem Reps.mono {G : Kt} {F F' : Hp} (s : Same F F') : ∀ (ds : List D) (vs : List V), Reps G F ds vs → Reps G F' ds vs
  | [], vs, h => by simpa only [Reps] using h
  | d :: ds, vs, h => by
    simp only [Reps] at h ⊢
    obtain ⟨v, r, e, h1, h2⟩ := h
    exact ⟨v, r, e, Rep.mono s d v h1, Reps.mono s ds r h2⟩
theorem RepK.mono {G : Kt} {F F' : Hp} (s : Same F F') : ∀ (ds : List (Key × D)) (vs : List (Key × V)), RepK G F ds vs → RepK G F' ds vs
  | [], vs, h => by simpa only [RepK] using h
  | (x, d) :: ds, vs, h => by
    simp only [RepK] at h ⊢
    obtain ⟨v, r, e, h1, h2⟩ := h
    exact ⟨v, r, e, Rep.mono s d v h1, RepK.mono s ds r h2⟩
theorem RepF.mono {G : Kt} {F F' : Hp} (s : Same F F') : ∀ (ds : List (Str × D)) (vs : List (Str × V)), RepF G F ds vs → RepF G F' ds vs
  | [], vs, h => by simpa only [RepF] using h
  | (x, d) :: ds, vs, h => by
    simp only [RepF] at h ⊢
    obtain ⟨v, r, e, h1, h2⟩ := h
    exact ⟨v, r, e, Rep.mono s d v h1, RepF.mono s ds r h2⟩
end
mutual
theorem Own.mono {G : Kt} {F F' H H' : Hp} (s : Same F F') : ∀ (t : T) (v : V) (fp : List Addr), (∀ p ∈ fp, ∀ o, H p = some o → H' p = some o) → Own G F H t v fp → Own G F' H' t v fp
  | .s d, v, fp, k, h => by
    simp only [Own] at h ⊢
    exact ⟨Rep.mono s d v h.1, h.2⟩
  | .l xs, v, fp, k, h => by
    simp only [Own] at h ⊢
    obtain ⟨p, vs, f1, e, q, r, rfl⟩ := h
    exact ⟨p, vs, f1, e, k _ List.mem_cons_self _ q, Owns.mono s xs vs f1 (fun p hp => k p (List.mem_cons_of_mem _ hp)) r, rfl⟩
  | .p xs, v, fp, k, h => by
    simp only [Own] at h ⊢
    obtain ⟨p, vs, f1, e, q, r, rfl⟩ := h
    exact ⟨p, vs, f1, e, k _ List.mem_cons_self _ q, Owns.mono s xs vs f1 (fun p hp => k p (List.mem_cons_of_mem _ hp)) r, rfl⟩
  | .dk xs, v, fp, k, h => by
    simp only [Own] at h ⊢
    obtain ⟨p, vs, f1, e, q, r, rfl⟩ := h
    exact ⟨p, vs, f1, e, k _ List.mem_cons_self _ q, OwnK.mono s xs vs f1 (fun p hp => k p (List.mem_cons_of_mem _ hp)) r, rfl⟩
  | .ob c fs, v, fp, k, h => by
    simp only [Own] at h ⊢
    obtain ⟨p, C, dx, vs, f1, e, g, q, q', r, rfl⟩ := h
    exact ⟨p, C, dx, vs, f1, e, g, k _ List.mem_cons_self _ q, k _ (List.mem_cons_of_mem _ List.mem_cons_self) _ q', OwnF.mono s fs vs f1 (fun p hp => k p (List.mem_cons_of_mem _ (List.mem_cons_of_mem _ hp))) r, rfl⟩
theorem Owns.mono {G : Kt} {F F' H H' : Hp} (s : Same F F') : ∀ (t : List T) (v : List V) (fp : List Addr), (∀ p ∈ fp, ∀ o, H p = some o → H' p = some o) → Owns G F H t v fp → Owns G F' H' t v fp
  | [], v, fp, k, h => by simpa only [Owns] using h
  | t :: ts, vs, fp, k, h => by
    simp only [Owns] at h ⊢
    obtain ⟨v, r, f1, f2, e, h1, h2, rfl⟩ := h
    exact ⟨v, r, f1, f2, e, Own.mono s t v f1 (fun p hp => k p (List.mem_append_left _ hp)) h1, Owns.mono s ts r f2 (fun p hp => k p (List.mem_append_right _ hp)) h2, rfl⟩
theorem OwnK.mono {G : Kt} {F F' H H' : Hp} (s : Same F F') : ∀ (t : List (Key × T)) (v : List (Key × V)) (fp : List Addr), (∀ p ∈ fp, ∀ o, H p = some o → H' p = some o) → OwnK G F H t v fp → OwnK G F' H' t v fp
  | [], v, fp, k, h => by simpa only [OwnK] using h
  | (x, t) :: ts, vs, fp, k, h => by
    simp only [OwnK] at h ⊢
    obtain ⟨v, r, f1, f2, e, h1, h2, rfl⟩ := h
    exact ⟨v, r, f1, f2, e, Own.mono s t v f1 (fun p hp => k p (List.mem_append_left _ hp)) h1, OwnK.mono s ts r f2 (fun p hp => k p (List.mem_append_right _ hp)) h2, rfl⟩
theorem OwnF.mono {G : Kt} {F F' H H' : Hp} (s : Same F F') : ∀ (t : List (Str × T)) (v : List (Str × V)) (fp : List Addr), (∀ p ∈ fp, ∀ o, H p = some o → H' p = some o) → OwnF G F H t v fp → OwnF G F' H' t v fp
  | [], v, fp, k, h => by simpa only [OwnF] using h
  | (x, t) :: ts, vs, fp, k, h => by
    simp only [OwnF] at h ⊢
    obtain ⟨v, r, f1, f2, e, h1, h2, rfl⟩ := h
    exact ⟨v, r, f1, f2, e, Own.mono s t v f1 (fun p hp => k p (List.mem_append_left _ hp)) h1, OwnF.mono s ts r f2 (fun p hp => k p (List.mem_append_right _ hp)) h2, rfl⟩
end
theorem OwnE.mono {G : Kt} {F F' H H' : Hp} (s : Same F F') : ∀ (e : En) (σ : St) (fp : List Addr), (∀ p ∈ fp, ∀ o, H p = some o → H' p = some o) → OwnE G F H e σ fp → OwnE G F' H' e σ fp
  | [], v, fp, k, h => by simpa only [OwnE] using h
  | none :: e, σ, fp, k, h => by
    simp only [OwnE] at h ⊢
    obtain ⟨v, r, e1, h⟩ := h
    exact ⟨v, r, e1, OwnE.mono s e r fp k h⟩
  | some t :: ts, vs, fp, k, h => by
    simp only [OwnE] at h ⊢
    obtain ⟨v, r, f1, f2, e, h1, h2, rfl⟩ := h
    exact ⟨v, r, f1, f2, e, Own.mono s t v f1 (fun p hp => k p (List.mem_append_left _ hp)) h1, OwnE.mono s ts r f2 (fun p hp => k p (List.mem_append_right _ hp)) h2, rfl⟩

/-! ### the state of a body; how it goes on -/
/-- slots that stay as they are (arguments that the def may change), objects that stand (an exception's dict) -/
structure Fx where
  sl : List (Nat × V)
  pn : List (List (Str × D) × Addr)
instance : Membership (Nat × V) Fx := ⟨fun f q => q ∈ f.sl⟩
/-- the dict of an exception, as it stands -/
def PinOk (G : Kt) (F : Hp) (q : List (Str × D) × Addr) : Prop := ∃ vs, F q.2 = some (.xd vs) ∧ RepF G F q.1 vs
theorem PinOk.mono {G : Kt} {F F' : Hp} {q : List (Str × D) × Addr} (s : Same F F') (h : PinOk G F q) : PinOk G F' q := by
  obtain ⟨vs, a, b⟩ := h
  exact ⟨vs, s _ _ a, b.mono s⟩
structure Sta (G : Kt) (fx : Fx) (env : En) (F : Hp) (σ : St) (H : Hp) (fp : List Addr) : Prop where
  own : OwnE G F H env σ fp
  nd : fp.Nodup
  off : ∀ p ∈ fp, F p = none
  sub : Same F H
  fix : ∀ q ∈ fx, σ[q.1]? = some (some q.2)
  pin : ∀ q ∈ fx.pn, PinOk G F q

structure Go (F H : Hp) (fp : List Addr) (F' H' : Hp) (fp' : List Addr) : Prop where
  f : Same F F'
  fn : ∀ p o, F' p = some o → F p = some o ∨ H p = none ∨ p ∈ fp
  h : ∀ p o, H p = some o → p ∉ fp → H' p = some o
  own : ∀ p ∈ fp', p ∈ fp ∨ H p = none
theorem Go.refl {F H : Hp} {fp : List Addr} : Go F H fp F H fp := ⟨Same.refl _, fun _ _ h => .inl h, fun _ _ h _ => h, fun _ h => .inl h⟩
theorem Go.trans {F H F1 H1 F2 H2 : Hp} {fp fp1 fp2 : List Addr} (a : Go F H fp F1 H1 fp1) (b : Go F1 H1 fp1 F2 H2 fp2) : Go F H fp F2 H2 fp2 := by
  have back : ∀ p, H1 p = none → H p = none ∨ p ∈ fp := fun p n => by
    by_cases hp : p ∈ fp
    · exact .inr hp
    · cases q : H p with
      | none => exact .inl rfl
      | some o =>
        have := a.h p o q hp
        rw [n] at this; cases this
  refine ⟨a.f.trans b.f, fun p o h => ?_, fun p o h n => ?_, fun p hp => ?_⟩
  · rcases b.fn p o h with h | h | h
    · exact a.fn p o h
    · rcases back p h with h | h
      · exact .inr (.inl h)
      · exact .inr (.inr h)
    · rcases a.own p h with h | h
      · exact .inr (.inr h)
      · exact .inr (.inl h)
  · refine b.h p o (a.h p o h n) fun hp => ?_
    rcases a.own p hp with z | z
    · exact n z
    · rw [h] at z; cases z
  · rcases b.own p hp with z | z
    · exact a.own p z
    · exact (back p z).symm
theorem Go.less {F H F' H' : Hp} {fp fp' fp'' : List Addr} (a : Go F H fp F' H' fp') (h : ∀ p ∈ fp'', p ∈ fp') : Go F H fp F' H' fp'' := ⟨a.f, a.fn, a.h, fun p hp => a.own p (h p hp)⟩
theorem Go.more {F H F' H' : Hp} {fp fq fp' : List Addr} (a : Go F H fp F' H' fp') (h : ∀ p ∈ fp, p ∈ fq) : Go F H fq F' H' fp' :=
  ⟨a.f, fun p o q => (a.fn p o q).imp id (Or.imp id (h p)), fun p o q n => a.h p o q fun z => n (h p z), fun p hp => (a.own p hp).imp (h p) id⟩

/-- new objects alone -/
structure Grow (F H F' H' : Hp) : Prop where
  f : Same F F'
  h : Same H H'
  fn : ∀ p o, F' p = some o → F p = some o ∨ H p = none
  sub : Same F' H'
theorem Grow.refl {F H : Hp} (s : Same F H) : Grow F H F H := ⟨Same.refl _, Same.refl _, fun _ _ h => .inl h, s⟩
theorem Grow.trans {F H F1 H1 F2 H2 : Hp} (a : Grow F H F1 H1) (b : Grow F1 H1 F2 H2) : Grow F H F2 H2 :=
  ⟨a.f.trans b.f, a.h.trans b.h, fun p o h => (b.fn p o h).elim (a.fn p o) fun z => .inr (a.h.free z), b.sub⟩
theorem Grow.go {F H F' H' : Hp} (a : Grow F H F' H') (fp : List Addr) : Go F H fp F' H' fp := ⟨a.f, fun p o h => (a.fn p o h).imp id .inl, fun p o h _ => a.h p o h, fun _ h => .inl h⟩
theorem Grow.goNew {F H F' H' : Hp} (a : Grow F H F' H') (fp ft : List Addr) (n : ∀ p ∈ ft, H p = none) : Go F H fp F' H' (fp ++ ft) :=
  ⟨a.f, fun p o h => (a.fn p o h).imp id .inl, fun p o h _ => a.h p o h, fun p h => (List.mem_append.mp h).imp id (n p)⟩
theorem OwnE.there {G : Kt} {F H : Hp} : ∀ {e : En} {σ : St} {fp : List Addr}, OwnE G F H e σ fp → e.length = σ.length
  | [], σ, fp, h => by
    simp only [OwnE] at h
    obtain ⟨rfl, _⟩ := h
    rfl
  | none :: e, σ, fp, h => by
    simp only [OwnE] at h
    obtain ⟨v, r, rfl, h⟩ := h
    simp [OwnE.there h]
  | some t :: e, σ, fp, h => by
    simp only [OwnE] at h
    obtain ⟨v, r, f1, f2, rfl, _, h, _⟩ := h
    simp [OwnE.there h]
mutual
theorem Own.is {G : Kt} {F H : Hp} : ∀ (t : T) (v : V) (fp : List Addr), Own G F H t v fp → ∀ p ∈ fp, ∃ o, H p = some o
  | .s d, v, fp, h => by
    simp only [Own] at h
    rw [h.2]; simp
  | .l xs, v, fp, h => by
    simp only [Own] at h
    obtain ⟨p, vs, f1, e, q, r, rfl⟩ := h
    intro a ha
    rcases List.mem_cons.mp ha with rfl | ha
    · exact ⟨_, q⟩
    · exact Owns.is xs vs f1 r a ha
  | .p xs, v, fp, h => by
    simp only [Own] at h
    obtain ⟨p, vs, f1, e, q, r, rfl⟩ := h
    intro a ha
    rcases List.mem_cons.mp ha with rfl | ha
    · exact ⟨_, q⟩
    · exact Owns.is xs vs f1 r a ha
  | .dk xs, v, fp, h => by
    simp only [Own] at h
    obtain ⟨p, vs, f1, e, q, r, rfl⟩ := h
    intro a ha
    rcases List.mem_cons.mp ha with rfl | ha
    · exact ⟨_, q⟩
    · exact OwnK.is xs vs f1 r a ha
  | .ob c fs, v, fp, h => by
    simp only [Own] at h
    obtain ⟨p, C, dx, vs, f1, e, g, q, q', r, rfl⟩ := h
    intro a ha
    rcases List.mem_cons.mp ha with rfl | ha
    · exact ⟨_, q⟩
    · rcases List.mem_cons.mp ha with rfl | ha
      · exact ⟨_, q'⟩
      · exact OwnF.is fs vs f1 r a ha
theorem Owns.is {G : Kt} {F H : Hp} : ∀ (t : List T) (v : List V) (fp : List Addr), Owns G F H t v fp → ∀ p ∈ fp, ∃ o, H p = some o
  | [], v, fp, h => by
    simp only [Owns] at h
    rw [h.2]; simp
  | t :: ts, vs, fp, h => by
    simp only [Owns] at h
    obtain ⟨v, r, f1, f2, e, h1, h2, rfl⟩ := h
    intro a ha
    rcases List.mem_append.mp ha with ha | ha
    · exact Own.is t v f1 h1 a ha
    · exact Owns.is ts r f2 h2 a ha
theorem OwnK.is {G : Kt} {F H : Hp} : ∀ (t : List (Key × T)) (v : List (Key × V)) (fp : List Addr), OwnK G F H t v fp → ∀ p ∈ fp, ∃ o, H p = some o
  | [], v, fp, h => by
    simp only [OwnK] at h
    rw [h.2]; simp
  | (x, t) :: ts, vs, fp, h => by
    simp only [OwnK] at h
    obtain ⟨v, r, f1, f2, e, h1, h2, rfl⟩ := h
    intro a ha
    rcases List.mem_append.mp ha with ha | ha
    · exact Own.is t v f1 h1 a ha
    · exact OwnK.is ts r f2 h2 a ha
theorem OwnF.is {G : Kt} {F H : Hp} : ∀ (t : List (Str × T)) (v : List (Str × V)) (fp : List Addr), OwnF G F H t v fp → ∀ p ∈ fp, ∃ o, H p = some o
  | [], v, fp, h => by
    simp only [OwnF] at h
    rw [h.2]; simp
  | (x, t) :: ts, vs, fp, h => by
    simp only [OwnF] at h
    obtain ⟨v, r, f1, f2, e, h1, h2, rfl⟩ := h
    intro a ha
    rcases List.mem_append.mp ha with ha | ha
    · exact Own.is t v f1 h1 a ha
    · exact OwnF.is ts r f2 h2 a ha
end
theorem OwnE.is {G : Kt} {F H : Hp} : ∀ {e : En} {σ : St} {fp : List Addr}, OwnE G F H e σ fp → ∀ p ∈ fp, ∃ o, H p = some o
  | [], σ, fp, h => by simp only [OwnE] at h; rw [h.2]; simp
  | none :: e, σ, fp, h => by
    simp only [OwnE] at h
    obtain ⟨v, r, rfl, h⟩ := h
    exact OwnE.is h
  | some t :: e, σ, fp, h => by
    simp only [OwnE] at h
    obtain ⟨v, r, f1, f2, rfl, h1, h, rfl⟩ := h
    intro a ha
    rcases List.mem_append.mp ha with ha | ha
    · exact Own.is t v f1 h1 a ha
    · exact OwnE.is h a ha
/-- new objects alone: the state stays -/
theorem Sta.grow {G : Kt} {fx : Fx} {env : En} {F H F' H' : Hp} {σ : St} {fp : List Addr} (S : Sta G fx env F σ H fp) (g : Grow F H F' H') : Sta G fx env F' σ H' fp :=
  ⟨OwnE.mono g.f env σ fp (fun p _ o e => g.h p o e) S.own, S.nd, (fun p hp => by
    cases q : F' p with
    | none => rfl
    | some o =>
      obtain ⟨u, hu⟩ := S.own.is p hp
      rcases g.fn p o q with z | z
      · rw [S.off p hp] at z; cases z
      · rw [hu] at z; cases z), g.sub, S.fix, fun q h => (S.pin q h).mono g.f⟩
/-- a pending value stays while the state goes on -/
theorem Own.go {G : Kt} {F H F' H' : Hp} {fp fp' ft : List Addr} {t : T} {v : V} (o : Own G F H t v ft) (off : ∀ p ∈ ft, F p = none) (g : Go F H fp F' H' fp') (d : ∀ p ∈ ft, p ∉ fp) :
    Own G F' H' t v ft ∧ (∀ p ∈ ft, F' p = none) ∧ ∀ p ∈ ft, p ∉ fp' := by
  refine ⟨Own.mono g.f t v ft (fun p hp o e => g.h p o e (d p hp)) o, fun p hp => ?_, fun p hp z => ?_⟩
  · obtain ⟨u, hu⟩ := Own.is t v ft o p hp
    cases q : F' p with
    | none => rfl
    | some o =>
      rcases g.fn p o q with z | z | z
      · rw [off p hp] at z; cases z
      · rw [hu] at z; cases z
      · exact absurd z (d p hp)
  · obtain ⟨u, hu⟩ := Own.is t v ft o p hp
    rcases g.own p z with z | z
    · exact d p hp z
    · rw [hu] at z; cases z
theorem Owns.go {G : Kt} {F H F' H' : Hp} {fp fp' ft : List Addr} {t : List T} {v : List V} (o : Owns G F H t v ft) (off : ∀ p ∈ ft, F p = none) (g : Go F H fp F' H' fp') (d : ∀ p ∈ ft, p ∉ fp) :
    Owns G F' H' t v ft ∧ (∀ p ∈ ft, F' p = none) ∧ ∀ p ∈ ft, p ∉ fp' := by
  refine ⟨Owns.mono g.f t v ft (fun p hp o e => g.h p o e (d p hp)) o, fun p hp => ?_, fun p hp z => ?_⟩
  · obtain ⟨u, hu⟩ := Owns.is t v ft o p hp
    cases q : F' p with
    | none => rfl
    | some o =>
      rcases g.fn p o q with z | z | z
      · rw [off p hp] at z; cases z
      · rw [hu] at z; cases z
      · exact absurd z (d p hp)
  · obtain ⟨u, hu⟩ := Owns.is t v ft o p hp
    rcases g.own p z with z | z
    · exact d p hp z
    · rw [hu] at z; cases z
end VS
namespace VS
open PySem PySem.Spec L2
open PyProof.Rows hiding St

/-! ### looked at, not held -/
mutual
def Bor (G : Kt) (F H : Hp) : T → V → Prop
  | .s d, v => Rep G F d v
  | .l xs, v => ∃ p vs, v = .ref p ∧ H p = some (.lst vs) ∧ Bors G F H xs vs
  | .p xs, v => ∃ p vs, v = .ref p ∧ H p = some (.tup vs) ∧ Bors G F H xs vs
  | .dk kvs, v => ∃ p vs, v = .ref p ∧ H p = some (.dK vs) ∧ BorK G F H kvs vs
  | .ob c fs, v => ∃ p C dx vs, v = .ref p ∧ G.mg c = some (.ref C) ∧ H p = some (.ins C dx vs) ∧ H dx = some (.own p) ∧ BorF G F H fs vs
def Bors (G : Kt) (F H : Hp) : List T → List V → Prop
  | [], vs => vs = []
  | t :: ts, vs => ∃ v r, vs = v :: r ∧ Bor G F H t v ∧ Bors G F H ts r
def BorK (G : Kt) (F H : Hp) : List (Key × T) → List (Key × V) → Prop
  | [], vs => vs = []
  | (k, t) :: ts, vs => ∃ v r, vs = (k, v) :: r ∧ Bor G F H t v ∧ BorK G F H ts r
def BorF (G : Kt) (F H : Hp) : List (Str × T) → List (Str × V) → Prop
  | [], vs => vs = []
  | (k, t) :: ts, vs => ∃ v r, vs = (k, v) :: r ∧ Bor G F H t v ∧ BorF G F H ts r
end
mutual
theorem Own.bor {G : Kt} {F H : Hp} : ∀ (t : T) (v : V) (fp : List Addr), Own G F H t v fp → Bor G F H t v
  | .s d, v, fp, h => by
    simp only [Own, Bor] at h ⊢
    exact h.1
  | .l xs, v, fp, h => by
    simp only [Own, Bor] at h ⊢
    obtain ⟨p, vs, f1, e, q, r, rfl⟩ := h
    exact ⟨p, vs, e, q, Owns.bor xs vs f1 r⟩
  | .p xs, v, fp, h => by
    simp only [Own, Bor] at h ⊢
    obtain ⟨p, vs, f1, e, q, r, rfl⟩ := h
    exact ⟨p, vs, e, q, Owns.bor xs vs f1 r⟩
  | .dk xs, v, fp, h => by
    simp only [Own, Bor] at h ⊢
    obtain ⟨p, vs, f1, e, q, r, rfl⟩ := h
    exact ⟨p, vs, e, q, OwnK.bor xs vs f1 r⟩
  | .ob c fs, v, fp, h => by
    simp only [Own, Bor] at h ⊢
    obtain ⟨p, C, dx, vs, f1, e, g, q, q', r, rfl⟩ := h
    exact ⟨p, C, dx, vs, e, g, q, q', OwnF.bor fs vs f1 r⟩
theorem Owns.bor {G : Kt} {F H : Hp} : ∀ (t : List T) (v : List V) (fp : List Addr), Owns G F H t v fp → Bors G F H t v
  | [], v, fp, h => by
    simp only [Owns, Bors] at h ⊢
    exact h.1
  | t :: ts, vs, fp, h => by
    simp only [Owns, Bors] at h ⊢
    obtain ⟨v, r, f1, f2, e, h1, h2, rfl⟩ := h
    exact ⟨v, r, e, Own.bor t v f1 h1, Owns.bor ts r f2 h2⟩
theorem OwnK.bor {G : Kt} {F H : Hp} : ∀ (t : List (Key × T)) (v : List (Key × V)) (fp : List Addr), OwnK G F H t v fp → BorK G F H t v
  | [], v, fp, h => by
    simp only [OwnK, BorK] at h ⊢
    exact h.1
  | (k, t) :: ts, vs, fp, h => by
    simp only [OwnK, BorK] at h ⊢
    obtain ⟨v, r, f1, f2, e, h1, h2, rfl⟩ := h
    exact ⟨v, r, e, Own.bor t v f1 h1, OwnK.bor ts r f2 h2⟩
theorem OwnF.bor {G : Kt} {F H : Hp} : ∀ (t : List (Str × T)) (v : List (Str × V)) (fp : List Addr), OwnF G F H t v fp → BorF G F H t v
  | [], v, fp, h => by
    simp only [OwnF, BorF] at h ⊢
    exact h.1
  | (k, t) :: ts, vs, fp, h => by
    simp only [OwnF, BorF] at h ⊢
    obtain ⟨v, r, f1, f2, e, h1, h2, rfl⟩ := h
    exact ⟨v, r, e, Own.bor t v f1 h1, OwnF.bor ts r f2 h2⟩
end
mutual
theorem Bor.mono {G : Kt} {F F' H H' : Hp} (s : Same F F') (k : Same H H') : ∀ (t : T) (v : V), Bor G F H t v → Bor G F' H' t v
  | .s d, v, h => by
    simp only [Bor] at h ⊢
    exact Rep.mono s d v h
  | .l xs, v, h => by
    simp only [Bor] at h ⊢
    obtain ⟨p, vs, e, q, r⟩ := h
    exact ⟨p, vs, e, k _ _ q, Bors.mono s k xs vs r⟩
  | .p xs, v, h => by
    simp only [Bor] at h ⊢
    obtain ⟨p, vs, e, q, r⟩ := h
    exact ⟨p, vs, e, k _ _ q, Bors.mono s k xs vs r⟩
  | .dk xs, v, h => by
    simp only [Bor] at h ⊢
    obtain ⟨p, vs, e, q, r⟩ := h
    exact ⟨p, vs, e, k _ _ q, BorK.mono s k xs vs r⟩
  | .ob c fs, v, h => by
    simp only [Bor] at h ⊢
    obtain ⟨p, C, dx, vs, e, g, q, q', r⟩ := h
    exact ⟨p, C, dx, vs, e, g, k _ _ q, k _ _ q', BorF.mono s k fs vs r⟩
theorem Bors.mono {G : Kt} {F F' H H' : Hp} (s : Same F F') (k : Same H H') : ∀ (t : List T) (v : List V), Bors G F H t v → Bors G F' H' t v
  | [], v, h => by simpa only [Bors] using h
  | t :: ts, vs, h => by
    simp only [Bors] at h ⊢
    obtain ⟨v, r, e, h1, h2⟩ := h
    exact ⟨v, r, e, Bor.mono s k t v h1, Bors.mono s k ts r h2⟩
theorem BorK.mono {G : Kt} {F F' H H' : Hp} (s : Same F F') (k : Same H H') : ∀ (t : List (Key × T)) (v : List (Key × V)), BorK G F H t v → BorK G F' H' t v
  | [], v, h => by simpa only [BorK] using h
  | (x, t) :: ts, vs, h => by
    simp only [BorK] at h ⊢
    obtain ⟨v, r, e, h1, h2⟩ := h
    exact ⟨v, r, e, Bor.mono s k t v h1, BorK.mono s k ts r h2⟩
theorem BorF.mono {G : Kt} {F F' H H' : Hp} (s : Same F F') (k : Same H H') : ∀ (t : List (Str × T)) (v : List (Str × V)), BorF G F H t v → BorF G F' H' t v
  | [], v, h => by simpa only [BorF] using h
  | (x, t) :: ts, vs, h => by
    simp only [BorF] at h ⊢
    obtain ⟨v, r, e, h1, h2⟩ := h
    exact ⟨v, r, e, Bor.mono s k t v h1, BorF.mono s k ts r h2⟩
end
/-! as plain data -/
mutual
def er : T → D
  | .s d => d
  | .l xs => .lst (ers xs)
  | .p xs => .tup (ers xs)
  | .dk kvs => .dk (erK kvs)
  | .ob c fs => .ob c (erF fs)
def ers : List T → List D
  | [] => []
  | t :: ts => er t :: ers ts
def erK : List (Key × T) → List (Key × D)
  | [] => []
  | (k, t) :: ts => (k, er t) :: erK ts
def erF : List (Str × T) → List (Str × D)
  | [] => []
  | (k, t) :: ts => (k, er t) :: erF ts
end
mutual
theorem Bor.rep {G : Kt} {F H : Hp} (s : Same F H) : ∀ (t : T) (v : V), Bor G F H t v → Rep G H (er t) v
  | .s d, v, h => by
    simp only [Bor, er] at h ⊢
    exact Rep.mono s d v h
  | .l xs, v, h => by
    simp only [Bor, er, Rep] at h ⊢
    obtain ⟨p, vs, e, q, r⟩ := h
    exact ⟨p, vs, e, q, Bors.rep s xs vs r⟩
  | .p xs, v, h => by
    simp only [Bor, er, Rep] at h ⊢
    obtain ⟨p, vs, e, q, r⟩ := h
    exact ⟨p, vs, e, .inl q, Bors.rep s xs vs r⟩
  | .dk xs, v, h => by
    simp only [Bor, er, Rep] at h ⊢
    obtain ⟨p, vs, e, q, r⟩ := h
    exact ⟨p, vs, e, q, BorK.rep s xs vs r⟩
  | .ob c fs, v, h => by
    simp only [Bor, er, Rep] at h ⊢
    obtain ⟨p, C, dx, vs, e, g, q, q', r⟩ := h
    exact ⟨p, C, dx, vs, e, g, q, q', BorF.rep s fs vs r⟩
theorem Bors.rep {G : Kt} {F H : Hp} (s : Same F H) : ∀ (t : List T) (v : List V), Bors G F H t v → Reps G H (ers t) v
  | [], v, h => by simpa only [Bors, ers, Reps] using h
  | t :: ts, vs, h => by
    simp only [Bors, ers, Reps] at h ⊢
    obtain ⟨v, r, e, h1, h2⟩ := h
    exact ⟨v, r, e, Bor.rep s t v h1, Bors.rep s ts r h2⟩
theorem BorK.rep {G : Kt} {F H : Hp} (s : Same F H) : ∀ (t : List (Key × T)) (v : List (Key × V)), BorK G F H t v → RepK G H (erK t) v
  | [], v, h => by simpa only [BorK, erK, RepK] using h
  | (x, t) :: ts, vs, h => by
    simp only [BorK, erK, RepK] at h ⊢
    obtain ⟨v, r, e, h1, h2⟩ := h
    exact ⟨v, r, e, Bor.rep s t v h1, BorK.rep s ts r h2⟩
theorem BorF.rep {G : Kt} {F H : Hp} (s : Same F H) : ∀ (t : List (Str × T)) (v : List (Str × V)), BorF G F H t v → RepF G H (erF t) v
  | [], v, h => by simpa only [BorF, erF, RepF] using h
  | (x, t) :: ts, vs, h => by
    simp only [BorF, erF, RepF] at h ⊢
    obtain ⟨v, r, e, h1, h2⟩ := h
    exact ⟨v, r, e, Bor.rep s t v h1, BorF.rep s ts r h2⟩
end

/-! ### one slot -/
def OwnS (G : Kt) (F H : Hp) : Option T → Option V → List Addr → Prop
  | none, _, f => f = []
  | some t, s, f => ∃ v, s = some v ∧ Own G F H t v f
theorem OwnE.split {G : Kt} {F H : Hp} : ∀ {e : En} {σ : St} {fp : List Addr} {i : Nat} {x : Option T}, OwnE G F H e σ fp → e[i]? = some x →
    ∃ a b c s, fp = a ++ (b ++ c) ∧ σ[i]? = some s ∧ OwnS G F H x s b ∧ ∀ (F' H' : Hp) y s' b', Same F F' → (∀ p ∈ a ++ c, ∀ o, H p = some o → H' p = some o) → OwnS G F' H' y s' b' → OwnE G F' H' (e.set i y) (σ.set i s') (a ++ (b' ++ c))
  | [], _, _, i, _, _, e => by simp at e
  | z :: e, σ, fp, 0, x, h, q => by
    have q' : z = x := by simpa using q
    subst q'
    cases z with
    | none =>
      simp only [OwnE] at h
      obtain ⟨v, r, rfl, h⟩ := h
      refine ⟨[], [], fp, v, rfl, rfl, rfl, fun F' H' y s' b' sf k o => ?_⟩
      have h' := OwnE.mono sf e r fp (fun p hp => k p (by simpa using hp)) h
      cases y with
      | none =>
        simp only [OwnS] at o
        subst o
        exact ⟨s', r, rfl, h'⟩
      | some t =>
        obtain ⟨v', rfl, o⟩ := o
        exact ⟨v', r, b', fp, rfl, o, h', rfl⟩
    | some t =>
      simp only [OwnE] at h
      obtain ⟨v, r, f1, f2, rfl, o1, h, rfl⟩ := h
      refine ⟨[], f1, f2, some v, rfl, rfl, ⟨v, rfl, o1⟩, fun F' H' y s' b' sf k o => ?_⟩
      have h' := OwnE.mono sf e r f2 (fun p hp => k p (by simpa using hp)) h
      cases y with
      | none =>
        simp only [OwnS] at o
        subst o
        exact ⟨s', r, rfl, h'⟩
      | some t =>
        obtain ⟨v', rfl, o⟩ := o
        exact ⟨v', r, b', f2, rfl, o, h', rfl⟩
  | none :: e, σ, fp, i + 1, x, h, q => by
    simp only [OwnE] at h
    obtain ⟨v, r, rfl, h⟩ := h
    obtain ⟨a, b, c, s, rfl, e1, o1, k⟩ := OwnE.split (i := i) h (by simpa using q)
    exact ⟨a, b, c, s, rfl, by simpa using e1, o1, fun F' H' y s' b' sf kk o => ⟨v, _, rfl, k F' H' y s' b' sf kk o⟩⟩
  | some t :: e, σ, fp, i + 1, x, h, q => by
    simp only [OwnE] at h
    obtain ⟨v, r, f1, f2, rfl, ot, h, rfl⟩ := h
    obtain ⟨a, b, c, s, rfl, e1, o1, k⟩ := OwnE.split (i := i) h (by simpa using q)
    refine ⟨f1 ++ a, b, c, s, by simp, by simpa using e1, o1, fun F' H' y s' b' sf kk o => ?_⟩
    exact ⟨v, _, f1, a ++ (b' ++ c), rfl, Own.mono sf t v f1 (fun p hp => kk p (by simp [hp])) ot, k F' H' y s' b' sf (fun p hp => kk p (by
      rcases List.mem_append.mp hp with z | z <;> simp [z])) o, by simp⟩

/-! ### ends -/
/-- an exception's object -/
def ExR (G : Kt) (F H : Hp) (c : Str) (fs : List (Str × D)) (cls : Value) (d : Option Addr) : Prop :=
  ∃ C, G.mg c = some (.ref C) ∧ cls = .ref C ∧ ((d = none ∧ fs = []) ∨ ∃ dd, d = some dd ∧ PinOk G F (fs, dd))
/-- what is wanted behind a value -/
def PV (G : Kt) (fx : Fx) (W : L2.WX) (σ : St) (Q : V → Hp → Prop) (F H : Hp) (fp : List Addr) : R En (T × En) → Prop
  | .ok (t, e) => ∀ v F' H' fp' ft, Sta G fx e F' σ H' fp' → Own G F' H' t v ft → (fp' ++ ft).Nodup → (∀ p ∈ ft, F' p = none) → Go F H fp F' H' (fp' ++ ft) → Q v H'
  | .ex c fs e => ∀ cls d F' H' fp', Sta G fx e F' σ H' fp' → ExR G F' H' c fs cls d → Go F H fp F' H' fp' → W cls d σ H'
  | .no => False
theorem PV.go {G : Kt} {fx : Fx} {W : L2.WX} {σ : St} {Q : V → Hp → Prop} {F H F1 H1 : Hp} {fp fp1 : List Addr} {r : R En (T × En)} (h : PV G fx W σ Q F H fp r) (g : Go F H fp F1 H1 fp1) : PV G fx W σ Q F1 H1 fp1 r := by
  cases r with
  | ok a =>
    obtain ⟨t, e⟩ := a
    intro v F' H' fp' ft S o nd off g'
    exact h v F' H' fp' ft S o nd off (g.trans g')
  | ex c fs e =>
    intro cls d F' H' fp' S x g'
    exact h cls d F' H' fp' S x (g.trans g')
  | no => exact h
/-- the reading of an expression that computes f -/
def tV (G : Kt) (fx : Fx) (W : L2.WX) (f : En → R En (T × En)) : TE := fun σ H Q => ∃ env F fp, Sta G fx env F σ H fp ∧ PV G fx W σ Q F H fp (f env)
/-- .. that changes nothing: its value may be looked at -/
def PB (G : Kt) (fx : Fx) (W : L2.WX) (σ : St) (Q : V → Hp → Prop) (env : En) (F H : Hp) (fp : List Addr) : R En T → Prop
  | .ok t => ∀ v F' H', Grow F H F' H' → Bor G F' H' t v → Q v H'
  | .ex c fs e => ∀ cls d F' H' fp', Sta G fx e F' σ H' fp' → ExR G F' H' c fs cls d → Go F H fp F' H' fp' → W cls d σ H'
  | .no => False
def tB (G : Kt) (fx : Fx) (W : L2.WX) (g : En → R En T) : TE := fun σ H Q => ∃ env F fp, Sta G fx env F σ H fp ∧ PB G fx W σ Q env F H fp (g env)

theorem PE.imp {X : Cx} {e : Expr} {t t' : TE} (h : PE X e t) (k : ∀ σ H Q, t' σ H Q → t σ H Q) : PE X e t' := ⟨fun pins s σ H Q I q => h.run pins s σ H Q I (k σ H Q q)⟩
theorem PT.imp {X : Cx} {e : Expr} {t t' : TT} (h : PT X e t) (k : ∀ σ H Q, t' σ H Q → t σ H Q) : PT X e t' := ⟨fun pins s σ H Q I q => h.run pins s σ H Q I (k σ H Q q)⟩
theorem PA.imp {X : Cx} {e : List Expr} {t t' : TA} (h : PA X e t) (k : ∀ σ H Q, t' σ H Q → t σ H Q) : PA X e t' := ⟨fun pos pins s σ H Q I q => h.run pos pins s σ H Q I (k σ H Q q)⟩
theorem PS.imp {X : Cx} {e : Stmt} {t t' : TS} (h : PS X e t) (k : ∀ D σ H, t' D σ H → t D σ H) : PS X e t' := ⟨fun pins s σ H Q I q => h.run pins s σ H Q I (k Q σ H q)⟩
theorem PSs.imp {X : Cx} {e : List Stmt} {t t' : TS} (h : PSs X e t) (k : ∀ D σ H, t' D σ H → t D σ H) : PSs X e t' := ⟨fun pins s σ H Q I q => h.run pins s σ H Q I (k Q σ H q)⟩

abbrev VE (X : Cx) (fx : Fx) (W : L2.WX) (e : Expr) (f : En → R En (T × En)) : Prop := PE X e (tV (kt X) fx W f)
abbrev VB (X : Cx) (fx : Fx) (W : L2.WX) (e : Expr) (g : En → R En T) : Prop := PE X e (tB (kt X) fx W g)
end VS
namespace VS
open PySem PySem.Spec L2
open PyProof.Rows hiding St

/-! ### one after another -/
def bnd {ε α β : Type} (r : R ε α) (k : α → R ε β) : R ε β := match r with
  | .ok a => k a
  | .ex c fs e => .ex c fs e
  | .no => .no
@[simp] theorem bnd_ok {ε α β : Type} {a : α} {k : α → R ε β} : bnd (.ok a) k = k a := rfl
@[simp] theorem bnd_no {ε α β : Type} {k : α → R ε β} : bnd .no k = .no := rfl
@[simp] theorem bnd_ex {ε α β : Type} {c fs e} {k : α → R ε β} : bnd (.ex c fs e) k = .ex c fs e := rfl
def ofO {ε α β : Type} (r : Option α) (k : α → R ε β) : R ε β := match r with
  | some a => k a
  | none => .no
@[simp] theorem ofO_some {ε α β : Type} {a : α} {k : α → R ε β} : ofO (some a) k = k a := rfl
@[simp] theorem ofO_none {ε α β : Type} {k : α → R ε β} : ofO none k = .no := rfl

section
variable {G : Kt} {fx : Fx} {W : L2.WX} {σ : St} {H : Hp} {Q : V → Hp → Prop}

theorem Sta.is {env : En} {F H : Hp} {fp : List Addr} (S : Sta G fx env F σ H fp) {p : Addr} (h : p ∈ fp) : H p ≠ none := fun z => by
  obtain ⟨o, e⟩ := S.own.is p h
  rw [z] at e; cases e
/-- a new value hands back -/
theorem PV.res {env : En} {F H F' H' : Hp} {fp fq ft : List Addr} {t : T} {v : V} (S : Sta G fx env F σ H fp) (h : PV G fx W σ Q F H fq (.ok (t, env))) (hq : ∀ p ∈ fp, p ∈ fq) (g : Grow F H F' H') (o : Own G F' H' t v ft) (nd : ft.Nodup)
    (off : ∀ p ∈ ft, F' p = none ∧ H p = none) : Q v H' := by
  refine h v F' H' fp ft (S.grow g) o ?_ (fun p hp => (off p hp).1) (((g.goNew fp ft fun p hp => (off p hp).2)).more hq)
  refine List.nodup_append.mpr ⟨S.nd, nd, fun a ha b hb e => ?_⟩
  subst e
  exact S.is ha (off a hb).2
theorem Go.frame {F H F' H' : Hp} {fp fp' f : List Addr} (a : Go F H fp F' H' fp') : Go F H (fp ++ f) F' H' (fp' ++ f) := by
  refine ⟨a.f, fun p o h => ?_, fun p o h n => a.h p o h fun z => n (List.mem_append_left _ z), fun p hp => ?_⟩
  · rcases a.fn p o h with z | z | z
    · exact .inl z
    · exact .inr (.inl z)
    · exact .inr (.inr (List.mem_append_left _ z))
  · rcases List.mem_append.mp hp with z | z
    · exact (a.own p z).imp (List.mem_append_left _) id
    · exact .inl (List.mem_append_right _ z)

/-- two expressions, then what is made of their values -/
theorem tV_two {fa fb : En → R En (T × En)} {k : T → T → En → R En (T × En)} {K : V → V → Hp → Prop}
    (hk : ∀ tx ty env F H fp x y f1 f2, Sta G fx env F σ H fp → Own G F H tx x f1 → Own G F H ty y f2 → (fp ++ (f1 ++ f2)).Nodup → (∀ p ∈ f1 ++ f2, F p = none) → PV G fx W σ Q F H (fp ++ (f1 ++ f2)) (k tx ty env) → K x y H)
    (h : tV G fx W (fun env => bnd (fa env) fun a => bnd (fb a.2) fun b => k a.1 b.1 b.2) σ H Q) : tV G fx W fa σ H fun x H1 => tV G fx W fb σ H1 fun y H2 => K x y H2 := by
  obtain ⟨env, F, fp, S, P⟩ := h
  dsimp only at P
  refine ⟨env, F, fp, S, ?_⟩
  cases ea : fa env with
  | no => rw [ea] at P; exact P
  | ex c fs e => rw [ea] at P; exact P
  | ok a =>
    obtain ⟨tx, e1⟩ := a
    rw [ea] at P
    intro v F1 H1 fp1 f1 S1 o1 nd1 off1 g1
    refine ⟨e1, F1, fp1, S1, ?_⟩
    have d1 : ∀ p ∈ f1, p ∉ fp1 := fun p hp hq => (List.nodup_append.mp nd1).2.2 p hq p hp rfl
    cases eb : fb e1 with
    | no => simp only [bnd, eb] at P; exact P
    | ex c fs e =>
      simp only [bnd, eb] at P
      intro cls d F' H' fp' S' x g'
      exact P cls d F' H' fp' S' x ((g1.less fun p hp => List.mem_append_left _ hp).trans g')
    | ok b =>
      obtain ⟨ty, e2⟩ := b
      simp only [bnd, eb] at P
      intro u F2 H2 fp2 f2 S2 o2 nd2 off2 g2
      obtain ⟨o1', off1', d1'⟩ := o1.go off1 g2 d1
      have fr : Go F1 H1 (fp1 ++ f1) F2 H2 ((fp2 ++ f2) ++ f1) := g2.frame
      have gg : Go F H fp F2 H2 (fp2 ++ (f1 ++ f2)) := (g1.trans fr).less fun p hp => by
        simp only [List.mem_append] at hp ⊢
        rcases hp with z | z | z
        · exact .inl (.inl z)
        · exact .inr z
        · exact .inl (.inr z)
      refine hk tx ty e2 F2 H2 fp2 v u f1 f2 S2 o1' o2 ?_ ?_ (P.go gg)
      · rw [List.nodup_append] at nd2 ⊢
        refine ⟨nd2.1, List.nodup_append.mpr ⟨(List.nodup_append.mp nd1).2.1, nd2.2.1, fun a ha b hb e => ?_⟩, fun a ha b hb e => ?_⟩
        · subst e
          exact d1' a ha (List.mem_append_right _ hb)
        · subst e
          rcases List.mem_append.mp hb with z | z
          · exact d1' a z (List.mem_append_left _ ha)
          · exact nd2.2.2 a ha a z rfl
      · intro p hp
        rcases List.mem_append.mp hp with z | z
        · exact off1' p z
        · exact off2 p z
theorem tV_one {fa : En → R En (T × En)} {k : T → En → R En (T × En)} {K : V → Hp → Prop}
    (hk : ∀ tx env F H fp x f1, Sta G fx env F σ H fp → Own G F H tx x f1 → (fp ++ f1).Nodup → (∀ p ∈ f1, F p = none) → PV G fx W σ Q F H (fp ++ f1) (k tx env) → K x H)
    (h : tV G fx W (fun env => bnd (fa env) fun a => k a.1 a.2) σ H Q) : tV G fx W fa σ H K := by
  obtain ⟨env, F, fp, S, P⟩ := h
  dsimp only at P
  refine ⟨env, F, fp, S, ?_⟩
  cases ea : fa env with
  | no => rw [ea] at P; exact P
  | ex c fs e => rw [ea] at P; exact P
  | ok a =>
    obtain ⟨tx, e1⟩ := a
    rw [ea] at P
    intro v F1 H1 fp1 f1 S1 o1 nd1 off1 g1
    exact hk tx e1 F1 H1 fp1 v f1 S1 o1 nd1 off1 (PV.go (r := k tx e1) P g1)
/-- two that change nothing -/
theorem tB_two {ga gb : En → R En T} {Z : R En T → (En → Hp → Hp → List Addr → Prop)} {k : T → T → R En T} {K : V → V → Hp → Prop} 
    (hk : ∀ tx ty env F H fp x y, Sta G fx env F σ H fp → Bor G F H tx x → Bor G F H ty y → Z (k tx ty) env F H fp → K x y H)
    (hx : ∀ c fs e env F H fp cls d F' H' fp', Z (.ex c fs e) env F H fp → Sta G fx e F' σ H' fp' → ExR G F' H' c fs cls d → Go F H fp F' H' fp' → W cls d σ H')
    (hn : ∀ env F H fp, ¬ Z .no env F H fp)
    (hg : ∀ r env F H fp F' H', Z r env F H fp → Grow F H F' H' → Z r env F' H' fp)
    {env : En} {F : Hp} {fp : List Addr} (S : Sta G fx env F σ H fp) (P : Z (bnd (ga env) fun x => bnd (gb env) fun y => k x y) env F H fp) : tB G fx W ga σ H fun x H1 => tB G fx W gb σ H1 fun y H2 => K x y H2 := by
  refine ⟨env, F, fp, S, ?_⟩
  cases ea : ga env with
  | no => rw [ea] at P; exact hn _ _ _ _ P
  | ex c fs e => rw [ea] at P; exact fun cls d F' H' fp' S' x g => hx _ _ _ _ _ _ _ _ _ _ _ _ P S' x g
  | ok tx =>
    rw [ea] at P
    intro v F1 H1 g1 b1
    have S1 := S.grow g1
    refine ⟨env, F1, fp, S1, ?_⟩
    have P1 := hg _ _ _ _ _ _ _ P g1
    cases eb : gb env with
    | no => simp only [bnd, eb] at P1; exact hn _ _ _ _ P1
    | ex c fs e =>
      simp only [bnd, eb] at P1
      exact fun cls d F' H' fp' S' x g => hx _ _ _ _ _ _ _ _ _ _ _ _ P1 S' x g
    | ok ty =>
      simp only [bnd, eb] at P1
      intro u F2 H2 g2 b2
      exact hk tx ty env F2 H2 fp v u (S1.grow g2) (b1.mono g2.f g2.h) b2 (hg _ _ _ _ _ _ _ P1 g2)
theorem tB_one {ga : En → R En T} {Z : R En T → (En → Hp → Hp → List Addr → Prop)} {k : T → R En T} {K : V → Hp → Prop} 
    (hk : ∀ tx env F H fp x, Sta G fx env F σ H fp → Bor G F H tx x → Z (k tx) env F H fp → K x H)
    (hx : ∀ c fs e env F H fp cls d F' H' fp', Z (.ex c fs e) env F H fp → Sta G fx e F' σ H' fp' → ExR G F' H' c fs cls d → Go F H fp F' H' fp' → W cls d σ H')
    (hn : ∀ env F H fp, ¬ Z .no env F H fp)
    (hg : ∀ r env F H fp F' H', Z r env F H fp → Grow F H F' H' → Z r env F' H' fp)
    {env : En} {F : Hp} {fp : List Addr} (S : Sta G fx env F σ H fp) (P : Z (bnd (ga env) fun x => k x) env F H fp) : tB G fx W ga σ H K := by
  refine ⟨env, F, fp, S, ?_⟩
  cases ea : ga env with
  | no => rw [ea] at P; exact hn _ _ _ _ P
  | ex c fs e => rw [ea] at P; exact fun cls d F' H' fp' S' x g => hx _ _ _ _ _ _ _ _ _ _ _ _ P S' x g
  | ok tx =>
    rw [ea] at P
    intro v F1 H1 g1 b1
    exact hk tx env F1 H1 fp v (S.grow g1) b1 (hg _ _ _ _ _ _ _ P g1)
/-- the ends that a value looked at may have: ZB looked at again, ZV held -/
def ZB (G : Kt) (fx : Fx) (W : L2.WX) (σ : St) (Q : V → Hp → Prop) (r : R En T) (env : En) (F H : Hp) (fp : List Addr) : Prop := PB G fx W σ Q env F H fp r
def ZV (G : Kt) (fx : Fx) (W : L2.WX) (σ : St) (Q : V → Hp → Prop) (r : R En T) (env : En) (F H : Hp) (fp : List Addr) : Prop := PV G fx W σ Q F H fp (bnd r fun t => .ok (t, env))
theorem ZB.ex {c fs e env F H fp cls d F' H' fp'} (z : ZB G fx W σ Q (.ex c fs e) env F H fp) (S : Sta G fx e F' σ H' fp') (x : ExR G F' H' c fs cls d) (g : Go F H fp F' H' fp') : W cls d σ H' := z cls d F' H' fp' S x g
theorem ZB.grow {r env F H fp F' H'} (z : ZB G fx W σ Q r env F H fp) (g : Grow F H F' H') : ZB G fx W σ Q r env F' H' fp := by
  cases r with
  | ok t => exact fun v F2 H2 g2 b => z v F2 H2 (g.trans g2) b
  | ex c fs e => exact fun cls d F2 H2 fp2 S x g2 => z cls d F2 H2 fp2 S x ((g.go fp).trans g2)
  | no => exact z
theorem ZV.ex {c fs e env F H fp cls d F' H' fp'} (z : ZV G fx W σ Q (.ex c fs e) env F H fp) (S : Sta G fx e F' σ H' fp') (x : ExR G F' H' c fs cls d) (g : Go F H fp F' H' fp') : W cls d σ H' := z cls d F' H' fp' S x g
theorem ZV.grow {r env F H fp F' H'} (z : ZV G fx W σ Q r env F H fp) (g : Grow F H F' H') : ZV G fx W σ Q r env F' H' fp := PV.go z (g.go fp)
end

/-! ### primitive operations, over values that are looked at -/
/-- what is made: a new value of its own -/
def PR (G : Kt) (F H : Hp) (Q : V → Hp → Prop) : Option T → Prop
  | some t => ∀ v F' H' ft, Grow F H F' H' → Own G F' H' t v ft → ft.Nodup → (∀ p ∈ ft, F' p = none ∧ H p = none) → Q v H'
  | none => False
def Prim1 (G : Kt) (r : V → Hp → VK → Prop) (g : T → Option T) : Prop := ∀ tx x F H Q, Same F H → Bor G F H tx x → PR G F H Q (g tx) → r x H Q
def Prim2 (G : Kt) (r : R2) (g : T → T → Option T) : Prop := ∀ tx ty x y F H Q, Same F H → Bor G F H tx x → Bor G F H ty y → PR G F H Q (g tx ty) → r x y H Q

section
variable {X : Cx} {fx : Fx} {W : L2.WX}
def b1 (g : T → Option T) (ga : En → R En T) : En → R En T := fun env => bnd (ga env) fun x => ofO (g x) .ok
def b2 (g : T → T → Option T) (ga gb : En → R En T) : En → R En T := fun env => bnd (ga env) fun x => bnd (gb env) fun y => ofO (g x y) .ok
def bv (ga : En → R En T) : En → R En (T × En) := fun env => bnd (ga env) fun t => .ok (t, env)
def e1 (g : T → Option T) (fa : En → R En (T × En)) : En → R En (T × En) := fun env => bnd (fa env) fun a => ofO (g a.1) fun t => .ok (t, a.2)
def e2 (g : T → T → Option T) (fa fb : En → R En (T × En)) : En → R En (T × En) := fun env => bnd (fa env) fun a => bnd (fb a.2) fun b => ofO (g a.1 b.1) fun t => .ok (t, b.2)
theorem PR.zb {G : Kt} {σ : St} {F H : Hp} {fp : List Addr} {env : En} {Q : V → Hp → Prop} {o : Option T} (h : ZB G fx W σ Q (ofO o .ok) env F H fp) : PR G F H Q o := by
  cases o with
  | none => exact h
  | some t => exact fun v F' H' ft g ow nd off => h v F' H' g (ow.bor)
theorem PR.zv {G : Kt} {σ : St} {F H : Hp} {fp : List Addr} {env : En} {Q : V → Hp → Prop} {o : Option T} (S : Sta G fx env F σ H fp) (h : ZV G fx W σ Q (ofO o .ok) env F H fp) : PR G F H Q o := by
  cases o with
  | none => exact h
  | some t => exact fun v F' H' ft g ow nd off => PV.res S h (fun _ h => h) g ow nd off
theorem PR.pv {G : Kt} {σ : St} {F H : Hp} {fp fq : List Addr} {env : En} {Q : V → Hp → Prop} {o : Option T} (S : Sta G fx env F σ H fp) (hq : ∀ p ∈ fp, p ∈ fq) (h : PV G fx W σ Q F H fq (ofO o fun t => .ok (t, env))) : PR G F H Q o := by
  cases o with
  | none => exact h
  | some t => exact fun v F' H' ft g ow nd off => PV.res S h hq g ow nd off
/-- by values looked at: BB (looked at again), BV (held) -/
theorem BB2 {r : R2} {g : T → T → Option T} {ga gb : En → R En T} {σ : St} {H : Hp} {Q : VK} (p : Prim2 (kt X) r g) (h : tB (kt X) fx W (b2 g ga gb) σ H Q) : tOp r (tB (kt X) fx W ga) (tB (kt X) fx W gb) σ H Q := by
  obtain ⟨env, F, fp, S, P⟩ := h
  exact tB_two (Z := ZB (kt X) fx W σ Q) (k := fun x y => ofO (g x y) .ok) (fun tx ty env F H fp x y S b1 b2 z => p tx ty x y F H Q S.sub b1 b2 (PR.zb z)) (fun _ _ _ _ _ _ _ _ _ _ _ _ z => ZB.ex z) (fun _ _ _ _ z => z) (fun _ _ _ _ _ _ _ z => z.grow) S P
theorem BV2 {r : R2} {g : T → T → Option T} {ga gb : En → R En T} {σ : St} {H : Hp} {Q : VK} (p : Prim2 (kt X) r g) (h : tV (kt X) fx W (bv (b2 g ga gb)) σ H Q) : tOp r (tB (kt X) fx W ga) (tB (kt X) fx W gb) σ H Q := by
  obtain ⟨env, F, fp, S, P⟩ := h
  exact tB_two (Z := ZV (kt X) fx W σ Q) (k := fun x y => ofO (g x y) .ok) (fun tx ty env F H fp x y S b1 b2 z => p tx ty x y F H Q S.sub b1 b2 (PR.zv S z)) (fun _ _ _ _ _ _ _ _ _ _ _ _ z => z.ex) (fun _ _ _ _ z => z) (fun _ _ _ _ _ _ _ z => z.grow) S P
theorem EV2 {r : R2} {g : T → T → Option T} {fa fb : En → R En (T × En)} {σ : St} {H : Hp} {Q : VK} (p : Prim2 (kt X) r g) (h : tV (kt X) fx W (e2 g fa fb) σ H Q) : tOp r (tV (kt X) fx W fa) (tV (kt X) fx W fb) σ H Q :=
  tV_two (k := fun x y env => ofO (g x y) fun t => .ok (t, env)) (fun tx ty env F H fp x y f1 f2 S o1 o2 nd off z => p tx ty x y F H Q S.sub o1.bor o2.bor (PR.pv S (fun p hp => List.mem_append_left _ hp) z)) h
theorem BB1 {r : V → Hp → VK → Prop} {g : T → Option T} {ga : En → R En T} {σ : St} {H : Hp} {Q : VK} (p : Prim1 (kt X) r g) (h : tB (kt X) fx W (b1 g ga) σ H Q) : tUn r (tB (kt X) fx W ga) σ H Q := by
  obtain ⟨env, F, fp, S, P⟩ := h
  exact tB_one (Z := ZB (kt X) fx W σ Q) (k := fun x => ofO (g x) .ok) (fun tx env F H fp x S b1 z => p tx x F H Q S.sub b1 (PR.zb z)) (fun _ _ _ _ _ _ _ _ _ _ _ _ z => z.ex) (fun _ _ _ _ z => z) (fun _ _ _ _ _ _ _ z => z.grow) S P
theorem BV1 {r : V → Hp → VK → Prop} {g : T → Option T} {ga : En → R En T} {σ : St} {H : Hp} {Q : VK} (p : Prim1 (kt X) r g) (h : tV (kt X) fx W (bv (b1 g ga)) σ H Q) : tUn r (tB (kt X) fx W ga) σ H Q := by
  obtain ⟨env, F, fp, S, P⟩ := h
  exact tB_one (Z := ZV (kt X) fx W σ Q) (k := fun x => ofO (g x) .ok) (fun tx env F H fp x S b1 z => p tx x F H Q S.sub b1 (PR.zv S z)) (fun _ _ _ _ _ _ _ _ _ _ _ _ z => z.ex) (fun _ _ _ _ z => z) (fun _ _ _ _ _ _ _ z => z.grow) S P
theorem EV1 {r : V → Hp → VK → Prop} {g : T → Option T} {fa : En → R En (T × En)} {σ : St} {H : Hp} {Q : VK} (p : Prim1 (kt X) r g) (h : tV (kt X) fx W (e1 g fa) σ H Q) : tUn r (tV (kt X) fx W fa) σ H Q :=
  tV_one (k := fun x env => ofO (g x) fun t => .ok (t, env)) (fun tx env F H fp x f1 S o1 nd off z => p tx x F H Q S.sub o1.bor (PR.pv S (fun p hp => List.mem_append_left _ hp) z)) h

/-! ### looked at, then held: shared data alone -/
def T.sh : T → Option D
  | .s d => some d
  | _ => none
def sh (ga : En → R En T) : En → R En (T × En) := fun env => bnd (ga env) fun t => ofO t.sh fun d => .ok (.s d, env)
theorem ve_b {e : Expr} {ga : En → R En T} (h : VB X fx W e ga) : VE X fx W e (sh ga) := PE.imp h fun σ H Q q => by
  obtain ⟨env, F, fp, S, P⟩ := q
  refine ⟨env, F, fp, S, ?_⟩
  unfold sh at P
  cases ea : ga env with
  | no => rw [ea] at P; exact P
  | ex c fs e => rw [ea] at P; exact P
  | ok t =>
    rw [ea] at P
    cases t with
    | s d => exact fun v F' H' g b => PV.res (ft := []) S P (fun _ h => h) g ⟨b, rfl⟩ List.nodup_nil (by simp)
    | l xs => exact P.elim
    | dk xs => exact P.elim
    | ob c fs => exact P.elim
    | p xs => exact P.elim
end
end VS
namespace VS
open PySem PySem.Spec L2
open PyProof.Rows hiding St

/-! ### views of values -/
def shs : List T → Option (List D)
  | [] => some []
  | .s d :: ts => (shs ts).map (d :: ·)
  | _ :: _ => none
/-- a list of shared items -/
def T.ls : T → Option (List D)
  | .s (.lst ds) => some ds
  | .l ts => shs ts
  | _ => none
def T.tp : T → Option (List D)
  | .s (.tup ds) => some ds
  | _ => none
theorem shs_map : ∀ ds : List D, shs (ds.map T.s) = some ds
  | [] => rfl
  | d :: ds => by simp [shs, shs_map ds]
theorem shs_eq : ∀ {ts : List T} {ds : List D}, shs ts = some ds → ts = ds.map T.s
  | [], ds, h => by cases h; rfl
  | .s d :: ts, ds, h => by
    simp only [shs, Option.map_eq_some_iff] at h
    obtain ⟨r, h1, rfl⟩ := h
    simp [shs_eq h1]
  | .l _ :: _, _, h => nomatch h
  | .dk _ :: _, _, h => nomatch h
  | .ob _ _ :: _, _, h => nomatch h
  | .p _ :: _, _, h => nomatch h
@[simp] theorem ls_map (ds : List D) : (T.l (ds.map T.s)).ls = some ds := shs_map ds
section
variable {G : Kt} {F H : Hp} {Q : V → Hp → Prop}
theorem Bors.shs : ∀ {ds : List D} {vs : List V}, Bors G F H (ds.map T.s) vs → Reps G F ds vs
  | [], vs, h => by simpa only [List.map, Bors, Reps] using h
  | d :: ds, vs, h => by
    simp only [List.map, Bors, Bor, Reps] at h ⊢
    obtain ⟨v, r, e, h1, h2⟩ := h
    exact ⟨v, r, e, h1, Bors.shs h2⟩
theorem Reps.bors : ∀ {ds : List D} {vs : List V}, Reps G F ds vs → Bors G F H (ds.map T.s) vs
  | [], vs, h => by simpa only [List.map, Bors, Reps] using h
  | d :: ds, vs, h => by
    simp only [List.map, Bors, Bor, Reps] at h ⊢
    obtain ⟨v, r, e, h1, h2⟩ := h
    exact ⟨v, r, e, h1, Reps.bors h2⟩
theorem Reps.owns : ∀ {ds : List D} {vs : List V}, Reps G F ds vs → Owns G F H (ds.map T.s) vs []
  | [], vs, h => by
    simp only [List.map, Owns, Reps] at h ⊢
    exact ⟨h, trivial⟩
  | d :: ds, vs, h => by
    simp only [List.map, Owns, Own, Reps] at h ⊢
    obtain ⟨v, r, e, h1, h2⟩ := h
    exact ⟨v, r, [], [], e, ⟨h1, rfl⟩, Reps.owns h2, rfl⟩
theorem Reps.len : ∀ {ds : List D} {vs : List V}, Reps G F ds vs → vs.length = ds.length
  | [], vs, h => by simp only [Reps] at h; rw [h]; rfl
  | d :: ds, vs, h => by
    simp only [Reps] at h
    obtain ⟨v, r, rfl, h1, h2⟩ := h
    simp [Reps.len h2]
theorem Bors.len : ∀ {ds : List T} {vs : List V}, Bors G F H ds vs → vs.length = ds.length
  | [], vs, h => by simp only [Bors] at h; rw [h]; rfl
  | d :: ds, vs, h => by
    simp only [Bors] at h
    obtain ⟨v, r, rfl, h1, h2⟩ := h
    simp [Bors.len h2]
theorem Reps.get : ∀ {ds : List D} {vs : List V} {i : Nat} {d : D}, Reps G F ds vs → ds[i]? = some d → ∃ v, vs[i]? = some v ∧ Rep G F d v
  | [], _, _, _, _, e => by simp at e
  | d :: ds, vs, 0, x, h, e => by
    simp only [Reps] at h
    obtain ⟨v, r, rfl, h1, h2⟩ := h
    have e' : d = x := by simpa using e
    subst e'
    exact ⟨v, rfl, h1⟩
  | d :: ds, vs, i + 1, x, h, e => by
    simp only [Reps] at h
    obtain ⟨v, r, rfl, h1, h2⟩ := h
    obtain ⟨w, q, z⟩ := Reps.get (i := i) (d := x) h2 (by simpa using e)
    exact ⟨w, by simpa using q, z⟩
theorem Reps.append : ∀ {ds es : List D} {vs us : List V}, Reps G F ds vs → Reps G F es us → Reps G F (ds ++ es) (vs ++ us)
  | [], es, vs, us, h, k => by
    simp only [Reps] at h
    subst h
    exact k
  | d :: ds, es, vs, us, h, k => by
    simp only [Reps] at h
    obtain ⟨v, r, rfl, h1, h2⟩ := h
    show Reps G F (d :: (ds ++ es)) (v :: (r ++ us))
    simp only [Reps]
    exact ⟨v, r ++ us, rfl, h1, Reps.append h2 k⟩
theorem Reps.take : ∀ {ds : List D} {vs : List V} (n : Nat), Reps G F ds vs → Reps G F (ds.take n) (vs.take n)
  | [], vs, n, h => by simp only [Reps] at h; subst h; simp [Reps]
  | d :: ds, vs, 0, h => by simp [Reps]
  | d :: ds, vs, n + 1, h => by
    simp only [Reps] at h
    obtain ⟨v, r, rfl, h1, h2⟩ := h
    simp only [List.take_succ_cons, Reps]
    exact ⟨v, _, rfl, h1, Reps.take n h2⟩
theorem Reps.drop : ∀ {ds : List D} {vs : List V} (n : Nat), Reps G F ds vs → Reps G F (ds.drop n) (vs.drop n)
  | [], vs, n, h => by simp only [Reps] at h; subst h; simp [Reps]
  | d :: ds, vs, 0, h => h
  | d :: ds, vs, n + 1, h => by
    simp only [Reps] at h
    obtain ⟨v, r, rfl, h1, h2⟩ := h
    exact Reps.drop n h2
theorem ls_rep {t : T} {v : V} {ds : List D} (s : Same F H) (b : Bor G F H t v) (e : t.ls = some ds) : ∃ a vs, v = .ref a ∧ H a = some (.lst vs) ∧ Reps G F ds vs := by
  cases t with
  | s d =>
    cases d with
    | lst xs =>
      cases e
      simp only [Bor, Rep] at b
      obtain ⟨a, vs, rfl, h, r⟩ := b
      exact ⟨a, vs, rfl, s _ _ h, r⟩
    | _ => cases e
  | l ts =>
    simp only [Bor] at b
    obtain ⟨a, vs, rfl, h, r⟩ := b
    have e' := shs_eq e
    subst e'
    exact ⟨a, vs, rfl, h, r.shs⟩
  | dk _ => cases e
  | ob _ _ => cases e
  | p _ => cases e
theorem tp_rep {t : T} {v : V} {ds : List D} (s : Same F H) (b : Bor G F H t v) (e : t.tp = some ds) : ∃ a vs, v = .ref a ∧ RT G.K H a vs ∧ Reps G F ds vs := by
  cases t with
  | s d =>
    cases d with
    | tup xs =>
      cases e
      simp only [Bor, Rep] at b
      obtain ⟨a, vs, rfl, h, r⟩ := b
      exact ⟨a, vs, rfl, h.mono s, r⟩
    | _ => cases e
  | l ts => cases e
  | dk _ => cases e
  | ob _ _ => cases e
  | p _ => cases e

/-! ### what is made -/
theorem PR.bl {b : Bool} (s : Same F H) (p : PR G F H Q (some (.s (.bl b)))) : Q (.bl b) H := p (.bl b) F H [] (.refl s) ⟨by simp only [Rep], rfl⟩ List.nodup_nil (by simp)
theorem PR.val {d : D} {v : V} (s : Same F H) (p : PR G F H Q (some (.s d))) (r : Rep G F d v) : Q v H := p v F H [] (.refl s) ⟨r, rfl⟩ List.nodup_nil (by simp)
theorem updNew {H : Hp} {p : Addr} {o : HO} (n : H p = none) : Same H (upd H p o) := fun b x e => by
  rw [upd_ne (ne_of_none e n)]; exact e
theorem Grow.lay (s : Same F H) {p : Addr} {o : HO} (n : H p = none) : Grow F H F (upd H p o) := ⟨.refl _, updNew n, fun _ _ h => .inl h, s.trans (updNew n)⟩
theorem Grow.layF (s : Same F H) {p : Addr} {o : HO} (n : H p = none) : Grow F H (upd F p o) (upd H p o) := by
  have nf : F p = none := s.free n
  refine ⟨updNew nf, updNew n, fun q x e => ?_, fun q x e => ?_⟩
  · by_cases z : q = p
    · subst z; exact .inr n
    · rw [upd_ne z] at e; exact .inl e
  · by_cases z : q = p
    · subst z; rw [upd_same] at e ⊢; exact e
    · rw [upd_ne z] at e ⊢; exact s _ _ e
theorem PR.lst {ds : List D} {vs : List V} (s : Same F H) (p : PR G F H Q (some (.l (ds.map T.s)))) (r : Reps G F ds vs) : ∀ a, H a = none → Q (.ref a) (upd H a (.lst vs)) := fun a n =>
  p (.ref a) F _ [a] (.lay s n) ⟨a, vs, [], rfl, upd_same, r.owns, rfl⟩ (by simp) (by
    intro q hq
    have e : q = a := by simpa using hq
    subst e
    exact ⟨s.free n, n⟩)
theorem PR.tup {ds : List D} {vs : List V} (s : Same F H) (p : PR G F H Q (some (.s (.tup ds)))) (r : Reps G F ds vs) : ∀ a, H a = none → Q (.ref a) (upd H a (.tup vs)) := fun a n => by
  refine p (.ref a) (upd F a (.tup vs)) _ [] (.layF s n) ⟨?_, rfl⟩ List.nodup_nil (by simp)
  simp only [Rep]
  exact ⟨a, vs, rfl, .inl upd_same, r.mono (updNew (s.free n))⟩
end

/-! ### as the library's data, for == -/
mutual
def toPy : D → Option PyData
  | .non => some .none
  | .bl b => some (.bool b)
  | .int i => some (.int i)
  | .str x => some (.str x)
  | .lst xs => (toPys xs).map .list
  | .tup xs => (toPys xs).map .tuple
  | .scr _ => none
  | .ty _ => none
  | .dk _ => none
  | .ob _ _ => none
def toPys : List D → Option (List PyData)
  | [] => some []
  | d :: ds => match toPy d, toPys ds with
    | some x, some xs => some (x :: xs)
    | _, _ => none
end
mutual
theorem Rep.dp {G : Kt} {H : Hp} : ∀ (d : D) (v : V) (p : PyData), Rep G H d v → toPy d = some p → Dp G.K H v p
  | .non, v, p, h, e => by
    simp only [Rep] at h; cases e; subst h; exact .non
  | .bl b, v, p, h, e => by
    simp only [Rep] at h; cases e; subst h; exact .bl b
  | .int b, v, p, h, e => by
    simp only [Rep] at h; cases e; subst h; exact .int b
  | .str b, v, p, h, e => by
    simp only [Rep] at h; cases e; subst h; exact .str b
  | .lst xs, v, p, h, e => by
    simp only [Rep] at h
    simp only [toPy, Option.map_eq_some_iff] at e
    obtain ⟨ps, e, rfl⟩ := e
    obtain ⟨a, vs, rfl, q, r⟩ := h
    exact .lst (.of q) (Reps.dp xs vs ps r e)
  | .tup xs, v, p, h, e => by
    simp only [Rep] at h
    simp only [toPy, Option.map_eq_some_iff] at e
    obtain ⟨ps, e, rfl⟩ := e
    obtain ⟨a, vs, rfl, q, r⟩ := h
    exact .tup q.sq (Reps.dp xs vs ps r e)
  | .scr _, _, _, _, e => nomatch e
  | .ty _, _, _, _, e => nomatch e
  | .dk _, _, _, _, e => nomatch e
  | .ob _ _, _, _, _, e => nomatch e
theorem Reps.dp {G : Kt} {H : Hp} : ∀ (d : List D) (v : List V) (p : List PyData), Reps G H d v → toPys d = some p → DpAll G.K H v p
  | [], v, p, h, e => by
    simp only [Reps] at h; cases e; subst h; exact .nil
  | d :: ds, vs, p, h, e => by
    simp only [Reps] at h
    obtain ⟨v, r, rfl, h1, h2⟩ := h
    cases e1 : toPy d with
    | none => simp [toPys, e1] at e
    | some x =>
      cases e2 : toPys ds with
      | none => simp [toPys, e1, e2] at e
      | some xs =>
        simp [toPys, e1, e2] at e
        subst e
        exact .cons (Rep.dp d v x h1 e1) (Reps.dp ds r xs h2 e2)
end
def eqG (x y : D) : Option Bool := match toPy x, toPy y with
  | some p, some q => if SeqAt.shaped p && SeqAt.shaped q then some (PyData.eqv p q) else none
  | _, _ => none
def pEqB (x y : T) : Option Bool := match x, y with
  | .s (.int i), .s (.int j) => some (decide (i = j))
  | .s (.str a), .s (.str b) => some (decide (a = b))
  | .s (.bl a), .s (.bl b) => some (decide (a = b))
  | x, y => eqG (er x) (er y)
def blO (o : Option Bool) : Option T := o.map fun b => .s (.bl b)
def pEq (x y : T) : Option T := blO (pEqB x y)
def pNe (x y : T) : Option T := blO ((pEqB x y).map not)

section
variable {G : Kt}
theorem prim_or {r r' : R2} {g : T → T → Option T} (h : ∀ tx ty x y F H Q, Same F H → Bor G F H tx x → Bor G F H ty y → PR G F H Q (g tx ty) → r x y H Q ∨ r' x y H Q) : Prim2 G (fun x y H Q => r x y H Q ∨ r' x y H Q) g := h
theorem prim_eq : Prim2 G (fun x y H Q => rEq x y H Q ∨ rEqD G.K x y H Q) pEq := by
  intro tx ty x y F H Q s b1 b2 p
  unfold pEq pEqB at p
  split at p
  · simp only [Bor, Rep] at b1 b2
    subst b1 b2
    exact .inl ⟨rfl, by simpa using PR.bl s p⟩
  · simp only [Bor, Rep] at b1 b2
    subst b1 b2
    exact .inl ⟨rfl, by simpa using PR.bl s p⟩
  · simp only [Bor, Rep] at b1 b2
    subst b1 b2
    exact .inl ⟨rfl, by simpa using PR.bl s p⟩
  · unfold eqG at p
    split at p
    · rename_i a b e1 e2
      split at p
      · rename_i hs
        rw [Bool.and_eq_true] at hs
        exact .inr ⟨a, b, Rep.dp _ _ _ (b1.rep s) e1, Rep.dp _ _ _ (b2.rep s) e2, hs.1, hs.2, PR.bl s p⟩
      · exact p.elim
    · exact p.elim
theorem prim_ne : Prim2 G (fun x y H Q => rNe x y H Q ∨ rNeD G.K x y H Q) pNe := by
  intro tx ty x y F H Q s b1 b2 p
  unfold pNe pEqB at p
  split at p
  · simp only [Bor, Rep] at b1 b2
    subst b1 b2
    exact .inl ⟨rfl, by simpa using PR.bl s p⟩
  · simp only [Bor, Rep] at b1 b2
    subst b1 b2
    exact .inl ⟨rfl, by simpa using PR.bl s p⟩
  · simp only [Bor, Rep] at b1 b2
    subst b1 b2
    exact .inl ⟨rfl, by simpa using PR.bl s p⟩
  · unfold eqG at p
    split at p
    · rename_i a b e1 e2
      split at p
      · rename_i hs
        rw [Bool.and_eq_true] at hs
        exact .inr ⟨a, b, Rep.dp _ _ _ (b1.rep s) e1, Rep.dp _ _ _ (b2.rep s) e2, hs.1, hs.2, PR.bl s p⟩
      · exact p.elim
    · exact p.elim

/-! ### numbers, texts, lists, tuples: + - * // % and the order -/
def pAdd (x y : T) : Option T := match x, y with
  | .s (.int i), .s (.int j) => some (.s (.int (i + j)))
  | .s (.str a), .s (.str b) => if a.length + b.length ≤ sizeLine then some (.s (.str (a ++ b))) else none
  | .s (.tup a), .s (.tup b) => if a.length + b.length ≤ sizeLine then some (.s (.tup (a ++ b))) else none
  | x, y => match x.ls, y.ls with
    | some a, some b => if a.length + b.length ≤ sizeLine then some (.l ((a ++ b).map T.s)) else none
    | _, _ => none
def rAdd (K : PySem.W.Frag) : R2 := fun x y H Q => (rI0 fun i j => .int (i + j)) x y H Q ∨ (∃ i j, x = .str i ∧ y = .str j ∧ i.length + j.length ≤ sizeLine ∧ Q (.str (i ++ j)) H) ∨ rCatA K x y H Q ∨ rCat x y H Q
theorem op_addA {X : Cx} : OpR X (binaryOp .Add) (rAdd X.K) := op_add.or (op_add_str.or (op_catA.or op_cat))
theorem prim_add : Prim2 G (rAdd G.K) pAdd := by
  intro tx ty x y F H Q s b1 b2 p
  unfold pAdd at p
  split at p
  · simp only [Bor, Rep] at b1 b2
    subst b1 b2
    exact .inl ⟨_, _, rfl, rfl, PR.val s p (by simp only [Rep])⟩
  · simp only [Bor, Rep] at b1 b2
    subst b1 b2
    split at p
    · exact .inr (.inl ⟨_, _, rfl, rfl, by assumption, PR.val s p (by simp only [Rep])⟩)
    · exact p.elim
  · rename_i a b
    split at p
    · rename_i hz
      obtain ⟨p1, vs, rfl, h1, r1⟩ := tp_rep s b1 rfl
      obtain ⟨p2, us, rfl, h2, r2⟩ := tp_rep s b2 rfl
      have e1 := r1.len
      have e2 := r2.len
      refine .inr (.inr (.inl ⟨p1, p2, vs, us, rfl, rfl, h1.sq, h2.sq, by omega, fun z => ?_, fun z z' => ?_, fun z z' => PR.tup s p (r1.append r2)⟩))
      · have ea : a = [] := by
          cases a with
          | nil => rfl
          | cons _ _ => rw [z] at e1; simp at e1
        subst ea
        exact PR.val s p b2
      · have eb : b = [] := by
          cases b with
          | nil => rfl
          | cons _ _ => rw [z'] at e2; simp at e2
        subst eb
        rw [List.append_nil] at p
        exact PR.val s p b1
    · exact p.elim
  · split at p
    · rename_i a b ea eb
      split at p
      · obtain ⟨p1, vs, rfl, h1, r1⟩ := ls_rep s b1 ea
        obtain ⟨p2, us, rfl, h2, r2⟩ := ls_rep s b2 eb
        have e1 := r1.len
        have e2 := r2.len
        exact .inr (.inr (.inr ⟨p1, p2, vs, us, rfl, rfl, h1, h2, by omega, PR.lst s p (r1.append r2)⟩))
      · exact p.elim
    · exact p.elim
def pSub (x y : T) : Option T := match x, y with
  | .s (.int i), .s (.int j) => some (.s (.int (i - j)))
  | _, _ => none
theorem prim_sub : Prim2 G (rI0 fun i j => .int (i - j)) pSub := by
  intro tx ty x y F H Q s b1 b2 p
  unfold pSub at p
  split at p
  · simp only [Bor, Rep] at b1 b2
    subst b1 b2
    exact ⟨_, _, rfl, rfl, PR.val s p (by simp only [Rep])⟩
  · exact p.elim
instance (i j : Int) : Decidable (CMul i j) := by unfold CMul; infer_instance
instance (i j : Int) : Decidable (CDivN i j) := by unfold CDivN; infer_instance
def strRep (x : Str) (k : Int) : Str := ⟨(List.replicate k.toNat x.cps.toList).flatten.toArray⟩
def pMul (x y : T) : Option T := match x, y with
  | .s (.int i), .s (.int j) => if CMul i j then some (.s (.int (i * j))) else none
  | x, .s (.int k) => match x.ls with
    | some a => if -(2 ^ 63) ≤ k ∧ k < 2 ^ 63 ∧ a.length * k.toNat ≤ sizeLine then some (.l ((List.replicate k.toNat a).flatten.map T.s)) else none
    | none => none
  | _, _ => none
theorem Reps.rep {F : Hp} {a : List D} {vs : List V} (r : Reps G F a vs) : ∀ n : Nat, Reps G F (List.replicate n a).flatten (List.replicate n vs).flatten
  | 0 => by simp [Reps]
  | n + 1 => by
    rw [List.replicate_succ, List.replicate_succ, List.flatten_cons, List.flatten_cons]
    exact r.append (r.rep n)
theorem prim_mul : Prim2 G (fun x y H Q => (rI CMul fun i j => .int (i * j)) x y H Q ∨ rRep x y H Q) pMul := by
  intro tx ty x y F H Q s b1 b2 p
  unfold pMul at p
  split at p
  · simp only [Bor, Rep] at b1 b2
    subst b1 b2
    split at p
    · exact .inl ⟨_, _, rfl, rfl, by assumption, PR.val s p (by simp only [Rep])⟩
    · exact p.elim
  · split at p
    · rename_i a ea
      split at p
      · rename_i hh
        obtain ⟨p1, vs, rfl, h1, r1⟩ := ls_rep s b1 ea
        simp only [Bor, Rep] at b2
        subst b2
        have e1 := r1.len
        exact .inr ⟨p1, _, vs, rfl, rfl, h1, hh.1, hh.2.1, by rw [e1]; exact hh.2.2, PR.lst s p (r1.rep _)⟩
      · exact p.elim
    · exact p.elim
  · exact p.elim
def pFdiv (x y : T) : Option T := match x, y with
  | .s (.int i), .s (.int j) => if CDivN i j then some (.s (.int (i.fdiv j))) else none
  | _, _ => none
theorem prim_fdiv : Prim2 G (rI CDivN fun i j => .int (i.fdiv j)) pFdiv := by
  intro tx ty x y F H Q s b1 b2 p
  unfold pFdiv at p
  split at p
  · simp only [Bor, Rep] at b1 b2
    subst b1 b2
    split at p
    · exact ⟨_, _, rfl, rfl, by assumption, PR.val s p (by simp only [Rep])⟩
    · exact p.elim
  · exact p.elim
def pMod (x y : T) : Option T := match x, y with
  | .s (.int i), .s (.int j) => if j ≠ 0 then some (.s (.int (i.fmod j))) else none
  | _, _ => none
theorem prim_mod : Prim2 G (rI (fun _ j => j ≠ 0) fun i j => .int (i.fmod j)) pMod := by
  intro tx ty x y F H Q s b1 b2 p
  unfold pMod at p
  split at p
  · simp only [Bor, Rep] at b1 b2
    subst b1 b2
    split at p
    · exact ⟨_, _, rfl, rfl, by assumption, PR.val s p (by simp only [Rep])⟩
    · exact p.elim
  · exact p.elim
instance (i j : Int) : Decidable (CPow i j) := by unfold CPow; infer_instance
def pPow (x y : T) : Option T := match x, y with
  | .s (.int i), .s (.int j) => if CPow i j then some (.s (.int (i ^ j.toNat))) else none
  | _, _ => none
theorem prim_pow : Prim2 G (rI CPow fun i j => .int (i ^ j.toNat)) pPow := by
  intro tx ty x y F H Q s b1 b2 p
  unfold pPow at p
  split at p
  · simp only [Bor, Rep] at b1 b2
    subst b1 b2
    split at p
    · exact ⟨_, _, rfl, rfl, by assumption, PR.val s p (by simp only [Rep])⟩
    · exact p.elim
  · exact p.elim
/-- the order of numbers -/
def pCmp (c : Int → Int → Bool) (x y : T) : Option T := match x, y with
  | .s (.int i), .s (.int j) => some (.s (.bl (c i j)))
  | _, _ => none
theorem prim_cmp {c : Int → Int → Bool} : Prim2 G (rI0 fun i j => .bl (c i j)) (pCmp c) := by
  intro tx ty x y F H Q s b1 b2 p
  unfold pCmp at p
  split at p
  · simp only [Bor, Rep] at b1 b2
    subst b1 b2
    exact ⟨_, _, rfl, rfl, PR.val s p (by simp only [Rep])⟩
  · exact p.elim
def cLt (i j : Int) : Bool := decide (i < j)
def cLe (i j : Int) : Bool := decide (i ≤ j)
def cGt (i j : Int) : Bool := decide (j < i)
def cGe (i j : Int) : Bool := decide (j ≤ i)
/-- the order of texts too -/
def pLtS (x y : T) : Option T := match x, y with
  | .s (.int i), .s (.int j) => some (.s (.bl (decide (i < j))))
  | .s (.str i), .s (.str j) => some (.s (.bl (decide (i.cps.toList < j.cps.toList))))
  | _, _ => none

/-! ### is -/
def pIs (x y : T) : Option T := match x, y with
  | .s .non, .s .non => some (.s (.bl true))
  | .s (.bl a), .s (.bl b) => some (.s (.bl (decide (a = b))))
  | _, .s .non => some (.s (.bl false))
  | _, _ => none
def pIsNot (x y : T) : Option T := match x, y with
  | .s .non, .s .non => some (.s (.bl false))
  | .s (.bl a), .s (.bl b) => some (.s (.bl (!decide (a = b))))
  | _, .s .non => some (.s (.bl true))
  | _, _ => none
def rIs : R2 := fun x y H Q => (y = .non ∧ Q (.bl (decide (x = .non))) H) ∨ rIsB x y H Q
def rIsNot : R2 := fun x y H Q => (y = .non ∧ Q (.bl (!decide (x = .non))) H) ∨ rNotB x y H Q
theorem op_isA {X : Cx} : OpR X (compareOp .Is) rIs := op_isN.or op_isBl
theorem op_isNotA {X : Cx} : OpR X (compareOp .IsNot) rIsNot := op_notN.or op_notBl
theorem Bor.ne_non {F H : Hp} {t : T} {v : V} (b : Bor G F H t v) (h : t ≠ .s .non) : v ≠ .non := by
  intro e
  subst e
  cases t with
  | s d =>
    cases d with
    | non => exact h rfl
    | bl _ => simp only [Bor, Rep] at b; cases b
    | int _ => simp only [Bor, Rep] at b; cases b
    | str _ => simp only [Bor, Rep] at b; cases b
    | lst _ => simp only [Bor, Rep] at b; obtain ⟨_, _, e, _⟩ := b; cases e
    | tup _ => simp only [Bor, Rep] at b; obtain ⟨_, _, e, _⟩ := b; cases e
    | scr _ => simp only [Bor, Rep] at b; obtain ⟨_, e, _⟩ := b; cases e
    | ty _ => simp only [Bor, Rep] at b; cases b
    | dk _ => simp only [Bor, Rep] at b; obtain ⟨_, _, e, _⟩ := b; cases e
    | ob _ _ => simp only [Bor, Rep] at b; obtain ⟨_, _, _, _, e, _⟩ := b; cases e
  | l _ => simp only [Bor] at b; obtain ⟨_, _, e, _⟩ := b; cases e
  | dk _ => simp only [Bor] at b; obtain ⟨_, _, e, _⟩ := b; cases e
  | ob _ _ => simp only [Bor] at b; obtain ⟨_, _, _, _, e, _⟩ := b; cases e
  | p _ => simp only [Bor] at b; obtain ⟨_, _, e, _⟩ := b; cases e
theorem prim_is : Prim2 G rIs pIs := by
  intro tx ty x y F H Q s b1 b2 p
  unfold pIs at p
  split at p
  · simp only [Bor, Rep] at b1 b2
    subst b1 b2
    exact .inl ⟨rfl, PR.val s p (by simp only [Rep]; rfl)⟩
  · simp only [Bor, Rep] at b1 b2
    subst b1 b2
    exact .inr ⟨_, _, rfl, rfl, PR.val s p (by simp only [Rep])⟩
  · rename_i hn
    have hx := b1.ne_non fun z => hn z
    simp only [Bor, Rep] at b2
    subst b2
    exact .inl ⟨rfl, by rw [decide_eq_false hx]; exact PR.val s p (by simp only [Rep])⟩
  · exact p.elim
theorem prim_isNot : Prim2 G rIsNot pIsNot := by
  intro tx ty x y F H Q s b1 b2 p
  unfold pIsNot at p
  split at p
  · simp only [Bor, Rep] at b1 b2
    subst b1 b2
    exact .inl ⟨rfl, PR.val s p (by simp only [Rep]; rfl)⟩
  · simp only [Bor, Rep] at b1 b2
    subst b1 b2
    exact .inr ⟨_, _, rfl, rfl, PR.val s p (by simp only [Rep])⟩
  · rename_i hn
    have hx := b1.ne_non fun z => hn z
    simp only [Bor, Rep] at b2
    subst b2
    exact .inl ⟨rfl, by rw [decide_eq_false hx]; exact PR.val s p (by simp only [Rep]; rfl)⟩
  · exact p.elim
end
end VS
namespace VS
open PySem PySem.Spec L2
open PyProof.Rows hiding St

/-! ### lists of arguments -/
def PBs (G : Kt) (fx : Fx) (W : L2.WX) (σ : St) (Q : List V → Hp → Prop) (env : En) (F H : Hp) (fp : List Addr) : R En (List T) → Prop
  | .ok ts => ∀ vs F' H', Grow F H F' H' → Bors G F' H' ts vs → Q vs H'
  | .ex c fs e => ∀ cls d F' H' fp', Sta G fx e F' σ H' fp' → ExR G F' H' c fs cls d → Go F H fp F' H' fp' → W cls d σ H'
  | .no => False
def tBs (G : Kt) (fx : Fx) (W : L2.WX) (g : En → R En (List T)) : TA := fun σ H Q => ∃ env F fp, Sta G fx env F σ H fp ∧ PBs G fx W σ Q env F H fp (g env)
def PVs (G : Kt) (fx : Fx) (W : L2.WX) (σ : St) (Q : List V → Hp → Prop) (F H : Hp) (fp : List Addr) : R En (List T × En) → Prop
  | .ok (ts, e) => ∀ vs F' H' fp' ft, Sta G fx e F' σ H' fp' → Owns G F' H' ts vs ft → (fp' ++ ft).Nodup → (∀ p ∈ ft, F' p = none) → Go F H fp F' H' (fp' ++ ft) → Q vs H'
  | .ex c fs e => ∀ cls d F' H' fp', Sta G fx e F' σ H' fp' → ExR G F' H' c fs cls d → Go F H fp F' H' fp' → W cls d σ H'
  | .no => False
def tVs (G : Kt) (fx : Fx) (W : L2.WX) (f : En → R En (List T × En)) : TA := fun σ H Q => ∃ env F fp, Sta G fx env F σ H fp ∧ PVs G fx W σ Q F H fp (f env)
abbrev VBs (X : Cx) (fx : Fx) (W : L2.WX) (es : List Expr) (g : En → R En (List T)) : Prop := PA X es (tBs (kt X) fx W g)
abbrev VEs (X : Cx) (fx : Fx) (W : L2.WX) (es : List Expr) (f : En → R En (List T × En)) : Prop := PA X es (tVs (kt X) fx W f)
def bnil : En → R En (List T) := fun _ => .ok []
def bcons (ga : En → R En T) (gs : En → R En (List T)) : En → R En (List T) := fun env => bnd (ga env) fun t => bnd (gs env) fun ts => .ok (t :: ts)
def enil : En → R En (List T × En) := fun env => .ok ([], env)
def econs (fa : En → R En (T × En)) (fs : En → R En (List T × En)) : En → R En (List T × En) := fun env => bnd (fa env) fun a => bnd (fs a.2) fun b => .ok (a.1 :: b.1, b.2)
section
variable {X : Cx} {fx : Fx} {W : L2.WX}
theorem vbs_nil : VBs X fx W [] bnil := PA.imp pa_nil fun σ H Q h => by
  obtain ⟨env, F, fp, S, P⟩ := h
  exact P [] F H (.refl S.sub) (by simp only [Bors])
theorem vbs_cons {e : Expr} {es : List Expr} {ga : En → R En T} {gs : En → R En (List T)} (ha : VB X fx W e ga) (hs : VBs X fx W es gs)
    (hst : starEach (e :: es) X.env = (false, eval e X.env) :: starEach es X.env := by rfl) : VBs X fx W (e :: es) (bcons ga gs) := PA.imp (pa_cons ha hs hst) fun σ H Q h => by
  obtain ⟨env, F, fp, S, P⟩ := h
  refine ⟨env, F, fp, S, ?_⟩
  unfold bcons at P
  cases ea : ga env with
  | no => rw [ea] at P; exact P
  | ex c fs e => rw [ea] at P; exact P
  | ok t =>
    rw [ea] at P
    intro v F1 H1 g1 b1
    have S1 := S.grow g1
    refine ⟨env, F1, fp, S1, ?_⟩
    cases eb : gs env with
    | no => simp only [bnd, eb] at P; exact P
    | ex c fs e =>
      simp only [bnd, eb] at P
      exact fun cls d F' H' fp' S' x g => P cls d F' H' fp' S' x ((g1.go fp).trans g)
    | ok ts =>
      simp only [bnd, eb] at P
      intro vs F2 H2 g2 b2
      exact P (v :: vs) F2 H2 (g1.trans g2) (by simp only [Bors]; exact ⟨v, vs, rfl, b1.mono g2.f g2.h, b2⟩)
theorem ves_nil : VEs X fx W [] enil := PA.imp pa_nil fun σ H Q h => by
  obtain ⟨env, F, fp, S, P⟩ := h
  exact P [] F H fp [] S ⟨rfl, rfl⟩ (by simpa using S.nd) (by simp) (by rw [List.append_nil]; exact .refl)
theorem Go.frame2 {F H F1 H1 F2 H2 : Hp} {fp fp1 f1 fp2 f2 : List Addr} (g1 : Go F H fp F1 H1 (fp1 ++ f1)) (g2 : Go F1 H1 fp1 F2 H2 (fp2 ++ f2)) : Go F H fp F2 H2 (fp2 ++ (f1 ++ f2)) :=
  (g1.trans g2.frame).less fun p hp => by
    simp only [List.mem_append] at hp ⊢
    rcases hp with z | z | z
    · exact .inl (.inl z)
    · exact .inr z
    · exact .inl (.inr z)
theorem nodup_two {F2 : Hp} {fp1 f1 fp2 f2 : List Addr} (nd1 : (fp1 ++ f1).Nodup) (nd2 : (fp2 ++ f2).Nodup) (d1' : ∀ p ∈ f1, p ∉ fp2 ++ f2) : (fp2 ++ (f1 ++ f2)).Nodup := by
  rw [List.nodup_append] at nd2 ⊢
  refine ⟨nd2.1, List.nodup_append.mpr ⟨(List.nodup_append.mp nd1).2.1, nd2.2.1, fun a ha b hb e => ?_⟩, fun a ha b hb e => ?_⟩
  · subst e
    exact d1' a ha (List.mem_append_right _ hb)
  · subst e
    rcases List.mem_append.mp hb with z | z
    · exact d1' a z (List.mem_append_left _ ha)
    · exact nd2.2.2 a ha a z rfl
theorem ves_cons {e : Expr} {es : List Expr} {fa : En → R En (T × En)} {fs : En → R En (List T × En)} (ha : VE X fx W e fa) (hs : VEs X fx W es fs)
    (hst : starEach (e :: es) X.env = (false, eval e X.env) :: starEach es X.env := by rfl) : VEs X fx W (e :: es) (econs fa fs) := PA.imp (pa_cons ha hs hst) fun σ H Q h => by
  obtain ⟨env, F, fp, S, P⟩ := h
  refine ⟨env, F, fp, S, ?_⟩
  unfold econs at P
  cases ea : fa env with
  | no => rw [ea] at P; exact P
  | ex c fs e => rw [ea] at P; exact P
  | ok a =>
    obtain ⟨t, e1⟩ := a
    rw [ea] at P
    intro v F1 H1 fp1 f1 S1 o1 nd1 off1 g1
    refine ⟨e1, F1, fp1, S1, ?_⟩
    have d1 : ∀ p ∈ f1, p ∉ fp1 := fun p hp hq => (List.nodup_append.mp nd1).2.2 p hq p hp rfl
    cases eb : fs e1 with
    | no => simp only [bnd, eb] at P; exact P
    | ex c fs e =>
      simp only [bnd, eb] at P
      intro cls d F' H' fp' S' x g'
      exact P cls d F' H' fp' S' x ((g1.less fun p hp => List.mem_append_left _ hp).trans g')
    | ok b =>
      obtain ⟨ts, e2⟩ := b
      simp only [bnd, eb] at P
      intro vs F2 H2 fp2 f2 S2 o2 nd2 off2 g2
      obtain ⟨o1', off1', d1'⟩ := o1.go off1 g2 d1
      refine P (v :: vs) F2 H2 fp2 (f1 ++ f2) S2 (by simp only [Owns]; exact ⟨v, vs, f1, f2, rfl, o1', o2, rfl⟩) (nodup_two (F2 := F2) nd1 nd2 d1') (fun p hp => ?_) (g1.frame2 g2)
      rcases List.mem_append.mp hp with z | z
      · exact off1' p z
      · exact off2 p z

/-! ### what is done with lists of arguments -/
theorem tVs_one {fs : En → R En (List T × En)} {k : List T → En → R En (T × En)} {K : List V → Hp → Prop} {σ : St} {H : Hp} {Q : VK} {G : Kt}
    (hk : ∀ ts env F H fp xs f1, Sta G fx env F σ H fp → Owns G F H ts xs f1 → (fp ++ f1).Nodup → (∀ p ∈ f1, F p = none) → PV G fx W σ Q F H (fp ++ f1) (k ts env) → K xs H)
    (h : tV G fx W (fun env => bnd (fs env) fun a => k a.1 a.2) σ H Q) : tVs G fx W fs σ H K := by
  obtain ⟨env, F, fp, S, P⟩ := h
  dsimp only at P
  refine ⟨env, F, fp, S, ?_⟩
  cases ea : fs env with
  | no => rw [ea] at P; exact P
  | ex c fs e => rw [ea] at P; exact P
  | ok a =>
    obtain ⟨tx, e1⟩ := a
    rw [ea] at P
    intro v F1 H1 fp1 f1 S1 o1 nd1 off1 g1
    exact hk tx e1 F1 H1 fp1 v f1 S1 o1 nd1 off1 (PV.go (r := k tx e1) P g1)
theorem tBs_one {G : Kt} {σ : St} {H : Hp} {gs : En → R En (List T)} {Z : R En T → (En → Hp → Hp → List Addr → Prop)} {k : List T → R En T} {K : List V → Hp → Prop}
    (hk : ∀ ts env F H fp xs, Sta G fx env F σ H fp → Bors G F H ts xs → Z (k ts) env F H fp → K xs H)
    (hx : ∀ c fs e env F H fp cls d F' H' fp', Z (.ex c fs e) env F H fp → Sta G fx e F' σ H' fp' → ExR G F' H' c fs cls d → Go F H fp F' H' fp' → W cls d σ H')
    (hn : ∀ env F H fp, ¬ Z .no env F H fp)
    (hg : ∀ r env F H fp F' H', Z r env F H fp → Grow F H F' H' → Z r env F' H' fp)
    {env : En} {F : Hp} {fp : List Addr} (S : Sta G fx env F σ H fp) (P : Z (bnd (gs env) fun x => k x) env F H fp) : tBs G fx W gs σ H K := by
  refine ⟨env, F, fp, S, ?_⟩
  cases ea : gs env with
  | no => rw [ea] at P; exact hn _ _ _ _ P
  | ex c fs e => rw [ea] at P; exact fun cls d F' H' fp' S' x g => hx _ _ _ _ _ _ _ _ _ _ _ _ P S' x g
  | ok tx =>
    rw [ea] at P
    intro v F1 H1 g1 b1
    exact hk tx env F1 H1 fp v (S.grow g1) b1 (hg _ _ _ _ _ _ _ P g1)
def PrimN (G : Kt) (r : List V → Hp → VK → Prop) (g : List T → Option T) : Prop := ∀ ts xs F H Q, Same F H → Bors G F H ts xs → PR G F H Q (g ts) → r xs H Q
def bN (g : List T → Option T) (gs : En → R En (List T)) : En → R En T := fun env => bnd (gs env) fun x => ofO (g x) .ok
def eN (g : List T → Option T) (fs : En → R En (List T × En)) : En → R En (T × En) := fun env => bnd (fs env) fun a => ofO (g a.1) fun t => .ok (t, a.2)
theorem BBN {r : List V → Hp → VK → Prop} {g : List T → Option T} {gs : En → R En (List T)} {σ : St} {H : Hp} {Q : VK} (p : PrimN (kt X) r g) (h : tB (kt X) fx W (bN g gs) σ H Q) : tCB r (tBs (kt X) fx W gs) σ H Q := by
  obtain ⟨env, F, fp, S, P⟩ := h
  exact tBs_one (Z := ZB (kt X) fx W σ Q) (k := fun x => ofO (g x) .ok) (fun tx env F H fp x S b1 z => p tx x F H Q S.sub b1 (PR.zb z)) (fun _ _ _ _ _ _ _ _ _ _ _ _ z => ZB.ex z) (fun _ _ _ _ z => z) (fun _ _ _ _ _ _ _ z => z.grow) S P
theorem BVN {r : List V → Hp → VK → Prop} {g : List T → Option T} {gs : En → R En (List T)} {σ : St} {H : Hp} {Q : VK} (p : PrimN (kt X) r g) (h : tV (kt X) fx W (bv (bN g gs)) σ H Q) : tCB r (tBs (kt X) fx W gs) σ H Q := by
  obtain ⟨env, F, fp, S, P⟩ := h
  exact tBs_one (Z := ZV (kt X) fx W σ Q) (k := fun x => ofO (g x) .ok) (fun tx env F H fp x S b1 z => p tx x F H Q S.sub b1 (PR.zv S z)) (fun _ _ _ _ _ _ _ _ _ _ _ _ z => z.ex) (fun _ _ _ _ z => z) (fun _ _ _ _ _ _ _ z => z.grow) S P
theorem EVN {r : List V → Hp → VK → Prop} {g : List T → Option T} {fs : En → R En (List T × En)} {σ : St} {H : Hp} {Q : VK} (p : PrimN (kt X) r g) (h : tV (kt X) fx W (eN g fs) σ H Q) : tCB r (tVs (kt X) fx W fs) σ H Q :=
  tVs_one (k := fun x env => ofO (g x) fun t => .ok (t, env)) (fun tx env F H fp x f1 S o1 nd off z => p tx x F H Q S.sub (Owns.bor _ _ _ o1) (PR.pv S (fun p hp => List.mem_append_left _ hp) z)) h

/-! ### displays -/
def mkL (ts : List T) : Option T := if ts.length ≤ sizeLine then some (.l ts) else none
def mkT (ts : List T) : Option T := if ts.length ≤ sizeLine then (shs ts).map fun ds => .s (.tup ds) else none
theorem prim_tup {G : Kt} : PrimN G (fun xs H Q => xs.length ≤ sizeLine ∧ ∀ p, H p = none → Q (.ref p) (upd H p (.tup xs))) mkT := by
  intro ts xs F H Q s b p
  unfold mkT at p
  split at p
  · rename_i hz
    cases e : shs ts with
    | none => rw [e] at p; exact p.elim
    | some ds =>
      rw [e] at p
      have e' := shs_eq e
      subst e'
      have r := b.shs
      exact ⟨by rw [b.len]; exact hz, PR.tup s p r⟩
  · exact p.elim
theorem vb_tup {es : List Expr} {k pos} {gs : En → R En (List T)} (h : VBs X fx W es gs) : VB X fx W (.Tuple es k pos) (bN mkT gs) := PE.imp (pe_tup h) fun σ H Q q => BBN (X := X) prim_tup q
theorem ve_tup {es : List Expr} {k pos} {fs : En → R En (List T × En)} (h : VEs X fx W es fs) : VE X fx W (.Tuple es k pos) (eN mkT fs) := PE.imp (pe_tup h) fun σ H Q q => EVN (X := X) prim_tup q
theorem ve_lst {es : List Expr} {pos} {fs : En → R En (List T × En)} (h : VEs X fx W es fs) : VE X fx W (.List es pos) (eN mkL fs) := PE.imp (pe_lst h) fun σ H Q q => by
  refine tVs_one (k := fun x env => ofO (mkL x) fun t => .ok (t, env)) (fun ts env F H fp xs f1 S o1 nd off z => ?_) q
  unfold mkL at z
  split at z
  · rename_i hz
    have hb := Owns.bor _ _ _ o1
    refine ⟨by rw [hb.len]; exact hz, fun a n => ?_⟩
    have g := Grow.lay (o := .lst xs) S.sub n
    have na : a ∉ fp ++ f1 := fun hm => by
      rcases List.mem_append.mp hm with z | z
      · exact S.is z n
      · obtain ⟨o, e⟩ := Owns.is _ _ _ o1 a z
        rw [n] at e; cases e
    refine z (.ref a) F _ fp (a :: f1) (S.grow g) ⟨a, xs, f1, rfl, upd_same, Owns.mono g.f _ _ _ (fun p _ o e => g.h p o e) o1, rfl⟩ ?_ ?_ ?_
    · exact List.perm_middle.nodup_iff.mpr (List.nodup_cons.mpr ⟨na, nd⟩)
    · intro p hp
      rcases List.mem_cons.mp hp with rfl | hp
      · exact S.sub.free n
      · exact off p hp
    · exact (g.goNew (fp ++ f1) [a] (by simpa using n)).less fun p hp => by
        simp only [List.mem_append, List.mem_cons, List.mem_singleton, List.not_mem_nil, or_false] at hp ⊢
        rcases hp with z | z | z
        · exact .inl (.inl z)
        · exact .inr z
        · exact .inl (.inr z)
  · exact z.elim
theorem vb_lst {es : List Expr} {pos} {gs : En → R En (List T)} (h : VBs X fx W es gs) : VB X fx W (.List es pos) (bN mkL gs) := PE.imp (pe_lst h) fun σ H Q q => by
  obtain ⟨env, F, fp, S, P⟩ := q
  refine tBs_one (Z := ZB (kt X) fx W σ Q) (k := fun x => ofO (mkL x) .ok) (fun ts env F H fp xs S b z => ?_) (fun _ _ _ _ _ _ _ _ _ _ _ _ z => ZB.ex z) (fun _ _ _ _ z => z) (fun _ _ _ _ _ _ _ z => z.grow) S P
  unfold mkL at z
  split at z
  · rename_i hz
    refine ⟨by rw [b.len]; exact hz, fun a n => ?_⟩
    have g := Grow.lay (o := .lst xs) S.sub n
    exact z (.ref a) F _ g (by simp only [Bor]; exact ⟨a, xs, rfl, upd_same, b.mono g.f g.h⟩)
  · exact z.elim

theorem set_self {α : Type} : ∀ {l : List α} {i : Nat} {x : α}, l[i]? = some x → l.set i x = l
  | [], _, _, h => by simp at h
  | y :: l, 0, x, h => by
    have e : y = x := by simpa using h
    rw [e]; rfl
  | y :: l, i + 1, x, h => by
    show y :: l.set i x = y :: l
    rw [set_self (by simpa using h)]
/-! ### names, constants -/
def nmB (i : Nat) : En → R En T := fun env => match env[i]? with
  | some (some t) => .ok t
  | _ => .no
def mvE (i : Nat) : En → R En (T × En) := fun env => match env[i]? with
  | some (some t) => .ok (t, env.set i none)
  | _ => .no
def cB (d : D) : En → R En T := fun _ => .ok (.s d)
theorem vb_name (i : Nat) {x : Str} {pos : Pos} (hN : X.N[i]? = some x) (hv : Vis X.env.scope x) (hd : (x == ("__debug__" : Str)) = false := by decide)
    (hcd : (x == ("__classdict__" : Str)) = false := by decide) : VB X fx W (.Name x pos) (nmB i) := PE.imp (pe_var hN hv hd hcd) fun σ H Q h => by
  obtain ⟨env, F, fp, S, P⟩ := h
  unfold nmB at P
  split at P
  · rename_i t e
    obtain ⟨a, b, c, s, _, hs, o, _⟩ := S.own.split e
    obtain ⟨v, rfl, o⟩ := o
    exact ⟨v, hs, P v F H (.refl S.sub) o.bor⟩
  · exact P.elim
theorem ve_move (i : Nat) {x : Str} {pos : Pos} (hN : X.N[i]? = some x) (hv : Vis X.env.scope x) (hd : (x == ("__debug__" : Str)) = false := by decide)
    (hcd : (x == ("__classdict__" : Str)) = false := by decide) : VE X fx W (.Name x pos) (mvE i) := PE.imp (pe_var hN hv hd hcd) fun σ H Q h => by
  obtain ⟨env, F, fp, S, P⟩ := h
  unfold mvE at P
  split at P
  · rename_i t e
    obtain ⟨a, b, c, s, e1, hs, o, k⟩ := S.own.split e
    obtain ⟨v, rfl, o⟩ := o
    refine ⟨v, hs, ?_⟩
    have nd := S.nd
    rw [e1] at nd
    have nd' : (a ++ c ++ b).Nodup := by
      have : (a ++ (b ++ c)).Perm (a ++ c ++ b) := by rw [List.append_assoc]; exact List.Perm.append_left a List.perm_append_comm
      exact this.nodup_iff.mp nd
    have k' := k F H none (some v) [] (.refl _) (fun _ _ _ e => e) rfl
    rw [set_self hs, List.nil_append] at k'
    refine P v F H (a ++ c) b ⟨k', (List.nodup_append.mp nd').1, fun p hp => S.off p ?_, S.sub, S.fix, S.pin⟩ o nd' (fun p hp => S.off p ?_) (Go.refl.less fun p hp => ?_)
    · rw [e1]; simp only [List.mem_append] at hp ⊢
      rcases hp with z | z
      · exact .inl z
      · exact .inr (.inr z)
    · rw [e1]; simp [hp]
    · rw [e1]; simp only [List.mem_append] at hp ⊢
      rcases hp with (z | z) | z
      · exact .inl z
      · exact .inr (.inr z)
      · exact .inr (.inl z)
  · exact P.elim
theorem tC_B {v : V} {d : D} (hr : ∀ G F, Rep G F d v) {σ H Q} (h : tB (kt X) fx W (cB d) σ H Q) : tC v σ H Q := by
  obtain ⟨env, F, fp, S, P⟩ := h
  exact P v F H (.refl S.sub) (by simp only [Bor]; exact hr _ _)
theorem vb_int {i : Int} {j pos} : VB X fx W (.Constant (.int i) j pos) (cB (.int i)) := PE.imp pe_int fun σ H Q h => tC_B (X := X) (fun _ _ => by simp only [Rep]) h
theorem vb_bl {i : Bool} {j pos} : VB X fx W (.Constant (.bool i) j pos) (cB (.bl i)) := PE.imp pe_bl fun σ H Q h => tC_B (X := X) (fun _ _ => by simp only [Rep]) h
theorem vb_non {j pos} : VB X fx W (.Constant .none j pos) (cB .non) := PE.imp pe_non fun σ H Q h => tC_B (X := X) (fun _ _ => by simp only [Rep]) h
theorem vb_str {i : Str} {j pos} : VB X fx W (.Constant (.str i) j pos) (cB (.str i)) := PE.imp pe_str fun σ H Q h => tC_B (X := X) (fun _ _ => by simp only [Rep]) h
/-- a constant of the module -/
theorem vb_glob {x : Str} {v : V} {u : Value} {d : D} {pos : Pos} (hg : Gl X x) (hm : X.mg x = some u) (r : RelV v u) (hr : ∀ F, Rep (kt X) F d v) (hd : (x == ("__debug__" : Str)) = false := by decide) : VB X fx W (.Name x pos) (cB d) :=
  PE.imp (pe_glob hg hm r hd) fun σ H Q h => by
    obtain ⟨env, F, fp, S, P⟩ := h
    exact P v F H (.refl S.sub) (by simp only [Bor]; exact hr _)

/-! ### two-place operations, comparisons, subscripts: by values looked at, held -/
variable {a b : Expr} {ga gb : En → R En T} {fa fb : En → R En (T × En)} {pos : Pos} {r : R2} {g : T → T → Option T}
theorem vb_bin {op : Operator} (ho : OpR X (binaryOp op) r) (p : Prim2 (kt X) r g) (ha : VB X fx W a ga) (hb : VB X fx W b gb) : VB X fx W (.BinOp a op b pos) (b2 g ga gb) := PE.imp (pe_op ho ha hb) fun σ H Q h => BB2 (X := X) p h
theorem vv_bin {op : Operator} (ho : OpR X (binaryOp op) r) (p : Prim2 (kt X) r g) (ha : VB X fx W a ga) (hb : VB X fx W b gb) : VE X fx W (.BinOp a op b pos) (bv (b2 g ga gb)) := PE.imp (pe_op ho ha hb) fun σ H Q h => BV2 (X := X) p h
theorem ve_bin {op : Operator} (ho : OpR X (binaryOp op) r) (p : Prim2 (kt X) r g) (ha : VE X fx W a fa) (hb : VE X fx W b fb) : VE X fx W (.BinOp a op b pos) (e2 g fa fb) := PE.imp (pe_op ho ha hb) fun σ H Q h => EV2 (X := X) p h
theorem vb_cmp {op : CmpOp} (ho : OpR X (compareOp op) r) (p : Prim2 (kt X) r g) (ha : VB X fx W a ga) (hb : VB X fx W b gb) (hm : behindInMarks op b = false) : VB X fx W (.Compare a [op] [b] pos) (b2 g ga gb) := PE.imp (pe_cmpR ho ha hb hm) fun σ H Q h => BB2 (X := X) p h
theorem ve_cmp {op : CmpOp} (ho : OpR X (compareOp op) r) (p : Prim2 (kt X) r g) (ha : VE X fx W a fa) (hb : VE X fx W b fb) (hm : behindInMarks op b = false) : VE X fx W (.Compare a [op] [b] pos) (e2 g fa fb) := PE.imp (pe_cmpR ho ha hb hm) fun σ H Q h => EV2 (X := X) p h
theorem vb_ix (ho : IxR X r) (p : Prim2 (kt X) r g) (ha : VB X fx W a ga) (hb : VB X fx W b gb) (hs : PlainIx b) : VB X fx W (.Subscript a b pos) (b2 g ga gb) := PE.imp (pe_ix ho ha hb hs) fun σ H Q h => BB2 (X := X) p h
theorem ve_ix (ho : IxR X r) (p : Prim2 (kt X) r g) (ha : VE X fx W a fa) (hb : VE X fx W b fb) (hs : PlainIx b) : VE X fx W (.Subscript a b pos) (e2 g fa fb) := PE.imp (pe_ix ho ha hb hs) fun σ H Q h => EV2 (X := X) p h
theorem vb_un {op : UnaryOp} {r : V → Hp → VK → Prop} {g : T → Option T} (ho : UnR X (unaryOp op) r) (p : Prim1 (kt X) r g) (ha : VB X fx W a ga) : VB X fx W (.UnaryOp op a pos) (b1 g ga) := PE.imp (pe_un ho ha) fun σ H Q h => BB1 (X := X) p h
theorem ve_un {op : UnaryOp} {r : V → Hp → VK → Prop} {g : T → Option T} (ho : UnR X (unaryOp op) r) (p : Prim1 (kt X) r g) (ha : VE X fx W a fa) : VE X fx W (.UnaryOp op a pos) (e1 g fa) := PE.imp (pe_un ho ha) fun σ H Q h => EV1 (X := X) p h

/-! ### subscripts by values -/
def pIx (x y : T) : Option T := match x, y with
  | .s (.tup ds), .s (.int i) => (atI ds i).map T.s
  | .s (.str z), .s (.int i) => if z.length ≤ sizeLine then (atI z.cps.toList i).map fun c => .s (.str ⟨#[c]⟩) else none
  | x, .s (.int i) => match x.ls with
    | some ds => (atI ds i).map T.s
    | none => none
  | _, _ => none
theorem Reps.at {G : Kt} {F : Hp} {ds : List D} {vs : List V} {i : Int} {d : D} (r : Reps G F ds vs) (h : atI ds i = some d) : ∃ v, atI vs i = some v ∧ Rep G F d v := by
  unfold atI at h ⊢
  rw [r.len]
  cases e : ixN ds.length i with
  | none => rw [e] at h; cases h
  | some j =>
    rw [e] at h
    exact r.get h
theorem prim_ix {G : Kt} : Prim2 G (rIx G.K) pIx := by
  intro tx ty x y F H Q s b1 b2 p
  unfold pIx at p
  split at p
  · rename_i ds i
    simp only [Bor, Rep] at b2
    subst b2
    obtain ⟨a, vs, rfl, h1, r1⟩ := tp_rep s b1 rfl
    cases e : atI ds i with
    | none => rw [e] at p; exact p.elim
    | some d =>
      rw [e] at p
      obtain ⟨v, hv, rv⟩ := r1.at e
      exact .inr (.inl ⟨a, vs, i, v, rfl, rfl, h1.sq, hv, PR.val s p rv⟩)
  · rename_i z i
    simp only [Bor, Rep] at b1 b2
    subst b1 b2
    split at p
    · cases e : atI z.cps.toList i with
      | none => rw [e] at p; exact p.elim
      | some d =>
        rw [e] at p
        exact .inr (.inr ⟨z, i, d, rfl, rfl, by assumption, e, PR.val s p (by simp only [Rep])⟩)
    · exact p.elim
  · rename_i x i _ _
    split at p
    · rename_i ds ed
      simp only [Bor, Rep] at b2
      subst b2
      obtain ⟨a, vs, rfl, h1, r1⟩ := ls_rep s b1 ed
      cases e : atI ds i with
      | none => rw [e] at p; exact p.elim
      | some d =>
        rw [e] at p
        obtain ⟨v, hv, rv⟩ := r1.at e
        exact .inl ⟨a, vs, i, v, rfl, rfl, .of h1, hv, PR.val s p rv⟩
    · exact p.elim
  · exact p.elim
end
end VS
namespace VS
open PySem PySem.Spec L2
open PyProof.Rows hiding St

/-! ### tests -/
def PTt (G : Kt) (fx : Fx) (W : L2.WX) (σ : St) (Q : Bool → Hp → Prop) (F H : Hp) (fp : List Addr) : R En (Bool × En) → Prop
  | .ok (b, e) => ∀ F' H' fp', Sta G fx e F' σ H' fp' → Go F H fp F' H' fp' → Q b H'
  | .ex c fs e => ∀ cls d F' H' fp', Sta G fx e F' σ H' fp' → ExR G F' H' c fs cls d → Go F H fp F' H' fp' → W cls d σ H'
  | .no => False
def tT (G : Kt) (fx : Fx) (W : L2.WX) (f : En → R En (Bool × En)) : TT := fun σ H Q => ∃ env F fp, Sta G fx env F σ H fp ∧ PTt G fx W σ Q F H fp (f env)
theorem PTt.go {G : Kt} {fx : Fx} {W : L2.WX} {σ : St} {Q : Bool → Hp → Prop} {F H F1 H1 : Hp} {fp fp1 : List Addr} {r : R En (Bool × En)} (h : PTt G fx W σ Q F H fp r) (g : Go F H fp F1 H1 fp1) : PTt G fx W σ Q F1 H1 fp1 r := by
  cases r with
  | ok a =>
    obtain ⟨t, e⟩ := a
    intro F' H' fp' S g'
    exact h F' H' fp' S (g.trans g')
  | ex c fs e =>
    intro cls d F' H' fp' S x g'
    exact h cls d F' H' fp' S x (g.trans g')
  | no => exact h
abbrev VT (X : Cx) (fx : Fx) (W : L2.WX) (e : Expr) (f : En → R En (Bool × En)) : Prop := PT X e (tT (kt X) fx W f)
abbrev VW (X : Cx) (fx : Fx) (W : L2.WX) (e : Expr) (f : En → R En (Bool × En)) : Prop := PW X e (tT (kt X) fx W f)
def T.bl? : T → Option Bool
  | .s (.bl b) => some b
  | _ => none
def ofB (ga : En → R En T) : En → R En (Bool × En) := fun env => bnd (ga env) fun t => ofO t.bl? fun b => .ok (b, env)
def ofV (fa : En → R En (T × En)) : En → R En (Bool × En) := fun env => bnd (fa env) fun a => ofO a.1.bl? fun b => .ok (b, a.2)
section
variable {X : Cx} {fx : Fx} {W : L2.WX} {a b c : Expr} {pos : Pos}
theorem bl?_eq {t : T} {b : Bool} (h : t.bl? = some b) : t = .s (.bl b) := by
  cases t with
  | s d => cases d <;> first | (cases h; rfl) | cases h
  | _ => cases h
theorem PTt_B {G : Kt} {σ : St} {H : Hp} {Q : Bool → Hp → Prop} {ga : En → R En T} (h : tT G fx W (ofB ga) σ H Q) : tB G fx W ga σ H fun x H' => ∃ k, x = .bl k ∧ Q k H' := by
  obtain ⟨env, F, fp, S, P⟩ := h
  refine ⟨env, F, fp, S, ?_⟩
  unfold ofB at P
  cases ea : ga env with
  | no => rw [ea] at P; exact P
  | ex c fs e => rw [ea] at P; exact P
  | ok t =>
    rw [ea] at P
    cases eb : t.bl? with
    | none => simp only [bnd, eb, ofO] at P; exact P.elim
    | some k =>
      simp only [bnd, eb, ofO] at P
      have e := bl?_eq eb
      subst e
      intro v F' H' g b
      simp only [Bor, Rep] at b
      exact ⟨k, b, P F' H' fp (S.grow g) (g.go fp)⟩
theorem PTt_V {G : Kt} {σ : St} {H : Hp} {Q : Bool → Hp → Prop} {ga : En → R En (T × En)} (h : tT G fx W (ofV ga) σ H Q) : tV G fx W ga σ H fun x H' => ∃ k, x = .bl k ∧ Q k H' := by
  obtain ⟨env, F, fp, S, P⟩ := h
  refine ⟨env, F, fp, S, ?_⟩
  unfold ofV at P
  cases ea : ga env with
  | no => rw [ea] at P; exact P
  | ex c fs e => rw [ea] at P; exact P
  | ok t =>
    obtain ⟨t, e⟩ := t
    rw [ea] at P
    cases eb : t.bl? with
    | none => simp only [bnd, eb, ofO] at P; exact P.elim
    | some k =>
      simp only [bnd, eb, ofO] at P
      have e := bl?_eq eb
      subst e
      intro v F' H' fp' ft S' o nd off g
      simp only [Own, Rep] at o
      exact ⟨k, o.1, P F' H' fp' S' (g.less fun p hp => List.mem_append_left _ hp)⟩
/-- a value that is True or False (no comparison) -/
theorem vt_b {ga : En → R En T} (h : VB X fx W a ga) (he : ∀ whole, isTrue a X.env whole = (do let v ← whole; standAt a.pos; holding [v] (truthy v)) := by intro _; rfl) : VT X fx W a (ofB ga) := PT.imp (pt_val h he) fun σ H Q q => PTt_B q
theorem vt_v {fa : En → R En (T × En)} (h : VE X fx W a fa) (he : ∀ whole, isTrue a X.env whole = (do let v ← whole; standAt a.pos; holding [v] (truthy v)) := by intro _; rfl) : VT X fx W a (ofV fa) := PT.imp (pt_val h he) fun σ H Q q => PTt_V q
/-- a comparison -/
theorem vt_cmp {op : CmpOp} {r : R2} {g : T → T → Option T} {ga gb : En → R En T} (ho : OpR X (compareOp op) r) (p : Prim2 (kt X) r g) (ha : VB X fx W a ga) (hb : VB X fx W b gb) (hm : behindInMarks op b = false) : VT X fx W (.Compare a [op] [b] pos) (ofB (b2 g ga gb)) :=
  PT.imp (pt_cmpR ho ha hb hm) fun σ H Q h => BB2 (X := X) p (PTt_B h)
theorem vt_cmpE {op : CmpOp} {r : R2} {g : T → T → Option T} {fa fb : En → R En (T × En)} (ho : OpR X (compareOp op) r) (p : Prim2 (kt X) r g) (ha : VE X fx W a fa) (hb : VE X fx W b fb) (hm : behindInMarks op b = false) : VT X fx W (.Compare a [op] [b] pos) (ofV (e2 g fa fb)) :=
  PT.imp (pt_cmpR ho ha hb hm) fun σ H Q h => EV2 (X := X) p (PTt_V h)
/-- two comparisons in a chain -/
def b3 (g g' : T → T → Option T) (ga gb gc : En → R En T) : En → R En T := fun env => bnd (ga env) fun x => bnd (gb env) fun y => ofO (g x y) fun z => ofO z.bl? fun k => if k then bnd (gc env) fun w => ofO (g' y w) .ok else .ok (.s (.bl false))
theorem tB_chain {r r' : R2} {g g' : T → T → Option T} {ga gb gc : En → R En T} {σ : St} {H : Hp} {Q : VK} (p : Prim2 (kt X) r g) (p' : Prim2 (kt X) r' g') (h : tB (kt X) fx W (b3 g g' ga gb gc) σ H Q) :
    tChain r r' (tB (kt X) fx W ga) (tB (kt X) fx W gb) (tB (kt X) fx W gc) σ H Q := by
  obtain ⟨env, F, fp, S, P⟩ := h
  refine ⟨env, F, fp, S, ?_⟩
  unfold b3 at P
  cases ea : ga env with
  | no => rw [ea] at P; exact P
  | ex c fs e => rw [ea] at P; exact P
  | ok tx =>
    rw [ea] at P
    intro x F1 H1 g1 bx
    have S1 := S.grow g1
    refine ⟨env, F1, fp, S1, ?_⟩
    cases eb : gb env with
    | no => simp only [bnd, eb] at P; exact P
    | ex c fs e =>
      simp only [bnd, eb] at P
      exact fun cls d F' H' fp' S' x g => P cls d F' H' fp' S' x ((g1.go fp).trans g)
    | ok ty =>
      simp only [bnd, eb] at P
      intro y F2 H2 g2 bY
      have bx2 := bx.mono g2.f g2.h
      refine p tx ty x y F2 H2 _ g2.sub bx2 bY ?_
      cases eg : g tx ty with
      | none => rw [eg] at P; exact P
      | some t =>
        rw [eg] at P
        simp only [ofO] at P
        cases et : t.bl? with
        | none => rw [et] at P; exact P.elim
        | some k =>
          rw [et] at P
          have e := bl?_eq et
          subst e
          intro v F3 H3 ft g3 o nd off
          simp only [Own, Rep] at o
          obtain ⟨rfl, rfl⟩ := o
          have g123 := (g1.trans g2).trans g3
          refine ⟨k, rfl, ?_⟩
          cases k with
          | false => exact iteF (P _ F3 H3 g123 (by simp only [Bor, Rep]))
          | true =>
            refine iteT ⟨env, F3, fp, S.grow g123, ?_⟩
            simp only [if_true] at P
            cases ec : gc env with
            | no => rw [ec] at P; exact P
            | ex c fs e =>
              rw [ec] at P
              exact fun cls d F' H' fp' S' x g => P cls d F' H' fp' S' x ((g123.go fp).trans g)
            | ok tw =>
              rw [ec] at P
              intro w F4 H4 g4 bw
              refine p' ty tw y w F4 H4 _ g4.sub (bY.mono (g3.trans g4).f (g3.trans g4).h) bw ?_
              cases eh : g' ty tw with
              | none => simp only [bnd, eh] at P; exact P
              | some t =>
                simp only [bnd, eh, ofO] at P
                exact fun v F5 H5 ft g5 o _ _ => P v F5 H5 (g123.trans (g4.trans g5)) o.bor
theorem vb_chain {op op' : CmpOp} {r r' : R2} {g g' : T → T → Option T} {ga gb gc : En → R En T} (ho : OpR X (compareOp op) r) (p : Prim2 (kt X) r g) (ho' : OpR X (compareOp op') r') (p' : Prim2 (kt X) r' g')
    (ha : VB X fx W a ga) (hb : VB X fx W b gb) (hc : VB X fx W c gc) (hm : lastMarks [op, op'] [b, c] = false := by with_unfolding_all rfl) : VB X fx W (.Compare a [op, op'] [b, c] pos) (b3 g g' ga gb gc) :=
  PE.imp (pe_chain ho ho' ha hb hc hm) fun σ H Q h => tB_chain p p' h
theorem vt_chain {op op' : CmpOp} {r r' : R2} {g g' : T → T → Option T} {ga gb gc : En → R En T} (ho : OpR X (compareOp op) r) (p : Prim2 (kt X) r g) (ho' : OpR X (compareOp op') r') (p' : Prim2 (kt X) r' g')
    (ha : VB X fx W a ga) (hb : VB X fx W b gb) (hc : VB X fx W c gc) (hm : lastMarks [op, op'] [b, c] = false := by with_unfolding_all rfl) : VT X fx W (.Compare a [op, op'] [b, c] pos) (ofB (b3 g g' ga gb gc)) :=
  PT.imp (pt_chain ho ho' ha hb hc hm) fun σ H Q h => tB_chain p p' (PTt_B h)
/-- truth of a value -/
def tru : T → Option Bool
  | .s .non => some false
  | .s (.bl b) => some b
  | .s (.int i) => some (i != 0)
  | .s (.str x) => if x.length ≤ sizeLine then some ((x.length : Int) != 0) else none
  | .s (.lst ds) => some (!ds.isEmpty)
  | .s (.tup ds) => some (!ds.isEmpty)
  | .l ts => some (!ts.isEmpty)
  | .dk kvs => some (!kvs.isEmpty)
  | _ => none
theorem isEmpty_len {α β : Type} {xs : List α} {ys : List β} (h : xs.length = ys.length) : xs.isEmpty = ys.isEmpty := by
  cases xs <;> cases ys <;> first | rfl | (simp at h)
theorem BorK.len {G : Kt} {F H : Hp} : ∀ {ds : List (Key × T)} {vs : List (Key × V)}, BorK G F H ds vs → vs.length = ds.length
  | [], vs, h => by simp only [BorK] at h; rw [h]; rfl
  | (_, d) :: ds, vs, h => by
    simp only [BorK] at h
    obtain ⟨v, r, rfl, h1, h2⟩ := h
    simp [BorK.len h2]
theorem tru_is {G : Kt} {F H : Hp} {t : T} {x : V} {k : Bool} (s : Same F H) (b : Bor G F H t x) (h : tru t = some k) : TruV G.K x H k := by
  unfold tru at h
  split at h
  · cases h; simp only [Bor, Rep] at b; subst b; rfl
  · cases h; simp only [Bor, Rep] at b; subst b; rfl
  · cases h; simp only [Bor, Rep] at b; subst b; rfl
  · simp only [Bor, Rep] at b; subst b
    split at h
    · cases h; exact ⟨by assumption, rfl⟩
    · cases h
  · cases h
    obtain ⟨a, vs, rfl, h1, r⟩ := ls_rep s b rfl
    exact .inl ⟨vs, .of h1, by rw [isEmpty_len r.len]⟩
  · cases h
    obtain ⟨a, vs, rfl, h1, r⟩ := tp_rep s b rfl
    exact .inr (.inl ⟨vs, h1.sq, by rw [isEmpty_len r.len]⟩)
  · cases h
    simp only [Bor] at b
    obtain ⟨p, vs, rfl, h1, r⟩ := b
    exact .inl ⟨vs, .of h1, by rw [isEmpty_len r.len]⟩
  · cases h
    simp only [Bor] at b
    obtain ⟨p, vs, rfl, h1, r⟩ := b
    exact .inr (.inr ⟨vs, h1, by rw [isEmpty_len r.len]⟩)
  · cases h
def ofTr (ga : En → R En T) : En → R En (Bool × En) := fun env => bnd (ga env) fun t => ofO (tru t) fun b => .ok (b, env)
theorem vt_truth {ga : En → R En T} (h : VB X fx W a ga) (he : ∀ whole, isTrue a X.env whole = (do let v ← whole; standAt a.pos; holding [v] (truthy v)) := by intro _; rfl) : VT X fx W a (ofTr ga) := PT.imp (pt_truth h he) fun σ H Q q => by
  obtain ⟨env, F, fp, S, P⟩ := q
  refine ⟨env, F, fp, S, ?_⟩
  unfold ofTr at P
  cases ea : ga env with
  | no => rw [ea] at P; exact P
  | ex c fs e => rw [ea] at P; exact P
  | ok t =>
    rw [ea] at P
    cases eb : tru t with
    | none => simp only [bnd, eb, ofO] at P; exact P.elim
    | some k =>
      simp only [bnd, eb, ofO] at P
      intro v F' H' g b
      exact ⟨k, tru_is g.sub b eb, P F' H' fp (S.grow g) (g.go fp)⟩
/-- and, or, not -/
def andT (f g : En → R En (Bool × En)) : En → R En (Bool × En) := fun env => bnd (f env) fun a => if a.1 then g a.2 else .ok (false, a.2)
def orT (f g : En → R En (Bool × En)) : En → R En (Bool × En) := fun env => bnd (f env) fun a => if a.1 then .ok (true, a.2) else g a.2
def notT (f : En → R En (Bool × En)) : En → R En (Bool × En) := fun env => bnd (f env) fun a => .ok (!a.1, a.2)
theorem tT_then {G : Kt} {σ : St} {H : Hp} {Q : Bool → Hp → Prop} {K : Bool → Hp → Prop} {f : En → R En (Bool × En)} {k : Bool → En → R En (Bool × En)}
    (hk : ∀ b env F H fp, Sta G fx env F σ H fp → PTt G fx W σ Q F H fp (k b env) → K b H) (h : tT G fx W (fun env => bnd (f env) fun a => k a.1 a.2) σ H Q) : tT G fx W f σ H K := by
  obtain ⟨env, F, fp, S, P⟩ := h
  dsimp only at P
  refine ⟨env, F, fp, S, ?_⟩
  cases ea : f env with
  | no => rw [ea] at P; exact P
  | ex c fs e => rw [ea] at P; exact P
  | ok a =>
    obtain ⟨b, e⟩ := a
    rw [ea] at P
    intro F' H' fp' S' g
    exact hk b e F' H' fp' S' (PTt.go (r := k b e) P g)
theorem vw_and1 {f : En → R En (Bool × En)} (h : VT X fx W a f) : VW X fx W (.BoolOp .And [a] pos) f := pw_and1 h
theorem vw_or1 {f : En → R En (Bool × En)} (h : VT X fx W a f) : VW X fx W (.BoolOp .Or [a] pos) f := pw_or1 h
theorem PW.imp {e : Expr} {t t' : TT} (h : PW X e t) (k : ∀ σ H Q, t' σ H Q → t σ H Q) : PW X e t' := ⟨fun whole pins s σ H Q I q => h.run whole pins s σ H Q I (k σ H Q q)⟩
theorem vw_and {rest : List Expr} {f g : En → R En (Bool × En)} (ha : VT X fx W a f) (hb : VW X fx W (.BoolOp .And (b :: rest) pos) g) : VW X fx W (.BoolOp .And (a :: b :: rest) pos) (andT f g) := PW.imp (pw_and ha hb) fun σ H Q h =>
  tT_then (k := fun b e => if b then g e else .ok (false, e)) (fun k env F H fp S P => by
    cases k with
    | true => exact iteT ⟨env, F, fp, S, P⟩
    | false => exact iteF (P F H fp S .refl)) h
theorem vw_or {rest : List Expr} {f g : En → R En (Bool × En)} (ha : VT X fx W a f) (hb : VW X fx W (.BoolOp .Or (b :: rest) pos) g) : VW X fx W (.BoolOp .Or (a :: b :: rest) pos) (orT f g) := PW.imp (pw_or ha hb) fun σ H Q h =>
  tT_then (k := fun b e => if b then .ok (true, e) else g e) (fun k env F H fp S P => by
    cases k with
    | false => exact iteF ⟨env, F, fp, S, P⟩
    | true => exact iteT (P F H fp S .refl)) h
theorem vw_pt {f : En → R En (Bool × En)} (h : VW X fx W a f) : VT X fx W a f := PW.pt h
theorem vt_not {f : En → R En (Bool × En)} (h : VT X fx W a f) : VT X fx W (.UnaryOp .Not a pos) (notT f) := PT.imp (pt_not h) fun σ H Q q =>
  tT_then (k := fun b e => .ok (!b, e)) (fun k env F H fp S P => P F H fp S .refl) q
/-- as values: and, or (all but the last True or False), not, a if t else b -/
def andV (f g : En → R En (T × En)) : En → R En (T × En) := fun env => bnd (f env) fun a => ofO a.1.bl? fun k => if k then g a.2 else .ok (.s (.bl false), a.2)
def orV (f g : En → R En (T × En)) : En → R En (T × En) := fun env => bnd (f env) fun a => ofO a.1.bl? fun k => if k then .ok (.s (.bl true), a.2) else g a.2
def notV (f : En → R En (T × En)) : En → R En (T × En) := fun env => bnd (f env) fun a => ofO a.1.bl? fun k => .ok (.s (.bl !k), a.2)
def ifV (c : En → R En (Bool × En)) (f g : En → R En (T × En)) : En → R En (T × En) := fun env => bnd (c env) fun a => if a.1 then f a.2 else g a.2
theorem tV_bl {G : Kt} {σ : St} {H : Hp} {Q : VK} {K : V → Hp → Prop} {f : En → R En (T × En)} {k : Bool → En → R En (T × En)}
    (hk : ∀ b env F H fp, Sta G fx env F σ H fp → PV G fx W σ Q F H fp (k b env) → K (.bl b) H) (h : tV G fx W (fun env => bnd (f env) fun a => ofO a.1.bl? fun b => k b a.2) σ H Q) : tV G fx W f σ H K := by
  refine tV_one (k := fun t e => ofO t.bl? fun b => k b e) (fun tx env F H fp x f1 S o nd off P => ?_) h
  cases eb : tx.bl? with
  | none => rw [eb] at P; exact P.elim
  | some b =>
    rw [eb] at P
    have e := bl?_eq eb
    subst e
    simp only [Own, Rep] at o
    obtain ⟨rfl, rfl⟩ := o
    rw [List.append_nil] at P
    exact hk b env F H fp S P
theorem PV.bl {G : Kt} {σ : St} {Q : VK} {env : En} {F H : Hp} {fp : List Addr} {b : Bool} (S : Sta G fx env F σ H fp) (P : PV G fx W σ Q F H fp (.ok (.s (.bl b), env))) : Q (.bl b) H :=
  PV.res (ft := []) S P (fun _ h => h) (.refl S.sub) ⟨by simp only [Rep], rfl⟩ List.nodup_nil (by simp)
theorem ve_one {op : BoolOp} {f : En → R En (T × En)} (h : VE X fx W a f) : VE X fx W (.BoolOp op [a] pos) f := pe_one h
theorem ve_and {rest : List Expr} {f g : En → R En (T × En)} (ha : VE X fx W a f) (hb : VE X fx W (.BoolOp .And (b :: rest) pos) g) : VE X fx W (.BoolOp .And (a :: b :: rest) pos) (andV f g) := PE.imp (pe_and ha hb) fun σ H Q h =>
  tV_bl (k := fun k e => if k then g e else .ok (.s (.bl false), e)) (fun k env F H fp S P => ⟨k, rfl, by
    cases k with
    | true => exact iteT ⟨env, F, fp, S, P⟩
    | false => exact iteF (PV.bl S P)⟩) h
theorem ve_or {rest : List Expr} {f g : En → R En (T × En)} (ha : VE X fx W a f) (hb : VE X fx W (.BoolOp .Or (b :: rest) pos) g) : VE X fx W (.BoolOp .Or (a :: b :: rest) pos) (orV f g) := PE.imp (pe_or ha hb) fun σ H Q h =>
  tV_bl (k := fun k e => if k then .ok (.s (.bl true), e) else g e) (fun k env F H fp S P => ⟨k, rfl, by
    cases k with
    | false => exact iteF ⟨env, F, fp, S, P⟩
    | true => exact iteT (PV.bl S P)⟩) h
theorem ve_not {f : En → R En (T × En)} (h : VE X fx W a f) : VE X fx W (.UnaryOp .Not a pos) (notV f) := PE.imp (pe_not h) fun σ H Q q =>
  tV_bl (k := fun b e => .ok (.s (.bl !b), e)) (fun k env F H fp S P => ⟨k, rfl, PV.bl S P⟩) q
theorem tT_V {G : Kt} {σ : St} {H : Hp} {Q : VK} {K : Bool → Hp → Prop} {f : En → R En (Bool × En)} {k : Bool → En → R En (T × En)}
    (hk : ∀ b env F H fp, Sta G fx env F σ H fp → PV G fx W σ Q F H fp (k b env) → K b H) (h : tV G fx W (fun env => bnd (f env) fun a => k a.1 a.2) σ H Q) : tT G fx W f σ H K := by
  obtain ⟨env, F, fp, S, P⟩ := h
  dsimp only at P
  refine ⟨env, F, fp, S, ?_⟩
  cases ea : f env with
  | no => rw [ea] at P; exact P
  | ex c fs e => rw [ea] at P; exact P
  | ok a =>
    obtain ⟨b, e⟩ := a
    rw [ea] at P
    intro F' H' fp' S' g
    exact hk b e F' H' fp' S' (PV.go (r := k b e) P g)
theorem ve_if {c : Expr} {t : En → R En (Bool × En)} {f g : En → R En (T × En)} (hc : VT X fx W c t) (ha : VE X fx W a f) (hb : VE X fx W b g) : VE X fx W (.IfExp c a b pos) (ifV t f g) := PE.imp (pe_ifExp hc ha hb) fun σ H Q h =>
  tT_V (k := fun k e => if k then f e else g e) (fun k env F H fp S P => by
    cases k with
    | true => exact iteT ⟨env, F, fp, S, P⟩
    | false => exact iteF ⟨env, F, fp, S, P⟩) h
end
end VS
namespace VS
open PySem PySem.Spec L2
open PyProof.Rows hiding St

/-! ### statements -/
inductive Fl where
  | nx | bk | ct | rt (t : T)
def PSt (G : Kt) (fx : Fx) (W : L2.WX) (D : Ends) (F H : Hp) (fp : List Addr) : R En (Fl × En) → Prop
  | .ok (.nx, e) => ∀ σ' F' H' fp', Sta G fx e F' σ' H' fp' → Go F H fp F' H' fp' → D.nx σ' H'
  | .ok (.bk, e) => ∀ σ' F' H' fp', Sta G fx e F' σ' H' fp' → Go F H fp F' H' fp' → D.bk σ' H'
  | .ok (.ct, e) => ∀ σ' F' H' fp', Sta G fx e F' σ' H' fp' → Go F H fp F' H' fp' → D.ct σ' H'
  | .ok (.rt t, e) => ∀ v σ' F' H' fp' ft, Sta G fx e F' σ' H' fp' → Own G F' H' t v ft → (fp' ++ ft).Nodup → (∀ p ∈ ft, F' p = none) → Go F H fp F' H' (fp' ++ ft) → D.rt v H'
  | .ex c fs e => ∀ cls d σ' F' H' fp', Sta G fx e F' σ' H' fp' → ExR G F' H' c fs cls d → Go F H fp F' H' fp' → W cls d σ' H'
  | .no => False
def tS (G : Kt) (fx : Fx) (W : L2.WX) (f : En → R En (Fl × En)) : TS := fun D σ H => ∃ env F fp, Sta G fx env F σ H fp ∧ PSt G fx W D F H fp (f env)
abbrev VS1 (X : Cx) (fx : Fx) (W : L2.WX) (st : Stmt) (f : En → R En (Fl × En)) : Prop := PS X st (tS (kt X) fx W f)
abbrev VSs (X : Cx) (fx : Fx) (W : L2.WX) (st : List Stmt) (f : En → R En (Fl × En)) : Prop := PSs X st (tS (kt X) fx W f)
section
variable {G : Kt} {fx : Fx} {W : L2.WX}
theorem PSt.go {D : Ends} {F H F1 H1 : Hp} {fp fp1 : List Addr} {r : R En (Fl × En)} (h : PSt G fx W D F H fp r) (g : Go F H fp F1 H1 fp1) : PSt G fx W D F1 H1 fp1 r := by
  cases r with
  | ok a =>
    obtain ⟨t, e⟩ := a
    cases t with
    | nx => exact fun σ' F' H' fp' S g' => h σ' F' H' fp' S (g.trans g')
    | bk => exact fun σ' F' H' fp' S g' => h σ' F' H' fp' S (g.trans g')
    | ct => exact fun σ' F' H' fp' S g' => h σ' F' H' fp' S (g.trans g')
    | rt t => exact fun v σ' F' H' fp' ft S o nd off g' => h v σ' F' H' fp' ft S o nd off (g.trans g')
  | ex c fs e => exact fun cls d σ' F' H' fp' S x g' => h cls d σ' F' H' fp' S x (g.trans g')
  | no => exact h
/-- an expression, then the rest of the statement -/
theorem tV_S {D : Ends} {σ : St} {H : Hp} {f : En → R En (T × En)} {k : T → En → R En (Fl × En)} {K : V → Hp → Prop}
    (hk : ∀ t env F H fp v ft, Sta G fx env F σ H fp → Own G F H t v ft → (fp ++ ft).Nodup → (∀ p ∈ ft, F p = none) → PSt G fx W D F H (fp ++ ft) (k t env) → K v H)
    (h : tS G fx W (fun env => bnd (f env) fun a => k a.1 a.2) D σ H) : tV G fx W f σ H K := by
  obtain ⟨env, F, fp, S, P⟩ := h
  dsimp only at P
  refine ⟨env, F, fp, S, ?_⟩
  cases ea : f env with
  | no => rw [ea] at P; exact P
  | ex c fs e => rw [ea] at P; exact fun cls d F' H' fp' S' x g => P cls d σ F' H' fp' S' x g
  | ok a =>
    obtain ⟨t, e⟩ := a
    rw [ea] at P
    intro v F' H' fp' ft S' o nd off g
    exact hk t e F' H' fp' v ft S' o nd off (PSt.go (r := k t e) P g)
theorem tT_S {D : Ends} {σ : St} {H : Hp} {f : En → R En (Bool × En)} {k : Bool → En → R En (Fl × En)} {K : Bool → Hp → Prop}
    (hk : ∀ t env F H fp, Sta G fx env F σ H fp → PSt G fx W D F H fp (k t env) → K t H)
    (h : tS G fx W (fun env => bnd (f env) fun a => k a.1 a.2) D σ H) : tT G fx W f σ H K := by
  obtain ⟨env, F, fp, S, P⟩ := h
  dsimp only at P
  refine ⟨env, F, fp, S, ?_⟩
  cases ea : f env with
  | no => rw [ea] at P; exact P
  | ex c fs e => rw [ea] at P; exact fun cls d F' H' fp' S' x g => P cls d σ F' H' fp' S' x g
  | ok a =>
    obtain ⟨t, e⟩ := a
    rw [ea] at P
    intro F' H' fp' S' g
    exact hk t e F' H' fp' S' (PSt.go (r := k t e) P g)
end
def skS : En → R En (Fl × En) := fun env => .ok (.nx, env)
def sq (f g : En → R En (Fl × En)) : En → R En (Fl × En) := fun env => bnd (f env) fun a => match a.1 with
  | .nx => g a.2
  | fl => .ok (fl, a.2)
def ifS (c : En → R En (Bool × En)) (f g : En → R En (Fl × En)) : En → R En (Fl × En) := fun env => bnd (c env) fun a => if a.1 then f a.2 else g a.2
def rtS (f : En → R En (T × En)) : En → R En (Fl × En) := fun env => bnd (f env) fun a => .ok (.rt a.1, a.2)
def rnS : En → R En (Fl × En) := fun env => .ok (.rt (.s .non), env)
def dropS (f : En → R En (T × En)) : En → R En (Fl × En) := fun env => bnd (f env) fun a => .ok (.nx, a.2)
def bkS : En → R En (Fl × En) := fun env => .ok (.bk, env)
def ctS : En → R En (Fl × En) := fun env => .ok (.ct, env)
section
variable {X : Cx} {fx : Fx} {W : L2.WX} {pos : Pos}
theorem vss_nil : VSs X fx W [] skS := PSs.imp pss_nil fun D σ H h => by
  obtain ⟨env, F, fp, S, P⟩ := h
  exact P σ F H fp S .refl
theorem tSeq_of {f g : En → R En (Fl × En)} {D : Ends} {σ : St} {H : Hp} (h : tS (kt X) fx W (sq f g) D σ H) : tSeq (tS (kt X) fx W f) (tS (kt X) fx W g) D σ H := by
  obtain ⟨env, F, fp, S, P⟩ := h
  refine ⟨env, F, fp, S, ?_⟩
  unfold sq at P
  cases ea : f env with
  | no => rw [ea] at P; exact P
  | ex c fs e => rw [ea] at P; exact P
  | ok a =>
    obtain ⟨t, e⟩ := a
    rw [ea] at P
    cases t with
    | nx => exact fun σ' F' H' fp' S' g' => ⟨e, F', fp', S', PSt.go (r := g e) P g'⟩
    | bk => exact P
    | ct => exact P
    | rt t => exact P
theorem vss_cons {st : Stmt} {rest : List Stmt} {f g : En → R En (Fl × En)} (h1 : VS1 X fx W st f) (h2 : VSs X fx W rest g) : VSs X fx W (st :: rest) (sq f g) := PSs.imp (pss_cons h1 h2) fun D σ H h => tSeq_of h
theorem vss_one {st : Stmt} {f : En → R En (Fl × En)} (h1 : VS1 X fx W st f) : VSs X fx W [st] f := pss_one h1
theorem vs_pass : VS1 X fx W (.Pass pos) skS := PS.imp ps_pass fun D σ H h => by
  obtain ⟨env, F, fp, S, P⟩ := h
  exact P σ F H fp S .refl
theorem vs_break : VS1 X fx W (.Break pos) bkS := PS.imp ps_break fun D σ H h => by
  obtain ⟨env, F, fp, S, P⟩ := h
  exact P σ F H fp S .refl
theorem vs_continue : VS1 X fx W (.Continue pos) ctS := PS.imp ps_continue fun D σ H h => by
  obtain ⟨env, F, fp, S, P⟩ := h
  exact P σ F H fp S .refl
theorem vs_expr {e : Expr} {f : En → R En (T × En)} (he : VE X fx W e f) (hs : swapsWith e none pos.line X.env = pure false := by rfl) : VS1 X fx W (.Expr e pos) (dropS f) := PS.imp (ps_expr he hs) fun D σ H h =>
  tV_S (k := fun _ e => .ok (.nx, e)) (fun t env F H fp v ft S o nd off P => P σ F H fp S (Go.refl.less fun p hp => List.mem_append_left _ hp)) h
theorem vs_ret {e : Expr} {f : En → R En (T × En)} (he : VE X fx W e f) : VS1 X fx W (.Return (some e) pos) (rtS f) := PS.imp (ps_ret he) fun D σ H h =>
  tV_S (k := fun t e => .ok (.rt t, e)) (fun t env F H fp v ft S o nd off P => P v σ F H fp ft S o nd off .refl) h
theorem vs_retN : VS1 X fx W (.Return none pos) rnS := PS.imp ps_retN fun D σ H h => by
  obtain ⟨env, F, fp, S, P⟩ := h
  exact P .non σ F H fp [] S ⟨by simp only [Rep], rfl⟩ (by simpa using S.nd) (by simp) (by rw [List.append_nil]; exact .refl)
theorem vs_if {c : Expr} {a b : List Stmt} {t : En → R En (Bool × En)} {f g : En → R En (Fl × En)} (hc : VT X fx W c t) (ha : VSs X fx W a f) (hb : VSs X fx W b g) : VS1 X fx W (.If c a b pos) (ifS t f g) := PS.imp (ps_if hc ha hb) fun D σ H h =>
  tT_S (k := fun k e => if k then f e else g e) (fun k env F H fp S P => by
    cases k with
    | true => exact iteT ⟨env, F, fp, S, P⟩
    | false => exact iteF ⟨env, F, fp, S, P⟩) h

/-! ### stores -/
/-- a value comes into slot i -/
def stS (i : Nat) (t : T) (env : En) : Option En := if i < env.length then some (env.set i (some t)) else none
theorem Sta.store {G : Kt} {i : Nat} {env env' : En} {F H : Hp} {σ : St} {fp ft : List Addr} {t : T} {v : V} (S : Sta G fx env F σ H fp) (o : Own G F H t v ft) (nd : (fp ++ ft).Nodup) (off : ∀ p ∈ ft, F p = none) (hi : ∀ q ∈ fx, q.1 ≠ i) (h : stS i t env = some env') :
    ∃ fp', Sta G fx env' F (σ.set i (some v)) H fp' ∧ ∀ p ∈ fp', p ∈ fp ++ ft := by
  unfold stS at h
  split at h
  · rename_i hl
    cases h
    obtain ⟨a, b, c, s, rfl, hs, _, k⟩ := S.own.split (List.getElem?_eq_getElem hl)
    refine ⟨a ++ (ft ++ c), ⟨k F H (some t) (some v) ft (.refl _) (fun _ _ _ e => e) ⟨v, rfl, o⟩, ?_, fun p hp => ?_, S.sub, fun q hq => ?_, S.pin⟩, fun p hp => ?_⟩
    · have h1 : ((a ++ (b ++ c)) ++ ft).Perm (b ++ (a ++ (ft ++ c))) := by
        refine (List.append_assoc a (b ++ c) ft) ▸ ?_
        rw [List.append_assoc]
        have e1 : (a ++ (b ++ (c ++ ft))).Perm (b ++ (a ++ (c ++ ft))) := by
          have e1 := (List.perm_append_comm (l₁ := a) (l₂ := b)).append_right (c ++ ft)
          simpa only [List.append_assoc] using e1
        exact e1.trans ((List.perm_append_comm.append_left a).append_left b)
      exact (List.nodup_append.mp (h1.nodup_iff.mp nd)).2.1
    · simp only [List.mem_append] at hp
      rcases hp with z | z | z
      · exact S.off p (by simp [z])
      · exact off p z
      · exact S.off p (by simp [z])
    · rw [List.getElem?_set_ne (fun e => hi q hq e.symm)]
      exact S.fix q hq
    · simp only [List.mem_append] at hp ⊢
      rcases hp with z | z | z
      · exact .inl (.inl z)
      · exact .inr z
      · exact .inl (.inr (.inr z))
  · cases h
def setS (i : Nat) (f : En → R En (T × En)) : En → R En (Fl × En) := fun env => bnd (f env) fun a => ofO (stS i a.1 a.2) fun e => .ok (.nx, e)
theorem set_end {D : Ends} {σ : St} {i : Nat} {t : T} {env : En} {F H : Hp} {fp ft : List Addr} {v : V} {G : Kt} (S : Sta G fx env F σ H fp) (o : Own G F H t v ft) (nd : (fp ++ ft).Nodup) (off : ∀ p ∈ ft, F p = none) (hi : ∀ q ∈ fx, q.1 ≠ i)
    (P : PSt G fx W D F H (fp ++ ft) (ofO (stS i t env) fun e => .ok (.nx, e))) : D.nx (σ.set i (some v)) H := by
  cases e : stS i t env with
  | none => rw [e] at P; exact P.elim
  | some env' =>
    rw [e] at P
    obtain ⟨fp', S', sub⟩ := S.store o nd off hi e
    exact P _ F H fp' S' (Go.refl.less sub)
theorem vs_set {i : Nat} {x : Str} {e : Expr} {f : En → R En (T × En)} {pos' : Pos} (hN : X.N.Nodup) (hi : X.N[i]? = some x) (hx : Loc X.env.scope x) (hf : X.fn x = true ∨ X.env.scope.names.lookup x = some .local) (hq : ∀ q ∈ fx, q.1 ≠ i) (he : VE X fx W e f)
    (hs : swapsWith e (some (.Name x pos')) pos.line X.env = pure false := by rfl) : VS1 X fx W (.Assign [.Name x pos'] e pos) (setS i f) := PS.imp (ps_set hN hi hx he hs hf) fun D σ H h =>
  tV_S (k := fun t e => ofO (stS i t e) fun e => .ok (.nx, e)) (fun t env F H fp v ft S o nd off P => set_end S o nd off hq P) h
/-- x op= e, x a name of shared data -/
def augS (i : Nat) (g : T → T → Option T) (f : En → R En (T × En)) : En → R En (Fl × En) := fun env => match env[i]? with
  | some (some (.s d)) => bnd (f env) fun a => ofO (g (.s d) a.1) fun t => ofO (stS i t a.2) fun e => .ok (.nx, e)
  | _ => .no
theorem vs_aug {i : Nat} {x : Str} {e : Expr} {op : Operator} {r : R2} {g : T → T → Option T} {f : En → R En (T × En)} {pos' : Pos} (hN : X.N.Nodup) (hi : X.N[i]? = some x) (hx : Loc X.env.scope x) (hf : X.fn x = true ∨ X.env.scope.names.lookup x = some .local) (hq : ∀ q ∈ fx, q.1 ≠ i)
    (ho : OpR X (inplaceOp op) r) (p : Prim2 (kt X) r g) (he : VE X fx W e f) : VS1 X fx W (.AugAssign (.Name x pos') op e pos) (augS i g f) := PS.imp (ps_aug hN hi hx he (fun pins s σ H x y v u Q I r1 r2 h => ho pins s σ H x y v u Q I r1 r2 h) hf) fun D σ H h => by
  obtain ⟨env, F, fp, S, P⟩ := h
  unfold augS at P
  split at P
  · rename_i d ed
    obtain ⟨a, b, c, s, _, hs, o, _⟩ := S.own.split ed
    obtain ⟨v, rfl, o⟩ := o
    simp only [Own] at o
    refine ⟨v, hs, ?_⟩
    refine ⟨env, F, fp, S, ?_⟩
    cases ea : f env with
    | no => rw [ea] at P; exact P
    | ex c fs e => rw [ea] at P; exact fun cls d F' H' fp' S' x g => P cls d σ F' H' fp' S' x g
    | ok a =>
      obtain ⟨t, e⟩ := a
      rw [ea] at P
      intro u F1 H1 fp1 ft S1 o1 nd off g1
      refine p (.s d) t v u F1 H1 _ S1.sub (by simp only [Bor]; exact o.1.mono g1.f) o1.bor ?_
      cases eg : g (.s d) t with
      | none => simp only [bnd, eg, ofO] at P; exact P.elim
      | some t' =>
        simp only [bnd, eg, ofO] at P
        intro z F2 H2 ft2 g2 o2 nd2 off2
        refine set_end (W := W) (fp := fp1) (ft := ft2) (t := t') (S1.grow g2) o2 ?_ (fun p hp => (off2 p hp).1) hq (P.go (g1.trans (((g2.goNew fp1 ft2 fun p hp => (off2 p hp).2)).more fun p hp => List.mem_append_left _ hp)))
        refine List.nodup_append.mpr ⟨S1.nd, nd2, fun a ha b hb e => ?_⟩
        subst e
        exact S1.is ha (off2 a hb).2
  · exact P.elim

/-! ### targets of shared values -/
abbrev GTg := T → En → Option En
def tG (G : Kt) (fx : Fx) (sl : List Nat) (g : GTg) : TG := fun v σ H Q => ∃ t env env' F fp ft, Sta G fx env F σ H fp ∧ Own G F H t v ft ∧ (fp ++ ft).Nodup ∧ (∀ p ∈ ft, F p = none) ∧ g t env = some env' ∧
  ∀ (σ' : L2.St) fp', Sta G fx env' F σ' H fp' → (∀ p ∈ fp', p ∈ fp ++ ft) → (∀ j : Nat, j ∉ sl → σ'[j]? = σ[j]?) → σ'.length = σ.length → Q σ' H
abbrev VG (X : Cx) (fx : Fx) (tg : Expr) (sl : List Nat) (g : GTg) : Prop := PG X tg (tG (kt X) fx sl g)
theorem PG.imp {e : Expr} {t t' : TG} (h : PG X e t) (k : ∀ v σ H Q, t' v σ H Q → t v σ H Q) : PG X e t' := ⟨fun pins s σ H v u Q I r q => h.run pins s σ H v u Q I r (k v σ H Q q)⟩
theorem vg_name {i : Nat} {x : Str} (hN : X.N.Nodup) (hi : X.N[i]? = some x) (hx : Loc X.env.scope x) (hf : X.fn x = true ∨ X.env.scope.names.lookup x = some .local) (hq : ∀ q ∈ fx, q.1 ≠ i) : VG X fx (.Name x pos) [i] (stS i) := PG.imp (pg_name hN hi hx hf) fun v σ H Q h => by
  obtain ⟨t, env, env', F, fp, ft, S, o, nd, off, e, q⟩ := h
  obtain ⟨fp', S', sub⟩ := S.store o nd off hq e
  exact q _ fp' S' sub (fun j hj => List.getElem?_set_ne fun e => hj (by simp [e])) (by simp)
/-- several targets, from the items of a tuple -/
abbrev GTs := List D → En → Option En
def gnil : GTs := fun ds env => match ds with
  | [] => some env
  | _ => none
def gcons (g : GTg) (gs : GTs) : GTs := fun ds env => match ds with
  | d :: ds => (g (.s d) env).bind (gs ds)
  | [] => none
def tGs' (G : Kt) (fx : Fx) (sl : List Nat) (g : GTs) : TGs := fun vs σ H Q => ∃ ds env env' F fp, Sta G fx env F σ H fp ∧ Reps G F ds vs ∧ g ds env = some env' ∧
  ∀ (σ' : L2.St) fp', Sta G fx env' F σ' H fp' → (∀ p ∈ fp', p ∈ fp) → (∀ j : Nat, j ∉ sl → σ'[j]? = σ[j]?) → σ'.length = σ.length → Q σ' H
abbrev VGs (X : Cx) (fx : Fx) (tg : List Expr) (sl : List Nat) (g : GTs) : Prop := PGs X tg (tGs' (kt X) fx sl g)
theorem PGs.imp {e : List Expr} {t t' : TGs} (h : PGs X e t) (k : ∀ v σ H Q, t' v σ H Q → t v σ H Q) : PGs X e t' := ⟨fun pins s σ H v u Q I r q => h.run pins s σ H v u Q I r (k v σ H Q q)⟩
theorem vgs_nil : VGs X fx [] [] gnil := PGs.imp pgs_nil fun vs σ H Q h => by
  obtain ⟨ds, env, env', F, fp, S, r, e, q⟩ := h
  cases ds with
  | nil =>
    cases e
    simp only [Reps] at r
    exact ⟨r, q σ fp S (fun _ h => h) (fun _ _ => rfl) rfl⟩
  | cons _ _ => cases e
theorem vgs_cons {e : Expr} {es : List Expr} {s1 s2 : List Nat} {g : GTg} {gs : GTs} (h1 : VG X fx e s1 g) (h2 : VGs X fx es s2 gs) (hs : (assignEach (e :: es) X.env).map (·.2) = assign e X.env :: (assignEach es X.env).map (·.2) := by rfl) : VGs X fx (e :: es) (s1 ++ s2) (gcons g gs) := PGs.imp (pgs_cons h1 h2 hs) fun vs σ H Q h => by
  obtain ⟨ds, env, env', F, fp, S, r, e, q⟩ := h
  cases ds with
  | nil => cases e
  | cons d ds =>
    simp only [Reps] at r
    obtain ⟨v, rest, rfl, r1, r2⟩ := r
    simp only [gcons, Option.bind_eq_some_iff] at e
    obtain ⟨e1, h1, h2⟩ := e
    refine ⟨v, rest, rfl, .s d, env, e1, F, fp, [], S, ⟨r1, rfl⟩, by simpa using S.nd, by simp, h1, fun σ' fp' S' sub k1 l1 => ?_⟩
    exact ⟨ds, e1, env', F, fp', S', r2, h2, fun σ2 fp2 S2 sub2 k2 l2 => q σ2 fp2 S2 (fun p hp => by simpa using sub p (sub2 p hp)) (fun j hj => (k2 j fun z => hj (List.mem_append_right _ z)).trans (k1 j fun z => hj (List.mem_append_left _ z))) (l2.trans l1)⟩
def gtup (n : Nat) (g : GTs) : GTg := fun t env => match t with
  | .s (.tup ds) => if ds.length = n then g ds env else none
  | _ => none
theorem vg_tup {es : List Expr} {k : Nat} {sl : List Nat} {g : GTs} {n : Nat} (hc : X.calm = true) (h : VGs X fx es sl g)
    (hn : (assignEach es X.env).length = n := by rfl) (hst : (assignEach es X.env).findIdx? (·.1) = none := by rfl) : VG X fx (.Tuple es k pos) sl (gtup n g) := PG.imp (pg_tup hc h hn hst) fun v σ H Q h => by
  obtain ⟨t, env, env', F, fp, ft, S, o, nd, off, e, q⟩ := h
  unfold gtup at e
  split at e
  · rename_i ds
    split at e
    · rename_i hl
      have b := o.bor
      obtain ⟨a, vs, rfl, h1, r⟩ := tp_rep S.sub b rfl
      exact ⟨a, vs, rfl, h1.sq, by rw [r.len]; exact hl, ds, env, env', F, fp, S, r, e, fun σ' fp' S' sub k l => q σ' fp' S' (fun p hp => List.mem_append_left _ (sub p hp)) k l⟩
    · cases e
  · cases e
/-- target = value -/
def asgS (g : GTg) (f : En → R En (T × En)) : En → R En (Fl × En) := fun env => bnd (f env) fun a => ofO (g a.1 a.2) fun e => .ok (.nx, e)
theorem vs_asg {tg e : Expr} {f : En → R En (T × En)} {sl : List Nat} {g : GTg} (he : VE X fx W e f) (hg : VG X fx tg sl g) (hs : swapsWithSole [tg] e pos.line X.env = pure false := by rfl) (hw : swappedStores [tg] e X.env = pure none := by rfl)
    (h1 : (assignEach [tg] X.env).map (·.2) = [assign tg X.env] := by rfl) : VS1 X fx W (.Assign [tg] e pos) (asgS g f) := PS.imp (ps_asg he hg hs hw h1) fun D σ H h =>
  tV_S (k := fun t e => ofO (g t e) fun e => .ok (.nx, e)) (fun t env F H fp v ft S o nd off P => by
    cases e : g t env with
    | none => rw [e] at P; exact P.elim
    | some env' =>
      rw [e] at P
      exact ⟨t, env, env', F, fp, ft, S, o, nd, off, e, fun σ' fp' S' sub _ _ => P σ' F H fp' S' (Go.refl.less sub)⟩) h
end
end VS
namespace VS
open PySem PySem.Spec L2
open PyProof.Rows hiding St

/-! ### owned, from now on shared -/
mutual
theorem Own.fz {G : Kt} {F F' H : Hp} (s : Same F F') : ∀ (t : T) (v : V) (fp : List Addr), (∀ p ∈ fp, F' p = H p) → Own G F H t v fp → Rep G F' (er t) v
  | .s d, v, fp, k, h => by
    simp only [Own, er] at h ⊢
    exact h.1.mono s
  | .l xs, v, fp, k, h => by
    simp only [Own, er, Rep] at h ⊢
    obtain ⟨p, vs, f1, e, q, r, rfl⟩ := h
    exact ⟨p, vs, e, by rw [k p List.mem_cons_self]; exact q, Owns.fz s xs vs f1 (fun p hp => k p (List.mem_cons_of_mem _ hp)) r⟩
  | .dk xs, v, fp, k, h => by
    simp only [Own, er, Rep] at h ⊢
    obtain ⟨p, vs, f1, e, q, r, rfl⟩ := h
    exact ⟨p, vs, e, by rw [k p List.mem_cons_self]; exact q, OwnK.fz s xs vs f1 (fun p hp => k p (List.mem_cons_of_mem _ hp)) r⟩
  | .ob c fs, v, fp, k, h => by
    simp only [Own, er, Rep] at h ⊢
    obtain ⟨p, C, dx, vs, f1, e, g, q, q', r, rfl⟩ := h
    exact ⟨p, C, dx, vs, e, g, by rw [k p List.mem_cons_self]; exact q, by rw [k dx (List.mem_cons_of_mem _ List.mem_cons_self)]; exact q', OwnF.fz s fs vs f1 (fun p hp => k p (List.mem_cons_of_mem _ (List.mem_cons_of_mem _ hp))) r⟩
  | .p xs, v, fp, k, h => by
    simp only [Own, er, Rep] at h ⊢
    obtain ⟨p, vs, f1, e, q, r, rfl⟩ := h
    exact ⟨p, vs, e, .inl (by rw [k p List.mem_cons_self]; exact q), Owns.fz s xs vs f1 (fun p hp => k p (List.mem_cons_of_mem _ hp)) r⟩
theorem Owns.fz {G : Kt} {F F' H : Hp} (s : Same F F') : ∀ (t : List T) (v : List V) (fp : List Addr), (∀ p ∈ fp, F' p = H p) → Owns G F H t v fp → Reps G F' (ers t) v
  | [], v, fp, k, h => by
    simp only [Owns, ers, Reps] at h ⊢
    exact h.1
  | t :: ts, vs, fp, k, h => by
    simp only [Owns, ers, Reps] at h ⊢
    obtain ⟨v, r, f1, f2, e, h1, h2, rfl⟩ := h
    exact ⟨v, r, e, Own.fz s t v f1 (fun p hp => k p (List.mem_append_left _ hp)) h1, Owns.fz s ts r f2 (fun p hp => k p (List.mem_append_right _ hp)) h2⟩
theorem OwnK.fz {G : Kt} {F F' H : Hp} (s : Same F F') : ∀ (t : List (Key × T)) (v : List (Key × V)) (fp : List Addr), (∀ p ∈ fp, F' p = H p) → OwnK G F H t v fp → RepK G F' (erK t) v
  | [], v, fp, k, h => by
    simp only [OwnK, erK, RepK] at h ⊢
    exact h.1
  | (x, t) :: ts, vs, fp, k, h => by
    simp only [OwnK, erK, RepK] at h ⊢
    obtain ⟨v, r, f1, f2, e, h1, h2, rfl⟩ := h
    exact ⟨v, r, e, Own.fz s t v f1 (fun p hp => k p (List.mem_append_left _ hp)) h1, OwnK.fz s ts r f2 (fun p hp => k p (List.mem_append_right _ hp)) h2⟩
theorem OwnF.fz {G : Kt} {F F' H : Hp} (s : Same F F') : ∀ (t : List (Str × T)) (v : List (Str × V)) (fp : List Addr), (∀ p ∈ fp, F' p = H p) → OwnF G F H t v fp → RepF G F' (erF t) v
  | [], v, fp, k, h => by
    simp only [OwnF, erF, RepF] at h ⊢
    exact h.1
  | (x, t) :: ts, vs, fp, k, h => by
    simp only [OwnF, erF, RepF] at h ⊢
    obtain ⟨v, r, f1, f2, e, h1, h2, rfl⟩ := h
    exact ⟨v, r, e, Own.fz s t v f1 (fun p hp => k p (List.mem_append_left _ hp)) h1, OwnF.fz s ts r f2 (fun p hp => k p (List.mem_append_right _ hp)) h2⟩
end
open Classical in
/-- the shared part, grown by fp -/
noncomputable def plus (F H : Hp) (fp : List Addr) : Hp := fun p => if p ∈ fp then H p else F p
theorem plus_in {F H : Hp} {fp : List Addr} {p : Addr} (h : p ∈ fp) : plus F H fp p = H p := by unfold plus; rw [if_pos h]
theorem plus_out {F H : Hp} {fp : List Addr} {p : Addr} (h : p ∉ fp) : plus F H fp p = F p := by unfold plus; rw [if_neg h]
theorem plus_same {F H : Hp} {fp : List Addr} (off : ∀ p ∈ fp, F p = none) : Same F (plus F H fp) := fun b o e => by
  by_cases hb : b ∈ fp
  · rw [off b hb] at e; cases e
  · rw [plus_out hb]; exact e
theorem plus_sub {F H : Hp} {fp : List Addr} (s : Same F H) : Same (plus F H fp) H := fun b o e => by
  by_cases hb : b ∈ fp
  · rw [plus_in hb] at e; exact e
  · rw [plus_out hb] at e; exact s _ _ e
theorem plus_go {F H : Hp} {fp ft fq : List Addr} (off : ∀ p ∈ ft, F p = none) (h1 : ∀ p ∈ ft, p ∈ fp) (h2 : ∀ p ∈ fq, p ∈ fp) : Go F H fp (plus F H ft) H fq :=
  ⟨plus_same off, fun p o e => by
    by_cases hb : p ∈ ft
    · exact .inr (.inr (h1 p hb))
    · rw [plus_out hb] at e; exact .inl e, fun _ _ e _ => e, fun p hp => .inl (h2 p hp)⟩
def frz (i : Nat) (env : En) : En := match env[i]? with
  | some (some t) => env.set i (some (.s (er t)))
  | _ => env
section
variable {G : Kt} {fx : Fx} {W : L2.WX}
theorem Sta.frz {i : Nat} {env : En} {F H : Hp} {σ : St} {fp : List Addr} (S : Sta G fx env F σ H fp) : ∃ F' fp', Sta G fx (frz i env) F' σ H fp' ∧ Go F H fp F' H fp' := by
  unfold VS.frz
  split
  · rename_i t e
    obtain ⟨a, b, c, s, rfl, hs, o, k⟩ := S.own.split e
    obtain ⟨v, rfl, o⟩ := o
    have off : ∀ p ∈ b, F p = none := fun p hp => S.off p (by simp [hp])
    have nd := S.nd
    have nd' : (b ++ (a ++ c)).Nodup := by
      have h1 : (a ++ (b ++ c)).Perm (b ++ (a ++ c)) := by
        have e1 := (List.perm_append_comm (l₁ := a) (l₂ := b)).append_right c
        simpa only [List.append_assoc] using e1
      exact h1.nodup_iff.mp nd
    have k' := k (plus F H b) H (some (.s (er t))) (some v) [] (plus_same off) (fun _ _ _ e => e) ⟨v, rfl, Own.fz (plus_same off) t v b (fun p hp => plus_in hp) o, rfl⟩
    rw [set_self hs, List.nil_append] at k'
    refine ⟨plus F H b, a ++ c, ⟨k', (List.nodup_append.mp nd').2.1, fun p hp => ?_, plus_sub S.sub, S.fix, fun q h => (S.pin q h).mono (plus_same off)⟩, plus_go off (fun p hp => by simp [hp]) fun p hp => ?_⟩
    · rw [plus_out fun z => (List.nodup_append.mp nd').2.2 p z p hp rfl]
      refine S.off p ?_
      simp only [List.mem_append] at hp ⊢
      rcases hp with z | z
      · exact .inl z
      · exact .inr (.inr z)
    · simp only [List.mem_append] at hp ⊢
      rcases hp with z | z
      · exact .inl z
      · exact .inr (.inr z)
  · exact ⟨F, fp, S, .refl⟩
end
def fzE (f : En → R En (T × En)) : En → R En (T × En) := fun env => bnd (f env) fun a => .ok (.s (er a.1), a.2)
section
variable {X : Cx} {fx : Fx} {W : L2.WX} {pos : Pos}
theorem ve_frz {e : Expr} {f : En → R En (T × En)} (h : VE X fx W e f) : VE X fx W e (fzE f) := PE.imp h fun σ H Q q =>
  tV_one (k := fun t e => .ok (.s (er t), e)) (fun t env F H fp v ft S o nd off P => by
    have k1 : ∀ p ∈ fp, p ∉ ft := fun p hp hq => (List.nodup_append.mp nd).2.2 p hp p hq rfl
    refine P v (plus F H ft) H fp [] ⟨OwnE.mono (plus_same off) _ _ _ (fun _ _ _ e => e) S.own, S.nd, fun p hp => by rw [plus_out (k1 p hp)]; exact S.off p hp, plus_sub S.sub, S.fix, fun q h => (S.pin q h).mono (plus_same off)⟩
      ⟨Own.fz (plus_same off) t v ft (fun p hp => plus_in hp) o, rfl⟩ (by simpa using S.nd) (by simp) ?_
    rw [List.append_nil]
    exact plus_go off (fun p hp => List.mem_append_right _ hp) fun p hp => List.mem_append_left _ hp) q
theorem vss_frz (i : Nat) {st : List Stmt} {f : En → R En (Fl × En)} (h : VSs X fx W st f) : VSs X fx W st (fun env => f (frz i env)) := PSs.imp h fun D σ H q => by
  obtain ⟨env, F, fp, S, P⟩ := q
  obtain ⟨F', fp', S', g⟩ := S.frz (i := i)
  exact ⟨_, F', fp', S', PSt.go P g⟩
theorem vs_frz (i : Nat) {st : Stmt} {f : En → R En (Fl × En)} (h : VS1 X fx W st f) : VS1 X fx W st (fun env => f (frz i env)) := PS.imp h fun D σ H q => by
  obtain ⟨env, F, fp, S, P⟩ := q
  obtain ⟨F', fp', S', g⟩ := S.frz (i := i)
  exact ⟨_, F', fp', S', PSt.go P g⟩

/-! ### what is walked -/
def ItOk (G : Kt) (J : It) (ds : List D) (F0 H0 : Hp) (fp0 : List Addr) : Prop := ∀ F2 H2 fp2, Go F0 H0 fp0 F2 H2 fp2 → Same F2 H2 → ∀ i,
  (∀ d, ds[i]? = some d → J.go i H2 ∧ ∀ x H3, J.yld i H2 x H3 → ∃ F3, Grow F2 H2 F3 H3 ∧ Rep G F3 d x) ∧ (ds.length ≤ i → J.stop i H2)
def PIt (G : Kt) (fx : Fx) (W : L2.WX) (σ : St) (R' : It → Hp → Prop) (F H : Hp) (fp : List Addr) : R En (List D × En) → Prop
  | .ok (ds, e) => ∀ J F' H' fp', Sta G fx e F' σ H' fp' → Go F H fp F' H' fp' → ItOk G J ds F' H' fp' → R' J H'
  | .ex c fs e => ∀ cls d F' H' fp', Sta G fx e F' σ H' fp' → ExR G F' H' c fs cls d → Go F H fp F' H' fp' → W cls d σ H'
  | .no => False
def tI (G : Kt) (fx : Fx) (W : L2.WX) (f : En → R En (List D × En)) : TI := fun σ H R' => ∃ env F fp, Sta G fx env F σ H fp ∧ PIt G fx W σ R' F H fp (f env)
abbrev VI (X : Cx) (fx : Fx) (W : L2.WX) (tg it : Expr) (f : En → R En (List D × En)) : Prop := PI X tg it (tI (kt X) fx W f)
theorem PI.imp {tg it : Expr} {t t' : TI} (h : PI X tg it t) (k : ∀ σ H R', t' σ H R' → t σ H R') : PI X tg it t' := ⟨fun pins s σ H Q I q => h.run pins s σ H Q I (k σ H Q q)⟩
theorem piOr {tg it : Expr} {t t' : TI} (h : PI X tg it t) (h' : PI X tg it t') : PI X tg it (fun σ H R' => t σ H R' ∨ t' σ H R') := ⟨fun pins s σ H Q I q => q.elim (h.run pins s σ H Q I) (h'.run pins s σ H Q I)⟩
theorem tV_I {G : Kt} {R' : It → Hp → Prop} {σ : St} {H : Hp} {f : En → R En (T × En)} {k : T → En → R En (List D × En)} {K : V → Hp → Prop} {env : En} {F : Hp} {fp : List Addr} (S : Sta G fx env F σ H fp)
    (hk : ∀ t e, f env = .ok (t, e) → ∀ F H fp v ft, Sta G fx e F σ H fp → Own G F H t v ft → (fp ++ ft).Nodup → (∀ p ∈ ft, F p = none) → PIt G fx W σ R' F H (fp ++ ft) (k t e) → K v H)
    (P : PIt G fx W σ R' F H fp (bnd (f env) fun a => k a.1 a.2)) : tV G fx W f σ H K := by
  refine ⟨env, F, fp, S, ?_⟩
  cases ea : f env with
  | no => rw [ea] at P; exact P
  | ex c fs e => rw [ea] at P; exact P
  | ok a =>
    obtain ⟨t, e⟩ := a
    rw [ea] at P
    intro v F' H' fp' ft S' o nd off g
    refine hk t e ea F' H' fp' v ft S' o nd off ?_
    show PIt G fx W σ R' F' H' (fp' ++ ft) (k t e)
    have P' : PIt G fx W σ R' F H fp (k t e) := P
    cases ek : k t e with
    | no => rw [ek] at P'; exact P'
    | ex c fs e2 =>
      rw [ek] at P'
      exact fun cls d F2 H2 fp2 S2 x g2 => P' cls d F2 H2 fp2 S2 x (g.trans g2)
    | ok b =>
      obtain ⟨ds, e2⟩ := b
      rw [ek] at P'
      exact fun J F2 H2 fp2 S2 g2 io => P' J F2 H2 fp2 S2 (g.trans g2) io
/-- the items of a list, a tuple, a text -/
def T.its : T → Option (List D)
  | .s (.tup ds) => some ds
  | .s (.str z) => some (z.cps.toList.map fun c => .str ⟨#[c]⟩)
  | t => t.ls
def itS (f : En → R En (T × En)) : En → R En (List D × En) := fun env => bnd (f env) fun a => ofO a.1.its fun ds => .ok (ds, a.2)
theorem itok_list {G : Kt} {F0 H0 : Hp} {fp0 : List Addr} {a : Addr} {vs : List V} {ds : List D} (h : H0 a = some (.lst vs)) (n : a ∉ fp0) (r : Reps G F0 ds vs) : ItOk G (Itl G.K a) ds F0 H0 fp0 := by
  intro F2 H2 fp2 g s i
  have ha : SqL G.K H2 a vs := .of (g.h a _ h n)
  have uniq : ∀ xs, SqL G.K H2 a xs → xs[i]? = vs[i]? → True := fun _ _ _ => trivial
  refine ⟨fun d hd => ?_, fun hn => ⟨vs, ha, by rw [r.len]; exact hn⟩⟩
  obtain ⟨v, hv, rv⟩ := r.get hd
  refine ⟨⟨vs, v, ha, hv⟩, fun x H3 y => ?_⟩
  obtain ⟨rfl, y⟩ := y
  have e := y vs ha
  rw [hv] at e
  cases e
  exact ⟨F2, .refl s, rv.mono g.f⟩
theorem itok_tup {G : Kt} {F0 H0 : Hp} {fp0 : List Addr} {a : Addr} {vs : List V} {ds : List D} (h : RT G.K F0 a vs) (r : Reps G F0 ds vs) : ItOk G (Itt G.K a) ds F0 H0 fp0 := by
  intro F2 H2 fp2 g s i
  have ha : SqT G.K H2 a vs := (h.mono (g.f.trans s)).sq
  refine ⟨fun d hd => ?_, fun hn => ⟨vs, ha, by rw [r.len]; exact hn⟩⟩
  obtain ⟨v, hv, rv⟩ := r.get hd
  refine ⟨⟨vs, v, ha, hv⟩, fun x H3 y => ?_⟩
  obtain ⟨rfl, y⟩ := y
  have e := y vs ha
  rw [hv] at e
  cases e
  exact ⟨F2, .refl s, rv.mono g.f⟩
theorem itok_str {G : Kt} {F0 H0 : Hp} {fp0 : List Addr} {z : Str} : ItOk G (Its z) (z.cps.toList.map fun c => .str ⟨#[c]⟩) F0 H0 fp0 := by
  intro F2 H2 fp2 g s i
  refine ⟨fun d hd => ?_, fun hn => ?_⟩
  · rw [List.getElem?_map] at hd
    cases e : z.cps.toList[i]? with
    | none => rw [e] at hd; cases hd
    | some c =>
      rw [e] at hd
      cases hd
      have e' : z.cps[i]? = some c := by simpa using e
      refine ⟨(Array.getElem?_eq_some_iff.mp e').1, fun x H3 y => ?_⟩
      obtain ⟨rfl, c', ec, rfl⟩ := y
      rw [e'] at ec
      cases ec
      exact ⟨F2, .refl s, by simp only [Rep]⟩
  · have hn' : z.cps.size ≤ i := by simpa using hn
    exact hn'
theorem vi_seq {tg e : Expr} {f : En → R En (T × En)} (he : VE X fx W e f) : VI X fx W tg e (itS f) := PI.imp (piOr (pi_list he) (piOr (pi_tup he) (pi_str he))) fun σ H R' h => by
  obtain ⟨env, F, fp, S, P⟩ := h
  unfold itS at P
  cases ea : f env with
  | no => rw [ea] at P; exact P.elim
  | ex c fs e =>
    rw [ea] at P
    exact .inl ⟨env, F, fp, S, by rw [ea]; exact P⟩
  | ok a =>
    obtain ⟨t, e⟩ := a
    have P0 := P
    rw [ea] at P0
    have key : (t.ls ≠ none) ∨ (∃ ds, t = .s (.tup ds)) ∨ (∃ z, t = .s (.str z)) := by
      cases et : t.its with
      | none => simp only [bnd, et, ofO] at P0; exact P0.elim
      | some ds =>
        unfold T.its at et
        split at et
        · exact .inr (.inl ⟨_, rfl⟩)
        · exact .inr (.inr ⟨_, rfl⟩)
        · exact .inl (by rw [et]; simp)
    rcases key with hl | ⟨ds, rfl⟩ | ⟨z, rfl⟩
    · refine .inl (tV_I (k := fun t e => ofO t.its fun ds => .ok (ds, e)) S (fun t' e' ee F1 H1 fp1 v ft S1 o nd off P1 => ?_) P)
      rw [ea] at ee
      cases ee
      have ei : t.its = t.ls := by
        unfold T.its
        split
        · exact absurd rfl hl
        · exact absurd rfl hl
        · rfl
      cases el : t.ls with
      | none => exact absurd el hl
      | some ds =>
        rw [ei, el] at P1
        obtain ⟨a, vs, rfl, h1, r⟩ := ls_rep S1.sub o.bor el
        refine ⟨a, rfl, ⟨vs, .of h1⟩, P1 _ F1 H1 fp1 S1 (Go.refl.less fun p hp => List.mem_append_left _ hp) (itok_list h1 (fun hm => ?_) r)⟩
        cases t with
        | s d =>
          cases d with
          | lst xs =>
            simp only [Own, Rep] at o
            obtain ⟨⟨a', vs', e', ha', _⟩, _⟩ := o
            cases e'
            rw [S1.off _ hm] at ha'; cases ha'
          | _ => cases el
        | l ts =>
          simp only [Own] at o
          obtain ⟨p', vs', f1, e', ha', _, rfl⟩ := o
          cases e'
          exact (List.nodup_append.mp nd).2.2 _ hm _ List.mem_cons_self rfl
        | dk _ => cases el
        | ob _ _ => cases el
        | p _ => cases el
    · refine .inr (.inl (tV_I (k := fun t e => ofO t.its fun ds => .ok (ds, e)) S (fun t' e' ee F1 H1 fp1 v ft S1 o nd off P1 => ?_) P))
      rw [ea] at ee
      cases ee
      simp only [Own, Rep] at o
      obtain ⟨⟨a, vs, rfl, h1, r⟩, rfl⟩ := o
      rw [List.append_nil] at P1
      exact ⟨a, rfl, ⟨vs, (h1.mono S1.sub).sq⟩, P1 _ F1 H1 fp1 S1 .refl (itok_tup h1 r)⟩
    · refine .inr (.inr (tV_I (k := fun t e => ofO t.its fun ds => .ok (ds, e)) S (fun t' e' ee F1 H1 fp1 v ft S1 o nd off P1 => ?_) P))
      rw [ea] at ee
      cases ee
      simp only [Own, Rep] at o
      obtain ⟨rfl, rfl⟩ := o
      rw [List.append_nil] at P1
      exact ⟨z, rfl, P1 _ F1 H1 fp1 S1 .refl itok_str⟩
/-- range -/
def rgD (lo hi : Int) : List D := (List.range (hi - lo).toNat).map fun i : Nat => .int (lo + (i : Int))
theorem itok_rng {G : Kt} {F0 H0 : Hp} {fp0 : List Addr} {lo : Int} {n : Nat} : ItOk G (Itr lo n) ((List.range n).map fun i : Nat => .int (lo + (i : Int))) F0 H0 fp0 := by
  intro F2 H2 fp2 g s i
  refine ⟨fun d hd => ?_, fun hn => ?_⟩
  · rw [List.getElem?_map] at hd
    by_cases hi : i < n
    · rw [List.getElem?_range hi] at hd
      cases hd
      refine ⟨hi, fun x H3 y => ?_⟩
      obtain ⟨rfl, rfl⟩ := y
      exact ⟨F2, .refl s, by simp only [Rep]⟩
    · rw [List.getElem?_eq_none (by simpa using hi)] at hd; cases hd
  · have hn' : n ≤ i := by simpa using hn
    exact hn'
theorem tVs_I {G : Kt} {R' : It → Hp → Prop} {σ : St} {H : Hp} {f : En → R En (List T × En)} {k : List T → En → R En (List D × En)} {K : List V → Hp → Prop}
    (hk : ∀ t e F H fp v ft, Sta G fx e F σ H fp → Owns G F H t v ft → (fp ++ ft).Nodup → (∀ p ∈ ft, F p = none) → PIt G fx W σ R' F H (fp ++ ft) (k t e) → K v H)
    (h : tI G fx W (fun env => bnd (f env) fun a => k a.1 a.2) σ H R') : tVs G fx W f σ H K := by
  obtain ⟨env, F, fp, S, P⟩ := h
  dsimp only at P
  refine ⟨env, F, fp, S, ?_⟩
  cases ea : f env with
  | no => rw [ea] at P; exact P
  | ex c fs e => rw [ea] at P; exact P
  | ok a =>
    obtain ⟨t, e⟩ := a
    rw [ea] at P
    intro v F' H' fp' ft S' o nd off g
    refine hk t e F' H' fp' v ft S' o nd off ?_
    have P' : PIt G fx W σ R' F H fp (k t e) := P
    cases ek : k t e with
    | no => rw [ek] at P'; exact P'
    | ex c fs e2 =>
      rw [ek] at P'
      exact fun cls d F2 H2 fp2 S2 x g2 => P' cls d F2 H2 fp2 S2 x (g.trans g2)
    | ok b =>
      obtain ⟨ds, e2⟩ := b
      rw [ek] at P'
      exact fun J F2 H2 fp2 S2 g2 io => P' J F2 H2 fp2 S2 (g.trans g2) io
def rgO1 : List T → Option (List D)
  | [.s (.int j)] => if -(2 ^ 62) ≤ j ∧ j < 2 ^ 62 then some (rgD 0 j) else none
  | _ => none
def rgO2 : List T → Option (List D)
  | [.s (.int i), .s (.int j)] => if -(2 ^ 62) ≤ i ∧ i < 2 ^ 62 ∧ -(2 ^ 62) ≤ j ∧ j < 2 ^ 62 then some (rgD i j) else none
  | _ => none
def itR (g : List T → Option (List D)) (f : En → R En (List T × En)) : En → R En (List D × En) := fun env => bnd (f env) fun a => ofO (g a.1) fun ds => .ok (ds, a.2)
theorem Owns.ints {G : Kt} {F H : Hp} {i : Int} {ts : List T} {vs : List V} {ft : List Addr} (h : Owns G F H (.s (.int i) :: ts) vs ft) : ∃ us, vs = .int i :: us ∧ Owns G F H ts us ft := by
  simp only [Owns, Own, Rep] at h
  obtain ⟨v, r, f1, f2, rfl, ⟨rfl, rfl⟩, h2, rfl⟩ := h
  exact ⟨r, rfl, h2⟩
theorem Owns.nil {G : Kt} {F H : Hp} {vs : List V} {ft : List Addr} (h : Owns G F H [] vs ft) : vs = [] ∧ ft = [] := h
theorem vi_range1 {tg a : Expr} {p : Pos} {f : En → R En (List T × En)} (hg : Gl X "range") (hm : X.mg "range" = none) (ha : VEs X fx W [a] f) (hs : starEach [a] X.env = [(false, eval a X.env)] := by rfl) : VI X fx W tg (.Call (.Name "range" p) [a] [] pos) (itR rgO1 f) :=
  PI.imp (pi_range1 hg hm ha hs) fun σ H R' h => tVs_I (k := fun ts e => ofO (rgO1 ts) fun ds => .ok (ds, e)) (fun ts e F H fp vs ft S o nd off P => by
    cases er : rgO1 ts with
    | none => rw [er] at P; exact P.elim
    | some ds =>
      rw [er] at P
      unfold rgO1 at er
      split at er
      · split at er
        · rename_i j hj
          cases er
          obtain ⟨us, rfl, o2⟩ := o.ints
          obtain ⟨rfl, rfl⟩ := o2.nil
          rw [List.append_nil] at P
          refine ⟨j, rfl, hj.1, hj.2, ?_⟩
          have := P (Itr 0 (j - 0).toNat) F H fp S .refl itok_rng
          rw [Int.sub_zero] at this
          exact this
        · cases er
      · cases er) h
theorem vi_range2 {tg a b : Expr} {p : Pos} {f : En → R En (List T × En)} (hg : Gl X "range") (hm : X.mg "range" = none) (ha : VEs X fx W [a, b] f) (hs : starEach [a, b] X.env = [(false, eval a X.env), (false, eval b X.env)] := by rfl)
    (hs2 : starEach [b] X.env = [(false, eval b X.env)] := by rfl) : VI X fx W tg (.Call (.Name "range" p) [a, b] [] pos) (itR rgO2 f) :=
  PI.imp (pi_range2 hg hm ha hs hs2) fun σ H R' h => tVs_I (k := fun ts e => ofO (rgO2 ts) fun ds => .ok (ds, e)) (fun ts e F H fp vs ft S o nd off P => by
    cases er : rgO2 ts with
    | none => rw [er] at P; exact P.elim
    | some ds =>
      rw [er] at P
      unfold rgO2 at er
      split at er
      · split at er
        · rename_i i j hj
          cases er
          obtain ⟨us, rfl, o2⟩ := o.ints
          obtain ⟨us2, rfl, o3⟩ := o2.ints
          obtain ⟨rfl, rfl⟩ := o3.nil
          rw [List.append_nil] at P
          exact ⟨i, j, rfl, hj, P (Itr i (j - i).toNat) F H fp S .refl itok_rng⟩
        · cases er
      · cases er) h
/-- enumerate of a list -/
def enD (ds : List D) : List D := (List.range ds.length).zipWith (fun (i : Nat) d => .tup [.int i, d]) ds
def itE (f : En → R En (List T × En)) : En → R En (List D × En) := fun env => bnd (f env) fun a => match a.1 with
  | [t] => ofO t.ls fun ds => .ok (enD ds, a.2)
  | _ => .no
theorem itok_enum {G : Kt} {F0 H0 : Hp} {fp0 : List Addr} {a : Addr} {vs : List V} {ds : List D} (h : H0 a = some (.lst vs)) (n : a ∉ fp0) (r : Reps G F0 ds vs) : ItOk G (Ite G.K a) (enD ds) F0 H0 fp0 := by
  intro F2 H2 fp2 g s i
  have ha : SqL G.K H2 a vs := .of (g.h a _ h n)
  refine ⟨fun d hd => ?_, fun hn => ⟨vs, ha, by rw [r.len]; simpa [enD] using hn⟩⟩
  unfold enD at hd
  rw [List.getElem?_zipWith] at hd
  cases e1 : (List.range ds.length)[i]? with
  | none => rw [e1] at hd; cases hd
  | some j =>
    cases e2 : ds[i]? with
    | none => rw [e1, e2] at hd; cases hd
    | some y =>
      rw [e1, e2] at hd
      cases hd
      have ej : j = i := by
        have := List.getElem?_eq_some_iff.mp e1
        obtain ⟨q, z⟩ := this
        rw [List.getElem_range] at z
        exact z.symm
      subst ej
      obtain ⟨v, hv, rv⟩ := r.get e2
      refine ⟨⟨vs, v, ha, hv⟩, fun x H3 y => ?_⟩
      obtain ⟨T', x', rfl, nT, rfl, f1⟩ := y
      have e := f1 vs ha
      rw [hv] at e
      cases e
      have gl := Grow.layF (o := .tup [.int (j : Nat), v]) s nT
      refine ⟨_, gl, ?_⟩
      simp only [Rep]
      exact ⟨T', _, rfl, .inl upd_same, by
        simp only [Reps, Rep]
        exact ⟨_, _, rfl, rfl, v, [], rfl, (rv.mono g.f).mono gl.f, rfl⟩⟩
theorem vi_enum {e : Expr} {p tpos : Pos} {elts : List Expr} {kk : Nat} {f : En → R En (List T × En)} (hg : Gl X "enumerate") (hm : X.mg "enumerate" = none) (ha : VEs X fx W [e] f) (hs : starEach [e] X.env = [(false, eval e X.env)] := by rfl) :
    VI X fx W (.Tuple elts kk tpos) (.Call (.Name "enumerate" p) [e] [] pos) (itE f) :=
  PI.imp (pi_enum hg hm ha hs) fun σ H R' h => tVs_I (k := fun ts e => match ts with
    | [t] => ofO t.ls fun ds => .ok (enD ds, e)
    | _ => .no) (fun ts e F H fp vs ft S o nd off P => by
    split at P
    · rename_i t
      cases el : t.ls with
      | none => rw [el] at P; exact P.elim
      | some ds =>
        rw [el] at P
        simp only [Owns] at o
        obtain ⟨v, r0, f1, f2, rfl, o, ⟨rfl, rfl⟩, rfl⟩ := o
        rw [List.append_nil] at nd P off
        obtain ⟨a, us, rfl, h1, r⟩ := ls_rep S.sub o.bor el
        refine ⟨a, us, rfl, .of h1, P _ F H fp S (Go.refl.less fun p hp => List.mem_append_left _ hp) (itok_enum h1 (fun hm => ?_) r)⟩
        cases t with
        | s d =>
          cases d with
          | lst xs =>
            simp only [Own, Rep] at o
            obtain ⟨⟨a', vs', e', ha', _⟩, _⟩ := o
            cases e'
            rw [S.off _ hm] at ha'; cases ha'
          | _ => cases el
        | l ts =>
          simp only [Own] at o
          obtain ⟨p', vs', f1, e', ha', _, rfl⟩ := o
          cases e'
          exact (List.nodup_append.mp nd).2.2 _ hm _ List.mem_cons_self rfl
        | dk _ => cases el
        | ob _ _ => cases el
        | p _ => cases el
    · exact P.elim) h

/-! ### for -/
def forL (g : GTg) (body : En → R En (Fl × En)) : List D → En → R En (Fl × En)
  | [], env => .ok (.nx, env)
  | d :: ds, env => match g (.s d) env with
    | none => .no
    | some e => bnd (body e) fun a => match a.1 with
      | .nx => forL g body ds a.2
      | .ct => forL g body ds a.2
      | .bk => .ok (.nx, a.2)
      | .rt t => .ok (.rt t, a.2)
def forS (f : En → R En (List D × En)) (g : GTg) (body : En → R En (Fl × En)) : En → R En (Fl × En) := fun env => bnd (f env) fun a => forL g body a.1 a.2
theorem vs_for {tg iter : Expr} {body : List Stmt} {f : En → R En (List D × En)} {sl : List Nat} {g : GTg} {b : En → R En (Fl × En)} (hp : PassesOwn (model X.prog X.w) X.A X.env X.xe) (hc : X.calm = true) (hi : VI X fx W tg iter f) (hg : VG X fx tg sl g) (hb : VSs X fx W body b)
    (hs : ∀ x, foldedSetIterable iter X.env x = pure x := by intro _; rfl) : VS1 X fx W (.For tg iter body [] pos) (forS f g b) := PS.imp (ps_for hp hc hi hg hb hs) fun D σ H h => by
  obtain ⟨env, F, fp, S, P⟩ := h
  unfold forS at P
  refine ⟨env, F, fp, S, ?_⟩
  cases ea : f env with
  | no => rw [ea] at P; exact P
  | ex c fs e => rw [ea] at P; exact fun cls d F' H' fp' S' x g => P cls d σ F' H' fp' S' x g
  | ok a =>
    obtain ⟨ds, e⟩ := a
    rw [ea] at P
    intro J F0 H0 fp0 S0 g0 io
    have P0 : PSt (kt X) fx W D F0 H0 fp0 (forL g b ds e) := PSt.go (r := forL g b ds e) P g0
    refine ⟨fun i m σ H => m = ds.length - i ∧ i ≤ ds.length ∧ ∃ env F fp, Sta (kt X) fx env F σ H fp ∧ Go F0 H0 fp0 F H fp ∧ PSt (kt X) fx W D F H fp (forL g b (ds.drop i) env), ⟨ds.length, by simp, Nat.zero_le _, e, F0, fp0, S0, .refl, by simpa using P0⟩, ?_⟩
    rintro i m σ H ⟨rfl, hi, env, F, fp, S, go, P⟩
    obtain ⟨io1, io2⟩ := io F H fp go S.sub i
    by_cases hlt : i < ds.length
    · refine .inr ?_
      have ed : ds[i]? = some ds[i] := List.getElem?_eq_getElem hlt
      obtain ⟨hgo, hy⟩ := io1 _ ed
      refine ⟨hgo, fun σ' H' => ∃ env F fp, Sta (kt X) fx env F σ' H' fp ∧ Go F0 H0 fp0 F H' fp ∧ PSt (kt X) fx W D F H' fp (forL g b (ds.drop (i + 1)) env), fun σ' H' h => ⟨ds.length - (i + 1), by omega, rfl, hlt, h⟩, fun x H' y => ?_⟩
      obtain ⟨F3, g3, r3⟩ := hy x H' y
      rw [List.drop_eq_getElem_cons hlt] at P
      unfold forL at P
      cases eg : g (.s ds[i]) env with
      | none => rw [eg] at P; exact P.elim
      | some env' =>
        rw [eg] at P
        have S3 := S.grow g3
        have go3 := go.trans (g3.go fp)
        have P3 := PSt.go P (g3.go fp)
        refine ⟨.s ds[i], env, env', F3, fp, [], S3, ⟨r3, rfl⟩, by simpa using S.nd, by simp, eg, fun σ2 fp2 S2 sub2 _ _ => ?_⟩
        have sub2' : ∀ p ∈ fp2, p ∈ fp := fun p hp => by simpa using sub2 p hp
        have go4 : Go F0 H0 fp0 F3 H' fp2 := go3.less sub2'
        have P4 := PSt.go P3 (Go.refl.less sub2')
        dsimp only at P4
        refine ⟨env', F3, fp2, S2, ?_⟩
        cases eb : b env' with
        | no => rw [eb] at P4; exact P4
        | ex c fs e => rw [eb] at P4; exact P4
        | ok a =>
          obtain ⟨fl, e'⟩ := a
          rw [eb] at P4
          cases fl with
          | nx => exact fun σ5 F5 H5 fp5 S5 g5 => ⟨e', F5, fp5, S5, go4.trans g5, PSt.go (r := forL g b (ds.drop (i + 1)) e') P4 g5⟩
          | ct => exact fun σ5 F5 H5 fp5 S5 g5 => ⟨e', F5, fp5, S5, go4.trans g5, PSt.go (r := forL g b (ds.drop (i + 1)) e') P4 g5⟩
          | bk => exact fun σ5 F5 H5 fp5 S5 g5 => P4 σ5 F5 H5 fp5 S5 g5
          | rt t => exact P4
    · have e : i = ds.length := by omega
      subst e
      rw [List.drop_length] at P
      exact .inl ⟨io2 (Nat.le_refl _), P σ F H fp S .refl⟩

/-! ### while -/
def whileL (c : En → R En (Bool × En)) (body : En → R En (Fl × En)) : Nat → En → R En (Fl × En)
  | 0, _ => .no
  | n + 1, env => bnd (c env) fun k => if k.1 then bnd (body k.2) fun a => match a.1 with
      | .nx => whileL c body n a.2
      | .ct => whileL c body n a.2
      | .bk => .ok (.nx, a.2)
      | .rt t => .ok (.rt t, a.2)
    else .ok (.nx, k.2)
def whileS (n : Nat) (c : En → R En (Bool × En)) (body : En → R En (Fl × En)) : En → R En (Fl × En) := whileL c body n
theorem vs_while (n : Nat) {c : Expr} {body : List Stmt} {t : En → R En (Bool × En)} {b : En → R En (Fl × En)} (hp : PassesOwn (model X.prog X.w) X.A X.env X.xe) (hc : VT X fx W c t) (hb : VSs X fx W body b) : VS1 X fx W (.While c body [] pos) (whileS n t b) := PS.imp (ps_while hp hc hb) fun D σ H h => by
  obtain ⟨env, F, fp, S, P⟩ := h
  refine ⟨fun m σ H => ∃ env F fp, Sta (kt X) fx env F σ H fp ∧ PSt (kt X) fx W D F H fp (whileL t b m env), ⟨n, env, F, fp, S, P⟩, ?_⟩
  rintro m σ H ⟨env, F, fp, S, P⟩
  cases m with
  | zero => exact P.elim
  | succ m =>
    unfold whileL at P
    refine ⟨env, F, fp, S, ?_⟩
    cases ea : t env with
    | no => rw [ea] at P; exact P
    | ex c fs e => rw [ea] at P; exact fun cls d F' H' fp' S' x g => P cls d σ F' H' fp' S' x g
    | ok a =>
      obtain ⟨k, e⟩ := a
      rw [ea] at P
      intro F' H' fp' S' g
      cases k with
      | false => exact iteF (P σ F' H' fp' S' g)
      | true =>
        refine iteT ⟨fun σ H => ∃ env F fp, Sta (kt X) fx env F σ H fp ∧ PSt (kt X) fx W D F H fp (whileL t b m env), fun σ' H' h => ⟨m, Nat.lt_succ_self m, h⟩, ?_⟩
        refine ⟨e, F', fp', S', ?_⟩
        simp only [bnd, if_true] at P
        have P := PSt.go P g
        cases eb : b e with
        | no => rw [eb] at P; exact P
        | ex c fs e => rw [eb] at P; exact P
        | ok a =>
          obtain ⟨fl, e'⟩ := a
          rw [eb] at P
          cases fl with
          | nx => exact fun σ5 F5 H5 fp5 S5 g5 => ⟨e', F5, fp5, S5, PSt.go (r := whileL t b m e') P g5⟩
          | ct => exact fun σ5 F5 H5 fp5 S5 g5 => ⟨e', F5, fp5, S5, PSt.go (r := whileL t b m e') P g5⟩
          | bk => exact fun σ5 F5 H5 fp5 S5 g5 => P σ5 F5 H5 fp5 S5 g5
          | rt t => exact P
end
end VS
namespace VS
open PySem PySem.Spec L2
open PyProof.Rows hiding St

/-! ### what a def computes: from its arguments, its value and what the arguments that it changes are then -/
abbrev FS := List T → R (List (Option T)) (T × List (Option T))
def spF (G : Kt) (n : Nat) (sem : FS) : Sp := fun vs H Q E => vs.length = n ∧ ∃ ts F fp, Owns G F H ts vs fp ∧ fp.Nodup ∧ (∀ p ∈ fp, F p = none) ∧ Same F H ∧ match sem ts with
  | .ok (t, us) => ∀ v F' H' fp' ft, OwnE G F' H' us (vs.map some) fp' → Own G F' H' t v ft → (fp' ++ ft).Nodup → (∀ p ∈ fp' ++ ft, F' p = none) → Same F' H' → Go F H fp F' H' (fp' ++ ft) → Q v H'
  | .ex c fs us => ∀ cls d F' H' fp', OwnE G F' H' us (vs.map some) fp' → fp'.Nodup → (∀ p ∈ fp', F' p = none) → Same F' H' → ExR G F' H' c fs cls d → Go F H fp F' H' fp' → E cls d H'
  | .no => False
/-- a def that computes sem -/
abbrev VF (P : Program) (w : World) (K : PySem.W.Frag) (mg : Str → Option Value) (base : Heap) (k : Nat) (f : Addr) (fd : FuncData) (ps : List Str) (sem : FS) : Prop := FnOk P w K mg base (L2.CX P w) k f fd ps (spF ⟨K, mg⟩ ps.length sem)

/-! ### arguments, some of them names whose objects the def may change -/
def PVk (G : Kt) (fx : Fx) (W : L2.WX) (ks : List (Option Nat)) (σ : St) (Q : List V → Hp → Prop) (F H : Hp) (fp : List Addr) : R En (List T × En) → Prop
  | .ok (ts, e) => ∀ vs F' H' fp' ft, Sta G fx e F' σ H' fp' → Owns G F' H' ts vs ft → (fp' ++ ft).Nodup → (∀ p ∈ ft, F' p = none) → Go F H fp F' H' (fp' ++ ft) →
      (∀ (j i : Nat), ks[j]? = some (some i) → ∃ v, vs[j]? = some v ∧ σ[i]? = some (some v)) → vs.length = ks.length → Q vs H'
  | .ex c fs e => ∀ cls d F' H' fp', Sta G fx e F' σ H' fp' → ExR G F' H' c fs cls d → Go F H fp F' H' fp' → W cls d σ H'
  | .no => False
def tVk (G : Kt) (fx : Fx) (W : L2.WX) (ks : List (Option Nat)) (f : En → R En (List T × En)) : TA := fun σ H Q => ∃ env F fp, Sta G fx env F σ H fp ∧ PVk G fx W ks σ Q F H fp (f env)
abbrev VKs (X : Cx) (fx : Fx) (W : L2.WX) (es : List Expr) (ks : List (Option Nat)) (f : En → R En (List T × En)) : Prop := PA X es (tVk (kt X) fx W ks f)
section
variable {X : Cx} {fx : Fx} {W : L2.WX}
theorem vks_nil : VKs X fx W [] [] enil := PA.imp pa_nil fun σ H Q h => by
  obtain ⟨env, F, fp, S, P⟩ := h
  exact P [] F H fp [] S ⟨rfl, rfl⟩ (by simpa using S.nd) (by simp) (by rw [List.append_nil]; exact .refl) (fun j i h => by simp at h) rfl
/-- an expression whose value is known to be that of a slot (or not asked) -/
def tVo (G : Kt) (fx : Fx) (W : L2.WX) (o : Option Nat) (f : En → R En (T × En)) : TE := fun σ H Q => tV G fx W f σ H fun v H' => (∀ i, o = some i → σ[i]? = some (some v)) → Q v H'
theorem vo_val {e : Expr} {f : En → R En (T × En)} (h : VE X fx W e f) : PE X e (tVo (kt X) fx W none f) := PE.imp h fun σ H Q q => by
  obtain ⟨env, F, fp, S, P⟩ := q
  refine ⟨env, F, fp, S, ?_⟩
  cases ea : f env with
  | no => rw [ea] at P; exact P
  | ex c fs e => rw [ea] at P; exact P
  | ok a =>
    obtain ⟨t, e⟩ := a
    rw [ea] at P
    exact fun v F' H' fp' ft S' o nd off g => P v F' H' fp' ft S' o nd off g fun i h => nomatch h
theorem vo_mv (i : Nat) {x : Str} {pos : Pos} (hN : X.N[i]? = some x) (hv : Vis X.env.scope x) (hd : (x == ("__debug__" : Str)) = false := by decide)
    (hcd : (x == ("__classdict__" : Str)) = false := by decide) : PE X (.Name x pos) (tVo (kt X) fx W (some i) (mvE i)) := PE.imp (pe_var hN hv hd hcd) fun σ H Q h => by
  obtain ⟨env, F, fp, S, P⟩ := h
  unfold mvE at P
  split at P
  · rename_i t e
    obtain ⟨a, b, c, s, e1, hs, o, k⟩ := S.own.split e
    obtain ⟨v, rfl, o⟩ := o
    refine ⟨v, hs, ?_⟩
    have nd := S.nd
    rw [e1] at nd
    have nd' : (a ++ c ++ b).Nodup := by
      have : (a ++ (b ++ c)).Perm (a ++ c ++ b) := by rw [List.append_assoc]; exact List.Perm.append_left a List.perm_append_comm
      exact this.nodup_iff.mp nd
    have k' := k F H none (some v) [] (.refl _) (fun _ _ _ e => e) rfl
    rw [set_self hs, List.nil_append] at k'
    refine P v F H (a ++ c) b ⟨k', (List.nodup_append.mp nd').1, fun p hp => S.off p ?_, S.sub, S.fix, S.pin⟩ o nd' (fun p hp => S.off p ?_) (Go.refl.less fun p hp => ?_) (fun j h => by cases h; exact hs)
    · rw [e1]; simp only [List.mem_append] at hp ⊢
      rcases hp with z | z
      · exact .inl z
      · exact .inr (.inr z)
    · rw [e1]; simp [hp]
    · rw [e1]; simp only [List.mem_append] at hp ⊢
      rcases hp with (z | z) | z
      · exact .inl z
      · exact .inr (.inr z)
      · exact .inr (.inl z)
  · exact P.elim
theorem vks_cons {e : Expr} {es : List Expr} {o : Option Nat} {ks : List (Option Nat)} {fa : En → R En (T × En)} {fs : En → R En (List T × En)} (ha : PE X e (tVo (kt X) fx W o fa)) (hs : VKs X fx W es ks fs)
    (hst : starEach (e :: es) X.env = (false, eval e X.env) :: starEach es X.env := by rfl) : VKs X fx W (e :: es) (o :: ks) (econs fa fs) := PA.imp (pa_cons ha hs hst) fun σ H Q h => by
  obtain ⟨env, F, fp, S, P⟩ := h
  refine ⟨env, F, fp, S, ?_⟩
  unfold econs at P
  cases ea : fa env with
  | no => rw [ea] at P; exact P
  | ex c fs e => rw [ea] at P; exact P
  | ok a =>
    obtain ⟨t, e1⟩ := a
    rw [ea] at P
    intro v F1 H1 fp1 f1 S1 o1 nd1 off1 g1 ev1
    refine ⟨e1, F1, fp1, S1, ?_⟩
    have d1 : ∀ p ∈ f1, p ∉ fp1 := fun p hp hq => (List.nodup_append.mp nd1).2.2 p hq p hp rfl
    cases eb : fs e1 with
    | no => simp only [bnd, eb] at P; exact P
    | ex c fs e =>
      simp only [bnd, eb] at P
      intro cls d F' H' fp' S' x g'
      exact P cls d F' H' fp' S' x ((g1.less fun p hp => List.mem_append_left _ hp).trans g')
    | ok b =>
      obtain ⟨ts, e2⟩ := b
      simp only [bnd, eb] at P
      intro vs F2 H2 fp2 f2 S2 o2 nd2 off2 g2 ev2 hl2
      obtain ⟨o1', off1', d1'⟩ := o1.go off1 g2 d1
      refine P (v :: vs) F2 H2 fp2 (f1 ++ f2) S2 (by simp only [Owns]; exact ⟨v, vs, f1, f2, rfl, o1', o2, rfl⟩) (nodup_two (F2 := F2) nd1 nd2 d1') (fun p hp => ?_) (g1.frame2 g2) (fun j i hj => ?_) (by simp [hl2])
      · rcases List.mem_append.mp hp with z | z
        · exact off1' p z
        · exact off2 p z
      · cases j with
        | zero => exact ⟨v, rfl, ev1 i (by simpa using hj)⟩
        | succ j =>
          obtain ⟨u, hu, hs⟩ := ev2 j i (by simpa using hj)
          exact ⟨u, by simpa using hu, hs⟩

/-! ### behind the call: the names whose objects it changed -/
def puts : List (Option Nat) → List (Option T) → En → Option En
  | some i :: ks, u :: us, e => match e[i]? with
    | some none => puts ks us (e.set i u)
    | _ => none
  | none :: ks, _ :: us, e => puts ks us e
  | _, _, e => some e
theorem puts_ok {G : Kt} {F H : Hp} {σ : St} : ∀ {ks : List (Option Nat)} {us : List (Option T)} {vs : List V} {e e' : En} {fp fq : List Addr}, Sta G fx e F σ H fp → OwnE G F H us (vs.map some) fq → (fp ++ fq).Nodup → (∀ p ∈ fq, F p = none) →
    (∀ (j i : Nat), ks[j]? = some (some i) → ∃ v, vs[j]? = some v ∧ σ[i]? = some (some v)) → puts ks us e = some e' → ∃ fp', Sta G fx e' F σ H fp' ∧ ∀ p ∈ fp', p ∈ fp ++ fq
  | [], us, vs, e, e', fp, fq, S, o, nd, off, ev, h => by
    have h' : e = e' := by cases us <;> exact Option.some.inj h
    subst h'
    exact ⟨fp, S, fun p hp => List.mem_append_left _ hp⟩
  | none :: ks, [], vs, e, e', fp, fq, S, o, nd, off, ev, h => by
    cases h
    exact ⟨fp, S, fun p hp => List.mem_append_left _ hp⟩
  | some i :: ks, [], vs, e, e', fp, fq, S, o, nd, off, ev, h => by
    cases h
    exact ⟨fp, S, fun p hp => List.mem_append_left _ hp⟩
  | none :: ks, u :: us, vs, e, e', fp, fq, S, o, nd, off, ev, h => by
    have h' : puts ks us e = some e' := h
    cases vs with
    | nil => have := o.there; simp at this
    | cons v vs =>
      have ev' : ∀ (j i : Nat), ks[j]? = some (some i) → ∃ v, vs[j]? = some v ∧ σ[i]? = some (some v) := fun j i hj => by
        obtain ⟨w, h1, h2⟩ := ev (j + 1) i (by simpa using hj)
        exact ⟨w, by simpa using h1, h2⟩
      cases u with
      | none =>
        simp only [List.map, OwnE] at o
        obtain ⟨v', r, e1, o⟩ := o
        cases e1
        exact puts_ok S o nd off ev' h'
      | some t =>
        simp only [List.map, OwnE] at o
        obtain ⟨v', r, f1, f2, e1, o1, o, rfl⟩ := o
        cases e1
        obtain ⟨fp', S', sub⟩ := puts_ok S o (by
          rw [List.nodup_append] at nd ⊢
          exact ⟨nd.1, (List.nodup_append.mp nd.2.1).2.1, fun a ha b hb => nd.2.2 a ha b (List.mem_append_right _ hb)⟩) (fun p hp => off p (List.mem_append_right _ hp)) ev' h'
        exact ⟨fp', S', fun p hp => (List.mem_append.mp (sub p hp)).elim (List.mem_append_left _) fun z => List.mem_append_right _ (List.mem_append_right _ z)⟩
  | some i :: ks, u :: us, vs, e, e', fp, fq, S, o, nd, off, ev, h => by
    unfold puts at h
    split at h
    · rename_i en
      cases vs with
      | nil => have := o.there; simp at this
      | cons v vs =>
        have ev' : ∀ (j i : Nat), ks[j]? = some (some i) → ∃ v, vs[j]? = some v ∧ σ[i]? = some (some v) := fun j i hj => by
          obtain ⟨w, h1, h2⟩ := ev (j + 1) i (by simpa using hj)
          exact ⟨w, by simpa using h1, h2⟩
        obtain ⟨w, hw, hs⟩ := ev 0 i rfl
        have ew : v = w := by simpa using hw
        subst ew
        obtain ⟨a, b, c, s, rfl, hs', ob, k⟩ := S.own.split en
        have eb : b = [] := ob
        subst eb
        rw [List.nil_append] at nd S
        cases u with
        | none =>
          simp only [List.map, OwnE] at o
          obtain ⟨v', r, e1, o⟩ := o
          cases e1
          have k' := k F H none (some v) [] (.refl _) (fun _ _ _ e => e) rfl
          rw [set_self hs, List.nil_append] at k'
          obtain ⟨fp', S', sub⟩ := puts_ok (e := e.set i none) ⟨k', (List.nodup_append.mp nd).1, S.off, S.sub, S.fix, S.pin⟩ o nd off ev' h
          exact ⟨fp', S', by simpa using sub⟩
        | some t =>
          simp only [List.map, OwnE] at o
          obtain ⟨v', r, f1, f2, e1, o1, o, rfl⟩ := o
          cases e1
          have k' := k F H (some t) (some v) f1 (.refl _) (fun _ _ _ e => e) ⟨v, rfl, o1⟩
          rw [set_self hs] at k'
          have pm : (a ++ c ++ (f1 ++ f2)).Perm (a ++ (f1 ++ c) ++ f2) := by
            simp only [List.append_assoc]
            refine List.Perm.append_left a ?_
            have e1 := (List.perm_append_comm (l₁ := c) (l₂ := f1)).append_right f2
            simpa only [List.append_assoc] using e1
          have nd' := pm.nodup_iff.mp nd
          obtain ⟨fp', S', sub⟩ := puts_ok (e := e.set i (some t)) ⟨k', (List.nodup_append.mp nd').1, fun p hp => by
            simp only [List.mem_append] at hp
            rcases hp with z | z | z
            · exact S.off p (by simp [z])
            · exact off p (by simp [z])
            · exact S.off p (by simp [z]), S.sub, S.fix, S.pin⟩ o nd' (fun p hp => off p (List.mem_append_right _ hp)) ev' h
          exact ⟨fp', S', fun p hp => by
            have := pm.mem_iff.mpr (sub p hp)
            simpa using this⟩
    · cases h
/-- a call: the arguments, the def, the names put back -/
def callE (sem : FS) (ks : List (Option Nat)) (fs : En → R En (List T × En)) : En → R En (T × En) := fun env => bnd (fs env) fun a => match sem a.1 with
  | .ok (t, us) => ofO (puts ks us a.2) fun e => .ok (t, e)
  | .ex c xs us => ofO (puts ks us a.2) fun e => .ex c xs e
  | .no => .no
/-- the def runs, from arguments that are held -/
theorem call_of {G : Kt} {σ : St} {H : Hp} {Q : VK} {n : Nat} {sem : FS} {ks : List (Option Nat)} {fs : En → R En (List T × En)} (hn : ks.length = n)
    (h : tV G fx W (callE sem ks fs) σ H Q) : tVk G fx W ks fs σ H fun vs H1 => spF G n sem (vs ++ []) H1 Q (WE W σ) := by
  obtain ⟨env, F, fp, S, P⟩ := h
  refine ⟨env, F, fp, S, ?_⟩
  unfold callE at P
  cases ea : fs env with
  | no => rw [ea] at P; exact P
  | ex c fs e => rw [ea] at P; exact P
  | ok a =>
    obtain ⟨ts, e⟩ := a
    rw [ea] at P
    intro vs F1 H1 fp1 ft S1 o nd off g1 ev hl
    rw [List.append_nil]
    refine ⟨hl.trans hn, ts, F1, ft, o, (List.nodup_append.mp nd).2.1, off, S1.sub, ?_⟩
    dsimp only [bnd] at P
    have d1 : ∀ p ∈ fp1, p ∉ ft := fun p hp hq => (List.nodup_append.mp nd).2.2 p hp p hq rfl
    cases es : sem ts with
    | no => rw [es] at P; exact P
    | ok b =>
      obtain ⟨t, us⟩ := b
      rw [es] at P
      intro v F2 H2 fp2 f2 ou ot nd2 off2 sub2 g2
      dsimp only at P
      cases ep : puts ks us e with
      | none => rw [ep] at P; exact P.elim
      | some e' =>
        rw [ep] at P
        have fr : Go F1 H1 (ft ++ fp1) F2 H2 ((fp2 ++ f2) ++ fp1) := g2.frame
        have d1' : ∀ p ∈ fp1, F2 p = none ∧ p ∉ fp2 ++ f2 := fun p hp => by
          obtain ⟨u, hu⟩ := S1.own.is p hp
          refine ⟨?_, fun z => ?_⟩
          · cases q : F2 p with
            | none => rfl
            | some o =>
              rcases g2.fn p o q with z | z | z
              · rw [S1.off p hp] at z; cases z
              · rw [hu] at z; cases z
              · exact absurd z (d1 p hp)
          · rcases g2.own p z with z | z
            · exact d1 p hp z
            · rw [hu] at z; cases z
        have S2 : Sta G fx e F2 σ H2 fp1 := ⟨OwnE.mono g2.f _ _ _ (fun p hp o q => g2.h p o q (d1 p hp)) S1.own, S1.nd, fun p hp => (d1' p hp).1, sub2, S1.fix, fun q h => (S1.pin q h).mono g2.f⟩
        obtain ⟨fp', S', sub⟩ := puts_ok (fp := fp1) (fq := fp2) S2 ou (by
          rw [List.nodup_append]
          exact ⟨S1.nd, (List.nodup_append.mp nd2).1, fun a ha b hb e => by
            subst e
            exact (d1' a ha).2 (List.mem_append_left _ hb)⟩) (fun p hp => off2 p (List.mem_append_left _ hp)) ev ep
        refine P v F2 H2 fp' f2 S' ot ?_ (fun p hp => off2 p (List.mem_append_right _ hp)) ?_
        · refine List.nodup_append.mpr ⟨S'.nd, (List.nodup_append.mp nd2).2.1, fun a ha b hb e => ?_⟩
          subst e
          rcases List.mem_append.mp (sub a ha) with z | z
          · exact (d1' a z).2 (List.mem_append_right _ hb)
          · exact (List.nodup_append.mp nd2).2.2 a z a hb rfl
        · refine ((g1.trans ((fr.more fun p hp => ?_))).less fun p hp => ?_)
          · simp only [List.mem_append] at hp ⊢
            exact hp.symm
          · simp only [List.mem_append] at hp ⊢
            rcases hp with z | z
            · rcases List.mem_append.mp (sub p z) with y | y
              · exact .inr y
              · exact .inl (.inl y)
            · exact .inl (.inr z)
    | ex c xs us =>
      rw [es] at P
      intro cls d F2 H2 fp2 ou nd2 off2 sub2 x g2
      dsimp only at P
      cases ep : puts ks us e with
      | none => rw [ep] at P; exact P.elim
      | some e' =>
        rw [ep] at P
        have fr : Go F1 H1 (ft ++ fp1) F2 H2 (fp2 ++ fp1) := g2.frame
        have d1' : ∀ p ∈ fp1, F2 p = none ∧ p ∉ fp2 := fun p hp => by
          obtain ⟨u, hu⟩ := S1.own.is p hp
          refine ⟨?_, fun z => ?_⟩
          · cases q : F2 p with
            | none => rfl
            | some o =>
              rcases g2.fn p o q with z | z | z
              · rw [S1.off p hp] at z; cases z
              · rw [hu] at z; cases z
              · exact absurd z (d1 p hp)
          · rcases g2.own p z with z | z
            · exact d1 p hp z
            · rw [hu] at z; cases z
        have S2 : Sta G fx e F2 σ H2 fp1 := ⟨OwnE.mono g2.f _ _ _ (fun p hp o q => g2.h p o q (d1 p hp)) S1.own, S1.nd, fun p hp => (d1' p hp).1, sub2, S1.fix, fun q h => (S1.pin q h).mono g2.f⟩
        obtain ⟨fp', S', sub⟩ := puts_ok (fp := fp1) (fq := fp2) S2 ou (by
          rw [List.nodup_append]
          exact ⟨S1.nd, nd2, fun a ha b hb e => by
            subst e
            exact (d1' a ha).2 hb⟩) off2 ev ep
        refine P cls d F2 H2 fp' S' x ((g1.trans ((fr.more fun p hp => ?_))).less fun p hp => ?_)
        · simp only [List.mem_append] at hp ⊢
          exact hp.symm
        · simp only [List.mem_append]
          rcases List.mem_append.mp (sub p hp) with y | y
          · exact .inr y
          · exact .inl y
theorem ve_call {k : Nat} {f : Addr} {fd : FuncData} {ps : List Str} {sem : FS} {x : Str} {p pos : Pos} {e : Expr} {es : List Expr} {ks : List (Option Nat)} {fs : En → R En (List T × En)} (F : VF X.prog X.w X.K X.mg X.base k f fd ps sem) (hr : Room k X.A) (hg : Gl X x) (hm : X.mg x = some (.ref f))
    (hk : PySem.W.keepIn X.K (.ref f) = true) (hb : Binds X.K fd ps []) (tk : Takes X W) (ha : VKs X fx W (e :: es) ks fs) (hn : ks.length = ps.length := by rfl) (hdb : (x == ("__debug__" : Str)) = false := by decide)
    (he : starEach (e :: es) X.env = (false, eval e X.env) :: starEach es X.env := by rfl) (hpl : (backTo pos (starEach es X.env)).any (·.1) = false := by rfl) : VE X fx W (.Call (.Name x p) (e :: es) [] pos) (callE sem ks fs) :=
  PE.imp (pe_callSD F hr hg hm hk hb .nil (fun σ => passAt tk σ) ha hdb he hpl) fun σ H Q h => call_of (G := kt X) hn h
/-- a call that changes nothing: shared arguments, its value looked at -/
def callB (n : Nat) (sem : FS) (gs : En → R En (List T)) : En → R En T := fun env => bnd (gs env) fun ts => if ts.length = n then ofO (shs ts) (fun _ => match sem ts with
  | .ok (t, _) => .ok t
  | .ex c xs _ => .ex c xs env
  | .no => .no) else .no
theorem Owns.fp_nil {G : Kt} {F H : Hp} {ds : List D} {vs : List V} {fp : List Addr} (r : Reps G F ds vs) : Owns G F H (ds.map T.s) vs [] := r.owns
theorem vb_call {k : Nat} {f : Addr} {fd : FuncData} {ps : List Str} {sem : FS} {x : Str} {p pos : Pos} {e : Expr} {es : List Expr} {gs : En → R En (List T)} (F : VF X.prog X.w X.K X.mg X.base k f fd ps sem) (hr : Room k X.A) (hg : Gl X x) (hm : X.mg x = some (.ref f))
    (hk : PySem.W.keepIn X.K (.ref f) = true) (hb : Binds X.K fd ps []) (tk : Takes X W) (ha : VBs X fx W (e :: es) gs) (hdb : (x == ("__debug__" : Str)) = false := by decide)
    (he : starEach (e :: es) X.env = (false, eval e X.env) :: starEach es X.env := by rfl) (hpl : (backTo pos (starEach es X.env)).any (·.1) = false := by rfl) : VB X fx W (.Call (.Name x p) (e :: es) [] pos) (callB ps.length sem gs) :=
  PE.imp (pe_callSD F hr hg hm hk hb .nil (fun σ => passAt tk σ) ha hdb he hpl) fun σ H Q h => by
    obtain ⟨env, F0, fp, S, P⟩ := h
    refine ⟨env, F0, fp, S, ?_⟩
    unfold callB at P
    cases ea : gs env with
    | no => rw [ea] at P; exact P
    | ex c fs e => rw [ea] at P; exact P
    | ok ts =>
      rw [ea] at P
      dsimp only [bnd] at P
      by_cases hl : ts.length = ps.length
      case neg => rw [if_neg hl] at P; exact P.elim
      rw [if_pos hl] at P
      cases es : shs ts with
      | none => rw [es] at P; exact P.elim
      | some ds =>
        rw [es] at P
        have e' := shs_eq es
        subst e'
        intro vs F1 H1 g1 b
        rw [List.append_nil]
        refine ⟨by rw [b.len]; exact hl, ds.map T.s, F1, [], b.shs.owns, List.nodup_nil, by simp, g1.sub, ?_⟩
        dsimp only [ofO] at P
        cases esem : sem (ds.map T.s) with
        | no => rw [esem] at P; exact P
        | ok a =>
          obtain ⟨t, us⟩ := a
          rw [esem] at P
          intro v F2 H2 fp2 f2 ou ot nd2 off2 sub2 g2
          have gg : Grow F1 H1 F2 H2 := ⟨g2.f, fun p o h => g2.h p o h (by simp), fun p o h => (g2.fn p o h).imp id fun z => z.elim id (by simp), sub2⟩
          exact P v F2 H2 (g1.trans gg) ot.bor
        | ex c xs us =>
          rw [esem] at P
          intro cls d F2 H2 fp2 ou nd2 off2 sub2 x g2
          have gg : Grow F1 H1 F2 H2 := ⟨g2.f, fun p o h => g2.h p o h (by simp), fun p o h => (g2.fn p o h).imp id fun z => z.elim id (by simp), sub2⟩
          exact P cls d F2 H2 fp (S.grow (g1.trans gg)) x ((g1.trans gg).go fp)
end

/-! ### a def's body -/
def outs : List Bool → En → List (Option T)
  | [], _ => []
  | true :: io, x :: e => x :: outs io e
  | false :: io, _ :: e => none :: outs io e
  | _ :: io, [] => none :: outs io []
def finF (io : List Bool) (n : Nat) (fb : En → R En (Fl × En)) : FS := fun ts => match fb (ts.map some ++ List.replicate (n - ts.length) none) with
  | .ok (.rt t, e) => .ok (t, outs io e)
  | .ok (.nx, e) => .ok (.s .non, outs io e)
  | .ok (.bk, _) => .no
  | .ok (.ct, _) => .no
  | .ex c fs e => .ex c fs (outs io e)
  | .no => .no
def fxOf (io : List Bool) (vs : List V) : Fx := ⟨(List.range io.length).filterMap fun j => if io[j]? = some true then (vs[j]?).map fun v => (j, v) else none, []⟩
theorem mem_fxOf {io : List Bool} {vs : List V} {q : Nat × V} : q ∈ fxOf io vs ↔ io[q.1]? = some true ∧ vs[q.1]? = some q.2 := by
  show q ∈ (List.range io.length).filterMap _ ↔ _
  rw [List.mem_filterMap]
  constructor
  · rintro ⟨j, hj, e⟩
    split at e
    · rename_i hb
      rw [Option.map_eq_some_iff] at e
      obtain ⟨v, hv, rfl⟩ := e
      exact ⟨hb, hv⟩
    · cases e
  · rintro ⟨h1, h2⟩
    exact ⟨q.1, List.mem_range.mpr (List.getElem?_eq_some_iff.mp h1).1, by rw [if_pos h1, h2]; rfl⟩
theorem fx_ne {io : List Bool} {vs : List V} {i : Nat} (h : io[i]? ≠ some true) : ∀ q ∈ fxOf io vs, q.1 ≠ i := fun q hq e => h (e ▸ (mem_fxOf.mp hq).1)
theorem Owns.start {G : Kt} {F H : Hp} : ∀ {ts : List T} {vs : List V} {fp : List Addr} (m : Nat), Owns G F H ts vs fp → OwnE G F H (ts.map some ++ List.replicate m none) (vs.map some ++ List.replicate m none) fp
  | [], vs, fp, m, h => by
    simp only [Owns] at h
    obtain ⟨rfl, rfl⟩ := h
    simp only [List.map_nil, List.nil_append]
    induction m with
    | zero => exact ⟨rfl, rfl⟩
    | succ m ih =>
      rw [List.replicate_succ, List.replicate_succ]
      exact ⟨none, _, rfl, ih⟩
  | t :: ts, vs, fp, m, h => by
    simp only [Owns] at h
    obtain ⟨v, r, f1, f2, rfl, h1, h2, rfl⟩ := h
    exact ⟨v, _, f1, f2, rfl, h1, Owns.start m h2, rfl⟩
theorem outs_ok {G : Kt} {F H : Hp} : ∀ {io : List Bool} {e : En} {σ : L2.St} {vs : List V} {fp : List Addr}, OwnE G F H e σ fp → vs.length = io.length → (∀ (j : Nat) (v : V), io[j]? = some true → vs[j]? = some v → σ[j]? = some (some v)) →
    ∃ fq, OwnE G F H (outs io e) (vs.map some) fq ∧ fq.Sublist fp
  | [], e, σ, vs, fp, o, hl, hj => by
    cases vs with
    | nil => exact ⟨[], ⟨rfl, rfl⟩, List.nil_sublist _⟩
    | cons _ _ => simp at hl
  | b :: io, [], σ, vs, fp, o, hl, hj => by
    cases vs with
    | nil => simp at hl
    | cons v vs =>
      simp only [OwnE] at o
      obtain ⟨rfl, rfl⟩ := o
      obtain ⟨fq, o', s⟩ := outs_ok (io := io) (e := []) (σ := []) (vs := vs) (fp := []) ⟨rfl, rfl⟩ (by simpa using hl) fun j v' h1 h2 => by
        have := hj (j + 1) v' (by simpa using h1) (by simpa using h2)
        simp at this
      refine ⟨fq, ?_, s⟩
      cases b <;> exact ⟨some v, _, rfl, o'⟩
  | b :: io, x :: e, σ, vs, fp, o, hl, hj => by
    cases vs with
    | nil => simp at hl
    | cons v vs =>
      cases x with
      | none =>
        simp only [OwnE] at o
        obtain ⟨s, r, rfl, o⟩ := o
        obtain ⟨fq, o', s'⟩ := outs_ok (io := io) (vs := vs) o (by simpa using hl) fun j v' h1 h2 => by
          simpa using hj (j + 1) v' (by simpa using h1) (by simpa using h2)
        refine ⟨fq, ?_, s'⟩
        cases b <;> exact ⟨some v, _, rfl, o'⟩
      | some t =>
        simp only [OwnE] at o
        obtain ⟨u, r, f1, f2, rfl, o1, o, rfl⟩ := o
        obtain ⟨fq, o', s'⟩ := outs_ok (io := io) (vs := vs) o (by simpa using hl) fun j v' h1 h2 => by
          simpa using hj (j + 1) v' (by simpa using h1) (by simpa using h2)
        cases b with
        | false => exact ⟨fq, ⟨some v, _, rfl, o'⟩, s'.trans (List.sublist_append_right _ _)⟩
        | true =>
          have e0 := hj 0 v rfl rfl
          have e1 : u = v := by simpa using e0
          subst e1
          exact ⟨f1 ++ fq, ⟨u, _, f1, fq, rfl, o1, o', rfl⟩, (List.Sublist.refl f1).append s'⟩
section
variable {P : Program} {w : World} {K : PySem.W.Frag} {mg : Str → Option Value} {base : Heap}
theorem vf_mk {x qual : Str} {st : Stmt} {f : Addr} {fd : FuncData} {N ps : List Str} {k : Nat} {io : List Bool} {fb : En → R En (Fl × En)} (F : Fun K x qual st f fd) (S : FnScope N ps (defScope st)) (hio : io.length = ps.length)
    (body : ∀ (cdv : Value) (A : Around) (outer : List Env) (s : Shared) (H : Hp) (vs : List V) (E : XK), Room k (A.deeper (envOfC qual (defScope st) s.heap.objs.size f cdv)) →
      VSs (cxOf (L2.CX P w) P w K mg base N qual (defScope st) f cdv A outer s H E) (fxOf io vs) (fun cls d _ H => E cls d H) (defBody st) fb) : VF P w K mg base (k + 1) f fd ps (finF io N.length fb) := by
  refine F.okX S (fun vs H Q E h => h.1) (fun cdv A outer s H vs Q E hr h => ?_)
  obtain ⟨hl, ts, F0, fp, o, nd, off, sub, P⟩ := h
  refine ⟨_, body cdv A outer s H vs E hr, ts.map some ++ List.replicate (N.length - ts.length) none, F0, fp, ⟨?_, nd, off, sub, fun q hq => ?_, fun q h => nomatch h⟩, ?_⟩
  · have e := (Owns.bor _ _ _ o).len
    show OwnE _ F0 H _ (L2.start N vs) fp
    unfold L2.start
    rw [e]
    exact o.start _
  · have h1 := (mem_fxOf.mp hq).2
    show (L2.start N vs)[q.1]? = _
    unfold L2.start
    have hlt := (List.getElem?_eq_some_iff.mp h1).1
    rw [List.getElem?_append_left (by simpa using hlt), List.getElem?_map, h1]
    rfl
  · unfold finF at P
    have fin : ∀ {e : En} {F' : Hp} {σ' : L2.St} {H' : Hp} {fp' : List Addr}, Sta ⟨K, mg⟩ (fxOf io vs) e F' σ' H' fp' → ∃ fq, OwnE ⟨K, mg⟩ F' H' (outs io e) (vs.map some) fq ∧ fq.Sublist fp' := fun {e F' σ' H' fp'} S' =>
      outs_ok S'.own (hl.trans hio.symm) fun j v h1 h2 => S'.fix (j, v) (mem_fxOf.mpr ⟨h1, h2⟩)
    cases eb : fb (ts.map some ++ List.replicate (N.length - ts.length) none) with
    | no => rw [eb] at P; exact P
    | ex c fs e =>
      rw [eb] at P
      intro cls d σ' F' H' fp' S' x g
      obtain ⟨fq, ou, sl⟩ := fin S'
      exact P cls d F' H' fq ou (S'.nd.sublist sl) (fun p hp => S'.off p (sl.subset hp)) S'.sub x (g.less fun p hp => sl.subset hp)
    | ok a =>
      obtain ⟨fl, e⟩ := a
      rw [eb] at P
      cases fl with
      | bk => exact P.elim
      | ct => exact P.elim
      | nx =>
        intro σ' F' H' fp' S' g
        obtain ⟨fq, ou, sl⟩ := fin S'
        exact P .non F' H' fq [] ou ⟨by simp only [Rep], rfl⟩ (by rw [List.append_nil]; exact S'.nd.sublist sl) (fun p hp => S'.off p (sl.subset (by simpa using hp))) S'.sub (by rw [List.append_nil]; exact g.less fun p hp => sl.subset hp)
      | rt t =>
        intro v σ' F' H' fp' ft S' ot nd' off' g
        obtain ⟨fq, ou, sl⟩ := fin S'
        refine P v F' H' fq ft ou ot (nd'.sublist (sl.append (List.Sublist.refl ft))) (fun p hp => ?_) S'.sub (g.less fun p hp => ?_)
        · rcases List.mem_append.mp hp with z | z
          · exact S'.off p (sl.subset z)
          · exact off' p z
        · rcases List.mem_append.mp hp with z | z
          · exact List.mem_append_left _ (sl.subset z)
          · exact List.mem_append_right _ z
end
end VS
namespace VS
open PySem PySem.Spec L2
open PyProof.Rows hiding St

/-! ### calls of built-in functions -/
section
variable {G : Kt} {F H : Hp} {Q : V → Hp → Prop}
theorem Bors.one {t : T} {vs : List V} (b : Bors G F H [t] vs) : ∃ v, vs = [v] ∧ Bor G F H t v := by
  simp only [Bors] at b
  obtain ⟨v, r, rfl, h, rfl⟩ := b
  exact ⟨v, rfl, h⟩
theorem Bors.two {t u : T} {vs : List V} (b : Bors G F H [t, u] vs) : ∃ v w, vs = [v, w] ∧ Bor G F H t v ∧ Bor G F H u w := by
  simp only [Bors] at b
  obtain ⟨v, r, rfl, h, w, r2, rfl, h2, rfl⟩ := b
  exact ⟨v, w, rfl, h, h2⟩
def lenT : T → Option Nat
  | .s (.str z) => if z.length ≤ sizeLine then some z.length else none
  | .s (.lst ds) => some ds.length
  | .s (.tup ds) => some ds.length
  | .l ts => some ts.length
  | .dk kvs => some kvs.length
  | _ => none
def pLen : List T → Option T
  | [t] => (lenT t).map fun n => .s (.int n)
  | _ => none
def rLen (K : PySem.W.Frag) : List V → Hp → VK → Prop := fun xs H Q => (∃ x n, xs = [x] ∧ LenV K x H n ∧ Q (.int n) H) ∨ (∃ a kvs, xs = [V.ref a] ∧ H a = some (.dK kvs) ∧ Q (.int kvs.length) H)
theorem call_lenA {X : Cx} : CallR X (.builtin "len") (rLen X.K) := call_len.or call_lenD
theorem prim_len : PrimN G (rLen G.K) pLen := by
  intro ts xs F H Q s b p
  unfold pLen at p
  split at p
  · rename_i t
    have b0 := b.one
    clear b
    obtain ⟨v, rfl, b⟩ := b0
    cases e : lenT t with
    | none => rw [e] at p; exact p.elim
    | some n =>
      rw [e] at p
      have q : Q (.int n) H := PR.val s p (by simp only [Rep])
      unfold lenT at e
      split at e
      · simp only [Bor, Rep] at b
        subst b
        split at e
        · cases e; exact .inl ⟨_, _, rfl, ⟨by assumption, rfl⟩, q⟩
        · cases e
      · cases e
        obtain ⟨a, vs, rfl, h1, r⟩ := ls_rep s b rfl
        exact .inl ⟨_, _, rfl, .inl ⟨vs, .of h1, rfl⟩, by rw [r.len]; exact q⟩
      · cases e
        obtain ⟨a, vs, rfl, h1, r⟩ := tp_rep s b rfl
        exact .inl ⟨_, _, rfl, .inr ⟨vs, h1.sq, rfl⟩, by rw [r.len]; exact q⟩
      · cases e
        simp only [Bor] at b
        obtain ⟨a, vs, rfl, h1, r⟩ := b
        exact .inl ⟨_, _, rfl, .inl ⟨vs, .of h1, rfl⟩, by rw [r.len]; exact q⟩
      · cases e
        simp only [Bor] at b
        obtain ⟨a, vs, rfl, h1, r⟩ := b
        exact .inr ⟨a, vs, rfl, h1, by rw [r.len]; exact q⟩
      · cases e
  · exact p.elim
def pAbs : List T → Option T
  | [.s (.int i)] => some (.s (.int (if i < 0 then -i else i)))
  | _ => none
theorem prim_abs : PrimN G (fun xs H Q => ∃ i, xs = [.int i] ∧ Q (.int (if i < 0 then -i else i)) H) pAbs := by
  intro ts xs F H Q s b p
  unfold pAbs at p
  split at p
  · have b0 := b.one
    clear b
    obtain ⟨v, rfl, b⟩ := b0
    simp only [Bor, Rep] at b
    subst b
    exact ⟨_, rfl, PR.val s p (by simp only [Rep])⟩
  · exact p.elim
def pInt : List T → Option T
  | [.s (.int i)] => some (.s (.int i))
  | [.s (.bl k)] => some (.s (.int (if k then 1 else 0)))
  | _ => none
theorem prim_int : PrimN G (fun xs H Q => (∃ i, xs = [.int i] ∧ Q (.int i) H) ∨ ∃ k, xs = [.bl k] ∧ Q (.int (if k then 1 else 0)) H) pInt := by
  intro ts xs F H Q s b p
  unfold pInt at p
  split at p
  · have b0 := b.one
    clear b
    obtain ⟨v, rfl, b⟩ := b0
    simp only [Bor, Rep] at b
    subst b
    exact .inl ⟨_, rfl, PR.val s p (by simp only [Rep])⟩
  · have b0 := b.one
    clear b
    obtain ⟨v, rfl, b⟩ := b0
    simp only [Bor, Rep] at b
    subst b
    exact .inr ⟨_, rfl, PR.val s p (by simp only [Rep])⟩
  · exact p.elim
def pMax2 : List T → Option T
  | [.s (.int i), .s (.int j)] => some (.s (.int (if j > i then j else i)))
  | _ => none
theorem prim_max2 : PrimN G (fun xs H Q => ∃ i j, xs = [.int i, .int j] ∧ Q (.int (if j > i then j else i)) H) pMax2 := by
  intro ts xs F H Q s b p
  unfold pMax2 at p
  split at p
  · obtain ⟨v, w, rfl, b1, b2⟩ := b.two
    simp only [Bor, Rep] at b1 b2
    subst b1 b2
    exact ⟨_, _, rfl, PR.val s p (by simp only [Rep])⟩
  · exact p.elim
def pMin2 : List T → Option T
  | [.s (.int i), .s (.int j)] => some (.s (.int (if j < i then j else i)))
  | _ => none
theorem prim_min2 : PrimN G (fun xs H Q => ∃ i j, xs = [.int i, .int j] ∧ Q (.int (if j < i then j else i)) H) pMin2 := by
  intro ts xs F H Q s b p
  unfold pMin2 at p
  split at p
  · obtain ⟨v, w, rfl, b1, b2⟩ := b.two
    simp only [Bor, Rep] at b1 b2
    subst b1 b2
    exact ⟨_, _, rfl, PR.val s p (by simp only [Rep])⟩
  · exact p.elim
/-- list(x) of a list, a tuple, the script -/
def pList : List T → Option T
  | [.s (.tup ds)] => some (.l (ds.map T.s))
  | [.s (.scr ns)] => some (.l ((ns.map D.int).map T.s))
  | [t] => t.ls.map fun ds => .l (ds.map T.s)
  | _ => none
theorem Reps.ints : ∀ ns : List Int, Reps G F (ns.map D.int) (ns.map V.int)
  | [] => by simp [Reps]
  | n :: ns => by
    simp only [List.map, Reps, Rep]
    exact ⟨_, _, rfl, rfl, Reps.ints ns⟩
theorem prim_list : PrimN G (fun xs H Q => ∃ p ys, xs = [.ref p] ∧ (SqL G.K H p ys ∨ SqT G.K H p ys) ∧ ∀ l, H l = none → Q (.ref l) (upd H l (.lst ys))) pList := by
  intro ts xs F H Q s b p
  unfold pList at p
  split at p
  · have b0 := b.one
    clear b
    obtain ⟨v, rfl, b⟩ := b0
    obtain ⟨a, vs, rfl, h1, r⟩ := tp_rep s b rfl
    exact ⟨a, vs, rfl, .inr h1.sq, PR.lst s p r⟩
  · have b0 := b.one
    clear b
    obtain ⟨v, rfl, b⟩ := b0
    simp only [Bor, Rep] at b
    obtain ⟨a, rfl, h1⟩ := b
    exact ⟨a, _, rfl, .inl (sq_monoL s h1), PR.lst s p (Reps.ints _)⟩
  · rename_i t _ _
    have b0 := b.one
    clear b
    obtain ⟨v, rfl, b⟩ := b0
    cases e : t.ls with
    | none => rw [e] at p; exact p.elim
    | some ds =>
      rw [e] at p
      obtain ⟨a, vs, rfl, h1, r⟩ := ls_rep s b e
      exact ⟨a, vs, rfl, .inl (.of h1), PR.lst s p r⟩
  · exact p.elim
def pTuple : List T → Option T
  | [.s (.tup ds)] => some (.s (.tup ds))
  | [t] => t.ls.map fun ds => .s (.tup ds)
  | _ => none
theorem prim_tuple : PrimN G (fun xs H Q => ∃ p ys, xs = [.ref p] ∧ ((SqL G.K H p ys ∧ ∀ l, H l = none → Q (.ref l) (upd H l (.tup ys))) ∨ (SqT G.K H p ys ∧ Q (.ref p) H))) pTuple := by
  intro ts xs F H Q s b p
  unfold pTuple at p
  split at p
  · have b0 := b.one
    clear b
    obtain ⟨v, rfl, b⟩ := b0
    have b9 := b
    obtain ⟨a, vs, rfl, h1, r⟩ := tp_rep s b rfl
    exact ⟨a, vs, rfl, .inr ⟨h1.sq, PR.val s p b9⟩⟩
  · rename_i t _
    have b0 := b.one
    clear b
    obtain ⟨v, rfl, b⟩ := b0
    cases e : t.ls with
    | none => rw [e] at p; exact p.elim
    | some ds =>
      rw [e] at p
      obtain ⟨a, vs, rfl, h1, r⟩ := ls_rep s b e
      exact ⟨a, vs, rfl, .inl ⟨.of h1, PR.tup s p r⟩⟩
  · exact p.elim

/-! ### isinstance -/
def tyN : T → Option String
  | .s .non => some "NoneType"
  | .s (.bl _) => some "bool"
  | .s (.int _) => some "int"
  | .s (.str _) => some "str"
  | .s (.lst _) => some "list"
  | .s (.tup _) => some "tuple"
  | .s (.dk _) => some "dict"
  | .l _ => some "list"
  | .dk _ => some "dict"
  | _ => none
def tyK : List String := ["NoneType", "bool", "int", "str", "list", "tuple", "dict"]
/-- is a built-in type a below b -/
def isTy (a b : String) : Option Bool := if tyK.contains a && tyK.contains b then some (a == b || (a == "bool" && b == "int")) else none
theorem isTy_ok {a b : String} {r : Bool} (h : isTy a b = some r) : kitB a b = some r := by
  unfold isTy at h
  split at h
  · rename_i hc
    rw [Bool.and_eq_true] at hc
    obtain ⟨h1, h2⟩ := hc
    simp only [tyK, List.contains_iff_mem, List.mem_cons, List.not_mem_nil, or_false] at h1 h2
    have all : ∀ a ∈ tyK, ∀ b ∈ tyK, kitB a b = some (a == b || (a == "bool" && b == "int")) := by decide +kernel
    cases h
    exact all a (by simp [tyK]; exact h1) b (by simp [tyK]; exact h2)
  · cases h
theorem tyN_is {K : PySem.W.Frag} {t : T} {v : V} {n : String} (hK : G.K = K) (s : Same F H) (b : Bor G F H t v) (h : tyN t = some n) : TyX K H v (.type n) := by
  subst hK
  unfold tyN at h
  split at h
  · cases h; simp only [Bor, Rep] at b; subst b; exact .base .non
  · cases h; simp only [Bor, Rep] at b; subst b; exact .base (.bl _)
  · cases h; simp only [Bor, Rep] at b; subst b; exact .base (.int _)
  · cases h; simp only [Bor, Rep] at b; subst b; exact .base (.str _)
  · cases h
    obtain ⟨a, vs, rfl, h1, _⟩ := ls_rep s b rfl
    exact .base (.lst h1)
  · cases h
    obtain ⟨a, vs, rfl, h1, _⟩ := tp_rep s b rfl
    rcases h1 with h1 | ⟨o, its, n, e, c, _⟩
    · exact .base (.tup h1)
    · exact .kTuple e c
  · cases h
    simp only [Bor, Rep] at b
    obtain ⟨a, vs, rfl, h1, _⟩ := b
    exact .base (.dK (s _ _ h1))
  · cases h
    simp only [Bor] at b
    obtain ⟨a, vs, rfl, h1, _⟩ := b
    exact .base (.lst h1)
  · cases h
    simp only [Bor] at b
    obtain ⟨a, vs, rfl, h1, _⟩ := b
    exact .base (.dK h1)
  · cases h
def isTys (a : String) : List D → Option Bool
  | [] => some false
  | .ty b :: ds => match isTy a b, isTys a ds with
    | some x, some y => some (x || y)
    | _, _ => none
  | _ :: _ => none
def pIsi : List T → Option T
  | [t, .s (.ty b)] => ((tyN t).bind fun a => isTy a b).map fun k => .s (.bl k)
  | [t, .s (.tup ds)] => ((tyN t).bind fun a => isTys a ds).map fun k => .s (.bl k)
  | _ => none
def rIsiA (K : PySem.W.Frag) : List V → Hp → VK → Prop := fun xs H Q => rIsi K xs H Q ∨ rIsiT K xs H Q ∨ rIsiK K xs H Q
theorem call_isiA {X : Cx} : CallR X (.builtin "isinstance") (rIsiA X.K) := call_isi.or (call_isiT.or call_isiK)
theorem isTys_ok {K : PySem.W.Frag} {a : String} : ∀ {ds : List D} {vs : List V} {r : Bool}, Reps G F ds vs → isTys a ds = some r → ∃ us : List Value, Paired ClsV vs us ∧ PySem.W.kitAny K (.type a) us = some r ∧ ∀ ws, Vals vs ws → ws = us
  | [], vs, r, h, e => by
    simp only [Reps] at h
    subst h
    cases e
    exact ⟨[], .nil, kitAny_nil, fun ws h => by cases h; rfl⟩
  | d :: ds, vs, r, h, e => by
    simp only [Reps] at h
    obtain ⟨v, rest, rfl, h1, h2⟩ := h
    unfold isTys at e
    split at e
    · rename_i q; cases q
    · rename_i b ds' heq
      cases heq
      split at e
      · rename_i x y ex ey
        cases e
        simp only [Rep] at h1
        subst h1
        obtain ⟨us, p, k, al⟩ := isTys_ok h2 ey
        refine ⟨.type b :: us, .cons (.ty b) p, kitAny_cons (kit_ty (isTy_ok ex)) (fun z => by rw [z]; simpa using k) (fun z => by rw [z]; rfl), fun ws hw => ?_⟩
        cases hw with
        | cons r1 r2 => rw [al _ r2, (ClsV.ty b).eq r1]
      · cases e
    · cases e
theorem prim_isi : PrimN G (rIsiA G.K) pIsi := by
  intro ts xs F H Q s b p
  unfold pIsi at p
  split at p
  · rename_i t nm
    obtain ⟨v, w, rfl, b1, b2⟩ := b.two
    simp only [Bor, Rep] at b2
    subst b2
    cases e : (tyN t).bind fun a => isTy a nm with
    | none => rw [e] at p; exact p.elim
    | some k =>
      rw [e] at p
      obtain ⟨a, ea, ek⟩ := Option.bind_eq_some_iff.mp e
      exact .inl ⟨v, _, _, _, k, rfl, .ty nm, tyN_is rfl s b1 ea, kit_ty (isTy_ok ek), PR.bl s p⟩
  · rename_i t ds
    obtain ⟨v, w, rfl, b1, b2⟩ := b.two
    obtain ⟨tp, vs, rfl, h1, r⟩ := tp_rep s b2 rfl
    cases e : (tyN t).bind fun a => isTys a ds with
    | none => rw [e] at p; exact p.elim
    | some k =>
      rw [e] at p
      obtain ⟨a, ea, ek⟩ := Option.bind_eq_some_iff.mp e
      obtain ⟨us, pr, ka, al⟩ := isTys_ok (K := G.K) r ek
      rcases h1 with h1 | ⟨o, its, n, e1, c, dd, hz, hv⟩
      · exact .inr (.inl ⟨v, tp, vs, _, us, k, rfl, h1, pr, tyN_is rfl s b1 ea, ka, PR.bl s p⟩)
      · have eu := al _ hv
        obtain ⟨oc, od, dt, sl⟩ := o
        simp only at c dd
        subst c dd
        exact .inr (.inr ⟨v, tp, od, us, n, sl, _, k, rfl, by rw [← eu]; simpa using e1, tyN_is rfl s b1 ea, ka, PR.bl s p⟩)
  · exact p.elim
end

/-! ### the rules -/
section
variable {X : Cx} {fx : Fx} {W : L2.WX} {e : Expr} {es : List Expr} {p pos : Pos} {id tn : String} {x : Str} {r : List V → Hp → VK → Prop} {g : List T → Option T} {gs : En → R En (List T)} {fs : En → R En (List T × En)}
theorem vb_fn (hc : CallR X (.builtin id) r) (pr : PrimN (kt X) r g) (hg : Gl X x) (hm : X.mg x = none) (hv : bootBuiltins x = some (.builtin id)) (ha : VBs X fx W (e :: es) gs) (hn : x ≠ "__name__" := by decide) (hdb : (x == ("__debug__" : Str)) = false := by decide)
    (he : starEach (e :: es) X.env = (false, eval e X.env) :: starEach es X.env := by rfl) (hpl : (backTo pos (starEach es X.env)).any (·.1) = false := by rfl) : VB X fx W (.Call (.Name x p) (e :: es) [] pos) (bN g gs) :=
  PE.imp (pe_callB hc hg hm hv ha hn hdb he hpl) fun σ H Q h => BBN (X := X) pr h
theorem vv_fn (hc : CallR X (.builtin id) r) (pr : PrimN (kt X) r g) (hg : Gl X x) (hm : X.mg x = none) (hv : bootBuiltins x = some (.builtin id)) (ha : VBs X fx W (e :: es) gs) (hn : x ≠ "__name__" := by decide) (hdb : (x == ("__debug__" : Str)) = false := by decide)
    (he : starEach (e :: es) X.env = (false, eval e X.env) :: starEach es X.env := by rfl) (hpl : (backTo pos (starEach es X.env)).any (·.1) = false := by rfl) : VE X fx W (.Call (.Name x p) (e :: es) [] pos) (bv (bN g gs)) :=
  PE.imp (pe_callB hc hg hm hv ha hn hdb he hpl) fun σ H Q h => BVN (X := X) pr h
theorem ve_fn (hc : CallR X (.builtin id) r) (pr : PrimN (kt X) r g) (hg : Gl X x) (hm : X.mg x = none) (hv : bootBuiltins x = some (.builtin id)) (ha : VEs X fx W (e :: es) fs) (hn : x ≠ "__name__" := by decide) (hdb : (x == ("__debug__" : Str)) = false := by decide)
    (he : starEach (e :: es) X.env = (false, eval e X.env) :: starEach es X.env := by rfl) (hpl : (backTo pos (starEach es X.env)).any (·.1) = false := by rfl) : VE X fx W (.Call (.Name x p) (e :: es) [] pos) (eN g fs) :=
  PE.imp (pe_callB hc hg hm hv ha hn hdb he hpl) fun σ H Q h => EVN (X := X) pr h
theorem vb_ty (hc : CallR X (.type tn) r) (pr : PrimN (kt X) r g) (hg : Gl X x) (hm : X.mg x = none) (hv : bootBuiltins x = some (.type tn)) (ha : VBs X fx W (e :: es) gs) (hn : x ≠ "__name__" := by decide) (hdb : (x == ("__debug__" : Str)) = false := by decide)
    (he : starEach (e :: es) X.env = (false, eval e X.env) :: starEach es X.env := by rfl) (hpl : (backTo pos (starEach es X.env)).any (·.1) = false := by rfl) : VB X fx W (.Call (.Name x p) (e :: es) [] pos) (bN g gs) :=
  PE.imp (pe_callTy hc hg hm hv ha hn hdb he hpl) fun σ H Q h => BBN (X := X) pr h
theorem vv_ty (hc : CallR X (.type tn) r) (pr : PrimN (kt X) r g) (hg : Gl X x) (hm : X.mg x = none) (hv : bootBuiltins x = some (.type tn)) (ha : VBs X fx W (e :: es) gs) (hn : x ≠ "__name__" := by decide) (hdb : (x == ("__debug__" : Str)) = false := by decide)
    (he : starEach (e :: es) X.env = (false, eval e X.env) :: starEach es X.env := by rfl) (hpl : (backTo pos (starEach es X.env)).any (·.1) = false := by rfl) : VE X fx W (.Call (.Name x p) (e :: es) [] pos) (bv (bN g gs)) :=
  PE.imp (pe_callTy hc hg hm hv ha hn hdb he hpl) fun σ H Q h => BVN (X := X) pr h
theorem ve_ty (hc : CallR X (.type tn) r) (pr : PrimN (kt X) r g) (hg : Gl X x) (hm : X.mg x = none) (hv : bootBuiltins x = some (.type tn)) (ha : VEs X fx W (e :: es) fs) (hn : x ≠ "__name__" := by decide) (hdb : (x == ("__debug__" : Str)) = false := by decide)
    (he : starEach (e :: es) X.env = (false, eval e X.env) :: starEach es X.env := by rfl) (hpl : (backTo pos (starEach es X.env)).any (·.1) = false := by rfl) : VE X fx W (.Call (.Name x p) (e :: es) [] pos) (eN g fs) :=
  PE.imp (pe_callTy hc hg hm hv ha hn hdb he hpl) fun σ H Q h => EVN (X := X) pr h
/-- a built-in type as a value -/
theorem vb_tyN {x : Str} {n : String} (hg : Gl X x) (hm : X.mg x = none) (hv : bootBuiltins x = some (.type n)) (hn : x ≠ "__name__" := by decide) (hd : (x == ("__debug__" : Str)) = false := by decide) : VB X fx W (.Name x pos) (cB (.ty n)) :=
  PE.imp (pe_bltn (v := .ty n) hg hm hv rfl hn hd) fun σ H Q h => tC_B (X := X) (fun _ _ => by simp only [Rep]) h
end

/-! ### in -/
def flatD : D → Bool
  | .non => true
  | .bl _ => true
  | .int _ => true
  | .str _ => true
  | _ => false
def toV : D → V
  | .non => .non
  | .bl b => .bl b
  | .int i => .int i
  | .str x => .str x
  | _ => .non
def inS (i j : Str) : Bool := !(Builtin.Str.occurrences j i 0 j.length 1).isEmpty
def eqF : D → D → Bool
  | .non, .non => true
  | .bl a, .bl b => a == b
  | .bl a, .int b => (if a then 1 else 0) == b
  | .int a, .bl b => a == (if b then 1 else 0)
  | .int a, .int b => a == b
  | .str a, .str b => a == b
  | _, _ => false
def pInB (x y : T) : Option Bool := match x, y with
  | .s (.str a), .s (.str b) => some (inS a b)
  | .s d, .s (.tup ds) => if flatD d && ds.all flatD then some (ds.any fun y => eqF y d) else none
  | .s d, y => match y.ls with
    | some ds => if flatD d && ds.all flatD then some (ds.any fun y => eqF y d) else match toPy d, toPys ds with
      | some p, some ps => if SeqAt.shaped p && SeqAt.shaped (.list ps) then some (ps.any fun z => PyData.eqv z p) else none
      | _, _ => none
    | none => none
  | _, _ => none
def pIn (x y : T) : Option T := blO (pInB x y)
def pNotIn (x y : T) : Option T := blO ((pInB x y).map not)
section
variable {G : Kt} {F H : Hp}
theorem flat_toV {d : D} {v : V} (h : flatD d = true) (r : Rep G F d v) : v = toV d ∧ flatV (toV d) = true := by
  cases d <;> first
    | (simp only [Rep] at r; subst r; exact ⟨rfl, rfl⟩)
    | cases h
theorem flats_toV : ∀ {ds : List D} {vs : List V}, ds.all flatD = true → Reps G F ds vs → vs = ds.map toV ∧ vs.all flatV = true
  | [], vs, _, r => by
    simp only [Reps] at r
    subst r
    exact ⟨rfl, rfl⟩
  | d :: ds, vs, h, r => by
    rw [List.all_cons, Bool.and_eq_true] at h
    simp only [Reps] at r
    obtain ⟨v, rest, rfl, r1, r2⟩ := r
    obtain ⟨e1, f1⟩ := flat_toV h.1 r1
    obtain ⟨e2, f2⟩ := flats_toV h.2 r2
    rw [e1, e2]
    refine ⟨rfl, ?_⟩
    rw [List.all_cons, f1, ← e2, f2]
    rfl
theorem eqF_V {d e : D} (h : flatD d = true) (h' : flatD e = true) : eqV (toV d) (toV e) = eqF d e := by
  cases d <;> cases e <;> first | rfl | (exfalso; revert h; simp [flatD]; done) | (exfalso; revert h'; simp [flatD]; done)
theorem inV_F {d : D} {ds : List D} (h : flatD d = true) (hs : ds.all flatD = true) : inV (toV d) (ds.map toV) = ds.any fun y => eqF y d := by
  unfold inV
  induction ds with
  | nil => rfl
  | cons y ds ih =>
    rw [List.all_cons, Bool.and_eq_true] at hs
    rw [List.map_cons, List.any_cons, List.any_cons, ih hs.2, eqF_V hs.1 h]
def rInA (K : PySem.W.Frag) : R2 := fun x y H Q => (∃ i j, x = .str i ∧ y = .str j ∧ Q (.bl (!(Builtin.Str.occurrences j i 0 j.length 1).isEmpty)) H) ∨ rIn K false x y H Q ∨ rInD K x y H Q
def rNotInA (K : PySem.W.Frag) : R2 := fun x y H Q => (∃ i j, x = .str i ∧ y = .str j ∧ Q (.bl (!(!(Builtin.Str.occurrences j i 0 j.length 1).isEmpty))) H) ∨ rIn K true x y H Q ∨ rNotInD K x y H Q
theorem op_inA {X : Cx} (hu : X.A.units + 65 < cLine) : OpR X (compareOp .In) (rInA X.K) := op_in_str.or (op_in_seq.or (op_inD hu))
theorem op_notInA {X : Cx} (hu : X.A.units + 65 < cLine) : OpR X (compareOp .NotIn) (rNotInA X.K) := op_notin_str.or (op_notIn_seq.or (op_notInD hu))
theorem prim_in_core {tx ty : T} {x y : V} {k : Bool} (s : Same F H) (b1 : Bor G F H tx x) (b2 : Bor G F H ty y) (h : pInB tx ty = some k) (neg : Bool) {Q : VK} (q : Q (.bl (if neg then !k else k)) H) :
    (∃ i j, x = .str i ∧ y = .str j ∧ k = !(Builtin.Str.occurrences j i 0 j.length 1).isEmpty) ∨ rIn G.K neg x y H Q ∨
      ∃ d ds, Dp G.K H x d ∧ Dp G.K H y (.list ds) ∧ SeqAt.shaped d = true ∧ SeqAt.shaped (.list ds) = true ∧ k = ds.any fun z => PyData.eqv z d := by
  unfold pInB at h
  split at h
  · cases h
    simp only [Bor, Rep] at b1 b2
    subst b1 b2
    exact .inl ⟨_, _, rfl, rfl, rfl⟩
  · rename_i d ds
    split at h
    · rename_i hf
      cases h
      rw [Bool.and_eq_true] at hf
      simp only [Bor] at b1
      obtain ⟨e1, f1⟩ := flat_toV hf.1 b1
      obtain ⟨a, vs, rfl, h1, r⟩ := tp_rep s b2 rfl
      obtain ⟨e2, f2⟩ := flats_toV hf.2 r
      subst e1
      exact .inr (.inl ⟨a, vs, rfl, .inr h1.sq, f1, f2, by rw [e2, inV_F hf.1 hf.2]; exact q⟩)
    · cases h
  · rename_i d y' _ _
    split at h
    · rename_i ds eds
      split at h
      · rename_i hf
        cases h
        rw [Bool.and_eq_true] at hf
        simp only [Bor] at b1
        obtain ⟨e1, f1⟩ := flat_toV hf.1 b1
        obtain ⟨a, vs, rfl, h1, r⟩ := ls_rep s b2 eds
        obtain ⟨e2, f2⟩ := flats_toV hf.2 r
        subst e1
        exact .inr (.inl ⟨a, vs, rfl, .inl (.of h1), f1, f2, by rw [e2, inV_F hf.1 hf.2]; exact q⟩)
      · split at h
        · rename_i p ps ep eps
          split at h
          · rename_i hs
            rw [Bool.and_eq_true] at hs
            cases h
            simp only [Bor] at b1
            obtain ⟨a, vs, rfl, h1, r⟩ := ls_rep s b2 eds
            exact .inr (.inr ⟨p, ps, Rep.dp _ _ _ (b1.mono s) ep, .lst (.of h1) (Reps.dp _ _ _ (r.mono s) eps), hs.1, hs.2, rfl⟩)
          · cases h
        · cases h
    · cases h
  · cases h
theorem prim_in : Prim2 G (rInA G.K) pIn := by
  intro tx ty x y F H Q s b1 b2 p
  unfold pIn at p
  cases e : pInB tx ty with
  | none => rw [e] at p; exact p.elim
  | some k =>
    rw [e] at p
    have q : Q (.bl k) H := PR.bl s p
    rcases prim_in_core s b1 b2 e false (Q := Q) (by simpa using q) with ⟨i, j, rfl, rfl, ek⟩ | h | ⟨d, ds, h1, h2, h3, h4, ek⟩
    · exact .inl ⟨i, j, rfl, rfl, by rw [← ek]; exact q⟩
    · exact .inr (.inl h)
    · exact .inr (.inr ⟨d, ds, h1, h2, h3, h4, by rw [← ek]; exact q⟩)
theorem prim_notIn : Prim2 G (rNotInA G.K) pNotIn := by
  intro tx ty x y F H Q s b1 b2 p
  unfold pNotIn at p
  cases e : pInB tx ty with
  | none => rw [e] at p; exact p.elim
  | some k =>
    rw [e] at p
    have q : Q (.bl !k) H := PR.bl s p
    rcases prim_in_core s b1 b2 e true (Q := Q) (by simpa using q) with ⟨i, j, rfl, rfl, ek⟩ | h | ⟨d, ds, h1, h2, h3, h4, ek⟩
    · exact .inl ⟨i, j, rfl, rfl, by rw [← ek]; exact q⟩
    · exact .inr (.inl h)
    · exact .inr (.inr ⟨d, ds, h1, h2, h3, h4, by rw [← ek]; exact q⟩)
end
end VS
namespace VS
open PySem PySem.Spec L2
open PyProof.Rows hiding St

/-! ### slices -/
def PBo (G : Kt) (fx : Fx) (W : L2.WX) (σ : St) (Q : Option Int → Hp → Prop) (env : En) (F H : Hp) (fp : List Addr) : R En (Option Int) → Prop
  | .ok o => ∀ F' H', Grow F H F' H' → Q o H'
  | .ex c fs e => ∀ cls d F' H' fp', Sta G fx e F' σ H' fp' → ExR G F' H' c fs cls d → Go F H fp F' H' fp' → W cls d σ H'
  | .no => False
def tBo (G : Kt) (fx : Fx) (W : L2.WX) (g : En → R En (Option Int)) : TO := fun σ H Q => ∃ env F fp, Sta G fx env F σ H fp ∧ PBo G fx W σ Q env F H fp (g env)
abbrev VO (X : Cx) (fx : Fx) (W : L2.WX) (e : Option Expr) (g : En → R En (Option Int)) : Prop := PO X e (tBo (kt X) fx W g)
theorem PO.imp {X : Cx} {e : Option Expr} {t t' : TO} (h : PO X e t) (k : ∀ σ H Q, t' σ H Q → t σ H Q) : PO X e t' := ⟨fun pins s σ H Q I q => h.run pins s σ H Q I (k σ H Q q)⟩
def T.int? : T → Option Int
  | .s (.int i) => some i
  | _ => none
theorem int?_eq {t : T} {b : Int} (h : t.int? = some b) : t = .s (.int b) := by
  cases t with
  | s d => cases d <;> first | (cases h; rfl) | cases h
  | _ => cases h
def noO : En → R En (Option Int) := fun _ => .ok none
def soO (ga : En → R En T) : En → R En (Option Int) := fun env => bnd (ga env) fun t => ofO t.int? fun i => .ok (some i)
section
variable {X : Cx} {fx : Fx} {W : L2.WX} {pos : Pos}
theorem vo_none : VO X fx W none noO := PO.imp po_none fun σ H Q h => by
  obtain ⟨env, F, fp, S, P⟩ := h
  exact P F H (.refl S.sub)
theorem vo_some {e : Expr} {ga : En → R En T} (h : VB X fx W e ga) : VO X fx W (some e) (soO ga) := PO.imp (po_some h) fun σ H Q q => by
  obtain ⟨env, F, fp, S, P⟩ := q
  refine ⟨env, F, fp, S, ?_⟩
  unfold soO at P
  cases ea : ga env with
  | no => rw [ea] at P; exact P
  | ex c fs e => rw [ea] at P; exact P
  | ok t =>
    rw [ea] at P
    cases et : t.int? with
    | none => simp only [bnd, et, ofO] at P; exact P.elim
    | some i =>
      simp only [bnd, et, ofO] at P
      have e := int?_eq et
      subst e
      intro v F' H' g b
      simp only [Bor, Rep] at b
      exact ⟨i, b, P F' H' g⟩
def cutL {α : Type} (xs : List α) (lo hi : Option Int) : List α := (xs.drop (HT.sIx xs.length 0 lo)).take (HT.sIx xs.length xs.length hi - HT.sIx xs.length 0 lo)
def pSl (t : T) (lo hi : Option Int) : Option T := match t with
  | .s (.str z) => if z.length ≤ sizeLine then some (.s (.str (cutS z lo hi))) else none
  | .s (.tup ds) => some (.s (.tup (cutL ds lo hi)))
  | t => t.ls.map fun ds => .l ((cutL ds lo hi).map T.s)
def rSl (K : PySem.W.Frag) : V → Option Int → Option Int → Hp → VK → Prop := fun x lo hi H Q => rSlL K x lo hi H Q ∨ rSlA K x lo hi H Q ∨ rSlS x lo hi H Q
theorem sl_any : SlR X (rSl X.K) := sl_list.or (sl_tupA.or sl_str)
theorem Reps.cut {G : Kt} {F : Hp} {ds : List D} {vs : List V} (r : Reps G F ds vs) (lo hi : Option Int) : Reps G F (cutL ds lo hi) (cutV vs lo hi) := by
  unfold cutL cutV
  rw [r.len]
  exact (r.drop _).take _
theorem prim_sl {G : Kt} {t : T} {x : V} {lo hi : Option Int} {F H : Hp} {Q : VK} (s : Same F H) (b : Bor G F H t x) (p : PR G F H Q (pSl t lo hi)) : rSl G.K x lo hi H Q := by
  unfold pSl at p
  split at p
  · simp only [Bor, Rep] at b
    subst b
    split at p
    · exact .inr (.inr ⟨_, rfl, by assumption, PR.val s p (by simp only [Rep])⟩)
    · exact p.elim
  · rename_i ds
    have b0 := b
    obtain ⟨a, vs, rfl, h1, r⟩ := tp_rep s b rfl
    refine .inr (.inl ⟨a, vs, rfl, h1.sq, fun hw => ?_, fun _ => PR.tup s p (r.cut lo hi)⟩)
    have e : cutL ds lo hi = ds := by
      unfold cutL
      rw [← r.len, hw.1, hw.2, List.drop_zero, r.len, Nat.sub_zero]
      exact List.take_length
    rw [e] at p
    exact PR.val s p b0
  · rename_i t' _ _
    cases e : t.ls with
    | none => rw [e] at p; exact p.elim
    | some ds =>
      rw [e] at p
      obtain ⟨a, vs, rfl, h1, r⟩ := ls_rep s b e
      exact .inl ⟨a, vs, rfl, .of h1, PR.lst s p (r.cut lo hi)⟩
def bSl (ga : En → R En T) (gl gh : En → R En (Option Int)) : En → R En T := fun env => bnd (ga env) fun t => bnd (gl env) fun l => bnd (gh env) fun h => ofO (pSl t l h) .ok
theorem tSl_of {ga : En → R En T} {gl gh : En → R En (Option Int)} {σ : St} {H : Hp} {Q : VK} {Z : R En T → (En → Hp → Hp → List Addr → Prop)}
    (hk : ∀ t l h env F H fp x, Sta (kt X) fx env F σ H fp → Bor (kt X) F H t x → Z (ofO (pSl t l h) .ok) env F H fp → PR (kt X) F H Q (pSl t l h))
    (hx : ∀ c fs e env F H fp cls d F' H' fp', Z (.ex c fs e) env F H fp → Sta (kt X) fx e F' σ H' fp' → ExR (kt X) F' H' c fs cls d → Go F H fp F' H' fp' → W cls d σ H')
    (hn : ∀ env F H fp, ¬ Z .no env F H fp)
    (hg : ∀ r env F H fp F' H', Z r env F H fp → Grow F H F' H' → Z r env F' H' fp)
    {env : En} {F : Hp} {fp : List Addr} (S : Sta (kt X) fx env F σ H fp) (P : Z (bSl ga gl gh env) env F H fp) : tSl (rSl X.K) (tB (kt X) fx W ga) (tBo (kt X) fx W gl) (tBo (kt X) fx W gh) σ H Q := by
  refine ⟨env, F, fp, S, ?_⟩
  unfold bSl at P
  cases ea : ga env with
  | no => rw [ea] at P; exact hn _ _ _ _ P
  | ex c fs e => rw [ea] at P; exact fun cls d F' H' fp' S' x g => hx _ _ _ _ _ _ _ _ _ _ _ _ P S' x g
  | ok t =>
    rw [ea] at P
    intro x F1 H1 g1 b1
    have S1 := S.grow g1
    have P1 := hg _ _ _ _ _ _ _ P g1
    refine ⟨env, F1, fp, S1, ?_⟩
    cases el : gl env with
    | no => simp only [bnd, el] at P1; exact hn _ _ _ _ P1
    | ex c fs e => simp only [bnd, el] at P1; exact fun cls d F' H' fp' S' x g => hx _ _ _ _ _ _ _ _ _ _ _ _ P1 S' x g
    | ok l =>
      simp only [bnd, el] at P1
      intro F2 H2 g2
      have S2 := S1.grow g2
      have P2 := hg _ _ _ _ _ _ _ P1 g2
      refine ⟨env, F2, fp, S2, ?_⟩
      cases eh : gh env with
      | no => simp only [eh] at P2; exact hn _ _ _ _ P2
      | ex c fs e => simp only [eh] at P2; exact fun cls d F' H' fp' S' x g => hx _ _ _ _ _ _ _ _ _ _ _ _ P2 S' x g
      | ok h =>
        simp only [eh] at P2
        intro F3 H3 g3
        have S3 := S2.grow g3
        have P3 := hg _ _ _ _ _ _ _ P2 g3
        have b3 := b1.mono (g2.trans g3).f (g2.trans g3).h
        exact prim_sl S3.sub b3 (hk t l h env F3 H3 fp x S3 b3 P3)
theorem vb_slice {e : Expr} {lo hi : Option Expr} {p2 : Pos} {ga : En → R En T} {gl gh : En → R En (Option Int)} (he : VB X fx W e ga) (hl : VO X fx W lo gl) (hh : VO X fx W hi gh) : VB X fx W (.Subscript e (.Slice lo hi none p2) pos) (bSl ga gl gh) := PE.imp (pe_slice sl_any he hl hh) fun σ H Q h => by
  obtain ⟨env, F, fp, S, P⟩ := h
  exact tSl_of (Z := ZB (kt X) fx W σ Q) (fun t l h env F H fp x S b z => PR.zb z) (fun _ _ _ _ _ _ _ _ _ _ _ _ z => ZB.ex z) (fun _ _ _ _ z => z) (fun _ _ _ _ _ _ _ z => z.grow) S P
theorem vv_slice {e : Expr} {lo hi : Option Expr} {p2 : Pos} {ga : En → R En T} {gl gh : En → R En (Option Int)} (he : VB X fx W e ga) (hl : VO X fx W lo gl) (hh : VO X fx W hi gh) : VE X fx W (.Subscript e (.Slice lo hi none p2) pos) (bv (bSl ga gl gh)) := PE.imp (pe_slice sl_any he hl hh) fun σ H Q h => by
  obtain ⟨env, F, fp, S, P⟩ := h
  exact tSl_of (Z := ZV (kt X) fx W σ Q) (fun t l h env F H fp x S b z => PR.zv S z) (fun _ _ _ _ _ _ _ _ _ _ _ _ z => z.ex) (fun _ _ _ _ z => z) (fun _ _ _ _ _ _ _ z => z.grow) S P

/-! ### methods of built-in types that change nothing -/
def tyOk : String → T → Bool
  | "str", .s (.str _) => true
  | "list", t => t.ls.isSome
  | _, _ => false
theorem tyV_of {G : Kt} {F H : Hp} {n : String} {t : T} {x : V} (s : Same F H) (b : Bor G F H t x) (h : tyOk n t = true) : tyV G.K n x H := by
  unfold tyOk at h
  split at h
  · simp only [Bor, Rep] at b
    subst b
    exact rfl
  · cases e : t.ls with
    | none => rw [e] at h; cases h
    | some ds =>
      obtain ⟨a, vs, rfl, h1, r⟩ := ls_rep s b e
      exact .inl ⟨rfl, vs, .of h1⟩
  · cases h
def PrimM (G : Kt) (r : V → List V → Hp → VK → Prop) (g : T → List T → Option T) : Prop := ∀ t ts x xs F H Q, Same F H → Bor G F H t x → Bors G F H ts xs → PR G F H Q (g t ts) → r x xs H Q
def bM (n : String) (g : T → List T → Option T) (ga : En → R En T) (gs : En → R En (List T)) : En → R En T := fun env => bnd (ga env) fun t => if tyOk n t then bnd (gs env) fun ts => ofO (g t ts) .ok else .no
theorem tBM_of {tn : String} {r : V → List V → Hp → VK → Prop} {g : T → List T → Option T} {ga : En → R En T} {gs : En → R En (List T)} {σ : St} {H : Hp} {Q : VK} (pr : PrimM (kt X) r g) {Z : R En T → (En → Hp → Hp → List Addr → Prop)}
    (hk : ∀ o env F H fp, Sta (kt X) fx env F σ H fp → Z (ofO o .ok) env F H fp → PR (kt X) F H Q o)
    (hx : ∀ c fs e env F H fp cls d F' H' fp', Z (.ex c fs e) env F H fp → Sta (kt X) fx e F' σ H' fp' → ExR (kt X) F' H' c fs cls d → Go F H fp F' H' fp' → W cls d σ H')
    (hn : ∀ env F H fp, ¬ Z .no env F H fp)
    (hg : ∀ r env F H fp F' H', Z r env F H fp → Grow F H F' H' → Z r env F' H' fp)
    {env : En} {F : Hp} {fp : List Addr} (S : Sta (kt X) fx env F σ H fp) (P : Z (bM tn g ga gs env) env F H fp) : tBM X.K tn r (tB (kt X) fx W ga) (tBs (kt X) fx W gs) σ H Q := by
  refine ⟨env, F, fp, S, ?_⟩
  unfold bM at P
  cases ea : ga env with
  | no => rw [ea] at P; exact hn _ _ _ _ P
  | ex c fs e => rw [ea] at P; exact fun cls d F' H' fp' S' x g => hx _ _ _ _ _ _ _ _ _ _ _ _ P S' x g
  | ok t =>
    rw [ea] at P
    intro x F1 H1 g1 b1
    have S1 := S.grow g1
    have P1 := hg _ _ _ _ _ _ _ P g1
    simp only [bnd] at P1
    split at P1
    · rename_i hty
      refine ⟨tyV_of S1.sub b1 hty, env, F1, fp, S1, ?_⟩
      cases es : gs env with
      | no => rw [es] at P1; exact hn _ _ _ _ P1
      | ex c fs e => rw [es] at P1; exact fun cls d F' H' fp' S' x g => hx _ _ _ _ _ _ _ _ _ _ _ _ P1 S' x g
      | ok ts =>
        rw [es] at P1
        intro xs F2 H2 g2 b2
        exact pr t ts x xs F2 H2 Q g2.sub (b1.mono g2.f g2.h) b2 (hk _ env F2 H2 fp (S1.grow g2) (hg _ _ _ _ _ _ _ P1 g2))
    · exact (hn _ _ _ _ P1).elim
section
variable {o e : Expr} {es : List Expr} {name : Str} {apos cpos : Pos} {tn id : String} {r : V → List V → Hp → VK → Prop} {g : T → List T → Option T} {ga : En → R En T} {gs : En → R En (List T)}
theorem vb_m (pa : PlainAttrs tn) (slot : Slot tn name id) (hty : typeOf (.builtin id) = pure (.type "method_descriptor")) (hm : MtR X id r) (pr : PrimM (kt X) r g) (ho : VB X fx W o ga) (ha : VBs X fx W (e :: es) gs)
    (hbase : attributeBase o name X.env (eval o X.env) = eval o X.env := by rfl)
    (hfew : ((backTo cpos (starEach (e :: es) X.env)).all (fun x => !x.1) && (backToKw cpos (keywordEach [] X.env)).all (fun x => x.1.isSome)
      && decide ((e :: es).length + ([] : List Keyword).length + (if ([] : List Keyword).isEmpty then 0 else 1) < 30)) = true := by rfl)
    (hline : (apos.endLine == cpos.line) = true := by rfl) (hs : starEach (e :: es) X.env = (false, eval e X.env) :: starEach es X.env := by rfl) (hplain : (backTo cpos (starEach es X.env)).any (·.1) = false := by rfl) :
    VB X fx W (.Call (.Attribute o name apos) (e :: es) [] cpos) (bM tn g ga gs) := PE.imp (pe_bm pa slot hty hm ho ha hbase hfew hline hs hplain) fun σ H Q h => by
  obtain ⟨env, F, fp, S, P⟩ := h
  exact tBM_of pr (Z := ZB (kt X) fx W σ Q) (fun o env F H fp S z => PR.zb z) (fun _ _ _ _ _ _ _ _ _ _ _ _ z => ZB.ex z) (fun _ _ _ _ z => z) (fun _ _ _ _ _ _ _ z => z.grow) S P
/-- the arguments held (and what they need changed) -/
def eM (n : String) (g : T → List T → Option T) (ga : En → R En T) (fs : En → R En (List T × En)) : En → R En (T × En) := fun env => bnd (ga env) fun t => match t with
  | .s d => if tyOk n (.s d) then bnd (fs env) fun a => ofO (g (.s d) a.1) fun t => .ok (t, a.2) else .no
  | _ => .no
theorem ve_m {fs : En → R En (List T × En)} (pa : PlainAttrs tn) (slot : Slot tn name id) (hty : typeOf (.builtin id) = pure (.type "method_descriptor")) (hm : MtR X id r) (pr : PrimM (kt X) r g) (ho : VB X fx W o ga) (ha : VEs X fx W (e :: es) fs)
    (hbase : attributeBase o name X.env (eval o X.env) = eval o X.env := by rfl)
    (hfew : ((backTo cpos (starEach (e :: es) X.env)).all (fun x => !x.1) && (backToKw cpos (keywordEach [] X.env)).all (fun x => x.1.isSome)
      && decide ((e :: es).length + ([] : List Keyword).length + (if ([] : List Keyword).isEmpty then 0 else 1) < 30)) = true := by rfl)
    (hline : (apos.endLine == cpos.line) = true := by rfl) (hs : starEach (e :: es) X.env = (false, eval e X.env) :: starEach es X.env := by rfl) (hplain : (backTo cpos (starEach es X.env)).any (·.1) = false := by rfl) :
    VE X fx W (.Call (.Attribute o name apos) (e :: es) [] cpos) (eM tn g ga fs) := PE.imp (pe_bm pa slot hty hm ho ha hbase hfew hline hs hplain) fun σ H Q h => by
  obtain ⟨env, F, fp, S, P⟩ := h
  refine ⟨env, F, fp, S, ?_⟩
  unfold eM at P
  cases ea : ga env with
  | no => rw [ea] at P; exact P
  | ex c fs e => rw [ea] at P; exact P
  | ok t =>
    rw [ea] at P
    cases t with
    | s d =>
      simp only [bnd] at P
      split at P
      · rename_i hty
        intro x F1 H1 g1 b1
        refine ⟨tyV_of g1.sub b1 hty, env, F1, fp, S.grow g1, ?_⟩
        cases es : fs env with
        | no => rw [es] at P; exact P
        | ex c fs e => rw [es] at P; exact fun cls d F' H' fp' S' x g => P cls d F' H' fp' S' x ((g1.go fp).trans g)
        | ok a =>
          obtain ⟨ts, e2⟩ := a
          rw [es] at P
          intro xs F2 H2 fp2 f2 S2 o2 nd2 off2 g2
          have P2 := PV.go (r := ofO (g (.s d) ts) fun t => .ok (t, e2)) P ((g1.go fp).trans g2)
          exact pr (.s d) ts x xs F2 H2 Q S2.sub (by simp only [Bor] at b1 ⊢; exact b1.mono g2.f) (Owns.bor _ _ _ o2) (PR.pv S2 (fun p hp => List.mem_append_left _ hp) P2)
      · exact P.elim
    | l _ => exact P.elim
    | dk _ => exact P.elim
    | ob _ _ => exact P.elim
    | p _ => exact P.elim
end
/-- sep.join(xs) -/
def strsO : List D → Option (List Str)
  | [] => some []
  | .str x :: ds => (strsO ds).map (x :: ·)
  | _ :: _ => none
theorem strsO_rep {G : Kt} {F : Hp} : ∀ {ds : List D} {ys : List Str} {vs : List V}, strsO ds = some ys → Reps G F ds vs → vs = ys.map V.str
  | [], ys, vs, e, r => by
    cases e
    simp only [Reps] at r
    exact r
  | .str x :: ds, ys, vs, e, r => by
    simp only [strsO, Option.map_eq_some_iff] at e
    obtain ⟨zs, e, rfl⟩ := e
    simp only [Reps, Rep] at r
    obtain ⟨v, rest, rfl, rfl, r2⟩ := r
    rw [strsO_rep e r2]
    rfl
  | .non :: _, _, _, e, _ => nomatch e
  | .bl _ :: _, _, _, e, _ => nomatch e
  | .int _ :: _, _, _, e, _ => nomatch e
  | .lst _ :: _, _, _, e, _ => nomatch e
  | .tup _ :: _, _, _, e, _ => nomatch e
  | .scr _ :: _, _, _, e, _ => nomatch e
  | .ty _ :: _, _, _, e, _ => nomatch e
  | .dk _ :: _, _, _, e, _ => nomatch e
  | .ob _ _ :: _, _, _, e, _ => nomatch e
def lsT : T → Option (List D)
  | .s (.tup ds) => some ds
  | t => t.ls
def pJoin : T → List T → Option T
  | .s (.str a), [t] => ((lsT t).bind strsO).bind fun ys => if (ys.map (·.length)).sum + ys.length * a.length ≤ 16777216 then some (.s (.str (Txt.join a ys))) else none
  | _, _ => none
theorem prim_join {G : Kt} : PrimM G (fun x xs H Q => ∃ a p, ∃ ys : List Str, x = .str a ∧ xs = [.ref p] ∧ (SqL G.K H p (ys.map V.str) ∨ SqT G.K H p (ys.map V.str)) ∧ (ys.map (·.length)).sum + ys.length * a.length ≤ 16777216 ∧ Q (.str (Txt.join a ys)) H) pJoin := by
  intro t ts x xs F H Q s b bs p
  unfold pJoin at p
  split at p
  · rename_i a t
    simp only [Bor, Rep] at b
    subst b
    have b0 := bs.one
    clear bs
    obtain ⟨v, rfl, bt⟩ := b0
    cases e : (lsT t).bind strsO with
    | none => rw [e] at p; exact p.elim
    | some ys =>
      rw [e] at p
      obtain ⟨ds, e1, e2⟩ := Option.bind_eq_some_iff.mp e
      simp only [Option.bind_some] at p
      split at p
      · rename_i hz
        have q : Q (.str (Txt.join a ys)) H := PR.val s p (by simp only [Rep])
        unfold lsT at e1
        split at e1
        · cases e1
          obtain ⟨l, vs, rfl, h1, r⟩ := tp_rep s bt rfl
          rw [strsO_rep e2 r] at h1
          exact ⟨a, l, ys, rfl, rfl, .inr h1.sq, hz, q⟩
        · obtain ⟨l, vs, rfl, h1, r⟩ := ls_rep s bt e1
          rw [strsO_rep e2 r] at h1
          exact ⟨a, l, ys, rfl, rfl, .inl (.of h1), hz, q⟩
      · exact p.elim
  · exact p.elim
def pStarts : T → List T → Option T
  | .s (.str a), [.s (.str b)] => some (.s (.bl (Txt.startswith a b)))
  | _, _ => none
theorem prim_starts {G : Kt} : PrimM G (fun x xs H Q => ∃ a b, x = .str a ∧ xs = [.str b] ∧ Q (.bl (Txt.startswith a b)) H) pStarts := by
  intro t ts x xs F H Q s b bs p
  unfold pStarts at p
  split at p
  · simp only [Bor, Rep] at b
    subst b
    have b0 := bs.one
    clear bs
    obtain ⟨v, rfl, bt⟩ := b0
    simp only [Bor, Rep] at bt
    subst bt
    exact ⟨_, _, rfl, rfl, PR.bl s p⟩
  · exact p.elim
/-- xs.index(y): flat items -/
def idxD (d : D) : List D → Option Nat
  | [] => none
  | y :: ds => if eqF y d then some 0 else (idxD d ds).map (· + 1)
def pIndex : T → List T → Option T
  | t, [.s d] => t.ls.bind fun ds => if flatD d && ds.all flatD then (idxD d ds).map fun n => .s (.int n) else none
  | _, _ => none
theorem idxD_some {d : D} : ∀ {ds : List D} {n : Nat}, idxD d ds = some n → ∃ z, ds[n]? = some z ∧ eqF z d = true ∧ ∀ m z', m < n → ds[m]? = some z' → eqF z' d = false
  | [], n, h => nomatch h
  | y :: ds, n, h => by
    unfold idxD at h
    split at h
    · rename_i hy
      cases h
      exact ⟨y, rfl, hy, fun m z' hm => absurd hm (Nat.not_lt_zero _)⟩
    · rename_i hy
      rw [Option.map_eq_some_iff] at h
      obtain ⟨k, h, rfl⟩ := h
      obtain ⟨z, h1, h2, h3⟩ := idxD_some h
      refine ⟨z, by simpa using h1, h2, fun m z' hm hz => ?_⟩
      cases m with
      | zero =>
        have e : y = z' := by simpa using hz
        subst e
        simpa using hy
      | succ m => exact h3 m z' (by omega) (by simpa using hz)
theorem prim_index {G : Kt} : PrimM G (rIndex G.K) pIndex := by
  intro t ts x xs F H Q s b bs p
  unfold pIndex at p
  split at p
  · rename_i t' d
    have b0 := bs.one
    clear bs
    obtain ⟨v, rfl, bt⟩ := b0
    cases e : t.ls with
    | none => rw [e] at p; exact p.elim
    | some ds =>
      rw [e] at p
      simp only [Option.bind_some] at p
      split at p
      · rename_i hf
        rw [Bool.and_eq_true] at hf
        cases ei : idxD d ds with
        | none => rw [ei] at p; exact p.elim
        | some n =>
          rw [ei] at p
          obtain ⟨z, h1, h2, h3⟩ := idxD_some ei
          obtain ⟨a, vs, rfl, ha, r⟩ := ls_rep s b e
          simp only [Bor] at bt
          obtain ⟨e1, f1⟩ := flat_toV hf.1 bt
          obtain ⟨e2, f2⟩ := flats_toV hf.2 r
          subst e1
          have fz : flatD z = true := List.all_eq_true.mp hf.2 z (List.mem_of_getElem? h1)
          refine ⟨a, vs, toV d, n, toV z, rfl, rfl, .of ha, f1, f2, by rw [e2, List.getElem?_map, h1]; rfl, by rw [eqF_V fz hf.1]; exact h2, fun m z' hm hz => ?_, PR.val s p (by simp only [Rep])⟩
          rw [e2, List.getElem?_map] at hz
          cases ez : ds[m]? with
          | none => rw [ez] at hz; cases hz
          | some w =>
            rw [ez] at hz
            cases hz
            rw [eqF_V (List.all_eq_true.mp hf.2 w (List.mem_of_getElem? ez)) hf.1]
            exact h3 m w hm ez
      · exact p.elim
  · exact p.elim

/-! ### objects that a name holds, changed -/
/-- x.append(e) -/
def apS (i : Nat) (f : En → R En (T × En)) : En → R En (Fl × En) := fun env => match env[i]? with
  | some (some (.l _)) => bnd (f env) fun a => match a.2[i]? with
    | some (some (.l ts)) => if ts.length < sizeLine then .ok (.nx, a.2.set i (some (.l (ts ++ [a.1])))) else .no
    | _ => .no
  | _ => .no
theorem Owns.append {G : Kt} {F H : Hp} {t : T} {v : V} {ft : List Addr} : ∀ {ts : List T} {vs : List V} {fp : List Addr}, Owns G F H ts vs fp → Own G F H t v ft → Owns G F H (ts ++ [t]) (vs ++ [v]) (fp ++ ft)
  | [], vs, fp, h, o => by
    simp only [Owns] at h
    obtain ⟨rfl, rfl⟩ := h
    simp only [List.nil_append, Owns]
    exact ⟨v, [], ft, [], rfl, o, ⟨rfl, rfl⟩, by simp⟩
  | u :: ts, vs, fp, h, o => by
    simp only [Owns] at h
    obtain ⟨w, r, f1, f2, rfl, h1, h2, rfl⟩ := h
    simp only [List.cons_append, Owns]
    exact ⟨w, r ++ [v], f1, f2 ++ ft, rfl, h1, h2.append o, by simp⟩
/-- the object at p is written: what does not hold p stays -/
theorem keep_upd {H : Hp} {p : Addr} {o : HO} {fp : List Addr} (h : p ∉ fp) : ∀ q ∈ fp, ∀ u, H q = some u → upd H p o q = some u := fun q hq u e => by
  rw [upd_ne (show q ≠ p from fun z => h (by rw [← z]; exact hq))]
  exact e
theorem vs_append {i : Nat} {x : Str} {e : Expr} {f : En → R En (T × En)} {np apos cpos : Pos} (hN : X.N[i]? = some x) (hv : Vis X.env.scope x) (he : VE X fx W e f)
    (hbase : attributeBase (.Name x np) "append" X.env (eval (.Name x np) X.env) = eval (.Name x np) X.env := by rfl)
    (hfew : ((backTo cpos (starEach [e] X.env)).all (fun x => !x.1) && (backToKw cpos (keywordEach [] X.env)).all (fun x => x.1.isSome)
      && decide (([e] : List Expr).length + ([] : List Keyword).length + (if ([] : List Keyword).isEmpty then 0 else 1) < 30)) = true := by rfl)
    (hline : (apos.endLine == cpos.line) = true := by rfl) (hst : starEach [e] X.env = (false, eval e X.env) :: starEach [] X.env := by rfl) (hplain : (backTo cpos (starEach [] X.env)).any (·.1) = false := by rfl)
    (hs : swapsWith (.Call (.Attribute (.Name x np) "append" apos) [e] [] cpos) none pos.line X.env = pure false := by rfl) (hd : (x == ("__debug__" : Str)) = false := by decide) (hcd : (x == ("__classdict__" : Str)) = false := by decide) :
    VS1 X fx W (.Expr (.Call (.Attribute (.Name x np) "append" apos) [e] [] cpos) pos) (apS i f) :=
  PS.imp (ps_expr (pe_bm PySem.F.plainAttrs_list PySem.F.slot_list_append PySem.F.type_list_append mt_append (pe_var hN hv hd hcd) (pa_cons he pa_nil hst) hbase hfew hline hst hplain) hs) fun D σ H h => by
    obtain ⟨env, F, fp, S, P⟩ := h
    unfold apS at P
    split at P
    · rename_i ts0 e0
      obtain ⟨a, b, c, s, _, hs, o, _⟩ := S.own.split e0
      obtain ⟨v, rfl, o⟩ := o
      simp only [Own] at o
      obtain ⟨l, vs, f1, rfl, hl, _, _⟩ := o
      refine ⟨.ref l, hs, .inl ⟨rfl, vs, .of hl⟩, ?_⟩
      refine ⟨env, F, fp, S, ?_⟩
      cases ea : f env with
      | no => rw [ea] at P; exact P
      | ex c fs e => rw [ea] at P; exact fun cls d F' H' fp' S' x g => P cls d σ F' H' fp' S' x g
      | ok a =>
        obtain ⟨t, e1⟩ := a
        rw [ea] at P
        simp only [bnd] at P
        intro u F1 H1 fp1 ft S1 o1 nd1 off1 g1
        split at P
        · rename_i ts e2
          split at P
          · rename_i hz
            obtain ⟨a, b, c, s, rfl, hs2, o, k⟩ := S1.own.split e2
            obtain ⟨v2, rfl, o⟩ := o
            have ev : v2 = .ref l := by
              rw [hs] at hs2
              cases hs2; rfl
            subst ev
            simp only [Own] at o
            obtain ⟨l', vs', f1, el, hl', os, rfl⟩ := o
            cases el
            have len := (Owns.bor _ _ _ os).len
            refine ⟨l, vs', u, rfl, rfl, hl', by omega, ?_⟩
            have nda : (a ++ (l :: f1 ++ c) ++ ft).Nodup := nd1
            have nl : l ∉ a ++ c ∧ l ∉ f1 ∧ l ∉ ft := by
              have pm : (a ++ (l :: f1 ++ c) ++ ft).Perm (l :: (a ++ (f1 ++ c) ++ ft)) := by
                simp only [List.cons_append, List.append_assoc]
                exact List.perm_middle
              have := List.nodup_cons.mp (pm.nodup_iff.mp nda)
              refine ⟨fun z => this.1 ?_, fun z => this.1 ?_, fun z => this.1 ?_⟩
              · simp only [List.mem_append] at z ⊢
                rcases z with z | z
                · exact .inl (.inl z)
                · exact .inl (.inr (.inr z))
              · simp [z]
              · simp [z]
            have k' := k F1 (upd H1 l (.lst (vs' ++ [u]))) (some (.l (ts ++ [t]))) (some (.ref l)) (l :: (f1 ++ ft)) (.refl _) (keep_upd nl.1)
              ⟨.ref l, rfl, l, vs' ++ [u], f1 ++ ft, rfl, upd_same, Owns.append (Owns.mono (.refl _) _ _ _ (keep_upd nl.2.1) os) (Own.mono (.refl _) _ _ _ (keep_upd nl.2.2) o1), rfl⟩
            rw [set_self hs2] at k'
            have pm2 : (a ++ (l :: f1 ++ c) ++ ft).Perm (a ++ (l :: (f1 ++ ft) ++ c)) := by
              simp only [List.cons_append, List.append_assoc]
              refine List.Perm.append_left a (List.Perm.cons l (List.Perm.append_left f1 List.perm_append_comm))
            refine P σ F1 _ _ ⟨k', pm2.nodup_iff.mp nd1, fun p hp => ?_, fun p o ep => ?_, S1.fix, S1.pin⟩ (g1.trans ⟨.refl _, fun _ _ h => .inl h, fun p o ep np => ?_, fun p hp => .inl (pm2.mem_iff.mpr hp)⟩)
            · have := pm2.mem_iff.mpr hp
              rcases List.mem_append.mp this with z | z
              · exact S1.off p z
              · exact off1 p z
            · have ne : p ≠ l := fun z => by
                subst z
                rw [S1.off p (by simp)] at ep; cases ep
              rw [upd_ne ne]
              exact S1.sub _ _ ep
            · have ne : p ≠ l := fun z => by
                subst z
                exact np (by simp)
              rw [upd_ne ne]; exact ep
          · exact P.elim
        · exact P.elim
    · exact P.elim
end
end VS
namespace VS
open PySem PySem.Spec L2
open PyProof.Rows hiding St

section
variable {G : Kt} {fx : Fx} {W : L2.WX} {σ : St}
/-- the object of slot i is written -/
theorem Sta.wr {i : Nat} {e : En} {t0 : T} {F H : Hp} {fp ft : List Addr} {v : V} (S : Sta G fx e F σ H fp) (hi : e[i]? = some (some t0)) (hs : σ[i]? = some (some v)) (nd : (fp ++ ft).Nodup) (off : ∀ p ∈ ft, F p = none) :
    ∃ b, Own G F H t0 v b ∧ b.Nodup ∧ (∀ p ∈ b, p ∉ ft) ∧ (∀ p ∈ b, p ∈ fp) ∧ ∀ (l : Addr) (o : HO) (t1 : T) (b' : List Addr), l ∈ b → (Own G F (upd H l o) t1 v b') → b'.Nodup → (∀ p ∈ b', p ∈ b ∨ p ∈ ft) →
      ∃ fp', Sta G fx (e.set i (some t1)) F σ (upd H l o) fp' ∧ Go F H (fp ++ ft) F (upd H l o) fp' := by
  obtain ⟨a, b, c, s, rfl, hs2, ob, k⟩ := S.own.split hi
  obtain ⟨v2, rfl, ob⟩ := ob
  have ev : v2 = v := by
    rw [hs] at hs2
    cases hs2; rfl
  subst ev
  have pm : (a ++ (b ++ c) ++ ft).Perm (b ++ (a ++ c ++ ft)) := by
    have e1 := (List.perm_append_comm (l₁ := a) (l₂ := b)).append_right (c ++ ft)
    simpa only [List.append_assoc] using e1
  have ndp := List.nodup_append.mp (pm.nodup_iff.mp nd)
  refine ⟨b, ob, ndp.1, fun p hp z => ndp.2.2 p hp p (List.mem_append_right _ z) rfl, fun p hp => by simp [hp], fun l o t1 b' hl o1 nd1 sub => ?_⟩
  have nl : l ∉ a ++ c := fun z => ndp.2.2 l hl l (List.mem_append_left _ z) rfl
  have k' := k F (upd H l o) (some t1) (some v2) b' (.refl _) (keep_upd nl) ⟨v2, rfl, o1⟩
  rw [set_self hs2] at k'
  have ndac := (List.nodup_append.mp ndp.2.1)
  have dis : ∀ p ∈ b', p ∉ a ++ c := fun p hp z => by
    rcases sub p hp with y | y
    · exact ndp.2.2 p y p (List.mem_append_left _ z) rfl
    · exact ndac.2.2 p z p y rfl
  have memb : ∀ p ∈ a ++ (b' ++ c), p ∈ a ++ (b ++ c) ++ ft := fun p hp => by
    simp only [List.mem_append] at hp ⊢
    rcases hp with z | z | z
    · exact .inl (.inl z)
    · exact (sub p z).imp (fun y => .inr (.inl y)) id
    · exact .inl (.inr (.inr z))
  refine ⟨a ++ (b' ++ c), ⟨k', ?_, fun p hp => ?_, fun p u ep => ?_, S.fix, S.pin⟩, ⟨.refl _, fun _ _ h => .inl h, fun p u ep np => ?_, fun p hp => .inl (memb p hp)⟩⟩
  · have p2 : (a ++ (b' ++ c)).Perm (b' ++ (a ++ c)) := by
      have e1 := (List.perm_append_comm (l₁ := a) (l₂ := b')).append_right c
      simpa only [List.append_assoc] using e1
    exact p2.nodup_iff.mpr (List.nodup_append.mpr ⟨nd1, ndac.1, fun x hx y hy e => by subst e; exact dis x hx hy⟩)
  · rcases List.mem_append.mp (memb p hp) with z | z
    · exact S.off p z
    · exact off p z
  · have ne : p ≠ l := fun z => by
      subst z
      rw [S.off p (by simp [hl])] at ep; cases ep
    rw [upd_ne ne]
    exact S.sub _ _ ep
  · have ne : p ≠ l := fun z => by
      subst z
      exact np (by simp [hl])
    rw [upd_ne ne]; exact ep
theorem Sta.slot {i : Nat} {e : En} {t0 : T} {F H : Hp} {fp : List Addr} (S : Sta G fx e F σ H fp) (hi : e[i]? = some (some t0)) : ∃ v b, σ[i]? = some (some v) ∧ Own G F H t0 v b := by
  obtain ⟨a, b, c, s, rfl, hs, ob, k⟩ := S.own.split hi
  obtain ⟨v, rfl, ob⟩ := ob
  exact ⟨v, b, hs, ob⟩
/-- an item of an owned list replaced -/
theorem Owns.set {F H : Hp} {t : T} {v : V} {ft : List Addr} : ∀ {ts : List T} {vs : List V} {fp : List Addr} (j : Nat), Owns G F H ts vs fp → Own G F H t v ft → (fp ++ ft).Nodup →
    ∃ fp', Owns G F H (ts.set j t) (vs.set j v) fp' ∧ fp'.Nodup ∧ ∀ p ∈ fp', p ∈ fp ++ ft
  | [], vs, fp, j, h, o, nd => by
    simp only [Owns] at h
    obtain ⟨rfl, rfl⟩ := h
    exact ⟨[], ⟨rfl, rfl⟩, List.nodup_nil, by simp⟩
  | u :: ts, vs, fp, 0, h, o, nd => by
    simp only [Owns] at h
    obtain ⟨w, r, f1, f2, rfl, h1, h2, rfl⟩ := h
    have pm : (f1 ++ f2 ++ ft).Perm (f1 ++ (ft ++ f2)) := by
      rw [List.append_assoc]
      exact List.Perm.append_left f1 List.perm_append_comm
    exact ⟨ft ++ f2, ⟨v, r, ft, f2, rfl, o, h2, rfl⟩, (List.nodup_append.mp (pm.nodup_iff.mp nd)).2.1, fun p hp => by
      simp only [List.mem_append] at hp ⊢
      rcases hp with z | z
      · exact .inr z
      · exact .inl (.inr z)⟩
  | u :: ts, vs, fp, j + 1, h, o, nd => by
    simp only [Owns] at h
    obtain ⟨w, r, f1, f2, rfl, h1, h2, rfl⟩ := h
    have nd' : (f1 ++ (f2 ++ ft)).Nodup := by rw [← List.append_assoc]; exact nd
    obtain ⟨fp', o', n', s'⟩ := Owns.set j h2 o (List.nodup_append.mp nd').2.1
    refine ⟨f1 ++ fp', ⟨w, r.set j v, f1, fp', rfl, h1, o', rfl⟩, List.nodup_append.mpr ⟨(List.nodup_append.mp nd').1, n', fun x hx y hy e => ?_⟩, fun p hp => ?_⟩
    · exact (List.nodup_append.mp nd').2.2 x hx y (s' y hy) e
    · rw [List.append_assoc]
      rcases List.mem_append.mp hp with z | z
      · exact List.mem_append_left _ z
      · exact List.mem_append_right _ (s' p z)
end

section
variable {X : Cx} {fx : Fx} {W : L2.WX} {pos : Pos}
/-- x[k] = e, x a name that holds a list -/
def siS (i : Nat) (fk fv : En → R En (T × En)) : En → R En (Fl × En) := fun env => bnd (fv env) fun a => match a.2[i]? with
  | some (some (.l _)) => bnd (fk a.2) fun b => ofO b.1.int? fun n => match b.2[i]? with
    | some (some (.l ts)) => ofO (ixN ts.length n) fun j => .ok (.nx, b.2.set i (some (.l (ts.set j a.1))))
    | _ => .no
  | _ => .no
theorem vs_setitem {i : Nat} {x : Str} {e k : Expr} {fk fv : En → R En (T × En)} {np tp : Pos} (hN : X.N[i]? = some x) (hv : Vis X.env.scope x) (hk : VE X fx W k fk) (he : VE X fx W e fv)
    (ha : ∀ v, assign (.Subscript (.Name x np) k tp) X.env v = (do
      let ov ← holding [v] (eval (.Name x np) X.env)
      let iv ← holding [v, ov] (eval k X.env)
      standAt tp
      holding [v, ov, iv] (setItem ov iv v)
      release [v, ov, iv] []) := by intro _; rfl)
    (hs : swapsWithSole [.Subscript (.Name x np) k tp] e pos.line X.env = pure false := by rfl) (hw : swappedStores [.Subscript (.Name x np) k tp] e X.env = pure none := by rfl)
    (h1 : (assignEach [.Subscript (.Name x np) k tp] X.env).map (·.2) = [assign (.Subscript (.Name x np) k tp) X.env] := by rfl) (hd : (x == ("__debug__" : Str)) = false := by decide) (hcd : (x == ("__classdict__" : Str)) = false := by decide) :
    VS1 X fx W (.Assign [.Subscript (.Name x np) k tp] e pos) (siS i fk fv) :=
  PS.imp (ps_asg he (pg_sub (pe_var hN hv hd hcd) hk set_list ha) hs hw h1) fun D σ H h => by
    obtain ⟨env, F, fp, S, P⟩ := h
    unfold siS at P
    refine ⟨env, F, fp, S, ?_⟩
    cases ea : fv env with
    | no => rw [ea] at P; exact P
    | ex c fs e => rw [ea] at P; exact fun cls d F' H' fp' S' x g => P cls d σ F' H' fp' S' x g
    | ok a =>
      obtain ⟨t, e1⟩ := a
      rw [ea] at P
      simp only [bnd] at P
      intro u F1 H1 fp1 f1 S1 o1 nd1 off1 g1
      split at P
      · rename_i ts0 e0
        obtain ⟨v, b0, hs0, _⟩ := S1.slot e0
        refine ⟨v, hs0, e1, F1, fp1, S1, ?_⟩
        have d1 : ∀ p ∈ f1, p ∉ fp1 := fun p hp hq => (List.nodup_append.mp nd1).2.2 p hq p hp rfl
        cases ek : fk e1 with
        | no => rw [ek] at P; exact P
        | ex c fs e => rw [ek] at P; exact fun cls d F' H' fp' S' x g => P cls d σ F' H' fp' S' x ((g1.less fun p hp => List.mem_append_left _ hp).trans g)
        | ok b =>
          obtain ⟨tk, e2⟩ := b
          rw [ek] at P
          dsimp only at P
          cases ei : tk.int? with
          | none => rw [ei] at P; exact P.elim
          | some n =>
            rw [ei] at P
            have etk := int?_eq ei
            subst etk
            simp only [ofO] at P
            intro w F2 H2 fp2 f2 S2 o2 nd2 off2 g2
            simp only [Own, Rep] at o2
            obtain ⟨rfl, rfl⟩ := o2
            obtain ⟨o1', off1', d1'⟩ := o1.go off1 g2 d1
            rw [List.append_nil] at nd2 g2 d1'
            split at P
            · rename_i ts e2i
              cases ej : ixN ts.length n with
              | none => rw [ej] at P; exact P.elim
              | some j =>
                rw [ej] at P
                obtain ⟨b, ob, nb, dft, sb, wr⟩ := S2.wr (ft := f1) e2i hs0 (List.nodup_append.mpr ⟨nd2, (List.nodup_append.mp nd1).2.1, fun x hx y hy e => by subst e; exact d1' x hy hx⟩) off1'
                simp only [Own] at ob
                obtain ⟨l, vs, f3, rfl, hl, os, rfl⟩ := ob
                have len := (Owns.bor _ _ _ os).len
                have nlf : l ∉ f3 := (List.nodup_cons.mp nb).1
                have nl1 : l ∉ f1 := dft l List.mem_cons_self
                obtain ⟨b', ob', nb', sb'⟩ := Owns.set (v := u) (ft := f1) j (Owns.mono (.refl _) _ _ _ (keep_upd (o := .lst (vs.set j u)) nlf) os) (Own.mono (.refl _) _ _ _ (keep_upd nl1) o1') (List.nodup_append.mpr ⟨(List.nodup_cons.mp nb).2, (List.nodup_append.mp nd1).2.1, fun x hx y hy e => by subst e; exact dft x (List.mem_cons_of_mem _ hx) hy⟩)
                refine ⟨l, vs, n, j, rfl, rfl, hl, by rw [len]; exact ej, ?_⟩
                obtain ⟨fp', S', g'⟩ := wr l (.lst (vs.set j u)) (.l (ts.set j t)) (l :: b') List.mem_cons_self ⟨l, vs.set j u, b', rfl, upd_same, ob', rfl⟩ (List.nodup_cons.mpr ⟨fun z => by
                  rcases List.mem_append.mp (sb' l z) with y | y
                  · exact nlf y
                  · exact nl1 y, nb'⟩) fun p hp => by
                  rcases List.mem_cons.mp hp with rfl | hp
                  · exact .inl List.mem_cons_self
                  · exact (List.mem_append.mp (sb' p hp)).imp (List.mem_cons_of_mem _) id
                exact P σ F2 _ fp' S' ((g1.trans (g2.frame (f := f1))).trans g')
            · exact P.elim
      · exact P.elim
/-- x[k] op= e, an item of shared data -/
theorem get_list : PGet X (rIxL X.K) := by
  intro pins s σ H o i ov iv Q I ro ri h
  obtain ⟨p, xs, i, z, rfl, rfl, hq, he, q⟩ := h
  cases ro
  obtain ⟨t, rfl⟩ := ri
  obtain ⟨its, r, pl, hz⟩ := I.list hq
  obtain ⟨j, h1, h2, h3, h4, h5⟩ := atI_get he
  obtain ⟨w, ew, rw'⟩ := r.get h2
  have hl := r.length
  have hn := line63
  have fin : EP X pins σ Q w s := ⟨z, H, I, rw', q⟩
  by_cases h0 : 0 ≤ i
  · have hj : i.toNat = j := by
      rw [seqIndex_of h0 h5] at h1
      exact Option.some.inj h1
    exact wpAny_getItem_list pl.isList h0 (by omega) (by rw [hj]; simpa using ew) fin
  · have hj : (i + (its.toArray.size : Int)).toNat = j := by
      rw [seqIndex_neg (by omega) h4] at h1
      rw [List.size_toArray, ← hl]
      exact Option.some.inj h1
    exact wpAny_getItem_list_neg pl.isList (by omega) (by rw [List.size_toArray] <;> omega) (by omega) (by rw [hj]; simpa using ew) fin
def saS (i : Nat) (g : T → T → Option T) (gk : En → R En T) (gv : En → R En T) : En → R En (Fl × En) := fun env => match env[i]? with
  | some (some (.l ts)) => bnd (gk env) fun k => ofO k.int? fun n => ofO (atI ts n) fun x => match x with
    | .s d => bnd (gv env) fun y => ofO (g (.s d) y) fun z => ofO (ixN ts.length n) fun j => .ok (.nx, env.set i (some (.l (ts.set j z))))
    | _ => .no
  | _ => .no
theorem Bors.get {G : Kt} {F H : Hp} : ∀ {ds : List T} {vs : List V} {i : Nat} {d : T}, Bors G F H ds vs → ds[i]? = some d → ∃ v, vs[i]? = some v ∧ Bor G F H d v
  | [], _, _, _, _, e => by simp at e
  | d :: ds, vs, 0, x, h, e => by
    simp only [Bors] at h
    obtain ⟨v, r, rfl, h1, h2⟩ := h
    have e' : d = x := by simpa using e
    subst e'
    exact ⟨v, rfl, h1⟩
  | d :: ds, vs, i + 1, x, h, e => by
    simp only [Bors] at h
    obtain ⟨v, r, rfl, h1, h2⟩ := h
    obtain ⟨w, q, z⟩ := Bors.get (i := i) (d := x) h2 (by simpa using e)
    exact ⟨w, by simpa using q, z⟩
theorem Bors.at {G : Kt} {F H : Hp} {ds : List T} {vs : List V} {i : Int} {d : T} (r : Bors G F H ds vs) (h : atI ds i = some d) : ∃ v, atI vs i = some v ∧ Bor G F H d v := by
  unfold atI at h ⊢
  rw [r.len]
  cases e : ixN ds.length i with
  | none => rw [e] at h; cases h
  | some j =>
    rw [e] at h
    exact r.get h
theorem vs_augitem {i : Nat} {x : Str} {e k : Expr} {op : Operator} {r : R2} {g : T → T → Option T} {gk gv : En → R En T} {np tp : Pos} (hN : X.N[i]? = some x) (hv : Vis X.env.scope x) (hk : VB X fx W k gk) (he : VB X fx W e gv) (ho : OpR X (inplaceOp op) r) (pr : Prim2 (kt X) r g)
    (ha : ∀ ov iv new, augStore k ov iv new = (do holding [new, ov, iv] (setItem ov iv new); release [new, ov, iv] []; pure .next) := by intros; rfl) (hd : (x == ("__debug__" : Str)) = false := by decide) (hcd : (x == ("__classdict__" : Str)) = false := by decide) :
    VS1 X fx W (.AugAssign (.Subscript (.Name x np) k tp) op e pos) (saS i g gk gv) :=
  PS.imp (ps_augS (pe_var hN hv hd hcd) hk get_list he (fun pins s σ H x y v u Q I r1 r2 h => ho pins s σ H x y v u Q I r1 r2 h) set_list ha) fun D σ H h => by
    obtain ⟨env, F, fp, S, P⟩ := h
    unfold saS at P
    split at P
    · rename_i ts e0
      obtain ⟨v, b0, hs0, ov⟩ := S.slot e0
      simp only [Own] at ov
      obtain ⟨l, vs, f3, rfl, hl, os, _⟩ := ov
      refine ⟨.ref l, hs0, env, F, fp, S, ?_⟩
      cases ek : gk env with
      | no => rw [ek] at P; exact P
      | ex c fs e => rw [ek] at P; exact fun cls d F' H' fp' S' x g => P cls d σ F' H' fp' S' x g
      | ok tk =>
        rw [ek] at P
        simp only [bnd] at P
        cases ei : tk.int? with
        | none => rw [ei] at P; exact P.elim
        | some n =>
          rw [ei] at P
          have etk := int?_eq ei
          subst etk
          simp only [ofO] at P
          intro kv F1 H1 g1 bk
          simp only [Bor, Rep] at bk
          subst bk
          cases ea : atI ts n with
          | none => rw [ea] at P; exact P.elim
          | some xt =>
            rw [ea] at P
            cases xt with
            | l _ => exact P.elim
            | dk _ => exact P.elim
            | ob _ _ => exact P.elim
            | p _ => exact P.elim
            | s d =>
              obtain ⟨xv, hx, bx⟩ := (Owns.bor _ _ _ os).at ea
              have len := (Owns.bor _ _ _ os).len
              refine ⟨l, vs, n, xv, rfl, rfl, .of (g1.h _ _ hl), hx, env, F1, fp, S.grow g1, ?_⟩
              cases ey : gv env with
              | no => simp only [ey] at P; exact P
              | ex c fs e => simp only [ey] at P; exact fun cls d F' H' fp' S' x g => P cls d σ F' H' fp' S' x ((g1.go fp).trans g)
              | ok y =>
                simp only [ey] at P
                intro yv F2 H2 g2 bY
                have g12 := g1.trans g2
                refine pr (.s d) y xv yv F2 H2 _ g2.sub (by simp only [Bor] at bx ⊢; exact bx.mono g12.f) bY ?_
                cases eg : g (.s d) y with
                | none => rw [eg] at P; exact P.elim
                | some z =>
                  rw [eg] at P
                  simp only at P
                  cases ej : ixN ts.length n with
                  | none => rw [ej] at P; exact P.elim
                  | some j =>
                    rw [ej] at P
                    intro zv F3 H3 ft g3 oz ndz offz
                    have g123 := g12.trans g3
                    have S3 := S.grow g123
                    obtain ⟨b, ob, nb, dft, sb, wr⟩ := S3.wr (ft := ft) e0 hs0 (List.nodup_append.mpr ⟨S.nd, ndz, fun x hx y hy e => by subst e; exact (S.grow g12).is hx (offz x hy).2⟩) fun p hp => (offz p hp).1
                    simp only [Own] at ob
                    obtain ⟨l', vs', f4, el, hl', os', rfl⟩ := ob
                    cases el
                    have evs : vs' = vs := by
                      have := g123.h _ _ hl
                      rw [hl'] at this
                      cases this; rfl
                    subst evs
                    have nlf : l ∉ f4 := (List.nodup_cons.mp nb).1
                    have nl1 : l ∉ ft := dft l List.mem_cons_self
                    obtain ⟨b', ob', nb', sb'⟩ := Owns.set (v := zv) (ft := ft) j (Owns.mono (.refl _) _ _ _ (keep_upd (o := .lst (vs'.set j zv)) nlf) os') (Own.mono (.refl _) _ _ _ (keep_upd nl1) oz) (List.nodup_append.mpr ⟨(List.nodup_cons.mp nb).2, ndz, fun x hx y hy e => by subst e; exact dft x (List.mem_cons_of_mem _ hx) hy⟩)
                    refine ⟨l, vs', n, j, rfl, rfl, hl', by rw [len]; exact ej, ?_⟩
                    obtain ⟨fp', S', g'⟩ := wr l (.lst (vs'.set j zv)) (.l (ts.set j z)) (l :: b') List.mem_cons_self ⟨l, vs'.set j zv, b', rfl, upd_same, ob', rfl⟩ (List.nodup_cons.mpr ⟨fun q => by
                      rcases List.mem_append.mp (sb' l q) with y | y
                      · exact nlf y
                      · exact nl1 y, nb'⟩) fun p hp => by
                      rcases List.mem_cons.mp hp with rfl | hp
                      · exact .inl List.mem_cons_self
                      · exact (List.mem_append.mp (sb' p hp)).imp (List.mem_cons_of_mem _) id
                    exact P σ F3 _ fp' S' ((g12.goNew fp [] (by simp) |>.trans (by rw [List.append_nil]; exact g3.goNew fp ft fun p hp => (offz p hp).2)).trans g')
    · exact P.elim

/-! ### list comprehensions -/
def wipeE (env : En) : List Nat → En
  | [] => env
  | v :: vs => (wipeE env vs).set v none
/-- the block's own names hold nothing that is owned -/
def plainAt (env : En) (vs : List Nat) : Bool := vs.all fun i => match env[i]? with
  | some none => true
  | some (some (.s _)) => true
  | _ => false
/-- .. and have again what they had -/
def backE (env0 env : En) : List Nat → En
  | [] => env
  | v :: vs => backE env0 (env.set v ((env0[v]?).getD none)) vs
theorem OwnE.wipe {G : Kt} {F H : Hp} : ∀ {vs : List Nat} {env : En} {σ : L2.St} {fp : List Addr}, OwnE G F H env σ fp → ∃ fp', OwnE G F H (wipeE env vs) (L2.wipe σ vs) fp' ∧ fp'.Sublist fp
  | [], env, σ, fp, h => ⟨fp, h, .refl _⟩
  | v :: vs, env, σ, fp, h => by
    obtain ⟨f1, h1, s1⟩ := OwnE.wipe (vs := vs) h
    unfold wipeE L2.wipe
    cases e : (wipeE env vs)[v]? with
    | none =>
      have hl := h1.there
      have e1 : (wipeE env vs).set v none = wipeE env vs := List.set_eq_of_length_le (List.getElem?_eq_none_iff.mp e)
      have e2 : (L2.wipe σ vs).set v none = L2.wipe σ vs := List.set_eq_of_length_le (by rw [← hl]; exact List.getElem?_eq_none_iff.mp e)
      rw [e1, e2]
      exact ⟨f1, h1, s1⟩
    | some x =>
      obtain ⟨a, b, c, s, rfl, hs, ob, k⟩ := h1.split e
      exact ⟨a ++ c, by simpa using k F H none none [] (.refl _) (fun _ _ _ e => e) rfl, (List.Sublist.append (List.Sublist.refl a) (List.sublist_append_right b c)).trans s1⟩
theorem wipe_get {σ : L2.St} {vs : List Nat} {j : Nat} : (L2.wipe σ vs)[j]? = if j ∈ vs ∧ j < σ.length then some none else σ[j]? := by
  induction vs with
  | nil => simp [L2.wipe]
  | cons v vs ih =>
    unfold L2.wipe
    by_cases hv : v = j
    · subst hv
      by_cases hl : v < σ.length
      · rw [List.getElem?_set_self (by rw [wipe_length]; exact hl)]
        simp [hl]
      · rw [List.getElem?_eq_none (by rw [List.length_set, wipe_length]; omega), if_neg (by simp [hl]), List.getElem?_eq_none (by omega)]
    · rw [List.getElem?_set_ne hv, ih]
      have : (j ∈ v :: vs) ↔ j ∈ vs := by simp [show ¬ j = v from fun z => hv z.symm]
      simp only [this]
/-- the turns -/
def lcL (vs : List Nat) (gt : GTg) (test : En → R En (Bool × En)) (elt : En → R En (T × En)) : List D → List T → En → R En (List T × En)
  | [], ts, env => .ok (ts, env)
  | d :: ds, ts, env => match gt (.s d) env with
    | none => .no
    | some e => match test e with
      | .ok (true, e1) => match elt e1 with
        | .ok (t, e2) => if ts.length < sizeLine then lcL vs gt test elt ds (ts ++ [t]) (wipeE e2 vs) else .no
        | _ => .no
      | .ok (false, e1) => lcL vs gt test elt ds ts (wipeE e1 vs)
      | _ => .no
def lcE (vs : List Nat) (fi : En → R En (List D × En)) (gt : GTg) (test : En → R En (Bool × En)) (elt : En → R En (T × En)) : En → R En (T × En) := fun env => bnd (fi env) fun a =>
  if plainAt a.2 vs then bnd (lcL vs gt test elt a.1 [] (wipeE a.2 vs)) fun b => .ok (.l b.1, backE a.2 b.2 vs) else .no
def yesT : En → R En (Bool × En) := fun env => .ok (true, env)
abbrev VTs (X : Cx) (fx : Fx) (W : L2.WX) (es : List Expr) (f : En → R En (Bool × En)) : Prop := PTs X es (tT (kt X) fx W f)
theorem vts_nil : VTs X fx W [] yesT := ⟨fun pins s σ H Q I h => pts_nil.run pins s σ H Q I (by
  obtain ⟨env, F, fp, S, P⟩ := h
  exact P F H fp S .refl)⟩
theorem vts_one {c : Expr} {f : En → R En (Bool × En)} (h : VT X fx W c f) : VTs X fx W [c] f := pts_one h
/-- behind the turns: the outer names as they were -/
theorem OwnE.back {G : Kt} {F H F0 H0 : Hp} {env0 : En} {σ : L2.St} {f0 : List Addr} (o0 : OwnE G F0 H0 env0 σ f0) (sf : Same F0 F) : ∀ {vs : List Nat} {env : En} {fp : List Addr}, vs.Nodup → plainAt env0 vs = true → OwnE G F H env (L2.wipe σ vs) fp →
    ∃ fp', OwnE G F H (backE env0 env vs) σ fp' ∧ fp'.Sublist fp
  | [], env, fp, _, _, h => ⟨fp, h, .refl _⟩
  | v :: vs, env, fp, nd, hp, h => by
    unfold plainAt at hp
    rw [List.all_cons, Bool.and_eq_true] at hp
    unfold backE
    have nm : v ∉ vs := (List.nodup_cons.mp nd).1
    have hx : ∃ x, env0[v]? = some x ∧ (x = none ∨ ∃ d, x = some (.s d)) := by
      have h1 := hp.1
      split at h1
      · rename_i e; exact ⟨_, e, .inl rfl⟩
      · rename_i d e; exact ⟨_, e, .inr ⟨d, rfl⟩⟩
      · cases h1
    obtain ⟨x, ex, hx⟩ := hx
    obtain ⟨a0, b0, c0, s0, _, hs0, ob0, _⟩ := o0.split ex
    have hlen0 := o0.there
    have hv0 : v < σ.length := (List.getElem?_eq_some_iff.mp hs0).1
    have hlen : env.length = σ.length := by rw [h.there, wipe_length]
    unfold L2.wipe at h
    obtain ⟨a, b, c, s, rfl, hs, ob, k⟩ := h.split (List.getElem?_eq_getElem (show v < env.length by omega))
    have hw : (L2.wipe σ vs)[v]? = some s0 := by rw [wipe_get, if_neg (by simp [nm]), hs0]
    have oS : OwnS G F H x s0 [] := by
      rcases hx with rfl | ⟨d, rfl⟩
      · exact rfl
      · obtain ⟨v', rfl, o⟩ := ob0
        simp only [Own] at o
        exact ⟨v', rfl, o.1.mono sf, rfl⟩
    have k' := k F H x s0 [] (.refl _) (fun _ _ _ e => e) oS
    rw [List.set_set, set_self hw, List.nil_append] at k'
    rw [ex]
    obtain ⟨fq, o', sl⟩ := OwnE.back o0 sf (vs := vs) (List.nodup_cons.mp nd).2 hp.2 k'
    exact ⟨fq, o', sl.trans (List.Sublist.append (List.Sublist.refl a) (List.sublist_append_right b c))⟩
theorem wipe_eq {σ σ' : L2.St} {vs sl : List Nat} (h : ∀ j : Nat, j ∉ sl → σ'[j]? = σ[j]?) (hl : σ'.length = σ.length) (hs : ∀ j ∈ sl, j ∈ vs) : L2.wipe σ' vs = L2.wipe σ vs := by
  apply List.ext_getElem?
  intro j
  rw [wipe_get, wipe_get, hl]
  by_cases hj : j ∈ vs ∧ j < σ.length
  · rw [if_pos hj, if_pos hj]
  · rw [if_neg hj, if_neg hj]
    by_cases hv : j ∈ vs
    · have : ¬ j < σ.length := fun z => hj ⟨hv, z⟩
      rw [List.getElem?_eq_none (by omega), List.getElem?_eq_none (by omega)]
    · exact h j fun z => hv (hs j z)
theorem wipe_wipe {σ : L2.St} {vs : List Nat} : L2.wipe (L2.wipe σ vs) vs = L2.wipe σ vs := by
  apply List.ext_getElem?
  intro j
  rw [wipe_get, wipe_get, wipe_length]
  by_cases hj : j ∈ vs ∧ j < σ.length
  · rw [if_pos hj, if_pos hj]
  · rw [if_neg hj, if_neg hj]
theorem Sta.wipe {G : Kt} {env : En} {F H : Hp} {σ : L2.St} {fp : List Addr} {vs : List Nat} (S : Sta G fx env F σ H fp) (hq : ∀ q ∈ fx, q.1 ∉ vs) : ∃ fp', Sta G fx (wipeE env vs) F (L2.wipe σ vs) H fp' ∧ ∀ p ∈ fp', p ∈ fp := by
  obtain ⟨fp', o, sl⟩ := S.own.wipe (vs := vs)
  exact ⟨fp', ⟨o, S.nd.sublist sl, fun p hp => S.off p (sl.subset hp), S.sub, fun q h => (by rw [wipe_get, if_neg (by simp [hq q h])]; exact S.fix q h), S.pin⟩, fun p hp => sl.subset hp⟩
theorem tLc_of {fi : En → R En (List D × En)} {vs sl : List Nat} {gt : GTg} {test : En → R En (Bool × En)} {elt : En → R En (T × En)} {σ : L2.St} {H : Hp} {Q : VK} (nd : vs.Nodup) (hsl : ∀ j ∈ sl, j ∈ vs) (hq : ∀ q ∈ fx, q.1 ∉ vs)
    (h : tV (kt X) fx W (lcE vs fi gt test elt) σ H Q) : tLc (tI (kt X) fx W fi) (tG (kt X) fx sl gt) (tT (kt X) fx (fun _ _ _ _ => False) test) (tV (kt X) fx (fun _ _ _ _ => False) elt) vs σ H Q := by
  obtain ⟨env, F, fp, S, P⟩ := h
  unfold lcE at P
  refine ⟨env, F, fp, S, ?_⟩
  cases ea : fi env with
  | no => rw [ea] at P; exact P
  | ex c fs e => rw [ea] at P; exact P
  | ok a =>
    obtain ⟨ds, e⟩ := a
    rw [ea] at P
    simp only [bnd] at P
    intro J F0 H0 fp0 S0 g0 io Dn hD
    split at P
    case isFalse => exact P.elim
    rename_i hpl
    obtain ⟨fw, Sw, subw⟩ := S0.wipe (vs := vs) hq
    have gD := Grow.lay (o := .lst []) S0.sub hD
    have nD : Dn ∉ fp0 := fun z => S0.is z hD
    have FD : F0 Dn = none := S0.sub.free hD
    -- the state between two turns
    let St2 : List T → En → List D → Hp → Prop := fun ts env2 dr H2 => ∃ F2 fp2 ft acc, Sta (kt X) fx env2 F2 (L2.wipe σ vs) H2 fp2 ∧ H2 Dn = some (.lst acc) ∧ Owns (kt X) F2 H2 ts acc ft ∧ (fp2 ++ Dn :: ft).Nodup ∧ (∀ p ∈ Dn :: ft, F2 p = none) ∧
      Go F0 (upd H0 Dn (.lst [])) (fw ++ [Dn]) F2 H2 (fp2 ++ Dn :: ft) ∧
      PV (kt X) fx W σ Q F0 H0 fp0 (bnd (lcL vs gt test elt dr ts env2) fun b => .ok (.l b.1, backE e b.2 vs))
    have goD : Go F0 H0 fp0 F0 (upd H0 Dn (.lst [])) (fw ++ [Dn]) := (gD.goNew fp0 [Dn] (by simpa using hD)).less fun p hp => by
      rcases List.mem_append.mp hp with z | z
      · exact List.mem_append_left _ (subw p z)
      · exact List.mem_append_right _ z
    refine ⟨fun i m H2 => m = ds.length - i ∧ i ≤ ds.length ∧ ∃ ts env2, St2 ts env2 (ds.drop i) H2, ⟨ds.length, by simp, Nat.zero_le _, [], wipeE e vs, F0, fw, [], [], Sw.grow gD, upd_same, ⟨rfl, rfl⟩, ?_, ?_, .refl, ?_⟩, ?_⟩
    · refine List.nodup_append.mpr ⟨Sw.nd, by simp, fun x hx y hy e => ?_⟩
      have : y = Dn := by simpa using hy
      subst this
      subst e
      exact nD (subw x hx)
    · intro p hp
      have : p = Dn := by simpa using hp
      subst this
      exact FD
    · have P' := P.go g0
      show PV (kt X) fx W σ Q F0 H0 fp0 _
      rw [List.drop_zero]
      exact P'
    · rintro i m H2 ⟨rfl, hi, ts, env2, F2, fp2, ft, acc, S2, hacc, os, nd2, off2, g2, P2⟩
      have goall := goD.trans g2
      obtain ⟨io1, io2⟩ := io F2 H2 (fp2 ++ Dn :: ft) goall S2.sub i
      by_cases hlt : i < ds.length
      · refine .inr ?_
        have ed : ds[i]? = some ds[i] := List.getElem?_eq_getElem hlt
        obtain ⟨hgo, hy⟩ := io1 _ ed
        refine ⟨hgo, fun H' => ∃ ts env2, St2 ts env2 (ds.drop (i + 1)) H', fun H' h => ⟨ds.length - (i + 1), by omega, rfl, hlt, h⟩, fun x H3 y => ?_⟩
        obtain ⟨F3, g3, r3⟩ := hy x H3 y
        rw [List.drop_eq_getElem_cons hlt] at P2
        unfold lcL at P2
        cases eg : gt (.s ds[i]) env2 with
        | none => rw [eg] at P2; exact P2.elim
        | some e3 =>
          rw [eg] at P2
          dsimp only at P2
          have S3 := S2.grow g3
          refine ⟨.s ds[i], env2, e3, F3, fp2, [], S3, ⟨r3, rfl⟩, by simpa using S2.nd, by simp, eg, fun σ4 fp4 S4 sub4 k4 l4 => ?_⟩
          refine ⟨by rw [wipe_eq k4 l4 hsl, wipe_wipe], e3, F3, fp4, S4, ?_⟩
          have hw4 : L2.wipe σ4 vs = L2.wipe σ vs := by rw [wipe_eq k4 l4 hsl, wipe_wipe]
          have sub4' : ∀ p ∈ fp4, p ∈ fp2 := fun p hp => by simpa using sub4 p hp
          have g34 : Go F2 H2 fp2 F3 H3 fp4 := (g3.go fp2).less sub4'
          have o2 : Own (kt X) F2 H2 (.l ts) (.ref Dn) (Dn :: ft) := ⟨Dn, acc, ft, rfl, hacc, os, rfl⟩
          have dis2 : ∀ p ∈ Dn :: ft, p ∉ fp2 := fun p hp z => (List.nodup_append.mp nd2).2.2 p z p hp rfl
          cases et : test e3 with
          | no => rw [et] at P2; exact P2
          | ex c fs e => rw [et] at P2; exact fun _ _ _ _ _ _ _ _ => P2.elim
          | ok tb =>
            obtain ⟨b, e1⟩ := tb
            rw [et] at P2
            intro F5 H5 fp5 S5 g5
            have g35 := g34.trans g5
            cases b with
            | false =>
              refine iteF ⟨ts, wipeE e1 vs, ?_⟩
              obtain ⟨fp7, S7, sub7⟩ := S5.wipe (vs := vs) hq
              rw [hw4] at S7
              obtain ⟨o5, off5, d5⟩ := o2.go off2 g35 dis2
              simp only [Own] at o5
              obtain ⟨p', acc', ft', ep, hacc', os', ef⟩ := o5
              cases ep
              cases ef
              refine ⟨F5, fp7, ft, acc', S7, hacc', os', List.nodup_append.mpr ⟨S7.nd, (List.nodup_append.mp nd2).2.1, fun x hx y hy e => by subst e; exact d5 x hy (sub7 x hx)⟩, off5, ?_, P2⟩
              exact (g2.trans (g35.frame (f := Dn :: ft))).less fun p hp => by
                rcases List.mem_append.mp hp with z | z
                · exact List.mem_append_left _ (sub7 p z)
                · exact List.mem_append_right _ z
            | true =>
              refine iteT ⟨e1, F5, fp5, S5, ?_⟩
              dsimp only at P2
              cases el : elt e1 with
              | no => rw [el] at P2; exact P2
              | ex c fs e => rw [el] at P2; exact fun _ _ _ _ _ _ _ _ => P2.elim
              | ok te =>
                obtain ⟨t, e2⟩ := te
                rw [el] at P2
                dsimp only at P2
                intro y F6 H6 fp6 f6 S6 o6 nd6 off6 g6
                split at P2
                case isFalse => exact P2.elim
                rename_i hz
                have g36 := g35.trans g6
                obtain ⟨o5, off5, d5⟩ := o2.go off2 g36 dis2
                simp only [Own] at o5
                obtain ⟨p', acc', ft', ep, hacc', os', ef⟩ := o5
                cases ep
                cases ef
                have lenacc := (Owns.bor _ _ _ os').len
                refine ⟨acc', hacc', by omega, ts ++ [t], wipeE e2 vs, ?_⟩
                have nD6 : Dn ∉ fp6 ∧ Dn ∉ f6 := ⟨fun z => d5 Dn List.mem_cons_self (List.mem_append_left _ z), fun z => d5 Dn List.mem_cons_self (List.mem_append_right _ z)⟩
                have nDt : Dn ∉ ft := (List.nodup_cons.mp (List.nodup_append.mp nd2).2.1).1
                have ndft := (List.nodup_cons.mp (List.nodup_append.mp nd2).2.1).2
                have FD6 : F6 Dn = none := off5 Dn List.mem_cons_self
                have S6' : Sta (kt X) fx e2 F6 σ4 (upd H6 Dn (.lst (acc' ++ [y]))) fp6 := ⟨OwnE.mono (.refl _) _ _ _ (keep_upd nD6.1) S6.own, S6.nd, S6.off, fun p u ep => by
                  rw [upd_ne fun z => by subst z; rw [FD6] at ep; cases ep]
                  exact S6.sub _ _ ep, S6.fix, S6.pin⟩
                obtain ⟨fp7, S7, sub7⟩ := S6'.wipe (vs := vs) hq
                rw [hw4] at S7
                have nd6' := List.nodup_append.mp nd6
                refine ⟨F6, fp7, ft ++ f6, acc' ++ [y], S7, upd_same, Owns.append (Owns.mono (.refl _) _ _ _ (keep_upd nDt) os') (Own.mono (.refl _) _ _ _ (keep_upd nD6.2) o6), ?_, ?_, ?_, P2⟩
                · refine List.nodup_append.mpr ⟨S7.nd, List.nodup_cons.mpr ⟨fun z => (List.mem_append.mp z).elim nDt nD6.2, List.nodup_append.mpr ⟨ndft, nd6'.2.1, fun x hx y hy e => by
                    subst e
                    exact d5 x (List.mem_cons_of_mem _ hx) (List.mem_append_right _ hy)⟩⟩, fun x hx y hy e => ?_⟩
                  subst e
                  rcases List.mem_cons.mp hy with z | z
                  · exact nD6.1 (z ▸ sub7 x hx)
                  · rcases List.mem_append.mp z with z | z
                    · exact d5 x (List.mem_cons_of_mem _ z) (List.mem_append_left _ (sub7 x hx))
                    · exact nd6'.2.2 x (sub7 x hx) x z rfl
                · intro p hp
                  rcases List.mem_cons.mp hp with z | z
                  · rw [z]; exact FD6
                  · rcases List.mem_append.mp z with z | z
                    · exact off5 p (List.mem_cons_of_mem _ z)
                    · exact off6 p z
                · have gw : Go F6 H6 ((fp6 ++ f6) ++ Dn :: ft) F6 (upd H6 Dn (.lst (acc' ++ [y]))) ((fp6 ++ f6) ++ Dn :: ft) := ⟨.refl _, fun _ _ h => .inl h, fun p u ep np => by
                    rw [upd_ne fun z => np (by rw [z]; simp)]
                    exact ep, fun p hp => .inl hp⟩
                  refine ((g2.trans (g36.frame (f := Dn :: ft))).trans gw).less fun p hp => ?_
                  rcases List.mem_append.mp hp with z | z
                  · exact List.mem_append_left _ (List.mem_append_left _ (sub7 p z))
                  · rcases List.mem_cons.mp z with z | z
                    · rw [z]; simp
                    · rcases List.mem_append.mp z with z | z
                      · simp [z]
                      · simp [z]
      · have en : i = ds.length := by omega
        subst en
        refine .inl ⟨io2 (Nat.le_refl _), ?_⟩
        rw [List.drop_length] at P2
        obtain ⟨fb, ob, slb⟩ := OwnE.back S0.own g2.f nd hpl S2.own
        have ndb := List.nodup_append.mp nd2
        refine P2 (.ref Dn) F2 H2 fb (Dn :: ft) ⟨ob, S2.nd.sublist slb, fun p hp => S2.off p (slb.subset hp), S2.sub, S0.fix, S2.pin⟩ ⟨Dn, acc, ft, rfl, hacc, os, rfl⟩ (nd2.sublist (slb.append (List.Sublist.refl _))) off2 (goall.less fun p hp => ?_)
        rcases List.mem_append.mp hp with z | z
        · exact List.mem_append_left _ (slb.subset z)
        · exact List.mem_append_right _ z
/-- [elt for tg in iter if ..] -/
theorem ve_lc {elt tg iter : Expr} {ifs : List Expr} {scope : Scope} {own : List (Str × Nat)} {sl : List Nat} {fi : En → R En (List D × En)} {gt : GTg} {test : En → R En (Bool × En)} {fe : En → R En (T × En)} (hc : X.calm = true) (hN : X.N.Nodup) (hi : VI X fx W tg iter fi) (ok : BlkOk X.N X.env.scope scope own)
    (nd : (own.map (·.2)).Nodup) (hsl : ∀ j ∈ sl, j ∈ own.map (·.2)) (hq : ∀ q ∈ fx, q.1 ∉ own.map (·.2))
    (hg : ∀ (s : Shared) (H : Hp) (C : Addr) (cl : List (Str × Addr)) (fp : List Addr), VG (X.blk s H scope (compEnvC scope cl C X.env) fp) fx tg sl gt) (ht : ∀ (s : Shared) (H : Hp) (C : Addr) (cl : List (Str × Addr)) (fp : List Addr), VTs (X.blk s H scope (compEnvC scope cl C X.env) fp) fx (fun _ _ _ _ => False) ifs test)
    (he : ∀ (s : Shared) (H : Hp) (C : Addr) (cl : List (Str × Addr)) (fp : List Addr), VE (X.blk s H scope (compEnvC scope cl C X.env) fp) fx (fun _ _ _ _ => False) elt fe) (hs : ∀ x, foldedSetIterable iter X.env x = pure x := by intro _; rfl) :
    VE X fx W (.ListComp elt [⟨tg, iter, ifs, 0⟩] scope pos) (lcE (own.map (·.2)) fi gt test fe) := PE.imp (pe_lc hc hN hi ok hg ht he hs) fun σ H Q h => tLc_of nd hsl hq h
theorem vs_setLc {i : Nat} {y : Str} {py : Pos} {elt tg iter : Expr} {ifs : List Expr} {scope : Scope} {own : List (Str × Nat)} {sl : List Nat} {spos : Pos} {fi : En → R En (List D × En)} {gt : GTg} {test : En → R En (Bool × En)} {fe : En → R En (T × En)} (hc : X.calm = true) (hN : X.N.Nodup) (hy : X.N[i]? = some y) (hyl : X.env.scope.names.lookup y = some .local) (hqi : ∀ q ∈ fx, q.1 ≠ i)
    (hsw : swapsWith (.ListComp elt [⟨tg, iter, ifs, 0⟩] scope pos) (some (.Name y py)) spos.line X.env = pure true) (hi : VI X fx W tg iter fi) (ok : BlkOk X.N X.env.scope scope own)
    (nd : (own.map (·.2)).Nodup) (hsl : ∀ j ∈ sl, j ∈ own.map (·.2)) (hq : ∀ q ∈ fx, q.1 ∉ own.map (·.2))
    (hg : ∀ (s : Shared) (H : Hp) (C : Addr) (cl : List (Str × Addr)) (fp : List Addr), VG (X.blk s H scope (compEnvC scope cl C X.env) fp) fx tg sl gt) (ht : ∀ (s : Shared) (H : Hp) (C : Addr) (cl : List (Str × Addr)) (fp : List Addr), VTs (X.blk s H scope (compEnvC scope cl C X.env) fp) fx (fun _ _ _ _ => False) ifs test)
    (he : ∀ (s : Shared) (H : Hp) (C : Addr) (cl : List (Str × Addr)) (fp : List Addr), VE (X.blk s H scope (compEnvC scope cl C X.env) fp) fx (fun _ _ _ _ => False) elt fe) (hs : ∀ x, foldedSetIterable iter X.env x = pure x := by intro _; rfl) :
    VS1 X fx W (.Assign [.Name y py] (.ListComp elt [⟨tg, iter, ifs, 0⟩] scope pos) spos) (setS i (lcE (own.map (·.2)) fi gt test fe)) := PS.imp (ps_setLc hc hN hy hyl hsw hi ok hg ht he hs) fun D σ H h =>
  tLc_of (Q := fun x H1 => gName i x σ H1 D.nx) nd hsl hq (tV_S (k := fun t e => ofO (stS i t e) fun e => .ok (.nx, e)) (fun t env F H fp v ft S o nd off P => set_end S o nd off hqi P) h)
end
end VS
namespace VS
open PySem PySem.Spec L2
open PyProof.Rows hiding St

/-! ### odds and ends -/
theorem hu65 {A : Around} {k : Nat} (hr : Room k A) : A.units + 65 < cLine := by have := hr.un; omega
theorem hu1 {A : Around} {k : Nat} (hr : Room k A) : A.units + 1 < cLine := by have := hr.un; omega
theorem of_fxOf {io : List Bool} {vs : List V} {is : List Nat} (h : ∀ i ∈ is, io[i]? ≠ some true) : ∀ q ∈ fxOf io vs, q.1 ∉ is := fun q hq hm => h _ hm (mem_fxOf.mp hq).1
section
variable {G : Kt}
def pNeg : T → Option T
  | .s (.int i) => some (.s (.int (-i)))
  | _ => none
theorem prim_neg : Prim1 G (rU fun i => .int (-i)) pNeg := by
  intro tx x F H Q s b p
  unfold pNeg at p
  split at p
  · simp only [Bor, Rep] at b
    subst b
    exact ⟨_, rfl, PR.val s p (by simp only [Rep])⟩
  · exact p.elim
def pIadd (x y : T) : Option T := match x, y with
  | .s (.int i), .s (.int j) => some (.s (.int (i + j)))
  | .s (.str a), .s (.str b) => if a.length + b.length ≤ sizeLine then some (.s (.str (a ++ b))) else none
  | _, _ => none
theorem iop_addA {X : Cx} : OpR X (inplaceOp .Add) (fun x y H Q => (rI0 fun i j => .int (i + j)) x y H Q ∨ (∃ i j, x = .str i ∧ y = .str j ∧ i.length + j.length ≤ sizeLine ∧ Q (.str (i ++ j)) H)) := iop_add.or iop_add_str
theorem prim_iadd : Prim2 G (fun x y H Q => (rI0 fun i j => .int (i + j)) x y H Q ∨ (∃ i j, x = .str i ∧ y = .str j ∧ i.length + j.length ≤ sizeLine ∧ Q (.str (i ++ j)) H)) pIadd := by
  intro tx ty x y F H Q s b1 b2 p
  unfold pIadd at p
  split at p
  · simp only [Bor, Rep] at b1 b2
    subst b1 b2
    exact .inl ⟨_, _, rfl, rfl, PR.val s p (by simp only [Rep])⟩
  · simp only [Bor, Rep] at b1 b2
    subst b1 b2
    split at p
    · exact .inr ⟨_, _, rfl, rfl, by assumption, PR.val s p (by simp only [Rep])⟩
    · exact p.elim
  · exact p.elim
/-- text * number -/
def rMulS : R2 := fun x y H Q => ∃ a k, x = .str a ∧ y = .int k ∧ a.length ≤ 16 ∧ -(2 ^ 63) ≤ k ∧ k ≤ 1000000 ∧ Q (.str (Txt.mul a k)) H
theorem op_mulS {X : Cx} : OpR X (binaryOp .Mult) rMulS := by
  intro pins s σ H x y v u Q I rx ry h
  obtain ⟨a, k, rfl, rfl, h1, h2, h3, q⟩ := h
  obtain ⟨t, rfl⟩ := rx
  obtain ⟨t', rfl⟩ := ry
  exact SB.mul (mulOk_of 16 1000000 h1 h3 h2 (by decide) (by decide)) fun t' tk => ⟨.str _, H, I.tok _, ⟨_, rfl⟩, q⟩
def pMulA (x y : T) : Option T := match x, y with
  | .s (.str a), .s (.int k) => if a.length ≤ 16 ∧ -(2 ^ 63) ≤ k ∧ k ≤ 1000000 then some (.s (.str (Txt.mul a k))) else none
  | x, y => pMul x y
def rMulA : R2 := fun x y H Q => ((rI CMul fun i j => .int (i * j)) x y H Q ∨ rRep x y H Q) ∨ rMulS x y H Q
theorem op_mulA {X : Cx} : OpR X (binaryOp .Mult) rMulA := (op_mul.or op_rep).or op_mulS
theorem prim_mulA : Prim2 G rMulA pMulA := by
  intro tx ty x y F H Q s b1 b2 p
  unfold pMulA at p
  split at p
  · simp only [Bor, Rep] at b1 b2
    subst b1 b2
    split at p
    · rename_i h
      exact .inr ⟨_, _, rfl, rfl, h.1, h.2.1, h.2.2, PR.val s p (by simp only [Rep])⟩
    · exact p.elim
  · exact .inl (prim_mul tx ty x y F H Q s b1 b2 p)
end
/-! ### names of a comprehension's block -/
theorem lookup_rel {env : Env} : ∀ {names : List (Str × NameKind)} {x : Str} {k : NameKind}, names.lookup x = some k →
    (names.map fun (n, k) => if (k == NameKind.free && env.scope.kind == .function && env.kindOf n == some .cell) then (n, NameKind.cell) else (n, k)).lookup x = some k ∨
    (k = .free ∧ (names.map fun (n, k) => if (k == NameKind.free && env.scope.kind == .function && env.kindOf n == some .cell) then (n, NameKind.cell) else (n, k)).lookup x = some .cell)
  | [], _, _, h => by simp at h
  | (n, k0) :: r, x, k, h => by
    have ih := @lookup_rel env r x k
    show List.lookup x ((if (k0 == NameKind.free && env.scope.kind == .function && env.kindOf n == some .cell) = true then (n, NameKind.cell) else (n, k0)) :: _) = _ ∨ _
    cases hx : x == n with
    | true =>
      simp only [List.lookup_cons, hx] at h
      cases h
      by_cases hc : (k0 == NameKind.free && env.scope.kind == .function && env.kindOf n == some .cell) = true
      · rw [if_pos hc]
        refine .inr ⟨?_, ?_⟩
        · simp only [Bool.and_eq_true] at hc
          exact eq_of_beq hc.1.1
        · show List.lookup x ((if (k0 == NameKind.free && env.scope.kind == .function && env.kindOf n == some .cell) = true then (n, NameKind.cell) else (n, k0)) :: _) = _
          rw [if_pos hc]
          simp only [List.lookup_cons, hx]
      · rw [if_neg hc]
        exact .inl (by simp only [List.lookup_cons, hx])
    | false =>
      simp only [List.lookup_cons, hx] at h
      by_cases hc : (k0 == NameKind.free && env.scope.kind == .function && env.kindOf n == some .cell) = true
      · rw [if_pos hc]
        rcases ih h with q | ⟨q1, q2⟩
        · exact .inl (by simp only [List.lookup_cons, hx]; exact q)
        · refine .inr ⟨q1, ?_⟩
          show List.lookup x ((if (k0 == NameKind.free && env.scope.kind == .function && env.kindOf n == some .cell) = true then (n, NameKind.cell) else (n, k0)) :: _) = _
          rw [if_pos hc]
          simp only [List.lookup_cons, hx]
          exact q2
      · rw [if_neg hc]
        rcases ih h with q | ⟨q1, q2⟩
        · exact .inl (by simp only [List.lookup_cons, hx]; exact q)
        · refine .inr ⟨q1, ?_⟩
          show List.lookup x ((if (k0 == NameKind.free && env.scope.kind == .function && env.kindOf n == some .cell) = true then (n, NameKind.cell) else (n, k0)) :: _) = _
          rw [if_neg hc]
          simp only [List.lookup_cons, hx]
          exact q2
section
variable {X : Cx} {s : Shared} {H : Hp} {scope : Scope} {cl : List (Str × Addr)} {C : Addr} {fp : List Addr} {x : Str}
theorem vFree (h : scope.names.lookup x = some .free) : Vis (X.blk s H scope (compEnvC scope cl C X.env) fp).env.scope x := by
  rcases lookup_rel (env := X.env) h with q | ⟨_, q⟩
  · exact .inr (.inr q)
  · exact .inr (.inl q)
theorem vCell (h : scope.names.lookup x = some .cell) : Vis (X.blk s H scope (compEnvC scope cl C X.env) fp).env.scope x := by
  rcases lookup_rel (env := X.env) h with q | ⟨z, _⟩
  · exact .inr (.inl q)
  · cases z
theorem vLocal (h : scope.names.lookup x = some .local) : Vis (X.blk s H scope (compEnvC scope cl C X.env) fp).env.scope x := by
  rcases lookup_rel (env := X.env) h with q | ⟨z, _⟩
  · exact .inl q
  · cases z
theorem lCell (h : scope.names.lookup x = some .cell) : Loc (X.blk s H scope (compEnvC scope cl C X.env) fp).env.scope x := by
  rcases lookup_rel (env := X.env) h with q | ⟨z, _⟩
  · exact .inr q
  · cases z
theorem lLocal (h : scope.names.lookup x = some .local) : Loc (X.blk s H scope (compEnvC scope cl C X.env) fp).env.scope x := by
  rcases lookup_rel (env := X.env) h with q | ⟨z, _⟩
  · exact .inl q
  · cases z
theorem fCell (h : scope.names.lookup x = some .cell) : (X.blk s H scope (compEnvC scope cl C X.env) fp).fn x = true ∨ (X.blk s H scope (compEnvC scope cl C X.env) fp).env.scope.names.lookup x = some .local := .inl (by
  show (scope.names.lookup x == some .cell) = true
  rw [h]; rfl)
theorem fLocal (h : scope.names.lookup x = some .local) : (X.blk s H scope (compEnvC scope cl C X.env) fp).fn x = true ∨ (X.blk s H scope (compEnvC scope cl C X.env) fp).env.scope.names.lookup x = some .local := by
  rcases lookup_rel (env := X.env) h with q | ⟨z, _⟩
  · exact .inr q
  · cases z
end
end VS
namespace VS
open PySem PySem.Spec L2
open PyProof.Rows hiding St

/-! ### enumerate of a text -/
/-- the signs of x, each in a new pair -/
def Ies (x : Str) : It :=
  ⟨fun i _ => i < x.cps.size, fun i H v H' => ∃ (p : Addr) (c : Nat), v = .ref p ∧ H p = none ∧ x.cps[i]? = some c ∧ H' = upd H p (.tup [.int (i : Nat), .str ⟨#[c]⟩]), fun i _ => x.cps.size ≤ i⟩
theorem turn_enumS {P : Program} {w : World} {K : PySem.W.Frag} {elts : List Expr} {kk : Nat} {tpos : Pos} (x : Str) (t : Tok) (ty : String) (hty : ty = "str_ascii_iterator" ∨ ty = "str_iterator") (e it : Addr) :
    Turn P w K (.Tuple elts kk tpos) (Ies x) [e, it] e (fun i h => (∃ old, IsEnum h e it ((i : Nat) : Int) old) ∧ h.IsStrIter it ty x t i ∧ e ≠ it) where
  mem := by simp
  obj := fun i h st b hb => by
    obtain ⟨⟨old, he⟩, ⟨o, ho, hc, hd⟩, _⟩ := st
    have e' : b = e ∨ b = it := by simpa using hb
    rcases e' with z | z
    · rw [z]; exact ⟨_, he, fun v q => nomatch q⟩
    · rw [z]; exact ⟨o, ho, fun v q => by rw [hd] at q; cases q⟩
  keep := fun i h h' st k => let ⟨⟨old, he⟩, ⟨o, ho, r⟩, hne⟩ := st; ⟨⟨old, k e (by simp) _ he⟩, ⟨o, k it (by simp) o ho, r⟩, hne⟩
  item := by
    intro X hP hw hK hc i pins s σ H E I hf st hg
    subst hP hw hK
    obtain ⟨⟨old, he⟩, hit, hne⟩ := st
    have hel : e < s.heap.objs.size := Heap.lt_size he
    have hil : it < s.heap.objs.size := by obtain ⟨_, q, _⟩ := hit; exact Heap.lt_size q
    have D : Draws X.prog X.w X.A.in1 it [it] x.cps.size (fun i v => ∃ c u, x.cps[i]? = some c ∧ v = .str ⟨#[c]⟩ u) (fun i h => h.IsStrIter it ty x t i) := by
      rcases hty with e | e
      · rw [e]; exact Draws.strAscii (A := X.A.in1) (I.ok.hd hc) it x t
      · rw [e]; exact Draws.strWide (A := X.A.in1) (I.ok.hd hc) it x t
    refine wpAny_pyNext_enum_itemD D he hit hg hne (by simpa using hne) fun u h' tk hu ho hit' hT hsz hk => ?_
    obtain ⟨c, uu, hx, rfl⟩ := hu
    refine ⟨_, rfl, wpAny_letOwnedTupleGo_enum (s := { s with heap := h', toks := tk + 1 }) ho fun h'' he' sb => ?_⟩
    have hT2 : h''.get? s.heap.objs.size = some { cls := .type "tuple", data := .seq #[.int i tk, .str ⟨#[c]⟩ uu] } := (sb.2 _ (Nat.ne_of_gt hel)).trans hT
    have new : ObjOk X.prog X.w (upd H s.heap.objs.size (.tup [.int (i : Nat), .str ⟨#[c]⟩])) h'' s.heap.objs.size (.tup [.int (i : Nat), .str ⟨#[c]⟩]) :=
      ⟨by show 2 ≤ sizeLine; decide, [.int i tk, .str ⟨#[c]⟩ uu], .cons ⟨_, rfl⟩ (.cons ⟨_, rfl⟩ .nil), ⟨_, hT2, rfl, _, rfl⟩⟩
    have I1 : Inv X pins σ (upd H s.heap.objs.size (.tup [.int (i : Nat), .str ⟨#[c]⟩])) { s with heap := h'', toks := tk + 1 } :=
      I.turnedNew (ch := [e, it]) (fun b ob hb q => (sb.2 b (fun z => hb (by simp [z]))).trans (hk b ob (fun z => hb (by simp [z])) (fun z => hb (by simp [z])) q)) hf (Nat.le_refl _) new
    refine ⟨.ref s.heap.objs.size, _, I1, rfl, ⟨_, c, rfl, I.hok.fresh (Nat.le_refl _), hx, rfl⟩, ⟨⟨.str ⟨#[c]⟩ uu, ?_⟩, ?_, hne⟩, fun b hb => ?_⟩
    · have e1 : ((i + 1 : Nat) : Int) = (i : Int) + 1 := by omega
      rw [e1]; exact he'
    · obtain ⟨o, ho, r⟩ := hit'
      exact ⟨o, (sb.2 it (Ne.symm hne)).trans ho, r⟩
    · have hb' : b < s.heap.objs.size := by
        have e' : b = e ∨ b = it := by simpa using hb
        rcases e' with z | z
        · rw [z]; exact hel
        · rw [z]; exact hil
      rw [upd_ne (Nat.ne_of_lt hb')]
      exact (hf b hb).1
  done := by
    intro X hP hw hK hc i pins s σ H E I hf st hg
    subst hP hw hK
    obtain ⟨⟨old, he⟩, hit, hne⟩ := st
    obtain ⟨f0, f1, f2, f3, f4, f5⟩ := hf it (by simp)
    have hx : x.cps[i]? = none := Array.getElem?_eq_none hg
    have hT : s.TypeIs (.ref e) "enumerate" := ⟨_, he, rfl⟩
    have fin : ∀ {Q : Value → Shared → Prop} {E : Value → Shared → Prop} {A' : Around}, A'.handled = none → (∀ h' x, Heap.ExtBut it s.heap h' → (∃ o, h'.get? x = some o ∧ o.cls = .type "StopIteration") → E (.ref x) { s with heap := h' }) → wpAny (model X.prog X.w) A' (Builtin.SmallTypes.nextOf (.ref it)) Q E s := by
      intro Q E A' hh q
      rcases hty with e | e
      · rw [e] at hit; exact wpAny_nextOf_ascii_end hh hit hx q
      · rw [e] at hit; exact wpAny_nextOf_wide_end hh hit hx q
    unfold pyNext
    refine wpAny_bind (wpAny_attempt (wpAny_callSpecial?_slot (name := Str.ofString "__next__") hT F.slot_enumerate_next
      (wpAny_call_entry F.slot_enumerate_next hT F.entry_enumerate_next ?_ (F.args_enumerate_next_1 _))))
    show wpAny _ _ (field (.ref e) 2 >>= _) _ _ _
    refine wpAny_bind (wpAny_field he rfl (x := .ref it) rfl ?_)
    refine wpAny_bind (fin (I.ok.hd hc) fun h' y he' hx' => ?_)
    obtain ⟨o, ho, hcl⟩ := hx'
    refine wpAny_bind (wpAny_isInstance (T := "StopIteration") (b := true) ⟨o, ho, hcl⟩ isSubtype_stop ?_)
    exact wpAny_pure ⟨rfl, I.turned (t' := s.toks) (fun b o hb q => he' b o hb q) f0 f1 f3 f4 f5⟩
  self := fun A i s Q E st h => let ⟨⟨_, he⟩, _⟩ := st; wpAny_pyIter_enum he h
def iEnumA (K : PySem.W.Frag) (ta : TA) : TI := fun σ H R => ta σ H fun vs H1 => (∃ a xs, vs = [.ref a] ∧ SqL K H1 a xs ∧ R (Ite K a) H1) ∨ ∃ x, vs = [.str x] ∧ R (Ies x) H1
theorem pi_enumA {X : Cx} {e : Expr} {ta : TA} {p pos tpos : Pos} {elts : List Expr} {kk : Nat} (hg : Gl X "enumerate") (hm : X.mg "enumerate" = none) (ha : PA X [e] ta) (hs : starEach [e] X.env = [(false, eval e X.env)] := by rfl) :
    PI X (.Tuple elts kk tpos) (.Call (.Name "enumerate" p) [e] [] pos) (iEnumA X.K ta) := by
  refine ⟨fun pins s σ H R I h => ?_⟩
  refine Call_ (ld_blt I hg hm boot_enumerate (PyProof.Rows.callWith_type1 (thn (ha.run pos pins s σ H _ I h) fun us s1 ⟨vs, H1, I1, r1, q1⟩ => ?_) hs rfl))
  have tail : ∀ {h' : Heap}, (∀ b o, s1.heap.get? b = some o → h'.get? b = some o) → ∀ b, b ∈ [s1.heap.objs.size + 1, s1.heap.objs.size] → FpOk X pins H1 b := fun {h'} hk b hb => by
    have e' : b = s1.heap.objs.size + 1 ∨ b = s1.heap.objs.size := by simpa using hb
    have hle : s1.heap.objs.size ≤ b := by
      rcases e' with z | z
      · rw [z]; exact Nat.le_add_right _ _
      · rw [z]; exact Nat.le_refl _
    exact I1.fpOk hle (I1.hok.fresh hle)
  rcases q1 with ⟨a, xs, ex, hq, q⟩ | ⟨x, ex, q⟩
  · subst ex
    cases r1 with
    | cons r rr =>
      cases rr
      cases r
      obtain ⟨its, rv, p', hz⟩ := I1.list hq
      refine call_enumerate_list p'.isList fun h' he hit hsz hk => wpAny_pyIter_enum he ?_
      have I2 : Inv X pins σ H1 { s1 with heap := h' } := I1.kept (t' := s1.toks) hk
      exact ⟨s1.heap.objs.size + 1, [s1.heap.objs.size + 1, s1.heap.objs.size], _, _, H1, rfl, I2, turn_enum a (s1.heap.objs.size + 1) s1.heap.objs.size, ⟨⟨.none, he⟩, hit, Nat.succ_ne_self _⟩, tail hk, q⟩
  · subst ex
    cases r1 with
    | cons r rr =>
      cases rr
      obtain ⟨t, rfl⟩ := r
      refine call_enumerate_str fun h' he hit hsz hk => wpAny_pyIter_enum he ?_
      have I2 : Inv X pins σ H1 { s1 with heap := h' } := I1.kept (t' := s1.toks) hk
      cases ha : x.cps.all (· < 128)
      · have hit' : h'.IsStrIter s1.heap.objs.size "str_iterator" x t 0 := by simpa [strIterType, ha] using hit
        exact ⟨s1.heap.objs.size + 1, [s1.heap.objs.size + 1, s1.heap.objs.size], _, _, H1, rfl, I2, turn_enumS x t "str_iterator" (.inr rfl) (s1.heap.objs.size + 1) s1.heap.objs.size, ⟨⟨.none, he⟩, hit', Nat.succ_ne_self _⟩, tail hk, q⟩
      · have hit' : h'.IsStrIter s1.heap.objs.size "str_ascii_iterator" x t 0 := by simpa [strIterType, ha] using hit
        exact ⟨s1.heap.objs.size + 1, [s1.heap.objs.size + 1, s1.heap.objs.size], _, _, H1, rfl, I2, turn_enumS x t "str_ascii_iterator" (.inl rfl) (s1.heap.objs.size + 1) s1.heap.objs.size, ⟨⟨.none, he⟩, hit', Nat.succ_ne_self _⟩, tail hk, q⟩
section
variable {X : Cx} {fx : Fx} {W : L2.WX} {pos : Pos}
def enT : T → Option (List D)
  | .s (.str z) => some (enD (z.cps.toList.map fun c => .str ⟨#[c]⟩))
  | t => t.ls.map enD
def itEn (f : En → R En (List T × En)) : En → R En (List D × En) := fun env => bnd (f env) fun a => match a.1 with
  | [t] => ofO (enT t) fun ds => .ok (ds, a.2)
  | _ => .no
theorem itok_enumS {G : Kt} {F0 H0 : Hp} {fp0 : List Addr} {z : Str} : ItOk G (Ies z) (enD (z.cps.toList.map fun c => .str ⟨#[c]⟩)) F0 H0 fp0 := by
  intro F2 H2 fp2 g s i
  refine ⟨fun d hd => ?_, fun hn => ?_⟩
  · unfold enD at hd
    rw [List.getElem?_zipWith, List.getElem?_map] at hd
    cases e2 : z.cps.toList[i]? with
    | none => 
      rw [e2] at hd
      cases e1 : (List.range (z.cps.toList.map fun c => D.str ⟨#[c]⟩).length)[i]? with
      | none => rw [e1] at hd; cases hd
      | some _ => rw [e1] at hd; cases hd
    | some c =>
      rw [e2] at hd
      have hlt : i < z.cps.toList.length := (List.getElem?_eq_some_iff.mp e2).1
      rw [List.length_map, List.getElem?_range hlt] at hd
      cases hd
      have e' : z.cps[i]? = some c := by simpa using e2
      have hlt' : i < z.cps.size := by simpa using hlt
      refine ⟨hlt', fun x H3 y => ?_⟩
      obtain ⟨p, c', rfl, hp, ec, rfl⟩ := y
      rw [e'] at ec
      cases ec
      have gl := Grow.layF (o := .tup [.int (i : Nat), .str ⟨#[c]⟩]) s hp
      refine ⟨_, gl, ?_⟩
      simp only [Rep]
      exact ⟨p, _, rfl, .inl upd_same, by
        simp only [Reps, Rep]
        exact ⟨_, _, rfl, rfl, _, [], rfl, rfl, rfl⟩⟩
  · have hn' : z.cps.size ≤ i := by simpa [enD] using hn
    exact hn'
theorem vi_enumA {e : Expr} {p tpos : Pos} {elts : List Expr} {kk : Nat} {f : En → R En (List T × En)} (hg : Gl X "enumerate") (hm : X.mg "enumerate" = none) (ha : VEs X fx W [e] f) (hs : starEach [e] X.env = [(false, eval e X.env)] := by rfl) :
    VI X fx W (.Tuple elts kk tpos) (.Call (.Name "enumerate" p) [e] [] pos) (itEn f) :=
  PI.imp (pi_enumA hg hm ha hs) fun σ H R' h => tVs_I (k := fun ts e => match ts with
    | [t] => ofO (enT t) fun ds => .ok (ds, e)
    | _ => .no) (fun ts e F H fp vs ft S o nd off P => by
    split at P
    · rename_i t
      have lsc : ∀ ds, t.ls = some ds → enT t = some (enD ds) → (∃ a xs, vs = [V.ref a] ∧ SqL X.K H a xs ∧ R' (Ite X.K a) H) := by
        intro ds el en
        rw [en] at P
        simp only [Owns] at o
        obtain ⟨v, r0, f1, f2, rfl, o, ⟨rfl, rfl⟩, rfl⟩ := o
        rw [List.append_nil] at nd P off
        obtain ⟨a, us, rfl, h1, r⟩ := ls_rep S.sub o.bor el
        refine ⟨a, us, rfl, .of h1, P _ F H fp S (Go.refl.less fun p hp => List.mem_append_left _ hp) (itok_enum h1 (fun hm => ?_) r)⟩
        cases t with
        | s d =>
          cases d with
          | lst xs =>
            simp only [Own, Rep] at o
            obtain ⟨⟨a', vs', e', ha', _⟩, _⟩ := o
            cases e'
            rw [S.off _ hm] at ha'; cases ha'
          | _ => cases el
        | l ts =>
          simp only [Own] at o
          obtain ⟨p', vs', f1, e', ha', _, rfl⟩ := o
          cases e'
          exact (List.nodup_append.mp nd).2.2 _ hm _ List.mem_cons_self rfl
        | dk _ => cases el
        | ob _ _ => cases el
        | p _ => cases el
      unfold enT at P lsc
      split at P
      · rename_i z
        right
        simp only [Owns, Own, Rep] at o
        obtain ⟨v, r0, f1, f2, rfl, ⟨rfl, rfl⟩, ⟨rfl, rfl⟩, rfl⟩ := o
        exact ⟨z, rfl, P _ F H fp S (Go.refl.less fun p hp => List.mem_append_left _ hp) itok_enumS⟩
      · rename_i hz
        cases el : t.ls with
        | none => rw [el] at P; exact P.elim
        | some ds =>
          left
          refine lsc ds el ?_
          split
          · exact absurd rfl (hz _)
          · rw [el]; rfl
    · exact P.elim) h
end
end VS
/-! own exceptions: made, raised, caught, looked at -/
namespace VS
open PySem PySem.Spec L2
open PyProof.Rows hiding St

/-- isinstance(e, c), e the exception that the suite holds, with its dict or without -/
def rIsX (K : PySem.W.Frag) (D a : Addr) (d : Option Addr) : List V → Hp → VK → Prop := fun xs H Q => ∃ (c : V) (cv : Value) (b : Bool), xs = [.ref a, c] ∧ (∀ u, RelV c u → u = cv) ∧ PySem.W.kitOne K (.ref D) cv = some b ∧ (∀ dd, d = some dd → ∃ fs, H dd = some (.xd fs)) ∧ Q (.bl b) H
theorem call_isX {X : Cx} {a D : Addr} {d : Option Addr} {oe : Obj} {pn : List (Addr × Obj)} (C : ExcC X.K D) (hz : Zc (.ref D) d oe) (hf : ∃ vs, oe.data = .fields vs) : CallR (X.suite a ((a, oe) :: pn)) (.builtin "isinstance") (rIsX X.K D a d) := by
  intro pins s σ H xs us Q I r h
  obtain ⟨c, cv, b, rfl, hcv, e, hd, q⟩ := h
  cases r with
  | cons rx rr =>
    cases rr with
    | cons rt rr =>
      cases rr
      cases rx
      have ec := hcv _ rt
      subst ec
      obtain ⟨hget, _⟩ := I.pin (a, oe) (List.mem_append.mpr (.inl List.mem_cons_self))
      obtain ⟨vs, hv⟩ := hf
      obtain ⟨od, J⟩ : ∃ od, PySem.W.InstAt s.heap a oe D od := by
        obtain ⟨oc, od, oda, osl⟩ := oe
        obtain ⟨h1, h2⟩ := hz
        dsimp only at h1 h2 hv
        subst h1 h2 hv
        cases od with
        | none => exact ⟨none, hget, rfl, rfl, trivial⟩
        | some dd =>
          obtain ⟨fs, hfs⟩ := hd dd rfl
          have hx : ObjOk X.prog X.w H s.heap dd (.xd fs) := I.hok dd _ hfs
          obtain ⟨mA, hns, hr⟩ := hx
          obtain ⟨ob, ho, hl⟩ := lookIn_ns hns
          exact ⟨some ob, hget, rfl, rfl, ho⟩
      exact PySem.W.kia_one (PySem.W.kitx_exc (by obtain ⟨cd, hc, _⟩ := PySem.W.any_some C.hd; rw [hc]; rfl) C.hg C.hk C.hs C.ha C.hn C.ht C.hm) I.kIn J e (fun z => nomatch z) fun tk => ⟨.bl b, H, I.kept (t' := tk) fun _ _ z => z, rfl, q⟩

/-! ### __init__ of an own exception -/
def spI (K : PySem.W.Frag) (names : List Str) : Sp := fun vs H Q _ => ∃ (a C : Addr) (ys : List V), vs = .ref a :: ys ∧ ys.length = names.length ∧ OexC K C ∧ (∀ f ∈ names, PySem.W.findIn K (.ref C) f = some none) ∧ H a = some (exo a C none) ∧
  ∀ dx, H dx = none → dx ≠ a → Q .non (upd (upd H dx (exd dx (names.zip ys).reverse)) a (exo a C (some dx)))
section
variable {P : Program} {w : World} {K : PySem.W.Frag} {mg : Str → Option Value} {base : Heap}
theorem init1 {qual : Str} {st : Stmt} {fI : Addr} {fd : FuncData} {f : Str} {p1 p2 p3 p4 : Pos} (F : Fun K "__init__" qual st fI fd) (S : FnScope ["self", f] ["self", f] (defScope st)) (hb : defBody st = [.Assign [.Attribute (.Name "self" p1) f p2] (.Name f p3) p4])
    (v0 : Vis (defScope st) "self") (v1 : Vis (defScope st) f) (hd : (f == ("__debug__" : Str)) = false := by decide) (hcd : (f == ("__classdict__" : Str)) = false := by decide) :
    FnOk P w K mg base (L2.CX P w) 1 fI fd ["self", f] (spI K [f]) := by
  refine F.okX S (fun vs H Q E h => ?_) (fun cdv A outer s H vs Q E hr h => ⟨tOst K f (tVar 0) (tVar 1), ?_, ?_⟩)
  · obtain ⟨a, C, ys, rfl, hl, _⟩ := h
    simp [hl]
  · rw [hb]
    exact pss_one (ps_ost (pe_var (i := 0) rfl v0) (pe_var (i := 1) rfl v1 hd hcd))
  · obtain ⟨a, C, ys, rfl, hl, T, hno, ha, q⟩ := h
    match ys, hl with
    | [y], _ =>
      refine ⟨y, rfl, .ref a, rfl, a, C, rfl, T, hno f List.mem_cons_self, .inl ⟨ha, fun dx h1 h2 => ?_⟩⟩
      exact q dx h1 h2
theorem init2 {qual : Str} {st : Stmt} {fI : Addr} {fd : FuncData} {f g : Str} {p1 p2 p3 p4 q1 q2 q3 q4 : Pos} (F : Fun K "__init__" qual st fI fd) (S : FnScope ["self", f, g] ["self", f, g] (defScope st))
    (hb : defBody st = [.Assign [.Attribute (.Name "self" p1) f p2] (.Name f p3) p4, .Assign [.Attribute (.Name "self" q1) g q2] (.Name g q3) q4])
    (v0 : Vis (defScope st) "self") (v1 : Vis (defScope st) f) (v2 : Vis (defScope st) g) (hd : (f == ("__debug__" : Str)) = false := by decide) (hcd : (f == ("__classdict__" : Str)) = false := by decide)
    (hd2 : (g == ("__debug__" : Str)) = false := by decide) (hcd2 : (g == ("__classdict__" : Str)) = false := by decide) :
    FnOk P w K mg base (L2.CX P w) 1 fI fd ["self", f, g] (spI K [f, g]) := by
  refine F.okX S (fun vs H Q E h => ?_) (fun cdv A outer s H vs Q E hr h => ⟨tSeq (tOst K f (tVar 0) (tVar 1)) (tOst K g (tVar 0) (tVar 2)), ?_, ?_⟩)
  · obtain ⟨a, C, ys, rfl, hl, _⟩ := h
    simp [hl]
  · rw [hb]
    exact pss_cons (ps_ost (pe_var (i := 0) rfl v0) (pe_var (i := 1) rfl v1 hd hcd)) (pss_one (ps_ost (pe_var (i := 0) rfl v0) (pe_var (i := 2) rfl v2 hd2 hcd2)))
  · obtain ⟨a, C, ys, rfl, hl, T, hno, ha, q⟩ := h
    match ys, hl with
    | [y, z], _ =>
      refine ⟨y, rfl, .ref a, rfl, a, C, rfl, T, hno f List.mem_cons_self, .inl ⟨ha, fun dx h1 h2 => ?_⟩⟩
      refine ⟨z, rfl, .ref a, rfl, a, C, rfl, T, hno g (by simp), .inr ⟨dx, [(f, y)], upd_same, by rw [upd_ne h2, upd_same], by simp, ?_⟩⟩
      have e : upd (upd (upd H dx (exd dx [(f, y)])) a (exo a C (some dx))) dx (exd dx [(g, z), (f, y)]) = upd (upd H dx (exd dx [(g, z), (f, y)])) a (exo a C (some dx)) := by
        funext b
        by_cases hb : b = dx
        · rw [hb, upd_same, upd_ne h2, upd_same]
        · rw [upd_ne hb]
          by_cases ha : b = a
          · rw [ha, upd_same, upd_same]
          · rw [upd_ne ha, upd_ne ha, upd_ne hb, upd_ne hb]
      show Q .non _
      rw [e]
      exact q dx h1 h2
end
/-- a class that is raised: its fields are its arguments -/
structure RaC (P : Program) (w : World) (K : PySem.W.Frag) (mg : Str → Option Value) (base : Heap) (x : Str) (names : List Str) : Prop where
  ex : ∃ (C fI : Addr) (fd : FuncData), mg x = some (.ref C) ∧ OexC K C ∧ PySem.W.findIn K (.ref C) "__init__" = some (some (.ref fI)) ∧ PySem.W.typeIn K (.ref fI) = some (.type "function") ∧ FnOk P w K mg base (L2.CX P w) 1 fI fd ("self" :: names) (spI K names) ∧
    L2.Binds K fd ("self" :: names) [] ∧ ∀ f ∈ names, PySem.W.findIn K (.ref C) f = some none
section
variable {X : Cx} {fx : Fx} {W : L2.WX} {pos : Pos}
def raS (x : Str) (names : List Str) (fs : En → R En (List T × En)) : En → R En (Fl × En) := fun env => bnd (fs env) fun a => if a.1.length = names.length then ofO (shs a.1) fun ds => .ex x (names.zip ds).reverse a.2 else .no
theorem Reps.zipF {G : Kt} {F : Hp} : ∀ {names : List Str} {ds : List D} {vs : List V}, Reps G F ds vs → RepF G F (names.zip ds) (names.zip vs)
  | [], _, _, _ => by simp only [List.zip_nil_left, RepF]
  | n :: ns, [], vs, h => by
    simp only [Reps] at h
    subst h
    simp only [List.zip_nil_right, RepF]
  | n :: ns, d :: ds, vs, h => by
    simp only [Reps] at h
    obtain ⟨v, r, rfl, h1, h2⟩ := h
    simp only [List.zip_cons_cons, RepF]
    exact ⟨v, _, rfl, h1, Reps.zipF h2⟩
theorem RepF.app {G : Kt} {F : Hp} : ∀ {a b : List (Str × D)} {u v : List (Str × V)}, RepF G F a u → RepF G F b v → RepF G F (a ++ b) (u ++ v)
  | [], b, u, v, h, k => by
    simp only [RepF] at h
    subst h
    exact k
  | (x, d) :: a, b, u, v, h, k => by
    simp only [RepF] at h
    obtain ⟨w, r, rfl, h1, h2⟩ := h
    simp only [List.cons_append, RepF]
    exact ⟨w, _, rfl, h1, RepF.app h2 k⟩
theorem RepF.rev {G : Kt} {F : Hp} : ∀ {a : List (Str × D)} {u : List (Str × V)}, RepF G F a u → RepF G F a.reverse u.reverse
  | [], u, h => by
    simp only [RepF] at h
    subst h
    simp only [List.reverse_nil, RepF]
  | (x, d) :: a, u, h => by
    simp only [RepF] at h
    obtain ⟨w, r, rfl, h1, h2⟩ := h
    simp only [List.reverse_cons]
    exact RepF.app (RepF.rev h2) (by simp only [RepF]; exact ⟨w, [], rfl, h1, rfl⟩)
theorem vs_raise {x : Str} {names : List Str} {e : Expr} {es : List Expr} {p cpos : Pos} {fs : En → R En (List T × En)} (C : RaC X.prog X.w X.K X.mg X.base x names) (hc : X.calm = true) (tk : Takes X W) (hr : Room 2 X.A) (hg : Gl X x) (ha : VEs X fx W (e :: es) fs) (hz : names.length ≤ 1000 := by decide)
    (hdb : (x == ("__debug__" : Str)) = false := by decide) (he : starEach (e :: es) X.env = (false, eval e X.env) :: starEach es X.env := by rfl) (hpl : (backTo cpos (starEach es X.env)).any (·.1) = false := by rfl) :
    VS1 X fx W (.Raise (some (.Call (.Name x p) (e :: es) [] cpos)) none pos) (raS x names fs) := by
  obtain ⟨C, fI, fd, gC, T, iC, tI, F1, hb, hno⟩ := C.ex
  refine PS.imp (ps_raise hc tk (pmk_oex T iC tI F1 hr hb .nil (fun _ _ _ _ _ _ _ ⟨_, _, _, _, _, _, _, _, _, _, _, _, z⟩ => z.elim) hg gC ha hdb he hpl)) fun D σ H h => ?_
  · obtain ⟨env, F, fp, S, P⟩ := h
    refine ⟨env, F, fp, S, ?_⟩
    unfold raS at P
    cases ea : fs env with
    | no => rw [ea] at P; exact P
    | ex c fs e => rw [ea] at P; exact fun cls d F' H' fp' S' x g => P cls d σ F' H' fp' S' x g
    | ok a =>
      obtain ⟨ts, e1⟩ := a
      rw [ea] at P
      dsimp only [bnd] at P
      split at P
      case isFalse => exact P.elim
      rename_i hl
      cases es : shs ts with
      | none => rw [es] at P; exact P.elim
      | some ds =>
        rw [es] at P
        have e' := shs_eq es
        subst e'
        intro vs F' H' fp' ft S' o nd off g
        have r := (Owns.bor _ _ _ o).shs
        have hvl : vs.length = names.length := r.len.trans (by simpa using hl)
        refine ⟨by omega, fun a hna => ⟨a, C, vs, by rw [List.append_nil], hvl, T, hno, upd_same, fun dx h1 h2 => ⟨rfl, dx, _, upd_same, by rw [upd_ne h2, upd_same], ?_, ?_⟩⟩⟩
        · rw [upd_ne h2] at h1; exact h1
        · have h1' : H' dx = none := by rw [upd_ne h2] at h1; exact h1
          have e : upd (del (upd (upd (upd H' a (exo a C none)) dx (exd dx (names.zip vs).reverse)) a (exo a C (some dx))) a) dx (.xd (names.zip vs).reverse) = upd H' dx (.xd (names.zip vs).reverse) := by
            funext b
            by_cases hb : b = dx
            · rw [hb, upd_same, upd_same]
            · rw [upd_ne hb, upd_ne hb]
              by_cases hba : b = a
              · rw [hba, del_same, hna]
              · rw [del_ne hba, upd_ne hba, upd_ne hb, upd_ne hba]
          rw [e]
          have gl := Grow.layF (o := .xd (names.zip vs).reverse) S'.sub h1'
          refine P (.ref C) (some dx) σ _ _ fp' (S'.grow gl) ⟨C, gC, rfl, .inr ⟨dx, rfl, _, upd_same, ?_⟩⟩ ((g.less fun p hp => List.mem_append_left _ hp).trans (gl.go fp'))
          exact ((Reps.mono gl.f _ _ r).zipF).rev
end
end VS
namespace VS
open PySem PySem.Spec L2
/-- one clause, with a name or without -/
def wOne (K : PySem.W.Frag) (Wout : L2.WX) (D' : Ends) : List (Value × Option Nat × (Addr → Value → Option Addr → TS)) → L2.WX
  | [(c, none, ts)] => wOnly K c ts Wout D'
  | [(c, some i, ts)] => wAs K c i ts Wout D'
  | _ => fun _ _ _ _ => False
end VS
namespace VS
open PySem PySem.Spec L2
open PyProof.Rows hiding St

/-! ### the classes that clauses and isinstance name: a table -/
abbrev XT := List (Str × List Str × List (Str × Bool))
def clV (mg : Str → Option Value) (x : Str) : Option Value := match mg x with
  | some v => some v
  | none => bootBuiltins x
structure XcOk (K : PySem.W.Frag) (mg : Str → Option Value) (c : Str) (fs : List Str) (sub : List (Str × Bool)) : Prop where
  ex : ∃ C : Addr, mg c = some (.ref C) ∧ XfC K C ∧ ExcC K C ∧ (∀ f ∈ fs, PySem.W.findIn K (.ref C) f = some none) ∧
    ∀ p ∈ sub, ∃ cv, clV mg p.1 = some cv ∧ PySem.W.exmOne K (.ref C) cv = some p.2 ∧ PySem.W.kitOne K (.ref C) cv = some p.2
def subX (tb : XT) (c x : Str) : Option Bool := (tb.lookup c).bind fun q => q.2.lookup x
def fldX (tb : XT) (c : Str) (fs : List (Str × D)) (f : Str) : Option D := (tb.lookup c).bind fun q => if q.1.contains f then fs.lookup f else none
theorem lookup_mem' {α : Type} {l : List (Str × α)} {x : Str} {y : α} (h : l.lookup x = some y) : (x, y) ∈ l := by
  induction l with
  | nil => cases h
  | cons p l ih =>
    obtain ⟨a, b⟩ := p
    rw [List.lookup_cons] at h
    split at h
    · rename_i e
      cases h
      have : x = a := by simpa using e
      subst this
      exact List.mem_cons_self
    · exact List.mem_cons_of_mem _ (ih h)

/-! ### try -/
def preH : Option Nat → En → Option En
  | none, e => some e
  | some i, e => if i < e.length then some (e.set i none) else none
def endH (o : Option Nat) : R En (Fl × En) → R En (Fl × En)
  | .ok a => ofO (preH o a.2) fun e => .ok (a.1, e)
  | _ => .no
abbrev Han := Str × Option Nat × (Str → List (Str × D) → En → R En (Fl × En))
def hnS (tb : XT) : List Han → Str → List (Str × D) → En → R En (Fl × En)
  | [], c, fs, e => .ex c fs e
  | (x, o, s) :: r, c, fs, e => match subX tb c x with
    | some true => ofO (preH o e) fun e' => endH o (s c fs e')
    | some false => hnS tb r c fs e
    | none => .no
def trS (tb : XT) (body : En → R En (Fl × En)) (hs : List Han) : En → R En (Fl × En) := fun env => match body env with
  | .ok a => .ok a
  | .ex c fs e => hnS tb hs c fs e
  | .no => .no
/-- what is known of the exception that a suite holds -/
structure Cau (X : Cx) (tb : XT) (a : Addr) (oe : Obj) (cls : Value) (d : Option Addr) (c : Str) (fs : List (Str × D)) : Prop where
  hz : Zc cls d oe
  hf : ∃ vs, oe.data = .fields vs
  C : ∃ C, X.mg c = some (.ref C) ∧ cls = .ref C
  dn : d = none → fs = []
def fxC (fx : Fx) (o : Option Nat) (a : Addr) (fs : List (Str × D)) (d : Option Addr) : Fx :=
  ⟨(match o with | some i => (i, .ref a) :: fx.sl | none => fx.sl), (match d with | some dd => (fs, dd) :: fx.pn | none => fx.pn)⟩
inductive VH (X : Cx) (fx : Fx) (tb : XT) : List ExceptHandler → List Han → Prop
  | only {x : Str} {s : Str → List (Str × D) → En → R En (Fl × En)} {b₀ : Stmt} {suite : List Stmt} {np pos' : Pos} {cv : Value} (hn : Names X x cv) (hcv : clV X.mg x = some cv)
      (hsu : ∀ (a : Addr) (oe : Obj) (cls : Value) (d : Option Addr) (pn : List (Addr × Obj)) (c : Str) (fs : List (Str × D)), Cau X tb a oe cls d c fs → VSs (X.suite a ((a, oe) :: pn)) (fxC fx none a fs d) (fun _ _ _ _ => False) (b₀ :: suite) (s c fs)) :
      VH X fx tb [.ExceptHandler (some (.Name x np)) none (b₀ :: suite) pos'] [(x, none, s)]
  | as_ {x n : Str} {i : Nat} {s : Str → List (Str × D) → En → R En (Fl × En)} {b₀ : Stmt} {suite : List Stmt} {np pos' : Pos} {cv : Value} (hN : X.N.Nodup) (hi : X.N[i]? = some n) (hln : X.env.kindOf n = some .local) (hq : ∀ q ∈ fx, q.1 ≠ i)
      (hn : Names X x cv) (hcv : clV X.mg x = some cv)
      (hsu : ∀ (a : Addr) (oe : Obj) (cls : Value) (d : Option Addr) (pn : List (Addr × Obj)) (c : Str) (fs : List (Str × D)), Cau X tb a oe cls d c fs → VSs (X.suite a ((a, oe) :: pn)) (fxC fx (some i) a fs d) (fun _ _ _ _ => False) (b₀ :: suite) (s c fs)) :
      VH X fx tb [.ExceptHandler (some (.Name x np)) (some n) (b₀ :: suite) pos'] [(x, some i, s)]
/-- a suite's reading -/
def tSu (X : Cx) (fx : Fx) (o : Option Nat) (s : Str → List (Str × D) → En → R En (Fl × En)) (a : Addr) (cls : Value) (d : Option Addr) : TS := fun D σ H => ∃ c fs, (∃ C, X.mg c = some (.ref C) ∧ cls = .ref C) ∧ (d = none → fs = []) ∧ tS (kt X) (fxC fx o a fs d) (fun _ _ _ _ => False) (s c fs) D σ H
theorem Sta.gone {G : Kt} {fx : Fx} {e : En} {F H : Hp} {σ : L2.St} {fp : List Addr} {i : Nat} {s : Option V} {fx' : Fx} (S : Sta G fx e F σ H fp) (hi : i < e.length) (hfix : ∀ q ∈ fx', (σ.set i s)[q.1]? = some (some q.2)) (hpin : ∀ q ∈ fx'.pn, PinOk G F q) :
    ∃ fp', Sta G fx' (e.set i none) F (σ.set i s) H fp' ∧ ∀ p ∈ fp', p ∈ fp := by
  obtain ⟨a, b, c, s0, rfl, hs, ob, k⟩ := S.own.split (List.getElem?_eq_getElem hi)
  have k' := k F H none s [] (.refl _) (fun _ _ _ e => e) rfl
  rw [List.nil_append] at k'
  have sl : (a ++ c).Sublist (a ++ (b ++ c)) := (List.Sublist.refl a).append (List.sublist_append_right b c)
  exact ⟨a ++ c, ⟨k', S.nd.sublist sl, fun p hp => S.off p (sl.subset hp), S.sub, hfix, hpin⟩, fun p hp => sl.subset hp⟩
theorem pinC {G : Kt} {fx : Fx} {o : Option Nat} {a : Addr} {F H : Hp} {c : Str} {fs : List (Str × D)} {cls : Value} {d : Option Addr} (hp : ∀ q ∈ fx.pn, PinOk G F q) (x : ExR G F H c fs cls d) : ∀ q ∈ (fxC fx o a fs d).pn, PinOk G F q := by
  obtain ⟨C, _, _, x⟩ := x
  intro q hq
  rcases x with ⟨rfl, rfl⟩ | ⟨dd, rfl, p⟩
  · exact hp q hq
  · rcases List.mem_cons.mp (show q ∈ (fs, dd) :: fx.pn from hq) with rfl | z
    · exact p
    · exact hp q z
theorem pinB {G : Kt} {fx : Fx} {o : Option Nat} {a : Addr} {F : Hp} {fs : List (Str × D)} {d : Option Addr} (h : ∀ q ∈ (fxC fx o a fs d).pn, PinOk G F q) : ∀ q ∈ fx.pn, PinOk G F q := fun q hq => by
  cases d with
  | none => exact h q hq
  | some dd => exact h q (List.mem_cons_of_mem _ hq)
theorem xt_exm {X : Cx} {tb : XT} (xt : ∀ q ∈ tb, XcOk X.K X.mg q.1 q.2.1 q.2.2) {c x : Str} {b : Bool} (h : subX tb c x = some b) {C : Addr} (hC : X.mg c = some (.ref C)) {cv : Value} (hv : clV X.mg x = some cv) :
    PySem.W.exmOne X.K (.ref C) cv = some b ∧ PySem.W.kitOne X.K (.ref C) cv = some b ∧ ExcC X.K C := by
  unfold subX at h
  cases e : tb.lookup c with
  | none => rw [e] at h; cases h
  | some q =>
    rw [e] at h
    obtain ⟨C', hC', _, xc, _, k⟩ := (xt _ (lookup_mem' e)).ex
    have hCC := hC.symm.trans hC'
    cases hCC
    obtain ⟨cv', h1, h2, h3⟩ := k _ (lookup_mem' h)
    have hvv := hv.symm.trans h1
    cases hvv
    exact ⟨h2, h3, xc⟩
theorem hds_of {X : Cx} {fx : Fx} {tb : XT} (xt : ∀ q ∈ tb, XcOk X.K X.mg q.1 q.2.1 q.2.2) {hds : List ExceptHandler} {l : List Han} (h : VH X fx tb hds l) (hs : X.stack = X.env :: X.outer) (hf : X.env.frame = some X.env.locals) : ∃ l',
    (∀ (W : L2.WX) (body : List Stmt) (pos : Pos) (tB : L2.WX → TS), Takes X W → (∀ (W' : L2.WX) (pn : List (Addr × Obj)) (xe : Value → Shared → Prop), Takes (X.tr pn xe) W' → PassesOwn (model X.prog X.w) X.A X.env xe → PSs (X.tr pn xe) body (tB W')) →
      PS X (.Try body hds [] [] pos) (fun D' σ H => tB (wOne X.K W D' l') D' σ H)) ∧
    ∀ (W : L2.WX) (D' : Ends) (F H : Hp) (fp : List Addr) (c : Str) (fs : List (Str × D)) (e : En), PSt (kt X) fx W D' F H fp (hnS tb l c fs e) →
      ∀ cls d σ' F' H' fp', Sta (kt X) fx e F' σ' H' fp' → ExR (kt X) F' H' c fs cls d → Go F H fp F' H' fp' → wOne X.K W D' l' cls d σ' H' := by
  cases h with
  | @only x s b₀ suite np pos' cv hn hcv hsu =>
    refine ⟨[(cv, none, tSu X fx none s)], fun W body pos tB tk hb => ps_try_only hs hf hn tk hb (fun a oe cls d pn hz hf => ⟨fun pins sh σ H Q I ⟨c, fs, hC, hdn, q⟩ => (hsu a oe cls d pn c fs ⟨hz, hf, hC, hdn⟩).run pins sh σ H Q I q⟩), ?_⟩
    intro W D' F H fp c fs e P cls d σ' F' H' fp' S ex g
    unfold hnS at P
    cases es : subX tb c x with
    | none => rw [es] at P; exact P.elim
    | some b =>
      rw [es] at P
      obtain ⟨C, hC, ecls, rest⟩ := id ex
      have e3 := xt_exm xt es hC hcv
      refine ⟨b, by rw [ecls]; exact e3.1, fun hb a hna => ?_, fun hb => ?_⟩
      · subst hb
        refine ⟨c, fs, ⟨C, hC, ecls⟩, fun z => rest.elim (fun h => h.2) fun ⟨dd, h1, _⟩ => (by rw [z] at h1; cases h1), e, F', fp', ⟨S.own, S.nd, S.off, S.sub, S.fix, pinC S.pin ex⟩, ?_⟩
        simp only [preH, ofO_some] at P
        cases er : s c fs e with
        | no => rw [er] at P; exact P
        | ex c' fs' e' => rw [er] at P; exact P.elim
        | ok a2 =>
          obtain ⟨fl, e2⟩ := a2
          rw [er] at P
          simp only [endH, preH, ofO_some] at P
          cases fl with
          | nx => exact fun σ2 F2 H2 fp2 S2 g2 => P σ2 F2 H2 fp2 ⟨S2.own, S2.nd, S2.off, S2.sub, S2.fix, pinB S2.pin⟩ (g.trans g2)
          | bk => exact fun σ2 F2 H2 fp2 S2 g2 => P σ2 F2 H2 fp2 ⟨S2.own, S2.nd, S2.off, S2.sub, S2.fix, pinB S2.pin⟩ (g.trans g2)
          | ct => exact fun σ2 F2 H2 fp2 S2 g2 => P σ2 F2 H2 fp2 ⟨S2.own, S2.nd, S2.off, S2.sub, S2.fix, pinB S2.pin⟩ (g.trans g2)
          | rt t => exact fun v σ2 F2 H2 fp2 ft S2 o nd off g2 => P v σ2 F2 H2 fp2 ft ⟨S2.own, S2.nd, S2.off, S2.sub, S2.fix, pinB S2.pin⟩ o nd off (g.trans g2)
      · subst hb
        exact P cls d σ' F' H' fp' S ex g
  | @as_ x n i s b₀ suite np pos' cv hN hi hln hq hn hcv hsu =>
    refine ⟨[(cv, some i, tSu X fx (some i) s)], fun W body pos tB tk hb => ps_try_as hs hf hN hi hln hn tk hb (fun a oe cls d pn hz hf => ⟨fun pins sh σ H Q I ⟨c, fs, hC, hdn, q⟩ => (hsu a oe cls d pn c fs ⟨hz, hf, hC, hdn⟩).run pins sh σ H Q I q⟩), ?_⟩
    intro W D' F H fp c fs e P cls d σ' F' H' fp' S ex g
    unfold hnS at P
    cases es : subX tb c x with
    | none => rw [es] at P; exact P.elim
    | some b =>
      rw [es] at P
      obtain ⟨C, hC, ecls, rest⟩ := id ex
      have e3 := xt_exm xt es hC hcv
      refine ⟨b, by rw [ecls]; exact e3.1, fun hb a hna => ?_, fun hb => ?_⟩
      · subst hb
        by_cases hlt : i < e.length
        case neg => simp only [preH, if_neg hlt, ofO_none] at P; exact P.elim
        simp only [preH, if_pos hlt, ofO_some] at P
        have hlt' : i < σ'.length := by rw [← S.own.there]; exact hlt
        have hfix : ∀ q ∈ fxC fx (some i) a fs d, (σ'.set i (some (.ref a)))[q.1]? = some (some q.2) := by
          intro q hm
          rcases List.mem_cons.mp (show q ∈ (i, V.ref a) :: fx.sl from hm) with rfl | z
          · exact List.getElem?_set_self hlt'
          · rw [List.getElem?_set_ne (Ne.symm (hq q z))]
            exact S.fix q z
        obtain ⟨fq, S1, sub1⟩ := S.gone hlt (s := some (.ref a)) (fx' := fxC fx (some i) a fs d) hfix (pinC S.pin ex)
        refine ⟨c, fs, ⟨C, hC, ecls⟩, fun z => rest.elim (fun h => h.2) fun ⟨dd, h1, _⟩ => (by rw [z] at h1; cases h1), e.set i none, F', fq, S1, ?_⟩
        have g1 : Go F H fp F' H' fq := g.less sub1
        cases er : s c fs (e.set i none) with
        | no => rw [er] at P; exact P
        | ex c' fs' e' => rw [er] at P; exact P.elim
        | ok a2 =>
          obtain ⟨fl, e2⟩ := a2
          rw [er] at P
          by_cases hlt2 : i < e2.length
          case neg => simp only [endH, preH, if_neg hlt2, ofO_none] at P; exact P.elim
          simp only [endH, preH, if_pos hlt2, ofO_some] at P
          have back : ∀ {σ2 F2 H2 fp2}, Sta (kt X) (fxC fx (some i) a fs d) e2 F2 σ2 H2 fp2 → ∃ fp3, Sta (kt X) fx (e2.set i none) F2 (σ2.set i none) H2 fp3 ∧ ∀ p ∈ fp3, p ∈ fp2 := fun {σ2 F2 H2 fp2} S2 =>
            S2.gone hlt2 (fun q hm => by
              rw [List.getElem?_set_ne (Ne.symm (hq q hm))]
              exact S2.fix q (List.mem_cons_of_mem _ hm)) (pinB S2.pin)
          cases fl with
          | nx => exact fun σ2 F2 H2 fp2 S2 g2 => let ⟨fp3, S3, s3⟩ := back S2; P _ F2 H2 fp3 S3 ((g1.trans g2).less s3)
          | bk => exact fun σ2 F2 H2 fp2 S2 g2 => let ⟨fp3, S3, s3⟩ := back S2; P _ F2 H2 fp3 S3 ((g1.trans g2).less s3)
          | ct => exact fun σ2 F2 H2 fp2 S2 g2 => let ⟨fp3, S3, s3⟩ := back S2; P _ F2 H2 fp3 S3 ((g1.trans g2).less s3)
          | rt t =>
            intro v σ2 F2 H2 fp2 ft S2 o nd off g2
            obtain ⟨fp3, S3, s3⟩ := back S2
            refine P v _ F2 H2 fp3 ft S3 o ?_ off ((g1.trans g2).less fun p hp => ?_)
            · rw [List.nodup_append] at nd ⊢
              exact ⟨S3.nd, nd.2.1, fun x hx y hy => nd.2.2 x (s3 x hx) y hy⟩
            · rcases List.mem_append.mp hp with z | z
              · exact List.mem_append_left _ (s3 p z)
              · exact List.mem_append_right _ z
      · subst hb
        exact P cls d σ' F' H' fp' S ex g
section
variable {X : Cx} {fx : Fx} {W : L2.WX} {pos : Pos}
theorem vs_try {tb : XT} {body : List Stmt} {h₀ : ExceptHandler} {hds : List ExceptHandler} {l : List Han} {fb : En → R En (Fl × En)} (xt : ∀ q ∈ tb, XcOk X.K X.mg q.1 q.2.1 q.2.2) (hs : X.stack = X.env :: X.outer) (hf : X.env.frame = some X.env.locals) (tk : Takes X W)
    (hb : ∀ (W' : L2.WX) (pn : List (Addr × Obj)) (xe : Value → Shared → Prop), Takes (X.tr pn xe) W' → PassesOwn (model X.prog X.w) X.A X.env xe → VSs (X.tr pn xe) fx W' body fb) (hh : VH X fx tb (h₀ :: hds) l) :
    VS1 X fx W (.Try body (h₀ :: hds) [] [] pos) (trS tb fb l) := by
  obtain ⟨l', hg, k⟩ := hds_of xt hh hs hf
  refine PS.imp (hg W body pos (fun W' => tS (kt X) fx W' fb) tk hb) fun D' σ H h => ?_
  obtain ⟨env, F, fp, S, P⟩ := h
  refine ⟨env, F, fp, S, ?_⟩
  unfold trS at P
  cases eb : fb env with
  | no => rw [eb] at P; exact P
  | ok a =>
    obtain ⟨fl, e⟩ := a
    rw [eb] at P
    cases fl with
    | nx => exact P
    | bk => exact P
    | ct => exact P
    | rt t => exact P
  | ex c fs e =>
    rw [eb] at P
    exact k W D' F H fp c fs e P

/-! ### in a suite: e.f, isinstance(e, C) -/
theorem RepF.look {G : Kt} {F : Hp} {f : Str} {d : D} : ∀ {fs : List (Str × D)} {vs : List (Str × V)}, RepF G F fs vs → fs.lookup f = some d → ∃ v, vs.lookup f = some v ∧ Rep G F d v
  | [], vs, _, h => by cases h
  | (x, y) :: fs, vs, r, h => by
    simp only [RepF] at r
    obtain ⟨v, us, rfl, h1, h2⟩ := r
    rw [List.lookup_cons] at h ⊢
    cases e : f == x with
    | true => rw [e] at h; cases h; exact ⟨v, rfl, h1⟩
    | false => rw [e] at h; exact RepF.look h2 h
def xfB (tb : XT) (c : Str) (fs : List (Str × D)) (f : Str) : En → R En T := fun _ => ofO (fldX tb c fs f) fun d => .ok (.s d)
theorem vb_xf {tb : XT} {i : Nat} {n f : Str} {np : Pos} {a : Addr} {oe : Obj} {cls : Value} {d : Option Addr} {pn : List (Addr × Obj)} {c : Str} {fs : List (Str × D)} (xt : ∀ q ∈ tb, XcOk X.K X.mg q.1 q.2.1 q.2.2) (C : Cau X tb a oe cls d c fs)
    (hN : X.N[i]? = some n) (hv : Vis X.env.scope n) (hd : (n == ("__debug__" : Str)) = false := by decide) (hcd : (n == ("__classdict__" : Str)) = false := by decide) (hb : attributeBase (.Name n np) f X.env (eval (.Name n np) X.env) = eval (.Name n np) X.env := by rfl) :
    VB (X.suite a ((a, oe) :: pn)) (fxC fx (some i) a fs d) W (.Attribute (.Name n np) f pos) (xfB tb c fs f) := by
  refine ⟨fun pins s σ H Q I h => ?_⟩
  obtain ⟨env, F, fp, S, P⟩ := h
  unfold xfB fldX at P
  cases el : tb.lookup c with
  | none => rw [el] at P; exact P.elim
  | some q =>
    rw [el] at P
    by_cases hc : q.1.contains f = true
    case neg => simp only [Option.bind_some, if_neg hc] at P; exact P.elim
    simp only [Option.bind_some, if_pos hc] at P
    cases ef : fs.lookup f with
    | none => rw [ef] at P; exact P.elim
    | some dv =>
      rw [ef] at P
      obtain ⟨Ca, hC, ecls⟩ := C.C
      obtain ⟨C', hC', xf, _, hno, _⟩ := (xt _ (lookup_mem' el)).ex
      have hCC := hC.symm.trans hC'
      cases hCC
      cases d with
      | none => rw [C.dn rfl] at ef; cases ef
      | some dd =>
        obtain ⟨vs, hx, rf⟩ := S.pin (fs, dd) List.mem_cons_self
        obtain ⟨v, hl, rv⟩ := rf.look ef
        refine (pe_xf (X := X) xf (hno f (by simpa using hc)) C.hz C.hf (pe_var (X := X.suite a ((a, oe) :: pn)) (i := i) hN hv hd hcd) hb).run pins s σ H Q I ?_
        refine ⟨.ref a, S.fix (i, .ref a) List.mem_cons_self, rfl, ecls, dd, vs, v, rfl, S.sub _ _ hx, hl, ?_⟩
        exact P v F H (.refl S.sub) (by simp only [Bor]; exact rv)
def xiB (tb : XT) (c x : Str) : En → R En T := fun _ => ofO (subX tb c x) fun b => .ok (.s (.bl b))
theorem xi_core {tb : XT} {i : Nat} {n x : Str} {np xp cp : Pos} {a : Addr} {oe : Obj} {cls : Value} {d : Option Addr} {pn : List (Addr × Obj)} {c : Str} {fs : List (Str × D)} {cv : Value} {xv : V} (xt : ∀ q ∈ tb, XcOk X.K X.mg q.1 q.2.1 q.2.2) (C : Cau X tb a oe cls d c fs)
    (hN : X.N[i]? = some n) (hv : Vis X.env.scope n) (hgi : Gl X "isinstance") (hmi : X.mg "isinstance" = none) (hx : PE (X.suite a ((a, oe) :: pn)) (.Name x xp) (tC xv)) (hr : ∀ u, RelV xv u → u = cv) (hcv : clV X.mg x = some cv)
    (hd : (n == ("__debug__" : Str)) = false := by decide) (hcd : (n == ("__classdict__" : Str)) = false := by decide) (he : starEach [.Name n np, .Name x xp] X.env = (false, eval (.Name n np) X.env) :: starEach [.Name x xp] X.env := by rfl)
    (he2 : starEach [.Name x xp] X.env = (false, eval (.Name x xp) X.env) :: starEach [] X.env := by rfl) (hpl : (backTo pos (starEach [.Name x xp] X.env)).any (·.1) = false := by rfl) :
    VB (X.suite a ((a, oe) :: pn)) (fxC fx (some i) a fs d) W (.Call (.Name "isinstance" cp) [.Name n np, .Name x xp] [] pos) (xiB tb c x) := by
  refine ⟨fun pins s σ H Q I h => ?_⟩
  obtain ⟨env, F, fp, S, P⟩ := h
  unfold xiB at P
  cases es : subX tb c x with
  | none => rw [es] at P; exact P.elim
  | some b =>
    rw [es] at P
    obtain ⟨Ca, hC, ecls⟩ := C.C
    have e3 := xt_exm xt es hC hcv
    have hz := C.hz
    rw [ecls] at hz
    refine (pe_callB (X := X.suite a ((a, oe) :: pn)) (call_isX (X := X) e3.2.2 hz C.hf) hgi hmi PyProof.Rows.boot_isinstance (pa_cons (pe_var (X := X.suite a ((a, oe) :: pn)) (i := i) hN hv hd hcd) (pa_cons hx pa_nil he2) he) (by decide) (by decide) he hpl).run pins s σ H Q I ?_
    refine ⟨.ref a, S.fix (i, .ref a) List.mem_cons_self, ?_⟩
    refine (⟨xv, cv, b, rfl, hr, e3.2.1, fun dd hdd => ?_, ?_⟩ : rIsX X.K Ca a d [V.ref a, xv] H Q)
    · subst hdd
      obtain ⟨vs, hx, rf⟩ := S.pin (fs, dd) List.mem_cons_self
      exact ⟨vs, S.sub _ _ hx⟩
    · exact P (.bl b) F H (.refl S.sub) (by simp only [Bor, Rep])
theorem clV_own {mg : Str → Option Value} {x : Str} {v : Value} (h : mg x = some v) : clV mg x = some v := by unfold clV; rw [h]
theorem clV_blt {mg : Str → Option Value} {x : Str} {v : Value} (h : mg x = none) (hv : bootBuiltins x = some v) : clV mg x = some v := by unfold clV; rw [h]; exact hv
/-- isinstance(e, C), C an own class -/
theorem vb_xi {tb : XT} {i : Nat} {n x : Str} {np xp cp : Pos} {a C : Addr} {oe : Obj} {cls : Value} {d : Option Addr} {pn : List (Addr × Obj)} {c : Str} {fs : List (Str × D)} (xt : ∀ q ∈ tb, XcOk X.K X.mg q.1 q.2.1 q.2.2) (K : Cau X tb a oe cls d c fs)
    (hN : X.N[i]? = some n) (hv : Vis X.env.scope n) (hgi : Gl X "isinstance") (hmi : X.mg "isinstance" = none) (hgx : Gl X x) (hm : X.mg x = some (.ref C)) (hdx : (x == ("__debug__" : Str)) = false := by decide)
    (hd : (n == ("__debug__" : Str)) = false := by decide) (hcd : (n == ("__classdict__" : Str)) = false := by decide) (he : starEach [.Name n np, .Name x xp] X.env = (false, eval (.Name n np) X.env) :: starEach [.Name x xp] X.env := by rfl)
    (he2 : starEach [.Name x xp] X.env = (false, eval (.Name x xp) X.env) :: starEach [] X.env := by rfl) (hpl : (backTo pos (starEach [.Name x xp] X.env)).any (·.1) = false := by rfl) :
    VB (X.suite a ((a, oe) :: pn)) (fxC fx (some i) a fs d) W (.Call (.Name "isinstance" cp) [.Name n np, .Name x xp] [] pos) (xiB tb c x) :=
  xi_core xt K hN hv hgi hmi (pe_glob (X := X.suite a ((a, oe) :: pn)) (v := .ref C) hgx hm rfl hdx) (cv := .ref C) (fun u r => r) (clV_own hm) hd hcd he he2 hpl
theorem vb_xiB {tb : XT} {i : Nat} {n x : Str} {ty : String} {np xp cp : Pos} {a : Addr} {oe : Obj} {cls : Value} {d : Option Addr} {pn : List (Addr × Obj)} {c : Str} {fs : List (Str × D)} (xt : ∀ q ∈ tb, XcOk X.K X.mg q.1 q.2.1 q.2.2) (K : Cau X tb a oe cls d c fs)
    (hN : X.N[i]? = some n) (hv : Vis X.env.scope n) (hgi : Gl X "isinstance") (hmi : X.mg "isinstance" = none) (hgx : Gl X x) (hm : X.mg x = none) (hb : bootBuiltins x = some (.type ty)) (hnn : x ≠ "__name__" := by decide) (hdx : (x == ("__debug__" : Str)) = false := by decide)
    (hd : (n == ("__debug__" : Str)) = false := by decide) (hcd : (n == ("__classdict__" : Str)) = false := by decide) (he : starEach [.Name n np, .Name x xp] X.env = (false, eval (.Name n np) X.env) :: starEach [.Name x xp] X.env := by rfl)
    (he2 : starEach [.Name x xp] X.env = (false, eval (.Name x xp) X.env) :: starEach [] X.env := by rfl) (hpl : (backTo pos (starEach [.Name x xp] X.env)).any (·.1) = false := by rfl) :
    VB (X.suite a ((a, oe) :: pn)) (fxC fx (some i) a fs d) W (.Call (.Name "isinstance" cp) [.Name n np, .Name x xp] [] pos) (xiB tb c x) :=
  xi_core xt K hN hv hgi hmi (pe_bltn (X := X.suite a ((a, oe) :: pn)) (v := .ty ty) hgx hm hb rfl hnn hdx) (cv := .type ty) (fun u r => r) (clV_blt hm hb) hd hcd he he2 hpl

/-! ### a call that only looks at its arguments (owned ones, too) and hands back plain data -/
def atomT : T → Option T
  | .s .non => some (.s .non)
  | .s (.bl b) => some (.s (.bl b))
  | .s (.int i) => some (.s (.int i))
  | .s (.str x) => some (.s (.str x))
  | _ => none
def callA (n : Nat) (sem : FS) (gs : En → R En (List T)) : En → R En T := fun env => bnd (gs env) fun ts => if ts.length = n then (match sem ((ers ts).map T.s) with
  | .ok (t, _) => ofO (atomT t) .ok
  | _ => .no) else .no
theorem vb_callA {k : Nat} {f : Addr} {fd : FuncData} {ps : List Str} {sem : FS} {x : Str} {p pos : Pos} {e : Expr} {es : List Expr} {gs : En → R En (List T)} (F : VF X.prog X.w X.K X.mg X.base k f fd ps sem) (hr : Room k X.A) (hg : Gl X x) (hm : X.mg x = some (.ref f))
    (hk : PySem.W.keepIn X.K (.ref f) = true) (hb : L2.Binds X.K fd ps []) (tk : Takes X W) (ha : VBs X fx W (e :: es) gs) (hdb : (x == ("__debug__" : Str)) = false := by decide)
    (he : starEach (e :: es) X.env = (false, eval e X.env) :: starEach es X.env := by rfl) (hpl : (backTo pos (starEach es X.env)).any (·.1) = false := by rfl) : VB X fx W (.Call (.Name x p) (e :: es) [] pos) (callA ps.length sem gs) :=
  PE.imp (pe_callSD F hr hg hm hk hb .nil (fun σ => passAt tk σ) ha hdb he hpl) fun σ H Q h => by
    obtain ⟨env, F0, fp, S, P⟩ := h
    refine ⟨env, F0, fp, S, ?_⟩
    unfold callA at P
    cases ea : gs env with
    | no => rw [ea] at P; exact P
    | ex c fs e => rw [ea] at P; exact P
    | ok ts =>
      rw [ea] at P
      dsimp only [bnd] at P
      by_cases hl : ts.length = ps.length
      case neg => rw [if_neg hl] at P; exact P.elim
      rw [if_pos hl] at P
      intro vs F1 H1 g1 b
      rw [List.append_nil]
      refine ⟨by rw [b.len]; exact hl, (ers ts).map T.s, H1, [], (Bors.rep g1.sub _ _ b).owns, List.nodup_nil, by simp, .refl _, ?_⟩
      cases esem : sem ((ers ts).map T.s) with
      | no => rw [esem] at P; exact P
      | ex c xs us => rw [esem] at P; exact P.elim
      | ok a =>
        obtain ⟨t, us⟩ := a
        rw [esem] at P
        dsimp only at P
        intro v F2 H2 fp2 f2 ou ot nd2 off2 sub2 g2
        have gg : Grow F1 H1 F1 H2 := ⟨.refl _, fun p o h => g2.h p o h (by simp), fun p o h => .inl h, fun p o h => g2.h p o (g1.sub _ _ h) (by simp)⟩
        have hat : ∀ t', atomT t = some t' → Bor (kt X) F1 H2 t' v := by
          intro t' e
          unfold atomT at e
          split at e <;> cases e <;> (simp only [Own, Rep] at ot; simp only [Bor, Rep]; exact ot.1)
        cases eat : atomT t with
        | none => rw [eat] at P; exact P.elim
        | some t' =>
          rw [eat] at P
          exact P v F1 H2 (g1.trans gg) (hat t' eat)
end
end VS
namespace VS
open PySem PySem.Spec L2
open PyProof.Rows hiding St

/-! ### sorted, of texts or of ints, any number of them -/
def leS (a b : Str) : Bool := !ltCps b.cps.toList a.cps.toList
def sortS (xs : List Str) : List Str := xs.mergeSort leS
def sortI (ns : List Int) : List Int := ns.mergeSort fun a b => decide (a ≤ b)
theorem leS_iff {a b : Str} : leS a b = true ↔ a.cps.toList ≤ b.cps.toList := by
  unfold leS
  rw [PyProof.Rows.ltCps_eq]
  simp
theorem leS_trans (a b c : Str) (h1 : leS a b = true) (h2 : leS b c = true) : leS a c = true := by
  rw [leS_iff] at *
  exact List.le_trans h1 h2
theorem leS_total (a b : Str) : (leS a b || leS b a) = true := by
  rw [Bool.or_eq_true, leS_iff, leS_iff]
  exact List.le_total _ _
theorem leS_anti {a b : Str} (h1 : leS a b = true) (h2 : leS b a = true) : a = b := by
  rw [leS_iff] at *
  have e := List.le_antisymm h1 h2
  cases a; cases b
  simp only at e
  rw [Array.toList_inj] at e
  rw [e]
theorem rising_pw : ∀ (l : List Str) (p : Str), risingS p l = true → (p :: l).Pairwise (fun a b => leS a b = true)
  | [], p, _ => List.pairwise_singleton _ _
  | x :: l, p, h => by
    unfold risingS at h
    rw [Bool.and_eq_true] at h
    have ih := rising_pw l x h.2
    refine List.pairwise_cons.mpr ⟨fun y hy => ?_, ih⟩
    have h1 : leS p x = true := h.1
    rcases List.mem_cons.mp hy with rfl | hy
    · exact h1
    · exact leS_trans _ _ _ h1 ((List.pairwise_cons.mp ih).1 y hy)
theorem sortedS_pw : ∀ {l : List Str}, sortedS l = true → l.Pairwise (fun a b => leS a b = true)
  | [], _ => List.Pairwise.nil
  | x :: l, h => rising_pw l x h
theorem sortS_uniq {ys xs : List Str} (p : ys.Perm xs) (h : sortedS ys = true) : ys = sortS xs :=
  List.Perm.eq_of_pairwise (le := fun a b => leS a b = true) (fun a b _ _ h1 h2 => leS_anti h1 h2) (sortedS_pw h) (List.pairwise_mergeSort leS_trans leS_total xs) (p.trans (List.mergeSort_perm xs leS).symm)
theorem sortI_uniq {ys xs : List Int} (p : ys.Perm xs) (h : ys.Pairwise (· ≤ ·)) : ys = sortI xs :=
  List.Perm.eq_of_pairwise (le := fun a b : Int => a ≤ b) (fun a b _ _ h1 h2 => Int.le_antisymm h1 h2) h
    ((List.pairwise_mergeSort (le := fun a b : Int => decide (a ≤ b)) (fun a b c h1 h2 => by simp only [decide_eq_true_eq] at *; omega) (fun a b => by simp only [Bool.or_eq_true, decide_eq_true_eq]; omega) xs).imp fun h => of_decide_eq_true h) (p.trans (List.mergeSort_perm xs _).symm)
def rSorA (K : PySem.W.Frag) : List V → Hp → VK → Prop := fun vs H Q => ∃ a : Addr, vs = [V.ref a] ∧
  ((∃ ns : List Int, SqL K H a (ns.map V.int) ∧ ∀ p, H p = none → Q (.ref p) (upd H p (.lst ((sortI ns).map V.int)))) ∨ ∃ xs : List Str, SqL K H a (xs.map V.str) ∧ ∀ p, H p = none → Q (.ref p) (upd H p (.lst ((sortS xs).map V.str))))
theorem call_sortedA {X : Cx} : CallR X (.builtin "sorted") (rSorA X.K) := by
  intro pins s σ H vs us Q I r h
  obtain ⟨a, rfl, h⟩ := h
  rcases h with ⟨ns, hs, q⟩ | ⟨xs, hs, q⟩
  · exact cr_sortedI pins s σ H [V.ref a] us Q I r ⟨a, ns, rfl, hs, fun ns' p h1 h2 hp => by rw [sortI_uniq h1 h2]; exact q p hp⟩
  · obtain ⟨its, rv, hl, hz⟩ := I.list hs
    rw [Vals.ref1 r]
    refine PyProof.Rows.sorted_strsAny hl.isList rv.strs (by rw [← rv.length]; exact hz) fun out ys h1 h2 h3 => ?_
    obtain ⟨ep, he'⟩ := PyProof.Rows.sortedAll_at s.heap its out
    have hlen : (ys.map V.str).length ≤ sizeLine := by
      rw [List.length_map, h2.length_eq]
      rw [List.length_map] at hz
      exact hz
    refine ⟨.ref _, upd H (s.heap.objs.size + 1) (.lst (ys.map V.str)), I.laid (t' := s.toks) (fun _ _ => PyProof.Rows.sortedAll_old) (Nat.le_succ _) ⟨hlen, out.toList, ep, vals_of_strs h1, he'⟩, rfl, ?_⟩
    have e := sortS_uniq h2 h3
    subst e
    exact q _ (I.hok.fresh (Nat.le_succ _))
def intsO : List D → Option (List Int)
  | [] => some []
  | .int i :: r => (intsO r).map (i :: ·)
  | _ :: _ => none
theorem intsO_eq : ∀ {ds : List D} {ns : List Int}, intsO ds = some ns → ds = ns.map D.int
  | [], ns, h => by cases h; rfl
  | d :: ds, ns, h => by
    cases d <;> first | (simp only [intsO, Option.map_eq_some_iff] at h; obtain ⟨r, h1, rfl⟩ := h; simp [intsO_eq h1]) | cases h
theorem intsO_map : ∀ ns : List Int, intsO (ns.map D.int) = some ns
  | [] => rfl
  | n :: ns => by simp [intsO, intsO_map ns]
theorem Reps.vint {G : Kt} {F : Hp} : ∀ {ns : List Int} {vs : List V}, Reps G F (ns.map D.int) vs → vs = ns.map V.int
  | [], vs, h => by simpa only [List.map_nil, Reps] using h
  | n :: ns, vs, h => by
    simp only [List.map_cons, Reps, Rep] at h
    obtain ⟨v, r, rfl, rfl, h2⟩ := h
    rw [Reps.vint h2]; rfl
theorem reps_strs {G : Kt} {F : Hp} : ∀ xs : List Str, Reps G F (xs.map D.str) (xs.map V.str)
  | [] => by simp only [List.map_nil, Reps]
  | x :: xs => by
    simp only [List.map_cons, Reps, Rep]
    exact ⟨_, _, rfl, rfl, reps_strs xs⟩
def pSorted : List T → Option T
  | [t] => match t.ls with
    | some ds => match intsO ds with
      | some ns => some (.l (((sortI ns).map D.int).map T.s))
      | none => (strsO ds).map fun xs => .l (((sortS xs).map D.str).map T.s)
    | none => none
  | _ => none
theorem strsO_eq : ∀ {ds : List D} {xs : List Str}, strsO ds = some xs → ds = xs.map D.str
  | [], xs, h => by cases h; rfl
  | d :: ds, xs, h => by
    cases d <;> first | (simp only [strsO, Option.map_eq_some_iff] at h; obtain ⟨r, h1, rfl⟩ := h; simp [strsO_eq h1]) | cases h
theorem Reps.vstr {G : Kt} {F : Hp} : ∀ {ns : List Str} {vs : List V}, Reps G F (ns.map D.str) vs → vs = ns.map V.str
  | [], vs, h => by simpa only [List.map_nil, Reps] using h
  | n :: ns, vs, h => by
    simp only [List.map_cons, Reps, Rep] at h
    obtain ⟨v, r, rfl, rfl, h2⟩ := h
    rw [Reps.vstr h2]; rfl
theorem prim_sorted {G : Kt} : PrimN G (rSorA G.K) pSorted := by
  intro ts xs F H Q s b p
  unfold pSorted at p
  split at p
  · have b0 := b.one
    clear b
    obtain ⟨v, rfl, b⟩ := b0
    split at p
    · rename_i ds el
      obtain ⟨a, vs, rfl, h1, r⟩ := ls_rep s b el
      split at p
      · rename_i ns en
        have e := intsO_eq en
        subst e
        have e2 := r.vint
        subst e2
        exact ⟨a, rfl, .inl ⟨ns, .of h1, PR.lst s p (Reps.ints _)⟩⟩
      · cases es : strsO ds with
        | none => rw [es] at p; exact p.elim
        | some xs =>
          rw [es] at p
          have e := strsO_eq es
          subst e
          have e2 := r.vstr
          subst e2
          exact ⟨a, rfl, .inr ⟨xs, .of h1, PR.lst s p (reps_strs _)⟩⟩
    · exact p.elim
  · exact p.elim
end VS
namespace VS
open PySem PySem.Spec L2
open PyProof.Rows hiding St

/-! ### dicts by ints and texts -/
def kOf : T → Option Key
  | .s (.int i) => some (.inl i)
  | .s (.str x) => some (.inr x)
  | _ => none
def getT (kvs : List (Key × T)) (k : Key) : Option T := (kvs.find? fun kv => decide (kv.1 = k)).map (·.2)
def hasT (kvs : List (Key × T)) (k : Key) : Bool := kvs.any fun kv => decide (kv.1 = k)
/-- a new key with any value, a known one with shared data alone -/
def putT (kvs : List (Key × T)) (k : Key) (t : T) : Option (List (Key × T)) := if hasT kvs k then (match t with
  | .s d => some (kvs.map fun kv => if kv.1 = k then (kv.1, .s d) else kv)
  | _ => none) else some (kvs ++ [(k, t)])
section
variable {G : Kt} {F H : Hp} {Q : V → Hp → Prop}
theorem kOf_rep {t : T} {v : V} {k : Key} (b : Bor G F H t v) (e : kOf t = some k) : v = kV k := by
  unfold kOf at e
  split at e <;> cases e <;> (simp only [Bor, Rep] at b; exact b)
theorem BorK.any {k : Key} : ∀ {kvs : List (Key × T)} {vs : List (Key × V)}, BorK G F H kvs vs → hasT kvs k = (valV vs k).isSome
  | [], vs, h => by
    simp only [BorK] at h
    subst h
    rfl
  | (x, t) :: kvs, vs, h => by
    simp only [BorK] at h
    obtain ⟨v, r, rfl, h1, h2⟩ := h
    have ih := BorK.any (k := k) h2
    unfold hasT at ih ⊢
    rw [List.any_cons, ih]
    by_cases e : x = k
    · rw [valV_pos (p := (x, v)) e]; simp [e]
    · rw [valV_neg (p := (x, v)) e]; simp [e]
theorem BorK.get {k : Key} {t : T} : ∀ {kvs : List (Key × T)} {vs : List (Key × V)}, BorK G F H kvs vs → getT kvs k = some t → ∃ v, valV vs k = some v ∧ Bor G F H t v
  | [], vs, h, e => by cases e
  | (x, u) :: kvs, vs, h, e => by
    simp only [BorK] at h
    obtain ⟨v, r, rfl, h1, h2⟩ := h
    unfold getT at e
    by_cases ex : x = k
    · rw [List.find?_cons_of_pos (by simpa using ex)] at e
      cases e
      exact ⟨v, valV_pos (p := (x, v)) ex, h1⟩
    · rw [List.find?_cons_of_neg (by simpa using ex)] at e
      obtain ⟨w, hw, bw⟩ := BorK.get h2 (show getT kvs k = some t from e)
      exact ⟨w, by rw [valV_neg (p := (x, v)) ex]; exact hw, bw⟩
/-- d[k], a value of shared data -/
def rDG : R2 := fun x y H Q => ∃ a v, x = V.ref a ∧ DGet H a y (some v) ∧ Q v H
def rDI : R2 := fun y x H Q => ∃ a o, x = V.ref a ∧ DGet H a y o ∧ Q (.bl o.isSome) H
def rDN : R2 := fun y x H Q => ∃ a o, x = V.ref a ∧ DGet H a y o ∧ Q (.bl (!o.isSome)) H
def pDg (x y : T) : Option T := match x with
  | .dk kvs => (kOf y).bind fun k => (getT kvs k).bind fun t => t.sh.map T.s
  | _ => none
def pDi (y x : T) : Option T := match x with
  | .dk kvs => (kOf y).map fun k => .s (.bl (hasT kvs k))
  | _ => none
def pDn (y x : T) : Option T := match x with
  | .dk kvs => (kOf y).map fun k => .s (.bl (!hasT kvs k))
  | _ => none
theorem sh_eq {t : T} {d : D} (h : t.sh = some d) : t = .s d := by
  cases t <;> cases h
  rfl
theorem prim_dg : Prim2 G rDG pDg := by
  intro tx ty x y F H Q s b1 b2 p
  unfold pDg at p
  split at p
  · rename_i kvs
    simp only [Bor] at b1
    obtain ⟨a, vs, rfl, h1, r⟩ := b1
    cases ek : kOf ty with
    | none => rw [ek] at p; exact p.elim
    | some k =>
      rw [ek] at p
      have ey := kOf_rep b2 ek
      subst ey
      cases eg : getT kvs k with
      | none => rw [Option.bind_some, eg] at p; exact p.elim
      | some t =>
        rw [Option.bind_some, eg, Option.bind_some] at p
        cases es : t.sh with
        | none => rw [es] at p; exact p.elim
        | some d =>
          rw [es] at p
          have et := sh_eq es
          subst et
          obtain ⟨v, hv, bv⟩ := r.get eg
          simp only [Bor] at bv
          refine ⟨a, v, rfl, ?_, PR.val s p bv⟩
          rw [← hv]
          exact DGet.k h1
  · exact p.elim
theorem prim_di : Prim2 G rDI pDi := by
  intro ty tx y x F H Q s b2 b1 p
  unfold pDi at p
  split at p
  · rename_i kvs
    simp only [Bor] at b1
    obtain ⟨a, vs, rfl, h1, r⟩ := b1
    cases ek : kOf ty with
    | none => rw [ek] at p; exact p.elim
    | some k =>
      rw [ek] at p
      have ey := kOf_rep b2 ek
      subst ey
      refine ⟨a, _, rfl, DGet.k h1, ?_⟩
      rw [← r.any (k := k)]
      exact PR.bl s p
  · exact p.elim
theorem prim_dn : Prim2 G rDN pDn := by
  intro ty tx y x F H Q s b2 b1 p
  unfold pDn at p
  split at p
  · rename_i kvs
    simp only [Bor] at b1
    obtain ⟨a, vs, rfl, h1, r⟩ := b1
    cases ek : kOf ty with
    | none => rw [ek] at p; exact p.elim
    | some k =>
      rw [ek] at p
      have ey := kOf_rep b2 ek
      subst ey
      refine ⟨a, _, rfl, DGet.k h1, ?_⟩
      rw [← r.any (k := k)]
      exact PR.bl s p
  · exact p.elim
end
section
variable {X : Cx} {fx : Fx} {W : L2.WX} {a b : Expr} {ga gb : En → R En T} {pos : Pos}
theorem vb_dg (hu : X.A.units + 1 < cLine) (ha : VB X fx W a ga) (hb : VB X fx W b gb) (hs : NoSl b) : VB X fx W (.Subscript a b pos) (b2 pDg ga gb) := PE.imp (pe_dget hu ha hb hs) fun σ H Q h => BB2 (X := X) (r := rDG) prim_dg h
theorem vb_di (hu : X.A.units + 1 < cLine) (ha : VB X fx W a ga) (hb : VB X fx W b gb) (hm : behindInMarks .In b = false := by rfl) : VB X fx W (.Compare a [.In] [b] pos) (b2 pDi ga gb) := PE.imp (pe_cmp (pc_din hu ha hb) hm) fun σ H Q h => BB2 (X := X) (r := rDI) prim_di h
theorem vb_dn (hu : X.A.units + 1 < cLine) (ha : VB X fx W a ga) (hb : VB X fx W b gb) (hm : behindInMarks .NotIn b = false := by rfl) : VB X fx W (.Compare a [.NotIn] [b] pos) (b2 pDn ga gb) := PE.imp (pe_cmp (pc_dnotin hu ha hb) hm) fun σ H Q h => BB2 (X := X) (r := rDN) prim_dn h
theorem vt_di (hu : X.A.units + 1 < cLine) (ha : VB X fx W a ga) (hb : VB X fx W b gb) (hm : behindInMarks .In b = false := by rfl) : VT X fx W (.Compare a [.In] [b] pos) (ofB (b2 pDi ga gb)) :=
  PT.imp (pt_cmp (pc_din hu ha hb) hm) fun σ H Q h => BB2 (X := X) (r := rDI) prim_di (PTt_B h)
theorem vt_dn (hu : X.A.units + 1 < cLine) (ha : VB X fx W a ga) (hb : VB X fx W b gb) (hm : behindInMarks .NotIn b = false := by rfl) : VT X fx W (.Compare a [.NotIn] [b] pos) (ofB (b2 pDn ga gb)) :=
  PT.imp (pt_cmp (pc_dnotin hu ha hb) hm) fun σ H Q h => BB2 (X := X) (r := rDN) prim_dn (PTt_B h)
/-- {} -/
def dnE : En → R En (T × En) := fun env => .ok (.dk [], env)
theorem ve_dnew : VE X fx W (.Dict [] [] pos) dnE := PE.imp pe_dnewK fun σ H Q h => by
  obtain ⟨env, F, fp, S, P⟩ := h
  intro p hp
  refine PV.res (ft := [p]) S P (fun _ h => h) (.lay S.sub hp) ⟨p, [], [], rfl, upd_same, ⟨rfl, rfl⟩, rfl⟩ (by simp) fun q hq => ?_
  have e : q = p := by simpa using hq
  subst e
  exact ⟨S.sub.free hp, hp⟩
/-- d[k] = e -/
def dpS (i : Nat) (gk : En → R En T) (fv : En → R En (T × En)) : En → R En (Fl × En) := fun env => bnd (fv env) fun a => match a.2[i]? with
  | some (some (.dk kvs)) => bnd (gk a.2) fun k => ofO (kOf k) fun key => if kvs.length < sizeLine then ofO (putT kvs key a.1) fun kvs' => .ok (.nx, a.2.set i (some (.dk kvs'))) else .no
  | _ => .no
theorem OwnK.map {G : Kt} {F H : Hp} {k : Key} {d : D} {u : V} (r : Rep G F d u) : ∀ {kvs : List (Key × T)} {vs : List (Key × V)} {fp : List Addr}, OwnK G F H kvs vs fp →
    ∃ fp', OwnK G F H (kvs.map fun kv => if kv.1 = k then (kv.1, .s d) else kv) (vs.map fun kv => if kv.1 = k then (kv.1, u) else kv) fp' ∧ fp'.Sublist fp
  | [], vs, fp, h => by
    simp only [OwnK] at h
    obtain ⟨rfl, rfl⟩ := h
    exact ⟨[], ⟨rfl, rfl⟩, .refl _⟩
  | (x, t) :: kvs, vs, fp, h => by
    simp only [OwnK] at h
    obtain ⟨v, rest, f1, f2, rfl, h1, h2, rfl⟩ := h
    obtain ⟨f3, o3, s3⟩ := OwnK.map r h2
    simp only [List.map_cons]
    by_cases e : x = k
    · rw [if_pos (show (x, t).1 = k from e), if_pos (show (x, v).1 = k from e)]
      simp only [OwnK]
      exact ⟨f3, ⟨u, _, [], f3, rfl, ⟨r, rfl⟩, o3, rfl⟩, s3.trans (List.sublist_append_right f1 f2)⟩
    · rw [if_neg (show ¬ (x, t).1 = k from e), if_neg (show ¬ (x, v).1 = k from e)]
      simp only [OwnK]
      exact ⟨f1 ++ f3, ⟨v, _, f1, f3, rfl, h1, o3, rfl⟩, (List.Sublist.refl f1).append s3⟩
theorem OwnK.snoc {G : Kt} {F H : Hp} {k : Key} {t : T} {u : V} {ft : List Addr} (o : Own G F H t u ft) : ∀ {kvs : List (Key × T)} {vs : List (Key × V)} {fp : List Addr}, OwnK G F H kvs vs fp → OwnK G F H (kvs ++ [(k, t)]) (vs ++ [(k, u)]) (fp ++ ft)
  | [], vs, fp, h => by
    simp only [OwnK] at h
    obtain ⟨rfl, rfl⟩ := h
    simp only [List.nil_append, OwnK]
    exact ⟨u, [], ft, [], rfl, o, ⟨rfl, rfl⟩, by simp⟩
  | (x, t') :: kvs, vs, fp, h => by
    simp only [OwnK] at h
    obtain ⟨v, rest, f1, f2, rfl, h1, h2, rfl⟩ := h
    simp only [List.cons_append, OwnK]
    exact ⟨v, _, f1, f2 ++ ft, rfl, h1, OwnK.snoc o h2, by simp⟩
theorem OwnK.bork {G : Kt} {F H : Hp} {kvs : List (Key × T)} {vs : List (Key × V)} {fp : List Addr} (o : OwnK G F H kvs vs fp) : BorK G F H kvs vs := OwnK.bor kvs vs fp o
theorem vs_dput {i : Nat} {x : Str} {e k : Expr} {gk : En → R En T} {fv : En → R En (T × En)} {np tp : Pos} (hu : X.A.units + 1 < cLine) (hN : X.N[i]? = some x) (hv : Vis X.env.scope x) (hk : VB X fx W k gk) (he : VE X fx W e fv)
    (hs : swapsWith e (some (.Subscript (.Name x np) k tp)) pos.line X.env = pure false := by rfl) (hd : (x == ("__debug__" : Str)) = false := by decide) (hcd : (x == ("__classdict__" : Str)) = false := by decide) :
    VS1 X fx W (.Assign [.Subscript (.Name x np) k tp] e pos) (dpS i gk fv) :=
  PS.imp (ps_dput hu (pe_var hN hv hd hcd) hk he hs) fun D' σ H h => by
    obtain ⟨env, F, fp, S, P⟩ := h
    unfold dpS at P
    refine ⟨env, F, fp, S, ?_⟩
    cases ea : fv env with
    | no => rw [ea] at P; exact P
    | ex c fs e => rw [ea] at P; exact fun cls d F' H' fp' S' x g => P cls d σ F' H' fp' S' x g
    | ok a =>
      obtain ⟨t, e1⟩ := a
      rw [ea] at P
      simp only [bnd] at P
      intro u F1 H1 fp1 f1 S1 o1 nd1 off1 g1
      have d1 : ∀ p ∈ f1, p ∉ fp1 := fun p hp hq => (List.nodup_append.mp nd1).2.2 p hq p hp rfl
      split at P
      case h_2 => exact P.elim
      rename_i kvs ei
      obtain ⟨v, b0, hs0, _⟩ := S1.slot ei
      refine ⟨v, hs0, e1, F1, fp1, S1, ?_⟩
      cases eg : gk e1 with
      | no => rw [eg] at P; exact P
      | ex c fs e => rw [eg] at P; exact fun cls d F' H' fp' S' x g => P cls d σ F' H' fp' S' x ((g1.less fun p hp => List.mem_append_left _ hp).trans g)
      | ok k0 =>
        rw [eg] at P
        dsimp only at P
        cases ek : kOf k0 with
        | none => rw [ek] at P; exact P.elim
        | some key =>
          rw [ek] at P
          simp only [ofO_some] at P
          split at P
          case isFalse => exact P.elim
          rename_i hlen
          intro y F2 H2 g2 b2
          have ey := kOf_rep b2 ek
          subst ey
          have S2 := S1.grow g2
          obtain ⟨o1', off1', d1'⟩ := o1.go off1 (g2.go fp1) d1
          obtain ⟨b, ob, nb, dft, sb, wr⟩ := S2.wr (ft := f1) ei hs0 (List.nodup_append.mpr ⟨S1.nd, (List.nodup_append.mp nd1).2.1, fun x hx y hy e => by subst e; exact d1' x hy hx⟩) off1'
          simp only [Own] at ob
          obtain ⟨l, vs, f3, rfl, hl, os, rfl⟩ := ob
          have len := os.bork.len
          have nlf : l ∉ f3 := (List.nodup_cons.mp nb).1
          have nl1 : l ∉ f1 := dft l List.mem_cons_self
          have gg : Go F H fp F2 H2 (fp1 ++ f1) := g1.trans ((g2.go fp1).frame)
          refine ⟨l, _, rfl, DPut.k hl (by omega), ?_⟩
          cases ep : putT kvs key t with
          | none => rw [ep] at P; exact P.elim
          | some kvs' =>
            rw [ep] at P
            simp only [ofO_some] at P
            have os' := OwnK.mono (.refl _) _ _ _ (keep_upd (o := .dK (putK vs key u)) nlf) os
            have o1'' := Own.mono (.refl _) _ _ _ (keep_upd (o := .dK (putK vs key u)) nl1) o1'
            unfold putT at ep
            have eany := os.bork.any (k := key)
            have ek2 : (vs.any fun kv => decide (kv.1 = key)) = hasT kvs key := by rw [valV_any, eany]
            obtain ⟨f4, o4, n4, s4⟩ : ∃ f4, OwnK (kt X) F2 (upd H2 l (.dK (putK vs key u))) kvs' (putK vs key u) f4 ∧ (l :: f4).Nodup ∧ ∀ p ∈ f4, p ∈ f3 ∨ p ∈ f1 := by
              split at ep
              · rename_i hh
                split at ep
                · rename_i d
                  cases ep
                  simp only [Own] at o1''
                  obtain ⟨f4, o4, s4⟩ := OwnK.map (k := key) o1''.1 os'
                  refine ⟨f4, ?_, nb.sublist (s4.cons₂ l), fun p hp => .inl (s4.subset hp)⟩
                  unfold putK at o4 ⊢
                  rw [ek2, if_pos hh] at o4 ⊢
                  exact o4
                · cases ep
              · rename_i hh
                cases ep
                have o4 := OwnK.snoc (k := key) o1'' os'
                refine ⟨f3 ++ f1, ?_, List.nodup_cons.mpr ⟨fun z => (List.mem_append.mp z).elim nlf nl1, List.nodup_append.mpr ⟨(List.nodup_cons.mp nb).2, (List.nodup_append.mp nd1).2.1, fun x hx y hy e => by subst e; exact dft x (List.mem_cons_of_mem _ hx) hy⟩⟩, fun p hp => List.mem_append.mp hp⟩
                unfold putK at o4 ⊢
                rw [ek2, if_neg hh] at o4 ⊢
                exact o4
            obtain ⟨fp', S', g'⟩ := wr l (.dK (putK vs key u)) (.dk kvs') (l :: f4) List.mem_cons_self ⟨l, putK vs key u, f4, rfl, upd_same, o4, rfl⟩ n4 fun p hp => by
              rcases List.mem_cons.mp hp with rfl | hp
              · exact .inl List.mem_cons_self
              · exact (s4 p hp).imp (List.mem_cons_of_mem _) id
            exact P σ F2 _ fp' S' (gg.trans g')
end
/-- nothing is said: for the ground of a recursion -/
theorem vf_none {P : Program} {w : World} {K : PySem.W.Frag} {mg : Str → Option Value} {base : Heap} {k : Nat} {f : Addr} {fd : FuncData} {ps : List Str} : VF P w K mg base k f fd ps (fun _ => .no) :=
  ⟨fun _ _ _ _ h => h.1, fun _ _ _ _ _ _ _ _ _ _ _ _ _ h => by obtain ⟨_, _, _, _, _, _, _, _, z⟩ := h; exact z.elim⟩
end VS
namespace VS
open PySem PySem.Spec L2
open PyProof.Rows hiding St
section
variable {X : Cx} {fx : Fx} {W : L2.WX} {pos : Pos}
/-- x[e], x a name whose object e leaves alone -/
def ixS (i : Nat) (f : En → R En (T × En)) : En → R En (T × En) := fun env => match env[i]? with
  | some (some _) => bnd (f env) fun a => match a.2[i]? with
    | some (some t) => ofO (pIx t a.1) fun z => .ok (z, a.2)
    | _ => .no
  | _ => .no
theorem ve_ixN {i : Nat} {x : Str} {e : Expr} {f : En → R En (T × En)} {np : Pos} (hN : X.N[i]? = some x) (hv : Vis X.env.scope x) (he : VE X fx W e f) (hs : PlainIx e) (hd : (x == ("__debug__" : Str)) = false := by decide) (hcd : (x == ("__classdict__" : Str)) = false := by decide) :
    VE X fx W (.Subscript (.Name x np) e pos) (ixS i f) := PE.imp (pe_ix ix_seq (pe_var hN hv hd hcd) he hs) fun σ H Q h => by
  obtain ⟨env, F, fp, S, P⟩ := h
  unfold ixS at P
  split at P
  case h_2 => exact P.elim
  rename_i t0 e0
  obtain ⟨v, b0, hs0, _⟩ := S.slot e0
  refine ⟨v, hs0, env, F, fp, S, ?_⟩
  cases ea : f env with
  | no => rw [ea] at P; exact P
  | ex c fs e => rw [ea] at P; exact P
  | ok a =>
    obtain ⟨y, e1⟩ := a
    rw [ea] at P
    simp only [bnd] at P
    intro u F1 H1 fp1 f1 S1 o1 nd1 off1 g1
    split at P
    case h_2 => exact P.elim
    rename_i t1 e2
    obtain ⟨v', b1, hs1, ob⟩ := S1.slot e2
    have ev : v' = v := by
      rw [hs0] at hs1
      cases hs1; rfl
    subst ev
    refine prim_ix t1 y v' u F1 H1 Q S1.sub ob.bor o1.bor ?_
    exact PR.pv (fq := fp1 ++ f1) S1 (fun p hp => List.mem_append_left _ hp) (PV.go (r := ofO (pIx t1 y) fun z => .ok (z, e1)) P g1)
end
end VS
/-! reckoning with what a def computes: the combinators, one step each, as rewriting rules that never go below a binder -/
namespace VS
open PySem PySem.Spec L2
open PyProof.Rows hiding St

/-! ### names -/
def nmK : Option (Option T) → R En T
  | some (some t) => .ok t
  | _ => .no
@[simp] theorem nmB_ap (i : Nat) (env : En) : nmB i env = nmK env[i]? := rfl
@[simp] theorem nmK_some (t : T) : nmK (some (some t)) = .ok t := rfl
def mvK (i : Nat) (env : En) : Option (Option T) → R En (T × En)
  | some (some t) => .ok (t, env.set i none)
  | _ => .no
@[simp] theorem mvE_ap (i : Nat) (env : En) : mvE i env = mvK i env env[i]? := rfl
@[simp] theorem mvK_some (i : Nat) (env : En) (t : T) : mvK i env (some (some t)) = .ok (t, env.set i none) := rfl
@[simp] theorem cB_ap (d : D) (env : En) : cB d env = .ok (.s d) := rfl
@[simp] theorem frz_zero (t : T) (e : En) : frz 0 (some t :: e) = some (.s (er t)) :: e := rfl
@[simp] theorem frz_zeroN (e : En) : frz 0 (none :: e) = none :: e := rfl
@[simp] theorem frz_succ (i : Nat) (x : Option T) (e : En) : frz (i + 1) (x :: e) = x :: frz i e := by
  unfold frz
  simp only [List.getElem?_cons_succ, List.set_cons_succ]
  rcases e[i]? with _ | _ | t <;> rfl
@[simp] theorem stS_zero (t : T) (x : Option T) (e : En) : stS 0 t (x :: e) = some (some t :: e) := by simp [stS]
@[simp] theorem stS_succ (i : Nat) (t : T) (x : Option T) (e : En) : stS (i + 1) t (x :: e) = (stS i t e).map (x :: ·) := by
  unfold stS
  by_cases h : i < e.length
  · simp [h]
  · simp [h]
/-! ### quiet expressions -/
def b1K (g : T → Option T) : R En T → R En T
  | .ok x => ofO (g x) .ok
  | .ex c fs e => .ex c fs e
  | .no => .no
@[simp] theorem b1_ap (g : T → Option T) (ga : En → R En T) (env : En) : b1 g ga env = b1K g (ga env) := by unfold b1; cases ga env <;> rfl
@[simp] theorem b1K_ok (g : T → Option T) (x : T) : b1K g (.ok x) = ofO (g x) .ok := rfl
def b2K (g : T → T → Option T) : R En T → R En T → R En T
  | .ok x, .ok y => ofO (g x y) .ok
  | .ok _, .ex c fs e => .ex c fs e
  | .ok _, .no => .no
  | .ex c fs e, _ => .ex c fs e
  | .no, _ => .no
@[simp] theorem b2_ap (g : T → T → Option T) (ga gb : En → R En T) (env : En) : b2 g ga gb env = b2K g (ga env) (gb env) := by unfold b2; cases ga env <;> cases gb env <;> rfl
@[simp] theorem b2K_ok (g : T → T → Option T) (x y : T) : b2K g (.ok x) (.ok y) = ofO (g x y) .ok := rfl
def b3M (g' : T → T → Option T) (y : T) (c : R En T) : Option Bool → R En T
  | some true => b1K (g' y) c
  | some false => .ok (.s (.bl false))
  | none => .no
def b3L (g' : T → T → Option T) (y : T) (c : R En T) : Option T → R En T
  | some z => b3M g' y c z.bl?
  | none => .no
def b3K (g g' : T → T → Option T) : R En T → R En T → R En T → R En T
  | .ok x, .ok y, c => b3L g' y c (g x y)
  | .ok _, .ex c fs e, _ => .ex c fs e
  | .ok _, .no, _ => .no
  | .ex c fs e, _, _ => .ex c fs e
  | .no, _, _ => .no
@[simp] theorem b3_ap (g g' : T → T → Option T) (ga gb gc : En → R En T) (env : En) : b3 g g' ga gb gc env = b3K g g' (ga env) (gb env) (gc env) := by
  unfold b3
  cases ga env with
  | no => rfl
  | ex c fs e => rfl
  | ok x =>
    cases gb env with
    | no => rfl
    | ex c fs e => rfl
    | ok y =>
      simp only [bnd, b3K, b3L]
      cases g x y with
      | none => rfl
      | some z =>
        simp only [ofO, b3L]
        cases z.bl? with
        | none => rfl
        | some k =>
          cases k
          · rfl
          · simp only [if_true, b3M]
            cases gc env <;> rfl
@[simp] theorem b3K_ok (g g' : T → T → Option T) (x y : T) (c : R En T) : b3K g g' (.ok x) (.ok y) c = b3L g' y c (g x y) := rfl
@[simp] theorem b3L_some (g' : T → T → Option T) (y : T) (c : R En T) (b : Bool) : b3L g' y c (some (.s (.bl b))) = b3M g' y c (some b) := rfl
@[simp] theorem b3M_true (g' : T → T → Option T) (y : T) (c : R En T) : b3M g' y c (some true) = b1K (g' y) c := rfl
@[simp] theorem b3M_false (g' : T → T → Option T) (y : T) (c : R En T) : b3M g' y c (some false) = .ok (.s (.bl false)) := rfl
def bvK (env : En) : R En T → R En (T × En)
  | .ok t => .ok (t, env)
  | .ex c fs e => .ex c fs e
  | .no => .no
@[simp] theorem bv_ap (ga : En → R En T) (env : En) : bv ga env = bvK env (ga env) := by unfold bv; cases ga env <;> rfl
@[simp] theorem bvK_ok (env : En) (t : T) : bvK env (.ok t) = .ok (t, env) := rfl
def shK (env : En) : R En T → R En (T × En)
  | .ok t => ofO t.sh fun d => .ok (.s d, env)
  | .ex c fs e => .ex c fs e
  | .no => .no
@[simp] theorem sh_ap (ga : En → R En T) (env : En) : sh ga env = shK env (ga env) := by unfold sh; cases ga env <;> rfl
@[simp] theorem shK_ok (env : En) (d : D) : shK env (.ok (.s d)) = .ok (.s d, env) := rfl
def bcK : R En T → R En (List T) → R En (List T)
  | .ok x, .ok y => .ok (x :: y)
  | .ok _, .ex c fs e => .ex c fs e
  | .ok _, .no => .no
  | .ex c fs e, _ => .ex c fs e
  | .no, _ => .no
@[simp] theorem bcons_ap (ga : En → R En T) (gs : En → R En (List T)) (env : En) : bcons ga gs env = bcK (ga env) (gs env) := by unfold bcons; cases ga env <;> cases gs env <;> rfl
@[simp] theorem bcK_ok (x : T) (y : List T) : bcK (.ok x) (.ok y) = .ok (x :: y) := rfl
@[simp] theorem bnil_ap (env : En) : bnil env = .ok [] := rfl
@[simp] theorem enil_ap (env : En) : enil env = .ok ([], env) := rfl
def bNK (g : List T → Option T) : R En (List T) → R En T
  | .ok x => ofO (g x) .ok
  | .ex c fs e => .ex c fs e
  | .no => .no
@[simp] theorem bN_ap (g : List T → Option T) (gs : En → R En (List T)) (env : En) : bN g gs env = bNK g (gs env) := by unfold bN; cases gs env <;> rfl
@[simp] theorem bNK_ok (g : List T → Option T) (x : List T) : bNK g (.ok x) = ofO (g x) .ok := rfl
def bMK (n : String) (g : T → List T → Option T) : R En T → R En (List T) → R En T
  | .ok t, .ok ts => if tyOk n t then ofO (g t ts) .ok else .no
  | .ok t, .ex c fs e => if tyOk n t then .ex c fs e else .no
  | .ok _, .no => .no
  | .ex c fs e, _ => .ex c fs e
  | .no, _ => .no
@[simp] theorem bM_ap (n : String) (g : T → List T → Option T) (ga : En → R En T) (gs : En → R En (List T)) (env : En) : bM n g ga gs env = bMK n g (ga env) (gs env) := by
  unfold bM
  cases ga env with
  | no => rfl
  | ex c fs e => rfl
  | ok t =>
    simp only [bnd]
    by_cases h : tyOk n t = true
    · rw [if_pos h]; cases gs env <;> simp [bMK, h]
    · rw [if_neg h]; cases gs env <;> simp [bMK, h]
@[simp] theorem bMK_ok (n : String) (g : T → List T → Option T) (t : T) (ts : List T) : bMK n g (.ok t) (.ok ts) = if tyOk n t then ofO (g t ts) .ok else .no := rfl
@[simp] theorem tyOk_str (x : Str) : tyOk "str" (.s (.str x)) = true := rfl
@[simp] theorem tyOk_list (t : T) : tyOk "list" t = t.ls.isSome := by
  unfold tyOk
  split <;> first | rfl | contradiction | (rename_i h; simp at h)
def soK : R En T → R En (Option Int)
  | .ok t => ofO t.int? fun i => .ok (some i)
  | .ex c fs e => .ex c fs e
  | .no => .no
@[simp] theorem soO_ap (ga : En → R En T) (env : En) : soO ga env = soK (ga env) := by unfold soO; cases ga env <;> rfl
@[simp] theorem soK_ok (i : Int) : soK (.ok (.s (.int i))) = .ok (some i) := rfl
@[simp] theorem noO_ap (env : En) : noO env = .ok none := rfl
def bSK : R En T → R En (Option Int) → R En (Option Int) → R En T
  | .ok t, .ok l, .ok h => ofO (pSl t l h) .ok
  | .ok _, .ok _, .ex c fs e => .ex c fs e
  | .ok _, .ok _, .no => .no
  | .ok _, .ex c fs e, _ => .ex c fs e
  | .ok _, .no, _ => .no
  | .ex c fs e, _, _ => .ex c fs e
  | .no, _, _ => .no
@[simp] theorem bSl_ap (ga : En → R En T) (gl gh : En → R En (Option Int)) (env : En) : bSl ga gl gh env = bSK (ga env) (gl env) (gh env) := by unfold bSl; cases ga env <;> cases gl env <;> cases gh env <;> rfl
@[simp] theorem bSK_ok (t : T) (l h : Option Int) : bSK (.ok t) (.ok l) (.ok h) = ofO (pSl t l h) .ok := rfl
def caK (n : Nat) (sem : FS) : R En (List T) → R En T
  | .ok ts => if ts.length = n then (match sem ((ers ts).map T.s) with | .ok (t, _) => ofO (atomT t) .ok | _ => .no) else .no
  | .ex c fs e => .ex c fs e
  | .no => .no
def caR (r : R (List (Option T)) (T × List (Option T))) : R En T := match r with | .ok (t, _) => ofO (atomT t) .ok | _ => .no
@[simp] theorem callA_ap (n : Nat) (sem : FS) (gs : En → R En (List T)) (env : En) : callA n sem gs env = caK n sem (gs env) := by unfold callA; cases gs env <;> rfl
@[simp] theorem caK_ok (n : Nat) (sem : FS) (ts : List T) : caK n sem (.ok ts) = if ts.length = n then caR (sem ((ers ts).map T.s)) else .no := rfl
@[simp] theorem caR_ok (t : T) (us : List (Option T)) : caR (.ok (t, us)) = ofO (atomT t) .ok := rfl
@[simp] theorem atomT_non : atomT (.s .non) = some (.s .non) := rfl
@[simp] theorem atomT_bl (b : Bool) : atomT (.s (.bl b)) = some (.s (.bl b)) := rfl
@[simp] theorem atomT_int (b : Int) : atomT (.s (.int b)) = some (.s (.int b)) := rfl
@[simp] theorem atomT_str (b : Str) : atomT (.s (.str b)) = some (.s (.str b)) := rfl
/-! ### held -/
def e1K (g : T → Option T) : R En (T × En) → R En (T × En)
  | .ok (x, e) => ofO (g x) fun t => .ok (t, e)
  | .ex c fs e => .ex c fs e
  | .no => .no
@[simp] theorem e1_ap (g : T → Option T) (fa : En → R En (T × En)) (env : En) : e1 g fa env = e1K g (fa env) := by unfold e1; cases fa env <;> rfl
@[simp] theorem e1K_ok (g : T → Option T) (x : T) (e : En) : e1K g (.ok (x, e)) = ofO (g x) fun t => .ok (t, e) := rfl
def e2L (g : T → T → Option T) (x : T) : R En (T × En) → R En (T × En)
  | .ok (y, e) => ofO (g x y) fun t => .ok (t, e)
  | .ex c fs e => .ex c fs e
  | .no => .no
def e2K (g : T → T → Option T) (fb : En → R En (T × En)) : R En (T × En) → R En (T × En)
  | .ok (x, e) => e2L g x (fb e)
  | .ex c fs e => .ex c fs e
  | .no => .no
@[simp] theorem e2_ap (g : T → T → Option T) (fa fb : En → R En (T × En)) (env : En) : e2 g fa fb env = e2K g fb (fa env) := by
  unfold e2
  cases fa env with
  | no => rfl
  | ex c fs e => rfl
  | ok a => simp only [bnd, e2K]; cases fb a.2 <;> rfl
@[simp] theorem e2K_ok (g : T → T → Option T) (fb : En → R En (T × En)) (x : T) (e : En) : e2K g fb (.ok (x, e)) = e2L g x (fb e) := rfl
@[simp] theorem e2L_ok (g : T → T → Option T) (x y : T) (e : En) : e2L g x (.ok (y, e)) = ofO (g x y) fun t => .ok (t, e) := rfl
def ecL (t : T) : R En (List T × En) → R En (List T × En)
  | .ok (ts, e) => .ok (t :: ts, e)
  | .ex c fs e => .ex c fs e
  | .no => .no
def ecK (fs : En → R En (List T × En)) : R En (T × En) → R En (List T × En)
  | .ok (t, e) => ecL t (fs e)
  | .ex c xs e => .ex c xs e
  | .no => .no
@[simp] theorem econs_ap (fa : En → R En (T × En)) (fs : En → R En (List T × En)) (env : En) : econs fa fs env = ecK fs (fa env) := by
  unfold econs
  cases fa env with
  | no => rfl
  | ex c fs e => rfl
  | ok a => simp only [bnd, ecK]; cases fs a.2 <;> rfl
@[simp] theorem ecK_ok (fs : En → R En (List T × En)) (t : T) (e : En) : ecK fs (.ok (t, e)) = ecL t (fs e) := rfl
@[simp] theorem ecL_ok (t : T) (ts : List T) (e : En) : ecL t (.ok (ts, e)) = .ok (t :: ts, e) := rfl
def eNK (g : List T → Option T) : R En (List T × En) → R En (T × En)
  | .ok (ts, e) => ofO (g ts) fun t => .ok (t, e)
  | .ex c fs e => .ex c fs e
  | .no => .no
@[simp] theorem eN_ap (g : List T → Option T) (fs : En → R En (List T × En)) (env : En) : eN g fs env = eNK g (fs env) := by unfold eN; cases fs env <;> rfl
@[simp] theorem eNK_ok (g : List T → Option T) (ts : List T) (e : En) : eNK g (.ok (ts, e)) = ofO (g ts) fun t => .ok (t, e) := rfl
def eML (g : T → List T → Option T) (t : T) : R En (List T × En) → R En (T × En)
  | .ok (ts, e) => ofO (g t ts) fun u => .ok (u, e)
  | .ex c fs e => .ex c fs e
  | .no => .no
def eMK (n : String) (g : T → List T → Option T) (r : R En (List T × En)) : R En T → R En (T × En)
  | .ok (.s d) => if tyOk n (.s d) then eML g (.s d) r else .no
  | .ok _ => .no
  | .ex c fs e => .ex c fs e
  | .no => .no
@[simp] theorem eM_ap (n : String) (g : T → List T → Option T) (ga : En → R En T) (fs : En → R En (List T × En)) (env : En) : eM n g ga fs env = eMK n g (fs env) (ga env) := by
  unfold eM
  cases ga env with
  | no => rfl
  | ex c fs e => rfl
  | ok t =>
    cases t with
    | s d =>
      simp only [bnd, eMK]
      by_cases h : tyOk n (.s d) = true
      · rw [if_pos h, if_pos h]; cases fs env <;> rfl
      · rw [if_neg h, if_neg h]
    | l _ => rfl
    | dk _ => rfl
    | ob _ _ => rfl
    | p _ => rfl
@[simp] theorem eMK_ok (n : String) (g : T → List T → Option T) (r : R En (List T × En)) (d : D) : eMK n g r (.ok (.s d)) = if tyOk n (.s d) then eML g (.s d) r else .no := rfl
@[simp] theorem eML_ok (g : T → List T → Option T) (t : T) (ts : List T) (e : En) : eML g t (.ok (ts, e)) = ofO (g t ts) fun u => .ok (u, e) := rfl
def fzK : R En (T × En) → R En (T × En)
  | .ok (t, e) => .ok (.s (er t), e)
  | .ex c fs e => .ex c fs e
  | .no => .no
@[simp] theorem fzE_ap (f : En → R En (T × En)) (env : En) : fzE f env = fzK (f env) := by unfold fzE; cases f env <;> rfl
@[simp] theorem fzK_ok (t : T) (e : En) : fzK (.ok (t, e)) = .ok (.s (er t), e) := rfl
def clL (ks : List (Option Nat)) (e : En) : R (List (Option T)) (T × List (Option T)) → R En (T × En)
  | .ok (t, us) => ofO (puts ks us e) fun e => .ok (t, e)
  | .ex c xs us => ofO (puts ks us e) fun e => .ex c xs e
  | .no => .no
def clK (sem : FS) (ks : List (Option Nat)) : R En (List T × En) → R En (T × En)
  | .ok (ts, e) => clL ks e (sem ts)
  | .ex c fs e => .ex c fs e
  | .no => .no
@[simp] theorem callE_ap (sem : FS) (ks : List (Option Nat)) (fs : En → R En (List T × En)) (env : En) : callE sem ks fs env = clK sem ks (fs env) := by
  unfold callE
  cases fs env with
  | no => rfl
  | ex c fs e => rfl
  | ok a => simp only [bnd, clK]; cases sem a.1 <;> rfl
@[simp] theorem clK_ok (sem : FS) (ks : List (Option Nat)) (ts : List T) (e : En) : clK sem ks (.ok (ts, e)) = clL ks e (sem ts) := rfl
@[simp] theorem clL_ok (ks : List (Option Nat)) (e : En) (t : T) (us : List (Option T)) : clL ks e (.ok (t, us)) = ofO (puts ks us e) fun e => .ok (t, e) := rfl
@[simp] theorem clL_ex (ks : List (Option Nat)) (e : En) (c : Str) (xs : List (Str × D)) (us : List (Option T)) : clL ks e (.ex c xs us) = ofO (puts ks us e) fun e => .ex c xs e := rfl
def ixP (y : T) (e : En) : Option (Option T) → R En (T × En)
  | some (some t) => ofO (pIx t y) fun z => .ok (z, e)
  | _ => .no
def ixL (i : Nat) : R En (T × En) → R En (T × En)
  | .ok (y, e) => ixP y e e[i]?
  | .ex c fs e => .ex c fs e
  | .no => .no
def ixM (i : Nat) (r : R En (T × En)) : Option (Option T) → R En (T × En)
  | some (some _) => ixL i r
  | _ => .no
@[simp] theorem ixS_ap (i : Nat) (f : En → R En (T × En)) (env : En) : ixS i f env = ixM i (f env) env[i]? := by
  unfold ixS
  rcases env[i]? with _ | _ | t <;> try rfl
  simp only [ixM]
  cases f env with
  | no => rfl
  | ex c fs e => rfl
  | ok a =>
    simp only [bnd, ixL]
    rcases a.2[i]? with _ | _ | t <;> rfl
@[simp] theorem ixM_ok (i : Nat) (r : R En (T × En)) (t : T) : ixM i r (some (some t)) = ixL i r := rfl
@[simp] theorem ixL_ok (i : Nat) (y : T) (e : En) : ixL i (.ok (y, e)) = ixP y e e[i]? := rfl
@[simp] theorem ixP_ok (y : T) (e : En) (t : T) : ixP y e (some (some t)) = ofO (pIx t y) fun z => .ok (z, e) := rfl
/-! ### tests -/
def ofBK (env : En) : R En T → R En (Bool × En)
  | .ok t => ofO t.bl? fun b => .ok (b, env)
  | .ex c fs e => .ex c fs e
  | .no => .no
@[simp] theorem ofB_ap (ga : En → R En T) (env : En) : ofB ga env = ofBK env (ga env) := by unfold ofB; cases ga env <;> rfl
@[simp] theorem ofBK_ok (env : En) (b : Bool) : ofBK env (.ok (.s (.bl b))) = .ok (b, env) := rfl
def ofVK : R En (T × En) → R En (Bool × En)
  | .ok (t, e) => ofO t.bl? fun b => .ok (b, e)
  | .ex c fs e => .ex c fs e
  | .no => .no
@[simp] theorem ofV_ap (f : En → R En (T × En)) (env : En) : ofV f env = ofVK (f env) := by unfold ofV; cases f env <;> rfl
@[simp] theorem ofVK_ok (e : En) (b : Bool) : ofVK (.ok (.s (.bl b), e)) = .ok (b, e) := rfl
def ofTrK (env : En) : R En T → R En (Bool × En)
  | .ok t => ofO (tru t) fun b => .ok (b, env)
  | .ex c fs e => .ex c fs e
  | .no => .no
@[simp] theorem ofTr_ap (ga : En → R En T) (env : En) : ofTr ga env = ofTrK env (ga env) := by unfold ofTr; cases ga env <;> rfl
@[simp] theorem ofTrK_ok (env : En) (t : T) : ofTrK env (.ok t) = ofO (tru t) fun b => .ok (b, env) := rfl
@[simp] theorem tru_bl (b : Bool) : tru (.s (.bl b)) = some b := rfl
def andK (g : En → R En (Bool × En)) : R En (Bool × En) → R En (Bool × En)
  | .ok (true, e) => g e
  | .ok (false, e) => .ok (false, e)
  | .ex c fs e => .ex c fs e
  | .no => .no
@[simp] theorem andT_ap (f g : En → R En (Bool × En)) (env : En) : andT f g env = andK g (f env) := by
  unfold andT
  rcases f env with ⟨_ | _, e⟩ | _ | _ <;> rfl
@[simp] theorem andK_true (g : En → R En (Bool × En)) (e : En) : andK g (.ok (true, e)) = g e := rfl
@[simp] theorem andK_false (g : En → R En (Bool × En)) (e : En) : andK g (.ok (false, e)) = .ok (false, e) := rfl
def orK (g : En → R En (Bool × En)) : R En (Bool × En) → R En (Bool × En)
  | .ok (true, e) => .ok (true, e)
  | .ok (false, e) => g e
  | .ex c fs e => .ex c fs e
  | .no => .no
@[simp] theorem orT_ap (f g : En → R En (Bool × En)) (env : En) : orT f g env = orK g (f env) := by
  unfold orT
  rcases f env with ⟨_ | _, e⟩ | _ | _ <;> rfl
@[simp] theorem orK_true (g : En → R En (Bool × En)) (e : En) : orK g (.ok (true, e)) = .ok (true, e) := rfl
@[simp] theorem orK_false (g : En → R En (Bool × En)) (e : En) : orK g (.ok (false, e)) = g e := rfl
def notK : R En (Bool × En) → R En (Bool × En)
  | .ok (b, e) => .ok (!b, e)
  | .ex c fs e => .ex c fs e
  | .no => .no
@[simp] theorem notT_ap (f : En → R En (Bool × En)) (env : En) : notT f env = notK (f env) := by unfold notT; cases f env <;> rfl
@[simp] theorem notK_ok (b : Bool) (e : En) : notK (.ok (b, e)) = .ok (!b, e) := rfl
def andVK (g : En → R En (T × En)) : R En (T × En) → R En (T × En)
  | .ok (.s (.bl true), e) => g e
  | .ok (.s (.bl false), e) => .ok (.s (.bl false), e)
  | .ok _ => .no
  | .ex c fs e => .ex c fs e
  | .no => .no
theorem bl?_no {t : T} (h : ∀ b, t ≠ .s (.bl b)) : t.bl? = none := by
  unfold T.bl?
  split
  · exact absurd rfl (h _)
  · rfl
@[simp] theorem andV_ap (f g : En → R En (T × En)) (env : En) : andV f g env = andVK g (f env) := by
  unfold andV
  cases f env with
  | no => rfl
  | ex c fs e => rfl
  | ok a =>
    obtain ⟨t, e⟩ := a
    simp only [bnd]
    by_cases h : ∃ b, t = .s (.bl b)
    · obtain ⟨b, rfl⟩ := h
      cases b <;> rfl
    · rw [bl?_no fun b hb => h ⟨b, hb⟩]
      unfold andVK
      split
      · rename_i hh; cases hh; exact absurd ⟨_, rfl⟩ h
      · rename_i hh; cases hh; exact absurd ⟨_, rfl⟩ h
      · rfl
      · rename_i hh; cases hh
      · rfl
@[simp] theorem andVK_true (g : En → R En (T × En)) (e : En) : andVK g (.ok (.s (.bl true), e)) = g e := rfl
@[simp] theorem andVK_false (g : En → R En (T × En)) (e : En) : andVK g (.ok (.s (.bl false), e)) = .ok (.s (.bl false), e) := rfl
def orVK (g : En → R En (T × En)) : R En (T × En) → R En (T × En)
  | .ok (.s (.bl true), e) => .ok (.s (.bl true), e)
  | .ok (.s (.bl false), e) => g e
  | .ok _ => .no
  | .ex c fs e => .ex c fs e
  | .no => .no
@[simp] theorem orV_ap (f g : En → R En (T × En)) (env : En) : orV f g env = orVK g (f env) := by
  unfold orV
  cases f env with
  | no => rfl
  | ex c fs e => rfl
  | ok a =>
    obtain ⟨t, e⟩ := a
    simp only [bnd]
    by_cases h : ∃ b, t = .s (.bl b)
    · obtain ⟨b, rfl⟩ := h
      cases b <;> rfl
    · rw [bl?_no fun b hb => h ⟨b, hb⟩]
      unfold orVK
      split
      · rename_i hh; cases hh; exact absurd ⟨_, rfl⟩ h
      · rename_i hh; cases hh; exact absurd ⟨_, rfl⟩ h
      · rfl
      · rename_i hh; cases hh
      · rfl
@[simp] theorem orVK_true (g : En → R En (T × En)) (e : En) : orVK g (.ok (.s (.bl true), e)) = .ok (.s (.bl true), e) := rfl
@[simp] theorem orVK_false (g : En → R En (T × En)) (e : En) : orVK g (.ok (.s (.bl false), e)) = g e := rfl
def notVK : R En (T × En) → R En (T × En)
  | .ok (t, e) => ofO t.bl? fun k => .ok (.s (.bl !k), e)
  | .ex c fs e => .ex c fs e
  | .no => .no
@[simp] theorem notV_ap (f : En → R En (T × En)) (env : En) : notV f env = notVK (f env) := by unfold notV; cases f env <;> rfl
@[simp] theorem notVK_ok (b : Bool) (e : En) : notVK (.ok (.s (.bl b), e)) = .ok (.s (.bl !b), e) := rfl
def ifVK (f g : En → R En (T × En)) : R En (Bool × En) → R En (T × En)
  | .ok (true, e) => f e
  | .ok (false, e) => g e
  | .ex c fs e => .ex c fs e
  | .no => .no
@[simp] theorem ifV_ap (c : En → R En (Bool × En)) (f g : En → R En (T × En)) (env : En) : ifV c f g env = ifVK f g (c env) := by
  unfold ifV
  rcases c env with ⟨_ | _, e⟩ | _ | _ <;> rfl
@[simp] theorem ifVK_true (f g : En → R En (T × En)) (e : En) : ifVK f g (.ok (true, e)) = f e := rfl
@[simp] theorem ifVK_false (f g : En → R En (T × En)) (e : En) : ifVK f g (.ok (false, e)) = g e := rfl
/-! ### statements -/
@[simp] theorem skS_ap (env : En) : skS env = .ok (.nx, env) := rfl
@[simp] theorem bkS_ap (env : En) : bkS env = .ok (.bk, env) := rfl
@[simp] theorem ctS_ap (env : En) : ctS env = .ok (.ct, env) := rfl
@[simp] theorem rnS_ap (env : En) : rnS env = .ok (.rt (.s .non), env) := rfl
def sqK (g : En → R En (Fl × En)) : R En (Fl × En) → R En (Fl × En)
  | .ok (.nx, e) => g e
  | .ok (.bk, e) => .ok (.bk, e)
  | .ok (.ct, e) => .ok (.ct, e)
  | .ok (.rt t, e) => .ok (.rt t, e)
  | .ex c fs e => .ex c fs e
  | .no => .no
@[simp] theorem sq_ap (f g : En → R En (Fl × En)) (env : En) : sq f g env = sqK g (f env) := by
  unfold sq
  rcases f env with ⟨_ | _ | _ | t, e⟩ | _ | _ <;> rfl
@[simp] theorem sqK_nx (g : En → R En (Fl × En)) (e : En) : sqK g (.ok (.nx, e)) = g e := rfl
@[simp] theorem sqK_bk (g : En → R En (Fl × En)) (e : En) : sqK g (.ok (.bk, e)) = .ok (.bk, e) := rfl
@[simp] theorem sqK_ct (g : En → R En (Fl × En)) (e : En) : sqK g (.ok (.ct, e)) = .ok (.ct, e) := rfl
@[simp] theorem sqK_rt (g : En → R En (Fl × En)) (t : T) (e : En) : sqK g (.ok (.rt t, e)) = .ok (.rt t, e) := rfl
@[simp] theorem sqK_ex (g : En → R En (Fl × En)) (c : Str) (fs : List (Str × D)) (e : En) : sqK g (.ex c fs e) = .ex c fs e := rfl
def ifK (f g : En → R En (Fl × En)) : R En (Bool × En) → R En (Fl × En)
  | .ok (true, e) => f e
  | .ok (false, e) => g e
  | .ex c fs e => .ex c fs e
  | .no => .no
@[simp] theorem ifS_ap (c : En → R En (Bool × En)) (f g : En → R En (Fl × En)) (env : En) : ifS c f g env = ifK f g (c env) := by
  unfold ifS
  rcases c env with ⟨_ | _, e⟩ | _ | _ <;> rfl
@[simp] theorem ifK_true (f g : En → R En (Fl × En)) (e : En) : ifK f g (.ok (true, e)) = f e := rfl
@[simp] theorem ifK_false (f g : En → R En (Fl × En)) (e : En) : ifK f g (.ok (false, e)) = g e := rfl
def rtK : R En (T × En) → R En (Fl × En)
  | .ok (t, e) => .ok (.rt t, e)
  | .ex c fs e => .ex c fs e
  | .no => .no
@[simp] theorem rtS_ap (f : En → R En (T × En)) (env : En) : rtS f env = rtK (f env) := by unfold rtS; cases f env <;> rfl
@[simp] theorem rtK_ok (t : T) (e : En) : rtK (.ok (t, e)) = .ok (.rt t, e) := rfl
def drK : R En (T × En) → R En (Fl × En)
  | .ok (_, e) => .ok (.nx, e)
  | .ex c fs e => .ex c fs e
  | .no => .no
@[simp] theorem dropS_ap (f : En → R En (T × En)) (env : En) : dropS f env = drK (f env) := by unfold dropS; cases f env <;> rfl
@[simp] theorem drK_ok (t : T) (e : En) : drK (.ok (t, e)) = .ok (.nx, e) := rfl
@[simp] theorem drK_ex (c : Str) (fs : List (Str × D)) (e : En) : drK (.ex c fs e) = .ex c fs e := rfl
def setK (i : Nat) : R En (T × En) → R En (Fl × En)
  | .ok (t, e) => ofO (stS i t e) fun e => .ok (.nx, e)
  | .ex c fs e => .ex c fs e
  | .no => .no
@[simp] theorem setS_ap (i : Nat) (f : En → R En (T × En)) (env : En) : setS i f env = setK i (f env) := by unfold setS; cases f env <;> rfl
@[simp] theorem setK_ok (i : Nat) (t : T) (e : En) : setK i (.ok (t, e)) = ofO (stS i t e) fun e => .ok (.nx, e) := rfl
@[simp] theorem setK_ex (i : Nat) (c : Str) (fs : List (Str × D)) (e : En) : setK i (.ex c fs e) = .ex c fs e := rfl
def augK (i : Nat) (g : T → T → Option T) (d : D) : R En (T × En) → R En (Fl × En)
  | .ok (y, e) => ofO (g (.s d) y) fun t => ofO (stS i t e) fun e => .ok (.nx, e)
  | .ex c fs e => .ex c fs e
  | .no => .no
def augM (i : Nat) (g : T → T → Option T) (r : R En (T × En)) : Option (Option T) → R En (Fl × En)
  | some (some (.s d)) => augK i g d r
  | _ => .no
@[simp] theorem augS_ap (i : Nat) (g : T → T → Option T) (f : En → R En (T × En)) (env : En) : augS i g f env = augM i g (f env) env[i]? := by
  unfold augS
  rcases env[i]? with _ | _ | _ | _ | _ | _ | _ <;> try rfl
  simp only [augM]
  cases f env <;> rfl
@[simp] theorem augM_ok (i : Nat) (g : T → T → Option T) (r : R En (T × En)) (d : D) : augM i g r (some (some (.s d))) = augK i g d r := rfl
@[simp] theorem augK_ok (i : Nat) (g : T → T → Option T) (d : D) (y : T) (e : En) : augK i g d (.ok (y, e)) = ofO (g (.s d) y) fun t => ofO (stS i t e) fun e => .ok (.nx, e) := rfl
def apL (i : Nat) (t : T) (e : En) : Option (Option T) → R En (Fl × En)
  | some (some (.l ts)) => if ts.length < sizeLine then .ok (.nx, e.set i (some (.l (ts ++ [t])))) else .no
  | _ => .no
def apK (i : Nat) : R En (T × En) → R En (Fl × En)
  | .ok (t, e) => apL i t e e[i]?
  | .ex c fs e => .ex c fs e
  | .no => .no
def apM (i : Nat) (r : R En (T × En)) : Option (Option T) → R En (Fl × En)
  | some (some (.l _)) => apK i r
  | _ => .no
@[simp] theorem apS_ap (i : Nat) (f : En → R En (T × En)) (env : En) : apS i f env = apM i (f env) env[i]? := by
  unfold apS
  split
  · rename_i ts e
    rw [e]
    simp only [apM]
    cases f env with
    | no => rfl
    | ex c fs e => rfl
    | ok a =>
      simp only [bnd, apK]
      unfold apL
      split <;> simp_all
  · rename_i h
    unfold apM
    split
    · rename_i d e; exact absurd e (h d)
    · rfl
@[simp] theorem apM_ok (i : Nat) (r : R En (T × En)) (ts : List T) : apM i r (some (some (.l ts))) = apK i r := rfl
@[simp] theorem apK_ok (i : Nat) (t : T) (e : En) : apK i (.ok (t, e)) = apL i t e e[i]? := rfl
@[simp] theorem apL_ok (i : Nat) (t : T) (e : En) (ts : List T) : apL i t e (some (some (.l ts))) = if ts.length < sizeLine then .ok (.nx, e.set i (some (.l (ts ++ [t])))) else .no := rfl
def asK (g : GTg) : R En (T × En) → R En (Fl × En)
  | .ok (t, e) => ofO (g t e) fun e => .ok (.nx, e)
  | .ex c fs e => .ex c fs e
  | .no => .no
@[simp] theorem asgS_ap (g : GTg) (f : En → R En (T × En)) (env : En) : asgS g f env = asK g (f env) := by unfold asgS; cases f env <;> rfl
@[simp] theorem asK_ok (g : GTg) (t : T) (e : En) : asK g (.ok (t, e)) = ofO (g t e) fun e => .ok (.nx, e) := rfl
@[simp] theorem gtup_ok (n : Nat) (g : GTs) (ds : List D) (e : En) : gtup n g (.s (.tup ds)) e = if ds.length = n then g ds e else none := rfl
def gcK (gs : GTs) (ds : List D) : Option En → Option En
  | some e => gs ds e
  | none => none
@[simp] theorem gcons_ap (g : GTg) (gs : GTs) (d : D) (ds : List D) (e : En) : gcons g gs (d :: ds) e = gcK gs ds (g (.s d) e) := by
  unfold gcons
  simp only
  cases g (.s d) e <;> rfl
@[simp] theorem gcK_some (gs : GTs) (ds : List D) (e : En) : gcK gs ds (some e) = gs ds e := rfl
@[simp] theorem gnil_ap (e : En) : gnil [] e = some e := rfl
def foK (g : GTg) (body : En → R En (Fl × En)) : R En (List D × En) → R En (Fl × En)
  | .ok (ds, e) => forL g body ds e
  | .ex c fs e => .ex c fs e
  | .no => .no
@[simp] theorem forS_ap (f : En → R En (List D × En)) (g : GTg) (body : En → R En (Fl × En)) (env : En) : forS f g body env = foK g body (f env) := by unfold forS; cases f env <;> rfl
@[simp] theorem foK_ok (g : GTg) (body : En → R En (Fl × En)) (ds : List D) (e : En) : foK g body (.ok (ds, e)) = forL g body ds e := rfl
@[simp] theorem forL_nil (g : GTg) (body : En → R En (Fl × En)) (e : En) : forL g body [] e = .ok (.nx, e) := rfl
def foM (g : GTg) (body : En → R En (Fl × En)) (ds : List D) : R En (Fl × En) → R En (Fl × En)
  | .ok (.nx, e) => forL g body ds e
  | .ok (.ct, e) => forL g body ds e
  | .ok (.bk, e) => .ok (.nx, e)
  | .ok (.rt t, e) => .ok (.rt t, e)
  | .ex c fs e => .ex c fs e
  | .no => .no
def foN (g : GTg) (body : En → R En (Fl × En)) (ds : List D) : Option En → R En (Fl × En)
  | some e => foM g body ds (body e)
  | none => .no
/-- one turn -/
theorem forL_cons (g : GTg) (body : En → R En (Fl × En)) (d : D) (ds : List D) (e : En) : forL g body (d :: ds) e = foN g body ds (g (.s d) e) := by
  unfold forL
  cases g (.s d) e with
  | none => rfl
  | some e' =>
    simp only [foN]
    rcases body e' with ⟨_ | _ | _ | t, e⟩ | _ | _ <;> rfl
@[simp] theorem foN_some (g : GTg) (body : En → R En (Fl × En)) (ds : List D) (e : En) : foN g body ds (some e) = foM g body ds (body e) := rfl
@[simp] theorem foM_nx (g : GTg) (body : En → R En (Fl × En)) (ds : List D) (e : En) : foM g body ds (.ok (.nx, e)) = forL g body ds e := rfl
@[simp] theorem foM_ct (g : GTg) (body : En → R En (Fl × En)) (ds : List D) (e : En) : foM g body ds (.ok (.ct, e)) = forL g body ds e := rfl
@[simp] theorem foM_bk (g : GTg) (body : En → R En (Fl × En)) (ds : List D) (e : En) : foM g body ds (.ok (.bk, e)) = .ok (.nx, e) := rfl
@[simp] theorem foM_rt (g : GTg) (body : En → R En (Fl × En)) (ds : List D) (t : T) (e : En) : foM g body ds (.ok (.rt t, e)) = .ok (.rt t, e) := rfl
@[simp] theorem foM_ex (g : GTg) (body : En → R En (Fl × En)) (ds : List D) (c : Str) (fs : List (Str × D)) (e : En) : foM g body ds (.ex c fs e) = .ex c fs e := rfl
def itK : R En (T × En) → R En (List D × En)
  | .ok (t, e) => ofO t.its fun ds => .ok (ds, e)
  | .ex c fs e => .ex c fs e
  | .no => .no
@[simp] theorem itS_ap (f : En → R En (T × En)) (env : En) : itS f env = itK (f env) := by unfold itS; cases f env <;> rfl
@[simp] theorem itK_ok (t : T) (e : En) : itK (.ok (t, e)) = ofO t.its fun ds => .ok (ds, e) := rfl
def itRK (g : List T → Option (List D)) : R En (List T × En) → R En (List D × En)
  | .ok (t, e) => ofO (g t) fun ds => .ok (ds, e)
  | .ex c fs e => .ex c fs e
  | .no => .no
@[simp] theorem itR_ap (g : List T → Option (List D)) (f : En → R En (List T × En)) (env : En) : itR g f env = itRK g (f env) := by unfold itR; cases f env <;> rfl
@[simp] theorem itRK_ok (g : List T → Option (List D)) (t : List T) (e : En) : itRK g (.ok (t, e)) = ofO (g t) fun ds => .ok (ds, e) := rfl
def itNK : R En (List T × En) → R En (List D × En)
  | .ok ([t], e) => ofO (enT t) fun ds => .ok (ds, e)
  | .ok _ => .no
  | .ex c fs e => .ex c fs e
  | .no => .no
@[simp] theorem itEn_ap (f : En → R En (List T × En)) (env : En) : itEn f env = itNK (f env) := by
  unfold itEn
  rcases f env with ⟨ts, e⟩ | _ | _
  · match ts with
    | [] => rfl
    | [t] => rfl
    | _ :: _ :: _ => rfl
  · rfl
  · rfl
@[simp] theorem itNK_ok (t : T) (e : En) : itNK (.ok ([t], e)) = ofO (enT t) fun ds => .ok (ds, e) := rfl
def lcR (e : En) (vs : List Nat) : R En (List T × En) → R En (T × En)
  | .ok (ts, e') => .ok (.l ts, backE e e' vs)
  | .ex c fs e => .ex c fs e
  | .no => .no
def lcK (vs : List Nat) (gt : GTg) (test : En → R En (Bool × En)) (elt : En → R En (T × En)) : R En (List D × En) → R En (T × En)
  | .ok (ds, e) => if plainAt e vs then lcR e vs (lcL vs gt test elt ds [] (wipeE e vs)) else .no
  | .ex c fs e => .ex c fs e
  | .no => .no
@[simp] theorem lcE_ap (vs : List Nat) (fi : En → R En (List D × En)) (gt : GTg) (test : En → R En (Bool × En)) (elt : En → R En (T × En)) (env : En) : lcE vs fi gt test elt env = lcK vs gt test elt (fi env) := by
  unfold lcE
  cases fi env with
  | no => rfl
  | ex c fs e => rfl
  | ok a =>
    simp only [bnd, lcK]
    by_cases h : plainAt a.2 vs = true
    · rw [if_pos h, if_pos h]; cases lcL vs gt test elt a.1 [] (wipeE a.2 vs) <;> rfl
    · rw [if_neg h, if_neg h]
@[simp] theorem lcK_ok (vs : List Nat) (gt : GTg) (test : En → R En (Bool × En)) (elt : En → R En (T × En)) (ds : List D) (e : En) : lcK vs gt test elt (.ok (ds, e)) = if plainAt e vs then lcR e vs (lcL vs gt test elt ds [] (wipeE e vs)) else .no := rfl
@[simp] theorem lcR_ok (e : En) (vs : List Nat) (ts : List T) (e' : En) : lcR e vs (.ok (ts, e')) = .ok (.l ts, backE e e' vs) := rfl
def lcP (vs : List Nat) (gt : GTg) (test : En → R En (Bool × En)) (elt : En → R En (T × En)) (ds : List D) (ts : List T) : R En (T × En) → R En (List T × En)
  | .ok (t, e) => if ts.length < sizeLine then lcL vs gt test elt ds (ts ++ [t]) (wipeE e vs) else .no
  | _ => .no
def lcN (vs : List Nat) (gt : GTg) (test : En → R En (Bool × En)) (elt : En → R En (T × En)) (ds : List D) (ts : List T) : R En (Bool × En) → R En (List T × En)
  | .ok (true, e) => lcP vs gt test elt ds ts (elt e)
  | .ok (false, e) => lcL vs gt test elt ds ts (wipeE e vs)
  | _ => .no
def lcM (vs : List Nat) (gt : GTg) (test : En → R En (Bool × En)) (elt : En → R En (T × En)) (ds : List D) (ts : List T) : Option En → R En (List T × En)
  | some e => lcN vs gt test elt ds ts (test e)
  | none => .no
@[simp] theorem lcL_nil (vs : List Nat) (gt : GTg) (test : En → R En (Bool × En)) (elt : En → R En (T × En)) (ts : List T) (e : En) : lcL vs gt test elt [] ts e = .ok (ts, e) := rfl
theorem lcL_cons (vs : List Nat) (gt : GTg) (test : En → R En (Bool × En)) (elt : En → R En (T × En)) (d : D) (ds : List D) (ts : List T) (e : En) : lcL vs gt test elt (d :: ds) ts e = lcM vs gt test elt ds ts (gt (.s d) e) := by
  rw [lcL]
  cases gt (.s d) e with
  | none => rfl
  | some e1 =>
    simp only [lcM]
    rcases test e1 with ⟨_ | _, e2⟩ | _ | _
    · rfl
    · simp only [lcN]
      cases elt e2 <;> rfl
    · rfl
    · rfl
@[simp] theorem lcM_some (vs : List Nat) (gt : GTg) (test : En → R En (Bool × En)) (elt : En → R En (T × En)) (ds : List D) (ts : List T) (e : En) : lcM vs gt test elt ds ts (some e) = lcN vs gt test elt ds ts (test e) := rfl
@[simp] theorem lcN_true (vs : List Nat) (gt : GTg) (test : En → R En (Bool × En)) (elt : En → R En (T × En)) (ds : List D) (ts : List T) (e : En) : lcN vs gt test elt ds ts (.ok (true, e)) = lcP vs gt test elt ds ts (elt e) := rfl
@[simp] theorem lcN_false (vs : List Nat) (gt : GTg) (test : En → R En (Bool × En)) (elt : En → R En (T × En)) (ds : List D) (ts : List T) (e : En) : lcN vs gt test elt ds ts (.ok (false, e)) = lcL vs gt test elt ds ts (wipeE e vs) := rfl
@[simp] theorem lcP_ok (vs : List Nat) (gt : GTg) (test : En → R En (Bool × En)) (elt : En → R En (T × En)) (ds : List D) (ts : List T) (t : T) (e : En) : lcP vs gt test elt ds ts (.ok (t, e)) = if ts.length < sizeLine then lcL vs gt test elt ds (ts ++ [t]) (wipeE e vs) else .no := rfl
@[simp] theorem yesT_ap (e : En) : yesT e = .ok (true, e) := rfl
@[simp] theorem wipeE_nil (e : En) : wipeE e [] = e := rfl
@[simp] theorem wipeE_cons (e : En) (v : Nat) (vs : List Nat) : wipeE e (v :: vs) = (wipeE e vs).set v none := rfl
@[simp] theorem backE_nil (e0 e : En) : backE e0 e [] = e := rfl
@[simp] theorem backE_cons (e0 e : En) (v : Nat) (vs : List Nat) : backE e0 e (v :: vs) = backE e0 (e.set v ((e0[v]?).getD none)) vs := rfl
def plK : Option (Option T) → Bool
  | some none => true
  | some (some (.s _)) => true
  | _ => false
@[simp] theorem plainAt_nil (e : En) : plainAt e [] = true := rfl
@[simp] theorem plainAt_cons (e : En) (v : Nat) (vs : List Nat) : plainAt e (v :: vs) = (plK e[v]? && plainAt e vs) := by
  unfold plainAt
  rw [List.all_cons]
  congr 1
@[simp] theorem plK_none : plK (some none) = true := rfl
@[simp] theorem plK_s (d : D) : plK (some (some (.s d))) = true := rfl
def dpL (i : Nat) (e : En) (t : T) (kvs : List (Key × T)) : Option Key → R En (Fl × En)
  | some key => if kvs.length < sizeLine then ofO (putT kvs key t) fun kvs' => .ok (.nx, e.set i (some (.dk kvs'))) else .no
  | none => .no
def dpN (i : Nat) (e : En) (t : T) (kvs : List (Key × T)) : R En T → R En (Fl × En)
  | .ok k => dpL i e t kvs (kOf k)
  | .ex c fs e => .ex c fs e
  | .no => .no
def dpM (i : Nat) (e : En) (t : T) (r : R En T) : Option (Option T) → R En (Fl × En)
  | some (some (.dk kvs)) => dpN i e t kvs r
  | _ => .no
def dpK (i : Nat) (gk : En → R En T) : R En (T × En) → R En (Fl × En)
  | .ok (t, e) => dpM i e t (gk e) e[i]?
  | .ex c fs e => .ex c fs e
  | .no => .no
@[simp] theorem dpS_ap (i : Nat) (gk : En → R En T) (fv : En → R En (T × En)) (env : En) : dpS i gk fv env = dpK i gk (fv env) := by
  unfold dpS
  cases fv env with
  | no => rfl
  | ex c fs e => rfl
  | ok a =>
    simp only [bnd, dpK]
    rcases a.2[i]? with _ | _ | _ | _ | kvs | _ | _ <;> try rfl
    simp only [dpM]
    cases gk a.2 with
    | no => rfl
    | ex c fs e => rfl
    | ok k =>
      simp only [dpN]
      cases kOf k <;> rfl
@[simp] theorem dpK_ok (i : Nat) (gk : En → R En T) (t : T) (e : En) : dpK i gk (.ok (t, e)) = dpM i e t (gk e) e[i]? := rfl
@[simp] theorem dpM_ok (i : Nat) (e : En) (t : T) (r : R En T) (kvs : List (Key × T)) : dpM i e t r (some (some (.dk kvs))) = dpN i e t kvs r := rfl
@[simp] theorem dpN_ok (i : Nat) (e : En) (t k : T) (kvs : List (Key × T)) : dpN i e t kvs (.ok k) = dpL i e t kvs (kOf k) := rfl
@[simp] theorem dpL_some (i : Nat) (e : En) (t : T) (kvs : List (Key × T)) (key : Key) : dpL i e t kvs (some key) = if kvs.length < sizeLine then ofO (putT kvs key t) fun kvs' => .ok (.nx, e.set i (some (.dk kvs'))) else .no := rfl
@[simp] theorem dnE_ap (env : En) : dnE env = .ok (.dk [], env) := rfl
@[simp] theorem kOf_str (x : Str) : kOf (.s (.str x)) = some (.inr x) := rfl
@[simp] theorem kOf_int (x : Int) : kOf (.s (.int x)) = some (.inl x) := rfl
def siL (i : Nat) (t : T) : R En (T × En) → R En (Fl × En)
  | .ok (k, e) => ofO k.int? fun n => match e[i]? with
    | some (some (.l ts)) => ofO (ixN ts.length n) fun j => .ok (.nx, e.set i (some (.l (ts.set j t))))
    | _ => .no
  | .ex c fs e => .ex c fs e
  | .no => .no
def siN (i : Nat) (t : T) (n : Int) (e : En) : Option (Option T) → R En (Fl × En)
  | some (some (.l ts)) => ofO (ixN ts.length n) fun j => .ok (.nx, e.set i (some (.l (ts.set j t))))
  | _ => .no
def siM (i : Nat) (t : T) (r : R En (T × En)) : Option (Option T) → R En (Fl × En)
  | some (some (.l _)) => siL i t r
  | _ => .no
def siK (i : Nat) (fk : En → R En (T × En)) : R En (T × En) → R En (Fl × En)
  | .ok (t, e) => siM i t (fk e) e[i]?
  | .ex c fs e => .ex c fs e
  | .no => .no
@[simp] theorem siS_ap (i : Nat) (fk fv : En → R En (T × En)) (env : En) : siS i fk fv env = siK i fk (fv env) := by
  unfold siS
  cases fv env with
  | no => rfl
  | ex c fs e => rfl
  | ok a =>
    simp only [bnd, siK]
    rcases a.2[i]? with _ | _ | _ | ts | _ | _ | _ <;> try rfl
    simp only [siM]
    cases fk a.2 <;> rfl
@[simp] theorem siK_ok (i : Nat) (fk : En → R En (T × En)) (t : T) (e : En) : siK i fk (.ok (t, e)) = siM i t (fk e) e[i]? := rfl
@[simp] theorem siM_ok (i : Nat) (t : T) (r : R En (T × En)) (ts : List T) : siM i t r (some (some (.l ts))) = siL i t r := rfl
@[simp] theorem siL_ok (i : Nat) (t : T) (n : Int) (e : En) : siL i t (.ok (.s (.int n), e)) = siN i t n e e[i]? := rfl
@[simp] theorem siN_ok (i : Nat) (t : T) (n : Int) (e : En) (ts : List T) : siN i t n e (some (some (.l ts))) = ofO (ixN ts.length n) fun j => .ok (.nx, e.set i (some (.l (ts.set j t)))) := rfl
def saP (i : Nat) (env : En) (ts : List T) (n : Int) : Option T → R En (Fl × En)
  | some z => ofO (ixN ts.length n) fun j => .ok (.nx, env.set i (some (.l (ts.set j z))))
  | none => .no
def saO (i : Nat) (g : T → T → Option T) (env : En) (ts : List T) (n : Int) (r : R En T) : Option T → R En (Fl × En)
  | some (.s d) => (match r with | .ok y => saP i env ts n (g (.s d) y) | .ex c fs e => .ex c fs e | .no => .no)
  | _ => .no
def saQ (i : Nat) (g : T → T → Option T) (env : En) (ts : List T) (n : Int) (d : D) : R En T → R En (Fl × En)
  | .ok y => saP i env ts n (g (.s d) y)
  | .ex c fs e => .ex c fs e
  | .no => .no
def saN (i : Nat) (g : T → T → Option T) (env : En) (ts : List T) (ry : R En T) : R En T → R En (Fl × En)
  | .ok k => ofO k.int? fun n => saO i g env ts n ry (atI ts n)
  | .ex c fs e => .ex c fs e
  | .no => .no
def saM (i : Nat) (g : T → T → Option T) (env : En) (rk ry : R En T) : Option (Option T) → R En (Fl × En)
  | some (some (.l ts)) => saN i g env ts ry rk
  | _ => .no
@[simp] theorem saS_ap (i : Nat) (g : T → T → Option T) (gk gv : En → R En T) (env : En) : saS i g gk gv env = saM i g env (gk env) (gv env) env[i]? := by
  unfold saS
  rcases env[i]? with _ | _ | _ | ts | _ | _ | _ <;> try rfl
  simp only [saM]
  · cases gk env with
    | no => rfl
    | ex c fs e => rfl
    | ok k =>
      simp only [bnd, saN]
      cases k.int? with
      | none => rfl
      | some n =>
        simp only [ofO]
        cases atI ts n with
        | none => rfl
        | some x =>
          cases x with
          | s d =>
            simp only [saO]
            cases gv env with
            | no => rfl
            | ex c fs e => rfl
            | ok y =>
              simp only
              cases g (.s d) y <;> rfl
          | l _ => rfl
          | dk _ => rfl
          | ob _ _ => rfl
          | p _ => rfl
@[simp] theorem saM_ok (i : Nat) (g : T → T → Option T) (env : En) (rk ry : R En T) (ts : List T) : saM i g env rk ry (some (some (.l ts))) = saN i g env ts ry rk := rfl
@[simp] theorem saN_ok (i : Nat) (g : T → T → Option T) (env : En) (ts : List T) (ry : R En T) (n : Int) : saN i g env ts ry (.ok (.s (.int n))) = saO i g env ts n ry (atI ts n) := rfl
@[simp] theorem saO_ok (i : Nat) (g : T → T → Option T) (env : En) (ts : List T) (n : Int) (y : T) (d : D) : saO i g env ts n (.ok y) (some (.s d)) = saP i env ts n (g (.s d) y) := rfl
@[simp] theorem saP_some (i : Nat) (env : En) (ts : List T) (n : Int) (z : T) : saP i env ts n (some z) = ofO (ixN ts.length n) fun j => .ok (.nx, env.set i (some (.l (ts.set j z)))) := rfl
/-! ### while -/
def whM (c : En → R En (Bool × En)) (body : En → R En (Fl × En)) (n : Nat) : R En (Fl × En) → R En (Fl × En)
  | .ok (.nx, e) => whileL c body n e
  | .ok (.ct, e) => whileL c body n e
  | .ok (.bk, e) => .ok (.nx, e)
  | .ok (.rt t, e) => .ok (.rt t, e)
  | .ex c fs e => .ex c fs e
  | .no => .no
def whN (c : En → R En (Bool × En)) (body : En → R En (Fl × En)) (n : Nat) : R En (Bool × En) → R En (Fl × En)
  | .ok (true, e) => whM c body n (body e)
  | .ok (false, e) => .ok (.nx, e)
  | .ex c fs e => .ex c fs e
  | .no => .no
theorem whileL_succ (c : En → R En (Bool × En)) (body : En → R En (Fl × En)) (n : Nat) (e : En) : whileL c body (n + 1) e = whN c body n (c e) := by
  rw [whileL]
  rcases c e with ⟨_ | _, e1⟩ | _ | _
  · rfl
  · simp only [bnd, whN, if_true]
    rcases body e1 with ⟨_ | _ | _ | t, e⟩ | _ | _ <;> rfl
  · rfl
  · rfl
@[simp] theorem whileS_ap (n : Nat) (c : En → R En (Bool × En)) (body : En → R En (Fl × En)) (e : En) : whileS n c body e = whileL c body n e := rfl
@[simp] theorem whN_true (c : En → R En (Bool × En)) (body : En → R En (Fl × En)) (n : Nat) (e : En) : whN c body n (.ok (true, e)) = whM c body n (body e) := rfl
@[simp] theorem whN_false (c : En → R En (Bool × En)) (body : En → R En (Fl × En)) (n : Nat) (e : En) : whN c body n (.ok (false, e)) = .ok (.nx, e) := rfl
@[simp] theorem whM_nx (c : En → R En (Bool × En)) (body : En → R En (Fl × En)) (n : Nat) (e : En) : whM c body n (.ok (.nx, e)) = whileL c body n e := rfl
@[simp] theorem whM_ct (c : En → R En (Bool × En)) (body : En → R En (Fl × En)) (n : Nat) (e : En) : whM c body n (.ok (.ct, e)) = whileL c body n e := rfl
@[simp] theorem whM_bk (c : En → R En (Bool × En)) (body : En → R En (Fl × En)) (n : Nat) (e : En) : whM c body n (.ok (.bk, e)) = .ok (.nx, e) := rfl
@[simp] theorem whM_rt (c : En → R En (Bool × En)) (body : En → R En (Fl × En)) (n : Nat) (t : T) (e : En) : whM c body n (.ok (.rt t, e)) = .ok (.rt t, e) := rfl
/-! ### a def -/
def fiK (io : List Bool) : R En (Fl × En) → R (List (Option T)) (T × List (Option T))
  | .ok (.rt t, e) => .ok (t, outs io e)
  | .ok (.nx, e) => .ok (.s .non, outs io e)
  | .ok (.bk, _) => .no
  | .ok (.ct, _) => .no
  | .ex c fs e => .ex c fs (outs io e)
  | .no => .no
@[simp] theorem finF_ap (io : List Bool) (n : Nat) (fb : En → R En (Fl × En)) (ts : List T) : finF io n fb ts = fiK io (fb (ts.map some ++ List.replicate (n - ts.length) none)) := by
  unfold finF
  rcases fb (ts.map some ++ List.replicate (n - ts.length) none) with ⟨_ | _ | _ | t, e⟩ | _ | _ <;> rfl
@[simp] theorem fiK_rt (io : List Bool) (t : T) (e : En) : fiK io (.ok (.rt t, e)) = .ok (t, outs io e) := rfl
@[simp] theorem fiK_nx (io : List Bool) (e : En) : fiK io (.ok (.nx, e)) = .ok (.s .non, outs io e) := rfl
@[simp] theorem fiK_ex (io : List Bool) (c : Str) (fs : List (Str × D)) (e : En) : fiK io (.ex c fs e) = .ex c fs (outs io e) := rfl
@[simp] theorem outs_nil (e : En) : outs [] e = [] := rfl
@[simp] theorem outs_true (io : List Bool) (x : Option T) (e : En) : outs (true :: io) (x :: e) = x :: outs io e := rfl
@[simp] theorem outs_false (io : List Bool) (x : Option T) (e : En) : outs (false :: io) (x :: e) = none :: outs io e := rfl
@[simp] theorem puts_nil (us : List (Option T)) (e : En) : puts [] us e = some e := by cases us <;> rfl
@[simp] theorem puts_none (ks : List (Option Nat)) (u : Option T) (us : List (Option T)) (e : En) : puts (none :: ks) (u :: us) e = puts ks us e := rfl
def puK (ks : List (Option Nat)) (us : List (Option T)) (e : En) : Option (Option T) → Option En
  | some none => puts ks us e
  | _ => none
@[simp] theorem puts_some (i : Nat) (ks : List (Option Nat)) (u : Option T) (us : List (Option T)) (e : En) : puts (some i :: ks) (u :: us) e = puK ks us (e.set i u) e[i]? := by
  rw [puts]
  rcases e[i]? with _ | _ | _ <;> rfl
@[simp] theorem puK_ok (ks : List (Option Nat)) (us : List (Option T)) (e : En) : puK ks us e (some none) = puts ks us e := rfl
/-! ### values -/
@[simp] theorem shs_mapS (ds : List D) : shs (ds.map T.s) = some ds := shs_map ds
@[simp] theorem shs_nil : shs [] = some [] := rfl
@[simp] theorem shs_cons (d : D) (ts : List T) : shs (.s d :: ts) = (shs ts).map (d :: ·) := rfl
@[simp] theorem ls_lst (ds : List D) : (T.s (.lst ds)).ls = some ds := rfl
@[simp] theorem ls_l (ts : List T) : (T.l ts).ls = shs ts := rfl
@[simp] theorem its_lst (ds : List D) : (T.s (.lst ds)).its = some ds := rfl
@[simp] theorem its_tup (ds : List D) : (T.s (.tup ds)).its = some ds := rfl
@[simp] theorem its_str (z : Str) : (T.s (.str z)).its = some (z.cps.toList.map fun c => .str ⟨#[c]⟩) := rfl
@[simp] theorem its_l (ts : List T) : (T.l ts).its = shs ts := rfl
@[simp] theorem enT_str (z : Str) : enT (.s (.str z)) = some (enD (z.cps.toList.map fun c => .str ⟨#[c]⟩)) := rfl
@[simp] theorem enT_lst (ds : List D) : enT (.s (.lst ds)) = some (enD ds) := rfl
@[simp] theorem enT_l (ts : List T) : enT (.l ts) = (shs ts).map enD := rfl
@[simp] theorem sh_s (d : D) : (T.s d).sh = some d := rfl
@[simp] theorem er_s (d : D) : er (.s d) = d := by simp only [er]
@[simp] theorem er_l (ts : List T) : er (.l ts) = .lst (ers ts) := by simp only [er]
@[simp] theorem er_p (ts : List T) : er (.p ts) = .tup (ers ts) := by simp only [er]
@[simp] theorem ers_nil : ers [] = [] := by simp only [ers]
@[simp] theorem ers_cons (t : T) (ts : List T) : ers (t :: ts) = er t :: ers ts := by simp only [ers]
@[simp] theorem ers_map : ∀ ds : List D, ers (ds.map T.s) = ds
  | [] => by simp
  | d :: ds => by simp [ers_map ds]
theorem ers_app : ∀ a b : List T, ers (a ++ b) = ers a ++ ers b
  | [], b => by simp
  | t :: a, b => by simp [ers_app a b]
@[simp] theorem pAdd_int (i j : Int) : pAdd (.s (.int i)) (.s (.int j)) = some (.s (.int (i + j))) := rfl
@[simp] theorem pAdd_str (a b : Str) : pAdd (.s (.str a)) (.s (.str b)) = if a.length + b.length ≤ sizeLine then some (.s (.str (a ++ b))) else none := rfl
@[simp] theorem pSub_int (i j : Int) : pSub (.s (.int i)) (.s (.int j)) = some (.s (.int (i - j))) := rfl
@[simp] theorem pMulA_int (i j : Int) : pMulA (.s (.int i)) (.s (.int j)) = if CMul i j then some (.s (.int (i * j))) else none := rfl
@[simp] theorem pFdiv_int (i j : Int) : pFdiv (.s (.int i)) (.s (.int j)) = if CDivN i j then some (.s (.int (i.fdiv j))) else none := rfl
@[simp] theorem pMod_int (i j : Int) : pMod (.s (.int i)) (.s (.int j)) = if j ≠ 0 then some (.s (.int (i.fmod j))) else none := rfl
@[simp] theorem pPow_int (i j : Int) : pPow (.s (.int i)) (.s (.int j)) = if CPow i j then some (.s (.int (i ^ j.toNat))) else none := rfl
@[simp] theorem pCmp_int (c : Int → Int → Bool) (i j : Int) : pCmp c (.s (.int i)) (.s (.int j)) = some (.s (.bl (c i j))) := rfl
@[simp] theorem cLt_ap (i j : Int) : cLt i j = decide (i < j) := rfl
@[simp] theorem cLe_ap (i j : Int) : cLe i j = decide (i ≤ j) := rfl
@[simp] theorem cGt_ap (i j : Int) : cGt i j = decide (i > j) := rfl
@[simp] theorem cGe_ap (i j : Int) : cGe i j = decide (i ≥ j) := rfl
@[simp] theorem pEq_int (i j : Int) : pEq (.s (.int i)) (.s (.int j)) = some (.s (.bl (decide (i = j)))) := rfl
@[simp] theorem pEq_str (i j : Str) : pEq (.s (.str i)) (.s (.str j)) = some (.s (.bl (decide (i = j)))) := rfl
@[simp] theorem pEq_bl (i j : Bool) : pEq (.s (.bl i)) (.s (.bl j)) = some (.s (.bl (decide (i = j)))) := rfl
@[simp] theorem pNe_int (i j : Int) : pNe (.s (.int i)) (.s (.int j)) = some (.s (.bl (!decide (i = j)))) := rfl
@[simp] theorem pNe_str (i j : Str) : pNe (.s (.str i)) (.s (.str j)) = some (.s (.bl (!decide (i = j)))) := rfl
@[simp] theorem pNe_bl (i j : Bool) : pNe (.s (.bl i)) (.s (.bl j)) = some (.s (.bl (!decide (i = j)))) := rfl
@[simp] theorem pLen_lst (ds : List D) : pLen [.s (.lst ds)] = some (.s (.int ds.length)) := rfl
@[simp] theorem pLen_tup (ds : List D) : pLen [.s (.tup ds)] = some (.s (.int ds.length)) := rfl
@[simp] theorem pLen_l (ds : List T) : pLen [.l ds] = some (.s (.int ds.length)) := rfl
@[simp] theorem pLen_str (z : Str) : pLen [.s (.str z)] = if z.length ≤ sizeLine then some (.s (.int z.length)) else none := by
  simp only [pLen, lenT]
  split <;> rfl
@[simp] theorem pAbs_int (i : Int) : pAbs [.s (.int i)] = some (.s (.int (if i < 0 then -i else i))) := rfl
@[simp] theorem pInt_int (i : Int) : pInt [.s (.int i)] = some (.s (.int i)) := rfl
@[simp] theorem pMin_int (i j : Int) : pMin2 [.s (.int i), .s (.int j)] = some (.s (.int (if j < i then j else i))) := rfl
@[simp] theorem pMax_int (i j : Int) : pMax2 [.s (.int i), .s (.int j)] = some (.s (.int (if j > i then j else i))) := rfl
@[simp] theorem pIx_lst (ds : List D) (i : Int) : pIx (.s (.lst ds)) (.s (.int i)) = (atI ds i).map T.s := rfl
@[simp] theorem pIx_tup (ds : List D) (i : Int) : pIx (.s (.tup ds)) (.s (.int i)) = (atI ds i).map T.s := rfl
@[simp] theorem pIx_str (z : Str) (i : Int) : pIx (.s (.str z)) (.s (.int i)) = if z.length ≤ sizeLine then (atI z.cps.toList i).map fun c => .s (.str ⟨#[c]⟩) else none := rfl
@[simp] theorem pIx_l (ts : List T) (i : Int) : pIx (.l ts) (.s (.int i)) = (shs ts).bind fun ds => (atI ds i).map T.s := by
  show (match shs ts with | some ds => (atI ds i).map T.s | none => none) = _
  cases shs ts <;> rfl
@[simp] theorem mkL_ap (ts : List T) : mkL ts = if ts.length ≤ sizeLine then some (.l ts) else none := rfl
@[simp] theorem mkT_ap (ts : List T) : mkT ts = if ts.length ≤ sizeLine then (shs ts).map fun ds => .s (.tup ds) else none := rfl
@[simp] theorem pList_scr (ns : List Int) : pList [.s (.scr ns)] = some (.l ((ns.map D.int).map T.s)) := rfl
@[simp] theorem pList_tup (ds : List D) : pList [.s (.tup ds)] = some (.l (ds.map T.s)) := rfl
@[simp] theorem pList_lst (ds : List D) : pList [.s (.lst ds)] = some (.l (ds.map T.s)) := rfl
@[simp] theorem pList_l (ts : List T) : pList [.l ts] = (shs ts).map fun ds => .l (ds.map T.s) := rfl
@[simp] theorem pStarts_str (a b : Str) : pStarts (.s (.str a)) [.s (.str b)] = some (.s (.bl (Txt.startswith a b))) := rfl
@[simp] theorem pSl_str (z : Str) (lo hi : Option Int) : pSl (.s (.str z)) lo hi = if z.length ≤ sizeLine then some (.s (.str (cutS z lo hi))) else none := rfl
@[simp] theorem pSl_lst (ds : List D) (lo hi : Option Int) : pSl (.s (.lst ds)) lo hi = some (.l ((cutL ds lo hi).map T.s)) := rfl
@[simp] theorem pSl_l (ts : List T) (lo hi : Option Int) : pSl (.l ts) lo hi = (shs ts).map fun ds => .l ((cutL ds lo hi).map T.s) := rfl
theorem rgO1_ap (j : Int) : rgO1 [.s (.int j)] = if -(2 ^ 62) ≤ j ∧ j < 2 ^ 62 then some (rgD 0 j) else none := rfl
theorem rgO2_ap (i j : Int) : rgO2 [.s (.int i), .s (.int j)] = if -(2 ^ 62) ≤ i ∧ i < 2 ^ 62 ∧ -(2 ^ 62) ≤ j ∧ j < 2 ^ 62 then some (rgD i j) else none := rfl
theorem rg1 {j : Int} (h0 : -1000000 ≤ j) (h1 : j ≤ 1000000) : rgO1 [.s (.int j)] = some (rgD 0 j) := by rw [rgO1_ap, if_pos (by constructor <;> omega)]
theorem rg1n {n : Nat} (h1 : n ≤ 1000000) : rgO1 [.s (.int (n : Int))] = some (rgD 0 n) := rg1 (by omega) (by omega)
theorem rg2 {i j : Int} (h0 : -1000000 ≤ i) (h1 : i ≤ 1000000) (h2 : -1000000 ≤ j) (h3 : j ≤ 1000000) : rgO2 [.s (.int i), .s (.int j)] = some (rgD i j) := by rw [rgO2_ap, if_pos (by refine ⟨?_, ?_, ?_, ?_⟩ <;> omega)]
/-- an index that is known to be right -/
theorem atI_nat {α : Type} (xs : List α) (n : Nat) : atI xs (n : Int) = xs[n]? := by
  unfold atI ixN
  rw [if_pos (by omega)]
  by_cases h : n < xs.length
  · rw [if_pos (by omega)]; simp
  · rw [if_neg (by omega), List.getElem?_eq_none (by omega)]; rfl
@[simp] theorem atI_0 {α : Type} (xs : List α) : atI xs 0 = xs[0]? := atI_nat xs 0
@[simp] theorem atI_1 {α : Type} (xs : List α) : atI xs 1 = xs[1]? := atI_nat xs 1
@[simp] theorem atI_2 {α : Type} (xs : List α) : atI xs 2 = xs[2]? := atI_nat xs 2
@[simp] theorem atI_3 {α : Type} (xs : List α) : atI xs 3 = xs[3]? := atI_nat xs 3
theorem ixN_nat (m n : Nat) : ixN m (n : Int) = if n < m then some n else none := by
  unfold ixN
  rw [if_pos (by omega)]
  by_cases h : n < m
  · rw [if_pos (by omega), if_pos h]; simp
  · rw [if_neg (by omega), if_neg h]
@[simp] theorem ixN_0 (m : Nat) : ixN m 0 = if 0 < m then some 0 else none := ixN_nat m 0
@[simp] theorem ixN_1 (m : Nat) : ixN m 1 = if 1 < m then some 1 else none := ixN_nat m 1
@[simp] theorem ixN_2 (m : Nat) : ixN m 2 = if 2 < m then some 2 else none := ixN_nat m 2
@[simp] theorem ixN_3 (m : Nat) : ixN m 3 = if 3 < m then some 3 else none := ixN_nat m 3
theorem few {n : Nat} (h : n ≤ 1000000) : n ≤ sizeLine := Nat.le_trans h (by decide)
theorem few' {n : Nat} (h : n ≤ 1000000) : n < sizeLine := Nat.lt_of_le_of_lt h (by decide)
end VS
namespace VS
open PySem PySem.Spec L2
open PyProof.Rows hiding St

/-! ### texts as lists of signs -/
abbrev S (l : List Nat) : Str := ⟨l.toArray⟩
theorem S_list (x : Str) : S x.cps.toList = x := by cases x; simp [S]
@[simp] theorem S_cps (l : List Nat) : (S l).cps = l.toArray := rfl
@[simp] theorem S_length (l : List Nat) : (S l).length = l.length := by simp [Str.length]
@[simp] theorem S_app (a b : List Nat) : S a ++ S b = S (a ++ b) := by
  show Str.append (S a) (S b) = _
  simp [Str.append]
theorem S_inj {a b : List Nat} (h : S a = S b) : a = b := congrArg (fun x : Str => x.cps.toList) h
@[simp] theorem S_eq {a b : List Nat} : S a = S b ↔ a = b := ⟨S_inj, fun h => by rw [h]⟩
@[simp] theorem S_mk (l : List Nat) : ({ cps := l.toArray } : Str) = S l := rfl
theorem S_starts (a b : List Nat) : Txt.startswith (S a) (S b) = b.isPrefixOf a := by
  unfold Txt.startswith Builtin.Str.subAt
  simp only [S_cps, S_length, Nat.zero_add]
  by_cases h : b.length ≤ a.length
  · rw [decide_eq_true h, Bool.true_and]
    have e : (a.toArray.extract 0 b.length == b.toArray) = (a.take b.length == b) := by
      simp
    rw [e, Bool.eq_iff_iff, beq_iff_eq, List.isPrefixOf_iff_prefix, List.prefix_iff_eq_take]
    exact ⟨fun h => h.symm, fun h => h.symm⟩
  · rw [decide_eq_false h, Bool.false_and]
    symm
    rw [Bool.eq_false_iff]
    intro z
    rw [List.isPrefixOf_iff_prefix] at z
    exact h z.length_le
theorem S_from (z : List Nat) (n : Nat) : cutS (S z) (some (n : Int)) none = S (z.drop n) := by
  unfold cutS
  have e : HT.sIx z.length 0 (some (n : Int)) = min n z.length := HT.sIx_nat _ _ _
  simp only [S_length, S_cps, HT.sIx_none, e]
  congr 2
  by_cases h : n ≤ z.length
  · rw [Nat.min_eq_left h, List.take_of_length_le (by simp)]
  · rw [Nat.min_eq_right (by omega), List.drop_eq_nil_of_le (by simp), List.drop_eq_nil_of_le (by omega)]
    simp
theorem S_upto (z : List Nat) (n : Nat) : cutS (S z) none (some (n : Int)) = S (z.take n) := by
  unfold cutS
  have e : HT.sIx z.length z.length (some (n : Int)) = min n z.length := HT.sIx_nat _ _ _
  simp only [S_length, S_cps, HT.sIx_none, e]
  congr 2
  simp [List.take_eq_take_iff]
theorem join_nil : ∀ ys : List (List Nat), Txt.join (S []) (ys.map S) = S ys.flatten := by
  intro ys
  have e : ∀ ys : List (List Nat), TL.joinL [] ys = ys.flatten := by
    intro ys
    induction ys with
    | nil => rfl
    | cons y ys ih =>
      cases ys with
      | nil => simp [TL.joinL]
      | cons z ys =>
        simp only [TL.joinL, List.flatten_cons] at ih ⊢
        rw [ih]
        simp
  exact (SX.join_S [] ys).trans (by rw [e])
theorem strsO_S (ys : List (List Nat)) : strsO ((ys.map S).map D.str) = some (ys.map S) := by
  induction ys with
  | nil => rfl
  | cons y ys ih => simp only [List.map_cons, strsO, ih, Option.map_some]
theorem ofList_S (s : String) : Str.ofString s = S (s.toList.map Char.toNat) := Str.ofString_eq_toList s
/-- a word's value -/
abbrev sD (w : List Nat) : D := .str (S w)
abbrev sT (w : List Nat) : T := .s (.str (S w))
end VS
namespace VS
open PySem PySem.Spec L2
open PyProof.Rows hiding St
def topS (i : Nat) : Stmt := PySem.Challenge.pw_lightstold_k96_whole_single_or_double.main.body.getD i (.Pass ⟨0, 0, 0, 0⟩)
abbrev s_first_tails : Stmt := topS 1
abbrev s_tails_from : Stmt := topS 2
abbrev s_longer_messages : Stmt := topS 3
abbrev s_reading : Stmt := topS 4
abbrev s__law_feed : Stmt := topS 6
abbrev s__law_draw : Stmt := topS 7
abbrev s__law_like : Stmt := topS 8
abbrev s__law_is_whole : Stmt := topS 9
abbrev s__law_word : Stmt := topS 10
abbrev s__law_code : Stmt := topS 11
abbrev s__law_tails : Stmt := topS 12
abbrev s__law_meets : Stmt := topS 13
abbrev s__law_is_message : Stmt := topS 14
abbrev s__law_is_double : Stmt := topS 15
abbrev s__law_asks : Stmt := topS 16
abbrev s_law : Stmt := topS 17
abbrev n_first_tails : List Str := ["code", "found", "number", "word", "other_number", "other"]
theorem sc_first_tails : FnScope n_first_tails ["code"] (defScope s_first_tails) := ⟨rfl, rfl, rfl, by decide +kernel, rfl, by decide +kernel, by decide +kernel⟩
abbrev n_tails_from : List Str := ["code", "tail", "found", "number", "word"]
theorem sc_tails_from : FnScope n_tails_from ["code", "tail"] (defScope s_tails_from) := ⟨rfl, rfl, rfl, by decide +kernel, rfl, by decide +kernel, by decide +kernel⟩
abbrev n_longer_messages : List Str := ["messages", "number", "passes", "behind", "ahead"]
theorem sc_longer_messages : FnScope n_longer_messages ["messages", "number", "passes"] (defScope s_longer_messages) := ⟨rfl, rfl, rfl, by decide +kernel, rfl, by decide +kernel, by decide +kernel⟩
abbrev n_reading : List Str := ["code", "messages", "row", "number", "other_number", "tail", "at", "behind", "ahead", "new_tail", "passes"]
theorem sc_reading : FnScope n_reading ["code"] (defScope s_reading) := ⟨rfl, rfl, rfl, by decide +kernel, rfl, by decide +kernel, by decide +kernel⟩
abbrev n__law_feed : List Str := ["script"]
theorem sc__law_feed : FnScope n__law_feed ["script"] (defScope s__law_feed) := ⟨rfl, rfl, rfl, by decide +kernel, rfl, by decide +kernel, by decide +kernel⟩
abbrev n__law_draw : List Str := ["feed", "many", "cell", "told", "mixed"]
theorem sc__law_draw : FnScope n__law_draw ["feed", "many"] (defScope s__law_draw) := ⟨rfl, rfl, rfl, by decide +kernel, rfl, by decide +kernel, by decide +kernel⟩
abbrev n__law_like : List Str := ["told", "due", "k"]
theorem sc__law_like : FnScope n__law_like ["told", "due"] (defScope s__law_like) := ⟨rfl, rfl, rfl, by decide +kernel, rfl, by decide +kernel, by decide +kernel⟩
abbrev n__law_is_whole : List Str := ["x"]
theorem sc__law_is_whole : FnScope n__law_is_whole ["x"] (defScope s__law_is_whole) := ⟨rfl, rfl, rfl, by decide +kernel, rfl, by decide +kernel, by decide +kernel⟩
abbrev n__law_word : List Str := ["feed", "letters", "longest", "size", "k"]
theorem sc__law_word : FnScope n__law_word ["feed", "letters", "longest"] (defScope s__law_word) := ⟨rfl, rfl, rfl, by decide +kernel, rfl, by decide +kernel, by decide +kernel⟩
abbrev n__law_code : List Str := ["feed", "letters", "most", "longest", "code", "k", "word"]
theorem sc__law_code : FnScope n__law_code ["feed", "letters", "most", "longest"] (defScope s__law_code) := ⟨rfl, rfl, rfl, by decide +kernel, rfl, by decide +kernel, by decide +kernel⟩
abbrev n__law_tails : List Str := ["code", "found", "one", "two", "at", "tail", "word", "rest"]
theorem sc__law_tails : FnScope n__law_tails ["code"] (defScope s__law_tails) := ⟨rfl, rfl, rfl, by decide +kernel, rfl, by decide +kernel, by decide +kernel⟩
abbrev n__law_meets : List Str := ["code", "texts", "rows", "size", "longer", "word", "ordered", "row", "k"]
theorem sc__law_meets : FnScope n__law_meets ["code"] (defScope s__law_meets) := ⟨rfl, rfl, rfl, by decide +kernel, rfl, by decide +kernel, by decide +kernel⟩
abbrev n__law_is_message : List Str := ["code", "value", "x"]
theorem sc__law_is_message : FnScope n__law_is_message ["code", "value"] (defScope s__law_is_message) := ⟨rfl, rfl, rfl, by decide +kernel, rfl, by decide +kernel, by decide +kernel⟩
abbrev n__law_is_double : List Str := ["code", "told", "k"]
theorem sc__law_is_double : FnScope n__law_is_double ["code", "told"] (defScope s__law_is_double) := ⟨rfl, rfl, rfl, by decide +kernel, rfl, by decide +kernel, by decide +kernel⟩
abbrev n__law_asks : List Str := ["code", "tails", "is_double", "handed", "told", "tail"]
theorem sc__law_asks : FnScope n__law_asks ["code"] (defScope s__law_asks) := ⟨rfl, rfl, rfl, by decide +kernel, rfl, by decide +kernel, by decide +kernel⟩
abbrev n_law : List Str := ["script", "feed", "turn", "letters", "code", "one", "two"]
theorem sc_law : FnScope n_law ["script"] (defScope s_law) := ⟨rfl, rfl, rfl, by decide +kernel, rfl, by decide +kernel, by decide +kernel⟩
/-- what the top has left -/
structure Tx (K : PySem.W.Frag) (mg : Str → Option Value) where
  a_first_tails : Addr
  d_first_tails : FuncData
  F_first_tails : Fun K "first_tails" "first_tails" s_first_tails a_first_tails d_first_tails
  g_first_tails : mg "first_tails" = some (.ref a_first_tails)
  b_first_tails : L2.Binds K d_first_tails ["code"] []
  a_tails_from : Addr
  d_tails_from : FuncData
  F_tails_from : Fun K "tails_from" "tails_from" s_tails_from a_tails_from d_tails_from
  g_tails_from : mg "tails_from" = some (.ref a_tails_from)
  b_tails_from : L2.Binds K d_tails_from ["code", "tail"] []
  a_longer_messages : Addr
  d_longer_messages : FuncData
  F_longer_messages : Fun K "longer_messages" "longer_messages" s_longer_messages a_longer_messages d_longer_messages
  g_longer_messages : mg "longer_messages" = some (.ref a_longer_messages)
  b_longer_messages : L2.Binds K d_longer_messages ["messages", "number", "passes"] []
  a_reading : Addr
  d_reading : FuncData
  F_reading : Fun K "reading" "reading" s_reading a_reading d_reading
  g_reading : mg "reading" = some (.ref a_reading)
  b_reading : L2.Binds K d_reading ["code"] []
  a__law_feed : Addr
  d__law_feed : FuncData
  F__law_feed : Fun K "_law_feed" "_law_feed" s__law_feed a__law_feed d__law_feed
  g__law_feed : mg "_law_feed" = some (.ref a__law_feed)
  b__law_feed : L2.Binds K d__law_feed ["script"] []
  a__law_draw : Addr
  d__law_draw : FuncData
  F__law_draw : Fun K "_law_draw" "_law_draw" s__law_draw a__law_draw d__law_draw
  g__law_draw : mg "_law_draw" = some (.ref a__law_draw)
  b__law_draw : L2.Binds K d__law_draw ["feed", "many"] []
  a__law_like : Addr
  d__law_like : FuncData
  F__law_like : Fun K "_law_like" "_law_like" s__law_like a__law_like d__law_like
  g__law_like : mg "_law_like" = some (.ref a__law_like)
  b__law_like : L2.Binds K d__law_like ["told", "due"] []
  a__law_is_whole : Addr
  d__law_is_whole : FuncData
  F__law_is_whole : Fun K "_law_is_whole" "_law_is_whole" s__law_is_whole a__law_is_whole d__law_is_whole
  g__law_is_whole : mg "_law_is_whole" = some (.ref a__law_is_whole)
  b__law_is_whole : L2.Binds K d__law_is_whole ["x"] []
  a__law_word : Addr
  d__law_word : FuncData
  F__law_word : Fun K "_law_word" "_law_word" s__law_word a__law_word d__law_word
  g__law_word : mg "_law_word" = some (.ref a__law_word)
  b__law_word : L2.Binds K d__law_word ["feed", "letters", "longest"] []
  a__law_code : Addr
  d__law_code : FuncData
  F__law_code : Fun K "_law_code" "_law_code" s__law_code a__law_code d__law_code
  g__law_code : mg "_law_code" = some (.ref a__law_code)
  b__law_code : L2.Binds K d__law_code ["feed", "letters", "most", "longest"] []
  a__law_tails : Addr
  d__law_tails : FuncData
  F__law_tails : Fun K "_law_tails" "_law_tails" s__law_tails a__law_tails d__law_tails
  g__law_tails : mg "_law_tails" = some (.ref a__law_tails)
  b__law_tails : L2.Binds K d__law_tails ["code"] []
  a__law_meets : Addr
  d__law_meets : FuncData
  F__law_meets : Fun K "_law_meets" "_law_meets" s__law_meets a__law_meets d__law_meets
  g__law_meets : mg "_law_meets" = some (.ref a__law_meets)
  b__law_meets : L2.Binds K d__law_meets ["code"] []
  a__law_is_message : Addr
  d__law_is_message : FuncData
  F__law_is_message : Fun K "_law_is_message" "_law_is_message" s__law_is_message a__law_is_message d__law_is_message
  g__law_is_message : mg "_law_is_message" = some (.ref a__law_is_message)
  b__law_is_message : L2.Binds K d__law_is_message ["code", "value"] []
  a__law_is_double : Addr
  d__law_is_double : FuncData
  F__law_is_double : Fun K "_law_is_double" "_law_is_double" s__law_is_double a__law_is_double d__law_is_double
  g__law_is_double : mg "_law_is_double" = some (.ref a__law_is_double)
  b__law_is_double : L2.Binds K d__law_is_double ["code", "told"] []
  a__law_asks : Addr
  d__law_asks : FuncData
  F__law_asks : Fun K "_law_asks" "_law_asks" s__law_asks a__law_asks d__law_asks
  g__law_asks : mg "_law_asks" = some (.ref a__law_asks)
  b__law_asks : L2.Binds K d__law_asks ["code"] []
  a_law : Addr
  d_law : FuncData
  F_law : Fun K "law" "law" s_law a_law d_law
  g_law : mg "law" = some (.ref a_law)
  b_law : L2.Binds K d_law ["script"] []
  z_abs : mg "abs" = none
  z_bool : mg "bool" = none
  z_enumerate : mg "enumerate" = none
  z_int : mg "int" = none
  z_isinstance : mg "isinstance" = none
  z_len : mg "len" = none
  z_list : mg "list" = none
  z_range : mg "range" = none
  z_sorted : mg "sorted" = none
  z_str : mg "str" = none
  z_tuple : mg "tuple" = none
  e_law : ∀ (s : Shared) (v : Value), BindsTo s d_law ⟨[v], []⟩ [("script", v)]

def bo_first_tails_1 : En → R En (Fl × En) :=
  (ifS (andT (ofTr (bM "str" pStarts (nmB 5) (bcons (nmB 3) bnil))) (ofB (b2 (pCmp cGt) (bN pLen (bcons (nmB 5) bnil)) (bN pLen (bcons (nmB 3) bnil)))))
      (apS 1 (eN mkT (econs (sh (nmB 2)) (econs (sh (nmB 4)) (econs (fzE (bv (bSl (nmB 5) (soO (bN pLen (bcons (nmB 3) bnil))) noO))) enil)))))
      skS)
theorem bo_first_tails_1_ap (e0 : En) : bo_first_tails_1 e0 = (ifS (andT (ofTr (bM "str" pStarts (nmB 5) (bcons (nmB 3) bnil))) (ofB (b2 (pCmp cGt) (bN pLen (bcons (nmB 5) bnil)) (bN pLen (bcons (nmB 3) bnil)))))
      (apS 1 (eN mkT (econs (sh (nmB 2)) (econs (sh (nmB 4)) (econs (fzE (bv (bSl (nmB 5) (soO (bN pLen (bcons (nmB 3) bnil))) noO))) enil)))))
      skS) e0 := rfl
def bo_first_tails_2 : En → R En (Fl × En) :=
  (forS (itEn (econs (sh (nmB 0)) enil)) (gtup 2 (gcons (stS 4) (gcons (stS 5) gnil))) bo_first_tails_1)
theorem bo_first_tails_2_ap (e0 : En) : bo_first_tails_2 e0 = (forS (itEn (econs (sh (nmB 0)) enil)) (gtup 2 (gcons (stS 4) (gcons (stS 5) gnil))) bo_first_tails_1) e0 := rfl
def b_first_tails : En → R En (Fl × En) :=
  (sq (setS 1 (eN mkL enil))
    (sq (forS (itEn (econs (sh (nmB 0)) enil)) (gtup 2 (gcons (stS 2) (gcons (stS 3) gnil))) bo_first_tails_2)
    (rtS (mvE 1))))
def m_first_tails : FS := finF [false] 6 b_first_tails

def bo_tails_from_1 : En → R En (Fl × En) :=
  (sq (ifS (andT (ofTr (bM "str" pStarts (nmB 4) (bcons (nmB 1) bnil))) (ofB (b2 (pCmp cGt) (bN pLen (bcons (nmB 4) bnil)) (bN pLen (bcons (nmB 1) bnil)))))
      (apS 2 (eN mkT (econs (sh (nmB 3)) (econs (fzE (bv (bSl (nmB 4) (soO (bN pLen (bcons (nmB 1) bnil))) noO))) (econs (sh (cB (.bl true))) enil)))))
      skS)
    (ifS (andT (ofTr (bM "str" pStarts (nmB 1) (bcons (nmB 4) bnil))) (ofB (b2 (pCmp cGt) (bN pLen (bcons (nmB 1) bnil)) (bN pLen (bcons (nmB 4) bnil)))))
      (apS 2 (eN mkT (econs (sh (nmB 3)) (econs (fzE (bv (bSl (nmB 1) (soO (bN pLen (bcons (nmB 4) bnil))) noO))) (econs (sh (cB (.bl false))) enil)))))
      skS))
theorem bo_tails_from_1_ap (e0 : En) : bo_tails_from_1 e0 = (sq (ifS (andT (ofTr (bM "str" pStarts (nmB 4) (bcons (nmB 1) bnil))) (ofB (b2 (pCmp cGt) (bN pLen (bcons (nmB 4) bnil)) (bN pLen (bcons (nmB 1) bnil)))))
      (apS 2 (eN mkT (econs (sh (nmB 3)) (econs (fzE (bv (bSl (nmB 4) (soO (bN pLen (bcons (nmB 1) bnil))) noO))) (econs (sh (cB (.bl true))) enil)))))
      skS)
    (ifS (andT (ofTr (bM "str" pStarts (nmB 1) (bcons (nmB 4) bnil))) (ofB (b2 (pCmp cGt) (bN pLen (bcons (nmB 1) bnil)) (bN pLen (bcons (nmB 4) bnil)))))
      (apS 2 (eN mkT (econs (sh (nmB 3)) (econs (fzE (bv (bSl (nmB 1) (soO (bN pLen (bcons (nmB 4) bnil))) noO))) (econs (sh (cB (.bl false))) enil)))))
      skS)) e0 := rfl
def b_tails_from : En → R En (Fl × En) :=
  (sq (setS 2 (eN mkL enil))
    (sq (forS (itEn (econs (sh (nmB 0)) enil)) (gtup 2 (gcons (stS 3) (gcons (stS 4) gnil))) bo_tails_from_1)
    (rtS (mvE 2))))
def m_tails_from : FS := finF [false, false] 5 b_tails_from

def b_longer_messages : En → R En (Fl × En) :=
  (sq (asgS (gtup 2 (gcons (stS 3) (gcons (stS 4) gnil))) (sh (nmB 0)))
    (sq (ifS (ofTr (nmB 2))
      (rtS (eN mkT (econs (sh (nmB 4)) (econs (fzE (bv (b2 pAdd (nmB 3) (bN mkL (bcons (nmB 1) bnil))))) enil))))
      skS)
    (rtS (eN mkT (econs (fzE (bv (b2 pAdd (nmB 3) (bN mkL (bcons (nmB 1) bnil))))) (econs (sh (nmB 4)) enil))))))
def m_longer_messages : FS := finF [false, false, false] 5 b_longer_messages

def bo_reading_1 : En → R En (Fl × En) :=
  (ifS (ofB (b2 pDn (nmB 5) (nmB 1)))
      (sq (dpS 1 (nmB 5) (eN mkT (econs (fzE (eN mkL (econs (sh (nmB 3)) enil))) (econs (fzE (eN mkL (econs (sh (nmB 4)) enil))) enil))))
    (apS 2 (sh (nmB 5))))
      skS)
theorem bo_reading_1_ap (e0 : En) : bo_reading_1 e0 = (ifS (ofB (b2 pDn (nmB 5) (nmB 1)))
      (sq (dpS 1 (nmB 5) (eN mkT (econs (fzE (eN mkL (econs (sh (nmB 3)) enil))) (econs (fzE (eN mkL (econs (sh (nmB 4)) enil))) enil))))
    (apS 2 (sh (nmB 5))))
      skS) e0 := rfl
def bo_reading_2 : En → R En (Fl × En) :=
  (ifS (ofB (b2 pDn (nmB 9) (nmB 1)))
      (sq (dpS 1 (nmB 9) (callE m_longer_messages [none, none, none] (econs (sh (b2 pDg (nmB 1) (nmB 5))) (econs (sh (nmB 3)) (econs (sh (nmB 10)) enil)))))
    (apS 2 (sh (nmB 9))))
      skS)
theorem bo_reading_2_ap (e0 : En) : bo_reading_2 e0 = (ifS (ofB (b2 pDn (nmB 9) (nmB 1)))
      (sq (dpS 1 (nmB 9) (callE m_longer_messages [none, none, none] (econs (sh (b2 pDg (nmB 1) (nmB 5))) (econs (sh (nmB 3)) (econs (sh (nmB 10)) enil)))))
    (apS 2 (sh (nmB 9))))
      skS) e0 := rfl
def bo_reading_3 : En → R En (Fl × En) :=
  (sq (setS 5 (sh (b2 pIx (nmB 2) (nmB 6))))
    (sq (ifS (ofB (b2 pIn (nmB 5) (nmB 0)))
      (sq (asgS (gtup 2 (gcons (stS 7) (gcons (stS 8) gnil))) (sh (b2 pDg (nmB 1) (nmB 5))))
    (rtS (eN mkT (econs (sh (cB (.str "double"))) (econs (fzE (bv (b2 pAdd (nmB 7) (bN mkL (bcons (bM "list" pIndex (nmB 0) (bcons (nmB 5) bnil)) bnil))))) (econs (sh (nmB 8)) enil))))))
      skS)
    (sq (forS (itS (callE m_tails_from [none, none] (econs (sh (nmB 0)) (econs (sh (nmB 5)) enil)))) (gtup 3 (gcons (stS 3) (gcons (stS 9) (gcons (stS 10) gnil)))) bo_reading_2)
    (augS 6 pIadd (sh (cB (.int 1)))))))
theorem bo_reading_3_ap (e0 : En) : bo_reading_3 e0 = (sq (setS 5 (sh (b2 pIx (nmB 2) (nmB 6))))
    (sq (ifS (ofB (b2 pIn (nmB 5) (nmB 0)))
      (sq (asgS (gtup 2 (gcons (stS 7) (gcons (stS 8) gnil))) (sh (b2 pDg (nmB 1) (nmB 5))))
    (rtS (eN mkT (econs (sh (cB (.str "double"))) (econs (fzE (bv (b2 pAdd (nmB 7) (bN mkL (bcons (bM "list" pIndex (nmB 0) (bcons (nmB 5) bnil)) bnil))))) (econs (sh (nmB 8)) enil))))))
      skS)
    (sq (forS (itS (callE m_tails_from [none, none] (econs (sh (nmB 0)) (econs (sh (nmB 5)) enil)))) (gtup 3 (gcons (stS 3) (gcons (stS 9) (gcons (stS 10) gnil)))) bo_reading_2)
    (augS 6 pIadd (sh (cB (.int 1))))))) e0 := rfl
def te_reading_4 : En → R En (Bool × En) :=
  (ofB (b2 (pCmp cLt) (nmB 6) (bN pLen (bcons (nmB 2) bnil))))
theorem te_reading_4_ap (e0 : En) : te_reading_4 e0 = (ofB (b2 (pCmp cLt) (nmB 6) (bN pLen (bcons (nmB 2) bnil)))) e0 := rfl
def b_reading : En → R En (Fl × En) :=
  (sq (setS 1 dnE)
    (sq (setS 2 (eN mkL enil))
    (sq (forS (itS (callE m_first_tails [none] (econs (sh (nmB 0)) enil))) (gtup 3 (gcons (stS 3) (gcons (stS 4) (gcons (stS 5) gnil)))) bo_reading_1)
    (sq (setS 6 (sh (cB (.int 0))))
    (sq (whileS 1000 te_reading_4 bo_reading_3)
    (rtS (eN mkT (econs (sh (cB (.str "single"))) (econs (fzE (bv (bN pSorted (bcons (nmB 2) bnil)))) enil)))))))))
def m_reading : FS := finF [false] 11 b_reading

def b__law_feed : En → R En (Fl × En) :=
  (rtS (eN mkL (econs (fzE (bv (bN pList (bcons (nmB 0) bnil)))) (econs (sh (cB (.int 0))) (econs (sh (cB (.int 0))) (econs (sh (cB (.int 1))) enil))))))
def m__law_feed : FS := finF [false] 1 b__law_feed

def b__law_draw : En → R En (Fl × En) :=
  (sq (ifS (andT (ofB (b2 pEq (b2 pIx (nmB 0) (cB (.int 2))) (cB (.int 0)))) (ofB (b2 (pCmp cLt) (b2 pIx (nmB 0) (cB (.int 1))) (bN pLen (bcons (b2 pIx (nmB 0) (cB (.int 0))) bnil)))))
      (sq (setS 2 (bv (bN pAbs (bcons (bN pInt (bcons (b2 pIx (b2 pIx (nmB 0) (cB (.int 0))) (b2 pIx (nmB 0) (cB (.int 1)))) bnil)) bnil))))
    (sq (saS 0 pIadd (cB (.int 1)) (cB (.int 1)))
    (ifS (ofB (b2 (pCmp cGe) (nmB 2) (b2 pPow (cB (.int 10)) (cB (.int 18)))))
      (siS 0 (sh (cB (.int 2))) (sh (nmB 2)))
      (siS 0 (sh (cB (.int 3))) (bv (b2 pMod (bN pInt (bcons (b2 pAdd (b2 pAdd (b2 pMulA (b2 pIx (nmB 0) (cB (.int 3))) (cB (.int 48271))) (b2 pMulA (nmB 2) (cB (.int 69621)))) (b2 pIx (nmB 0) (cB (.int 1)))) bnil)) (cB (.int 2147483647))))))))
      skS)
    (sq (ifS (ofB (b2 (pCmp cGt) (b2 pIx (nmB 0) (cB (.int 2))) (cB (.int 0))))
      (sq (setS 3 (bv (b2 pMod (bN pInt (bcons (b2 pIx (nmB 0) (cB (.int 2))) bnil)) (nmB 1))))
    (sq (siS 0 (sh (cB (.int 2))) (bv (b2 pFdiv (b2 pIx (nmB 0) (cB (.int 2))) (nmB 1))))
    (rtS (mvE 3))))
      skS)
    (sq (siS 0 (sh (cB (.int 3))) (bv (b2 pMod (bN pInt (bcons (b2 pAdd (b2 pMulA (b2 pIx (nmB 0) (cB (.int 3))) (cB (.int 16807))) (cB (.int 12345))) bnil)) (cB (.int 2147483647)))))
    (sq (setS 4 (bv (b2 pMod (bN pInt (bcons (b2 pAdd (b2 pMulA (b2 pIx (nmB 0) (cB (.int 3))) (b2 pIx (nmB 0) (cB (.int 3)))) (b2 pIx (nmB 0) (cB (.int 3)))) bnil)) (cB (.int 2147483629)))))
    (rtS (bv (b2 pMod (b2 pFdiv (nmB 4) (cB (.int 11))) (nmB 1))))))))
def m__law_draw : FS := finF [true, false] 5 b__law_draw

def bo__law_like_1 (mrec : FS) : En → R En (Fl × En) :=
  (ifS (notT (ofV (sh (callA 2 mrec (bcons (b2 pIx (nmB 0) (nmB 2)) (bcons (b2 pIx (nmB 1) (nmB 2)) bnil))))))
      (rtS (sh (cB (.bl false))))
      skS)
theorem bo__law_like_1_ap (mrec : FS) (e0 : En) : bo__law_like_1 mrec e0 = (ifS (notT (ofV (sh (callA 2 mrec (bcons (b2 pIx (nmB 0) (nmB 2)) (bcons (b2 pIx (nmB 1) (nmB 2)) bnil))))))
      (rtS (sh (cB (.bl false))))
      skS) e0 := rfl
def b__law_like (mrec : FS) : En → R En (Fl × En) :=
  (sq (ifS (ofTr (bN pIsi (bcons (nmB 1) (bcons (bN mkT (bcons (cB (.ty "list")) (bcons (cB (.ty "tuple")) bnil))) bnil))))
      (sq (ifS (orT (ofB (b2 pNe (bN pIsi (bcons (nmB 1) (bcons (cB (.ty "list")) bnil))) (bN pIsi (bcons (nmB 0) (bcons (cB (.ty "list")) bnil))))) (ofB (b2 pNe (bN pIsi (bcons (nmB 1) (bcons (cB (.ty "tuple")) bnil))) (bN pIsi (bcons (nmB 0) (bcons (cB (.ty "tuple")) bnil))))))
      (rtS (sh (cB (.bl false))))
      skS)
    (sq (ifS (ofB (b2 pNe (bN pLen (bcons (nmB 0) bnil)) (bN pLen (bcons (nmB 1) bnil))))
      (rtS (sh (cB (.bl false))))
      skS)
    (sq (forS (itR rgO1 (econs (bv (bN pLen (bcons (nmB 1) bnil))) enil)) (stS 2) (bo__law_like_1 mrec))
    (rtS (sh (cB (.bl true)))))))
      skS)
    (sq (ifS (ofB (b2 pIs (nmB 1) (cB .non)))
      (rtS (sh (b2 pIs (nmB 0) (cB .non))))
      skS)
    (sq (ifS (ofTr (bN pIsi (bcons (nmB 1) (bcons (cB (.ty "bool")) bnil))))
      (rtS (andV (bv (bN pIsi (bcons (nmB 0) (bcons (cB (.ty "bool")) bnil)))) (sh (b2 pEq (nmB 0) (nmB 1)))))
      skS)
    (sq (ifS (ofTr (bN pIsi (bcons (nmB 1) (bcons (cB (.ty "int")) bnil))))
      (rtS (andV (bv (bN pIsi (bcons (nmB 0) (bcons (cB (.ty "int")) bnil)))) (andV (notV (bv (bN pIsi (bcons (nmB 0) (bcons (cB (.ty "bool")) bnil))))) (sh (b2 pEq (nmB 0) (nmB 1))))))
      skS)
    (rtS (andV (bv (bN pIsi (bcons (nmB 0) (bcons (cB (.ty "str")) bnil)))) (sh (b2 pEq (nmB 0) (nmB 1)))))))))
def m__law_like : Nat → FS
  | 0 => fun _ => .no
  | n + 1 => finF [false, false] 3 (b__law_like (m__law_like n))

def b__law_is_whole : En → R En (Fl × En) :=
  (rtS (andV (bv (bN pIsi (bcons (nmB 0) (bcons (cB (.ty "int")) bnil)))) (notV (bv (bN pIsi (bcons (nmB 0) (bcons (cB (.ty "bool")) bnil)))))))
def m__law_is_whole : FS := finF [false] 1 b__law_is_whole

def el__law_word_1 : En → R En (T × En) :=
  (ixS 1 (callE m__law_draw [some 0, none] (econs (mvE 0) (econs (bv (bN pLen (bcons (nmB 1) bnil))) enil))))
theorem el__law_word_1_ap (e0 : En) : el__law_word_1 e0 = (ixS 1 (callE m__law_draw [some 0, none] (econs (mvE 0) (econs (bv (bN pLen (bcons (nmB 1) bnil))) enil)))) e0 := rfl
def b__law_word : En → R En (Fl × En) :=
  (sq (setS 3 (e2 pAdd (sh (cB (.int 1))) (callE m__law_draw [some 0, none] (econs (mvE 0) (econs (sh (nmB 2)) enil)))))
    (rtS (eM "str" pJoin (cB (.str "")) (econs (lcE [4] (itR rgO1 (econs (sh (nmB 3)) enil)) (stS 4) yesT el__law_word_1) enil))))
def m__law_word : FS := finF [true, false, false] 5 b__law_word

def bo__law_code_1 : En → R En (Fl × En) :=
  (sq (setS 6 (callE m__law_word [some 0, none, none] (econs (mvE 0) (econs (sh (nmB 1)) (econs (sh (nmB 3)) enil)))))
    (ifS (ofB (b2 pNotIn (nmB 6) (nmB 4)))
      (apS 4 (sh (nmB 6)))
      skS))
theorem bo__law_code_1_ap (e0 : En) : bo__law_code_1 e0 = (sq (setS 6 (callE m__law_word [some 0, none, none] (econs (mvE 0) (econs (sh (nmB 1)) (econs (sh (nmB 3)) enil)))))
    (ifS (ofB (b2 pNotIn (nmB 6) (nmB 4)))
      (apS 4 (sh (nmB 6)))
      skS)) e0 := rfl
def b__law_code : En → R En (Fl × En) :=
  (sq (setS 4 (eN mkL enil))
    (sq (forS (itR rgO1 (econs (e2 pAdd (sh (cB (.int 1))) (callE m__law_draw [some 0, none] (econs (mvE 0) (econs (sh (nmB 2)) enil)))) enil)) (stS 5) bo__law_code_1)
    (rtS (mvE 4))))
def m__law_code : FS := finF [true, false, false, false] 7 b__law_code

def bo__law_tails_1 : En → R En (Fl × En) :=
  (ifS (andT (ofB (b2 pEq (bSl (nmB 3) noO (soO (bN pLen (bcons (nmB 2) bnil)))) (nmB 2))) (andT (ofB (b2 pNe (nmB 3) (nmB 2))) (ofB (b2 pNotIn (bSl (nmB 3) (soO (bN pLen (bcons (nmB 2) bnil))) noO) (nmB 1)))))
      (apS 1 (bv (bSl (nmB 3) (soO (bN pLen (bcons (nmB 2) bnil))) noO)))
      skS)
theorem bo__law_tails_1_ap (e0 : En) : bo__law_tails_1 e0 = (ifS (andT (ofB (b2 pEq (bSl (nmB 3) noO (soO (bN pLen (bcons (nmB 2) bnil)))) (nmB 2))) (andT (ofB (b2 pNe (nmB 3) (nmB 2))) (ofB (b2 pNotIn (bSl (nmB 3) (soO (bN pLen (bcons (nmB 2) bnil))) noO) (nmB 1)))))
      (apS 1 (bv (bSl (nmB 3) (soO (bN pLen (bcons (nmB 2) bnil))) noO)))
      skS) e0 := rfl
def bo__law_tails_2 : En → R En (Fl × En) :=
  (forS (itS (sh (nmB 0))) (stS 3) bo__law_tails_1)
theorem bo__law_tails_2_ap (e0 : En) : bo__law_tails_2 e0 = (forS (itS (sh (nmB 0))) (stS 3) bo__law_tails_1) e0 := rfl
def bo__law_tails_3 : En → R En (Fl × En) :=
  (sq (setS 7 (sh (cB (.str ""))))
    (sq (ifS (ofB (b2 pEq (bSl (nmB 6) noO (soO (bN pLen (bcons (nmB 5) bnil)))) (nmB 5)))
      (setS 7 (bv (bSl (nmB 6) (soO (bN pLen (bcons (nmB 5) bnil))) noO)))
      skS)
    (sq (ifS (andT (ofB (b2 pEq (bSl (nmB 5) noO (soO (bN pLen (bcons (nmB 6) bnil)))) (nmB 6))) (ofB (b2 pNe (nmB 6) (nmB 5))))
      (setS 7 (bv (bSl (nmB 5) (soO (bN pLen (bcons (nmB 6) bnil))) noO)))
      skS)
    (ifS (andT (ofB (b2 pNe (nmB 7) (cB (.str "")))) (ofB (b2 pNotIn (nmB 7) (nmB 1))))
      (fun env => (apS 1 (sh (nmB 7))) (frz 7 env))
      skS))))
theorem bo__law_tails_3_ap (e0 : En) : bo__law_tails_3 e0 = (sq (setS 7 (sh (cB (.str ""))))
    (sq (ifS (ofB (b2 pEq (bSl (nmB 6) noO (soO (bN pLen (bcons (nmB 5) bnil)))) (nmB 5)))
      (setS 7 (bv (bSl (nmB 6) (soO (bN pLen (bcons (nmB 5) bnil))) noO)))
      skS)
    (sq (ifS (andT (ofB (b2 pEq (bSl (nmB 5) noO (soO (bN pLen (bcons (nmB 6) bnil)))) (nmB 6))) (ofB (b2 pNe (nmB 6) (nmB 5))))
      (setS 7 (bv (bSl (nmB 5) (soO (bN pLen (bcons (nmB 6) bnil))) noO)))
      skS)
    (ifS (andT (ofB (b2 pNe (nmB 7) (cB (.str "")))) (ofB (b2 pNotIn (nmB 7) (nmB 1))))
      (fun env => (apS 1 (sh (nmB 7))) (frz 7 env))
      skS)))) e0 := rfl
def bo__law_tails_4 : En → R En (Fl × En) :=
  (sq (ifS (ofB (b2 (pCmp cGe) (nmB 4) (bN pLen (bcons (nmB 1) bnil))))
      bkS
      skS)
    (sq (setS 5 (sh (b2 pIx (nmB 1) (nmB 4))))
    (forS (itS (sh (nmB 0))) (stS 6) bo__law_tails_3)))
theorem bo__law_tails_4_ap (e0 : En) : bo__law_tails_4 e0 = (sq (ifS (ofB (b2 (pCmp cGe) (nmB 4) (bN pLen (bcons (nmB 1) bnil))))
      bkS
      skS)
    (sq (setS 5 (sh (b2 pIx (nmB 1) (nmB 4))))
    (forS (itS (sh (nmB 0))) (stS 6) bo__law_tails_3))) e0 := rfl
def b__law_tails : En → R En (Fl × En) :=
  (sq (setS 1 (eN mkL enil))
    (sq (forS (itS (sh (nmB 0))) (stS 2) bo__law_tails_2)
    (sq (forS (itR rgO1 (econs (bv (bN pLen (bcons (bM "str" pJoin (cB (.str "")) (bcons (nmB 0) bnil)) bnil))) enil)) (stS 4) bo__law_tails_4)
    (rtS (bv (bN pSorted (bcons (nmB 1) bnil)))))))
def m__law_tails : FS := finF [false] 8 b__law_tails

def el__law_meets_1 : En → R En (T × En) :=
  (bv (b2 pAdd (nmB 7) (nmB 5)))
theorem el__law_meets_1_ap (e0 : En) : el__law_meets_1 e0 = (bv (b2 pAdd (nmB 7) (nmB 5))) e0 := rfl
def bo__law_meets_2 : En → R En (Fl × En) :=
  (fun env => (fun env => (setS 4 (e2 pAdd (sh (nmB 4)) (lcE [7] (itS (sh (nmB 2))) (stS 7) yesT el__law_meets_1))) (frz 4 env)) (frz 2 env))
theorem bo__law_meets_2_ap (e0 : En) : bo__law_meets_2 e0 = (fun env => (fun env => (setS 4 (e2 pAdd (sh (nmB 4)) (lcE [7] (itS (sh (nmB 2))) (stS 7) yesT el__law_meets_1))) (frz 4 env)) (frz 2 env)) e0 := rfl
def bo__law_meets_3 : En → R En (Fl × En) :=
  (sq (setS 4 (eN mkL enil))
    (sq (forS (itS (sh (nmB 0))) (stS 5) bo__law_meets_2)
    (sq (fun env => (setS 2 (sh (nmB 4))) (frz 4 env))
    (setS 1 (bv (b2 pAdd (nmB 1) (nmB 2)))))))
theorem bo__law_meets_3_ap (e0 : En) : bo__law_meets_3 e0 = (sq (setS 4 (eN mkL enil))
    (sq (forS (itS (sh (nmB 0))) (stS 5) bo__law_meets_2)
    (sq (fun env => (setS 2 (sh (nmB 4))) (frz 4 env))
    (setS 1 (bv (b2 pAdd (nmB 1) (nmB 2))))))) e0 := rfl
def te__law_meets_4 : En → R En (Bool × En) :=
  (ofB (b2 pEq (b2 pIx (nmB 6) (nmB 8)) (b2 pIx (nmB 6) (b2 pAdd (nmB 8) (cB (.int 1))))))
theorem te__law_meets_4_ap (e0 : En) : te__law_meets_4 e0 = (ofB (b2 pEq (b2 pIx (nmB 6) (nmB 8)) (b2 pIx (nmB 6) (b2 pAdd (nmB 8) (cB (.int 1)))))) e0 := rfl
def el__law_meets_5 : En → R En (T × En) :=
  (sh (nmB 8))
theorem el__law_meets_5_ap (e0 : En) : el__law_meets_5 e0 = (sh (nmB 8)) e0 := rfl
def b__law_meets : En → R En (Fl × En) :=
  (sq (setS 1 (eN mkL enil))
    (sq (setS 2 (eN mkL (econs (sh (cB (.str ""))) enil)))
    (sq (forS (itR rgO1 (econs (sh (cB (.int 3))) enil)) (stS 3) bo__law_meets_3)
    (sq (setS 6 (bv (bN pSorted (bcons (nmB 1) bnil))))
    (rtS (e2 (pCmp cGt) (eN pLen (econs (lcE [8] (itR rgO1 (econs (bv (b2 pSub (bN pLen (bcons (nmB 6) bnil)) (cB (.int 1)))) enil)) (stS 8) te__law_meets_4 el__law_meets_5) enil)) (sh (cB (.int 0)))))))))
def m__law_meets : FS := finF [false] 9 b__law_meets

def te__law_is_message_1 : En → R En (Bool × En) :=
  (andT (ofV (sh (callA 1 m__law_is_whole (bcons (nmB 2) bnil)))) (ofB (b3 (pCmp cLe) (pCmp cLt) (cB (.int 0)) (nmB 2) (bN pLen (bcons (nmB 0) bnil)))))
theorem te__law_is_message_1_ap (e0 : En) : te__law_is_message_1 e0 = (andT (ofV (sh (callA 1 m__law_is_whole (bcons (nmB 2) bnil)))) (ofB (b3 (pCmp cLe) (pCmp cLt) (cB (.int 0)) (nmB 2) (bN pLen (bcons (nmB 0) bnil))))) e0 := rfl
def el__law_is_message_2 : En → R En (T × En) :=
  (sh (nmB 2))
theorem el__law_is_message_2_ap (e0 : En) : el__law_is_message_2 e0 = (sh (nmB 2)) e0 := rfl
def b__law_is_message : En → R En (Fl × En) :=
  (sq (ifS (orT (notT (ofTr (bN pIsi (bcons (nmB 1) (bcons (cB (.ty "list")) bnil))))) (ofB (b2 (pCmp cGt) (bN pLen (bcons (nmB 1) bnil)) (cB (.int 40)))))
      (rtS (sh (cB (.bl false))))
      skS)
    (rtS (e2 pEq (eN pLen (econs (lcE [2] (itS (sh (nmB 1))) (stS 2) te__law_is_message_1 el__law_is_message_2) enil)) (bv (bN pLen (bcons (nmB 1) bnil))))))
def m__law_is_message : FS := finF [false, false] 3 b__law_is_message

def el__law_is_double_1 : En → R En (T × En) :=
  (sh (b2 pIx (nmB 0) (nmB 2)))
theorem el__law_is_double_1_ap (e0 : En) : el__law_is_double_1 e0 = (sh (b2 pIx (nmB 0) (nmB 2))) e0 := rfl
def el__law_is_double_2 : En → R En (T × En) :=
  (sh (b2 pIx (nmB 0) (nmB 2)))
theorem el__law_is_double_2_ap (e0 : En) : el__law_is_double_2 e0 = (sh (b2 pIx (nmB 0) (nmB 2))) e0 := rfl
def b__law_is_double : En → R En (Fl × En) :=
  (sq (ifS (orT (notT (ofTr (bN pIsi (bcons (nmB 1) (bcons (cB (.ty "tuple")) bnil))))) (orT (ofB (b2 pNe (bN pLen (bcons (nmB 1) bnil)) (cB (.int 3)))) (notT (ofV (sh (callA 2 (m__law_like 4) (bcons (b2 pIx (nmB 1) (cB (.int 0))) (bcons (cB (.str "double")) bnil))))))))
      (rtS (sh (cB (.bl false))))
      skS)
    (sq (ifS (orT (notT (ofV (sh (callA 2 m__law_is_message (bcons (nmB 0) (bcons (b2 pIx (nmB 1) (cB (.int 1))) bnil)))))) (orT (notT (ofV (sh (callA 2 m__law_is_message (bcons (nmB 0) (bcons (b2 pIx (nmB 1) (cB (.int 2))) bnil)))))) (ofB (b2 pEq (b2 pIx (nmB 1) (cB (.int 1))) (b2 pIx (nmB 1) (cB (.int 2)))))))
      (rtS (sh (cB (.bl false))))
      skS)
    (rtS (e2 pEq (eM "str" pJoin (cB (.str "")) (econs (lcE [2] (itS (sh (b2 pIx (nmB 1) (cB (.int 1))))) (stS 2) yesT el__law_is_double_1) enil)) (eM "str" pJoin (cB (.str "")) (econs (lcE [2] (itS (sh (b2 pIx (nmB 1) (cB (.int 2))))) (stS 2) yesT el__law_is_double_2) enil))))))
def m__law_is_double : FS := finF [false, false] 3 b__law_is_double

def te__law_asks_1 : En → R En (Bool × En) :=
  (ofB (b2 pIn (nmB 5) (nmB 0)))
theorem te__law_asks_1_ap (e0 : En) : te__law_asks_1 e0 = (ofB (b2 pIn (nmB 5) (nmB 0))) e0 := rfl
def el__law_asks_2 : En → R En (T × En) :=
  (sh (nmB 5))
theorem el__law_asks_2_ap (e0 : En) : el__law_asks_2 e0 = (sh (nmB 5)) e0 := rfl
def b__law_asks : En → R En (Fl × En) :=
  (sq (setS 1 (callE m__law_tails [none] (econs (sh (nmB 0)) enil)))
    (sq (fun env => (setS 2 (e2 (pCmp cGt) (eN pLen (econs (lcE [5] (itS (sh (nmB 1))) (stS 5) te__law_asks_1 el__law_asks_2) enil)) (sh (cB (.int 0))))) (frz 1 env))
    (sq (setS 3 (bv (bN pList (bcons (nmB 0) bnil))))
    (sq (fun env => (setS 4 (callE m_reading [none] (econs (sh (nmB 3)) enil))) (frz 3 env))
    (sq (ifS (orT (ofB (b2 pNe (nmB 3) (nmB 0))) (andT (ofV (sh (callA 1 m__law_meets (bcons (bSl (nmB 0) noO (soO (cB (.int 5)))) bnil)))) (notT (ofTr (nmB 2)))))
      (rtS (sh (cB (.bl false))))
      skS)
    (sq (ifS (ofTr (nmB 2))
      (rtS (sh (callA 2 m__law_is_double (bcons (nmB 0) (bcons (nmB 4) bnil)))))
      skS)
    (rtS (sh (callA 2 (m__law_like 4) (bcons (nmB 4) (bcons (bN mkT (bcons (cB (.str "single")) (bcons (nmB 1) bnil))) bnil)))))))))))
def m__law_asks : FS := finF [false] 6 b__law_asks

def bo_law_1 : En → R En (Fl × En) :=
  (sq (setS 3 (e2 pIx (eN mkL (econs (sh (cB (.str "W."))) (econs (sh (cB (.str "WR."))) (econs (sh (cB (.str "WR"))) (econs (sh (cB (.str ".WRGYL"))) enil))))) (callE m__law_draw [some 1, none] (econs (mvE 1) (econs (sh (cB (.int 4))) enil)))))
    (sq (setS 4 (callE m__law_code [some 1, none, none, none] (econs (mvE 1) (econs (sh (nmB 3)) (econs (sh (cB (.int 5))) (econs (sh (cB (.int 4))) enil))))))
    (sq (ifS (ofV (e2 pEq (callE m__law_draw [some 1, none] (econs (mvE 1) (econs (sh (cB (.int 4))) enil))) (sh (cB (.int 0)))))
      (setS 4 (callE m__law_code [some 1, none, none, none] (econs (mvE 1) (econs (sh (nmB 3)) (econs (sh (cB (.int 8))) (econs (sh (cB (.int 5))) enil))))))
      skS)
    (sq (setS 5 (ixS 4 (callE m__law_draw [some 1, none] (econs (mvE 1) (econs (bv (bN pLen (bcons (nmB 4) bnil))) enil)))))
    (sq (setS 6 (ixS 4 (callE m__law_draw [some 1, none] (econs (mvE 1) (econs (bv (bN pLen (bcons (nmB 4) bnil))) enil)))))
    (sq (ifS (andT (ofV (e2 pEq (callE m__law_draw [some 1, none] (econs (mvE 1) (econs (sh (cB (.int 3))) enil))) (sh (cB (.int 0))))) (andT (ofB (b2 (pCmp cLt) (bN pLen (bcons (b2 pAdd (nmB 5) (nmB 6)) bnil)) (cB (.int 6)))) (andT (ofB (b2 pNotIn (b2 pAdd (nmB 5) (nmB 6)) (nmB 4))) (ofB (b2 (pCmp cLt) (bN pLen (bcons (nmB 4) bnil)) (cB (.int 8)))))))
      (apS 4 (bv (b2 pAdd (nmB 5) (nmB 6))))
      skS)
    (ifS (notT (ofV (sh (callA 1 m__law_asks (bcons (nmB 4) bnil)))))
      (rtS (sh (cB (.bl false))))
      skS)))))))
theorem bo_law_1_ap (e0 : En) : bo_law_1 e0 = (sq (setS 3 (e2 pIx (eN mkL (econs (sh (cB (.str "W."))) (econs (sh (cB (.str "WR."))) (econs (sh (cB (.str "WR"))) (econs (sh (cB (.str ".WRGYL"))) enil))))) (callE m__law_draw [some 1, none] (econs (mvE 1) (econs (sh (cB (.int 4))) enil)))))
    (sq (setS 4 (callE m__law_code [some 1, none, none, none] (econs (mvE 1) (econs (sh (nmB 3)) (econs (sh (cB (.int 5))) (econs (sh (cB (.int 4))) enil))))))
    (sq (ifS (ofV (e2 pEq (callE m__law_draw [some 1, none] (econs (mvE 1) (econs (sh (cB (.int 4))) enil))) (sh (cB (.int 0)))))
      (setS 4 (callE m__law_code [some 1, none, none, none] (econs (mvE 1) (econs (sh (nmB 3)) (econs (sh (cB (.int 8))) (econs (sh (cB (.int 5))) enil))))))
      skS)
    (sq (setS 5 (ixS 4 (callE m__law_draw [some 1, none] (econs (mvE 1) (econs (bv (bN pLen (bcons (nmB 4) bnil))) enil)))))
    (sq (setS 6 (ixS 4 (callE m__law_draw [some 1, none] (econs (mvE 1) (econs (bv (bN pLen (bcons (nmB 4) bnil))) enil)))))
    (sq (ifS (andT (ofV (e2 pEq (callE m__law_draw [some 1, none] (econs (mvE 1) (econs (sh (cB (.int 3))) enil))) (sh (cB (.int 0))))) (andT (ofB (b2 (pCmp cLt) (bN pLen (bcons (b2 pAdd (nmB 5) (nmB 6)) bnil)) (cB (.int 6)))) (andT (ofB (b2 pNotIn (b2 pAdd (nmB 5) (nmB 6)) (nmB 4))) (ofB (b2 (pCmp cLt) (bN pLen (bcons (nmB 4) bnil)) (cB (.int 8)))))))
      (apS 4 (bv (b2 pAdd (nmB 5) (nmB 6))))
      skS)
    (ifS (notT (ofV (sh (callA 1 m__law_asks (bcons (nmB 4) bnil)))))
      (rtS (sh (cB (.bl false))))
      skS))))))) e0 := rfl
def bo_law_2 : En → R En (Fl × En) :=
  (fun env => (ifS (notT (ofV (sh (callA 2 m__law_is_double (bcons (nmB 4) (bcons (callB 1 m_reading (bcons (nmB 4) bnil)) bnil))))))
      (rtS (sh (cB (.bl false))))
      skS) (frz 4 env))
theorem bo_law_2_ap (e0 : En) : bo_law_2 e0 = (fun env => (ifS (notT (ofV (sh (callA 2 m__law_is_double (bcons (nmB 4) (bcons (callB 1 m_reading (bcons (nmB 4) bnil)) bnil))))))
      (rtS (sh (cB (.bl false))))
      skS) (frz 4 env)) e0 := rfl
def b_law : En → R En (Fl × En) :=
  (sq (setS 1 (callE m__law_feed [none] (econs (sh (nmB 0)) enil)))
    (sq (forS (itR rgO1 (econs (sh (cB (.int 3))) enil)) (stS 2) bo_law_1)
    (sq (forS (itS (eN mkL (econs (fzE (eN mkL (econs (sh (cB (.str "W"))) (econs (sh (cB (.str "WR"))) (econs (sh (cB (.str "RW"))) enil))))) (econs (fzE (eN mkL (econs (sh (cB (.str "WW"))) (econs (sh (cB (.str "WWW"))) enil)))) (econs (fzE (eN mkL (econs (sh (cB (.str "WR"))) (econs (sh (cB (.str "RW"))) (econs (sh (cB (.str "WRR"))) (econs (sh (cB (.str "W"))) enil)))))) enil))))) (stS 4) bo_law_2)
    (rtS (andV (callE (m__law_like 4) [none, none] (econs (fzE (callE m_reading [none] (econs (fzE (eN mkL (econs (sh (cB (.str "W"))) (econs (sh (cB (.str "WR"))) enil)))) enil))) (econs (eN mkT (econs (sh (cB (.str "single"))) (econs (fzE (eN mkL (econs (sh (cB (.str "R"))) enil))) enil))) enil))) (callE (m__law_like 4) [none, none] (econs (fzE (callE m_reading [none] (econs (fzE (eN mkL (econs (sh (cB (.str "W"))) enil))) enil))) (econs (eN mkT (econs (sh (cB (.str "single"))) (econs (fzE (eN mkL enil)) enil))) enil))))))))
def m_law : FS := finF [false] 7 b_law

section
variable {P : Program} {w : World} {K : PySem.W.Frag} {mg : Str → Option Value} {base : Heap}
theorem G_first_tails (T : Tx K mg) : VF P w K mg base 1 T.a_first_tails T.d_first_tails ["code"] m_first_tails :=
  vf_mk (io := [false]) (N := n_first_tails) T.F_first_tails sc_first_tails rfl fun cdv A outer s H vs E hr => by
  have tk : Takes (cxOf (L2.CX P w) P w K mg base n_first_tails "first_tails" (defScope s_first_tails) T.a_first_tails cdv A outer s H E) (fun cls d _ H => E cls d H) := takes_of rfl rfl rfl rfl
  have pOwn : PassesOwn (model P w) (A.deeper (envOfC "first_tails" (defScope s_first_tails) s.heap.objs.size T.a_first_tails cdv)) (envOfC "first_tails" (defScope s_first_tails) s.heap.objs.size T.a_first_tails cdv) (cxOf (L2.CX P w) P w K mg base n_first_tails "first_tails" (defScope s_first_tails) T.a_first_tails cdv A outer s H E).xe := passes_of rfl
  exact (vss_cons (vs_set (i := 1) sc_first_tails.nd rfl (.inl rfl) (.inl rfl) (fx_ne (by decide)) (ve_lst ves_nil))
    (vss_cons (vs_for (b := bo_first_tails_2) pOwn rfl (vi_enumA (by rfl) T.z_enumerate (ves_cons (ve_b (vb_name 0 rfl (.inl rfl))) ves_nil)) (vg_tup (n := 2) rfl (vgs_cons (vg_name (i := 2) sc_first_tails.nd rfl (.inl rfl) (.inl rfl) (fx_ne (by decide))) (vgs_cons (vg_name (i := 3) sc_first_tails.nd rfl (.inl rfl) (.inl rfl) (fx_ne (by decide))) vgs_nil)))
      (vss_one (vs_for (b := bo_first_tails_1) pOwn rfl (vi_enumA (by rfl) T.z_enumerate (ves_cons (ve_b (vb_name 0 rfl (.inl rfl))) ves_nil)) (vg_tup (n := 2) rfl (vgs_cons (vg_name (i := 4) sc_first_tails.nd rfl (.inl rfl) (.inl rfl) (fx_ne (by decide))) (vgs_cons (vg_name (i := 5) sc_first_tails.nd rfl (.inl rfl) (.inl rfl) (fx_ne (by decide))) vgs_nil)))
      (vss_one (vs_if (vw_pt (vw_and (vt_truth (vb_m PySem.F.plainAttrs_str PySem.F.slot_str_startswith PySem.F.type_str_startswith mt_startswith prim_starts (vb_name 5 rfl (.inl rfl)) (vbs_cons (vb_name 3 rfl (.inl rfl)) vbs_nil))) (vw_and1 (vt_cmp op_gt prim_cmp (vb_fn call_lenA prim_len (by rfl) T.z_len PySem.boot_len (vbs_cons (vb_name 5 rfl (.inl rfl)) vbs_nil)) (vb_fn call_lenA prim_len (by rfl) T.z_len PySem.boot_len (vbs_cons (vb_name 3 rfl (.inl rfl)) vbs_nil)) (nomark _)))))
      (vss_one (vs_append (i := 1) rfl (.inl rfl) (ve_tup (ves_cons (ve_b (vb_name 2 rfl (.inl rfl))) (ves_cons (ve_b (vb_name 4 rfl (.inl rfl))) (ves_cons (ve_frz (vv_slice (vb_name 5 rfl (.inl rfl)) (vo_some (vb_fn call_lenA prim_len (by rfl) T.z_len PySem.boot_len (vbs_cons (vb_name 3 rfl (.inl rfl)) vbs_nil))) vo_none)) ves_nil))))))
      vss_nil)))))
    (vss_one (vs_ret (ve_move 1 rfl (.inl rfl))))))

theorem G_tails_from (T : Tx K mg) : VF P w K mg base 1 T.a_tails_from T.d_tails_from ["code", "tail"] m_tails_from :=
  vf_mk (io := [false, false]) (N := n_tails_from) T.F_tails_from sc_tails_from rfl fun cdv A outer s H vs E hr => by
  have tk : Takes (cxOf (L2.CX P w) P w K mg base n_tails_from "tails_from" (defScope s_tails_from) T.a_tails_from cdv A outer s H E) (fun cls d _ H => E cls d H) := takes_of rfl rfl rfl rfl
  have pOwn : PassesOwn (model P w) (A.deeper (envOfC "tails_from" (defScope s_tails_from) s.heap.objs.size T.a_tails_from cdv)) (envOfC "tails_from" (defScope s_tails_from) s.heap.objs.size T.a_tails_from cdv) (cxOf (L2.CX P w) P w K mg base n_tails_from "tails_from" (defScope s_tails_from) T.a_tails_from cdv A outer s H E).xe := passes_of rfl
  exact (vss_cons (vs_set (i := 2) sc_tails_from.nd rfl (.inl rfl) (.inl rfl) (fx_ne (by decide)) (ve_lst ves_nil))
    (vss_cons (vs_for (b := bo_tails_from_1) pOwn rfl (vi_enumA (by rfl) T.z_enumerate (ves_cons (ve_b (vb_name 0 rfl (.inl rfl))) ves_nil)) (vg_tup (n := 2) rfl (vgs_cons (vg_name (i := 3) sc_tails_from.nd rfl (.inl rfl) (.inl rfl) (fx_ne (by decide))) (vgs_cons (vg_name (i := 4) sc_tails_from.nd rfl (.inl rfl) (.inl rfl) (fx_ne (by decide))) vgs_nil)))
      (vss_cons (vs_if (vw_pt (vw_and (vt_truth (vb_m PySem.F.plainAttrs_str PySem.F.slot_str_startswith PySem.F.type_str_startswith mt_startswith prim_starts (vb_name 4 rfl (.inl rfl)) (vbs_cons (vb_name 1 rfl (.inl rfl)) vbs_nil))) (vw_and1 (vt_cmp op_gt prim_cmp (vb_fn call_lenA prim_len (by rfl) T.z_len PySem.boot_len (vbs_cons (vb_name 4 rfl (.inl rfl)) vbs_nil)) (vb_fn call_lenA prim_len (by rfl) T.z_len PySem.boot_len (vbs_cons (vb_name 1 rfl (.inl rfl)) vbs_nil)) (nomark _)))))
      (vss_one (vs_append (i := 2) rfl (.inl rfl) (ve_tup (ves_cons (ve_b (vb_name 3 rfl (.inl rfl))) (ves_cons (ve_frz (vv_slice (vb_name 4 rfl (.inl rfl)) (vo_some (vb_fn call_lenA prim_len (by rfl) T.z_len PySem.boot_len (vbs_cons (vb_name 1 rfl (.inl rfl)) vbs_nil))) vo_none)) (ves_cons (ve_b vb_bl) ves_nil))))))
      vss_nil)
    (vss_one (vs_if (vw_pt (vw_and (vt_truth (vb_m PySem.F.plainAttrs_str PySem.F.slot_str_startswith PySem.F.type_str_startswith mt_startswith prim_starts (vb_name 1 rfl (.inl rfl)) (vbs_cons (vb_name 4 rfl (.inl rfl)) vbs_nil))) (vw_and1 (vt_cmp op_gt prim_cmp (vb_fn call_lenA prim_len (by rfl) T.z_len PySem.boot_len (vbs_cons (vb_name 1 rfl (.inl rfl)) vbs_nil)) (vb_fn call_lenA prim_len (by rfl) T.z_len PySem.boot_len (vbs_cons (vb_name 4 rfl (.inl rfl)) vbs_nil)) (nomark _)))))
      (vss_one (vs_append (i := 2) rfl (.inl rfl) (ve_tup (ves_cons (ve_b (vb_name 3 rfl (.inl rfl))) (ves_cons (ve_frz (vv_slice (vb_name 1 rfl (.inl rfl)) (vo_some (vb_fn call_lenA prim_len (by rfl) T.z_len PySem.boot_len (vbs_cons (vb_name 4 rfl (.inl rfl)) vbs_nil))) vo_none)) (ves_cons (ve_b vb_bl) ves_nil))))))
      vss_nil))))
    (vss_one (vs_ret (ve_move 2 rfl (.inl rfl))))))

theorem G_longer_messages (T : Tx K mg) : VF P w K mg base 1 T.a_longer_messages T.d_longer_messages ["messages", "number", "passes"] m_longer_messages :=
  vf_mk (io := [false, false, false]) (N := n_longer_messages) T.F_longer_messages sc_longer_messages rfl fun cdv A outer s H vs E hr => by
  have tk : Takes (cxOf (L2.CX P w) P w K mg base n_longer_messages "longer_messages" (defScope s_longer_messages) T.a_longer_messages cdv A outer s H E) (fun cls d _ H => E cls d H) := takes_of rfl rfl rfl rfl
  have pOwn : PassesOwn (model P w) (A.deeper (envOfC "longer_messages" (defScope s_longer_messages) s.heap.objs.size T.a_longer_messages cdv)) (envOfC "longer_messages" (defScope s_longer_messages) s.heap.objs.size T.a_longer_messages cdv) (cxOf (L2.CX P w) P w K mg base n_longer_messages "longer_messages" (defScope s_longer_messages) T.a_longer_messages cdv A outer s H E).xe := passes_of rfl
  exact (vss_cons (vs_asg (ve_b (vb_name 0 rfl (.inl rfl))) (vg_tup (n := 2) rfl (vgs_cons (vg_name (i := 3) sc_longer_messages.nd rfl (.inl rfl) (.inl rfl) (fx_ne (by decide))) (vgs_cons (vg_name (i := 4) sc_longer_messages.nd rfl (.inl rfl) (.inl rfl) (fx_ne (by decide))) vgs_nil))))
    (vss_cons (vs_if (vt_truth (vb_name 2 rfl (.inl rfl)))
      (vss_one (vs_ret (ve_tup (ves_cons (ve_b (vb_name 4 rfl (.inl rfl))) (ves_cons (ve_frz (vv_bin op_addA prim_add (vb_name 3 rfl (.inl rfl)) (vb_lst (vbs_cons (vb_name 1 rfl (.inl rfl)) vbs_nil)))) ves_nil)))))
      vss_nil)
    (vss_one (vs_ret (ve_tup (ves_cons (ve_frz (vv_bin op_addA prim_add (vb_name 3 rfl (.inl rfl)) (vb_lst (vbs_cons (vb_name 1 rfl (.inl rfl)) vbs_nil)))) (ves_cons (ve_b (vb_name 4 rfl (.inl rfl))) ves_nil)))))))

theorem G_reading (T : Tx K mg) : VF P w K mg base 2 T.a_reading T.d_reading ["code"] m_reading :=
  vf_mk (io := [false]) (N := n_reading) T.F_reading sc_reading rfl fun cdv A outer s H vs E hr => by
  have tk : Takes (cxOf (L2.CX P w) P w K mg base n_reading "reading" (defScope s_reading) T.a_reading cdv A outer s H E) (fun cls d _ H => E cls d H) := takes_of rfl rfl rfl rfl
  have pOwn : PassesOwn (model P w) (A.deeper (envOfC "reading" (defScope s_reading) s.heap.objs.size T.a_reading cdv)) (envOfC "reading" (defScope s_reading) s.heap.objs.size T.a_reading cdv) (cxOf (L2.CX P w) P w K mg base n_reading "reading" (defScope s_reading) T.a_reading cdv A outer s H E).xe := passes_of rfl
  exact (vss_cons (vs_set (i := 1) sc_reading.nd rfl (.inl rfl) (.inl rfl) (fx_ne (by decide)) ve_dnew)
    (vss_cons (vs_set (i := 2) sc_reading.nd rfl (.inl rfl) (.inl rfl) (fx_ne (by decide)) (ve_lst ves_nil))
    (vss_cons (vs_for (b := bo_reading_1) pOwn rfl (vi_seq (ve_call (G_first_tails T) (hr.mono (by decide)) (by rfl) T.g_first_tails T.F_first_tails.kp T.b_first_tails tk (vks_cons (vo_val (ve_b (vb_name 0 rfl (.inl rfl)))) vks_nil))) (vg_tup (n := 3) rfl (vgs_cons (vg_name (i := 3) sc_reading.nd rfl (.inl rfl) (.inl rfl) (fx_ne (by decide))) (vgs_cons (vg_name (i := 4) sc_reading.nd rfl (.inl rfl) (.inl rfl) (fx_ne (by decide))) (vgs_cons (vg_name (i := 5) sc_reading.nd rfl (.inl rfl) (.inl rfl) (fx_ne (by decide))) vgs_nil))))
      (vss_one (vs_if (vt_dn (hu1 hr) (vb_name 5 rfl (.inl rfl)) (vb_name 1 rfl (.inl rfl)))
      (vss_cons (vs_dput (hu1 hr) rfl (.inl rfl) (vb_name 5 rfl (.inl rfl)) (ve_tup (ves_cons (ve_frz (ve_lst (ves_cons (ve_b (vb_name 3 rfl (.inl rfl))) ves_nil))) (ves_cons (ve_frz (ve_lst (ves_cons (ve_b (vb_name 4 rfl (.inl rfl))) ves_nil))) ves_nil))))
    (vss_one (vs_append (i := 2) rfl (.inl rfl) (ve_b (vb_name 5 rfl (.inl rfl))))))
      vss_nil)))
    (vss_cons (vs_set (i := 6) sc_reading.nd rfl (.inl rfl) (.inl rfl) (fx_ne (by decide)) (ve_b vb_int))
    (vss_cons (vs_while (t := te_reading_4) (b := bo_reading_3) 1000 pOwn (vt_cmp op_lt prim_cmp (vb_name 6 rfl (.inl rfl)) (vb_fn call_lenA prim_len (by rfl) T.z_len PySem.boot_len (vbs_cons (vb_name 2 rfl (.inl rfl)) vbs_nil)) (nomark _))
      (vss_cons (vs_set (i := 5) sc_reading.nd rfl (.inl rfl) (.inl rfl) (fx_ne (by decide)) (ve_b (vb_ix ix_seq prim_ix (vb_name 2 rfl (.inl rfl)) (vb_name 6 rfl (.inl rfl)) (fun _ _ => rfl))))
    (vss_cons (vs_if (vt_cmp (op_inA (hu65 hr)) prim_in (vb_name 5 rfl (.inl rfl)) (vb_name 0 rfl (.inl rfl)) (by rfl))
      (vss_cons (vs_asg (ve_b (vb_dg (hu1 hr) (vb_name 1 rfl (.inl rfl)) (vb_name 5 rfl (.inl rfl)) (fun _ _ => rfl))) (vg_tup (n := 2) rfl (vgs_cons (vg_name (i := 7) sc_reading.nd rfl (.inl rfl) (.inl rfl) (fx_ne (by decide))) (vgs_cons (vg_name (i := 8) sc_reading.nd rfl (.inl rfl) (.inl rfl) (fx_ne (by decide))) vgs_nil))))
    (vss_one (vs_ret (ve_tup (ves_cons (ve_b vb_str) (ves_cons (ve_frz (vv_bin op_addA prim_add (vb_name 7 rfl (.inl rfl)) (vb_lst (vbs_cons (vb_m PySem.F.plainAttrs_list PySem.F.slot_list_index PySem.F.type_list_index mt_index prim_index (vb_name 0 rfl (.inl rfl)) (vbs_cons (vb_name 5 rfl (.inl rfl)) vbs_nil)) vbs_nil)))) (ves_cons (ve_b (vb_name 8 rfl (.inl rfl))) ves_nil)))))))
      vss_nil)
    (vss_cons (vs_for (b := bo_reading_2) pOwn rfl (vi_seq (ve_call (G_tails_from T) (hr.mono (by decide)) (by rfl) T.g_tails_from T.F_tails_from.kp T.b_tails_from tk (vks_cons (vo_val (ve_b (vb_name 0 rfl (.inl rfl)))) (vks_cons (vo_val (ve_b (vb_name 5 rfl (.inl rfl)))) vks_nil)))) (vg_tup (n := 3) rfl (vgs_cons (vg_name (i := 3) sc_reading.nd rfl (.inl rfl) (.inl rfl) (fx_ne (by decide))) (vgs_cons (vg_name (i := 9) sc_reading.nd rfl (.inl rfl) (.inl rfl) (fx_ne (by decide))) (vgs_cons (vg_name (i := 10) sc_reading.nd rfl (.inl rfl) (.inl rfl) (fx_ne (by decide))) vgs_nil))))
      (vss_one (vs_if (vt_dn (hu1 hr) (vb_name 9 rfl (.inl rfl)) (vb_name 1 rfl (.inl rfl)))
      (vss_cons (vs_dput (hu1 hr) rfl (.inl rfl) (vb_name 9 rfl (.inl rfl)) (ve_call (G_longer_messages T) (hr.mono (by decide)) (by rfl) T.g_longer_messages T.F_longer_messages.kp T.b_longer_messages tk (vks_cons (vo_val (ve_b (vb_dg (hu1 hr) (vb_name 1 rfl (.inl rfl)) (vb_name 5 rfl (.inl rfl)) (fun _ _ => rfl)))) (vks_cons (vo_val (ve_b (vb_name 3 rfl (.inl rfl)))) (vks_cons (vo_val (ve_b (vb_name 10 rfl (.inl rfl)))) vks_nil)))))
    (vss_one (vs_append (i := 2) rfl (.inl rfl) (ve_b (vb_name 9 rfl (.inl rfl))))))
      vss_nil)))
    (vss_one (vs_aug (i := 6) sc_reading.nd rfl (.inl rfl) (.inl rfl) (fx_ne (by decide)) iop_addA prim_iadd (ve_b vb_int)))))))
    (vss_one (vs_ret (ve_tup (ves_cons (ve_b vb_str) (ves_cons (ve_frz (vv_fn call_sortedA prim_sorted (by rfl) T.z_sorted PyProof.Rows.boot_sorted (vbs_cons (vb_name 2 rfl (.inl rfl)) vbs_nil))) ves_nil))))))))))

theorem G__law_feed (T : Tx K mg) : VF P w K mg base 1 T.a__law_feed T.d__law_feed ["script"] m__law_feed :=
  vf_mk (io := [false]) (N := n__law_feed) T.F__law_feed sc__law_feed rfl fun cdv A outer s H vs E hr => by
  have tk : Takes (cxOf (L2.CX P w) P w K mg base n__law_feed "_law_feed" (defScope s__law_feed) T.a__law_feed cdv A outer s H E) (fun cls d _ H => E cls d H) := takes_of rfl rfl rfl rfl
  have pOwn : PassesOwn (model P w) (A.deeper (envOfC "_law_feed" (defScope s__law_feed) s.heap.objs.size T.a__law_feed cdv)) (envOfC "_law_feed" (defScope s__law_feed) s.heap.objs.size T.a__law_feed cdv) (cxOf (L2.CX P w) P w K mg base n__law_feed "_law_feed" (defScope s__law_feed) T.a__law_feed cdv A outer s H E).xe := passes_of rfl
  exact (vss_one (vs_ret (ve_lst (ves_cons (ve_frz (vv_ty call_list_of prim_list (by rfl) T.z_list PyProof.Rows.boot_list (vbs_cons (vb_name 0 rfl (.inl rfl)) vbs_nil))) (ves_cons (ve_b vb_int) (ves_cons (ve_b vb_int) (ves_cons (ve_b vb_int) ves_nil)))))))

theorem G__law_draw (T : Tx K mg) : VF P w K mg base 1 T.a__law_draw T.d__law_draw ["feed", "many"] m__law_draw :=
  vf_mk (io := [true, false]) (N := n__law_draw) T.F__law_draw sc__law_draw rfl fun cdv A outer s H vs E hr => by
  have tk : Takes (cxOf (L2.CX P w) P w K mg base n__law_draw "_law_draw" (defScope s__law_draw) T.a__law_draw cdv A outer s H E) (fun cls d _ H => E cls d H) := takes_of rfl rfl rfl rfl
  have pOwn : PassesOwn (model P w) (A.deeper (envOfC "_law_draw" (defScope s__law_draw) s.heap.objs.size T.a__law_draw cdv)) (envOfC "_law_draw" (defScope s__law_draw) s.heap.objs.size T.a__law_draw cdv) (cxOf (L2.CX P w) P w K mg base n__law_draw "_law_draw" (defScope s__law_draw) T.a__law_draw cdv A outer s H E).xe := passes_of rfl
  exact (vss_cons (vs_if (vw_pt (vw_and (vt_cmp (op_eq.or (op_eqD hr.units)) prim_eq (vb_ix ix_seq prim_ix (vb_name 0 rfl (.inl rfl)) vb_int (fun _ _ => rfl)) vb_int (nomark _)) (vw_and1 (vt_cmp op_lt prim_cmp (vb_ix ix_seq prim_ix (vb_name 0 rfl (.inl rfl)) vb_int (fun _ _ => rfl)) (vb_fn call_lenA prim_len (by rfl) T.z_len PySem.boot_len (vbs_cons (vb_ix ix_seq prim_ix (vb_name 0 rfl (.inl rfl)) vb_int (fun _ _ => rfl)) vbs_nil)) (nomark _)))))
      (vss_cons (vs_set (i := 2) sc__law_draw.nd rfl (.inl rfl) (.inl rfl) (fx_ne (by decide)) (vv_fn call_abs prim_abs (by rfl) T.z_abs PyProof.Rows.boot_abs (vbs_cons (vb_ty call_int1 prim_int (by rfl) T.z_int PyProof.Rows.boot_int (vbs_cons (vb_ix ix_seq prim_ix (vb_ix ix_seq prim_ix (vb_name 0 rfl (.inl rfl)) vb_int (fun _ _ => rfl)) (vb_ix ix_seq prim_ix (vb_name 0 rfl (.inl rfl)) vb_int (fun _ _ => rfl)) (fun _ _ => rfl)) vbs_nil)) vbs_nil)))
    (vss_cons (vs_augitem (i := 0) rfl (.inl rfl) vb_int vb_int iop_addA prim_iadd)
    (vss_one (vs_if (vt_cmp op_ge prim_cmp (vb_name 2 rfl (.inl rfl)) (vb_bin op_pow prim_pow vb_int vb_int) (nomark _))
      (vss_one (vs_setitem (i := 0) rfl (.inl rfl) (ve_b vb_int) (ve_b (vb_name 2 rfl (.inl rfl)))))
      (vss_one (vs_setitem (i := 0) rfl (.inl rfl) (ve_b vb_int) (vv_bin op_modN prim_mod (vb_ty call_int1 prim_int (by rfl) T.z_int PyProof.Rows.boot_int (vbs_cons (vb_bin op_addA prim_add (vb_bin op_addA prim_add (vb_bin op_mulA prim_mulA (vb_ix ix_seq prim_ix (vb_name 0 rfl (.inl rfl)) vb_int (fun _ _ => rfl)) vb_int) (vb_bin op_mulA prim_mulA (vb_name 2 rfl (.inl rfl)) vb_int)) (vb_ix ix_seq prim_ix (vb_name 0 rfl (.inl rfl)) vb_int (fun _ _ => rfl))) vbs_nil)) vb_int)))))))
      vss_nil)
    (vss_cons (vs_if (vt_cmp op_gt prim_cmp (vb_ix ix_seq prim_ix (vb_name 0 rfl (.inl rfl)) vb_int (fun _ _ => rfl)) vb_int (nomark _))
      (vss_cons (vs_set (i := 3) sc__law_draw.nd rfl (.inl rfl) (.inl rfl) (fx_ne (by decide)) (vv_bin op_modN prim_mod (vb_ty call_int1 prim_int (by rfl) T.z_int PyProof.Rows.boot_int (vbs_cons (vb_ix ix_seq prim_ix (vb_name 0 rfl (.inl rfl)) vb_int (fun _ _ => rfl)) vbs_nil)) (vb_name 1 rfl (.inl rfl))))
    (vss_cons (vs_setitem (i := 0) rfl (.inl rfl) (ve_b vb_int) (vv_bin op_fdivN prim_fdiv (vb_ix ix_seq prim_ix (vb_name 0 rfl (.inl rfl)) vb_int (fun _ _ => rfl)) (vb_name 1 rfl (.inl rfl))))
    (vss_one (vs_ret (ve_move 3 rfl (.inl rfl))))))
      vss_nil)
    (vss_cons (vs_setitem (i := 0) rfl (.inl rfl) (ve_b vb_int) (vv_bin op_modN prim_mod (vb_ty call_int1 prim_int (by rfl) T.z_int PyProof.Rows.boot_int (vbs_cons (vb_bin op_addA prim_add (vb_bin op_mulA prim_mulA (vb_ix ix_seq prim_ix (vb_name 0 rfl (.inl rfl)) vb_int (fun _ _ => rfl)) vb_int) vb_int) vbs_nil)) vb_int))
    (vss_cons (vs_set (i := 4) sc__law_draw.nd rfl (.inl rfl) (.inl rfl) (fx_ne (by decide)) (vv_bin op_modN prim_mod (vb_ty call_int1 prim_int (by rfl) T.z_int PyProof.Rows.boot_int (vbs_cons (vb_bin op_addA prim_add (vb_bin op_mulA prim_mulA (vb_ix ix_seq prim_ix (vb_name 0 rfl (.inl rfl)) vb_int (fun _ _ => rfl)) (vb_ix ix_seq prim_ix (vb_name 0 rfl (.inl rfl)) vb_int (fun _ _ => rfl))) (vb_ix ix_seq prim_ix (vb_name 0 rfl (.inl rfl)) vb_int (fun _ _ => rfl))) vbs_nil)) vb_int))
    (vss_one (vs_ret (vv_bin op_modN prim_mod (vb_bin op_fdivN prim_fdiv (vb_name 4 rfl (.inl rfl)) vb_int) (vb_name 1 rfl (.inl rfl)))))))))

theorem G__law_like (T : Tx K mg) : ∀ n, VF P w K mg base n T.a__law_like T.d__law_like ["told", "due"] (m__law_like n)
  | 0 => vf_none
  | n + 1 => by
    have ih := G__law_like T n
    exact vf_mk (io := [false, false]) (N := n__law_like) T.F__law_like sc__law_like rfl fun cdv A outer s H vs E hr => by
      have tk : Takes (cxOf (L2.CX P w) P w K mg base n__law_like "_law_like" (defScope s__law_like) T.a__law_like cdv A outer s H E) (fun cls d _ H => E cls d H) := takes_of rfl rfl rfl rfl
      have pOwn : PassesOwn (model P w) (A.deeper (envOfC "_law_like" (defScope s__law_like) s.heap.objs.size T.a__law_like cdv)) (envOfC "_law_like" (defScope s__law_like) s.heap.objs.size T.a__law_like cdv) (cxOf (L2.CX P w) P w K mg base n__law_like "_law_like" (defScope s__law_like) T.a__law_like cdv A outer s H E).xe := passes_of rfl
      exact (vss_cons (vs_if (vt_truth (vb_fn call_isiA prim_isi (by rfl) T.z_isinstance PyProof.Rows.boot_isinstance (vbs_cons (vb_name 1 rfl (.inl rfl)) (vbs_cons (vb_tup (vbs_cons (vb_tyN (by rfl) T.z_list PyProof.Rows.boot_list) (vbs_cons (vb_tyN (by rfl) T.z_tuple PyProof.Rows.boot_tuple) vbs_nil))) vbs_nil))))
      (vss_cons (vs_if (vw_pt (vw_or (vt_cmp (op_ne.or (op_neD hr.units)) prim_ne (vb_fn call_isiA prim_isi (by rfl) T.z_isinstance PyProof.Rows.boot_isinstance (vbs_cons (vb_name 1 rfl (.inl rfl)) (vbs_cons (vb_tyN (by rfl) T.z_list PyProof.Rows.boot_list) vbs_nil))) (vb_fn call_isiA prim_isi (by rfl) T.z_isinstance PyProof.Rows.boot_isinstance (vbs_cons (vb_name 0 rfl (.inl rfl)) (vbs_cons (vb_tyN (by rfl) T.z_list PyProof.Rows.boot_list) vbs_nil))) (nomark _)) (vw_or1 (vt_cmp (op_ne.or (op_neD hr.units)) prim_ne (vb_fn call_isiA prim_isi (by rfl) T.z_isinstance PyProof.Rows.boot_isinstance (vbs_cons (vb_name 1 rfl (.inl rfl)) (vbs_cons (vb_tyN (by rfl) T.z_tuple PyProof.Rows.boot_tuple) vbs_nil))) (vb_fn call_isiA prim_isi (by rfl) T.z_isinstance PyProof.Rows.boot_isinstance (vbs_cons (vb_name 0 rfl (.inl rfl)) (vbs_cons (vb_tyN (by rfl) T.z_tuple PyProof.Rows.boot_tuple) vbs_nil))) (nomark _)))))
      (vss_one (vs_ret (ve_b vb_bl)))
      vss_nil)
    (vss_cons (vs_if (vt_cmp (op_ne.or (op_neD hr.units)) prim_ne (vb_fn call_lenA prim_len (by rfl) T.z_len PySem.boot_len (vbs_cons (vb_name 0 rfl (.inl rfl)) vbs_nil)) (vb_fn call_lenA prim_len (by rfl) T.z_len PySem.boot_len (vbs_cons (vb_name 1 rfl (.inl rfl)) vbs_nil)) (nomark _))
      (vss_one (vs_ret (ve_b vb_bl)))
      vss_nil)
    (vss_cons (vs_for (b := (bo__law_like_1 (m__law_like n))) pOwn rfl (vi_range1 (by rfl) T.z_range (ves_cons (vv_fn call_lenA prim_len (by rfl) T.z_len PySem.boot_len (vbs_cons (vb_name 1 rfl (.inl rfl)) vbs_nil)) ves_nil)) (vg_name (i := 2) sc__law_like.nd rfl (.inl rfl) (.inl rfl) (fx_ne (by decide)))
      (vss_one (vs_if (vt_not (vt_v (ve_b (vb_callA (ps := ["told", "due"]) ih (hr.mono (Nat.le_refl _)) (by rfl) T.g__law_like T.F__law_like.kp T.b__law_like tk (vbs_cons (vb_ix ix_seq prim_ix (vb_name 0 rfl (.inl rfl)) (vb_name 2 rfl (.inl rfl)) (fun _ _ => rfl)) (vbs_cons (vb_ix ix_seq prim_ix (vb_name 1 rfl (.inl rfl)) (vb_name 2 rfl (.inl rfl)) (fun _ _ => rfl)) vbs_nil))))))
      (vss_one (vs_ret (ve_b vb_bl)))
      vss_nil)))
    (vss_one (vs_ret (ve_b vb_bl))))))
      vss_nil)
    (vss_cons (vs_if (vt_cmp op_isA prim_is (vb_name 1 rfl (.inl rfl)) vb_non (nomark _))
      (vss_one (vs_ret (ve_b (vb_cmp op_isA prim_is (vb_name 0 rfl (.inl rfl)) vb_non (nomark _)))))
      vss_nil)
    (vss_cons (vs_if (vt_truth (vb_fn call_isiA prim_isi (by rfl) T.z_isinstance PyProof.Rows.boot_isinstance (vbs_cons (vb_name 1 rfl (.inl rfl)) (vbs_cons (vb_tyN (by rfl) T.z_bool PyProof.Rows.boot_bool) vbs_nil))))
      (vss_one (vs_ret (ve_and (vv_fn call_isiA prim_isi (by rfl) T.z_isinstance PyProof.Rows.boot_isinstance (vbs_cons (vb_name 0 rfl (.inl rfl)) (vbs_cons (vb_tyN (by rfl) T.z_bool PyProof.Rows.boot_bool) vbs_nil))) (ve_one (ve_b (vb_cmp (op_eq.or (op_eqD hr.units)) prim_eq (vb_name 0 rfl (.inl rfl)) (vb_name 1 rfl (.inl rfl)) (nomark _)))))))
      vss_nil)
    (vss_cons (vs_if (vt_truth (vb_fn call_isiA prim_isi (by rfl) T.z_isinstance PyProof.Rows.boot_isinstance (vbs_cons (vb_name 1 rfl (.inl rfl)) (vbs_cons (vb_tyN (by rfl) T.z_int PyProof.Rows.boot_int) vbs_nil))))
      (vss_one (vs_ret (ve_and (vv_fn call_isiA prim_isi (by rfl) T.z_isinstance PyProof.Rows.boot_isinstance (vbs_cons (vb_name 0 rfl (.inl rfl)) (vbs_cons (vb_tyN (by rfl) T.z_int PyProof.Rows.boot_int) vbs_nil))) (ve_and (ve_not (vv_fn call_isiA prim_isi (by rfl) T.z_isinstance PyProof.Rows.boot_isinstance (vbs_cons (vb_name 0 rfl (.inl rfl)) (vbs_cons (vb_tyN (by rfl) T.z_bool PyProof.Rows.boot_bool) vbs_nil)))) (ve_one (ve_b (vb_cmp (op_eq.or (op_eqD hr.units)) prim_eq (vb_name 0 rfl (.inl rfl)) (vb_name 1 rfl (.inl rfl)) (nomark _))))))))
      vss_nil)
    (vss_one (vs_ret (ve_and (vv_fn call_isiA prim_isi (by rfl) T.z_isinstance PyProof.Rows.boot_isinstance (vbs_cons (vb_name 0 rfl (.inl rfl)) (vbs_cons (vb_tyN (by rfl) T.z_str PyProof.Rows.boot_str) vbs_nil))) (ve_one (ve_b (vb_cmp (op_eq.or (op_eqD hr.units)) prim_eq (vb_name 0 rfl (.inl rfl)) (vb_name 1 rfl (.inl rfl)) (nomark _)))))))))))

theorem G__law_is_whole (T : Tx K mg) : VF P w K mg base 1 T.a__law_is_whole T.d__law_is_whole ["x"] m__law_is_whole :=
  vf_mk (io := [false]) (N := n__law_is_whole) T.F__law_is_whole sc__law_is_whole rfl fun cdv A outer s H vs E hr => by
  have tk : Takes (cxOf (L2.CX P w) P w K mg base n__law_is_whole "_law_is_whole" (defScope s__law_is_whole) T.a__law_is_whole cdv A outer s H E) (fun cls d _ H => E cls d H) := takes_of rfl rfl rfl rfl
  have pOwn : PassesOwn (model P w) (A.deeper (envOfC "_law_is_whole" (defScope s__law_is_whole) s.heap.objs.size T.a__law_is_whole cdv)) (envOfC "_law_is_whole" (defScope s__law_is_whole) s.heap.objs.size T.a__law_is_whole cdv) (cxOf (L2.CX P w) P w K mg base n__law_is_whole "_law_is_whole" (defScope s__law_is_whole) T.a__law_is_whole cdv A outer s H E).xe := passes_of rfl
  exact (vss_one (vs_ret (ve_and (vv_fn call_isiA prim_isi (by rfl) T.z_isinstance PyProof.Rows.boot_isinstance (vbs_cons (vb_name 0 rfl (.inl rfl)) (vbs_cons (vb_tyN (by rfl) T.z_int PyProof.Rows.boot_int) vbs_nil))) (ve_one (ve_not (vv_fn call_isiA prim_isi (by rfl) T.z_isinstance PyProof.Rows.boot_isinstance (vbs_cons (vb_name 0 rfl (.inl rfl)) (vbs_cons (vb_tyN (by rfl) T.z_bool PyProof.Rows.boot_bool) vbs_nil))))))))

theorem G__law_word (T : Tx K mg) : VF P w K mg base 2 T.a__law_word T.d__law_word ["feed", "letters", "longest"] m__law_word :=
  vf_mk (io := [true, false, false]) (N := n__law_word) T.F__law_word sc__law_word rfl fun cdv A outer s H vs E hr => by
  have tk : Takes (cxOf (L2.CX P w) P w K mg base n__law_word "_law_word" (defScope s__law_word) T.a__law_word cdv A outer s H E) (fun cls d _ H => E cls d H) := takes_of rfl rfl rfl rfl
  have pOwn : PassesOwn (model P w) (A.deeper (envOfC "_law_word" (defScope s__law_word) s.heap.objs.size T.a__law_word cdv)) (envOfC "_law_word" (defScope s__law_word) s.heap.objs.size T.a__law_word cdv) (cxOf (L2.CX P w) P w K mg base n__law_word "_law_word" (defScope s__law_word) T.a__law_word cdv A outer s H E).xe := passes_of rfl
  exact (vss_cons (vs_set (i := 3) sc__law_word.nd rfl (.inl rfl) (.inl rfl) (fx_ne (by decide)) (ve_bin op_addA prim_add (ve_b vb_int) (ve_call (G__law_draw T) (hr.mono (by decide)) (by rfl) T.g__law_draw T.F__law_draw.kp T.b__law_draw tk (vks_cons (vo_mv 0 rfl (.inr (.inl rfl))) (vks_cons (vo_val (ve_b (vb_name 2 rfl (.inl rfl)))) vks_nil)))))
    (vss_one (vs_ret (ve_m PySem.F.plainAttrs_str PySem.F.slot_str_join PySem.F.type_str_join mt_join prim_join vb_str (ves_cons (ve_lc (own := [("k", 4)]) (test := yesT) (fe := el__law_word_1) rfl sc__law_word.nd (vi_range1 (by rfl) T.z_range (ves_cons (ve_b (vb_name 3 rfl (.inl rfl))) ves_nil)) (blkOk_by (N := n__law_word) (sc := defScope s__law_word) (own := [("k", 4)]) (by decide +kernel)) (by decide) (by decide) (fun q hq => of_fxOf (by decide) q hq) (fun _ _ _ _ _ => (vg_name (i := 4) sc__law_word.nd rfl (lLocal (by decide +kernel)) (fLocal (by decide +kernel)) (fx_ne (by decide)))) (fun _ _ _ _ _ => vts_nil) (fun _ _ _ _ _ => (ve_ixN (i := 1) rfl (vFree (by decide +kernel)) (ve_call (G__law_draw T) (hr.mono (by decide)) (by rfl) T.g__law_draw T.F__law_draw.kp T.b__law_draw takes0 (vks_cons (vo_mv 0 rfl (vFree (by decide +kernel))) (vks_cons (vo_val (vv_fn call_lenA prim_len (by rfl) T.z_len PySem.boot_len (vbs_cons (vb_name 1 rfl (vFree (by decide +kernel))) vbs_nil))) vks_nil))) (fun _ _ => rfl)))) ves_nil)))))

theorem G__law_code (T : Tx K mg) : VF P w K mg base 3 T.a__law_code T.d__law_code ["feed", "letters", "most", "longest"] m__law_code :=
  vf_mk (io := [true, false, false, false]) (N := n__law_code) T.F__law_code sc__law_code rfl fun cdv A outer s H vs E hr => by
  have tk : Takes (cxOf (L2.CX P w) P w K mg base n__law_code "_law_code" (defScope s__law_code) T.a__law_code cdv A outer s H E) (fun cls d _ H => E cls d H) := takes_of rfl rfl rfl rfl
  have pOwn : PassesOwn (model P w) (A.deeper (envOfC "_law_code" (defScope s__law_code) s.heap.objs.size T.a__law_code cdv)) (envOfC "_law_code" (defScope s__law_code) s.heap.objs.size T.a__law_code cdv) (cxOf (L2.CX P w) P w K mg base n__law_code "_law_code" (defScope s__law_code) T.a__law_code cdv A outer s H E).xe := passes_of rfl
  exact (vss_cons (vs_set (i := 4) sc__law_code.nd rfl (.inl rfl) (.inl rfl) (fx_ne (by decide)) (ve_lst ves_nil))
    (vss_cons (vs_for (b := bo__law_code_1) pOwn rfl (vi_range1 (by rfl) T.z_range (ves_cons (ve_bin op_addA prim_add (ve_b vb_int) (ve_call (G__law_draw T) (hr.mono (by decide)) (by rfl) T.g__law_draw T.F__law_draw.kp T.b__law_draw tk (vks_cons (vo_mv 0 rfl (.inl rfl)) (vks_cons (vo_val (ve_b (vb_name 2 rfl (.inl rfl)))) vks_nil)))) ves_nil)) (vg_name (i := 5) sc__law_code.nd rfl (.inl rfl) (.inl rfl) (fx_ne (by decide)))
      (vss_cons (vs_set (i := 6) sc__law_code.nd rfl (.inl rfl) (.inl rfl) (fx_ne (by decide)) (ve_call (G__law_word T) (hr.mono (by decide)) (by rfl) T.g__law_word T.F__law_word.kp T.b__law_word tk (vks_cons (vo_mv 0 rfl (.inl rfl)) (vks_cons (vo_val (ve_b (vb_name 1 rfl (.inl rfl)))) (vks_cons (vo_val (ve_b (vb_name 3 rfl (.inl rfl)))) vks_nil)))))
    (vss_one (vs_if (vt_cmp (op_notInA (hu65 hr)) prim_notIn (vb_name 6 rfl (.inl rfl)) (vb_name 4 rfl (.inl rfl)) (by rfl))
      (vss_one (vs_append (i := 4) rfl (.inl rfl) (ve_b (vb_name 6 rfl (.inl rfl)))))
      vss_nil))))
    (vss_one (vs_ret (ve_move 4 rfl (.inl rfl))))))

theorem G__law_tails (T : Tx K mg) : VF P w K mg base 1 T.a__law_tails T.d__law_tails ["code"] m__law_tails :=
  vf_mk (io := [false]) (N := n__law_tails) T.F__law_tails sc__law_tails rfl fun cdv A outer s H vs E hr => by
  have tk : Takes (cxOf (L2.CX P w) P w K mg base n__law_tails "_law_tails" (defScope s__law_tails) T.a__law_tails cdv A outer s H E) (fun cls d _ H => E cls d H) := takes_of rfl rfl rfl rfl
  have pOwn : PassesOwn (model P w) (A.deeper (envOfC "_law_tails" (defScope s__law_tails) s.heap.objs.size T.a__law_tails cdv)) (envOfC "_law_tails" (defScope s__law_tails) s.heap.objs.size T.a__law_tails cdv) (cxOf (L2.CX P w) P w K mg base n__law_tails "_law_tails" (defScope s__law_tails) T.a__law_tails cdv A outer s H E).xe := passes_of rfl
  exact (vss_cons (vs_set (i := 1) sc__law_tails.nd rfl (.inl rfl) (.inl rfl) (fx_ne (by decide)) (ve_lst ves_nil))
    (vss_cons (vs_for (b := bo__law_tails_2) pOwn rfl (vi_seq (ve_b (vb_name 0 rfl (.inl rfl)))) (vg_name (i := 2) sc__law_tails.nd rfl (.inl rfl) (.inl rfl) (fx_ne (by decide)))
      (vss_one (vs_for (b := bo__law_tails_1) pOwn rfl (vi_seq (ve_b (vb_name 0 rfl (.inl rfl)))) (vg_name (i := 3) sc__law_tails.nd rfl (.inl rfl) (.inl rfl) (fx_ne (by decide)))
      (vss_one (vs_if (vw_pt (vw_and (vt_cmp (op_eq.or (op_eqD hr.units)) prim_eq (vb_slice (vb_name 3 rfl (.inl rfl)) vo_none (vo_some (vb_fn call_lenA prim_len (by rfl) T.z_len PySem.boot_len (vbs_cons (vb_name 2 rfl (.inl rfl)) vbs_nil)))) (vb_name 2 rfl (.inl rfl)) (nomark _)) (vw_and (vt_cmp (op_ne.or (op_neD hr.units)) prim_ne (vb_name 3 rfl (.inl rfl)) (vb_name 2 rfl (.inl rfl)) (nomark _)) (vw_and1 (vt_cmp (op_notInA (hu65 hr)) prim_notIn (vb_slice (vb_name 3 rfl (.inl rfl)) (vo_some (vb_fn call_lenA prim_len (by rfl) T.z_len PySem.boot_len (vbs_cons (vb_name 2 rfl (.inl rfl)) vbs_nil))) vo_none) (vb_name 1 rfl (.inl rfl)) (by rfl))))))
      (vss_one (vs_append (i := 1) rfl (.inl rfl) (vv_slice (vb_name 3 rfl (.inl rfl)) (vo_some (vb_fn call_lenA prim_len (by rfl) T.z_len PySem.boot_len (vbs_cons (vb_name 2 rfl (.inl rfl)) vbs_nil))) vo_none)))
      vss_nil)))))
    (vss_cons (vs_for (b := bo__law_tails_4) pOwn rfl (vi_range1 (by rfl) T.z_range (ves_cons (vv_fn call_lenA prim_len (by rfl) T.z_len PySem.boot_len (vbs_cons (vb_m PySem.F.plainAttrs_str PySem.F.slot_str_join PySem.F.type_str_join mt_join prim_join vb_str (vbs_cons (vb_name 0 rfl (.inl rfl)) vbs_nil)) vbs_nil)) ves_nil)) (vg_name (i := 4) sc__law_tails.nd rfl (.inl rfl) (.inl rfl) (fx_ne (by decide)))
      (vss_cons (vs_if (vt_cmp op_ge prim_cmp (vb_name 4 rfl (.inl rfl)) (vb_fn call_lenA prim_len (by rfl) T.z_len PySem.boot_len (vbs_cons (vb_name 1 rfl (.inl rfl)) vbs_nil)) (nomark _))
      (vss_one vs_break)
      vss_nil)
    (vss_cons (vs_set (i := 5) sc__law_tails.nd rfl (.inl rfl) (.inl rfl) (fx_ne (by decide)) (ve_b (vb_ix ix_seq prim_ix (vb_name 1 rfl (.inl rfl)) (vb_name 4 rfl (.inl rfl)) (fun _ _ => rfl))))
    (vss_one (vs_for (b := bo__law_tails_3) pOwn rfl (vi_seq (ve_b (vb_name 0 rfl (.inl rfl)))) (vg_name (i := 6) sc__law_tails.nd rfl (.inl rfl) (.inl rfl) (fx_ne (by decide)))
      (vss_cons (vs_set (i := 7) sc__law_tails.nd rfl (.inl rfl) (.inl rfl) (fx_ne (by decide)) (ve_b vb_str))
    (vss_cons (vs_if (vt_cmp (op_eq.or (op_eqD hr.units)) prim_eq (vb_slice (vb_name 6 rfl (.inl rfl)) vo_none (vo_some (vb_fn call_lenA prim_len (by rfl) T.z_len PySem.boot_len (vbs_cons (vb_name 5 rfl (.inl rfl)) vbs_nil)))) (vb_name 5 rfl (.inl rfl)) (nomark _))
      (vss_one (vs_set (i := 7) sc__law_tails.nd rfl (.inl rfl) (.inl rfl) (fx_ne (by decide)) (vv_slice (vb_name 6 rfl (.inl rfl)) (vo_some (vb_fn call_lenA prim_len (by rfl) T.z_len PySem.boot_len (vbs_cons (vb_name 5 rfl (.inl rfl)) vbs_nil))) vo_none)))
      vss_nil)
    (vss_cons (vs_if (vw_pt (vw_and (vt_cmp (op_eq.or (op_eqD hr.units)) prim_eq (vb_slice (vb_name 5 rfl (.inl rfl)) vo_none (vo_some (vb_fn call_lenA prim_len (by rfl) T.z_len PySem.boot_len (vbs_cons (vb_name 6 rfl (.inl rfl)) vbs_nil)))) (vb_name 6 rfl (.inl rfl)) (nomark _)) (vw_and1 (vt_cmp (op_ne.or (op_neD hr.units)) prim_ne (vb_name 6 rfl (.inl rfl)) (vb_name 5 rfl (.inl rfl)) (nomark _)))))
      (vss_one (vs_set (i := 7) sc__law_tails.nd rfl (.inl rfl) (.inl rfl) (fx_ne (by decide)) (vv_slice (vb_name 5 rfl (.inl rfl)) (vo_some (vb_fn call_lenA prim_len (by rfl) T.z_len PySem.boot_len (vbs_cons (vb_name 6 rfl (.inl rfl)) vbs_nil))) vo_none)))
      vss_nil)
    (vss_one (vs_if (vw_pt (vw_and (vt_cmp (op_ne.or (op_neD hr.units)) prim_ne (vb_name 7 rfl (.inl rfl)) vb_str (nomark _)) (vw_and1 (vt_cmp (op_notInA (hu65 hr)) prim_notIn (vb_name 7 rfl (.inl rfl)) (vb_name 1 rfl (.inl rfl)) (by rfl)))))
      (vss_one (vs_frz 7 (vs_append (i := 1) rfl (.inl rfl) (ve_b (vb_name 7 rfl (.inl rfl))))))
      vss_nil))))))))))
    (vss_one (vs_ret (vv_fn call_sortedA prim_sorted (by rfl) T.z_sorted PyProof.Rows.boot_sorted (vbs_cons (vb_name 1 rfl (.inl rfl)) vbs_nil)))))))

theorem G__law_meets (T : Tx K mg) : VF P w K mg base 1 T.a__law_meets T.d__law_meets ["code"] m__law_meets :=
  vf_mk (io := [false]) (N := n__law_meets) T.F__law_meets sc__law_meets rfl fun cdv A outer s H vs E hr => by
  have tk : Takes (cxOf (L2.CX P w) P w K mg base n__law_meets "_law_meets" (defScope s__law_meets) T.a__law_meets cdv A outer s H E) (fun cls d _ H => E cls d H) := takes_of rfl rfl rfl rfl
  have pOwn : PassesOwn (model P w) (A.deeper (envOfC "_law_meets" (defScope s__law_meets) s.heap.objs.size T.a__law_meets cdv)) (envOfC "_law_meets" (defScope s__law_meets) s.heap.objs.size T.a__law_meets cdv) (cxOf (L2.CX P w) P w K mg base n__law_meets "_law_meets" (defScope s__law_meets) T.a__law_meets cdv A outer s H E).xe := passes_of rfl
  exact (vss_cons (vs_set (i := 1) sc__law_meets.nd rfl (.inl rfl) (.inl rfl) (fx_ne (by decide)) (ve_lst ves_nil))
    (vss_cons (vs_set (i := 2) sc__law_meets.nd rfl (.inl rfl) (.inl rfl) (fx_ne (by decide)) (ve_lst (ves_cons (ve_b vb_str) ves_nil)))
    (vss_cons (vs_for (b := bo__law_meets_3) pOwn rfl (vi_range1 (by rfl) T.z_range (ves_cons (ve_b vb_int) ves_nil)) (vg_name (i := 3) sc__law_meets.nd rfl (.inl rfl) (.inl rfl) (fx_ne (by decide)))
      (vss_cons (vs_set (i := 4) sc__law_meets.nd rfl (.inl rfl) (.inl rfl) (fx_ne (by decide)) (ve_lst ves_nil))
    (vss_cons (vs_for (b := bo__law_meets_2) pOwn rfl (vi_seq (ve_b (vb_name 0 rfl (.inl rfl)))) (vg_name (i := 5) sc__law_meets.nd rfl (.inr rfl) (.inl rfl) (fx_ne (by decide)))
      (vss_one (vs_frz 2 (vs_frz 4 (vs_set (i := 4) sc__law_meets.nd rfl (.inl rfl) (.inl rfl) (fx_ne (by decide)) (ve_bin op_addA prim_add (ve_b (vb_name 4 rfl (.inl rfl))) (ve_lc (own := [("row", 7)]) (test := yesT) (fe := el__law_meets_1) rfl sc__law_meets.nd (vi_seq (ve_b (vb_name 2 rfl (.inl rfl)))) (blkOk_by (N := n__law_meets) (sc := defScope s__law_meets) (own := [("row", 7)]) (by decide +kernel)) (by decide) (by decide) (fun q hq => of_fxOf (by decide) q hq) (fun _ _ _ _ _ => (vg_name (i := 7) sc__law_meets.nd rfl (lLocal (by decide +kernel)) (fLocal (by decide +kernel)) (fx_ne (by decide)))) (fun _ _ _ _ _ => vts_nil) (fun _ _ _ _ _ => (vv_bin op_addA prim_add (vb_name 7 rfl (vLocal (by decide +kernel))) (vb_name 5 rfl (vFree (by decide +kernel))))))))))))
    (vss_cons (vs_frz 4 (vs_set (i := 2) sc__law_meets.nd rfl (.inl rfl) (.inl rfl) (fx_ne (by decide)) (ve_b (vb_name 4 rfl (.inl rfl)))))
    (vss_one (vs_set (i := 1) sc__law_meets.nd rfl (.inl rfl) (.inl rfl) (fx_ne (by decide)) (vv_bin op_addA prim_add (vb_name 1 rfl (.inl rfl)) (vb_name 2 rfl (.inl rfl)))))))))
    (vss_cons (vs_set (i := 6) sc__law_meets.nd rfl (.inr rfl) (.inl rfl) (fx_ne (by decide)) (vv_fn call_sortedA prim_sorted (by rfl) T.z_sorted PyProof.Rows.boot_sorted (vbs_cons (vb_name 1 rfl (.inl rfl)) vbs_nil)))
    (vss_one (vs_ret (ve_cmp op_gt prim_cmp (ve_fn call_lenA prim_len (by rfl) T.z_len PySem.boot_len (ves_cons (ve_lc (own := [("k", 8)]) (test := te__law_meets_4) (fe := el__law_meets_5) rfl sc__law_meets.nd (vi_range1 (by rfl) T.z_range (ves_cons (vv_bin op_sub prim_sub (vb_fn call_lenA prim_len (by rfl) T.z_len PySem.boot_len (vbs_cons (vb_name 6 rfl (.inr (.inl rfl))) vbs_nil)) vb_int) ves_nil)) (blkOk_by (N := n__law_meets) (sc := defScope s__law_meets) (own := [("k", 8)]) (by decide +kernel)) (by decide) (by decide) (fun q hq => of_fxOf (by decide) q hq) (fun _ _ _ _ _ => (vg_name (i := 8) sc__law_meets.nd rfl (lLocal (by decide +kernel)) (fLocal (by decide +kernel)) (fx_ne (by decide)))) (fun _ _ _ _ _ => (vts_one (vt_cmp (op_eq.or (op_eqD hr.units)) prim_eq (vb_ix ix_seq prim_ix (vb_name 6 rfl (vFree (by decide +kernel))) (vb_name 8 rfl (vLocal (by decide +kernel))) (fun _ _ => rfl)) (vb_ix ix_seq prim_ix (vb_name 6 rfl (vFree (by decide +kernel))) (vb_bin op_addA prim_add (vb_name 8 rfl (vLocal (by decide +kernel))) vb_int) (fun _ _ => rfl)) (nomark _)))) (fun _ _ _ _ _ => (ve_b (vb_name 8 rfl (vLocal (by decide +kernel)))))) ves_nil)) (ve_b vb_int) (nomark _))))))))

theorem G__law_is_message (T : Tx K mg) : VF P w K mg base 2 T.a__law_is_message T.d__law_is_message ["code", "value"] m__law_is_message :=
  vf_mk (io := [false, false]) (N := n__law_is_message) T.F__law_is_message sc__law_is_message rfl fun cdv A outer s H vs E hr => by
  have tk : Takes (cxOf (L2.CX P w) P w K mg base n__law_is_message "_law_is_message" (defScope s__law_is_message) T.a__law_is_message cdv A outer s H E) (fun cls d _ H => E cls d H) := takes_of rfl rfl rfl rfl
  have pOwn : PassesOwn (model P w) (A.deeper (envOfC "_law_is_message" (defScope s__law_is_message) s.heap.objs.size T.a__law_is_message cdv)) (envOfC "_law_is_message" (defScope s__law_is_message) s.heap.objs.size T.a__law_is_message cdv) (cxOf (L2.CX P w) P w K mg base n__law_is_message "_law_is_message" (defScope s__law_is_message) T.a__law_is_message cdv A outer s H E).xe := passes_of rfl
  exact (vss_cons (vs_if (vw_pt (vw_or (vt_not (vt_truth (vb_fn call_isiA prim_isi (by rfl) T.z_isinstance PyProof.Rows.boot_isinstance (vbs_cons (vb_name 1 rfl (.inl rfl)) (vbs_cons (vb_tyN (by rfl) T.z_list PyProof.Rows.boot_list) vbs_nil))))) (vw_or1 (vt_cmp op_gt prim_cmp (vb_fn call_lenA prim_len (by rfl) T.z_len PySem.boot_len (vbs_cons (vb_name 1 rfl (.inl rfl)) vbs_nil)) vb_int (nomark _)))))
      (vss_one (vs_ret (ve_b vb_bl)))
      vss_nil)
    (vss_one (vs_ret (ve_cmp (op_eq.or (op_eqD hr.units)) prim_eq (ve_fn call_lenA prim_len (by rfl) T.z_len PySem.boot_len (ves_cons (ve_lc (own := [("x", 2)]) (test := te__law_is_message_1) (fe := el__law_is_message_2) rfl sc__law_is_message.nd (vi_seq (ve_b (vb_name 1 rfl (.inl rfl)))) (blkOk_by (N := n__law_is_message) (sc := defScope s__law_is_message) (own := [("x", 2)]) (by decide +kernel)) (by decide) (by decide) (fun q hq => of_fxOf (by decide) q hq) (fun _ _ _ _ _ => (vg_name (i := 2) sc__law_is_message.nd rfl (lLocal (by decide +kernel)) (fLocal (by decide +kernel)) (fx_ne (by decide)))) (fun _ _ _ _ _ => (vts_one (vw_pt (vw_and (vt_v (ve_b (vb_callA (ps := ["x"]) (G__law_is_whole T) (hr.mono (by decide)) (by rfl) T.g__law_is_whole T.F__law_is_whole.kp T.b__law_is_whole takes0 (vbs_cons (vb_name 2 rfl (vLocal (by decide +kernel))) vbs_nil)))) (vw_and1 (vt_chain op_le prim_cmp op_lt prim_cmp vb_int (vb_name 2 rfl (vLocal (by decide +kernel))) (vb_fn call_lenA prim_len (by rfl) T.z_len PySem.boot_len (vbs_cons (vb_name 0 rfl (vFree (by decide +kernel))) vbs_nil)))))))) (fun _ _ _ _ _ => (ve_b (vb_name 2 rfl (vLocal (by decide +kernel)))))) ves_nil)) (vv_fn call_lenA prim_len (by rfl) T.z_len PySem.boot_len (vbs_cons (vb_name 1 rfl (.inl rfl)) vbs_nil)) (nomark _)))))

theorem G__law_is_double (T : Tx K mg) : VF P w K mg base 5 T.a__law_is_double T.d__law_is_double ["code", "told"] m__law_is_double :=
  vf_mk (io := [false, false]) (N := n__law_is_double) T.F__law_is_double sc__law_is_double rfl fun cdv A outer s H vs E hr => by
  have tk : Takes (cxOf (L2.CX P w) P w K mg base n__law_is_double "_law_is_double" (defScope s__law_is_double) T.a__law_is_double cdv A outer s H E) (fun cls d _ H => E cls d H) := takes_of rfl rfl rfl rfl
  have pOwn : PassesOwn (model P w) (A.deeper (envOfC "_law_is_double" (defScope s__law_is_double) s.heap.objs.size T.a__law_is_double cdv)) (envOfC "_law_is_double" (defScope s__law_is_double) s.heap.objs.size T.a__law_is_double cdv) (cxOf (L2.CX P w) P w K mg base n__law_is_double "_law_is_double" (defScope s__law_is_double) T.a__law_is_double cdv A outer s H E).xe := passes_of rfl
  exact (vss_cons (vs_if (vw_pt (vw_or (vt_not (vt_truth (vb_fn call_isiA prim_isi (by rfl) T.z_isinstance PyProof.Rows.boot_isinstance (vbs_cons (vb_name 1 rfl (.inl rfl)) (vbs_cons (vb_tyN (by rfl) T.z_tuple PyProof.Rows.boot_tuple) vbs_nil))))) (vw_or (vt_cmp (op_ne.or (op_neD hr.units)) prim_ne (vb_fn call_lenA prim_len (by rfl) T.z_len PySem.boot_len (vbs_cons (vb_name 1 rfl (.inl rfl)) vbs_nil)) vb_int (nomark _)) (vw_or1 (vt_not (vt_v (ve_b (vb_callA (ps := ["told", "due"]) (G__law_like T 4) (hr.mono (by decide)) (by rfl) T.g__law_like T.F__law_like.kp T.b__law_like tk (vbs_cons (vb_ix ix_seq prim_ix (vb_name 1 rfl (.inl rfl)) vb_int (fun _ _ => rfl)) (vbs_cons vb_str vbs_nil))))))))))
      (vss_one (vs_ret (ve_b vb_bl)))
      vss_nil)
    (vss_cons (vs_if (vw_pt (vw_or (vt_not (vt_v (ve_b (vb_callA (ps := ["code", "value"]) (G__law_is_message T) (hr.mono (by decide)) (by rfl) T.g__law_is_message T.F__law_is_message.kp T.b__law_is_message tk (vbs_cons (vb_name 0 rfl (.inr (.inl rfl))) (vbs_cons (vb_ix ix_seq prim_ix (vb_name 1 rfl (.inl rfl)) vb_int (fun _ _ => rfl)) vbs_nil)))))) (vw_or (vt_not (vt_v (ve_b (vb_callA (ps := ["code", "value"]) (G__law_is_message T) (hr.mono (by decide)) (by rfl) T.g__law_is_message T.F__law_is_message.kp T.b__law_is_message tk (vbs_cons (vb_name 0 rfl (.inr (.inl rfl))) (vbs_cons (vb_ix ix_seq prim_ix (vb_name 1 rfl (.inl rfl)) vb_int (fun _ _ => rfl)) vbs_nil)))))) (vw_or1 (vt_cmp (op_eq.or (op_eqD hr.units)) prim_eq (vb_ix ix_seq prim_ix (vb_name 1 rfl (.inl rfl)) vb_int (fun _ _ => rfl)) (vb_ix ix_seq prim_ix (vb_name 1 rfl (.inl rfl)) vb_int (fun _ _ => rfl)) (nomark _))))))
      (vss_one (vs_ret (ve_b vb_bl)))
      vss_nil)
    (vss_one (vs_ret (ve_cmp (op_eq.or (op_eqD hr.units)) prim_eq (ve_m PySem.F.plainAttrs_str PySem.F.slot_str_join PySem.F.type_str_join mt_join prim_join vb_str (ves_cons (ve_lc (own := [("k", 2)]) (test := yesT) (fe := el__law_is_double_1) rfl sc__law_is_double.nd (vi_seq (ve_b (vb_ix ix_seq prim_ix (vb_name 1 rfl (.inl rfl)) vb_int (fun _ _ => rfl)))) (blkOk_by (N := n__law_is_double) (sc := defScope s__law_is_double) (own := [("k", 2)]) (by decide +kernel)) (by decide) (by decide) (fun q hq => of_fxOf (by decide) q hq) (fun _ _ _ _ _ => (vg_name (i := 2) sc__law_is_double.nd rfl (lLocal (by decide +kernel)) (fLocal (by decide +kernel)) (fx_ne (by decide)))) (fun _ _ _ _ _ => vts_nil) (fun _ _ _ _ _ => (ve_b (vb_ix ix_seq prim_ix (vb_name 0 rfl (vFree (by decide +kernel))) (vb_name 2 rfl (vLocal (by decide +kernel))) (fun _ _ => rfl))))) ves_nil)) (ve_m PySem.F.plainAttrs_str PySem.F.slot_str_join PySem.F.type_str_join mt_join prim_join vb_str (ves_cons (ve_lc (own := [("k", 2)]) (test := yesT) (fe := el__law_is_double_2) rfl sc__law_is_double.nd (vi_seq (ve_b (vb_ix ix_seq prim_ix (vb_name 1 rfl (.inl rfl)) vb_int (fun _ _ => rfl)))) (blkOk_by (N := n__law_is_double) (sc := defScope s__law_is_double) (own := [("k", 2)]) (by decide +kernel)) (by decide) (by decide) (fun q hq => of_fxOf (by decide) q hq) (fun _ _ _ _ _ => (vg_name (i := 2) sc__law_is_double.nd rfl (lLocal (by decide +kernel)) (fLocal (by decide +kernel)) (fx_ne (by decide)))) (fun _ _ _ _ _ => vts_nil) (fun _ _ _ _ _ => (ve_b (vb_ix ix_seq prim_ix (vb_name 0 rfl (vFree (by decide +kernel))) (vb_name 2 rfl (vLocal (by decide +kernel))) (fun _ _ => rfl))))) ves_nil)) (nomark _))))))

theorem G__law_asks (T : Tx K mg) : VF P w K mg base 6 T.a__law_asks T.d__law_asks ["code"] m__law_asks :=
  vf_mk (io := [false]) (N := n__law_asks) T.F__law_asks sc__law_asks rfl fun cdv A outer s H vs E hr => by
  have tk : Takes (cxOf (L2.CX P w) P w K mg base n__law_asks "_law_asks" (defScope s__law_asks) T.a__law_asks cdv A outer s H E) (fun cls d _ H => E cls d H) := takes_of rfl rfl rfl rfl
  have pOwn : PassesOwn (model P w) (A.deeper (envOfC "_law_asks" (defScope s__law_asks) s.heap.objs.size T.a__law_asks cdv)) (envOfC "_law_asks" (defScope s__law_asks) s.heap.objs.size T.a__law_asks cdv) (cxOf (L2.CX P w) P w K mg base n__law_asks "_law_asks" (defScope s__law_asks) T.a__law_asks cdv A outer s H E).xe := passes_of rfl
  exact (vss_cons (vs_set (i := 1) sc__law_asks.nd rfl (.inl rfl) (.inl rfl) (fx_ne (by decide)) (ve_call (G__law_tails T) (hr.mono (by decide)) (by rfl) T.g__law_tails T.F__law_tails.kp T.b__law_tails tk (vks_cons (vo_val (ve_b (vb_name 0 rfl (.inr (.inl rfl))))) vks_nil)))
    (vss_cons (vs_frz 1 (vs_set (i := 2) sc__law_asks.nd rfl (.inl rfl) (.inl rfl) (fx_ne (by decide)) (ve_cmp op_gt prim_cmp (ve_fn call_lenA prim_len (by rfl) T.z_len PySem.boot_len (ves_cons (ve_lc (own := [("tail", 5)]) (test := te__law_asks_1) (fe := el__law_asks_2) rfl sc__law_asks.nd (vi_seq (ve_b (vb_name 1 rfl (.inl rfl)))) (blkOk_by (N := n__law_asks) (sc := defScope s__law_asks) (own := [("tail", 5)]) (by decide +kernel)) (by decide) (by decide) (fun q hq => of_fxOf (by decide) q hq) (fun _ _ _ _ _ => (vg_name (i := 5) sc__law_asks.nd rfl (lLocal (by decide +kernel)) (fLocal (by decide +kernel)) (fx_ne (by decide)))) (fun _ _ _ _ _ => (vts_one (vt_cmp (op_inA (hu65 hr)) prim_in (vb_name 5 rfl (vLocal (by decide +kernel))) (vb_name 0 rfl (vFree (by decide +kernel))) (by rfl)))) (fun _ _ _ _ _ => (ve_b (vb_name 5 rfl (vLocal (by decide +kernel)))))) ves_nil)) (ve_b vb_int) (nomark _))))
    (vss_cons (vs_set (i := 3) sc__law_asks.nd rfl (.inl rfl) (.inl rfl) (fx_ne (by decide)) (vv_ty call_list_of prim_list (by rfl) T.z_list PyProof.Rows.boot_list (vbs_cons (vb_name 0 rfl (.inr (.inl rfl))) vbs_nil)))
    (vss_cons (vs_frz 3 (vs_set (i := 4) sc__law_asks.nd rfl (.inl rfl) (.inl rfl) (fx_ne (by decide)) (ve_call (G_reading T) (hr.mono (by decide)) (by rfl) T.g_reading T.F_reading.kp T.b_reading tk (vks_cons (vo_val (ve_b (vb_name 3 rfl (.inl rfl)))) vks_nil))))
    (vss_cons (vs_if (vw_pt (vw_or (vt_cmp (op_ne.or (op_neD hr.units)) prim_ne (vb_name 3 rfl (.inl rfl)) (vb_name 0 rfl (.inr (.inl rfl))) (nomark _)) (vw_or1 (vw_pt (vw_and (vt_v (ve_b (vb_callA (ps := ["code"]) (G__law_meets T) (hr.mono (by decide)) (by rfl) T.g__law_meets T.F__law_meets.kp T.b__law_meets tk (vbs_cons (vb_slice (vb_name 0 rfl (.inr (.inl rfl))) vo_none (vo_some vb_int)) vbs_nil)))) (vw_and1 (vt_not (vt_truth (vb_name 2 rfl (.inl rfl))))))))))
      (vss_one (vs_ret (ve_b vb_bl)))
      vss_nil)
    (vss_cons (vs_if (vt_truth (vb_name 2 rfl (.inl rfl)))
      (vss_one (vs_ret (ve_b (vb_callA (ps := ["code", "told"]) (G__law_is_double T) (hr.mono (by decide)) (by rfl) T.g__law_is_double T.F__law_is_double.kp T.b__law_is_double tk (vbs_cons (vb_name 0 rfl (.inr (.inl rfl))) (vbs_cons (vb_name 4 rfl (.inl rfl)) vbs_nil))))))
      vss_nil)
    (vss_one (vs_ret (ve_b (vb_callA (ps := ["told", "due"]) (G__law_like T 4) (hr.mono (by decide)) (by rfl) T.g__law_like T.F__law_like.kp T.b__law_like tk (vbs_cons (vb_name 4 rfl (.inl rfl)) (vbs_cons (vb_tup (vbs_cons vb_str (vbs_cons (vb_name 1 rfl (.inl rfl)) vbs_nil))) vbs_nil))))))))))))

theorem G_law (T : Tx K mg) : VF P w K mg base 7 T.a_law T.d_law ["script"] m_law :=
  vf_mk (io := [false]) (N := n_law) T.F_law sc_law rfl fun cdv A outer s H vs E hr => by
  have tk : Takes (cxOf (L2.CX P w) P w K mg base n_law "law" (defScope s_law) T.a_law cdv A outer s H E) (fun cls d _ H => E cls d H) := takes_of rfl rfl rfl rfl
  have pOwn : PassesOwn (model P w) (A.deeper (envOfC "law" (defScope s_law) s.heap.objs.size T.a_law cdv)) (envOfC "law" (defScope s_law) s.heap.objs.size T.a_law cdv) (cxOf (L2.CX P w) P w K mg base n_law "law" (defScope s_law) T.a_law cdv A outer s H E).xe := passes_of rfl
  exact (vss_cons (vs_set (i := 1) sc_law.nd rfl (.inl rfl) (.inl rfl) (fx_ne (by decide)) (ve_call (G__law_feed T) (hr.mono (by decide)) (by rfl) T.g__law_feed T.F__law_feed.kp T.b__law_feed tk (vks_cons (vo_val (ve_b (vb_name 0 rfl (.inl rfl)))) vks_nil)))
    (vss_cons (vs_for (b := bo_law_1) pOwn rfl (vi_range1 (by rfl) T.z_range (ves_cons (ve_b vb_int) ves_nil)) (vg_name (i := 2) sc_law.nd rfl (.inl rfl) (.inl rfl) (fx_ne (by decide)))
      (vss_cons (vs_set (i := 3) sc_law.nd rfl (.inl rfl) (.inl rfl) (fx_ne (by decide)) (ve_ix ix_seq prim_ix (ve_lst (ves_cons (ve_b vb_str) (ves_cons (ve_b vb_str) (ves_cons (ve_b vb_str) (ves_cons (ve_b vb_str) ves_nil))))) (ve_call (G__law_draw T) (hr.mono (by decide)) (by rfl) T.g__law_draw T.F__law_draw.kp T.b__law_draw tk (vks_cons (vo_mv 1 rfl (.inl rfl)) (vks_cons (vo_val (ve_b vb_int)) vks_nil))) (fun _ _ => rfl)))
    (vss_cons (vs_set (i := 4) sc_law.nd rfl (.inl rfl) (.inl rfl) (fx_ne (by decide)) (ve_call (G__law_code T) (hr.mono (by decide)) (by rfl) T.g__law_code T.F__law_code.kp T.b__law_code tk (vks_cons (vo_mv 1 rfl (.inl rfl)) (vks_cons (vo_val (ve_b (vb_name 3 rfl (.inl rfl)))) (vks_cons (vo_val (ve_b vb_int)) (vks_cons (vo_val (ve_b vb_int)) vks_nil))))))
    (vss_cons (vs_if (vt_cmpE (op_eq.or (op_eqD hr.units)) prim_eq (ve_call (G__law_draw T) (hr.mono (by decide)) (by rfl) T.g__law_draw T.F__law_draw.kp T.b__law_draw tk (vks_cons (vo_mv 1 rfl (.inl rfl)) (vks_cons (vo_val (ve_b vb_int)) vks_nil))) (ve_b vb_int) (nomark _))
      (vss_one (vs_set (i := 4) sc_law.nd rfl (.inl rfl) (.inl rfl) (fx_ne (by decide)) (ve_call (G__law_code T) (hr.mono (by decide)) (by rfl) T.g__law_code T.F__law_code.kp T.b__law_code tk (vks_cons (vo_mv 1 rfl (.inl rfl)) (vks_cons (vo_val (ve_b (vb_name 3 rfl (.inl rfl)))) (vks_cons (vo_val (ve_b vb_int)) (vks_cons (vo_val (ve_b vb_int)) vks_nil)))))))
      vss_nil)
    (vss_cons (vs_set (i := 5) sc_law.nd rfl (.inl rfl) (.inl rfl) (fx_ne (by decide)) (ve_ixN (i := 4) rfl (.inl rfl) (ve_call (G__law_draw T) (hr.mono (by decide)) (by rfl) T.g__law_draw T.F__law_draw.kp T.b__law_draw tk (vks_cons (vo_mv 1 rfl (.inl rfl)) (vks_cons (vo_val (vv_fn call_lenA prim_len (by rfl) T.z_len PySem.boot_len (vbs_cons (vb_name 4 rfl (.inl rfl)) vbs_nil))) vks_nil))) (fun _ _ => rfl)))
    (vss_cons (vs_set (i := 6) sc_law.nd rfl (.inl rfl) (.inl rfl) (fx_ne (by decide)) (ve_ixN (i := 4) rfl (.inl rfl) (ve_call (G__law_draw T) (hr.mono (by decide)) (by rfl) T.g__law_draw T.F__law_draw.kp T.b__law_draw tk (vks_cons (vo_mv 1 rfl (.inl rfl)) (vks_cons (vo_val (vv_fn call_lenA prim_len (by rfl) T.z_len PySem.boot_len (vbs_cons (vb_name 4 rfl (.inl rfl)) vbs_nil))) vks_nil))) (fun _ _ => rfl)))
    (vss_cons (vs_if (vw_pt (vw_and (vt_cmpE (op_eq.or (op_eqD hr.units)) prim_eq (ve_call (G__law_draw T) (hr.mono (by decide)) (by rfl) T.g__law_draw T.F__law_draw.kp T.b__law_draw tk (vks_cons (vo_mv 1 rfl (.inl rfl)) (vks_cons (vo_val (ve_b vb_int)) vks_nil))) (ve_b vb_int) (nomark _)) (vw_and (vt_cmp op_lt prim_cmp (vb_fn call_lenA prim_len (by rfl) T.z_len PySem.boot_len (vbs_cons (vb_bin op_addA prim_add (vb_name 5 rfl (.inl rfl)) (vb_name 6 rfl (.inl rfl))) vbs_nil)) vb_int (nomark _)) (vw_and (vt_cmp (op_notInA (hu65 hr)) prim_notIn (vb_bin op_addA prim_add (vb_name 5 rfl (.inl rfl)) (vb_name 6 rfl (.inl rfl))) (vb_name 4 rfl (.inl rfl)) (by rfl)) (vw_and1 (vt_cmp op_lt prim_cmp (vb_fn call_lenA prim_len (by rfl) T.z_len PySem.boot_len (vbs_cons (vb_name 4 rfl (.inl rfl)) vbs_nil)) vb_int (nomark _)))))))
      (vss_one (vs_append (i := 4) rfl (.inl rfl) (vv_bin op_addA prim_add (vb_name 5 rfl (.inl rfl)) (vb_name 6 rfl (.inl rfl)))))
      vss_nil)
    (vss_one (vs_if (vt_not (vt_v (ve_b (vb_callA (ps := ["code"]) (G__law_asks T) (hr.mono (by decide)) (by rfl) T.g__law_asks T.F__law_asks.kp T.b__law_asks tk (vbs_cons (vb_name 4 rfl (.inl rfl)) vbs_nil)))))
      (vss_one (vs_ret (ve_b vb_bl)))
      vss_nil)))))))))
    (vss_cons (vs_for (b := bo_law_2) pOwn rfl (vi_seq (ve_lst (ves_cons (ve_frz (ve_lst (ves_cons (ve_b vb_str) (ves_cons (ve_b vb_str) (ves_cons (ve_b vb_str) ves_nil))))) (ves_cons (ve_frz (ve_lst (ves_cons (ve_b vb_str) (ves_cons (ve_b vb_str) ves_nil)))) (ves_cons (ve_frz (ve_lst (ves_cons (ve_b vb_str) (ves_cons (ve_b vb_str) (ves_cons (ve_b vb_str) (ves_cons (ve_b vb_str) ves_nil)))))) ves_nil))))) (vg_name (i := 4) sc_law.nd rfl (.inl rfl) (.inl rfl) (fx_ne (by decide)))
      (vss_one (vs_frz 4 (vs_if (vt_not (vt_v (ve_b (vb_callA (ps := ["code", "told"]) (G__law_is_double T) (hr.mono (by decide)) (by rfl) T.g__law_is_double T.F__law_is_double.kp T.b__law_is_double tk (vbs_cons (vb_name 4 rfl (.inl rfl)) (vbs_cons (vb_call (ps := ["code"]) (G_reading T) (hr.mono (by decide)) (by rfl) T.g_reading T.F_reading.kp T.b_reading tk (vbs_cons (vb_name 4 rfl (.inl rfl)) vbs_nil)) vbs_nil))))))
      (vss_one (vs_ret (ve_b vb_bl)))
      vss_nil))))
    (vss_one (vs_ret (ve_and (ve_call (G__law_like T 4) (hr.mono (by decide)) (by rfl) T.g__law_like T.F__law_like.kp T.b__law_like tk (vks_cons (vo_val (ve_frz (ve_call (G_reading T) (hr.mono (by decide)) (by rfl) T.g_reading T.F_reading.kp T.b_reading tk (vks_cons (vo_val (ve_frz (ve_lst (ves_cons (ve_b vb_str) (ves_cons (ve_b vb_str) ves_nil))))) vks_nil)))) (vks_cons (vo_val (ve_tup (ves_cons (ve_b vb_str) (ves_cons (ve_frz (ve_lst (ves_cons (ve_b vb_str) ves_nil))) ves_nil)))) vks_nil))) (ve_one (ve_call (G__law_like T 4) (hr.mono (by decide)) (by rfl) T.g__law_like T.F__law_like.kp T.b__law_like tk (vks_cons (vo_val (ve_frz (ve_call (G_reading T) (hr.mono (by decide)) (by rfl) T.g_reading T.F_reading.kp T.b_reading tk (vks_cons (vo_val (ve_frz (ve_lst (ves_cons (ve_b vb_str) ves_nil)))) vks_nil)))) (vks_cons (vo_val (ve_tup (ves_cons (ve_b vb_str) (ves_cons (ve_frz (ve_lst ves_nil)) ves_nil)))) vks_nil))))))))))

end

end VS
namespace VS
open PySem PySem.Spec L2
open PyProof.Rows hiding St
/-! ### the feed -/
abbrev fdT (ns : List Int) (at_ : Nat) (c2 c3 : Int) : T := .l [.s (.lst (ns.map D.int)), .s (.int (at_ : Int)), .s (.int c2), .s (.int c3)]
/-- a feed as it may stand -/
def Fd (t : T) : Prop := ∃ ns a c2 c3, t = fdT ns a c2 c3 ∧ 0 ≤ c2 ∧ 0 ≤ c3 ∧ c3 < 2147483647
theorem fm (x : Int) {m : Int} (h : 0 < m) : 0 ≤ x.fmod m ∧ x.fmod m < m := ⟨Int.fmod_nonneg_of_pos x h, Int.fmod_lt_of_pos x h⟩
theorem fm1 (x : Int) : -18446744073709551616 < x.fmod 2147483647 := by have := (fm x (m := 2147483647) (by omega)).1; omega
theorem fm2 (x : Int) : x.fmod 2147483647 < 18446744073709551616 := by have := (fm x (m := 2147483647) (by omega)).2; omega
theorem draw_ok {t : T} {many : Int} (F : Fd t) (hm : 0 < many) (hb : many < 1000000) : ∃ d t', m__law_draw [t, .s (.int many)] = .ok (.s (.int d), [some t', none]) ∧ Fd t' ∧ 0 ≤ d ∧ d < many := by
  obtain ⟨ns, a, c2, c3, rfl, h2, h3, h4⟩ := F
  have hn : many ≠ 0 := by omega
  have hD : ∀ i, CDivN i many := fun i => ⟨hn, by omega⟩
  have hE : ∀ i, CDivN i 11 := fun i => ⟨by omega, by omega⟩
  by_cases hr : c2 = 0 ∧ (a : Int) < ns.length
  · obtain ⟨rfl, hr⟩ := hr
    have hlt : a < ns.length := by omega
    have e1 : atI (ns.map D.int) (a : Int) = some (D.int (ns[a])) := by rw [atI_nat, List.getElem?_map, List.getElem?_eq_getElem hlt]; rfl
    by_cases hbig : (1000000000000000000 : Int) ≤ (if ns[a] < 0 then -ns[a] else ns[a])
    · have hpos : (0 : Int) < (if ns[a] < 0 then -ns[a] else ns[a]) := by omega
      have e : m__law_draw [fdT ns a 0 c3, .s (.int many)] = .ok (.s (.int ((if ns[a] < 0 then -ns[a] else ns[a]).fmod many)), [some (fdT ns (a + 1) ((if ns[a] < 0 then -ns[a] else ns[a]).fdiv many) c3), none]) := by
        simp -implicitDefEqProofs [m__law_draw, b__law_draw, fdT, hr, e1, pIadd, CMul, CPow, hbig, hpos, hn, hD]
      exact ⟨_, _, e, ⟨ns, a + 1, _, c3, rfl, Int.fdiv_nonneg (by omega) (by omega), h3, h4⟩, (fm _ hm).1, (fm _ hm).2⟩
    · obtain ⟨c, hc⟩ : ∃ c, c = (c3 * 48271 + (if ns[a] < 0 then -ns[a] else ns[a]) * 69621 + ((a : Int) + 1)).fmod 2147483647 := ⟨_, rfl⟩
      have e : ∃ d : Int, m__law_draw [fdT ns a 0 c3, .s (.int many)] = .ok (.s (.int (d.fmod many)), [some (fdT ns (a + 1) 0 ((c * 16807 + 12345).fmod 2147483647)), none]) := by
        refine ⟨?_, ?_⟩
        rotate_left
        · simp -implicitDefEqProofs [m__law_draw, b__law_draw, fdT, hr, e1, pIadd, CMul, CPow, hbig, hn, hD, hE, fm1, fm2, ← hc]
          rfl
      obtain ⟨d, e⟩ := e
      exact ⟨_, _, e, ⟨ns, a + 1, 0, _, rfl, by omega, (fm _ (by omega)).1, (fm _ (by omega)).2⟩, (fm _ hm).1, (fm _ hm).2⟩
  · by_cases hp : 0 < c2
    · have h0 : ¬ c2 = 0 := by omega
      have e : m__law_draw [fdT ns a c2 c3, .s (.int many)] = .ok (.s (.int (c2.fmod many)), [some (fdT ns a (c2.fdiv many) c3), none]) := by
        simp -implicitDefEqProofs [m__law_draw, b__law_draw, fdT, h0, pIadd, CMul, CPow, hp, hn, hD]
      exact ⟨_, _, e, ⟨ns, a, _, c3, rfl, Int.fdiv_nonneg (by omega) (by omega), h3, h4⟩, (fm _ hm).1, (fm _ hm).2⟩
    · have h0 : c2 = 0 := by omega
      subst h0
      have hr' : ¬ (a : Int) < ns.length := fun h => hr ⟨rfl, h⟩
      have e : ∃ d : Int, m__law_draw [fdT ns a 0 c3, .s (.int many)] = .ok (.s (.int (d.fmod many)), [some (fdT ns a 0 ((c3 * 16807 + 12345).fmod 2147483647)), none]) := by
        refine ⟨?_, ?_⟩
        rotate_left
        · simp -implicitDefEqProofs [m__law_draw, b__law_draw, fdT, hr', pIadd, CMul, CPow, hn, hD, hE, fm1, fm2]
          rfl
      obtain ⟨d, e⟩ := e
      exact ⟨_, _, e, ⟨ns, a, 0, _, rfl, by omega, (fm _ (by omega)).1, (fm _ (by omega)).2⟩, (fm _ hm).1, (fm _ hm).2⟩
theorem feed_ok (ns : List Int) (h : ns.length ≤ 63) : ∃ t, m__law_feed [.s (.scr ns)] = .ok (t, [none]) ∧ Fd t := by
  refine ⟨fdT ns 0 0 1, ?_, ns, 0, 0, 1, rfl, by omega, by omega, by omega⟩
  simp -implicitDefEqProofs [m__law_feed, b__law_feed, fdT, few, -List.map_map]
theorem join_ok (ys : List (List Nat)) (h : ys.flatten.length ≤ 1000000) : pJoin (.s (.str (Str.ofString ""))) [.l (ys.map sT)] = some (sT ys.flatten) := by
  have e : (ys.map sT) = ((ys.map S).map D.str).map T.s := by simp [sT]
  have e2 : ((ys.map S).map (·.length)).sum = ys.flatten.length := by
    rw [List.length_flatten]
    congr 1
    simp [Function.comp_def]
  have e3 : Str.ofString "" = S [] := ofList_S ""
  unfold pJoin
  rw [e, e3]
  simp only [lsT, T.ls, shs_map, Option.bind_some, strsO_S, S_length, List.length_nil, Nat.mul_zero, Nat.add_zero]
  rw [e2, if_pos (by omega), join_nil]
/-- the signs that are drawn -/
theorem word_lp {w : List Nat} (hw : 0 < w.length) (hw2 : w.length ≤ 1000) (b c : Option T) : ∀ (ds : List D) (ts : List T) (t : T), Fd t → ts.length + ds.length ≤ 1000 →
    ∃ (cs : List Nat) (t' : T), lcL [4] (stS 4) yesT el__law_word_1 ds ts [some t, some (sT w), b, c, none] = .ok (ts ++ cs.map (fun x => sT [x]), [some t', some (sT w), b, c, none]) ∧ Fd t' ∧ cs.length = ds.length ∧ ∀ x ∈ cs, x ∈ w
  | [], ts, t, F, _ => ⟨[], t, by simp, F, rfl, by simp⟩
  | d :: ds, ts, t, F, h => by
    obtain ⟨x, t1, e1, F1, hx0, hx1⟩ := draw_ok F (many := (w.length : Int)) (by omega) (by omega)
    obtain ⟨n, rfl⟩ : ∃ n : Nat, x = n := ⟨x.toNat, by omega⟩
    have hn : n < w.length := by omega
    simp only [List.length_cons] at h
    obtain ⟨cs, t2, e2, F2, l2, m2⟩ := word_lp hw hw2 b c ds (ts ++ [sT [w[n]]]) t1 F1 (by simp; omega)
    refine ⟨w[n] :: cs, t2, ?_, F2, by simp [l2], ?_⟩
    · rw [lcL_cons]
      simp -implicitDefEqProofs [el__law_word_1_ap, e1, atI_nat, hn, few, few', show w.length ≤ 1000000 by omega, show ts.length ≤ 1000000 by omega]
      simp at e2
      exact e2
    · intro y hy
      rcases List.mem_cons.mp hy with rfl | hy
      · exact List.getElem_mem hn
      · exact m2 y hy
theorem word_ok {t : T} {w : List Nat} {longest : Int} (F : Fd t) (hw : 0 < w.length) (hw2 : w.length ≤ 1000) (h0 : 0 < longest) (h1 : longest < 100) :
    ∃ u t', m__law_word [t, sT w, .s (.int longest)] = .ok (sT u, [some t', none, none]) ∧ Fd t' ∧ 1 ≤ u.length ∧ (u.length : Int) ≤ longest ∧ ∀ x ∈ u, x ∈ w := by
  obtain ⟨x, t1, e1, F1, hx0, hx1⟩ := draw_ok F (many := longest) (by omega) (by omega)
  obtain ⟨cs, t2, e2, F2, l2, m2⟩ := word_lp hw hw2 (some (.s (.int longest))) (some (.s (.int (1 + x)))) (rgD 0 (1 + x)) [] t1 F1 (by simp [rgD]; omega)
  have hf : (cs.map fun x => [x]).flatten = cs := by
    clear e2 l2 m2
    induction cs with
    | nil => rfl
    | cons c cs ih => simp [ih]
  have hj := join_ok (cs.map fun x => [x]) (by rw [hf, l2]; simp [rgD]; omega)
  rw [hf, List.map_map] at hj
  have hj' : pJoin (.s (.str (Str.ofString ""))) [.l (cs.map fun x => sT [x])] = some (sT cs) := hj
  have hl : cs.length = (1 + x).toNat := by rw [l2]; simp [rgD]
  refine ⟨cs, t2, ?_, F2, by omega, by omega, m2⟩
  have hr := rg1 (j := 1 + x) (by omega) (by omega)
  simp only [List.nil_append] at e2
  simp -implicitDefEqProofs [m__law_word, b__law_word, e1, hr, e2, hj']
end VS
namespace VS
open PySem PySem.Spec L2
open PyProof.Rows hiding St
theorem eqF_str (a b : List Nat) : eqF (sD a) (sD b) = decide (a = b) := by
  show decide (S a = S b) = _
  simp
theorem any_words (w : List Nat) (ws : List (List Nat)) : ((ws.map sD).any fun y => eqF y (sD w)) = decide (w ∈ ws) := by
  rw [Bool.eq_iff_iff]
  simp only [List.any_eq_true, List.mem_map, decide_eq_true_eq]
  constructor
  · rintro ⟨y, ⟨u, hu, rfl⟩, h⟩
    rw [eqF_str, decide_eq_true_eq] at h
    exact h ▸ hu
  · exact fun h => ⟨_, ⟨w, h, rfl⟩, by rw [eqF_str]; simp⟩
theorem all_flat (ws : List (List Nat)) : (ws.map sD).all flatD = true := by
  rw [List.all_eq_true]
  rintro d hd
  obtain ⟨w, _, rfl⟩ := List.mem_map.mp hd
  rfl
theorem inB_words {y : T} {w : List Nat} {ws : List (List Nat)} (h : y.ls = some (ws.map sD)) : pInB (sT w) y = some (decide (w ∈ ws)) := by
  have hfl : (flatD (sD w) && (ws.map sD).all flatD) = true := by rw [all_flat]; rfl
  unfold pInB
  split
  · cases h
  · cases h
  · rename_i d h1 h2 h3
    cases h1
    rw [h]
    dsimp only
    rw [if_pos hfl, any_words]
  · rename_i ha hb hc
    first
      | exact (ha (sD w) y rfl rfl).elim
      | exact (hb (sD w) y rfl rfl).elim
      | exact (hc (sD w) y rfl rfl).elim
      | exact (ha (sD w) rfl).elim
      | exact (hb (sD w) rfl).elim
      | exact (hc (sD w) rfl).elim
theorem ls_words (ws : List (List Nat)) : (T.l (ws.map sT)).ls = some (ws.map sD) := by
  have e : ws.map sT = (ws.map sD).map T.s := by simp [sT]
  rw [e]
  exact shs_map _
@[simp] theorem shs_words (ws : List (List Nat)) : shs (ws.map sT) = some (ws.map sD) := ls_words ws
@[simp] theorem in_l (w : List Nat) (ws : List (List Nat)) : pIn (sT w) (.l (ws.map sT)) = some (.s (.bl (decide (w ∈ ws)))) := by unfold pIn; rw [inB_words (ls_words ws)]; rfl
@[simp] theorem in_lst (w : List Nat) (ws : List (List Nat)) : pIn (sT w) (.s (.lst (ws.map sD))) = some (.s (.bl (decide (w ∈ ws)))) := by unfold pIn; rw [inB_words (ws := ws) rfl]; rfl
@[simp] theorem notIn_l (w : List Nat) (ws : List (List Nat)) : pNotIn (sT w) (.l (ws.map sT)) = some (.s (.bl (!decide (w ∈ ws)))) := by unfold pNotIn; rw [inB_words (ls_words ws)]; rfl
@[simp] theorem notIn_lst (w : List Nat) (ws : List (List Nat)) : pNotIn (sT w) (.s (.lst (ws.map sD))) = some (.s (.bl (!decide (w ∈ ws)))) := by unfold pNotIn; rw [inB_words (ws := ws) rfl]; rfl
@[simp] theorem ers_words (ws : List (List Nat)) : ers (ws.map sT) = ws.map sD := by
  have e : ws.map sT = (ws.map sD).map T.s := by simp [sT]
  rw [e]
  exact ers_map _
/-- a code that was drawn -/
structure Cd (ws : List (List Nat)) (most longest : Nat) (letters : List Nat) : Prop where
  nd : ws.Nodup
  ne : 1 ≤ ws.length
  le : ws.length ≤ most
  wd : ∀ w ∈ ws, 1 ≤ w.length ∧ w.length ≤ longest ∧ ∀ x ∈ w, x ∈ letters
theorem code_lp {l : List Nat} {longest : Nat} (hl : 0 < l.length) (hl2 : l.length ≤ 1000) (h0 : 0 < longest) (h1 : longest < 100) (m : Option T) : ∀ (ds : List D) (ws : List (List Nat)) (t : T) (a b : Option T), Fd t → ws.Nodup → ws.length + ds.length ≤ 1000 →
    (∀ w ∈ ws, 1 ≤ w.length ∧ w.length ≤ longest ∧ ∀ x ∈ w, x ∈ l) →
    ∃ (us : List (List Nat)) (t' : T) (a' b' : Option T), forL (stS 5) bo__law_code_1 ds [some t, some (sT l), m, some (.s (.int longest)), some (.l (ws.map sT)), a, b] = .ok (.nx, [some t', some (sT l), m, some (.s (.int longest)), some (.l (us.map sT)), a', b']) ∧ Fd t' ∧
      us.Nodup ∧ ws.length ≤ us.length ∧ us.length ≤ ws.length + ds.length ∧ (∀ w ∈ us, 1 ≤ w.length ∧ w.length ≤ longest ∧ ∀ x ∈ w, x ∈ l) ∧ (0 < ds.length → 0 < us.length)
  | [], ws, t, a, b, F, nd, _, hw => ⟨ws, t, a, b, by simp, F, nd, Nat.le_refl _, Nat.le_refl _, hw, by simp⟩
  | d :: ds, ws, t, a, b, F, nd, h, hw => by
    simp only [List.length_cons] at h
    obtain ⟨u, t1, e1, F1, u1, u2, u3⟩ := word_ok F hl hl2 (longest := (longest : Int)) (by omega) (by omega)
    by_cases hm : u ∈ ws
    · obtain ⟨us, t2, a2, b2, e2, F2, nd2, l1, l2, hw2, hp⟩ := code_lp hl hl2 h0 h1 m ds ws t1 (some (.s d)) (some (sT u)) F1 nd (by omega) hw
      refine ⟨us, t2, a2, b2, ?_, F2, nd2, l1, by simp; omega, hw2, fun _ => Nat.lt_of_lt_of_le (List.length_pos_of_mem hm) l1⟩
      rw [forL_cons]
      simp -implicitDefEqProofs [bo__law_code_1_ap, e1, hm]
      exact e2
    · obtain ⟨us, t2, a2, b2, e2, F2, nd2, l1, l2, hw2, hp⟩ := code_lp hl hl2 h0 h1 m ds (ws ++ [u]) t1 (some (.s d)) (some (sT u)) F1
        (List.nodup_append.mpr ⟨nd, by simp, fun x hx y hy e => by
          have : y = u := by simpa using hy
          subst this; subst e; exact hm hx⟩) (by simp; omega) (fun w hx => by
          rcases List.mem_append.mp hx with z | z
          · exact hw w z
          · have : w = u := by simpa using z
            subst this
            exact ⟨u1, by omega, u3⟩)
      simp only [List.length_append, List.length_cons, List.length_nil] at l1 l2
      refine ⟨us, t2, a2, b2, ?_, F2, nd2, by omega, by simp; omega, hw2, fun _ => by omega⟩
      rw [forL_cons]
      simp -implicitDefEqProofs [bo__law_code_1_ap, e1, hm, few', show ws.length ≤ 1000000 by omega]
      simp at e2
      exact e2
theorem code_ok {t : T} {l : List Nat} {most longest : Nat} (F : Fd t) (hl : 0 < l.length) (hl2 : l.length ≤ 1000) (hm : 0 < most) (hm1 : most < 100) (h0 : 0 < longest) (h1 : longest < 100) :
    ∃ (ws : List (List Nat)) (t' : T), m__law_code [t, sT l, .s (.int most), .s (.int longest)] = .ok (.l (ws.map sT), [some t', none, none, none]) ∧ Fd t' ∧ Cd ws most longest l := by
  obtain ⟨x, t1, e1, F1, hx0, hx1⟩ := draw_ok F (many := (most : Int)) (by omega) (by omega)
  have hlen : (rgD 0 (1 + x)).length = (1 + x).toNat := by simp [rgD]
  obtain ⟨us, t2, a2, b2, e2, F2, nd2, l1, l2, hw2, hp⟩ := code_lp hl hl2 h0 h1 (some (.s (.int most))) (rgD 0 (1 + x)) [] t1 none none F1 List.nodup_nil (by rw [hlen]; simp; omega) (by simp)
  rw [hlen] at hp l2
  simp only [List.length_nil, Nat.zero_add] at l2
  have hr := rg1 (j := 1 + x) (by omega) (by omega)
  refine ⟨us, t2, ?_, F2, ⟨nd2, hp (by omega), by omega, hw2⟩⟩
  simp only [List.map_nil] at e2
  simp -implicitDefEqProofs [m__law_code, b__law_code, e1, hr, e2, few]
end VS
namespace VS
open PySem PySem.Spec L2
open PyProof.Rows hiding St
/-! ### _law_like, of equal data -/
mutual
/-- plain data of that depth -/
def plD : Nat → D → Bool
  | _, .non => true
  | _, .bl _ => true
  | _, .int _ => true
  | _, .str _ => true
  | n + 1, .lst ds => plDs n ds && decide (ds.length ≤ 1000000)
  | n + 1, .tup ds => plDs n ds && decide (ds.length ≤ 1000000)
  | _, _ => false
def plDs : Nat → List D → Bool
  | _, [] => true
  | n, d :: ds => plD n d && plDs n ds
end
theorem plDs_get {n : Nat} : ∀ {ds : List D} {i : Nat} (h : i < ds.length), plDs n ds = true → plD n ds[i] = true
  | [], i, h, _ => by simp at h
  | d :: ds, 0, h, p => by
    simp only [plDs, Bool.and_eq_true] at p
    exact p.1
  | d :: ds, i + 1, h, p => by
    simp only [plDs, Bool.and_eq_true] at p
    exact plDs_get (ds := ds) (by simpa using h) p.2
theorem plDs_of {n : Nat} : ∀ {ds : List D}, (∀ d ∈ ds, plD n d = true) → plDs n ds = true
  | [], _ => by simp [plDs]
  | d :: ds, h => by
    simp only [plDs, Bool.and_eq_true]
    exact ⟨h d List.mem_cons_self, plDs_of fun x hx => h x (List.mem_cons_of_mem _ hx)⟩
theorem like_lp {mrec : FS} (told : T) (ds : List D) (hx : ∀ i : Nat, pIx told (.s (.int i)) = ds[i]?.map T.s) (hd : ∀ y : T, True) (due : T) (hy : ∀ i : Nat, pIx due (.s (.int i)) = ds[i]?.map T.s)
    (hr : ∀ i (h : i < ds.length), mrec [.s ds[i], .s ds[i]] = .ok (.s (.bl true), [none, none])) : ∀ (k j : Nat) (c : Option T), j + k = ds.length →
    ∃ c', forL (stS 2) (bo__law_like_1 mrec) ((List.range' j k).map fun (i : Nat) => D.int i) [some told, some due, c] = .ok (.nx, [some told, some due, c'])
  | 0, j, c, _ => ⟨c, by simp⟩
  | k + 1, j, c, h => by
    obtain ⟨c', e⟩ := like_lp told ds hx hd due hy hr k (j + 1) (some (.s (.int (j : Nat)))) (by omega)
    refine ⟨c', ?_⟩
    have hj : j < ds.length := by omega
    rw [List.range'_succ, List.map_cons, forL_cons]
    simp -implicitDefEqProofs [bo__law_like_1_ap, hx, hy, hj, hr j hj]
    exact e
theorem rgD_0 (n : Nat) : rgD 0 (n : Int) = (List.range' 0 n).map fun (i : Nat) => D.int i := by
  unfold rgD
  rw [Int.sub_zero, Int.toNat_natCast, List.range_eq_range']
  apply List.map_congr_left
  intro i _
  simp
theorem like_refl : ∀ (n : Nat) (d : D), plD n d = true → m__law_like (n + 1) [.s d, .s d] = .ok (.s (.bl true), [none, none]) := by
  intro n
  induction n with
  | zero =>
    intro d h
    cases d with
    | non => rw [m__law_like]; simp -implicitDefEqProofs [b__law_like, pIsi, tyN, isTy, isTys, tyK, pIs, few]
    | bl b => rw [m__law_like]; simp -implicitDefEqProofs [b__law_like, pIsi, tyN, isTy, isTys, tyK, pIs, few]
    | int b => rw [m__law_like]; simp -implicitDefEqProofs [b__law_like, pIsi, tyN, isTy, isTys, tyK, pIs, few]
    | str b => rw [m__law_like]; simp -implicitDefEqProofs [b__law_like, pIsi, tyN, isTy, isTys, tyK, pIs, few]
    | _ => simp [plD] at h
  | succ n ih =>
    intro d h
    cases d with
    | non => rw [m__law_like]; simp -implicitDefEqProofs [b__law_like, pIsi, tyN, isTy, isTys, tyK, pIs, few]
    | bl b => rw [m__law_like]; simp -implicitDefEqProofs [b__law_like, pIsi, tyN, isTy, isTys, tyK, pIs, few]
    | int b => rw [m__law_like]; simp -implicitDefEqProofs [b__law_like, pIsi, tyN, isTy, isTys, tyK, pIs, few]
    | str b => rw [m__law_like]; simp -implicitDefEqProofs [b__law_like, pIsi, tyN, isTy, isTys, tyK, pIs, few]
    | lst ds =>
      simp only [plD, Bool.and_eq_true, decide_eq_true_eq] at h
      obtain ⟨c', e⟩ := like_lp (mrec := m__law_like (n + 1)) (.s (.lst ds)) ds (fun i => by simp [atI_nat]) (fun _ => trivial) (.s (.lst ds)) (fun i => by simp [atI_nat]) (fun i hi => ih _ (plDs_get hi h.1)) ds.length 0 none (by omega)
      rw [← rgD_0] at e
      have hr := rg1n h.2
      rw [m__law_like]
      simp -implicitDefEqProofs [b__law_like, pIsi, tyN, isTy, isTys, tyK, pIs, few, hr, e]
    | tup ds =>
      simp only [plD, Bool.and_eq_true, decide_eq_true_eq] at h
      obtain ⟨c', e⟩ := like_lp (mrec := m__law_like (n + 1)) (.s (.tup ds)) ds (fun i => by simp [atI_nat]) (fun _ => trivial) (.s (.tup ds)) (fun i => by simp [atI_nat]) (fun i hi => ih _ (plDs_get hi h.1)) ds.length 0 none (by omega)
      rw [← rgD_0] at e
      have hr := rg1n h.2
      rw [m__law_like]
      simp -implicitDefEqProofs [b__law_like, pIsi, tyN, isTy, isTys, tyK, pIs, few, hr, e]
    | _ => simp [plD] at h
end VS
namespace VS
open PySem PySem.Spec L2
open PyProof.Rows hiding St
/-! ### what the program computes, over words as lists of signs -/
abbrev Wd := List Nat
/-- enumerate -/
def en : Nat → List Wd → List D
  | _, [] => []
  | k, w :: ws => .tup [.int (k : Nat), sD w] :: en (k + 1) ws
theorem enD_at (ds : List D) : enD ds = (List.range' 0 ds.length).zipWith (fun (i : Nat) d => D.tup [.int i, d]) ds := by
  unfold enD
  rw [List.range_eq_range']
theorem en_range : ∀ (k : Nat) (ws : List Wd), (List.range' k ws.length).zipWith (fun (i : Nat) d => D.tup [.int i, d]) (ws.map sD) = en k ws
  | k, [] => rfl
  | k, w :: ws => by
    rw [List.length_cons, List.range'_succ, List.map_cons, List.zipWith_cons_cons, en_range (k + 1) ws]
    rfl
@[simp] theorem enD_words (ws : List Wd) : enD (ws.map sD) = en 0 ws := by
  rw [enD_at, List.length_map]
  exact en_range 0 ws
def ftRow (i : Nat) (w : Wd) : Nat → List Wd → List (Nat × Nat × Wd)
  | _, [] => []
  | j, o :: os => (if w.isPrefixOf o = true ∧ w.length < o.length then [(i, j, o.drop w.length)] else []) ++ ftRow i w (j + 1) os
def ftAll (ws : List Wd) : Nat → List Wd → List (Nat × Nat × Wd)
  | _, [] => []
  | i, w :: r => ftRow i w 0 ws ++ ftAll ws (i + 1) r
def tfAll (t : Wd) : Nat → List Wd → List (Nat × Wd × Bool)
  | _, [] => []
  | i, w :: r => (if t.isPrefixOf w = true ∧ t.length < w.length then [(i, w.drop t.length, true)] else []) ++ ((if w.isPrefixOf t = true ∧ w.length < t.length then [(i, t.drop w.length, false)] else []) ++ tfAll t (i + 1) r)
def ftD (q : Nat × Nat × Wd) : D := .tup [.int (q.1 : Nat), .int (q.2.1 : Nat), sD q.2.2]
def ftT (q : Nat × Nat × Wd) : T := .s (ftD q)
def tfD (q : Nat × Wd × Bool) : D := .tup [.int (q.1 : Nat), sD q.2.1, .bl q.2.2]
def tfT (q : Nat × Wd × Bool) : T := .s (tfD q)
theorem shs_of {α : Type} {f : α → T} {g : α → D} (h : ∀ x, f x = .s (g x)) : ∀ xs : List α, shs (xs.map f) = some (xs.map g)
  | [] => rfl
  | x :: xs => by simp [h, shs_of h xs]
@[simp] theorem shs_ft (xs : List (Nat × Nat × Wd)) : shs (xs.map ftT) = some (xs.map ftD) := shs_of (fun _ => rfl) xs
@[simp] theorem shs_tf (xs : List (Nat × Wd × Bool)) : shs (xs.map tfT) = some (xs.map tfD) := shs_of (fun _ => rfl) xs
theorem ft_lp1 {i : Nat} {w : Wd} (hw : w.length ≤ 1000) (c : Option T) : ∀ (os : List Wd) (j : Nat) (acc : List (Nat × Nat × Wd)) (a b : Option T), acc.length + os.length ≤ 100000 → (∀ o ∈ os, o.length ≤ 1000) →
    ∃ a' b', forL (gtup 2 (gcons (stS 4) (gcons (stS 5) gnil))) bo_first_tails_1 (en j os) [c, some (.l (acc.map ftT)), some (.s (.int (i : Nat))), some (sT w), a, b] = .ok (.nx, [c, some (.l ((acc ++ ftRow i w j os).map ftT)), some (.s (.int (i : Nat))), some (sT w), a', b'])
  | [], j, acc, a, b, _, _ => ⟨a, b, by simp [en, ftRow]⟩
  | o :: os, j, acc, a, b, h, ho => by
    have ho1 : o.length ≤ 1000 := ho o List.mem_cons_self
    simp only [List.length_cons] at h
    by_cases hp : w.isPrefixOf o = true ∧ w.length < o.length
    · obtain ⟨a', b', e⟩ := ft_lp1 (i := i) hw c os (j + 1) (acc ++ [(i, j, o.drop w.length)]) (some (.s (.int (j : Nat)))) (some (sT o)) (by simp; omega) (fun x hx => ho x (List.mem_cons_of_mem _ hx))
      refine ⟨a', b', ?_⟩
      rw [en, forL_cons, ftRow, if_pos hp]
      simp -implicitDefEqProofs [bo_first_tails_1_ap, S_starts, hp.1, hp.2, few, show o.length ≤ 1000000 by omega, show w.length ≤ 1000000 by omega, S_from, few', show acc.length ≤ 1000000 by omega]
      simp [ftT, ftD] at e
      simpa [ftT, ftD] using e
    · obtain ⟨a', b', e⟩ := ft_lp1 (i := i) hw c os (j + 1) acc (some (.s (.int (j : Nat)))) (some (sT o)) (by omega) (fun x hx => ho x (List.mem_cons_of_mem _ hx))
      refine ⟨a', b', ?_⟩
      rw [en, forL_cons, ftRow, if_neg hp]
      by_cases h1 : w.isPrefixOf o = true
      · have h2 : ¬ w.length < o.length := fun z => hp ⟨h1, z⟩
        simp -implicitDefEqProofs [bo_first_tails_1_ap, S_starts, h1, h2, few, show o.length ≤ 1000000 by omega, show w.length ≤ 1000000 by omega]
        simpa using e
      · simp -implicitDefEqProofs [bo_first_tails_1_ap, S_starts, h1]
        simpa using e
theorem ft_len (i : Nat) (w : Wd) : ∀ (os : List Wd) (j : Nat), (ftRow i w j os).length ≤ os.length
  | [], j => by simp [ftRow]
  | o :: os, j => by
    have := ft_len i w os (j + 1)
    unfold ftRow
    split <;> simp <;> omega
theorem ft_lp2 {ws : List Wd} (hn : ws.length ≤ 100) (hw : ∀ o ∈ ws, o.length ≤ 1000) : ∀ (r : List Wd) (i : Nat) (acc : List (Nat × Nat × Wd)) (a b x y : Option T), acc.length + r.length * 100 ≤ 50000 → (∀ o ∈ r, o.length ≤ 1000) →
    ∃ a' b' x' y', forL (gtup 2 (gcons (stS 2) (gcons (stS 3) gnil))) bo_first_tails_2 (en i r) [some (.s (.lst (ws.map sD))), some (.l (acc.map ftT)), a, b, x, y] = .ok (.nx, [some (.s (.lst (ws.map sD))), some (.l ((acc ++ ftAll ws i r).map ftT)), a', b', x', y'])
  | [], i, acc, a, b, x, y, _, _ => ⟨a, b, x, y, by simp [en, ftAll]⟩
  | w :: r, i, acc, a, b, x, y, h, ho => by
    simp only [List.length_cons] at h
    obtain ⟨x1, y1, e1⟩ := ft_lp1 (i := i) (ho w List.mem_cons_self) (some (.s (.lst (ws.map sD)))) ws 0 acc x y (by omega) hw
    obtain ⟨a', b', x', y', e2⟩ := ft_lp2 hn hw r (i + 1) (acc ++ ftRow i w 0 ws) (some (.s (.int (i : Nat)))) (some (sT w)) x1 y1 (by have := ft_len i w ws 0; simp; omega) (fun o hx => ho o (List.mem_cons_of_mem _ hx))
    refine ⟨a', b', x', y', ?_⟩
    rw [en, forL_cons, ftAll]
    simp only [gtup_ok, gcons_ap, gcK_some, gnil_ap, stS_succ, stS_zero, Option.map_some, foN_some, List.length_cons, List.length_nil, if_true]
    simp -implicitDefEqProofs [bo_first_tails_2_ap, e1]
    simpa using e2
theorem first_tails_ok {ws : List Wd} (hn : ws.length ≤ 100) (hw : ∀ o ∈ ws, o.length ≤ 1000) : m_first_tails [.s (.lst (ws.map sD))] = .ok (.l ((ftAll ws 0 ws).map ftT), [none]) := by
  obtain ⟨a', b', x', y', e⟩ := ft_lp2 hn hw ws 0 [] none none none none (by simp; omega) hw
  simp only [List.map_nil, List.nil_append] at e
  simp -implicitDefEqProofs [m_first_tails, b_first_tails, few, e]
theorem tf_lp {t : Wd} (ht : t.length ≤ 1000) (c : Option T) : ∀ (os : List Wd) (j : Nat) (acc : List (Nat × Wd × Bool)) (a b : Option T), acc.length + os.length * 2 ≤ 100000 → (∀ o ∈ os, o.length ≤ 1000) →
    ∃ a' b', forL (gtup 2 (gcons (stS 3) (gcons (stS 4) gnil))) bo_tails_from_1 (en j os) [c, some (sT t), some (.l (acc.map tfT)), a, b] = .ok (.nx, [c, some (sT t), some (.l ((acc ++ tfAll t j os).map tfT)), a', b'])
  | [], j, acc, a, b, _, _ => ⟨a, b, by simp [en, tfAll]⟩
  | o :: os, j, acc, a, b, h, ho => by
    have ho1 : o.length ≤ 1000 := ho o List.mem_cons_self
    simp only [List.length_cons] at h
    have H := fun (xs : List (Nat × Wd × Bool)) (hx : xs.length ≤ 2) => tf_lp ht c os (j + 1) (acc ++ xs) (some (.s (.int (j : Nat)))) (some (sT o)) (by simp; omega) (fun x hx => ho x (List.mem_cons_of_mem _ hx))
    rw [en, tfAll]
    by_cases h1 : t.isPrefixOf o = true ∧ t.length < o.length
    · have h3 : ¬ (o.isPrefixOf t = true ∧ o.length < t.length) := fun z => by omega
      obtain ⟨a', b', e⟩ := H [(j, o.drop t.length, true)] (by simp)
      refine ⟨a', b', ?_⟩
      rw [forL_cons, if_pos h1, if_neg h3]
      have h4 : ¬ o.length < t.length := by omega
      by_cases h5 : o.isPrefixOf t = true
      · simp -implicitDefEqProofs [bo_tails_from_1_ap, S_starts, h1.1, h1.2, h4, h5, few, show o.length ≤ 1000000 by omega, show t.length ≤ 1000000 by omega, S_from, few', show acc.length ≤ 1000000 by omega]
        simpa [tfT, tfD] using e
      · simp -implicitDefEqProofs [bo_tails_from_1_ap, S_starts, h1.1, h1.2, h4, h5, few, show o.length ≤ 1000000 by omega, show t.length ≤ 1000000 by omega, S_from, few', show acc.length ≤ 1000000 by omega]
        simpa [tfT, tfD] using e
    · by_cases h3 : o.isPrefixOf t = true ∧ o.length < t.length
      · obtain ⟨a', b', e⟩ := H [(j, t.drop o.length, false)] (by simp)
        refine ⟨a', b', ?_⟩
        rw [forL_cons, if_neg h1, if_pos h3]
        have h4 : ¬ t.length < o.length := by omega
        by_cases h5 : t.isPrefixOf o = true
        · simp -implicitDefEqProofs [bo_tails_from_1_ap, S_starts, h3.1, h3.2, h4, h5, few, show o.length ≤ 1000000 by omega, show t.length ≤ 1000000 by omega, S_from, few', show acc.length ≤ 1000000 by omega]
          simpa [tfT, tfD] using e
        · simp -implicitDefEqProofs [bo_tails_from_1_ap, S_starts, h3.1, h3.2, h4, h5, few, show o.length ≤ 1000000 by omega, show t.length ≤ 1000000 by omega, S_from, few', show acc.length ≤ 1000000 by omega]
          simpa [tfT, tfD] using e
      · obtain ⟨a', b', e⟩ := H [] (by simp)
        refine ⟨a', b', ?_⟩
        rw [forL_cons, if_neg h1, if_neg h3]
        by_cases h5 : t.isPrefixOf o = true
        · have h6 : ¬ t.length < o.length := fun z => h1 ⟨h5, z⟩
          by_cases h7 : o.isPrefixOf t = true
          · have h8 : ¬ o.length < t.length := fun z => h3 ⟨h7, z⟩
            simp -implicitDefEqProofs [bo_tails_from_1_ap, S_starts, h5, h6, h7, h8, few, show o.length ≤ 1000000 by omega, show t.length ≤ 1000000 by omega]
            simpa using e
          · simp -implicitDefEqProofs [bo_tails_from_1_ap, S_starts, h5, h6, h7, few, show o.length ≤ 1000000 by omega, show t.length ≤ 1000000 by omega]
            simpa using e
        · by_cases h7 : o.isPrefixOf t = true
          · have h8 : ¬ o.length < t.length := fun z => h3 ⟨h7, z⟩
            simp -implicitDefEqProofs [bo_tails_from_1_ap, S_starts, h5, h7, h8, few, show o.length ≤ 1000000 by omega, show t.length ≤ 1000000 by omega]
            simpa using e
          · simp -implicitDefEqProofs [bo_tails_from_1_ap, S_starts, h5, h7]
            simpa using e
theorem tails_from_ok {ws : List Wd} {t : Wd} (hn : ws.length ≤ 100) (hw : ∀ o ∈ ws, o.length ≤ 1000) (ht : t.length ≤ 1000) : m_tails_from [.s (.lst (ws.map sD)), sT t] = .ok (.l ((tfAll t 0 ws).map tfT), [none, none]) := by
  obtain ⟨a', b', e⟩ := tf_lp ht (some (.s (.lst (ws.map sD)))) ws 0 [] none none (by simp; omega) hw
  simp only [List.map_nil, List.nil_append] at e
  simp -implicitDefEqProofs [m_tails_from, b_tails_from, few, e]
end VS
namespace VS
open PySem PySem.Spec L2
open PyProof.Rows hiding St
/-! ### the rows of tails, each with two messages -/
abbrev Ent := Wd × List Nat × List Nat
def keys (r : List Ent) : List Wd := r.map (·.1)
def addE (r : List Ent) (e : Ent) : List Ent := if e.1 ∈ keys r then r else r ++ [e]
def lng (m : List Nat × List Nat) (n : Nat) (p : Bool) : List Nat × List Nat := if p then (m.2, m.1 ++ [n]) else (m.1 ++ [n], m.2)
def spell (ws : List Wd) (m : List Nat) : Wd := (m.map fun i => (ws[i]?).getD []).flatten
/-- the tails that words have -/
def sufs (ws : List Wd) : List Wd := ws.flatMap fun w => (List.range (w.length - 1)).map fun k => w.drop (k + 1)
theorem mem_sufs {ws : List Wd} {t : Wd} : t ∈ sufs ws ↔ ∃ w ∈ ws, ∃ k, 1 ≤ k ∧ k < w.length ∧ t = w.drop k := by
  unfold sufs
  simp only [List.mem_flatMap, List.mem_map, List.mem_range]
  constructor
  · rintro ⟨w, hw, k, hk, rfl⟩
    exact ⟨w, hw, k + 1, by omega, by omega, rfl⟩
  · rintro ⟨w, hw, k, h1, h2, rfl⟩
    exact ⟨w, hw, k - 1, by omega, by rw [show k - 1 + 1 = k by omega]⟩
theorem sufs_len (n : Nat) : ∀ (ws : List Wd), (∀ w ∈ ws, w.length ≤ n) → (sufs ws).length ≤ ws.length * (n - 1)
  | [], _ => by simp [sufs]
  | w :: ws, h => by
    have ih := sufs_len n ws fun x hx => h x (List.mem_cons_of_mem _ hx)
    have hw := h w List.mem_cons_self
    unfold sufs at ih ⊢
    rw [List.flatMap_cons, List.length_append, List.length_map, List.length_range, List.length_cons, Nat.add_mul]
    omega
/-- what holds of the rows -/
structure Jn (ws : List Wd) (r : List Ent) : Prop where
  nd : (keys r).Nodup
  suf : ∀ e ∈ r, e.1 ∈ sufs ws
  txt : ∀ e ∈ r, spell ws e.2.1 ++ e.1 = spell ws e.2.2
  rng : ∀ e ∈ r, (∀ i ∈ e.2.1, i < ws.length) ∧ ∀ i ∈ e.2.2, i < ws.length
  hd : ∀ e ∈ r, ∃ x y, e.2.1.head? = some x ∧ e.2.2.head? = some y ∧ x ≠ y
  len : ∀ i (h : i < r.length), r[i].2.1.length + r[i].2.2.length ≤ 2 + i
theorem Jn.nil (ws : List Wd) : Jn ws [] := ⟨by simp [keys], by simp, by simp, by simp, by simp, by simp⟩
theorem Jn.add {ws : List Wd} {r : List Ent} (J : Jn ws r) {e : Ent} (h1 : e.1 ∈ sufs ws) (h2 : spell ws e.2.1 ++ e.1 = spell ws e.2.2) (h3 : (∀ i ∈ e.2.1, i < ws.length) ∧ ∀ i ∈ e.2.2, i < ws.length) (h4 : ∃ x y, e.2.1.head? = some x ∧ e.2.2.head? = some y ∧ x ≠ y)
    (h5 : e.2.1.length + e.2.2.length ≤ 2 + r.length) : Jn ws (addE r e) := by
  unfold addE
  by_cases hm : e.1 ∈ keys r
  · rw [if_pos hm]; exact J
  · rw [if_neg hm]
    have sp : ∀ {P : Ent → Prop}, (∀ x ∈ r, P x) → P e → ∀ x ∈ r ++ [e], P x := fun {P} h k x hx => by
      rcases List.mem_append.mp hx with z | z
      · exact h x z
      · have : x = e := by simpa using z
        rw [this]; exact k
    refine ⟨?_, sp J.suf h1, sp J.txt h2, sp J.rng h3, sp J.hd h4, fun i h => ?_⟩
    · unfold keys
      rw [List.map_append, List.nodup_append]
      refine ⟨J.nd, by simp, fun a ha b hb z => ?_⟩
      have : b = e.1 := by simpa using hb
      subst this
      subst z
      exact hm ha
    · by_cases hi : i < r.length
      · rw [List.getElem_append_left hi]; exact J.len i hi
      · have : i = r.length := by simp at h; omega
        subst this
        simpa using h5
theorem addE_len (r : List Ent) (e : Ent) : r.length ≤ (addE r e).length := by
  unfold addE
  split <;> simp
theorem addE_get {r : List Ent} {e : Ent} {i : Nat} (h : i < r.length) : (addE r e)[i]? = r[i]? := by
  unfold addE
  split
  · rfl
  · rw [List.getElem?_append_left h]
theorem nodup_sub_len {α : Type} [DecidableEq α] : ∀ {l m : List α}, l.Nodup → (∀ x ∈ l, x ∈ m) → l.length ≤ m.length
  | [], m, _, _ => by simp
  | x :: l, m, h, s => by
    have hx := s x List.mem_cons_self
    have ih := nodup_sub_len (l := l) (m := m.erase x) (List.nodup_cons.mp h).2 fun y hy => by
      have hne : y ≠ x := fun z => (List.nodup_cons.mp h).1 (z ▸ hy)
      exact (List.mem_erase_of_ne hne).mpr (s y (List.mem_cons_of_mem _ hy))
    rw [List.length_erase_of_mem hx] at ih
    have := List.length_pos_of_mem hx
    simp only [List.length_cons]
    omega
theorem Jn.size {ws : List Wd} {r : List Ent} (J : Jn ws r) {n : Nat} (hw : ∀ w ∈ ws, w.length ≤ n) : r.length ≤ ws.length * (n - 1) := by
  have h := nodup_sub_len J.nd (m := sufs ws) fun t ht => by
    obtain ⟨e, he, rfl⟩ := List.mem_map.mp ht
    exact J.suf e he
  unfold keys at h
  rw [List.length_map] at h
  exact Nat.le_trans h (sufs_len n ws hw)
/-! ### the steps -/
theorem ft_mem {ws : List Wd} : ∀ {os : List Wd} {i j : Nat} {w : Wd} {q : Nat × Nat × Wd}, q ∈ ftRow i w j os → ∃ o, os[q.2.1 - j]? = some o ∧ j ≤ q.2.1 ∧ q.1 = i ∧ w.isPrefixOf o = true ∧ w.length < o.length ∧ q.2.2 = o.drop w.length
  | [], i, j, w, q, h => by simp [ftRow] at h
  | o :: os, i, j, w, q, h => by
    rw [ftRow] at h
    rcases List.mem_append.mp h with z | z
    · split at z
      · rename_i hc
        have : q = (i, j, o.drop w.length) := by simpa using z
        subst this
        exact ⟨o, by simp, Nat.le_refl _, rfl, hc.1, hc.2, rfl⟩
      · simp at z
    · obtain ⟨o', h1, h2, h3⟩ := ft_mem (ws := ws) z
      refine ⟨o', ?_, by omega, h3⟩
      rw [show q.2.1 - j = (q.2.1 - (j + 1)) + 1 by omega, List.getElem?_cons_succ]
      exact h1
theorem fa_mem {ws : List Wd} : ∀ {r : List Wd} {i : Nat} {q : Nat × Nat × Wd}, q ∈ ftAll ws i r → ∃ w o, r[q.1 - i]? = some w ∧ i ≤ q.1 ∧ ws[q.2.1]? = some o ∧ w.isPrefixOf o = true ∧ w.length < o.length ∧ q.2.2 = o.drop w.length
  | [], i, q, h => by simp [ftAll] at h
  | w :: r, i, q, h => by
    rw [ftAll] at h
    rcases List.mem_append.mp h with z | z
    · obtain ⟨o, h1, h2, h3, h4, h5, h6⟩ := ft_mem (ws := ws) z
      exact ⟨w, o, by rw [h3]; simp, by omega, by simpa using h1, h4, h5, h6⟩
    · obtain ⟨w', o, h1, h2, h3⟩ := fa_mem z
      refine ⟨w', o, ?_, by omega, h3⟩
      rw [show q.1 - i = (q.1 - (i + 1)) + 1 by omega, List.getElem?_cons_succ]
      exact h1
theorem tf_mem {t : Wd} : ∀ {r : List Wd} {i : Nat} {q : Nat × Wd × Bool}, q ∈ tfAll t i r → ∃ w, r[q.1 - i]? = some w ∧ i ≤ q.1 ∧
    ((t.isPrefixOf w = true ∧ t.length < w.length ∧ q.2 = (w.drop t.length, true)) ∨ (w.isPrefixOf t = true ∧ w.length < t.length ∧ q.2 = (t.drop w.length, false)))
  | [], i, q, h => by simp [tfAll] at h
  | w :: r, i, q, h => by
    rw [tfAll] at h
    rcases List.mem_append.mp h with z | z
    · split at z
      · rename_i hc
        have : q = (i, w.drop t.length, true) := by simpa using z
        subst this
        exact ⟨w, by simp, Nat.le_refl _, .inl ⟨hc.1, hc.2, rfl⟩⟩
      · simp at z
    · rcases List.mem_append.mp z with z | z
      · split at z
        · rename_i hc
          have : q = (i, t.drop w.length, false) := by simpa using z
          subst this
          exact ⟨w, by simp, Nat.le_refl _, .inr ⟨hc.1, hc.2, rfl⟩⟩
        · simp at z
      · obtain ⟨w', h1, h2, h3⟩ := tf_mem z
        refine ⟨w', ?_, by omega, h3⟩
        rw [show q.1 - i = (q.1 - (i + 1)) + 1 by omega, List.getElem?_cons_succ]
        exact h1
theorem pre_split {w o : Wd} (h : w.isPrefixOf o = true) : o = w ++ o.drop w.length := by
  rw [List.isPrefixOf_iff_prefix] at h
  obtain ⟨r, rfl⟩ := h
  simp
theorem spell_one {ws : List Wd} {i : Nat} {w : Wd} (h : ws[i]? = some w) : spell ws [i] = w := by
  simp [spell, h]
theorem spell_app (ws : List Wd) (m : List Nat) (i : Nat) {w : Wd} (h : ws[i]? = some w) : spell ws (m ++ [i]) = spell ws m ++ w := by
  simp [spell, h]
theorem Jn.first {ws : List Wd} {r : List Ent} (J : Jn ws r) (hw : ∀ w ∈ ws, 1 ≤ w.length) {q : Nat × Nat × Wd} (h : q ∈ ftAll ws 0 ws) : Jn ws (addE r (q.2.2, [q.1], [q.2.1])) := by
  obtain ⟨w, o, h1, _, h2, h3, h4, h5⟩ := fa_mem h
  rw [Nat.sub_zero] at h1
  have l1 := (List.getElem?_eq_some_iff.mp h1).1
  have l2 := (List.getElem?_eq_some_iff.mp h2).1
  have hw1 := hw w (List.mem_of_getElem? h1)
  refine J.add ?_ ?_ ?_ ?_ (by simp)
  · exact mem_sufs.mpr ⟨o, List.mem_of_getElem? h2, w.length, hw1, h4, h5⟩
  · rw [spell_one h1, spell_one h2]
    show w ++ q.2.2 = o
    rw [h5]
    exact (pre_split h3).symm
  · exact ⟨by simpa using l1, by simpa using l2⟩
  · refine ⟨q.1, q.2.1, rfl, rfl, fun z => ?_⟩
    rw [z, h2] at h1
    cases h1
    omega
theorem Jn.step {ws : List Wd} {r : List Ent} (J : Jn ws r) (hw : ∀ w ∈ ws, 1 ≤ w.length) {e : Ent} {at_ : Nat} (he : r[at_]? = some e) {q : Nat × Wd × Bool} (h : q ∈ tfAll e.1 0 ws) : Jn ws (addE r (q.2.1, lng e.2 q.1 q.2.2)) := by
  obtain ⟨w, h1, _, h2⟩ := tf_mem h
  rw [Nat.sub_zero] at h1
  have l1 := (List.getElem?_eq_some_iff.mp h1).1
  obtain ⟨la, ea⟩ := List.getElem?_eq_some_iff.mp he
  have hm := List.mem_of_getElem? he
  obtain ⟨o, ho, k, k1, k2, k3⟩ := mem_sufs.mp (J.suf e hm)
  have htl : e.1.length = o.length - k := by rw [k3, List.length_drop]
  have hw1 := hw w (List.mem_of_getElem? h1)
  have jl := J.len at_ la
  rw [ea] at jl
  obtain ⟨x, y, hx, hy, hxy⟩ := J.hd e hm
  have happ : ∀ {l : List Nat} {x : Nat} (n : Nat), l.head? = some x → (l ++ [n]).head? = some x := fun {l x} n hl => by
    cases l with
    | nil => cases hl
    | cons a l => exact hl
  have htx := J.txt e hm
  obtain ⟨r1, r2⟩ := J.rng e hm
  have rap : ∀ {l : List Nat}, (∀ i ∈ l, i < ws.length) → ∀ i ∈ l ++ [q.1], i < ws.length := fun {l} hl i hi => by
    rcases List.mem_append.mp hi with z | z
    · exact hl i z
    · have : i = q.1 := by simpa using z
      omega
  rcases h2 with ⟨p1, p2, p3⟩ | ⟨p1, p2, p3⟩
  · have e1 : q.2.1 = w.drop e.1.length := by rw [p3]
    have e2 : q.2.2 = true := by rw [p3]
    refine J.add ?_ ?_ ?_ ?_ ?_
    · exact mem_sufs.mpr ⟨w, List.mem_of_getElem? h1, e.1.length, by omega, p2, e1⟩
    · simp only [lng, e2, if_true]
      rw [spell_app ws e.2.1 q.1 h1, ← htx, e1, List.append_assoc, ← pre_split p1]
    · simp only [lng, e2, if_true]
      exact ⟨r2, rap r1⟩
    · simp only [lng, e2, if_true]
      exact ⟨y, x, hy, happ _ hx, Ne.symm hxy⟩
    · simp only [lng, e2, if_true, List.length_append, List.length_cons, List.length_nil]
      omega
  · have e1 : q.2.1 = e.1.drop w.length := by rw [p3]
    have e2 : q.2.2 = false := by rw [p3]
    refine J.add ?_ ?_ ?_ ?_ ?_
    · refine mem_sufs.mpr ⟨o, ho, k + w.length, by omega, by omega, ?_⟩
      show q.2.1 = _
      rw [e1, k3, List.drop_drop]
    · simp only [lng, e2, Bool.false_eq_true, if_false]
      show spell ws (e.2.1 ++ [q.1]) ++ q.2.1 = _
      rw [spell_app ws e.2.1 q.1 h1, ← htx, e1, List.append_assoc, ← pre_split p1]
    · simp only [lng, e2, Bool.false_eq_true, if_false]
      exact ⟨rap r1, r2⟩
    · simp only [lng, e2, Bool.false_eq_true, if_false]
      exact ⟨x, y, happ _ hx, hy, hxy⟩
    · simp only [lng, e2, Bool.false_eq_true, if_false, List.length_append, List.length_cons, List.length_nil]
      omega
/-- the rows at first; those behind the tail at a place -/
def firstR (qs : List (Nat × Nat × Wd)) (r : List Ent) : List Ent := qs.foldl (fun r q => addE r (q.2.2, [q.1], [q.2.1])) r
def stepR (e : Ent) (qs : List (Nat × Wd × Bool)) (r : List Ent) : List Ent := qs.foldl (fun r q => addE r (q.2.1, lng e.2 q.1 q.2.2)) r
theorem firstR_ok {ws : List Wd} (hw : ∀ w ∈ ws, 1 ≤ w.length) : ∀ (qs : List (Nat × Nat × Wd)) (r : List Ent), (∀ q ∈ qs, q ∈ ftAll ws 0 ws) → Jn ws r → Jn ws (firstR qs r)
  | [], r, _, J => J
  | q :: qs, r, h, J => firstR_ok hw qs _ (fun x hx => h x (List.mem_cons_of_mem _ hx)) (J.first hw (h q List.mem_cons_self))
theorem stepR_ok {ws : List Wd} (hw : ∀ w ∈ ws, 1 ≤ w.length) {e : Ent} {at_ : Nat} : ∀ (qs : List (Nat × Wd × Bool)) (r : List Ent), (∀ q ∈ qs, q ∈ tfAll e.1 0 ws) → r[at_]? = some e → Jn ws r → Jn ws (stepR e qs r)
  | [], r, _, _, J => J
  | q :: qs, r, h, he, J => stepR_ok hw qs _ (fun x hx => h x (List.mem_cons_of_mem _ hx)) (by rw [addE_get (List.getElem?_eq_some_iff.mp he).1]; exact he) (J.step hw he (h q List.mem_cons_self))
/-- what reading finds, from the place at_ on -/
def rdLoop (ws : List Wd) : Nat → Nat → List Ent → Option ((Nat × Ent) ⊕ List Ent)
  | 0, _, _ => none
  | f + 1, at_, r => match r[at_]? with
    | none => some (.inr r)
    | some e => if e.1 ∈ ws then some (.inl (at_, e)) else rdLoop ws f (at_ + 1) (stepR e (tfAll e.1 0 ws) r)
end VS
namespace VS
open PySem PySem.Spec L2
open PyProof.Rows hiding St
/-! ### reading, walked -/
def msD (m : List Nat) : D := .lst (m.map fun (n : Nat) => D.int n)
def prD (m : List Nat × List Nat) : D := .tup [msD m.1, msD m.2]
def kvT (e : Ent) : Key × T := (.inr (S e.1), .s (prD e.2))
theorem kv_eq {t u : Wd} : (Sum.inr (S t) : Key) = .inr (S u) ↔ t = u := by simp
theorem has_kv (t : Wd) : ∀ r : List Ent, hasT (r.map kvT) (.inr (S t)) = decide (t ∈ keys r)
  | [] => by simp [hasT, keys]
  | e :: r => by
    have ih := has_kv t r
    unfold hasT keys at ih ⊢
    rw [List.map_cons, List.any_cons, ih]
    by_cases h : e.1 = t
    · simp [kvT, h]
    · simp [kvT, h, Ne.symm h]
theorem put_kv {t : Wd} {m : List Nat × List Nat} {r : List Ent} (h : t ∉ keys r) : putT (r.map kvT) (.inr (S t)) (.s (prD m)) = some ((r ++ [(t, m)]).map kvT) := by
  unfold putT
  rw [has_kv, decide_eq_false h, if_neg (by simp), List.map_append]
  rfl
theorem get_kv : ∀ {r : List Ent} {e : Ent}, (keys r).Nodup → e ∈ r → getT (r.map kvT) (.inr (S e.1)) = some (.s (prD e.2))
  | [], e, _, h => by simp at h
  | x :: r, e, nd, h => by
    unfold getT
    rw [List.map_cons]
    by_cases hx : x.1 = e.1
    · rw [List.find?_cons_of_pos (by simp [kvT, hx])]
      rcases List.mem_cons.mp h with rfl | h
      · rfl
      · exact absurd (List.mem_map_of_mem (f := fun z : Ent => z.1) h) (by
          have h1 : x.1 ∉ keys r := (List.nodup_cons.mp nd).1
          rw [hx] at h1
          exact h1)
    · rw [List.find?_cons_of_neg (by simp [kvT, hx])]
      rcases List.mem_cons.mp h with rfl | h
      · exact absurd rfl hx
      · exact get_kv (List.nodup_cons.mp nd).2 h
@[simp] theorem pDn_ap (t : Wd) (kvs : List (Key × T)) : pDn (sT t) (.dk kvs) = some (.s (.bl (!hasT kvs (.inr (S t))))) := rfl
@[simp] theorem pDg_ap (t : Wd) (kvs : List (Key × T)) : pDg (.dk kvs) (sT t) = (getT kvs (.inr (S t))).bind fun t => t.sh.map T.s := rfl
theorem add_ms (m : List Nat) (n : Nat) (h : m.length ≤ 100) : pAdd (.s (msD m)) (.l [.s (.int (n : Nat))]) = some (.l ((m ++ [n]).map fun (k : Nat) => T.s (.int k))) := by
  have e : pAdd (.s (msD m)) (.l [.s (.int (n : Nat))]) = if (m.map fun (k : Nat) => D.int k).length + [D.int (n : Nat)].length ≤ sizeLine then some (.l (((m.map fun (k : Nat) => D.int k) ++ [D.int (n : Nat)]).map T.s)) else none := rfl
  rw [e, if_pos (few (by simp; omega))]
  simp
theorem er_ms (m : List Nat) : er (.l (m.map fun (k : Nat) => T.s (.int k))) = msD m := by
  have e : (m.map fun (k : Nat) => T.s (D.int k)) = (m.map fun (k : Nat) => D.int k).map T.s := by simp
  rw [er_l, e, ers_map]
  rfl
theorem er_ms2 (m : List Nat) (n : Nat) : er (.l (m.map (fun (k : Nat) => T.s (.int k)) ++ [.s (.int (n : Nat))])) = msD (m ++ [n]) := by
  rw [← er_ms, List.map_append]
  rfl
theorem longer_ok {m : List Nat × List Nat} {n : Nat} {p : Bool} (h1 : m.1.length ≤ 100) : m_longer_messages [.s (prD m), .s (.int (n : Nat)), .s (.bl p)] = .ok (.s (prD (lng m n p)), [none, none, none]) := by
  cases p
  · simp -implicitDefEqProofs [m_longer_messages, b_longer_messages, prD, lng, add_ms, h1, few, er_ms2, -er_l]
  · simp -implicitDefEqProofs [m_longer_messages, b_longer_messages, prD, lng, add_ms, h1, few, er_ms2, -er_l]
/-- the words: few and short -/
structure Sm (ws : List Wd) : Prop where
  n : ws.length ≤ 8
  w : ∀ w ∈ ws, 1 ≤ w.length ∧ w.length ≤ 5
  c : ∀ w ∈ ws, ∀ x ∈ w, x < 1114112
theorem Jn.few {ws : List Wd} {r : List Ent} (M : Sm ws) (J : Jn ws r) : r.length ≤ 32 := by
  have := J.size (n := 5) fun w hw => (M.w w hw).2
  have h2 := M.n
  omega
theorem Jn.short {ws : List Wd} {r : List Ent} (M : Sm ws) (J : Jn ws r) {e : Ent} (h : e ∈ r) : e.1.length ≤ 5 ∧ 1 ≤ e.1.length ∧ e.2.1.length ≤ 33 ∧ e.2.2.length ≤ 33 := by
  obtain ⟨w, hw, k, k1, k2, k3⟩ := mem_sufs.mp (J.suf e h)
  have hl := (M.w w hw).2
  obtain ⟨i, hi, rfl⟩ := List.getElem_of_mem h
  have h1 := J.len i hi
  have h2 := J.few M
  obtain ⟨x, y, hx, hy, _⟩ := J.hd _ h
  have hx' : 1 ≤ r[i].2.1.length := by
    rcases hc : r[i].2.1 with _ | ⟨a, l⟩
    · rw [hc] at hx; cases hx
    · simp
  have hy' : 1 ≤ r[i].2.2.length := by
    rcases hc : r[i].2.2 with _ | ⟨a, l⟩
    · rw [hc] at hy; cases hy
    · simp
  rw [k3, List.length_drop]
  omega
theorem rd_lp1 {ws : List Wd} (M : Sm ws) (c : Option T) (rest : En) : ∀ (qs : List (Nat × Nat × Wd)) (r : List Ent) (x y z : Option T), (∀ q ∈ qs, q ∈ ftAll ws 0 ws) → Jn ws r →
    ∃ x' y' z', forL (gtup 3 (gcons (stS 3) (gcons (stS 4) (gcons (stS 5) gnil)))) bo_reading_1 (qs.map ftD) (c :: some (.dk (r.map kvT)) :: some (.l ((keys r).map sT)) :: x :: y :: z :: rest) =
      .ok (.nx, c :: some (.dk ((firstR qs r).map kvT)) :: some (.l ((keys (firstR qs r)).map sT)) :: x' :: y' :: z' :: rest)
  | [], r, x, y, z, _, J => ⟨x, y, z, by simp [firstR]⟩
  | q :: qs, r, x, y, z, h, J => by
    have J' := J.first (fun w hw => (M.w w hw).1) (h q List.mem_cons_self)
    obtain ⟨x', y', z', e⟩ := rd_lp1 M c rest qs (addE r (q.2.2, [q.1], [q.2.1])) (some (.s (.int (q.1 : Nat)))) (some (.s (.int (q.2.1 : Nat)))) (some (sT q.2.2)) (fun a ha => h a (List.mem_cons_of_mem _ ha)) J'
    refine ⟨x', y', z', ?_⟩
    have hr := J.few M
    have hf : firstR (q :: qs) r = firstR qs (addE r (q.2.2, [q.1], [q.2.1])) := rfl
    rw [List.map_cons, forL_cons, hf, ← e]
    have hkl : (keys r).length = r.length := by simp [keys]
    by_cases hm : q.2.2 ∈ keys r
    · have ha : addE r (q.2.2, [q.1], [q.2.1]) = r := if_pos hm
      rw [ha]
      simp -implicitDefEqProofs [bo_reading_1_ap, ftD, has_kv, hm]
    · have ha : addE r (q.2.2, [q.1], [q.2.1]) = r ++ [(q.2.2, [q.1], [q.2.1])] := if_neg hm
      have hp := put_kv (m := ([q.1], [q.2.1])) hm
      simp only [prD, msD, List.map_cons, List.map_nil] at hp
      rw [ha]
      simp -implicitDefEqProofs [bo_reading_1_ap, ftD, has_kv, hm, few, few', hp, show r.length ≤ 1000000 by omega, hkl]
      simp [keys]
theorem rd_lp2 {ws : List Wd} (M : Sm ws) (c : Option T) {e : Ent} {at_ : Nat} (u v w : Option T) : ∀ (qs : List (Nat × Wd × Bool)) (r : List Ent) (x y z a : Option T), (∀ q ∈ qs, q ∈ tfAll e.1 0 ws) → r[at_]? = some e → Jn ws r →
    ∃ x' z' a', forL (gtup 3 (gcons (stS 3) (gcons (stS 9) (gcons (stS 10) gnil)))) bo_reading_2 (qs.map tfD) [c, some (.dk (r.map kvT)), some (.l ((keys r).map sT)), x, y, some (sT e.1), u, v, w, z, a] =
      .ok (.nx, [c, some (.dk ((stepR e qs r).map kvT)), some (.l ((keys (stepR e qs r)).map sT)), x', y, some (sT e.1), u, v, w, z', a'])
  | [], r, x, y, z, a, _, _, J => ⟨x, z, a, by simp [stepR]⟩
  | q :: qs, r, x, y, z, a, h, he, J => by
    have J' := J.step (fun w hw => (M.w w hw).1) he (h q List.mem_cons_self)
    have hem := List.mem_of_getElem? he
    have hs := J.short M hem
    have hg := get_kv J.nd hem
    obtain ⟨x', z', a', e1⟩ := rd_lp2 M c (e := e) (at_ := at_) u v w qs (addE r (q.2.1, lng e.2 q.1 q.2.2)) (some (.s (.int (q.1 : Nat)))) y (some (sT q.2.1)) (some (.s (.bl q.2.2))) (fun a ha => h a (List.mem_cons_of_mem _ ha))
      (by rw [addE_get (List.getElem?_eq_some_iff.mp he).1]; exact he) J'
    refine ⟨x', z', a', ?_⟩
    have hr := J.few M
    have hf : stepR e (q :: qs) r = stepR e qs (addE r (q.2.1, lng e.2 q.1 q.2.2)) := rfl
    rw [List.map_cons, forL_cons, hf, ← e1]
    have hkl : (keys r).length = r.length := by simp [keys]
    by_cases hm : q.2.1 ∈ keys r
    · have ha : addE r (q.2.1, lng e.2 q.1 q.2.2) = r := if_pos hm
      rw [ha]
      simp -implicitDefEqProofs [bo_reading_2_ap, tfD, has_kv, hm]
    · have ha : addE r (q.2.1, lng e.2 q.1 q.2.2) = r ++ [(q.2.1, lng e.2 q.1 q.2.2)] := if_neg hm
      have hp := put_kv (m := lng e.2 q.1 q.2.2) hm
      have hl := longer_ok (m := e.2) (n := q.1) (p := q.2.2) (by omega)
      rw [ha]
      simp -implicitDefEqProofs [bo_reading_2_ap, tfD, has_kv, hm, few, few', hp, hg, hl, show r.length ≤ 1000000 by omega, hkl]
      simp [keys]
end VS
namespace VS
open PySem PySem.Spec L2
open PyProof.Rows hiding St
theorem idx_ok {t : Wd} : ∀ {ws : List Wd}, t ∈ ws → ∃ i : Nat, idxD (sD t) (ws.map sD) = some i ∧ ws[i]? = some t
  | [], h => by simp at h
  | w :: ws, h => by
    rw [List.map_cons, idxD]
    by_cases hw : w = t
    · subst hw
      refine ⟨0, ?_, rfl⟩
      rw [if_pos (by rw [eqF_str]; simp)]
    · obtain ⟨i, h1, h2⟩ := idx_ok (ws := ws) (by simpa [Ne.symm hw] using h)
      refine ⟨i + 1, ?_, by simpa using h2⟩
      rw [if_neg (by rw [eqF_str]; simpa using hw), h1]
      rfl
theorem index_ok {t : Wd} {ws : List Wd} (h : t ∈ ws) : ∃ i : Nat, pIndex (.s (.lst (ws.map sD))) [sT t] = some (.s (.int (i : Nat))) ∧ ws[i]? = some t := by
  obtain ⟨i, h1, h2⟩ := idx_ok h
  refine ⟨i, ?_, h2⟩
  simp only [pIndex, ls_lst, Option.bind_some]
  rw [if_pos (by rw [all_flat]; rfl), h1]
  rfl
theorem stepR_len (e : Ent) : ∀ (qs : List (Nat × Wd × Bool)) (r : List Ent), r.length ≤ (stepR e qs r).length
  | [], r => Nat.le_refl _
  | q :: qs, r => Nat.le_trans (addE_len r _) (stepR_len e qs _)
theorem rdLoop_some {ws : List Wd} (M : Sm ws) : ∀ (f at_ : Nat) (r : List Ent), Jn ws r → at_ ≤ r.length → 33 ≤ at_ + f → ∃ res, rdLoop ws f at_ r = some res
  | 0, at_, r, J, h1, h2 => by
    have := J.few M
    omega
  | f + 1, at_, r, J, h1, h2 => by
    rw [rdLoop]
    cases he : r[at_]? with
    | none => exact ⟨_, rfl⟩
    | some e =>
      simp only
      split
      · exact ⟨_, rfl⟩
      · have hlt := (List.getElem?_eq_some_iff.mp he).1
        exact rdLoop_some M f (at_ + 1) _ (stepR_ok (fun w hw => (M.w w hw).1) _ r (fun _ h => h) he J) (by have := stepR_len e (tfAll e.1 0 ws) r; omega) (by omega)
def dblD (b a : List Nat) : D := .tup [.str (Str.ofString "double"), msD b, msD a]
theorem rd_while {ws : List Wd} (M : Sm ws) : ∀ (f at_ : Nat) (r : List Ent) (x3 x4 x5 x7 x8 x9 x10 : Option T), Jn ws r →
    (∀ r', rdLoop ws f at_ r = some (.inr r') → ∃ y3 y5 y6 y9 y10, whileL te_reading_4 bo_reading_3 f [some (.s (.lst (ws.map sD))), some (.dk (r.map kvT)), some (.l ((keys r).map sT)), x3, x4, x5, some (.s (.int (at_ : Nat))), x7, x8, x9, x10] =
        .ok (.nx, [some (.s (.lst (ws.map sD))), some (.dk (r'.map kvT)), some (.l ((keys r').map sT)), y3, x4, y5, y6, x7, x8, y9, y10]) ∧ Jn ws r') ∧
    (∀ at' e, rdLoop ws f at_ r = some (.inl (at', e)) → ∃ (i : Nat) (en' : En), whileL te_reading_4 bo_reading_3 f [some (.s (.lst (ws.map sD))), some (.dk (r.map kvT)), some (.l ((keys r).map sT)), x3, x4, x5, some (.s (.int (at_ : Nat))), x7, x8, x9, x10] =
        .ok (.rt (.s (dblD (e.2.1 ++ [i]) e.2.2)), some (.s (.lst (ws.map sD))) :: en') ∧ ws[i]? = some e.1 ∧ ∃ r', Jn ws r' ∧ e ∈ r')
  | 0, at_, r, x3, x4, x5, x7, x8, x9, x10, J => ⟨fun r' h => by simp [rdLoop] at h, fun at' e h => by simp [rdLoop] at h⟩
  | f + 1, at_, r, x3, x4, x5, x7, x8, x9, x10, J => by
    have hkl : (keys r).length = r.length := by simp [keys]
    rw [rdLoop, whileL_succ]
    cases he : r[at_]? with
    | none =>
      have hge : r.length ≤ at_ := by simpa using he
      refine ⟨fun r' h => ?_, fun at' e h => by simp at h⟩
      have e : r = r' := by simpa using h
      subst e
      refine ⟨x3, x5, some (.s (.int (at_ : Nat))), x9, x10, ?_, J⟩
      have hn : ¬ at_ < r.length := by omega
      simp -implicitDefEqProofs [te_reading_4_ap, hkl, hn]
    | some e =>
      have hlt := (List.getElem?_eq_some_iff.mp he).1
      have hem := List.mem_of_getElem? he
      have hk0 : (keys r)[at_]? = some e.1 := by unfold keys; rw [List.getElem?_map, he]; rfl
      have hk : atI ((keys r).map sD) (at_ : Int) = some (sD e.1) := by rw [atI_nat, List.getElem?_map, hk0]; rfl
      have hs := J.short M hem
      have hg := get_kv J.nd hem
      simp only
      by_cases hc : e.1 ∈ ws
      · rw [if_pos hc]
        refine ⟨fun r' h => by simp at h, fun at' e' h => ?_⟩
        have ee : at_ = at' ∧ e = e' := by simpa using h
        obtain ⟨rfl, rfl⟩ := ee
        obtain ⟨i, hi1, hi2⟩ := index_ok hc
        refine ⟨i, ?_, ?_, hi2, r, J, hem⟩
        rotate_left
        simp -implicitDefEqProofs [te_reading_4_ap, bo_reading_3_ap, hkl, hlt, hk, hc, hg, prD, hi1, add_ms, show e.2.1.length ≤ 100 by omega, few, er_ms2, -er_l, dblD]
        rfl
      · rw [if_neg hc]
        have hw := fun w hw => (M.w w hw).1
        obtain ⟨y3, y9, y10, e1⟩ := rd_lp2 M (some (.s (.lst (ws.map sD)))) (e := e) (at_ := at_) (some (.s (.int (at_ : Nat)))) x7 x8 (tfAll e.1 0 ws) r x3 x4 x9 x10 (fun _ h => h) he J
        have J' := stepR_ok hw _ r (fun _ h => h) he J
        obtain ⟨k1, k2⟩ := rd_while M f (at_ + 1) (stepR e (tfAll e.1 0 ws) r) y3 x4 (some (sT e.1)) x7 x8 y9 y10 J'
        have ht := tails_from_ok (ws := ws) (t := e.1) (by have := M.n; omega) (fun o ho => by have := (M.w o ho).2; omega) (by omega)
        have step : ∀ {res : R En (Fl × En)}, whileL te_reading_4 bo_reading_3 f [some (.s (.lst (ws.map sD))), some (.dk ((stepR e (tfAll e.1 0 ws) r).map kvT)), some (.l ((keys (stepR e (tfAll e.1 0 ws) r)).map sT)), y3, x4, some (sT e.1), some (.s (.int ((at_ + 1 : Nat) : Int))), x7, x8, y9, y10] = res →
            whN te_reading_4 bo_reading_3 f (te_reading_4 [some (.s (.lst (ws.map sD))), some (.dk (r.map kvT)), some (.l ((keys r).map sT)), x3, x4, x5, some (.s (.int (at_ : Nat))), x7, x8, x9, x10]) = res := by
          intro res h
          rw [← h]
          simp -implicitDefEqProofs [te_reading_4_ap, bo_reading_3_ap, hkl, hlt, hk, hc, ht, e1, pIadd]
        refine ⟨fun r' h => ?_, fun at' e' h => ?_⟩
        · obtain ⟨a, b, cc, d, g, h1, h2⟩ := k1 r' h
          exact ⟨a, b, cc, d, g, step h1, h2⟩
        · obtain ⟨i, en', h1, h2, h3⟩ := k2 at' e' h
          exact ⟨i, en', step h1, h2, h3⟩
theorem sorted_words (y : T) : ∀ (ts : List Wd), y.ls = some (ts.map sD) → pSorted [y] = some (.l (((sortS (ts.map S)).map D.str).map T.s))
  | [], h => by
    unfold pSorted
    simp only [h]
    simp [intsO, sortI, sortS]
  | t :: ts, h => by
    have e : strsO ((t :: ts).map sD) = some ((t :: ts).map S) := by
      have := strsO_S (t :: ts)
      rwa [List.map_map] at this
    unfold pSorted
    simp only [h]
    rw [List.map_cons] at e ⊢
    simp only [intsO, e, Option.map_some]
/-- what reading tells -/
theorem reading_ok {ws : List Wd} (M : Sm ws) : ∃ told, m_reading [.s (.lst (ws.map sD))] = .ok (.s told, [none]) ∧
    ((∃ r, rdLoop ws 1000 0 (firstR (ftAll ws 0 ws) []) = some (.inr r) ∧ Jn ws r ∧ told = .tup [.str (Str.ofString "single"), .lst ((sortS ((keys r).map S)).map D.str)]) ∨
      ∃ at_ e i r', rdLoop ws 1000 0 (firstR (ftAll ws 0 ws) []) = some (.inl (at_, e)) ∧ ws[i]? = some e.1 ∧ Jn ws r' ∧ e ∈ r' ∧ told = dblD (e.2.1 ++ [i]) e.2.2) := by
  have hw := fun w hw => (M.w w hw).1
  obtain ⟨x', y', z', e1⟩ := rd_lp1 M (some (.s (.lst (ws.map sD)))) [none, none, none, none, none] (ftAll ws 0 ws) [] none none none (fun _ h => h) (Jn.nil ws)
  have J := firstR_ok hw (ftAll ws 0 ws) [] (fun _ h => h) (Jn.nil ws)
  have hf := first_tails_ok (ws := ws) (by have := M.n; omega) (fun o ho => by have := (M.w o ho).2; omega)
  obtain ⟨res, hr⟩ := rdLoop_some M 1000 0 _ J (by omega) (by omega)
  obtain ⟨k1, k2⟩ := rd_while M 1000 0 _ x' y' z' none none none none J
  have e1' : forL (gtup 3 (gcons (stS 3) (gcons (stS 4) (gcons (stS 5) gnil)))) bo_reading_1 ((ftAll ws 0 ws).map ftD) [some (.s (.lst (ws.map sD))), some (.dk []), some (.l []), none, none, none, none, none, none, none, none] = _ := e1
  cases res with
  | inl q =>
    obtain ⟨at_, e⟩ := q
    obtain ⟨i, en', h1, h2, r', J', hm⟩ := k2 at_ e hr
    rw [show ((0 : Nat) : Int) = 0 from rfl] at h1
    refine ⟨_, ?_, .inr ⟨at_, e, i, r', hr, h2, J', hm, rfl⟩⟩
    simp -implicitDefEqProofs [m_reading, b_reading, few, hf, e1', h1]
  | inr r =>
    obtain ⟨y3, y5, y6, y9, y10, h1, J'⟩ := k1 r hr
    rw [show ((0 : Nat) : Int) = 0 from rfl] at h1
    refine ⟨_, ?_, .inl ⟨r, hr, J', rfl⟩⟩
    have hp := sorted_words (.l ((keys r).map sT)) (keys r) (ls_words _)
    simp -implicitDefEqProofs [m_reading, b_reading, few, hf, e1', h1, hp, -List.map_map]
end VS
namespace VS
open PySem PySem.Spec L2
open PyProof.Rows hiding St
/-! ### the law's own closure -/
def addT (F : List Wd) (t : Wd) : List Wd := if t ∈ F then F else F ++ [t]
theorem keys_add (r : List Ent) (e : Ent) : keys (addE r e) = addT (keys r) e.1 := by
  unfold addE addT
  split
  · rfl
  · simp [keys]
theorem addT_mem {F : List Wd} {t x : Wd} (h : x ∈ F) : x ∈ addT F t := by
  unfold addT
  split
  · exact h
  · exact List.mem_append_left _ h
theorem addT_self (F : List Wd) (t : Wd) : t ∈ addT F t := by
  unfold addT
  split
  · assumption
  · simp
def addTs (F : List Wd) (ts : List Wd) : List Wd := ts.foldl addT F
theorem addTs_mem {x : Wd} : ∀ {ts : List Wd} {F : List Wd}, x ∈ F → x ∈ addTs F ts
  | [], F, h => h
  | t :: ts, F, h => addTs_mem (ts := ts) (addT_mem h)
theorem addTs_all {x : Wd} : ∀ {ts : List Wd} {F : List Wd}, x ∈ ts → x ∈ addTs F ts
  | t :: ts, F, h => by
    rcases List.mem_cons.mp h with rfl | h
    · exact addTs_mem (ts := ts) (addT_self F x)
    · exact addTs_all (ts := ts) h
theorem keys_first : ∀ (qs : List (Nat × Nat × Wd)) (r : List Ent), keys (firstR qs r) = addTs (keys r) (qs.map (·.2.2))
  | [], r => rfl
  | q :: qs, r => by
    show keys (firstR qs (addE r _)) = _
    rw [keys_first qs, keys_add]
    rfl
theorem keys_step (e : Ent) : ∀ (qs : List (Nat × Wd × Bool)) (r : List Ent), keys (stepR e qs r) = addTs (keys r) (qs.map (·.2.1))
  | [], r => rfl
  | q :: qs, r => by
    show keys (stepR e qs (addE r _)) = _
    rw [keys_step e qs, keys_add]
    rfl
def tlLoop (ws : List Wd) : Nat → Nat → List Wd → List Wd
  | 0, _, F => F
  | n + 1, at_, F => match F[at_]? with
    | none => F
    | some t => tlLoop ws n (at_ + 1) (addTs F ((tfAll t 0 ws).map (·.2.1)))
theorem tl_mem {ws : List Wd} {x : Wd} : ∀ {n at_ : Nat} {F : List Wd}, x ∈ F → x ∈ tlLoop ws n at_ F
  | 0, at_, F, h => h
  | n + 1, at_, F, h => by
    rw [tlLoop]
    split
    · exact h
    · exact tl_mem (addTs_mem h)
theorem rd_mono {ws : List Wd} : ∀ {f at_ : Nat} {r r' : List Ent}, rdLoop ws f at_ r = some (.inr r') → r.length ≤ r'.length
  | 0, at_, r, r', h => by simp [rdLoop] at h
  | f + 1, at_, r, r', h => by
    rw [rdLoop] at h
    split at h
    · have : r = r' := by simpa using h
      rw [this]
      exact Nat.le_refl _
    · rename_i e he
      split at h
      · simp at h
      · exact Nat.le_trans (stepR_len e _ r) (rd_mono h)
theorem tl_single {ws : List Wd} : ∀ {f at_ N : Nat} {r r' : List Ent}, rdLoop ws f at_ r = some (.inr r') → r'.length ≤ at_ + N → tlLoop ws N at_ (keys r) = keys r'
  | 0, at_, N, r, r', h, _ => by simp [rdLoop] at h
  | f + 1, at_, N, r, r', h, hN => by
    rw [rdLoop] at h
    cases he : r[at_]? with
    | none =>
      rw [he] at h
      have : r = r' := by simpa using h
      subst this
      cases N with
      | zero => rfl
      | succ N =>
        have hk : (keys r)[at_]? = none := by unfold keys; rw [List.getElem?_map, he]; rfl
        rw [tlLoop, hk]
    | some e =>
      rw [he] at h
      simp only at h
      split at h
      · simp at h
      · have hlt := (List.getElem?_eq_some_iff.mp he).1
        have hm := Nat.le_trans (stepR_len e (tfAll e.1 0 ws) r) (rd_mono h)
        have hk : (keys r)[at_]? = some e.1 := by unfold keys; rw [List.getElem?_map, he]; rfl
        cases N with
        | zero => omega
        | succ N =>
          rw [tlLoop, hk]
          simp only
          rw [← keys_step e]
          exact tl_single h (by omega)
theorem tl_double {ws : List Wd} (M : Sm ws) : ∀ {f at_ N at' : Nat} {r : List Ent} {e : Ent}, rdLoop ws f at_ r = some (.inl (at', e)) → Jn ws r → (sufs ws).length ≤ at_ + N → e.1 ∈ tlLoop ws N at_ (keys r)
  | 0, at_, N, at', r, e, h, _, _ => by simp [rdLoop] at h
  | f + 1, at_, N, at', r, e, h, J, hN => by
    rw [rdLoop] at h
    cases he : r[at_]? with
    | none => rw [he] at h; simp at h
    | some e0 =>
      rw [he] at h
      simp only at h
      have hlt := (List.getElem?_eq_some_iff.mp he).1
      have hk : (keys r)[at_]? = some e0.1 := by unfold keys; rw [List.getElem?_map, he]; rfl
      split at h
      · have ee : at_ = at' ∧ e0 = e := by simpa using h
        obtain ⟨_, rfl⟩ := ee
        exact tl_mem (List.mem_of_getElem? hk)
      · have hs : r.length ≤ (sufs ws).length := by
          have h0 := nodup_sub_len J.nd (m := sufs ws) fun t ht => by
            obtain ⟨x, hx, rfl⟩ := List.mem_map.mp ht
            exact J.suf x hx
          unfold keys at h0
          rwa [List.length_map] at h0
        cases N with
        | zero => omega
        | succ N =>
          rw [tlLoop, hk]
          simp only
          rw [← keys_step e0]
          exact tl_double M h (stepR_ok (fun w hw => (M.w w hw).1) _ r (fun _ h => h) he J) (by omega)
/-- nothing is left to be found -/
structure Clo (ws : List Wd) (r : List Ent) : Prop where
  a : ∀ q ∈ ftAll ws 0 ws, q.2.2 ∈ keys r
  b : ∀ t ∈ keys r, ∀ q ∈ tfAll t 0 ws, q.2.1 ∈ keys r
  c : ∀ t ∈ keys r, t ∉ ws
theorem stepR_get {e : Ent} : ∀ (qs : List (Nat × Wd × Bool)) (r : List Ent) {i : Nat}, i < r.length → (stepR e qs r)[i]? = r[i]?
  | [], r, i, _ => rfl
  | q :: qs, r, i, h => by
    show (stepR e qs (addE r _))[i]? = _
    rw [stepR_get qs _ (Nat.lt_of_lt_of_le h (addE_len r _)), addE_get h]
theorem rd_closed {ws : List Wd} : ∀ {f at_ : Nat} {r r' : List Ent}, rdLoop ws f at_ r = some (.inr r') → (∀ q ∈ ftAll ws 0 ws, q.2.2 ∈ keys r) →
    (∀ i e, i < at_ → r[i]? = some e → e.1 ∉ ws ∧ ∀ q ∈ tfAll e.1 0 ws, q.2.1 ∈ keys r) → Clo ws r'
  | 0, at_, r, r', h, _, _ => by simp [rdLoop] at h
  | f + 1, at_, r, r', h, ha, hb => by
    rw [rdLoop] at h
    cases he : r[at_]? with
    | none =>
      rw [he] at h
      have : r = r' := by simpa using h
      subst this
      have hge : r.length ≤ at_ := by simpa using he
      have each : ∀ t ∈ keys r, t ∉ ws ∧ ∀ q ∈ tfAll t 0 ws, q.2.1 ∈ keys r := fun t ht => by
        obtain ⟨x, hx, rfl⟩ := List.mem_map.mp ht
        obtain ⟨i, hi, rfl⟩ := List.getElem_of_mem hx
        exact hb i _ (by omega) (List.getElem?_eq_getElem hi)
      exact ⟨ha, fun t ht => (each t ht).2, fun t ht => (each t ht).1⟩
    | some e =>
      rw [he] at h
      simp only at h
      have hlt := (List.getElem?_eq_some_iff.mp he).1
      split at h
      · simp at h
      · rename_i hn
        refine rd_closed h (fun q hq => ?_) fun i x hi hx => ?_
        · rw [keys_step]; exact addTs_mem (ha q hq)
        · rw [stepR_get _ _ (show i < r.length by omega)] at hx
          by_cases hia : i = at_
          · subst hia
            rw [he] at hx
            cases hx
            refine ⟨hn, fun q hq => ?_⟩
            rw [keys_step]
            exact addTs_all (List.mem_map_of_mem hq)
          · obtain ⟨h1, h2⟩ := hb i x (by omega) hx
            refine ⟨h1, fun q hq => ?_⟩
            rw [keys_step]
            exact addTs_mem (h2 q hq)
theorem first_closed {ws : List Wd} : ∀ q ∈ ftAll ws 0 ws, q.2.2 ∈ keys (firstR (ftAll ws 0 ws) []) := fun q hq => by
  rw [keys_first]
  exact addTs_all (List.mem_map_of_mem hq)
/-! ### two messages of one text -/
theorem ft_in {ws os : List Wd} {w o : Wd} {i : Nat} (h : o ∈ os) (h1 : w.isPrefixOf o = true) (h2 : w.length < o.length) : ∀ j, ∃ q ∈ ftRow i w j os, q.2.2 = o.drop w.length := by
  induction os with
  | nil => simp at h
  | cons x os ih =>
    intro j
    rw [ftRow]
    rcases List.mem_cons.mp h with rfl | h
    · exact ⟨(i, j, o.drop w.length), List.mem_append_left _ (by rw [if_pos ⟨h1, h2⟩]; simp), rfl⟩
    · obtain ⟨q, hq, e⟩ := ih h (j + 1)
      exact ⟨q, List.mem_append_right _ hq, e⟩
theorem fa_in {ws : List Wd} {w o : Wd} (ho : o ∈ ws) (h1 : w.isPrefixOf o = true) (h2 : w.length < o.length) : ∀ {r : List Wd} (i : Nat), w ∈ r → ∃ q ∈ ftAll ws i r, q.2.2 = o.drop w.length
  | x :: r, i, h => by
    rw [ftAll]
    rcases List.mem_cons.mp h with rfl | h
    · obtain ⟨q, hq, e⟩ := ft_in (ws := ws) (i := i) ho h1 h2 0
      exact ⟨q, List.mem_append_left _ hq, e⟩
    · obtain ⟨q, hq, e⟩ := fa_in ho h1 h2 (i + 1) h
      exact ⟨q, List.mem_append_right _ hq, e⟩
theorem tf_in1 {t w : Wd} (h1 : t.isPrefixOf w = true) (h2 : t.length < w.length) : ∀ {r : List Wd} (i : Nat), w ∈ r → ∃ q ∈ tfAll t i r, q.2.1 = w.drop t.length
  | x :: r, i, h => by
    rw [tfAll]
    rcases List.mem_cons.mp h with rfl | h
    · exact ⟨(i, w.drop t.length, true), List.mem_append_left _ (by rw [if_pos ⟨h1, h2⟩]; simp), rfl⟩
    · obtain ⟨q, hq, e⟩ := tf_in1 h1 h2 (i + 1) h
      exact ⟨q, List.mem_append_right _ (List.mem_append_right _ hq), e⟩
theorem tf_in2 {t w : Wd} (h1 : w.isPrefixOf t = true) (h2 : w.length < t.length) : ∀ {r : List Wd} (i : Nat), w ∈ r → ∃ q ∈ tfAll t i r, q.2.1 = t.drop w.length
  | x :: r, i, h => by
    rw [tfAll]
    rcases List.mem_cons.mp h with rfl | h
    · exact ⟨(i, t.drop w.length, false), List.mem_append_right _ (List.mem_append_left _ (by rw [if_pos ⟨h1, h2⟩]; simp)), rfl⟩
    · obtain ⟨q, hq, e⟩ := tf_in2 h1 h2 (i + 1) h
      exact ⟨q, List.mem_append_right _ (List.mem_append_right _ hq), e⟩
theorem app_cases {a b c d : Wd} (h : a ++ b = c ++ d) : (∃ r, c = a ++ r ∧ b = r ++ d) ∨ ∃ r, a = c ++ r ∧ d = r ++ b := by
  rcases Nat.le_total a.length c.length with hl | hl
  · left
    have e1 : c.take a.length = a := by
      have := congrArg (List.take a.length) h
      rw [List.take_left, List.take_append_of_le_length hl] at this
      exact this.symm
    refine ⟨c.drop a.length, ?_, ?_⟩
    · conv => lhs; rw [← List.take_append_drop a.length c, e1]
    · have := congrArg (List.drop a.length) h
      rwa [List.drop_left, List.drop_append_of_le_length hl] at this
  · right
    have e1 : a.take c.length = c := by
      have := congrArg (List.take c.length) h
      rw [List.take_left, List.take_append_of_le_length hl] at this
      exact this
    refine ⟨a.drop c.length, ?_, ?_⟩
    · conv => lhs; rw [← List.take_append_drop c.length a, e1]
    · have := congrArg (List.drop c.length) h
      rw [List.drop_left, List.drop_append_of_le_length hl] at this
      exact this.symm
/-- a tail that hangs over is met by no two messages -/
theorem no_dangle {ws : List Wd} {r : List Ent} (C : Clo ws r) (hw : ∀ w ∈ ws, w ≠ []) : ∀ (n : Nat) (t : Wd) (x y : List Wd), x.length + y.length ≤ n → t ∈ keys r → t ≠ [] → (∀ w ∈ x, w ∈ ws) → (∀ w ∈ y, w ∈ ws) → x.flatten = t ++ y.flatten → False
  | 0, t, x, y, hl, ht, hne, hx, hy, h => by
    have : x = [] := List.eq_nil_of_length_eq_zero (by omega)
    subst this
    have := congrArg List.length h
    simp at this
    exact hne (List.eq_nil_of_length_eq_zero (by omega))
  | n + 1, t, [], y, hl, ht, hne, hx, hy, h => by
    have := congrArg List.length h
    simp at this
    exact hne (List.eq_nil_of_length_eq_zero (by omega))
  | n + 1, t, w :: x, y, hl, ht, hne, hx, hy, h => by
    rw [List.flatten_cons] at h
    simp only [List.length_cons] at hl
    have hww := hx w List.mem_cons_self
    rcases app_cases h with ⟨s, e1, e2⟩ | ⟨s, e1, e2⟩
    · by_cases hs : s = []
      · subst hs
        rw [List.append_nil] at e1
        exact C.c t ht (e1 ▸ hww)
      · obtain ⟨q, hq, e⟩ := tf_in2 (t := t) (w := w) (by rw [e1, List.isPrefixOf_iff_prefix]; exact List.prefix_append _ _) (by rw [e1, List.length_append]; have := List.length_pos_iff.mpr hs; omega) 0 hww
        have hm := C.b t ht q hq
        rw [e, e1, List.drop_left] at hm
        exact no_dangle C hw n s x y (by omega) hm hs (fun v hv => hx v (List.mem_cons_of_mem _ hv)) hy e2
    · by_cases hs : s = []
      · subst hs
        rw [List.append_nil] at e1
        exact C.c t ht (e1 ▸ hww)
      · obtain ⟨q, hq, e⟩ := tf_in1 (t := t) (w := w) (by rw [e1, List.isPrefixOf_iff_prefix]; exact List.prefix_append _ _) (by rw [e1, List.length_append]; have := List.length_pos_iff.mpr hs; omega) 0 hww
        have hm := C.b t ht q hq
        rw [e, e1, List.drop_left] at hm
        exact no_dangle C hw n s y x (by omega) hm hs hy (fun v hv => hx v (List.mem_cons_of_mem _ hv)) e2
theorem flat_nil {ws : List Wd} (hw : ∀ w ∈ ws, w ≠ []) : ∀ {x : List Wd}, (∀ w ∈ x, w ∈ ws) → x.flatten = [] → x = []
  | [], _, _ => rfl
  | w :: x, hx, h => by
    rw [List.flatten_cons, List.append_eq_nil_iff] at h
    exact absurd h.1 (hw w (hx w List.mem_cons_self))
/-- a single code: no two messages spell one text -/
theorem single_inj {ws : List Wd} {r : List Ent} (C : Clo ws r) (hw : ∀ w ∈ ws, w ≠ []) : ∀ (x y : List Wd), (∀ w ∈ x, w ∈ ws) → (∀ w ∈ y, w ∈ ws) → x.flatten = y.flatten → x = y
  | [], y, hx, hy, h => (flat_nil hw hy h.symm).symm
  | w :: x, [], hx, hy, h => flat_nil hw hx h
  | w :: x, v :: y, hx, hy, h => by
    rw [List.flatten_cons, List.flatten_cons] at h
    have hww := hx w List.mem_cons_self
    have hvv := hy v List.mem_cons_self
    have hx' := fun u hu => hx u (List.mem_cons_of_mem w hu)
    have hy' := fun u hu => hy u (List.mem_cons_of_mem v hu)
    by_cases he : w = v
    · subst he
      rw [single_inj C hw x y hx' hy' (List.append_cancel_left h)]
    · exfalso
      rcases app_cases h with ⟨s, e1, e2⟩ | ⟨s, e1, e2⟩
      · have hs : s ≠ [] := fun z => by subst z; rw [List.append_nil] at e1; exact he e1.symm
        obtain ⟨q, hq, e⟩ := fa_in (ws := ws) (w := w) (o := v) hvv (by rw [e1, List.isPrefixOf_iff_prefix]; exact List.prefix_append _ _) (by rw [e1, List.length_append]; have := List.length_pos_iff.mpr hs; omega) 0 hww
        have hm := C.a q hq
        rw [e, e1, List.drop_left] at hm
        exact no_dangle C hw _ s x y (Nat.le_refl _) hm hs hx' hy' e2
      · have hs : s ≠ [] := fun z => by subst z; rw [List.append_nil] at e1; exact he e1
        obtain ⟨q, hq, e⟩ := fa_in (ws := ws) (w := v) (o := w) hww (by rw [e1, List.isPrefixOf_iff_prefix]; exact List.prefix_append _ _) (by rw [e1, List.length_append]; have := List.length_pos_iff.mpr hs; omega) 0 hvv
        have hm := C.a q hq
        rw [e, e1, List.drop_left] at hm
        exact no_dangle C hw _ s y x (Nat.le_refl _) hm hs hy' hx' e2
end VS
namespace VS
open PySem PySem.Spec L2
open PyProof.Rows hiding St
/-! ### equal lists -/
theorem py_strs : ∀ ws : List Wd, toPys (ws.map sD) = some (ws.map fun w => PyData.str (S w))
  | [] => by simp [toPys]
  | w :: ws => by simp [toPys, toPy, py_strs ws]
theorem lay_strs : ∀ {ws : List Wd}, (∀ w ∈ ws, ∀ x ∈ w, x < 1114112) → PyData.canLayAll0 (ws.map fun w => PyData.str (S w)) = true
  | [], _ => by simp [PyData.canLayAll0]
  | w :: ws, h => by
    simp only [List.map_cons, PyData.canLayAll0, PyData.canLay0, Bool.and_eq_true]
    refine ⟨?_, lay_strs fun x hx => h x (List.mem_cons_of_mem _ hx)⟩
    unfold PyData.strOk
    simp only [S_cps, List.all_toArray, List.all_eq_true, decide_eq_true_eq]
    intro x hx
    have := h w List.mem_cons_self x hx
    omega
theorem dep_strs : ∀ ws : List Wd, PyData.depthAll (ws.map fun w => PyData.str (S w)) = 0
  | [] => by simp [PyData.depthAll]
  | w :: ws => by simp [PyData.depthAll, PyData.depth, dep_strs ws]
theorem ne_words {ws : List Wd} (h : ∀ w ∈ ws, ∀ x ∈ w, x < 1114112) : pNe (.s (.lst (ws.map sD))) (.s (.lst (ws.map sD))) = some (.s (.bl false)) := by
  have e : pNe (.s (.lst (ws.map sD))) (.s (.lst (ws.map sD))) = blO ((eqG (er (.s (.lst (ws.map sD)))) (er (.s (.lst (ws.map sD))))).map not) := rfl
  rw [e]
  simp only [er_s, eqG, toPy, py_strs, Option.map_some]
  have hl : PyData.canLay0 (.list (ws.map fun w => PyData.str (S w))) = true := by
    simp only [PyData.canLay0]
    exact lay_strs h
  have hs : SeqAt.shaped (.list (ws.map fun w => PyData.str (S w))) = true := by
    unfold SeqAt.shaped
    rw [hl]
    simp [PyData.depth, dep_strs]
  rw [hs]
  simp [SeqAt.eqv_refl, hl, blO]
theorem py_ints : ∀ m : List Nat, toPys (m.map fun (n : Nat) => D.int n) = some (m.map fun (n : Nat) => PyData.int n)
  | [] => by simp [toPys]
  | w :: ws => by simp [toPys, toPy, py_ints ws]
theorem lay_ints : ∀ m : List Nat, PyData.canLayAll0 (m.map fun (n : Nat) => PyData.int n) = true
  | [] => by simp [PyData.canLayAll0]
  | w :: ws => by simp [PyData.canLayAll0, PyData.canLay0, lay_ints ws]
theorem dep_ints : ∀ m : List Nat, PyData.depthAll (m.map fun (n : Nat) => PyData.int n) = 0
  | [] => by simp [PyData.depthAll]
  | w :: ws => by simp [PyData.depthAll, PyData.depth, dep_ints ws]
theorem eqv_ints : ∀ a b : List Nat, PyData.eqvAll (a.map fun (n : Nat) => PyData.int n) (b.map fun (n : Nat) => PyData.int n) = decide (a = b)
  | [], [] => by simp [PyData.eqvAll]
  | [], _ :: _ => by simp [PyData.eqvAll]
  | _ :: _, [] => by simp [PyData.eqvAll]
  | x :: a, y :: b => by
    simp only [List.map_cons, PyData.eqvAll, PyData.eqv, eqv_ints a b, List.cons.injEq]
    have h : (((x : Nat) : Int) == ((y : Nat) : Int)) = decide (x = y) := by
      rw [Bool.eq_iff_iff, beq_iff_eq, decide_eq_true_eq]
      omega
    rw [h, Bool.eq_iff_iff]
    simp
theorem eq_ms (a b : List Nat) : pEq (.s (msD a)) (.s (msD b)) = some (.s (.bl (decide (a = b)))) := by
  have e : pEq (.s (msD a)) (.s (msD b)) = blO (eqG (er (.s (msD a))) (er (.s (msD b)))) := rfl
  rw [e]
  have hs : ∀ m : List Nat, SeqAt.shaped (.list (m.map fun (n : Nat) => PyData.int n)) = true := fun m => by
    unfold SeqAt.shaped
    simp [PyData.canLay0, lay_ints, PyData.depth, dep_ints]
  simp only [er_s, msD, eqG, toPy, py_ints, Option.map_some, hs, Bool.and_self, if_true, PyData.eqv, eqv_ints]
  rfl
/-! ### the law's functions -/
theorem whole_ok (n : Int) : m__law_is_whole [.s (.int n)] = .ok (.s (.bl true), [none]) := by
  simp -implicitDefEqProofs [m__law_is_whole, b__law_is_whole, pIsi, tyN, isTy, tyK]
theorem msg_lp {ws : List Wd} (c v : Option T) (hc : c = some (.s (.lst (ws.map sD)))) : ∀ (m : List Nat) (ts : List T), (∀ i ∈ m, i < ws.length) → ts.length + m.length ≤ 1000 →
    lcL [2] (stS 2) te__law_is_message_1 el__law_is_message_2 (m.map fun (n : Nat) => D.int n) ts [c, v, none] = .ok (ts ++ m.map fun (n : Nat) => T.s (.int n), [c, v, none])
  | [], ts, _, _ => by simp
  | i :: m, ts, h, hl => by
    simp only [List.length_cons] at hl
    have hi := h i List.mem_cons_self
    subst hc
    have ih := msg_lp (ws := ws) (some (.s (.lst (ws.map sD)))) v rfl m (ts ++ [.s (.int (i : Nat))]) (fun j hj => h j (List.mem_cons_of_mem _ hj)) (by simp; omega)
    rw [List.map_cons, lcL_cons]
    simp -implicitDefEqProofs [te__law_is_message_1_ap, el__law_is_message_2_ap, whole_ok, hi, few', show ts.length ≤ 1000000 by omega]
    simpa using ih
theorem message_ok {ws : List Wd} {m : List Nat} (h : ∀ i ∈ m, i < ws.length) (hl : m.length ≤ 40) : m__law_is_message [.s (.lst (ws.map sD)), .s (msD m)] = .ok (.s (.bl true), [none, none]) := by
  have e := msg_lp (ws := ws) _ (some (.s (msD m))) rfl m [] h (by simp; omega)
  have hl' : ¬ (40 : Int) < (m.length : Int) := by omega
  simp only [msD, List.nil_append] at e
  simp -implicitDefEqProofs [m__law_is_message, b__law_is_message, pIsi, tyN, isTy, tyK, msD, hl', e]
theorem dbl_lp1 {ws : List Wd} (v : Option T) : ∀ (m : List Nat) (us : List Wd), (∀ i ∈ m, i < ws.length) → us.length + m.length ≤ 1000 →
    lcL [2] (stS 2) yesT el__law_is_double_1 (m.map fun (n : Nat) => D.int n) (us.map sT) [some (.s (.lst (ws.map sD))), v, none] = .ok ((us ++ m.map fun i => (ws[i]?).getD []).map sT, [some (.s (.lst (ws.map sD))), v, none])
  | [], us, _, _ => by simp
  | i :: m, us, h, hl => by
    simp only [List.length_cons] at hl
    have hi := h i List.mem_cons_self
    have ih := dbl_lp1 (ws := ws) v m (us ++ [ws[i]]) (fun j hj => h j (List.mem_cons_of_mem _ hj)) (by simp; omega)
    rw [List.map_cons, lcL_cons]
    simp -implicitDefEqProofs [el__law_is_double_1_ap, atI_nat, hi, few', show us.length ≤ 1000000 by omega]
    simpa [hi] using ih
theorem dbl_lp2 {ws : List Wd} (v : Option T) : ∀ (m : List Nat) (us : List Wd), (∀ i ∈ m, i < ws.length) → us.length + m.length ≤ 1000 →
    lcL [2] (stS 2) yesT el__law_is_double_2 (m.map fun (n : Nat) => D.int n) (us.map sT) [some (.s (.lst (ws.map sD))), v, none] = .ok ((us ++ m.map fun i => (ws[i]?).getD []).map sT, [some (.s (.lst (ws.map sD))), v, none])
  | [], us, _, _ => by simp
  | i :: m, us, h, hl => by
    simp only [List.length_cons] at hl
    have hi := h i List.mem_cons_self
    have ih := dbl_lp2 (ws := ws) v m (us ++ [ws[i]]) (fun j hj => h j (List.mem_cons_of_mem _ hj)) (by simp; omega)
    rw [List.map_cons, lcL_cons]
    simp -implicitDefEqProofs [el__law_is_double_2_ap, atI_nat, hi, few', show us.length ≤ 1000000 by omega]
    simpa [hi] using ih
theorem spell_len {ws : List Wd} (M : Sm ws) : ∀ m : List Nat, (spell ws m).length ≤ m.length * 5
  | [] => by simp [spell]
  | i :: m => by
    have ih := spell_len M m
    unfold spell at ih ⊢
    rw [List.map_cons, List.flatten_cons, List.length_append, List.length_cons]
    have h5 : ((ws[i]?).getD []).length ≤ 5 := by
      cases h : ws[i]? with
      | none => simp
      | some w => exact (M.w w (List.mem_of_getElem? h)).2
    omega
theorem double_ok {ws : List Wd} (M : Sm ws) {b a : List Nat} (hb : ∀ i ∈ b, i < ws.length) (ha : ∀ i ∈ a, i < ws.length) (lb : b.length ≤ 40) (la : a.length ≤ 40) (hne : b ≠ a) (ht : spell ws b = spell ws a) :
    m__law_is_double [.s (.lst (ws.map sD)), .s (dblD b a)] = .ok (.s (.bl true), [none, none]) := by
  have e1 := dbl_lp1 (ws := ws) (some (.s (dblD b a))) b [] hb (by simp; omega)
  have e2 := dbl_lp2 (ws := ws) (some (.s (dblD b a))) a [] ha (by simp; omega)
  have j1 := join_ok (b.map fun i => (ws[i]?).getD []) (by have := spell_len M b; unfold spell at this; omega)
  have j2 := join_ok (a.map fun i => (ws[i]?).getD []) (by have := spell_len M a; unfold spell at this; omega)
  have hl := like_refl 3 (.str (Str.ofString "double")) (by simp [plD])
  have m1 := message_ok (ws := ws) hb lb
  have m2 := message_ok (ws := ws) ha la
  simp only [dblD, msD, List.map_nil, List.nil_append] at e1 e2 m1 m2 ⊢
  have hq := eq_ms b a
  simp only [msD, hne, decide_false] at hq
  have hs : (b.map fun i => (ws[i]?).getD []).flatten = (a.map fun i => (ws[i]?).getD []).flatten := ht
  simp -implicitDefEqProofs [m__law_is_double, b__law_is_double, pIsi, tyN, isTy, tyK, hl, m1, m2, hq, e1, e2, j1, j2, hs, -List.map_map]
end VS
namespace VS
open PySem PySem.Spec L2
open PyProof.Rows hiding St
/-! ### _law_tails, walked -/
structure TI (ws : List Wd) (F : List Wd) : Prop where
  nd : F.Nodup
  suf : ∀ t ∈ F, t ∈ sufs ws
theorem TI.len {ws F : List Wd} (M : Sm ws) (I : TI ws F) : F.length ≤ 32 := by
  have h := nodup_sub_len I.nd I.suf
  have h2 := sufs_len 5 ws fun w hw => (M.w w hw).2
  have h3 := M.n
  omega
theorem TI.add {ws F : List Wd} (I : TI ws F) {t : Wd} (h : t ∈ sufs ws) : TI ws (addT F t) := by
  unfold addT
  split
  · exact I
  · rename_i hm
    refine ⟨List.nodup_append.mpr ⟨I.nd, by simp, fun x hx y hy e => ?_⟩, fun x hx => ?_⟩
    · have : y = t := by simpa using hy
      subst this; subst e
      exact hm hx
    · rcases List.mem_append.mp hx with z | z
      · exact I.suf x z
      · have : x = t := by simpa using z
        rw [this]; exact h
theorem TI.adds {ws : List Wd} : ∀ {ts : List Wd} {F : List Wd}, TI ws F → (∀ t ∈ ts, t ∈ sufs ws) → TI ws (addTs F ts)
  | [], F, I, _ => I
  | t :: ts, F, I, h => TI.adds (ts := ts) (I.add (h t List.mem_cons_self)) fun x hx => h x (List.mem_cons_of_mem _ hx)
theorem tf_suf {ws : List Wd} (hw : ∀ w ∈ ws, 1 ≤ w.length) {t : Wd} (ht : t ∈ sufs ws) {q : Nat × Wd × Bool} (h : q ∈ tfAll t 0 ws) : q.2.1 ∈ sufs ws := by
  obtain ⟨w, h1, _, h2⟩ := tf_mem h
  rw [Nat.sub_zero] at h1
  have hm := List.mem_of_getElem? h1
  have hw1 := hw w hm
  obtain ⟨o, ho, k, k1, k2, k3⟩ := mem_sufs.mp ht
  have htl : t.length = o.length - k := by rw [k3, List.length_drop]
  rcases h2 with ⟨p1, p2, p3⟩ | ⟨p1, p2, p3⟩
  · rw [p3]
    exact mem_sufs.mpr ⟨w, hm, t.length, by omega, p2, rfl⟩
  · rw [p3]
    refine mem_sufs.mpr ⟨o, ho, k + w.length, by omega, by omega, ?_⟩
    show t.drop w.length = _
    rw [k3, List.drop_drop]
theorem fa_suf {ws : List Wd} (hw : ∀ w ∈ ws, 1 ≤ w.length) {q : Nat × Nat × Wd} (h : q ∈ ftAll ws 0 ws) : q.2.2 ∈ sufs ws := by
  obtain ⟨w, o, h1, _, h2, h3, h4, h5⟩ := fa_mem h
  rw [Nat.sub_zero] at h1
  exact mem_sufs.mpr ⟨o, List.mem_of_getElem? h2, w.length, hw w (List.mem_of_getElem? h1), h4, h5⟩
theorem take_pre {w o : Wd} : w.isPrefixOf o = true ↔ o.take w.length = w := by
  rw [List.isPrefixOf_iff_prefix, List.prefix_iff_eq_take]
  exact ⟨fun h => h.symm, fun h => h.symm⟩
theorem pre_lt {w o : Wd} (h : w.isPrefixOf o = true) (h2 : ¬ w.length < o.length) : o = w := by
  have := pre_split h
  rw [List.isPrefixOf_iff_prefix] at h
  have hl := h.length_le
  rw [List.drop_eq_nil_of_le (by omega), List.append_nil] at this
  exact this
theorem lt_lp1 {ws : List Wd} (M : Sm ws) {w : Wd} {i : Nat} (hw : w ∈ ws) (c : Option T) (rest : En) : ∀ (os : List Wd) (j : Nat) (F : List Wd) (x : Option T), TI ws F → (∀ o ∈ os, o ∈ ws) →
    ∃ x', forL (stS 3) bo__law_tails_1 (os.map sD) (c :: some (.l (F.map sT)) :: some (sT w) :: x :: rest) = .ok (.nx, c :: some (.l ((addTs F ((ftRow i w j os).map (·.2.2))).map sT)) :: some (sT w) :: x' :: rest) ∧ TI ws (addTs F ((ftRow i w j os).map (·.2.2)))
  | [], j, F, x, I, _ => ⟨x, by simp [ftRow, addTs], by simpa [ftRow, addTs] using I⟩
  | o :: os, j, F, x, I, ho => by
    have hom := ho o List.mem_cons_self
    have hw5 := (M.w w hw).2
    have hw1 := (M.w w hw).1
    have ho5 := (M.w o hom).2
    have hF := I.len M
    rw [List.map_cons, forL_cons, ftRow]
    by_cases hp : w.isPrefixOf o = true ∧ w.length < o.length
    · have ht := take_pre.mp hp.1
      have hne : ¬ o = w := fun z => by rw [z] at hp; omega
      have hs : o.drop w.length ∈ sufs ws := mem_sufs.mpr ⟨o, hom, w.length, hw1, hp.2, rfl⟩
      obtain ⟨x', e, I'⟩ := lt_lp1 M (i := i) hw c rest os (j + 1) (addT F (o.drop w.length)) (some (sT o)) (I.add hs) (fun y hy => ho y (List.mem_cons_of_mem _ hy))
      rw [if_pos hp]
      refine ⟨x', ?_, I'⟩
      show _ = _
      have e2 : addTs F (([(i, j, o.drop w.length)] ++ ftRow i w (j + 1) os).map (·.2.2)) = addTs (addT F (o.drop w.length)) ((ftRow i w (j + 1) os).map (·.2.2)) := rfl
      rw [e2, ← e]
      by_cases hm : o.drop w.length ∈ F
      · have ha : addT F (o.drop w.length) = F := if_pos hm
        rw [ha]
        simp -implicitDefEqProofs [bo__law_tails_1_ap, few, show o.length ≤ 1000000 by omega, show w.length ≤ 1000000 by omega, S_upto, S_from, ht, hne, hm]
      · have ha : addT F (o.drop w.length) = F ++ [o.drop w.length] := if_neg hm
        rw [ha]
        simp -implicitDefEqProofs [bo__law_tails_1_ap, few, few', show o.length ≤ 1000000 by omega, show w.length ≤ 1000000 by omega, S_upto, S_from, ht, hne, hm, show F.length ≤ 1000000 by omega]
    · obtain ⟨x', e, I'⟩ := lt_lp1 M (i := i) hw c rest os (j + 1) F (some (sT o)) I (fun y hy => ho y (List.mem_cons_of_mem _ hy))
      rw [if_neg hp]
      refine ⟨x', ?_, I'⟩
      rw [List.nil_append, ← e]
      by_cases h1 : w.isPrefixOf o = true
      · have ht := take_pre.mp h1
        have he : o = w := pre_lt h1 fun z => hp ⟨h1, z⟩
        subst he
        simp -implicitDefEqProofs [bo__law_tails_1_ap, few, show o.length ≤ 1000000 by omega, S_upto]
      · have ht : ¬ o.take w.length = w := fun z => h1 (take_pre.mpr z)
        simp -implicitDefEqProofs [bo__law_tails_1_ap, few, show o.length ≤ 1000000 by omega, show w.length ≤ 1000000 by omega, S_upto, ht]
theorem lt_lp2 {ws : List Wd} (M : Sm ws) (rest : En) : ∀ (r : List Wd) (i : Nat) (F : List Wd) (x y : Option T), TI ws F → (∀ o ∈ r, o ∈ ws) →
    ∃ x' y', forL (stS 2) bo__law_tails_2 (r.map sD) (some (.s (.lst (ws.map sD))) :: some (.l (F.map sT)) :: x :: y :: rest) = .ok (.nx, some (.s (.lst (ws.map sD))) :: some (.l ((addTs F ((ftAll ws i r).map (·.2.2))).map sT)) :: x' :: y' :: rest) ∧ TI ws (addTs F ((ftAll ws i r).map (·.2.2)))
  | [], i, F, x, y, I, _ => ⟨x, y, by simp [ftAll, addTs], by simpa [ftAll, addTs] using I⟩
  | w :: r, i, F, x, y, I, ho => by
    obtain ⟨y1, e1, I1⟩ := lt_lp1 M (i := i) (ho w List.mem_cons_self) (some (.s (.lst (ws.map sD)))) rest ws 0 F y I (fun _ h => h)
    obtain ⟨x', y', e2, I2⟩ := lt_lp2 M rest r (i + 1) (addTs F ((ftRow i w 0 ws).map (·.2.2))) (some (sT w)) y1 I1 (fun o hx => ho o (List.mem_cons_of_mem _ hx))
    have e3 : addTs F ((ftAll ws i (w :: r)).map (·.2.2)) = addTs (addTs F ((ftRow i w 0 ws).map (·.2.2))) ((ftAll ws (i + 1) r).map (·.2.2)) := by
      rw [ftAll, List.map_append]
      unfold addTs
      rw [List.foldl_append]
    rw [e3]
    refine ⟨x', y', ?_, I2⟩
    rw [List.map_cons, forL_cons, ← e2]
    simp -implicitDefEqProofs [bo__law_tails_2_ap, e1]
theorem lt_lp3 {ws : List Wd} (M : Sm ws) {t : Wd} (ht : t ∈ sufs ws) (c x2 x3 x4 : Option T) : ∀ (os : List Wd) (j : Nat) (F : List Wd) (x y : Option T), TI ws F → (∀ o ∈ os, o ∈ ws) →
    ∃ x' y', forL (stS 6) bo__law_tails_3 (os.map sD) [c, some (.l (F.map sT)), x2, x3, x4, some (sT t), x, y] = .ok (.nx, [c, some (.l ((addTs F ((tfAll t j os).map (·.2.1))).map sT)), x2, x3, x4, some (sT t), x', y']) ∧ TI ws (addTs F ((tfAll t j os).map (·.2.1)))
  | [], j, F, x, y, I, _ => ⟨x, y, by simp [tfAll, addTs], by simpa [tfAll, addTs] using I⟩
  | w :: os, j, F, x, y, I, ho => by
    have hwm := ho w List.mem_cons_self
    have hw5 := (M.w w hwm).2
    have hw1 := (M.w w hwm).1
    obtain ⟨o, hom, k, k1, k2, k3⟩ := mem_sufs.mp ht
    have ho5 := (M.w o hom).2
    have htl : t.length = o.length - k := by rw [k3, List.length_drop]
    have hF := I.len M
    have hE : Str.ofString "" = S [] := ofList_S ""
    rw [List.map_cons, forL_cons]
    -- what is found at this word
    have found : ∀ {u : Wd} {b : Bool}, u ∈ sufs ws → u ≠ [] → (tfAll t j (w :: os)).map (·.2.1) = u :: (tfAll t (j + 1) os).map (·.2.1) →
        (∀ z : Option T, ∃ q, bo__law_tails_3 [c, some (.l (F.map sT)), x2, x3, x4, some (sT t), some (sT w), z] = .ok (.nx, [c, some (.l ((addT F u).map sT)), x2, x3, x4, some (sT t), some (sT w), q])) →
        ∃ x' y', foN (stS 6) bo__law_tails_3 (os.map sD) (stS 6 (.s (sD w)) [c, some (.l (F.map sT)), x2, x3, x4, some (sT t), x, y]) = .ok (.nx, [c, some (.l ((addTs F ((tfAll t j (w :: os)).map (·.2.1))).map sT)), x2, x3, x4, some (sT t), x', y']) ∧ TI ws (addTs F ((tfAll t j (w :: os)).map (·.2.1))) := by
      intro u b hu hne he hb
      obtain ⟨q, hq⟩ := hb y
      obtain ⟨x', y', e, I'⟩ := lt_lp3 M ht c x2 x3 x4 os (j + 1) (addT F u) (some (sT w)) q (I.add hu) (fun y hy => ho y (List.mem_cons_of_mem _ hy))
      rw [he]
      refine ⟨x', y', ?_, I'⟩
      simp -implicitDefEqProofs [hq]
      exact e
    have none_ : (tfAll t j (w :: os)).map (·.2.1) = (tfAll t (j + 1) os).map (·.2.1) →
        (∀ z : Option T, ∃ q, bo__law_tails_3 [c, some (.l (F.map sT)), x2, x3, x4, some (sT t), some (sT w), z] = .ok (.nx, [c, some (.l (F.map sT)), x2, x3, x4, some (sT t), some (sT w), q])) →
        ∃ x' y', foN (stS 6) bo__law_tails_3 (os.map sD) (stS 6 (.s (sD w)) [c, some (.l (F.map sT)), x2, x3, x4, some (sT t), x, y]) = .ok (.nx, [c, some (.l ((addTs F ((tfAll t j (w :: os)).map (·.2.1))).map sT)), x2, x3, x4, some (sT t), x', y']) ∧ TI ws (addTs F ((tfAll t j (w :: os)).map (·.2.1))) := by
      intro he hb
      obtain ⟨q, hq⟩ := hb y
      obtain ⟨x', y', e, I'⟩ := lt_lp3 M ht c x2 x3 x4 os (j + 1) F (some (sT w)) q I (fun y hy => ho y (List.mem_cons_of_mem _ hy))
      rw [he]
      refine ⟨x', y', ?_, I'⟩
      simp -implicitDefEqProofs [hq]
      exact e
    by_cases h1 : t.isPrefixOf w = true ∧ t.length < w.length
    · have h3 : ¬ (w.isPrefixOf t = true ∧ w.length < t.length) := fun z => by omega
      have ht1 := take_pre.mp h1.1
      have ht2 : t.take w.length = t := List.take_of_length_le (by omega)
      have hne : ¬ t = w := fun z => by rw [z] at h1; omega
      have hd : w.drop t.length ≠ [] := fun z => by have := congrArg List.length z; simp at this; omega
      refine found (b := true) (u := w.drop t.length) (mem_sufs.mpr ⟨w, hwm, t.length, by omega, h1.2, rfl⟩) hd (by rw [tfAll, if_pos h1, if_neg h3]; rfl) fun z => ?_
      by_cases hm : w.drop t.length ∈ F
      · have ha : addT F (w.drop t.length) = F := if_pos hm
        rw [ha]
        refine ⟨some (sT (w.drop t.length)), ?_⟩
        simp -implicitDefEqProofs [bo__law_tails_3_ap, few, show t.length ≤ 1000000 by omega, show w.length ≤ 1000000 by omega, S_upto, S_from, ht1, ht2, hne, hE, hd, hm]
      · have ha : addT F (w.drop t.length) = F ++ [w.drop t.length] := if_neg hm
        rw [ha]
        refine ⟨some (sT (w.drop t.length)), ?_⟩
        simp -implicitDefEqProofs [bo__law_tails_3_ap, few, few', show t.length ≤ 1000000 by omega, show w.length ≤ 1000000 by omega, S_upto, S_from, ht1, ht2, hne, hE, hd, hm, show F.length ≤ 1000000 by omega]
    · by_cases h3 : w.isPrefixOf t = true ∧ w.length < t.length
      · have ht1 := take_pre.mp h3.1
        have ht2 : w.take t.length = w := List.take_of_length_le (by omega)
        have hne : ¬ w = t := fun z => by rw [z] at h3; omega
        have hd : t.drop w.length ≠ [] := fun z => by have := congrArg List.length z; simp at this; omega
        have hs : t.drop w.length ∈ sufs ws := by
          refine mem_sufs.mpr ⟨o, hom, k + w.length, by omega, by omega, ?_⟩
          rw [k3, List.drop_drop]
        refine found (b := false) (u := t.drop w.length) hs hd (by rw [tfAll, if_neg h1, if_pos h3]; rfl) fun z => ?_
        by_cases hm : t.drop w.length ∈ F
        · have ha : addT F (t.drop w.length) = F := if_pos hm
          rw [ha]
          refine ⟨some (sT (t.drop w.length)), ?_⟩
          simp -implicitDefEqProofs [bo__law_tails_3_ap, few, show t.length ≤ 1000000 by omega, show w.length ≤ 1000000 by omega, S_upto, S_from, ht1, ht2, hne, hE, hd, hm]
        · have ha : addT F (t.drop w.length) = F ++ [t.drop w.length] := if_neg hm
          rw [ha]
          refine ⟨some (sT (t.drop w.length)), ?_⟩
          simp -implicitDefEqProofs [bo__law_tails_3_ap, few, few', show t.length ≤ 1000000 by omega, show w.length ≤ 1000000 by omega, S_upto, S_from, ht1, ht2, hne, hE, hd, hm, show F.length ≤ 1000000 by omega]
      · refine none_ (by rw [tfAll, if_neg h1, if_neg h3]; rfl) fun z => ?_
        by_cases he : t = w
        · subst he
          refine ⟨some (sT []), ?_⟩
          simp -implicitDefEqProofs [bo__law_tails_3_ap, few, show t.length ≤ 1000000 by omega, S_upto, S_from, hE]
        · have ht1 : ¬ w.take t.length = t := fun z => by
            have hp := take_pre.mpr z
            exact he (pre_lt hp fun y => h1 ⟨hp, y⟩).symm
          have ht2 : ¬ t.take w.length = w := fun z => by
            have hp := take_pre.mpr z
            exact he (pre_lt hp fun y => h3 ⟨hp, y⟩)
          refine ⟨some (sT []), ?_⟩
          simp -implicitDefEqProofs [bo__law_tails_3_ap, few, show t.length ≤ 1000000 by omega, show w.length ≤ 1000000 by omega, S_upto, S_from, ht1, ht2, hE]
end VS
namespace VS
open PySem PySem.Spec L2
open PyProof.Rows hiding St
theorem lt_lp4 {ws : List Wd} (M : Sm ws) (x2 x3 : Option T) : ∀ (n at_ : Nat) (F : List Wd) (x4 x5 x6 x7 : Option T), TI ws F →
    ∃ y4 y5 y6 y7, forL (stS 4) bo__law_tails_4 ((List.range' at_ n).map fun (i : Nat) => D.int i) [some (.s (.lst (ws.map sD))), some (.l (F.map sT)), x2, x3, x4, x5, x6, x7] =
      .ok (.nx, [some (.s (.lst (ws.map sD))), some (.l ((tlLoop ws n at_ F).map sT)), x2, x3, y4, y5, y6, y7]) ∧ TI ws (tlLoop ws n at_ F)
  | 0, at_, F, x4, x5, x6, x7, I => ⟨x4, x5, x6, x7, by simp [tlLoop], by simpa [tlLoop] using I⟩
  | n + 1, at_, F, x4, x5, x6, x7, I => by
    rw [List.range'_succ, List.map_cons, forL_cons, tlLoop]
    cases he : F[at_]? with
    | none =>
      have hge : F.length ≤ at_ := by simpa using he
      refine ⟨some (.s (.int (at_ : Nat))), x5, x6, x7, ?_, I⟩
      simp -implicitDefEqProofs [bo__law_tails_4_ap, hge]
    | some t =>
      have hlt := (List.getElem?_eq_some_iff.mp he).1
      have hts := I.suf t (List.mem_of_getElem? he)
      have hk : atI (F.map sD) (at_ : Int) = some (sD t) := by rw [atI_nat, List.getElem?_map, he]; rfl
      obtain ⟨y6, y7, e1, I1⟩ := lt_lp3 M hts (some (.s (.lst (ws.map sD)))) x2 x3 (some (.s (.int (at_ : Nat)))) ws 0 F x6 x7 I (fun _ h => h)
      obtain ⟨z4, z5, z6, z7, e2, I2⟩ := lt_lp4 M x2 x3 n (at_ + 1) _ (some (.s (.int (at_ : Nat)))) (some (sT t)) y6 y7 I1
      refine ⟨z4, z5, z6, z7, ?_, I2⟩
      have hn : ¬ F.length ≤ at_ := by omega
      simp only
      rw [← e2]
      simp -implicitDefEqProofs [bo__law_tails_4_ap, hn, hk, e1]
theorem join_ok2 (ys : List (List Nat)) (h : ys.flatten.length ≤ 1000000) : pJoin (.s (.str (Str.ofString ""))) [.s (.lst (ys.map sD))] = some (sT ys.flatten) := by
  have h0 := join_ok ys h
  have e : pJoin (.s (.str (Str.ofString ""))) [.s (.lst (ys.map sD))] = pJoin (.s (.str (Str.ofString ""))) [.l (ys.map sT)] := by
    unfold pJoin lsT
    simp
  rw [e, h0]
theorem flat_len (n : Nat) : ∀ {ws : List Wd}, (∀ w ∈ ws, w.length ≤ n) → ws.flatten.length ≤ ws.length * n
  | [], _ => by simp
  | w :: ws, h => by
    have ih := flat_len n (ws := ws) fun x hx => h x (List.mem_cons_of_mem _ hx)
    have hw := h w List.mem_cons_self
    rw [List.flatten_cons, List.length_append, List.length_cons, Nat.add_mul]
    omega
theorem sufs_le : ∀ ws : List Wd, (sufs ws).length ≤ ws.flatten.length
  | [] => by simp [sufs]
  | w :: ws => by
    have ih := sufs_le ws
    unfold sufs at ih ⊢
    rw [List.flatMap_cons, List.length_append, List.length_map, List.length_range, List.flatten_cons, List.length_append]
    omega
/-- the closure that the law finds -/
def clo (ws : List Wd) : List Wd := tlLoop ws ws.flatten.length 0 (addTs [] ((ftAll ws 0 ws).map (·.2.2)))
/-- sorted, as lists of signs -/
def srt (ts : List Wd) : List Wd := (sortS (ts.map S)).map fun x => x.cps.toList
theorem srt_D (ts : List Wd) : (sortS (ts.map S)).map D.str = (srt ts).map sD := by
  unfold srt
  rw [List.map_map]
  apply List.map_congr_left
  intro x _
  show D.str x = D.str (S x.cps.toList)
  rw [S_list]
theorem mem_srt {ts : List Wd} {t : Wd} : t ∈ srt ts ↔ t ∈ ts := by
  have p : (sortS (ts.map S)).Perm (ts.map S) := List.mergeSort_perm _ _
  unfold srt
  rw [List.mem_map]
  constructor
  · rintro ⟨x, hx, rfl⟩
    obtain ⟨u, hu, rfl⟩ := List.mem_map.mp (p.mem_iff.mp hx)
    exact hu
  · intro h
    exact ⟨S t, p.mem_iff.mpr (List.mem_map_of_mem h), rfl⟩
theorem srt_len (ts : List Wd) : (srt ts).length = ts.length := by
  have p : (sortS (ts.map S)).Perm (ts.map S) := List.mergeSort_perm _ _
  unfold srt
  rw [List.length_map, p.length_eq, List.length_map]
theorem clo_TI {ws : List Wd} (M : Sm ws) : TI ws (clo ws) := by
  obtain ⟨_, _, _, _, _, I⟩ := lt_lp4 M none none ws.flatten.length 0 (addTs [] ((ftAll ws 0 ws).map (·.2.2))) none none none none (TI.adds ⟨List.nodup_nil, by simp⟩ fun t ht => by
    obtain ⟨q, hq, rfl⟩ := List.mem_map.mp ht
    exact fa_suf (fun w hw => (M.w w hw).1) hq)
  exact I
theorem tails_ok {ws : List Wd} (M : Sm ws) : m__law_tails [.s (.lst (ws.map sD))] = .ok (.l ((srt (clo ws)).map sT), [none]) := by
  have I0 : TI ws [] := ⟨List.nodup_nil, by simp⟩
  obtain ⟨x', y', e1, I1⟩ := lt_lp2 M [none, none, none, none] ws 0 [] none none I0 (fun _ h => h)
  obtain ⟨z4, z5, z6, z7, e2, I2⟩ := lt_lp4 M x' y' ws.flatten.length 0 _ none none none none I1
  have hfl : ws.flatten.length ≤ 1000000 := by
    have := flat_len 5 (ws := ws) fun w hw => (M.w w hw).2
    have := M.n
    omega
  have hj := join_ok2 ws hfl
  have hr := rg1n hfl
  rw [rgD_0] at hr
  have hs := sorted_words (.l ((clo ws).map sT)) (clo ws) (ls_words _)
  rw [srt_D] at hs
  have e1' : forL (stS 2) bo__law_tails_2 (ws.map sD) [some (.s (.lst (ws.map sD))), some (.l []), none, none, none, none, none, none] = _ := e1
  have e2' : forL (stS 4) bo__law_tails_4 ((List.range' 0 ws.flatten.length).map fun (i : Nat) => D.int i) [some (.s (.lst (ws.map sD))), some (.l ((addTs [] ((ftAll ws 0 ws).map (·.2.2))).map sT)), x', y', none, none, none, none] = .ok (.nx, [some (.s (.lst (ws.map sD))), some (.l ((clo ws).map sT)), x', y', z4, z5, z6, z7]) := e2
  simp only [List.map_map] at hs
  simp -implicitDefEqProofs [m__law_tails, b__law_tails, few, e1', hj, hr, e2', hs, hfl, -List.length_flatten]
/-! ### _law_meets -/
/-- the texts of the messages of a size, with the messages -/
def msgs (ws : List Wd) : Nat → List (List Wd)
  | 0 => [[]]
  | n + 1 => ws.flatMap fun w => (msgs ws n).map fun m => m ++ [w]
theorem msgs_len {ws : List Wd} : ∀ {n : Nat} {m : List Wd}, m ∈ msgs ws n → m.length = n ∧ ∀ w ∈ m, w ∈ ws
  | 0, m, h => by
    have : m = [] := by simpa [msgs] using h
    subst this
    simp
  | n + 1, m, h => by
    rw [msgs, List.mem_flatMap] at h
    obtain ⟨w, hw, hm⟩ := h
    obtain ⟨m', hm', rfl⟩ := List.mem_map.mp hm
    obtain ⟨h1, h2⟩ := msgs_len hm'
    refine ⟨by simp [h1], fun x hx => ?_⟩
    rcases List.mem_append.mp hx with z | z
    · exact h2 x z
    · have : x = w := by simpa using z
      rw [this]; exact hw
theorem msgs_nodup {ws : List Wd} (nd : ws.Nodup) : ∀ n : Nat, (msgs ws n).Nodup
  | 0 => by simp [msgs]
  | n + 1 => by
    have ih := msgs_nodup nd n
    rw [msgs]
    have key : ∀ r : List Wd, r.Nodup → (r.flatMap fun w => (msgs ws n).map fun m => m ++ [w]).Nodup := by
      intro r
      induction r with
      | nil => simp
      | cons w r ihr =>
        intro hr
        rw [List.flatMap_cons, List.nodup_append]
        refine ⟨?_, ihr (List.nodup_cons.mp hr).2, fun a ha b hb e => ?_⟩
        · rw [List.nodup_iff_pairwise_ne, List.pairwise_map]
          exact ih.imp fun h z => h (List.append_cancel_right z)
        · subst e
          obtain ⟨m, _, rfl⟩ := List.mem_map.mp ha
          rw [List.mem_flatMap] at hb
          obtain ⟨v, hv, hb⟩ := hb
          obtain ⟨m', _, e2⟩ := List.mem_map.mp hb
          have : v = w := by
            have := congrArg List.getLast? e2
            simpa using this
          subst this
          exact (List.nodup_cons.mp hr).1 hv
    exact key ws nd
theorem three_nodup {ws : List Wd} (nd : ws.Nodup) : (msgs ws 1 ++ msgs ws 2 ++ msgs ws 3).Nodup := by
  rw [List.nodup_append, List.nodup_append]
  refine ⟨⟨msgs_nodup nd 1, msgs_nodup nd 2, fun a ha b hb e => ?_⟩, msgs_nodup nd 3, fun a ha b hb e => ?_⟩
  · have h1 := (msgs_len ha).1
    have h2 := (msgs_len hb).1
    rw [e] at h1
    omega
  · have h2 := (msgs_len hb).1
    rcases List.mem_append.mp ha with z | z
    · have h1 := (msgs_len z).1
      rw [e] at h1
      omega
    · have h1 := (msgs_len z).1
      rw [e] at h1
      omega
end VS
namespace VS
open PySem PySem.Spec L2
open PyProof.Rows hiding St
theorem meet_lc {w : Wd} (hw : w.length ≤ 1000) (c a b d e f k8 : Option T) : ∀ (R us : List Wd), us.length + R.length ≤ 10000 → (∀ x ∈ R, x.length ≤ 1000) →
    lcL [7] (stS 7) yesT el__law_meets_1 (R.map sD) (us.map sT) [c, a, b, d, e, some (sT w), f, none, k8] = .ok ((us ++ R.map (· ++ w)).map sT, [c, a, b, d, e, some (sT w), f, none, k8])
  | [], us, _, _ => by simp
  | r :: R, us, h, hR => by
    simp only [List.length_cons] at h
    have hr := hR r List.mem_cons_self
    have ih := meet_lc hw c a b d e f k8 R (us ++ [r ++ w]) (by simp; omega) (fun x hx => hR x (List.mem_cons_of_mem _ hx))
    rw [List.map_cons, lcL_cons]
    simp -implicitDefEqProofs [el__law_meets_1_ap, few, few', show r.length + w.length ≤ 1000000 by omega, show us.length ≤ 1000000 by omega]
    simpa using ih
theorem pAdd_lst_l (a : List D) (ts : List T) (b : List D) (h : shs ts = some b) (hl : a.length + b.length ≤ 1000000) : pAdd (.s (.lst a)) (.l ts) = some (.l ((a ++ b).map T.s)) := by
  have e : pAdd (.s (.lst a)) (.l ts) = match shs ts with | some b => if a.length + b.length ≤ sizeLine then some (.l ((a ++ b).map T.s)) else none | none => none := by
    show (match some a, shs ts with | some a, some b => _ | _, _ => none) = _
    cases shs ts <;> rfl
  rw [e, h]
  simp only
  rw [if_pos (few hl)]
theorem pAdd_l_lst (ts : List T) (b a : List D) (h : shs ts = some a) (hl : a.length + b.length ≤ 1000000) : pAdd (.l ts) (.s (.lst b)) = some (.l ((a ++ b).map T.s)) := by
  have e : pAdd (.l ts) (.s (.lst b)) = match shs ts with | some a => if a.length + b.length ≤ sizeLine then some (.l ((a ++ b).map T.s)) else none | none => none := by
    show (match shs ts, some b with | some a, some b => _ | _, _ => none) = _
    cases shs ts <;> rfl
  rw [e, h]
  simp only
  rw [if_pos (few hl)]
theorem meet_lp {R : List Wd} (hR : R.length ≤ 100) (hR2 : ∀ x ∈ R, x.length ≤ 1000) (c t d f k8 : Option T) : ∀ (os L : List Wd) (a b : T) (x5 : Option T), L.length + os.length * 100 ≤ 5000 → (∀ x ∈ os, x.length ≤ 1000) → er a = .lst (R.map sD) → er b = .lst (L.map sD) →
    ∃ a' b' y5, forL (stS 5) bo__law_meets_2 (os.map sD) [c, t, some a, d, some b, x5, f, none, k8] = .ok (.nx, [c, t, some a', d, some b', y5, f, none, k8]) ∧ er a' = .lst (R.map sD) ∧ er b' = .lst ((L ++ os.flatMap fun w => R.map (· ++ w)).map sD)
  | [], L, a, b, x5, _, _, ha, hb => ⟨a, b, x5, by simp, ha, by simpa using hb⟩
  | w :: os, L, a, b, x5, h, ho, ha, hb => by
    simp only [List.length_cons] at h
    have e0 := meet_lc (ho w List.mem_cons_self) c t (some (.s (.lst (R.map sD)))) d (some (.s (.lst (L.map sD)))) f k8 R [] (by simp; omega) hR2
    have e1 := pAdd_lst_l (L.map sD) ((R.map (· ++ w)).map sT) ((R.map (· ++ w)).map sD) (shs_words _) (by simp; omega)
    obtain ⟨a', b', y5, e2, ha', hb'⟩ := meet_lp hR hR2 c t d f k8 os (L ++ R.map (· ++ w)) (.s (.lst (R.map sD))) (.l ((L.map sD ++ (R.map (· ++ w)).map sD).map T.s)) (some (sT w)) (by simp; omega) (fun x hx => ho x (List.mem_cons_of_mem _ hx)) (by simp) (by rw [er_l, ers_map, List.map_append])
    refine ⟨a', b', y5, ?_, ha', by rw [hb', List.flatMap_cons, List.append_assoc]⟩
    simp only [List.map_nil, List.nil_append] at e0
    rw [List.map_cons, forL_cons, ← e2]
    simp -implicitDefEqProofs [bo__law_meets_2_ap, ha, hb, e0, e1, -List.map_map, -List.map_append]
def txts (us : List Wd) (n : Nat) : List Wd := (msgs us n).map List.flatten
theorem txts_succ (us : List Wd) (n : Nat) : txts us (n + 1) = us.flatMap fun w => (txts us n).map (· ++ w) := by
  unfold txts
  rw [msgs, List.map_flatMap]
  congr 1
  funext w
  rw [List.map_map, List.map_map]
  apply List.map_congr_left
  intro m _
  simp
/-- one turn -/
theorem meet_turn {us R X : List Wd} (hu : us.length ≤ 5) (hu2 : ∀ x ∈ us, x.length ≤ 5) (hR : R.length ≤ 100) (hR2 : ∀ x ∈ R, x.length ≤ 500) (hX : X.length ≤ 1000) (d x4 x5 f k8 : Option T) (a : T) (ha : er a = .lst (R.map sD)) :
    ∃ a' y4 y5, bo__law_meets_3 [some (.s (.lst (us.map sD))), some (.l (X.map sT)), some a, d, x4, x5, f, none, k8] = .ok (.nx, [some (.s (.lst (us.map sD))), some (.l ((X ++ us.flatMap fun w => R.map (· ++ w)).map sT)), some a', d, y4, y5, f, none, k8]) ∧ er a' = .lst ((us.flatMap fun w => R.map (· ++ w)).map sD) := by
  obtain ⟨a', b', y5, e, h1, h2⟩ := meet_lp hR (fun x hx => by have := hR2 x hx; omega) (some (.s (.lst (us.map sD)))) (some (.l (X.map sT))) d f k8 us [] a (.l []) x5 (by simp; omega) (fun x hx => by have := hu2 x hx; omega) ha (by simp)
  rw [List.nil_append] at h2
  have hlen : (us.flatMap fun w => R.map (· ++ w)).length ≤ 500 := by
    have : ∀ r : List Wd, (r.flatMap fun w => R.map (· ++ w)).length = r.length * R.length := fun r => by
      induction r with
      | nil => simp
      | cons x r ih => rw [List.flatMap_cons, List.length_append, ih, List.length_map, List.length_cons, Nat.add_mul]; omega
    rw [this]
    have : us.length * R.length ≤ 5 * 100 := Nat.mul_le_mul hu hR
    omega
  have e3 := pAdd_l_lst (X.map sT) ((us.flatMap fun w => R.map (· ++ w)).map sD) (X.map sD) (shs_words _) (by simp only [List.length_map]; omega)
  have e4 : ((X.map sD ++ (us.flatMap fun w => R.map (· ++ w)).map sD).map T.s) = (X ++ us.flatMap fun w => R.map (· ++ w)).map sT := by
    rw [← List.map_append, List.map_map]
    rfl
  rw [e4] at e3
  refine ⟨.s (er b'), some (.s (er b')), y5, ?_, by simpa using h2⟩
  simp -implicitDefEqProofs [bo__law_meets_3_ap, few, e, h2, e3, -List.map_map, -List.map_append]
theorem txts_len {us : List Wd} (hu : us.length ≤ 5) : ∀ n, (txts us n).length ≤ 5 ^ n
  | 0 => by simp [txts, msgs]
  | n + 1 => by
    have ih := txts_len hu n
    rw [txts_succ]
    have : ∀ r : List Wd, (r.flatMap fun w => (txts us n).map (· ++ w)).length = r.length * (txts us n).length := fun r => by
      induction r with
      | nil => simp
      | cons x r ih => rw [List.flatMap_cons, List.length_append, ih, List.length_map, List.length_cons, Nat.add_mul]; omega
    rw [this, Nat.pow_succ, Nat.mul_comm (5 ^ n) 5]
    exact Nat.mul_le_mul hu ih
theorem txts_short {us : List Wd} (hu2 : ∀ x ∈ us, x.length ≤ 5) : ∀ n, ∀ x ∈ txts us n, x.length ≤ 5 * n
  | 0, x, h => by
    have : x = [] := by simpa [txts, msgs] using h
    subst this
    simp
  | n + 1, x, h => by
    rw [txts_succ, List.mem_flatMap] at h
    obtain ⟨w, hw, hx⟩ := h
    obtain ⟨y, hy, rfl⟩ := List.mem_map.mp hx
    have h1 := txts_short hu2 n y hy
    have h2 := hu2 w hw
    rw [List.length_append]
    omega
theorem pair_lc {O : List Wd} (c a b d e w f : Option T) : ∀ (n j : Nat) (ts : List T), j + n + 1 = O.length → ts.length + n ≤ 10000 →
    ∃ ts', lcL [8] (stS 8) te__law_meets_4 el__law_meets_5 ((List.range' j n).map fun (i : Nat) => D.int i) ts [c, a, b, d, e, w, some (.l (O.map sT)), f, none] = .ok (ts', [c, a, b, d, e, w, some (.l (O.map sT)), f, none]) ∧
      (ts.length < ts'.length → ∃ k, ∃ h : k + 1 < O.length, O[k] = O[k + 1])
  | 0, j, ts, _, _ => ⟨ts, by simp, fun h => absurd h (Nat.lt_irrefl _)⟩
  | n + 1, j, ts, h, hl => by
    have h1 : j < O.length := by omega
    have h2 : j + 1 < O.length := by omega
    have a1 : atI (O.map sD) (j : Int) = some (sD O[j]) := by rw [atI_nat, List.getElem?_map, List.getElem?_eq_getElem h1]; rfl
    have a2 : atI (O.map sD) ((j : Int) + 1) = some (sD O[j + 1]) := by
      rw [show (j : Int) + 1 = ((j + 1 : Nat) : Int) by omega, atI_nat, List.getElem?_map, List.getElem?_eq_getElem h2]; rfl
    by_cases hq : O[j] = O[j + 1]
    · obtain ⟨ts', e1, hk⟩ := pair_lc (O := O) c a b d e w f n (j + 1) (ts ++ [.s (.int (j : Nat))]) (by omega) (by simp; omega)
      refine ⟨ts', ?_, fun _ => ⟨j, h2, hq⟩⟩
      rw [List.range'_succ, List.map_cons, lcL_cons]
      simp -implicitDefEqProofs [te__law_meets_4_ap, el__law_meets_5_ap, a1, a2, hq, few', show ts.length ≤ 1000000 by omega]
      exact e1
    · obtain ⟨ts', e1, hk⟩ := pair_lc (O := O) c a b d e w f n (j + 1) ts (by omega) (by omega)
      refine ⟨ts', ?_, hk⟩
      rw [List.range'_succ, List.map_cons, lcL_cons]
      simp -implicitDefEqProofs [te__law_meets_4_ap, el__law_meets_5_ap, a1, a2, hq]
      exact e1
theorem srt_nodup {X : List Wd} (h : X.Nodup) : (srt X).Nodup := by
  have p : (sortS (X.map S)).Perm (X.map S) := List.mergeSort_perm _ _
  have h1 : (X.map S).Nodup := by
    rw [List.nodup_iff_pairwise_ne, List.pairwise_map]
    exact h.imp fun hne e => hne (S_inj e)
  have h2 := p.nodup_iff.mpr h1
  unfold srt
  rw [List.nodup_iff_pairwise_ne, List.pairwise_map]
  exact h2.imp fun {x y} hne e => hne (by rw [← S_list x, ← S_list y, e])
theorem meets_ok {us : List Wd} (hu : us.length ≤ 5) (hne : 1 ≤ us.length) (hu2 : ∀ x ∈ us, x.length ≤ 5) :
    ∃ b, m__law_meets [.s (.lst (us.map sD))] = .ok (.s (.bl b), [none]) ∧ (b = true → ¬ (txts us 1 ++ txts us 2 ++ txts us 3).Nodup) := by
  have l0 := txts_len hu 0
  have l1 := txts_len hu 1
  have l2 := txts_len hu 2
  have l3 := txts_len hu 3
  have q0 := txts_short hu2 0
  have q1 := txts_short hu2 1
  have q2 := txts_short hu2 2
  obtain ⟨a1, p4, p5, e1, h1⟩ := meet_turn (X := []) (R := txts us 0) hu hu2 (by omega) (fun x hx => by have := q0 x hx; omega) (by simp) (some (.s (.int 0))) none none none none (.l [sT []]) (by simp [txts, msgs])
  rw [← txts_succ] at e1 h1
  obtain ⟨a2, r4, r5, e2, h2⟩ := meet_turn (X := txts us 1) (R := txts us 1) hu hu2 (by omega) (fun x hx => by have := q1 x hx; omega) (by omega) (some (.s (.int 1))) p4 p5 none none a1 h1
  rw [← txts_succ] at e2 h2
  obtain ⟨a3, s4, s5, e3, h3⟩ := meet_turn (X := txts us 1 ++ txts us 2) (R := txts us 2) hu hu2 (by omega) (fun x hx => by have := q2 x hx; omega) (by simp; omega) (some (.s (.int 2))) r4 r5 none none a2 h2
  rw [← txts_succ] at e3 h3
  have hsort := sorted_words (.l ((txts us 1 ++ txts us 2 ++ txts us 3).map sT)) (txts us 1 ++ txts us 2 ++ txts us 3) (ls_words _)
  rw [srt_D, List.map_map] at hsort
  have hpos : 1 ≤ (txts us 1).length := by
    rw [txts_succ]
    cases us with
    | nil => simp at hne
    | cons u us => simp [txts, msgs]
  obtain ⟨O, hO⟩ : ∃ O, O = srt (txts us 1 ++ txts us 2 ++ txts us 3) := ⟨_, rfl⟩
  have hol : O.length = (txts us 1).length + (txts us 2).length + (txts us 3).length := by rw [hO, srt_len]; simp; omega
  have hsort' : pSorted [.l ((txts us 1 ++ txts us 2 ++ txts us 3).map sT)] = some (.l (O.map sT)) := by rw [hO]; exact hsort
  obtain ⟨ts', e4, hk⟩ := pair_lc (O := O) (some (.s (.lst (us.map sD)))) (some (.l ((txts us 1 ++ txts us 2 ++ txts us 3).map sT))) (some a3) (some (.s (.int 2))) s4 s5 none (O.length - 1) 0 [] (by omega) (by simp; omega)
  have hE : Str.ofString "" = S [] := ofList_S ""
  have hr : rgO1 [.s (.int ((O.length : Int) - 1))] = some ((List.range' 0 (O.length - 1)).map fun (i : Nat) => D.int i) := by
    rw [show (O.length : Int) - 1 = ((O.length - 1 : Nat) : Int) by omega, rg1n (by omega), rgD_0]
  have hr3 : rgO1 [.s (.int 3)] = some [.int 0, .int 1, .int 2] := by
    rw [rg1 (by omega) (by omega)]
    rfl
  refine ⟨decide (0 < ts'.length), ?_, fun hb hnd => ?_⟩
  · rw [List.map_nil, List.nil_append] at e1
    simp -implicitDefEqProofs [m__law_meets, b__law_meets, few, hE, hr3, forL_cons, e1, e2, e3, hsort', hr, e4, -List.map_map, -List.map_append, -List.append_assoc]
  · obtain ⟨k, hk1, hk2⟩ := hk (by simpa using hb)
    have hOn : O.Nodup := by rw [hO]; exact srt_nodup hnd
    have := (List.getElem_inj hOn).mp hk2
    omega
end VS
namespace VS
open PySem PySem.Spec L2
open PyProof.Rows hiding St
/-! ### _law_asks -/
theorem filt_lp {ws : List Wd} (a b d e : Option T) : ∀ (os us : List Wd), us.length + os.length ≤ 10000 →
    lcL [5] (stS 5) te__law_asks_1 el__law_asks_2 (os.map sD) (us.map sT) [some (.s (.lst (ws.map sD))), a, b, d, e, none] = .ok ((us ++ os.filter fun t => decide (t ∈ ws)).map sT, [some (.s (.lst (ws.map sD))), a, b, d, e, none])
  | [], us, _ => by simp
  | o :: os, us, h => by
    simp only [List.length_cons] at h
    by_cases hm : o ∈ ws
    · have ih := filt_lp (ws := ws) a b d e os (us ++ [o]) (by simp; omega)
      rw [List.map_cons, lcL_cons]
      simp -implicitDefEqProofs [te__law_asks_1_ap, el__law_asks_2_ap, hm, few', show us.length ≤ 1000000 by omega]
      simpa [hm] using ih
    · have ih := filt_lp (ws := ws) a b d e os us (by omega)
      rw [List.map_cons, lcL_cons]
      simp -implicitDefEqProofs [te__law_asks_1_ap, el__law_asks_2_ap, hm]
      simpa [hm] using ih
theorem cut5 (ws : List Wd) : cutL (ws.map sD) none (some 5) = (ws.take 5).map sD := by
  have e : HT.sIx (ws.map sD).length (ws.map sD).length (some ((5 : Nat) : Int)) = min 5 (ws.map sD).length := HT.sIx_nat _ _ _
  unfold cutL
  rw [show (5 : Int) = ((5 : Nat) : Int) from rfl, e]
  simp only [HT.sIx_none, List.drop_zero, Nat.sub_zero]
  rw [← List.map_take]
  congr 1
  rw [List.length_map]
  by_cases h : 5 ≤ ws.length
  · rw [Nat.min_eq_left h]
  · rw [Nat.min_eq_right (by omega), List.take_of_length_le (Nat.le_refl _), List.take_of_length_le (by omega)]
theorem asks_ok {ws : List Wd} (M : Sm ws) (nd : ws.Nodup) (hne : 1 ≤ ws.length) : m__law_asks [.s (.lst (ws.map sD))] = .ok (.s (.bl true), [none]) := by
  have hw := fun w hw => (M.w w hw).1
  have hn := M.n
  have J := firstR_ok hw (ftAll ws 0 ws) [] (fun _ h => h) (Jn.nil ws)
  have ht := tails_ok M
  have hcl : (clo ws).length ≤ 32 := (clo_TI M).len M
  obtain ⟨told, hr, hcase⟩ := reading_ok M
  have hu : (ws.take 5).length ≤ 5 := by rw [List.length_take]; omega
  have hu1 : 1 ≤ (ws.take 5).length := by rw [List.length_take]; omega
  obtain ⟨b, hm, hb⟩ := meets_ok hu hu1 (fun x hx => (M.w x (List.mem_of_mem_take hx)).2)
  have hnw := ne_words M.c
  have hc5 := cut5 ws
  have hfl := filt_lp (ws := ws) (some (.s (.lst ((srt (clo ws)).map sD)))) none none none (srt (clo ws)) [] (by rw [srt_len]; simp; omega)
  rw [List.nil_append, List.map_nil] at hfl
  have hk0 : keys (firstR (ftAll ws 0 ws) []) = addTs [] ((ftAll ws 0 ws).map (·.2.2)) := keys_first _ _
  rcases hcase with ⟨r, h1, J', rfl⟩ | ⟨at_, e, i, r', h1, h2, J', hem, rfl⟩
  · -- single
    have hrl : r.length ≤ (sufs ws).length := by
      have h0 := nodup_sub_len J'.nd (m := sufs ws) fun t ht => by
        obtain ⟨x, hx, rfl⟩ := List.mem_map.mp ht
        exact J'.suf x hx
      unfold keys at h0
      rwa [List.length_map] at h0
    have hC : clo ws = keys r := by
      have := tl_single (N := ws.flatten.length) h1 (by have := sufs_le ws; omega)
      rw [hk0] at this
      exact this
    have C : Clo ws r := rd_closed h1 first_closed fun i e hi => absurd hi (Nat.not_lt_zero i)
    have hf0 : (srt (clo ws)).filter (fun t => decide (t ∈ ws)) = [] := by
      rw [List.filter_eq_nil_iff]
      intro t ht
      rw [mem_srt, hC] at ht
      simpa using C.c t ht
    have hbf : b = false := by
      cases b with
      | false => rfl
      | true =>
        exfalso
        refine hb rfl ?_
        unfold txts
        rw [← List.map_append, ← List.map_append]
        have h3 := three_nodup (ws := ws.take 5) (nd.sublist (List.take_sublist _ _))
        have hall : ∀ m ∈ msgs (ws.take 5) 1 ++ msgs (ws.take 5) 2 ++ msgs (ws.take 5) 3, ∀ w ∈ m, w ∈ ws := fun m hm w hw => by
          have : w ∈ ws.take 5 := by
            rcases List.mem_append.mp hm with z | z
            · rcases List.mem_append.mp z with z | z
              · exact (msgs_len z).2 w hw
              · exact (msgs_len z).2 w hw
            · exact (msgs_len z).2 w hw
          exact List.mem_of_mem_take this
        rw [List.nodup_iff_pairwise_ne, List.pairwise_map]
        refine List.Pairwise.imp_of_mem ?_ h3
        intro x y hx hy hxy he
        exact hxy (single_inj C (fun w hw => fun z => by have := (M.w w hw).1; rw [z] at this; simp at this) x y (hall x hx) (hall y hy) he)
    subst hbf
    have hsr : (sortS ((keys r).map S)).map D.str = (srt (clo ws)).map sD := by rw [← srt_D, hC]
    rw [hsr] at hr
    rw [hf0, List.map_nil] at hfl
    have hlk := like_refl 3 (.tup [.str (Str.ofString "single"), .lst ((srt (clo ws)).map sD)]) (by
      simp only [plD, plDs, Bool.and_eq_true, decide_eq_true_eq, List.length_cons, List.length_nil, List.length_map, srt_len]
      refine ⟨⟨trivial, ⟨plDs_of fun d hd => ?_, by omega⟩, trivial⟩, by omega⟩
      obtain ⟨w, _, rfl⟩ := List.mem_map.mp hd
      simp [plD])
    simp -implicitDefEqProofs [m__law_asks, b__law_asks, ht, hfl, hr, hnw, hc5, hm, hlk, few, -List.map_map, -List.map_take]
  · -- double
    have hin : e.1 ∈ clo ws := by
      have := tl_double M (N := ws.flatten.length) h1 J (by have := sufs_le ws; omega)
      rw [hk0] at this
      exact this
    have hws : e.1 ∈ ws := List.mem_of_getElem? h2
    have hpos : 0 < ((srt (clo ws)).filter (fun t => decide (t ∈ ws))).length := by
      refine List.length_pos_of_mem (a := e.1) (List.mem_filter.mpr ⟨mem_srt.mpr hin, by simpa using hws⟩)
    obtain ⟨K, hK⟩ : ∃ K, K = (srt (clo ws)).filter (fun t => decide (t ∈ ws)) := ⟨_, rfl⟩
    rw [← hK] at hfl hpos
    have hs := J'.short M hem
    obtain ⟨r1, r2⟩ := J'.rng e hem
    obtain ⟨x, y, hx, hy, hxy⟩ := J'.hd e hem
    have li := (List.getElem?_eq_some_iff.mp h2).1
    have hd := double_ok M (b := e.2.1 ++ [i]) (a := e.2.2) (fun k hk => by
      rcases List.mem_append.mp hk with z | z
      · exact r1 k z
      · have : k = i := by simpa using z
        rw [this]; exact li) r2 (by simp; omega) (by omega) (fun z => by
        rw [← z] at hy
        cases hq : e.2.1 with
        | nil => rw [hq] at hx; cases hx
        | cons a l =>
          rw [hq] at hx hy
          simp at hx hy
          exact hxy (hx.symm.trans hy)) (by rw [spell_app ws e.2.1 i h2]; exact J'.txt e hem)
    cases b with
    | false => simp -implicitDefEqProofs [m__law_asks, b__law_asks, ht, hfl, hr, hnw, hc5, hm, hd, few, hpos, -List.map_map, -List.map_take]
    | true => simp -implicitDefEqProofs [m__law_asks, b__law_asks, ht, hfl, hr, hnw, hc5, hm, hd, few, hpos, -List.map_map, -List.map_take]
end VS
namespace VS
open PySem PySem.Spec L2
open PyProof.Rows hiding St
/-! ### the law -/
def tailS : En → R En (Fl × En) :=
  (sq (setS 5 (ixS 4 (callE m__law_draw [some 1, none] (econs (mvE 1) (econs (bv (bN pLen (bcons (nmB 4) bnil))) enil)))))
    (sq (setS 6 (ixS 4 (callE m__law_draw [some 1, none] (econs (mvE 1) (econs (bv (bN pLen (bcons (nmB 4) bnil))) enil)))))
    (sq (ifS (andT (ofV (e2 pEq (callE m__law_draw [some 1, none] (econs (mvE 1) (econs (sh (cB (.int 3))) enil))) (sh (cB (.int 0))))) (andT (ofB (b2 (pCmp cLt) (bN pLen (bcons (b2 pAdd (nmB 5) (nmB 6)) bnil)) (cB (.int 6)))) (andT (ofB (b2 pNotIn (b2 pAdd (nmB 5) (nmB 6)) (nmB 4))) (ofB (b2 (pCmp cLt) (bN pLen (bcons (nmB 4) bnil)) (cB (.int 8)))))))
      (apS 4 (bv (b2 pAdd (nmB 5) (nmB 6))))
      skS)
    (ifS (notT (ofV (sh (callA 1 m__law_asks (bcons (nmB 4) bnil)))))
      (rtS (sh (cB (.bl false))))
      skS))))
def headS : En → R En (Fl × En) :=
  (sq (setS 3 (e2 pIx (eN mkL (econs (sh (cB (.str "W."))) (econs (sh (cB (.str "WR."))) (econs (sh (cB (.str "WR"))) (econs (sh (cB (.str ".WRGYL"))) enil))))) (callE m__law_draw [some 1, none] (econs (mvE 1) (econs (sh (cB (.int 4))) enil)))))
    (sq (setS 4 (callE m__law_code [some 1, none, none, none] (econs (mvE 1) (econs (sh (nmB 3)) (econs (sh (cB (.int 5))) (econs (sh (cB (.int 4))) enil))))))
    (sq (ifS (ofV (e2 pEq (callE m__law_draw [some 1, none] (econs (mvE 1) (econs (sh (cB (.int 4))) enil))) (sh (cB (.int 0)))))
      (setS 4 (callE m__law_code [some 1, none, none, none] (econs (mvE 1) (econs (sh (nmB 3)) (econs (sh (cB (.int 8))) (econs (sh (cB (.int 5))) enil))))))
      skS)
    tailS)))
theorem bo_law_is (e : En) : bo_law_1 e = headS e := rfl
theorem draw_nat {t : T} {many : Nat} (F : Fd t) (hm : 0 < many) (hb : many < 1000000) : ∃ (d : Nat) (t' : T), m__law_draw [t, .s (.int (many : Int))] = .ok (.s (.int (d : Int)), [some t', none]) ∧ Fd t' ∧ d < many := by
  obtain ⟨d, t', e, F', h0, h1⟩ := draw_ok F (many := (many : Int)) (by omega) (by omega)
  obtain ⟨n, rfl⟩ : ∃ n : Nat, d = n := ⟨d.toNat, by omega⟩
  exact ⟨n, t', e, F', by omega⟩
theorem tail_ok {ws : List Wd} (M : Sm ws) (nd : ws.Nodup) (hne : 1 ≤ ws.length) {t : T} (F : Fd t) (c x2 x3 x5 x6 : Option T) :
    ∃ t' y4 y5 y6, tailS [c, some t, x2, x3, some (.l (ws.map sT)), x5, x6] = .ok (.nx, [c, some t', x2, x3, y4, y5, y6]) ∧ Fd t' := by
  have hn := M.n
  obtain ⟨d1, t1, e1, F1, h1⟩ := draw_nat F (many := ws.length) (by omega) (by omega)
  obtain ⟨d2, t2, e2, F2, h2⟩ := draw_nat F1 (many := ws.length) (by omega) (by omega)
  obtain ⟨d3, t3, e3, F3, h3⟩ := draw_nat F2 (many := 3) (by omega) (by omega)
  have e3' : m__law_draw [t2, .s (.int 3)] = .ok (.s (.int (d3 : Int)), [some t3, none]) := e3
  have w1 := M.w _ (List.getElem_mem h1)
  have w2 := M.w _ (List.getElem_mem h2)
  have a1 : atI (ws.map sD) (d1 : Int) = some (sD ws[d1]) := by rw [atI_nat, List.getElem?_map, List.getElem?_eq_getElem h1]; rfl
  have a2 : atI (ws.map sD) (d2 : Int) = some (sD ws[d2]) := by rw [atI_nat, List.getElem?_map, List.getElem?_eq_getElem h2]; rfl
  obtain ⟨u, hu⟩ : ∃ u, u = ws[d1] := ⟨_, rfl⟩
  obtain ⟨v, hv⟩ : ∃ v, v = ws[d2] := ⟨_, rfl⟩
  have c1 := M.c _ (List.getElem_mem h1)
  have c2 := M.c _ (List.getElem_mem h2)
  rw [← hu] at a1 w1 c1
  rw [← hv] at a2 w2 c2
  have hs : u.length + v.length ≤ 1000000 := by omega
  have ask := asks_ok M nd hne
  by_cases q1 : d3 = 0
  · by_cases q2 : u.length + v.length < 6
    · by_cases q3 : u ++ v ∈ ws
      · refine ⟨t3, some (.l (ws.map sT)), some (sT u), some (sT v), ?_, F3⟩
        have q2' : (u.length : Int) + v.length < 6 := by omega
        simp -implicitDefEqProofs [tailS, e1, e2, e3', a1, a2, q1, q2', q3, few, hs, ask, -List.map_map]
      · by_cases q4 : ws.length < 8
        · have M' : Sm (ws ++ [u ++ v]) := ⟨by simp; omega, fun w hw => by
            rcases List.mem_append.mp hw with z | z
            · exact M.w w z
            · have : w = u ++ v := by simpa using z
              rw [this, List.length_append]; omega, fun w hw x hx => by
            rcases List.mem_append.mp hw with z | z
            · exact M.c w z x hx
            · have : w = u ++ v := by simpa using z
              rw [this] at hx
              exact (List.mem_append.mp hx).elim (c1 x) (c2 x)⟩
          have nd' : (ws ++ [u ++ v]).Nodup := List.nodup_append.mpr ⟨nd, by simp, fun x hx y hy e => by
            have : y = u ++ v := by simpa using hy
            subst this; subst e
            exact q3 hx⟩
          have ask' := asks_ok M' nd' (by simp)
          rw [List.map_append, List.map_cons, List.map_nil] at ask'
          refine ⟨t3, some (.l (ws.map sT ++ [sT (u ++ v)])), some (sT u), some (sT v), ?_, F3⟩
          have q2' : (u.length : Int) + v.length < 6 := by omega
          have q4' : (ws.length : Int) < 8 := by omega
          simp -implicitDefEqProofs [tailS, e1, e2, e3', a1, a2, q1, q2', q3, q4', few, few', hs, ask', show ws.length ≤ 1000000 by omega, ers_app, -List.map_map]
        · refine ⟨t3, some (.l (ws.map sT)), some (sT u), some (sT v), ?_, F3⟩
          have q2' : (u.length : Int) + v.length < 6 := by omega
          have q4' : ¬ (ws.length : Int) < 8 := by omega
          simp -implicitDefEqProofs [tailS, e1, e2, e3', a1, a2, q1, q2', q3, q4', few, hs, ask, -List.map_map]
    · refine ⟨t3, some (.l (ws.map sT)), some (sT u), some (sT v), ?_, F3⟩
      have q2' : ¬ (u.length : Int) + v.length < 6 := by omega
      simp -implicitDefEqProofs [tailS, e1, e2, e3', a1, a2, q1, q2', few, hs, ask, -List.map_map]
  · refine ⟨t3, some (.l (ws.map sT)), some (sT u), some (sT v), ?_, F3⟩
    have q1' : ¬ (d3 : Int) = 0 := by omega
    simp -implicitDefEqProofs [tailS, e1, e2, e3', a1, a2, q1, few, hs, ask, -List.map_map]
theorem letters_ok (d : Nat) (h : d < 4) : ∃ l : Wd, atI [D.str (Str.ofString "W."), D.str (Str.ofString "WR."), D.str (Str.ofString "WR"), D.str (Str.ofString ".WRGYL")] (d : Int) = some (sD l) ∧ 0 < l.length ∧ l.length ≤ 1000 ∧ ∀ x ∈ l, x < 1114112 := by
  rw [atI_nat, ofList_S, ofList_S, ofList_S, ofList_S]
  match d, h with
  | 0, _ => exact ⟨_, rfl, by decide, by decide, by decide⟩
  | 1, _ => exact ⟨_, rfl, by decide, by decide, by decide⟩
  | 2, _ => exact ⟨_, rfl, by decide, by decide, by decide⟩
  | 3, _ => exact ⟨_, rfl, by decide, by decide, by decide⟩
theorem Cd.sm {ws : List Wd} {m g : Nat} {l : Wd} (C : Cd ws m g l) (hm : m ≤ 8) (hg : g ≤ 5) (hl : ∀ x ∈ l, x < 1114112) : Sm ws :=
  ⟨by have := C.le; omega, fun w hw => by have := C.wd w hw; exact ⟨this.1, by omega⟩, fun w hw x hx => hl x ((C.wd w hw).2.2 x hx)⟩
theorem turn_ok {t : T} (F : Fd t) (c x2 x3 x4 x5 x6 : Option T) : ∃ t' y3 y4 y5 y6, bo_law_1 [c, some t, x2, x3, x4, x5, x6] = .ok (.nx, [c, some t', x2, y3, y4, y5, y6]) ∧ Fd t' := by
  obtain ⟨d1, t1, e1, F1, h1⟩ := draw_nat F (many := 4) (by omega) (by omega)
  have e1' : m__law_draw [t, .s (.int 4)] = .ok (.s (.int (d1 : Int)), [some t1, none]) := e1
  obtain ⟨l, hl, l1, l2, l3⟩ := letters_ok d1 h1
  obtain ⟨ws, t2, e2, F2, C⟩ := code_ok F1 (l := l) l1 l2 (most := 5) (longest := 4) (by omega) (by omega) (by omega) (by omega)
  have e2' : m__law_code [t1, sT l, .s (.int 5), .s (.int 4)] = .ok (.l (ws.map sT), [some t2, none, none, none]) := e2
  obtain ⟨d3, t3, e3, F3, h3⟩ := draw_nat F2 (many := 4) (by omega) (by omega)
  have e3' : m__law_draw [t2, .s (.int 4)] = .ok (.s (.int (d3 : Int)), [some t3, none]) := e3
  rw [bo_law_is]
  by_cases q : d3 = 0
  · obtain ⟨us, t4, e4, F4, C4⟩ := code_ok F3 (l := l) l1 l2 (most := 8) (longest := 5) (by omega) (by omega) (by omega) (by omega)
    have e4' : m__law_code [t3, sT l, .s (.int 8), .s (.int 5)] = .ok (.l (us.map sT), [some t4, none, none, none]) := e4
    obtain ⟨t5, y4, y5, y6, e5, F5⟩ := tail_ok (C4.sm (by omega) (by omega) l3) C4.nd C4.ne F4 c x2 (some (sT l)) x5 x6
    refine ⟨t5, some (sT l), y4, y5, y6, ?_, F5⟩
    simp -implicitDefEqProofs [headS, few, e1', hl, e2', e3', q, e4', e5]
  · obtain ⟨t5, y4, y5, y6, e5, F5⟩ := tail_ok (C.sm (by omega) (by omega) l3) C.nd C.ne F3 c x2 (some (sT l)) x5 x6
    refine ⟨t5, some (sT l), y4, y5, y6, ?_, F5⟩
    have q' : ¬ (d3 : Int) = 0 := by omega
    simp -implicitDefEqProofs [headS, few, e1', hl, e2', e3', q, e5]
end VS
namespace VS
open PySem PySem.Spec L2
open PyProof.Rows hiding St
/-! ### the codes that the law names -/
theorem fixed_double {ws : List Wd} (M : Sm ws) {told : D} (h : m_reading [.s (.lst (ws.map sD))] = .ok (.s told, [none])) (hd : ∃ f at_ e, rdLoop ws 1000 0 (firstR (ftAll ws 0 ws) []) = some (.inl (at_, e)) ∧ f = 0) :
    m__law_is_double [.s (.lst (ws.map sD)), .s told] = .ok (.s (.bl true), [none, none]) := by
  obtain ⟨told', hr, hcase⟩ := reading_ok M
  rw [hr] at h
  cases h
  rcases hcase with ⟨r, h1, _, _⟩ | ⟨at_, e, i, r', h1, h2, J', hem, rfl⟩
  · obtain ⟨_, at_, e, h3, _⟩ := hd
    rw [h1] at h3
    cases h3
  · have hs := J'.short M hem
    obtain ⟨r1, r2⟩ := J'.rng e hem
    obtain ⟨x, y, hx, hy, hxy⟩ := J'.hd e hem
    have li := (List.getElem?_eq_some_iff.mp h2).1
    exact double_ok M (b := e.2.1 ++ [i]) (a := e.2.2) (fun k hk => by
      rcases List.mem_append.mp hk with z | z
      · exact r1 k z
      · have : k = i := by simpa using z
        rw [this]; exact li) r2 (by simp; omega) (by omega) (fun z => by
        rw [← z] at hy
        cases hq : e.2.1 with
        | nil => rw [hq] at hx; cases hx
        | cons a l =>
          rw [hq] at hx hy
          simp at hx hy
          exact hxy (hx.symm.trans hy)) (by rw [spell_app ws e.2.1 i h2]; exact J'.txt e hem)
theorem fixed_ok {ws : List Wd} (M : Sm ws) {at_ : Nat} {e : Ent} (h : rdLoop ws 1000 0 (firstR (ftAll ws 0 ws) []) = some (.inl (at_, e))) :
    ∃ told, m_reading [.s (.lst (ws.map sD))] = .ok (.s told, [none]) ∧ m__law_is_double [.s (.lst (ws.map sD)), .s told] = .ok (.s (.bl true), [none, none]) := by
  obtain ⟨told, hr, _⟩ := reading_ok M
  exact ⟨told, hr, fixed_double M hr ⟨0, at_, e, h, rfl⟩⟩
theorem fixed_single {ws : List Wd} (M : Sm ws) {r : List Ent} (h : rdLoop ws 1000 0 (firstR (ftAll ws 0 ws) []) = some (.inr r)) :
    m_reading [.s (.lst (ws.map sD))] = .ok (.s (.tup [.str (Str.ofString "single"), .lst ((sortS ((keys r).map S)).map D.str)]), [none]) := by
  obtain ⟨told, hr, hcase⟩ := reading_ok M
  rcases hcase with ⟨r', h1, _, rfl⟩ | ⟨at_, e, i, r', h1, _⟩
  · rw [h] at h1
    cases h1
    exact hr
  · rw [h] at h1
    cases h1
def cdA : List Wd := [[87], [87, 82], [82, 87]]
def cdB : List Wd := [[87, 87], [87, 87, 87]]
def cdC : List Wd := [[87, 82], [82, 87], [87, 82, 82], [87]]
def cdD : List Wd := [[87], [87, 82]]
def cdE : List Wd := [[87]]
theorem smA : Sm cdA := ⟨by decide, by decide, by decide⟩
theorem smB : Sm cdB := ⟨by decide, by decide, by decide⟩
theorem smC : Sm cdC := ⟨by decide, by decide, by decide⟩
theorem smD : Sm cdD := ⟨by decide, by decide, by decide⟩
theorem smE : Sm cdE := ⟨by decide, by decide, by decide⟩
theorem rdA : ∃ a e, rdLoop cdA 1000 0 (firstR (ftAll cdA 0 cdA) []) = some (.inl (a, e)) := ⟨_, _, rfl⟩
theorem rdB : ∃ a e, rdLoop cdB 1000 0 (firstR (ftAll cdB 0 cdB) []) = some (.inl (a, e)) := ⟨_, _, rfl⟩
theorem rdC : ∃ a e, rdLoop cdC 1000 0 (firstR (ftAll cdC 0 cdC) []) = some (.inl (a, e)) := ⟨_, _, rfl⟩
theorem rdD : ∃ r, rdLoop cdD 1000 0 (firstR (ftAll cdD 0 cdD) []) = some (.inr r) ∧ keys r = [[82]] := ⟨_, rfl, rfl⟩
theorem rdE : ∃ r, rdLoop cdE 1000 0 (firstR (ftAll cdE 0 cdE) []) = some (.inr r) ∧ keys r = [] := ⟨_, rfl, rfl⟩
theorem law_true (ns : List Int) (hl : ns.length ≤ 63) : ∃ us, m_law [.s (.scr ns)] = .ok (.s (.bl true), us) := by
  obtain ⟨t0, e0, F0⟩ := feed_ok ns hl
  obtain ⟨t1, a3, a4, a5, a6, e1, F1⟩ := turn_ok F0 (some (.s (.scr ns))) (some (.s (.int 0))) none none none none
  obtain ⟨t2, b3, b4, b5, b6, e2, F2⟩ := turn_ok F1 (some (.s (.scr ns))) (some (.s (.int 1))) a3 a4 a5 a6
  obtain ⟨t3, c3, c4, c5, c6, e3, F3⟩ := turn_ok F2 (some (.s (.scr ns))) (some (.s (.int 2))) b3 b4 b5 b6
  have hr3 : rgO1 [.s (.int 3)] = some [.int 0, .int 1, .int 2] := by
    rw [rg1 (by omega) (by omega)]
    rfl
  obtain ⟨_, _, hA⟩ := rdA
  obtain ⟨_, _, hB⟩ := rdB
  obtain ⟨_, _, hC⟩ := rdC
  obtain ⟨r4, hD, kD⟩ := rdD
  obtain ⟨r5, hE, kE⟩ := rdE
  obtain ⟨oA, fA, gA⟩ := fixed_ok smA hA
  obtain ⟨oB, fB, gB⟩ := fixed_ok smB hB
  obtain ⟨oC, fC, gC⟩ := fixed_ok smC hC
  have fD := fixed_single smD hD
  have fE := fixed_single smE hE
  rw [kD] at fD
  rw [kE] at fE
  have s1 : (sortS ([[82]].map S)).map D.str = [sD [82]] := by simp [sortS]
  have s0 : (sortS (([] : List Wd).map S)).map D.str = [] := by simp [sortS]
  rw [s1] at fD
  rw [s0] at fE
  have l1 := like_refl 3 (.tup [.str (Str.ofString "single"), .lst [sD [82]]]) (by simp [plD, plDs])
  have l0 := like_refl 3 (.tup [.str (Str.ofString "single"), .lst []]) (by simp [plD, plDs])
  have k1 : Str.ofString "W" = S [87] := ofList_S "W"
  have k2 : Str.ofString "WR" = S [87, 82] := ofList_S "WR"
  have k3 : Str.ofString "RW" = S [82, 87] := ofList_S "RW"
  have k4 : Str.ofString "WW" = S [87, 87] := ofList_S "WW"
  have k5 : Str.ofString "WWW" = S [87, 87, 87] := ofList_S "WWW"
  have k6 : Str.ofString "WRR" = S [87, 82, 82] := ofList_S "WRR"
  have k7 : Str.ofString "R" = S [82] := ofList_S "R"
  simp only [cdA, cdB, cdC, cdD, cdE, List.map_cons, List.map_nil] at fA fB fC fD fE gA gB gC
  refine ⟨[none], ?_⟩
  simp -implicitDefEqProofs [m_law, b_law, few, e0, hr3, forL_cons, e1, e2, e3, k1, k2, k3, k4, k5, k6, k7, bo_law_2_ap, fA, fB, fC, fD, fE, gA, gB, gC, l1, l0, callB]
end VS
namespace VS
open PySem PySem.Spec L2
open PyProof.Rows hiding St
def spLaw (K : PySem.W.Frag) : Sp := fun vs H Q _ => ∃ (a : Addr) (ns : List Int), vs = [.ref a] ∧ SqL K H a (ns.map V.int) ∧ ns.length ≤ 63 ∧ ∀ H', Q (.bl true) H'
theorem noCX {P : Program} {w : World} {H : Hp} {s : Shared} {e : Value} {s' : Shared} (h : L2.CX P w [] H s (fun _ _ _ => False) e s') : False := by
  obtain ⟨_, _, _, _, _, _, _, _, _, _, _, _, z⟩ := h
  exact z
theorem law_of {w : World} {K : PySem.W.Frag} {mg : Str → Option Value} {fa : Addr} (hmg : mg "law" = some (.ref fa)) (T : Tx K mg) : ∃ fd : FuncData, (∀ (s : Shared) (v : Value), BindsTo s fd ⟨[v], []⟩ [("script", v)]) ∧ ∀ base : Heap, K.In base → base.Ns mainGlobals mg →
    FnOk PySem.Challenge.pw_lightstold_k96_whole_single_or_double w K mg base (L2.CX PySem.Challenge.pw_lightstold_k96_whole_single_or_double w) 7 fa fd ["script"] (spLaw K) := by
  have e := hmg.symm.trans T.g_law
  cases e
  refine ⟨T.d_law, T.e_law, fun base _ _ => (G_law T).imp fun vs H Q E h => ?_⟩
  obtain ⟨a, ns, rfl, hS, hl, q⟩ := h
  obtain ⟨us, e⟩ := law_true ns hl
  refine ⟨rfl, [.s (.scr ns)], H, [], ?_, List.nodup_nil, by simp, Same.refl H, ?_⟩
  · simp only [Owns, Own, Rep]
    exact ⟨.ref a, [], [], [], rfl, ⟨⟨a, rfl, hS⟩, rfl⟩, ⟨rfl, rfl⟩, rfl⟩
  · rw [e]
    intro v F' H' fp' ft _ o _ _ _ _
    simp only [Own, Rep] at o
    rw [o.1]
    exact q H'

def tx_mk {h : Heap} {K : PySem.W.Frag} {mg : Str → Option Value} (X : K.In h) (G : h.Ns mainGlobals mg) {f0 : Addr} {od0 an0 : Option Addr} {sl0 : Array (Option Value)} {oc0 kV0 dc0 pm0 cd0 ct0 : Value} {f1 : Addr} {od1 an1 : Option Addr} {sl1 : Array (Option Value)} {oc1 kV1 dc1 pm1 cd1 ct1 : Value} {f2 : Addr} {od2 an2 : Option Addr} {sl2 : Array (Option Value)} {oc2 kV2 dc2 pm2 cd2 ct2 : Value} {f3 : Addr} {od3 an3 : Option Addr} {sl3 : Array (Option Value)} {oc3 kV3 dc3 pm3 cd3 ct3 : Value} {f4 : Addr} {od4 an4 : Option Addr} {sl4 : Array (Option Value)} {oc4 kV4 dc4 pm4 cd4 ct4 : Value} {f5 : Addr} {od5 an5 : Option Addr} {sl5 : Array (Option Value)} {oc5 kV5 dc5 pm5 cd5 ct5 : Value} {f6 : Addr} {od6 an6 : Option Addr} {sl6 : Array (Option Value)} {oc6 kV6 dc6 pm6 cd6 ct6 : Value} {f7 : Addr} {od7 an7 : Option Addr} {sl7 : Array (Option Value)} {oc7 kV7 dc7 pm7 cd7 ct7 : Value} {f8 : Addr} {od8 an8 : Option Addr} {sl8 : Array (Option Value)} {oc8 kV8 dc8 pm8 cd8 ct8 : Value} {f9 : Addr} {od9 an9 : Option Addr} {sl9 : Array (Option Value)} {oc9 kV9 dc9 pm9 cd9 ct9 : Value} {f10 : Addr} {od10 an10 : Option Addr} {sl10 : Array (Option Value)} {oc10 kV10 dc10 pm10 cd10 ct10 : Value} {f11 : Addr} {od11 an11 : Option Addr} {sl11 : Array (Option Value)} {oc11 kV11 dc11 pm11 cd11 ct11 : Value} {f12 : Addr} {od12 an12 : Option Addr} {sl12 : Array (Option Value)} {oc12 kV12 dc12 pm12 cd12 ct12 : Value} {f13 : Addr} {od13 an13 : Option Addr} {sl13 : Array (Option Value)} {oc13 kV13 dc13 pm13 cd13 ct13 : Value} {f14 : Addr} {od14 an14 : Option Addr} {sl14 : Array (Option Value)} {oc14 kV14 dc14 pm14 cd14 ct14 : Value} {f15 : Addr} {od15 an15 : Option Addr} {sl15 : Array (Option Value)} {oc15 kV15 dc15 pm15 cd15 ct15 : Value}
    (x0 : PySem.W.nsIn K mainGlobals "first_tails" = some (some (.ref f0))) (l0 : K.lookup f0 = some ⟨oc0, od0, .func (PySem.W.fnOf "first_tails" "first_tails" (defArgs s_first_tails) (defBody s_first_tails) (defScope s_first_tails) .none kV0 dc0 pm0 an0 cd0 ct0), sl0⟩) (c0 : PySem.W.codeIn K cd0 "first_tails" = true) (k0 : PySem.W.keepIn K (.ref f0) = true)
    (x1 : PySem.W.nsIn K mainGlobals "tails_from" = some (some (.ref f1))) (l1 : K.lookup f1 = some ⟨oc1, od1, .func (PySem.W.fnOf "tails_from" "tails_from" (defArgs s_tails_from) (defBody s_tails_from) (defScope s_tails_from) .none kV1 dc1 pm1 an1 cd1 ct1), sl1⟩) (c1 : PySem.W.codeIn K cd1 "tails_from" = true) (k1 : PySem.W.keepIn K (.ref f1) = true)
    (x2 : PySem.W.nsIn K mainGlobals "longer_messages" = some (some (.ref f2))) (l2 : K.lookup f2 = some ⟨oc2, od2, .func (PySem.W.fnOf "longer_messages" "longer_messages" (defArgs s_longer_messages) (defBody s_longer_messages) (defScope s_longer_messages) .none kV2 dc2 pm2 an2 cd2 ct2), sl2⟩) (c2 : PySem.W.codeIn K cd2 "longer_messages" = true) (k2 : PySem.W.keepIn K (.ref f2) = true)
    (x3 : PySem.W.nsIn K mainGlobals "reading" = some (some (.ref f3))) (l3 : K.lookup f3 = some ⟨oc3, od3, .func (PySem.W.fnOf "reading" "reading" (defArgs s_reading) (defBody s_reading) (defScope s_reading) .none kV3 dc3 pm3 an3 cd3 ct3), sl3⟩) (c3 : PySem.W.codeIn K cd3 "reading" = true) (k3 : PySem.W.keepIn K (.ref f3) = true)
    (x4 : PySem.W.nsIn K mainGlobals "_law_feed" = some (some (.ref f4))) (l4 : K.lookup f4 = some ⟨oc4, od4, .func (PySem.W.fnOf "_law_feed" "_law_feed" (defArgs s__law_feed) (defBody s__law_feed) (defScope s__law_feed) .none kV4 dc4 pm4 an4 cd4 ct4), sl4⟩) (c4 : PySem.W.codeIn K cd4 "_law_feed" = true) (k4 : PySem.W.keepIn K (.ref f4) = true)
    (x5 : PySem.W.nsIn K mainGlobals "_law_draw" = some (some (.ref f5))) (l5 : K.lookup f5 = some ⟨oc5, od5, .func (PySem.W.fnOf "_law_draw" "_law_draw" (defArgs s__law_draw) (defBody s__law_draw) (defScope s__law_draw) .none kV5 dc5 pm5 an5 cd5 ct5), sl5⟩) (c5 : PySem.W.codeIn K cd5 "_law_draw" = true) (k5 : PySem.W.keepIn K (.ref f5) = true)
    (x6 : PySem.W.nsIn K mainGlobals "_law_like" = some (some (.ref f6))) (l6 : K.lookup f6 = some ⟨oc6, od6, .func (PySem.W.fnOf "_law_like" "_law_like" (defArgs s__law_like) (defBody s__law_like) (defScope s__law_like) .none kV6 dc6 pm6 an6 cd6 ct6), sl6⟩) (c6 : PySem.W.codeIn K cd6 "_law_like" = true) (k6 : PySem.W.keepIn K (.ref f6) = true)
    (x7 : PySem.W.nsIn K mainGlobals "_law_is_whole" = some (some (.ref f7))) (l7 : K.lookup f7 = some ⟨oc7, od7, .func (PySem.W.fnOf "_law_is_whole" "_law_is_whole" (defArgs s__law_is_whole) (defBody s__law_is_whole) (defScope s__law_is_whole) .none kV7 dc7 pm7 an7 cd7 ct7), sl7⟩) (c7 : PySem.W.codeIn K cd7 "_law_is_whole" = true) (k7 : PySem.W.keepIn K (.ref f7) = true)
    (x8 : PySem.W.nsIn K mainGlobals "_law_word" = some (some (.ref f8))) (l8 : K.lookup f8 = some ⟨oc8, od8, .func (PySem.W.fnOf "_law_word" "_law_word" (defArgs s__law_word) (defBody s__law_word) (defScope s__law_word) .none kV8 dc8 pm8 an8 cd8 ct8), sl8⟩) (c8 : PySem.W.codeIn K cd8 "_law_word" = true) (k8 : PySem.W.keepIn K (.ref f8) = true)
    (x9 : PySem.W.nsIn K mainGlobals "_law_code" = some (some (.ref f9))) (l9 : K.lookup f9 = some ⟨oc9, od9, .func (PySem.W.fnOf "_law_code" "_law_code" (defArgs s__law_code) (defBody s__law_code) (defScope s__law_code) .none kV9 dc9 pm9 an9 cd9 ct9), sl9⟩) (c9 : PySem.W.codeIn K cd9 "_law_code" = true) (k9 : PySem.W.keepIn K (.ref f9) = true)
    (x10 : PySem.W.nsIn K mainGlobals "_law_tails" = some (some (.ref f10))) (l10 : K.lookup f10 = some ⟨oc10, od10, .func (PySem.W.fnOf "_law_tails" "_law_tails" (defArgs s__law_tails) (defBody s__law_tails) (defScope s__law_tails) .none kV10 dc10 pm10 an10 cd10 ct10), sl10⟩) (c10 : PySem.W.codeIn K cd10 "_law_tails" = true) (k10 : PySem.W.keepIn K (.ref f10) = true)
    (x11 : PySem.W.nsIn K mainGlobals "_law_meets" = some (some (.ref f11))) (l11 : K.lookup f11 = some ⟨oc11, od11, .func (PySem.W.fnOf "_law_meets" "_law_meets" (defArgs s__law_meets) (defBody s__law_meets) (defScope s__law_meets) .none kV11 dc11 pm11 an11 cd11 ct11), sl11⟩) (c11 : PySem.W.codeIn K cd11 "_law_meets" = true) (k11 : PySem.W.keepIn K (.ref f11) = true)
    (x12 : PySem.W.nsIn K mainGlobals "_law_is_message" = some (some (.ref f12))) (l12 : K.lookup f12 = some ⟨oc12, od12, .func (PySem.W.fnOf "_law_is_message" "_law_is_message" (defArgs s__law_is_message) (defBody s__law_is_message) (defScope s__law_is_message) .none kV12 dc12 pm12 an12 cd12 ct12), sl12⟩) (c12 : PySem.W.codeIn K cd12 "_law_is_message" = true) (k12 : PySem.W.keepIn K (.ref f12) = true)
    (x13 : PySem.W.nsIn K mainGlobals "_law_is_double" = some (some (.ref f13))) (l13 : K.lookup f13 = some ⟨oc13, od13, .func (PySem.W.fnOf "_law_is_double" "_law_is_double" (defArgs s__law_is_double) (defBody s__law_is_double) (defScope s__law_is_double) .none kV13 dc13 pm13 an13 cd13 ct13), sl13⟩) (c13 : PySem.W.codeIn K cd13 "_law_is_double" = true) (k13 : PySem.W.keepIn K (.ref f13) = true)
    (x14 : PySem.W.nsIn K mainGlobals "_law_asks" = some (some (.ref f14))) (l14 : K.lookup f14 = some ⟨oc14, od14, .func (PySem.W.fnOf "_law_asks" "_law_asks" (defArgs s__law_asks) (defBody s__law_asks) (defScope s__law_asks) .none kV14 dc14 pm14 an14 cd14 ct14), sl14⟩) (c14 : PySem.W.codeIn K cd14 "_law_asks" = true) (k14 : PySem.W.keepIn K (.ref f14) = true)
    (x15 : PySem.W.nsIn K mainGlobals "law" = some (some (.ref f15))) (l15 : K.lookup f15 = some ⟨oc15, od15, .func (PySem.W.fnOf "law" "law" (defArgs s_law) (defBody s_law) (defScope s_law) .none kV15 dc15 pm15 an15 cd15 ct15), sl15⟩) (c15 : PySem.W.codeIn K cd15 "law" = true) (k15 : PySem.W.keepIn K (.ref f15) = true)
    (z_abs : PySem.W.nsIn K mainGlobals "abs" = some none)
    (z_bool : PySem.W.nsIn K mainGlobals "bool" = some none)
    (z_enumerate : PySem.W.nsIn K mainGlobals "enumerate" = some none)
    (z_int : PySem.W.nsIn K mainGlobals "int" = some none)
    (z_isinstance : PySem.W.nsIn K mainGlobals "isinstance" = some none)
    (z_len : PySem.W.nsIn K mainGlobals "len" = some none)
    (z_list : PySem.W.nsIn K mainGlobals "list" = some none)
    (z_range : PySem.W.nsIn K mainGlobals "range" = some none)
    (z_sorted : PySem.W.nsIn K mainGlobals "sorted" = some none)
    (z_str : PySem.W.nsIn K mainGlobals "str" = some none)
    (z_tuple : PySem.W.nsIn K mainGlobals "tuple" = some none) : Tx K mg where
  a_first_tails := f0
  d_first_tails := _
  F_first_tails := fun_mk (st := s_first_tails) l0 c0 k0
  g_first_tails := PySem.W.mg_of X G x0
  b_first_tails := (fun_mk (st := s_first_tails) l0 c0 k0).binds (ps := ["code"]) fun _ _ _ _ _ _ us hl => match us, hl with | [_], _ => rfl
  a_tails_from := f1
  d_tails_from := _
  F_tails_from := fun_mk (st := s_tails_from) l1 c1 k1
  g_tails_from := PySem.W.mg_of X G x1
  b_tails_from := (fun_mk (st := s_tails_from) l1 c1 k1).binds (ps := ["code", "tail"]) fun _ _ _ _ _ _ us hl => match us, hl with | [_, _], _ => rfl
  a_longer_messages := f2
  d_longer_messages := _
  F_longer_messages := fun_mk (st := s_longer_messages) l2 c2 k2
  g_longer_messages := PySem.W.mg_of X G x2
  b_longer_messages := (fun_mk (st := s_longer_messages) l2 c2 k2).binds (ps := ["messages", "number", "passes"]) fun _ _ _ _ _ _ us hl => match us, hl with | [_, _, _], _ => rfl
  a_reading := f3
  d_reading := _
  F_reading := fun_mk (st := s_reading) l3 c3 k3
  g_reading := PySem.W.mg_of X G x3
  b_reading := (fun_mk (st := s_reading) l3 c3 k3).binds (ps := ["code"]) fun _ _ _ _ _ _ us hl => match us, hl with | [_], _ => rfl
  a__law_feed := f4
  d__law_feed := _
  F__law_feed := fun_mk (st := s__law_feed) l4 c4 k4
  g__law_feed := PySem.W.mg_of X G x4
  b__law_feed := (fun_mk (st := s__law_feed) l4 c4 k4).binds (ps := ["script"]) fun _ _ _ _ _ _ us hl => match us, hl with | [_], _ => rfl
  a__law_draw := f5
  d__law_draw := _
  F__law_draw := fun_mk (st := s__law_draw) l5 c5 k5
  g__law_draw := PySem.W.mg_of X G x5
  b__law_draw := (fun_mk (st := s__law_draw) l5 c5 k5).binds (ps := ["feed", "many"]) fun _ _ _ _ _ _ us hl => match us, hl with | [_, _], _ => rfl
  a__law_like := f6
  d__law_like := _
  F__law_like := fun_mk (st := s__law_like) l6 c6 k6
  g__law_like := PySem.W.mg_of X G x6
  b__law_like := (fun_mk (st := s__law_like) l6 c6 k6).binds (ps := ["told", "due"]) fun _ _ _ _ _ _ us hl => match us, hl with | [_, _], _ => rfl
  a__law_is_whole := f7
  d__law_is_whole := _
  F__law_is_whole := fun_mk (st := s__law_is_whole) l7 c7 k7
  g__law_is_whole := PySem.W.mg_of X G x7
  b__law_is_whole := (fun_mk (st := s__law_is_whole) l7 c7 k7).binds (ps := ["x"]) fun _ _ _ _ _ _ us hl => match us, hl with | [_], _ => rfl
  a__law_word := f8
  d__law_word := _
  F__law_word := fun_mk (st := s__law_word) l8 c8 k8
  g__law_word := PySem.W.mg_of X G x8
  b__law_word := (fun_mk (st := s__law_word) l8 c8 k8).binds (ps := ["feed", "letters", "longest"]) fun _ _ _ _ _ _ us hl => match us, hl with | [_, _, _], _ => rfl
  a__law_code := f9
  d__law_code := _
  F__law_code := fun_mk (st := s__law_code) l9 c9 k9
  g__law_code := PySem.W.mg_of X G x9
  b__law_code := (fun_mk (st := s__law_code) l9 c9 k9).binds (ps := ["feed", "letters", "most", "longest"]) fun _ _ _ _ _ _ us hl => match us, hl with | [_, _, _, _], _ => rfl
  a__law_tails := f10
  d__law_tails := _
  F__law_tails := fun_mk (st := s__law_tails) l10 c10 k10
  g__law_tails := PySem.W.mg_of X G x10
  b__law_tails := (fun_mk (st := s__law_tails) l10 c10 k10).binds (ps := ["code"]) fun _ _ _ _ _ _ us hl => match us, hl with | [_], _ => rfl
  a__law_meets := f11
  d__law_meets := _
  F__law_meets := fun_mk (st := s__law_meets) l11 c11 k11
  g__law_meets := PySem.W.mg_of X G x11
  b__law_meets := (fun_mk (st := s__law_meets) l11 c11 k11).binds (ps := ["code"]) fun _ _ _ _ _ _ us hl => match us, hl with | [_], _ => rfl
  a__law_is_message := f12
  d__law_is_message := _
  F__law_is_message := fun_mk (st := s__law_is_message) l12 c12 k12
  g__law_is_message := PySem.W.mg_of X G x12
  b__law_is_message := (fun_mk (st := s__law_is_message) l12 c12 k12).binds (ps := ["code", "value"]) fun _ _ _ _ _ _ us hl => match us, hl with | [_, _], _ => rfl
  a__law_is_double := f13
  d__law_is_double := _
  F__law_is_double := fun_mk (st := s__law_is_double) l13 c13 k13
  g__law_is_double := PySem.W.mg_of X G x13
  b__law_is_double := (fun_mk (st := s__law_is_double) l13 c13 k13).binds (ps := ["code", "told"]) fun _ _ _ _ _ _ us hl => match us, hl with | [_, _], _ => rfl
  a__law_asks := f14
  d__law_asks := _
  F__law_asks := fun_mk (st := s__law_asks) l14 c14 k14
  g__law_asks := PySem.W.mg_of X G x14
  b__law_asks := (fun_mk (st := s__law_asks) l14 c14 k14).binds (ps := ["code"]) fun _ _ _ _ _ _ us hl => match us, hl with | [_], _ => rfl
  a_law := f15
  d_law := _
  F_law := fun_mk (st := s_law) l15 c15 k15
  g_law := PySem.W.mg_of X G x15
  b_law := (fun_mk (st := s_law) l15 c15 k15).binds (ps := ["script"]) fun _ _ _ _ _ _ us hl => match us, hl with | [_], _ => rfl
  z_abs := PySem.W.mg_none_of X G z_abs
  z_bool := PySem.W.mg_none_of X G z_bool
  z_enumerate := PySem.W.mg_none_of X G z_enumerate
  z_int := PySem.W.mg_none_of X G z_int
  z_isinstance := PySem.W.mg_none_of X G z_isinstance
  z_len := PySem.W.mg_none_of X G z_len
  z_list := PySem.W.mg_none_of X G z_list
  z_range := PySem.W.mg_none_of X G z_range
  z_sorted := PySem.W.mg_none_of X G z_sorted
  z_str := PySem.W.mg_none_of X G z_str
  z_tuple := PySem.W.mg_none_of X G z_tuple
  e_law := fun s v => .of_eq rfl

end VS
open PySem PySem.W PyProof.Rows
set_option maxHeartbeats 0 in
theorem PySem.Challenge.cw_lightstold_k96_whole_single_or_double_holds : PySem.Challenge.rw_lightstold_k96_whole_single_or_double.Holds := by
  w_on; o_law; k_head; (case hw => w_witness2)
  k_fill
  refine L2.walk_of (l := PySem.Challenge.rw_lightstold_k96_whole_single_or_double) (n := 63) (k := 7) (x := "script") (CX := fun w => L2.CX PySem.Challenge.pw_lightstold_k96_whole_single_or_double w) (sp := fun w => VS.spLaw _) rfl (by decide) rfl ⟨rfl, by decide, by decide⟩ (fun w h Y => PySem.W.kIn_of Y) ?F (fun _ _ a ns hl _ hS => ⟨a, ns, rfl, hS, hl, fun _ => rfl⟩) (fun _ _ _ _ _ h => VS.noCX h)
  case F =>
    intro w mg fa h KX G hmg
    refine' VS.law_of hmg (VS.tx_mk KX G ?x0 ?l0 ?c0 ?k0 ?x1 ?l1 ?c1 ?k1 ?x2 ?l2 ?c2 ?k2 ?x3 ?l3 ?c3 ?k3 ?x4 ?l4 ?c4 ?k4 ?x5 ?l5 ?c5 ?k5 ?x6 ?l6 ?c6 ?k6 ?x7 ?l7 ?c7 ?k7 ?x8 ?l8 ?c8 ?k8 ?x9 ?l9 ?c9 ?k9 ?x10 ?l10 ?c10 ?k10 ?x11 ?l11 ?c11 ?k11 ?x12 ?l12 ?c12 ?k12 ?x13 ?l13 ?c13 ?k13 ?x14 ?l14 ?c14 ?k14 ?x15 ?l15 ?c15 ?k15 ?z_abs ?z_bool ?z_enumerate ?z_int ?z_isinstance ?z_len ?z_list ?z_range ?z_sorted ?z_str ?z_tuple)
    (case x0 => k_is); (case l0 => k_is); (case c0 => k_is); (case k0 => k_is); (case x1 => k_is); (case l1 => k_is); (case c1 => k_is); (case k1 => k_is); (case x2 => k_is); (case l2 => k_is); (case c2 => k_is); (case k2 => k_is); (case x3 => k_is); (case l3 => k_is); (case c3 => k_is); (case k3 => k_is); (case x4 => k_is); (case l4 => k_is); (case c4 => k_is); (case k4 => k_is); (case x5 => k_is); (case l5 => k_is); (case c5 => k_is); (case k5 => k_is); (case x6 => k_is); (case l6 => k_is); (case c6 => k_is); (case k6 => k_is); (case x7 => k_is); (case l7 => k_is); (case c7 => k_is); (case k7 => k_is); (case x8 => k_is); (case l8 => k_is); (case c8 => k_is); (case k8 => k_is); (case x9 => k_is); (case l9 => k_is); (case c9 => k_is); (case k9 => k_is); (case x10 => k_is); (case l10 => k_is); (case c10 => k_is); (case k10 => k_is); (case x11 => k_is); (case l11 => k_is); (case c11 => k_is); (case k11 => k_is); (case x12 => k_is); (case l12 => k_is); (case c12 => k_is); (case k12 => k_is); (case x13 => k_is); (case l13 => k_is); (case c13 => k_is); (case k13 => k_is); (case x14 => k_is); (case l14 => k_is); (case c14 => k_is); (case k14 => k_is); (case x15 => k_is); (case l15 => k_is); (case c15 => k_is); (case k15 => k_is); (case z_abs => k_is); (case z_bool => k_is); (case z_enumerate => k_is); (case z_int => k_is); (case z_isinstance => k_is); (case z_len => k_is); (case z_list => k_is); (case z_range => k_is); (case z_sorted => k_is); (case z_str => k_is); (case z_tuple => k_is)
