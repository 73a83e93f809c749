import PyProof.Rows.All
import Wide.All
import OpenK.AllK
import Wide.FinOn
import HandS.ForMost
import HandS.ForExc
import HandS.ExcInit
import HandS.ExcField
import HandS.Style
import HandS.TupAny
import HandS.Deep
import HandS.CallSlots
import HandS.IsInst
import HandS.SortInts
import HandS.TryOnly
import HandS.TryMany
import HandS.ExcIs
import HandS.Iter
import KE.KExcIs
import PyProof.Rows.SortShellAny
import HandS.Star
import HandS.HotCalls
import HandS.Strs
import KE.GoesMore
import HandS.Codes
import PySem.Challenge.RW_lightstold_k75_spares_options_and_picked
set_option Elab.async false
set_option linter.all false
set_option maxRecDepth 100000
set_option maxHeartbeats 4000000
/-! A value layer over the hand layer: what a piece of Python computes, as a function over plain data. -/
namespace VS
open PySem PySem.Spec L2
open PyProof.Rows hiding St

/-- plain data that nobody changes any more -/
inductive D where
  | non | bl (b : Bool) | int (i : Int) | str (x : Str)
  | lst (xs : List D) | tup (xs : List D) | scr (ns : List Int) | ty (n : String)
  | dk (kvs : List (Key × D))
  | ob (c : Str) (fs : List (Str × D))

/-- a value that a name holds: shared data, or an object that this name alone holds -/
inductive T where
  | s (d : D)
  | l (xs : List T)
  | dk (kvs : List (Key × T))
  | ob (c : Str) (fs : List (Str × T))
  | p (xs : List T)

abbrev En := List (Option T)

/-- an end: a value, an exception (its class, its attributes), nothing said -/
inductive R (ε α : Type) where
  | ok (a : α) | ex (c : Str) (fs : List (Str × D)) (e : ε) | no

structure Kt where
  K : PySem.W.Frag
  mg : Str → Option Value
abbrev kt (X : Cx) : Kt := ⟨X.K, X.mg⟩

/-- a tuple: tracked, or of the written part -/
def RT (K : PySem.W.Frag) (F : Hp) (a : Addr) (xs : List V) : Prop := F a = some (.tup xs) ∨
  ∃ (o : Obj) (its : Array Value) (n : Nat), K.lookup a = some o ∧ o.cls = .type "tuple" ∧ o.data = .seq its n ∧ its.size ≤ sizeLine ∧ Vals xs its.toList
theorem RT.sq {K : PySem.W.Frag} {F : Hp} {a : Addr} {xs : List V} (h : RT K F a xs) : SqT K F a xs := h.elim (fun h => .inl (.inl h)) .inr
theorem RT.mono {K : PySem.W.Frag} {F F' : Hp} {a : Addr} {xs : List V} (s : Same F F') (h : RT K F a xs) : RT K F' a xs := h.elim (fun h => .inl (s _ _ h)) .inr
mutual
def Rep (G : Kt) (F : Hp) : D → V → Prop
  | .non, v => v = .non
  | .bl b, v => v = .bl b
  | .int i, v => v = .int i
  | .str x, v => v = .str x
  | .lst xs, v => ∃ a vs, v = .ref a ∧ F a = some (.lst vs) ∧ Reps G F xs vs
  | .scr ns, v => ∃ a, v = .ref a ∧ SqL G.K F a (ns.map V.int)
  | .ty n, v => v = .ty n
  | .tup xs, v => ∃ a vs, v = .ref a ∧ RT G.K F a vs ∧ Reps G F xs vs
  | .dk kvs, v => ∃ a vs, v = .ref a ∧ F a = some (.dK vs) ∧ RepK G F kvs vs
  | .ob c fs, v => ∃ a C dx vs, v = .ref a ∧ G.mg c = some (.ref C) ∧ F a = some (.ins C dx vs) ∧ F dx = some (.own a) ∧ RepF G F fs vs
def Reps (G : Kt) (F : Hp) : List D → List V → Prop
  | [], vs => vs = []
  | d :: ds, vs => ∃ v r, vs = v :: r ∧ Rep G F d v ∧ Reps G F ds r
def RepK (G : Kt) (F : Hp) : List (Key × D) → List (Key × V) → Prop
  | [], vs => vs = []
  | (x, d) :: ds, vs => ∃ v r, vs = (x, v) :: r ∧ Rep G F d v ∧ RepK G F ds r
def RepF (G : Kt) (F : Hp) : List (Str × D) → List (Str × V) → Prop
  | [], vs => vs = []
  | (x, d) :: ds, vs => ∃ v r, vs = (x, v) :: r ∧ Rep G F d v ∧ RepF G F ds r
end

mutual
def Own (G : Kt) (F H : Hp) : T → V → List Addr → Prop
  | .s d, v, fp => Rep G F d v ∧ fp = []
  | .l xs, v, fp => ∃ p vs f1, v = .ref p ∧ H p = some (.lst vs) ∧ Owns G F H xs vs f1 ∧ fp = p :: f1
  | .p xs, v, fp => ∃ p vs f1, v = .ref p ∧ H p = some (.tup vs) ∧ Owns G F H xs vs f1 ∧ fp = p :: f1
  | .dk kvs, v, fp => ∃ p vs f1, v = .ref p ∧ H p = some (.dK vs) ∧ OwnK G F H kvs vs f1 ∧ fp = p :: f1
  | .ob c fs, v, fp => ∃ p C dx vs f1, v = .ref p ∧ G.mg c = some (.ref C) ∧ H p = some (.ins C dx vs) ∧ H dx = some (.own p) ∧ OwnF G F H fs vs f1 ∧ fp = p :: dx :: f1
def Owns (G : Kt) (F H : Hp) : List T → List V → List Addr → Prop
  | [], vs, fp => vs = [] ∧ fp = []
  | t :: ts, vs, fp => ∃ v r f1 f2, vs = v :: r ∧ Own G F H t v f1 ∧ Owns G F H ts r f2 ∧ fp = f1 ++ f2
def OwnK (G : Kt) (F H : Hp) : List (Key × T) → List (Key × V) → List Addr → Prop
  | [], vs, fp => vs = [] ∧ fp = []
  | (k, t) :: ts, vs, fp => ∃ v r f1 f2, vs = (k, v) :: r ∧ Own G F H t v f1 ∧ OwnK G F H ts r f2 ∧ fp = f1 ++ f2
def OwnF (G : Kt) (F H : Hp) : List (Str × T) → List (Str × V) → List Addr → Prop
  | [], vs, fp => vs = [] ∧ fp = []
  | (k, t) :: ts, vs, fp => ∃ v r f1 f2, vs = (k, v) :: r ∧ Own G F H t v f1 ∧ OwnF G F H ts r f2 ∧ fp = f1 ++ f2
end

def OwnE (G : Kt) (F H : Hp) : En → St → List Addr → Prop
  | [], σ, fp => σ = [] ∧ fp = []
  | none :: e, σ, fp => ∃ v r, σ = v :: r ∧ OwnE G F H e r fp
  | some t :: e, σ, fp => ∃ v r f1 f2, σ = some v :: r ∧ Own G F H t v f1 ∧ OwnE G F H e r f2 ∧ fp = f1 ++ f2

/-! ### what stays -/
theorem sq_monoL {K : PySem.W.Frag} {F F' : Hp} (s : Same F F') {a : Addr} {xs : List V} (h : SqL K F a xs) : SqL K F' a xs := s.seq h
mutual
theorem Rep.mono {G : Kt} {F F' : Hp} (s : Same F F') : ∀ (d : D) (v : V), Rep G F d v → Rep G F' d v
  | .non, v, h => by simpa only [Rep] using h
  | .bl b, v, h => by simpa only [Rep] using h
  | .int i, v, h => by simpa only [Rep] using h
  | .str x, v, h => by simpa only [Rep] using h
  | .lst xs, v, h => by
    simp only [Rep] at h ⊢
    obtain ⟨a, vs, e, q, r⟩ := h
    exact ⟨a, vs, e, s _ _ q, Reps.mono s xs vs r⟩
  | .scr ns, v, h => by
    simp only [Rep] at h ⊢
    obtain ⟨a, e, q⟩ := h
    exact ⟨a, e, sq_monoL s q⟩
  | .tup xs, v, h => by
    simp only [Rep] at h ⊢
    obtain ⟨a, vs, e, q, r⟩ := h
    exact ⟨a, vs, e, q.mono s, Reps.mono s xs vs r⟩
  | .ty n, v, h => by simpa only [Rep] using h
  | .dk xs, v, h => by
    simp only [Rep] at h ⊢
    obtain ⟨a, vs, e, q, r⟩ := h
    exact ⟨a, vs, e, s _ _ q, RepK.mono s xs vs r⟩
  | .ob c fs, v, h => by
    simp only [Rep] at h ⊢
    obtain ⟨a, C, dx, vs, e, g, q, q', r⟩ := h
    exact ⟨a, C, dx, vs, e, g, s _ _ q, s _ _ q', RepF.mono s fs vs r⟩
theorem Reps.mono {G : Kt} {F F' : Hp} (s : Same F F') : ∀ (ds : List D) (vs : List V), Reps G F ds vs → Reps G F' ds vs
  | [], vs, h => by simpa only [Reps] using h
  | d :: ds, vs, h => by
    simp only [Reps] at h ⊢
    obtain ⟨v, r, e, h1, h2⟩ := h
    exact ⟨v, r, e, Rep.mono s d v h1, Reps.mono s ds r h2⟩
theorem RepK.mono {G : Kt} {F F' : Hp} (s : Same F F') : ∀ (ds : List (Key × D)) (vs : List (Key × V)), RepK G F ds vs → RepK G F' ds vs
  | [], vs, h => by simpa only [RepK] using h
  | (x, d) :: ds, vs, h => by
    simp only [RepK] at h ⊢
    obtain ⟨v, r, e, h1, h2⟩ := h
    exact ⟨v, r, e, Rep.mono s d v h1, RepK.mono s ds r h2⟩
theorem RepF.mono {G : Kt} {F F' : Hp} (s : Same F F') : ∀ (ds : List (Str × D)) (vs : List (Str × V)), RepF G F ds vs → RepF G F' ds vs
  | [], vs, h => by simpa only [RepF] using h
  | (x, d) :: ds, vs, h => by
    simp only [RepF] at h ⊢
    obtain ⟨v, r, e, h1, h2⟩ := h
    exact ⟨v, r, e, Rep.mono s d v h1, RepF.mono s ds r h2⟩
end
mutual
theorem Own.mono {G : Kt} {F F' H H' : Hp} (s : Same F F') : ∀ (t : T) (v : V) (fp : List Addr), (∀ p ∈ fp, ∀ o, H p = some o → H' p = some o) → Own G F H t v fp → Own G F' H' t v fp
  | .s d, v, fp, k, h => by
    simp only [Own] at h ⊢
    exact ⟨Rep.mono s d v h.1, h.2⟩
  | .l xs, v, fp, k, h => by
    simp only [Own] at h ⊢
    obtain ⟨p, vs, f1, e, q, r, rfl⟩ := h
    exact ⟨p, vs, f1, e, k _ List.mem_cons_self _ q, Owns.mono s xs vs f1 (fun p hp => k p (List.mem_cons_of_mem _ hp)) r, rfl⟩
  | .p xs, v, fp, k, h => by
    simp only [Own] at h ⊢
    obtain ⟨p, vs, f1, e, q, r, rfl⟩ := h
    exact ⟨p, vs, f1, e, k _ List.mem_cons_self _ q, Owns.mono s xs vs f1 (fun p hp => k p (List.mem_cons_of_mem _ hp)) r, rfl⟩
  | .dk xs, v, fp, k, h => by
    simp only [Own] at h ⊢
    obtain ⟨p, vs, f1, e, q, r, rfl⟩ := h
    exact ⟨p, vs, f1, e, k _ List.mem_cons_self _ q, OwnK.mono s xs vs f1 (fun p hp => k p (List.mem_cons_of_mem _ hp)) r, rfl⟩
  | .ob c fs, v, fp, k, h => by
    simp only [Own] at h ⊢
    obtain ⟨p, C, dx, vs, f1, e, g, q, q', r, rfl⟩ := h
    exact ⟨p, C, dx, vs, f1, e, g, k _ List.mem_cons_self _ q, k _ (List.mem_cons_of_mem _ List.mem_cons_self) _ q', OwnF.mono s fs vs f1 (fun p hp => k p (List.mem_cons_of_mem _ (List.mem_cons_of_mem _ hp))) r, rfl⟩
theorem Owns.mono {G : Kt} {F F' H H' : Hp} (s : Same F F') : ∀ (t : List T) (v : List V) (fp : List Addr), (∀ p ∈ fp, ∀ o, H p = some o → H' p = some o) → Owns G F H t v fp → Owns G F' H' t v fp
  | [], v, fp, k, h => by simpa only [Owns] using h
  | t :: ts, vs, fp, k, h => by
    simp only [Owns] at h ⊢
    obtain ⟨v, r, f1, f2, e, h1, h2, rfl⟩ := h
    exact ⟨v, r, f1, f2, e, Own.mono s t v f1 (fun p hp => k p (List.mem_append_left _ hp)) h1, Owns.mono s ts r f2 (fun p hp => k p (List.mem_append_right _ hp)) h2, rfl⟩
theorem OwnK.mono {G : Kt} {F F' H H' : Hp} (s : Same F F') : ∀ (t : List (Key × T)) (v : List (Key × V)) (fp : List Addr), (∀ p ∈ fp, ∀ o, H p = some o → H' p = some o) → OwnK G F H t v fp → OwnK G F' H' t v fp
  | [], v, fp, k, h => by simpa only [OwnK] using h
  | (x, t) :: ts, vs, fp, k, h => by
    simp only [OwnK] at h ⊢
    obtain ⟨v, r, f1, f2, e, h1, h2, rfl⟩ := h
    exact ⟨v, r, f1, f2, e, Own.mono s t v f1 (fun p hp => k p (List.mem_append_left _ hp)) h1, OwnK.mono s ts r f2 (fun p hp => k p (List.mem_append_right _ hp)) h2, rfl⟩
theorem OwnF.mono {G : Kt} {F F' H H' : Hp} (s : Same F F') : ∀ (t : List (Str × T)) (v : List (Str × V)) (fp : List Addr), (∀ p ∈ fp, ∀ o, H p = some o → H' p = some o) → OwnF G F H t v fp → OwnF G F' H' t v fp
  | [], v, fp, k, h => by simpa only [OwnF] using h
  | (x, t) :: ts, vs, fp, k, h => by
    simp only [OwnF] at h ⊢
    obtain ⟨v, r, f1, f2, e, h1, h2, rfl⟩ := h
    exact ⟨v, r, f1, f2, e, Own.mono s t v f1 (fun p hp => k p (List.mem_append_left _ hp)) h1, OwnF.mono s ts r f2 (fun p hp => k p (List.mem_append_right _ hp)) h2, rfl⟩
end
theorem OwnE.mono {G : Kt} {F F' H H' : Hp} (s : Same F F') : ∀ (e : En) (σ : St) (fp : List Addr), (∀ p ∈ fp, ∀ o, H p = some o → H' p = some o) → OwnE G F H e σ fp → OwnE G F' H' e σ fp
  | [], v, fp, k, h => by simpa only [OwnE] using h
  | none :: e, σ, fp, k, h => by
    simp only [OwnE] at h ⊢
    obtain ⟨v, r, e1, h⟩ := h
    exact ⟨v, r, e1, OwnE.mono s e r fp k h⟩
  | some t :: ts, vs, fp, k, h => by
    simp only [OwnE] at h ⊢
    obtain ⟨v, r, f1, f2, e, h1, h2, rfl⟩ := h
    exact ⟨v, r, f1, f2, e, Own.mono s t v f1 (fun p hp => k p (List.mem_append_left _ hp)) h1, OwnE.mono s ts r f2 (fun p hp => k p (List.mem_append_right _ hp)) h2, rfl⟩

/-! ### the state of a body; how it goes on -/
/-- slots that stay as they are (arguments that the def may change), objects that stand (an exception's dict) -/
structure Fx where
  sl : List (Nat × V)
  pn : List (List (Str × D) × Addr)
instance : Membership (Nat × V) Fx := ⟨fun f q => q ∈ f.sl⟩
/-- the dict of an exception, as it stands -/
def PinOk (G : Kt) (F : Hp) (q : List (Str × D) × Addr) : Prop := ∃ vs, F q.2 = some (.xd vs) ∧ RepF G F q.1 vs
theorem PinOk.mono {G : Kt} {F F' : Hp} {q : List (Str × D) × Addr} (s : Same F F') (h : PinOk G F q) : PinOk G F' q := by
  obtain ⟨vs, a, b⟩ := h
  exact ⟨vs, s _ _ a, b.mono s⟩
structure Sta (G : Kt) (fx : Fx) (env : En) (F : Hp) (σ : St) (H : Hp) (fp : List Addr) : Prop where
  own : OwnE G F H env σ fp
  nd : fp.Nodup
  off : ∀ p ∈ fp, F p = none
  sub : Same F H
  fix : ∀ q ∈ fx, σ[q.1]? = some (some q.2)
  pin : ∀ q ∈ fx.pn, PinOk G F q

structure Go (F H : Hp) (fp : List Addr) (F' H' : Hp) (fp' : List Addr) : Prop where
  f : Same F F'
  fn : ∀ p o, F' p = some o → F p = some o ∨ H p = none ∨ p ∈ fp
  h : ∀ p o, H p = some o → p ∉ fp → H' p = some o
  own : ∀ p ∈ fp', p ∈ fp ∨ H p = none
theorem Go.refl {F H : Hp} {fp : List Addr} : Go F H fp F H fp := ⟨Same.refl _, fun _ _ h => .inl h, fun _ _ h _ => h, fun _ h => .inl h⟩
theorem Go.trans {F H F1 H1 F2 H2 : Hp} {fp fp1 fp2 : List Addr} (a : Go F H fp F1 H1 fp1) (b : Go F1 H1 fp1 F2 H2 fp2) : Go F H fp F2 H2 fp2 := by
  have back : ∀ p, H1 p = none → H p = none ∨ p ∈ fp := fun p n => by
    by_cases hp : p ∈ fp
    · exact .inr hp
    · cases q : H p with
      | none => exact .inl rfl
      | some o =>
        have := a.h p o q hp
        rw [n] at this; cases this
  refine ⟨a.f.trans b.f, fun p o h => ?_, fun p o h n => ?_, fun p hp => ?_⟩
  · rcases b.fn p o h with h | h | h
    · exact a.fn p o h
    · rcases back p h with h | h
      · exact .inr (.inl h)
      · exact .inr (.inr h)
    · rcases a.own p h with h | h
      · exact .inr (.inr h)
      · exact .inr (.inl h)
  · refine b.h p o (a.h p o h n) fun hp => ?_
    rcases a.own p hp with z | z
    · exact n z
    · rw [h] at z; cases z
  · rcases b.own p hp with z | z
    · exact a.own p z
    · exact (back p z).symm
theorem Go.less {F H F' H' : Hp} {fp fp' fp'' : List Addr} (a : Go F H fp F' H' fp') (h : ∀ p ∈ fp'', p ∈ fp') : Go F H fp F' H' fp'' := ⟨a.f, a.fn, a.h, fun p hp => a.own p (h p hp)⟩
theorem Go.more {F H F' H' : Hp} {fp fq fp' : List Addr} (a : Go F H fp F' H' fp') (h : ∀ p ∈ fp, p ∈ fq) : Go F H fq F' H' fp' :=
  ⟨a.f, fun p o q => (a.fn p o q).imp id (Or.imp id (h p)), fun p o q n => a.h p o q fun z => n (h p z), fun p hp => (a.own p hp).imp (h p) id⟩

/-- new objects alone -/
structure Grow (F H F' H' : Hp) : Prop where
  f : Same F F'
  h : Same H H'
  fn : ∀ p o, F' p = some o → F p = some o ∨ H p = none
  sub : Same F' H'
theorem Grow.refl {F H : Hp} (s : Same F H) : Grow F H F H := ⟨Same.refl _, Same.refl _, fun _ _ h => .inl h, s⟩
theorem Grow.trans {F H F1 H1 F2 H2 : Hp} (a : Grow F H F1 H1) (b : Grow F1 H1 F2 H2) : Grow F H F2 H2 :=
  ⟨a.f.trans b.f, a.h.trans b.h, fun p o h => (b.fn p o h).elim (a.fn p o) fun z => .inr (a.h.free z), b.sub⟩
theorem Grow.go {F H F' H' : Hp} (a : Grow F H F' H') (fp : List Addr) : Go F H fp F' H' fp := ⟨a.f, fun p o h => (a.fn p o h).imp id .inl, fun p o h _ => a.h p o h, fun _ h => .inl h⟩
theorem Grow.goNew {F H F' H' : Hp} (a : Grow F H F' H') (fp ft : List Addr) (n : ∀ p ∈ ft, H p = none) : Go F H fp F' H' (fp ++ ft) :=
  ⟨a.f, fun p o h => (a.fn p o h).imp id .inl, fun p o h _ => a.h p o h, fun p h => (List.mem_append.mp h).imp id (n p)⟩
theorem OwnE.there {G : Kt} {F H : Hp} : ∀ {e : En} {σ : St} {fp : List Addr}, OwnE G F H e σ fp → e.length = σ.length
  | [], σ, fp, h => by
    simp only [OwnE] at h
    obtain ⟨rfl, _⟩ := h
    rfl
  | none :: e, σ, fp, h => by
    simp only [OwnE] at h
    obtain ⟨v, r, rfl, h⟩ := h
    simp [OwnE.there h]
  | some t :: e, σ, fp, h => by
    simp only [OwnE] at h
    obtain ⟨v, r, f1, f2, rfl, _, h, _⟩ := h
    simp [OwnE.there h]
mutual
theorem Own.is {G : Kt} {F H : Hp} : ∀ (t : T) (v : V) (fp : List Addr), Own G F H t v fp → ∀ p ∈ fp, ∃ o, H p = some o
  | .s d, v, fp, h => by
    simp only [Own] at h
    rw [h.2]; simp
  | .l xs, v, fp, h => by
    simp only [Own] at h
    obtain ⟨p, vs, f1, e, q, r, rfl⟩ := h
    intro a ha
    rcases List.mem_cons.mp ha with rfl | ha
    · exact ⟨_, q⟩
    · exact Owns.is xs vs f1 r a ha
  | .p xs, v, fp, h => by
    simp only [Own] at h
    obtain ⟨p, vs, f1, e, q, r, rfl⟩ := h
    intro a ha
    rcases List.mem_cons.mp ha with rfl | ha
    · exact ⟨_, q⟩
    · exact Owns.is xs vs f1 r a ha
  | .dk xs, v, fp, h => by
    simp only [Own] at h
    obtain ⟨p, vs, f1, e, q, r, rfl⟩ := h
    intro a ha
    rcases List.mem_cons.mp ha with rfl | ha
    · exact ⟨_, q⟩
    · exact OwnK.is xs vs f1 r a ha
  | .ob c fs, v, fp, h => by
    simp only [Own] at h
    obtain ⟨p, C, dx, vs, f1, e, g, q, q', r, rfl⟩ := h
    intro a ha
    rcases List.mem_cons.mp ha with rfl | ha
    · exact ⟨_, q⟩
    · rcases List.mem_cons.mp ha with rfl | ha
      · exact ⟨_, q'⟩
      · exact OwnF.is fs vs f1 r a ha
theorem Owns.is {G : Kt} {F H : Hp} : ∀ (t : List T) (v : List V) (fp : List Addr), Owns G F H t v fp → ∀ p ∈ fp, ∃ o, H p = some o
  | [], v, fp, h => by
    simp only [Owns] at h
    rw [h.2]; simp
  | t :: ts, vs, fp, h => by
    simp only [Owns] at h
    obtain ⟨v, r, f1, f2, e, h1, h2, rfl⟩ := h
    intro a ha
    rcases List.mem_append.mp ha with ha | ha
    · exact Own.is t v f1 h1 a ha
    · exact Owns.is ts r f2 h2 a ha
theorem OwnK.is {G : Kt} {F H : Hp} : ∀ (t : List (Key × T)) (v : List (Key × V)) (fp : List Addr), OwnK G F H t v fp → ∀ p ∈ fp, ∃ o, H p = some o
  | [], v, fp, h => by
    simp only [OwnK] at h
    rw [h.2]; simp
  | (x, t) :: ts, vs, fp, h => by
    simp only [OwnK] at h
    obtain ⟨v, r, f1, f2, e, h1, h2, rfl⟩ := h
    intro a ha
    rcases List.mem_append.mp ha with ha | ha
    · exact Own.is t v f1 h1 a ha
    · exact OwnK.is ts r f2 h2 a ha
theorem OwnF.is {G : Kt} {F H : Hp} : ∀ (t : List (Str × T)) (v : List (Str × V)) (fp : List Addr), OwnF G F H t v fp → ∀ p ∈ fp, ∃ o, H p = some o
  | [], v, fp, h => by
    simp only [OwnF] at h
    rw [h.2]; simp
  | (x, t) :: ts, vs, fp, h => by
    simp only [OwnF] at h
    obtain ⟨v, r, f1, f2, e, h1, h2, rfl⟩ := h
    intro a ha
    rcases List.mem_append.mp ha with ha | ha
    · exact Own.is t v f1 h1 a ha
    · exact OwnF.is ts r f2 h2 a ha
end
theorem OwnE.is {G : Kt} {F H : Hp} : ∀ {e : En} {σ : St} {fp : List Addr}, OwnE G F H e σ fp → ∀ p ∈ fp, ∃ o, H p = some o
  | [], σ, fp, h => by simp only [OwnE] at h; rw [h.2]; simp
  | none :: e, σ, fp, h => by
    simp only [OwnE] at h
    obtain ⟨v, r, rfl, h⟩ := h
    exact OwnE.is h
  | some t :: e, σ, fp, h => by
    simp only [OwnE] at h
    obtain ⟨v, r, f1, f2, rfl, h1, h, rfl⟩ := h
    intro a ha
    rcases List.mem_append.mp ha with ha | ha
    · exact Own.is t v f1 h1 a ha
    · exact OwnE.is h a ha
/-- new objects alone: the state stays -/
theorem Sta.grow {G : Kt} {fx : Fx} {env : En} {F H F' H' : Hp} {σ : St} {fp : List Addr} (S : Sta G fx env F σ H fp) (g : Grow F H F' H') : Sta G fx env F' σ H' fp :=
  ⟨OwnE.mono g.f env σ fp (fun p _ o e => g.h p o e) S.own, S.nd, (fun p hp => by
    cases q : F' p with
    | none => rfl
    | some o =>
      obtain ⟨u, hu⟩ := S.own.is p hp
      rcases g.fn p o q with z | z
      · rw [S.off p hp] at z; cases z
      · rw [hu] at z; cases z), g.sub, S.fix, fun q h => (S.pin q h).mono g.f⟩
/-- a pending value stays while the state goes on -/
theorem Own.go {G : Kt} {F H F' H' : Hp} {fp fp' ft : List Addr} {t : T} {v : V} (o : Own G F H t v ft) (off : ∀ p ∈ ft, F p = none) (g : Go F H fp F' H' fp') (d : ∀ p ∈ ft, p ∉ fp) :
    Own G F' H' t v ft ∧ (∀ p ∈ ft, F' p = none) ∧ ∀ p ∈ ft, p ∉ fp' := by
  refine ⟨Own.mono g.f t v ft (fun p hp o e => g.h p o e (d p hp)) o, fun p hp => ?_, fun p hp z => ?_⟩
  · obtain ⟨u, hu⟩ := Own.is t v ft o p hp
    cases q : F' p with
    | none => rfl
    | some o =>
      rcases g.fn p o q with z | z | z
      · rw [off p hp] at z; cases z
      · rw [hu] at z; cases z
      · exact absurd z (d p hp)
  · obtain ⟨u, hu⟩ := Own.is t v ft o p hp
    rcases g.own p z with z | z
    · exact d p hp z
    · rw [hu] at z; cases z
theorem Owns.go {G : Kt} {F H F' H' : Hp} {fp fp' ft : List Addr} {t : List T} {v : List V} (o : Owns G F H t v ft) (off : ∀ p ∈ ft, F p = none) (g : Go F H fp F' H' fp') (d : ∀ p ∈ ft, p ∉ fp) :
    Owns G F' H' t v ft ∧ (∀ p ∈ ft, F' p = none) ∧ ∀ p ∈ ft, p ∉ fp' := by
  refine ⟨Owns.mono g.f t v ft (fun p hp o e => g.h p o e (d p hp)) o, fun p hp => ?_, fun p hp z => ?_⟩
  · obtain ⟨u, hu⟩ := Owns.is t v ft o p hp
    cases q : F' p with
    | none => rfl
    | some o =>
      rcases g.fn p o q with z | z | z
      · rw [off p hp] at z; cases z
      · rw [hu] at z; cases z
      · exact absurd z (d p hp)
  · obtain ⟨u, hu⟩ := Owns.is t v ft o p hp
    rcases g.own p z with z | z
    · exact d p hp z
    · rw [hu] at z; cases z
end VS
namespace VS
open PySem PySem.Spec L2
open PyProof.Rows hiding St

/-! ### looked at, not held -/
mutual
def Bor (G : Kt) (F H : Hp) : T → V → Prop
  | .s d, v => Rep G F d v
  | .l xs, v => ∃ p vs, v = .ref p ∧ H p = some (.lst vs) ∧ Bors G F H xs vs
  | .p xs, v => ∃ p vs, v = .ref p ∧ H p = some (.tup vs) ∧ Bors G F H xs vs
  | .dk kvs, v => ∃ p vs, v = .ref p ∧ H p = some (.dK vs) ∧ BorK G F H kvs vs
  | .ob c fs, v => ∃ p C dx vs, v = .ref p ∧ G.mg c = some (.ref C) ∧ H p = some (.ins C dx vs) ∧ H dx = some (.own p) ∧ BorF G F H fs vs
def Bors (G : Kt) (F H : Hp) : List T → List V → Prop
  | [], vs => vs = []
  | t :: ts, vs => ∃ v r, vs = v :: r ∧ Bor G F H t v ∧ Bors G F H ts r
def BorK (G : Kt) (F H : Hp) : List (Key × T) → List (Key × V) → Prop
  | [], vs => vs = []
  | (k, t) :: ts, vs => ∃ v r, vs = (k, v) :: r ∧ Bor G F H t v ∧ BorK G F H ts r
def BorF (G : Kt) (F H : Hp) : List (Str × T) → List (Str × V) → Prop
  | [], vs => vs = []
  | (k, t) :: ts, vs => ∃ v r, vs = (k, v) :: r ∧ Bor G F H t v ∧ BorF G F H ts r
end
mutual
theorem Own.bor {G : Kt} {F H : Hp} : ∀ (t : T) (v : V) (fp : List Addr), Own G F H t v fp → Bor G F H t v
  | .s d, v, fp, h => by
    simp only [Own, Bor] at h ⊢
    exact h.1
  | .l xs, v, fp, h => by
    simp only [Own, Bor] at h ⊢
    obtain ⟨p, vs, f1, e, q, r, rfl⟩ := h
    exact ⟨p, vs, e, q, Owns.bor xs vs f1 r⟩
  | .p xs, v, fp, h => by
    simp only [Own, Bor] at h ⊢
    obtain ⟨p, vs, f1, e, q, r, rfl⟩ := h
    exact ⟨p, vs, e, q, Owns.bor xs vs f1 r⟩
  | .dk xs, v, fp, h => by
    simp only [Own, Bor] at h ⊢
    obtain ⟨p, vs, f1, e, q, r, rfl⟩ := h
    exact ⟨p, vs, e, q, OwnK.bor xs vs f1 r⟩
  | .ob c fs, v, fp, h => by
    simp only [Own, Bor] at h ⊢
    obtain ⟨p, C, dx, vs, f1, e, g, q, q', r, rfl⟩ := h
    exact ⟨p, C, dx, vs, e, g, q, q', OwnF.bor fs vs f1 r⟩
theorem Owns.bor {G : Kt} {F H : Hp} : ∀ (t : List T) (v : List V) (fp : List Addr), Owns G F H t v fp → Bors G F H t v
  | [], v, fp, h => by
    simp only [Owns, Bors] at h ⊢
    exact h.1
  | t :: ts, vs, fp, h => by
    simp only [Owns, Bors] at h ⊢
    obtain ⟨v, r, f1, f2, e, h1, h2, rfl⟩ := h
    exact ⟨v, r, e, Own.bor t v f1 h1, Owns.bor ts r f2 h2⟩
theorem OwnK.bor {G : Kt} {F H : Hp} : ∀ (t : List (Key × T)) (v : List (Key × V)) (fp : List Addr), OwnK G F H t v fp → BorK G F H t v
  | [], v, fp, h => by
    simp only [OwnK, BorK] at h ⊢
    exact h.1
  | (k, t) :: ts, vs, fp, h => by
    simp only [OwnK, BorK] at h ⊢
    obtain ⟨v, r, f1, f2, e, h1, h2, rfl⟩ := h
    exact ⟨v, r, e, Own.bor t v f1 h1, OwnK.bor ts r f2 h2⟩
theorem OwnF.bor {G : Kt} {F H : Hp} : ∀ (t : List (Str × T)) (v : List (Str × V)) (fp : List Addr), OwnF G F H t v fp → BorF G F H t v
  | [], v, fp, h => by
    simp only [OwnF, BorF] at h ⊢
    exact h.1
  | (k, t) :: ts, vs, fp, h => by
    simp only [OwnF, BorF] at h ⊢
    obtain ⟨v, r, f1, f2, e, h1, h2, rfl⟩ := h
    exact ⟨v, r, e, Own.bor t v f1 h1, OwnF.bor ts r f2 h2⟩
end
mutual
theorem Bor.mono {G : Kt} {F F' H H' : Hp} (s : Same F F') (k : Same H H') : ∀ (t : T) (v : V), Bor G F H t v → Bor G F' H' t v
  | .s d, v, h => by
    simp only [Bor] at h ⊢
    exact Rep.mono s d v h
  | .l xs, v, h => by
    simp only [Bor] at h ⊢
    obtain ⟨p, vs, e, q, r⟩ := h
    exact ⟨p, vs, e, k _ _ q, Bors.mono s k xs vs r⟩
  | .p xs, v, h => by
    simp only [Bor] at h ⊢
    obtain ⟨p, vs, e, q, r⟩ := h
    exact ⟨p, vs, e, k _ _ q, Bors.mono s k xs vs r⟩
  | .dk xs, v, h => by
    simp only [Bor] at h ⊢
    obtain ⟨p, vs, e, q, r⟩ := h
    exact ⟨p, vs, e, k _ _ q, BorK.mono s k xs vs r⟩
  | .ob c fs, v, h => by
    simp only [Bor] at h ⊢
    obtain ⟨p, C, dx, vs, e, g, q, q', r⟩ := h
    exact ⟨p, C, dx, vs, e, g, k _ _ q, k _ _ q', BorF.mono s k fs vs r⟩
theorem Bors.mono {G : Kt} {F F' H H' : Hp} (s : Same F F') (k : Same H H') : ∀ (t : List T) (v : List V), Bors G F H t v → Bors G F' H' t v
  | [], v, h => by simpa only [Bors] using h
  | t :: ts, vs, h => by
    simp only [Bors] at h ⊢
    obtain ⟨v, r, e, h1, h2⟩ := h
    exact ⟨v, r, e, Bor.mono s k t v h1, Bors.mono s k ts r h2⟩
theorem BorK.mono {G : Kt} {F F' H H' : Hp} (s : Same F F') (k : Same H H') : ∀ (t : List (Key × T)) (v : List (Key × V)), BorK G F H t v → BorK G F' H' t v
  | [], v, h => by simpa only [BorK] using h
  | (x, t) :: ts, vs, h => by
    simp only [BorK] at h ⊢
    obtain ⟨v, r, e, h1, h2⟩ := h
    exact ⟨v, r, e, Bor.mono s k t v h1, BorK.mono s k ts r h2⟩
theorem BorF.mono {G : Kt} {F F' H H' : Hp} (s : Same F F') (k : Same H H') : ∀ (t : List (Str × T)) (v : List (Str × V)), BorF G F H t v → BorF G F' H' t v
  | [], v, h => by simpa only [BorF] using h
  | (x, t) :: ts, vs, h => by
    simp only [BorF] at h ⊢
    obtain ⟨v, r, e, h1, h2⟩ := h
    exact ⟨v, r, e, Bor.mono s k t v h1, BorF.mono s k ts r h2⟩
end
/-! as plain data -/
mutual
def er : T → D
  | .s d => d
  | .l xs => .lst (ers xs)
  | .p xs => .tup (ers xs)
  | .dk kvs => .dk (erK kvs)
  | .ob c fs => .ob c (erF fs)
def ers : List T → List D
  | [] => []
  | t :: ts => er t :: ers ts
def erK : List (Key × T) → List (Key × D)
  | [] => []
  | (k, t) :: ts => (k, er t) :: erK ts
def erF : List (Str × T) → List (Str × D)
  | [] => []
  | (k, t) :: ts => (k, er t) :: erF ts
end
mutual
theorem Bor.rep {G : Kt} {F H : Hp} (s : Same F H) : ∀ (t : T) (v : V), Bor G F H t v → Rep G H (er t) v
  | .s d, v, h => by
    simp only [Bor, er] at h ⊢
    exact Rep.mono s d v h
  | .l xs, v, h => by
    simp only [Bor, er, Rep] at h ⊢
    obtain ⟨p, vs, e, q, r⟩ := h
    exact ⟨p, vs, e, q, Bors.rep s xs vs r⟩
  | .p xs, v, h => by
    simp only [Bor, er, Rep] at h ⊢
    obtain ⟨p, vs, e, q, r⟩ := h
    exact ⟨p, vs, e, .inl q, Bors.rep s xs vs r⟩
  | .dk xs, v, h => by
    simp only [Bor, er, Rep] at h ⊢
    obtain ⟨p, vs, e, q, r⟩ := h
    exact ⟨p, vs, e, q, BorK.rep s xs vs r⟩
  | .ob c fs, v, h => by
    simp only [Bor, er, Rep] at h ⊢
    obtain ⟨p, C, dx, vs, e, g, q, q', r⟩ := h
    exact ⟨p, C, dx, vs, e, g, q, q', BorF.rep s fs vs r⟩
theorem Bors.rep {G : Kt} {F H : Hp} (s : Same F H) : ∀ (t : List T) (v : List V), Bors G F H t v → Reps G H (ers t) v
  | [], v, h => by simpa only [Bors, ers, Reps] using h
  | t :: ts, vs, h => by
    simp only [Bors, ers, Reps] at h ⊢
    obtain ⟨v, r, e, h1, h2⟩ := h
    exact ⟨v, r, e, Bor.rep s t v h1, Bors.rep s ts r h2⟩
theorem BorK.rep {G : Kt} {F H : Hp} (s : Same F H) : ∀ (t : List (Key × T)) (v : List (Key × V)), BorK G F H t v → RepK G H (erK t) v
  | [], v, h => by simpa only [BorK, erK, RepK] using h
  | (x, t) :: ts, vs, h => by
    simp only [BorK, erK, RepK] at h ⊢
    obtain ⟨v, r, e, h1, h2⟩ := h
    exact ⟨v, r, e, Bor.rep s t v h1, BorK.rep s ts r h2⟩
theorem BorF.rep {G : Kt} {F H : Hp} (s : Same F H) : ∀ (t : List (Str × T)) (v : List (Str × V)), BorF G F H t v → RepF G H (erF t) v
  | [], v, h => by simpa only [BorF, erF, RepF] using h
  | (x, t) :: ts, vs, h => by
    simp only [BorF, erF, RepF] at h ⊢
    obtain ⟨v, r, e, h1, h2⟩ := h
    exact ⟨v, r, e, Bor.rep s t v h1, BorF.rep s ts r h2⟩
end

/-! ### one slot -/
def OwnS (G : Kt) (F H : Hp) : Option T → Option V → List Addr → Prop
  | none, _, f => f = []
  | some t, s, f => ∃ v, s = some v ∧ Own G F H t v f
theorem OwnE.split {G : Kt} {F H : Hp} : ∀ {e : En} {σ : St} {fp : List Addr} {i : Nat} {x : Option T}, OwnE G F H e σ fp → e[i]? = some x →
    ∃ a b c s, fp = a ++ (b ++ c) ∧ σ[i]? = some s ∧ OwnS G F H x s b ∧ ∀ (F' H' : Hp) y s' b', Same F F' → (∀ p ∈ a ++ c, ∀ o, H p = some o → H' p = some o) → OwnS G F' H' y s' b' → OwnE G F' H' (e.set i y) (σ.set i s') (a ++ (b' ++ c))
  | [], _, _, i, _, _, e => by simp at e
  | z :: e, σ, fp, 0, x, h, q => by
    have q' : z = x := by simpa using q
    subst q'
    cases z with
    | none =>
      simp only [OwnE] at h
      obtain ⟨v, r, rfl, h⟩ := h
      refine ⟨[], [], fp, v, rfl, rfl, rfl, fun F' H' y s' b' sf k o => ?_⟩
      have h' := OwnE.mono sf e r fp (fun p hp => k p (by simpa using hp)) h
      cases y with
      | none =>
        simp only [OwnS] at o
        subst o
        exact ⟨s', r, rfl, h'⟩
      | some t =>
        obtain ⟨v', rfl, o⟩ := o
        exact ⟨v', r, b', fp, rfl, o, h', rfl⟩
    | some t =>
      simp only [OwnE] at h
      obtain ⟨v, r, f1, f2, rfl, o1, h, rfl⟩ := h
      refine ⟨[], f1, f2, some v, rfl, rfl, ⟨v, rfl, o1⟩, fun F' H' y s' b' sf k o => ?_⟩
      have h' := OwnE.mono sf e r f2 (fun p hp => k p (by simpa using hp)) h
      cases y with
      | none =>
        simp only [OwnS] at o
        subst o
        exact ⟨s', r, rfl, h'⟩
      | some t =>
        obtain ⟨v', rfl, o⟩ := o
        exact ⟨v', r, b', f2, rfl, o, h', rfl⟩
  | none :: e, σ, fp, i + 1, x, h, q => by
    simp only [OwnE] at h
    obtain ⟨v, r, rfl, h⟩ := h
    obtain ⟨a, b, c, s, rfl, e1, o1, k⟩ := OwnE.split (i := i) h (by simpa using q)
    exact ⟨a, b, c, s, rfl, by simpa using e1, o1, fun F' H' y s' b' sf kk o => ⟨v, _, rfl, k F' H' y s' b' sf kk o⟩⟩
  | some t :: e, σ, fp, i + 1, x, h, q => by
    simp only [OwnE] at h
    obtain ⟨v, r, f1, f2, rfl, ot, h, rfl⟩ := h
    obtain ⟨a, b, c, s, rfl, e1, o1, k⟩ := OwnE.split (i := i) h (by simpa using q)
    refine ⟨f1 ++ a, b, c, s, by simp, by simpa using e1, o1, fun F' H' y s' b' sf kk o => ?_⟩
    exact ⟨v, _, f1, a ++ (b' ++ c), rfl, Own.mono sf t v f1 (fun p hp => kk p (by simp [hp])) ot, k F' H' y s' b' sf (fun p hp => kk p (by
      rcases List.mem_append.mp hp with z | z <;> simp [z])) o, by simp⟩

/-! ### ends -/
/-- an exception's object -/
def ExR (G : Kt) (F H : Hp) (c : Str) (fs : List (Str × D)) (cls : Value) (d : Option Addr) : Prop :=
  ∃ C, G.mg c = some (.ref C) ∧ cls = .ref C ∧ ((d = none ∧ fs = []) ∨ ∃ dd, d = some dd ∧ PinOk G F (fs, dd))
/-- what is wanted behind a value -/
def PV (G : Kt) (fx : Fx) (W : L2.WX) (σ : St) (Q : V → Hp → Prop) (F H : Hp) (fp : List Addr) : R En (T × En) → Prop
  | .ok (t, e) => ∀ v F' H' fp' ft, Sta G fx e F' σ H' fp' → Own G F' H' t v ft → (fp' ++ ft).Nodup → (∀ p ∈ ft, F' p = none) → Go F H fp F' H' (fp' ++ ft) → Q v H'
  | .ex c fs e => ∀ cls d F' H' fp', Sta G fx e F' σ H' fp' → ExR G F' H' c fs cls d → Go F H fp F' H' fp' → W cls d σ H'
  | .no => False
theorem PV.go {G : Kt} {fx : Fx} {W : L2.WX} {σ : St} {Q : V → Hp → Prop} {F H F1 H1 : Hp} {fp fp1 : List Addr} {r : R En (T × En)} (h : PV G fx W σ Q F H fp r) (g : Go F H fp F1 H1 fp1) : PV G fx W σ Q F1 H1 fp1 r := by
  cases r with
  | ok a =>
    obtain ⟨t, e⟩ := a
    intro v F' H' fp' ft S o nd off g'
    exact h v F' H' fp' ft S o nd off (g.trans g')
  | ex c fs e =>
    intro cls d F' H' fp' S x g'
    exact h cls d F' H' fp' S x (g.trans g')
  | no => exact h
/-- the reading of an expression that computes f -/
def tV (G : Kt) (fx : Fx) (W : L2.WX) (f : En → R En (T × En)) : TE := fun σ H Q => ∃ env F fp, Sta G fx env F σ H fp ∧ PV G fx W σ Q F H fp (f env)
/-- .. that changes nothing: its value may be looked at -/
def PB (G : Kt) (fx : Fx) (W : L2.WX) (σ : St) (Q : V → Hp → Prop) (env : En) (F H : Hp) (fp : List Addr) : R En T → Prop
  | .ok t => ∀ v F' H', Grow F H F' H' → Bor G F' H' t v → Q v H'
  | .ex c fs e => ∀ cls d F' H' fp', Sta G fx e F' σ H' fp' → ExR G F' H' c fs cls d → Go F H fp F' H' fp' → W cls d σ H'
  | .no => False
def tB (G : Kt) (fx : Fx) (W : L2.WX) (g : En → R En T) : TE := fun σ H Q => ∃ env F fp, Sta G fx env F σ H fp ∧ PB G fx W σ Q env F H fp (g env)

theorem PE.imp {X : Cx} {e : Expr} {t t' : TE} (h : PE X e t) (k : ∀ σ H Q, t' σ H Q → t σ H Q) : PE X e t' := ⟨fun pins s σ H Q I q => h.run pins s σ H Q I (k σ H Q q)⟩
theorem PT.imp {X : Cx} {e : Expr} {t t' : TT} (h : PT X e t) (k : ∀ σ H Q, t' σ H Q → t σ H Q) : PT X e t' := ⟨fun pins s σ H Q I q => h.run pins s σ H Q I (k σ H Q q)⟩
theorem PA.imp {X : Cx} {e : List Expr} {t t' : TA} (h : PA X e t) (k : ∀ σ H Q, t' σ H Q → t σ H Q) : PA X e t' := ⟨fun pos pins s σ H Q I q => h.run pos pins s σ H Q I (k σ H Q q)⟩
theorem PS.imp {X : Cx} {e : Stmt} {t t' : TS} (h : PS X e t) (k : ∀ D σ H, t' D σ H → t D σ H) : PS X e t' := ⟨fun pins s σ H Q I q => h.run pins s σ H Q I (k Q σ H q)⟩
theorem PSs.imp {X : Cx} {e : List Stmt} {t t' : TS} (h : PSs X e t) (k : ∀ D σ H, t' D σ H → t D σ H) : PSs X e t' := ⟨fun pins s σ H Q I q => h.run pins s σ H Q I (k Q σ H q)⟩

abbrev VE (X : Cx) (fx : Fx) (W : L2.WX) (e : Expr) (f : En → R En (T × En)) : Prop := PE X e (tV (kt X) fx W f)
abbrev VB (X : Cx) (fx : Fx) (W : L2.WX) (e : Expr) (g : En → R En T) : Prop := PE X e (tB (kt X) fx W g)
end VS
namespace VS
open PySem PySem.Spec L2
open PyProof.Rows hiding St

/-! ### one after another -/
def bnd {ε α β : Type} (r : R ε α) (k : α → R ε β) : R ε β := match r with
  | .ok a => k a
  | .ex c fs e => .ex c fs e
  | .no => .no
@[simp] theorem bnd_ok {ε α β : Type} {a : α} {k : α → R ε β} : bnd (.ok a) k = k a := rfl
@[simp] theorem bnd_no {ε α β : Type} {k : α → R ε β} : bnd .no k = .no := rfl
@[simp] theorem bnd_ex {ε α β : Type} {c fs e} {k : α → R ε β} : bnd (.ex c fs e) k = .ex c fs e := rfl
def ofO {ε α β : Type} (r : Option α) (k : α → R ε β) : R ε β := match r with
  | some a => k a
  | none => .no
@[simp] theorem ofO_some {ε α β : Type} {a : α} {k : α → R ε β} : ofO (some a) k = k a := rfl
@[simp] theorem ofO_none {ε α β : Type} {k : α → R ε β} : ofO none k = .no := rfl

section
variable {G : Kt} {fx : Fx} {W : L2.WX} {σ : St} {H : Hp} {Q : V → Hp → Prop}

theorem Sta.is {env : En} {F H : Hp} {fp : List Addr} (S : Sta G fx env F σ H fp) {p : Addr} (h : p ∈ fp) : H p ≠ none := fun z => by
  obtain ⟨o, e⟩ := S.own.is p h
  rw [z] at e; cases e
/-- a new value hands back -/
theorem PV.res {env : En} {F H F' H' : Hp} {fp fq ft : List Addr} {t : T} {v : V} (S : Sta G fx env F σ H fp) (h : PV G fx W σ Q F H fq (.ok (t, env))) (hq : ∀ p ∈ fp, p ∈ fq) (g : Grow F H F' H') (o : Own G F' H' t v ft) (nd : ft.Nodup)
    (off : ∀ p ∈ ft, F' p = none ∧ H p = none) : Q v H' := by
  refine h v F' H' fp ft (S.grow g) o ?_ (fun p hp => (off p hp).1) (((g.goNew fp ft fun p hp => (off p hp).2)).more hq)
  refine List.nodup_append.mpr ⟨S.nd, nd, fun a ha b hb e => ?_⟩
  subst e
  exact S.is ha (off a hb).2
theorem Go.frame {F H F' H' : Hp} {fp fp' f : List Addr} (a : Go F H fp F' H' fp') : Go F H (fp ++ f) F' H' (fp' ++ f) := by
  refine ⟨a.f, fun p o h => ?_, fun p o h n => a.h p o h fun z => n (List.mem_append_left _ z), fun p hp => ?_⟩
  · rcases a.fn p o h with z | z | z
    · exact .inl z
    · exact .inr (.inl z)
    · exact .inr (.inr (List.mem_append_left _ z))
  · rcases List.mem_append.mp hp with z | z
    · exact (a.own p z).imp (List.mem_append_left _) id
    · exact .inl (List.mem_append_right _ z)

/-- two expressions, then what is made of their values -/
theorem tV_two {fa fb : En → R En (T × En)} {k : T → T → En → R En (T × En)} {K : V → V → Hp → Prop}
    (hk : ∀ tx ty env F H fp x y f1 f2, Sta G fx env F σ H fp → Own G F H tx x f1 → Own G F H ty y f2 → (fp ++ (f1 ++ f2)).Nodup → (∀ p ∈ f1 ++ f2, F p = none) → PV G fx W σ Q F H (fp ++ (f1 ++ f2)) (k tx ty env) → K x y H)
    (h : tV G fx W (fun env => bnd (fa env) fun a => bnd (fb a.2) fun b => k a.1 b.1 b.2) σ H Q) : tV G fx W fa σ H fun x H1 => tV G fx W fb σ H1 fun y H2 => K x y H2 := by
  obtain ⟨env, F, fp, S, P⟩ := h
  dsimp only at P
  refine ⟨env, F, fp, S, ?_⟩
  cases ea : fa env with
  | no => rw [ea] at P; exact P
  | ex c fs e => rw [ea] at P; exact P
  | ok a =>
    obtain ⟨tx, e1⟩ := a
    rw [ea] at P
    intro v F1 H1 fp1 f1 S1 o1 nd1 off1 g1
    refine ⟨e1, F1, fp1, S1, ?_⟩
    have d1 : ∀ p ∈ f1, p ∉ fp1 := fun p hp hq => (List.nodup_append.mp nd1).2.2 p hq p hp rfl
    cases eb : fb e1 with
    | no => simp only [bnd, eb] at P; exact P
    | ex c fs e =>
      simp only [bnd, eb] at P
      intro cls d F' H' fp' S' x g'
      exact P cls d F' H' fp' S' x ((g1.less fun p hp => List.mem_append_left _ hp).trans g')
    | ok b =>
      obtain ⟨ty, e2⟩ := b
      simp only [bnd, eb] at P
      intro u F2 H2 fp2 f2 S2 o2 nd2 off2 g2
      obtain ⟨o1', off1', d1'⟩ := o1.go off1 g2 d1
      have fr : Go F1 H1 (fp1 ++ f1) F2 H2 ((fp2 ++ f2) ++ f1) := g2.frame
      have gg : Go F H fp F2 H2 (fp2 ++ (f1 ++ f2)) := (g1.trans fr).less fun p hp => by
        simp only [List.mem_append] at hp ⊢
        rcases hp with z | z | z
        · exact .inl (.inl z)
        · exact .inr z
        · exact .inl (.inr z)
      refine hk tx ty e2 F2 H2 fp2 v u f1 f2 S2 o1' o2 ?_ ?_ (P.go gg)
      · rw [List.nodup_append] at nd2 ⊢
        refine ⟨nd2.1, List.nodup_append.mpr ⟨(List.nodup_append.mp nd1).2.1, nd2.2.1, fun a ha b hb e => ?_⟩, fun a ha b hb e => ?_⟩
        · subst e
          exact d1' a ha (List.mem_append_right _ hb)
        · subst e
          rcases List.mem_append.mp hb with z | z
          · exact d1' a z (List.mem_append_left _ ha)
          · exact nd2.2.2 a ha a z rfl
      · intro p hp
        rcases List.mem_append.mp hp with z | z
        · exact off1' p z
        · exact off2 p z
theorem tV_one {fa : En → R En (T × En)} {k : T → En → R En (T × En)} {K : V → Hp → Prop}
    (hk : ∀ tx env F H fp x f1, Sta G fx env F σ H fp → Own G F H tx x f1 → (fp ++ f1).Nodup → (∀ p ∈ f1, F p = none) → PV G fx W σ Q F H (fp ++ f1) (k tx env) → K x H)
    (h : tV G fx W (fun env => bnd (fa env) fun a => k a.1 a.2) σ H Q) : tV G fx W fa σ H K := by
  obtain ⟨env, F, fp, S, P⟩ := h
  dsimp only at P
  refine ⟨env, F, fp, S, ?_⟩
  cases ea : fa env with
  | no => rw [ea] at P; exact P
  | ex c fs e => rw [ea] at P; exact P
  | ok a =>
    obtain ⟨tx, e1⟩ := a
    rw [ea] at P
    intro v F1 H1 fp1 f1 S1 o1 nd1 off1 g1
    exact hk tx e1 F1 H1 fp1 v f1 S1 o1 nd1 off1 (PV.go (r := k tx e1) P g1)
/-- two that change nothing -/
theorem tB_two {ga gb : En → R En T} {Z : R En T → (En → Hp → Hp → List Addr → Prop)} {k : T → T → R En T} {K : V → V → Hp → Prop} 
    (hk : ∀ tx ty env F H fp x y, Sta G fx env F σ H fp → Bor G F H tx x → Bor G F H ty y → Z (k tx ty) env F H fp → K x y H)
    (hx : ∀ c fs e env F H fp cls d F' H' fp', Z (.ex c fs e) env F H fp → Sta G fx e F' σ H' fp' → ExR G F' H' c fs cls d → Go F H fp F' H' fp' → W cls d σ H')
    (hn : ∀ env F H fp, ¬ Z .no env F H fp)
    (hg : ∀ r env F H fp F' H', Z r env F H fp → Grow F H F' H' → Z r env F' H' fp)
    {env : En} {F : Hp} {fp : List Addr} (S : Sta G fx env F σ H fp) (P : Z (bnd (ga env) fun x => bnd (gb env) fun y => k x y) env F H fp) : tB G fx W ga σ H fun x H1 => tB G fx W gb σ H1 fun y H2 => K x y H2 := by
  refine ⟨env, F, fp, S, ?_⟩
  cases ea : ga env with
  | no => rw [ea] at P; exact hn _ _ _ _ P
  | ex c fs e => rw [ea] at P; exact fun cls d F' H' fp' S' x g => hx _ _ _ _ _ _ _ _ _ _ _ _ P S' x g
  | ok tx =>
    rw [ea] at P
    intro v F1 H1 g1 b1
    have S1 := S.grow g1
    refine ⟨env, F1, fp, S1, ?_⟩
    have P1 := hg _ _ _ _ _ _ _ P g1
    cases eb : gb env with
    | no => simp only [bnd, eb] at P1; exact hn _ _ _ _ P1
    | ex c fs e =>
      simp only [bnd, eb] at P1
      exact fun cls d F' H' fp' S' x g => hx _ _ _ _ _ _ _ _ _ _ _ _ P1 S' x g
    | ok ty =>
      simp only [bnd, eb] at P1
      intro u F2 H2 g2 b2
      exact hk tx ty env F2 H2 fp v u (S1.grow g2) (b1.mono g2.f g2.h) b2 (hg _ _ _ _ _ _ _ P1 g2)
theorem tB_one {ga : En → R En T} {Z : R En T → (En → Hp → Hp → List Addr → Prop)} {k : T → R En T} {K : V → Hp → Prop} 
    (hk : ∀ tx env F H fp x, Sta G fx env F σ H fp → Bor G F H tx x → Z (k tx) env F H fp → K x H)
    (hx : ∀ c fs e env F H fp cls d F' H' fp', Z (.ex c fs e) env F H fp → Sta G fx e F' σ H' fp' → ExR G F' H' c fs cls d → Go F H fp F' H' fp' → W cls d σ H')
    (hn : ∀ env F H fp, ¬ Z .no env F H fp)
    (hg : ∀ r env F H fp F' H', Z r env F H fp → Grow F H F' H' → Z r env F' H' fp)
    {env : En} {F : Hp} {fp : List Addr} (S : Sta G fx env F σ H fp) (P : Z (bnd (ga env) fun x => k x) env F H fp) : tB G fx W ga σ H K := by
  refine ⟨env, F, fp, S, ?_⟩
  cases ea : ga env with
  | no => rw [ea] at P; exact hn _ _ _ _ P
  | ex c fs e => rw [ea] at P; exact fun cls d F' H' fp' S' x g => hx _ _ _ _ _ _ _ _ _ _ _ _ P S' x g
  | ok tx =>
    rw [ea] at P
    intro v F1 H1 g1 b1
    exact hk tx env F1 H1 fp v (S.grow g1) b1 (hg _ _ _ _ _ _ _ P g1)
/-- the ends that a value looked at may have: ZB looked at again, ZV held -/
def ZB (G : Kt) (fx : Fx) (W : L2.WX) (σ : St) (Q : V → Hp → Prop) (r : R En T) (env : En) (F H : Hp) (fp : List Addr) : Prop := PB G fx W σ Q env F H fp r
def ZV (G : Kt) (fx : Fx) (W : L2.WX) (σ : St) (Q : V → Hp → Prop) (r : R En T) (env : En) (F H : Hp) (fp : List Addr) : Prop := PV G fx W σ Q F H fp (bnd r fun t => .ok (t, env))
theorem ZB.ex {c fs e env F H fp cls d F' H' fp'} (z : ZB G fx W σ Q (.ex c fs e) env F H fp) (S : Sta G fx e F' σ H' fp') (x : ExR G F' H' c fs cls d) (g : Go F H fp F' H' fp') : W cls d σ H' := z cls d F' H' fp' S x g
theorem ZB.grow {r env F H fp F' H'} (z : ZB G fx W σ Q r env F H fp) (g : Grow F H F' H') : ZB G fx W σ Q r env F' H' fp := by
  cases r with
  | ok t => exact fun v F2 H2 g2 b => z v F2 H2 (g.trans g2) b
  | ex c fs e => exact fun cls d F2 H2 fp2 S x g2 => z cls d F2 H2 fp2 S x ((g.go fp).trans g2)
  | no => exact z
theorem ZV.ex {c fs e env F H fp cls d F' H' fp'} (z : ZV G fx W σ Q (.ex c fs e) env F H fp) (S : Sta G fx e F' σ H' fp') (x : ExR G F' H' c fs cls d) (g : Go F H fp F' H' fp') : W cls d σ H' := z cls d F' H' fp' S x g
theorem ZV.grow {r env F H fp F' H'} (z : ZV G fx W σ Q r env F H fp) (g : Grow F H F' H') : ZV G fx W σ Q r env F' H' fp := PV.go z (g.go fp)
end

/-! ### primitive operations, over values that are looked at -/
/-- what is made: a new value of its own -/
def PR (G : Kt) (F H : Hp) (Q : V → Hp → Prop) : Option T → Prop
  | some t => ∀ v F' H' ft, Grow F H F' H' → Own G F' H' t v ft → ft.Nodup → (∀ p ∈ ft, F' p = none ∧ H p = none) → Q v H'
  | none => False
def Prim1 (G : Kt) (r : V → Hp → VK → Prop) (g : T → Option T) : Prop := ∀ tx x F H Q, Same F H → Bor G F H tx x → PR G F H Q (g tx) → r x H Q
def Prim2 (G : Kt) (r : R2) (g : T → T → Option T) : Prop := ∀ tx ty x y F H Q, Same F H → Bor G F H tx x → Bor G F H ty y → PR G F H Q (g tx ty) → r x y H Q

section
variable {X : Cx} {fx : Fx} {W : L2.WX}
def b1 (g : T → Option T) (ga : En → R En T) : En → R En T := fun env => bnd (ga env) fun x => ofO (g x) .ok
def b2 (g : T → T → Option T) (ga gb : En → R En T) : En → R En T := fun env => bnd (ga env) fun x => bnd (gb env) fun y => ofO (g x y) .ok
def bv (ga : En → R En T) : En → R En (T × En) := fun env => bnd (ga env) fun t => .ok (t, env)
def e1 (g : T → Option T) (fa : En → R En (T × En)) : En → R En (T × En) := fun env => bnd (fa env) fun a => ofO (g a.1) fun t => .ok (t, a.2)
def e2 (g : T → T → Option T) (fa fb : En → R En (T × En)) : En → R En (T × En) := fun env => bnd (fa env) fun a => bnd (fb a.2) fun b => ofO (g a.1 b.1) fun t => .ok (t, b.2)
theorem PR.zb {G : Kt} {σ : St} {F H : Hp} {fp : List Addr} {env : En} {Q : V → Hp → Prop} {o : Option T} (h : ZB G fx W σ Q (ofO o .ok) env F H fp) : PR G F H Q o := by
  cases o with
  | none => exact h
  | some t => exact fun v F' H' ft g ow nd off => h v F' H' g (ow.bor)
theorem PR.zv {G : Kt} {σ : St} {F H : Hp} {fp : List Addr} {env : En} {Q : V → Hp → Prop} {o : Option T} (S : Sta G fx env F σ H fp) (h : ZV G fx W σ Q (ofO o .ok) env F H fp) : PR G F H Q o := by
  cases o with
  | none => exact h
  | some t => exact fun v F' H' ft g ow nd off => PV.res S h (fun _ h => h) g ow nd off
theorem PR.pv {G : Kt} {σ : St} {F H : Hp} {fp fq : List Addr} {env : En} {Q : V → Hp → Prop} {o : Option T} (S : Sta G fx env F σ H fp) (hq : ∀ p ∈ fp, p ∈ fq) (h : PV G fx W σ Q F H fq (ofO o fun t => .ok (t, env))) : PR G F H Q o := by
  cases o with
  | none => exact h
  | some t => exact fun v F' H' ft g ow nd off => PV.res S h hq g ow nd off
/-- by values looked at: BB (looked at again), BV (held) -/
theorem BB2 {r : R2} {g : T → T → Option T} {ga gb : En → R En T} {σ : St} {H : Hp} {Q : VK} (p : Prim2 (kt X) r g) (h : tB (kt X) fx W (b2 g ga gb) σ H Q) : tOp r (tB (kt X) fx W ga) (tB (kt X) fx W gb) σ H Q := by
  obtain ⟨env, F, fp, S, P⟩ := h
  exact tB_two (Z := ZB (kt X) fx W σ Q) (k := fun x y => ofO (g x y) .ok) (fun tx ty env F H fp x y S b1 b2 z => p tx ty x y F H Q S.sub b1 b2 (PR.zb z)) (fun _ _ _ _ _ _ _ _ _ _ _ _ z => ZB.ex z) (fun _ _ _ _ z => z) (fun _ _ _ _ _ _ _ z => z.grow) S P
theorem BV2 {r : R2} {g : T → T → Option T} {ga gb : En → R En T} {σ : St} {H : Hp} {Q : VK} (p : Prim2 (kt X) r g) (h : tV (kt X) fx W (bv (b2 g ga gb)) σ H Q) : tOp r (tB (kt X) fx W ga) (tB (kt X) fx W gb) σ H Q := by
  obtain ⟨env, F, fp, S, P⟩ := h
  exact tB_two (Z := ZV (kt X) fx W σ Q) (k := fun x y => ofO (g x y) .ok) (fun tx ty env F H fp x y S b1 b2 z => p tx ty x y F H Q S.sub b1 b2 (PR.zv S z)) (fun _ _ _ _ _ _ _ _ _ _ _ _ z => z.ex) (fun _ _ _ _ z => z) (fun _ _ _ _ _ _ _ z => z.grow) S P
theorem EV2 {r : R2} {g : T → T → Option T} {fa fb : En → R En (T × En)} {σ : St} {H : Hp} {Q : VK} (p : Prim2 (kt X) r g) (h : tV (kt X) fx W (e2 g fa fb) σ H Q) : tOp r (tV (kt X) fx W fa) (tV (kt X) fx W fb) σ H Q :=
  tV_two (k := fun x y env => ofO (g x y) fun t => .ok (t, env)) (fun tx ty env F H fp x y f1 f2 S o1 o2 nd off z => p tx ty x y F H Q S.sub o1.bor o2.bor (PR.pv S (fun p hp => List.mem_append_left _ hp) z)) h
theorem BB1 {r : V → Hp → VK → Prop} {g : T → Option T} {ga : En → R En T} {σ : St} {H : Hp} {Q : VK} (p : Prim1 (kt X) r g) (h : tB (kt X) fx W (b1 g ga) σ H Q) : tUn r (tB (kt X) fx W ga) σ H Q := by
  obtain ⟨env, F, fp, S, P⟩ := h
  exact tB_one (Z := ZB (kt X) fx W σ Q) (k := fun x => ofO (g x) .ok) (fun tx env F H fp x S b1 z => p tx x F H Q S.sub b1 (PR.zb z)) (fun _ _ _ _ _ _ _ _ _ _ _ _ z => z.ex) (fun _ _ _ _ z => z) (fun _ _ _ _ _ _ _ z => z.grow) S P
theorem BV1 {r : V → Hp → VK → Prop} {g : T → Option T} {ga : En → R En T} {σ : St} {H : Hp} {Q : VK} (p : Prim1 (kt X) r g) (h : tV (kt X) fx W (bv (b1 g ga)) σ H Q) : tUn r (tB (kt X) fx W ga) σ H Q := by
  obtain ⟨env, F, fp, S, P⟩ := h
  exact tB_one (Z := ZV (kt X) fx W σ Q) (k := fun x => ofO (g x) .ok) (fun tx env F H fp x S b1 z => p tx x F H Q S.sub b1 (PR.zv S z)) (fun _ _ _ _ _ _ _ _ _ _ _ _ z => z.ex) (fun _ _ _ _ z => z) (fun _ _ _ _ _ _ _ z => z.grow) S P
theorem EV1 {r : V → Hp → VK → Prop} {g : T → Option T} {fa : En → R En (T × En)} {σ : St} {H : Hp} {Q : VK} (p : Prim1 (kt X) r g) (h : tV (kt X) fx W (e1 g fa) σ H Q) : tUn r (tV (kt X) fx W fa) σ H Q :=
  tV_one (k := fun x env => ofO (g x) fun t => .ok (t, env)) (fun tx env F H fp x f1 S o1 nd off z => p tx x F H Q S.sub o1.bor (PR.pv S (fun p hp => List.mem_append_left _ hp) z)) h

/-! ### looked at, then held: shared data alone -/
def T.sh : T → Option D
  | .s d => some d
  | _ => none
def sh (ga : En → R En T) : En → R En (T × En) := fun env => bnd (ga env) fun t => ofO t.sh fun d => .ok (.s d, env)
theorem ve_b {e : Expr} {ga : En → R En T} (h : VB X fx W e ga) : VE X fx W e (sh ga) := PE.imp h fun σ H Q q => by
  obtain ⟨env, F, fp, S, P⟩ := q
  refine ⟨env, F, fp, S, ?_⟩
  unfold sh at P
  cases ea : ga env with
  | no => rw [ea] at P; exact P
  | ex c fs e => rw [ea] at P; exact P
  | ok t =>
    rw [ea] at P
    cases t with
    | s d => exact fun v F' H' g b => PV.res (ft := []) S P (fun _ h => h) g ⟨b, rfl⟩ List.nodup_nil (by simp)
    | l xs => exact P.elim
    | dk xs => exact P.elim
    | ob c fs => exact P.elim
    | p xs => exact P.elim
end
end VS
namespace VS
open PySem PySem.Spec L2
open PyProof.Rows hiding St

/-! ### views of values -/
def shs : List T → Option (List D)
  | [] => some []
  | .s d :: ts => (shs ts).map (d :: ·)
  | _ :: _ => none
/-- a list of shared items -/
def T.ls : T → Option (List D)
  | .s (.lst ds) => some ds
  | .l ts => shs ts
  | _ => none
def T.tp : T → Option (List D)
  | .s (.tup ds) => some ds
  | _ => none
theorem shs_map : ∀ ds : List D, shs (ds.map T.s) = some ds
  | [] => rfl
  | d :: ds => by simp [shs, shs_map ds]
theorem shs_eq : ∀ {ts : List T} {ds : List D}, shs ts = some ds → ts = ds.map T.s
  | [], ds, h => by cases h; rfl
  | .s d :: ts, ds, h => by
    simp only [shs, Option.map_eq_some_iff] at h
    obtain ⟨r, h1, rfl⟩ := h
    simp [shs_eq h1]
  | .l _ :: _, _, h => nomatch h
  | .dk _ :: _, _, h => nomatch h
  | .ob _ _ :: _, _, h => nomatch h
  | .p _ :: _, _, h => nomatch h
@[simp] theorem ls_map (ds : List D) : (T.l (ds.map T.s)).ls = some ds := shs_map ds
section
variable {G : Kt} {F H : Hp} {Q : V → Hp → Prop}
theorem Bors.shs : ∀ {ds : List D} {vs : List V}, Bors G F H (ds.map T.s) vs → Reps G F ds vs
  | [], vs, h => by simpa only [List.map, Bors, Reps] using h
  | d :: ds, vs, h => by
    simp only [List.map, Bors, Bor, Reps] at h ⊢
    obtain ⟨v, r, e, h1, h2⟩ := h
    exact ⟨v, r, e, h1, Bors.shs h2⟩
theorem Reps.bors : ∀ {ds : List D} {vs : List V}, Reps G F ds vs → Bors G F H (ds.map T.s) vs
  | [], vs, h => by simpa only [List.map, Bors, Reps] using h
  | d :: ds, vs, h => by
    simp only [List.map, Bors, Bor, Reps] at h ⊢
    obtain ⟨v, r, e, h1, h2⟩ := h
    exact ⟨v, r, e, h1, Reps.bors h2⟩
theorem Reps.owns : ∀ {ds : List D} {vs : List V}, Reps G F ds vs → Owns G F H (ds.map T.s) vs []
  | [], vs, h => by
    simp only [List.map, Owns, Reps] at h ⊢
    exact ⟨h, trivial⟩
  | d :: ds, vs, h => by
    simp only [List.map, Owns, Own, Reps] at h ⊢
    obtain ⟨v, r, e, h1, h2⟩ := h
    exact ⟨v, r, [], [], e, ⟨h1, rfl⟩, Reps.owns h2, rfl⟩
theorem Reps.len : ∀ {ds : List D} {vs : List V}, Reps G F ds vs → vs.length = ds.length
  | [], vs, h => by simp only [Reps] at h; rw [h]; rfl
  | d :: ds, vs, h => by
    simp only [Reps] at h
    obtain ⟨v, r, rfl, h1, h2⟩ := h
    simp [Reps.len h2]
theorem Bors.len : ∀ {ds : List T} {vs : List V}, Bors G F H ds vs → vs.length = ds.length
  | [], vs, h => by simp only [Bors] at h; rw [h]; rfl
  | d :: ds, vs, h => by
    simp only [Bors] at h
    obtain ⟨v, r, rfl, h1, h2⟩ := h
    simp [Bors.len h2]
theorem Reps.get : ∀ {ds : List D} {vs : List V} {i : Nat} {d : D}, Reps G F ds vs → ds[i]? = some d → ∃ v, vs[i]? = some v ∧ Rep G F d v
  | [], _, _, _, _, e => by simp at e
  | d :: ds, vs, 0, x, h, e => by
    simp only [Reps] at h
    obtain ⟨v, r, rfl, h1, h2⟩ := h
    have e' : d = x := by simpa using e
    subst e'
    exact ⟨v, rfl, h1⟩
  | d :: ds, vs, i + 1, x, h, e => by
    simp only [Reps] at h
    obtain ⟨v, r, rfl, h1, h2⟩ := h
    obtain ⟨w, q, z⟩ := Reps.get (i := i) (d := x) h2 (by simpa using e)
    exact ⟨w, by simpa using q, z⟩
theorem Reps.append : ∀ {ds es : List D} {vs us : List V}, Reps G F ds vs → Reps G F es us → Reps G F (ds ++ es) (vs ++ us)
  | [], es, vs, us, h, k => by
    simp only [Reps] at h
    subst h
    exact k
  | d :: ds, es, vs, us, h, k => by
    simp only [Reps] at h
    obtain ⟨v, r, rfl, h1, h2⟩ := h
    show Reps G F (d :: (ds ++ es)) (v :: (r ++ us))
    simp only [Reps]
    exact ⟨v, r ++ us, rfl, h1, Reps.append h2 k⟩
theorem Reps.take : ∀ {ds : List D} {vs : List V} (n : Nat), Reps G F ds vs → Reps G F (ds.take n) (vs.take n)
  | [], vs, n, h => by simp only [Reps] at h; subst h; simp [Reps]
  | d :: ds, vs, 0, h => by simp [Reps]
  | d :: ds, vs, n + 1, h => by
    simp only [Reps] at h
    obtain ⟨v, r, rfl, h1, h2⟩ := h
    simp only [List.take_succ_cons, Reps]
    exact ⟨v, _, rfl, h1, Reps.take n h2⟩
theorem Reps.drop : ∀ {ds : List D} {vs : List V} (n : Nat), Reps G F ds vs → Reps G F (ds.drop n) (vs.drop n)
  | [], vs, n, h => by simp only [Reps] at h; subst h; simp [Reps]
  | d :: ds, vs, 0, h => h
  | d :: ds, vs, n + 1, h => by
    simp only [Reps] at h
    obtain ⟨v, r, rfl, h1, h2⟩ := h
    exact Reps.drop n h2
theorem ls_rep {t : T} {v : V} {ds : List D} (s : Same F H) (b : Bor G F H t v) (e : t.ls = some ds) : ∃ a vs, v = .ref a ∧ H a = some (.lst vs) ∧ Reps G F ds vs := by
  cases t with
  | s d =>
    cases d with
    | lst xs =>
      cases e
      simp only [Bor, Rep] at b
      obtain ⟨a, vs, rfl, h, r⟩ := b
      exact ⟨a, vs, rfl, s _ _ h, r⟩
    | _ => cases e
  | l ts =>
    simp only [Bor] at b
    obtain ⟨a, vs, rfl, h, r⟩ := b
    have e' := shs_eq e
    subst e'
    exact ⟨a, vs, rfl, h, r.shs⟩
  | dk _ => cases e
  | ob _ _ => cases e
  | p _ => cases e
theorem tp_rep {t : T} {v : V} {ds : List D} (s : Same F H) (b : Bor G F H t v) (e : t.tp = some ds) : ∃ a vs, v = .ref a ∧ RT G.K H a vs ∧ Reps G F ds vs := by
  cases t with
  | s d =>
    cases d with
    | tup xs =>
      cases e
      simp only [Bor, Rep] at b
      obtain ⟨a, vs, rfl, h, r⟩ := b
      exact ⟨a, vs, rfl, h.mono s, r⟩
    | _ => cases e
  | l ts => cases e
  | dk _ => cases e
  | ob _ _ => cases e
  | p _ => cases e

/-! ### what is made -/
theorem PR.bl {b : Bool} (s : Same F H) (p : PR G F H Q (some (.s (.bl b)))) : Q (.bl b) H := p (.bl b) F H [] (.refl s) ⟨by simp only [Rep], rfl⟩ List.nodup_nil (by simp)
theorem PR.val {d : D} {v : V} (s : Same F H) (p : PR G F H Q (some (.s d))) (r : Rep G F d v) : Q v H := p v F H [] (.refl s) ⟨r, rfl⟩ List.nodup_nil (by simp)
theorem updNew {H : Hp} {p : Addr} {o : HO} (n : H p = none) : Same H (upd H p o) := fun b x e => by
  rw [upd_ne (ne_of_none e n)]; exact e
theorem Grow.lay (s : Same F H) {p : Addr} {o : HO} (n : H p = none) : Grow F H F (upd H p o) := ⟨.refl _, updNew n, fun _ _ h => .inl h, s.trans (updNew n)⟩
theorem Grow.layF (s : Same F H) {p : Addr} {o : HO} (n : H p = none) : Grow F H (upd F p o) (upd H p o) := by
  have nf : F p = none := s.free n
  refine ⟨updNew nf, updNew n, fun q x e => ?_, fun q x e => ?_⟩
  · by_cases z : q = p
    · subst z; exact .inr n
    · rw [upd_ne z] at e; exact .inl e
  · by_cases z : q = p
    · subst z; rw [upd_same] at e ⊢; exact e
    · rw [upd_ne z] at e ⊢; exact s _ _ e
theorem PR.lst {ds : List D} {vs : List V} (s : Same F H) (p : PR G F H Q (some (.l (ds.map T.s)))) (r : Reps G F ds vs) : ∀ a, H a = none → Q (.ref a) (upd H a (.lst vs)) := fun a n =>
  p (.ref a) F _ [a] (.lay s n) ⟨a, vs, [], rfl, upd_same, r.owns, rfl⟩ (by simp) (by
    intro q hq
    have e : q = a := by simpa using hq
    subst e
    exact ⟨s.free n, n⟩)
theorem PR.tup {ds : List D} {vs : List V} (s : Same F H) (p : PR G F H Q (some (.s (.tup ds)))) (r : Reps G F ds vs) : ∀ a, H a = none → Q (.ref a) (upd H a (.tup vs)) := fun a n => by
  refine p (.ref a) (upd F a (.tup vs)) _ [] (.layF s n) ⟨?_, rfl⟩ List.nodup_nil (by simp)
  simp only [Rep]
  exact ⟨a, vs, rfl, .inl upd_same, r.mono (updNew (s.free n))⟩
end

/-! ### as the library's data, for == -/
mutual
def toPy : D → Option PyData
  | .non => some .none
  | .bl b => some (.bool b)
  | .int i => some (.int i)
  | .str x => some (.str x)
  | .lst xs => (toPys xs).map .list
  | .tup xs => (toPys xs).map .tuple
  | .scr _ => none
  | .ty _ => none
  | .dk _ => none
  | .ob _ _ => none
def toPys : List D → Option (List PyData)
  | [] => some []
  | d :: ds => match toPy d, toPys ds with
    | some x, some xs => some (x :: xs)
    | _, _ => none
end
mutual
theorem Rep.dp {G : Kt} {H : Hp} : ∀ (d : D) (v : V) (p : PyData), Rep G H d v → toPy d = some p → Dp G.K H v p
  | .non, v, p, h, e => by
    simp only [Rep] at h; cases e; subst h; exact .non
  | .bl b, v, p, h, e => by
    simp only [Rep] at h; cases e; subst h; exact .bl b
  | .int b, v, p, h, e => by
    simp only [Rep] at h; cases e; subst h; exact .int b
  | .str b, v, p, h, e => by
    simp only [Rep] at h; cases e; subst h; exact .str b
  | .lst xs, v, p, h, e => by
    simp only [Rep] at h
    simp only [toPy, Option.map_eq_some_iff] at e
    obtain ⟨ps, e, rfl⟩ := e
    obtain ⟨a, vs, rfl, q, r⟩ := h
    exact .lst (.of q) (Reps.dp xs vs ps r e)
  | .tup xs, v, p, h, e => by
    simp only [Rep] at h
    simp only [toPy, Option.map_eq_some_iff] at e
    obtain ⟨ps, e, rfl⟩ := e
    obtain ⟨a, vs, rfl, q, r⟩ := h
    exact .tup q.sq (Reps.dp xs vs ps r e)
  | .scr _, _, _, _, e => nomatch e
  | .ty _, _, _, _, e => nomatch e
  | .dk _, _, _, _, e => nomatch e
  | .ob _ _, _, _, _, e => nomatch e
theorem Reps.dp {G : Kt} {H : Hp} : ∀ (d : List D) (v : List V) (p : List PyData), Reps G H d v → toPys d = some p → DpAll G.K H v p
  | [], v, p, h, e => by
    simp only [Reps] at h; cases e; subst h; exact .nil
  | d :: ds, vs, p, h, e => by
    simp only [Reps] at h
    obtain ⟨v, r, rfl, h1, h2⟩ := h
    cases e1 : toPy d with
    | none => simp [toPys, e1] at e
    | some x =>
      cases e2 : toPys ds with
      | none => simp [toPys, e1, e2] at e
      | some xs =>
        simp [toPys, e1, e2] at e
        subst e
        exact .cons (Rep.dp d v x h1 e1) (Reps.dp ds r xs h2 e2)
end
def eqG (x y : D) : Option Bool := match toPy x, toPy y with
  | some p, some q => if SeqAt.shaped p && SeqAt.shaped q then some (PyData.eqv p q) else none
  | _, _ => none
def pEqB (x y : T) : Option Bool := match x, y with
  | .s (.int i), .s (.int j) => some (decide (i = j))
  | .s (.str a), .s (.str b) => some (decide (a = b))
  | .s (.bl a), .s (.bl b) => some (decide (a = b))
  | x, y => eqG (er x) (er y)
def blO (o : Option Bool) : Option T := o.map fun b => .s (.bl b)
def pEq (x y : T) : Option T := blO (pEqB x y)
def pNe (x y : T) : Option T := blO ((pEqB x y).map not)

section
variable {G : Kt}
theorem prim_or {r r' : R2} {g : T → T → Option T} (h : ∀ tx ty x y F H Q, Same F H → Bor G F H tx x → Bor G F H ty y → PR G F H Q (g tx ty) → r x y H Q ∨ r' x y H Q) : Prim2 G (fun x y H Q => r x y H Q ∨ r' x y H Q) g := h
theorem prim_eq : Prim2 G (fun x y H Q => rEq x y H Q ∨ rEqD G.K x y H Q) pEq := by
  intro tx ty x y F H Q s b1 b2 p
  unfold pEq pEqB at p
  split at p
  · simp only [Bor, Rep] at b1 b2
    subst b1 b2
    exact .inl ⟨rfl, by simpa using PR.bl s p⟩
  · simp only [Bor, Rep] at b1 b2
    subst b1 b2
    exact .inl ⟨rfl, by simpa using PR.bl s p⟩
  · simp only [Bor, Rep] at b1 b2
    subst b1 b2
    exact .inl ⟨rfl, by simpa using PR.bl s p⟩
  · unfold eqG at p
    split at p
    · rename_i a b e1 e2
      split at p
      · rename_i hs
        rw [Bool.and_eq_true] at hs
        exact .inr ⟨a, b, Rep.dp _ _ _ (b1.rep s) e1, Rep.dp _ _ _ (b2.rep s) e2, hs.1, hs.2, PR.bl s p⟩
      · exact p.elim
    · exact p.elim
theorem prim_ne : Prim2 G (fun x y H Q => rNe x y H Q ∨ rNeD G.K x y H Q) pNe := by
  intro tx ty x y F H Q s b1 b2 p
  unfold pNe pEqB at p
  split at p
  · simp only [Bor, Rep] at b1 b2
    subst b1 b2
    exact .inl ⟨rfl, by simpa using PR.bl s p⟩
  · simp only [Bor, Rep] at b1 b2
    subst b1 b2
    exact .inl ⟨rfl, by simpa using PR.bl s p⟩
  · simp only [Bor, Rep] at b1 b2
    subst b1 b2
    exact .inl ⟨rfl, by simpa using PR.bl s p⟩
  · unfold eqG at p
    split at p
    · rename_i a b e1 e2
      split at p
      · rename_i hs
        rw [Bool.and_eq_true] at hs
        exact .inr ⟨a, b, Rep.dp _ _ _ (b1.rep s) e1, Rep.dp _ _ _ (b2.rep s) e2, hs.1, hs.2, PR.bl s p⟩
      · exact p.elim
    · exact p.elim

/-! ### numbers, texts, lists, tuples: + - * // % and the order -/
def pAdd (x y : T) : Option T := match x, y with
  | .s (.int i), .s (.int j) => some (.s (.int (i + j)))
  | .s (.str a), .s (.str b) => if a.length + b.length ≤ sizeLine then some (.s (.str (a ++ b))) else none
  | .s (.tup a), .s (.tup b) => if a.length + b.length ≤ sizeLine then some (.s (.tup (a ++ b))) else none
  | x, y => match x.ls, y.ls with
    | some a, some b => if a.length + b.length ≤ sizeLine then some (.l ((a ++ b).map T.s)) else none
    | _, _ => none
def rAdd (K : PySem.W.Frag) : R2 := fun x y H Q => (rI0 fun i j => .int (i + j)) x y H Q ∨ (∃ i j, x = .str i ∧ y = .str j ∧ i.length + j.length ≤ sizeLine ∧ Q (.str (i ++ j)) H) ∨ rCatA K x y H Q ∨ rCat x y H Q
theorem op_addA {X : Cx} : OpR X (binaryOp .Add) (rAdd X.K) := op_add.or (op_add_str.or (op_catA.or op_cat))
theorem prim_add : Prim2 G (rAdd G.K) pAdd := by
  intro tx ty x y F H Q s b1 b2 p
  unfold pAdd at p
  split at p
  · simp only [Bor, Rep] at b1 b2
    subst b1 b2
    exact .inl ⟨_, _, rfl, rfl, PR.val s p (by simp only [Rep])⟩
  · simp only [Bor, Rep] at b1 b2
    subst b1 b2
    split at p
    · exact .inr (.inl ⟨_, _, rfl, rfl, by assumption, PR.val s p (by simp only [Rep])⟩)
    · exact p.elim
  · rename_i a b
    split at p
    · rename_i hz
      obtain ⟨p1, vs, rfl, h1, r1⟩ := tp_rep s b1 rfl
      obtain ⟨p2, us, rfl, h2, r2⟩ := tp_rep s b2 rfl
      have e1 := r1.len
      have e2 := r2.len
      refine .inr (.inr (.inl ⟨p1, p2, vs, us, rfl, rfl, h1.sq, h2.sq, by omega, fun z => ?_, fun z z' => ?_, fun z z' => PR.tup s p (r1.append r2)⟩))
      · have ea : a = [] := by
          cases a with
          | nil => rfl
          | cons _ _ => rw [z] at e1; simp at e1
        subst ea
        exact PR.val s p b2
      · have eb : b = [] := by
          cases b with
          | nil => rfl
          | cons _ _ => rw [z'] at e2; simp at e2
        subst eb
        rw [List.append_nil] at p
        exact PR.val s p b1
    · exact p.elim
  · split at p
    · rename_i a b ea eb
      split at p
      · obtain ⟨p1, vs, rfl, h1, r1⟩ := ls_rep s b1 ea
        obtain ⟨p2, us, rfl, h2, r2⟩ := ls_rep s b2 eb
        have e1 := r1.len
        have e2 := r2.len
        exact .inr (.inr (.inr ⟨p1, p2, vs, us, rfl, rfl, h1, h2, by omega, PR.lst s p (r1.append r2)⟩))
      · exact p.elim
    · exact p.elim
def pSub (x y : T) : Option T := match x, y with
  | .s (.int i), .s (.int j) => some (.s (.int (i - j)))
  | _, _ => none
theorem prim_sub : Prim2 G (rI0 fun i j => .int (i - j)) pSub := by
  intro tx ty x y F H Q s b1 b2 p
  unfold pSub at p
  split at p
  · simp only [Bor, Rep] at b1 b2
    subst b1 b2
    exact ⟨_, _, rfl, rfl, PR.val s p (by simp only [Rep])⟩
  · exact p.elim
instance (i j : Int) : Decidable (CMul i j) := by unfold CMul; infer_instance
instance (i j : Int) : Decidable (CDivN i j) := by unfold CDivN; infer_instance
def strRep (x : Str) (k : Int) : Str := ⟨(List.replicate k.toNat x.cps.toList).flatten.toArray⟩
def pMul (x y : T) : Option T := match x, y with
  | .s (.int i), .s (.int j) => if CMul i j then some (.s (.int (i * j))) else none
  | x, .s (.int k) => match x.ls with
    | some a => if -(2 ^ 63) ≤ k ∧ k < 2 ^ 63 ∧ a.length * k.toNat ≤ sizeLine then some (.l ((List.replicate k.toNat a).flatten.map T.s)) else none
    | none => none
  | _, _ => none
theorem Reps.rep {F : Hp} {a : List D} {vs : List V} (r : Reps G F a vs) : ∀ n : Nat, Reps G F (List.replicate n a).flatten (List.replicate n vs).flatten
  | 0 => by simp [Reps]
  | n + 1 => by
    rw [List.replicate_succ, List.replicate_succ, List.flatten_cons, List.flatten_cons]
    exact r.append (r.rep n)
theorem prim_mul : Prim2 G (fun x y H Q => (rI CMul fun i j => .int (i * j)) x y H Q ∨ rRep x y H Q) pMul := by
  intro tx ty x y F H Q s b1 b2 p
  unfold pMul at p
  split at p
  · simp only [Bor, Rep] at b1 b2
    subst b1 b2
    split at p
    · exact .inl ⟨_, _, rfl, rfl, by assumption, PR.val s p (by simp only [Rep])⟩
    · exact p.elim
  · split at p
    · rename_i a ea
      split at p
      · rename_i hh
        obtain ⟨p1, vs, rfl, h1, r1⟩ := ls_rep s b1 ea
        simp only [Bor, Rep] at b2
        subst b2
        have e1 := r1.len
        exact .inr ⟨p1, _, vs, rfl, rfl, h1, hh.1, hh.2.1, by rw [e1]; exact hh.2.2, PR.lst s p (r1.rep _)⟩
      · exact p.elim
    · exact p.elim
  · exact p.elim
def pFdiv (x y : T) : Option T := match x, y with
  | .s (.int i), .s (.int j) => if CDivN i j then some (.s (.int (i.fdiv j))) else none
  | _, _ => none
theorem prim_fdiv : Prim2 G (rI CDivN fun i j => .int (i.fdiv j)) pFdiv := by
  intro tx ty x y F H Q s b1 b2 p
  unfold pFdiv at p
  split at p
  · simp only [Bor, Rep] at b1 b2
    subst b1 b2
    split at p
    · exact ⟨_, _, rfl, rfl, by assumption, PR.val s p (by simp only [Rep])⟩
    · exact p.elim
  · exact p.elim
def pMod (x y : T) : Option T := match x, y with
  | .s (.int i), .s (.int j) => if j ≠ 0 then some (.s (.int (i.fmod j))) else none
  | _, _ => none
theorem prim_mod : Prim2 G (rI (fun _ j => j ≠ 0) fun i j => .int (i.fmod j)) pMod := by
  intro tx ty x y F H Q s b1 b2 p
  unfold pMod at p
  split at p
  · simp only [Bor, Rep] at b1 b2
    subst b1 b2
    split at p
    · exact ⟨_, _, rfl, rfl, by assumption, PR.val s p (by simp only [Rep])⟩
    · exact p.elim
  · exact p.elim
instance (i j : Int) : Decidable (CPow i j) := by unfold CPow; infer_instance
def pPow (x y : T) : Option T := match x, y with
  | .s (.int i), .s (.int j) => if CPow i j then some (.s (.int (i ^ j.toNat))) else none
  | _, _ => none
theorem prim_pow : Prim2 G (rI CPow fun i j => .int (i ^ j.toNat)) pPow := by
  intro tx ty x y F H Q s b1 b2 p
  unfold pPow at p
  split at p
  · simp only [Bor, Rep] at b1 b2
    subst b1 b2
    split at p
    · exact ⟨_, _, rfl, rfl, by assumption, PR.val s p (by simp only [Rep])⟩
    · exact p.elim
  · exact p.elim
/-- the order of numbers -/
def pCmp (c : Int → Int → Bool) (x y : T) : Option T := match x, y with
  | .s (.int i), .s (.int j) => some (.s (.bl (c i j)))
  | _, _ => none
theorem prim_cmp {c : Int → Int → Bool} : Prim2 G (rI0 fun i j => .bl (c i j)) (pCmp c) := by
  intro tx ty x y F H Q s b1 b2 p
  unfold pCmp at p
  split at p
  · simp only [Bor, Rep] at b1 b2
    subst b1 b2
    exact ⟨_, _, rfl, rfl, PR.val s p (by simp only [Rep])⟩
  · exact p.elim
def cLt (i j : Int) : Bool := decide (i < j)
def cLe (i j : Int) : Bool := decide (i ≤ j)
def cGt (i j : Int) : Bool := decide (j < i)
def cGe (i j : Int) : Bool := decide (j ≤ i)
/-- the order of texts too -/
def pLtS (x y : T) : Option T := match x, y with
  | .s (.int i), .s (.int j) => some (.s (.bl (decide (i < j))))
  | .s (.str i), .s (.str j) => some (.s (.bl (decide (i.cps.toList < j.cps.toList))))
  | _, _ => none

/-! ### is -/
def pIs (x y : T) : Option T := match x, y with
  | .s .non, .s .non => some (.s (.bl true))
  | .s (.bl a), .s (.bl b) => some (.s (.bl (decide (a = b))))
  | _, .s .non => some (.s (.bl false))
  | _, _ => none
def pIsNot (x y : T) : Option T := match x, y with
  | .s .non, .s .non => some (.s (.bl false))
  | .s (.bl a), .s (.bl b) => some (.s (.bl (!decide (a = b))))
  | _, .s .non => some (.s (.bl true))
  | _, _ => none
def rIs : R2 := fun x y H Q => (y = .non ∧ Q (.bl (decide (x = .non))) H) ∨ rIsB x y H Q
def rIsNot : R2 := fun x y H Q => (y = .non ∧ Q (.bl (!decide (x = .non))) H) ∨ rNotB x y H Q
theorem op_isA {X : Cx} : OpR X (compareOp .Is) rIs := op_isN.or op_isBl
theorem op_isNotA {X : Cx} : OpR X (compareOp .IsNot) rIsNot := op_notN.or op_notBl
theorem Bor.ne_non {F H : Hp} {t : T} {v : V} (b : Bor G F H t v) (h : t ≠ .s .non) : v ≠ .non := by
  intro e
  subst e
  cases t with
  | s d =>
    cases d with
    | non => exact h rfl
    | bl _ => simp only [Bor, Rep] at b; cases b
    | int _ => simp only [Bor, Rep] at b; cases b
    | str _ => simp only [Bor, Rep] at b; cases b
    | lst _ => simp only [Bor, Rep] at b; obtain ⟨_, _, e, _⟩ := b; cases e
    | tup _ => simp only [Bor, Rep] at b; obtain ⟨_, _, e, _⟩ := b; cases e
    | scr _ => simp only [Bor, Rep] at b; obtain ⟨_, e, _⟩ := b; cases e
    | ty _ => simp only [Bor, Rep] at b; cases b
    | dk _ => simp only [Bor, Rep] at b; obtain ⟨_, _, e, _⟩ := b; cases e
    | ob _ _ => simp only [Bor, Rep] at b; obtain ⟨_, _, _, _, e, _⟩ := b; cases e
  | l _ => simp only [Bor] at b; obtain ⟨_, _, e, _⟩ := b; cases e
  | dk _ => simp only [Bor] at b; obtain ⟨_, _, e, _⟩ := b; cases e
  | ob _ _ => simp only [Bor] at b; obtain ⟨_, _, _, _, e, _⟩ := b; cases e
  | p _ => simp only [Bor] at b; obtain ⟨_, _, e, _⟩ := b; cases e
theorem prim_is : Prim2 G rIs pIs := by
  intro tx ty x y F H Q s b1 b2 p
  unfold pIs at p
  split at p
  · simp only [Bor, Rep] at b1 b2
    subst b1 b2
    exact .inl ⟨rfl, PR.val s p (by simp only [Rep]; rfl)⟩
  · simp only [Bor, Rep] at b1 b2
    subst b1 b2
    exact .inr ⟨_, _, rfl, rfl, PR.val s p (by simp only [Rep])⟩
  · rename_i hn
    have hx := b1.ne_non fun z => hn z
    simp only [Bor, Rep] at b2
    subst b2
    exact .inl ⟨rfl, by rw [decide_eq_false hx]; exact PR.val s p (by simp only [Rep])⟩
  · exact p.elim
theorem prim_isNot : Prim2 G rIsNot pIsNot := by
  intro tx ty x y F H Q s b1 b2 p
  unfold pIsNot at p
  split at p
  · simp only [Bor, Rep] at b1 b2
    subst b1 b2
    exact .inl ⟨rfl, PR.val s p (by simp only [Rep]; rfl)⟩
  · simp only [Bor, Rep] at b1 b2
    subst b1 b2
    exact .inr ⟨_, _, rfl, rfl, PR.val s p (by simp only [Rep])⟩
  · rename_i hn
    have hx := b1.ne_non fun z => hn z
    simp only [Bor, Rep] at b2
    subst b2
    exact .inl ⟨rfl, by rw [decide_eq_false hx]; exact PR.val s p (by simp only [Rep]; rfl)⟩
  · exact p.elim
end
end VS
namespace VS
open PySem PySem.Spec L2
open PyProof.Rows hiding St

/-! ### lists of arguments -/
def PBs (G : Kt) (fx : Fx) (W : L2.WX) (σ : St) (Q : List V → Hp → Prop) (env : En) (F H : Hp) (fp : List Addr) : R En (List T) → Prop
  | .ok ts => ∀ vs F' H', Grow F H F' H' → Bors G F' H' ts vs → Q vs H'
  | .ex c fs e => ∀ cls d F' H' fp', Sta G fx e F' σ H' fp' → ExR G F' H' c fs cls d → Go F H fp F' H' fp' → W cls d σ H'
  | .no => False
def tBs (G : Kt) (fx : Fx) (W : L2.WX) (g : En → R En (List T)) : TA := fun σ H Q => ∃ env F fp, Sta G fx env F σ H fp ∧ PBs G fx W σ Q env F H fp (g env)
def PVs (G : Kt) (fx : Fx) (W : L2.WX) (σ : St) (Q : List V → Hp → Prop) (F H : Hp) (fp : List Addr) : R En (List T × En) → Prop
  | .ok (ts, e) => ∀ vs F' H' fp' ft, Sta G fx e F' σ H' fp' → Owns G F' H' ts vs ft → (fp' ++ ft).Nodup → (∀ p ∈ ft, F' p = none) → Go F H fp F' H' (fp' ++ ft) → Q vs H'
  | .ex c fs e => ∀ cls d F' H' fp', Sta G fx e F' σ H' fp' → ExR G F' H' c fs cls d → Go F H fp F' H' fp' → W cls d σ H'
  | .no => False
def tVs (G : Kt) (fx : Fx) (W : L2.WX) (f : En → R En (List T × En)) : TA := fun σ H Q => ∃ env F fp, Sta G fx env F σ H fp ∧ PVs G fx W σ Q F H fp (f env)
abbrev VBs (X : Cx) (fx : Fx) (W : L2.WX) (es : List Expr) (g : En → R En (List T)) : Prop := PA X es (tBs (kt X) fx W g)
abbrev VEs (X : Cx) (fx : Fx) (W : L2.WX) (es : List Expr) (f : En → R En (List T × En)) : Prop := PA X es (tVs (kt X) fx W f)
def bnil : En → R En (List T) := fun _ => .ok []
def bcons (ga : En → R En T) (gs : En → R En (List T)) : En → R En (List T) := fun env => bnd (ga env) fun t => bnd (gs env) fun ts => .ok (t :: ts)
def enil : En → R En (List T × En) := fun env => .ok ([], env)
def econs (fa : En → R En (T × En)) (fs : En → R En (List T × En)) : En → R En (List T × En) := fun env => bnd (fa env) fun a => bnd (fs a.2) fun b => .ok (a.1 :: b.1, b.2)
section
variable {X : Cx} {fx : Fx} {W : L2.WX}
theorem vbs_nil : VBs X fx W [] bnil := PA.imp pa_nil fun σ H Q h => by
  obtain ⟨env, F, fp, S, P⟩ := h
  exact P [] F H (.refl S.sub) (by simp only [Bors])
theorem vbs_cons {e : Expr} {es : List Expr} {ga : En → R En T} {gs : En → R En (List T)} (ha : VB X fx W e ga) (hs : VBs X fx W es gs)
    (hst : starEach (e :: es) X.env = (false, eval e X.env) :: starEach es X.env := by rfl) : VBs X fx W (e :: es) (bcons ga gs) := PA.imp (pa_cons ha hs hst) fun σ H Q h => by
  obtain ⟨env, F, fp, S, P⟩ := h
  refine ⟨env, F, fp, S, ?_⟩
  unfold bcons at P
  cases ea : ga env with
  | no => rw [ea] at P; exact P
  | ex c fs e => rw [ea] at P; exact P
  | ok t =>
    rw [ea] at P
    intro v F1 H1 g1 b1
    have S1 := S.grow g1
    refine ⟨env, F1, fp, S1, ?_⟩
    cases eb : gs env with
    | no => simp only [bnd, eb] at P; exact P
    | ex c fs e =>
      simp only [bnd, eb] at P
      exact fun cls d F' H' fp' S' x g => P cls d F' H' fp' S' x ((g1.go fp).trans g)
    | ok ts =>
      simp only [bnd, eb] at P
      intro vs F2 H2 g2 b2
      exact P (v :: vs) F2 H2 (g1.trans g2) (by simp only [Bors]; exact ⟨v, vs, rfl, b1.mono g2.f g2.h, b2⟩)
theorem ves_nil : VEs X fx W [] enil := PA.imp pa_nil fun σ H Q h => by
  obtain ⟨env, F, fp, S, P⟩ := h
  exact P [] F H fp [] S ⟨rfl, rfl⟩ (by simpa using S.nd) (by simp) (by rw [List.append_nil]; exact .refl)
theorem Go.frame2 {F H F1 H1 F2 H2 : Hp} {fp fp1 f1 fp2 f2 : List Addr} (g1 : Go F H fp F1 H1 (fp1 ++ f1)) (g2 : Go F1 H1 fp1 F2 H2 (fp2 ++ f2)) : Go F H fp F2 H2 (fp2 ++ (f1 ++ f2)) :=
  (g1.trans g2.frame).less fun p hp => by
    simp only [List.mem_append] at hp ⊢
    rcases hp with z | z | z
    · exact .inl (.inl z)
    · exact .inr z
    · exact .inl (.inr z)
theorem nodup_two {F2 : Hp} {fp1 f1 fp2 f2 : List Addr} (nd1 : (fp1 ++ f1).Nodup) (nd2 : (fp2 ++ f2).Nodup) (d1' : ∀ p ∈ f1, p ∉ fp2 ++ f2) : (fp2 ++ (f1 ++ f2)).Nodup := by
  rw [List.nodup_append] at nd2 ⊢
  refine ⟨nd2.1, List.nodup_append.mpr ⟨(List.nodup_append.mp nd1).2.1, nd2.2.1, fun a ha b hb e => ?_⟩, fun a ha b hb e => ?_⟩
  · subst e
    exact d1' a ha (List.mem_append_right _ hb)
  · subst e
    rcases List.mem_append.mp hb with z | z
    · exact d1' a z (List.mem_append_left _ ha)
    · exact nd2.2.2 a ha a z rfl
theorem ves_cons {e : Expr} {es : List Expr} {fa : En → R En (T × En)} {fs : En → R En (List T × En)} (ha : VE X fx W e fa) (hs : VEs X fx W es fs)
    (hst : starEach (e :: es) X.env = (false, eval e X.env) :: starEach es X.env := by rfl) : VEs X fx W (e :: es) (econs fa fs) := PA.imp (pa_cons ha hs hst) fun σ H Q h => by
  obtain ⟨env, F, fp, S, P⟩ := h
  refine ⟨env, F, fp, S, ?_⟩
  unfold econs at P
  cases ea : fa env with
  | no => rw [ea] at P; exact P
  | ex c fs e => rw [ea] at P; exact P
  | ok a =>
    obtain ⟨t, e1⟩ := a
    rw [ea] at P
    intro v F1 H1 fp1 f1 S1 o1 nd1 off1 g1
    refine ⟨e1, F1, fp1, S1, ?_⟩
    have d1 : ∀ p ∈ f1, p ∉ fp1 := fun p hp hq => (List.nodup_append.mp nd1).2.2 p hq p hp rfl
    cases eb : fs e1 with
    | no => simp only [bnd, eb] at P; exact P
    | ex c fs e =>
      simp only [bnd, eb] at P
      intro cls d F' H' fp' S' x g'
      exact P cls d F' H' fp' S' x ((g1.less fun p hp => List.mem_append_left _ hp).trans g')
    | ok b =>
      obtain ⟨ts, e2⟩ := b
      simp only [bnd, eb] at P
      intro vs F2 H2 fp2 f2 S2 o2 nd2 off2 g2
      obtain ⟨o1', off1', d1'⟩ := o1.go off1 g2 d1
      refine P (v :: vs) F2 H2 fp2 (f1 ++ f2) S2 (by simp only [Owns]; exact ⟨v, vs, f1, f2, rfl, o1', o2, rfl⟩) (nodup_two (F2 := F2) nd1 nd2 d1') (fun p hp => ?_) (g1.frame2 g2)
      rcases List.mem_append.mp hp with z | z
      · exact off1' p z
      · exact off2 p z

/-! ### what is done with lists of arguments -/
theorem tVs_one {fs : En → R En (List T × En)} {k : List T → En → R En (T × En)} {K : List V → Hp → Prop} {σ : St} {H : Hp} {Q : VK} {G : Kt}
    (hk : ∀ ts env F H fp xs f1, Sta G fx env F σ H fp → Owns G F H ts xs f1 → (fp ++ f1).Nodup → (∀ p ∈ f1, F p = none) → PV G fx W σ Q F H (fp ++ f1) (k ts env) → K xs H)
    (h : tV G fx W (fun env => bnd (fs env) fun a => k a.1 a.2) σ H Q) : tVs G fx W fs σ H K := by
  obtain ⟨env, F, fp, S, P⟩ := h
  dsimp only at P
  refine ⟨env, F, fp, S, ?_⟩
  cases ea : fs env with
  | no => rw [ea] at P; exact P
  | ex c fs e => rw [ea] at P; exact P
  | ok a =>
    obtain ⟨tx, e1⟩ := a
    rw [ea] at P
    intro v F1 H1 fp1 f1 S1 o1 nd1 off1 g1
    exact hk tx e1 F1 H1 fp1 v f1 S1 o1 nd1 off1 (PV.go (r := k tx e1) P g1)
theorem tBs_one {G : Kt} {σ : St} {H : Hp} {gs : En → R En (List T)} {Z : R En T → (En → Hp → Hp → List Addr → Prop)} {k : List T → R En T} {K : List V → Hp → Prop}
    (hk : ∀ ts env F H fp xs, Sta G fx env F σ H fp → Bors G F H ts xs → Z (k ts) env F H fp → K xs H)
    (hx : ∀ c fs e env F H fp cls d F' H' fp', Z (.ex c fs e) env F H fp → Sta G fx e F' σ H' fp' → ExR G F' H' c fs cls d → Go F H fp F' H' fp' → W cls d σ H')
    (hn : ∀ env F H fp, ¬ Z .no env F H fp)
    (hg : ∀ r env F H fp F' H', Z r env F H fp → Grow F H F' H' → Z r env F' H' fp)
    {env : En} {F : Hp} {fp : List Addr} (S : Sta G fx env F σ H fp) (P : Z (bnd (gs env) fun x => k x) env F H fp) : tBs G fx W gs σ H K := by
  refine ⟨env, F, fp, S, ?_⟩
  cases ea : gs env with
  | no => rw [ea] at P; exact hn _ _ _ _ P
  | ex c fs e => rw [ea] at P; exact fun cls d F' H' fp' S' x g => hx _ _ _ _ _ _ _ _ _ _ _ _ P S' x g
  | ok tx =>
    rw [ea] at P
    intro v F1 H1 g1 b1
    exact hk tx env F1 H1 fp v (S.grow g1) b1 (hg _ _ _ _ _ _ _ P g1)
def PrimN (G : Kt) (r : List V → Hp → VK → Prop) (g : List T → Option T) : Prop := ∀ ts xs F H Q, Same F H → Bors G F H ts xs → PR G F H Q (g ts) → r xs H Q
def bN (g : List T → Option T) (gs : En → R En (List T)) : En → R En T := fun env => bnd (gs env) fun x => ofO (g x) .ok
def eN (g : List T → Option T) (fs : En → R En (List T × En)) : En → R En (T × En) := fun env => bnd (fs env) fun a => ofO (g a.1) fun t => .ok (t, a.2)
theorem BBN {r : List V → Hp → VK → Prop} {g : List T → Option T} {gs : En → R En (List T)} {σ : St} {H : Hp} {Q : VK} (p : PrimN (kt X) r g) (h : tB (kt X) fx W (bN g gs) σ H Q) : tCB r (tBs (kt X) fx W gs) σ H Q := by
  obtain ⟨env, F, fp, S, P⟩ := h
  exact tBs_one (Z := ZB (kt X) fx W σ Q) (k := fun x => ofO (g x) .ok) (fun tx env F H fp x S b1 z => p tx x F H Q S.sub b1 (PR.zb z)) (fun _ _ _ _ _ _ _ _ _ _ _ _ z => ZB.ex z) (fun _ _ _ _ z => z) (fun _ _ _ _ _ _ _ z => z.grow) S P
theorem BVN {r : List V → Hp → VK → Prop} {g : List T → Option T} {gs : En → R En (List T)} {σ : St} {H : Hp} {Q : VK} (p : PrimN (kt X) r g) (h : tV (kt X) fx W (bv (bN g gs)) σ H Q) : tCB r (tBs (kt X) fx W gs) σ H Q := by
  obtain ⟨env, F, fp, S, P⟩ := h
  exact tBs_one (Z := ZV (kt X) fx W σ Q) (k := fun x => ofO (g x) .ok) (fun tx env F H fp x S b1 z => p tx x F H Q S.sub b1 (PR.zv S z)) (fun _ _ _ _ _ _ _ _ _ _ _ _ z => z.ex) (fun _ _ _ _ z => z) (fun _ _ _ _ _ _ _ z => z.grow) S P
theorem EVN {r : List V → Hp → VK → Prop} {g : List T → Option T} {fs : En → R En (List T × En)} {σ : St} {H : Hp} {Q : VK} (p : PrimN (kt X) r g) (h : tV (kt X) fx W (eN g fs) σ H Q) : tCB r (tVs (kt X) fx W fs) σ H Q :=
  tVs_one (k := fun x env => ofO (g x) fun t => .ok (t, env)) (fun tx env F H fp x f1 S o1 nd off z => p tx x F H Q S.sub (Owns.bor _ _ _ o1) (PR.pv S (fun p hp => List.mem_append_left _ hp) z)) h

/-! ### displays -/
def mkL (ts : List T) : Option T := if ts.length ≤ sizeLine then some (.l ts) else none
def mkT (ts : List T) : Option T := if ts.length ≤ sizeLine then (shs ts).map fun ds => .s (.tup ds) else none
theorem prim_tup {G : Kt} : PrimN G (fun xs H Q => xs.length ≤ sizeLine ∧ ∀ p, H p = none → Q (.ref p) (upd H p (.tup xs))) mkT := by
  intro ts xs F H Q s b p
  unfold mkT at p
  split at p
  · rename_i hz
    cases e : shs ts with
    | none => rw [e] at p; exact p.elim
    | some ds =>
      rw [e] at p
      have e' := shs_eq e
      subst e'
      have r := b.shs
      exact ⟨by rw [b.len]; exact hz, PR.tup s p r⟩
  · exact p.elim
theorem vb_tup {es : List Expr} {k pos} {gs : En → R En (List T)} (h : VBs X fx W es gs) : VB X fx W (.Tuple es k pos) (bN mkT gs) := PE.imp (pe_tup h) fun σ H Q q => BBN (X := X) prim_tup q
theorem ve_tup {es : List Expr} {k pos} {fs : En → R En (List T × En)} (h : VEs X fx W es fs) : VE X fx W (.Tuple es k pos) (eN mkT fs) := PE.imp (pe_tup h) fun σ H Q q => EVN (X := X) prim_tup q
theorem ve_lst {es : List Expr} {pos} {fs : En → R En (List T × En)} (h : VEs X fx W es fs) : VE X fx W (.List es pos) (eN mkL fs) := PE.imp (pe_lst h) fun σ H Q q => by
  refine tVs_one (k := fun x env => ofO (mkL x) fun t => .ok (t, env)) (fun ts env F H fp xs f1 S o1 nd off z => ?_) q
  unfold mkL at z
  split at z
  · rename_i hz
    have hb := Owns.bor _ _ _ o1
    refine ⟨by rw [hb.len]; exact hz, fun a n => ?_⟩
    have g := Grow.lay (o := .lst xs) S.sub n
    have na : a ∉ fp ++ f1 := fun hm => by
      rcases List.mem_append.mp hm with z | z
      · exact S.is z n
      · obtain ⟨o, e⟩ := Owns.is _ _ _ o1 a z
        rw [n] at e; cases e
    refine z (.ref a) F _ fp (a :: f1) (S.grow g) ⟨a, xs, f1, rfl, upd_same, Owns.mono g.f _ _ _ (fun p _ o e => g.h p o e) o1, rfl⟩ ?_ ?_ ?_
    · exact List.perm_middle.nodup_iff.mpr (List.nodup_cons.mpr ⟨na, nd⟩)
    · intro p hp
      rcases List.mem_cons.mp hp with rfl | hp
      · exact S.sub.free n
      · exact off p hp
    · exact (g.goNew (fp ++ f1) [a] (by simpa using n)).less fun p hp => by
        simp only [List.mem_append, List.mem_cons, List.mem_singleton, List.not_mem_nil, or_false] at hp ⊢
        rcases hp with z | z | z
        · exact .inl (.inl z)
        · exact .inr z
        · exact .inl (.inr z)
  · exact z.elim
theorem vb_lst {es : List Expr} {pos} {gs : En → R En (List T)} (h : VBs X fx W es gs) : VB X fx W (.List es pos) (bN mkL gs) := PE.imp (pe_lst h) fun σ H Q q => by
  obtain ⟨env, F, fp, S, P⟩ := q
  refine tBs_one (Z := ZB (kt X) fx W σ Q) (k := fun x => ofO (mkL x) .ok) (fun ts env F H fp xs S b z => ?_) (fun _ _ _ _ _ _ _ _ _ _ _ _ z => ZB.ex z) (fun _ _ _ _ z => z) (fun _ _ _ _ _ _ _ z => z.grow) S P
  unfold mkL at z
  split at z
  · rename_i hz
    refine ⟨by rw [b.len]; exact hz, fun a n => ?_⟩
    have g := Grow.lay (o := .lst xs) S.sub n
    exact z (.ref a) F _ g (by simp only [Bor]; exact ⟨a, xs, rfl, upd_same, b.mono g.f g.h⟩)
  · exact z.elim

theorem set_self {α : Type} : ∀ {l : List α} {i : Nat} {x : α}, l[i]? = some x → l.set i x = l
  | [], _, _, h => by simp at h
  | y :: l, 0, x, h => by
    have e : y = x := by simpa using h
    rw [e]; rfl
  | y :: l, i + 1, x, h => by
    show y :: l.set i x = y :: l
    rw [set_self (by simpa using h)]
/-! ### names, constants -/
def nmB (i : Nat) : En → R En T := fun env => match env[i]? with
  | some (some t) => .ok t
  | _ => .no
def mvE (i : Nat) : En → R En (T × En) := fun env => match env[i]? with
  | some (some t) => .ok (t, env.set i none)
  | _ => .no
def cB (d : D) : En → R En T := fun _ => .ok (.s d)
theorem vb_name (i : Nat) {x : Str} {pos : Pos} (hN : X.N[i]? = some x) (hv : Vis X.env.scope x) (hd : (x == ("__debug__" : Str)) = false := by decide)
    (hcd : (x == ("__classdict__" : Str)) = false := by decide) : VB X fx W (.Name x pos) (nmB i) := PE.imp (pe_var hN hv hd hcd) fun σ H Q h => by
  obtain ⟨env, F, fp, S, P⟩ := h
  unfold nmB at P
  split at P
  · rename_i t e
    obtain ⟨a, b, c, s, _, hs, o, _⟩ := S.own.split e
    obtain ⟨v, rfl, o⟩ := o
    exact ⟨v, hs, P v F H (.refl S.sub) o.bor⟩
  · exact P.elim
theorem ve_move (i : Nat) {x : Str} {pos : Pos} (hN : X.N[i]? = some x) (hv : Vis X.env.scope x) (hd : (x == ("__debug__" : Str)) = false := by decide)
    (hcd : (x == ("__classdict__" : Str)) = false := by decide) : VE X fx W (.Name x pos) (mvE i) := PE.imp (pe_var hN hv hd hcd) fun σ H Q h => by
  obtain ⟨env, F, fp, S, P⟩ := h
  unfold mvE at P
  split at P
  · rename_i t e
    obtain ⟨a, b, c, s, e1, hs, o, k⟩ := S.own.split e
    obtain ⟨v, rfl, o⟩ := o
    refine ⟨v, hs, ?_⟩
    have nd := S.nd
    rw [e1] at nd
    have nd' : (a ++ c ++ b).Nodup := by
      have : (a ++ (b ++ c)).Perm (a ++ c ++ b) := by rw [List.append_assoc]; exact List.Perm.append_left a List.perm_append_comm
      exact this.nodup_iff.mp nd
    have k' := k F H none (some v) [] (.refl _) (fun _ _ _ e => e) rfl
    rw [set_self hs, List.nil_append] at k'
    refine P v F H (a ++ c) b ⟨k', (List.nodup_append.mp nd').1, fun p hp => S.off p ?_, S.sub, S.fix, S.pin⟩ o nd' (fun p hp => S.off p ?_) (Go.refl.less fun p hp => ?_)
    · rw [e1]; simp only [List.mem_append] at hp ⊢
      rcases hp with z | z
      · exact .inl z
      · exact .inr (.inr z)
    · rw [e1]; simp [hp]
    · rw [e1]; simp only [List.mem_append] at hp ⊢
      rcases hp with (z | z) | z
      · exact .inl z
      · exact .inr (.inr z)
      · exact .inr (.inl z)
  · exact P.elim
theorem tC_B {v : V} {d : D} (hr : ∀ G F, Rep G F d v) {σ H Q} (h : tB (kt X) fx W (cB d) σ H Q) : tC v σ H Q := by
  obtain ⟨env, F, fp, S, P⟩ := h
  exact P v F H (.refl S.sub) (by simp only [Bor]; exact hr _ _)
theorem vb_int {i : Int} {j pos} : VB X fx W (.Constant (.int i) j pos) (cB (.int i)) := PE.imp pe_int fun σ H Q h => tC_B (X := X) (fun _ _ => by simp only [Rep]) h
theorem vb_bl {i : Bool} {j pos} : VB X fx W (.Constant (.bool i) j pos) (cB (.bl i)) := PE.imp pe_bl fun σ H Q h => tC_B (X := X) (fun _ _ => by simp only [Rep]) h
theorem vb_non {j pos} : VB X fx W (.Constant .none j pos) (cB .non) := PE.imp pe_non fun σ H Q h => tC_B (X := X) (fun _ _ => by simp only [Rep]) h
theorem vb_str {i : Str} {j pos} : VB X fx W (.Constant (.str i) j pos) (cB (.str i)) := PE.imp pe_str fun σ H Q h => tC_B (X := X) (fun _ _ => by simp only [Rep]) h
/-- a constant of the module -/
theorem vb_glob {x : Str} {v : V} {u : Value} {d : D} {pos : Pos} (hg : Gl X x) (hm : X.mg x = some u) (r : RelV v u) (hr : ∀ F, Rep (kt X) F d v) (hd : (x == ("__debug__" : Str)) = false := by decide) : VB X fx W (.Name x pos) (cB d) :=
  PE.imp (pe_glob hg hm r hd) fun σ H Q h => by
    obtain ⟨env, F, fp, S, P⟩ := h
    exact P v F H (.refl S.sub) (by simp only [Bor]; exact hr _)

/-! ### two-place operations, comparisons, subscripts: by values looked at, held -/
variable {a b : Expr} {ga gb : En → R En T} {fa fb : En → R En (T × En)} {pos : Pos} {r : R2} {g : T → T → Option T}
theorem vb_bin {op : Operator} (ho : OpR X (binaryOp op) r) (p : Prim2 (kt X) r g) (ha : VB X fx W a ga) (hb : VB X fx W b gb) : VB X fx W (.BinOp a op b pos) (b2 g ga gb) := PE.imp (pe_op ho ha hb) fun σ H Q h => BB2 (X := X) p h
theorem vv_bin {op : Operator} (ho : OpR X (binaryOp op) r) (p : Prim2 (kt X) r g) (ha : VB X fx W a ga) (hb : VB X fx W b gb) : VE X fx W (.BinOp a op b pos) (bv (b2 g ga gb)) := PE.imp (pe_op ho ha hb) fun σ H Q h => BV2 (X := X) p h
theorem ve_bin {op : Operator} (ho : OpR X (binaryOp op) r) (p : Prim2 (kt X) r g) (ha : VE X fx W a fa) (hb : VE X fx W b fb) : VE X fx W (.BinOp a op b pos) (e2 g fa fb) := PE.imp (pe_op ho ha hb) fun σ H Q h => EV2 (X := X) p h
theorem vb_cmp {op : CmpOp} (ho : OpR X (compareOp op) r) (p : Prim2 (kt X) r g) (ha : VB X fx W a ga) (hb : VB X fx W b gb) (hm : behindInMarks op b = false) : VB X fx W (.Compare a [op] [b] pos) (b2 g ga gb) := PE.imp (pe_cmpR ho ha hb hm) fun σ H Q h => BB2 (X := X) p h
theorem ve_cmp {op : CmpOp} (ho : OpR X (compareOp op) r) (p : Prim2 (kt X) r g) (ha : VE X fx W a fa) (hb : VE X fx W b fb) (hm : behindInMarks op b = false) : VE X fx W (.Compare a [op] [b] pos) (e2 g fa fb) := PE.imp (pe_cmpR ho ha hb hm) fun σ H Q h => EV2 (X := X) p h
theorem vb_ix (ho : IxR X r) (p : Prim2 (kt X) r g) (ha : VB X fx W a ga) (hb : VB X fx W b gb) (hs : PlainIx b) : VB X fx W (.Subscript a b pos) (b2 g ga gb) := PE.imp (pe_ix ho ha hb hs) fun σ H Q h => BB2 (X := X) p h
theorem ve_ix (ho : IxR X r) (p : Prim2 (kt X) r g) (ha : VE X fx W a fa) (hb : VE X fx W b fb) (hs : PlainIx b) : VE X fx W (.Subscript a b pos) (e2 g fa fb) := PE.imp (pe_ix ho ha hb hs) fun σ H Q h => EV2 (X := X) p h
theorem vb_un {op : UnaryOp} {r : V → Hp → VK → Prop} {g : T → Option T} (ho : UnR X (unaryOp op) r) (p : Prim1 (kt X) r g) (ha : VB X fx W a ga) : VB X fx W (.UnaryOp op a pos) (b1 g ga) := PE.imp (pe_un ho ha) fun σ H Q h => BB1 (X := X) p h
theorem ve_un {op : UnaryOp} {r : V → Hp → VK → Prop} {g : T → Option T} (ho : UnR X (unaryOp op) r) (p : Prim1 (kt X) r g) (ha : VE X fx W a fa) : VE X fx W (.UnaryOp op a pos) (e1 g fa) := PE.imp (pe_un ho ha) fun σ H Q h => EV1 (X := X) p h

/-! ### subscripts by values -/
def pIx (x y : T) : Option T := match x, y with
  | .s (.tup ds), .s (.int i) => (atI ds i).map T.s
  | .s (.str z), .s (.int i) => if z.length ≤ sizeLine then (atI z.cps.toList i).map fun c => .s (.str ⟨#[c]⟩) else none
  | x, .s (.int i) => match x.ls with
    | some ds => (atI ds i).map T.s
    | none => none
  | _, _ => none
theorem Reps.at {G : Kt} {F : Hp} {ds : List D} {vs : List V} {i : Int} {d : D} (r : Reps G F ds vs) (h : atI ds i = some d) : ∃ v, atI vs i = some v ∧ Rep G F d v := by
  unfold atI at h ⊢
  rw [r.len]
  cases e : ixN ds.length i with
  | none => rw [e] at h; cases h
  | some j =>
    rw [e] at h
    exact r.get h
theorem prim_ix {G : Kt} : Prim2 G (rIx G.K) pIx := by
  intro tx ty x y F H Q s b1 b2 p
  unfold pIx at p
  split at p
  · rename_i ds i
    simp only [Bor, Rep] at b2
    subst b2
    obtain ⟨a, vs, rfl, h1, r1⟩ := tp_rep s b1 rfl
    cases e : atI ds i with
    | none => rw [e] at p; exact p.elim
    | some d =>
      rw [e] at p
      obtain ⟨v, hv, rv⟩ := r1.at e
      exact .inr (.inl ⟨a, vs, i, v, rfl, rfl, h1.sq, hv, PR.val s p rv⟩)
  · rename_i z i
    simp only [Bor, Rep] at b1 b2
    subst b1 b2
    split at p
    · cases e : atI z.cps.toList i with
      | none => rw [e] at p; exact p.elim
      | some d =>
        rw [e] at p
        exact .inr (.inr ⟨z, i, d, rfl, rfl, by assumption, e, PR.val s p (by simp only [Rep])⟩)
    · exact p.elim
  · rename_i x i _ _
    split at p
    · rename_i ds ed
      simp only [Bor, Rep] at b2
      subst b2
      obtain ⟨a, vs, rfl, h1, r1⟩ := ls_rep s b1 ed
      cases e : atI ds i with
      | none => rw [e] at p; exact p.elim
      | some d =>
        rw [e] at p
        obtain ⟨v, hv, rv⟩ := r1.at e
        exact .inl ⟨a, vs, i, v, rfl, rfl, .of h1, hv, PR.val s p rv⟩
    · exact p.elim
  · exact p.elim
end
end VS
namespace VS
open PySem PySem.Spec L2
open PyProof.Rows hiding St

/-! ### tests -/
def PTt (G : Kt) (fx : Fx) (W : L2.WX) (σ : St) (Q : Bool → Hp → Prop) (F H : Hp) (fp : List Addr) : R En (Bool × En) → Prop
  | .ok (b, e) => ∀ F' H' fp', Sta G fx e F' σ H' fp' → Go F H fp F' H' fp' → Q b H'
  | .ex c fs e => ∀ cls d F' H' fp', Sta G fx e F' σ H' fp' → ExR G F' H' c fs cls d → Go F H fp F' H' fp' → W cls d σ H'
  | .no => False
def tT (G : Kt) (fx : Fx) (W : L2.WX) (f : En → R En (Bool × En)) : TT := fun σ H Q => ∃ env F fp, Sta G fx env F σ H fp ∧ PTt G fx W σ Q F H fp (f env)
theorem PTt.go {G : Kt} {fx : Fx} {W : L2.WX} {σ : St} {Q : Bool → Hp → Prop} {F H F1 H1 : Hp} {fp fp1 : List Addr} {r : R En (Bool × En)} (h : PTt G fx W σ Q F H fp r) (g : Go F H fp F1 H1 fp1) : PTt G fx W σ Q F1 H1 fp1 r := by
  cases r with
  | ok a =>
    obtain ⟨t, e⟩ := a
    intro F' H' fp' S g'
    exact h F' H' fp' S (g.trans g')
  | ex c fs e =>
    intro cls d F' H' fp' S x g'
    exact h cls d F' H' fp' S x (g.trans g')
  | no => exact h
abbrev VT (X : Cx) (fx : Fx) (W : L2.WX) (e : Expr) (f : En → R En (Bool × En)) : Prop := PT X e (tT (kt X) fx W f)
abbrev VW (X : Cx) (fx : Fx) (W : L2.WX) (e : Expr) (f : En → R En (Bool × En)) : Prop := PW X e (tT (kt X) fx W f)
def T.bl? : T → Option Bool
  | .s (.bl b) => some b
  | _ => none
def ofB (ga : En → R En T) : En → R En (Bool × En) := fun env => bnd (ga env) fun t => ofO t.bl? fun b => .ok (b, env)
def ofV (fa : En → R En (T × En)) : En → R En (Bool × En) := fun env => bnd (fa env) fun a => ofO a.1.bl? fun b => .ok (b, a.2)
section
variable {X : Cx} {fx : Fx} {W : L2.WX} {a b c : Expr} {pos : Pos}
theorem bl?_eq {t : T} {b : Bool} (h : t.bl? = some b) : t = .s (.bl b) := by
  cases t with
  | s d => cases d <;> first | (cases h; rfl) | cases h
  | _ => cases h
theorem PTt_B {G : Kt} {σ : St} {H : Hp} {Q : Bool → Hp → Prop} {ga : En → R En T} (h : tT G fx W (ofB ga) σ H Q) : tB G fx W ga σ H fun x H' => ∃ k, x = .bl k ∧ Q k H' := by
  obtain ⟨env, F, fp, S, P⟩ := h
  refine ⟨env, F, fp, S, ?_⟩
  unfold ofB at P
  cases ea : ga env with
  | no => rw [ea] at P; exact P
  | ex c fs e => rw [ea] at P; exact P
  | ok t =>
    rw [ea] at P
    cases eb : t.bl? with
    | none => simp only [bnd, eb, ofO] at P; exact P.elim
    | some k =>
      simp only [bnd, eb, ofO] at P
      have e := bl?_eq eb
      subst e
      intro v F' H' g b
      simp only [Bor, Rep] at b
      exact ⟨k, b, P F' H' fp (S.grow g) (g.go fp)⟩
theorem PTt_V {G : Kt} {σ : St} {H : Hp} {Q : Bool → Hp → Prop} {ga : En → R En (T × En)} (h : tT G fx W (ofV ga) σ H Q) : tV G fx W ga σ H fun x H' => ∃ k, x = .bl k ∧ Q k H' := by
  obtain ⟨env, F, fp, S, P⟩ := h
  refine ⟨env, F, fp, S, ?_⟩
  unfold ofV at P
  cases ea : ga env with
  | no => rw [ea] at P; exact P
  | ex c fs e => rw [ea] at P; exact P
  | ok t =>
    obtain ⟨t, e⟩ := t
    rw [ea] at P
    cases eb : t.bl? with
    | none => simp only [bnd, eb, ofO] at P; exact P.elim
    | some k =>
      simp only [bnd, eb, ofO] at P
      have e := bl?_eq eb
      subst e
      intro v F' H' fp' ft S' o nd off g
      simp only [Own, Rep] at o
      exact ⟨k, o.1, P F' H' fp' S' (g.less fun p hp => List.mem_append_left _ hp)⟩
/-- a value that is True or False (no comparison) -/
theorem vt_b {ga : En → R En T} (h : VB X fx W a ga) (he : ∀ whole, isTrue a X.env whole = (do let v ← whole; standAt a.pos; holding [v] (truthy v)) := by intro _; rfl) : VT X fx W a (ofB ga) := PT.imp (pt_val h he) fun σ H Q q => PTt_B q
theorem vt_v {fa : En → R En (T × En)} (h : VE X fx W a fa) (he : ∀ whole, isTrue a X.env whole = (do let v ← whole; standAt a.pos; holding [v] (truthy v)) := by intro _; rfl) : VT X fx W a (ofV fa) := PT.imp (pt_val h he) fun σ H Q q => PTt_V q
/-- a comparison -/
theorem vt_cmp {op : CmpOp} {r : R2} {g : T → T → Option T} {ga gb : En → R En T} (ho : OpR X (compareOp op) r) (p : Prim2 (kt X) r g) (ha : VB X fx W a ga) (hb : VB X fx W b gb) (hm : behindInMarks op b = false) : VT X fx W (.Compare a [op] [b] pos) (ofB (b2 g ga gb)) :=
  PT.imp (pt_cmpR ho ha hb hm) fun σ H Q h => BB2 (X := X) p (PTt_B h)
theorem vt_cmpE {op : CmpOp} {r : R2} {g : T → T → Option T} {fa fb : En → R En (T × En)} (ho : OpR X (compareOp op) r) (p : Prim2 (kt X) r g) (ha : VE X fx W a fa) (hb : VE X fx W b fb) (hm : behindInMarks op b = false) : VT X fx W (.Compare a [op] [b] pos) (ofV (e2 g fa fb)) :=
  PT.imp (pt_cmpR ho ha hb hm) fun σ H Q h => EV2 (X := X) p (PTt_V h)
/-- two comparisons in a chain -/
def b3 (g g' : T → T → Option T) (ga gb gc : En → R En T) : En → R En T := fun env => bnd (ga env) fun x => bnd (gb env) fun y => ofO (g x y) fun z => ofO z.bl? fun k => if k then bnd (gc env) fun w => ofO (g' y w) .ok else .ok (.s (.bl false))
theorem tB_chain {r r' : R2} {g g' : T → T → Option T} {ga gb gc : En → R En T} {σ : St} {H : Hp} {Q : VK} (p : Prim2 (kt X) r g) (p' : Prim2 (kt X) r' g') (h : tB (kt X) fx W (b3 g g' ga gb gc) σ H Q) :
    tChain r r' (tB (kt X) fx W ga) (tB (kt X) fx W gb) (tB (kt X) fx W gc) σ H Q := by
  obtain ⟨env, F, fp, S, P⟩ := h
  refine ⟨env, F, fp, S, ?_⟩
  unfold b3 at P
  cases ea : ga env with
  | no => rw [ea] at P; exact P
  | ex c fs e => rw [ea] at P; exact P
  | ok tx =>
    rw [ea] at P
    intro x F1 H1 g1 bx
    have S1 := S.grow g1
    refine ⟨env, F1, fp, S1, ?_⟩
    cases eb : gb env with
    | no => simp only [bnd, eb] at P; exact P
    | ex c fs e =>
      simp only [bnd, eb] at P
      exact fun cls d F' H' fp' S' x g => P cls d F' H' fp' S' x ((g1.go fp).trans g)
    | ok ty =>
      simp only [bnd, eb] at P
      intro y F2 H2 g2 bY
      have bx2 := bx.mono g2.f g2.h
      refine p tx ty x y F2 H2 _ g2.sub bx2 bY ?_
      cases eg : g tx ty with
      | none => rw [eg] at P; exact P
      | some t =>
        rw [eg] at P
        simp only [ofO] at P
        cases et : t.bl? with
        | none => rw [et] at P; exact P.elim
        | some k =>
          rw [et] at P
          have e := bl?_eq et
          subst e
          intro v F3 H3 ft g3 o nd off
          simp only [Own, Rep] at o
          obtain ⟨rfl, rfl⟩ := o
          have g123 := (g1.trans g2).trans g3
          refine ⟨k, rfl, ?_⟩
          cases k with
          | false => exact iteF (P _ F3 H3 g123 (by simp only [Bor, Rep]))
          | true =>
            refine iteT ⟨env, F3, fp, S.grow g123, ?_⟩
            simp only [if_true] at P
            cases ec : gc env with
            | no => rw [ec] at P; exact P
            | ex c fs e =>
              rw [ec] at P
              exact fun cls d F' H' fp' S' x g => P cls d F' H' fp' S' x ((g123.go fp).trans g)
            | ok tw =>
              rw [ec] at P
              intro w F4 H4 g4 bw
              refine p' ty tw y w F4 H4 _ g4.sub (bY.mono (g3.trans g4).f (g3.trans g4).h) bw ?_
              cases eh : g' ty tw with
              | none => simp only [bnd, eh] at P; exact P
              | some t =>
                simp only [bnd, eh, ofO] at P
                exact fun v F5 H5 ft g5 o _ _ => P v F5 H5 (g123.trans (g4.trans g5)) o.bor
theorem vb_chain {op op' : CmpOp} {r r' : R2} {g g' : T → T → Option T} {ga gb gc : En → R En T} (ho : OpR X (compareOp op) r) (p : Prim2 (kt X) r g) (ho' : OpR X (compareOp op') r') (p' : Prim2 (kt X) r' g')
    (ha : VB X fx W a ga) (hb : VB X fx W b gb) (hc : VB X fx W c gc) (hm : lastMarks [op, op'] [b, c] = false := by with_unfolding_all rfl) : VB X fx W (.Compare a [op, op'] [b, c] pos) (b3 g g' ga gb gc) :=
  PE.imp (pe_chain ho ho' ha hb hc hm) fun σ H Q h => tB_chain p p' h
theorem vt_chain {op op' : CmpOp} {r r' : R2} {g g' : T → T → Option T} {ga gb gc : En → R En T} (ho : OpR X (compareOp op) r) (p : Prim2 (kt X) r g) (ho' : OpR X (compareOp op') r') (p' : Prim2 (kt X) r' g')
    (ha : VB X fx W a ga) (hb : VB X fx W b gb) (hc : VB X fx W c gc) (hm : lastMarks [op, op'] [b, c] = false := by with_unfolding_all rfl) : VT X fx W (.Compare a [op, op'] [b, c] pos) (ofB (b3 g g' ga gb gc)) :=
  PT.imp (pt_chain ho ho' ha hb hc hm) fun σ H Q h => tB_chain p p' (PTt_B h)
/-- truth of a value -/
def tru : T → Option Bool
  | .s .non => some false
  | .s (.bl b) => some b
  | .s (.int i) => some (i != 0)
  | .s (.str x) => if x.length ≤ sizeLine then some ((x.length : Int) != 0) else none
  | .s (.lst ds) => some (!ds.isEmpty)
  | .s (.tup ds) => some (!ds.isEmpty)
  | .l ts => some (!ts.isEmpty)
  | .dk kvs => some (!kvs.isEmpty)
  | _ => none
theorem isEmpty_len {α β : Type} {xs : List α} {ys : List β} (h : xs.length = ys.length) : xs.isEmpty = ys.isEmpty := by
  cases xs <;> cases ys <;> first | rfl | (simp at h)
theorem BorK.len {G : Kt} {F H : Hp} : ∀ {ds : List (Key × T)} {vs : List (Key × V)}, BorK G F H ds vs → vs.length = ds.length
  | [], vs, h => by simp only [BorK] at h; rw [h]; rfl
  | (_, d) :: ds, vs, h => by
    simp only [BorK] at h
    obtain ⟨v, r, rfl, h1, h2⟩ := h
    simp [BorK.len h2]
theorem tru_is {G : Kt} {F H : Hp} {t : T} {x : V} {k : Bool} (s : Same F H) (b : Bor G F H t x) (h : tru t = some k) : TruV G.K x H k := by
  unfold tru at h
  split at h
  · cases h; simp only [Bor, Rep] at b; subst b; rfl
  · cases h; simp only [Bor, Rep] at b; subst b; rfl
  · cases h; simp only [Bor, Rep] at b; subst b; rfl
  · simp only [Bor, Rep] at b; subst b
    split at h
    · cases h; exact ⟨by assumption, rfl⟩
    · cases h
  · cases h
    obtain ⟨a, vs, rfl, h1, r⟩ := ls_rep s b rfl
    exact .inl ⟨vs, .of h1, by rw [isEmpty_len r.len]⟩
  · cases h
    obtain ⟨a, vs, rfl, h1, r⟩ := tp_rep s b rfl
    exact .inr (.inl ⟨vs, h1.sq, by rw [isEmpty_len r.len]⟩)
  · cases h
    simp only [Bor] at b
    obtain ⟨p, vs, rfl, h1, r⟩ := b
    exact .inl ⟨vs, .of h1, by rw [isEmpty_len r.len]⟩
  · cases h
    simp only [Bor] at b
    obtain ⟨p, vs, rfl, h1, r⟩ := b
    exact .inr (.inr ⟨vs, h1, by rw [isEmpty_len r.len]⟩)
  · cases h
def ofTr (ga : En → R En T) : En → R En (Bool × En) := fun env => bnd (ga env) fun t => ofO (tru t) fun b => .ok (b, env)
theorem vt_truth {ga : En → R En T} (h : VB X fx W a ga) (he : ∀ whole, isTrue a X.env whole = (do let v ← whole; standAt a.pos; holding [v] (truthy v)) := by intro _; rfl) : VT X fx W a (ofTr ga) := PT.imp (pt_truth h he) fun σ H Q q => by
  obtain ⟨env, F, fp, S, P⟩ := q
  refine ⟨env, F, fp, S, ?_⟩
  unfold ofTr at P
  cases ea : ga env with
  | no => rw [ea] at P; exact P
  | ex c fs e => rw [ea] at P; exact P
  | ok t =>
    rw [ea] at P
    cases eb : tru t with
    | none => simp only [bnd, eb, ofO] at P; exact P.elim
    | some k =>
      simp only [bnd, eb, ofO] at P
      intro v F' H' g b
      exact ⟨k, tru_is g.sub b eb, P F' H' fp (S.grow g) (g.go fp)⟩
/-- and, or, not -/
def andT (f g : En → R En (Bool × En)) : En → R En (Bool × En) := fun env => bnd (f env) fun a => if a.1 then g a.2 else .ok (false, a.2)
def orT (f g : En → R En (Bool × En)) : En → R En (Bool × En) := fun env => bnd (f env) fun a => if a.1 then .ok (true, a.2) else g a.2
def notT (f : En → R En (Bool × En)) : En → R En (Bool × En) := fun env => bnd (f env) fun a => .ok (!a.1, a.2)
theorem tT_then {G : Kt} {σ : St} {H : Hp} {Q : Bool → Hp → Prop} {K : Bool → Hp → Prop} {f : En → R En (Bool × En)} {k : Bool → En → R En (Bool × En)}
    (hk : ∀ b env F H fp, Sta G fx env F σ H fp → PTt G fx W σ Q F H fp (k b env) → K b H) (h : tT G fx W (fun env => bnd (f env) fun a => k a.1 a.2) σ H Q) : tT G fx W f σ H K := by
  obtain ⟨env, F, fp, S, P⟩ := h
  dsimp only at P
  refine ⟨env, F, fp, S, ?_⟩
  cases ea : f env with
  | no => rw [ea] at P; exact P
  | ex c fs e => rw [ea] at P; exact P
  | ok a =>
    obtain ⟨b, e⟩ := a
    rw [ea] at P
    intro F' H' fp' S' g
    exact hk b e F' H' fp' S' (PTt.go (r := k b e) P g)
theorem vw_and1 {f : En → R En (Bool × En)} (h : VT X fx W a f) : VW X fx W (.BoolOp .And [a] pos) f := pw_and1 h
theorem vw_or1 {f : En → R En (Bool × En)} (h : VT X fx W a f) : VW X fx W (.BoolOp .Or [a] pos) f := pw_or1 h
theorem PW.imp {e : Expr} {t t' : TT} (h : PW X e t) (k : ∀ σ H Q, t' σ H Q → t σ H Q) : PW X e t' := ⟨fun whole pins s σ H Q I q => h.run whole pins s σ H Q I (k σ H Q q)⟩
theorem vw_and {rest : List Expr} {f g : En → R En (Bool × En)} (ha : VT X fx W a f) (hb : VW X fx W (.BoolOp .And (b :: rest) pos) g) : VW X fx W (.BoolOp .And (a :: b :: rest) pos) (andT f g) := PW.imp (pw_and ha hb) fun σ H Q h =>
  tT_then (k := fun b e => if b then g e else .ok (false, e)) (fun k env F H fp S P => by
    cases k with
    | true => exact iteT ⟨env, F, fp, S, P⟩
    | false => exact iteF (P F H fp S .refl)) h
theorem vw_or {rest : List Expr} {f g : En → R En (Bool × En)} (ha : VT X fx W a f) (hb : VW X fx W (.BoolOp .Or (b :: rest) pos) g) : VW X fx W (.BoolOp .Or (a :: b :: rest) pos) (orT f g) := PW.imp (pw_or ha hb) fun σ H Q h =>
  tT_then (k := fun b e => if b then .ok (true, e) else g e) (fun k env F H fp S P => by
    cases k with
    | false => exact iteF ⟨env, F, fp, S, P⟩
    | true => exact iteT (P F H fp S .refl)) h
theorem vw_pt {f : En → R En (Bool × En)} (h : VW X fx W a f) : VT X fx W a f := PW.pt h
theorem vt_not {f : En → R En (Bool × En)} (h : VT X fx W a f) : VT X fx W (.UnaryOp .Not a pos) (notT f) := PT.imp (pt_not h) fun σ H Q q =>
  tT_then (k := fun b e => .ok (!b, e)) (fun k env F H fp S P => P F H fp S .refl) q
/-- as values: and, or (all but the last True or False), not, a if t else b -/
def andV (f g : En → R En (T × En)) : En → R En (T × En) := fun env => bnd (f env) fun a => ofO a.1.bl? fun k => if k then g a.2 else .ok (.s (.bl false), a.2)
def orV (f g : En → R En (T × En)) : En → R En (T × En) := fun env => bnd (f env) fun a => ofO a.1.bl? fun k => if k then .ok (.s (.bl true), a.2) else g a.2
def notV (f : En → R En (T × En)) : En → R En (T × En) := fun env => bnd (f env) fun a => ofO a.1.bl? fun k => .ok (.s (.bl !k), a.2)
def ifV (c : En → R En (Bool × En)) (f g : En → R En (T × En)) : En → R En (T × En) := fun env => bnd (c env) fun a => if a.1 then f a.2 else g a.2
theorem tV_bl {G : Kt} {σ : St} {H : Hp} {Q : VK} {K : V → Hp → Prop} {f : En → R En (T × En)} {k : Bool → En → R En (T × En)}
    (hk : ∀ b env F H fp, Sta G fx env F σ H fp → PV G fx W σ Q F H fp (k b env) → K (.bl b) H) (h : tV G fx W (fun env => bnd (f env) fun a => ofO a.1.bl? fun b => k b a.2) σ H Q) : tV G fx W f σ H K := by
  refine tV_one (k := fun t e => ofO t.bl? fun b => k b e) (fun tx env F H fp x f1 S o nd off P => ?_) h
  cases eb : tx.bl? with
  | none => rw [eb] at P; exact P.elim
  | some b =>
    rw [eb] at P
    have e := bl?_eq eb
    subst e
    simp only [Own, Rep] at o
    obtain ⟨rfl, rfl⟩ := o
    rw [List.append_nil] at P
    exact hk b env F H fp S P
theorem PV.bl {G : Kt} {σ : St} {Q : VK} {env : En} {F H : Hp} {fp : List Addr} {b : Bool} (S : Sta G fx env F σ H fp) (P : PV G fx W σ Q F H fp (.ok (.s (.bl b), env))) : Q (.bl b) H :=
  PV.res (ft := []) S P (fun _ h => h) (.refl S.sub) ⟨by simp only [Rep], rfl⟩ List.nodup_nil (by simp)
theorem ve_one {op : BoolOp} {f : En → R En (T × En)} (h : VE X fx W a f) : VE X fx W (.BoolOp op [a] pos) f := pe_one h
theorem ve_and {rest : List Expr} {f g : En → R En (T × En)} (ha : VE X fx W a f) (hb : VE X fx W (.BoolOp .And (b :: rest) pos) g) : VE X fx W (.BoolOp .And (a :: b :: rest) pos) (andV f g) := PE.imp (pe_and ha hb) fun σ H Q h =>
  tV_bl (k := fun k e => if k then g e else .ok (.s (.bl false), e)) (fun k env F H fp S P => ⟨k, rfl, by
    cases k with
    | true => exact iteT ⟨env, F, fp, S, P⟩
    | false => exact iteF (PV.bl S P)⟩) h
theorem ve_or {rest : List Expr} {f g : En → R En (T × En)} (ha : VE X fx W a f) (hb : VE X fx W (.BoolOp .Or (b :: rest) pos) g) : VE X fx W (.BoolOp .Or (a :: b :: rest) pos) (orV f g) := PE.imp (pe_or ha hb) fun σ H Q h =>
  tV_bl (k := fun k e => if k then .ok (.s (.bl true), e) else g e) (fun k env F H fp S P => ⟨k, rfl, by
    cases k with
    | false => exact iteF ⟨env, F, fp, S, P⟩
    | true => exact iteT (PV.bl S P)⟩) h
theorem ve_not {f : En → R En (T × En)} (h : VE X fx W a f) : VE X fx W (.UnaryOp .Not a pos) (notV f) := PE.imp (pe_not h) fun σ H Q q =>
  tV_bl (k := fun b e => .ok (.s (.bl !b), e)) (fun k env F H fp S P => ⟨k, rfl, PV.bl S P⟩) q
theorem tT_V {G : Kt} {σ : St} {H : Hp} {Q : VK} {K : Bool → Hp → Prop} {f : En → R En (Bool × En)} {k : Bool → En → R En (T × En)}
    (hk : ∀ b env F H fp, Sta G fx env F σ H fp → PV G fx W σ Q F H fp (k b env) → K b H) (h : tV G fx W (fun env => bnd (f env) fun a => k a.1 a.2) σ H Q) : tT G fx W f σ H K := by
  obtain ⟨env, F, fp, S, P⟩ := h
  dsimp only at P
  refine ⟨env, F, fp, S, ?_⟩
  cases ea : f env with
  | no => rw [ea] at P; exact P
  | ex c fs e => rw [ea] at P; exact P
  | ok a =>
    obtain ⟨b, e⟩ := a
    rw [ea] at P
    intro F' H' fp' S' g
    exact hk b e F' H' fp' S' (PV.go (r := k b e) P g)
theorem ve_if {c : Expr} {t : En → R En (Bool × En)} {f g : En → R En (T × En)} (hc : VT X fx W c t) (ha : VE X fx W a f) (hb : VE X fx W b g) : VE X fx W (.IfExp c a b pos) (ifV t f g) := PE.imp (pe_ifExp hc ha hb) fun σ H Q h =>
  tT_V (k := fun k e => if k then f e else g e) (fun k env F H fp S P => by
    cases k with
    | true => exact iteT ⟨env, F, fp, S, P⟩
    | false => exact iteF ⟨env, F, fp, S, P⟩) h
end
end VS
namespace VS
open PySem PySem.Spec L2
open PyProof.Rows hiding St

/-! ### statements -/
inductive Fl where
  | nx | bk | ct | rt (t : T)
def PSt (G : Kt) (fx : Fx) (W : L2.WX) (D : Ends) (F H : Hp) (fp : List Addr) : R En (Fl × En) → Prop
  | .ok (.nx, e) => ∀ σ' F' H' fp', Sta G fx e F' σ' H' fp' → Go F H fp F' H' fp' → D.nx σ' H'
  | .ok (.bk, e) => ∀ σ' F' H' fp', Sta G fx e F' σ' H' fp' → Go F H fp F' H' fp' → D.bk σ' H'
  | .ok (.ct, e) => ∀ σ' F' H' fp', Sta G fx e F' σ' H' fp' → Go F H fp F' H' fp' → D.ct σ' H'
  | .ok (.rt t, e) => ∀ v σ' F' H' fp' ft, Sta G fx e F' σ' H' fp' → Own G F' H' t v ft → (fp' ++ ft).Nodup → (∀ p ∈ ft, F' p = none) → Go F H fp F' H' (fp' ++ ft) → D.rt v H'
  | .ex c fs e => ∀ cls d σ' F' H' fp', Sta G fx e F' σ' H' fp' → ExR G F' H' c fs cls d → Go F H fp F' H' fp' → W cls d σ' H'
  | .no => False
def tS (G : Kt) (fx : Fx) (W : L2.WX) (f : En → R En (Fl × En)) : TS := fun D σ H => ∃ env F fp, Sta G fx env F σ H fp ∧ PSt G fx W D F H fp (f env)
abbrev VS1 (X : Cx) (fx : Fx) (W : L2.WX) (st : Stmt) (f : En → R En (Fl × En)) : Prop := PS X st (tS (kt X) fx W f)
abbrev VSs (X : Cx) (fx : Fx) (W : L2.WX) (st : List Stmt) (f : En → R En (Fl × En)) : Prop := PSs X st (tS (kt X) fx W f)
section
variable {G : Kt} {fx : Fx} {W : L2.WX}
theorem PSt.go {D : Ends} {F H F1 H1 : Hp} {fp fp1 : List Addr} {r : R En (Fl × En)} (h : PSt G fx W D F H fp r) (g : Go F H fp F1 H1 fp1) : PSt G fx W D F1 H1 fp1 r := by
  cases r with
  | ok a =>
    obtain ⟨t, e⟩ := a
    cases t with
    | nx => exact fun σ' F' H' fp' S g' => h σ' F' H' fp' S (g.trans g')
    | bk => exact fun σ' F' H' fp' S g' => h σ' F' H' fp' S (g.trans g')
    | ct => exact fun σ' F' H' fp' S g' => h σ' F' H' fp' S (g.trans g')
    | rt t => exact fun v σ' F' H' fp' ft S o nd off g' => h v σ' F' H' fp' ft S o nd off (g.trans g')
  | ex c fs e => exact fun cls d σ' F' H' fp' S x g' => h cls d σ' F' H' fp' S x (g.trans g')
  | no => exact h
/-- an expression, then the rest of the statement -/
theorem tV_S {D : Ends} {σ : St} {H : Hp} {f : En → R En (T × En)} {k : T → En → R En (Fl × En)} {K : V → Hp → Prop}
    (hk : ∀ t env F H fp v ft, Sta G fx env F σ H fp → Own G F H t v ft → (fp ++ ft).Nodup → (∀ p ∈ ft, F p = none) → PSt G fx W D F H (fp ++ ft) (k t env) → K v H)
    (h : tS G fx W (fun env => bnd (f env) fun a => k a.1 a.2) D σ H) : tV G fx W f σ H K := by
  obtain ⟨env, F, fp, S, P⟩ := h
  dsimp only at P
  refine ⟨env, F, fp, S, ?_⟩
  cases ea : f env with
  | no => rw [ea] at P; exact P
  | ex c fs e => rw [ea] at P; exact fun cls d F' H' fp' S' x g => P cls d σ F' H' fp' S' x g
  | ok a =>
    obtain ⟨t, e⟩ := a
    rw [ea] at P
    intro v F' H' fp' ft S' o nd off g
    exact hk t e F' H' fp' v ft S' o nd off (PSt.go (r := k t e) P g)
theorem tT_S {D : Ends} {σ : St} {H : Hp} {f : En → R En (Bool × En)} {k : Bool → En → R En (Fl × En)} {K : Bool → Hp → Prop}
    (hk : ∀ t env F H fp, Sta G fx env F σ H fp → PSt G fx W D F H fp (k t env) → K t H)
    (h : tS G fx W (fun env => bnd (f env) fun a => k a.1 a.2) D σ H) : tT G fx W f σ H K := by
  obtain ⟨env, F, fp, S, P⟩ := h
  dsimp only at P
  refine ⟨env, F, fp, S, ?_⟩
  cases ea : f env with
  | no => rw [ea] at P; exact P
  | ex c fs e => rw [ea] at P; exact fun cls d F' H' fp' S' x g => P cls d σ F' H' fp' S' x g
  | ok a =>
    obtain ⟨t, e⟩ := a
    rw [ea] at P
    intro F' H' fp' S' g
    exact hk t e F' H' fp' S' (PSt.go (r := k t e) P g)
end
def skS : En → R En (Fl × En) := fun env => .ok (.nx, env)
def sq (f g : En → R En (Fl × En)) : En → R En (Fl × En) := fun env => bnd (f env) fun a => match a.1 with
  | .nx => g a.2
  | fl => .ok (fl, a.2)
def ifS (c : En → R En (Bool × En)) (f g : En → R En (Fl × En)) : En → R En (Fl × En) := fun env => bnd (c env) fun a => if a.1 then f a.2 else g a.2
def rtS (f : En → R En (T × En)) : En → R En (Fl × En) := fun env => bnd (f env) fun a => .ok (.rt a.1, a.2)
def rnS : En → R En (Fl × En) := fun env => .ok (.rt (.s .non), env)
def dropS (f : En → R En (T × En)) : En → R En (Fl × En) := fun env => bnd (f env) fun a => .ok (.nx, a.2)
def bkS : En → R En (Fl × En) := fun env => .ok (.bk, env)
def ctS : En → R En (Fl × En) := fun env => .ok (.ct, env)
section
variable {X : Cx} {fx : Fx} {W : L2.WX} {pos : Pos}
theorem vss_nil : VSs X fx W [] skS := PSs.imp pss_nil fun D σ H h => by
  obtain ⟨env, F, fp, S, P⟩ := h
  exact P σ F H fp S .refl
theorem tSeq_of {f g : En → R En (Fl × En)} {D : Ends} {σ : St} {H : Hp} (h : tS (kt X) fx W (sq f g) D σ H) : tSeq (tS (kt X) fx W f) (tS (kt X) fx W g) D σ H := by
  obtain ⟨env, F, fp, S, P⟩ := h
  refine ⟨env, F, fp, S, ?_⟩
  unfold sq at P
  cases ea : f env with
  | no => rw [ea] at P; exact P
  | ex c fs e => rw [ea] at P; exact P
  | ok a =>
    obtain ⟨t, e⟩ := a
    rw [ea] at P
    cases t with
    | nx => exact fun σ' F' H' fp' S' g' => ⟨e, F', fp', S', PSt.go (r := g e) P g'⟩
    | bk => exact P
    | ct => exact P
    | rt t => exact P
theorem vss_cons {st : Stmt} {rest : List Stmt} {f g : En → R En (Fl × En)} (h1 : VS1 X fx W st f) (h2 : VSs X fx W rest g) : VSs X fx W (st :: rest) (sq f g) := PSs.imp (pss_cons h1 h2) fun D σ H h => tSeq_of h
theorem vss_one {st : Stmt} {f : En → R En (Fl × En)} (h1 : VS1 X fx W st f) : VSs X fx W [st] f := pss_one h1
theorem vs_pass : VS1 X fx W (.Pass pos) skS := PS.imp ps_pass fun D σ H h => by
  obtain ⟨env, F, fp, S, P⟩ := h
  exact P σ F H fp S .refl
theorem vs_break : VS1 X fx W (.Break pos) bkS := PS.imp ps_break fun D σ H h => by
  obtain ⟨env, F, fp, S, P⟩ := h
  exact P σ F H fp S .refl
theorem vs_continue : VS1 X fx W (.Continue pos) ctS := PS.imp ps_continue fun D σ H h => by
  obtain ⟨env, F, fp, S, P⟩ := h
  exact P σ F H fp S .refl
theorem vs_expr {e : Expr} {f : En → R En (T × En)} (he : VE X fx W e f) (hs : swapsWith e none pos.line X.env = pure false := by rfl) : VS1 X fx W (.Expr e pos) (dropS f) := PS.imp (ps_expr he hs) fun D σ H h =>
  tV_S (k := fun _ e => .ok (.nx, e)) (fun t env F H fp v ft S o nd off P => P σ F H fp S (Go.refl.less fun p hp => List.mem_append_left _ hp)) h
theorem vs_ret {e : Expr} {f : En → R En (T × En)} (he : VE X fx W e f) : VS1 X fx W (.Return (some e) pos) (rtS f) := PS.imp (ps_ret he) fun D σ H h =>
  tV_S (k := fun t e => .ok (.rt t, e)) (fun t env F H fp v ft S o nd off P => P v σ F H fp ft S o nd off .refl) h
theorem vs_retN : VS1 X fx W (.Return none pos) rnS := PS.imp ps_retN fun D σ H h => by
  obtain ⟨env, F, fp, S, P⟩ := h
  exact P .non σ F H fp [] S ⟨by simp only [Rep], rfl⟩ (by simpa using S.nd) (by simp) (by rw [List.append_nil]; exact .refl)
theorem vs_if {c : Expr} {a b : List Stmt} {t : En → R En (Bool × En)} {f g : En → R En (Fl × En)} (hc : VT X fx W c t) (ha : VSs X fx W a f) (hb : VSs X fx W b g) : VS1 X fx W (.If c a b pos) (ifS t f g) := PS.imp (ps_if hc ha hb) fun D σ H h =>
  tT_S (k := fun k e => if k then f e else g e) (fun k env F H fp S P => by
    cases k with
    | true => exact iteT ⟨env, F, fp, S, P⟩
    | false => exact iteF ⟨env, F, fp, S, P⟩) h

/-! ### stores -/
/-- a value comes into slot i -/
def stS (i : Nat) (t : T) (env : En) : Option En := if i < env.length then some (env.set i (some t)) else none
theorem Sta.store {G : Kt} {i : Nat} {env env' : En} {F H : Hp} {σ : St} {fp ft : List Addr} {t : T} {v : V} (S : Sta G fx env F σ H fp) (o : Own G F H t v ft) (nd : (fp ++ ft).Nodup) (off : ∀ p ∈ ft, F p = none) (hi : ∀ q ∈ fx, q.1 ≠ i) (h : stS i t env = some env') :
    ∃ fp', Sta G fx env' F (σ.set i (some v)) H fp' ∧ ∀ p ∈ fp', p ∈ fp ++ ft := by
  unfold stS at h
  split at h
  · rename_i hl
    cases h
    obtain ⟨a, b, c, s, rfl, hs, _, k⟩ := S.own.split (List.getElem?_eq_getElem hl)
    refine ⟨a ++ (ft ++ c), ⟨k F H (some t) (some v) ft (.refl _) (fun _ _ _ e => e) ⟨v, rfl, o⟩, ?_, fun p hp => ?_, S.sub, fun q hq => ?_, S.pin⟩, fun p hp => ?_⟩
    · have h1 : ((a ++ (b ++ c)) ++ ft).Perm (b ++ (a ++ (ft ++ c))) := by
        refine (List.append_assoc a (b ++ c) ft) ▸ ?_
        rw [List.append_assoc]
        have e1 : (a ++ (b ++ (c ++ ft))).Perm (b ++ (a ++ (c ++ ft))) := by
          have e1 := (List.perm_append_comm (l₁ := a) (l₂ := b)).append_right (c ++ ft)
          simpa only [List.append_assoc] using e1
        exact e1.trans ((List.perm_append_comm.append_left a).append_left b)
      exact (List.nodup_append.mp (h1.nodup_iff.mp nd)).2.1
    · simp only [List.mem_append] at hp
      rcases hp with z | z | z
      · exact S.off p (by simp [z])
      · exact off p z
      · exact S.off p (by simp [z])
    · rw [List.getElem?_set_ne (fun e => hi q hq e.symm)]
      exact S.fix q hq
    · simp only [List.mem_append] at hp ⊢
      rcases hp with z | z | z
      · exact .inl (.inl z)
      · exact .inr z
      · exact .inl (.inr (.inr z))
  · cases h
def setS (i : Nat) (f : En → R En (T × En)) : En → R En (Fl × En) := fun env => bnd (f env) fun a => ofO (stS i a.1 a.2) fun e => .ok (.nx, e)
theorem set_end {D : Ends} {σ : St} {i : Nat} {t : T} {env : En} {F H : Hp} {fp ft : List Addr} {v : V} {G : Kt} (S : Sta G fx env F σ H fp) (o : Own G F H t v ft) (nd : (fp ++ ft).Nodup) (off : ∀ p ∈ ft, F p = none) (hi : ∀ q ∈ fx, q.1 ≠ i)
    (P : PSt G fx W D F H (fp ++ ft) (ofO (stS i t env) fun e => .ok (.nx, e))) : D.nx (σ.set i (some v)) H := by
  cases e : stS i t env with
  | none => rw [e] at P; exact P.elim
  | some env' =>
    rw [e] at P
    obtain ⟨fp', S', sub⟩ := S.store o nd off hi e
    exact P _ F H fp' S' (Go.refl.less sub)
theorem vs_set {i : Nat} {x : Str} {e : Expr} {f : En → R En (T × En)} {pos' : Pos} (hN : X.N.Nodup) (hi : X.N[i]? = some x) (hx : Loc X.env.scope x) (hf : X.fn x = true ∨ X.env.scope.names.lookup x = some .local) (hq : ∀ q ∈ fx, q.1 ≠ i) (he : VE X fx W e f)
    (hs : swapsWith e (some (.Name x pos')) pos.line X.env = pure false := by rfl) : VS1 X fx W (.Assign [.Name x pos'] e pos) (setS i f) := PS.imp (ps_set hN hi hx he hs hf) fun D σ H h =>
  tV_S (k := fun t e => ofO (stS i t e) fun e => .ok (.nx, e)) (fun t env F H fp v ft S o nd off P => set_end S o nd off hq P) h
/-- x op= e, x a name of shared data -/
def augS (i : Nat) (g : T → T → Option T) (f : En → R En (T × En)) : En → R En (Fl × En) := fun env => match env[i]? with
  | some (some (.s d)) => bnd (f env) fun a => ofO (g (.s d) a.1) fun t => ofO (stS i t a.2) fun e => .ok (.nx, e)
  | _ => .no
theorem vs_aug {i : Nat} {x : Str} {e : Expr} {op : Operator} {r : R2} {g : T → T → Option T} {f : En → R En (T × En)} {pos' : Pos} (hN : X.N.Nodup) (hi : X.N[i]? = some x) (hx : Loc X.env.scope x) (hf : X.fn x = true ∨ X.env.scope.names.lookup x = some .local) (hq : ∀ q ∈ fx, q.1 ≠ i)
    (ho : OpR X (inplaceOp op) r) (p : Prim2 (kt X) r g) (he : VE X fx W e f) : VS1 X fx W (.AugAssign (.Name x pos') op e pos) (augS i g f) := PS.imp (ps_aug hN hi hx he (fun pins s σ H x y v u Q I r1 r2 h => ho pins s σ H x y v u Q I r1 r2 h) hf) fun D σ H h => by
  obtain ⟨env, F, fp, S, P⟩ := h
  unfold augS at P
  split at P
  · rename_i d ed
    obtain ⟨a, b, c, s, _, hs, o, _⟩ := S.own.split ed
    obtain ⟨v, rfl, o⟩ := o
    simp only [Own] at o
    refine ⟨v, hs, ?_⟩
    refine ⟨env, F, fp, S, ?_⟩
    cases ea : f env with
    | no => rw [ea] at P; exact P
    | ex c fs e => rw [ea] at P; exact fun cls d F' H' fp' S' x g => P cls d σ F' H' fp' S' x g
    | ok a =>
      obtain ⟨t, e⟩ := a
      rw [ea] at P
      intro u F1 H1 fp1 ft S1 o1 nd off g1
      refine p (.s d) t v u F1 H1 _ S1.sub (by simp only [Bor]; exact o.1.mono g1.f) o1.bor ?_
      cases eg : g (.s d) t with
      | none => simp only [bnd, eg, ofO] at P; exact P.elim
      | some t' =>
        simp only [bnd, eg, ofO] at P
        intro z F2 H2 ft2 g2 o2 nd2 off2
        refine set_end (W := W) (fp := fp1) (ft := ft2) (t := t') (S1.grow g2) o2 ?_ (fun p hp => (off2 p hp).1) hq (P.go (g1.trans (((g2.goNew fp1 ft2 fun p hp => (off2 p hp).2)).more fun p hp => List.mem_append_left _ hp)))
        refine List.nodup_append.mpr ⟨S1.nd, nd2, fun a ha b hb e => ?_⟩
        subst e
        exact S1.is ha (off2 a hb).2
  · exact P.elim

/-! ### targets of shared values -/
abbrev GTg := T → En → Option En
def tG (G : Kt) (fx : Fx) (sl : List Nat) (g : GTg) : TG := fun v σ H Q => ∃ t env env' F fp ft, Sta G fx env F σ H fp ∧ Own G F H t v ft ∧ (fp ++ ft).Nodup ∧ (∀ p ∈ ft, F p = none) ∧ g t env = some env' ∧
  ∀ (σ' : L2.St) fp', Sta G fx env' F σ' H fp' → (∀ p ∈ fp', p ∈ fp ++ ft) → (∀ j : Nat, j ∉ sl → σ'[j]? = σ[j]?) → σ'.length = σ.length → Q σ' H
abbrev VG (X : Cx) (fx : Fx) (tg : Expr) (sl : List Nat) (g : GTg) : Prop := PG X tg (tG (kt X) fx sl g)
theorem PG.imp {e : Expr} {t t' : TG} (h : PG X e t) (k : ∀ v σ H Q, t' v σ H Q → t v σ H Q) : PG X e t' := ⟨fun pins s σ H v u Q I r q => h.run pins s σ H v u Q I r (k v σ H Q q)⟩
theorem vg_name {i : Nat} {x : Str} (hN : X.N.Nodup) (hi : X.N[i]? = some x) (hx : Loc X.env.scope x) (hf : X.fn x = true ∨ X.env.scope.names.lookup x = some .local) (hq : ∀ q ∈ fx, q.1 ≠ i) : VG X fx (.Name x pos) [i] (stS i) := PG.imp (pg_name hN hi hx hf) fun v σ H Q h => by
  obtain ⟨t, env, env', F, fp, ft, S, o, nd, off, e, q⟩ := h
  obtain ⟨fp', S', sub⟩ := S.store o nd off hq e
  exact q _ fp' S' sub (fun j hj => List.getElem?_set_ne fun e => hj (by simp [e])) (by simp)
/-- several targets, from the items of a tuple -/
abbrev GTs := List D → En → Option En
def gnil : GTs := fun ds env => match ds with
  | [] => some env
  | _ => none
def gcons (g : GTg) (gs : GTs) : GTs := fun ds env => match ds with
  | d :: ds => (g (.s d) env).bind (gs ds)
  | [] => none
def tGs' (G : Kt) (fx : Fx) (sl : List Nat) (g : GTs) : TGs := fun vs σ H Q => ∃ ds env env' F fp, Sta G fx env F σ H fp ∧ Reps G F ds vs ∧ g ds env = some env' ∧
  ∀ (σ' : L2.St) fp', Sta G fx env' F σ' H fp' → (∀ p ∈ fp', p ∈ fp) → (∀ j : Nat, j ∉ sl → σ'[j]? = σ[j]?) → σ'.length = σ.length → Q σ' H
abbrev VGs (X : Cx) (fx : Fx) (tg : List Expr) (sl : List Nat) (g : GTs) : Prop := PGs X tg (tGs' (kt X) fx sl g)
theorem PGs.imp {e : List Expr} {t t' : TGs} (h : PGs X e t) (k : ∀ v σ H Q, t' v σ H Q → t v σ H Q) : PGs X e t' := ⟨fun pins s σ H v u Q I r q => h.run pins s σ H v u Q I r (k v σ H Q q)⟩
theorem vgs_nil : VGs X fx [] [] gnil := PGs.imp pgs_nil fun vs σ H Q h => by
  obtain ⟨ds, env, env', F, fp, S, r, e, q⟩ := h
  cases ds with
  | nil =>
    cases e
    simp only [Reps] at r
    exact ⟨r, q σ fp S (fun _ h => h) (fun _ _ => rfl) rfl⟩
  | cons _ _ => cases e
theorem vgs_cons {e : Expr} {es : List Expr} {s1 s2 : List Nat} {g : GTg} {gs : GTs} (h1 : VG X fx e s1 g) (h2 : VGs X fx es s2 gs) (hs : (assignEach (e :: es) X.env).map (·.2) = assign e X.env :: (assignEach es X.env).map (·.2) := by rfl) : VGs X fx (e :: es) (s1 ++ s2) (gcons g gs) := PGs.imp (pgs_cons h1 h2 hs) fun vs σ H Q h => by
  obtain ⟨ds, env, env', F, fp, S, r, e, q⟩ := h
  cases ds with
  | nil => cases e
  | cons d ds =>
    simp only [Reps] at r
    obtain ⟨v, rest, rfl, r1, r2⟩ := r
    simp only [gcons, Option.bind_eq_some_iff] at e
    obtain ⟨e1, h1, h2⟩ := e
    refine ⟨v, rest, rfl, .s d, env, e1, F, fp, [], S, ⟨r1, rfl⟩, by simpa using S.nd, by simp, h1, fun σ' fp' S' sub k1 l1 => ?_⟩
    exact ⟨ds, e1, env', F, fp', S', r2, h2, fun σ2 fp2 S2 sub2 k2 l2 => q σ2 fp2 S2 (fun p hp => by simpa using sub p (sub2 p hp)) (fun j hj => (k2 j fun z => hj (List.mem_append_right _ z)).trans (k1 j fun z => hj (List.mem_append_left _ z))) (l2.trans l1)⟩
def gtup (n : Nat) (g : GTs) : GTg := fun t env => match t with
  | .s (.tup ds) => if ds.length = n then g ds env else none
  | _ => none
theorem vg_tup {es : List Expr} {k : Nat} {sl : List Nat} {g : GTs} {n : Nat} (hc : X.calm = true) (h : VGs X fx es sl g)
    (hn : (assignEach es X.env).length = n := by rfl) (hst : (assignEach es X.env).findIdx? (·.1) = none := by rfl) : VG X fx (.Tuple es k pos) sl (gtup n g) := PG.imp (pg_tup hc h hn hst) fun v σ H Q h => by
  obtain ⟨t, env, env', F, fp, ft, S, o, nd, off, e, q⟩ := h
  unfold gtup at e
  split at e
  · rename_i ds
    split at e
    · rename_i hl
      have b := o.bor
      obtain ⟨a, vs, rfl, h1, r⟩ := tp_rep S.sub b rfl
      exact ⟨a, vs, rfl, h1.sq, by rw [r.len]; exact hl, ds, env, env', F, fp, S, r, e, fun σ' fp' S' sub k l => q σ' fp' S' (fun p hp => List.mem_append_left _ (sub p hp)) k l⟩
    · cases e
  · cases e
/-- target = value -/
def asgS (g : GTg) (f : En → R En (T × En)) : En → R En (Fl × En) := fun env => bnd (f env) fun a => ofO (g a.1 a.2) fun e => .ok (.nx, e)
theorem vs_asg {tg e : Expr} {f : En → R En (T × En)} {sl : List Nat} {g : GTg} (he : VE X fx W e f) (hg : VG X fx tg sl g) (hs : swapsWithSole [tg] e pos.line X.env = pure false := by rfl) (hw : swappedStores [tg] e X.env = pure none := by rfl)
    (h1 : (assignEach [tg] X.env).map (·.2) = [assign tg X.env] := by rfl) : VS1 X fx W (.Assign [tg] e pos) (asgS g f) := PS.imp (ps_asg he hg hs hw h1) fun D σ H h =>
  tV_S (k := fun t e => ofO (g t e) fun e => .ok (.nx, e)) (fun t env F H fp v ft S o nd off P => by
    cases e : g t env with
    | none => rw [e] at P; exact P.elim
    | some env' =>
      rw [e] at P
      exact ⟨t, env, env', F, fp, ft, S, o, nd, off, e, fun σ' fp' S' sub _ _ => P σ' F H fp' S' (Go.refl.less sub)⟩) h
end
end VS
namespace VS
open PySem PySem.Spec L2
open PyProof.Rows hiding St

/-! ### owned, from now on shared -/
mutual
theorem Own.fz {G : Kt} {F F' H : Hp} (s : Same F F') : ∀ (t : T) (v : V) (fp : List Addr), (∀ p ∈ fp, F' p = H p) → Own G F H t v fp → Rep G F' (er t) v
  | .s d, v, fp, k, h => by
    simp only [Own, er] at h ⊢
    exact h.1.mono s
  | .l xs, v, fp, k, h => by
    simp only [Own, er, Rep] at h ⊢
    obtain ⟨p, vs, f1, e, q, r, rfl⟩ := h
    exact ⟨p, vs, e, by rw [k p List.mem_cons_self]; exact q, Owns.fz s xs vs f1 (fun p hp => k p (List.mem_cons_of_mem _ hp)) r⟩
  | .dk xs, v, fp, k, h => by
    simp only [Own, er, Rep] at h ⊢
    obtain ⟨p, vs, f1, e, q, r, rfl⟩ := h
    exact ⟨p, vs, e, by rw [k p List.mem_cons_self]; exact q, OwnK.fz s xs vs f1 (fun p hp => k p (List.mem_cons_of_mem _ hp)) r⟩
  | .ob c fs, v, fp, k, h => by
    simp only [Own, er, Rep] at h ⊢
    obtain ⟨p, C, dx, vs, f1, e, g, q, q', r, rfl⟩ := h
    exact ⟨p, C, dx, vs, e, g, by rw [k p List.mem_cons_self]; exact q, by rw [k dx (List.mem_cons_of_mem _ List.mem_cons_self)]; exact q', OwnF.fz s fs vs f1 (fun p hp => k p (List.mem_cons_of_mem _ (List.mem_cons_of_mem _ hp))) r⟩
  | .p xs, v, fp, k, h => by
    simp only [Own, er, Rep] at h ⊢
    obtain ⟨p, vs, f1, e, q, r, rfl⟩ := h
    exact ⟨p, vs, e, .inl (by rw [k p List.mem_cons_self]; exact q), Owns.fz s xs vs f1 (fun p hp => k p (List.mem_cons_of_mem _ hp)) r⟩
theorem Owns.fz {G : Kt} {F F' H : Hp} (s : Same F F') : ∀ (t : List T) (v : List V) (fp : List Addr), (∀ p ∈ fp, F' p = H p) → Owns G F H t v fp → Reps G F' (ers t) v
  | [], v, fp, k, h => by
    simp only [Owns, ers, Reps] at h ⊢
    exact h.1
  | t :: ts, vs, fp, k, h => by
    simp only [Owns, ers, Reps] at h ⊢
    obtain ⟨v, r, f1, f2, e, h1, h2, rfl⟩ := h
    exact ⟨v, r, e, Own.fz s t v f1 (fun p hp => k p (List.mem_append_left _ hp)) h1, Owns.fz s ts r f2 (fun p hp => k p (List.mem_append_right _ hp)) h2⟩
theorem OwnK.fz {G : Kt} {F F' H : Hp} (s : Same F F') : ∀ (t : List (Key × T)) (v : List (Key × V)) (fp : List Addr), (∀ p ∈ fp, F' p = H p) → OwnK G F H t v fp → RepK G F' (erK t) v
  | [], v, fp, k, h => by
    simp only [OwnK, erK, RepK] at h ⊢
    exact h.1
  | (x, t) :: ts, vs, fp, k, h => by
    simp only [OwnK, erK, RepK] at h ⊢
    obtain ⟨v, r, f1, f2, e, h1, h2, rfl⟩ := h
    exact ⟨v, r, e, Own.fz s t v f1 (fun p hp => k p (List.mem_append_left _ hp)) h1, OwnK.fz s ts r f2 (fun p hp => k p (List.mem_append_right _ hp)) h2⟩
theorem OwnF.fz {G : Kt} {F F' H : Hp} (s : Same F F') : ∀ (t : List (Str × T)) (v : List (Str × V)) (fp : List Addr), (∀ p ∈ fp, F' p = H p) → OwnF G F H t v fp → RepF G F' (erF t) v
  | [], v, fp, k, h => by
    simp only [OwnF, erF, RepF] at h ⊢
    exact h.1
  | (x, t) :: ts, vs, fp, k, h => by
    simp only [OwnF, erF, RepF] at h ⊢
    obtain ⟨v, r, f1, f2, e, h1, h2, rfl⟩ := h
    exact ⟨v, r, e, Own.fz s t v f1 (fun p hp => k p (List.mem_append_left _ hp)) h1, OwnF.fz s ts r f2 (fun p hp => k p (List.mem_append_right _ hp)) h2⟩
end
open Classical in
/-- the shared part, grown by fp -/
noncomputable def plus (F H : Hp) (fp : List Addr) : Hp := fun p => if p ∈ fp then H p else F p
theorem plus_in {F H : Hp} {fp : List Addr} {p : Addr} (h : p ∈ fp) : plus F H fp p = H p := by unfold plus; rw [if_pos h]
theorem plus_out {F H : Hp} {fp : List Addr} {p : Addr} (h : p ∉ fp) : plus F H fp p = F p := by unfold plus; rw [if_neg h]
theorem plus_same {F H : Hp} {fp : List Addr} (off : ∀ p ∈ fp, F p = none) : Same F (plus F H fp) := fun b o e => by
  by_cases hb : b ∈ fp
  · rw [off b hb] at e; cases e
  · rw [plus_out hb]; exact e
theorem plus_sub {F H : Hp} {fp : List Addr} (s : Same F H) : Same (plus F H fp) H := fun b o e => by
  by_cases hb : b ∈ fp
  · rw [plus_in hb] at e; exact e
  · rw [plus_out hb] at e; exact s _ _ e
theorem plus_go {F H : Hp} {fp ft fq : List Addr} (off : ∀ p ∈ ft, F p = none) (h1 : ∀ p ∈ ft, p ∈ fp) (h2 : ∀ p ∈ fq, p ∈ fp) : Go F H fp (plus F H ft) H fq :=
  ⟨plus_same off, fun p o e => by
    by_cases hb : p ∈ ft
    · exact .inr (.inr (h1 p hb))
    · rw [plus_out hb] at e; exact .inl e, fun _ _ e _ => e, fun p hp => .inl (h2 p hp)⟩
def frz (i : Nat) (env : En) : En := match env[i]? with
  | some (some t) => env.set i (some (.s (er t)))
  | _ => env
section
variable {G : Kt} {fx : Fx} {W : L2.WX}
theorem Sta.frz {i : Nat} {env : En} {F H : Hp} {σ : St} {fp : List Addr} (S : Sta G fx env F σ H fp) : ∃ F' fp', Sta G fx (frz i env) F' σ H fp' ∧ Go F H fp F' H fp' := by
  unfold VS.frz
  split
  · rename_i t e
    obtain ⟨a, b, c, s, rfl, hs, o, k⟩ := S.own.split e
    obtain ⟨v, rfl, o⟩ := o
    have off : ∀ p ∈ b, F p = none := fun p hp => S.off p (by simp [hp])
    have nd := S.nd
    have nd' : (b ++ (a ++ c)).Nodup := by
      have h1 : (a ++ (b ++ c)).Perm (b ++ (a ++ c)) := by
        have e1 := (List.perm_append_comm (l₁ := a) (l₂ := b)).append_right c
        simpa only [List.append_assoc] using e1
      exact h1.nodup_iff.mp nd
    have k' := k (plus F H b) H (some (.s (er t))) (some v) [] (plus_same off) (fun _ _ _ e => e) ⟨v, rfl, Own.fz (plus_same off) t v b (fun p hp => plus_in hp) o, rfl⟩
    rw [set_self hs, List.nil_append] at k'
    refine ⟨plus F H b, a ++ c, ⟨k', (List.nodup_append.mp nd').2.1, fun p hp => ?_, plus_sub S.sub, S.fix, fun q h => (S.pin q h).mono (plus_same off)⟩, plus_go off (fun p hp => by simp [hp]) fun p hp => ?_⟩
    · rw [plus_out fun z => (List.nodup_append.mp nd').2.2 p z p hp rfl]
      refine S.off p ?_
      simp only [List.mem_append] at hp ⊢
      rcases hp with z | z
      · exact .inl z
      · exact .inr (.inr z)
    · simp only [List.mem_append] at hp ⊢
      rcases hp with z | z
      · exact .inl z
      · exact .inr (.inr z)
  · exact ⟨F, fp, S, .refl⟩
end
def fzE (f : En → R En (T × En)) : En → R En (T × En) := fun env => bnd (f env) fun a => .ok (.s (er a.1), a.2)
section
variable {X : Cx} {fx : Fx} {W : L2.WX} {pos : Pos}
theorem ve_frz {e : Expr} {f : En → R En (T × En)} (h : VE X fx W e f) : VE X fx W e (fzE f) := PE.imp h fun σ H Q q =>
  tV_one (k := fun t e => .ok (.s (er t), e)) (fun t env F H fp v ft S o nd off P => by
    have k1 : ∀ p ∈ fp, p ∉ ft := fun p hp hq => (List.nodup_append.mp nd).2.2 p hp p hq rfl
    refine P v (plus F H ft) H fp [] ⟨OwnE.mono (plus_same off) _ _ _ (fun _ _ _ e => e) S.own, S.nd, fun p hp => by rw [plus_out (k1 p hp)]; exact S.off p hp, plus_sub S.sub, S.fix, fun q h => (S.pin q h).mono (plus_same off)⟩
      ⟨Own.fz (plus_same off) t v ft (fun p hp => plus_in hp) o, rfl⟩ (by simpa using S.nd) (by simp) ?_
    rw [List.append_nil]
    exact plus_go off (fun p hp => List.mem_append_right _ hp) fun p hp => List.mem_append_left _ hp) q
theorem vss_frz (i : Nat) {st : List Stmt} {f : En → R En (Fl × En)} (h : VSs X fx W st f) : VSs X fx W st (fun env => f (frz i env)) := PSs.imp h fun D σ H q => by
  obtain ⟨env, F, fp, S, P⟩ := q
  obtain ⟨F', fp', S', g⟩ := S.frz (i := i)
  exact ⟨_, F', fp', S', PSt.go P g⟩
theorem vs_frz (i : Nat) {st : Stmt} {f : En → R En (Fl × En)} (h : VS1 X fx W st f) : VS1 X fx W st (fun env => f (frz i env)) := PS.imp h fun D σ H q => by
  obtain ⟨env, F, fp, S, P⟩ := q
  obtain ⟨F', fp', S', g⟩ := S.frz (i := i)
  exact ⟨_, F', fp', S', PSt.go P g⟩

/-! ### what is walked -/
def ItOk (G : Kt) (J : It) (ds : List D) (F0 H0 : Hp) (fp0 : List Addr) : Prop := ∀ F2 H2 fp2, Go F0 H0 fp0 F2 H2 fp2 → Same F2 H2 → ∀ i,
  (∀ d, ds[i]? = some d → J.go i H2 ∧ ∀ x H3, J.yld i H2 x H3 → ∃ F3, Grow F2 H2 F3 H3 ∧ Rep G F3 d x) ∧ (ds.length ≤ i → J.stop i H2)
def PIt (G : Kt) (fx : Fx) (W : L2.WX) (σ : St) (R' : It → Hp → Prop) (F H : Hp) (fp : List Addr) : R En (List D × En) → Prop
  | .ok (ds, e) => ∀ J F' H' fp', Sta G fx e F' σ H' fp' → Go F H fp F' H' fp' → ItOk G J ds F' H' fp' → R' J H'
  | .ex c fs e => ∀ cls d F' H' fp', Sta G fx e F' σ H' fp' → ExR G F' H' c fs cls d → Go F H fp F' H' fp' → W cls d σ H'
  | .no => False
def tI (G : Kt) (fx : Fx) (W : L2.WX) (f : En → R En (List D × En)) : TI := fun σ H R' => ∃ env F fp, Sta G fx env F σ H fp ∧ PIt G fx W σ R' F H fp (f env)
abbrev VI (X : Cx) (fx : Fx) (W : L2.WX) (tg it : Expr) (f : En → R En (List D × En)) : Prop := PI X tg it (tI (kt X) fx W f)
theorem PI.imp {tg it : Expr} {t t' : TI} (h : PI X tg it t) (k : ∀ σ H R', t' σ H R' → t σ H R') : PI X tg it t' := ⟨fun pins s σ H Q I q => h.run pins s σ H Q I (k σ H Q q)⟩
theorem piOr {tg it : Expr} {t t' : TI} (h : PI X tg it t) (h' : PI X tg it t') : PI X tg it (fun σ H R' => t σ H R' ∨ t' σ H R') := ⟨fun pins s σ H Q I q => q.elim (h.run pins s σ H Q I) (h'.run pins s σ H Q I)⟩
theorem tV_I {G : Kt} {R' : It → Hp → Prop} {σ : St} {H : Hp} {f : En → R En (T × En)} {k : T → En → R En (List D × En)} {K : V → Hp → Prop} {env : En} {F : Hp} {fp : List Addr} (S : Sta G fx env F σ H fp)
    (hk : ∀ t e, f env = .ok (t, e) → ∀ F H fp v ft, Sta G fx e F σ H fp → Own G F H t v ft → (fp ++ ft).Nodup → (∀ p ∈ ft, F p = none) → PIt G fx W σ R' F H (fp ++ ft) (k t e) → K v H)
    (P : PIt G fx W σ R' F H fp (bnd (f env) fun a => k a.1 a.2)) : tV G fx W f σ H K := by
  refine ⟨env, F, fp, S, ?_⟩
  cases ea : f env with
  | no => rw [ea] at P; exact P
  | ex c fs e => rw [ea] at P; exact P
  | ok a =>
    obtain ⟨t, e⟩ := a
    rw [ea] at P
    intro v F' H' fp' ft S' o nd off g
    refine hk t e ea F' H' fp' v ft S' o nd off ?_
    show PIt G fx W σ R' F' H' (fp' ++ ft) (k t e)
    have P' : PIt G fx W σ R' F H fp (k t e) := P
    cases ek : k t e with
    | no => rw [ek] at P'; exact P'
    | ex c fs e2 =>
      rw [ek] at P'
      exact fun cls d F2 H2 fp2 S2 x g2 => P' cls d F2 H2 fp2 S2 x (g.trans g2)
    | ok b =>
      obtain ⟨ds, e2⟩ := b
      rw [ek] at P'
      exact fun J F2 H2 fp2 S2 g2 io => P' J F2 H2 fp2 S2 (g.trans g2) io
/-- the items of a list, a tuple, a text -/
def T.its : T → Option (List D)
  | .s (.tup ds) => some ds
  | .s (.str z) => some (z.cps.toList.map fun c => .str ⟨#[c]⟩)
  | t => t.ls
def itS (f : En → R En (T × En)) : En → R En (List D × En) := fun env => bnd (f env) fun a => ofO a.1.its fun ds => .ok (ds, a.2)
theorem itok_list {G : Kt} {F0 H0 : Hp} {fp0 : List Addr} {a : Addr} {vs : List V} {ds : List D} (h : H0 a = some (.lst vs)) (n : a ∉ fp0) (r : Reps G F0 ds vs) : ItOk G (Itl G.K a) ds F0 H0 fp0 := by
  intro F2 H2 fp2 g s i
  have ha : SqL G.K H2 a vs := .of (g.h a _ h n)
  have uniq : ∀ xs, SqL G.K H2 a xs → xs[i]? = vs[i]? → True := fun _ _ _ => trivial
  refine ⟨fun d hd => ?_, fun hn => ⟨vs, ha, by rw [r.len]; exact hn⟩⟩
  obtain ⟨v, hv, rv⟩ := r.get hd
  refine ⟨⟨vs, v, ha, hv⟩, fun x H3 y => ?_⟩
  obtain ⟨rfl, y⟩ := y
  have e := y vs ha
  rw [hv] at e
  cases e
  exact ⟨F2, .refl s, rv.mono g.f⟩
theorem itok_tup {G : Kt} {F0 H0 : Hp} {fp0 : List Addr} {a : Addr} {vs : List V} {ds : List D} (h : RT G.K F0 a vs) (r : Reps G F0 ds vs) : ItOk G (Itt G.K a) ds F0 H0 fp0 := by
  intro F2 H2 fp2 g s i
  have ha : SqT G.K H2 a vs := (h.mono (g.f.trans s)).sq
  refine ⟨fun d hd => ?_, fun hn => ⟨vs, ha, by rw [r.len]; exact hn⟩⟩
  obtain ⟨v, hv, rv⟩ := r.get hd
  refine ⟨⟨vs, v, ha, hv⟩, fun x H3 y => ?_⟩
  obtain ⟨rfl, y⟩ := y
  have e := y vs ha
  rw [hv] at e
  cases e
  exact ⟨F2, .refl s, rv.mono g.f⟩
theorem itok_str {G : Kt} {F0 H0 : Hp} {fp0 : List Addr} {z : Str} : ItOk G (Its z) (z.cps.toList.map fun c => .str ⟨#[c]⟩) F0 H0 fp0 := by
  intro F2 H2 fp2 g s i
  refine ⟨fun d hd => ?_, fun hn => ?_⟩
  · rw [List.getElem?_map] at hd
    cases e : z.cps.toList[i]? with
    | none => rw [e] at hd; cases hd
    | some c =>
      rw [e] at hd
      cases hd
      have e' : z.cps[i]? = some c := by simpa using e
      refine ⟨(Array.getElem?_eq_some_iff.mp e').1, fun x H3 y => ?_⟩
      obtain ⟨rfl, c', ec, rfl⟩ := y
      rw [e'] at ec
      cases ec
      exact ⟨F2, .refl s, by simp only [Rep]⟩
  · have hn' : z.cps.size ≤ i := by simpa using hn
    exact hn'
theorem vi_seq {tg e : Expr} {f : En → R En (T × En)} (he : VE X fx W e f) : VI X fx W tg e (itS f) := PI.imp (piOr (pi_list he) (piOr (pi_tup he) (pi_str he))) fun σ H R' h => by
  obtain ⟨env, F, fp, S, P⟩ := h
  unfold itS at P
  cases ea : f env with
  | no => rw [ea] at P; exact P.elim
  | ex c fs e =>
    rw [ea] at P
    exact .inl ⟨env, F, fp, S, by rw [ea]; exact P⟩
  | ok a =>
    obtain ⟨t, e⟩ := a
    have P0 := P
    rw [ea] at P0
    have key : (t.ls ≠ none) ∨ (∃ ds, t = .s (.tup ds)) ∨ (∃ z, t = .s (.str z)) := by
      cases et : t.its with
      | none => simp only [bnd, et, ofO] at P0; exact P0.elim
      | some ds =>
        unfold T.its at et
        split at et
        · exact .inr (.inl ⟨_, rfl⟩)
        · exact .inr (.inr ⟨_, rfl⟩)
        · exact .inl (by rw [et]; simp)
    rcases key with hl | ⟨ds, rfl⟩ | ⟨z, rfl⟩
    · refine .inl (tV_I (k := fun t e => ofO t.its fun ds => .ok (ds, e)) S (fun t' e' ee F1 H1 fp1 v ft S1 o nd off P1 => ?_) P)
      rw [ea] at ee
      cases ee
      have ei : t.its = t.ls := by
        unfold T.its
        split
        · exact absurd rfl hl
        · exact absurd rfl hl
        · rfl
      cases el : t.ls with
      | none => exact absurd el hl
      | some ds =>
        rw [ei, el] at P1
        obtain ⟨a, vs, rfl, h1, r⟩ := ls_rep S1.sub o.bor el
        refine ⟨a, rfl, ⟨vs, .of h1⟩, P1 _ F1 H1 fp1 S1 (Go.refl.less fun p hp => List.mem_append_left _ hp) (itok_list h1 (fun hm => ?_) r)⟩
        cases t with
        | s d =>
          cases d with
          | lst xs =>
            simp only [Own, Rep] at o
            obtain ⟨⟨a', vs', e', ha', _⟩, _⟩ := o
            cases e'
            rw [S1.off _ hm] at ha'; cases ha'
          | _ => cases el
        | l ts =>
          simp only [Own] at o
          obtain ⟨p', vs', f1, e', ha', _, rfl⟩ := o
          cases e'
          exact (List.nodup_append.mp nd).2.2 _ hm _ List.mem_cons_self rfl
        | dk _ => cases el
        | ob _ _ => cases el
        | p _ => cases el
    · refine .inr (.inl (tV_I (k := fun t e => ofO t.its fun ds => .ok (ds, e)) S (fun t' e' ee F1 H1 fp1 v ft S1 o nd off P1 => ?_) P))
      rw [ea] at ee
      cases ee
      simp only [Own, Rep] at o
      obtain ⟨⟨a, vs, rfl, h1, r⟩, rfl⟩ := o
      rw [List.append_nil] at P1
      exact ⟨a, rfl, ⟨vs, (h1.mono S1.sub).sq⟩, P1 _ F1 H1 fp1 S1 .refl (itok_tup h1 r)⟩
    · refine .inr (.inr (tV_I (k := fun t e => ofO t.its fun ds => .ok (ds, e)) S (fun t' e' ee F1 H1 fp1 v ft S1 o nd off P1 => ?_) P))
      rw [ea] at ee
      cases ee
      simp only [Own, Rep] at o
      obtain ⟨rfl, rfl⟩ := o
      rw [List.append_nil] at P1
      exact ⟨z, rfl, P1 _ F1 H1 fp1 S1 .refl itok_str⟩
/-- range -/
def rgD (lo hi : Int) : List D := (List.range (hi - lo).toNat).map fun i : Nat => .int (lo + (i : Int))
theorem itok_rng {G : Kt} {F0 H0 : Hp} {fp0 : List Addr} {lo : Int} {n : Nat} : ItOk G (Itr lo n) ((List.range n).map fun i : Nat => .int (lo + (i : Int))) F0 H0 fp0 := by
  intro F2 H2 fp2 g s i
  refine ⟨fun d hd => ?_, fun hn => ?_⟩
  · rw [List.getElem?_map] at hd
    by_cases hi : i < n
    · rw [List.getElem?_range hi] at hd
      cases hd
      refine ⟨hi, fun x H3 y => ?_⟩
      obtain ⟨rfl, rfl⟩ := y
      exact ⟨F2, .refl s, by simp only [Rep]⟩
    · rw [List.getElem?_eq_none (by simpa using hi)] at hd; cases hd
  · have hn' : n ≤ i := by simpa using hn
    exact hn'
theorem tVs_I {G : Kt} {R' : It → Hp → Prop} {σ : St} {H : Hp} {f : En → R En (List T × En)} {k : List T → En → R En (List D × En)} {K : List V → Hp → Prop}
    (hk : ∀ t e F H fp v ft, Sta G fx e F σ H fp → Owns G F H t v ft → (fp ++ ft).Nodup → (∀ p ∈ ft, F p = none) → PIt G fx W σ R' F H (fp ++ ft) (k t e) → K v H)
    (h : tI G fx W (fun env => bnd (f env) fun a => k a.1 a.2) σ H R') : tVs G fx W f σ H K := by
  obtain ⟨env, F, fp, S, P⟩ := h
  dsimp only at P
  refine ⟨env, F, fp, S, ?_⟩
  cases ea : f env with
  | no => rw [ea] at P; exact P
  | ex c fs e => rw [ea] at P; exact P
  | ok a =>
    obtain ⟨t, e⟩ := a
    rw [ea] at P
    intro v F' H' fp' ft S' o nd off g
    refine hk t e F' H' fp' v ft S' o nd off ?_
    have P' : PIt G fx W σ R' F H fp (k t e) := P
    cases ek : k t e with
    | no => rw [ek] at P'; exact P'
    | ex c fs e2 =>
      rw [ek] at P'
      exact fun cls d F2 H2 fp2 S2 x g2 => P' cls d F2 H2 fp2 S2 x (g.trans g2)
    | ok b =>
      obtain ⟨ds, e2⟩ := b
      rw [ek] at P'
      exact fun J F2 H2 fp2 S2 g2 io => P' J F2 H2 fp2 S2 (g.trans g2) io
def rgO1 : List T → Option (List D)
  | [.s (.int j)] => if -(2 ^ 62) ≤ j ∧ j < 2 ^ 62 then some (rgD 0 j) else none
  | _ => none
def rgO2 : List T → Option (List D)
  | [.s (.int i), .s (.int j)] => if -(2 ^ 62) ≤ i ∧ i < 2 ^ 62 ∧ -(2 ^ 62) ≤ j ∧ j < 2 ^ 62 then some (rgD i j) else none
  | _ => none
def itR (g : List T → Option (List D)) (f : En → R En (List T × En)) : En → R En (List D × En) := fun env => bnd (f env) fun a => ofO (g a.1) fun ds => .ok (ds, a.2)
theorem Owns.ints {G : Kt} {F H : Hp} {i : Int} {ts : List T} {vs : List V} {ft : List Addr} (h : Owns G F H (.s (.int i) :: ts) vs ft) : ∃ us, vs = .int i :: us ∧ Owns G F H ts us ft := by
  simp only [Owns, Own, Rep] at h
  obtain ⟨v, r, f1, f2, rfl, ⟨rfl, rfl⟩, h2, rfl⟩ := h
  exact ⟨r, rfl, h2⟩
theorem Owns.nil {G : Kt} {F H : Hp} {vs : List V} {ft : List Addr} (h : Owns G F H [] vs ft) : vs = [] ∧ ft = [] := h
theorem vi_range1 {tg a : Expr} {p : Pos} {f : En → R En (List T × En)} (hg : Gl X "range") (hm : X.mg "range" = none) (ha : VEs X fx W [a] f) (hs : starEach [a] X.env = [(false, eval a X.env)] := by rfl) : VI X fx W tg (.Call (.Name "range" p) [a] [] pos) (itR rgO1 f) :=
  PI.imp (pi_range1 hg hm ha hs) fun σ H R' h => tVs_I (k := fun ts e => ofO (rgO1 ts) fun ds => .ok (ds, e)) (fun ts e F H fp vs ft S o nd off P => by
    cases er : rgO1 ts with
    | none => rw [er] at P; exact P.elim
    | some ds =>
      rw [er] at P
      unfold rgO1 at er
      split at er
      · split at er
        · rename_i j hj
          cases er
          obtain ⟨us, rfl, o2⟩ := o.ints
          obtain ⟨rfl, rfl⟩ := o2.nil
          rw [List.append_nil] at P
          refine ⟨j, rfl, hj.1, hj.2, ?_⟩
          have := P (Itr 0 (j - 0).toNat) F H fp S .refl itok_rng
          rw [Int.sub_zero] at this
          exact this
        · cases er
      · cases er) h
theorem vi_range2 {tg a b : Expr} {p : Pos} {f : En → R En (List T × En)} (hg : Gl X "range") (hm : X.mg "range" = none) (ha : VEs X fx W [a, b] f) (hs : starEach [a, b] X.env = [(false, eval a X.env), (false, eval b X.env)] := by rfl)
    (hs2 : starEach [b] X.env = [(false, eval b X.env)] := by rfl) : VI X fx W tg (.Call (.Name "range" p) [a, b] [] pos) (itR rgO2 f) :=
  PI.imp (pi_range2 hg hm ha hs hs2) fun σ H R' h => tVs_I (k := fun ts e => ofO (rgO2 ts) fun ds => .ok (ds, e)) (fun ts e F H fp vs ft S o nd off P => by
    cases er : rgO2 ts with
    | none => rw [er] at P; exact P.elim
    | some ds =>
      rw [er] at P
      unfold rgO2 at er
      split at er
      · split at er
        · rename_i i j hj
          cases er
          obtain ⟨us, rfl, o2⟩ := o.ints
          obtain ⟨us2, rfl, o3⟩ := o2.ints
          obtain ⟨rfl, rfl⟩ := o3.nil
          rw [List.append_nil] at P
          exact ⟨i, j, rfl, hj, P (Itr i (j - i).toNat) F H fp S .refl itok_rng⟩
        · cases er
      · cases er) h
/-- enumerate of a list -/
def enD (ds : List D) : List D := (List.range ds.length).zipWith (fun (i : Nat) d => .tup [.int i, d]) ds
def itE (f : En → R En (List T × En)) : En → R En (List D × En) := fun env => bnd (f env) fun a => match a.1 with
  | [t] => ofO t.ls fun ds => .ok (enD ds, a.2)
  | _ => .no
theorem itok_enum {G : Kt} {F0 H0 : Hp} {fp0 : List Addr} {a : Addr} {vs : List V} {ds : List D} (h : H0 a = some (.lst vs)) (n : a ∉ fp0) (r : Reps G F0 ds vs) : ItOk G (Ite G.K a) (enD ds) F0 H0 fp0 := by
  intro F2 H2 fp2 g s i
  have ha : SqL G.K H2 a vs := .of (g.h a _ h n)
  refine ⟨fun d hd => ?_, fun hn => ⟨vs, ha, by rw [r.len]; simpa [enD] using hn⟩⟩
  unfold enD at hd
  rw [List.getElem?_zipWith] at hd
  cases e1 : (List.range ds.length)[i]? with
  | none => rw [e1] at hd; cases hd
  | some j =>
    cases e2 : ds[i]? with
    | none => rw [e1, e2] at hd; cases hd
    | some y =>
      rw [e1, e2] at hd
      cases hd
      have ej : j = i := by
        have := List.getElem?_eq_some_iff.mp e1
        obtain ⟨q, z⟩ := this
        rw [List.getElem_range] at z
        exact z.symm
      subst ej
      obtain ⟨v, hv, rv⟩ := r.get e2
      refine ⟨⟨vs, v, ha, hv⟩, fun x H3 y => ?_⟩
      obtain ⟨T', x', rfl, nT, rfl, f1⟩ := y
      have e := f1 vs ha
      rw [hv] at e
      cases e
      have gl := Grow.layF (o := .tup [.int (j : Nat), v]) s nT
      refine ⟨_, gl, ?_⟩
      simp only [Rep]
      exact ⟨T', _, rfl, .inl upd_same, by
        simp only [Reps, Rep]
        exact ⟨_, _, rfl, rfl, v, [], rfl, (rv.mono g.f).mono gl.f, rfl⟩⟩
theorem vi_enum {e : Expr} {p tpos : Pos} {elts : List Expr} {kk : Nat} {f : En → R En (List T × En)} (hg : Gl X "enumerate") (hm : X.mg "enumerate" = none) (ha : VEs X fx W [e] f) (hs : starEach [e] X.env = [(false, eval e X.env)] := by rfl) :
    VI X fx W (.Tuple elts kk tpos) (.Call (.Name "enumerate" p) [e] [] pos) (itE f) :=
  PI.imp (pi_enum hg hm ha hs) fun σ H R' h => tVs_I (k := fun ts e => match ts with
    | [t] => ofO t.ls fun ds => .ok (enD ds, e)
    | _ => .no) (fun ts e F H fp vs ft S o nd off P => by
    split at P
    · rename_i t
      cases el : t.ls with
      | none => rw [el] at P; exact P.elim
      | some ds =>
        rw [el] at P
        simp only [Owns] at o
        obtain ⟨v, r0, f1, f2, rfl, o, ⟨rfl, rfl⟩, rfl⟩ := o
        rw [List.append_nil] at nd P off
        obtain ⟨a, us, rfl, h1, r⟩ := ls_rep S.sub o.bor el
        refine ⟨a, us, rfl, .of h1, P _ F H fp S (Go.refl.less fun p hp => List.mem_append_left _ hp) (itok_enum h1 (fun hm => ?_) r)⟩
        cases t with
        | s d =>
          cases d with
          | lst xs =>
            simp only [Own, Rep] at o
            obtain ⟨⟨a', vs', e', ha', _⟩, _⟩ := o
            cases e'
            rw [S.off _ hm] at ha'; cases ha'
          | _ => cases el
        | l ts =>
          simp only [Own] at o
          obtain ⟨p', vs', f1, e', ha', _, rfl⟩ := o
          cases e'
          exact (List.nodup_append.mp nd).2.2 _ hm _ List.mem_cons_self rfl
        | dk _ => cases el
        | ob _ _ => cases el
        | p _ => cases el
    · exact P.elim) h

/-! ### for -/
def forL (g : GTg) (body : En → R En (Fl × En)) : List D → En → R En (Fl × En)
  | [], env => .ok (.nx, env)
  | d :: ds, env => match g (.s d) env with
    | none => .no
    | some e => bnd (body e) fun a => match a.1 with
      | .nx => forL g body ds a.2
      | .ct => forL g body ds a.2
      | .bk => .ok (.nx, a.2)
      | .rt t => .ok (.rt t, a.2)
def forS (f : En → R En (List D × En)) (g : GTg) (body : En → R En (Fl × En)) : En → R En (Fl × En) := fun env => bnd (f env) fun a => forL g body a.1 a.2
theorem vs_for {tg iter : Expr} {body : List Stmt} {f : En → R En (List D × En)} {sl : List Nat} {g : GTg} {b : En → R En (Fl × En)} (hp : PassesOwn (model X.prog X.w) X.A X.env X.xe) (hc : X.calm = true) (hi : VI X fx W tg iter f) (hg : VG X fx tg sl g) (hb : VSs X fx W body b)
    (hs : ∀ x, foldedSetIterable iter X.env x = pure x := by intro _; rfl) : VS1 X fx W (.For tg iter body [] pos) (forS f g b) := PS.imp (ps_for hp hc hi hg hb hs) fun D σ H h => by
  obtain ⟨env, F, fp, S, P⟩ := h
  unfold forS at P
  refine ⟨env, F, fp, S, ?_⟩
  cases ea : f env with
  | no => rw [ea] at P; exact P
  | ex c fs e => rw [ea] at P; exact fun cls d F' H' fp' S' x g => P cls d σ F' H' fp' S' x g
  | ok a =>
    obtain ⟨ds, e⟩ := a
    rw [ea] at P
    intro J F0 H0 fp0 S0 g0 io
    have P0 : PSt (kt X) fx W D F0 H0 fp0 (forL g b ds e) := PSt.go (r := forL g b ds e) P g0
    refine ⟨fun i m σ H => m = ds.length - i ∧ i ≤ ds.length ∧ ∃ env F fp, Sta (kt X) fx env F σ H fp ∧ Go F0 H0 fp0 F H fp ∧ PSt (kt X) fx W D F H fp (forL g b (ds.drop i) env), ⟨ds.length, by simp, Nat.zero_le _, e, F0, fp0, S0, .refl, by simpa using P0⟩, ?_⟩
    rintro i m σ H ⟨rfl, hi, env, F, fp, S, go, P⟩
    obtain ⟨io1, io2⟩ := io F H fp go S.sub i
    by_cases hlt : i < ds.length
    · refine .inr ?_
      have ed : ds[i]? = some ds[i] := List.getElem?_eq_getElem hlt
      obtain ⟨hgo, hy⟩ := io1 _ ed
      refine ⟨hgo, fun σ' H' => ∃ env F fp, Sta (kt X) fx env F σ' H' fp ∧ Go F0 H0 fp0 F H' fp ∧ PSt (kt X) fx W D F H' fp (forL g b (ds.drop (i + 1)) env), fun σ' H' h => ⟨ds.length - (i + 1), by omega, rfl, hlt, h⟩, fun x H' y => ?_⟩
      obtain ⟨F3, g3, r3⟩ := hy x H' y
      rw [List.drop_eq_getElem_cons hlt] at P
      unfold forL at P
      cases eg : g (.s ds[i]) env with
      | none => rw [eg] at P; exact P.elim
      | some env' =>
        rw [eg] at P
        have S3 := S.grow g3
        have go3 := go.trans (g3.go fp)
        have P3 := PSt.go P (g3.go fp)
        refine ⟨.s ds[i], env, env', F3, fp, [], S3, ⟨r3, rfl⟩, by simpa using S.nd, by simp, eg, fun σ2 fp2 S2 sub2 _ _ => ?_⟩
        have sub2' : ∀ p ∈ fp2, p ∈ fp := fun p hp => by simpa using sub2 p hp
        have go4 : Go F0 H0 fp0 F3 H' fp2 := go3.less sub2'
        have P4 := PSt.go P3 (Go.refl.less sub2')
        dsimp only at P4
        refine ⟨env', F3, fp2, S2, ?_⟩
        cases eb : b env' with
        | no => rw [eb] at P4; exact P4
        | ex c fs e => rw [eb] at P4; exact P4
        | ok a =>
          obtain ⟨fl, e'⟩ := a
          rw [eb] at P4
          cases fl with
          | nx => exact fun σ5 F5 H5 fp5 S5 g5 => ⟨e', F5, fp5, S5, go4.trans g5, PSt.go (r := forL g b (ds.drop (i + 1)) e') P4 g5⟩
          | ct => exact fun σ5 F5 H5 fp5 S5 g5 => ⟨e', F5, fp5, S5, go4.trans g5, PSt.go (r := forL g b (ds.drop (i + 1)) e') P4 g5⟩
          | bk => exact fun σ5 F5 H5 fp5 S5 g5 => P4 σ5 F5 H5 fp5 S5 g5
          | rt t => exact P4
    · have e : i = ds.length := by omega
      subst e
      rw [List.drop_length] at P
      exact .inl ⟨io2 (Nat.le_refl _), P σ F H fp S .refl⟩

/-! ### while -/
def whileL (c : En → R En (Bool × En)) (body : En → R En (Fl × En)) : Nat → En → R En (Fl × En)
  | 0, _ => .no
  | n + 1, env => bnd (c env) fun k => if k.1 then bnd (body k.2) fun a => match a.1 with
      | .nx => whileL c body n a.2
      | .ct => whileL c body n a.2
      | .bk => .ok (.nx, a.2)
      | .rt t => .ok (.rt t, a.2)
    else .ok (.nx, k.2)
def whileS (n : Nat) (c : En → R En (Bool × En)) (body : En → R En (Fl × En)) : En → R En (Fl × En) := whileL c body n
theorem vs_while (n : Nat) {c : Expr} {body : List Stmt} {t : En → R En (Bool × En)} {b : En → R En (Fl × En)} (hp : PassesOwn (model X.prog X.w) X.A X.env X.xe) (hc : VT X fx W c t) (hb : VSs X fx W body b) : VS1 X fx W (.While c body [] pos) (whileS n t b) := PS.imp (ps_while hp hc hb) fun D σ H h => by
  obtain ⟨env, F, fp, S, P⟩ := h
  refine ⟨fun m σ H => ∃ env F fp, Sta (kt X) fx env F σ H fp ∧ PSt (kt X) fx W D F H fp (whileL t b m env), ⟨n, env, F, fp, S, P⟩, ?_⟩
  rintro m σ H ⟨env, F, fp, S, P⟩
  cases m with
  | zero => exact P.elim
  | succ m =>
    unfold whileL at P
    refine ⟨env, F, fp, S, ?_⟩
    cases ea : t env with
    | no => rw [ea] at P; exact P
    | ex c fs e => rw [ea] at P; exact fun cls d F' H' fp' S' x g => P cls d σ F' H' fp' S' x g
    | ok a =>
      obtain ⟨k, e⟩ := a
      rw [ea] at P
      intro F' H' fp' S' g
      cases k with
      | false => exact iteF (P σ F' H' fp' S' g)
      | true =>
        refine iteT ⟨fun σ H => ∃ env F fp, Sta (kt X) fx env F σ H fp ∧ PSt (kt X) fx W D F H fp (whileL t b m env), fun σ' H' h => ⟨m, Nat.lt_succ_self m, h⟩, ?_⟩
        refine ⟨e, F', fp', S', ?_⟩
        simp only [bnd, if_true] at P
        have P := PSt.go P g
        cases eb : b e with
        | no => rw [eb] at P; exact P
        | ex c fs e => rw [eb] at P; exact P
        | ok a =>
          obtain ⟨fl, e'⟩ := a
          rw [eb] at P
          cases fl with
          | nx => exact fun σ5 F5 H5 fp5 S5 g5 => ⟨e', F5, fp5, S5, PSt.go (r := whileL t b m e') P g5⟩
          | ct => exact fun σ5 F5 H5 fp5 S5 g5 => ⟨e', F5, fp5, S5, PSt.go (r := whileL t b m e') P g5⟩
          | bk => exact fun σ5 F5 H5 fp5 S5 g5 => P σ5 F5 H5 fp5 S5 g5
          | rt t => exact P
end
end VS
namespace VS
open PySem PySem.Spec L2
open PyProof.Rows hiding St

/-! ### what a def computes: from its arguments, its value and what the arguments that it changes are then -/
abbrev FS := List T → R (List (Option T)) (T × List (Option T))
def spF (G : Kt) (n : Nat) (sem : FS) : Sp := fun vs H Q E => vs.length = n ∧ ∃ ts F fp, Owns G F H ts vs fp ∧ fp.Nodup ∧ (∀ p ∈ fp, F p = none) ∧ Same F H ∧ match sem ts with
  | .ok (t, us) => ∀ v F' H' fp' ft, OwnE G F' H' us (vs.map some) fp' → Own G F' H' t v ft → (fp' ++ ft).Nodup → (∀ p ∈ fp' ++ ft, F' p = none) → Same F' H' → Go F H fp F' H' (fp' ++ ft) → Q v H'
  | .ex c fs us => ∀ cls d F' H' fp', OwnE G F' H' us (vs.map some) fp' → fp'.Nodup → (∀ p ∈ fp', F' p = none) → Same F' H' → ExR G F' H' c fs cls d → Go F H fp F' H' fp' → E cls d H'
  | .no => False
/-- a def that computes sem -/
abbrev VF (P : Program) (w : World) (K : PySem.W.Frag) (mg : Str → Option Value) (base : Heap) (k : Nat) (f : Addr) (fd : FuncData) (ps : List Str) (sem : FS) : Prop := FnOk P w K mg base (L2.CX P w) k f fd ps (spF ⟨K, mg⟩ ps.length sem)

/-! ### arguments, some of them names whose objects the def may change -/
def PVk (G : Kt) (fx : Fx) (W : L2.WX) (ks : List (Option Nat)) (σ : St) (Q : List V → Hp → Prop) (F H : Hp) (fp : List Addr) : R En (List T × En) → Prop
  | .ok (ts, e) => ∀ vs F' H' fp' ft, Sta G fx e F' σ H' fp' → Owns G F' H' ts vs ft → (fp' ++ ft).Nodup → (∀ p ∈ ft, F' p = none) → Go F H fp F' H' (fp' ++ ft) →
      (∀ (j i : Nat), ks[j]? = some (some i) → ∃ v, vs[j]? = some v ∧ σ[i]? = some (some v)) → vs.length = ks.length → Q vs H'
  | .ex c fs e => ∀ cls d F' H' fp', Sta G fx e F' σ H' fp' → ExR G F' H' c fs cls d → Go F H fp F' H' fp' → W cls d σ H'
  | .no => False
def tVk (G : Kt) (fx : Fx) (W : L2.WX) (ks : List (Option Nat)) (f : En → R En (List T × En)) : TA := fun σ H Q => ∃ env F fp, Sta G fx env F σ H fp ∧ PVk G fx W ks σ Q F H fp (f env)
abbrev VKs (X : Cx) (fx : Fx) (W : L2.WX) (es : List Expr) (ks : List (Option Nat)) (f : En → R En (List T × En)) : Prop := PA X es (tVk (kt X) fx W ks f)
section
variable {X : Cx} {fx : Fx} {W : L2.WX}
theorem vks_nil : VKs X fx W [] [] enil := PA.imp pa_nil fun σ H Q h => by
  obtain ⟨env, F, fp, S, P⟩ := h
  exact P [] F H fp [] S ⟨rfl, rfl⟩ (by simpa using S.nd) (by simp) (by rw [List.append_nil]; exact .refl) (fun j i h => by simp at h) rfl
/-- an expression whose value is known to be that of a slot (or not asked) -/
def tVo (G : Kt) (fx : Fx) (W : L2.WX) (o : Option Nat) (f : En → R En (T × En)) : TE := fun σ H Q => tV G fx W f σ H fun v H' => (∀ i, o = some i → σ[i]? = some (some v)) → Q v H'
theorem vo_val {e : Expr} {f : En → R En (T × En)} (h : VE X fx W e f) : PE X e (tVo (kt X) fx W none f) := PE.imp h fun σ H Q q => by
  obtain ⟨env, F, fp, S, P⟩ := q
  refine ⟨env, F, fp, S, ?_⟩
  cases ea : f env with
  | no => rw [ea] at P; exact P
  | ex c fs e => rw [ea] at P; exact P
  | ok a =>
    obtain ⟨t, e⟩ := a
    rw [ea] at P
    exact fun v F' H' fp' ft S' o nd off g => P v F' H' fp' ft S' o nd off g fun i h => nomatch h
theorem vo_mv (i : Nat) {x : Str} {pos : Pos} (hN : X.N[i]? = some x) (hv : Vis X.env.scope x) (hd : (x == ("__debug__" : Str)) = false := by decide)
    (hcd : (x == ("__classdict__" : Str)) = false := by decide) : PE X (.Name x pos) (tVo (kt X) fx W (some i) (mvE i)) := PE.imp (pe_var hN hv hd hcd) fun σ H Q h => by
  obtain ⟨env, F, fp, S, P⟩ := h
  unfold mvE at P
  split at P
  · rename_i t e
    obtain ⟨a, b, c, s, e1, hs, o, k⟩ := S.own.split e
    obtain ⟨v, rfl, o⟩ := o
    refine ⟨v, hs, ?_⟩
    have nd := S.nd
    rw [e1] at nd
    have nd' : (a ++ c ++ b).Nodup := by
      have : (a ++ (b ++ c)).Perm (a ++ c ++ b) := by rw [List.append_assoc]; exact List.Perm.append_left a List.perm_append_comm
      exact this.nodup_iff.mp nd
    have k' := k F H none (some v) [] (.refl _) (fun _ _ _ e => e) rfl
    rw [set_self hs, List.nil_append] at k'
    refine P v F H (a ++ c) b ⟨k', (List.nodup_append.mp nd').1, fun p hp => S.off p ?_, S.sub, S.fix, S.pin⟩ o nd' (fun p hp => S.off p ?_) (Go.refl.less fun p hp => ?_) (fun j h => by cases h; exact hs)
    · rw [e1]; simp only [List.mem_append] at hp ⊢
      rcases hp with z | z
      · exact .inl z
      · exact .inr (.inr z)
    · rw [e1]; simp [hp]
    · rw [e1]; simp only [List.mem_append] at hp ⊢
      rcases hp with (z | z) | z
      · exact .inl z
      · exact .inr (.inr z)
      · exact .inr (.inl z)
  · exact P.elim
theorem vks_cons {e : Expr} {es : List Expr} {o : Option Nat} {ks : List (Option Nat)} {fa : En → R En (T × En)} {fs : En → R En (List T × En)} (ha : PE X e (tVo (kt X) fx W o fa)) (hs : VKs X fx W es ks fs)
    (hst : starEach (e :: es) X.env = (false, eval e X.env) :: starEach es X.env := by rfl) : VKs X fx W (e :: es) (o :: ks) (econs fa fs) := PA.imp (pa_cons ha hs hst) fun σ H Q h => by
  obtain ⟨env, F, fp, S, P⟩ := h
  refine ⟨env, F, fp, S, ?_⟩
  unfold econs at P
  cases ea : fa env with
  | no => rw [ea] at P; exact P
  | ex c fs e => rw [ea] at P; exact P
  | ok a =>
    obtain ⟨t, e1⟩ := a
    rw [ea] at P
    intro v F1 H1 fp1 f1 S1 o1 nd1 off1 g1 ev1
    refine ⟨e1, F1, fp1, S1, ?_⟩
    have d1 : ∀ p ∈ f1, p ∉ fp1 := fun p hp hq => (List.nodup_append.mp nd1).2.2 p hq p hp rfl
    cases eb : fs e1 with
    | no => simp only [bnd, eb] at P; exact P
    | ex c fs e =>
      simp only [bnd, eb] at P
      intro cls d F' H' fp' S' x g'
      exact P cls d F' H' fp' S' x ((g1.less fun p hp => List.mem_append_left _ hp).trans g')
    | ok b =>
      obtain ⟨ts, e2⟩ := b
      simp only [bnd, eb] at P
      intro vs F2 H2 fp2 f2 S2 o2 nd2 off2 g2 ev2 hl2
      obtain ⟨o1', off1', d1'⟩ := o1.go off1 g2 d1
      refine P (v :: vs) F2 H2 fp2 (f1 ++ f2) S2 (by simp only [Owns]; exact ⟨v, vs, f1, f2, rfl, o1', o2, rfl⟩) (nodup_two (F2 := F2) nd1 nd2 d1') (fun p hp => ?_) (g1.frame2 g2) (fun j i hj => ?_) (by simp [hl2])
      · rcases List.mem_append.mp hp with z | z
        · exact off1' p z
        · exact off2 p z
      · cases j with
        | zero => exact ⟨v, rfl, ev1 i (by simpa using hj)⟩
        | succ j =>
          obtain ⟨u, hu, hs⟩ := ev2 j i (by simpa using hj)
          exact ⟨u, by simpa using hu, hs⟩

/-! ### behind the call: the names whose objects it changed -/
def puts : List (Option Nat) → List (Option T) → En → Option En
  | some i :: ks, u :: us, e => match e[i]? with
    | some none => puts ks us (e.set i u)
    | _ => none
  | none :: ks, _ :: us, e => puts ks us e
  | _, _, e => some e
theorem puts_ok {G : Kt} {F H : Hp} {σ : St} : ∀ {ks : List (Option Nat)} {us : List (Option T)} {vs : List V} {e e' : En} {fp fq : List Addr}, Sta G fx e F σ H fp → OwnE G F H us (vs.map some) fq → (fp ++ fq).Nodup → (∀ p ∈ fq, F p = none) →
    (∀ (j i : Nat), ks[j]? = some (some i) → ∃ v, vs[j]? = some v ∧ σ[i]? = some (some v)) → puts ks us e = some e' → ∃ fp', Sta G fx e' F σ H fp' ∧ ∀ p ∈ fp', p ∈ fp ++ fq
  | [], us, vs, e, e', fp, fq, S, o, nd, off, ev, h => by
    have h' : e = e' := by cases us <;> exact Option.some.inj h
    subst h'
    exact ⟨fp, S, fun p hp => List.mem_append_left _ hp⟩
  | none :: ks, [], vs, e, e', fp, fq, S, o, nd, off, ev, h => by
    cases h
    exact ⟨fp, S, fun p hp => List.mem_append_left _ hp⟩
  | some i :: ks, [], vs, e, e', fp, fq, S, o, nd, off, ev, h => by
    cases h
    exact ⟨fp, S, fun p hp => List.mem_append_left _ hp⟩
  | none :: ks, u :: us, vs, e, e', fp, fq, S, o, nd, off, ev, h => by
    have h' : puts ks us e = some e' := h
    cases vs with
    | nil => have := o.there; simp at this
    | cons v vs =>
      have ev' : ∀ (j i : Nat), ks[j]? = some (some i) → ∃ v, vs[j]? = some v ∧ σ[i]? = some (some v) := fun j i hj => by
        obtain ⟨w, h1, h2⟩ := ev (j + 1) i (by simpa using hj)
        exact ⟨w, by simpa using h1, h2⟩
      cases u with
      | none =>
        simp only [List.map, OwnE] at o
        obtain ⟨v', r, e1, o⟩ := o
        cases e1
        exact puts_ok S o nd off ev' h'
      | some t =>
        simp only [List.map, OwnE] at o
        obtain ⟨v', r, f1, f2, e1, o1, o, rfl⟩ := o
        cases e1
        obtain ⟨fp', S', sub⟩ := puts_ok S o (by
          rw [List.nodup_append] at nd ⊢
          exact ⟨nd.1, (List.nodup_append.mp nd.2.1).2.1, fun a ha b hb => nd.2.2 a ha b (List.mem_append_right _ hb)⟩) (fun p hp => off p (List.mem_append_right _ hp)) ev' h'
        exact ⟨fp', S', fun p hp => (List.mem_append.mp (sub p hp)).elim (List.mem_append_left _) fun z => List.mem_append_right _ (List.mem_append_right _ z)⟩
  | some i :: ks, u :: us, vs, e, e', fp, fq, S, o, nd, off, ev, h => by
    unfold puts at h
    split at h
    · rename_i en
      cases vs with
      | nil => have := o.there; simp at this
      | cons v vs =>
        have ev' : ∀ (j i : Nat), ks[j]? = some (some i) → ∃ v, vs[j]? = some v ∧ σ[i]? = some (some v) := fun j i hj => by
          obtain ⟨w, h1, h2⟩ := ev (j + 1) i (by simpa using hj)
          exact ⟨w, by simpa using h1, h2⟩
        obtain ⟨w, hw, hs⟩ := ev 0 i rfl
        have ew : v = w := by simpa using hw
        subst ew
        obtain ⟨a, b, c, s, rfl, hs', ob, k⟩ := S.own.split en
        have eb : b = [] := ob
        subst eb
        rw [List.nil_append] at nd S
        cases u with
        | none =>
          simp only [List.map, OwnE] at o
          obtain ⟨v', r, e1, o⟩ := o
          cases e1
          have k' := k F H none (some v) [] (.refl _) (fun _ _ _ e => e) rfl
          rw [set_self hs, List.nil_append] at k'
          obtain ⟨fp', S', sub⟩ := puts_ok (e := e.set i none) ⟨k', (List.nodup_append.mp nd).1, S.off, S.sub, S.fix, S.pin⟩ o nd off ev' h
          exact ⟨fp', S', by simpa using sub⟩
        | some t =>
          simp only [List.map, OwnE] at o
          obtain ⟨v', r, f1, f2, e1, o1, o, rfl⟩ := o
          cases e1
          have k' := k F H (some t) (some v) f1 (.refl _) (fun _ _ _ e => e) ⟨v, rfl, o1⟩
          rw [set_self hs] at k'
          have pm : (a ++ c ++ (f1 ++ f2)).Perm (a ++ (f1 ++ c) ++ f2) := by
            simp only [List.append_assoc]
            refine List.Perm.append_left a ?_
            have e1 := (List.perm_append_comm (l₁ := c) (l₂ := f1)).append_right f2
            simpa only [List.append_assoc] using e1
          have nd' := pm.nodup_iff.mp nd
          obtain ⟨fp', S', sub⟩ := puts_ok (e := e.set i (some t)) ⟨k', (List.nodup_append.mp nd').1, fun p hp => by
            simp only [List.mem_append] at hp
            rcases hp with z | z | z
            · exact S.off p (by simp [z])
            · exact off p (by simp [z])
            · exact S.off p (by simp [z]), S.sub, S.fix, S.pin⟩ o nd' (fun p hp => off p (List.mem_append_right _ hp)) ev' h
          exact ⟨fp', S', fun p hp => by
            have := pm.mem_iff.mpr (sub p hp)
            simpa using this⟩
    · cases h
/-- a call: the arguments, the def, the names put back -/
def callE (sem : FS) (ks : List (Option Nat)) (fs : En → R En (List T × En)) : En → R En (T × En) := fun env => bnd (fs env) fun a => match sem a.1 with
  | .ok (t, us) => ofO (puts ks us a.2) fun e => .ok (t, e)
  | .ex c xs us => ofO (puts ks us a.2) fun e => .ex c xs e
  | .no => .no
/-- the def runs, from arguments that are held -/
theorem call_of {G : Kt} {σ : St} {H : Hp} {Q : VK} {n : Nat} {sem : FS} {ks : List (Option Nat)} {fs : En → R En (List T × En)} (hn : ks.length = n)
    (h : tV G fx W (callE sem ks fs) σ H Q) : tVk G fx W ks fs σ H fun vs H1 => spF G n sem (vs ++ []) H1 Q (WE W σ) := by
  obtain ⟨env, F, fp, S, P⟩ := h
  refine ⟨env, F, fp, S, ?_⟩
  unfold callE at P
  cases ea : fs env with
  | no => rw [ea] at P; exact P
  | ex c fs e => rw [ea] at P; exact P
  | ok a =>
    obtain ⟨ts, e⟩ := a
    rw [ea] at P
    intro vs F1 H1 fp1 ft S1 o nd off g1 ev hl
    rw [List.append_nil]
    refine ⟨hl.trans hn, ts, F1, ft, o, (List.nodup_append.mp nd).2.1, off, S1.sub, ?_⟩
    dsimp only [bnd] at P
    have d1 : ∀ p ∈ fp1, p ∉ ft := fun p hp hq => (List.nodup_append.mp nd).2.2 p hp p hq rfl
    cases es : sem ts with
    | no => rw [es] at P; exact P
    | ok b =>
      obtain ⟨t, us⟩ := b
      rw [es] at P
      intro v F2 H2 fp2 f2 ou ot nd2 off2 sub2 g2
      dsimp only at P
      cases ep : puts ks us e with
      | none => rw [ep] at P; exact P.elim
      | some e' =>
        rw [ep] at P
        have fr : Go F1 H1 (ft ++ fp1) F2 H2 ((fp2 ++ f2) ++ fp1) := g2.frame
        have d1' : ∀ p ∈ fp1, F2 p = none ∧ p ∉ fp2 ++ f2 := fun p hp => by
          obtain ⟨u, hu⟩ := S1.own.is p hp
          refine ⟨?_, fun z => ?_⟩
          · cases q : F2 p with
            | none => rfl
            | some o =>
              rcases g2.fn p o q with z | z | z
              · rw [S1.off p hp] at z; cases z
              · rw [hu] at z; cases z
              · exact absurd z (d1 p hp)
          · rcases g2.own p z with z | z
            · exact d1 p hp z
            · rw [hu] at z; cases z
        have S2 : Sta G fx e F2 σ H2 fp1 := ⟨OwnE.mono g2.f _ _ _ (fun p hp o q => g2.h p o q (d1 p hp)) S1.own, S1.nd, fun p hp => (d1' p hp).1, sub2, S1.fix, fun q h => (S1.pin q h).mono g2.f⟩
        obtain ⟨fp', S', sub⟩ := puts_ok (fp := fp1) (fq := fp2) S2 ou (by
          rw [List.nodup_append]
          exact ⟨S1.nd, (List.nodup_append.mp nd2).1, fun a ha b hb e => by
            subst e
            exact (d1' a ha).2 (List.mem_append_left _ hb)⟩) (fun p hp => off2 p (List.mem_append_left _ hp)) ev ep
        refine P v F2 H2 fp' f2 S' ot ?_ (fun p hp => off2 p (List.mem_append_right _ hp)) ?_
        · refine List.nodup_append.mpr ⟨S'.nd, (List.nodup_append.mp nd2).2.1, fun a ha b hb e => ?_⟩
          subst e
          rcases List.mem_append.mp (sub a ha) with z | z
          · exact (d1' a z).2 (List.mem_append_right _ hb)
          · exact (List.nodup_append.mp nd2).2.2 a z a hb rfl
        · refine ((g1.trans ((fr.more fun p hp => ?_))).less fun p hp => ?_)
          · simp only [List.mem_append] at hp ⊢
            exact hp.symm
          · simp only [List.mem_append] at hp ⊢
            rcases hp with z | z
            · rcases List.mem_append.mp (sub p z) with y | y
              · exact .inr y
              · exact .inl (.inl y)
            · exact .inl (.inr z)
    | ex c xs us =>
      rw [es] at P
      intro cls d F2 H2 fp2 ou nd2 off2 sub2 x g2
      dsimp only at P
      cases ep : puts ks us e with
      | none => rw [ep] at P; exact P.elim
      | some e' =>
        rw [ep] at P
        have fr : Go F1 H1 (ft ++ fp1) F2 H2 (fp2 ++ fp1) := g2.frame
        have d1' : ∀ p ∈ fp1, F2 p = none ∧ p ∉ fp2 := fun p hp => by
          obtain ⟨u, hu⟩ := S1.own.is p hp
          refine ⟨?_, fun z => ?_⟩
          · cases q : F2 p with
            | none => rfl
            | some o =>
              rcases g2.fn p o q with z | z | z
              · rw [S1.off p hp] at z; cases z
              · rw [hu] at z; cases z
              · exact absurd z (d1 p hp)
          · rcases g2.own p z with z | z
            · exact d1 p hp z
            · rw [hu] at z; cases z
        have S2 : Sta G fx e F2 σ H2 fp1 := ⟨OwnE.mono g2.f _ _ _ (fun p hp o q => g2.h p o q (d1 p hp)) S1.own, S1.nd, fun p hp => (d1' p hp).1, sub2, S1.fix, fun q h => (S1.pin q h).mono g2.f⟩
        obtain ⟨fp', S', sub⟩ := puts_ok (fp := fp1) (fq := fp2) S2 ou (by
          rw [List.nodup_append]
          exact ⟨S1.nd, nd2, fun a ha b hb e => by
            subst e
            exact (d1' a ha).2 hb⟩) off2 ev ep
        refine P cls d F2 H2 fp' S' x ((g1.trans ((fr.more fun p hp => ?_))).less fun p hp => ?_)
        · simp only [List.mem_append] at hp ⊢
          exact hp.symm
        · simp only [List.mem_append]
          rcases List.mem_append.mp (sub p hp) with y | y
          · exact .inr y
          · exact .inl y
theorem ve_call {k : Nat} {f : Addr} {fd : FuncData} {ps : List Str} {sem : FS} {x : Str} {p pos : Pos} {e : Expr} {es : List Expr} {ks : List (Option Nat)} {fs : En → R En (List T × En)} (F : VF X.prog X.w X.K X.mg X.base k f fd ps sem) (hr : Room k X.A) (hg : Gl X x) (hm : X.mg x = some (.ref f))
    (hk : PySem.W.keepIn X.K (.ref f) = true) (hb : Binds X.K fd ps []) (tk : Takes X W) (ha : VKs X fx W (e :: es) ks fs) (hn : ks.length = ps.length := by rfl) (hdb : (x == ("__debug__" : Str)) = false := by decide)
    (he : starEach (e :: es) X.env = (false, eval e X.env) :: starEach es X.env := by rfl) (hpl : (backTo pos (starEach es X.env)).any (·.1) = false := by rfl) : VE X fx W (.Call (.Name x p) (e :: es) [] pos) (callE sem ks fs) :=
  PE.imp (pe_callSD F hr hg hm hk hb .nil (fun σ => passAt tk σ) ha hdb he hpl) fun σ H Q h => call_of (G := kt X) hn h
/-- a call that changes nothing: shared arguments, its value looked at -/
def callB (n : Nat) (sem : FS) (gs : En → R En (List T)) : En → R En T := fun env => bnd (gs env) fun ts => if ts.length = n then ofO (shs ts) (fun _ => match sem ts with
  | .ok (t, _) => .ok t
  | .ex c xs _ => .ex c xs env
  | .no => .no) else .no
theorem Owns.fp_nil {G : Kt} {F H : Hp} {ds : List D} {vs : List V} {fp : List Addr} (r : Reps G F ds vs) : Owns G F H (ds.map T.s) vs [] := r.owns
theorem vb_call {k : Nat} {f : Addr} {fd : FuncData} {ps : List Str} {sem : FS} {x : Str} {p pos : Pos} {e : Expr} {es : List Expr} {gs : En → R En (List T)} (F : VF X.prog X.w X.K X.mg X.base k f fd ps sem) (hr : Room k X.A) (hg : Gl X x) (hm : X.mg x = some (.ref f))
    (hk : PySem.W.keepIn X.K (.ref f) = true) (hb : Binds X.K fd ps []) (tk : Takes X W) (ha : VBs X fx W (e :: es) gs) (hdb : (x == ("__debug__" : Str)) = false := by decide)
    (he : starEach (e :: es) X.env = (false, eval e X.env) :: starEach es X.env := by rfl) (hpl : (backTo pos (starEach es X.env)).any (·.1) = false := by rfl) : VB X fx W (.Call (.Name x p) (e :: es) [] pos) (callB ps.length sem gs) :=
  PE.imp (pe_callSD F hr hg hm hk hb .nil (fun σ => passAt tk σ) ha hdb he hpl) fun σ H Q h => by
    obtain ⟨env, F0, fp, S, P⟩ := h
    refine ⟨env, F0, fp, S, ?_⟩
    unfold callB at P
    cases ea : gs env with
    | no => rw [ea] at P; exact P
    | ex c fs e => rw [ea] at P; exact P
    | ok ts =>
      rw [ea] at P
      dsimp only [bnd] at P
      by_cases hl : ts.length = ps.length
      case neg => rw [if_neg hl] at P; exact P.elim
      rw [if_pos hl] at P
      cases es : shs ts with
      | none => rw [es] at P; exact P.elim
      | some ds =>
        rw [es] at P
        have e' := shs_eq es
        subst e'
        intro vs F1 H1 g1 b
        rw [List.append_nil]
        refine ⟨by rw [b.len]; exact hl, ds.map T.s, F1, [], b.shs.owns, List.nodup_nil, by simp, g1.sub, ?_⟩
        dsimp only [ofO] at P
        cases esem : sem (ds.map T.s) with
        | no => rw [esem] at P; exact P
        | ok a =>
          obtain ⟨t, us⟩ := a
          rw [esem] at P
          intro v F2 H2 fp2 f2 ou ot nd2 off2 sub2 g2
          have gg : Grow F1 H1 F2 H2 := ⟨g2.f, fun p o h => g2.h p o h (by simp), fun p o h => (g2.fn p o h).imp id fun z => z.elim id (by simp), sub2⟩
          exact P v F2 H2 (g1.trans gg) ot.bor
        | ex c xs us =>
          rw [esem] at P
          intro cls d F2 H2 fp2 ou nd2 off2 sub2 x g2
          have gg : Grow F1 H1 F2 H2 := ⟨g2.f, fun p o h => g2.h p o h (by simp), fun p o h => (g2.fn p o h).imp id fun z => z.elim id (by simp), sub2⟩
          exact P cls d F2 H2 fp (S.grow (g1.trans gg)) x ((g1.trans gg).go fp)
end

/-! ### a def's body -/
def outs : List Bool → En → List (Option T)
  | [], _ => []
  | true :: io, x :: e => x :: outs io e
  | false :: io, _ :: e => none :: outs io e
  | _ :: io, [] => none :: outs io []
def finF (io : List Bool) (n : Nat) (fb : En → R En (Fl × En)) : FS := fun ts => match fb (ts.map some ++ List.replicate (n - ts.length) none) with
  | .ok (.rt t, e) => .ok (t, outs io e)
  | .ok (.nx, e) => .ok (.s .non, outs io e)
  | .ok (.bk, _) => .no
  | .ok (.ct, _) => .no
  | .ex c fs e => .ex c fs (outs io e)
  | .no => .no
def fxOf (io : List Bool) (vs : List V) : Fx := ⟨(List.range io.length).filterMap fun j => if io[j]? = some true then (vs[j]?).map fun v => (j, v) else none, []⟩
theorem mem_fxOf {io : List Bool} {vs : List V} {q : Nat × V} : q ∈ fxOf io vs ↔ io[q.1]? = some true ∧ vs[q.1]? = some q.2 := by
  show q ∈ (List.range io.length).filterMap _ ↔ _
  rw [List.mem_filterMap]
  constructor
  · rintro ⟨j, hj, e⟩
    split at e
    · rename_i hb
      rw [Option.map_eq_some_iff] at e
      obtain ⟨v, hv, rfl⟩ := e
      exact ⟨hb, hv⟩
    · cases e
  · rintro ⟨h1, h2⟩
    exact ⟨q.1, List.mem_range.mpr (List.getElem?_eq_some_iff.mp h1).1, by rw [if_pos h1, h2]; rfl⟩
theorem fx_ne {io : List Bool} {vs : List V} {i : Nat} (h : io[i]? ≠ some true) : ∀ q ∈ fxOf io vs, q.1 ≠ i := fun q hq e => h (e ▸ (mem_fxOf.mp hq).1)
theorem Owns.start {G : Kt} {F H : Hp} : ∀ {ts : List T} {vs : List V} {fp : List Addr} (m : Nat), Owns G F H ts vs fp → OwnE G F H (ts.map some ++ List.replicate m none) (vs.map some ++ List.replicate m none) fp
  | [], vs, fp, m, h => by
    simp only [Owns] at h
    obtain ⟨rfl, rfl⟩ := h
    simp only [List.map_nil, List.nil_append]
    induction m with
    | zero => exact ⟨rfl, rfl⟩
    | succ m ih =>
      rw [List.replicate_succ, List.replicate_succ]
      exact ⟨none, _, rfl, ih⟩
  | t :: ts, vs, fp, m, h => by
    simp only [Owns] at h
    obtain ⟨v, r, f1, f2, rfl, h1, h2, rfl⟩ := h
    exact ⟨v, _, f1, f2, rfl, h1, Owns.start m h2, rfl⟩
theorem outs_ok {G : Kt} {F H : Hp} : ∀ {io : List Bool} {e : En} {σ : L2.St} {vs : List V} {fp : List Addr}, OwnE G F H e σ fp → vs.length = io.length → (∀ (j : Nat) (v : V), io[j]? = some true → vs[j]? = some v → σ[j]? = some (some v)) →
    ∃ fq, OwnE G F H (outs io e) (vs.map some) fq ∧ fq.Sublist fp
  | [], e, σ, vs, fp, o, hl, hj => by
    cases vs with
    | nil => exact ⟨[], ⟨rfl, rfl⟩, List.nil_sublist _⟩
    | cons _ _ => simp at hl
  | b :: io, [], σ, vs, fp, o, hl, hj => by
    cases vs with
    | nil => simp at hl
    | cons v vs =>
      simp only [OwnE] at o
      obtain ⟨rfl, rfl⟩ := o
      obtain ⟨fq, o', s⟩ := outs_ok (io := io) (e := []) (σ := []) (vs := vs) (fp := []) ⟨rfl, rfl⟩ (by simpa using hl) fun j v' h1 h2 => by
        have := hj (j + 1) v' (by simpa using h1) (by simpa using h2)
        simp at this
      refine ⟨fq, ?_, s⟩
      cases b <;> exact ⟨some v, _, rfl, o'⟩
  | b :: io, x :: e, σ, vs, fp, o, hl, hj => by
    cases vs with
    | nil => simp at hl
    | cons v vs =>
      cases x with
      | none =>
        simp only [OwnE] at o
        obtain ⟨s, r, rfl, o⟩ := o
        obtain ⟨fq, o', s'⟩ := outs_ok (io := io) (vs := vs) o (by simpa using hl) fun j v' h1 h2 => by
          simpa using hj (j + 1) v' (by simpa using h1) (by simpa using h2)
        refine ⟨fq, ?_, s'⟩
        cases b <;> exact ⟨some v, _, rfl, o'⟩
      | some t =>
        simp only [OwnE] at o
        obtain ⟨u, r, f1, f2, rfl, o1, o, rfl⟩ := o
        obtain ⟨fq, o', s'⟩ := outs_ok (io := io) (vs := vs) o (by simpa using hl) fun j v' h1 h2 => by
          simpa using hj (j + 1) v' (by simpa using h1) (by simpa using h2)
        cases b with
        | false => exact ⟨fq, ⟨some v, _, rfl, o'⟩, s'.trans (List.sublist_append_right _ _)⟩
        | true =>
          have e0 := hj 0 v rfl rfl
          have e1 : u = v := by simpa using e0
          subst e1
          exact ⟨f1 ++ fq, ⟨u, _, f1, fq, rfl, o1, o', rfl⟩, (List.Sublist.refl f1).append s'⟩
section
variable {P : Program} {w : World} {K : PySem.W.Frag} {mg : Str → Option Value} {base : Heap}
/-- how the body of a def begins -/
theorem sp_start {N ps : List Str} {io : List Bool} {fb : En → R En (Fl × En)} {vs : List V} {H : Hp} {Q : VK} {E : XK} (hio : io.length = ps.length) (h : spF ⟨K, mg⟩ ps.length (finF io N.length fb) vs H Q E) :
    tS ⟨K, mg⟩ (fxOf io vs) (fun cls d _ H => E cls d H) fb { nx := fun _ H' => Q .non H', rt := Q } (L2.start N vs) H := by
  obtain ⟨hl, ts, F0, fp, o, nd, off, sub, P⟩ := h
  refine ⟨ts.map some ++ List.replicate (N.length - ts.length) none, F0, fp, ⟨?_, nd, off, sub, fun q hq => ?_, fun q h => nomatch h⟩, ?_⟩
  · have e := (Owns.bor _ _ _ o).len
    show OwnE _ F0 H _ (L2.start N vs) fp
    unfold L2.start
    rw [e]
    exact o.start _
  · have h1 := (mem_fxOf.mp hq).2
    show (L2.start N vs)[q.1]? = _
    unfold L2.start
    have hlt := (List.getElem?_eq_some_iff.mp h1).1
    rw [List.getElem?_append_left (by simpa using hlt), List.getElem?_map, h1]
    rfl
  · unfold finF at P
    have fin : ∀ {e : En} {F' : Hp} {σ' : L2.St} {H' : Hp} {fp' : List Addr}, Sta ⟨K, mg⟩ (fxOf io vs) e F' σ' H' fp' → ∃ fq, OwnE ⟨K, mg⟩ F' H' (outs io e) (vs.map some) fq ∧ fq.Sublist fp' := fun {e F' σ' H' fp'} S' =>
      outs_ok S'.own (hl.trans hio.symm) fun j v h1 h2 => S'.fix (j, v) (mem_fxOf.mpr ⟨h1, h2⟩)
    cases eb : fb (ts.map some ++ List.replicate (N.length - ts.length) none) with
    | no => rw [eb] at P; exact P
    | ex c fs e =>
      rw [eb] at P
      intro cls d σ' F' H' fp' S' x g
      obtain ⟨fq, ou, sl⟩ := fin S'
      exact P cls d F' H' fq ou (S'.nd.sublist sl) (fun p hp => S'.off p (sl.subset hp)) S'.sub x (g.less fun p hp => sl.subset hp)
    | ok a =>
      obtain ⟨fl, e⟩ := a
      rw [eb] at P
      cases fl with
      | bk => exact P.elim
      | ct => exact P.elim
      | nx =>
        intro σ' F' H' fp' S' g
        obtain ⟨fq, ou, sl⟩ := fin S'
        exact P .non F' H' fq [] ou ⟨by simp only [Rep], rfl⟩ (by rw [List.append_nil]; exact S'.nd.sublist sl) (fun p hp => S'.off p (sl.subset (by simpa using hp))) S'.sub (by rw [List.append_nil]; exact g.less fun p hp => sl.subset hp)
      | rt t =>
        intro v σ' F' H' fp' ft S' ot nd' off' g
        obtain ⟨fq, ou, sl⟩ := fin S'
        refine P v F' H' fq ft ou ot (nd'.sublist (sl.append (List.Sublist.refl ft))) (fun p hp => ?_) S'.sub (g.less fun p hp => ?_)
        · rcases List.mem_append.mp hp with z | z
          · exact S'.off p (sl.subset z)
          · exact off' p z
        · rcases List.mem_append.mp hp with z | z
          · exact List.mem_append_left _ (sl.subset z)
          · exact List.mem_append_right _ z
theorem vf_mk {x qual : Str} {st : Stmt} {f : Addr} {fd : FuncData} {N ps : List Str} {k : Nat} {io : List Bool} {fb : En → R En (Fl × En)} (F : Fun K x qual st f fd) (S : FnScope N ps (defScope st)) (hio : io.length = ps.length)
    (body : ∀ (cdv : Value) (A : Around) (outer : List Env) (s : Shared) (H : Hp) (vs : List V) (E : XK), Room k (A.deeper (envOfC qual (defScope st) s.heap.objs.size f cdv)) →
      VSs (cxOf (L2.CX P w) P w K mg base N qual (defScope st) f cdv A outer s H E) (fxOf io vs) (fun cls d _ H => E cls d H) (defBody st) fb) : VF P w K mg base (k + 1) f fd ps (finF io N.length fb) := by
  exact F.okX S (fun vs H Q E h => h.1) (fun cdv A outer s H vs Q E hr h => ⟨_, body cdv A outer s H vs E hr, sp_start hio h⟩)
end
end VS
namespace VS
open PySem PySem.Spec L2
open PyProof.Rows hiding St

/-! ### calls of built-in functions -/
section
variable {G : Kt} {F H : Hp} {Q : V → Hp → Prop}
theorem Bors.one {t : T} {vs : List V} (b : Bors G F H [t] vs) : ∃ v, vs = [v] ∧ Bor G F H t v := by
  simp only [Bors] at b
  obtain ⟨v, r, rfl, h, rfl⟩ := b
  exact ⟨v, rfl, h⟩
theorem Bors.two {t u : T} {vs : List V} (b : Bors G F H [t, u] vs) : ∃ v w, vs = [v, w] ∧ Bor G F H t v ∧ Bor G F H u w := by
  simp only [Bors] at b
  obtain ⟨v, r, rfl, h, w, r2, rfl, h2, rfl⟩ := b
  exact ⟨v, w, rfl, h, h2⟩
def lenT : T → Option Nat
  | .s (.str z) => if z.length ≤ sizeLine then some z.length else none
  | .s (.lst ds) => some ds.length
  | .s (.tup ds) => some ds.length
  | .l ts => some ts.length
  | .dk kvs => some kvs.length
  | _ => none
def pLen : List T → Option T
  | [t] => (lenT t).map fun n => .s (.int n)
  | _ => none
def rLen (K : PySem.W.Frag) : List V → Hp → VK → Prop := fun xs H Q => (∃ x n, xs = [x] ∧ LenV K x H n ∧ Q (.int n) H) ∨ (∃ a kvs, xs = [V.ref a] ∧ H a = some (.dK kvs) ∧ Q (.int kvs.length) H)
theorem call_lenA {X : Cx} : CallR X (.builtin "len") (rLen X.K) := call_len.or call_lenD
theorem prim_len : PrimN G (rLen G.K) pLen := by
  intro ts xs F H Q s b p
  unfold pLen at p
  split at p
  · rename_i t
    have b0 := b.one
    clear b
    obtain ⟨v, rfl, b⟩ := b0
    cases e : lenT t with
    | none => rw [e] at p; exact p.elim
    | some n =>
      rw [e] at p
      have q : Q (.int n) H := PR.val s p (by simp only [Rep])
      unfold lenT at e
      split at e
      · simp only [Bor, Rep] at b
        subst b
        split at e
        · cases e; exact .inl ⟨_, _, rfl, ⟨by assumption, rfl⟩, q⟩
        · cases e
      · cases e
        obtain ⟨a, vs, rfl, h1, r⟩ := ls_rep s b rfl
        exact .inl ⟨_, _, rfl, .inl ⟨vs, .of h1, rfl⟩, by rw [r.len]; exact q⟩
      · cases e
        obtain ⟨a, vs, rfl, h1, r⟩ := tp_rep s b rfl
        exact .inl ⟨_, _, rfl, .inr ⟨vs, h1.sq, rfl⟩, by rw [r.len]; exact q⟩
      · cases e
        simp only [Bor] at b
        obtain ⟨a, vs, rfl, h1, r⟩ := b
        exact .inl ⟨_, _, rfl, .inl ⟨vs, .of h1, rfl⟩, by rw [r.len]; exact q⟩
      · cases e
        simp only [Bor] at b
        obtain ⟨a, vs, rfl, h1, r⟩ := b
        exact .inr ⟨a, vs, rfl, h1, by rw [r.len]; exact q⟩
      · cases e
  · exact p.elim
def pAbs : List T → Option T
  | [.s (.int i)] => some (.s (.int (if i < 0 then -i else i)))
  | _ => none
theorem prim_abs : PrimN G (fun xs H Q => ∃ i, xs = [.int i] ∧ Q (.int (if i < 0 then -i else i)) H) pAbs := by
  intro ts xs F H Q s b p
  unfold pAbs at p
  split at p
  · have b0 := b.one
    clear b
    obtain ⟨v, rfl, b⟩ := b0
    simp only [Bor, Rep] at b
    subst b
    exact ⟨_, rfl, PR.val s p (by simp only [Rep])⟩
  · exact p.elim
def pInt : List T → Option T
  | [.s (.int i)] => some (.s (.int i))
  | [.s (.bl k)] => some (.s (.int (if k then 1 else 0)))
  | _ => none
theorem prim_int : PrimN G (fun xs H Q => (∃ i, xs = [.int i] ∧ Q (.int i) H) ∨ ∃ k, xs = [.bl k] ∧ Q (.int (if k then 1 else 0)) H) pInt := by
  intro ts xs F H Q s b p
  unfold pInt at p
  split at p
  · have b0 := b.one
    clear b
    obtain ⟨v, rfl, b⟩ := b0
    simp only [Bor, Rep] at b
    subst b
    exact .inl ⟨_, rfl, PR.val s p (by simp only [Rep])⟩
  · have b0 := b.one
    clear b
    obtain ⟨v, rfl, b⟩ := b0
    simp only [Bor, Rep] at b
    subst b
    exact .inr ⟨_, rfl, PR.val s p (by simp only [Rep])⟩
  · exact p.elim
def pMax2 : List T → Option T
  | [.s (.int i), .s (.int j)] => some (.s (.int (if j > i then j else i)))
  | _ => none
theorem prim_max2 : PrimN G (fun xs H Q => ∃ i j, xs = [.int i, .int j] ∧ Q (.int (if j > i then j else i)) H) pMax2 := by
  intro ts xs F H Q s b p
  unfold pMax2 at p
  split at p
  · obtain ⟨v, w, rfl, b1, b2⟩ := b.two
    simp only [Bor, Rep] at b1 b2
    subst b1 b2
    exact ⟨_, _, rfl, PR.val s p (by simp only [Rep])⟩
  · exact p.elim
def pMin2 : List T → Option T
  | [.s (.int i), .s (.int j)] => some (.s (.int (if j < i then j else i)))
  | _ => none
theorem prim_min2 : PrimN G (fun xs H Q => ∃ i j, xs = [.int i, .int j] ∧ Q (.int (if j < i then j else i)) H) pMin2 := by
  intro ts xs F H Q s b p
  unfold pMin2 at p
  split at p
  · obtain ⟨v, w, rfl, b1, b2⟩ := b.two
    simp only [Bor, Rep] at b1 b2
    subst b1 b2
    exact ⟨_, _, rfl, PR.val s p (by simp only [Rep])⟩
  · exact p.elim
/-- list(x) of a list, a tuple, the script -/
def pList : List T → Option T
  | [.s (.tup ds)] => some (.l (ds.map T.s))
  | [.s (.scr ns)] => some (.l ((ns.map D.int).map T.s))
  | [t] => t.ls.map fun ds => .l (ds.map T.s)
  | _ => none
theorem Reps.ints : ∀ ns : List Int, Reps G F (ns.map D.int) (ns.map V.int)
  | [] => by simp [Reps]
  | n :: ns => by
    simp only [List.map, Reps, Rep]
    exact ⟨_, _, rfl, rfl, Reps.ints ns⟩
theorem prim_list : PrimN G (fun xs H Q => ∃ p ys, xs = [.ref p] ∧ (SqL G.K H p ys ∨ SqT G.K H p ys) ∧ ∀ l, H l = none → Q (.ref l) (upd H l (.lst ys))) pList := by
  intro ts xs F H Q s b p
  unfold pList at p
  split at p
  · have b0 := b.one
    clear b
    obtain ⟨v, rfl, b⟩ := b0
    obtain ⟨a, vs, rfl, h1, r⟩ := tp_rep s b rfl
    exact ⟨a, vs, rfl, .inr h1.sq, PR.lst s p r⟩
  · have b0 := b.one
    clear b
    obtain ⟨v, rfl, b⟩ := b0
    simp only [Bor, Rep] at b
    obtain ⟨a, rfl, h1⟩ := b
    exact ⟨a, _, rfl, .inl (sq_monoL s h1), PR.lst s p (Reps.ints _)⟩
  · rename_i t _ _
    have b0 := b.one
    clear b
    obtain ⟨v, rfl, b⟩ := b0
    cases e : t.ls with
    | none => rw [e] at p; exact p.elim
    | some ds =>
      rw [e] at p
      obtain ⟨a, vs, rfl, h1, r⟩ := ls_rep s b e
      exact ⟨a, vs, rfl, .inl (.of h1), PR.lst s p r⟩
  · exact p.elim
def pTuple : List T → Option T
  | [.s (.tup ds)] => some (.s (.tup ds))
  | [t] => t.ls.map fun ds => .s (.tup ds)
  | _ => none
theorem prim_tuple : PrimN G (fun xs H Q => ∃ p ys, xs = [.ref p] ∧ ((SqL G.K H p ys ∧ ∀ l, H l = none → Q (.ref l) (upd H l (.tup ys))) ∨ (SqT G.K H p ys ∧ Q (.ref p) H))) pTuple := by
  intro ts xs F H Q s b p
  unfold pTuple at p
  split at p
  · have b0 := b.one
    clear b
    obtain ⟨v, rfl, b⟩ := b0
    have b9 := b
    obtain ⟨a, vs, rfl, h1, r⟩ := tp_rep s b rfl
    exact ⟨a, vs, rfl, .inr ⟨h1.sq, PR.val s p b9⟩⟩
  · rename_i t _
    have b0 := b.one
    clear b
    obtain ⟨v, rfl, b⟩ := b0
    cases e : t.ls with
    | none => rw [e] at p; exact p.elim
    | some ds =>
      rw [e] at p
      obtain ⟨a, vs, rfl, h1, r⟩ := ls_rep s b e
      exact ⟨a, vs, rfl, .inl ⟨.of h1, PR.tup s p r⟩⟩
  · exact p.elim

/-! ### isinstance -/
def tyN : T → Option String
  | .s .non => some "NoneType"
  | .s (.bl _) => some "bool"
  | .s (.int _) => some "int"
  | .s (.str _) => some "str"
  | .s (.lst _) => some "list"
  | .s (.tup _) => some "tuple"
  | .s (.dk _) => some "dict"
  | .l _ => some "list"
  | .dk _ => some "dict"
  | _ => none
def tyK : List String := ["NoneType", "bool", "int", "str", "list", "tuple", "dict"]
/-- is a built-in type a below b -/
def isTy (a b : String) : Option Bool := if tyK.contains a && tyK.contains b then some (a == b || (a == "bool" && b == "int")) else none
theorem isTy_ok {a b : String} {r : Bool} (h : isTy a b = some r) : kitB a b = some r := by
  unfold isTy at h
  split at h
  · rename_i hc
    rw [Bool.and_eq_true] at hc
    obtain ⟨h1, h2⟩ := hc
    simp only [tyK, List.contains_iff_mem, List.mem_cons, List.not_mem_nil, or_false] at h1 h2
    have all : ∀ a ∈ tyK, ∀ b ∈ tyK, kitB a b = some (a == b || (a == "bool" && b == "int")) := by decide +kernel
    cases h
    exact all a (by simp [tyK]; exact h1) b (by simp [tyK]; exact h2)
  · cases h
theorem tyN_is {K : PySem.W.Frag} {t : T} {v : V} {n : String} (hK : G.K = K) (s : Same F H) (b : Bor G F H t v) (h : tyN t = some n) : TyX K H v (.type n) := by
  subst hK
  unfold tyN at h
  split at h
  · cases h; simp only [Bor, Rep] at b; subst b; exact .base .non
  · cases h; simp only [Bor, Rep] at b; subst b; exact .base (.bl _)
  · cases h; simp only [Bor, Rep] at b; subst b; exact .base (.int _)
  · cases h; simp only [Bor, Rep] at b; subst b; exact .base (.str _)
  · cases h
    obtain ⟨a, vs, rfl, h1, _⟩ := ls_rep s b rfl
    exact .base (.lst h1)
  · cases h
    obtain ⟨a, vs, rfl, h1, _⟩ := tp_rep s b rfl
    rcases h1 with h1 | ⟨o, its, n, e, c, _⟩
    · exact .base (.tup h1)
    · exact .kTuple e c
  · cases h
    simp only [Bor, Rep] at b
    obtain ⟨a, vs, rfl, h1, _⟩ := b
    exact .base (.dK (s _ _ h1))
  · cases h
    simp only [Bor] at b
    obtain ⟨a, vs, rfl, h1, _⟩ := b
    exact .base (.lst h1)
  · cases h
    simp only [Bor] at b
    obtain ⟨a, vs, rfl, h1, _⟩ := b
    exact .base (.dK h1)
  · cases h
def isTys (a : String) : List D → Option Bool
  | [] => some false
  | .ty b :: ds => match isTy a b, isTys a ds with
    | some x, some y => some (x || y)
    | _, _ => none
  | _ :: _ => none
def pIsi : List T → Option T
  | [t, .s (.ty b)] => ((tyN t).bind fun a => isTy a b).map fun k => .s (.bl k)
  | [t, .s (.tup ds)] => ((tyN t).bind fun a => isTys a ds).map fun k => .s (.bl k)
  | _ => none
def rIsiA (K : PySem.W.Frag) : List V → Hp → VK → Prop := fun xs H Q => rIsi K xs H Q ∨ rIsiT K xs H Q ∨ rIsiK K xs H Q
theorem call_isiA {X : Cx} : CallR X (.builtin "isinstance") (rIsiA X.K) := call_isi.or (call_isiT.or call_isiK)
theorem isTys_ok {K : PySem.W.Frag} {a : String} : ∀ {ds : List D} {vs : List V} {r : Bool}, Reps G F ds vs → isTys a ds = some r → ∃ us : List Value, Paired ClsV vs us ∧ PySem.W.kitAny K (.type a) us = some r ∧ ∀ ws, Vals vs ws → ws = us
  | [], vs, r, h, e => by
    simp only [Reps] at h
    subst h
    cases e
    exact ⟨[], .nil, kitAny_nil, fun ws h => by cases h; rfl⟩
  | d :: ds, vs, r, h, e => by
    simp only [Reps] at h
    obtain ⟨v, rest, rfl, h1, h2⟩ := h
    unfold isTys at e
    split at e
    · rename_i q; cases q
    · rename_i b ds' heq
      cases heq
      split at e
      · rename_i x y ex ey
        cases e
        simp only [Rep] at h1
        subst h1
        obtain ⟨us, p, k, al⟩ := isTys_ok h2 ey
        refine ⟨.type b :: us, .cons (.ty b) p, kitAny_cons (kit_ty (isTy_ok ex)) (fun z => by rw [z]; simpa using k) (fun z => by rw [z]; rfl), fun ws hw => ?_⟩
        cases hw with
        | cons r1 r2 => rw [al _ r2, (ClsV.ty b).eq r1]
      · cases e
    · cases e
theorem prim_isi : PrimN G (rIsiA G.K) pIsi := by
  intro ts xs F H Q s b p
  unfold pIsi at p
  split at p
  · rename_i t nm
    obtain ⟨v, w, rfl, b1, b2⟩ := b.two
    simp only [Bor, Rep] at b2
    subst b2
    cases e : (tyN t).bind fun a => isTy a nm with
    | none => rw [e] at p; exact p.elim
    | some k =>
      rw [e] at p
      obtain ⟨a, ea, ek⟩ := Option.bind_eq_some_iff.mp e
      exact .inl ⟨v, _, _, _, k, rfl, .ty nm, tyN_is rfl s b1 ea, kit_ty (isTy_ok ek), PR.bl s p⟩
  · rename_i t ds
    obtain ⟨v, w, rfl, b1, b2⟩ := b.two
    obtain ⟨tp, vs, rfl, h1, r⟩ := tp_rep s b2 rfl
    cases e : (tyN t).bind fun a => isTys a ds with
    | none => rw [e] at p; exact p.elim
    | some k =>
      rw [e] at p
      obtain ⟨a, ea, ek⟩ := Option.bind_eq_some_iff.mp e
      obtain ⟨us, pr, ka, al⟩ := isTys_ok (K := G.K) r ek
      rcases h1 with h1 | ⟨o, its, n, e1, c, dd, hz, hv⟩
      · exact .inr (.inl ⟨v, tp, vs, _, us, k, rfl, h1, pr, tyN_is rfl s b1 ea, ka, PR.bl s p⟩)
      · have eu := al _ hv
        obtain ⟨oc, od, dt, sl⟩ := o
        simp only at c dd
        subst c dd
        exact .inr (.inr ⟨v, tp, od, us, n, sl, _, k, rfl, by rw [← eu]; simpa using e1, tyN_is rfl s b1 ea, ka, PR.bl s p⟩)
  · exact p.elim
end

/-! ### the rules -/
section
variable {X : Cx} {fx : Fx} {W : L2.WX} {e : Expr} {es : List Expr} {p pos : Pos} {id tn : String} {x : Str} {r : List V → Hp → VK → Prop} {g : List T → Option T} {gs : En → R En (List T)} {fs : En → R En (List T × En)}
theorem vb_fn (hc : CallR X (.builtin id) r) (pr : PrimN (kt X) r g) (hg : Gl X x) (hm : X.mg x = none) (hv : bootBuiltins x = some (.builtin id)) (ha : VBs X fx W (e :: es) gs) (hn : x ≠ "__name__" := by decide) (hdb : (x == ("__debug__" : Str)) = false := by decide)
    (he : starEach (e :: es) X.env = (false, eval e X.env) :: starEach es X.env := by rfl) (hpl : (backTo pos (starEach es X.env)).any (·.1) = false := by rfl) : VB X fx W (.Call (.Name x p) (e :: es) [] pos) (bN g gs) :=
  PE.imp (pe_callB hc hg hm hv ha hn hdb he hpl) fun σ H Q h => BBN (X := X) pr h
theorem vv_fn (hc : CallR X (.builtin id) r) (pr : PrimN (kt X) r g) (hg : Gl X x) (hm : X.mg x = none) (hv : bootBuiltins x = some (.builtin id)) (ha : VBs X fx W (e :: es) gs) (hn : x ≠ "__name__" := by decide) (hdb : (x == ("__debug__" : Str)) = false := by decide)
    (he : starEach (e :: es) X.env = (false, eval e X.env) :: starEach es X.env := by rfl) (hpl : (backTo pos (starEach es X.env)).any (·.1) = false := by rfl) : VE X fx W (.Call (.Name x p) (e :: es) [] pos) (bv (bN g gs)) :=
  PE.imp (pe_callB hc hg hm hv ha hn hdb he hpl) fun σ H Q h => BVN (X := X) pr h
theorem ve_fn (hc : CallR X (.builtin id) r) (pr : PrimN (kt X) r g) (hg : Gl X x) (hm : X.mg x = none) (hv : bootBuiltins x = some (.builtin id)) (ha : VEs X fx W (e :: es) fs) (hn : x ≠ "__name__" := by decide) (hdb : (x == ("__debug__" : Str)) = false := by decide)
    (he : starEach (e :: es) X.env = (false, eval e X.env) :: starEach es X.env := by rfl) (hpl : (backTo pos (starEach es X.env)).any (·.1) = false := by rfl) : VE X fx W (.Call (.Name x p) (e :: es) [] pos) (eN g fs) :=
  PE.imp (pe_callB hc hg hm hv ha hn hdb he hpl) fun σ H Q h => EVN (X := X) pr h
theorem vb_ty (hc : CallR X (.type tn) r) (pr : PrimN (kt X) r g) (hg : Gl X x) (hm : X.mg x = none) (hv : bootBuiltins x = some (.type tn)) (ha : VBs X fx W (e :: es) gs) (hn : x ≠ "__name__" := by decide) (hdb : (x == ("__debug__" : Str)) = false := by decide)
    (he : starEach (e :: es) X.env = (false, eval e X.env) :: starEach es X.env := by rfl) (hpl : (backTo pos (starEach es X.env)).any (·.1) = false := by rfl) : VB X fx W (.Call (.Name x p) (e :: es) [] pos) (bN g gs) :=
  PE.imp (pe_callTy hc hg hm hv ha hn hdb he hpl) fun σ H Q h => BBN (X := X) pr h
theorem vv_ty (hc : CallR X (.type tn) r) (pr : PrimN (kt X) r g) (hg : Gl X x) (hm : X.mg x = none) (hv : bootBuiltins x = some (.type tn)) (ha : VBs X fx W (e :: es) gs) (hn : x ≠ "__name__" := by decide) (hdb : (x == ("__debug__" : Str)) = false := by decide)
    (he : starEach (e :: es) X.env = (false, eval e X.env) :: starEach es X.env := by rfl) (hpl : (backTo pos (starEach es X.env)).any (·.1) = false := by rfl) : VE X fx W (.Call (.Name x p) (e :: es) [] pos) (bv (bN g gs)) :=
  PE.imp (pe_callTy hc hg hm hv ha hn hdb he hpl) fun σ H Q h => BVN (X := X) pr h
theorem ve_ty (hc : CallR X (.type tn) r) (pr : PrimN (kt X) r g) (hg : Gl X x) (hm : X.mg x = none) (hv : bootBuiltins x = some (.type tn)) (ha : VEs X fx W (e :: es) fs) (hn : x ≠ "__name__" := by decide) (hdb : (x == ("__debug__" : Str)) = false := by decide)
    (he : starEach (e :: es) X.env = (false, eval e X.env) :: starEach es X.env := by rfl) (hpl : (backTo pos (starEach es X.env)).any (·.1) = false := by rfl) : VE X fx W (.Call (.Name x p) (e :: es) [] pos) (eN g fs) :=
  PE.imp (pe_callTy hc hg hm hv ha hn hdb he hpl) fun σ H Q h => EVN (X := X) pr h
/-- a built-in type as a value -/
theorem vb_tyN {x : Str} {n : String} (hg : Gl X x) (hm : X.mg x = none) (hv : bootBuiltins x = some (.type n)) (hn : x ≠ "__name__" := by decide) (hd : (x == ("__debug__" : Str)) = false := by decide) : VB X fx W (.Name x pos) (cB (.ty n)) :=
  PE.imp (pe_bltn (v := .ty n) hg hm hv rfl hn hd) fun σ H Q h => tC_B (X := X) (fun _ _ => by simp only [Rep]) h
end

/-! ### in -/
def flatD : D → Bool
  | .non => true
  | .bl _ => true
  | .int _ => true
  | .str _ => true
  | _ => false
def toV : D → V
  | .non => .non
  | .bl b => .bl b
  | .int i => .int i
  | .str x => .str x
  | _ => .non
def inS (i j : Str) : Bool := !(Builtin.Str.occurrences j i 0 j.length 1).isEmpty
def eqF : D → D → Bool
  | .non, .non => true
  | .bl a, .bl b => a == b
  | .bl a, .int b => (if a then 1 else 0) == b
  | .int a, .bl b => a == (if b then 1 else 0)
  | .int a, .int b => a == b
  | .str a, .str b => a == b
  | _, _ => false
def pInB (x y : T) : Option Bool := match x, y with
  | .s (.str a), .s (.str b) => some (inS a b)
  | .s d, .s (.tup ds) => if flatD d && ds.all flatD then some (ds.any fun y => eqF y d) else none
  | .s d, y => match y.ls with
    | some ds => if flatD d && ds.all flatD then some (ds.any fun y => eqF y d) else match toPy d, toPys ds with
      | some p, some ps => if SeqAt.shaped p && SeqAt.shaped (.list ps) then some (ps.any fun z => PyData.eqv z p) else none
      | _, _ => none
    | none => none
  | _, _ => none
def pIn (x y : T) : Option T := blO (pInB x y)
def pNotIn (x y : T) : Option T := blO ((pInB x y).map not)
section
variable {G : Kt} {F H : Hp}
theorem flat_toV {d : D} {v : V} (h : flatD d = true) (r : Rep G F d v) : v = toV d ∧ flatV (toV d) = true := by
  cases d <;> first
    | (simp only [Rep] at r; subst r; exact ⟨rfl, rfl⟩)
    | cases h
theorem flats_toV : ∀ {ds : List D} {vs : List V}, ds.all flatD = true → Reps G F ds vs → vs = ds.map toV ∧ vs.all flatV = true
  | [], vs, _, r => by
    simp only [Reps] at r
    subst r
    exact ⟨rfl, rfl⟩
  | d :: ds, vs, h, r => by
    rw [List.all_cons, Bool.and_eq_true] at h
    simp only [Reps] at r
    obtain ⟨v, rest, rfl, r1, r2⟩ := r
    obtain ⟨e1, f1⟩ := flat_toV h.1 r1
    obtain ⟨e2, f2⟩ := flats_toV h.2 r2
    rw [e1, e2]
    refine ⟨rfl, ?_⟩
    rw [List.all_cons, f1, ← e2, f2]
    rfl
theorem eqF_V {d e : D} (h : flatD d = true) (h' : flatD e = true) : eqV (toV d) (toV e) = eqF d e := by
  cases d <;> cases e <;> first | rfl | (exfalso; revert h; simp [flatD]; done) | (exfalso; revert h'; simp [flatD]; done)
theorem inV_F {d : D} {ds : List D} (h : flatD d = true) (hs : ds.all flatD = true) : inV (toV d) (ds.map toV) = ds.any fun y => eqF y d := by
  unfold inV
  induction ds with
  | nil => rfl
  | cons y ds ih =>
    rw [List.all_cons, Bool.and_eq_true] at hs
    rw [List.map_cons, List.any_cons, List.any_cons, ih hs.2, eqF_V hs.1 h]
def rInA (K : PySem.W.Frag) : R2 := fun x y H Q => (∃ i j, x = .str i ∧ y = .str j ∧ Q (.bl (!(Builtin.Str.occurrences j i 0 j.length 1).isEmpty)) H) ∨ rIn K false x y H Q ∨ rInD K x y H Q
def rNotInA (K : PySem.W.Frag) : R2 := fun x y H Q => (∃ i j, x = .str i ∧ y = .str j ∧ Q (.bl (!(!(Builtin.Str.occurrences j i 0 j.length 1).isEmpty))) H) ∨ rIn K true x y H Q ∨ rNotInD K x y H Q
theorem op_inA {X : Cx} (hu : X.A.units + 65 < cLine) : OpR X (compareOp .In) (rInA X.K) := op_in_str.or (op_in_seq.or (op_inD hu))
theorem op_notInA {X : Cx} (hu : X.A.units + 65 < cLine) : OpR X (compareOp .NotIn) (rNotInA X.K) := op_notin_str.or (op_notIn_seq.or (op_notInD hu))
theorem prim_in_core {tx ty : T} {x y : V} {k : Bool} (s : Same F H) (b1 : Bor G F H tx x) (b2 : Bor G F H ty y) (h : pInB tx ty = some k) (neg : Bool) {Q : VK} (q : Q (.bl (if neg then !k else k)) H) :
    (∃ i j, x = .str i ∧ y = .str j ∧ k = !(Builtin.Str.occurrences j i 0 j.length 1).isEmpty) ∨ rIn G.K neg x y H Q ∨
      ∃ d ds, Dp G.K H x d ∧ Dp G.K H y (.list ds) ∧ SeqAt.shaped d = true ∧ SeqAt.shaped (.list ds) = true ∧ k = ds.any fun z => PyData.eqv z d := by
  unfold pInB at h
  split at h
  · cases h
    simp only [Bor, Rep] at b1 b2
    subst b1 b2
    exact .inl ⟨_, _, rfl, rfl, rfl⟩
  · rename_i d ds
    split at h
    · rename_i hf
      cases h
      rw [Bool.and_eq_true] at hf
      simp only [Bor] at b1
      obtain ⟨e1, f1⟩ := flat_toV hf.1 b1
      obtain ⟨a, vs, rfl, h1, r⟩ := tp_rep s b2 rfl
      obtain ⟨e2, f2⟩ := flats_toV hf.2 r
      subst e1
      exact .inr (.inl ⟨a, vs, rfl, .inr h1.sq, f1, f2, by rw [e2, inV_F hf.1 hf.2]; exact q⟩)
    · cases h
  · rename_i d y' _ _
    split at h
    · rename_i ds eds
      split at h
      · rename_i hf
        cases h
        rw [Bool.and_eq_true] at hf
        simp only [Bor] at b1
        obtain ⟨e1, f1⟩ := flat_toV hf.1 b1
        obtain ⟨a, vs, rfl, h1, r⟩ := ls_rep s b2 eds
        obtain ⟨e2, f2⟩ := flats_toV hf.2 r
        subst e1
        exact .inr (.inl ⟨a, vs, rfl, .inl (.of h1), f1, f2, by rw [e2, inV_F hf.1 hf.2]; exact q⟩)
      · split at h
        · rename_i p ps ep eps
          split at h
          · rename_i hs
            rw [Bool.and_eq_true] at hs
            cases h
            simp only [Bor] at b1
            obtain ⟨a, vs, rfl, h1, r⟩ := ls_rep s b2 eds
            exact .inr (.inr ⟨p, ps, Rep.dp _ _ _ (b1.mono s) ep, .lst (.of h1) (Reps.dp _ _ _ (r.mono s) eps), hs.1, hs.2, rfl⟩)
          · cases h
        · cases h
    · cases h
  · cases h
theorem prim_in : Prim2 G (rInA G.K) pIn := by
  intro tx ty x y F H Q s b1 b2 p
  unfold pIn at p
  cases e : pInB tx ty with
  | none => rw [e] at p; exact p.elim
  | some k =>
    rw [e] at p
    have q : Q (.bl k) H := PR.bl s p
    rcases prim_in_core s b1 b2 e false (Q := Q) (by simpa using q) with ⟨i, j, rfl, rfl, ek⟩ | h | ⟨d, ds, h1, h2, h3, h4, ek⟩
    · exact .inl ⟨i, j, rfl, rfl, by rw [← ek]; exact q⟩
    · exact .inr (.inl h)
    · exact .inr (.inr ⟨d, ds, h1, h2, h3, h4, by rw [← ek]; exact q⟩)
theorem prim_notIn : Prim2 G (rNotInA G.K) pNotIn := by
  intro tx ty x y F H Q s b1 b2 p
  unfold pNotIn at p
  cases e : pInB tx ty with
  | none => rw [e] at p; exact p.elim
  | some k =>
    rw [e] at p
    have q : Q (.bl !k) H := PR.bl s p
    rcases prim_in_core s b1 b2 e true (Q := Q) (by simpa using q) with ⟨i, j, rfl, rfl, ek⟩ | h | ⟨d, ds, h1, h2, h3, h4, ek⟩
    · exact .inl ⟨i, j, rfl, rfl, by rw [← ek]; exact q⟩
    · exact .inr (.inl h)
    · exact .inr (.inr ⟨d, ds, h1, h2, h3, h4, by rw [← ek]; exact q⟩)
end
end VS
namespace VS
open PySem PySem.Spec L2
open PyProof.Rows hiding St

/-! ### slices -/
def PBo (G : Kt) (fx : Fx) (W : L2.WX) (σ : St) (Q : Option Int → Hp → Prop) (env : En) (F H : Hp) (fp : List Addr) : R En (Option Int) → Prop
  | .ok o => ∀ F' H', Grow F H F' H' → Q o H'
  | .ex c fs e => ∀ cls d F' H' fp', Sta G fx e F' σ H' fp' → ExR G F' H' c fs cls d → Go F H fp F' H' fp' → W cls d σ H'
  | .no => False
def tBo (G : Kt) (fx : Fx) (W : L2.WX) (g : En → R En (Option Int)) : TO := fun σ H Q => ∃ env F fp, Sta G fx env F σ H fp ∧ PBo G fx W σ Q env F H fp (g env)
abbrev VO (X : Cx) (fx : Fx) (W : L2.WX) (e : Option Expr) (g : En → R En (Option Int)) : Prop := PO X e (tBo (kt X) fx W g)
theorem PO.imp {X : Cx} {e : Option Expr} {t t' : TO} (h : PO X e t) (k : ∀ σ H Q, t' σ H Q → t σ H Q) : PO X e t' := ⟨fun pins s σ H Q I q => h.run pins s σ H Q I (k σ H Q q)⟩
def T.int? : T → Option Int
  | .s (.int i) => some i
  | _ => none
theorem int?_eq {t : T} {b : Int} (h : t.int? = some b) : t = .s (.int b) := by
  cases t with
  | s d => cases d <;> first | (cases h; rfl) | cases h
  | _ => cases h
def noO : En → R En (Option Int) := fun _ => .ok none
def soO (ga : En → R En T) : En → R En (Option Int) := fun env => bnd (ga env) fun t => ofO t.int? fun i => .ok (some i)
section
variable {X : Cx} {fx : Fx} {W : L2.WX} {pos : Pos}
theorem vo_none : VO X fx W none noO := PO.imp po_none fun σ H Q h => by
  obtain ⟨env, F, fp, S, P⟩ := h
  exact P F H (.refl S.sub)
theorem vo_some {e : Expr} {ga : En → R En T} (h : VB X fx W e ga) : VO X fx W (some e) (soO ga) := PO.imp (po_some h) fun σ H Q q => by
  obtain ⟨env, F, fp, S, P⟩ := q
  refine ⟨env, F, fp, S, ?_⟩
  unfold soO at P
  cases ea : ga env with
  | no => rw [ea] at P; exact P
  | ex c fs e => rw [ea] at P; exact P
  | ok t =>
    rw [ea] at P
    cases et : t.int? with
    | none => simp only [bnd, et, ofO] at P; exact P.elim
    | some i =>
      simp only [bnd, et, ofO] at P
      have e := int?_eq et
      subst e
      intro v F' H' g b
      simp only [Bor, Rep] at b
      exact ⟨i, b, P F' H' g⟩
def cutL {α : Type} (xs : List α) (lo hi : Option Int) : List α := (xs.drop (HT.sIx xs.length 0 lo)).take (HT.sIx xs.length xs.length hi - HT.sIx xs.length 0 lo)
def pSl (t : T) (lo hi : Option Int) : Option T := match t with
  | .s (.str z) => if z.length ≤ sizeLine then some (.s (.str (cutS z lo hi))) else none
  | .s (.tup ds) => some (.s (.tup (cutL ds lo hi)))
  | t => t.ls.map fun ds => .l ((cutL ds lo hi).map T.s)
def rSl (K : PySem.W.Frag) : V → Option Int → Option Int → Hp → VK → Prop := fun x lo hi H Q => rSlL K x lo hi H Q ∨ rSlA K x lo hi H Q ∨ rSlS x lo hi H Q
theorem sl_any : SlR X (rSl X.K) := sl_list.or (sl_tupA.or sl_str)
theorem Reps.cut {G : Kt} {F : Hp} {ds : List D} {vs : List V} (r : Reps G F ds vs) (lo hi : Option Int) : Reps G F (cutL ds lo hi) (cutV vs lo hi) := by
  unfold cutL cutV
  rw [r.len]
  exact (r.drop _).take _
theorem prim_sl {G : Kt} {t : T} {x : V} {lo hi : Option Int} {F H : Hp} {Q : VK} (s : Same F H) (b : Bor G F H t x) (p : PR G F H Q (pSl t lo hi)) : rSl G.K x lo hi H Q := by
  unfold pSl at p
  split at p
  · simp only [Bor, Rep] at b
    subst b
    split at p
    · exact .inr (.inr ⟨_, rfl, by assumption, PR.val s p (by simp only [Rep])⟩)
    · exact p.elim
  · rename_i ds
    have b0 := b
    obtain ⟨a, vs, rfl, h1, r⟩ := tp_rep s b rfl
    refine .inr (.inl ⟨a, vs, rfl, h1.sq, fun hw => ?_, fun _ => PR.tup s p (r.cut lo hi)⟩)
    have e : cutL ds lo hi = ds := by
      unfold cutL
      rw [← r.len, hw.1, hw.2, List.drop_zero, r.len, Nat.sub_zero]
      exact List.take_length
    rw [e] at p
    exact PR.val s p b0
  · rename_i t' _ _
    cases e : t.ls with
    | none => rw [e] at p; exact p.elim
    | some ds =>
      rw [e] at p
      obtain ⟨a, vs, rfl, h1, r⟩ := ls_rep s b e
      exact .inl ⟨a, vs, rfl, .of h1, PR.lst s p (r.cut lo hi)⟩
def bSl (ga : En → R En T) (gl gh : En → R En (Option Int)) : En → R En T := fun env => bnd (ga env) fun t => bnd (gl env) fun l => bnd (gh env) fun h => ofO (pSl t l h) .ok
theorem tSl_of {ga : En → R En T} {gl gh : En → R En (Option Int)} {σ : St} {H : Hp} {Q : VK} {Z : R En T → (En → Hp → Hp → List Addr → Prop)}
    (hk : ∀ t l h env F H fp x, Sta (kt X) fx env F σ H fp → Bor (kt X) F H t x → Z (ofO (pSl t l h) .ok) env F H fp → PR (kt X) F H Q (pSl t l h))
    (hx : ∀ c fs e env F H fp cls d F' H' fp', Z (.ex c fs e) env F H fp → Sta (kt X) fx e F' σ H' fp' → ExR (kt X) F' H' c fs cls d → Go F H fp F' H' fp' → W cls d σ H')
    (hn : ∀ env F H fp, ¬ Z .no env F H fp)
    (hg : ∀ r env F H fp F' H', Z r env F H fp → Grow F H F' H' → Z r env F' H' fp)
    {env : En} {F : Hp} {fp : List Addr} (S : Sta (kt X) fx env F σ H fp) (P : Z (bSl ga gl gh env) env F H fp) : tSl (rSl X.K) (tB (kt X) fx W ga) (tBo (kt X) fx W gl) (tBo (kt X) fx W gh) σ H Q := by
  refine ⟨env, F, fp, S, ?_⟩
  unfold bSl at P
  cases ea : ga env with
  | no => rw [ea] at P; exact hn _ _ _ _ P
  | ex c fs e => rw [ea] at P; exact fun cls d F' H' fp' S' x g => hx _ _ _ _ _ _ _ _ _ _ _ _ P S' x g
  | ok t =>
    rw [ea] at P
    intro x F1 H1 g1 b1
    have S1 := S.grow g1
    have P1 := hg _ _ _ _ _ _ _ P g1
    refine ⟨env, F1, fp, S1, ?_⟩
    cases el : gl env with
    | no => simp only [bnd, el] at P1; exact hn _ _ _ _ P1
    | ex c fs e => simp only [bnd, el] at P1; exact fun cls d F' H' fp' S' x g => hx _ _ _ _ _ _ _ _ _ _ _ _ P1 S' x g
    | ok l =>
      simp only [bnd, el] at P1
      intro F2 H2 g2
      have S2 := S1.grow g2
      have P2 := hg _ _ _ _ _ _ _ P1 g2
      refine ⟨env, F2, fp, S2, ?_⟩
      cases eh : gh env with
      | no => simp only [eh] at P2; exact hn _ _ _ _ P2
      | ex c fs e => simp only [eh] at P2; exact fun cls d F' H' fp' S' x g => hx _ _ _ _ _ _ _ _ _ _ _ _ P2 S' x g
      | ok h =>
        simp only [eh] at P2
        intro F3 H3 g3
        have S3 := S2.grow g3
        have P3 := hg _ _ _ _ _ _ _ P2 g3
        have b3 := b1.mono (g2.trans g3).f (g2.trans g3).h
        exact prim_sl S3.sub b3 (hk t l h env F3 H3 fp x S3 b3 P3)
theorem vb_slice {e : Expr} {lo hi : Option Expr} {p2 : Pos} {ga : En → R En T} {gl gh : En → R En (Option Int)} (he : VB X fx W e ga) (hl : VO X fx W lo gl) (hh : VO X fx W hi gh) : VB X fx W (.Subscript e (.Slice lo hi none p2) pos) (bSl ga gl gh) := PE.imp (pe_slice sl_any he hl hh) fun σ H Q h => by
  obtain ⟨env, F, fp, S, P⟩ := h
  exact tSl_of (Z := ZB (kt X) fx W σ Q) (fun t l h env F H fp x S b z => PR.zb z) (fun _ _ _ _ _ _ _ _ _ _ _ _ z => ZB.ex z) (fun _ _ _ _ z => z) (fun _ _ _ _ _ _ _ z => z.grow) S P
theorem vv_slice {e : Expr} {lo hi : Option Expr} {p2 : Pos} {ga : En → R En T} {gl gh : En → R En (Option Int)} (he : VB X fx W e ga) (hl : VO X fx W lo gl) (hh : VO X fx W hi gh) : VE X fx W (.Subscript e (.Slice lo hi none p2) pos) (bv (bSl ga gl gh)) := PE.imp (pe_slice sl_any he hl hh) fun σ H Q h => by
  obtain ⟨env, F, fp, S, P⟩ := h
  exact tSl_of (Z := ZV (kt X) fx W σ Q) (fun t l h env F H fp x S b z => PR.zv S z) (fun _ _ _ _ _ _ _ _ _ _ _ _ z => z.ex) (fun _ _ _ _ z => z) (fun _ _ _ _ _ _ _ z => z.grow) S P

/-! ### methods of built-in types that change nothing -/
def tyOk : String → T → Bool
  | "str", .s (.str _) => true
  | "list", t => t.ls.isSome
  | _, _ => false
theorem tyV_of {G : Kt} {F H : Hp} {n : String} {t : T} {x : V} (s : Same F H) (b : Bor G F H t x) (h : tyOk n t = true) : tyV G.K n x H := by
  unfold tyOk at h
  split at h
  · simp only [Bor, Rep] at b
    subst b
    exact rfl
  · cases e : t.ls with
    | none => rw [e] at h; cases h
    | some ds =>
      obtain ⟨a, vs, rfl, h1, r⟩ := ls_rep s b e
      exact .inl ⟨rfl, vs, .of h1⟩
  · cases h
def PrimM (G : Kt) (r : V → List V → Hp → VK → Prop) (g : T → List T → Option T) : Prop := ∀ t ts x xs F H Q, Same F H → Bor G F H t x → Bors G F H ts xs → PR G F H Q (g t ts) → r x xs H Q
def bM (n : String) (g : T → List T → Option T) (ga : En → R En T) (gs : En → R En (List T)) : En → R En T := fun env => bnd (ga env) fun t => if tyOk n t then bnd (gs env) fun ts => ofO (g t ts) .ok else .no
theorem tBM_of {tn : String} {r : V → List V → Hp → VK → Prop} {g : T → List T → Option T} {ga : En → R En T} {gs : En → R En (List T)} {σ : St} {H : Hp} {Q : VK} (pr : PrimM (kt X) r g) {Z : R En T → (En → Hp → Hp → List Addr → Prop)}
    (hk : ∀ o env F H fp, Sta (kt X) fx env F σ H fp → Z (ofO o .ok) env F H fp → PR (kt X) F H Q o)
    (hx : ∀ c fs e env F H fp cls d F' H' fp', Z (.ex c fs e) env F H fp → Sta (kt X) fx e F' σ H' fp' → ExR (kt X) F' H' c fs cls d → Go F H fp F' H' fp' → W cls d σ H')
    (hn : ∀ env F H fp, ¬ Z .no env F H fp)
    (hg : ∀ r env F H fp F' H', Z r env F H fp → Grow F H F' H' → Z r env F' H' fp)
    {env : En} {F : Hp} {fp : List Addr} (S : Sta (kt X) fx env F σ H fp) (P : Z (bM tn g ga gs env) env F H fp) : tBM X.K tn r (tB (kt X) fx W ga) (tBs (kt X) fx W gs) σ H Q := by
  refine ⟨env, F, fp, S, ?_⟩
  unfold bM at P
  cases ea : ga env with
  | no => rw [ea] at P; exact hn _ _ _ _ P
  | ex c fs e => rw [ea] at P; exact fun cls d F' H' fp' S' x g => hx _ _ _ _ _ _ _ _ _ _ _ _ P S' x g
  | ok t =>
    rw [ea] at P
    intro x F1 H1 g1 b1
    have S1 := S.grow g1
    have P1 := hg _ _ _ _ _ _ _ P g1
    simp only [bnd] at P1
    split at P1
    · rename_i hty
      refine ⟨tyV_of S1.sub b1 hty, env, F1, fp, S1, ?_⟩
      cases es : gs env with
      | no => rw [es] at P1; exact hn _ _ _ _ P1
      | ex c fs e => rw [es] at P1; exact fun cls d F' H' fp' S' x g => hx _ _ _ _ _ _ _ _ _ _ _ _ P1 S' x g
      | ok ts =>
        rw [es] at P1
        intro xs F2 H2 g2 b2
        exact pr t ts x xs F2 H2 Q g2.sub (b1.mono g2.f g2.h) b2 (hk _ env F2 H2 fp (S1.grow g2) (hg _ _ _ _ _ _ _ P1 g2))
    · exact (hn _ _ _ _ P1).elim
section
variable {o e : Expr} {es : List Expr} {name : Str} {apos cpos : Pos} {tn id : String} {r : V → List V → Hp → VK → Prop} {g : T → List T → Option T} {ga : En → R En T} {gs : En → R En (List T)}
theorem vb_m (pa : PlainAttrs tn) (slot : Slot tn name id) (hty : typeOf (.builtin id) = pure (.type "method_descriptor")) (hm : MtR X id r) (pr : PrimM (kt X) r g) (ho : VB X fx W o ga) (ha : VBs X fx W (e :: es) gs)
    (hbase : attributeBase o name X.env (eval o X.env) = eval o X.env := by rfl)
    (hfew : ((backTo cpos (starEach (e :: es) X.env)).all (fun x => !x.1) && (backToKw cpos (keywordEach [] X.env)).all (fun x => x.1.isSome)
      && decide ((e :: es).length + ([] : List Keyword).length + (if ([] : List Keyword).isEmpty then 0 else 1) < 30)) = true := by rfl)
    (hline : (apos.endLine == cpos.line) = true := by rfl) (hs : starEach (e :: es) X.env = (false, eval e X.env) :: starEach es X.env := by rfl) (hplain : (backTo cpos (starEach es X.env)).any (·.1) = false := by rfl) :
    VB X fx W (.Call (.Attribute o name apos) (e :: es) [] cpos) (bM tn g ga gs) := PE.imp (pe_bm pa slot hty hm ho ha hbase hfew hline hs hplain) fun σ H Q h => by
  obtain ⟨env, F, fp, S, P⟩ := h
  exact tBM_of pr (Z := ZB (kt X) fx W σ Q) (fun o env F H fp S z => PR.zb z) (fun _ _ _ _ _ _ _ _ _ _ _ _ z => ZB.ex z) (fun _ _ _ _ z => z) (fun _ _ _ _ _ _ _ z => z.grow) S P
/-- the arguments held (and what they need changed) -/
def eM (n : String) (g : T → List T → Option T) (ga : En → R En T) (fs : En → R En (List T × En)) : En → R En (T × En) := fun env => bnd (ga env) fun t => match t with
  | .s d => if tyOk n (.s d) then bnd (fs env) fun a => ofO (g (.s d) a.1) fun t => .ok (t, a.2) else .no
  | _ => .no
theorem ve_m {fs : En → R En (List T × En)} (pa : PlainAttrs tn) (slot : Slot tn name id) (hty : typeOf (.builtin id) = pure (.type "method_descriptor")) (hm : MtR X id r) (pr : PrimM (kt X) r g) (ho : VB X fx W o ga) (ha : VEs X fx W (e :: es) fs)
    (hbase : attributeBase o name X.env (eval o X.env) = eval o X.env := by rfl)
    (hfew : ((backTo cpos (starEach (e :: es) X.env)).all (fun x => !x.1) && (backToKw cpos (keywordEach [] X.env)).all (fun x => x.1.isSome)
      && decide ((e :: es).length + ([] : List Keyword).length + (if ([] : List Keyword).isEmpty then 0 else 1) < 30)) = true := by rfl)
    (hline : (apos.endLine == cpos.line) = true := by rfl) (hs : starEach (e :: es) X.env = (false, eval e X.env) :: starEach es X.env := by rfl) (hplain : (backTo cpos (starEach es X.env)).any (·.1) = false := by rfl) :
    VE X fx W (.Call (.Attribute o name apos) (e :: es) [] cpos) (eM tn g ga fs) := PE.imp (pe_bm pa slot hty hm ho ha hbase hfew hline hs hplain) fun σ H Q h => by
  obtain ⟨env, F, fp, S, P⟩ := h
  refine ⟨env, F, fp, S, ?_⟩
  unfold eM at P
  cases ea : ga env with
  | no => rw [ea] at P; exact P
  | ex c fs e => rw [ea] at P; exact P
  | ok t =>
    rw [ea] at P
    cases t with
    | s d =>
      simp only [bnd] at P
      split at P
      · rename_i hty
        intro x F1 H1 g1 b1
        refine ⟨tyV_of g1.sub b1 hty, env, F1, fp, S.grow g1, ?_⟩
        cases es : fs env with
        | no => rw [es] at P; exact P
        | ex c fs e => rw [es] at P; exact fun cls d F' H' fp' S' x g => P cls d F' H' fp' S' x ((g1.go fp).trans g)
        | ok a =>
          obtain ⟨ts, e2⟩ := a
          rw [es] at P
          intro xs F2 H2 fp2 f2 S2 o2 nd2 off2 g2
          have P2 := PV.go (r := ofO (g (.s d) ts) fun t => .ok (t, e2)) P ((g1.go fp).trans g2)
          exact pr (.s d) ts x xs F2 H2 Q S2.sub (by simp only [Bor] at b1 ⊢; exact b1.mono g2.f) (Owns.bor _ _ _ o2) (PR.pv S2 (fun p hp => List.mem_append_left _ hp) P2)
      · exact P.elim
    | l _ => exact P.elim
    | dk _ => exact P.elim
    | ob _ _ => exact P.elim
    | p _ => exact P.elim
end
/-- sep.join(xs) -/
def strsO : List D → Option (List Str)
  | [] => some []
  | .str x :: ds => (strsO ds).map (x :: ·)
  | _ :: _ => none
theorem strsO_rep {G : Kt} {F : Hp} : ∀ {ds : List D} {ys : List Str} {vs : List V}, strsO ds = some ys → Reps G F ds vs → vs = ys.map V.str
  | [], ys, vs, e, r => by
    cases e
    simp only [Reps] at r
    exact r
  | .str x :: ds, ys, vs, e, r => by
    simp only [strsO, Option.map_eq_some_iff] at e
    obtain ⟨zs, e, rfl⟩ := e
    simp only [Reps, Rep] at r
    obtain ⟨v, rest, rfl, rfl, r2⟩ := r
    rw [strsO_rep e r2]
    rfl
  | .non :: _, _, _, e, _ => nomatch e
  | .bl _ :: _, _, _, e, _ => nomatch e
  | .int _ :: _, _, _, e, _ => nomatch e
  | .lst _ :: _, _, _, e, _ => nomatch e
  | .tup _ :: _, _, _, e, _ => nomatch e
  | .scr _ :: _, _, _, e, _ => nomatch e
  | .ty _ :: _, _, _, e, _ => nomatch e
  | .dk _ :: _, _, _, e, _ => nomatch e
  | .ob _ _ :: _, _, _, e, _ => nomatch e
def lsT : T → Option (List D)
  | .s (.tup ds) => some ds
  | t => t.ls
def pJoin : T → List T → Option T
  | .s (.str a), [t] => ((lsT t).bind strsO).bind fun ys => if (ys.map (·.length)).sum + ys.length * a.length ≤ 16777216 then some (.s (.str (Txt.join a ys))) else none
  | _, _ => none
theorem prim_join {G : Kt} : PrimM G (fun x xs H Q => ∃ a p, ∃ ys : List Str, x = .str a ∧ xs = [.ref p] ∧ (SqL G.K H p (ys.map V.str) ∨ SqT G.K H p (ys.map V.str)) ∧ (ys.map (·.length)).sum + ys.length * a.length ≤ 16777216 ∧ Q (.str (Txt.join a ys)) H) pJoin := by
  intro t ts x xs F H Q s b bs p
  unfold pJoin at p
  split at p
  · rename_i a t
    simp only [Bor, Rep] at b
    subst b
    have b0 := bs.one
    clear bs
    obtain ⟨v, rfl, bt⟩ := b0
    cases e : (lsT t).bind strsO with
    | none => rw [e] at p; exact p.elim
    | some ys =>
      rw [e] at p
      obtain ⟨ds, e1, e2⟩ := Option.bind_eq_some_iff.mp e
      simp only [Option.bind_some] at p
      split at p
      · rename_i hz
        have q : Q (.str (Txt.join a ys)) H := PR.val s p (by simp only [Rep])
        unfold lsT at e1
        split at e1
        · cases e1
          obtain ⟨l, vs, rfl, h1, r⟩ := tp_rep s bt rfl
          rw [strsO_rep e2 r] at h1
          exact ⟨a, l, ys, rfl, rfl, .inr h1.sq, hz, q⟩
        · obtain ⟨l, vs, rfl, h1, r⟩ := ls_rep s bt e1
          rw [strsO_rep e2 r] at h1
          exact ⟨a, l, ys, rfl, rfl, .inl (.of h1), hz, q⟩
      · exact p.elim
  · exact p.elim
def pStarts : T → List T → Option T
  | .s (.str a), [.s (.str b)] => some (.s (.bl (Txt.startswith a b)))
  | _, _ => none
theorem prim_starts {G : Kt} : PrimM G (fun x xs H Q => ∃ a b, x = .str a ∧ xs = [.str b] ∧ Q (.bl (Txt.startswith a b)) H) pStarts := by
  intro t ts x xs F H Q s b bs p
  unfold pStarts at p
  split at p
  · simp only [Bor, Rep] at b
    subst b
    have b0 := bs.one
    clear bs
    obtain ⟨v, rfl, bt⟩ := b0
    simp only [Bor, Rep] at bt
    subst bt
    exact ⟨_, _, rfl, rfl, PR.bl s p⟩
  · exact p.elim
/-- xs.index(y): flat items -/
def idxD (d : D) : List D → Option Nat
  | [] => none
  | y :: ds => if eqF y d then some 0 else (idxD d ds).map (· + 1)
def pIndex : T → List T → Option T
  | t, [.s d] => t.ls.bind fun ds => if flatD d && ds.all flatD then (idxD d ds).map fun n => .s (.int n) else none
  | _, _ => none
theorem idxD_some {d : D} : ∀ {ds : List D} {n : Nat}, idxD d ds = some n → ∃ z, ds[n]? = some z ∧ eqF z d = true ∧ ∀ m z', m < n → ds[m]? = some z' → eqF z' d = false
  | [], n, h => nomatch h
  | y :: ds, n, h => by
    unfold idxD at h
    split at h
    · rename_i hy
      cases h
      exact ⟨y, rfl, hy, fun m z' hm => absurd hm (Nat.not_lt_zero _)⟩
    · rename_i hy
      rw [Option.map_eq_some_iff] at h
      obtain ⟨k, h, rfl⟩ := h
      obtain ⟨z, h1, h2, h3⟩ := idxD_some h
      refine ⟨z, by simpa using h1, h2, fun m z' hm hz => ?_⟩
      cases m with
      | zero =>
        have e : y = z' := by simpa using hz
        subst e
        simpa using hy
      | succ m => exact h3 m z' (by omega) (by simpa using hz)
theorem prim_index {G : Kt} : PrimM G (rIndex G.K) pIndex := by
  intro t ts x xs F H Q s b bs p
  unfold pIndex at p
  split at p
  · rename_i t' d
    have b0 := bs.one
    clear bs
    obtain ⟨v, rfl, bt⟩ := b0
    cases e : t.ls with
    | none => rw [e] at p; exact p.elim
    | some ds =>
      rw [e] at p
      simp only [Option.bind_some] at p
      split at p
      · rename_i hf
        rw [Bool.and_eq_true] at hf
        cases ei : idxD d ds with
        | none => rw [ei] at p; exact p.elim
        | some n =>
          rw [ei] at p
          obtain ⟨z, h1, h2, h3⟩ := idxD_some ei
          obtain ⟨a, vs, rfl, ha, r⟩ := ls_rep s b e
          simp only [Bor] at bt
          obtain ⟨e1, f1⟩ := flat_toV hf.1 bt
          obtain ⟨e2, f2⟩ := flats_toV hf.2 r
          subst e1
          have fz : flatD z = true := List.all_eq_true.mp hf.2 z (List.mem_of_getElem? h1)
          refine ⟨a, vs, toV d, n, toV z, rfl, rfl, .of ha, f1, f2, by rw [e2, List.getElem?_map, h1]; rfl, by rw [eqF_V fz hf.1]; exact h2, fun m z' hm hz => ?_, PR.val s p (by simp only [Rep])⟩
          rw [e2, List.getElem?_map] at hz
          cases ez : ds[m]? with
          | none => rw [ez] at hz; cases hz
          | some w =>
            rw [ez] at hz
            cases hz
            rw [eqF_V (List.all_eq_true.mp hf.2 w (List.mem_of_getElem? ez)) hf.1]
            exact h3 m w hm ez
      · exact p.elim
  · exact p.elim

/-! ### objects that a name holds, changed -/
/-- x.append(e) -/
def apS (i : Nat) (f : En → R En (T × En)) : En → R En (Fl × En) := fun env => match env[i]? with
  | some (some (.l _)) => bnd (f env) fun a => match a.2[i]? with
    | some (some (.l ts)) => if ts.length < sizeLine then .ok (.nx, a.2.set i (some (.l (ts ++ [a.1])))) else .no
    | _ => .no
  | _ => .no
theorem Owns.append {G : Kt} {F H : Hp} {t : T} {v : V} {ft : List Addr} : ∀ {ts : List T} {vs : List V} {fp : List Addr}, Owns G F H ts vs fp → Own G F H t v ft → Owns G F H (ts ++ [t]) (vs ++ [v]) (fp ++ ft)
  | [], vs, fp, h, o => by
    simp only [Owns] at h
    obtain ⟨rfl, rfl⟩ := h
    simp only [List.nil_append, Owns]
    exact ⟨v, [], ft, [], rfl, o, ⟨rfl, rfl⟩, by simp⟩
  | u :: ts, vs, fp, h, o => by
    simp only [Owns] at h
    obtain ⟨w, r, f1, f2, rfl, h1, h2, rfl⟩ := h
    simp only [List.cons_append, Owns]
    exact ⟨w, r ++ [v], f1, f2 ++ ft, rfl, h1, h2.append o, by simp⟩
/-- the object at p is written: what does not hold p stays -/
theorem keep_upd {H : Hp} {p : Addr} {o : HO} {fp : List Addr} (h : p ∉ fp) : ∀ q ∈ fp, ∀ u, H q = some u → upd H p o q = some u := fun q hq u e => by
  rw [upd_ne (show q ≠ p from fun z => h (by rw [← z]; exact hq))]
  exact e
theorem vs_append {i : Nat} {x : Str} {e : Expr} {f : En → R En (T × En)} {np apos cpos : Pos} (hN : X.N[i]? = some x) (hv : Vis X.env.scope x) (he : VE X fx W e f)
    (hbase : attributeBase (.Name x np) "append" X.env (eval (.Name x np) X.env) = eval (.Name x np) X.env := by rfl)
    (hfew : ((backTo cpos (starEach [e] X.env)).all (fun x => !x.1) && (backToKw cpos (keywordEach [] X.env)).all (fun x => x.1.isSome)
      && decide (([e] : List Expr).length + ([] : List Keyword).length + (if ([] : List Keyword).isEmpty then 0 else 1) < 30)) = true := by rfl)
    (hline : (apos.endLine == cpos.line) = true := by rfl) (hst : starEach [e] X.env = (false, eval e X.env) :: starEach [] X.env := by rfl) (hplain : (backTo cpos (starEach [] X.env)).any (·.1) = false := by rfl)
    (hs : swapsWith (.Call (.Attribute (.Name x np) "append" apos) [e] [] cpos) none pos.line X.env = pure false := by rfl) (hd : (x == ("__debug__" : Str)) = false := by decide) (hcd : (x == ("__classdict__" : Str)) = false := by decide) :
    VS1 X fx W (.Expr (.Call (.Attribute (.Name x np) "append" apos) [e] [] cpos) pos) (apS i f) :=
  PS.imp (ps_expr (pe_bm PySem.F.plainAttrs_list PySem.F.slot_list_append PySem.F.type_list_append mt_append (pe_var hN hv hd hcd) (pa_cons he pa_nil hst) hbase hfew hline hst hplain) hs) fun D σ H h => by
    obtain ⟨env, F, fp, S, P⟩ := h
    unfold apS at P
    split at P
    · rename_i ts0 e0
      obtain ⟨a, b, c, s, _, hs, o, _⟩ := S.own.split e0
      obtain ⟨v, rfl, o⟩ := o
      simp only [Own] at o
      obtain ⟨l, vs, f1, rfl, hl, _, _⟩ := o
      refine ⟨.ref l, hs, .inl ⟨rfl, vs, .of hl⟩, ?_⟩
      refine ⟨env, F, fp, S, ?_⟩
      cases ea : f env with
      | no => rw [ea] at P; exact P
      | ex c fs e => rw [ea] at P; exact fun cls d F' H' fp' S' x g => P cls d σ F' H' fp' S' x g
      | ok a =>
        obtain ⟨t, e1⟩ := a
        rw [ea] at P
        simp only [bnd] at P
        intro u F1 H1 fp1 ft S1 o1 nd1 off1 g1
        split at P
        · rename_i ts e2
          split at P
          · rename_i hz
            obtain ⟨a, b, c, s, rfl, hs2, o, k⟩ := S1.own.split e2
            obtain ⟨v2, rfl, o⟩ := o
            have ev : v2 = .ref l := by
              rw [hs] at hs2
              cases hs2; rfl
            subst ev
            simp only [Own] at o
            obtain ⟨l', vs', f1, el, hl', os, rfl⟩ := o
            cases el
            have len := (Owns.bor _ _ _ os).len
            refine ⟨l, vs', u, rfl, rfl, hl', by omega, ?_⟩
            have nda : (a ++ (l :: f1 ++ c) ++ ft).Nodup := nd1
            have nl : l ∉ a ++ c ∧ l ∉ f1 ∧ l ∉ ft := by
              have pm : (a ++ (l :: f1 ++ c) ++ ft).Perm (l :: (a ++ (f1 ++ c) ++ ft)) := by
                simp only [List.cons_append, List.append_assoc]
                exact List.perm_middle
              have := List.nodup_cons.mp (pm.nodup_iff.mp nda)
              refine ⟨fun z => this.1 ?_, fun z => this.1 ?_, fun z => this.1 ?_⟩
              · simp only [List.mem_append] at z ⊢
                rcases z with z | z
                · exact .inl (.inl z)
                · exact .inl (.inr (.inr z))
              · simp [z]
              · simp [z]
            have k' := k F1 (upd H1 l (.lst (vs' ++ [u]))) (some (.l (ts ++ [t]))) (some (.ref l)) (l :: (f1 ++ ft)) (.refl _) (keep_upd nl.1)
              ⟨.ref l, rfl, l, vs' ++ [u], f1 ++ ft, rfl, upd_same, Owns.append (Owns.mono (.refl _) _ _ _ (keep_upd nl.2.1) os) (Own.mono (.refl _) _ _ _ (keep_upd nl.2.2) o1), rfl⟩
            rw [set_self hs2] at k'
            have pm2 : (a ++ (l :: f1 ++ c) ++ ft).Perm (a ++ (l :: (f1 ++ ft) ++ c)) := by
              simp only [List.cons_append, List.append_assoc]
              refine List.Perm.append_left a (List.Perm.cons l (List.Perm.append_left f1 List.perm_append_comm))
            refine P σ F1 _ _ ⟨k', pm2.nodup_iff.mp nd1, fun p hp => ?_, fun p o ep => ?_, S1.fix, S1.pin⟩ (g1.trans ⟨.refl _, fun _ _ h => .inl h, fun p o ep np => ?_, fun p hp => .inl (pm2.mem_iff.mpr hp)⟩)
            · have := pm2.mem_iff.mpr hp
              rcases List.mem_append.mp this with z | z
              · exact S1.off p z
              · exact off1 p z
            · have ne : p ≠ l := fun z => by
                subst z
                rw [S1.off p (by simp)] at ep; cases ep
              rw [upd_ne ne]
              exact S1.sub _ _ ep
            · have ne : p ≠ l := fun z => by
                subst z
                exact np (by simp)
              rw [upd_ne ne]; exact ep
          · exact P.elim
        · exact P.elim
    · exact P.elim
end
end VS
namespace VS
open PySem PySem.Spec L2
open PyProof.Rows hiding St

section
variable {G : Kt} {fx : Fx} {W : L2.WX} {σ : St}
/-- the object of slot i is written -/
theorem Sta.wr {i : Nat} {e : En} {t0 : T} {F H : Hp} {fp ft : List Addr} {v : V} (S : Sta G fx e F σ H fp) (hi : e[i]? = some (some t0)) (hs : σ[i]? = some (some v)) (nd : (fp ++ ft).Nodup) (off : ∀ p ∈ ft, F p = none) :
    ∃ b, Own G F H t0 v b ∧ b.Nodup ∧ (∀ p ∈ b, p ∉ ft) ∧ (∀ p ∈ b, p ∈ fp) ∧ ∀ (l : Addr) (o : HO) (t1 : T) (b' : List Addr), l ∈ b → (Own G F (upd H l o) t1 v b') → b'.Nodup → (∀ p ∈ b', p ∈ b ∨ p ∈ ft) →
      ∃ fp', Sta G fx (e.set i (some t1)) F σ (upd H l o) fp' ∧ Go F H (fp ++ ft) F (upd H l o) fp' := by
  obtain ⟨a, b, c, s, rfl, hs2, ob, k⟩ := S.own.split hi
  obtain ⟨v2, rfl, ob⟩ := ob
  have ev : v2 = v := by
    rw [hs] at hs2
    cases hs2; rfl
  subst ev
  have pm : (a ++ (b ++ c) ++ ft).Perm (b ++ (a ++ c ++ ft)) := by
    have e1 := (List.perm_append_comm (l₁ := a) (l₂ := b)).append_right (c ++ ft)
    simpa only [List.append_assoc] using e1
  have ndp := List.nodup_append.mp (pm.nodup_iff.mp nd)
  refine ⟨b, ob, ndp.1, fun p hp z => ndp.2.2 p hp p (List.mem_append_right _ z) rfl, fun p hp => by simp [hp], fun l o t1 b' hl o1 nd1 sub => ?_⟩
  have nl : l ∉ a ++ c := fun z => ndp.2.2 l hl l (List.mem_append_left _ z) rfl
  have k' := k F (upd H l o) (some t1) (some v2) b' (.refl _) (keep_upd nl) ⟨v2, rfl, o1⟩
  rw [set_self hs2] at k'
  have ndac := (List.nodup_append.mp ndp.2.1)
  have dis : ∀ p ∈ b', p ∉ a ++ c := fun p hp z => by
    rcases sub p hp with y | y
    · exact ndp.2.2 p y p (List.mem_append_left _ z) rfl
    · exact ndac.2.2 p z p y rfl
  have memb : ∀ p ∈ a ++ (b' ++ c), p ∈ a ++ (b ++ c) ++ ft := fun p hp => by
    simp only [List.mem_append] at hp ⊢
    rcases hp with z | z | z
    · exact .inl (.inl z)
    · exact (sub p z).imp (fun y => .inr (.inl y)) id
    · exact .inl (.inr (.inr z))
  refine ⟨a ++ (b' ++ c), ⟨k', ?_, fun p hp => ?_, fun p u ep => ?_, S.fix, S.pin⟩, ⟨.refl _, fun _ _ h => .inl h, fun p u ep np => ?_, fun p hp => .inl (memb p hp)⟩⟩
  · have p2 : (a ++ (b' ++ c)).Perm (b' ++ (a ++ c)) := by
      have e1 := (List.perm_append_comm (l₁ := a) (l₂ := b')).append_right c
      simpa only [List.append_assoc] using e1
    exact p2.nodup_iff.mpr (List.nodup_append.mpr ⟨nd1, ndac.1, fun x hx y hy e => by subst e; exact dis x hx hy⟩)
  · rcases List.mem_append.mp (memb p hp) with z | z
    · exact S.off p z
    · exact off p z
  · have ne : p ≠ l := fun z => by
      subst z
      rw [S.off p (by simp [hl])] at ep; cases ep
    rw [upd_ne ne]
    exact S.sub _ _ ep
  · have ne : p ≠ l := fun z => by
      subst z
      exact np (by simp [hl])
    rw [upd_ne ne]; exact ep
theorem Sta.slot {i : Nat} {e : En} {t0 : T} {F H : Hp} {fp : List Addr} (S : Sta G fx e F σ H fp) (hi : e[i]? = some (some t0)) : ∃ v b, σ[i]? = some (some v) ∧ Own G F H t0 v b := by
  obtain ⟨a, b, c, s, rfl, hs, ob, k⟩ := S.own.split hi
  obtain ⟨v, rfl, ob⟩ := ob
  exact ⟨v, b, hs, ob⟩
/-- an item of an owned list replaced -/
theorem Owns.set {F H : Hp} {t : T} {v : V} {ft : List Addr} : ∀ {ts : List T} {vs : List V} {fp : List Addr} (j : Nat), Owns G F H ts vs fp → Own G F H t v ft → (fp ++ ft).Nodup →
    ∃ fp', Owns G F H (ts.set j t) (vs.set j v) fp' ∧ fp'.Nodup ∧ ∀ p ∈ fp', p ∈ fp ++ ft
  | [], vs, fp, j, h, o, nd => by
    simp only [Owns] at h
    obtain ⟨rfl, rfl⟩ := h
    exact ⟨[], ⟨rfl, rfl⟩, List.nodup_nil, by simp⟩
  | u :: ts, vs, fp, 0, h, o, nd => by
    simp only [Owns] at h
    obtain ⟨w, r, f1, f2, rfl, h1, h2, rfl⟩ := h
    have pm : (f1 ++ f2 ++ ft).Perm (f1 ++ (ft ++ f2)) := by
      rw [List.append_assoc]
      exact List.Perm.append_left f1 List.perm_append_comm
    exact ⟨ft ++ f2, ⟨v, r, ft, f2, rfl, o, h2, rfl⟩, (List.nodup_append.mp (pm.nodup_iff.mp nd)).2.1, fun p hp => by
      simp only [List.mem_append] at hp ⊢
      rcases hp with z | z
      · exact .inr z
      · exact .inl (.inr z)⟩
  | u :: ts, vs, fp, j + 1, h, o, nd => by
    simp only [Owns] at h
    obtain ⟨w, r, f1, f2, rfl, h1, h2, rfl⟩ := h
    have nd' : (f1 ++ (f2 ++ ft)).Nodup := by rw [← List.append_assoc]; exact nd
    obtain ⟨fp', o', n', s'⟩ := Owns.set j h2 o (List.nodup_append.mp nd').2.1
    refine ⟨f1 ++ fp', ⟨w, r.set j v, f1, fp', rfl, h1, o', rfl⟩, List.nodup_append.mpr ⟨(List.nodup_append.mp nd').1, n', fun x hx y hy e => ?_⟩, fun p hp => ?_⟩
    · exact (List.nodup_append.mp nd').2.2 x hx y (s' y hy) e
    · rw [List.append_assoc]
      rcases List.mem_append.mp hp with z | z
      · exact List.mem_append_left _ z
      · exact List.mem_append_right _ (s' p z)
end

section
variable {X : Cx} {fx : Fx} {W : L2.WX} {pos : Pos}
/-- x[k] = e, x a name that holds a list -/
def siS (i : Nat) (fk fv : En → R En (T × En)) : En → R En (Fl × En) := fun env => bnd (fv env) fun a => match a.2[i]? with
  | some (some (.l _)) => bnd (fk a.2) fun b => ofO b.1.int? fun n => match b.2[i]? with
    | some (some (.l ts)) => ofO (ixN ts.length n) fun j => .ok (.nx, b.2.set i (some (.l (ts.set j a.1))))
    | _ => .no
  | _ => .no
theorem vs_setitem {i : Nat} {x : Str} {e k : Expr} {fk fv : En → R En (T × En)} {np tp : Pos} (hN : X.N[i]? = some x) (hv : Vis X.env.scope x) (hk : VE X fx W k fk) (he : VE X fx W e fv)
    (ha : ∀ v, assign (.Subscript (.Name x np) k tp) X.env v = (do
      let ov ← holding [v] (eval (.Name x np) X.env)
      let iv ← holding [v, ov] (eval k X.env)
      standAt tp
      holding [v, ov, iv] (setItem ov iv v)
      release [v, ov, iv] []) := by intro _; rfl)
    (hs : swapsWithSole [.Subscript (.Name x np) k tp] e pos.line X.env = pure false := by rfl) (hw : swappedStores [.Subscript (.Name x np) k tp] e X.env = pure none := by rfl)
    (h1 : (assignEach [.Subscript (.Name x np) k tp] X.env).map (·.2) = [assign (.Subscript (.Name x np) k tp) X.env] := by rfl) (hd : (x == ("__debug__" : Str)) = false := by decide) (hcd : (x == ("__classdict__" : Str)) = false := by decide) :
    VS1 X fx W (.Assign [.Subscript (.Name x np) k tp] e pos) (siS i fk fv) :=
  PS.imp (ps_asg he (pg_sub (pe_var hN hv hd hcd) hk set_list ha) hs hw h1) fun D σ H h => by
    obtain ⟨env, F, fp, S, P⟩ := h
    unfold siS at P
    refine ⟨env, F, fp, S, ?_⟩
    cases ea : fv env with
    | no => rw [ea] at P; exact P
    | ex c fs e => rw [ea] at P; exact fun cls d F' H' fp' S' x g => P cls d σ F' H' fp' S' x g
    | ok a =>
      obtain ⟨t, e1⟩ := a
      rw [ea] at P
      simp only [bnd] at P
      intro u F1 H1 fp1 f1 S1 o1 nd1 off1 g1
      split at P
      · rename_i ts0 e0
        obtain ⟨v, b0, hs0, _⟩ := S1.slot e0
        refine ⟨v, hs0, e1, F1, fp1, S1, ?_⟩
        have d1 : ∀ p ∈ f1, p ∉ fp1 := fun p hp hq => (List.nodup_append.mp nd1).2.2 p hq p hp rfl
        cases ek : fk e1 with
        | no => rw [ek] at P; exact P
        | ex c fs e => rw [ek] at P; exact fun cls d F' H' fp' S' x g => P cls d σ F' H' fp' S' x ((g1.less fun p hp => List.mem_append_left _ hp).trans g)
        | ok b =>
          obtain ⟨tk, e2⟩ := b
          rw [ek] at P
          dsimp only at P
          cases ei : tk.int? with
          | none => rw [ei] at P; exact P.elim
          | some n =>
            rw [ei] at P
            have etk := int?_eq ei
            subst etk
            simp only [ofO] at P
            intro w F2 H2 fp2 f2 S2 o2 nd2 off2 g2
            simp only [Own, Rep] at o2
            obtain ⟨rfl, rfl⟩ := o2
            obtain ⟨o1', off1', d1'⟩ := o1.go off1 g2 d1
            rw [List.append_nil] at nd2 g2 d1'
            split at P
            · rename_i ts e2i
              cases ej : ixN ts.length n with
              | none => rw [ej] at P; exact P.elim
              | some j =>
                rw [ej] at P
                obtain ⟨b, ob, nb, dft, sb, wr⟩ := S2.wr (ft := f1) e2i hs0 (List.nodup_append.mpr ⟨nd2, (List.nodup_append.mp nd1).2.1, fun x hx y hy e => by subst e; exact d1' x hy hx⟩) off1'
                simp only [Own] at ob
                obtain ⟨l, vs, f3, rfl, hl, os, rfl⟩ := ob
                have len := (Owns.bor _ _ _ os).len
                have nlf : l ∉ f3 := (List.nodup_cons.mp nb).1
                have nl1 : l ∉ f1 := dft l List.mem_cons_self
                obtain ⟨b', ob', nb', sb'⟩ := Owns.set (v := u) (ft := f1) j (Owns.mono (.refl _) _ _ _ (keep_upd (o := .lst (vs.set j u)) nlf) os) (Own.mono (.refl _) _ _ _ (keep_upd nl1) o1') (List.nodup_append.mpr ⟨(List.nodup_cons.mp nb).2, (List.nodup_append.mp nd1).2.1, fun x hx y hy e => by subst e; exact dft x (List.mem_cons_of_mem _ hx) hy⟩)
                refine ⟨l, vs, n, j, rfl, rfl, hl, by rw [len]; exact ej, ?_⟩
                obtain ⟨fp', S', g'⟩ := wr l (.lst (vs.set j u)) (.l (ts.set j t)) (l :: b') List.mem_cons_self ⟨l, vs.set j u, b', rfl, upd_same, ob', rfl⟩ (List.nodup_cons.mpr ⟨fun z => by
                  rcases List.mem_append.mp (sb' l z) with y | y
                  · exact nlf y
                  · exact nl1 y, nb'⟩) fun p hp => by
                  rcases List.mem_cons.mp hp with rfl | hp
                  · exact .inl List.mem_cons_self
                  · exact (List.mem_append.mp (sb' p hp)).imp (List.mem_cons_of_mem _) id
                exact P σ F2 _ fp' S' ((g1.trans (g2.frame (f := f1))).trans g')
            · exact P.elim
      · exact P.elim
/-- x[k] op= e, an item of shared data -/
theorem get_list : PGet X (rIxL X.K) := by
  intro pins s σ H o i ov iv Q I ro ri h
  obtain ⟨p, xs, i, z, rfl, rfl, hq, he, q⟩ := h
  cases ro
  obtain ⟨t, rfl⟩ := ri
  obtain ⟨its, r, pl, hz⟩ := I.list hq
  obtain ⟨j, h1, h2, h3, h4, h5⟩ := atI_get he
  obtain ⟨w, ew, rw'⟩ := r.get h2
  have hl := r.length
  have hn := line63
  have fin : EP X pins σ Q w s := ⟨z, H, I, rw', q⟩
  by_cases h0 : 0 ≤ i
  · have hj : i.toNat = j := by
      rw [seqIndex_of h0 h5] at h1
      exact Option.some.inj h1
    exact wpAny_getItem_list pl.isList h0 (by omega) (by rw [hj]; simpa using ew) fin
  · have hj : (i + (its.toArray.size : Int)).toNat = j := by
      rw [seqIndex_neg (by omega) h4] at h1
      rw [List.size_toArray, ← hl]
      exact Option.some.inj h1
    exact wpAny_getItem_list_neg pl.isList (by omega) (by rw [List.size_toArray] <;> omega) (by omega) (by rw [hj]; simpa using ew) fin
def saS (i : Nat) (g : T → T → Option T) (gk : En → R En T) (gv : En → R En T) : En → R En (Fl × En) := fun env => match env[i]? with
  | some (some (.l ts)) => bnd (gk env) fun k => ofO k.int? fun n => ofO (atI ts n) fun x => match x with
    | .s d => bnd (gv env) fun y => ofO (g (.s d) y) fun z => ofO (ixN ts.length n) fun j => .ok (.nx, env.set i (some (.l (ts.set j z))))
    | _ => .no
  | _ => .no
theorem Bors.get {G : Kt} {F H : Hp} : ∀ {ds : List T} {vs : List V} {i : Nat} {d : T}, Bors G F H ds vs → ds[i]? = some d → ∃ v, vs[i]? = some v ∧ Bor G F H d v
  | [], _, _, _, _, e => by simp at e
  | d :: ds, vs, 0, x, h, e => by
    simp only [Bors] at h
    obtain ⟨v, r, rfl, h1, h2⟩ := h
    have e' : d = x := by simpa using e
    subst e'
    exact ⟨v, rfl, h1⟩
  | d :: ds, vs, i + 1, x, h, e => by
    simp only [Bors] at h
    obtain ⟨v, r, rfl, h1, h2⟩ := h
    obtain ⟨w, q, z⟩ := Bors.get (i := i) (d := x) h2 (by simpa using e)
    exact ⟨w, by simpa using q, z⟩
theorem Bors.at {G : Kt} {F H : Hp} {ds : List T} {vs : List V} {i : Int} {d : T} (r : Bors G F H ds vs) (h : atI ds i = some d) : ∃ v, atI vs i = some v ∧ Bor G F H d v := by
  unfold atI at h ⊢
  rw [r.len]
  cases e : ixN ds.length i with
  | none => rw [e] at h; cases h
  | some j =>
    rw [e] at h
    exact r.get h
theorem vs_augitem {i : Nat} {x : Str} {e k : Expr} {op : Operator} {r : R2} {g : T → T → Option T} {gk gv : En → R En T} {np tp : Pos} (hN : X.N[i]? = some x) (hv : Vis X.env.scope x) (hk : VB X fx W k gk) (he : VB X fx W e gv) (ho : OpR X (inplaceOp op) r) (pr : Prim2 (kt X) r g)
    (ha : ∀ ov iv new, augStore k ov iv new = (do holding [new, ov, iv] (setItem ov iv new); release [new, ov, iv] []; pure .next) := by intros; rfl) (hd : (x == ("__debug__" : Str)) = false := by decide) (hcd : (x == ("__classdict__" : Str)) = false := by decide) :
    VS1 X fx W (.AugAssign (.Subscript (.Name x np) k tp) op e pos) (saS i g gk gv) :=
  PS.imp (ps_augS (pe_var hN hv hd hcd) hk get_list he (fun pins s σ H x y v u Q I r1 r2 h => ho pins s σ H x y v u Q I r1 r2 h) set_list ha) fun D σ H h => by
    obtain ⟨env, F, fp, S, P⟩ := h
    unfold saS at P
    split at P
    · rename_i ts e0
      obtain ⟨v, b0, hs0, ov⟩ := S.slot e0
      simp only [Own] at ov
      obtain ⟨l, vs, f3, rfl, hl, os, _⟩ := ov
      refine ⟨.ref l, hs0, env, F, fp, S, ?_⟩
      cases ek : gk env with
      | no => rw [ek] at P; exact P
      | ex c fs e => rw [ek] at P; exact fun cls d F' H' fp' S' x g => P cls d σ F' H' fp' S' x g
      | ok tk =>
        rw [ek] at P
        simp only [bnd] at P
        cases ei : tk.int? with
        | none => rw [ei] at P; exact P.elim
        | some n =>
          rw [ei] at P
          have etk := int?_eq ei
          subst etk
          simp only [ofO] at P
          intro kv F1 H1 g1 bk
          simp only [Bor, Rep] at bk
          subst bk
          cases ea : atI ts n with
          | none => rw [ea] at P; exact P.elim
          | some xt =>
            rw [ea] at P
            cases xt with
            | l _ => exact P.elim
            | dk _ => exact P.elim
            | ob _ _ => exact P.elim
            | p _ => exact P.elim
            | s d =>
              obtain ⟨xv, hx, bx⟩ := (Owns.bor _ _ _ os).at ea
              have len := (Owns.bor _ _ _ os).len
              refine ⟨l, vs, n, xv, rfl, rfl, .of (g1.h _ _ hl), hx, env, F1, fp, S.grow g1, ?_⟩
              cases ey : gv env with
              | no => simp only [ey] at P; exact P
              | ex c fs e => simp only [ey] at P; exact fun cls d F' H' fp' S' x g => P cls d σ F' H' fp' S' x ((g1.go fp).trans g)
              | ok y =>
                simp only [ey] at P
                intro yv F2 H2 g2 bY
                have g12 := g1.trans g2
                refine pr (.s d) y xv yv F2 H2 _ g2.sub (by simp only [Bor] at bx ⊢; exact bx.mono g12.f) bY ?_
                cases eg : g (.s d) y with
                | none => rw [eg] at P; exact P.elim
                | some z =>
                  rw [eg] at P
                  simp only at P
                  cases ej : ixN ts.length n with
                  | none => rw [ej] at P; exact P.elim
                  | some j =>
                    rw [ej] at P
                    intro zv F3 H3 ft g3 oz ndz offz
                    have g123 := g12.trans g3
                    have S3 := S.grow g123
                    obtain ⟨b, ob, nb, dft, sb, wr⟩ := S3.wr (ft := ft) e0 hs0 (List.nodup_append.mpr ⟨S.nd, ndz, fun x hx y hy e => by subst e; exact (S.grow g12).is hx (offz x hy).2⟩) fun p hp => (offz p hp).1
                    simp only [Own] at ob
                    obtain ⟨l', vs', f4, el, hl', os', rfl⟩ := ob
                    cases el
                    have evs : vs' = vs := by
                      have := g123.h _ _ hl
                      rw [hl'] at this
                      cases this; rfl
                    subst evs
                    have nlf : l ∉ f4 := (List.nodup_cons.mp nb).1
                    have nl1 : l ∉ ft := dft l List.mem_cons_self
                    obtain ⟨b', ob', nb', sb'⟩ := Owns.set (v := zv) (ft := ft) j (Owns.mono (.refl _) _ _ _ (keep_upd (o := .lst (vs'.set j zv)) nlf) os') (Own.mono (.refl _) _ _ _ (keep_upd nl1) oz) (List.nodup_append.mpr ⟨(List.nodup_cons.mp nb).2, ndz, fun x hx y hy e => by subst e; exact dft x (List.mem_cons_of_mem _ hx) hy⟩)
                    refine ⟨l, vs', n, j, rfl, rfl, hl', by rw [len]; exact ej, ?_⟩
                    obtain ⟨fp', S', g'⟩ := wr l (.lst (vs'.set j zv)) (.l (ts.set j z)) (l :: b') List.mem_cons_self ⟨l, vs'.set j zv, b', rfl, upd_same, ob', rfl⟩ (List.nodup_cons.mpr ⟨fun q => by
                      rcases List.mem_append.mp (sb' l q) with y | y
                      · exact nlf y
                      · exact nl1 y, nb'⟩) fun p hp => by
                      rcases List.mem_cons.mp hp with rfl | hp
                      · exact .inl List.mem_cons_self
                      · exact (List.mem_append.mp (sb' p hp)).imp (List.mem_cons_of_mem _) id
                    exact P σ F3 _ fp' S' ((g12.goNew fp [] (by simp) |>.trans (by rw [List.append_nil]; exact g3.goNew fp ft fun p hp => (offz p hp).2)).trans g')
    · exact P.elim

/-! ### list comprehensions -/
def wipeE (env : En) : List Nat → En
  | [] => env
  | v :: vs => (wipeE env vs).set v none
/-- the block's own names hold nothing that is owned -/
def plainAt (env : En) (vs : List Nat) : Bool := vs.all fun i => match env[i]? with
  | some none => true
  | some (some (.s _)) => true
  | _ => false
/-- .. and have again what they had -/
def backE (env0 env : En) : List Nat → En
  | [] => env
  | v :: vs => backE env0 (env.set v ((env0[v]?).getD none)) vs
theorem OwnE.wipe {G : Kt} {F H : Hp} : ∀ {vs : List Nat} {env : En} {σ : L2.St} {fp : List Addr}, OwnE G F H env σ fp → ∃ fp', OwnE G F H (wipeE env vs) (L2.wipe σ vs) fp' ∧ fp'.Sublist fp
  | [], env, σ, fp, h => ⟨fp, h, .refl _⟩
  | v :: vs, env, σ, fp, h => by
    obtain ⟨f1, h1, s1⟩ := OwnE.wipe (vs := vs) h
    unfold wipeE L2.wipe
    cases e : (wipeE env vs)[v]? with
    | none =>
      have hl := h1.there
      have e1 : (wipeE env vs).set v none = wipeE env vs := List.set_eq_of_length_le (List.getElem?_eq_none_iff.mp e)
      have e2 : (L2.wipe σ vs).set v none = L2.wipe σ vs := List.set_eq_of_length_le (by rw [← hl]; exact List.getElem?_eq_none_iff.mp e)
      rw [e1, e2]
      exact ⟨f1, h1, s1⟩
    | some x =>
      obtain ⟨a, b, c, s, rfl, hs, ob, k⟩ := h1.split e
      exact ⟨a ++ c, by simpa using k F H none none [] (.refl _) (fun _ _ _ e => e) rfl, (List.Sublist.append (List.Sublist.refl a) (List.sublist_append_right b c)).trans s1⟩
theorem wipe_get {σ : L2.St} {vs : List Nat} {j : Nat} : (L2.wipe σ vs)[j]? = if j ∈ vs ∧ j < σ.length then some none else σ[j]? := by
  induction vs with
  | nil => simp [L2.wipe]
  | cons v vs ih =>
    unfold L2.wipe
    by_cases hv : v = j
    · subst hv
      by_cases hl : v < σ.length
      · rw [List.getElem?_set_self (by rw [wipe_length]; exact hl)]
        simp [hl]
      · rw [List.getElem?_eq_none (by rw [List.length_set, wipe_length]; omega), if_neg (by simp [hl]), List.getElem?_eq_none (by omega)]
    · rw [List.getElem?_set_ne hv, ih]
      have : (j ∈ v :: vs) ↔ j ∈ vs := by simp [show ¬ j = v from fun z => hv z.symm]
      simp only [this]
/-- the turns -/
def lcL (vs : List Nat) (gt : GTg) (test : En → R En (Bool × En)) (elt : En → R En (T × En)) : List D → List T → En → R En (List T × En)
  | [], ts, env => .ok (ts, env)
  | d :: ds, ts, env => match gt (.s d) env with
    | none => .no
    | some e => match test e with
      | .ok (true, e1) => match elt e1 with
        | .ok (t, e2) => if ts.length < sizeLine then lcL vs gt test elt ds (ts ++ [t]) (wipeE e2 vs) else .no
        | _ => .no
      | .ok (false, e1) => lcL vs gt test elt ds ts (wipeE e1 vs)
      | _ => .no
def lcE (vs : List Nat) (fi : En → R En (List D × En)) (gt : GTg) (test : En → R En (Bool × En)) (elt : En → R En (T × En)) : En → R En (T × En) := fun env => bnd (fi env) fun a =>
  if plainAt a.2 vs then bnd (lcL vs gt test elt a.1 [] (wipeE a.2 vs)) fun b => .ok (.l b.1, backE a.2 b.2 vs) else .no
def yesT : En → R En (Bool × En) := fun env => .ok (true, env)
abbrev VTs (X : Cx) (fx : Fx) (W : L2.WX) (es : List Expr) (f : En → R En (Bool × En)) : Prop := PTs X es (tT (kt X) fx W f)
theorem vts_nil : VTs X fx W [] yesT := ⟨fun pins s σ H Q I h => pts_nil.run pins s σ H Q I (by
  obtain ⟨env, F, fp, S, P⟩ := h
  exact P F H fp S .refl)⟩
theorem vts_one {c : Expr} {f : En → R En (Bool × En)} (h : VT X fx W c f) : VTs X fx W [c] f := pts_one h
/-- behind the turns: the outer names as they were -/
theorem OwnE.back {G : Kt} {F H F0 H0 : Hp} {env0 : En} {σ : L2.St} {f0 : List Addr} (o0 : OwnE G F0 H0 env0 σ f0) (sf : Same F0 F) : ∀ {vs : List Nat} {env : En} {fp : List Addr}, vs.Nodup → plainAt env0 vs = true → OwnE G F H env (L2.wipe σ vs) fp →
    ∃ fp', OwnE G F H (backE env0 env vs) σ fp' ∧ fp'.Sublist fp
  | [], env, fp, _, _, h => ⟨fp, h, .refl _⟩
  | v :: vs, env, fp, nd, hp, h => by
    unfold plainAt at hp
    rw [List.all_cons, Bool.and_eq_true] at hp
    unfold backE
    have nm : v ∉ vs := (List.nodup_cons.mp nd).1
    have hx : ∃ x, env0[v]? = some x ∧ (x = none ∨ ∃ d, x = some (.s d)) := by
      have h1 := hp.1
      split at h1
      · rename_i e; exact ⟨_, e, .inl rfl⟩
      · rename_i d e; exact ⟨_, e, .inr ⟨d, rfl⟩⟩
      · cases h1
    obtain ⟨x, ex, hx⟩ := hx
    obtain ⟨a0, b0, c0, s0, _, hs0, ob0, _⟩ := o0.split ex
    have hlen0 := o0.there
    have hv0 : v < σ.length := (List.getElem?_eq_some_iff.mp hs0).1
    have hlen : env.length = σ.length := by rw [h.there, wipe_length]
    unfold L2.wipe at h
    obtain ⟨a, b, c, s, rfl, hs, ob, k⟩ := h.split (List.getElem?_eq_getElem (show v < env.length by omega))
    have hw : (L2.wipe σ vs)[v]? = some s0 := by rw [wipe_get, if_neg (by simp [nm]), hs0]
    have oS : OwnS G F H x s0 [] := by
      rcases hx with rfl | ⟨d, rfl⟩
      · exact rfl
      · obtain ⟨v', rfl, o⟩ := ob0
        simp only [Own] at o
        exact ⟨v', rfl, o.1.mono sf, rfl⟩
    have k' := k F H x s0 [] (.refl _) (fun _ _ _ e => e) oS
    rw [List.set_set, set_self hw, List.nil_append] at k'
    rw [ex]
    obtain ⟨fq, o', sl⟩ := OwnE.back o0 sf (vs := vs) (List.nodup_cons.mp nd).2 hp.2 k'
    exact ⟨fq, o', sl.trans (List.Sublist.append (List.Sublist.refl a) (List.sublist_append_right b c))⟩
theorem wipe_eq {σ σ' : L2.St} {vs sl : List Nat} (h : ∀ j : Nat, j ∉ sl → σ'[j]? = σ[j]?) (hl : σ'.length = σ.length) (hs : ∀ j ∈ sl, j ∈ vs) : L2.wipe σ' vs = L2.wipe σ vs := by
  apply List.ext_getElem?
  intro j
  rw [wipe_get, wipe_get, hl]
  by_cases hj : j ∈ vs ∧ j < σ.length
  · rw [if_pos hj, if_pos hj]
  · rw [if_neg hj, if_neg hj]
    by_cases hv : j ∈ vs
    · have : ¬ j < σ.length := fun z => hj ⟨hv, z⟩
      rw [List.getElem?_eq_none (by omega), List.getElem?_eq_none (by omega)]
    · exact h j fun z => hv (hs j z)
theorem wipe_wipe {σ : L2.St} {vs : List Nat} : L2.wipe (L2.wipe σ vs) vs = L2.wipe σ vs := by
  apply List.ext_getElem?
  intro j
  rw [wipe_get, wipe_get, wipe_length]
  by_cases hj : j ∈ vs ∧ j < σ.length
  · rw [if_pos hj, if_pos hj]
  · rw [if_neg hj, if_neg hj]
theorem Sta.wipe {G : Kt} {env : En} {F H : Hp} {σ : L2.St} {fp : List Addr} {vs : List Nat} (S : Sta G fx env F σ H fp) (hq : ∀ q ∈ fx, q.1 ∉ vs) : ∃ fp', Sta G fx (wipeE env vs) F (L2.wipe σ vs) H fp' ∧ ∀ p ∈ fp', p ∈ fp := by
  obtain ⟨fp', o, sl⟩ := S.own.wipe (vs := vs)
  exact ⟨fp', ⟨o, S.nd.sublist sl, fun p hp => S.off p (sl.subset hp), S.sub, fun q h => (by rw [wipe_get, if_neg (by simp [hq q h])]; exact S.fix q h), S.pin⟩, fun p hp => sl.subset hp⟩
theorem tLc_at {fi : En → R En (List D × En)} {vs sl : List Nat} {gt : GTg} {test : En → R En (Bool × En)} {elt : En → R En (T × En)} {σ : L2.St} {H : Hp} {Q : VK} {env : En} {F : Hp} {fp : List Addr} (nd : vs.Nodup) (hsl : ∀ j ∈ sl, j ∈ vs) (hq : ∀ q ∈ fx, q.1 ∉ vs)
    (S : Sta (kt X) fx env F σ H fp) (P : PV (kt X) fx W σ Q F H fp (lcE vs fi gt test elt env)) :
    PIt (kt X) fx W σ (fun J H1 => tLc (fun _ H' R => R J H') (tG (kt X) fx sl gt) (tT (kt X) fx (fun _ _ _ _ => False) test) (tV (kt X) fx (fun _ _ _ _ => False) elt) vs σ H1 Q) F H fp (fi env) := by
  unfold lcE at P
  cases ea : fi env with
  | no => rw [ea] at P; exact P
  | ex c fs e => rw [ea] at P; exact P
  | ok a =>
    obtain ⟨ds, e⟩ := a
    rw [ea] at P
    simp only [bnd] at P
    intro J F0 H0 fp0 S0 g0 io Dn hD
    split at P
    case isFalse => exact P.elim
    rename_i hpl
    obtain ⟨fw, Sw, subw⟩ := S0.wipe (vs := vs) hq
    have gD := Grow.lay (o := .lst []) S0.sub hD
    have nD : Dn ∉ fp0 := fun z => S0.is z hD
    have FD : F0 Dn = none := S0.sub.free hD
    -- the state between two turns
    let St2 : List T → En → List D → Hp → Prop := fun ts env2 dr H2 => ∃ F2 fp2 ft acc, Sta (kt X) fx env2 F2 (L2.wipe σ vs) H2 fp2 ∧ H2 Dn = some (.lst acc) ∧ Owns (kt X) F2 H2 ts acc ft ∧ (fp2 ++ Dn :: ft).Nodup ∧ (∀ p ∈ Dn :: ft, F2 p = none) ∧
      Go F0 (upd H0 Dn (.lst [])) (fw ++ [Dn]) F2 H2 (fp2 ++ Dn :: ft) ∧
      PV (kt X) fx W σ Q F0 H0 fp0 (bnd (lcL vs gt test elt dr ts env2) fun b => .ok (.l b.1, backE e b.2 vs))
    have goD : Go F0 H0 fp0 F0 (upd H0 Dn (.lst [])) (fw ++ [Dn]) := (gD.goNew fp0 [Dn] (by simpa using hD)).less fun p hp => by
      rcases List.mem_append.mp hp with z | z
      · exact List.mem_append_left _ (subw p z)
      · exact List.mem_append_right _ z
    refine ⟨fun i m H2 => m = ds.length - i ∧ i ≤ ds.length ∧ ∃ ts env2, St2 ts env2 (ds.drop i) H2, ⟨ds.length, by simp, Nat.zero_le _, [], wipeE e vs, F0, fw, [], [], Sw.grow gD, upd_same, ⟨rfl, rfl⟩, ?_, ?_, .refl, ?_⟩, ?_⟩
    · refine List.nodup_append.mpr ⟨Sw.nd, by simp, fun x hx y hy e => ?_⟩
      have : y = Dn := by simpa using hy
      subst this
      subst e
      exact nD (subw x hx)
    · intro p hp
      have : p = Dn := by simpa using hp
      subst this
      exact FD
    · have P' := P.go g0
      show PV (kt X) fx W σ Q F0 H0 fp0 _
      rw [List.drop_zero]
      exact P'
    · rintro i m H2 ⟨rfl, hi, ts, env2, F2, fp2, ft, acc, S2, hacc, os, nd2, off2, g2, P2⟩
      have goall := goD.trans g2
      obtain ⟨io1, io2⟩ := io F2 H2 (fp2 ++ Dn :: ft) goall S2.sub i
      by_cases hlt : i < ds.length
      · refine .inr ?_
        have ed : ds[i]? = some ds[i] := List.getElem?_eq_getElem hlt
        obtain ⟨hgo, hy⟩ := io1 _ ed
        refine ⟨hgo, fun H' => ∃ ts env2, St2 ts env2 (ds.drop (i + 1)) H', fun H' h => ⟨ds.length - (i + 1), by omega, rfl, hlt, h⟩, fun x H3 y => ?_⟩
        obtain ⟨F3, g3, r3⟩ := hy x H3 y
        rw [List.drop_eq_getElem_cons hlt] at P2
        unfold lcL at P2
        cases eg : gt (.s ds[i]) env2 with
        | none => rw [eg] at P2; exact P2.elim
        | some e3 =>
          rw [eg] at P2
          dsimp only at P2
          have S3 := S2.grow g3
          refine ⟨.s ds[i], env2, e3, F3, fp2, [], S3, ⟨r3, rfl⟩, by simpa using S2.nd, by simp, eg, fun σ4 fp4 S4 sub4 k4 l4 => ?_⟩
          refine ⟨by rw [wipe_eq k4 l4 hsl, wipe_wipe], e3, F3, fp4, S4, ?_⟩
          have hw4 : L2.wipe σ4 vs = L2.wipe σ vs := by rw [wipe_eq k4 l4 hsl, wipe_wipe]
          have sub4' : ∀ p ∈ fp4, p ∈ fp2 := fun p hp => by simpa using sub4 p hp
          have g34 : Go F2 H2 fp2 F3 H3 fp4 := (g3.go fp2).less sub4'
          have o2 : Own (kt X) F2 H2 (.l ts) (.ref Dn) (Dn :: ft) := ⟨Dn, acc, ft, rfl, hacc, os, rfl⟩
          have dis2 : ∀ p ∈ Dn :: ft, p ∉ fp2 := fun p hp z => (List.nodup_append.mp nd2).2.2 p z p hp rfl
          cases et : test e3 with
          | no => rw [et] at P2; exact P2
          | ex c fs e => rw [et] at P2; exact fun _ _ _ _ _ _ _ _ => P2.elim
          | ok tb =>
            obtain ⟨b, e1⟩ := tb
            rw [et] at P2
            intro F5 H5 fp5 S5 g5
            have g35 := g34.trans g5
            cases b with
            | false =>
              refine iteF ⟨ts, wipeE e1 vs, ?_⟩
              obtain ⟨fp7, S7, sub7⟩ := S5.wipe (vs := vs) hq
              rw [hw4] at S7
              obtain ⟨o5, off5, d5⟩ := o2.go off2 g35 dis2
              simp only [Own] at o5
              obtain ⟨p', acc', ft', ep, hacc', os', ef⟩ := o5
              cases ep
              cases ef
              refine ⟨F5, fp7, ft, acc', S7, hacc', os', List.nodup_append.mpr ⟨S7.nd, (List.nodup_append.mp nd2).2.1, fun x hx y hy e => by subst e; exact d5 x hy (sub7 x hx)⟩, off5, ?_, P2⟩
              exact (g2.trans (g35.frame (f := Dn :: ft))).less fun p hp => by
                rcases List.mem_append.mp hp with z | z
                · exact List.mem_append_left _ (sub7 p z)
                · exact List.mem_append_right _ z
            | true =>
              refine iteT ⟨e1, F5, fp5, S5, ?_⟩
              dsimp only at P2
              cases el : elt e1 with
              | no => rw [el] at P2; exact P2
              | ex c fs e => rw [el] at P2; exact fun _ _ _ _ _ _ _ _ => P2.elim
              | ok te =>
                obtain ⟨t, e2⟩ := te
                rw [el] at P2
                dsimp only at P2
                intro y F6 H6 fp6 f6 S6 o6 nd6 off6 g6
                split at P2
                case isFalse => exact P2.elim
                rename_i hz
                have g36 := g35.trans g6
                obtain ⟨o5, off5, d5⟩ := o2.go off2 g36 dis2
                simp only [Own] at o5
                obtain ⟨p', acc', ft', ep, hacc', os', ef⟩ := o5
                cases ep
                cases ef
                have lenacc := (Owns.bor _ _ _ os').len
                refine ⟨acc', hacc', by omega, ts ++ [t], wipeE e2 vs, ?_⟩
                have nD6 : Dn ∉ fp6 ∧ Dn ∉ f6 := ⟨fun z => d5 Dn List.mem_cons_self (List.mem_append_left _ z), fun z => d5 Dn List.mem_cons_self (List.mem_append_right _ z)⟩
                have nDt : Dn ∉ ft := (List.nodup_cons.mp (List.nodup_append.mp nd2).2.1).1
                have ndft := (List.nodup_cons.mp (List.nodup_append.mp nd2).2.1).2
                have FD6 : F6 Dn = none := off5 Dn List.mem_cons_self
                have S6' : Sta (kt X) fx e2 F6 σ4 (upd H6 Dn (.lst (acc' ++ [y]))) fp6 := ⟨OwnE.mono (.refl _) _ _ _ (keep_upd nD6.1) S6.own, S6.nd, S6.off, fun p u ep => by
                  rw [upd_ne fun z => by subst z; rw [FD6] at ep; cases ep]
                  exact S6.sub _ _ ep, S6.fix, S6.pin⟩
                obtain ⟨fp7, S7, sub7⟩ := S6'.wipe (vs := vs) hq
                rw [hw4] at S7
                have nd6' := List.nodup_append.mp nd6
                refine ⟨F6, fp7, ft ++ f6, acc' ++ [y], S7, upd_same, Owns.append (Owns.mono (.refl _) _ _ _ (keep_upd nDt) os') (Own.mono (.refl _) _ _ _ (keep_upd nD6.2) o6), ?_, ?_, ?_, P2⟩
                · refine List.nodup_append.mpr ⟨S7.nd, List.nodup_cons.mpr ⟨fun z => (List.mem_append.mp z).elim nDt nD6.2, List.nodup_append.mpr ⟨ndft, nd6'.2.1, fun x hx y hy e => by
                    subst e
                    exact d5 x (List.mem_cons_of_mem _ hx) (List.mem_append_right _ hy)⟩⟩, fun x hx y hy e => ?_⟩
                  subst e
                  rcases List.mem_cons.mp hy with z | z
                  · exact nD6.1 (z ▸ sub7 x hx)
                  · rcases List.mem_append.mp z with z | z
                    · exact d5 x (List.mem_cons_of_mem _ z) (List.mem_append_left _ (sub7 x hx))
                    · exact nd6'.2.2 x (sub7 x hx) x z rfl
                · intro p hp
                  rcases List.mem_cons.mp hp with z | z
                  · rw [z]; exact FD6
                  · rcases List.mem_append.mp z with z | z
                    · exact off5 p (List.mem_cons_of_mem _ z)
                    · exact off6 p z
                · have gw : Go F6 H6 ((fp6 ++ f6) ++ Dn :: ft) F6 (upd H6 Dn (.lst (acc' ++ [y]))) ((fp6 ++ f6) ++ Dn :: ft) := ⟨.refl _, fun _ _ h => .inl h, fun p u ep np => by
                    rw [upd_ne fun z => np (by rw [z]; simp)]
                    exact ep, fun p hp => .inl hp⟩
                  refine ((g2.trans (g36.frame (f := Dn :: ft))).trans gw).less fun p hp => ?_
                  rcases List.mem_append.mp hp with z | z
                  · exact List.mem_append_left _ (List.mem_append_left _ (sub7 p z))
                  · rcases List.mem_cons.mp z with z | z
                    · rw [z]; simp
                    · rcases List.mem_append.mp z with z | z
                      · simp [z]
                      · simp [z]
      · have en : i = ds.length := by omega
        subst en
        refine .inl ⟨io2 (Nat.le_refl _), ?_⟩
        rw [List.drop_length] at P2
        obtain ⟨fb, ob, slb⟩ := OwnE.back S0.own g2.f nd hpl S2.own
        have ndb := List.nodup_append.mp nd2
        refine P2 (.ref Dn) F2 H2 fb (Dn :: ft) ⟨ob, S2.nd.sublist slb, fun p hp => S2.off p (slb.subset hp), S2.sub, S0.fix, S2.pin⟩ ⟨Dn, acc, ft, rfl, hacc, os, rfl⟩ (nd2.sublist (slb.append (List.Sublist.refl _))) off2 (goall.less fun p hp => ?_)
        rcases List.mem_append.mp hp with z | z
        · exact List.mem_append_left _ (slb.subset z)
        · exact List.mem_append_right _ z
theorem tLc_of {fi : En → R En (List D × En)} {vs sl : List Nat} {gt : GTg} {test : En → R En (Bool × En)} {elt : En → R En (T × En)} {σ : L2.St} {H : Hp} {Q : VK} (nd : vs.Nodup) (hsl : ∀ j ∈ sl, j ∈ vs) (hq : ∀ q ∈ fx, q.1 ∉ vs)
    (h : tV (kt X) fx W (lcE vs fi gt test elt) σ H Q) : tLc (tI (kt X) fx W fi) (tG (kt X) fx sl gt) (tT (kt X) fx (fun _ _ _ _ => False) test) (tV (kt X) fx (fun _ _ _ _ => False) elt) vs σ H Q := by
  obtain ⟨env, F, fp, S, P⟩ := h
  exact ⟨env, F, fp, S, tLc_at nd hsl hq S P⟩
/-- [elt for tg in iter if ..] -/
theorem ve_lc {elt tg iter : Expr} {ifs : List Expr} {scope : Scope} {own : List (Str × Nat)} {sl : List Nat} {fi : En → R En (List D × En)} {gt : GTg} {test : En → R En (Bool × En)} {fe : En → R En (T × En)} (hc : X.calm = true) (hN : X.N.Nodup) (hi : VI X fx W tg iter fi) (ok : BlkOk X.N X.env.scope scope own)
    (nd : (own.map (·.2)).Nodup) (hsl : ∀ j ∈ sl, j ∈ own.map (·.2)) (hq : ∀ q ∈ fx, q.1 ∉ own.map (·.2))
    (hg : ∀ (s : Shared) (H : Hp) (C : Addr) (cl : List (Str × Addr)) (fp : List Addr), VG (X.blk s H scope (compEnvC scope cl C X.env) fp) fx tg sl gt) (ht : ∀ (s : Shared) (H : Hp) (C : Addr) (cl : List (Str × Addr)) (fp : List Addr), VTs (X.blk s H scope (compEnvC scope cl C X.env) fp) fx (fun _ _ _ _ => False) ifs test)
    (he : ∀ (s : Shared) (H : Hp) (C : Addr) (cl : List (Str × Addr)) (fp : List Addr), VE (X.blk s H scope (compEnvC scope cl C X.env) fp) fx (fun _ _ _ _ => False) elt fe) (hs : ∀ x, foldedSetIterable iter X.env x = pure x := by intro _; rfl) :
    VE X fx W (.ListComp elt [⟨tg, iter, ifs, 0⟩] scope pos) (lcE (own.map (·.2)) fi gt test fe) := PE.imp (pe_lc hc hN hi ok hg ht he hs) fun σ H Q h => tLc_of nd hsl hq h
theorem vs_setLc {i : Nat} {y : Str} {py : Pos} {elt tg iter : Expr} {ifs : List Expr} {scope : Scope} {own : List (Str × Nat)} {sl : List Nat} {spos : Pos} {fi : En → R En (List D × En)} {gt : GTg} {test : En → R En (Bool × En)} {fe : En → R En (T × En)} (hc : X.calm = true) (hN : X.N.Nodup) (hy : X.N[i]? = some y) (hyl : X.env.scope.names.lookup y = some .local) (hqi : ∀ q ∈ fx, q.1 ≠ i)
    (hsw : swapsWith (.ListComp elt [⟨tg, iter, ifs, 0⟩] scope pos) (some (.Name y py)) spos.line X.env = pure true) (hi : VI X fx W tg iter fi) (ok : BlkOk X.N X.env.scope scope own)
    (nd : (own.map (·.2)).Nodup) (hsl : ∀ j ∈ sl, j ∈ own.map (·.2)) (hq : ∀ q ∈ fx, q.1 ∉ own.map (·.2))
    (hg : ∀ (s : Shared) (H : Hp) (C : Addr) (cl : List (Str × Addr)) (fp : List Addr), VG (X.blk s H scope (compEnvC scope cl C X.env) fp) fx tg sl gt) (ht : ∀ (s : Shared) (H : Hp) (C : Addr) (cl : List (Str × Addr)) (fp : List Addr), VTs (X.blk s H scope (compEnvC scope cl C X.env) fp) fx (fun _ _ _ _ => False) ifs test)
    (he : ∀ (s : Shared) (H : Hp) (C : Addr) (cl : List (Str × Addr)) (fp : List Addr), VE (X.blk s H scope (compEnvC scope cl C X.env) fp) fx (fun _ _ _ _ => False) elt fe) (hs : ∀ x, foldedSetIterable iter X.env x = pure x := by intro _; rfl) :
    VS1 X fx W (.Assign [.Name y py] (.ListComp elt [⟨tg, iter, ifs, 0⟩] scope pos) spos) (setS i (lcE (own.map (·.2)) fi gt test fe)) := PS.imp (ps_setLc hc hN hy hyl hsw hi ok hg ht he hs) fun D σ H h =>
  tLc_of (Q := fun x H1 => gName i x σ H1 D.nx) nd hsl hq (tV_S (k := fun t e => ofO (stS i t e) fun e => .ok (.nx, e)) (fun t env F H fp v ft S o nd off P => set_end S o nd off hqi P) h)
end
end VS
namespace VS
open PySem PySem.Spec L2
open PyProof.Rows hiding St

/-! ### odds and ends -/
theorem hu65 {A : Around} {k : Nat} (hr : Room k A) : A.units + 65 < cLine := by have := hr.un; omega
theorem hu1 {A : Around} {k : Nat} (hr : Room k A) : A.units + 1 < cLine := by have := hr.un; omega
theorem of_fxOf {io : List Bool} {vs : List V} {is : List Nat} (h : ∀ i ∈ is, io[i]? ≠ some true) : ∀ q ∈ fxOf io vs, q.1 ∉ is := fun q hq hm => h _ hm (mem_fxOf.mp hq).1
section
variable {G : Kt}
def pNeg : T → Option T
  | .s (.int i) => some (.s (.int (-i)))
  | _ => none
theorem prim_neg : Prim1 G (rU fun i => .int (-i)) pNeg := by
  intro tx x F H Q s b p
  unfold pNeg at p
  split at p
  · simp only [Bor, Rep] at b
    subst b
    exact ⟨_, rfl, PR.val s p (by simp only [Rep])⟩
  · exact p.elim
def pIadd (x y : T) : Option T := match x, y with
  | .s (.int i), .s (.int j) => some (.s (.int (i + j)))
  | .s (.str a), .s (.str b) => if a.length + b.length ≤ sizeLine then some (.s (.str (a ++ b))) else none
  | _, _ => none
theorem iop_addA {X : Cx} : OpR X (inplaceOp .Add) (fun x y H Q => (rI0 fun i j => .int (i + j)) x y H Q ∨ (∃ i j, x = .str i ∧ y = .str j ∧ i.length + j.length ≤ sizeLine ∧ Q (.str (i ++ j)) H)) := iop_add.or iop_add_str
theorem prim_iadd : Prim2 G (fun x y H Q => (rI0 fun i j => .int (i + j)) x y H Q ∨ (∃ i j, x = .str i ∧ y = .str j ∧ i.length + j.length ≤ sizeLine ∧ Q (.str (i ++ j)) H)) pIadd := by
  intro tx ty x y F H Q s b1 b2 p
  unfold pIadd at p
  split at p
  · simp only [Bor, Rep] at b1 b2
    subst b1 b2
    exact .inl ⟨_, _, rfl, rfl, PR.val s p (by simp only [Rep])⟩
  · simp only [Bor, Rep] at b1 b2
    subst b1 b2
    split at p
    · exact .inr ⟨_, _, rfl, rfl, by assumption, PR.val s p (by simp only [Rep])⟩
    · exact p.elim
  · exact p.elim
/-- text * number -/
def rMulS : R2 := fun x y H Q => ∃ a k, x = .str a ∧ y = .int k ∧ a.length ≤ 16 ∧ -(2 ^ 63) ≤ k ∧ k ≤ 1000000 ∧ Q (.str (Txt.mul a k)) H
theorem op_mulS {X : Cx} : OpR X (binaryOp .Mult) rMulS := by
  intro pins s σ H x y v u Q I rx ry h
  obtain ⟨a, k, rfl, rfl, h1, h2, h3, q⟩ := h
  obtain ⟨t, rfl⟩ := rx
  obtain ⟨t', rfl⟩ := ry
  exact SB.mul (mulOk_of 16 1000000 h1 h3 h2 (by decide) (by decide)) fun t' tk => ⟨.str _, H, I.tok _, ⟨_, rfl⟩, q⟩
def pMulA (x y : T) : Option T := match x, y with
  | .s (.str a), .s (.int k) => if a.length ≤ 16 ∧ -(2 ^ 63) ≤ k ∧ k ≤ 1000000 then some (.s (.str (Txt.mul a k))) else none
  | x, y => pMul x y
def rMulA : R2 := fun x y H Q => ((rI CMul fun i j => .int (i * j)) x y H Q ∨ rRep x y H Q) ∨ rMulS x y H Q
theorem op_mulA {X : Cx} : OpR X (binaryOp .Mult) rMulA := (op_mul.or op_rep).or op_mulS
theorem prim_mulA : Prim2 G rMulA pMulA := by
  intro tx ty x y F H Q s b1 b2 p
  unfold pMulA at p
  split at p
  · simp only [Bor, Rep] at b1 b2
    subst b1 b2
    split at p
    · rename_i h
      exact .inr ⟨_, _, rfl, rfl, h.1, h.2.1, h.2.2, PR.val s p (by simp only [Rep])⟩
    · exact p.elim
  · exact .inl (prim_mul tx ty x y F H Q s b1 b2 p)
end
/-! ### names of a comprehension's block -/
theorem lookup_rel {env : Env} : ∀ {names : List (Str × NameKind)} {x : Str} {k : NameKind}, names.lookup x = some k →
    (names.map fun (n, k) => if (k == NameKind.free && env.scope.kind == .function && env.kindOf n == some .cell) then (n, NameKind.cell) else (n, k)).lookup x = some k ∨
    (k = .free ∧ (names.map fun (n, k) => if (k == NameKind.free && env.scope.kind == .function && env.kindOf n == some .cell) then (n, NameKind.cell) else (n, k)).lookup x = some .cell)
  | [], _, _, h => by simp at h
  | (n, k0) :: r, x, k, h => by
    have ih := @lookup_rel env r x k
    show List.lookup x ((if (k0 == NameKind.free && env.scope.kind == .function && env.kindOf n == some .cell) = true then (n, NameKind.cell) else (n, k0)) :: _) = _ ∨ _
    cases hx : x == n with
    | true =>
      simp only [List.lookup_cons, hx] at h
      cases h
      by_cases hc : (k0 == NameKind.free && env.scope.kind == .function && env.kindOf n == some .cell) = true
      · rw [if_pos hc]
        refine .inr ⟨?_, ?_⟩
        · simp only [Bool.and_eq_true] at hc
          exact eq_of_beq hc.1.1
        · show List.lookup x ((if (k0 == NameKind.free && env.scope.kind == .function && env.kindOf n == some .cell) = true then (n, NameKind.cell) else (n, k0)) :: _) = _
          rw [if_pos hc]
          simp only [List.lookup_cons, hx]
      · rw [if_neg hc]
        exact .inl (by simp only [List.lookup_cons, hx])
    | false =>
      simp only [List.lookup_cons, hx] at h
      by_cases hc : (k0 == NameKind.free && env.scope.kind == .function && env.kindOf n == some .cell) = true
      · rw [if_pos hc]
        rcases ih h with q | ⟨q1, q2⟩
        · exact .inl (by simp only [List.lookup_cons, hx]; exact q)
        · refine .inr ⟨q1, ?_⟩
          show List.lookup x ((if (k0 == NameKind.free && env.scope.kind == .function && env.kindOf n == some .cell) = true then (n, NameKind.cell) else (n, k0)) :: _) = _
          rw [if_pos hc]
          simp only [List.lookup_cons, hx]
          exact q2
      · rw [if_neg hc]
        rcases ih h with q | ⟨q1, q2⟩
        · exact .inl (by simp only [List.lookup_cons, hx]; exact q)
        · refine .inr ⟨q1, ?_⟩
          show List.lookup x ((if (k0 == NameKind.free && env.scope.kind == .function && env.kindOf n == some .cell) = true then (n, NameKind.cell) else (n, k0)) :: _) = _
          rw [if_neg hc]
          simp only [List.lookup_cons, hx]
          exact q2
section
variable {X : Cx} {s : Shared} {H : Hp} {scope : Scope} {cl : List (Str × Addr)} {C : Addr} {fp : List Addr} {x : Str}
theorem vFree (h : scope.names.lookup x = some .free) : Vis (X.blk s H scope (compEnvC scope cl C X.env) fp).env.scope x := by
  rcases lookup_rel (env := X.env) h with q | ⟨_, q⟩
  · exact .inr (.inr q)
  · exact .inr (.inl q)
theorem vCell (h : scope.names.lookup x = some .cell) : Vis (X.blk s H scope (compEnvC scope cl C X.env) fp).env.scope x := by
  rcases lookup_rel (env := X.env) h with q | ⟨z, _⟩
  · exact .inr (.inl q)
  · cases z
theorem vLocal (h : scope.names.lookup x = some .local) : Vis (X.blk s H scope (compEnvC scope cl C X.env) fp).env.scope x := by
  rcases lookup_rel (env := X.env) h with q | ⟨z, _⟩
  · exact .inl q
  · cases z
theorem lCell (h : scope.names.lookup x = some .cell) : Loc (X.blk s H scope (compEnvC scope cl C X.env) fp).env.scope x := by
  rcases lookup_rel (env := X.env) h with q | ⟨z, _⟩
  · exact .inr q
  · cases z
theorem lLocal (h : scope.names.lookup x = some .local) : Loc (X.blk s H scope (compEnvC scope cl C X.env) fp).env.scope x := by
  rcases lookup_rel (env := X.env) h with q | ⟨z, _⟩
  · exact .inl q
  · cases z
theorem fCell (h : scope.names.lookup x = some .cell) : (X.blk s H scope (compEnvC scope cl C X.env) fp).fn x = true ∨ (X.blk s H scope (compEnvC scope cl C X.env) fp).env.scope.names.lookup x = some .local := .inl (by
  show (scope.names.lookup x == some .cell) = true
  rw [h]; rfl)
theorem fLocal (h : scope.names.lookup x = some .local) : (X.blk s H scope (compEnvC scope cl C X.env) fp).fn x = true ∨ (X.blk s H scope (compEnvC scope cl C X.env) fp).env.scope.names.lookup x = some .local := by
  rcases lookup_rel (env := X.env) h with q | ⟨z, _⟩
  · exact .inr q
  · cases z
end
end VS
namespace VS
open PySem PySem.Spec L2
open PyProof.Rows hiding St

/-! ### enumerate of a text -/
/-- the signs of x, each in a new pair -/
def Ies (x : Str) : It :=
  ⟨fun i _ => i < x.cps.size, fun i H v H' => ∃ (p : Addr) (c : Nat), v = .ref p ∧ H p = none ∧ x.cps[i]? = some c ∧ H' = upd H p (.tup [.int (i : Nat), .str ⟨#[c]⟩]), fun i _ => x.cps.size ≤ i⟩
theorem turn_enumS {P : Program} {w : World} {K : PySem.W.Frag} {elts : List Expr} {kk : Nat} {tpos : Pos} (x : Str) (t : Tok) (ty : String) (hty : ty = "str_ascii_iterator" ∨ ty = "str_iterator") (e it : Addr) :
    Turn P w K (.Tuple elts kk tpos) (Ies x) [e, it] e (fun i h => (∃ old, IsEnum h e it ((i : Nat) : Int) old) ∧ h.IsStrIter it ty x t i ∧ e ≠ it) where
  mem := by simp
  obj := fun i h st b hb => by
    obtain ⟨⟨old, he⟩, ⟨o, ho, hc, hd⟩, _⟩ := st
    have e' : b = e ∨ b = it := by simpa using hb
    rcases e' with z | z
    · rw [z]; exact ⟨_, he, fun v q => nomatch q⟩
    · rw [z]; exact ⟨o, ho, fun v q => by rw [hd] at q; cases q⟩
  keep := fun i h h' st k => let ⟨⟨old, he⟩, ⟨o, ho, r⟩, hne⟩ := st; ⟨⟨old, k e (by simp) _ he⟩, ⟨o, k it (by simp) o ho, r⟩, hne⟩
  item := by
    intro X hP hw hK hc i pins s σ H E I hf st hg
    subst hP hw hK
    obtain ⟨⟨old, he⟩, hit, hne⟩ := st
    have hel : e < s.heap.objs.size := Heap.lt_size he
    have hil : it < s.heap.objs.size := by obtain ⟨_, q, _⟩ := hit; exact Heap.lt_size q
    have D : Draws X.prog X.w X.A.in1 it [it] x.cps.size (fun i v => ∃ c u, x.cps[i]? = some c ∧ v = .str ⟨#[c]⟩ u) (fun i h => h.IsStrIter it ty x t i) := by
      rcases hty with e | e
      · rw [e]; exact Draws.strAscii (A := X.A.in1) (I.ok.hd hc) it x t
      · rw [e]; exact Draws.strWide (A := X.A.in1) (I.ok.hd hc) it x t
    refine wpAny_pyNext_enum_itemD D he hit hg hne (by simpa using hne) fun u h' tk hu ho hit' hT hsz hk => ?_
    obtain ⟨c, uu, hx, rfl⟩ := hu
    refine ⟨_, rfl, wpAny_letOwnedTupleGo_enum (s := { s with heap := h', toks := tk + 1 }) ho fun h'' he' sb => ?_⟩
    have hT2 : h''.get? s.heap.objs.size = some { cls := .type "tuple", data := .seq #[.int i tk, .str ⟨#[c]⟩ uu] } := (sb.2 _ (Nat.ne_of_gt hel)).trans hT
    have new : ObjOk X.prog X.w (upd H s.heap.objs.size (.tup [.int (i : Nat), .str ⟨#[c]⟩])) h'' s.heap.objs.size (.tup [.int (i : Nat), .str ⟨#[c]⟩]) :=
      ⟨by show 2 ≤ sizeLine; decide, [.int i tk, .str ⟨#[c]⟩ uu], .cons ⟨_, rfl⟩ (.cons ⟨_, rfl⟩ .nil), ⟨_, hT2, rfl, _, rfl⟩⟩
    have I1 : Inv X pins σ (upd H s.heap.objs.size (.tup [.int (i : Nat), .str ⟨#[c]⟩])) { s with heap := h'', toks := tk + 1 } :=
      I.turnedNew (ch := [e, it]) (fun b ob hb q => (sb.2 b (fun z => hb (by simp [z]))).trans (hk b ob (fun z => hb (by simp [z])) (fun z => hb (by simp [z])) q)) hf (Nat.le_refl _) new
    refine ⟨.ref s.heap.objs.size, _, I1, rfl, ⟨_, c, rfl, I.hok.fresh (Nat.le_refl _), hx, rfl⟩, ⟨⟨.str ⟨#[c]⟩ uu, ?_⟩, ?_, hne⟩, fun b hb => ?_⟩
    · have e1 : ((i + 1 : Nat) : Int) = (i : Int) + 1 := by omega
      rw [e1]; exact he'
    · obtain ⟨o, ho, r⟩ := hit'
      exact ⟨o, (sb.2 it (Ne.symm hne)).trans ho, r⟩
    · have hb' : b < s.heap.objs.size := by
        have e' : b = e ∨ b = it := by simpa using hb
        rcases e' with z | z
        · rw [z]; exact hel
        · rw [z]; exact hil
      rw [upd_ne (Nat.ne_of_lt hb')]
      exact (hf b hb).1
  done := by
    intro X hP hw hK hc i pins s σ H E I hf st hg
    subst hP hw hK
    obtain ⟨⟨old, he⟩, hit, hne⟩ := st
    obtain ⟨f0, f1, f2, f3, f4, f5⟩ := hf it (by simp)
    have hx : x.cps[i]? = none := Array.getElem?_eq_none hg
    have hT : s.TypeIs (.ref e) "enumerate" := ⟨_, he, rfl⟩
    have fin : ∀ {Q : Value → Shared → Prop} {E : Value → Shared → Prop} {A' : Around}, A'.handled = none → (∀ h' x, Heap.ExtBut it s.heap h' → (∃ o, h'.get? x = some o ∧ o.cls = .type "StopIteration") → E (.ref x) { s with heap := h' }) → wpAny (model X.prog X.w) A' (Builtin.SmallTypes.nextOf (.ref it)) Q E s := by
      intro Q E A' hh q
      rcases hty with e | e
      · rw [e] at hit; exact wpAny_nextOf_ascii_end hh hit hx q
      · rw [e] at hit; exact wpAny_nextOf_wide_end hh hit hx q
    unfold pyNext
    refine wpAny_bind (wpAny_attempt (wpAny_callSpecial?_slot (name := Str.ofString "__next__") hT F.slot_enumerate_next
      (wpAny_call_entry F.slot_enumerate_next hT F.entry_enumerate_next ?_ (F.args_enumerate_next_1 _))))
    show wpAny _ _ (field (.ref e) 2 >>= _) _ _ _
    refine wpAny_bind (wpAny_field he rfl (x := .ref it) rfl ?_)
    refine wpAny_bind (fin (I.ok.hd hc) fun h' y he' hx' => ?_)
    obtain ⟨o, ho, hcl⟩ := hx'
    refine wpAny_bind (wpAny_isInstance (T := "StopIteration") (b := true) ⟨o, ho, hcl⟩ isSubtype_stop ?_)
    exact wpAny_pure ⟨rfl, I.turned (t' := s.toks) (fun b o hb q => he' b o hb q) f0 f1 f3 f4 f5⟩
  self := fun A i s Q E st h => let ⟨⟨_, he⟩, _⟩ := st; wpAny_pyIter_enum he h
def iEnumA (K : PySem.W.Frag) (ta : TA) : TI := fun σ H R => ta σ H fun vs H1 => (∃ a xs, vs = [.ref a] ∧ SqL K H1 a xs ∧ R (Ite K a) H1) ∨ ∃ x, vs = [.str x] ∧ R (Ies x) H1
theorem pi_enumA {X : Cx} {e : Expr} {ta : TA} {p pos tpos : Pos} {elts : List Expr} {kk : Nat} (hg : Gl X "enumerate") (hm : X.mg "enumerate" = none) (ha : PA X [e] ta) (hs : starEach [e] X.env = [(false, eval e X.env)] := by rfl) :
    PI X (.Tuple elts kk tpos) (.Call (.Name "enumerate" p) [e] [] pos) (iEnumA X.K ta) := by
  refine ⟨fun pins s σ H R I h => ?_⟩
  refine Call_ (ld_blt I hg hm boot_enumerate (PyProof.Rows.callWith_type1 (thn (ha.run pos pins s σ H _ I h) fun us s1 ⟨vs, H1, I1, r1, q1⟩ => ?_) hs rfl))
  have tail : ∀ {h' : Heap}, (∀ b o, s1.heap.get? b = some o → h'.get? b = some o) → ∀ b, b ∈ [s1.heap.objs.size + 1, s1.heap.objs.size] → FpOk X pins H1 b := fun {h'} hk b hb => by
    have e' : b = s1.heap.objs.size + 1 ∨ b = s1.heap.objs.size := by simpa using hb
    have hle : s1.heap.objs.size ≤ b := by
      rcases e' with z | z
      · rw [z]; exact Nat.le_add_right _ _
      · rw [z]; exact Nat.le_refl _
    exact I1.fpOk hle (I1.hok.fresh hle)
  rcases q1 with ⟨a, xs, ex, hq, q⟩ | ⟨x, ex, q⟩
  · subst ex
    cases r1 with
    | cons r rr =>
      cases rr
      cases r
      obtain ⟨its, rv, p', hz⟩ := I1.list hq
      refine call_enumerate_list p'.isList fun h' he hit hsz hk => wpAny_pyIter_enum he ?_
      have I2 : Inv X pins σ H1 { s1 with heap := h' } := I1.kept (t' := s1.toks) hk
      exact ⟨s1.heap.objs.size + 1, [s1.heap.objs.size + 1, s1.heap.objs.size], _, _, H1, rfl, I2, turn_enum a (s1.heap.objs.size + 1) s1.heap.objs.size, ⟨⟨.none, he⟩, hit, Nat.succ_ne_self _⟩, tail hk, q⟩
  · subst ex
    cases r1 with
    | cons r rr =>
      cases rr
      obtain ⟨t, rfl⟩ := r
      refine call_enumerate_str fun h' he hit hsz hk => wpAny_pyIter_enum he ?_
      have I2 : Inv X pins σ H1 { s1 with heap := h' } := I1.kept (t' := s1.toks) hk
      cases ha : x.cps.all (· < 128)
      · have hit' : h'.IsStrIter s1.heap.objs.size "str_iterator" x t 0 := by simpa [strIterType, ha] using hit
        exact ⟨s1.heap.objs.size + 1, [s1.heap.objs.size + 1, s1.heap.objs.size], _, _, H1, rfl, I2, turn_enumS x t "str_iterator" (.inr rfl) (s1.heap.objs.size + 1) s1.heap.objs.size, ⟨⟨.none, he⟩, hit', Nat.succ_ne_self _⟩, tail hk, q⟩
      · have hit' : h'.IsStrIter s1.heap.objs.size "str_ascii_iterator" x t 0 := by simpa [strIterType, ha] using hit
        exact ⟨s1.heap.objs.size + 1, [s1.heap.objs.size + 1, s1.heap.objs.size], _, _, H1, rfl, I2, turn_enumS x t "str_ascii_iterator" (.inl rfl) (s1.heap.objs.size + 1) s1.heap.objs.size, ⟨⟨.none, he⟩, hit', Nat.succ_ne_self _⟩, tail hk, q⟩
section
variable {X : Cx} {fx : Fx} {W : L2.WX} {pos : Pos}
def enT : T → Option (List D)
  | .s (.str z) => some (enD (z.cps.toList.map fun c => .str ⟨#[c]⟩))
  | t => t.ls.map enD
def itEn (f : En → R En (List T × En)) : En → R En (List D × En) := fun env => bnd (f env) fun a => match a.1 with
  | [t] => ofO (enT t) fun ds => .ok (ds, a.2)
  | _ => .no
theorem itok_enumS {G : Kt} {F0 H0 : Hp} {fp0 : List Addr} {z : Str} : ItOk G (Ies z) (enD (z.cps.toList.map fun c => .str ⟨#[c]⟩)) F0 H0 fp0 := by
  intro F2 H2 fp2 g s i
  refine ⟨fun d hd => ?_, fun hn => ?_⟩
  · unfold enD at hd
    rw [List.getElem?_zipWith, List.getElem?_map] at hd
    cases e2 : z.cps.toList[i]? with
    | none => 
      rw [e2] at hd
      cases e1 : (List.range (z.cps.toList.map fun c => D.str ⟨#[c]⟩).length)[i]? with
      | none => rw [e1] at hd; cases hd
      | some _ => rw [e1] at hd; cases hd
    | some c =>
      rw [e2] at hd
      have hlt : i < z.cps.toList.length := (List.getElem?_eq_some_iff.mp e2).1
      rw [List.length_map, List.getElem?_range hlt] at hd
      cases hd
      have e' : z.cps[i]? = some c := by simpa using e2
      have hlt' : i < z.cps.size := by simpa using hlt
      refine ⟨hlt', fun x H3 y => ?_⟩
      obtain ⟨p, c', rfl, hp, ec, rfl⟩ := y
      rw [e'] at ec
      cases ec
      have gl := Grow.layF (o := .tup [.int (i : Nat), .str ⟨#[c]⟩]) s hp
      refine ⟨_, gl, ?_⟩
      simp only [Rep]
      exact ⟨p, _, rfl, .inl upd_same, by
        simp only [Reps, Rep]
        exact ⟨_, _, rfl, rfl, _, [], rfl, rfl, rfl⟩⟩
  · have hn' : z.cps.size ≤ i := by simpa [enD] using hn
    exact hn'
theorem vi_enumA {e : Expr} {p tpos : Pos} {elts : List Expr} {kk : Nat} {f : En → R En (List T × En)} (hg : Gl X "enumerate") (hm : X.mg "enumerate" = none) (ha : VEs X fx W [e] f) (hs : starEach [e] X.env = [(false, eval e X.env)] := by rfl) :
    VI X fx W (.Tuple elts kk tpos) (.Call (.Name "enumerate" p) [e] [] pos) (itEn f) :=
  PI.imp (pi_enumA hg hm ha hs) fun σ H R' h => tVs_I (k := fun ts e => match ts with
    | [t] => ofO (enT t) fun ds => .ok (ds, e)
    | _ => .no) (fun ts e F H fp vs ft S o nd off P => by
    split at P
    · rename_i t
      have lsc : ∀ ds, t.ls = some ds → enT t = some (enD ds) → (∃ a xs, vs = [V.ref a] ∧ SqL X.K H a xs ∧ R' (Ite X.K a) H) := by
        intro ds el en
        rw [en] at P
        simp only [Owns] at o
        obtain ⟨v, r0, f1, f2, rfl, o, ⟨rfl, rfl⟩, rfl⟩ := o
        rw [List.append_nil] at nd P off
        obtain ⟨a, us, rfl, h1, r⟩ := ls_rep S.sub o.bor el
        refine ⟨a, us, rfl, .of h1, P _ F H fp S (Go.refl.less fun p hp => List.mem_append_left _ hp) (itok_enum h1 (fun hm => ?_) r)⟩
        cases t with
        | s d =>
          cases d with
          | lst xs =>
            simp only [Own, Rep] at o
            obtain ⟨⟨a', vs', e', ha', _⟩, _⟩ := o
            cases e'
            rw [S.off _ hm] at ha'; cases ha'
          | _ => cases el
        | l ts =>
          simp only [Own] at o
          obtain ⟨p', vs', f1, e', ha', _, rfl⟩ := o
          cases e'
          exact (List.nodup_append.mp nd).2.2 _ hm _ List.mem_cons_self rfl
        | dk _ => cases el
        | ob _ _ => cases el
        | p _ => cases el
      unfold enT at P lsc
      split at P
      · rename_i z
        right
        simp only [Owns, Own, Rep] at o
        obtain ⟨v, r0, f1, f2, rfl, ⟨rfl, rfl⟩, ⟨rfl, rfl⟩, rfl⟩ := o
        exact ⟨z, rfl, P _ F H fp S (Go.refl.less fun p hp => List.mem_append_left _ hp) itok_enumS⟩
      · rename_i hz
        cases el : t.ls with
        | none => rw [el] at P; exact P.elim
        | some ds =>
          left
          refine lsc ds el ?_
          split
          · exact absurd rfl (hz _)
          · rw [el]; rfl
    · exact P.elim) h
end
end VS
/-! own exceptions: made, raised, caught, looked at -/
namespace VS
open PySem PySem.Spec L2
open PyProof.Rows hiding St

/-- isinstance(e, c), e the exception that the suite holds, with its dict or without -/
def rIsX (K : PySem.W.Frag) (D a : Addr) (d : Option Addr) : List V → Hp → VK → Prop := fun xs H Q => ∃ (c : V) (cv : Value) (b : Bool), xs = [.ref a, c] ∧ (∀ u, RelV c u → u = cv) ∧ PySem.W.kitOne K (.ref D) cv = some b ∧ (∀ dd, d = some dd → ∃ fs, H dd = some (.xd fs)) ∧ Q (.bl b) H
theorem call_isX {X : Cx} {a D : Addr} {d : Option Addr} {oe : Obj} {pn : List (Addr × Obj)} (C : ExcC X.K D) (hz : Zc (.ref D) d oe) (hf : ∃ vs, oe.data = .fields vs) : CallR (X.suite a ((a, oe) :: pn)) (.builtin "isinstance") (rIsX X.K D a d) := by
  intro pins s σ H xs us Q I r h
  obtain ⟨c, cv, b, rfl, hcv, e, hd, q⟩ := h
  cases r with
  | cons rx rr =>
    cases rr with
    | cons rt rr =>
      cases rr
      cases rx
      have ec := hcv _ rt
      subst ec
      obtain ⟨hget, _⟩ := I.pin (a, oe) (List.mem_append.mpr (.inl List.mem_cons_self))
      obtain ⟨vs, hv⟩ := hf
      obtain ⟨od, J⟩ : ∃ od, PySem.W.InstAt s.heap a oe D od := by
        obtain ⟨oc, od, oda, osl⟩ := oe
        obtain ⟨h1, h2⟩ := hz
        dsimp only at h1 h2 hv
        subst h1 h2 hv
        cases od with
        | none => exact ⟨none, hget, rfl, rfl, trivial⟩
        | some dd =>
          obtain ⟨fs, hfs⟩ := hd dd rfl
          have hx : ObjOk X.prog X.w H s.heap dd (.xd fs) := I.hok dd _ hfs
          obtain ⟨mA, hns, hr⟩ := hx
          obtain ⟨ob, ho, hl⟩ := lookIn_ns hns
          exact ⟨some ob, hget, rfl, rfl, ho⟩
      exact PySem.W.kia_one (PySem.W.kitx_exc (by obtain ⟨cd, hc, _⟩ := PySem.W.any_some C.hd; rw [hc]; rfl) C.hg C.hk C.hs C.ha C.hn C.ht C.hm) I.kIn J e (fun z => nomatch z) fun tk => ⟨.bl b, H, I.kept (t' := tk) fun _ _ z => z, rfl, q⟩

/-! ### __init__ of an own exception -/
def spI (K : PySem.W.Frag) (names : List Str) : Sp := fun vs H Q _ => ∃ (a C : Addr) (ys : List V), vs = .ref a :: ys ∧ ys.length = names.length ∧ OexC K C ∧ (∀ f ∈ names, PySem.W.findIn K (.ref C) f = some none) ∧ H a = some (exo a C none) ∧
  ∀ dx, H dx = none → dx ≠ a → Q .non (upd (upd H dx (exd dx (names.zip ys).reverse)) a (exo a C (some dx)))
section
variable {P : Program} {w : World} {K : PySem.W.Frag} {mg : Str → Option Value} {base : Heap}
theorem init1 {qual : Str} {st : Stmt} {fI : Addr} {fd : FuncData} {f : Str} {p1 p2 p3 p4 : Pos} (F : Fun K "__init__" qual st fI fd) (S : FnScope ["self", f] ["self", f] (defScope st)) (hb : defBody st = [.Assign [.Attribute (.Name "self" p1) f p2] (.Name f p3) p4])
    (v0 : Vis (defScope st) "self") (v1 : Vis (defScope st) f) (hd : (f == ("__debug__" : Str)) = false := by decide) (hcd : (f == ("__classdict__" : Str)) = false := by decide) :
    FnOk P w K mg base (L2.CX P w) 1 fI fd ["self", f] (spI K [f]) := by
  refine F.okX S (fun vs H Q E h => ?_) (fun cdv A outer s H vs Q E hr h => ⟨tOst K f (tVar 0) (tVar 1), ?_, ?_⟩)
  · obtain ⟨a, C, ys, rfl, hl, _⟩ := h
    simp [hl]
  · rw [hb]
    exact pss_one (ps_ost (pe_var (i := 0) rfl v0) (pe_var (i := 1) rfl v1 hd hcd))
  · obtain ⟨a, C, ys, rfl, hl, T, hno, ha, q⟩ := h
    match ys, hl with
    | [y], _ =>
      refine ⟨y, rfl, .ref a, rfl, a, C, rfl, T, hno f List.mem_cons_self, .inl ⟨ha, fun dx h1 h2 => ?_⟩⟩
      exact q dx h1 h2
theorem init2 {qual : Str} {st : Stmt} {fI : Addr} {fd : FuncData} {f g : Str} {p1 p2 p3 p4 q1 q2 q3 q4 : Pos} (F : Fun K "__init__" qual st fI fd) (S : FnScope ["self", f, g] ["self", f, g] (defScope st))
    (hb : defBody st = [.Assign [.Attribute (.Name "self" p1) f p2] (.Name f p3) p4, .Assign [.Attribute (.Name "self" q1) g q2] (.Name g q3) q4])
    (v0 : Vis (defScope st) "self") (v1 : Vis (defScope st) f) (v2 : Vis (defScope st) g) (hd : (f == ("__debug__" : Str)) = false := by decide) (hcd : (f == ("__classdict__" : Str)) = false := by decide)
    (hd2 : (g == ("__debug__" : Str)) = false := by decide) (hcd2 : (g == ("__classdict__" : Str)) = false := by decide) :
    FnOk P w K mg base (L2.CX P w) 1 fI fd ["self", f, g] (spI K [f, g]) := by
  refine F.okX S (fun vs H Q E h => ?_) (fun cdv A outer s H vs Q E hr h => ⟨tSeq (tOst K f (tVar 0) (tVar 1)) (tOst K g (tVar 0) (tVar 2)), ?_, ?_⟩)
  · obtain ⟨a, C, ys, rfl, hl, _⟩ := h
    simp [hl]
  · rw [hb]
    exact pss_cons (ps_ost (pe_var (i := 0) rfl v0) (pe_var (i := 1) rfl v1 hd hcd)) (pss_one (ps_ost (pe_var (i := 0) rfl v0) (pe_var (i := 2) rfl v2 hd2 hcd2)))
  · obtain ⟨a, C, ys, rfl, hl, T, hno, ha, q⟩ := h
    match ys, hl with
    | [y, z], _ =>
      refine ⟨y, rfl, .ref a, rfl, a, C, rfl, T, hno f List.mem_cons_self, .inl ⟨ha, fun dx h1 h2 => ?_⟩⟩
      refine ⟨z, rfl, .ref a, rfl, a, C, rfl, T, hno g (by simp), .inr ⟨dx, [(f, y)], upd_same, by rw [upd_ne h2, upd_same], by simp, ?_⟩⟩
      have e : upd (upd (upd H dx (exd dx [(f, y)])) a (exo a C (some dx))) dx (exd dx [(g, z), (f, y)]) = upd (upd H dx (exd dx [(g, z), (f, y)])) a (exo a C (some dx)) := by
        funext b
        by_cases hb : b = dx
        · rw [hb, upd_same, upd_ne h2, upd_same]
        · rw [upd_ne hb]
          by_cases ha : b = a
          · rw [ha, upd_same, upd_same]
          · rw [upd_ne ha, upd_ne ha, upd_ne hb, upd_ne hb]
      show Q .non _
      rw [e]
      exact q dx h1 h2
end
/-- a class that is raised: its fields are its arguments -/
structure RaC (P : Program) (w : World) (K : PySem.W.Frag) (mg : Str → Option Value) (base : Heap) (x : Str) (names : List Str) : Prop where
  ex : ∃ (C fI : Addr) (fd : FuncData), mg x = some (.ref C) ∧ OexC K C ∧ PySem.W.findIn K (.ref C) "__init__" = some (some (.ref fI)) ∧ PySem.W.typeIn K (.ref fI) = some (.type "function") ∧ FnOk P w K mg base (L2.CX P w) 1 fI fd ("self" :: names) (spI K names) ∧
    L2.Binds K fd ("self" :: names) [] ∧ ∀ f ∈ names, PySem.W.findIn K (.ref C) f = some none
section
variable {X : Cx} {fx : Fx} {W : L2.WX} {pos : Pos}
def raS (x : Str) (names : List Str) (fs : En → R En (List T × En)) : En → R En (Fl × En) := fun env => bnd (fs env) fun a => if a.1.length = names.length then ofO (shs a.1) fun ds => .ex x (names.zip ds).reverse a.2 else .no
theorem Reps.zipF {G : Kt} {F : Hp} : ∀ {names : List Str} {ds : List D} {vs : List V}, Reps G F ds vs → RepF G F (names.zip ds) (names.zip vs)
  | [], _, _, _ => by simp only [List.zip_nil_left, RepF]
  | n :: ns, [], vs, h => by
    simp only [Reps] at h
    subst h
    simp only [List.zip_nil_right, RepF]
  | n :: ns, d :: ds, vs, h => by
    simp only [Reps] at h
    obtain ⟨v, r, rfl, h1, h2⟩ := h
    simp only [List.zip_cons_cons, RepF]
    exact ⟨v, _, rfl, h1, Reps.zipF h2⟩
theorem RepF.app {G : Kt} {F : Hp} : ∀ {a b : List (Str × D)} {u v : List (Str × V)}, RepF G F a u → RepF G F b v → RepF G F (a ++ b) (u ++ v)
  | [], b, u, v, h, k => by
    simp only [RepF] at h
    subst h
    exact k
  | (x, d) :: a, b, u, v, h, k => by
    simp only [RepF] at h
    obtain ⟨w, r, rfl, h1, h2⟩ := h
    simp only [List.cons_append, RepF]
    exact ⟨w, _, rfl, h1, RepF.app h2 k⟩
theorem RepF.rev {G : Kt} {F : Hp} : ∀ {a : List (Str × D)} {u : List (Str × V)}, RepF G F a u → RepF G F a.reverse u.reverse
  | [], u, h => by
    simp only [RepF] at h
    subst h
    simp only [List.reverse_nil, RepF]
  | (x, d) :: a, u, h => by
    simp only [RepF] at h
    obtain ⟨w, r, rfl, h1, h2⟩ := h
    simp only [List.reverse_cons]
    exact RepF.app (RepF.rev h2) (by simp only [RepF]; exact ⟨w, [], rfl, h1, rfl⟩)
theorem vs_raise {x : Str} {names : List Str} {e : Expr} {es : List Expr} {p cpos : Pos} {fs : En → R En (List T × En)} (C : RaC X.prog X.w X.K X.mg X.base x names) (hc : X.calm = true) (tk : Takes X W) (hr : Room 2 X.A) (hg : Gl X x) (ha : VEs X fx W (e :: es) fs) (hz : names.length ≤ 1000 := by decide)
    (hdb : (x == ("__debug__" : Str)) = false := by decide) (he : starEach (e :: es) X.env = (false, eval e X.env) :: starEach es X.env := by rfl) (hpl : (backTo cpos (starEach es X.env)).any (·.1) = false := by rfl) :
    VS1 X fx W (.Raise (some (.Call (.Name x p) (e :: es) [] cpos)) none pos) (raS x names fs) := by
  obtain ⟨C, fI, fd, gC, T, iC, tI, F1, hb, hno⟩ := C.ex
  refine PS.imp (ps_raise hc tk (pmk_oex T iC tI F1 hr hb .nil (fun _ _ _ _ _ _ _ ⟨_, _, _, _, _, _, _, _, _, _, _, _, z⟩ => z.elim) hg gC ha hdb he hpl)) fun D σ H h => ?_
  · obtain ⟨env, F, fp, S, P⟩ := h
    refine ⟨env, F, fp, S, ?_⟩
    unfold raS at P
    cases ea : fs env with
    | no => rw [ea] at P; exact P
    | ex c fs e => rw [ea] at P; exact fun cls d F' H' fp' S' x g => P cls d σ F' H' fp' S' x g
    | ok a =>
      obtain ⟨ts, e1⟩ := a
      rw [ea] at P
      dsimp only [bnd] at P
      split at P
      case isFalse => exact P.elim
      rename_i hl
      cases es : shs ts with
      | none => rw [es] at P; exact P.elim
      | some ds =>
        rw [es] at P
        have e' := shs_eq es
        subst e'
        intro vs F' H' fp' ft S' o nd off g
        have r := (Owns.bor _ _ _ o).shs
        have hvl : vs.length = names.length := r.len.trans (by simpa using hl)
        refine ⟨by omega, fun a hna => ⟨a, C, vs, by rw [List.append_nil], hvl, T, hno, upd_same, fun dx h1 h2 => ⟨rfl, dx, _, upd_same, by rw [upd_ne h2, upd_same], ?_, ?_⟩⟩⟩
        · rw [upd_ne h2] at h1; exact h1
        · have h1' : H' dx = none := by rw [upd_ne h2] at h1; exact h1
          have e : upd (del (upd (upd (upd H' a (exo a C none)) dx (exd dx (names.zip vs).reverse)) a (exo a C (some dx))) a) dx (.xd (names.zip vs).reverse) = upd H' dx (.xd (names.zip vs).reverse) := by
            funext b
            by_cases hb : b = dx
            · rw [hb, upd_same, upd_same]
            · rw [upd_ne hb, upd_ne hb]
              by_cases hba : b = a
              · rw [hba, del_same, hna]
              · rw [del_ne hba, upd_ne hba, upd_ne hb, upd_ne hba]
          rw [e]
          have gl := Grow.layF (o := .xd (names.zip vs).reverse) S'.sub h1'
          refine P (.ref C) (some dx) σ _ _ fp' (S'.grow gl) ⟨C, gC, rfl, .inr ⟨dx, rfl, _, upd_same, ?_⟩⟩ ((g.less fun p hp => List.mem_append_left _ hp).trans (gl.go fp'))
          exact ((Reps.mono gl.f _ _ r).zipF).rev
end
end VS
namespace VS
open PySem PySem.Spec L2
/-- one clause, with a name or without -/
def wOne (K : PySem.W.Frag) (Wout : L2.WX) (D' : Ends) : List (Value × Option Nat × (Addr → Value → Option Addr → TS)) → L2.WX
  | [(c, none, ts)] => wOnly K c ts Wout D'
  | [(c, some i, ts)] => wAs K c i ts Wout D'
  | _ => fun _ _ _ _ => False
end VS
namespace VS
open PySem PySem.Spec L2
open PyProof.Rows hiding St

/-! ### the classes that clauses and isinstance name: a table -/
abbrev XT := List (Str × List Str × List (Str × Bool))
def clV (mg : Str → Option Value) (x : Str) : Option Value := match mg x with
  | some v => some v
  | none => bootBuiltins x
structure XcOk (K : PySem.W.Frag) (mg : Str → Option Value) (c : Str) (fs : List Str) (sub : List (Str × Bool)) : Prop where
  ex : ∃ C : Addr, mg c = some (.ref C) ∧ XfC K C ∧ ExcC K C ∧ (∀ f ∈ fs, PySem.W.findIn K (.ref C) f = some none) ∧
    ∀ p ∈ sub, ∃ cv, clV mg p.1 = some cv ∧ PySem.W.exmOne K (.ref C) cv = some p.2 ∧ PySem.W.kitOne K (.ref C) cv = some p.2
def subX (tb : XT) (c x : Str) : Option Bool := (tb.lookup c).bind fun q => q.2.lookup x
def fldX (tb : XT) (c : Str) (fs : List (Str × D)) (f : Str) : Option D := (tb.lookup c).bind fun q => if q.1.contains f then fs.lookup f else none
theorem lookup_mem' {α : Type} {l : List (Str × α)} {x : Str} {y : α} (h : l.lookup x = some y) : (x, y) ∈ l := by
  induction l with
  | nil => cases h
  | cons p l ih =>
    obtain ⟨a, b⟩ := p
    rw [List.lookup_cons] at h
    split at h
    · rename_i e
      cases h
      have : x = a := by simpa using e
      subst this
      exact List.mem_cons_self
    · exact List.mem_cons_of_mem _ (ih h)

/-! ### try -/
def preH : Option Nat → En → Option En
  | none, e => some e
  | some i, e => if i < e.length then some (e.set i none) else none
def endH (o : Option Nat) : R En (Fl × En) → R En (Fl × En)
  | .ok a => ofO (preH o a.2) fun e => .ok (a.1, e)
  | _ => .no
abbrev Han := Str × Option Nat × (Str → List (Str × D) → En → R En (Fl × En))
def hnS (tb : XT) : List Han → Str → List (Str × D) → En → R En (Fl × En)
  | [], c, fs, e => .ex c fs e
  | (x, o, s) :: r, c, fs, e => match subX tb c x with
    | some true => ofO (preH o e) fun e' => endH o (s c fs e')
    | some false => hnS tb r c fs e
    | none => .no
def trS (tb : XT) (body : En → R En (Fl × En)) (hs : List Han) : En → R En (Fl × En) := fun env => match body env with
  | .ok a => .ok a
  | .ex c fs e => hnS tb hs c fs e
  | .no => .no
/-- what is known of the exception that a suite holds -/
structure Cau (X : Cx) (tb : XT) (a : Addr) (oe : Obj) (cls : Value) (d : Option Addr) (c : Str) (fs : List (Str × D)) : Prop where
  hz : Zc cls d oe
  hf : ∃ vs, oe.data = .fields vs
  C : ∃ C, X.mg c = some (.ref C) ∧ cls = .ref C
  dn : d = none → fs = []
def fxC (fx : Fx) (o : Option Nat) (a : Addr) (fs : List (Str × D)) (d : Option Addr) : Fx :=
  ⟨(match o with | some i => (i, .ref a) :: fx.sl | none => fx.sl), (match d with | some dd => (fs, dd) :: fx.pn | none => fx.pn)⟩
inductive VH (X : Cx) (fx : Fx) (tb : XT) : List ExceptHandler → List Han → Prop
  | only {x : Str} {s : Str → List (Str × D) → En → R En (Fl × En)} {b₀ : Stmt} {suite : List Stmt} {np pos' : Pos} {cv : Value} (hn : Names X x cv) (hcv : clV X.mg x = some cv)
      (hsu : ∀ (a : Addr) (oe : Obj) (cls : Value) (d : Option Addr) (pn : List (Addr × Obj)) (c : Str) (fs : List (Str × D)), Cau X tb a oe cls d c fs → VSs (X.suite a ((a, oe) :: pn)) (fxC fx none a fs d) (fun _ _ _ _ => False) (b₀ :: suite) (s c fs)) :
      VH X fx tb [.ExceptHandler (some (.Name x np)) none (b₀ :: suite) pos'] [(x, none, s)]
  | as_ {x n : Str} {i : Nat} {s : Str → List (Str × D) → En → R En (Fl × En)} {b₀ : Stmt} {suite : List Stmt} {np pos' : Pos} {cv : Value} (hN : X.N.Nodup) (hi : X.N[i]? = some n) (hln : X.env.kindOf n = some .local) (hq : ∀ q ∈ fx, q.1 ≠ i)
      (hn : Names X x cv) (hcv : clV X.mg x = some cv)
      (hsu : ∀ (a : Addr) (oe : Obj) (cls : Value) (d : Option Addr) (pn : List (Addr × Obj)) (c : Str) (fs : List (Str × D)), Cau X tb a oe cls d c fs → VSs (X.suite a ((a, oe) :: pn)) (fxC fx (some i) a fs d) (fun _ _ _ _ => False) (b₀ :: suite) (s c fs)) :
      VH X fx tb [.ExceptHandler (some (.Name x np)) (some n) (b₀ :: suite) pos'] [(x, some i, s)]
/-- a suite's reading -/
def tSu (X : Cx) (fx : Fx) (o : Option Nat) (s : Str → List (Str × D) → En → R En (Fl × En)) (a : Addr) (cls : Value) (d : Option Addr) : TS := fun D σ H => ∃ c fs, (∃ C, X.mg c = some (.ref C) ∧ cls = .ref C) ∧ (d = none → fs = []) ∧ tS (kt X) (fxC fx o a fs d) (fun _ _ _ _ => False) (s c fs) D σ H
theorem Sta.gone {G : Kt} {fx : Fx} {e : En} {F H : Hp} {σ : L2.St} {fp : List Addr} {i : Nat} {s : Option V} {fx' : Fx} (S : Sta G fx e F σ H fp) (hi : i < e.length) (hfix : ∀ q ∈ fx', (σ.set i s)[q.1]? = some (some q.2)) (hpin : ∀ q ∈ fx'.pn, PinOk G F q) :
    ∃ fp', Sta G fx' (e.set i none) F (σ.set i s) H fp' ∧ ∀ p ∈ fp', p ∈ fp := by
  obtain ⟨a, b, c, s0, rfl, hs, ob, k⟩ := S.own.split (List.getElem?_eq_getElem hi)
  have k' := k F H none s [] (.refl _) (fun _ _ _ e => e) rfl
  rw [List.nil_append] at k'
  have sl : (a ++ c).Sublist (a ++ (b ++ c)) := (List.Sublist.refl a).append (List.sublist_append_right b c)
  exact ⟨a ++ c, ⟨k', S.nd.sublist sl, fun p hp => S.off p (sl.subset hp), S.sub, hfix, hpin⟩, fun p hp => sl.subset hp⟩
theorem pinC {G : Kt} {fx : Fx} {o : Option Nat} {a : Addr} {F H : Hp} {c : Str} {fs : List (Str × D)} {cls : Value} {d : Option Addr} (hp : ∀ q ∈ fx.pn, PinOk G F q) (x : ExR G F H c fs cls d) : ∀ q ∈ (fxC fx o a fs d).pn, PinOk G F q := by
  obtain ⟨C, _, _, x⟩ := x
  intro q hq
  rcases x with ⟨rfl, rfl⟩ | ⟨dd, rfl, p⟩
  · exact hp q hq
  · rcases List.mem_cons.mp (show q ∈ (fs, dd) :: fx.pn from hq) with rfl | z
    · exact p
    · exact hp q z
theorem pinB {G : Kt} {fx : Fx} {o : Option Nat} {a : Addr} {F : Hp} {fs : List (Str × D)} {d : Option Addr} (h : ∀ q ∈ (fxC fx o a fs d).pn, PinOk G F q) : ∀ q ∈ fx.pn, PinOk G F q := fun q hq => by
  cases d with
  | none => exact h q hq
  | some dd => exact h q (List.mem_cons_of_mem _ hq)
theorem xt_exm {X : Cx} {tb : XT} (xt : ∀ q ∈ tb, XcOk X.K X.mg q.1 q.2.1 q.2.2) {c x : Str} {b : Bool} (h : subX tb c x = some b) {C : Addr} (hC : X.mg c = some (.ref C)) {cv : Value} (hv : clV X.mg x = some cv) :
    PySem.W.exmOne X.K (.ref C) cv = some b ∧ PySem.W.kitOne X.K (.ref C) cv = some b ∧ ExcC X.K C := by
  unfold subX at h
  cases e : tb.lookup c with
  | none => rw [e] at h; cases h
  | some q =>
    rw [e] at h
    obtain ⟨C', hC', _, xc, _, k⟩ := (xt _ (lookup_mem' e)).ex
    have hCC := hC.symm.trans hC'
    cases hCC
    obtain ⟨cv', h1, h2, h3⟩ := k _ (lookup_mem' h)
    have hvv := hv.symm.trans h1
    cases hvv
    exact ⟨h2, h3, xc⟩
theorem hds_of {X : Cx} {fx : Fx} {tb : XT} (xt : ∀ q ∈ tb, XcOk X.K X.mg q.1 q.2.1 q.2.2) {hds : List ExceptHandler} {l : List Han} (h : VH X fx tb hds l) (hs : X.stack = X.env :: X.outer) (hf : X.env.frame = some X.env.locals) : ∃ l',
    (∀ (W : L2.WX) (body : List Stmt) (pos : Pos) (tB : L2.WX → TS), Takes X W → (∀ (W' : L2.WX) (pn : List (Addr × Obj)) (xe : Value → Shared → Prop), Takes (X.tr pn xe) W' → PassesOwn (model X.prog X.w) X.A X.env xe → PSs (X.tr pn xe) body (tB W')) →
      PS X (.Try body hds [] [] pos) (fun D' σ H => tB (wOne X.K W D' l') D' σ H)) ∧
    ∀ (W : L2.WX) (D' : Ends) (F H : Hp) (fp : List Addr) (c : Str) (fs : List (Str × D)) (e : En), PSt (kt X) fx W D' F H fp (hnS tb l c fs e) →
      ∀ cls d σ' F' H' fp', Sta (kt X) fx e F' σ' H' fp' → ExR (kt X) F' H' c fs cls d → Go F H fp F' H' fp' → wOne X.K W D' l' cls d σ' H' := by
  cases h with
  | @only x s b₀ suite np pos' cv hn hcv hsu =>
    refine ⟨[(cv, none, tSu X fx none s)], fun W body pos tB tk hb => ps_try_only hs hf hn tk hb (fun a oe cls d pn hz hf => ⟨fun pins sh σ H Q I ⟨c, fs, hC, hdn, q⟩ => (hsu a oe cls d pn c fs ⟨hz, hf, hC, hdn⟩).run pins sh σ H Q I q⟩), ?_⟩
    intro W D' F H fp c fs e P cls d σ' F' H' fp' S ex g
    unfold hnS at P
    cases es : subX tb c x with
    | none => rw [es] at P; exact P.elim
    | some b =>
      rw [es] at P
      obtain ⟨C, hC, ecls, rest⟩ := id ex
      have e3 := xt_exm xt es hC hcv
      refine ⟨b, by rw [ecls]; exact e3.1, fun hb a hna => ?_, fun hb => ?_⟩
      · subst hb
        refine ⟨c, fs, ⟨C, hC, ecls⟩, fun z => rest.elim (fun h => h.2) fun ⟨dd, h1, _⟩ => (by rw [z] at h1; cases h1), e, F', fp', ⟨S.own, S.nd, S.off, S.sub, S.fix, pinC S.pin ex⟩, ?_⟩
        simp only [preH, ofO_some] at P
        cases er : s c fs e with
        | no => rw [er] at P; exact P
        | ex c' fs' e' => rw [er] at P; exact P.elim
        | ok a2 =>
          obtain ⟨fl, e2⟩ := a2
          rw [er] at P
          simp only [endH, preH, ofO_some] at P
          cases fl with
          | nx => exact fun σ2 F2 H2 fp2 S2 g2 => P σ2 F2 H2 fp2 ⟨S2.own, S2.nd, S2.off, S2.sub, S2.fix, pinB S2.pin⟩ (g.trans g2)
          | bk => exact fun σ2 F2 H2 fp2 S2 g2 => P σ2 F2 H2 fp2 ⟨S2.own, S2.nd, S2.off, S2.sub, S2.fix, pinB S2.pin⟩ (g.trans g2)
          | ct => exact fun σ2 F2 H2 fp2 S2 g2 => P σ2 F2 H2 fp2 ⟨S2.own, S2.nd, S2.off, S2.sub, S2.fix, pinB S2.pin⟩ (g.trans g2)
          | rt t => exact fun v σ2 F2 H2 fp2 ft S2 o nd off g2 => P v σ2 F2 H2 fp2 ft ⟨S2.own, S2.nd, S2.off, S2.sub, S2.fix, pinB S2.pin⟩ o nd off (g.trans g2)
      · subst hb
        exact P cls d σ' F' H' fp' S ex g
  | @as_ x n i s b₀ suite np pos' cv hN hi hln hq hn hcv hsu =>
    refine ⟨[(cv, some i, tSu X fx (some i) s)], fun W body pos tB tk hb => ps_try_as hs hf hN hi hln hn tk hb (fun a oe cls d pn hz hf => ⟨fun pins sh σ H Q I ⟨c, fs, hC, hdn, q⟩ => (hsu a oe cls d pn c fs ⟨hz, hf, hC, hdn⟩).run pins sh σ H Q I q⟩), ?_⟩
    intro W D' F H fp c fs e P cls d σ' F' H' fp' S ex g
    unfold hnS at P
    cases es : subX tb c x with
    | none => rw [es] at P; exact P.elim
    | some b =>
      rw [es] at P
      obtain ⟨C, hC, ecls, rest⟩ := id ex
      have e3 := xt_exm xt es hC hcv
      refine ⟨b, by rw [ecls]; exact e3.1, fun hb a hna => ?_, fun hb => ?_⟩
      · subst hb
        by_cases hlt : i < e.length
        case neg => simp only [preH, if_neg hlt, ofO_none] at P; exact P.elim
        simp only [preH, if_pos hlt, ofO_some] at P
        have hlt' : i < σ'.length := by rw [← S.own.there]; exact hlt
        have hfix : ∀ q ∈ fxC fx (some i) a fs d, (σ'.set i (some (.ref a)))[q.1]? = some (some q.2) := by
          intro q hm
          rcases List.mem_cons.mp (show q ∈ (i, V.ref a) :: fx.sl from hm) with rfl | z
          · exact List.getElem?_set_self hlt'
          · rw [List.getElem?_set_ne (Ne.symm (hq q z))]
            exact S.fix q z
        obtain ⟨fq, S1, sub1⟩ := S.gone hlt (s := some (.ref a)) (fx' := fxC fx (some i) a fs d) hfix (pinC S.pin ex)
        refine ⟨c, fs, ⟨C, hC, ecls⟩, fun z => rest.elim (fun h => h.2) fun ⟨dd, h1, _⟩ => (by rw [z] at h1; cases h1), e.set i none, F', fq, S1, ?_⟩
        have g1 : Go F H fp F' H' fq := g.less sub1
        cases er : s c fs (e.set i none) with
        | no => rw [er] at P; exact P
        | ex c' fs' e' => rw [er] at P; exact P.elim
        | ok a2 =>
          obtain ⟨fl, e2⟩ := a2
          rw [er] at P
          by_cases hlt2 : i < e2.length
          case neg => simp only [endH, preH, if_neg hlt2, ofO_none] at P; exact P.elim
          simp only [endH, preH, if_pos hlt2, ofO_some] at P
          have back : ∀ {σ2 F2 H2 fp2}, Sta (kt X) (fxC fx (some i) a fs d) e2 F2 σ2 H2 fp2 → ∃ fp3, Sta (kt X) fx (e2.set i none) F2 (σ2.set i none) H2 fp3 ∧ ∀ p ∈ fp3, p ∈ fp2 := fun {σ2 F2 H2 fp2} S2 =>
            S2.gone hlt2 (fun q hm => by
              rw [List.getElem?_set_ne (Ne.symm (hq q hm))]
              exact S2.fix q (List.mem_cons_of_mem _ hm)) (pinB S2.pin)
          cases fl with
          | nx => exact fun σ2 F2 H2 fp2 S2 g2 => let ⟨fp3, S3, s3⟩ := back S2; P _ F2 H2 fp3 S3 ((g1.trans g2).less s3)
          | bk => exact fun σ2 F2 H2 fp2 S2 g2 => let ⟨fp3, S3, s3⟩ := back S2; P _ F2 H2 fp3 S3 ((g1.trans g2).less s3)
          | ct => exact fun σ2 F2 H2 fp2 S2 g2 => let ⟨fp3, S3, s3⟩ := back S2; P _ F2 H2 fp3 S3 ((g1.trans g2).less s3)
          | rt t =>
            intro v σ2 F2 H2 fp2 ft S2 o nd off g2
            obtain ⟨fp3, S3, s3⟩ := back S2
            refine P v _ F2 H2 fp3 ft S3 o ?_ off ((g1.trans g2).less fun p hp => ?_)
            · rw [List.nodup_append] at nd ⊢
              exact ⟨S3.nd, nd.2.1, fun x hx y hy => nd.2.2 x (s3 x hx) y hy⟩
            · rcases List.mem_append.mp hp with z | z
              · exact List.mem_append_left _ (s3 p z)
              · exact List.mem_append_right _ z
      · subst hb
        exact P cls d σ' F' H' fp' S ex g
section
variable {X : Cx} {fx : Fx} {W : L2.WX} {pos : Pos}
theorem vs_try {tb : XT} {body : List Stmt} {h₀ : ExceptHandler} {hds : List ExceptHandler} {l : List Han} {fb : En → R En (Fl × En)} (xt : ∀ q ∈ tb, XcOk X.K X.mg q.1 q.2.1 q.2.2) (hs : X.stack = X.env :: X.outer) (hf : X.env.frame = some X.env.locals) (tk : Takes X W)
    (hb : ∀ (W' : L2.WX) (pn : List (Addr × Obj)) (xe : Value → Shared → Prop), Takes (X.tr pn xe) W' → PassesOwn (model X.prog X.w) X.A X.env xe → VSs (X.tr pn xe) fx W' body fb) (hh : VH X fx tb (h₀ :: hds) l) :
    VS1 X fx W (.Try body (h₀ :: hds) [] [] pos) (trS tb fb l) := by
  obtain ⟨l', hg, k⟩ := hds_of xt hh hs hf
  refine PS.imp (hg W body pos (fun W' => tS (kt X) fx W' fb) tk hb) fun D' σ H h => ?_
  obtain ⟨env, F, fp, S, P⟩ := h
  refine ⟨env, F, fp, S, ?_⟩
  unfold trS at P
  cases eb : fb env with
  | no => rw [eb] at P; exact P
  | ok a =>
    obtain ⟨fl, e⟩ := a
    rw [eb] at P
    cases fl with
    | nx => exact P
    | bk => exact P
    | ct => exact P
    | rt t => exact P
  | ex c fs e =>
    rw [eb] at P
    exact k W D' F H fp c fs e P

/-! ### in a suite: e.f, isinstance(e, C) -/
theorem RepF.look {G : Kt} {F : Hp} {f : Str} {d : D} : ∀ {fs : List (Str × D)} {vs : List (Str × V)}, RepF G F fs vs → fs.lookup f = some d → ∃ v, vs.lookup f = some v ∧ Rep G F d v
  | [], vs, _, h => by cases h
  | (x, y) :: fs, vs, r, h => by
    simp only [RepF] at r
    obtain ⟨v, us, rfl, h1, h2⟩ := r
    rw [List.lookup_cons] at h ⊢
    cases e : f == x with
    | true => rw [e] at h; cases h; exact ⟨v, rfl, h1⟩
    | false => rw [e] at h; exact RepF.look h2 h
def xfB (tb : XT) (c : Str) (fs : List (Str × D)) (f : Str) : En → R En T := fun _ => ofO (fldX tb c fs f) fun d => .ok (.s d)
theorem vb_xf {tb : XT} {i : Nat} {n f : Str} {np : Pos} {a : Addr} {oe : Obj} {cls : Value} {d : Option Addr} {pn : List (Addr × Obj)} {c : Str} {fs : List (Str × D)} (xt : ∀ q ∈ tb, XcOk X.K X.mg q.1 q.2.1 q.2.2) (C : Cau X tb a oe cls d c fs)
    (hN : X.N[i]? = some n) (hv : Vis X.env.scope n) (hd : (n == ("__debug__" : Str)) = false := by decide) (hcd : (n == ("__classdict__" : Str)) = false := by decide) (hb : attributeBase (.Name n np) f X.env (eval (.Name n np) X.env) = eval (.Name n np) X.env := by rfl) :
    VB (X.suite a ((a, oe) :: pn)) (fxC fx (some i) a fs d) W (.Attribute (.Name n np) f pos) (xfB tb c fs f) := by
  refine ⟨fun pins s σ H Q I h => ?_⟩
  obtain ⟨env, F, fp, S, P⟩ := h
  unfold xfB fldX at P
  cases el : tb.lookup c with
  | none => rw [el] at P; exact P.elim
  | some q =>
    rw [el] at P
    by_cases hc : q.1.contains f = true
    case neg => simp only [Option.bind_some, if_neg hc] at P; exact P.elim
    simp only [Option.bind_some, if_pos hc] at P
    cases ef : fs.lookup f with
    | none => rw [ef] at P; exact P.elim
    | some dv =>
      rw [ef] at P
      obtain ⟨Ca, hC, ecls⟩ := C.C
      obtain ⟨C', hC', xf, _, hno, _⟩ := (xt _ (lookup_mem' el)).ex
      have hCC := hC.symm.trans hC'
      cases hCC
      cases d with
      | none => rw [C.dn rfl] at ef; cases ef
      | some dd =>
        obtain ⟨vs, hx, rf⟩ := S.pin (fs, dd) List.mem_cons_self
        obtain ⟨v, hl, rv⟩ := rf.look ef
        refine (pe_xf (X := X) xf (hno f (by simpa using hc)) C.hz C.hf (pe_var (X := X.suite a ((a, oe) :: pn)) (i := i) hN hv hd hcd) hb).run pins s σ H Q I ?_
        refine ⟨.ref a, S.fix (i, .ref a) List.mem_cons_self, rfl, ecls, dd, vs, v, rfl, S.sub _ _ hx, hl, ?_⟩
        exact P v F H (.refl S.sub) (by simp only [Bor]; exact rv)
def xiB (tb : XT) (c x : Str) : En → R En T := fun _ => ofO (subX tb c x) fun b => .ok (.s (.bl b))
theorem xi_core {tb : XT} {i : Nat} {n x : Str} {np xp cp : Pos} {a : Addr} {oe : Obj} {cls : Value} {d : Option Addr} {pn : List (Addr × Obj)} {c : Str} {fs : List (Str × D)} {cv : Value} {xv : V} (xt : ∀ q ∈ tb, XcOk X.K X.mg q.1 q.2.1 q.2.2) (C : Cau X tb a oe cls d c fs)
    (hN : X.N[i]? = some n) (hv : Vis X.env.scope n) (hgi : Gl X "isinstance") (hmi : X.mg "isinstance" = none) (hx : PE (X.suite a ((a, oe) :: pn)) (.Name x xp) (tC xv)) (hr : ∀ u, RelV xv u → u = cv) (hcv : clV X.mg x = some cv)
    (hd : (n == ("__debug__" : Str)) = false := by decide) (hcd : (n == ("__classdict__" : Str)) = false := by decide) (he : starEach [.Name n np, .Name x xp] X.env = (false, eval (.Name n np) X.env) :: starEach [.Name x xp] X.env := by rfl)
    (he2 : starEach [.Name x xp] X.env = (false, eval (.Name x xp) X.env) :: starEach [] X.env := by rfl) (hpl : (backTo pos (starEach [.Name x xp] X.env)).any (·.1) = false := by rfl) :
    VB (X.suite a ((a, oe) :: pn)) (fxC fx (some i) a fs d) W (.Call (.Name "isinstance" cp) [.Name n np, .Name x xp] [] pos) (xiB tb c x) := by
  refine ⟨fun pins s σ H Q I h => ?_⟩
  obtain ⟨env, F, fp, S, P⟩ := h
  unfold xiB at P
  cases es : subX tb c x with
  | none => rw [es] at P; exact P.elim
  | some b =>
    rw [es] at P
    obtain ⟨Ca, hC, ecls⟩ := C.C
    have e3 := xt_exm xt es hC hcv
    have hz := C.hz
    rw [ecls] at hz
    refine (pe_callB (X := X.suite a ((a, oe) :: pn)) (call_isX (X := X) e3.2.2 hz C.hf) hgi hmi PyProof.Rows.boot_isinstance (pa_cons (pe_var (X := X.suite a ((a, oe) :: pn)) (i := i) hN hv hd hcd) (pa_cons hx pa_nil he2) he) (by decide) (by decide) he hpl).run pins s σ H Q I ?_
    refine ⟨.ref a, S.fix (i, .ref a) List.mem_cons_self, ?_⟩
    refine (⟨xv, cv, b, rfl, hr, e3.2.1, fun dd hdd => ?_, ?_⟩ : rIsX X.K Ca a d [V.ref a, xv] H Q)
    · subst hdd
      obtain ⟨vs, hx, rf⟩ := S.pin (fs, dd) List.mem_cons_self
      exact ⟨vs, S.sub _ _ hx⟩
    · exact P (.bl b) F H (.refl S.sub) (by simp only [Bor, Rep])
theorem clV_own {mg : Str → Option Value} {x : Str} {v : Value} (h : mg x = some v) : clV mg x = some v := by unfold clV; rw [h]
theorem clV_blt {mg : Str → Option Value} {x : Str} {v : Value} (h : mg x = none) (hv : bootBuiltins x = some v) : clV mg x = some v := by unfold clV; rw [h]; exact hv
/-- isinstance(e, C), C an own class -/
theorem vb_xi {tb : XT} {i : Nat} {n x : Str} {np xp cp : Pos} {a C : Addr} {oe : Obj} {cls : Value} {d : Option Addr} {pn : List (Addr × Obj)} {c : Str} {fs : List (Str × D)} (xt : ∀ q ∈ tb, XcOk X.K X.mg q.1 q.2.1 q.2.2) (K : Cau X tb a oe cls d c fs)
    (hN : X.N[i]? = some n) (hv : Vis X.env.scope n) (hgi : Gl X "isinstance") (hmi : X.mg "isinstance" = none) (hgx : Gl X x) (hm : X.mg x = some (.ref C)) (hdx : (x == ("__debug__" : Str)) = false := by decide)
    (hd : (n == ("__debug__" : Str)) = false := by decide) (hcd : (n == ("__classdict__" : Str)) = false := by decide) (he : starEach [.Name n np, .Name x xp] X.env = (false, eval (.Name n np) X.env) :: starEach [.Name x xp] X.env := by rfl)
    (he2 : starEach [.Name x xp] X.env = (false, eval (.Name x xp) X.env) :: starEach [] X.env := by rfl) (hpl : (backTo pos (starEach [.Name x xp] X.env)).any (·.1) = false := by rfl) :
    VB (X.suite a ((a, oe) :: pn)) (fxC fx (some i) a fs d) W (.Call (.Name "isinstance" cp) [.Name n np, .Name x xp] [] pos) (xiB tb c x) :=
  xi_core xt K hN hv hgi hmi (pe_glob (X := X.suite a ((a, oe) :: pn)) (v := .ref C) hgx hm rfl hdx) (cv := .ref C) (fun u r => r) (clV_own hm) hd hcd he he2 hpl
theorem vb_xiB {tb : XT} {i : Nat} {n x : Str} {ty : String} {np xp cp : Pos} {a : Addr} {oe : Obj} {cls : Value} {d : Option Addr} {pn : List (Addr × Obj)} {c : Str} {fs : List (Str × D)} (xt : ∀ q ∈ tb, XcOk X.K X.mg q.1 q.2.1 q.2.2) (K : Cau X tb a oe cls d c fs)
    (hN : X.N[i]? = some n) (hv : Vis X.env.scope n) (hgi : Gl X "isinstance") (hmi : X.mg "isinstance" = none) (hgx : Gl X x) (hm : X.mg x = none) (hb : bootBuiltins x = some (.type ty)) (hnn : x ≠ "__name__" := by decide) (hdx : (x == ("__debug__" : Str)) = false := by decide)
    (hd : (n == ("__debug__" : Str)) = false := by decide) (hcd : (n == ("__classdict__" : Str)) = false := by decide) (he : starEach [.Name n np, .Name x xp] X.env = (false, eval (.Name n np) X.env) :: starEach [.Name x xp] X.env := by rfl)
    (he2 : starEach [.Name x xp] X.env = (false, eval (.Name x xp) X.env) :: starEach [] X.env := by rfl) (hpl : (backTo pos (starEach [.Name x xp] X.env)).any (·.1) = false := by rfl) :
    VB (X.suite a ((a, oe) :: pn)) (fxC fx (some i) a fs d) W (.Call (.Name "isinstance" cp) [.Name n np, .Name x xp] [] pos) (xiB tb c x) :=
  xi_core xt K hN hv hgi hmi (pe_bltn (X := X.suite a ((a, oe) :: pn)) (v := .ty ty) hgx hm hb rfl hnn hdx) (cv := .type ty) (fun u r => r) (clV_blt hm hb) hd hcd he he2 hpl

/-! ### a call that only looks at its arguments (owned ones, too) and hands back plain data -/
def atomT : T → Option T
  | .s .non => some (.s .non)
  | .s (.bl b) => some (.s (.bl b))
  | .s (.int i) => some (.s (.int i))
  | .s (.str x) => some (.s (.str x))
  | _ => none
def callA (n : Nat) (sem : FS) (gs : En → R En (List T)) : En → R En T := fun env => bnd (gs env) fun ts => if ts.length = n then (match sem ((ers ts).map T.s) with
  | .ok (t, _) => ofO (atomT t) .ok
  | _ => .no) else .no
theorem vb_callA {k : Nat} {f : Addr} {fd : FuncData} {ps : List Str} {sem : FS} {x : Str} {p pos : Pos} {e : Expr} {es : List Expr} {gs : En → R En (List T)} (F : VF X.prog X.w X.K X.mg X.base k f fd ps sem) (hr : Room k X.A) (hg : Gl X x) (hm : X.mg x = some (.ref f))
    (hk : PySem.W.keepIn X.K (.ref f) = true) (hb : L2.Binds X.K fd ps []) (tk : Takes X W) (ha : VBs X fx W (e :: es) gs) (hdb : (x == ("__debug__" : Str)) = false := by decide)
    (he : starEach (e :: es) X.env = (false, eval e X.env) :: starEach es X.env := by rfl) (hpl : (backTo pos (starEach es X.env)).any (·.1) = false := by rfl) : VB X fx W (.Call (.Name x p) (e :: es) [] pos) (callA ps.length sem gs) :=
  PE.imp (pe_callSD F hr hg hm hk hb .nil (fun σ => passAt tk σ) ha hdb he hpl) fun σ H Q h => by
    obtain ⟨env, F0, fp, S, P⟩ := h
    refine ⟨env, F0, fp, S, ?_⟩
    unfold callA at P
    cases ea : gs env with
    | no => rw [ea] at P; exact P
    | ex c fs e => rw [ea] at P; exact P
    | ok ts =>
      rw [ea] at P
      dsimp only [bnd] at P
      by_cases hl : ts.length = ps.length
      case neg => rw [if_neg hl] at P; exact P.elim
      rw [if_pos hl] at P
      intro vs F1 H1 g1 b
      rw [List.append_nil]
      refine ⟨by rw [b.len]; exact hl, (ers ts).map T.s, H1, [], (Bors.rep g1.sub _ _ b).owns, List.nodup_nil, by simp, .refl _, ?_⟩
      cases esem : sem ((ers ts).map T.s) with
      | no => rw [esem] at P; exact P
      | ex c xs us => rw [esem] at P; exact P.elim
      | ok a =>
        obtain ⟨t, us⟩ := a
        rw [esem] at P
        dsimp only at P
        intro v F2 H2 fp2 f2 ou ot nd2 off2 sub2 g2
        have gg : Grow F1 H1 F1 H2 := ⟨.refl _, fun p o h => g2.h p o h (by simp), fun p o h => .inl h, fun p o h => g2.h p o (g1.sub _ _ h) (by simp)⟩
        have hat : ∀ t', atomT t = some t' → Bor (kt X) F1 H2 t' v := by
          intro t' e
          unfold atomT at e
          split at e <;> cases e <;> (simp only [Own, Rep] at ot; simp only [Bor, Rep]; exact ot.1)
        cases eat : atomT t with
        | none => rw [eat] at P; exact P.elim
        | some t' =>
          rw [eat] at P
          exact P v F1 H2 (g1.trans gg) (hat t' eat)
end
end VS
namespace VS
open PySem PySem.Spec L2
open PyProof.Rows hiding St

/-! ### sorted, of texts or of ints, any number of them -/
def leS (a b : Str) : Bool := !ltCps b.cps.toList a.cps.toList
def sortS (xs : List Str) : List Str := xs.mergeSort leS
def sortI (ns : List Int) : List Int := ns.mergeSort fun a b => decide (a ≤ b)
theorem leS_iff {a b : Str} : leS a b = true ↔ a.cps.toList ≤ b.cps.toList := by
  unfold leS
  rw [PyProof.Rows.ltCps_eq]
  simp
theorem leS_trans (a b c : Str) (h1 : leS a b = true) (h2 : leS b c = true) : leS a c = true := by
  rw [leS_iff] at *
  exact List.le_trans h1 h2
theorem leS_total (a b : Str) : (leS a b || leS b a) = true := by
  rw [Bool.or_eq_true, leS_iff, leS_iff]
  exact List.le_total _ _
theorem leS_anti {a b : Str} (h1 : leS a b = true) (h2 : leS b a = true) : a = b := by
  rw [leS_iff] at *
  have e := List.le_antisymm h1 h2
  cases a; cases b
  simp only at e
  rw [Array.toList_inj] at e
  rw [e]
theorem rising_pw : ∀ (l : List Str) (p : Str), risingS p l = true → (p :: l).Pairwise (fun a b => leS a b = true)
  | [], p, _ => List.pairwise_singleton _ _
  | x :: l, p, h => by
    unfold risingS at h
    rw [Bool.and_eq_true] at h
    have ih := rising_pw l x h.2
    refine List.pairwise_cons.mpr ⟨fun y hy => ?_, ih⟩
    have h1 : leS p x = true := h.1
    rcases List.mem_cons.mp hy with rfl | hy
    · exact h1
    · exact leS_trans _ _ _ h1 ((List.pairwise_cons.mp ih).1 y hy)
theorem sortedS_pw : ∀ {l : List Str}, sortedS l = true → l.Pairwise (fun a b => leS a b = true)
  | [], _ => List.Pairwise.nil
  | x :: l, h => rising_pw l x h
theorem sortS_uniq {ys xs : List Str} (p : ys.Perm xs) (h : sortedS ys = true) : ys = sortS xs :=
  List.Perm.eq_of_pairwise (le := fun a b => leS a b = true) (fun a b _ _ h1 h2 => leS_anti h1 h2) (sortedS_pw h) (List.pairwise_mergeSort leS_trans leS_total xs) (p.trans (List.mergeSort_perm xs leS).symm)
theorem sortI_uniq {ys xs : List Int} (p : ys.Perm xs) (h : ys.Pairwise (· ≤ ·)) : ys = sortI xs :=
  List.Perm.eq_of_pairwise (le := fun a b : Int => a ≤ b) (fun a b _ _ h1 h2 => Int.le_antisymm h1 h2) h
    ((List.pairwise_mergeSort (le := fun a b : Int => decide (a ≤ b)) (fun a b c h1 h2 => by simp only [decide_eq_true_eq] at *; omega) (fun a b => by simp only [Bool.or_eq_true, decide_eq_true_eq]; omega) xs).imp fun h => of_decide_eq_true h) (p.trans (List.mergeSort_perm xs _).symm)
def rSorA (K : PySem.W.Frag) : List V → Hp → VK → Prop := fun vs H Q => ∃ a : Addr, vs = [V.ref a] ∧
  ((∃ ns : List Int, SqL K H a (ns.map V.int) ∧ ∀ p, H p = none → Q (.ref p) (upd H p (.lst ((sortI ns).map V.int)))) ∨ ∃ xs : List Str, SqL K H a (xs.map V.str) ∧ ∀ p, H p = none → Q (.ref p) (upd H p (.lst ((sortS xs).map V.str))))
theorem call_sortedA {X : Cx} : CallR X (.builtin "sorted") (rSorA X.K) := by
  intro pins s σ H vs us Q I r h
  obtain ⟨a, rfl, h⟩ := h
  rcases h with ⟨ns, hs, q⟩ | ⟨xs, hs, q⟩
  · exact cr_sortedI pins s σ H [V.ref a] us Q I r ⟨a, ns, rfl, hs, fun ns' p h1 h2 hp => by rw [sortI_uniq h1 h2]; exact q p hp⟩
  · obtain ⟨its, rv, hl, hz⟩ := I.list hs
    rw [Vals.ref1 r]
    refine PyProof.Rows.sorted_strsAny hl.isList rv.strs (by rw [← rv.length]; exact hz) fun out ys h1 h2 h3 => ?_
    obtain ⟨ep, he'⟩ := PyProof.Rows.sortedAll_at s.heap its out
    have hlen : (ys.map V.str).length ≤ sizeLine := by
      rw [List.length_map, h2.length_eq]
      rw [List.length_map] at hz
      exact hz
    refine ⟨.ref _, upd H (s.heap.objs.size + 1) (.lst (ys.map V.str)), I.laid (t' := s.toks) (fun _ _ => PyProof.Rows.sortedAll_old) (Nat.le_succ _) ⟨hlen, out.toList, ep, vals_of_strs h1, he'⟩, rfl, ?_⟩
    have e := sortS_uniq h2 h3
    subst e
    exact q _ (I.hok.fresh (Nat.le_succ _))
def intsO : List D → Option (List Int)
  | [] => some []
  | .int i :: r => (intsO r).map (i :: ·)
  | _ :: _ => none
theorem intsO_eq : ∀ {ds : List D} {ns : List Int}, intsO ds = some ns → ds = ns.map D.int
  | [], ns, h => by cases h; rfl
  | d :: ds, ns, h => by
    cases d <;> first | (simp only [intsO, Option.map_eq_some_iff] at h; obtain ⟨r, h1, rfl⟩ := h; simp [intsO_eq h1]) | cases h
theorem intsO_map : ∀ ns : List Int, intsO (ns.map D.int) = some ns
  | [] => rfl
  | n :: ns => by simp [intsO, intsO_map ns]
theorem Reps.vint {G : Kt} {F : Hp} : ∀ {ns : List Int} {vs : List V}, Reps G F (ns.map D.int) vs → vs = ns.map V.int
  | [], vs, h => by simpa only [List.map_nil, Reps] using h
  | n :: ns, vs, h => by
    simp only [List.map_cons, Reps, Rep] at h
    obtain ⟨v, r, rfl, rfl, h2⟩ := h
    rw [Reps.vint h2]; rfl
theorem reps_strs {G : Kt} {F : Hp} : ∀ xs : List Str, Reps G F (xs.map D.str) (xs.map V.str)
  | [] => by simp only [List.map_nil, Reps]
  | x :: xs => by
    simp only [List.map_cons, Reps, Rep]
    exact ⟨_, _, rfl, rfl, reps_strs xs⟩
def pSorted : List T → Option T
  | [t] => match t.ls with
    | some ds => match intsO ds with
      | some ns => some (.l (((sortI ns).map D.int).map T.s))
      | none => (strsO ds).map fun xs => .l (((sortS xs).map D.str).map T.s)
    | none => none
  | _ => none
theorem strsO_eq : ∀ {ds : List D} {xs : List Str}, strsO ds = some xs → ds = xs.map D.str
  | [], xs, h => by cases h; rfl
  | d :: ds, xs, h => by
    cases d <;> first | (simp only [strsO, Option.map_eq_some_iff] at h; obtain ⟨r, h1, rfl⟩ := h; simp [strsO_eq h1]) | cases h
theorem Reps.vstr {G : Kt} {F : Hp} : ∀ {ns : List Str} {vs : List V}, Reps G F (ns.map D.str) vs → vs = ns.map V.str
  | [], vs, h => by simpa only [List.map_nil, Reps] using h
  | n :: ns, vs, h => by
    simp only [List.map_cons, Reps, Rep] at h
    obtain ⟨v, r, rfl, rfl, h2⟩ := h
    rw [Reps.vstr h2]; rfl
theorem prim_sorted {G : Kt} : PrimN G (rSorA G.K) pSorted := by
  intro ts xs F H Q s b p
  unfold pSorted at p
  split at p
  · have b0 := b.one
    clear b
    obtain ⟨v, rfl, b⟩ := b0
    split at p
    · rename_i ds el
      obtain ⟨a, vs, rfl, h1, r⟩ := ls_rep s b el
      split at p
      · rename_i ns en
        have e := intsO_eq en
        subst e
        have e2 := r.vint
        subst e2
        exact ⟨a, rfl, .inl ⟨ns, .of h1, PR.lst s p (Reps.ints _)⟩⟩
      · cases es : strsO ds with
        | none => rw [es] at p; exact p.elim
        | some xs =>
          rw [es] at p
          have e := strsO_eq es
          subst e
          have e2 := r.vstr
          subst e2
          exact ⟨a, rfl, .inr ⟨xs, .of h1, PR.lst s p (reps_strs _)⟩⟩
    · exact p.elim
  · exact p.elim
end VS
namespace VS
open PySem PySem.Spec L2
open PyProof.Rows hiding St

/-! ### dicts by ints and texts -/
def kOf : T → Option Key
  | .s (.int i) => some (.inl i)
  | .s (.str x) => some (.inr x)
  | _ => none
def getT (kvs : List (Key × T)) (k : Key) : Option T := (kvs.find? fun kv => decide (kv.1 = k)).map (·.2)
def hasT (kvs : List (Key × T)) (k : Key) : Bool := kvs.any fun kv => decide (kv.1 = k)
/-- a new key with any value, a known one with shared data alone -/
def putT (kvs : List (Key × T)) (k : Key) (t : T) : Option (List (Key × T)) := if hasT kvs k then (match t with
  | .s d => some (kvs.map fun kv => if kv.1 = k then (kv.1, .s d) else kv)
  | _ => none) else some (kvs ++ [(k, t)])
section
variable {G : Kt} {F H : Hp} {Q : V → Hp → Prop}
theorem kOf_rep {t : T} {v : V} {k : Key} (b : Bor G F H t v) (e : kOf t = some k) : v = kV k := by
  unfold kOf at e
  split at e <;> cases e <;> (simp only [Bor, Rep] at b; exact b)
theorem BorK.any {k : Key} : ∀ {kvs : List (Key × T)} {vs : List (Key × V)}, BorK G F H kvs vs → hasT kvs k = (valV vs k).isSome
  | [], vs, h => by
    simp only [BorK] at h
    subst h
    rfl
  | (x, t) :: kvs, vs, h => by
    simp only [BorK] at h
    obtain ⟨v, r, rfl, h1, h2⟩ := h
    have ih := BorK.any (k := k) h2
    unfold hasT at ih ⊢
    rw [List.any_cons, ih]
    by_cases e : x = k
    · rw [valV_pos (p := (x, v)) e]; simp [e]
    · rw [valV_neg (p := (x, v)) e]; simp [e]
theorem BorK.get {k : Key} {t : T} : ∀ {kvs : List (Key × T)} {vs : List (Key × V)}, BorK G F H kvs vs → getT kvs k = some t → ∃ v, valV vs k = some v ∧ Bor G F H t v
  | [], vs, h, e => by cases e
  | (x, u) :: kvs, vs, h, e => by
    simp only [BorK] at h
    obtain ⟨v, r, rfl, h1, h2⟩ := h
    unfold getT at e
    by_cases ex : x = k
    · rw [List.find?_cons_of_pos (by simpa using ex)] at e
      cases e
      exact ⟨v, valV_pos (p := (x, v)) ex, h1⟩
    · rw [List.find?_cons_of_neg (by simpa using ex)] at e
      obtain ⟨w, hw, bw⟩ := BorK.get h2 (show getT kvs k = some t from e)
      exact ⟨w, by rw [valV_neg (p := (x, v)) ex]; exact hw, bw⟩
/-- d[k], a value of shared data -/
def rDG : R2 := fun x y H Q => ∃ a v, x = V.ref a ∧ DGet H a y (some v) ∧ Q v H
def rDI : R2 := fun y x H Q => ∃ a o, x = V.ref a ∧ DGet H a y o ∧ Q (.bl o.isSome) H
def rDN : R2 := fun y x H Q => ∃ a o, x = V.ref a ∧ DGet H a y o ∧ Q (.bl (!o.isSome)) H
def pDg (x y : T) : Option T := match x with
  | .dk kvs => (kOf y).bind fun k => (getT kvs k).bind fun t => t.sh.map T.s
  | _ => none
def pDi (y x : T) : Option T := match x with
  | .dk kvs => (kOf y).map fun k => .s (.bl (hasT kvs k))
  | _ => none
def pDn (y x : T) : Option T := match x with
  | .dk kvs => (kOf y).map fun k => .s (.bl (!hasT kvs k))
  | _ => none
theorem sh_eq {t : T} {d : D} (h : t.sh = some d) : t = .s d := by
  cases t <;> cases h
  rfl
theorem prim_dg : Prim2 G rDG pDg := by
  intro tx ty x y F H Q s b1 b2 p
  unfold pDg at p
  split at p
  · rename_i kvs
    simp only [Bor] at b1
    obtain ⟨a, vs, rfl, h1, r⟩ := b1
    cases ek : kOf ty with
    | none => rw [ek] at p; exact p.elim
    | some k =>
      rw [ek] at p
      have ey := kOf_rep b2 ek
      subst ey
      cases eg : getT kvs k with
      | none => rw [Option.bind_some, eg] at p; exact p.elim
      | some t =>
        rw [Option.bind_some, eg, Option.bind_some] at p
        cases es : t.sh with
        | none => rw [es] at p; exact p.elim
        | some d =>
          rw [es] at p
          have et := sh_eq es
          subst et
          obtain ⟨v, hv, bv⟩ := r.get eg
          simp only [Bor] at bv
          refine ⟨a, v, rfl, ?_, PR.val s p bv⟩
          rw [← hv]
          exact DGet.k h1
  · exact p.elim
theorem prim_di : Prim2 G rDI pDi := by
  intro ty tx y x F H Q s b2 b1 p
  unfold pDi at p
  split at p
  · rename_i kvs
    simp only [Bor] at b1
    obtain ⟨a, vs, rfl, h1, r⟩ := b1
    cases ek : kOf ty with
    | none => rw [ek] at p; exact p.elim
    | some k =>
      rw [ek] at p
      have ey := kOf_rep b2 ek
      subst ey
      refine ⟨a, _, rfl, DGet.k h1, ?_⟩
      rw [← r.any (k := k)]
      exact PR.bl s p
  · exact p.elim
theorem prim_dn : Prim2 G rDN pDn := by
  intro ty tx y x F H Q s b2 b1 p
  unfold pDn at p
  split at p
  · rename_i kvs
    simp only [Bor] at b1
    obtain ⟨a, vs, rfl, h1, r⟩ := b1
    cases ek : kOf ty with
    | none => rw [ek] at p; exact p.elim
    | some k =>
      rw [ek] at p
      have ey := kOf_rep b2 ek
      subst ey
      refine ⟨a, _, rfl, DGet.k h1, ?_⟩
      rw [← r.any (k := k)]
      exact PR.bl s p
  · exact p.elim
end
section
variable {X : Cx} {fx : Fx} {W : L2.WX} {a b : Expr} {ga gb : En → R En T} {pos : Pos}
theorem vb_dg (hu : X.A.units + 1 < cLine) (ha : VB X fx W a ga) (hb : VB X fx W b gb) (hs : NoSl b) : VB X fx W (.Subscript a b pos) (b2 pDg ga gb) := PE.imp (pe_dget hu ha hb hs) fun σ H Q h => BB2 (X := X) (r := rDG) prim_dg h
theorem vb_di (hu : X.A.units + 1 < cLine) (ha : VB X fx W a ga) (hb : VB X fx W b gb) (hm : behindInMarks .In b = false := by rfl) : VB X fx W (.Compare a [.In] [b] pos) (b2 pDi ga gb) := PE.imp (pe_cmp (pc_din hu ha hb) hm) fun σ H Q h => BB2 (X := X) (r := rDI) prim_di h
theorem vb_dn (hu : X.A.units + 1 < cLine) (ha : VB X fx W a ga) (hb : VB X fx W b gb) (hm : behindInMarks .NotIn b = false := by rfl) : VB X fx W (.Compare a [.NotIn] [b] pos) (b2 pDn ga gb) := PE.imp (pe_cmp (pc_dnotin hu ha hb) hm) fun σ H Q h => BB2 (X := X) (r := rDN) prim_dn h
theorem vt_di (hu : X.A.units + 1 < cLine) (ha : VB X fx W a ga) (hb : VB X fx W b gb) (hm : behindInMarks .In b = false := by rfl) : VT X fx W (.Compare a [.In] [b] pos) (ofB (b2 pDi ga gb)) :=
  PT.imp (pt_cmp (pc_din hu ha hb) hm) fun σ H Q h => BB2 (X := X) (r := rDI) prim_di (PTt_B h)
theorem vt_dn (hu : X.A.units + 1 < cLine) (ha : VB X fx W a ga) (hb : VB X fx W b gb) (hm : behindInMarks .NotIn b = false := by rfl) : VT X fx W (.Compare a [.NotIn] [b] pos) (ofB (b2 pDn ga gb)) :=
  PT.imp (pt_cmp (pc_dnotin hu ha hb) hm) fun σ H Q h => BB2 (X := X) (r := rDN) prim_dn (PTt_B h)
/-- {} -/
def dnE : En → R En (T × En) := fun env => .ok (.dk [], env)
theorem ve_dnew : VE X fx W (.Dict [] [] pos) dnE := PE.imp pe_dnewK fun σ H Q h => by
  obtain ⟨env, F, fp, S, P⟩ := h
  intro p hp
  refine PV.res (ft := [p]) S P (fun _ h => h) (.lay S.sub hp) ⟨p, [], [], rfl, upd_same, ⟨rfl, rfl⟩, rfl⟩ (by simp) fun q hq => ?_
  have e : q = p := by simpa using hq
  subst e
  exact ⟨S.sub.free hp, hp⟩
/-- d[k] = e -/
def dpS (i : Nat) (gk : En → R En T) (fv : En → R En (T × En)) : En → R En (Fl × En) := fun env => bnd (fv env) fun a => match a.2[i]? with
  | some (some (.dk kvs)) => bnd (gk a.2) fun k => ofO (kOf k) fun key => if kvs.length < sizeLine then ofO (putT kvs key a.1) fun kvs' => .ok (.nx, a.2.set i (some (.dk kvs'))) else .no
  | _ => .no
theorem OwnK.map {G : Kt} {F H : Hp} {k : Key} {d : D} {u : V} (r : Rep G F d u) : ∀ {kvs : List (Key × T)} {vs : List (Key × V)} {fp : List Addr}, OwnK G F H kvs vs fp →
    ∃ fp', OwnK G F H (kvs.map fun kv => if kv.1 = k then (kv.1, .s d) else kv) (vs.map fun kv => if kv.1 = k then (kv.1, u) else kv) fp' ∧ fp'.Sublist fp
  | [], vs, fp, h => by
    simp only [OwnK] at h
    obtain ⟨rfl, rfl⟩ := h
    exact ⟨[], ⟨rfl, rfl⟩, .refl _⟩
  | (x, t) :: kvs, vs, fp, h => by
    simp only [OwnK] at h
    obtain ⟨v, rest, f1, f2, rfl, h1, h2, rfl⟩ := h
    obtain ⟨f3, o3, s3⟩ := OwnK.map r h2
    simp only [List.map_cons]
    by_cases e : x = k
    · rw [if_pos (show (x, t).1 = k from e), if_pos (show (x, v).1 = k from e)]
      simp only [OwnK]
      exact ⟨f3, ⟨u, _, [], f3, rfl, ⟨r, rfl⟩, o3, rfl⟩, s3.trans (List.sublist_append_right f1 f2)⟩
    · rw [if_neg (show ¬ (x, t).1 = k from e), if_neg (show ¬ (x, v).1 = k from e)]
      simp only [OwnK]
      exact ⟨f1 ++ f3, ⟨v, _, f1, f3, rfl, h1, o3, rfl⟩, (List.Sublist.refl f1).append s3⟩
theorem OwnK.snoc {G : Kt} {F H : Hp} {k : Key} {t : T} {u : V} {ft : List Addr} (o : Own G F H t u ft) : ∀ {kvs : List (Key × T)} {vs : List (Key × V)} {fp : List Addr}, OwnK G F H kvs vs fp → OwnK G F H (kvs ++ [(k, t)]) (vs ++ [(k, u)]) (fp ++ ft)
  | [], vs, fp, h => by
    simp only [OwnK] at h
    obtain ⟨rfl, rfl⟩ := h
    simp only [List.nil_append, OwnK]
    exact ⟨u, [], ft, [], rfl, o, ⟨rfl, rfl⟩, by simp⟩
  | (x, t') :: kvs, vs, fp, h => by
    simp only [OwnK] at h
    obtain ⟨v, rest, f1, f2, rfl, h1, h2, rfl⟩ := h
    simp only [List.cons_append, OwnK]
    exact ⟨v, _, f1, f2 ++ ft, rfl, h1, OwnK.snoc o h2, by simp⟩
theorem OwnK.bork {G : Kt} {F H : Hp} {kvs : List (Key × T)} {vs : List (Key × V)} {fp : List Addr} (o : OwnK G F H kvs vs fp) : BorK G F H kvs vs := OwnK.bor kvs vs fp o
theorem vs_dput {i : Nat} {x : Str} {e k : Expr} {gk : En → R En T} {fv : En → R En (T × En)} {np tp : Pos} (hu : X.A.units + 1 < cLine) (hN : X.N[i]? = some x) (hv : Vis X.env.scope x) (hk : VB X fx W k gk) (he : VE X fx W e fv)
    (hs : swapsWith e (some (.Subscript (.Name x np) k tp)) pos.line X.env = pure false := by rfl) (hd : (x == ("__debug__" : Str)) = false := by decide) (hcd : (x == ("__classdict__" : Str)) = false := by decide) :
    VS1 X fx W (.Assign [.Subscript (.Name x np) k tp] e pos) (dpS i gk fv) :=
  PS.imp (ps_dput hu (pe_var hN hv hd hcd) hk he hs) fun D' σ H h => by
    obtain ⟨env, F, fp, S, P⟩ := h
    unfold dpS at P
    refine ⟨env, F, fp, S, ?_⟩
    cases ea : fv env with
    | no => rw [ea] at P; exact P
    | ex c fs e => rw [ea] at P; exact fun cls d F' H' fp' S' x g => P cls d σ F' H' fp' S' x g
    | ok a =>
      obtain ⟨t, e1⟩ := a
      rw [ea] at P
      simp only [bnd] at P
      intro u F1 H1 fp1 f1 S1 o1 nd1 off1 g1
      have d1 : ∀ p ∈ f1, p ∉ fp1 := fun p hp hq => (List.nodup_append.mp nd1).2.2 p hq p hp rfl
      split at P
      case h_2 => exact P.elim
      rename_i kvs ei
      obtain ⟨v, b0, hs0, _⟩ := S1.slot ei
      refine ⟨v, hs0, e1, F1, fp1, S1, ?_⟩
      cases eg : gk e1 with
      | no => rw [eg] at P; exact P
      | ex c fs e => rw [eg] at P; exact fun cls d F' H' fp' S' x g => P cls d σ F' H' fp' S' x ((g1.less fun p hp => List.mem_append_left _ hp).trans g)
      | ok k0 =>
        rw [eg] at P
        dsimp only at P
        cases ek : kOf k0 with
        | none => rw [ek] at P; exact P.elim
        | some key =>
          rw [ek] at P
          simp only [ofO_some] at P
          split at P
          case isFalse => exact P.elim
          rename_i hlen
          intro y F2 H2 g2 b2
          have ey := kOf_rep b2 ek
          subst ey
          have S2 := S1.grow g2
          obtain ⟨o1', off1', d1'⟩ := o1.go off1 (g2.go fp1) d1
          obtain ⟨b, ob, nb, dft, sb, wr⟩ := S2.wr (ft := f1) ei hs0 (List.nodup_append.mpr ⟨S1.nd, (List.nodup_append.mp nd1).2.1, fun x hx y hy e => by subst e; exact d1' x hy hx⟩) off1'
          simp only [Own] at ob
          obtain ⟨l, vs, f3, rfl, hl, os, rfl⟩ := ob
          have len := os.bork.len
          have nlf : l ∉ f3 := (List.nodup_cons.mp nb).1
          have nl1 : l ∉ f1 := dft l List.mem_cons_self
          have gg : Go F H fp F2 H2 (fp1 ++ f1) := g1.trans ((g2.go fp1).frame)
          refine ⟨l, _, rfl, DPut.k hl (by omega), ?_⟩
          cases ep : putT kvs key t with
          | none => rw [ep] at P; exact P.elim
          | some kvs' =>
            rw [ep] at P
            simp only [ofO_some] at P
            have os' := OwnK.mono (.refl _) _ _ _ (keep_upd (o := .dK (putK vs key u)) nlf) os
            have o1'' := Own.mono (.refl _) _ _ _ (keep_upd (o := .dK (putK vs key u)) nl1) o1'
            unfold putT at ep
            have eany := os.bork.any (k := key)
            have ek2 : (vs.any fun kv => decide (kv.1 = key)) = hasT kvs key := by rw [valV_any, eany]
            obtain ⟨f4, o4, n4, s4⟩ : ∃ f4, OwnK (kt X) F2 (upd H2 l (.dK (putK vs key u))) kvs' (putK vs key u) f4 ∧ (l :: f4).Nodup ∧ ∀ p ∈ f4, p ∈ f3 ∨ p ∈ f1 := by
              split at ep
              · rename_i hh
                split at ep
                · rename_i d
                  cases ep
                  simp only [Own] at o1''
                  obtain ⟨f4, o4, s4⟩ := OwnK.map (k := key) o1''.1 os'
                  refine ⟨f4, ?_, nb.sublist (s4.cons₂ l), fun p hp => .inl (s4.subset hp)⟩
                  unfold putK at o4 ⊢
                  rw [ek2, if_pos hh] at o4 ⊢
                  exact o4
                · cases ep
              · rename_i hh
                cases ep
                have o4 := OwnK.snoc (k := key) o1'' os'
                refine ⟨f3 ++ f1, ?_, List.nodup_cons.mpr ⟨fun z => (List.mem_append.mp z).elim nlf nl1, List.nodup_append.mpr ⟨(List.nodup_cons.mp nb).2, (List.nodup_append.mp nd1).2.1, fun x hx y hy e => by subst e; exact dft x (List.mem_cons_of_mem _ hx) hy⟩⟩, fun p hp => List.mem_append.mp hp⟩
                unfold putK at o4 ⊢
                rw [ek2, if_neg hh] at o4 ⊢
                exact o4
            obtain ⟨fp', S', g'⟩ := wr l (.dK (putK vs key u)) (.dk kvs') (l :: f4) List.mem_cons_self ⟨l, putK vs key u, f4, rfl, upd_same, o4, rfl⟩ n4 fun p hp => by
              rcases List.mem_cons.mp hp with rfl | hp
              · exact .inl List.mem_cons_self
              · exact (s4 p hp).imp (List.mem_cons_of_mem _) id
            exact P σ F2 _ fp' S' (gg.trans g')
end
/-- nothing is said: for the ground of a recursion -/
theorem vf_none {P : Program} {w : World} {K : PySem.W.Frag} {mg : Str → Option Value} {base : Heap} {k : Nat} {f : Addr} {fd : FuncData} {ps : List Str} : VF P w K mg base k f fd ps (fun _ => .no) :=
  ⟨fun _ _ _ _ h => h.1, fun _ _ _ _ _ _ _ _ _ _ _ _ _ h => by obtain ⟨_, _, _, _, _, _, _, _, z⟩ := h; exact z.elim⟩
end VS
namespace VS
open PySem PySem.Spec L2
open PyProof.Rows hiding St
section
variable {X : Cx} {fx : Fx} {W : L2.WX} {pos : Pos}
/-- x[e], x a name whose object e leaves alone -/
def ixS (i : Nat) (f : En → R En (T × En)) : En → R En (T × En) := fun env => match env[i]? with
  | some (some _) => bnd (f env) fun a => match a.2[i]? with
    | some (some t) => ofO (pIx t a.1) fun z => .ok (z, a.2)
    | _ => .no
  | _ => .no
theorem ve_ixN {i : Nat} {x : Str} {e : Expr} {f : En → R En (T × En)} {np : Pos} (hN : X.N[i]? = some x) (hv : Vis X.env.scope x) (he : VE X fx W e f) (hs : PlainIx e) (hd : (x == ("__debug__" : Str)) = false := by decide) (hcd : (x == ("__classdict__" : Str)) = false := by decide) :
    VE X fx W (.Subscript (.Name x np) e pos) (ixS i f) := PE.imp (pe_ix ix_seq (pe_var hN hv hd hcd) he hs) fun σ H Q h => by
  obtain ⟨env, F, fp, S, P⟩ := h
  unfold ixS at P
  split at P
  case h_2 => exact P.elim
  rename_i t0 e0
  obtain ⟨v, b0, hs0, _⟩ := S.slot e0
  refine ⟨v, hs0, env, F, fp, S, ?_⟩
  cases ea : f env with
  | no => rw [ea] at P; exact P
  | ex c fs e => rw [ea] at P; exact P
  | ok a =>
    obtain ⟨y, e1⟩ := a
    rw [ea] at P
    simp only [bnd] at P
    intro u F1 H1 fp1 f1 S1 o1 nd1 off1 g1
    split at P
    case h_2 => exact P.elim
    rename_i t1 e2
    obtain ⟨v', b1, hs1, ob⟩ := S1.slot e2
    have ev : v' = v := by
      rw [hs0] at hs1
      cases hs1; rfl
    subst ev
    refine prim_ix t1 y v' u F1 H1 Q S1.sub ob.bor o1.bor ?_
    exact PR.pv (fq := fp1 ++ f1) S1 (fun p hp => List.mem_append_left _ hp) (PV.go (r := ofO (pIx t1 y) fun z => .ok (z, e1)) P g1)
end
end VS
namespace VS
open PySem PySem.Spec L2
open PyProof.Rows hiding St

/-! ### instances: a class, a field -/
/-- a class whose instances keep their fields in a dict; no name of fs is the class's own -/
structure ClOk (K : PySem.W.Frag) (mg : Str → Option Value) (c : Str) (fs : List Str) : Prop where
  cl : ∃ C, mg c = some (.ref C) ∧ Cls K C ∧ ∀ f ∈ fs, NoAttr K C f
theorem RepF.get {G : Kt} {F : Hp} {f : Str} : ∀ {fs : List (Str × D)} {vs : List (Str × V)} {d : D}, RepF G F fs vs → fs.lookup f = some d → ∃ v, vs.lookup f = some v ∧ Rep G F d v
  | [], vs, d, h, e => by cases e
  | (x, d') :: r, vs, d, h, e => by
    simp only [RepF] at h
    obtain ⟨v, r', rfl, h1, h2⟩ := h
    rw [List.lookup_cons] at e ⊢
    cases q : f == x with
    | true =>
      rw [q] at e
      cases e
      exact ⟨v, rfl, h1⟩
    | false =>
      rw [q] at e
      exact RepF.get h2 e
theorem BorF.get {G : Kt} {F H : Hp} {f : Str} : ∀ {fs : List (Str × T)} {vs : List (Str × V)} {d : T}, BorF G F H fs vs → fs.lookup f = some d → ∃ v, vs.lookup f = some v ∧ Bor G F H d v
  | [], vs, d, h, e => by cases e
  | (x, d') :: r, vs, d, h, e => by
    simp only [BorF] at h
    obtain ⟨v, r', rfl, h1, h2⟩ := h
    rw [List.lookup_cons] at e ⊢
    cases q : f == x with
    | true =>
      rw [q] at e
      cases e
      exact ⟨v, rfl, h1⟩
    | false =>
      rw [q] at e
      exact BorF.get h2 e
/-- x.f -/
def pFld (c f : Str) : T → Option T
  | .s (.ob c' fs) => if c' = c then (fs.lookup f).map T.s else none
  | .ob c' fs => if c' = c then fs.lookup f else none
  | _ => none
section
variable {X : Cx} {fx : Fx} {W : L2.WX} {pos : Pos}
theorem fld_bor {G : Kt} {F H : Hp} {c f : Str} {t u : T} {v : V} (s : Same F H) (b : Bor G F H t v) (e : pFld c f t = some u) :
    ∃ a C dx vs w, v = .ref a ∧ G.mg c = some (.ref C) ∧ H a = some (.ins C dx vs) ∧ vs.lookup f = some w ∧ Bor G F H u w := by
  unfold pFld at e
  split at e
  · rename_i c' fs
    split at e
    case isFalse => cases e
    rename_i hc
    subst hc
    simp only [Bor, Rep] at b
    obtain ⟨a, C, dx, vs, rfl, hg, h1, h2, r⟩ := b
    cases el : fs.lookup f with
    | none => rw [el] at e; cases e
    | some d =>
      rw [el] at e
      cases e
      obtain ⟨w, hw, rw'⟩ := r.get el
      exact ⟨a, C, dx, vs, w, rfl, hg, s _ _ h1, hw, by simpa only [Bor] using rw'⟩
  · rename_i c' fs
    split at e
    case isFalse => cases e
    rename_i hc
    subst hc
    simp only [Bor] at b
    obtain ⟨a, C, dx, vs, rfl, hg, h1, h2, r⟩ := b
    obtain ⟨w, hw, rw'⟩ := r.get e
    exact ⟨a, C, dx, vs, w, rfl, hg, h1, hw, rw'⟩
  · cases e
theorem vb_fld {c f : Str} {names : List Str} {e : Expr} {ga : En → R En T} (k : ClOk X.K X.mg c names) (hf : f ∈ names) (ha : VB X fx W e ga) (hb : attributeBase e f X.env (eval e X.env) = eval e X.env := by rfl) :
    VB X fx W (.Attribute e f pos) (b1 (pFld c f) ga) := PE.imp (pe_fld ha hb) fun σ H Q h => by
  obtain ⟨env, F, fp, S, P⟩ := h
  refine ⟨env, F, fp, S, ?_⟩
  unfold b1 at P
  cases ea : ga env with
  | no => rw [ea] at P; exact P
  | ex c fs e => rw [ea] at P; exact P
  | ok t =>
    rw [ea] at P
    dsimp only [bnd] at P
    cases ef : pFld c f t with
    | none => rw [ef] at P; exact P.elim
    | some u =>
      rw [ef] at P
      intro v F' H' g b
      obtain ⟨a, C, dx, vs, w, rfl, hg, h1, hl, bu⟩ := fld_bor g.sub b ef
      obtain ⟨C', hC', hcl, hno⟩ := k.cl
      have : C' = C := by
        have := hC'.symm.trans hg
        cases this
        rfl
      subst this
      exact ⟨a, C', dx, vs, w, rfl, h1, hcl, hno f hf, hl, P w F' H' g bu⟩
end
end VS
namespace VS
open PySem PySem.Spec L2
open PyProof.Rows hiding St
theorem Owns.len {G : Kt} {F H : Hp} : ∀ {ts : List T} {vs : List V} {fp : List Addr}, Owns G F H ts vs fp → ts.length = vs.length
  | [], vs, fp, h => by
    simp only [Owns] at h
    rw [h.1]; rfl
  | t :: ts, vs, fp, h => by
    simp only [Owns] at h
    obtain ⟨v, r, f1, f2, rfl, _, h, _⟩ := h
    simp [Owns.len h]
/-- what others do beside a state leaves it -/
theorem Sta.frame {G : Kt} {fx : Fx} {e : En} {F1 H1 F2 H2 : Hp} {σ : L2.St} {fp fa fb : List Addr} (S : Sta G fx e F1 σ H1 fp) (g : Go F1 H1 fa F2 H2 fb) (d : ∀ p ∈ fp, p ∉ fa) (s : Same F2 H2) :
    Sta G fx e F2 σ H2 fp ∧ (∀ p ∈ fp, p ∉ fb) ∧ Go F1 H1 (fp ++ fa) F2 H2 (fp ++ fb) := by
  have k : ∀ p ∈ fp, F2 p = none ∧ p ∉ fb := fun p hp => by
    obtain ⟨u, hu⟩ := S.own.is p hp
    refine ⟨?_, fun z => ?_⟩
    · cases q : F2 p with
      | none => rfl
      | some o =>
        rcases g.fn p o q with z | z | z
        · rw [S.off p hp] at z; cases z
        · rw [hu] at z; cases z
        · exact absurd z (d p hp)
    · rcases g.own p z with z | z
      · exact d p hp z
      · rw [hu] at z; cases z
  refine ⟨⟨OwnE.mono g.f _ _ _ (fun p hp o q => g.h p o q (d p hp)) S.own, S.nd, fun p hp => (k p hp).1, s, S.fix, fun q h => (S.pin q h).mono g.f⟩, fun p hp => (k p hp).2, ?_⟩
  refine ((g.frame (f := fp)).more fun p hp => ?_).less fun p hp => ?_
  · rcases List.mem_append.mp hp with z | z
    · exact List.mem_append_right _ z
    · exact List.mem_append_left _ z
  · rcases List.mem_append.mp hp with z | z
    · exact List.mem_append_right _ z
    · exact List.mem_append_left _ z
section
variable {X : Cx} {fx : Fx} {W : L2.WX} {pos : Pos}
/-- an instance, made by its __init__ -/
def mkO (c : Str) (n : Nat) (sem : FS) (a : List T × En) : R En (T × En) := if a.1.length + 1 = n then match sem (.ob c [] :: a.1) with
  | .ok (.s .non, some o :: _) => .ok (o, a.2)
  | .ex c' xs _ => .ex c' xs a.2
  | _ => .no else .no
def makeE (c : Str) (n : Nat) (sem : FS) (fs : En → R En (List T × En)) : En → R En (T × En) := fun env => bnd (fs env) (mkO c n sem)
/-- .. from one thing whose items are the arguments -/
def makeU (c : Str) (n : Nat) (sem : FS) (f : En → R En (T × En)) : En → R En (T × En) := fun env => bnd (f env) fun a => ofO (lsT a.1) fun ds => mkO c n sem (ds.map T.s, a.2)
theorem mk_of {c : Str} {C : Addr} {σ : L2.St} {Q : VK} {n : Nat} {sem : FS} {ts : List T} {vs : List V} {e : En} {F F1 H H1 : Hp} {fp fp1 ft : List Addr} (hC : X.mg c = some (.ref C)) (P : PV (kt X) fx W σ Q F H fp (mkO c n sem (ts, e)))
    (S1 : Sta (kt X) fx e F1 σ H1 fp1) (o : Owns (kt X) F1 H1 ts vs ft) (nd : (fp1 ++ ft).Nodup) (off : ∀ p ∈ ft, F1 p = none) (g1 : Go F H fp F1 H1 (fp1 ++ ft)) :
    ∀ x dx, H1 x = none → H1 dx = none → dx ≠ x → spF (kt X) n sem (.ref x :: vs) (upd (upd H1 dx (.own x)) x (.ins C dx [])) (fun v H2 => v = .non ∧ Q (.ref x) H2) (L2.WE W σ) := by
  intro x dx hx hdx hne
  unfold mkO at P
  dsimp only at P
  by_cases hl : ts.length + 1 = n
  case neg => rw [if_neg hl] at P; exact P.elim
  rw [if_pos hl] at P
  have sH : Same H1 (upd (upd H1 dx (.own x)) x (.ins C dx [])) := fun p q hp => by
    have h1 : p ≠ x := fun z => by rw [z, hx] at hp; cases hp
    have h2 : p ≠ dx := fun z => by rw [z, hdx] at hp; cases hp
    simp only [upd, if_neg h1, if_neg h2]
    exact hp
  have gr : Grow F1 H1 F1 (upd (upd H1 dx (.own x)) x (.ins C dx [])) := ⟨.refl _, sH, fun _ _ h => .inl h, S1.sub.trans sH⟩
  have o' := Owns.mono (G := kt X) (.refl F1) ts vs ft (fun p hp q hq => sH p q hq) o
  have nF : ∀ p, H1 p = none → F1 p = none := fun p hp => S1.sub.free hp
  have nft : ∀ p ∈ ft, H1 p ≠ none := fun p hp => by
    obtain ⟨u, hu⟩ := Owns.is ts vs ft o p hp
    rw [hu]; simp
  have nfp : ∀ p ∈ fp1, H1 p ≠ none := fun p hp => S1.is hp
  have ndft : ft.Nodup := (List.nodup_append.mp nd).2.1
  have d1 : ∀ p ∈ fp1, p ∉ x :: dx :: ft := fun p hp z => by
    rcases List.mem_cons.mp z with rfl | z
    · exact nfp _ hp hx
    rcases List.mem_cons.mp z with rfl | z
    · exact nfp _ hp hdx
    · exact (List.nodup_append.mp nd).2.2 p hp p z rfl
  have g2 : Go F H fp F1 (upd (upd H1 dx (.own x)) x (.ins C dx [])) (fp1 ++ (x :: dx :: ft)) := (g1.trans (gr.goNew (fp1 ++ ft) [x, dx] (by simp [hx, hdx]))).less fun p hp => by
    simp only [List.mem_append, List.mem_cons, List.not_mem_nil, or_false] at hp ⊢
    rcases hp with z | z | z | z
    · exact .inl (.inl z)
    · exact .inr (.inl z)
    · exact .inr (.inr z)
    · exact .inl (.inr z)
  refine ⟨by simp [← Owns.len o, hl], .ob c [] :: ts, F1, x :: dx :: ft, ?_, ?_, ?_, gr.sub, ?_⟩
  · simp only [Owns]
    refine ⟨.ref x, vs, [x, dx], ft, rfl, ?_, o', rfl⟩
    simp only [Own, OwnF]
    exact ⟨x, C, dx, [], [], rfl, hC, by simp [upd], by simp [upd, hne], ⟨rfl, rfl⟩, rfl⟩
  · refine List.nodup_cons.mpr ⟨fun z => ?_, List.nodup_cons.mpr ⟨fun z => nft _ z hdx, ndft⟩⟩
    rcases List.mem_cons.mp z with z | z
    · exact hne z.symm
    · exact nft _ z hx
  · intro p hp
    rcases List.mem_cons.mp hp with rfl | hp
    · exact nF _ hx
    rcases List.mem_cons.mp hp with rfl | hp
    · exact nF _ hdx
    · exact off p hp
  cases es : sem (.ob c [] :: ts) with
  | no => rw [es] at P; exact P.elim
  | ex c' xs us =>
    rw [es] at P
    intro cls d F2 H2 fp2 ou nd2 off2 sub2 xr g3
    obtain ⟨S3, dj, g4⟩ := (S1.grow gr).frame g3 d1 sub2
    exact P cls d F2 H2 fp1 S3 xr ((g2.trans g4).less fun p hp => List.mem_append_left _ hp)
  | ok b =>
    obtain ⟨t, us⟩ := b
    rw [es] at P
    dsimp only at P ⊢
    split at P
    case h_3 => exact P.elim
    case h_2 heq => cases heq
    rename_i o1 us' heq
    cases heq
    intro v F2 H2 fp2 f2 ou ot nd2 off2 sub2 g3
    simp only [Own, Rep] at ot
    obtain ⟨rfl, rfl⟩ := ot
    refine ⟨rfl, ?_⟩
    simp only [List.map_cons, OwnE] at ou
    obtain ⟨v', r, fa, fb, e1, oa, ob, rfl⟩ := ou
    cases e1
    obtain ⟨S3, dj, g4⟩ := (S1.grow gr).frame g3 d1 sub2
    refine P (.ref x) F2 H2 fp1 fa S3 oa ?_ (fun p hp => off2 p (by simp [hp])) ((g2.trans g4).less fun p hp => ?_)
    · refine List.nodup_append.mpr ⟨S1.nd, ?_, fun a ha b hb e => ?_⟩
      · have := (List.nodup_append.mp nd2).1
        exact (List.nodup_append.mp this).1
      · subst e
        exact dj a ha (by simp [hb])
    · simp only [List.mem_append] at hp ⊢
      rcases hp with z | z
      · exact .inl z
      · exact .inr (.inl (.inl z))
theorem make_of {c : Str} {C : Addr} {σ : L2.St} {H : Hp} {Q : VK} {n : Nat} {sem : FS} {fs : En → R En (List T × En)} (hC : X.mg c = some (.ref C))
    (h : tV (kt X) fx W (makeE c n sem fs) σ H Q) : tVs (kt X) fx W fs σ H fun vs H1 => ∀ x dx, H1 x = none → H1 dx = none → dx ≠ x → spF (kt X) n sem (.ref x :: vs) (upd (upd H1 dx (.own x)) x (.ins C dx [])) (fun v H2 => v = .non ∧ Q (.ref x) H2) (L2.WE W σ) := by
  obtain ⟨env, F, fp, S, P⟩ := h
  refine ⟨env, F, fp, S, ?_⟩
  unfold makeE at P
  cases ea : fs env with
  | no => rw [ea] at P; exact P
  | ex c fs e => rw [ea] at P; exact P
  | ok a =>
    obtain ⟨ts, e⟩ := a
    rw [ea] at P
    exact fun vs F1 H1 fp1 ft S1 o nd off g1 => mk_of hC P S1 o nd off g1
/-- the class called: what its __init__ lets out passes at the caller's slots -/
theorem run_mk {CX : CXT} {k : Nat} {f C : Addr} {fd : FuncData} {ps : List Str} {sp : Sp} {E : XK} {pn : List (Addr × Obj)} {σ : L2.St} {H : Hp} {s : Shared} {Q : VK} {us : List Value} {vs : List V} (M : Mk X.K C f)
    (F : FnOk X.prog X.w X.K X.mg X.base CX k f fd ps sp) (hr : Room (k + 1) X.A) (hb : Binds X.K fd ps []) (hx : L2.PassesAt CX X σ E) (I : Inv X pn σ H s) (r : Vals vs us)
    (h : ∀ x dx, H x = none → H dx = none → dx ≠ x → sp (.ref x :: vs) (upd (upd H dx (.own x)) x (.ins C dx [])) (fun v H2 => v = .non ∧ Q (.ref x) H2) E) :
    wpAny (model X.prog X.w) X.A (call (.ref C) us) (EP X pn σ Q) X.xe s := by
  have J := Inv.made (C := C) I
  have hs := h (s.heap.objs.size + 1) s.heap.objs.size (I.hok.fresh (Nat.le_succ _)) (I.hok.fresh (Nat.le_refl _)) (Nat.ne_of_lt (Nat.lt_succ_self _))
  have rv : Vals (V.ref (s.heap.objs.size + 1) :: vs) (Value.ref (s.heap.objs.size + 1) :: us) := .cons rfl r
  have hl : (Value.ref (s.heap.objs.size + 1) :: us).length = ps.length := rv.length.symm.trans (F.len _ _ _ _ hs)
  have bd := hb _ (Value.ref (s.heap.objs.size + 1) :: us) J.kIn (by rw [List.append_nil]; exact hl)
  rw [List.append_nil] at bd
  refine wpAny_call (make_map (f := f) I.kIn M.makes M.init (beq_iff_eq.mp M.fn) (codeAny_mono (F.run _ X.stack _ _ ⟨_, []⟩ _ _ _ E (hr.make C us []) (J.env0.make C us []) bd rv hs) fun res s' hq => ?_))
  match res, hq with
  | .error e, hq => exact hx pn _ _ e s' J hq
  | .ok (.ret u), hq =>
    obtain ⟨v, H', J2, rr, ev, q⟩ := J.after hq
    subst ev
    exact ⟨rr, ⟨V.ref (s.heap.objs.size + 1), H', J2, rfl, q⟩⟩
  | .ok .next, hq => exact False.elim hq
  | .ok .brk, hq => exact False.elim hq
  | .ok .cont, hq => exact False.elim hq
theorem ve_make {k : Nat} {f C : Addr} {fd : FuncData} {ps : List Str} {sem : FS} {x : Str} {p pos : Pos} {e : Expr} {es : List Expr} {fs : En → R En (List T × En)} (M : Mk X.K C f) (F : VF X.prog X.w X.K X.mg X.base k f fd ps sem) (hr : Room (k + 1) X.A) (hg : Gl X x) (hm : X.mg x = some (.ref C))
    (hb : Binds X.K fd ps []) (tk : Takes X W) (ha : VEs X fx W (e :: es) fs) (hdb : (x == ("__debug__" : Str)) = false := by decide)
    (he : starEach (e :: es) X.env = (false, eval e X.env) :: starEach es X.env := by rfl) (hpl : (backTo pos (starEach es X.env)).any (·.1) = false := by rfl) : VE X fx W (.Call (.Name x p) (e :: es) [] pos) (makeE x ps.length sem fs) := by
  refine ⟨fun pn s σ H Q I h => ?_⟩
  refine wpAny_Call_Name_kw (ld_glob I hg hm ?_ hdb)
  refine PySem.W.callWith_K (h₀ := X.base) I.ok.mod.kin M.kp (thn (ha.run pos pn s σ H _ I (make_of hm h)) fun us s1 ⟨vs, H1, I1, r, q⟩ => ⟨I1.kIn, ?_⟩) he hpl
  exact run_mk M F hr hb (L2.passAt tk σ) I1 r q
/-- C( *e ) -/
theorem lsT_rep {G : Kt} {F H : Hp} {t : T} {v : V} {ds : List D} (s : Same F H) (b : Bor G F H t v) (e : lsT t = some ds) : ∃ a vs, v = .ref a ∧ (SqT G.K H a vs ∨ SqL G.K H a vs) ∧ Reps G F ds vs := by
  unfold lsT at e
  split at e
  · rename_i ds'
    cases e
    obtain ⟨a, vs, h1, h2, h3⟩ := tp_rep s b rfl
    exact ⟨a, vs, h1, .inl h2.sq, h3⟩
  · obtain ⟨a, vs, h1, h2, h3⟩ := ls_rep s b e
    exact ⟨a, vs, h1, .inr (SqL.of h2), h3⟩
theorem makeU_of {c : Str} {C : Addr} {σ : L2.St} {H : Hp} {Q : VK} {n : Nat} {sem : FS} {f : En → R En (T × En)} (hC : X.mg c = some (.ref C))
    (h : tV (kt X) fx W (makeU c n sem f) σ H Q) : tV (kt X) fx W f σ H fun y H1 => ∃ a vs, y = .ref a ∧ (SqT X.K H1 a vs ∨ SqL X.K H1 a vs) ∧ ∀ x dx, H1 x = none → H1 dx = none → dx ≠ x → spF (kt X) n sem (.ref x :: vs) (upd (upd H1 dx (.own x)) x (.ins C dx [])) (fun v H2 => v = .non ∧ Q (.ref x) H2) (L2.WE W σ) := by
  obtain ⟨env, F, fp, S, P⟩ := h
  refine ⟨env, F, fp, S, ?_⟩
  unfold makeU at P
  cases ea : f env with
  | no => rw [ea] at P; exact P
  | ex c fs e => rw [ea] at P; exact P
  | ok a =>
    obtain ⟨t, e⟩ := a
    rw [ea] at P
    dsimp only [bnd] at P
    cases el : lsT t with
    | none => rw [el] at P; exact P.elim
    | some ds =>
      rw [el] at P
      intro y F1 H1 fp1 ft S1 o nd off g1
      obtain ⟨a, vs, ey, hs, r⟩ := lsT_rep S1.sub o.bor el
      exact ⟨a, vs, ey, hs, mk_of hC P S1 r.owns (by simpa using S1.nd) (by simp) (g1.less fun p hp => List.mem_append_left _ (by simpa using hp))⟩
theorem ve_makeU {k : Nat} {f C : Addr} {fd : FuncData} {ps : List Str} {sem : FS} {x : Str} {p sp pos : Pos} {e : Expr} {fe : En → R En (T × En)} (M : Mk X.K C f) (F : VF X.prog X.w X.K X.mg X.base k f fd ps sem) (hr : Room (k + 1) X.A) (hg : Gl X x) (hm : X.mg x = some (.ref C))
    (hb : Binds X.K fd ps []) (tk : Takes X W) (ha : VE X fx W e fe) (hdb : (x == ("__debug__" : Str)) = false := by decide)
    (hst : starEach [.Starred e sp] X.env = [(true, eval e X.env)] := by rfl) : VE X fx W (.Call (.Name x p) [.Starred e sp] [] pos) (makeU x ps.length sem fe) := by
  refine ⟨fun pn s σ H Q I h => ?_⟩
  refine wpAny_Call_Name_kw (ld_glob I hg hm ?_ hdb)
  refine PySem.W.callWith_S (h₀ := X.base) I.ok.mod.kin M.kp (thn (ha.run pn s σ H _ I (makeU_of hm h)) fun v s1 ⟨y, H1, I1, ry, a, xs, ey, hxs, q⟩ => ?_) hst
  subst ey
  obtain rfl : v = Value.ref a := ry
  exact StX.star_any I1 hxs fun us s2 I2 rv => ⟨I2.kIn, run_mk M F hr hb (L2.passAt tk σ) I2 rv q⟩
end
end VS
namespace VS
open PySem PySem.Spec L2
open PyProof.Rows hiding St
section
variable {X : Cx} {fx : Fx} {W : L2.WX} {pos : Pos}
theorem RepF.none {G : Kt} {F : Hp} {f : Str} : ∀ {fs : List (Str × D)} {vs : List (Str × V)}, RepF G F fs vs → fs.lookup f = none → vs.lookup f = none
  | [], vs, h, e => by
    simp only [RepF] at h
    rw [h]; rfl
  | (x, d') :: r, vs, h, e => by
    simp only [RepF] at h
    obtain ⟨v, r', rfl, h1, h2⟩ := h
    rw [List.lookup_cons] at e ⊢
    cases q : f == x with
    | true =>
      rw [q] at e
      cases e
    | false =>
      rw [q] at e
      exact RepF.none h2 e
/-- x.m(..), x a shared instance -/
def methE (c m : Str) (n : Nat) (sem : FS) (fo : En → R En (T × En)) (fs : En → R En (List T × En)) : En → R En (T × En) := fun env => bnd (fo env) fun b => match b.1 with
  | .s (.ob c' fl) => if c' = c ∧ fl.lookup m = none then bnd (fs b.2) fun a => if a.1.length + 1 = n then match sem (.s (.ob c' fl) :: a.1) with
    | .ok (r, _) => .ok (r, a.2)
    | .ex c'' xs _ => .ex c'' xs a.2
    | .no => .no else .no else .no
  | _ => .no
theorem meth_of {c m : Str} {C : Addr} {σ : L2.St} {H : Hp} {Q : VK} {n : Nat} {sem : FS} {fo : En → R En (T × En)} {fs : En → R En (List T × En)} (hC : X.mg c = some (.ref C))
    (h : tV (kt X) fx W (methE c m n sem fo fs) σ H Q) : tV (kt X) fx W fo σ H fun x H1 => ∃ a dx fl, x = .ref a ∧ H1 a = some (.ins C dx fl) ∧ fl.lookup m = none ∧ tVs (kt X) fx W fs σ H1 fun vs H2 => spF (kt X) n sem (.ref a :: vs) H2 Q (L2.WE W σ) := by
  obtain ⟨env, F, fp, S, P⟩ := h
  refine ⟨env, F, fp, S, ?_⟩
  unfold methE at P
  cases ea : fo env with
  | no => rw [ea] at P; exact P
  | ex c fs e => rw [ea] at P; exact P
  | ok b0 =>
    obtain ⟨t, e0⟩ := b0
    rw [ea] at P
    dsimp only [bnd] at P
    intro v F1 H1 fp1 ft1 S1 o1 nd1 off1 g1
    split at P
    case h_2 => exact P.elim
    rename_i c' fl
    by_cases hc : c' = c ∧ fl.lookup m = Option.none
    case neg => rw [if_neg hc] at P; exact P.elim
    rw [if_pos hc] at P
    obtain ⟨rfl, hno⟩ := hc
    have b0 : Rep (kt X) F1 (.ob c' fl) v := by simp only [Own] at o1; exact o1.1
    have b1 := b0
    simp only [Rep] at b1
    obtain ⟨a, C0, dx, vs0, rfl, hg, h1, h2, r⟩ := b1
    have : C0 = C := by
      have := hg.symm.trans hC
      cases this
      rfl
    subst this
    have g1' : Go F H fp F1 H1 fp1 := g1.less fun p hp => List.mem_append_left _ hp
    refine ⟨a, dx, vs0, rfl, S1.sub _ _ h1, r.none hno, e0, F1, fp1, S1, ?_⟩
    cases eb : fs e0 with
    | no => rw [eb] at P; exact P
    | ex c fs e =>
      rw [eb] at P
      exact PV.go P g1'
    | ok b =>
      obtain ⟨ts, e⟩ := b
      rw [eb] at P
      dsimp only at P
      by_cases hl : ts.length + 1 = n
      case neg => rw [if_neg hl] at P; exact P.elim
      rw [if_pos hl] at P
      intro vs F2 H2 fp2 ft S2 o nd off g2
      refine ⟨by simp [← Owns.len o, hl], .s (.ob c' fl) :: ts, F2, ft, ?_, (List.nodup_append.mp nd).2.1, off, S2.sub, ?_⟩
      · simp only [Owns]
        refine ⟨.ref a, vs, [], ft, rfl, ?_, o, rfl⟩
        simp only [Own]
        exact ⟨Rep.mono g2.f _ _ b0, trivial⟩
      have d1 : ∀ p ∈ fp2, p ∉ ft := fun p hp hq => (List.nodup_append.mp nd).2.2 p hp p hq rfl
      cases es : sem (.s (.ob c' fl) :: ts) with
      | no => rw [es] at P; exact P.elim
      | ex c2 xs us =>
        rw [es] at P
        intro cls d F3 H3 fp3 ou nd3 off3 sub3 xr g3
        obtain ⟨S3, dj, g4⟩ := S2.frame g3 d1 sub3
        exact P cls d F3 H3 fp2 S3 xr (((g1'.trans g2).trans g4).less fun p hp => List.mem_append_left _ hp)
      | ok b =>
        obtain ⟨t, us⟩ := b
        rw [es] at P
        dsimp only at P ⊢
        intro v F3 H3 fp3 f3 ou ot nd3 off3 sub3 g3
        obtain ⟨S3, dj, g4⟩ := S2.frame g3 d1 sub3
        refine P v F3 H3 fp2 f3 S3 ot ?_ (fun p hp => off3 p (by simp [hp])) (((g1'.trans g2).trans g4).less fun p hp => ?_)
        · refine List.nodup_append.mpr ⟨S2.nd, (List.nodup_append.mp nd3).2.1, fun a ha b hb e => ?_⟩
          subst e
          exact dj a ha (by simp [hb])
        · simp only [List.mem_append] at hp ⊢
          rcases hp with z | z
          · exact .inl z
          · exact .inr (.inr z)
theorem ve_meth {k : Nat} {f C : Addr} {fd : FuncData} {ps : List Str} {sem : FS} {c m : Str} {o e : Expr} {es : List Expr} {apos : Pos} {fo : En → R En (T × En)} {fs : En → R En (List T × En)} (hC : X.mg c = some (.ref C)) (hc : Cls X.K C) (M : Meth X.K C m f)
    (F : VF X.prog X.w X.K X.mg X.base k f fd ps sem) (hr : Room k X.A) (hb : Binds X.K fd ps []) (tk : Takes X W) (ho : VE X fx W o fo) (ha : VEs X fx W (e :: es) fs) {pl : Sem Bool}
    (he : starEach (e :: es) X.env = (false, eval e X.env) :: starEach es X.env := by rfl) (hpl : (backTo pos (starEach es X.env)).any (·.1) = false := by rfl)
    (hev : eval (.Call (.Attribute o m apos) (e :: es) [] pos) X.env = (do
      let ov ← eval o X.env
      standAt apos.atName
      let (f, first) ← holding [ov] (getMethod ov m pl)
      callWith pos f first (backTo pos (starEach (e :: es) X.env)) (backToKw pos (keywordEach [] X.env))) := by rfl) : VE X fx W (.Call (.Attribute o m apos) (e :: es) [] pos) (methE c m ps.length sem fo fs) := by
  refine ⟨fun pn s σ H Q I h => ?_⟩
  refine PySem.W.methodCall_KW (pl := pl) (thn (ho.run pn s σ H _ I (meth_of hC h)) fun u s1 ⟨y, H1, I1, ry, a, dx, fl, ey, ea, l, q⟩ => ?_) hev
  subst ey
  obtain rfl : u = Value.ref a := ry
  refine getmeth_ok I1 ea hc M l ?_
  refine PySem.W.callWith_K (first := [.ref a]) (h₀ := X.base) I.ok.mod.kin M.kp (thn (ha.run pos pn s1 σ H1 _ I1 q) fun us s2 ⟨ws, H2, I2, r, q2⟩ => ⟨I2.kIn, ?_⟩) he hpl
  exact run_fnS (E := L2.WE W) (us := .ref a :: us) (vs := .ref a :: ws) F hr hb (L2.passAt tk σ) I2 (.cons rfl r) q2
theorem ve_meth0 {k : Nat} {f C : Addr} {fd : FuncData} {ps : List Str} {sem : FS} {c m : Str} {o : Expr} {apos : Pos} {fo : En → R En (T × En)} (hC : X.mg c = some (.ref C)) (hc : Cls X.K C) (M : Meth X.K C m f)
    (F : VF X.prog X.w X.K X.mg X.base k f fd ps sem) (hr : Room k X.A) (hb : Binds X.K fd ps []) (tk : Takes X W) (ho : VE X fx W o fo) {pl : Sem Bool}
    (hev : eval (.Call (.Attribute o m apos) [] [] pos) X.env = (do
      let ov ← eval o X.env
      standAt apos.atName
      let (f, first) ← holding [ov] (getMethod ov m pl)
      callWith pos f first (backTo pos (starEach [] X.env)) (backToKw pos (keywordEach [] X.env))) := by rfl) : VE X fx W (.Call (.Attribute o m apos) [] [] pos) (methE c m ps.length sem fo enil) := by
  refine ⟨fun pn s σ H Q I h => ?_⟩
  refine PySem.W.methodCall_KW (pl := pl) (thn (ho.run pn s σ H _ I (meth_of hC h)) fun u s1 ⟨y, H1, I1, ry, a, dx, fl, ey, ea, l, env, F1, fp1, S1, q⟩ => ?_) hev
  subst ey
  obtain rfl : u = Value.ref a := ry
  refine getmeth_ok I1 ea hc M l ?_
  have q2 := q [] F1 H1 fp1 [] S1 (by simp only [Owns]; simp) (by simpa using S1.nd) (by simp) (by simpa using Go.refl)
  exact PySem.W.callWith_K0 (first := [.ref a]) I1.kIn M.kp (run_fnS (E := L2.WE W) (us := [.ref a]) (vs := [.ref a]) F hr hb (L2.passAt tk σ) I1 (.cons rfl .nil) q2)
end
end VS
namespace VS
open PySem PySem.Spec L2
open PyProof.Rows hiding St
/-! ### self.f = e -/
def putFT (f : Str) (t : T) : List (Str × T) → List (Str × T)
  | [] => [(f, t)]
  | (g, x) :: r => if g = f then (g, t) :: r else (g, x) :: putFT f t r
theorem OwnF.put {G : Kt} {F H : Hp} {f : Str} {t : T} {v : V} {ft : List Addr} : ∀ {ts : List (Str × T)} {vs : List (Str × V)} {fp : List Addr}, OwnF G F H ts vs fp → Own G F H t v ft → (fp ++ ft).Nodup →
    ∃ fp', OwnF G F H (putFT f t ts) (putF f v vs) fp' ∧ fp'.Nodup ∧ ∀ p ∈ fp', p ∈ fp ++ ft
  | [], vs, fp, h, o, nd => by
    simp only [OwnF] at h
    obtain ⟨rfl, rfl⟩ := h
    refine ⟨ft ++ [], ?_, by simpa using nd, by simp⟩
    simp only [putFT, putF, OwnF]
    exact ⟨v, [], ft, [], rfl, o, ⟨rfl, rfl⟩, rfl⟩
  | (g, u) :: ts, vs, fp, h, o, nd => by
    simp only [OwnF] at h
    obtain ⟨w, r, f1, f2, rfl, h1, h2, rfl⟩ := h
    by_cases hg : g = f
    · have pm : (f1 ++ f2 ++ ft).Perm (f1 ++ (ft ++ f2)) := by
        rw [List.append_assoc]
        exact List.Perm.append_left f1 List.perm_append_comm
      refine ⟨ft ++ f2, ?_, (List.nodup_append.mp (pm.nodup_iff.mp nd)).2.1, fun p hp => ?_⟩
      · simp only [putFT, putF, if_pos hg, OwnF]
        exact ⟨v, r, ft, f2, rfl, o, h2, rfl⟩
      · simp only [List.mem_append] at hp ⊢
        rcases hp with z | z
        · exact .inr z
        · exact .inl (.inr z)
    · have nd' : (f1 ++ (f2 ++ ft)).Nodup := by rw [← List.append_assoc]; exact nd
      obtain ⟨fp', o', n', s'⟩ := OwnF.put (f := f) h2 o (List.nodup_append.mp nd').2.1
      refine ⟨f1 ++ fp', ?_, List.nodup_append.mpr ⟨(List.nodup_append.mp nd').1, n', fun x hx y hy e => ?_⟩, fun p hp => ?_⟩
      · simp only [putFT, putF, if_neg hg, OwnF]
        exact ⟨w, _, f1, fp', rfl, h1, o', rfl⟩
      · exact (List.nodup_append.mp nd').2.2 x hx y (s' y hy) e
      · rw [List.append_assoc]
        rcases List.mem_append.mp hp with z | z
        · exact List.mem_append_left _ z
        · exact List.mem_append_right _ (s' p z)
theorem OwnF.flen {G : Kt} {F H : Hp} : ∀ {ts : List (Str × T)} {vs : List (Str × V)} {fp : List Addr}, OwnF G F H ts vs fp → ts.length = vs.length
  | [], vs, fp, h => by
    simp only [OwnF] at h
    rw [h.1]; rfl
  | (g, t) :: ts, vs, fp, h => by
    simp only [OwnF] at h
    obtain ⟨v, r, f1, f2, rfl, _, h, _⟩ := h
    simp [OwnF.flen h]
section
variable {X : Cx} {fx : Fx} {W : L2.WX} {pos : Pos}
def flS (i : Nat) (c f : Str) (fe : En → R En (T × En)) : En → R En (Fl × En) := fun env => bnd (fe env) fun a => match a.2[i]? with
  | some (some (.ob c' fl)) => if c' = c ∧ fl.length < 1000 then .ok (.nx, a.2.set i (some (.ob c' (putFT f a.1 fl)))) else .no
  | _ => .no
theorem vs_fld {i : Nat} {x c f : Str} {names : List Str} {e : Expr} {fe : En → R En (T × En)} {np tp : Pos} (k : ClOk X.K X.mg c names) (hf : f ∈ names) (hN : X.N[i]? = some x) (hv : Vis X.env.scope x) (he : VE X fx W e fe)
    (hs : swapsWith e (some (.Attribute (.Name x np) f tp)) pos.line X.env = pure false := by rfl) (hd : (x == ("__debug__" : Str)) = false := by decide) (hcd : (x == ("__classdict__" : Str)) = false := by decide) :
    VS1 X fx W (.Assign [.Attribute (.Name x np) f tp] e pos) (flS i c f fe) := PS.imp (ps_fld (pe_var (i := i) hN hv hd hcd) he hs) fun D σ H h => by
  obtain ⟨env, F, fp, S, P⟩ := h
  refine ⟨env, F, fp, S, ?_⟩
  unfold flS at P
  cases ea : fe env with
  | no => rw [ea] at P; exact P
  | ex c fs e => rw [ea] at P; exact fun cls d F' H' fp' S' x g => P cls d σ F' H' fp' S' x g
  | ok a =>
    obtain ⟨t, e1⟩ := a
    rw [ea] at P
    dsimp only [bnd] at P
    intro y F1 H1 fp1 ft S1 o nd off g1
    split at P
    case h_2 => exact P.elim
    rename_i c' fl hi
    by_cases hc : c' = c ∧ fl.length < 1000
    case neg => rw [if_neg hc] at P; exact P.elim
    rw [if_pos hc] at P
    obtain ⟨rfl, hl⟩ := hc
    obtain ⟨v0, b0, hs0, _⟩ := S1.slot hi
    obtain ⟨b, ob, nb, db, sb, wr⟩ := S1.wr hi hs0 nd off
    simp only [Own] at ob
    obtain ⟨p, C, dx, vs, f1, rfl, hg, hp, hdx, of, rfl⟩ := ob
    obtain ⟨C', hC', hcl, hno⟩ := k.cl
    have : C' = C := by
      have := hC'.symm.trans hg
      cases this
      rfl
    subst this
    refine ⟨.ref p, hs0, p, C', dx, vs, rfl, hp, hcl, hno f hf, by rw [← of.flen]; exact hl, ?_⟩
    have pn : p ≠ dx := (List.nodup_cons.mp nb).1 ∘ fun z => by rw [z]; exact List.mem_cons_self
    have pf1 : p ∉ f1 := fun z => (List.nodup_cons.mp nb).1 (List.mem_cons_of_mem _ z)
    have df1 : dx ∉ f1 := (List.nodup_cons.mp (List.nodup_cons.mp nb).2).1
    have pft : p ∉ ft := db p List.mem_cons_self
    have dft : dx ∉ ft := db dx (List.mem_cons_of_mem _ List.mem_cons_self)
    have nf : (f1 ++ ft).Nodup := List.nodup_append.mpr ⟨(List.nodup_cons.mp (List.nodup_cons.mp nb).2).2, (List.nodup_append.mp nd).2.1, fun x hx y hy e => db x (List.mem_cons_of_mem _ (List.mem_cons_of_mem _ hx)) (e ▸ hy)⟩
    have of' := OwnF.mono (G := kt X) (H' := upd H1 p (.ins C' dx (putF f y vs))) (.refl F1) fl vs f1 (keep_upd pf1) of
    have o' := Own.mono (G := kt X) (H' := upd H1 p (.ins C' dx (putF f y vs))) (.refl F1) t y ft (keep_upd pft) o
    obtain ⟨f2, of2, nf2, sf2⟩ := OwnF.put (f := f) of' o' nf
    obtain ⟨fp', S', g'⟩ := wr p (.ins C' dx (putF f y vs)) (.ob c' (putFT f t fl)) (p :: dx :: f2) List.mem_cons_self
      (by simp only [Own]; exact ⟨p, C', dx, _, f2, rfl, hg, upd_same, by rw [upd_ne pn.symm]; exact hdx, of2, rfl⟩)
      (List.nodup_cons.mpr ⟨fun z => by
        rcases List.mem_cons.mp z with z | z
        · exact pn z
        · rcases List.mem_append.mp (sf2 p z) with z | z
          · exact pf1 z
          · exact pft z, List.nodup_cons.mpr ⟨fun z => by
        rcases List.mem_append.mp (sf2 dx z) with z | z
        · exact df1 z
        · exact dft z, nf2⟩⟩)
      (fun q hq => by
        rcases List.mem_cons.mp hq with rfl | hq
        · exact .inl List.mem_cons_self
        rcases List.mem_cons.mp hq with rfl | hq
        · exact .inl (List.mem_cons_of_mem _ List.mem_cons_self)
        · rcases List.mem_append.mp (sf2 q hq) with z | z
          · exact .inl (List.mem_cons_of_mem _ (List.mem_cons_of_mem _ z))
          · exact .inr z)
    exact P σ F1 _ fp' S' (g1.trans g')
/-! ### a name whose object the def may change, its value taken last -/
def econsL (i : Nat) (fs : En → R En (List T × En)) : En → R En (List T × En) := fun env => match env[i]? with
  | some (some _) => bnd (fs env) fun b => match b.2[i]? with
    | some (some t) => .ok (t :: b.1, b.2.set i none)
    | _ => .no
  | _ => .no
theorem vks_late {i : Nat} {x : Str} {np : Pos} {es : List Expr} {ks : List (Option Nat)} {fs : En → R En (List T × En)} (hN : X.N[i]? = some x) (hv : Vis X.env.scope x) (hs : VKs X fx W es ks fs) (hd : (x == ("__debug__" : Str)) = false := by decide)
    (hcd : (x == ("__classdict__" : Str)) = false := by decide) (hst : starEach (.Name x np :: es) X.env = (false, eval (.Name x np) X.env) :: starEach es X.env := by rfl) : VKs X fx W (.Name x np :: es) (some i :: ks) (econsL i fs) :=
  PA.imp (pa_cons (pe_var (i := i) hN hv hd hcd) hs hst) fun σ H Q h => by
  obtain ⟨env, F, fp, S, P⟩ := h
  unfold econsL at P
  split at P
  case h_2 => exact P.elim
  rename_i t0 hi
  obtain ⟨v, b0, hs0, _⟩ := S.slot hi
  refine ⟨v, hs0, env, F, fp, S, ?_⟩
  cases ea : fs env with
  | no => rw [ea] at P; exact P
  | ex c fs e => rw [ea] at P; exact P
  | ok b =>
    obtain ⟨ts, e1⟩ := b
    rw [ea] at P
    dsimp only [bnd] at P
    split at P
    case h_2 => exact P.elim
    rename_i t hi1
    intro vs F1 H1 fp1 ft S1 o nd off g1 ev hl
    obtain ⟨a, b, c, s, rfl, hs1, ob, kk⟩ := S1.own.split hi1
    have es : s = some v := by
      rw [hs0] at hs1
      exact (Option.some.inj hs1).symm
    subst es
    obtain ⟨v', ev', ob⟩ := ob
    cases ev'
    have k' := kk F1 H1 none (some v) [] (.refl _) (fun _ _ _ e => e) rfl
    rw [List.nil_append, set_self hs1] at k'
    have pm : (a ++ (b ++ c) ++ ft).Perm ((a ++ c) ++ (b ++ ft)) := by
      have h1 : (a ++ (b ++ c) ++ ft) = a ++ ((b ++ c) ++ ft) := by simp
      have h2 : ((a ++ c) ++ (b ++ ft)) = a ++ (c ++ (b ++ ft)) := by simp
      rw [h1, h2]
      refine List.Perm.append_left a ?_
      have h3 : ((b ++ c) ++ ft).Perm ((c ++ b) ++ ft) := List.Perm.append_right ft List.perm_append_comm
      rw [List.append_assoc c b ft] at h3
      exact h3
    have nd2 := pm.nodup_iff.mp nd
    have S2 : Sta (kt X) fx (e1.set i none) F1 σ H1 (a ++ c) := ⟨k', (List.nodup_append.mp nd2).1, fun p hp => S1.off p (by
      simp only [List.mem_append] at hp ⊢
      rcases hp with z | z
      · exact .inl z
      · exact .inr (.inr z)), S1.sub, S1.fix, S1.pin⟩
    refine P (v :: vs) F1 H1 (a ++ c) (b ++ ft) S2 ?_ nd2 (fun p hp => ?_) (g1.less fun p hp => pm.mem_iff.mpr hp) (fun j q hj => ?_) (by simp [hl])
    · simp only [Owns]
      exact ⟨v, vs, b, ft, rfl, ob, o, rfl⟩
    · rcases List.mem_append.mp hp with z | z
      · exact S1.off p (by simp [z])
      · exact off p z
    · cases j with
      | zero =>
        have : i = q := by simpa using hj
        subst this
        exact ⟨v, rfl, hs0⟩
      | succ j => exact ev j q (by simpa using hj)
/-! ### for x in a name's list, the list given up -/
def forOL (g : GTg) (body : En → R En (Fl × En)) : List T → En → R En (Fl × En)
  | [], env => .ok (.nx, env)
  | t :: ts, env => match g t env with
    | none => .no
    | some e => bnd (body e) fun a => match a.1 with
      | .nx => forOL g body ts a.2
      | .ct => forOL g body ts a.2
      | .bk => .ok (.nx, a.2)
      | .rt t => .ok (.rt t, a.2)
def forOS (i : Nat) (g : GTg) (body : En → R En (Fl × En)) : En → R En (Fl × En) := fun env => match env[i]? with
  | some (some (.l ts)) => forOL g body ts (env.set i none)
  | _ => .no
theorem vs_forO {i : Nat} {x : Str} {np : Pos} {tg : Expr} {body : List Stmt} {sl : List Nat} {g : GTg} {b : En → R En (Fl × En)} (hp : PassesOwn (model X.prog X.w) X.A X.env X.xe) (hc : X.calm = true) (hN : X.N[i]? = some x) (hv : Vis X.env.scope x) (hg : VG X fx tg sl g) (hb : VSs X fx W body b)
    (hd : (x == ("__debug__" : Str)) = false := by decide) (hcd : (x == ("__classdict__" : Str)) = false := by decide)
    (hs : ∀ y, foldedSetIterable (.Name x np) X.env y = pure y := by intro _; rfl) : VS1 X fx W (.For tg (.Name x np) body [] pos) (forOS i g b) := PS.imp (ps_for hp hc (pi_list (pe_var (i := i) hN hv hd hcd)) hg hb hs) fun D σ H h => by
  obtain ⟨env, F, fp, S, P⟩ := h
  unfold forOS at P
  split at P
  case h_2 => exact P.elim
  rename_i ts hi
  obtain ⟨a, bb, c, s, rfl, hs1, ob, kk⟩ := S.own.split hi
  obtain ⟨v, rfl, ob⟩ := ob
  simp only [Own] at ob
  obtain ⟨q, vs, f1, rfl, hq, ow, rfl⟩ := ob
  have k' := kk F H none (some (.ref q)) [] (.refl _) (fun _ _ _ e => e) rfl
  rw [List.nil_append, set_self hs1] at k'
  have pm : (a ++ ((q :: f1) ++ c)).Perm ((a ++ c) ++ (q :: f1)) := by
    rw [List.append_assoc]
    exact List.Perm.append_left a List.perm_append_comm
  have nd2 := pm.nodup_iff.mp S.nd
  have S0 : Sta (kt X) fx (env.set i none) F σ H (a ++ c) := ⟨k', (List.nodup_append.mp nd2).1, fun p hp => S.off p (pm.mem_iff.mpr (List.mem_append_left _ hp)), S.sub, S.fix, S.pin⟩
  have off0 : ∀ p ∈ q :: f1, F p = none := fun p hp => S.off p (pm.mem_iff.mpr (List.mem_append_right _ hp))
  refine ⟨.ref q, hs1, q, rfl, ⟨vs, SqL.of hq⟩, ?_⟩
  let Inv0 : Nat → L2.St → Hp → Prop := fun k σ H' => ∃ env' F' fp' fr, Sta (kt X) fx env' F' σ H' fp' ∧ Owns (kt X) F' H' (ts.drop k) (vs.drop k) fr ∧ (fp' ++ q :: fr).Nodup ∧ (∀ p ∈ q :: fr, F' p = none) ∧ H' q = some (.lst vs) ∧
    Go F H (a ++ ((q :: f1) ++ c)) F' H' (fp' ++ q :: fr) ∧ PSt (kt X) fx W D F' H' (fp' ++ q :: fr) (forOL g b (ts.drop k) env')
  have hlen : ts.length = vs.length := Owns.len ow
  refine for_list (K := X.K) (a := q) (xs := vs) Inv0 ⟨_, F, a ++ c, f1, S0, by simpa using ow, nd2, off0, hq, Go.refl.less fun p hp => pm.mem_iff.mpr hp, ?_⟩ ?_ ?_ ?_
  · exact PSt.go P (Go.refl.less fun p hp => pm.mem_iff.mpr hp)
  · rintro k σ' H' _ ⟨_, _, _, _, _, _, _, _, h, _⟩
    exact SqL.of h
  · rintro k y σ' H' hk ⟨env', F', fp', fr, S1, ow1, nd1, off1, hq1, g1, P1⟩
    have hlt : k < ts.length := by rw [hlen]; exact (List.getElem?_eq_some_iff.mp hk).1
    have hy : y = vs[k]'(by omega) := ((List.getElem?_eq_some_iff.mp hk).2).symm
    rw [List.drop_eq_getElem_cons hlt, List.drop_eq_getElem_cons (show k < vs.length by omega)] at ow1
    rw [List.drop_eq_getElem_cons hlt] at P1
    simp only [Owns] at ow1
    obtain ⟨w, r, ft, f2, ew, ot, or, rfl⟩ := ow1
    cases ew
    rw [← hy] at ot
    unfold forOL at P1
    cases eg : g ts[k] env' with
    | none => rw [eg] at P1; exact P1.elim
    | some e2 =>
      rw [eg] at P1
      dsimp only at P1
      have nd3 : (fp' ++ ft).Nodup ∧ (∀ p ∈ q :: f2, p ∉ fp' ++ ft) ∧ (q :: f2).Nodup := by
        have h1 : (fp' ++ q :: (ft ++ f2)).Perm ((fp' ++ ft) ++ (q :: f2)) := by
          rw [List.append_assoc]
          exact List.Perm.append_left fp' List.perm_middle.symm
        have h2 := h1.nodup_iff.mp nd1
        exact ⟨(List.nodup_append.mp h2).1, fun p hp hz => (List.nodup_append.mp h2).2.2 p hz p hp rfl, (List.nodup_append.mp h2).2.1⟩
      have offt : ∀ p ∈ ft, F' p = none := fun p hp => off1 p (List.mem_cons_of_mem _ (List.mem_append_left _ hp))
      refine ⟨ts[k], env', e2, F', fp', ft, S1, ot, nd3.1, offt, eg, fun σ2 fp2 S2 sub2 _ _ => ?_⟩
      refine ⟨e2, F', fp2, S2, ?_⟩
      have subA : ∀ p ∈ fp2, p ∈ fp' ++ q :: (ft ++ f2) := fun p hp => by
        have := sub2 p hp
        simp only [List.mem_append, List.mem_cons] at this ⊢
        rcases this with z | z
        · exact .inl z
        · exact .inr (.inr (.inl z))
      have P2 := P1
      have gB : ∀ {F3 H3 : Hp} {fp3 : List Addr}, Go F' H' fp2 F3 H3 fp3 → Go F' H' (fp' ++ q :: (ft ++ f2)) F3 H3 fp3 := fun g => g.more subA
      cases eb : b e2 with
      | no => rw [eb] at P2; exact P2
      | ex c fs e => rw [eb] at P2; exact fun cls d σ3 F3 H3 fp3 S3 x3 g3 => P2 cls d σ3 F3 H3 fp3 S3 x3 (gB g3)
      | ok r2 =>
        obtain ⟨fl, e3⟩ := r2
        rw [eb] at P2
        have next : ∀ {σ3 : L2.St} {F3 H3 : Hp} {fp3 : List Addr}, Sta (kt X) fx e3 F3 σ3 H3 fp3 → Go F' H' fp2 F3 H3 fp3 → PSt (kt X) fx W D F' H' (fp' ++ q :: (ft ++ f2)) (forOL g b (ts.drop (k + 1)) e3) → Inv0 (k + 1) σ3 H3 := fun {σ3 F3 H3 fp3} S3 g3 P3 => by
          have dj : ∀ p ∈ q :: f2, p ∉ fp2 := fun p hp z => nd3.2.1 p hp (sub2 p z)
          have hqf : q ∉ fp2 := dj q List.mem_cons_self
          obtain ⟨o3, off3, dj3⟩ := Owns.go or (fun p hp => off1 p (List.mem_cons_of_mem _ (List.mem_append_right _ hp))) g3 (fun p hp => dj p (List.mem_cons_of_mem _ hp))
          have hq3 : H3 q = some (.lst vs) := g3.h q _ hq1 hqf
          have hq3' : q ∉ fp3 := fun z => by
            rcases g3.own q z with z | z
            · exact hqf z
            · rw [hq1] at z; cases z
          have hqF : F3 q = none := by
            cases e : F3 q with
            | none => rfl
            | some o =>
              rcases g3.fn q o e with z | z | z
              · rw [off1 q List.mem_cons_self] at z; cases z
              · rw [hq1] at z; cases z
              · exact absurd z hqf
          have gF : Go F' H' (fp2 ++ q :: f2) F3 H3 (fp3 ++ q :: f2) := g3.frame
          have gT : Go F' H' (fp' ++ q :: (ft ++ f2)) F3 H3 (fp3 ++ q :: f2) := gF.more fun p hp => by
            simp only [List.mem_append, List.mem_cons] at hp ⊢
            rcases hp with z | z | z
            · have := sub2 p z
              simp only [List.mem_append] at this
              rcases this with z | z
              · exact .inl z
              · exact .inr (.inr (.inl z))
            · exact .inr (.inl z)
            · exact .inr (.inr (.inr z))
          refine ⟨e3, F3, fp3, f2, S3, o3, List.nodup_append.mpr ⟨S3.nd, nd3.2.2, fun x hx y hy e => ?_⟩, fun p hp => ?_, hq3, g1.trans gT, PSt.go P3 gT⟩
          · subst e
            rcases List.mem_cons.mp hy with rfl | z
            · exact hq3' hx
            · exact dj3 x z hx
          · rcases List.mem_cons.mp hp with rfl | z
            · exact hqF
            · exact off3 p z
        cases fl with
        | nx => exact fun σ3 F3 H3 fp3 S3 g3 => next S3 g3 P2
        | ct => exact fun σ3 F3 H3 fp3 S3 g3 => next S3 g3 P2
        | bk => exact fun σ3 F3 H3 fp3 S3 g3 => P2 σ3 F3 H3 fp3 S3 (gB g3)
        | rt t => exact fun v σ3 F3 H3 fp3 ft S3 o nd off g3 => P2 v σ3 F3 H3 fp3 ft S3 o nd off (gB g3)
  · rintro σ' H' ⟨env', F', fp', fr, S1, ow1, nd1, off1, hq1, g1, P1⟩
    rw [← hlen, List.drop_length] at P1
    unfold forOL at P1
    refine P1 σ' F' H' fp' S1 (Go.refl.less fun p hp => List.mem_append_left _ hp)
end
end VS
namespace VS
open PySem PySem.Spec L2
open PyProof.Rows hiding St
section
variable {X : Cx} {fx : Fx} {W : L2.WX} {pos : Pos}
/-! ### a comprehension over a name's own list, which stays -/
def lcKp (i : Nat) (vs : List Nat) (gt : GTg) (test : En → R En (Bool × En)) (elt : En → R En (T × En)) : En → R En (T × En) := fun env => match env[i]? with
  | some (some (.l ts)) => ofO (shs ts) fun ds => bnd (lcE vs (fun e => .ok (ds, e)) gt test elt (env.set i none)) fun a => match a.2[i]? with
    | some none => .ok (a.1, a.2.set i (some (.l ts)))
    | _ => .no
  | _ => .no
theorem owns_map {G : Kt} {F H : Hp} : ∀ {ds : List D} {vs : List V} {fp : List Addr}, Owns G F H (ds.map T.s) vs fp → fp = []
  | [], vs, fp, h => by
    simp only [List.map_nil, Owns] at h
    exact h.2
  | d :: ds, vs, fp, h => by
    simp only [List.map_cons, Owns, Own] at h
    obtain ⟨v, r, f1, f2, rfl, ⟨_, rfl⟩, h, rfl⟩ := h
    rw [owns_map h]
theorem ve_lcN {i : Nat} {x : Str} {np : Pos} {elt tg : Expr} {ifs : List Expr} {scope : Scope} {own : List (Str × Nat)} {sl : List Nat} {gt : GTg} {test : En → R En (Bool × En)} {fe : En → R En (T × En)} (hi : X.N[i]? = some x) (hv : Vis X.env.scope x) (hc : X.calm = true) (hN : X.N.Nodup) (ok : BlkOk X.N X.env.scope scope own)
    (nd : (own.map (·.2)).Nodup) (hsl : ∀ j ∈ sl, j ∈ own.map (·.2)) (hq : ∀ q ∈ fx, q.1 ∉ own.map (·.2))
    (hg : ∀ (s : Shared) (H : Hp) (C : Addr) (cl : List (Str × Addr)) (fp : List Addr), VG (X.blk s H scope (compEnvC scope cl C X.env) fp) fx tg sl gt) (ht : ∀ (s : Shared) (H : Hp) (C : Addr) (cl : List (Str × Addr)) (fp : List Addr), VTs (X.blk s H scope (compEnvC scope cl C X.env) fp) fx (fun _ _ _ _ => False) ifs test)
    (he : ∀ (s : Shared) (H : Hp) (C : Addr) (cl : List (Str × Addr)) (fp : List Addr), VE (X.blk s H scope (compEnvC scope cl C X.env) fp) fx (fun _ _ _ _ => False) elt fe) (hd : (x == ("__debug__" : Str)) = false := by decide) (hcd : (x == ("__classdict__" : Str)) = false := by decide)
    (hs : ∀ y, foldedSetIterable (.Name x np) X.env y = pure y := by intro _; rfl) :
    VE X fx W (.ListComp elt [⟨tg, .Name x np, ifs, 0⟩] scope pos) (lcKp i (own.map (·.2)) gt test fe) := PE.imp (pe_lc hc hN (pi_list (pe_var (i := i) hi hv hd hcd)) ok hg ht he hs) fun σ H Q h => by
  obtain ⟨env, F, fp, S, P⟩ := h
  unfold lcKp at P
  split at P
  case h_2 => exact P.elim
  rename_i ts hi0
  cases es : shs ts with
  | none => rw [es] at P; exact P.elim
  | some ds =>
    rw [es, ofO_some] at P
    have ets := shs_eq es
    obtain ⟨a, bb, c, s, rfl, hs1, ob, kk⟩ := S.own.split hi0
    obtain ⟨v, rfl, ob⟩ := ob
    have ob0 := ob
    simp only [Own] at ob
    obtain ⟨q, vs, f1, rfl, hq0, ow, rfl⟩ := ob
    subst ets
    have hf1 := owns_map ow
    subst hf1
    have rp : Reps (kt X) F ds vs := (Owns.bor _ _ _ ow).shs
    have k' := kk F H none (some (.ref q)) [] (.refl _) (fun _ _ _ e => e) rfl
    rw [List.nil_append, set_self hs1] at k'
    have pm : (a ++ ([q] ++ c)).Perm ((a ++ c) ++ [q]) := by
      rw [List.append_assoc]
      exact List.Perm.append_left a List.perm_append_comm
    have nd2 := pm.nodup_iff.mp S.nd
    have S0 : Sta (kt X) fx (env.set i none) F σ H (a ++ c) := ⟨k', (List.nodup_append.mp nd2).1, fun p hp => S.off p (pm.mem_iff.mpr (List.mem_append_left _ hp)), S.sub, S.fix, S.pin⟩
    have offq : F q = none := S.off q (pm.mem_iff.mpr (by simp))
    have nq : q ∉ a ++ c := fun z => (List.nodup_append.mp nd2).2.2 q z q (by simp) rfl
    have P0 : PV (kt X) fx W σ Q F H (a ++ c) (lcE (own.map (·.2)) (fun e => .ok (ds, e)) gt test fe (env.set i none)) := by
      revert P
      cases lcE (own.map (·.2)) (fun e => .ok (ds, e)) gt test fe (env.set i none) with
      | no => exact id
      | ex c' fs e => exact fun P cls d F' H' fp' S' x g => P cls d F' H' fp' S' x (g.more fun p hp => pm.mem_iff.mpr (List.mem_append_left _ hp))
      | ok r =>
        obtain ⟨t, e⟩ := r
        intro P v F' H' fp' ft S' o nd' off' g
        dsimp only [bnd] at P
        split at P
        case h_2 => exact P.elim
        rename_i hi2
        obtain ⟨oq, ofq, dq⟩ := ob0.go (by simpa using offq) g (by simpa using nq)
        have oE : OwnE (kt X) F' H' [some (.l (ds.map T.s))] ([V.ref q].map some) ([q] ++ []) := by
          simp only [List.map_cons, List.map_nil, OwnE]
          exact ⟨.ref q, [], [q], [], rfl, oq, ⟨rfl, rfl⟩, rfl⟩
        obtain ⟨fp2, S2, sub2⟩ := puts_ok (ks := [some i]) (us := [some (.l (ds.map T.s))]) (vs := [.ref q]) (e' := e.set i (some (.l (ds.map T.s)))) S' oE
          (by
            rw [List.append_nil]
            refine List.nodup_append.mpr ⟨S'.nd, by simp, fun x hx y hy e => ?_⟩
            have : y = q := by simpa using hy
            subst this
            subst e
            exact dq x (by simp) (List.mem_append_left _ hx))
          (by simpa using ofq) (fun j k hj => by
            cases j with
            | zero =>
              have : i = k := by simpa using hj
              subst this
              exact ⟨.ref q, rfl, hs1⟩
            | succ j => simp at hj) (by simp only [puts, hi2])
        refine P v F' H' fp2 ft S2 o ?_ off' ?_
        · refine List.nodup_append.mpr ⟨S2.nd, (List.nodup_append.mp nd').2.1, fun x hx y hy e => ?_⟩
          subst e
          have := sub2 x hx
          simp only [List.mem_append, List.mem_cons, List.not_mem_nil, or_false] at this
          rcases this with z | z
          · exact (List.nodup_append.mp nd').2.2 x z x hy rfl
          · subst z
            exact dq x (by simp) (List.mem_append_right _ hy)
        · refine ((g.frame (f := [q])).more fun p hp => pm.mem_iff.mpr hp).less fun p hp => ?_
          rcases List.mem_append.mp hp with z | z
          · have := sub2 p z
            simp only [List.mem_append, List.mem_cons, List.not_mem_nil, or_false] at this ⊢
            rcases this with z | z
            · exact .inl (.inl z)
            · exact .inr z
          · exact List.mem_append_left _ (List.mem_append_right _ z)
    have K := tLc_at nd hsl hq S0 P0
    exact ⟨.ref q, hs1, q, rfl, ⟨vs, SqL.of hq0⟩, K (Itl X.K q) F H (a ++ c) S0 .refl (itok_list hq0 nq rp)⟩
end
/-! ### a def that is called while an exception is handled: it neither walks nor raises -/
abbrev cxQ (CX : CXT) (P : Program) (w : World) (K : PySem.W.Frag) (mg : Str → Option Value) (base : Heap) (N : List Str) (q : Str) (sc : Scope) (f : Addr) (cd : Value) (A : Around) (out : List Env) (s : Shared) (H : Hp) (E : XK) : Cx :=
  { cxOf CX P w K mg base N q sc f cd A out s H E with calm := false }
structure FnQ (P : Program) (w : World) (K : PySem.W.Frag) (mg : Str → Option Value) (base : Heap) (CX : CXT) (k : Nat) (f : Addr) (fd : FuncData) (ps : List Str) (sp : Sp) : Prop where
  lens : ∀ vs H Q E, sp vs H Q E → vs.length = ps.length
  goes : ∀ (A : Around) (out : List Env) (s : Shared) (H : Hp) (ar : Args) (us : List Value) (vs : List V) (Q : VK) (E : XK), L2H.RoomH k A → Env0 P w K mg base A out s H → BindsTo s fd ar (ps.zip us) → Vals vs us → sp vs H Q E → codeAny (model P w) A (.call (.ref f) ar) (CR CX out P w H s Q E) s
section
variable {P : Program} {w : World} {K : PySem.W.Frag} {mg : Str → Option Value} {base : Heap}
theorem inv_q {CX : CXT} {N ps : List Str} {q : Str} {sc : Scope} {f : Addr} {cd : Value} {A : Around} {out : List Env} {s s1 : Shared} {H : Hp} {E : XK} {us : List Value} {vs : List V} (S : FnScope N ps sc) (e0 : Env0 P w K mg base A out s H) (hl : vs.length = ps.length) (r : Vals vs us)
    (z : InCallC s s.heap.objs.size (bindL (envOfC q sc s.heap.objs.size f cd).kindOf (ps.zip us) fun _ => none) (cellsFrom (s.heap.objs.size + 1) sc.names []) (bindC (envOfC q sc s.heap.objs.size f cd).kindOf (ps.zip us) fun _ => none) s1) : Inv (cxQ CX P w K mg base N q sc f cd A out s H E) [] (L2.start N vs) H s1 := by
  have hpl : ps.length ≤ N.length := by have t := congrArg List.length S.pre; rw [List.length_take] at t; omega
  obtain ⟨h1, tk, rfl, hk⟩ := z.done
  have noA : ∀ b : Addr, b ∉ (cxQ CX P w K mg base N q sc f cd A out s H E).ex := fun b y => absurd (show b ∈ ([] : List Addr) from y) (by simp)
  have okN : ∀ (y : Str), sc.names.lookup y = some .cell ∨ sc.names.lookup y = some .free → ∃ c, (cellsFrom (s.heap.objs.size + 1) sc.names []).lookup y = some c := fun y hy => by
    rcases hy with hy | hy
    · exact cell_has hy
    · exact absurd rfl (S.nofree _ (PySem.mem_of_lookup hy))
  refine ⟨⟨e0.mod, S.kind, rfl, rfl, Nat.le_refl _, fun y u c g1 g2 => name_of_addr z.apart (PySem.mem_of_lookup g1) (PySem.mem_of_lookup g2), fun y hy => okN y hy, fun y c _ g => Nat.le_of_lt (z.above y c (PySem.mem_of_lookup g)), (fun y => Bool.noConfusion (show false = true from y)), Around.frames_deeper e0.frames, .inr ⟨rfl, rfl⟩, fun b y => absurd y (noA b), e0.bs, e0.bsz, fun b _ _ => noA b, fun b y => absurd y (noA b), e0.funs, e0.frf⟩,
    rfl, e0.bare, Un.kept hk, ⟨_, z.toInCall.ns, fun i y v g1 g2 g3 => ?_⟩, fun y c g => ⟨_, z.cell y c g⟩, e0.hok.fresh (Nat.le_refl _), fun y c g => e0.hok.fresh (Nat.le_of_lt (z.above y c (PySem.mem_of_lookup g))), fun u hu => ?_, e0.hok.kept hk, ?_⟩
  · have hi : i < vs.length := by
      by_cases hi : i < vs.length
      · exact hi
      · unfold L2.start at g2
        rw [List.getElem?_append_right (by simpa using hi), List.getElem?_replicate] at g2
        split at g2 <;> cases g2
    have ha : vs[i]? = some v := by
      unfold L2.start at g2
      rw [List.getElem?_append_left (by simpa using hi), List.getElem?_map] at g2
      cases e : vs[i]? with
      | none => rw [e] at g2; cases g2
      | some a => rw [e] at g2; cases g2; rfl
    obtain ⟨u, hu, rv⟩ := r.get ha
    have hp : ps[i]? = some y := by rw [← S.pre, List.getElem?_take_of_lt (by omega)]; exact g1
    have ndP : ps.Nodup := by rw [← S.pre]; exact S.nd.sublist (List.take_sublist _ _)
    refine ⟨u, rv, ?_⟩
    rcases S.par y (List.mem_of_getElem? hp) with k | k
    · exact .inl ⟨k, bindL_get ndP hp hu k⟩
    · obtain ⟨c, e⟩ := cell_has (n := s.heap.objs.size + 1) k
      have qq := z.cell y c e
      rw [bindC_get ndP hp hu (by show sc.names.lookup y ≠ _; rw [k]; decide)] at qq
      exact .inr ⟨.inl k, c, e, qq⟩
  · exact absurd (show u ∈ ([] ++ [] : List (Addr × Obj)) from hu) (by simp)
  · show _ = N.length
    unfold L2.start
    rw [List.length_append, List.length_map, List.length_replicate]
    omega
theorem fnq_of {k : Nat} {x qual : Str} {st : Stmt} {f : Addr} {fd : FuncData} {N ps : List Str} {sp : Sp} {CX : CXT} (F : Fun K x qual st f fd) (S : FnScope N ps (defScope st)) (lens : ∀ vs H Q E, sp vs H Q E → vs.length = ps.length)
    (hb : ∀ (cdv : Value) (A : Around) (out : List Env) (s : Shared) (H : Hp) (vs : List V) (Q : VK) (E : XK), L2H.RoomH k (A.deeper (envOfC qual (defScope st) s.heap.objs.size f cdv)) → sp vs H Q E →
      ∃ t, PSs (cxQ CX P w K mg base N qual (defScope st) f cdv A out s H E) (defBody st) t ∧ t { nx := fun _ H' => Q .non H', rt := Q } (L2.start N vs) H) : FnQ P w K mg base CX (k + 1) f fd ps sp := by
  obtain ⟨oc, od, kV, doc, pm, an, cdv, ct, osl, rfl, lk, hcd⟩ := F.ex
  refine ⟨lens, fun A out s H ar us vs Q E hr e0 bd r hsp => ?_⟩
  have hl := lens _ _ _ _ hsp
  have KX : K.In s.heap := e0.mod.kin.keeps fun b o e => (e0.bs b o e).1
  have lim : s.heap.NoLimit := e0.mod.nolimit.keeps fun b o e => (e0.bs b o e).1
  have kinds : ∀ y ∈ ps.zip us, (defScope st).names.lookup y.1 = some .local ∨ ((defScope st).names.lookup y.1 = some .cell ∧ ((cellsFrom (s.heap.objs.size + 1) (defScope st).names []).lookup y.1).isSome = true) := fun ⟨n, v⟩ hy =>
    (S.par n (List.of_mem_zip hy).1).imp id fun c => ⟨c, PySem.W.cellsFrom_some _ _ _ (.inl c)⟩
  refine codeAny_call_function hr.depth (KX _ _ lk) rfl S.co S.gen rfl (PySem.W.codeRec_of KX hcd) (bd _ _ _ _ (wpAny_newFunctionEnv_cells S.kind kinds fun env he s1 z => ?_))
  subst he
  refine ⟨lim.keeps z.toInCall.keep, codeAny_func ?_⟩
  obtain ⟨t, ht, hq⟩ := hb cdv A out s H vs Q E (hr.deeper _) hsp
  have I := inv_q (CX := CX) (E := E) (cd := cdv) (q := qual) (f := f) S e0 hl r z
  refine wpAny_mono (ht.run [] s1 (L2.start N vs) H _ I hq) (fun fl s' hs => ?_) fun e s' hs => hs
  match fl, hs with
  | .ret u, ⟨v, σ', H', J, rv, q⟩ => exact ⟨v, H', J.os, J.bare, J.base, J.hok, rv, q⟩
  | .next, ⟨σ', H', J, q⟩ => exact ⟨V.non, H', J.os, J.bare, J.base, J.hok, rfl, q⟩
  | .brk, ⟨_, _, _, q⟩ => exact False.elim q
  | .cont, ⟨_, _, _, q⟩ => exact False.elim q
abbrev VQ (P : Program) (w : World) (K : PySem.W.Frag) (mg : Str → Option Value) (base : Heap) (k : Nat) (f : Addr) (fd : FuncData) (ps : List Str) (sem : FS) : Prop := FnQ P w K mg base (L2.CX P w) k f fd ps (spF ⟨K, mg⟩ ps.length sem)
theorem vq_mk {x qual : Str} {st : Stmt} {f : Addr} {fd : FuncData} {N ps : List Str} {k : Nat} {io : List Bool} {fb : En → R En (Fl × En)} (F : Fun K x qual st f fd) (S : FnScope N ps (defScope st)) (hio : io.length = ps.length)
    (body : ∀ (cdv : Value) (A : Around) (outer : List Env) (s : Shared) (H : Hp) (vs : List V) (E : XK), L2H.RoomH k (A.deeper (envOfC qual (defScope st) s.heap.objs.size f cdv)) →
      VSs (cxQ (L2.CX P w) P w K mg base N qual (defScope st) f cdv A outer s H E) (fxOf io vs) (fun cls d _ H => E cls d H) (defBody st) fb) : VQ P w K mg base (k + 1) f fd ps (finF io N.length fb) :=
  fnq_of F S (fun vs H Q E h => h.1) fun cdv A outer s H vs Q E hr h => ⟨_, body cdv A outer s H vs E hr, sp_start hio h⟩
end
section
variable {X : Cx} {fx : Fx} {W : L2.WX} {pos : Pos}
theorem run_q {CX : CXT} {k : Nat} {f : Addr} {fd : FuncData} {ps : List Str} {sp : Sp} {E : XK} {pn : List (Addr × Obj)} {σ : L2.St} {H : Hp} {s : Shared} {Q : VK} {us : List Value} {vs : List V} (F : FnQ X.prog X.w X.K X.mg X.base CX k f fd ps sp) (hr : L2H.RoomH k X.A) (hb : L2.Binds X.K fd ps []) (hx : L2.PassesAt CX X σ E)
    (I : Inv X pn σ H s) (r : Vals vs us) (h : sp vs H Q E) : wpAny (model X.prog X.w) X.A (call (.ref f) us) (EP X pn σ Q) X.xe s := by
  have hl : us.length = ps.length := r.length.symm.trans (F.lens _ _ _ _ h)
  have bd := hb s us I.kIn (by rw [List.append_nil]; exact hl)
  rw [List.append_nil] at bd
  refine wpAny_call (codeAny_mono (F.goes X.A X.stack s H ⟨us, []⟩ us vs Q E hr I.env0 bd r h) fun res s' hq => ?_)
  match res, hq with
  | .error e, hq => exact hx pn H s e s' I hq
  | .ok (.ret u), hq => exact I.after hq
  | .ok .next, hq => exact False.elim hq
  | .ok .brk, hq => exact False.elim hq
  | .ok .cont, hq => exact False.elim hq
/-- the reading of such a call, plain data back -/
theorem callA_of {sem : FS} {n : Nat} {gs : En → R En (List T)} {σ : L2.St} {H : Hp} {Q : VK} {E : XK} (h : tB (kt X) fx W (callA n sem gs) σ H Q) : tBs (kt X) fx W gs σ H fun vs H1 => spF (kt X) n sem vs H1 Q E := by
  obtain ⟨env, F0, fp, S, P⟩ := h
  refine ⟨env, F0, fp, S, ?_⟩
  unfold callA at P
  cases ea : gs env with
  | no => rw [ea] at P; exact P
  | ex c fs e => rw [ea] at P; exact P
  | ok ts =>
    rw [ea] at P
    dsimp only [bnd] at P
    by_cases hl : ts.length = n
    case neg => rw [if_neg hl] at P; exact P.elim
    rw [if_pos hl] at P
    intro vs F1 H1 g1 b
    refine ⟨by rw [b.len]; exact hl, (ers ts).map T.s, H1, [], (Bors.rep g1.sub _ _ b).owns, List.nodup_nil, by simp, .refl _, ?_⟩
    cases esem : sem ((ers ts).map T.s) with
    | no => rw [esem] at P; exact P
    | ex c xs us => rw [esem] at P; exact P.elim
    | ok a =>
      obtain ⟨t, us⟩ := a
      rw [esem] at P
      dsimp only at P
      intro v F2 H2 fp2 f2 ou ot nd2 off2 sub2 g2
      have gg : Grow F1 H1 F1 H2 := ⟨.refl _, fun p o h => g2.h p o h (by simp), fun p o h => .inl h, fun p o h => g2.h p o (g1.sub _ _ h) (by simp)⟩
      have hat : ∀ t', atomT t = some t' → Bor (kt X) F1 H2 t' v := by
        intro t' e
        unfold atomT at e
        split at e <;> cases e <;> (simp only [Own, Rep] at ot; simp only [Bor, Rep]; exact ot.1)
      cases eat : atomT t with
      | none => rw [eat] at P; exact P.elim
      | some t' =>
        rw [eat] at P
        exact P v F1 H2 (g1.trans gg) (hat t' eat)
theorem vb_callQ {k : Nat} {f : Addr} {fd : FuncData} {ps : List Str} {sem : FS} {x : Str} {p pos : Pos} {e : Expr} {es : List Expr} {gs : En → R En (List T)} (F : VQ X.prog X.w X.K X.mg X.base k f fd ps sem) (hr : L2H.RoomH k X.A) (hg : Gl X x) (hm : X.mg x = some (.ref f))
    (hk : PySem.W.keepIn X.K (.ref f) = true) (hb : L2.Binds X.K fd ps []) (tk : Takes X W) (ha : VBs X fx W (e :: es) gs) (hdb : (x == ("__debug__" : Str)) = false := by decide)
    (he : starEach (e :: es) X.env = (false, eval e X.env) :: starEach es X.env := by rfl) (hpl : (backTo pos (starEach es X.env)).any (·.1) = false := by rfl) : VB X fx W (.Call (.Name x p) (e :: es) [] pos) (callA ps.length sem gs) := by
  refine ⟨fun pn s σ H Q I h => ?_⟩
  refine wpAny_Call_Name_kw (ld_glob I hg hm ?_ hdb)
  refine PySem.W.callWith_K (h₀ := X.base) I.ok.mod.kin hk (thn (ha.run pos pn s σ H _ I (callA_of (E := L2.WE W σ) h)) fun us s1 ⟨vs, H1, I1, r, q⟩ => ⟨I1.kIn, ?_⟩) he hpl
  exact run_q F hr hb (L2.passAt tk σ) I1 r q
theorem roomS {k : Nat} {A : Around} {o : Option Value} (r : Room k A) : L2H.RoomH k (A.mark o) := ⟨r.dp, r.un⟩
end
/-! ### a module's tuple -/
def tupB : List D → List Value → Bool
  | [], [] => true
  | .str a :: ds, .str b _ :: vs => decide (a = b) && tupB ds vs
  | .int a :: ds, .int b _ :: vs => decide (a = b) && tupB ds vs
  | _, _ => false
def tupIs (ds : List D) (o : Obj) : Bool := o.dict.isNone && (match o.cls with | .type n => n == "tuple" | _ => false) && (match o.data with | .seq its _ => decide (its.size ≤ 1000) && tupB ds its.toList | _ => false)
def atomV : D → V
  | .str x => .str x
  | .int i => .int i
  | _ => .non
theorem tupB_ok {G : Kt} {F : Hp} : ∀ {ds : List D} {vs : List Value}, tupB ds vs = true → Vals (ds.map atomV) vs ∧ Reps G F ds (ds.map atomV)
  | ds, vs, h => by
    unfold tupB at h
    split at h
    · exact ⟨.nil, by simp [Reps]⟩
    · simp only [Bool.and_eq_true, decide_eq_true_eq] at h
      obtain ⟨rfl, h⟩ := h
      obtain ⟨h1, h2⟩ := tupB_ok (G := G) (F := F) h
      refine ⟨.cons ⟨_, rfl⟩ h1, ?_⟩
      simp only [List.map_cons, Reps]
      exact ⟨_, _, rfl, by simp only [Rep, atomV], h2⟩
    · simp only [Bool.and_eq_true, decide_eq_true_eq] at h
      obtain ⟨rfl, h⟩ := h
      obtain ⟨h1, h2⟩ := tupB_ok (G := G) (F := F) h
      refine ⟨.cons ⟨_, rfl⟩ h1, ?_⟩
      simp only [List.map_cons, Reps]
      exact ⟨_, _, rfl, by simp only [Rep, atomV], h2⟩
    · cases h
section
variable {X : Cx} {fx : Fx} {W : L2.WX} {pos : Pos}
theorem vb_globT {x : Str} {ds : List D} (hg : Gl X x) (hm : ∃ a o, X.mg x = some (.ref a) ∧ X.K.lookup a = some o ∧ tupIs ds o = true) (hd : (x == ("__debug__" : Str)) = false := by decide) : VB X fx W (.Name x pos) (cB (.tup ds)) := by
  obtain ⟨a, o, h1, h2, h3⟩ := hm
  refine vb_glob hg h1 (v := .ref a) rfl (fun F => ?_) hd
  unfold tupIs at h3
  simp only [Bool.and_eq_true] at h3
  obtain ⟨⟨_, h3⟩, h4⟩ := h3
  have hc : o.cls = .type "tuple" := by
    split at h3
    · rename_i n e
      have : n = "tuple" := by simpa using h3
      rw [e, this]
    · cases h3
  split at h4
  case h_2 => cases h4
  rename_i its n e
  simp only [Bool.and_eq_true, decide_eq_true_eq] at h4
  obtain ⟨r1, r2⟩ := tupB_ok (G := kt X) (F := F) h4.2
  simp only [Rep]
  refine ⟨a, _, rfl, .inr ⟨o, its, n, h2, hc, e, Nat.le_trans h4.1 (by decide), r1⟩, r2⟩
theorem vb_globI {x : Str} {i : Int} (hg : Gl X x) (hm : ∃ t, X.mg x = some (.int i t)) (hd : (x == ("__debug__" : Str)) = false := by decide) : VB X fx W (.Name x pos) (cB (.int i)) := by
  obtain ⟨t, h⟩ := hm
  exact vb_glob hg h (v := .int i) ⟨t, rfl⟩ (fun _ => by simp only [Rep]) hd
theorem vb_globS {x i : Str} (hg : Gl X x) (hm : ∃ t, X.mg x = some (.str i t)) (hd : (x == ("__debug__" : Str)) = false := by decide) : VB X fx W (.Name x pos) (cB (.str i)) := by
  obtain ⟨t, h⟩ := hm
  exact vb_glob hg h (v := .str i) ⟨t, rfl⟩ (fun _ => by simp only [Rep]) hd
/-! ### t.index(x), t a module's tuple of texts -/
def tixD (z : Str) : List Str → Option Nat
  | [] => none
  | y :: ys => if y = z then some 0 else (tixD z ys).map (· + 1)
theorem tixD_some {z : Str} : ∀ {ys : List Str} {n : Nat}, tixD z ys = some n → ys[n]? = some z ∧ ∀ m, m < n → ys[m]? ≠ some z
  | [], n, h => by cases h
  | y :: ys, n, h => by
    unfold tixD at h
    by_cases e : y = z
    · rw [if_pos e] at h
      cases h
      exact ⟨by simp [e], fun m hm => absurd hm (by omega)⟩
    · rw [if_neg e] at h
      cases q : tixD z ys with
      | none => rw [q] at h; cases h
      | some k =>
        rw [q] at h
        have e3 : k + 1 = n := by simpa using h
        subst e3
        obtain ⟨h1, h2⟩ := tixD_some q
        refine ⟨by simpa using h1, fun m hm => ?_⟩
        cases m with
        | zero => simpa using e
        | succ m => simpa using h2 m (by omega)
/-- x.index(e), x a name of the module that stands for the tuple ys -/
def tixB (ys : List Str) (ga : En → R En T) : En → R En T := fun env => bnd (ga env) fun t => match t with
  | .s (.str z) => ofO (tixD z ys) fun n => .ok (.s (.int n))
  | _ => .no
theorem vb_tix {x : Str} {ys : List Str} {np apos cpos : Pos} {e : Expr} {ga : En → R En T} (hg : Gl X x) (hm : ∃ a o, X.mg x = some (.ref a) ∧ X.K.lookup a = some o ∧ tupIs (ys.map D.str) o = true) (ha : VB X fx W e ga)
    (hbase : attributeBase (.Name x np) "index" X.env (eval (.Name x np) X.env) = eval (.Name x np) X.env := by rfl)
    (hfew : ((backTo cpos (starEach [e] X.env)).all (fun x => !x.1) && (backToKw cpos (keywordEach [] X.env)).all (fun x => x.1.isSome)
      && decide (([e] : List Expr).length + ([] : List Keyword).length + (if ([] : List Keyword).isEmpty then 0 else 1) < 30)) = true := by rfl)
    (hline : (apos.endLine == cpos.line) = true := by rfl) (hs : starEach [e] X.env = (false, eval e X.env) :: starEach [] X.env := by rfl) (hplain : (backTo cpos (starEach [] X.env)).any (·.1) = false := by rfl)
    (hd : (x == ("__debug__" : Str)) = false := by decide) : VB X fx W (.Call (.Attribute (.Name x np) "index" apos) [e] [] cpos) (tixB ys ga) := by
  obtain ⟨a, o, h1, h2, h3⟩ := id hm
  have hc : (o.cls = .type "tuple" ∧ o.dict = none) ∧ ∃ its n, o.data = .seq its n ∧ its.size ≤ sizeLine ∧ Vals (ys.map V.str) its.toList := by
    unfold tupIs at h3
    simp only [Bool.and_eq_true] at h3
    obtain ⟨⟨h5, h3⟩, h4⟩ := h3
    refine ⟨⟨?_, by simpa using h5⟩, ?_⟩
    · split at h3
      · rename_i n e
        have : n = "tuple" := by simpa using h3
        rw [e, this]
      · cases h3
    · split at h4
      case h_2 => cases h4
      rename_i its n e
      simp only [Bool.and_eq_true, decide_eq_true_eq] at h4
      obtain ⟨r1, r2⟩ := tupB_ok (G := kt X) (F := fun _ => none) h4.2
      rw [List.map_map] at r1
      exact ⟨its, n, e, Nat.le_trans h4.1 (by decide), r1⟩
  refine PE.imp (pe_bm PySem.F.plainAttrs_tuple PySem.F.slot_tuple_index PySem.F.type_tuple_index mt_tup_index (pe_glob hg h1 (v := .ref a) rfl hd) (pa_cons ha pa_nil hs) hbase hfew hline hs hplain) fun σ H Q h => ?_
  refine ⟨.inr (.inl ⟨rfl, o, h2, hc.1.1, hc.1.2⟩), ?_⟩
  obtain ⟨env, F, fp, S, P⟩ := h
  unfold tixB at P
  refine ⟨env, F, fp, S, ?_⟩
  cases ea : ga env with
  | no => rw [ea] at P; exact P
  | ex c fs e => rw [ea] at P; exact P
  | ok t =>
    rw [ea] at P
    dsimp only [bnd] at P
    split at P
    case h_2 => exact P.elim
    rename_i z
    cases et : tixD z ys with
    | none => rw [et] at P; exact P.elim
    | some n =>
      rw [et] at P
      obtain ⟨q1, q2⟩ := tixD_some et
      intro v F1 H1 g b
      simp only [Bor, Rep] at b
      subst b
      obtain ⟨its, nn, e1, e2, e3⟩ := hc.2
      exact ⟨a, ys, z, n, rfl, rfl, .inr ⟨o, its, nn, h2, hc.1.1, e1, e2, e3⟩, q1, q2, P _ F1 H1 g (by simp only [Bor, Rep])⟩
end
end VS
/-! enumerate of a tuple -/
namespace VS
open PySem
open Sem (wp)
open AutoSeq1 (wpAny_loadPart')
theorem meets_enumT (l : Addr) (items : Array Value) (n : Nat) (dct : Option Addr) (sl : Array (Option Value)) :
    Meets (Builtin.«enumerate.__new__» ⟨[.type "enumerate", .ref l], []⟩) (fun _ R s => s.heap.get? l = some { cls := .type "tuple", dict := dct, data := .seq items n, slots := sl } ∧
      R (.ok (.ret (.ref (s.heap.push { cls := .type "tuple_iterator", data := .fields #[.ref l, .int 0 0] }).objs.size)))
        { s with heap := (s.heap.push { cls := .type "tuple_iterator", data := .fields #[.ref l, .int 0 0] }).push { cls := .type "enumerate", data := .fields #[.none, .bool false, .ref s.heap.objs.size, rawInt 0, .none, .none] } }) :=
  .of_wp fun prog w A R s h => by
    obtain ⟨hp, g, d, tk, os⟩ := s; obtain ⟨hl, h⟩ := h
    have hsub := sub_enumerate
    have hT : Heap.IsTuple (Shared.heap ⟨hp, g, d, tk, os⟩) l items := ⟨_, hl, rfl, n, rfl⟩
    wp_walk using wpAny_loadPart' hl
    refine wpAny_stack_any fun st => wpAny_pure ?_
    split
    · rename_i c _ _ _ _ _
      cases (c == Value.type "enumerate")
      · wp_walk using wpAny_loadPart' hl, wpAny_pyIter_tuple hT
        exact ⟨_, rfl, h⟩
      · wp_walk using wpAny_loadPart' hl, wpAny_pyIter_tuple hT
        exact ⟨_, rfl, h⟩
    · wp_walk using wpAny_loadPart' hl, wpAny_pyIter_tuple hT
      exact ⟨_, rfl, h⟩
theorem call_enumT {prog : Program} {w : World} {A : Around} {E : Value → Shared → Prop} {s : Shared} {l : Addr} {items : Array Value} {Q : Value → Shared → Prop} (hL : s.heap.IsTuple l items)
    (h : ∀ h', IsEnum h' (s.heap.objs.size + 1) s.heap.objs.size 0 .none → h'.IsTupleIter s.heap.objs.size l 0 → h'.objs.size = s.heap.objs.size + 2 → (∀ b o, s.heap.get? b = some o → h'.get? b = some o) → Q (.ref (s.heap.objs.size + 1)) { s with heap := h' }) :
    wpAny (model prog w) A (call (.type "enumerate") [.ref l]) Q E s := by
  obtain ⟨⟨c, dct, dt, sl⟩, hl, hc, n, hd⟩ := hL
  replace hc : c = .type "tuple" := hc
  replace hd : dt = .seq items n := hd
  subst hc hd
  refine callType_new F.called_enumerate (by decide) (F.typeCall_enumerate_1 _) (F.newCall_enumerate_1 _) (fun obj => F.args_object_init_2 obj _) F.entry_enumerate_new (meets_enumT l items n dct sl) ⟨hl, ?_⟩
  have hz : (s.heap.push { cls := .type "tuple_iterator", data := .fields #[.ref l, .int 0 0] }).objs.size = s.heap.objs.size + 1 := Heap.size_push ..
  show _ ∧ _
  rw [hz]
  have he : IsEnum ((s.heap.push { cls := .type "tuple_iterator", data := .fields #[.ref l, .int 0 0] }).push { cls := .type "enumerate", data := .fields #[.none, .bool false, .ref s.heap.objs.size, rawInt 0, .none, .none] }) (s.heap.objs.size + 1) s.heap.objs.size 0 .none := by
    have := Heap.get?_push_size (s.heap.push { cls := .type "tuple_iterator", data := .fields #[.ref l, .int 0 0] }) (o := { cls := .type "enumerate", data := .fields #[.none, .bool false, .ref s.heap.objs.size, rawInt 0, .none, .none] }) rfl
    rw [hz] at this; exact this
  exact ⟨⟨_, he, rfl⟩, h _ he ⟨_, Heap.get?_push_of_some _ (Heap.get?_push_size _ rfl), rfl, rfl⟩ (by rw [Heap.size_push, hz]) fun b o x => Heap.get?_push_of_some _ (Heap.get?_push_of_some _ x)⟩
end VS
namespace VS
open PySem PySem.Spec L2
open PyProof.Rows hiding St
/-- the items of the tuple at a, each in a new pair -/
def Iet (K : PySem.W.Frag) (a : Addr) : It :=
  ⟨fun i H => ∃ (xs : List V) (x : V), SqT K H a xs ∧ xs[i]? = some x, fun i H v H' => ∃ p x, v = .ref p ∧ H p = none ∧ H' = upd H p (.tup [.int (i : Nat), x]) ∧ ∀ xs, SqT K H a xs → xs[i]? = some x, fun i H => ∃ xs : List V, SqT K H a xs ∧ xs.length ≤ i⟩
theorem turn_enumT {P : Program} {w : World} {K : PySem.W.Frag} {elts : List Expr} {kk : Nat} {tpos : Pos} (a e it : Addr) (hae : a ≠ e) (hai : a ≠ it) :
    Turn P w K (.Tuple elts kk tpos) (Iet K a) [e, it] e (fun i h => (∃ old, IsEnum h e it ((i : Nat) : Int) old) ∧ h.IsTupleIter it a i ∧ e ≠ it) where
  mem := by simp
  obj := fun i h st b hb => by
    obtain ⟨⟨old, he⟩, ⟨o, ho, hc, hd⟩, _⟩ := st
    have e' : b = e ∨ b = it := by simpa using hb
    rcases e' with z | z
    · rw [z]; exact ⟨_, he, fun v q => nomatch q⟩
    · rw [z]; exact ⟨o, ho, fun v q => by rw [hd] at q; cases q⟩
  keep := fun i h h' st k => let ⟨⟨old, he⟩, ⟨o, ho, r⟩, hne⟩ := st; ⟨⟨old, k e (by simp) _ he⟩, ⟨o, k it (by simp) o ho, r⟩, hne⟩
  item := by
    intro X hP hw hK hc i pins s σ H E I hf st hg
    subst hP hw hK
    obtain ⟨⟨old, he⟩, hit, hne⟩ := st
    obtain ⟨xs, x, hq, hx⟩ := hg
    obtain ⟨its, rv, p, hz⟩ := I.tuple hq
    obtain ⟨u0, hu0, ru⟩ := rv.get hx
    have hil0 : i < its.length := (List.getElem?_eq_some_iff.mp hu0).1
    have hel : e < s.heap.objs.size := Heap.lt_size he
    have hil : it < s.heap.objs.size := by obtain ⟨_, q, _⟩ := hit; exact Heap.lt_size q
    have pT : s.heap.IsTuple a its.toArray := p
    have hal : a < s.heap.objs.size := by obtain ⟨_, q, _⟩ := pT; exact Heap.lt_size q
    refine wpAny_pyNext_enum_itemD (Draws.tuple (A := X.A.in1) (I.ok.hd hc) it a hai its.toArray) he ⟨hit, pT⟩ (by simpa using hil0) hne (by simp [hne, Ne.symm hae]) fun u h' tk hu ho hit' hT hsz hk => ?_
    have eu : u = u0 := by
      have h1 : its[i]? = some u := by simpa using hu
      rw [hu0] at h1
      exact (Option.some.inj h1).symm
    subst eu
    refine ⟨_, rfl, wpAny_letOwnedTupleGo_enum (s := { s with heap := h', toks := tk + 1 }) ho fun h'' he' sb => ?_⟩
    have hT2 : h''.get? s.heap.objs.size = some { cls := .type "tuple", data := .seq #[.int i tk, u] } := (sb.2 _ (Nat.ne_of_gt hel)).trans hT
    have new : ObjOk X.prog X.w (upd H s.heap.objs.size (.tup [.int (i : Nat), x])) h'' s.heap.objs.size (.tup [.int (i : Nat), x]) :=
      ⟨by show 2 ≤ sizeLine; decide, [.int i tk, u], .cons ⟨_, rfl⟩ (.cons ru .nil), ⟨_, hT2, rfl, _, rfl⟩⟩
    have I1 : Inv X pins σ (upd H s.heap.objs.size (.tup [.int (i : Nat), x])) { s with heap := h'', toks := tk + 1 } :=
      I.turnedNew (ch := [e, it]) (fun b ob hb q => (sb.2 b (fun z => hb (by simp [z]))).trans (hk b ob (fun z => hb (by simp [z])) (fun z => hb (by simp [z])) q)) hf (Nat.le_refl _) new
    refine ⟨.ref s.heap.objs.size, _, I1, rfl, ⟨_, x, rfl, I.hok.fresh (Nat.le_refl _), rfl, fun ys hy => by rw [I.tuple_inj hy hq]; exact hx⟩, ⟨⟨u, ?_⟩, ?_, hne⟩, fun b hb => ?_⟩
    · have e1 : ((i + 1 : Nat) : Int) = (i : Int) + 1 := by omega
      rw [e1]; exact he'
    · obtain ⟨o, ho, r⟩ := hit'.1
      exact ⟨o, (sb.2 it (Ne.symm hne)).trans ho, r⟩
    · have hb' : b < s.heap.objs.size := by
        have e' : b = e ∨ b = it := by simpa using hb
        rcases e' with z | z
        · rw [z]; exact hel
        · rw [z]; exact hil
      rw [upd_ne (Nat.ne_of_lt hb')]
      exact (hf b hb).1
  done := by
    intro X hP hw hK hc i pins s σ H E I hf st hg
    subst hP hw hK
    obtain ⟨⟨old, he⟩, hit, hne⟩ := st
    obtain ⟨xs, hq, hx⟩ := hg
    obtain ⟨its, rv, p, hz⟩ := I.tuple hq
    have hl := rv.length
    obtain ⟨f0, f1, f2, f3, f4, f5⟩ := hf it (by simp)
    have hT : s.TypeIs (.ref e) "enumerate" := ⟨_, he, rfl⟩
    have pT : s.heap.IsTuple a its.toArray := p
    unfold pyNext
    refine wpAny_bind (wpAny_attempt (wpAny_callSpecial?_slot (name := Str.ofString "__next__") hT F.slot_enumerate_next
      (wpAny_call_entry F.slot_enumerate_next hT F.entry_enumerate_next ?_ (F.args_enumerate_next_1 _))))
    show wpAny _ _ (field (.ref e) 2 >>= _) _ _ _
    refine wpAny_bind (wpAny_field he rfl (x := .ref it) rfl ?_)
    refine wpAny_bind (wpAny_nextOf_tuple_end (I.ok.hd hc) hit pT (by simp; omega) fun h' y he' hx' => ?_)
    obtain ⟨o, ho, hcl⟩ := hx'
    refine wpAny_bind (wpAny_isInstance (T := "StopIteration") (b := true) ⟨o, ho, hcl⟩ isSubtype_stop ?_)
    exact wpAny_pure ⟨rfl, I.turned (t' := s.toks) (fun b o hb q => he' b o hb q) f0 f1 f3 f4 f5⟩
  self := fun A i s Q E st h => let ⟨⟨_, he⟩, _⟩ := st; wpAny_pyIter_enum he h
def iEnumT (K : PySem.W.Frag) (ta : TA) : TI := fun σ H R => ta σ H fun vs H1 => ∃ a xs, vs = [.ref a] ∧ SqT K H1 a xs ∧ R (Iet K a) H1
theorem pi_enumT {X : Cx} {e : Expr} {ta : TA} {p pos tpos : Pos} {elts : List Expr} {kk : Nat} (hg : Gl X "enumerate") (hm : X.mg "enumerate" = none) (ha : PA X [e] ta) (hs : starEach [e] X.env = [(false, eval e X.env)] := by rfl) :
    PI X (.Tuple elts kk tpos) (.Call (.Name "enumerate" p) [e] [] pos) (iEnumT X.K ta) := by
  refine ⟨fun pins s σ H R I h => ?_⟩
  refine Call_ (ld_blt I hg hm boot_enumerate (PyProof.Rows.callWith_type1 (thn (ha.run pos pins s σ H _ I h) fun us s1 ⟨vs, H1, I1, r1, a, xs, ex, hq, q⟩ => ?_) hs rfl))
  subst ex
  cases r1 with
  | cons r rr =>
    cases rr
    cases r
    obtain ⟨its, rv, p', hz⟩ := I1.tuple hq
    have pT : s1.heap.IsTuple a its.toArray := p'
    have hal : a < s1.heap.objs.size := by obtain ⟨_, q, _⟩ := pT; exact Heap.lt_size q
    refine call_enumT pT fun h' he hit hsz hk => wpAny_pyIter_enum he ?_
    have I2 : Inv X pins σ H1 { s1 with heap := h' } := I1.kept (t' := s1.toks) hk
    refine ⟨s1.heap.objs.size + 1, [s1.heap.objs.size + 1, s1.heap.objs.size], _, _, H1, rfl, I2, turn_enumT a (s1.heap.objs.size + 1) s1.heap.objs.size (Nat.ne_of_lt (Nat.lt_succ_of_lt hal)) (Nat.ne_of_lt hal), ⟨⟨.none, he⟩, hit, Nat.succ_ne_self _⟩, fun b hb => ?_, q⟩
    have hle : s1.heap.objs.size ≤ b := by
      have e' : b = s1.heap.objs.size + 1 ∨ b = s1.heap.objs.size := by simpa using hb
      rcases e' with z | z
      · rw [z]; exact Nat.le_add_right _ _
      · rw [z]; exact Nat.le_refl _
    exact I1.fpOk hle (I1.hok.fresh hle)
section
variable {X : Cx} {fx : Fx} {W : L2.WX} {pos : Pos}
theorem itok_enumT {G : Kt} {F0 H0 : Hp} {fp0 : List Addr} {a : Addr} {vs : List V} {ds : List D} (h : RT G.K F0 a vs) (r : Reps G F0 ds vs) : ItOk G (Iet G.K a) (enD ds) F0 H0 fp0 := by
  intro F2 H2 fp2 g s i
  have h2 : SqT G.K H2 a vs := ((h.mono g.f).mono s).sq
  refine ⟨fun d hd => ?_, fun hn => ?_⟩
  · unfold enD at hd
    rw [List.getElem?_zipWith] at hd
    cases e2 : ds[i]? with
    | none =>
      rw [e2] at hd
      cases e1 : (List.range ds.length)[i]? with
      | none => rw [e1] at hd; cases hd
      | some _ => rw [e1] at hd; cases hd
    | some d0 =>
      have hlt := (List.getElem?_eq_some_iff.mp e2).1
      rw [e2, List.getElem?_range hlt] at hd
      cases hd
      obtain ⟨v, hv, rv⟩ := r.get e2
      refine ⟨⟨vs, v, h2, hv⟩, fun x H3 y => ?_⟩
      obtain ⟨p, x', rfl, hp, rfl, hx'⟩ := y
      have ex : x' = v := by
        have := hx' vs h2
        rw [hv] at this
        exact (Option.some.inj this).symm
      subst ex
      have gl := Grow.layF (o := .tup [.int (i : Nat), x']) s hp
      refine ⟨_, gl, ?_⟩
      simp only [Rep]
      refine ⟨p, _, rfl, .inl upd_same, ?_⟩
      simp only [Reps, Rep]
      exact ⟨_, _, rfl, rfl, x', [], rfl, Rep.mono (g.f.trans gl.f) _ _ rv, rfl⟩
  · refine ⟨vs, h2, ?_⟩
    rw [r.len]
    simpa [enD] using hn
def enT2 : T → Option (List D)
  | .s (.tup ds) => some (enD ds)
  | t => enT t
def itE2 (f : En → R En (List T × En)) : En → R En (List D × En) := fun env => bnd (f env) fun a => match a.1 with
  | [t] => ofO (enT2 t) fun ds => .ok (ds, a.2)
  | _ => .no
theorem vi_enum2 {e : Expr} {p tpos : Pos} {elts : List Expr} {kk : Nat} {f : En → R En (List T × En)} (hg : Gl X "enumerate") (hm : X.mg "enumerate" = none) (ha : VEs X fx W [e] f) (hs : starEach [e] X.env = [(false, eval e X.env)] := by rfl) :
    VI X fx W (.Tuple elts kk tpos) (.Call (.Name "enumerate" p) [e] [] pos) (itE2 f) :=
  PI.imp (piOr (vi_enumA hg hm ha hs) (pi_enumT hg hm ha hs)) fun σ H R' h => by
    obtain ⟨env, F, fp, S, P⟩ := h
    unfold itE2 at P
    cases ea : f env with
    | no =>
      left
      refine ⟨env, F, fp, S, ?_⟩
      unfold itEn
      rw [ea] at P ⊢
      exact P
    | ex c fs e =>
      left
      refine ⟨env, F, fp, S, ?_⟩
      unfold itEn
      rw [ea] at P ⊢
      exact P
    | ok a =>
      obtain ⟨ts, e⟩ := a
      rw [ea] at P
      dsimp only [bnd] at P
      split at P
      case h_2 => exact P.elim
      rename_i t
      unfold enT2 at P
      split at P
      · rename_i ds
        right
        refine ⟨env, F, fp, S, ?_⟩
        rw [ea]
        intro vs F1 H1 fp1 ft S1 o nd off g1
        simp only [Owns, Own, Rep] at o
        obtain ⟨v, r0, f1, f2, rfl, ⟨⟨a, ws, rfl, hr, rs⟩, rfl⟩, ⟨rfl, rfl⟩, rfl⟩ := o
        exact ⟨a, ws, rfl, (hr.mono S1.sub).sq, P _ F1 H1 fp1 S1 (g1.less fun p hp => List.mem_append_left _ hp) (itok_enumT hr rs)⟩
      · left
        refine ⟨env, F, fp, S, ?_⟩
        unfold itEn
        rw [ea]
        exact P
end
end VS
/-! reckoning with what a def computes: the combinators, one step each, as rewriting rules that never go below a binder -/
namespace VS
open PySem PySem.Spec L2
open PyProof.Rows hiding St

/-! ### names -/
def nmK : Option (Option T) → R En T
  | some (some t) => .ok t
  | _ => .no
@[simp] theorem nmB_ap (i : Nat) (env : En) : nmB i env = nmK env[i]? := rfl
@[simp] theorem nmK_some (t : T) : nmK (some (some t)) = .ok t := rfl
def mvK (i : Nat) (env : En) : Option (Option T) → R En (T × En)
  | some (some t) => .ok (t, env.set i none)
  | _ => .no
@[simp] theorem mvE_ap (i : Nat) (env : En) : mvE i env = mvK i env env[i]? := rfl
@[simp] theorem mvK_some (i : Nat) (env : En) (t : T) : mvK i env (some (some t)) = .ok (t, env.set i none) := rfl
@[simp] theorem cB_ap (d : D) (env : En) : cB d env = .ok (.s d) := rfl
@[simp] theorem frz_zero (t : T) (e : En) : frz 0 (some t :: e) = some (.s (er t)) :: e := rfl
@[simp] theorem frz_zeroN (e : En) : frz 0 (none :: e) = none :: e := rfl
@[simp] theorem frz_succ (i : Nat) (x : Option T) (e : En) : frz (i + 1) (x :: e) = x :: frz i e := by
  unfold frz
  simp only [List.getElem?_cons_succ, List.set_cons_succ]
  rcases e[i]? with _ | _ | t <;> rfl
@[simp] theorem stS_zero (t : T) (x : Option T) (e : En) : stS 0 t (x :: e) = some (some t :: e) := by simp [stS]
@[simp] theorem stS_succ (i : Nat) (t : T) (x : Option T) (e : En) : stS (i + 1) t (x :: e) = (stS i t e).map (x :: ·) := by
  unfold stS
  by_cases h : i < e.length
  · simp [h]
  · simp [h]
/-! ### quiet expressions -/
def b1K (g : T → Option T) : R En T → R En T
  | .ok x => ofO (g x) .ok
  | .ex c fs e => .ex c fs e
  | .no => .no
@[simp] theorem b1_ap (g : T → Option T) (ga : En → R En T) (env : En) : b1 g ga env = b1K g (ga env) := by unfold b1; cases ga env <;> rfl
@[simp] theorem b1K_ok (g : T → Option T) (x : T) : b1K g (.ok x) = ofO (g x) .ok := rfl
def b2K (g : T → T → Option T) : R En T → R En T → R En T
  | .ok x, .ok y => ofO (g x y) .ok
  | .ok _, .ex c fs e => .ex c fs e
  | .ok _, .no => .no
  | .ex c fs e, _ => .ex c fs e
  | .no, _ => .no
@[simp] theorem b2_ap (g : T → T → Option T) (ga gb : En → R En T) (env : En) : b2 g ga gb env = b2K g (ga env) (gb env) := by unfold b2; cases ga env <;> cases gb env <;> rfl
@[simp] theorem b2K_ok (g : T → T → Option T) (x y : T) : b2K g (.ok x) (.ok y) = ofO (g x y) .ok := rfl
def b3M (g' : T → T → Option T) (y : T) (c : R En T) : Option Bool → R En T
  | some true => b1K (g' y) c
  | some false => .ok (.s (.bl false))
  | none => .no
def b3L (g' : T → T → Option T) (y : T) (c : R En T) : Option T → R En T
  | some z => b3M g' y c z.bl?
  | none => .no
def b3K (g g' : T → T → Option T) : R En T → R En T → R En T → R En T
  | .ok x, .ok y, c => b3L g' y c (g x y)
  | .ok _, .ex c fs e, _ => .ex c fs e
  | .ok _, .no, _ => .no
  | .ex c fs e, _, _ => .ex c fs e
  | .no, _, _ => .no
@[simp] theorem b3_ap (g g' : T → T → Option T) (ga gb gc : En → R En T) (env : En) : b3 g g' ga gb gc env = b3K g g' (ga env) (gb env) (gc env) := by
  unfold b3
  cases ga env with
  | no => rfl
  | ex c fs e => rfl
  | ok x =>
    cases gb env with
    | no => rfl
    | ex c fs e => rfl
    | ok y =>
      simp only [bnd, b3K, b3L]
      cases g x y with
      | none => rfl
      | some z =>
        simp only [ofO, b3L]
        cases z.bl? with
        | none => rfl
        | some k =>
          cases k
          · rfl
          · simp only [if_true, b3M]
            cases gc env <;> rfl
@[simp] theorem b3K_ok (g g' : T → T → Option T) (x y : T) (c : R En T) : b3K g g' (.ok x) (.ok y) c = b3L g' y c (g x y) := rfl
@[simp] theorem b3L_some (g' : T → T → Option T) (y : T) (c : R En T) (b : Bool) : b3L g' y c (some (.s (.bl b))) = b3M g' y c (some b) := rfl
@[simp] theorem b3M_true (g' : T → T → Option T) (y : T) (c : R En T) : b3M g' y c (some true) = b1K (g' y) c := rfl
@[simp] theorem b3M_false (g' : T → T → Option T) (y : T) (c : R En T) : b3M g' y c (some false) = .ok (.s (.bl false)) := rfl
def bvK (env : En) : R En T → R En (T × En)
  | .ok t => .ok (t, env)
  | .ex c fs e => .ex c fs e
  | .no => .no
@[simp] theorem bv_ap (ga : En → R En T) (env : En) : bv ga env = bvK env (ga env) := by unfold bv; cases ga env <;> rfl
@[simp] theorem bvK_ok (env : En) (t : T) : bvK env (.ok t) = .ok (t, env) := rfl
def shK (env : En) : R En T → R En (T × En)
  | .ok t => ofO t.sh fun d => .ok (.s d, env)
  | .ex c fs e => .ex c fs e
  | .no => .no
@[simp] theorem sh_ap (ga : En → R En T) (env : En) : sh ga env = shK env (ga env) := by unfold sh; cases ga env <;> rfl
@[simp] theorem shK_ok (env : En) (d : D) : shK env (.ok (.s d)) = .ok (.s d, env) := rfl
def bcK : R En T → R En (List T) → R En (List T)
  | .ok x, .ok y => .ok (x :: y)
  | .ok _, .ex c fs e => .ex c fs e
  | .ok _, .no => .no
  | .ex c fs e, _ => .ex c fs e
  | .no, _ => .no
@[simp] theorem bcons_ap (ga : En → R En T) (gs : En → R En (List T)) (env : En) : bcons ga gs env = bcK (ga env) (gs env) := by unfold bcons; cases ga env <;> cases gs env <;> rfl
@[simp] theorem bcK_ok (x : T) (y : List T) : bcK (.ok x) (.ok y) = .ok (x :: y) := rfl
@[simp] theorem bnil_ap (env : En) : bnil env = .ok [] := rfl
@[simp] theorem enil_ap (env : En) : enil env = .ok ([], env) := rfl
def bNK (g : List T → Option T) : R En (List T) → R En T
  | .ok x => ofO (g x) .ok
  | .ex c fs e => .ex c fs e
  | .no => .no
@[simp] theorem bN_ap (g : List T → Option T) (gs : En → R En (List T)) (env : En) : bN g gs env = bNK g (gs env) := by unfold bN; cases gs env <;> rfl
@[simp] theorem bNK_ok (g : List T → Option T) (x : List T) : bNK g (.ok x) = ofO (g x) .ok := rfl
def bMK (n : String) (g : T → List T → Option T) : R En T → R En (List T) → R En T
  | .ok t, .ok ts => if tyOk n t then ofO (g t ts) .ok else .no
  | .ok t, .ex c fs e => if tyOk n t then .ex c fs e else .no
  | .ok _, .no => .no
  | .ex c fs e, _ => .ex c fs e
  | .no, _ => .no
@[simp] theorem bM_ap (n : String) (g : T → List T → Option T) (ga : En → R En T) (gs : En → R En (List T)) (env : En) : bM n g ga gs env = bMK n g (ga env) (gs env) := by
  unfold bM
  cases ga env with
  | no => rfl
  | ex c fs e => rfl
  | ok t =>
    simp only [bnd]
    by_cases h : tyOk n t = true
    · rw [if_pos h]; cases gs env <;> simp [bMK, h]
    · rw [if_neg h]; cases gs env <;> simp [bMK, h]
@[simp] theorem bMK_ok (n : String) (g : T → List T → Option T) (t : T) (ts : List T) : bMK n g (.ok t) (.ok ts) = if tyOk n t then ofO (g t ts) .ok else .no := rfl
@[simp] theorem tyOk_str (x : Str) : tyOk "str" (.s (.str x)) = true := rfl
@[simp] theorem tyOk_list (t : T) : tyOk "list" t = t.ls.isSome := by
  unfold tyOk
  split <;> first | rfl | contradiction | (rename_i h; simp at h)
def soK : R En T → R En (Option Int)
  | .ok t => ofO t.int? fun i => .ok (some i)
  | .ex c fs e => .ex c fs e
  | .no => .no
@[simp] theorem soO_ap (ga : En → R En T) (env : En) : soO ga env = soK (ga env) := by unfold soO; cases ga env <;> rfl
@[simp] theorem soK_ok (i : Int) : soK (.ok (.s (.int i))) = .ok (some i) := rfl
@[simp] theorem noO_ap (env : En) : noO env = .ok none := rfl
def bSK : R En T → R En (Option Int) → R En (Option Int) → R En T
  | .ok t, .ok l, .ok h => ofO (pSl t l h) .ok
  | .ok _, .ok _, .ex c fs e => .ex c fs e
  | .ok _, .ok _, .no => .no
  | .ok _, .ex c fs e, _ => .ex c fs e
  | .ok _, .no, _ => .no
  | .ex c fs e, _, _ => .ex c fs e
  | .no, _, _ => .no
@[simp] theorem bSl_ap (ga : En → R En T) (gl gh : En → R En (Option Int)) (env : En) : bSl ga gl gh env = bSK (ga env) (gl env) (gh env) := by unfold bSl; cases ga env <;> cases gl env <;> cases gh env <;> rfl
@[simp] theorem bSK_ok (t : T) (l h : Option Int) : bSK (.ok t) (.ok l) (.ok h) = ofO (pSl t l h) .ok := rfl
def caK (n : Nat) (sem : FS) : R En (List T) → R En T
  | .ok ts => if ts.length = n then (match sem ((ers ts).map T.s) with | .ok (t, _) => ofO (atomT t) .ok | _ => .no) else .no
  | .ex c fs e => .ex c fs e
  | .no => .no
def caR (r : R (List (Option T)) (T × List (Option T))) : R En T := match r with | .ok (t, _) => ofO (atomT t) .ok | _ => .no
@[simp] theorem callA_ap (n : Nat) (sem : FS) (gs : En → R En (List T)) (env : En) : callA n sem gs env = caK n sem (gs env) := by unfold callA; cases gs env <;> rfl
@[simp] theorem caK_ok (n : Nat) (sem : FS) (ts : List T) : caK n sem (.ok ts) = if ts.length = n then caR (sem ((ers ts).map T.s)) else .no := rfl
@[simp] theorem caR_ok (t : T) (us : List (Option T)) : caR (.ok (t, us)) = ofO (atomT t) .ok := rfl
@[simp] theorem atomT_non : atomT (.s .non) = some (.s .non) := rfl
@[simp] theorem atomT_bl (b : Bool) : atomT (.s (.bl b)) = some (.s (.bl b)) := rfl
@[simp] theorem atomT_int (b : Int) : atomT (.s (.int b)) = some (.s (.int b)) := rfl
@[simp] theorem atomT_str (b : Str) : atomT (.s (.str b)) = some (.s (.str b)) := rfl
/-! ### held -/
def e1K (g : T → Option T) : R En (T × En) → R En (T × En)
  | .ok (x, e) => ofO (g x) fun t => .ok (t, e)
  | .ex c fs e => .ex c fs e
  | .no => .no
@[simp] theorem e1_ap (g : T → Option T) (fa : En → R En (T × En)) (env : En) : e1 g fa env = e1K g (fa env) := by unfold e1; cases fa env <;> rfl
@[simp] theorem e1K_ok (g : T → Option T) (x : T) (e : En) : e1K g (.ok (x, e)) = ofO (g x) fun t => .ok (t, e) := rfl
def e2L (g : T → T → Option T) (x : T) : R En (T × En) → R En (T × En)
  | .ok (y, e) => ofO (g x y) fun t => .ok (t, e)
  | .ex c fs e => .ex c fs e
  | .no => .no
def e2K (g : T → T → Option T) (fb : En → R En (T × En)) : R En (T × En) → R En (T × En)
  | .ok (x, e) => e2L g x (fb e)
  | .ex c fs e => .ex c fs e
  | .no => .no
@[simp] theorem e2_ap (g : T → T → Option T) (fa fb : En → R En (T × En)) (env : En) : e2 g fa fb env = e2K g fb (fa env) := by
  unfold e2
  cases fa env with
  | no => rfl
  | ex c fs e => rfl
  | ok a => simp only [bnd, e2K]; cases fb a.2 <;> rfl
@[simp] theorem e2K_ok (g : T → T → Option T) (fb : En → R En (T × En)) (x : T) (e : En) : e2K g fb (.ok (x, e)) = e2L g x (fb e) := rfl
@[simp] theorem e2L_ok (g : T → T → Option T) (x y : T) (e : En) : e2L g x (.ok (y, e)) = ofO (g x y) fun t => .ok (t, e) := rfl
def ecL (t : T) : R En (List T × En) → R En (List T × En)
  | .ok (ts, e) => .ok (t :: ts, e)
  | .ex c fs e => .ex c fs e
  | .no => .no
def ecK (fs : En → R En (List T × En)) : R En (T × En) → R En (List T × En)
  | .ok (t, e) => ecL t (fs e)
  | .ex c xs e => .ex c xs e
  | .no => .no
@[simp] theorem econs_ap (fa : En → R En (T × En)) (fs : En → R En (List T × En)) (env : En) : econs fa fs env = ecK fs (fa env) := by
  unfold econs
  cases fa env with
  | no => rfl
  | ex c fs e => rfl
  | ok a => simp only [bnd, ecK]; cases fs a.2 <;> rfl
@[simp] theorem ecK_ok (fs : En → R En (List T × En)) (t : T) (e : En) : ecK fs (.ok (t, e)) = ecL t (fs e) := rfl
@[simp] theorem ecL_ok (t : T) (ts : List T) (e : En) : ecL t (.ok (ts, e)) = .ok (t :: ts, e) := rfl
def eNK (g : List T → Option T) : R En (List T × En) → R En (T × En)
  | .ok (ts, e) => ofO (g ts) fun t => .ok (t, e)
  | .ex c fs e => .ex c fs e
  | .no => .no
@[simp] theorem eN_ap (g : List T → Option T) (fs : En → R En (List T × En)) (env : En) : eN g fs env = eNK g (fs env) := by unfold eN; cases fs env <;> rfl
@[simp] theorem eNK_ok (g : List T → Option T) (ts : List T) (e : En) : eNK g (.ok (ts, e)) = ofO (g ts) fun t => .ok (t, e) := rfl
def eML (g : T → List T → Option T) (t : T) : R En (List T × En) → R En (T × En)
  | .ok (ts, e) => ofO (g t ts) fun u => .ok (u, e)
  | .ex c fs e => .ex c fs e
  | .no => .no
def eMK (n : String) (g : T → List T → Option T) (r : R En (List T × En)) : R En T → R En (T × En)
  | .ok (.s d) => if tyOk n (.s d) then eML g (.s d) r else .no
  | .ok _ => .no
  | .ex c fs e => .ex c fs e
  | .no => .no
@[simp] theorem eM_ap (n : String) (g : T → List T → Option T) (ga : En → R En T) (fs : En → R En (List T × En)) (env : En) : eM n g ga fs env = eMK n g (fs env) (ga env) := by
  unfold eM
  cases ga env with
  | no => rfl
  | ex c fs e => rfl
  | ok t =>
    cases t with
    | s d =>
      simp only [bnd, eMK]
      by_cases h : tyOk n (.s d) = true
      · rw [if_pos h, if_pos h]; cases fs env <;> rfl
      · rw [if_neg h, if_neg h]
    | l _ => rfl
    | dk _ => rfl
    | ob _ _ => rfl
    | p _ => rfl
@[simp] theorem eMK_ok (n : String) (g : T → List T → Option T) (r : R En (List T × En)) (d : D) : eMK n g r (.ok (.s d)) = if tyOk n (.s d) then eML g (.s d) r else .no := rfl
@[simp] theorem eML_ok (g : T → List T → Option T) (t : T) (ts : List T) (e : En) : eML g t (.ok (ts, e)) = ofO (g t ts) fun u => .ok (u, e) := rfl
def fzK : R En (T × En) → R En (T × En)
  | .ok (t, e) => .ok (.s (er t), e)
  | .ex c fs e => .ex c fs e
  | .no => .no
@[simp] theorem fzE_ap (f : En → R En (T × En)) (env : En) : fzE f env = fzK (f env) := by unfold fzE; cases f env <;> rfl
@[simp] theorem fzK_ok (t : T) (e : En) : fzK (.ok (t, e)) = .ok (.s (er t), e) := rfl
def clL (ks : List (Option Nat)) (e : En) : R (List (Option T)) (T × List (Option T)) → R En (T × En)
  | .ok (t, us) => ofO (puts ks us e) fun e => .ok (t, e)
  | .ex c xs us => ofO (puts ks us e) fun e => .ex c xs e
  | .no => .no
def clK (sem : FS) (ks : List (Option Nat)) : R En (List T × En) → R En (T × En)
  | .ok (ts, e) => clL ks e (sem ts)
  | .ex c fs e => .ex c fs e
  | .no => .no
@[simp] theorem callE_ap (sem : FS) (ks : List (Option Nat)) (fs : En → R En (List T × En)) (env : En) : callE sem ks fs env = clK sem ks (fs env) := by
  unfold callE
  cases fs env with
  | no => rfl
  | ex c fs e => rfl
  | ok a => simp only [bnd, clK]; cases sem a.1 <;> rfl
@[simp] theorem clK_ok (sem : FS) (ks : List (Option Nat)) (ts : List T) (e : En) : clK sem ks (.ok (ts, e)) = clL ks e (sem ts) := rfl
@[simp] theorem clL_ok (ks : List (Option Nat)) (e : En) (t : T) (us : List (Option T)) : clL ks e (.ok (t, us)) = ofO (puts ks us e) fun e => .ok (t, e) := rfl
@[simp] theorem clL_ex (ks : List (Option Nat)) (e : En) (c : Str) (xs : List (Str × D)) (us : List (Option T)) : clL ks e (.ex c xs us) = ofO (puts ks us e) fun e => .ex c xs e := rfl
def ixP (y : T) (e : En) : Option (Option T) → R En (T × En)
  | some (some t) => ofO (pIx t y) fun z => .ok (z, e)
  | _ => .no
def ixL (i : Nat) : R En (T × En) → R En (T × En)
  | .ok (y, e) => ixP y e e[i]?
  | .ex c fs e => .ex c fs e
  | .no => .no
def ixM (i : Nat) (r : R En (T × En)) : Option (Option T) → R En (T × En)
  | some (some _) => ixL i r
  | _ => .no
@[simp] theorem ixS_ap (i : Nat) (f : En → R En (T × En)) (env : En) : ixS i f env = ixM i (f env) env[i]? := by
  unfold ixS
  rcases env[i]? with _ | _ | t <;> try rfl
  simp only [ixM]
  cases f env with
  | no => rfl
  | ex c fs e => rfl
  | ok a =>
    simp only [bnd, ixL]
    rcases a.2[i]? with _ | _ | t <;> rfl
@[simp] theorem ixM_ok (i : Nat) (r : R En (T × En)) (t : T) : ixM i r (some (some t)) = ixL i r := rfl
@[simp] theorem ixL_ok (i : Nat) (y : T) (e : En) : ixL i (.ok (y, e)) = ixP y e e[i]? := rfl
@[simp] theorem ixP_ok (y : T) (e : En) (t : T) : ixP y e (some (some t)) = ofO (pIx t y) fun z => .ok (z, e) := rfl
/-! ### tests -/
def ofBK (env : En) : R En T → R En (Bool × En)
  | .ok t => ofO t.bl? fun b => .ok (b, env)
  | .ex c fs e => .ex c fs e
  | .no => .no
@[simp] theorem ofB_ap (ga : En → R En T) (env : En) : ofB ga env = ofBK env (ga env) := by unfold ofB; cases ga env <;> rfl
@[simp] theorem ofBK_ok (env : En) (b : Bool) : ofBK env (.ok (.s (.bl b))) = .ok (b, env) := rfl
def ofVK : R En (T × En) → R En (Bool × En)
  | .ok (t, e) => ofO t.bl? fun b => .ok (b, e)
  | .ex c fs e => .ex c fs e
  | .no => .no
@[simp] theorem ofV_ap (f : En → R En (T × En)) (env : En) : ofV f env = ofVK (f env) := by unfold ofV; cases f env <;> rfl
@[simp] theorem ofVK_ok (e : En) (b : Bool) : ofVK (.ok (.s (.bl b), e)) = .ok (b, e) := rfl
def ofTrK (env : En) : R En T → R En (Bool × En)
  | .ok t => ofO (tru t) fun b => .ok (b, env)
  | .ex c fs e => .ex c fs e
  | .no => .no
@[simp] theorem ofTr_ap (ga : En → R En T) (env : En) : ofTr ga env = ofTrK env (ga env) := by unfold ofTr; cases ga env <;> rfl
@[simp] theorem ofTrK_ok (env : En) (t : T) : ofTrK env (.ok t) = ofO (tru t) fun b => .ok (b, env) := rfl
@[simp] theorem tru_bl (b : Bool) : tru (.s (.bl b)) = some b := rfl
def andK (g : En → R En (Bool × En)) : R En (Bool × En) → R En (Bool × En)
  | .ok (true, e) => g e
  | .ok (false, e) => .ok (false, e)
  | .ex c fs e => .ex c fs e
  | .no => .no
@[simp] theorem andT_ap (f g : En → R En (Bool × En)) (env : En) : andT f g env = andK g (f env) := by
  unfold andT
  rcases f env with ⟨_ | _, e⟩ | _ | _ <;> rfl
@[simp] theorem andK_true (g : En → R En (Bool × En)) (e : En) : andK g (.ok (true, e)) = g e := rfl
@[simp] theorem andK_false (g : En → R En (Bool × En)) (e : En) : andK g (.ok (false, e)) = .ok (false, e) := rfl
def orK (g : En → R En (Bool × En)) : R En (Bool × En) → R En (Bool × En)
  | .ok (true, e) => .ok (true, e)
  | .ok (false, e) => g e
  | .ex c fs e => .ex c fs e
  | .no => .no
@[simp] theorem orT_ap (f g : En → R En (Bool × En)) (env : En) : orT f g env = orK g (f env) := by
  unfold orT
  rcases f env with ⟨_ | _, e⟩ | _ | _ <;> rfl
@[simp] theorem orK_true (g : En → R En (Bool × En)) (e : En) : orK g (.ok (true, e)) = .ok (true, e) := rfl
@[simp] theorem orK_false (g : En → R En (Bool × En)) (e : En) : orK g (.ok (false, e)) = g e := rfl
def notK : R En (Bool × En) → R En (Bool × En)
  | .ok (b, e) => .ok (!b, e)
  | .ex c fs e => .ex c fs e
  | .no => .no
@[simp] theorem notT_ap (f : En → R En (Bool × En)) (env : En) : notT f env = notK (f env) := by unfold notT; cases f env <;> rfl
@[simp] theorem notK_ok (b : Bool) (e : En) : notK (.ok (b, e)) = .ok (!b, e) := rfl
def andVK (g : En → R En (T × En)) : R En (T × En) → R En (T × En)
  | .ok (.s (.bl true), e) => g e
  | .ok (.s (.bl false), e) => .ok (.s (.bl false), e)
  | .ok _ => .no
  | .ex c fs e => .ex c fs e
  | .no => .no
theorem bl?_no {t : T} (h : ∀ b, t ≠ .s (.bl b)) : t.bl? = none := by
  unfold T.bl?
  split
  · exact absurd rfl (h _)
  · rfl
@[simp] theorem andV_ap (f g : En → R En (T × En)) (env : En) : andV f g env = andVK g (f env) := by
  unfold andV
  cases f env with
  | no => rfl
  | ex c fs e => rfl
  | ok a =>
    obtain ⟨t, e⟩ := a
    simp only [bnd]
    by_cases h : ∃ b, t = .s (.bl b)
    · obtain ⟨b, rfl⟩ := h
      cases b <;> rfl
    · rw [bl?_no fun b hb => h ⟨b, hb⟩]
      unfold andVK
      split
      · rename_i hh; cases hh; exact absurd ⟨_, rfl⟩ h
      · rename_i hh; cases hh; exact absurd ⟨_, rfl⟩ h
      · rfl
      · rename_i hh; cases hh
      · rfl
@[simp] theorem andVK_true (g : En → R En (T × En)) (e : En) : andVK g (.ok (.s (.bl true), e)) = g e := rfl
@[simp] theorem andVK_false (g : En → R En (T × En)) (e : En) : andVK g (.ok (.s (.bl false), e)) = .ok (.s (.bl false), e) := rfl
def orVK (g : En → R En (T × En)) : R En (T × En) → R En (T × En)
  | .ok (.s (.bl true), e) => .ok (.s (.bl true), e)
  | .ok (.s (.bl false), e) => g e
  | .ok _ => .no
  | .ex c fs e => .ex c fs e
  | .no => .no
@[simp] theorem orV_ap (f g : En → R En (T × En)) (env : En) : orV f g env = orVK g (f env) := by
  unfold orV
  cases f env with
  | no => rfl
  | ex c fs e => rfl
  | ok a =>
    obtain ⟨t, e⟩ := a
    simp only [bnd]
    by_cases h : ∃ b, t = .s (.bl b)
    · obtain ⟨b, rfl⟩ := h
      cases b <;> rfl
    · rw [bl?_no fun b hb => h ⟨b, hb⟩]
      unfold orVK
      split
      · rename_i hh; cases hh; exact absurd ⟨_, rfl⟩ h
      · rename_i hh; cases hh; exact absurd ⟨_, rfl⟩ h
      · rfl
      · rename_i hh; cases hh
      · rfl
@[simp] theorem orVK_true (g : En → R En (T × En)) (e : En) : orVK g (.ok (.s (.bl true), e)) = .ok (.s (.bl true), e) := rfl
@[simp] theorem orVK_false (g : En → R En (T × En)) (e : En) : orVK g (.ok (.s (.bl false), e)) = g e := rfl
def notVK : R En (T × En) → R En (T × En)
  | .ok (t, e) => ofO t.bl? fun k => .ok (.s (.bl !k), e)
  | .ex c fs e => .ex c fs e
  | .no => .no
@[simp] theorem notV_ap (f : En → R En (T × En)) (env : En) : notV f env = notVK (f env) := by unfold notV; cases f env <;> rfl
@[simp] theorem notVK_ok (b : Bool) (e : En) : notVK (.ok (.s (.bl b), e)) = .ok (.s (.bl !b), e) := rfl
def ifVK (f g : En → R En (T × En)) : R En (Bool × En) → R En (T × En)
  | .ok (true, e) => f e
  | .ok (false, e) => g e
  | .ex c fs e => .ex c fs e
  | .no => .no
@[simp] theorem ifV_ap (c : En → R En (Bool × En)) (f g : En → R En (T × En)) (env : En) : ifV c f g env = ifVK f g (c env) := by
  unfold ifV
  rcases c env with ⟨_ | _, e⟩ | _ | _ <;> rfl
@[simp] theorem ifVK_true (f g : En → R En (T × En)) (e : En) : ifVK f g (.ok (true, e)) = f e := rfl
@[simp] theorem ifVK_false (f g : En → R En (T × En)) (e : En) : ifVK f g (.ok (false, e)) = g e := rfl
/-! ### statements -/
@[simp] theorem skS_ap (env : En) : skS env = .ok (.nx, env) := rfl
@[simp] theorem bkS_ap (env : En) : bkS env = .ok (.bk, env) := rfl
@[simp] theorem ctS_ap (env : En) : ctS env = .ok (.ct, env) := rfl
@[simp] theorem rnS_ap (env : En) : rnS env = .ok (.rt (.s .non), env) := rfl
def sqK (g : En → R En (Fl × En)) : R En (Fl × En) → R En (Fl × En)
  | .ok (.nx, e) => g e
  | .ok (.bk, e) => .ok (.bk, e)
  | .ok (.ct, e) => .ok (.ct, e)
  | .ok (.rt t, e) => .ok (.rt t, e)
  | .ex c fs e => .ex c fs e
  | .no => .no
@[simp] theorem sq_ap (f g : En → R En (Fl × En)) (env : En) : sq f g env = sqK g (f env) := by
  unfold sq
  rcases f env with ⟨_ | _ | _ | t, e⟩ | _ | _ <;> rfl
@[simp] theorem sqK_nx (g : En → R En (Fl × En)) (e : En) : sqK g (.ok (.nx, e)) = g e := rfl
@[simp] theorem sqK_bk (g : En → R En (Fl × En)) (e : En) : sqK g (.ok (.bk, e)) = .ok (.bk, e) := rfl
@[simp] theorem sqK_ct (g : En → R En (Fl × En)) (e : En) : sqK g (.ok (.ct, e)) = .ok (.ct, e) := rfl
@[simp] theorem sqK_rt (g : En → R En (Fl × En)) (t : T) (e : En) : sqK g (.ok (.rt t, e)) = .ok (.rt t, e) := rfl
@[simp] theorem sqK_ex (g : En → R En (Fl × En)) (c : Str) (fs : List (Str × D)) (e : En) : sqK g (.ex c fs e) = .ex c fs e := rfl
def ifK (f g : En → R En (Fl × En)) : R En (Bool × En) → R En (Fl × En)
  | .ok (true, e) => f e
  | .ok (false, e) => g e
  | .ex c fs e => .ex c fs e
  | .no => .no
@[simp] theorem ifS_ap (c : En → R En (Bool × En)) (f g : En → R En (Fl × En)) (env : En) : ifS c f g env = ifK f g (c env) := by
  unfold ifS
  rcases c env with ⟨_ | _, e⟩ | _ | _ <;> rfl
@[simp] theorem ifK_true (f g : En → R En (Fl × En)) (e : En) : ifK f g (.ok (true, e)) = f e := rfl
@[simp] theorem ifK_false (f g : En → R En (Fl × En)) (e : En) : ifK f g (.ok (false, e)) = g e := rfl
def rtK : R En (T × En) → R En (Fl × En)
  | .ok (t, e) => .ok (.rt t, e)
  | .ex c fs e => .ex c fs e
  | .no => .no
@[simp] theorem rtS_ap (f : En → R En (T × En)) (env : En) : rtS f env = rtK (f env) := by unfold rtS; cases f env <;> rfl
@[simp] theorem rtK_ok (t : T) (e : En) : rtK (.ok (t, e)) = .ok (.rt t, e) := rfl
def drK : R En (T × En) → R En (Fl × En)
  | .ok (_, e) => .ok (.nx, e)
  | .ex c fs e => .ex c fs e
  | .no => .no
@[simp] theorem dropS_ap (f : En → R En (T × En)) (env : En) : dropS f env = drK (f env) := by unfold dropS; cases f env <;> rfl
@[simp] theorem drK_ok (t : T) (e : En) : drK (.ok (t, e)) = .ok (.nx, e) := rfl
@[simp] theorem drK_ex (c : Str) (fs : List (Str × D)) (e : En) : drK (.ex c fs e) = .ex c fs e := rfl
def setK (i : Nat) : R En (T × En) → R En (Fl × En)
  | .ok (t, e) => ofO (stS i t e) fun e => .ok (.nx, e)
  | .ex c fs e => .ex c fs e
  | .no => .no
@[simp] theorem setS_ap (i : Nat) (f : En → R En (T × En)) (env : En) : setS i f env = setK i (f env) := by unfold setS; cases f env <;> rfl
@[simp] theorem setK_ok (i : Nat) (t : T) (e : En) : setK i (.ok (t, e)) = ofO (stS i t e) fun e => .ok (.nx, e) := rfl
@[simp] theorem setK_ex (i : Nat) (c : Str) (fs : List (Str × D)) (e : En) : setK i (.ex c fs e) = .ex c fs e := rfl
def augK (i : Nat) (g : T → T → Option T) (d : D) : R En (T × En) → R En (Fl × En)
  | .ok (y, e) => ofO (g (.s d) y) fun t => ofO (stS i t e) fun e => .ok (.nx, e)
  | .ex c fs e => .ex c fs e
  | .no => .no
def augM (i : Nat) (g : T → T → Option T) (r : R En (T × En)) : Option (Option T) → R En (Fl × En)
  | some (some (.s d)) => augK i g d r
  | _ => .no
@[simp] theorem augS_ap (i : Nat) (g : T → T → Option T) (f : En → R En (T × En)) (env : En) : augS i g f env = augM i g (f env) env[i]? := by
  unfold augS
  rcases env[i]? with _ | _ | _ | _ | _ | _ | _ <;> try rfl
  simp only [augM]
  cases f env <;> rfl
@[simp] theorem augM_ok (i : Nat) (g : T → T → Option T) (r : R En (T × En)) (d : D) : augM i g r (some (some (.s d))) = augK i g d r := rfl
@[simp] theorem augK_ok (i : Nat) (g : T → T → Option T) (d : D) (y : T) (e : En) : augK i g d (.ok (y, e)) = ofO (g (.s d) y) fun t => ofO (stS i t e) fun e => .ok (.nx, e) := rfl
def apL (i : Nat) (t : T) (e : En) : Option (Option T) → R En (Fl × En)
  | some (some (.l ts)) => if ts.length < sizeLine then .ok (.nx, e.set i (some (.l (ts ++ [t])))) else .no
  | _ => .no
def apK (i : Nat) : R En (T × En) → R En (Fl × En)
  | .ok (t, e) => apL i t e e[i]?
  | .ex c fs e => .ex c fs e
  | .no => .no
def apM (i : Nat) (r : R En (T × En)) : Option (Option T) → R En (Fl × En)
  | some (some (.l _)) => apK i r
  | _ => .no
@[simp] theorem apS_ap (i : Nat) (f : En → R En (T × En)) (env : En) : apS i f env = apM i (f env) env[i]? := by
  unfold apS
  split
  · rename_i ts e
    rw [e]
    simp only [apM]
    cases f env with
    | no => rfl
    | ex c fs e => rfl
    | ok a =>
      simp only [bnd, apK]
      unfold apL
      split <;> simp_all
  · rename_i h
    unfold apM
    split
    · rename_i d e; exact absurd e (h d)
    · rfl
@[simp] theorem apM_ok (i : Nat) (r : R En (T × En)) (ts : List T) : apM i r (some (some (.l ts))) = apK i r := rfl
@[simp] theorem apK_ok (i : Nat) (t : T) (e : En) : apK i (.ok (t, e)) = apL i t e e[i]? := rfl
@[simp] theorem apL_ok (i : Nat) (t : T) (e : En) (ts : List T) : apL i t e (some (some (.l ts))) = if ts.length < sizeLine then .ok (.nx, e.set i (some (.l (ts ++ [t])))) else .no := rfl
def asK (g : GTg) : R En (T × En) → R En (Fl × En)
  | .ok (t, e) => ofO (g t e) fun e => .ok (.nx, e)
  | .ex c fs e => .ex c fs e
  | .no => .no
@[simp] theorem asgS_ap (g : GTg) (f : En → R En (T × En)) (env : En) : asgS g f env = asK g (f env) := by unfold asgS; cases f env <;> rfl
@[simp] theorem asK_ok (g : GTg) (t : T) (e : En) : asK g (.ok (t, e)) = ofO (g t e) fun e => .ok (.nx, e) := rfl
@[simp] theorem gtup_ok (n : Nat) (g : GTs) (ds : List D) (e : En) : gtup n g (.s (.tup ds)) e = if ds.length = n then g ds e else none := rfl
def gcK (gs : GTs) (ds : List D) : Option En → Option En
  | some e => gs ds e
  | none => none
@[simp] theorem gcons_ap (g : GTg) (gs : GTs) (d : D) (ds : List D) (e : En) : gcons g gs (d :: ds) e = gcK gs ds (g (.s d) e) := by
  unfold gcons
  simp only
  cases g (.s d) e <;> rfl
@[simp] theorem gcK_some (gs : GTs) (ds : List D) (e : En) : gcK gs ds (some e) = gs ds e := rfl
@[simp] theorem gnil_ap (e : En) : gnil [] e = some e := rfl
def foK (g : GTg) (body : En → R En (Fl × En)) : R En (List D × En) → R En (Fl × En)
  | .ok (ds, e) => forL g body ds e
  | .ex c fs e => .ex c fs e
  | .no => .no
@[simp] theorem forS_ap (f : En → R En (List D × En)) (g : GTg) (body : En → R En (Fl × En)) (env : En) : forS f g body env = foK g body (f env) := by unfold forS; cases f env <;> rfl
@[simp] theorem foK_ok (g : GTg) (body : En → R En (Fl × En)) (ds : List D) (e : En) : foK g body (.ok (ds, e)) = forL g body ds e := rfl
@[simp] theorem forL_nil (g : GTg) (body : En → R En (Fl × En)) (e : En) : forL g body [] e = .ok (.nx, e) := rfl
def foM (g : GTg) (body : En → R En (Fl × En)) (ds : List D) : R En (Fl × En) → R En (Fl × En)
  | .ok (.nx, e) => forL g body ds e
  | .ok (.ct, e) => forL g body ds e
  | .ok (.bk, e) => .ok (.nx, e)
  | .ok (.rt t, e) => .ok (.rt t, e)
  | .ex c fs e => .ex c fs e
  | .no => .no
def foN (g : GTg) (body : En → R En (Fl × En)) (ds : List D) : Option En → R En (Fl × En)
  | some e => foM g body ds (body e)
  | none => .no
/-- one turn -/
theorem forL_cons (g : GTg) (body : En → R En (Fl × En)) (d : D) (ds : List D) (e : En) : forL g body (d :: ds) e = foN g body ds (g (.s d) e) := by
  unfold forL
  cases g (.s d) e with
  | none => rfl
  | some e' =>
    simp only [foN]
    rcases body e' with ⟨_ | _ | _ | t, e⟩ | _ | _ <;> rfl
@[simp] theorem foN_some (g : GTg) (body : En → R En (Fl × En)) (ds : List D) (e : En) : foN g body ds (some e) = foM g body ds (body e) := rfl
@[simp] theorem foM_nx (g : GTg) (body : En → R En (Fl × En)) (ds : List D) (e : En) : foM g body ds (.ok (.nx, e)) = forL g body ds e := rfl
@[simp] theorem foM_ct (g : GTg) (body : En → R En (Fl × En)) (ds : List D) (e : En) : foM g body ds (.ok (.ct, e)) = forL g body ds e := rfl
@[simp] theorem foM_bk (g : GTg) (body : En → R En (Fl × En)) (ds : List D) (e : En) : foM g body ds (.ok (.bk, e)) = .ok (.nx, e) := rfl
@[simp] theorem foM_rt (g : GTg) (body : En → R En (Fl × En)) (ds : List D) (t : T) (e : En) : foM g body ds (.ok (.rt t, e)) = .ok (.rt t, e) := rfl
@[simp] theorem foM_ex (g : GTg) (body : En → R En (Fl × En)) (ds : List D) (c : Str) (fs : List (Str × D)) (e : En) : foM g body ds (.ex c fs e) = .ex c fs e := rfl
def itK : R En (T × En) → R En (List D × En)
  | .ok (t, e) => ofO t.its fun ds => .ok (ds, e)
  | .ex c fs e => .ex c fs e
  | .no => .no
@[simp] theorem itS_ap (f : En → R En (T × En)) (env : En) : itS f env = itK (f env) := by unfold itS; cases f env <;> rfl
@[simp] theorem itK_ok (t : T) (e : En) : itK (.ok (t, e)) = ofO t.its fun ds => .ok (ds, e) := rfl
def itRK (g : List T → Option (List D)) : R En (List T × En) → R En (List D × En)
  | .ok (t, e) => ofO (g t) fun ds => .ok (ds, e)
  | .ex c fs e => .ex c fs e
  | .no => .no
@[simp] theorem itR_ap (g : List T → Option (List D)) (f : En → R En (List T × En)) (env : En) : itR g f env = itRK g (f env) := by unfold itR; cases f env <;> rfl
@[simp] theorem itRK_ok (g : List T → Option (List D)) (t : List T) (e : En) : itRK g (.ok (t, e)) = ofO (g t) fun ds => .ok (ds, e) := rfl
def itNK : R En (List T × En) → R En (List D × En)
  | .ok ([t], e) => ofO (enT t) fun ds => .ok (ds, e)
  | .ok _ => .no
  | .ex c fs e => .ex c fs e
  | .no => .no
@[simp] theorem itEn_ap (f : En → R En (List T × En)) (env : En) : itEn f env = itNK (f env) := by
  unfold itEn
  rcases f env with ⟨ts, e⟩ | _ | _
  · match ts with
    | [] => rfl
    | [t] => rfl
    | _ :: _ :: _ => rfl
  · rfl
  · rfl
@[simp] theorem itNK_ok (t : T) (e : En) : itNK (.ok ([t], e)) = ofO (enT t) fun ds => .ok (ds, e) := rfl
def lcR (e : En) (vs : List Nat) : R En (List T × En) → R En (T × En)
  | .ok (ts, e') => .ok (.l ts, backE e e' vs)
  | .ex c fs e => .ex c fs e
  | .no => .no
def lcK (vs : List Nat) (gt : GTg) (test : En → R En (Bool × En)) (elt : En → R En (T × En)) : R En (List D × En) → R En (T × En)
  | .ok (ds, e) => if plainAt e vs then lcR e vs (lcL vs gt test elt ds [] (wipeE e vs)) else .no
  | .ex c fs e => .ex c fs e
  | .no => .no
@[simp] theorem lcE_ap (vs : List Nat) (fi : En → R En (List D × En)) (gt : GTg) (test : En → R En (Bool × En)) (elt : En → R En (T × En)) (env : En) : lcE vs fi gt test elt env = lcK vs gt test elt (fi env) := by
  unfold lcE
  cases fi env with
  | no => rfl
  | ex c fs e => rfl
  | ok a =>
    simp only [bnd, lcK]
    by_cases h : plainAt a.2 vs = true
    · rw [if_pos h, if_pos h]; cases lcL vs gt test elt a.1 [] (wipeE a.2 vs) <;> rfl
    · rw [if_neg h, if_neg h]
@[simp] theorem lcK_ok (vs : List Nat) (gt : GTg) (test : En → R En (Bool × En)) (elt : En → R En (T × En)) (ds : List D) (e : En) : lcK vs gt test elt (.ok (ds, e)) = if plainAt e vs then lcR e vs (lcL vs gt test elt ds [] (wipeE e vs)) else .no := rfl
@[simp] theorem lcR_ok (e : En) (vs : List Nat) (ts : List T) (e' : En) : lcR e vs (.ok (ts, e')) = .ok (.l ts, backE e e' vs) := rfl
def lcP (vs : List Nat) (gt : GTg) (test : En → R En (Bool × En)) (elt : En → R En (T × En)) (ds : List D) (ts : List T) : R En (T × En) → R En (List T × En)
  | .ok (t, e) => if ts.length < sizeLine then lcL vs gt test elt ds (ts ++ [t]) (wipeE e vs) else .no
  | _ => .no
def lcN (vs : List Nat) (gt : GTg) (test : En → R En (Bool × En)) (elt : En → R En (T × En)) (ds : List D) (ts : List T) : R En (Bool × En) → R En (List T × En)
  | .ok (true, e) => lcP vs gt test elt ds ts (elt e)
  | .ok (false, e) => lcL vs gt test elt ds ts (wipeE e vs)
  | _ => .no
def lcM (vs : List Nat) (gt : GTg) (test : En → R En (Bool × En)) (elt : En → R En (T × En)) (ds : List D) (ts : List T) : Option En → R En (List T × En)
  | some e => lcN vs gt test elt ds ts (test e)
  | none => .no
@[simp] theorem lcL_nil (vs : List Nat) (gt : GTg) (test : En → R En (Bool × En)) (elt : En → R En (T × En)) (ts : List T) (e : En) : lcL vs gt test elt [] ts e = .ok (ts, e) := rfl
theorem lcL_cons (vs : List Nat) (gt : GTg) (test : En → R En (Bool × En)) (elt : En → R En (T × En)) (d : D) (ds : List D) (ts : List T) (e : En) : lcL vs gt test elt (d :: ds) ts e = lcM vs gt test elt ds ts (gt (.s d) e) := by
  rw [lcL]
  cases gt (.s d) e with
  | none => rfl
  | some e1 =>
    simp only [lcM]
    rcases test e1 with ⟨_ | _, e2⟩ | _ | _
    · rfl
    · simp only [lcN]
      cases elt e2 <;> rfl
    · rfl
    · rfl
@[simp] theorem lcM_some (vs : List Nat) (gt : GTg) (test : En → R En (Bool × En)) (elt : En → R En (T × En)) (ds : List D) (ts : List T) (e : En) : lcM vs gt test elt ds ts (some e) = lcN vs gt test elt ds ts (test e) := rfl
@[simp] theorem lcN_true (vs : List Nat) (gt : GTg) (test : En → R En (Bool × En)) (elt : En → R En (T × En)) (ds : List D) (ts : List T) (e : En) : lcN vs gt test elt ds ts (.ok (true, e)) = lcP vs gt test elt ds ts (elt e) := rfl
@[simp] theorem lcN_false (vs : List Nat) (gt : GTg) (test : En → R En (Bool × En)) (elt : En → R En (T × En)) (ds : List D) (ts : List T) (e : En) : lcN vs gt test elt ds ts (.ok (false, e)) = lcL vs gt test elt ds ts (wipeE e vs) := rfl
@[simp] theorem lcP_ok (vs : List Nat) (gt : GTg) (test : En → R En (Bool × En)) (elt : En → R En (T × En)) (ds : List D) (ts : List T) (t : T) (e : En) : lcP vs gt test elt ds ts (.ok (t, e)) = if ts.length < sizeLine then lcL vs gt test elt ds (ts ++ [t]) (wipeE e vs) else .no := rfl
@[simp] theorem yesT_ap (e : En) : yesT e = .ok (true, e) := rfl
@[simp] theorem wipeE_nil (e : En) : wipeE e [] = e := rfl
@[simp] theorem wipeE_cons (e : En) (v : Nat) (vs : List Nat) : wipeE e (v :: vs) = (wipeE e vs).set v none := rfl
@[simp] theorem backE_nil (e0 e : En) : backE e0 e [] = e := rfl
@[simp] theorem backE_cons (e0 e : En) (v : Nat) (vs : List Nat) : backE e0 e (v :: vs) = backE e0 (e.set v ((e0[v]?).getD none)) vs := rfl
def plK : Option (Option T) → Bool
  | some none => true
  | some (some (.s _)) => true
  | _ => false
@[simp] theorem plainAt_nil (e : En) : plainAt e [] = true := rfl
@[simp] theorem plainAt_cons (e : En) (v : Nat) (vs : List Nat) : plainAt e (v :: vs) = (plK e[v]? && plainAt e vs) := by
  unfold plainAt
  rw [List.all_cons]
  congr 1
@[simp] theorem plK_none : plK (some none) = true := rfl
@[simp] theorem plK_s (d : D) : plK (some (some (.s d))) = true := rfl
def dpL (i : Nat) (e : En) (t : T) (kvs : List (Key × T)) : Option Key → R En (Fl × En)
  | some key => if kvs.length < sizeLine then ofO (putT kvs key t) fun kvs' => .ok (.nx, e.set i (some (.dk kvs'))) else .no
  | none => .no
def dpN (i : Nat) (e : En) (t : T) (kvs : List (Key × T)) : R En T → R En (Fl × En)
  | .ok k => dpL i e t kvs (kOf k)
  | .ex c fs e => .ex c fs e
  | .no => .no
def dpM (i : Nat) (e : En) (t : T) (r : R En T) : Option (Option T) → R En (Fl × En)
  | some (some (.dk kvs)) => dpN i e t kvs r
  | _ => .no
def dpK (i : Nat) (gk : En → R En T) : R En (T × En) → R En (Fl × En)
  | .ok (t, e) => dpM i e t (gk e) e[i]?
  | .ex c fs e => .ex c fs e
  | .no => .no
@[simp] theorem dpS_ap (i : Nat) (gk : En → R En T) (fv : En → R En (T × En)) (env : En) : dpS i gk fv env = dpK i gk (fv env) := by
  unfold dpS
  cases fv env with
  | no => rfl
  | ex c fs e => rfl
  | ok a =>
    simp only [bnd, dpK]
    rcases a.2[i]? with _ | _ | _ | _ | kvs | _ | _ <;> try rfl
    simp only [dpM]
    cases gk a.2 with
    | no => rfl
    | ex c fs e => rfl
    | ok k =>
      simp only [dpN]
      cases kOf k <;> rfl
@[simp] theorem dpK_ok (i : Nat) (gk : En → R En T) (t : T) (e : En) : dpK i gk (.ok (t, e)) = dpM i e t (gk e) e[i]? := rfl
@[simp] theorem dpM_ok (i : Nat) (e : En) (t : T) (r : R En T) (kvs : List (Key × T)) : dpM i e t r (some (some (.dk kvs))) = dpN i e t kvs r := rfl
@[simp] theorem dpN_ok (i : Nat) (e : En) (t k : T) (kvs : List (Key × T)) : dpN i e t kvs (.ok k) = dpL i e t kvs (kOf k) := rfl
@[simp] theorem dpL_some (i : Nat) (e : En) (t : T) (kvs : List (Key × T)) (key : Key) : dpL i e t kvs (some key) = if kvs.length < sizeLine then ofO (putT kvs key t) fun kvs' => .ok (.nx, e.set i (some (.dk kvs'))) else .no := rfl
@[simp] theorem dnE_ap (env : En) : dnE env = .ok (.dk [], env) := rfl
@[simp] theorem kOf_str (x : Str) : kOf (.s (.str x)) = some (.inr x) := rfl
@[simp] theorem kOf_int (x : Int) : kOf (.s (.int x)) = some (.inl x) := rfl
def siL (i : Nat) (t : T) : R En (T × En) → R En (Fl × En)
  | .ok (k, e) => ofO k.int? fun n => match e[i]? with
    | some (some (.l ts)) => ofO (ixN ts.length n) fun j => .ok (.nx, e.set i (some (.l (ts.set j t))))
    | _ => .no
  | .ex c fs e => .ex c fs e
  | .no => .no
def siN (i : Nat) (t : T) (n : Int) (e : En) : Option (Option T) → R En (Fl × En)
  | some (some (.l ts)) => ofO (ixN ts.length n) fun j => .ok (.nx, e.set i (some (.l (ts.set j t))))
  | _ => .no
def siM (i : Nat) (t : T) (r : R En (T × En)) : Option (Option T) → R En (Fl × En)
  | some (some (.l _)) => siL i t r
  | _ => .no
def siK (i : Nat) (fk : En → R En (T × En)) : R En (T × En) → R En (Fl × En)
  | .ok (t, e) => siM i t (fk e) e[i]?
  | .ex c fs e => .ex c fs e
  | .no => .no
@[simp] theorem siS_ap (i : Nat) (fk fv : En → R En (T × En)) (env : En) : siS i fk fv env = siK i fk (fv env) := by
  unfold siS
  cases fv env with
  | no => rfl
  | ex c fs e => rfl
  | ok a =>
    simp only [bnd, siK]
    rcases a.2[i]? with _ | _ | _ | ts | _ | _ | _ <;> try rfl
    simp only [siM]
    cases fk a.2 <;> rfl
@[simp] theorem siK_ok (i : Nat) (fk : En → R En (T × En)) (t : T) (e : En) : siK i fk (.ok (t, e)) = siM i t (fk e) e[i]? := rfl
@[simp] theorem siM_ok (i : Nat) (t : T) (r : R En (T × En)) (ts : List T) : siM i t r (some (some (.l ts))) = siL i t r := rfl
@[simp] theorem siL_ok (i : Nat) (t : T) (n : Int) (e : En) : siL i t (.ok (.s (.int n), e)) = siN i t n e e[i]? := rfl
@[simp] theorem siN_ok (i : Nat) (t : T) (n : Int) (e : En) (ts : List T) : siN i t n e (some (some (.l ts))) = ofO (ixN ts.length n) fun j => .ok (.nx, e.set i (some (.l (ts.set j t)))) := rfl
def saP (i : Nat) (env : En) (ts : List T) (n : Int) : Option T → R En (Fl × En)
  | some z => ofO (ixN ts.length n) fun j => .ok (.nx, env.set i (some (.l (ts.set j z))))
  | none => .no
def saO (i : Nat) (g : T → T → Option T) (env : En) (ts : List T) (n : Int) (r : R En T) : Option T → R En (Fl × En)
  | some (.s d) => (match r with | .ok y => saP i env ts n (g (.s d) y) | .ex c fs e => .ex c fs e | .no => .no)
  | _ => .no
def saQ (i : Nat) (g : T → T → Option T) (env : En) (ts : List T) (n : Int) (d : D) : R En T → R En (Fl × En)
  | .ok y => saP i env ts n (g (.s d) y)
  | .ex c fs e => .ex c fs e
  | .no => .no
def saN (i : Nat) (g : T → T → Option T) (env : En) (ts : List T) (ry : R En T) : R En T → R En (Fl × En)
  | .ok k => ofO k.int? fun n => saO i g env ts n ry (atI ts n)
  | .ex c fs e => .ex c fs e
  | .no => .no
def saM (i : Nat) (g : T → T → Option T) (env : En) (rk ry : R En T) : Option (Option T) → R En (Fl × En)
  | some (some (.l ts)) => saN i g env ts ry rk
  | _ => .no
@[simp] theorem saS_ap (i : Nat) (g : T → T → Option T) (gk gv : En → R En T) (env : En) : saS i g gk gv env = saM i g env (gk env) (gv env) env[i]? := by
  unfold saS
  rcases env[i]? with _ | _ | _ | ts | _ | _ | _ <;> try rfl
  simp only [saM]
  · cases gk env with
    | no => rfl
    | ex c fs e => rfl
    | ok k =>
      simp only [bnd, saN]
      cases k.int? with
      | none => rfl
      | some n =>
        simp only [ofO]
        cases atI ts n with
        | none => rfl
        | some x =>
          cases x with
          | s d =>
            simp only [saO]
            cases gv env with
            | no => rfl
            | ex c fs e => rfl
            | ok y =>
              simp only
              cases g (.s d) y <;> rfl
          | l _ => rfl
          | dk _ => rfl
          | ob _ _ => rfl
          | p _ => rfl
@[simp] theorem saM_ok (i : Nat) (g : T → T → Option T) (env : En) (rk ry : R En T) (ts : List T) : saM i g env rk ry (some (some (.l ts))) = saN i g env ts ry rk := rfl
@[simp] theorem saN_ok (i : Nat) (g : T → T → Option T) (env : En) (ts : List T) (ry : R En T) (n : Int) : saN i g env ts ry (.ok (.s (.int n))) = saO i g env ts n ry (atI ts n) := rfl
@[simp] theorem saO_ok (i : Nat) (g : T → T → Option T) (env : En) (ts : List T) (n : Int) (y : T) (d : D) : saO i g env ts n (.ok y) (some (.s d)) = saP i env ts n (g (.s d) y) := rfl
@[simp] theorem saP_some (i : Nat) (env : En) (ts : List T) (n : Int) (z : T) : saP i env ts n (some z) = ofO (ixN ts.length n) fun j => .ok (.nx, env.set i (some (.l (ts.set j z)))) := rfl
/-! ### while -/
def whM (c : En → R En (Bool × En)) (body : En → R En (Fl × En)) (n : Nat) : R En (Fl × En) → R En (Fl × En)
  | .ok (.nx, e) => whileL c body n e
  | .ok (.ct, e) => whileL c body n e
  | .ok (.bk, e) => .ok (.nx, e)
  | .ok (.rt t, e) => .ok (.rt t, e)
  | .ex c fs e => .ex c fs e
  | .no => .no
def whN (c : En → R En (Bool × En)) (body : En → R En (Fl × En)) (n : Nat) : R En (Bool × En) → R En (Fl × En)
  | .ok (true, e) => whM c body n (body e)
  | .ok (false, e) => .ok (.nx, e)
  | .ex c fs e => .ex c fs e
  | .no => .no
theorem whileL_succ (c : En → R En (Bool × En)) (body : En → R En (Fl × En)) (n : Nat) (e : En) : whileL c body (n + 1) e = whN c body n (c e) := by
  rw [whileL]
  rcases c e with ⟨_ | _, e1⟩ | _ | _
  · rfl
  · simp only [bnd, whN, if_true]
    rcases body e1 with ⟨_ | _ | _ | t, e⟩ | _ | _ <;> rfl
  · rfl
  · rfl
@[simp] theorem whileS_ap (n : Nat) (c : En → R En (Bool × En)) (body : En → R En (Fl × En)) (e : En) : whileS n c body e = whileL c body n e := rfl
@[simp] theorem whN_true (c : En → R En (Bool × En)) (body : En → R En (Fl × En)) (n : Nat) (e : En) : whN c body n (.ok (true, e)) = whM c body n (body e) := rfl
@[simp] theorem whN_false (c : En → R En (Bool × En)) (body : En → R En (Fl × En)) (n : Nat) (e : En) : whN c body n (.ok (false, e)) = .ok (.nx, e) := rfl
@[simp] theorem whM_nx (c : En → R En (Bool × En)) (body : En → R En (Fl × En)) (n : Nat) (e : En) : whM c body n (.ok (.nx, e)) = whileL c body n e := rfl
@[simp] theorem whM_ct (c : En → R En (Bool × En)) (body : En → R En (Fl × En)) (n : Nat) (e : En) : whM c body n (.ok (.ct, e)) = whileL c body n e := rfl
@[simp] theorem whM_bk (c : En → R En (Bool × En)) (body : En → R En (Fl × En)) (n : Nat) (e : En) : whM c body n (.ok (.bk, e)) = .ok (.nx, e) := rfl
@[simp] theorem whM_rt (c : En → R En (Bool × En)) (body : En → R En (Fl × En)) (n : Nat) (t : T) (e : En) : whM c body n (.ok (.rt t, e)) = .ok (.rt t, e) := rfl
/-! ### a def -/
def fiK (io : List Bool) : R En (Fl × En) → R (List (Option T)) (T × List (Option T))
  | .ok (.rt t, e) => .ok (t, outs io e)
  | .ok (.nx, e) => .ok (.s .non, outs io e)
  | .ok (.bk, _) => .no
  | .ok (.ct, _) => .no
  | .ex c fs e => .ex c fs (outs io e)
  | .no => .no
@[simp] theorem finF_ap (io : List Bool) (n : Nat) (fb : En → R En (Fl × En)) (ts : List T) : finF io n fb ts = fiK io (fb (ts.map some ++ List.replicate (n - ts.length) none)) := by
  unfold finF
  rcases fb (ts.map some ++ List.replicate (n - ts.length) none) with ⟨_ | _ | _ | t, e⟩ | _ | _ <;> rfl
@[simp] theorem fiK_rt (io : List Bool) (t : T) (e : En) : fiK io (.ok (.rt t, e)) = .ok (t, outs io e) := rfl
@[simp] theorem fiK_nx (io : List Bool) (e : En) : fiK io (.ok (.nx, e)) = .ok (.s .non, outs io e) := rfl
@[simp] theorem fiK_ex (io : List Bool) (c : Str) (fs : List (Str × D)) (e : En) : fiK io (.ex c fs e) = .ex c fs (outs io e) := rfl
@[simp] theorem outs_nil (e : En) : outs [] e = [] := rfl
@[simp] theorem outs_true (io : List Bool) (x : Option T) (e : En) : outs (true :: io) (x :: e) = x :: outs io e := rfl
@[simp] theorem outs_false (io : List Bool) (x : Option T) (e : En) : outs (false :: io) (x :: e) = none :: outs io e := rfl
@[simp] theorem puts_nil (us : List (Option T)) (e : En) : puts [] us e = some e := by cases us <;> rfl
@[simp] theorem puts_none (ks : List (Option Nat)) (u : Option T) (us : List (Option T)) (e : En) : puts (none :: ks) (u :: us) e = puts ks us e := rfl
def puK (ks : List (Option Nat)) (us : List (Option T)) (e : En) : Option (Option T) → Option En
  | some none => puts ks us e
  | _ => none
@[simp] theorem puts_some (i : Nat) (ks : List (Option Nat)) (u : Option T) (us : List (Option T)) (e : En) : puts (some i :: ks) (u :: us) e = puK ks us (e.set i u) e[i]? := by
  rw [puts]
  rcases e[i]? with _ | _ | _ <;> rfl
@[simp] theorem puK_ok (ks : List (Option Nat)) (us : List (Option T)) (e : En) : puK ks us e (some none) = puts ks us e := rfl
/-! ### values -/
@[simp] theorem shs_mapS (ds : List D) : shs (ds.map T.s) = some ds := shs_map ds
@[simp] theorem shs_nil : shs [] = some [] := rfl
@[simp] theorem shs_cons (d : D) (ts : List T) : shs (.s d :: ts) = (shs ts).map (d :: ·) := rfl
@[simp] theorem ls_lst (ds : List D) : (T.s (.lst ds)).ls = some ds := rfl
@[simp] theorem ls_l (ts : List T) : (T.l ts).ls = shs ts := rfl
@[simp] theorem its_lst (ds : List D) : (T.s (.lst ds)).its = some ds := rfl
@[simp] theorem its_tup (ds : List D) : (T.s (.tup ds)).its = some ds := rfl
@[simp] theorem its_str (z : Str) : (T.s (.str z)).its = some (z.cps.toList.map fun c => .str ⟨#[c]⟩) := rfl
@[simp] theorem its_l (ts : List T) : (T.l ts).its = shs ts := rfl
@[simp] theorem enT_str (z : Str) : enT (.s (.str z)) = some (enD (z.cps.toList.map fun c => .str ⟨#[c]⟩)) := rfl
@[simp] theorem enT_lst (ds : List D) : enT (.s (.lst ds)) = some (enD ds) := rfl
@[simp] theorem enT_l (ts : List T) : enT (.l ts) = (shs ts).map enD := rfl
@[simp] theorem sh_s (d : D) : (T.s d).sh = some d := rfl
@[simp] theorem er_s (d : D) : er (.s d) = d := by simp only [er]
@[simp] theorem er_l (ts : List T) : er (.l ts) = .lst (ers ts) := by simp only [er]
@[simp] theorem er_p (ts : List T) : er (.p ts) = .tup (ers ts) := by simp only [er]
@[simp] theorem ers_nil : ers [] = [] := by simp only [ers]
@[simp] theorem ers_cons (t : T) (ts : List T) : ers (t :: ts) = er t :: ers ts := by simp only [ers]
@[simp] theorem ers_map : ∀ ds : List D, ers (ds.map T.s) = ds
  | [] => by simp
  | d :: ds => by simp [ers_map ds]
theorem ers_app : ∀ a b : List T, ers (a ++ b) = ers a ++ ers b
  | [], b => by simp
  | t :: a, b => by simp [ers_app a b]
@[simp] theorem pAdd_int (i j : Int) : pAdd (.s (.int i)) (.s (.int j)) = some (.s (.int (i + j))) := rfl
@[simp] theorem pAdd_str (a b : Str) : pAdd (.s (.str a)) (.s (.str b)) = if a.length + b.length ≤ sizeLine then some (.s (.str (a ++ b))) else none := rfl
@[simp] theorem pSub_int (i j : Int) : pSub (.s (.int i)) (.s (.int j)) = some (.s (.int (i - j))) := rfl
@[simp] theorem pMulA_int (i j : Int) : pMulA (.s (.int i)) (.s (.int j)) = if CMul i j then some (.s (.int (i * j))) else none := rfl
@[simp] theorem pFdiv_int (i j : Int) : pFdiv (.s (.int i)) (.s (.int j)) = if CDivN i j then some (.s (.int (i.fdiv j))) else none := rfl
@[simp] theorem pMod_int (i j : Int) : pMod (.s (.int i)) (.s (.int j)) = if j ≠ 0 then some (.s (.int (i.fmod j))) else none := rfl
@[simp] theorem pPow_int (i j : Int) : pPow (.s (.int i)) (.s (.int j)) = if CPow i j then some (.s (.int (i ^ j.toNat))) else none := rfl
@[simp] theorem pCmp_int (c : Int → Int → Bool) (i j : Int) : pCmp c (.s (.int i)) (.s (.int j)) = some (.s (.bl (c i j))) := rfl
@[simp] theorem cLt_ap (i j : Int) : cLt i j = decide (i < j) := rfl
@[simp] theorem cLe_ap (i j : Int) : cLe i j = decide (i ≤ j) := rfl
@[simp] theorem cGt_ap (i j : Int) : cGt i j = decide (i > j) := rfl
@[simp] theorem cGe_ap (i j : Int) : cGe i j = decide (i ≥ j) := rfl
@[simp] theorem pEq_int (i j : Int) : pEq (.s (.int i)) (.s (.int j)) = some (.s (.bl (decide (i = j)))) := rfl
@[simp] theorem pEq_str (i j : Str) : pEq (.s (.str i)) (.s (.str j)) = some (.s (.bl (decide (i = j)))) := rfl
@[simp] theorem pEq_bl (i j : Bool) : pEq (.s (.bl i)) (.s (.bl j)) = some (.s (.bl (decide (i = j)))) := rfl
@[simp] theorem pNe_int (i j : Int) : pNe (.s (.int i)) (.s (.int j)) = some (.s (.bl (!decide (i = j)))) := rfl
@[simp] theorem pNe_str (i j : Str) : pNe (.s (.str i)) (.s (.str j)) = some (.s (.bl (!decide (i = j)))) := rfl
@[simp] theorem pNe_bl (i j : Bool) : pNe (.s (.bl i)) (.s (.bl j)) = some (.s (.bl (!decide (i = j)))) := rfl
@[simp] theorem pLen_lst (ds : List D) : pLen [.s (.lst ds)] = some (.s (.int ds.length)) := rfl
@[simp] theorem pLen_tup (ds : List D) : pLen [.s (.tup ds)] = some (.s (.int ds.length)) := rfl
@[simp] theorem pLen_l (ds : List T) : pLen [.l ds] = some (.s (.int ds.length)) := rfl
@[simp] theorem pLen_str (z : Str) : pLen [.s (.str z)] = if z.length ≤ sizeLine then some (.s (.int z.length)) else none := by
  simp only [pLen, lenT]
  split <;> rfl
@[simp] theorem pAbs_int (i : Int) : pAbs [.s (.int i)] = some (.s (.int (if i < 0 then -i else i))) := rfl
@[simp] theorem pInt_int (i : Int) : pInt [.s (.int i)] = some (.s (.int i)) := rfl
@[simp] theorem pMin_int (i j : Int) : pMin2 [.s (.int i), .s (.int j)] = some (.s (.int (if j < i then j else i))) := rfl
@[simp] theorem pMax_int (i j : Int) : pMax2 [.s (.int i), .s (.int j)] = some (.s (.int (if j > i then j else i))) := rfl
@[simp] theorem pIx_lst (ds : List D) (i : Int) : pIx (.s (.lst ds)) (.s (.int i)) = (atI ds i).map T.s := rfl
@[simp] theorem pIx_tup (ds : List D) (i : Int) : pIx (.s (.tup ds)) (.s (.int i)) = (atI ds i).map T.s := rfl
@[simp] theorem pIx_str (z : Str) (i : Int) : pIx (.s (.str z)) (.s (.int i)) = if z.length ≤ sizeLine then (atI z.cps.toList i).map fun c => .s (.str ⟨#[c]⟩) else none := rfl
@[simp] theorem pIx_l (ts : List T) (i : Int) : pIx (.l ts) (.s (.int i)) = (shs ts).bind fun ds => (atI ds i).map T.s := by
  show (match shs ts with | some ds => (atI ds i).map T.s | none => none) = _
  cases shs ts <;> rfl
@[simp] theorem mkL_ap (ts : List T) : mkL ts = if ts.length ≤ sizeLine then some (.l ts) else none := rfl
@[simp] theorem mkT_ap (ts : List T) : mkT ts = if ts.length ≤ sizeLine then (shs ts).map fun ds => .s (.tup ds) else none := rfl
@[simp] theorem pList_scr (ns : List Int) : pList [.s (.scr ns)] = some (.l ((ns.map D.int).map T.s)) := rfl
@[simp] theorem pList_tup (ds : List D) : pList [.s (.tup ds)] = some (.l (ds.map T.s)) := rfl
@[simp] theorem pList_lst (ds : List D) : pList [.s (.lst ds)] = some (.l (ds.map T.s)) := rfl
@[simp] theorem pList_l (ts : List T) : pList [.l ts] = (shs ts).map fun ds => .l (ds.map T.s) := rfl
@[simp] theorem pStarts_str (a b : Str) : pStarts (.s (.str a)) [.s (.str b)] = some (.s (.bl (Txt.startswith a b))) := rfl
@[simp] theorem pSl_str (z : Str) (lo hi : Option Int) : pSl (.s (.str z)) lo hi = if z.length ≤ sizeLine then some (.s (.str (cutS z lo hi))) else none := rfl
@[simp] theorem pSl_lst (ds : List D) (lo hi : Option Int) : pSl (.s (.lst ds)) lo hi = some (.l ((cutL ds lo hi).map T.s)) := rfl
@[simp] theorem pSl_l (ts : List T) (lo hi : Option Int) : pSl (.l ts) lo hi = (shs ts).map fun ds => .l ((cutL ds lo hi).map T.s) := rfl
theorem rgO1_ap (j : Int) : rgO1 [.s (.int j)] = if -(2 ^ 62) ≤ j ∧ j < 2 ^ 62 then some (rgD 0 j) else none := rfl
theorem rgO2_ap (i j : Int) : rgO2 [.s (.int i), .s (.int j)] = if -(2 ^ 62) ≤ i ∧ i < 2 ^ 62 ∧ -(2 ^ 62) ≤ j ∧ j < 2 ^ 62 then some (rgD i j) else none := rfl
theorem rg1 {j : Int} (h0 : -1000000 ≤ j) (h1 : j ≤ 1000000) : rgO1 [.s (.int j)] = some (rgD 0 j) := by rw [rgO1_ap, if_pos (by constructor <;> omega)]
theorem rg1n {n : Nat} (h1 : n ≤ 1000000) : rgO1 [.s (.int (n : Int))] = some (rgD 0 n) := rg1 (by omega) (by omega)
theorem rg2 {i j : Int} (h0 : -1000000 ≤ i) (h1 : i ≤ 1000000) (h2 : -1000000 ≤ j) (h3 : j ≤ 1000000) : rgO2 [.s (.int i), .s (.int j)] = some (rgD i j) := by rw [rgO2_ap, if_pos (by refine ⟨?_, ?_, ?_, ?_⟩ <;> omega)]
/-- an index that is known to be right -/
theorem atI_nat {α : Type} (xs : List α) (n : Nat) : atI xs (n : Int) = xs[n]? := by
  unfold atI ixN
  rw [if_pos (by omega)]
  by_cases h : n < xs.length
  · rw [if_pos (by omega)]; simp
  · rw [if_neg (by omega), List.getElem?_eq_none (by omega)]; rfl
@[simp] theorem atI_0 {α : Type} (xs : List α) : atI xs 0 = xs[0]? := atI_nat xs 0
@[simp] theorem atI_1 {α : Type} (xs : List α) : atI xs 1 = xs[1]? := atI_nat xs 1
@[simp] theorem atI_2 {α : Type} (xs : List α) : atI xs 2 = xs[2]? := atI_nat xs 2
@[simp] theorem atI_3 {α : Type} (xs : List α) : atI xs 3 = xs[3]? := atI_nat xs 3
theorem ixN_nat (m n : Nat) : ixN m (n : Int) = if n < m then some n else none := by
  unfold ixN
  rw [if_pos (by omega)]
  by_cases h : n < m
  · rw [if_pos (by omega), if_pos h]; simp
  · rw [if_neg (by omega), if_neg h]
@[simp] theorem ixN_0 (m : Nat) : ixN m 0 = if 0 < m then some 0 else none := ixN_nat m 0
@[simp] theorem ixN_1 (m : Nat) : ixN m 1 = if 1 < m then some 1 else none := ixN_nat m 1
@[simp] theorem ixN_2 (m : Nat) : ixN m 2 = if 2 < m then some 2 else none := ixN_nat m 2
@[simp] theorem ixN_3 (m : Nat) : ixN m 3 = if 3 < m then some 3 else none := ixN_nat m 3
theorem few {n : Nat} (h : n ≤ 1000000) : n ≤ sizeLine := Nat.le_trans h (by decide)
theorem few' {n : Nat} (h : n ≤ 1000000) : n < sizeLine := Nat.lt_of_le_of_lt h (by decide)
end VS
namespace VS
open PySem PySem.Spec L2
open PyProof.Rows hiding St

/-! ### texts as lists of signs -/
abbrev S (l : List Nat) : Str := ⟨l.toArray⟩
theorem S_list (x : Str) : S x.cps.toList = x := by cases x; simp [S]
@[simp] theorem S_cps (l : List Nat) : (S l).cps = l.toArray := rfl
@[simp] theorem S_length (l : List Nat) : (S l).length = l.length := by simp [Str.length]
@[simp] theorem S_app (a b : List Nat) : S a ++ S b = S (a ++ b) := by
  show Str.append (S a) (S b) = _
  simp [Str.append]
theorem S_inj {a b : List Nat} (h : S a = S b) : a = b := congrArg (fun x : Str => x.cps.toList) h
@[simp] theorem S_eq {a b : List Nat} : S a = S b ↔ a = b := ⟨S_inj, fun h => by rw [h]⟩
@[simp] theorem S_mk (l : List Nat) : ({ cps := l.toArray } : Str) = S l := rfl
theorem S_starts (a b : List Nat) : Txt.startswith (S a) (S b) = b.isPrefixOf a := by
  unfold Txt.startswith Builtin.Str.subAt
  simp only [S_cps, S_length, Nat.zero_add]
  by_cases h : b.length ≤ a.length
  · rw [decide_eq_true h, Bool.true_and]
    have e : (a.toArray.extract 0 b.length == b.toArray) = (a.take b.length == b) := by
      simp
    rw [e, Bool.eq_iff_iff, beq_iff_eq, List.isPrefixOf_iff_prefix, List.prefix_iff_eq_take]
    exact ⟨fun h => h.symm, fun h => h.symm⟩
  · rw [decide_eq_false h, Bool.false_and]
    symm
    rw [Bool.eq_false_iff]
    intro z
    rw [List.isPrefixOf_iff_prefix] at z
    exact h z.length_le
theorem S_from (z : List Nat) (n : Nat) : cutS (S z) (some (n : Int)) none = S (z.drop n) := by
  unfold cutS
  have e : HT.sIx z.length 0 (some (n : Int)) = min n z.length := HT.sIx_nat _ _ _
  simp only [S_length, S_cps, HT.sIx_none, e]
  congr 2
  by_cases h : n ≤ z.length
  · rw [Nat.min_eq_left h, List.take_of_length_le (by simp)]
  · rw [Nat.min_eq_right (by omega), List.drop_eq_nil_of_le (by simp), List.drop_eq_nil_of_le (by omega)]
    simp
theorem S_upto (z : List Nat) (n : Nat) : cutS (S z) none (some (n : Int)) = S (z.take n) := by
  unfold cutS
  have e : HT.sIx z.length z.length (some (n : Int)) = min n z.length := HT.sIx_nat _ _ _
  simp only [S_length, S_cps, HT.sIx_none, e]
  congr 2
  simp [List.take_eq_take_iff]
theorem join_nil : ∀ ys : List (List Nat), Txt.join (S []) (ys.map S) = S ys.flatten := by
  intro ys
  have e : ∀ ys : List (List Nat), TL.joinL [] ys = ys.flatten := by
    intro ys
    induction ys with
    | nil => rfl
    | cons y ys ih =>
      cases ys with
      | nil => simp [TL.joinL]
      | cons z ys =>
        simp only [TL.joinL, List.flatten_cons] at ih ⊢
        rw [ih]
        simp
  exact (SX.join_S [] ys).trans (by rw [e])
theorem strsO_S (ys : List (List Nat)) : strsO ((ys.map S).map D.str) = some (ys.map S) := by
  induction ys with
  | nil => rfl
  | cons y ys ih => simp only [List.map_cons, strsO, ih, Option.map_some]
theorem ofList_S (s : String) : Str.ofString s = S (s.toList.map Char.toNat) := Str.ofString_eq_toList s
/-- a word's value -/
abbrev sD (w : List Nat) : D := .str (S w)
abbrev sT (w : List Nat) : T := .s (.str (S w))
end VS
namespace VS
open PySem PySem.Spec L2
open PyProof.Rows hiding St
/-! reckoning with instances, errors, given-up lists -/
theorem ofString_inj {a b : String} : Str.ofString a = Str.ofString b ↔ a = b := by
  constructor
  · intro h
    rw [ofList_S, ofList_S, S_eq] at h
    have h2 : a.toList = b.toList := by
      have inj : ∀ {l m : List Char}, l.map Char.toNat = m.map Char.toNat → l = m := by
        intro l
        induction l with
        | nil => intro m h; cases m with
          | nil => rfl
          | cons _ _ => simp at h
        | cons x l ih => intro m h; cases m with
          | nil => simp at h
          | cons y m =>
            simp only [List.map_cons, List.cons.injEq] at h
            rw [Char.toNat_inj.mp h.1, ih h.2]
      exact inj h
    exact String.toList_injective h2
  · rintro rfl
    rfl
@[simp] theorem ofString_eq {a b : String} : (Str.ofString a = Str.ofString b) = (a = b) := propext ofString_inj
@[simp] theorem ofString_beq {a b : String} : (Str.ofString a == Str.ofString b) = decide (a = b) := by
  rw [Bool.eq_iff_iff, beq_iff_eq, decide_eq_true_eq, ofString_inj]
@[simp] theorem pFld_s (c f c' : Str) (fs : List (Str × D)) : pFld c f (.s (.ob c' fs)) = if c' = c then (fs.lookup f).map T.s else none := rfl
@[simp] theorem pFld_o (c f c' : Str) (fs : List (Str × T)) : pFld c f (.ob c' fs) = if c' = c then fs.lookup f else none := rfl
@[simp] theorem er_ob (c : Str) (fs : List (Str × T)) : er (.ob c fs) = .ob c (erF fs) := by simp only [er]
@[simp] theorem erF_nil : erF [] = [] := by simp only [erF]
@[simp] theorem erF_cons (k : Str) (t : T) (ts : List (Str × T)) : erF ((k, t) :: ts) = (k, er t) :: erF ts := by simp only [erF]
@[simp] theorem putFT_nil (f : Str) (t : T) : putFT f t [] = [(f, t)] := rfl
@[simp] theorem putFT_cons (f g : Str) (t x : T) (r : List (Str × T)) : putFT f t ((g, x) :: r) = if g = f then (g, t) :: r else (g, x) :: putFT f t r := rfl
/-! ### made -/
def moM (e : En) : R (List (Option T)) (T × List (Option T)) → R En (T × En)
  | .ok (.s .non, some o :: _) => .ok (o, e)
  | .ex c xs _ => .ex c xs e
  | _ => .no
theorem mkO_eq (c : Str) (n : Nat) (sem : FS) (ts : List T) (e : En) : mkO c n sem (ts, e) = if ts.length + 1 = n then moM e (sem (.ob c [] :: ts)) else .no := by
  unfold mkO moM
  split <;> rfl
def mkK (c : Str) (n : Nat) (sem : FS) : R En (List T × En) → R En (T × En)
  | .ok a => mkO c n sem a
  | .ex c fs e => .ex c fs e
  | .no => .no
@[simp] theorem makeE_ap (c : Str) (n : Nat) (sem : FS) (fs : En → R En (List T × En)) (env : En) : makeE c n sem fs env = mkK c n sem (fs env) := by unfold makeE; cases fs env <;> rfl
@[simp] theorem mkK_ok (c : Str) (n : Nat) (sem : FS) (ts : List T) (e : En) : mkK c n sem (.ok (ts, e)) = if ts.length + 1 = n then moM e (sem (.ob c [] :: ts)) else .no := mkO_eq c n sem ts e
@[simp] theorem mkK_ex (c : Str) (n : Nat) (sem : FS) (c' : Str) (xs : List (Str × D)) (e : En) : mkK c n sem (.ex c' xs e) = .ex c' xs e := rfl
@[simp] theorem moM_ok (e : En) (o : T) (us : List (Option T)) : moM e (.ok (.s .non, some o :: us)) = .ok (o, e) := rfl
@[simp] theorem moM_ex (e : En) (c : Str) (xs : List (Str × D)) (us : List (Option T)) : moM e (.ex c xs us) = .ex c xs e := rfl
def muK (c : Str) (n : Nat) (sem : FS) : R En (T × En) → R En (T × En)
  | .ok (t, e) => ofO (lsT t) fun ds => mkK c n sem (.ok (ds.map T.s, e))
  | .ex c fs e => .ex c fs e
  | .no => .no
@[simp] theorem makeU_ap (c : Str) (n : Nat) (sem : FS) (f : En → R En (T × En)) (env : En) : makeU c n sem f env = muK c n sem (f env) := by unfold makeU; cases f env <;> rfl
@[simp] theorem muK_ok (c : Str) (n : Nat) (sem : FS) (t : T) (e : En) : muK c n sem (.ok (t, e)) = ofO (lsT t) fun ds => mkK c n sem (.ok (ds.map T.s, e)) := rfl
@[simp] theorem lsT_tup (ds : List D) : lsT (.s (.tup ds)) = some ds := rfl
@[simp] theorem lsT_lst (ds : List D) : lsT (.s (.lst ds)) = some ds := rfl
@[simp] theorem lsT_l (ts : List T) : lsT (.l ts) = shs ts := rfl
/-! ### methods -/
def meN (e : En) : R (List (Option T)) (T × List (Option T)) → R En (T × En)
  | .ok (r, _) => .ok (r, e)
  | .ex c xs _ => .ex c xs e
  | .no => .no
def meL (n : Nat) (sem : FS) (o : T) : R En (List T × En) → R En (T × En)
  | .ok (ts, e) => if ts.length + 1 = n then meN e (sem (o :: ts)) else .no
  | .ex c fs e => .ex c fs e
  | .no => .no
def meK (c m : Str) (n : Nat) (sem : FS) (fs : En → R En (List T × En)) : R En (T × En) → R En (T × En)
  | .ok (.s (.ob c' fl), e) => if c' = c ∧ fl.lookup m = none then meL n sem (.s (.ob c' fl)) (fs e) else .no
  | .ok _ => .no
  | .ex c fs e => .ex c fs e
  | .no => .no
@[simp] theorem methE_ap (c m : Str) (n : Nat) (sem : FS) (fo : En → R En (T × En)) (fs : En → R En (List T × En)) (env : En) : methE c m n sem fo fs env = meK c m n sem fs (fo env) := by
  unfold methE
  rcases fo env with ⟨t, e⟩ | _ | _
  · dsimp only [bnd]
    split
    · rename_i c' fl
      simp only [meK]
      by_cases h : c' = c ∧ fl.lookup m = none
      · rw [if_pos h, if_pos h]
        rcases fs e with ⟨ts, e1⟩ | _ | _
        · dsimp only [bnd, meL]
          split
          · cases sem (.s (.ob c' fl) :: ts) <;> rfl
          · rfl
        · rfl
        · rfl
      · rw [if_neg h, if_neg h]
    · rename_i h
      unfold meK
      split
      · rename_i c' fl e' heq
        cases heq
        exact absurd rfl (h c' fl)
      · rfl
      · rename_i heq; cases heq
      · rename_i heq; cases heq
  · rfl
  · rfl
theorem meK_ok (c m : Str) (n : Nat) (sem : FS) (fs : En → R En (List T × En)) (c' : Str) (fl : List (Str × D)) (e : En) : meK c m n sem fs (.ok (.s (.ob c' fl), e)) = if c' = c ∧ fl.lookup m = none then meL n sem (.s (.ob c' fl)) (fs e) else .no := rfl
@[simp] theorem meL_ok (n : Nat) (sem : FS) (o : T) (ts : List T) (e : En) : meL n sem o (.ok (ts, e)) = if ts.length + 1 = n then meN e (sem (o :: ts)) else .no := rfl
@[simp] theorem meN_ok (e : En) (r : T) (us : List (Option T)) : meN e (.ok (r, us)) = .ok (r, e) := rfl
@[simp] theorem meN_ex (e : En) (c : Str) (xs : List (Str × D)) (us : List (Option T)) : meN e (.ex c xs us) = .ex c xs e := rfl
/-! ### a field stored -/
def flM (i : Nat) (c f : Str) (t : T) (e : En) : Option (Option T) → R En (Fl × En)
  | some (some (.ob c' fl)) => if c' = c ∧ fl.length < 1000 then .ok (.nx, e.set i (some (.ob c' (putFT f t fl)))) else .no
  | _ => .no
def flK (i : Nat) (c f : Str) : R En (T × En) → R En (Fl × En)
  | .ok (t, e) => flM i c f t e e[i]?
  | .ex c fs e => .ex c fs e
  | .no => .no
@[simp] theorem flS_ap (i : Nat) (c f : Str) (fe : En → R En (T × En)) (env : En) : flS i c f fe env = flK i c f (fe env) := by
  unfold flS
  rcases fe env with ⟨t, e⟩ | _ | _
  · first
    | rfl
    | (dsimp only [bnd, flK, flM]
       split <;> rename_i h
       · simp only [h]
       · split
         · rename_i c' fl h2; exact absurd h2 (h c' fl)
         · rfl)
  · rfl
  · rfl
@[simp] theorem flK_ok (i : Nat) (c f : Str) (t : T) (e : En) : flK i c f (.ok (t, e)) = flM i c f t e e[i]? := rfl
@[simp] theorem flM_ok (i : Nat) (c f : Str) (t : T) (e : En) (c' : Str) (fl : List (Str × T)) : flM i c f t e (some (some (.ob c' fl))) = if c' = c ∧ fl.length < 1000 then .ok (.nx, e.set i (some (.ob c' (putFT f t fl)))) else .no := rfl
/-! ### a name taken last -/
def elP (i : Nat) (ts : List T) (e : En) : Option (Option T) → R En (List T × En)
  | some (some t) => .ok (t :: ts, e.set i none)
  | _ => .no
def elK (i : Nat) : R En (List T × En) → R En (List T × En)
  | .ok (ts, e) => elP i ts e e[i]?
  | .ex c fs e => .ex c fs e
  | .no => .no
def elM (i : Nat) (r : R En (List T × En)) : Option (Option T) → R En (List T × En)
  | some (some _) => elK i r
  | _ => .no
@[simp] theorem econsL_ap (i : Nat) (fs : En → R En (List T × En)) (env : En) : econsL i fs env = elM i (fs env) env[i]? := by
  unfold econsL
  rcases env[i]? with _ | _ | t
  · rfl
  · rfl
  · simp only [elM]
    rcases fs env with ⟨ts, e⟩ | _ | _
    · dsimp only [bnd, elK, elP] <;> (rcases e[i]? with _ | _ | t <;> rfl)
    · rfl
    · rfl
@[simp] theorem elM_ok (i : Nat) (r : R En (List T × En)) (t : T) : elM i r (some (some t)) = elK i r := rfl
@[simp] theorem elK_ok (i : Nat) (ts : List T) (e : En) : elK i (.ok (ts, e)) = elP i ts e e[i]? := rfl
@[simp] theorem elP_ok (i : Nat) (ts : List T) (e : En) (t : T) : elP i ts e (some (some t)) = .ok (t :: ts, e.set i none) := rfl
/-! ### a list given up -/
@[simp] theorem forOL_nil (g : GTg) (body : En → R En (Fl × En)) (e : En) : forOL g body [] e = .ok (.nx, e) := rfl
def fpM (g : GTg) (body : En → R En (Fl × En)) (ts : List T) : R En (Fl × En) → R En (Fl × En)
  | .ok (.nx, e) => forOL g body ts e
  | .ok (.ct, e) => forOL g body ts e
  | .ok (.bk, e) => .ok (.nx, e)
  | .ok (.rt t, e) => .ok (.rt t, e)
  | .ex c fs e => .ex c fs e
  | .no => .no
def fpN (g : GTg) (body : En → R En (Fl × En)) (ts : List T) : Option En → R En (Fl × En)
  | some e => fpM g body ts (body e)
  | none => .no
theorem forOL_cons (g : GTg) (body : En → R En (Fl × En)) (t : T) (ts : List T) (e : En) : forOL g body (t :: ts) e = fpN g body ts (g t e) := by
  unfold forOL
  cases g t e with
  | none => rfl
  | some e' =>
    simp only [fpN]
    rcases body e' with ⟨_ | _ | _ | t, e⟩ | _ | _ <;> rfl
@[simp] theorem fpN_some (g : GTg) (body : En → R En (Fl × En)) (ts : List T) (e : En) : fpN g body ts (some e) = fpM g body ts (body e) := rfl
@[simp] theorem fpM_nx (g : GTg) (body : En → R En (Fl × En)) (ts : List T) (e : En) : fpM g body ts (.ok (.nx, e)) = forOL g body ts e := rfl
@[simp] theorem fpM_ct (g : GTg) (body : En → R En (Fl × En)) (ts : List T) (e : En) : fpM g body ts (.ok (.ct, e)) = forOL g body ts e := rfl
@[simp] theorem fpM_rt (g : GTg) (body : En → R En (Fl × En)) (ts : List T) (t : T) (e : En) : fpM g body ts (.ok (.rt t, e)) = .ok (.rt t, e) := rfl
def fqM (i : Nat) (g : GTg) (body : En → R En (Fl × En)) (env : En) : Option (Option T) → R En (Fl × En)
  | some (some (.l ts)) => forOL g body ts (env.set i none)
  | _ => .no
@[simp] theorem forOS_ap (i : Nat) (g : GTg) (body : En → R En (Fl × En)) (env : En) : forOS i g body env = fqM i g body env env[i]? := by
  unfold forOS
  rcases env[i]? with _ | _ | _ | _ | _ | _ | _ <;> rfl
@[simp] theorem fqM_ok (i : Nat) (g : GTg) (body : En → R En (Fl × En)) (env : En) (ts : List T) : fqM i g body env (some (some (.l ts))) = forOL g body ts (env.set i none) := rfl
/-! ### a list looked through in place -/
def lqP (i : Nat) (ts : List T) (t : T) (e : En) : Option (Option T) → R En (T × En)
  | some none => .ok (t, e.set i (some (.l ts)))
  | _ => .no
def lqK (i : Nat) (ts : List T) : R En (T × En) → R En (T × En)
  | .ok (t, e) => lqP i ts t e e[i]?
  | .ex c fs e => .ex c fs e
  | .no => .no
def lqM (i : Nat) (vs : List Nat) (gt : GTg) (test : En → R En (Bool × En)) (elt : En → R En (T × En)) (env : En) : Option (Option T) → R En (T × En)
  | some (some (.l ts)) => ofO (shs ts) fun ds => lqK i ts (lcK vs gt test elt (.ok (ds, env.set i none)))
  | _ => .no
@[simp] theorem lcKp_ap (i : Nat) (vs : List Nat) (gt : GTg) (test : En → R En (Bool × En)) (elt : En → R En (T × En)) (env : En) : lcKp i vs gt test elt env = lqM i vs gt test elt env env[i]? := by
  unfold lcKp
  rcases env[i]? with _ | _ | _ | ts | _ | _ | _ <;> try rfl
  simp only [lqM]
  cases shs ts with
  | none => rfl
  | some ds =>
    simp only [ofO_some, lcE_ap]
    rcases lcK vs gt test elt (.ok (ds, env.set i none)) with ⟨t, e⟩ | _ | _
    · dsimp only [bnd, lqK, lqP] <;> (rcases e[i]? with _ | _ | _ <;> rfl)
    · rfl
    · rfl
@[simp] theorem lqM_ok (i : Nat) (vs : List Nat) (gt : GTg) (test : En → R En (Bool × En)) (elt : En → R En (T × En)) (env : En) (ts : List T) : lqM i vs gt test elt env (some (some (.l ts))) = ofO (shs ts) fun ds => lqK i ts (lcK vs gt test elt (.ok (ds, env.set i none))) := rfl
@[simp] theorem lqK_ok (i : Nat) (ts : List T) (t : T) (e : En) : lqK i ts (.ok (t, e)) = lqP i ts t e e[i]? := rfl
@[simp] theorem lqP_ok (i : Nat) (ts : List T) (t : T) (e : En) : lqP i ts t e (some none) = .ok (t, e.set i (some (.l ts))) := rfl
/-! ### raise, try -/
def raK (x : Str) (names : List Str) : R En (List T × En) → R En (Fl × En)
  | .ok (ts, e) => if ts.length = names.length then ofO (shs ts) fun ds => .ex x (names.zip ds).reverse e else .no
  | .ex c fs e => .ex c fs e
  | .no => .no
@[simp] theorem raS_ap (x : Str) (names : List Str) (fs : En → R En (List T × En)) (env : En) : raS x names fs env = raK x names (fs env) := by unfold raS; cases fs env <;> rfl
@[simp] theorem raK_ok (x : Str) (names : List Str) (ts : List T) (e : En) : raK x names (.ok (ts, e)) = if ts.length = names.length then ofO (shs ts) fun ds => .ex x (names.zip ds).reverse e else .no := rfl
def trK (tb : XT) (hs : List Han) : R En (Fl × En) → R En (Fl × En)
  | .ok a => .ok a
  | .ex c fs e => hnS tb hs c fs e
  | .no => .no
@[simp] theorem trS_ap (tb : XT) (b : En → R En (Fl × En)) (hs : List Han) (env : En) : trS tb b hs env = trK tb hs (b env) := by unfold trS; cases b env <;> rfl
@[simp] theorem trK_ok (tb : XT) (hs : List Han) (a : Fl × En) : trK tb hs (.ok a) = .ok a := rfl
@[simp] theorem trK_ex (tb : XT) (hs : List Han) (c : Str) (fs : List (Str × D)) (e : En) : trK tb hs (.ex c fs e) = hnS tb hs c fs e := rfl
theorem hnS_cons (tb : XT) (x : Str) (o : Option Nat) (s : Str → List (Str × D) → En → R En (Fl × En)) (r : List Han) (c : Str) (fs : List (Str × D)) (e : En) : hnS tb ((x, o, s) :: r) c fs e = match subX tb c x with
    | some true => ofO (preH o e) fun e' => endH o (s c fs e')
    | some false => hnS tb r c fs e
    | none => .no := rfl
@[simp] theorem preH_none (e : En) : preH none e = some e := rfl
@[simp] theorem preH_some (i : Nat) (e : En) : preH (some i) e = if i < e.length then some (e.set i none) else none := rfl
@[simp] theorem endH_ok (o : Option Nat) (a : Fl) (e : En) : endH o (.ok (a, e)) = ofO (preH o e) fun e => .ok (a, e) := rfl
@[simp] theorem xfB_ap (tb : XT) (c : Str) (fs : List (Str × D)) (f : Str) (env : En) : xfB tb c fs f env = ofO (fldX tb c fs f) fun d => .ok (.s d) := rfl
@[simp] theorem xiB_ap (tb : XT) (c x : Str) (env : En) : xiB tb c x env = ofO (subX tb c x) fun b => .ok (.s (.bl b)) := rfl
/-! ### calls of which the value is looked at -/
def cbR (env : En) : R (List (Option T)) (T × List (Option T)) → R En T
  | .ok (t, _) => .ok t
  | .ex c xs _ => .ex c xs env
  | .no => .no
def cbK (n : Nat) (sem : FS) (env : En) : R En (List T) → R En T
  | .ok ts => if ts.length = n then ofO (shs ts) (fun _ => cbR env (sem ts)) else .no
  | .ex c fs e => .ex c fs e
  | .no => .no
@[simp] theorem callB_ap (n : Nat) (sem : FS) (gs : En → R En (List T)) (env : En) : callB n sem gs env = cbK n sem env (gs env) := by
  unfold callB
  rcases gs env with ts | _ | _
  · dsimp only [bnd, cbK]
    split
    · cases shs ts <;> dsimp only [ofO]
      cases sem ts <;> rfl
    · rfl
  · rfl
  · rfl
@[simp] theorem cbK_ok (n : Nat) (sem : FS) (env : En) (ts : List T) : cbK n sem env (.ok ts) = if ts.length = n then ofO (shs ts) (fun _ => cbR env (sem ts)) else .no := rfl
@[simp] theorem cbR_ok (env : En) (t : T) (us : List (Option T)) : cbR env (.ok (t, us)) = .ok t := rfl
def txK (ys : List Str) : R En T → R En T
  | .ok (.s (.str z)) => ofO (tixD z ys) fun n => .ok (.s (.int n))
  | .ok _ => .no
  | .ex c fs e => .ex c fs e
  | .no => .no
@[simp] theorem tixB_ap (ys : List Str) (ga : En → R En T) (env : En) : tixB ys ga env = txK ys (ga env) := by
  unfold tixB
  rcases ga env with t | _ | _
  · dsimp only [bnd]
    split
    · rfl
    · rename_i h
      unfold txK
      split
      · rename_i z heq
        cases heq
        exact absurd rfl (h z)
      · rfl
      · rename_i heq; cases heq
      · rename_i heq; cases heq
  · rfl
  · rfl
@[simp] theorem txK_ok (ys : List Str) (z : Str) : txK ys (.ok (.s (.str z))) = ofO (tixD z ys) fun n => .ok (.s (.int n)) := rfl
/-! ### values -/
@[simp] theorem pTuple_tup (ds : List D) : pTuple [.s (.tup ds)] = some (.s (.tup ds)) := rfl
@[simp] theorem pTuple_lst (ds : List D) : pTuple [.s (.lst ds)] = some (.s (.tup ds)) := rfl
@[simp] theorem pTuple_l (ts : List T) : pTuple [.l ts] = (shs ts).map fun ds => .s (.tup ds) := rfl
@[simp] theorem pNeg_int (i : Int) : pNeg (.s (.int i)) = some (.s (.int (-i))) := rfl
@[simp] theorem pIsNot_non : pIsNot (.s .non) (.s .non) = some (.s (.bl false)) := rfl
@[simp] theorem pIsNot_str (x : Str) : pIsNot (.s (.str x)) (.s .non) = some (.s (.bl true)) := rfl
@[simp] theorem pIsNot_int (x : Int) : pIsNot (.s (.int x)) (.s .non) = some (.s (.bl true)) := rfl
@[simp] theorem pIs_non : pIs (.s .non) (.s .non) = some (.s (.bl true)) := rfl
@[simp] theorem pIs_str (x : Str) : pIs (.s (.str x)) (.s .non) = some (.s (.bl false)) := rfl
@[simp] theorem pIs_int (x : Int) : pIs (.s (.int x)) (.s .non) = some (.s (.bl false)) := rfl
@[simp] theorem pSl_tup (ds : List D) (lo hi : Option Int) : pSl (.s (.tup ds)) lo hi = some (.s (.tup (cutL ds lo hi))) := rfl
@[simp] theorem pAdd_tup (a b : List D) : pAdd (.s (.tup a)) (.s (.tup b)) = if a.length + b.length ≤ sizeLine then some (.s (.tup (a ++ b))) else none := rfl
@[simp] theorem atI_4 {α : Type} (xs : List α) : atI xs 4 = xs[4]? := atI_nat xs 4
@[simp] theorem atI_5 {α : Type} (xs : List α) : atI xs 5 = xs[5]? := atI_nat xs 5
@[simp] theorem atI_6 {α : Type} (xs : List α) : atI xs 6 = xs[6]? := atI_nat xs 6
@[simp] theorem atI_7 {α : Type} (xs : List α) : atI xs 7 = xs[7]? := atI_nat xs 7
def itE2K : R En (List T × En) → R En (List D × En)
  | .ok ([t], e) => ofO (enT2 t) fun ds => .ok (ds, e)
  | .ok _ => .no
  | .ex c fs e => .ex c fs e
  | .no => .no
@[simp] theorem itE2_ap (f : En → R En (List T × En)) (env : En) : itE2 f env = itE2K (f env) := by
  unfold itE2
  rcases f env with ⟨ts, e⟩ | _ | _
  · match ts with
    | [] => rfl
    | [t] => rfl
    | _ :: _ :: _ => rfl
  · rfl
  · rfl
@[simp] theorem itE2K_ok (t : T) (e : En) : itE2K (.ok ([t], e)) = ofO (enT2 t) fun ds => .ok (ds, e) := rfl
@[simp] theorem enT2_tup (ds : List D) : enT2 (.s (.tup ds)) = some (enD ds) := rfl
@[simp] theorem enT2_lst (ds : List D) : enT2 (.s (.lst ds)) = some (enD ds) := rfl
@[simp] theorem enT2_str (z : Str) : enT2 (.s (.str z)) = some (enD (z.cps.toList.map fun c => .str ⟨#[c]⟩)) := rfl
@[simp] theorem enT2_l (ts : List T) : enT2 (.l ts) = (shs ts).map enD := rfl
@[simp] theorem lk_nil {α : Type} (f : Str) : List.lookup f ([] : List (Str × α)) = none := rfl
@[simp] theorem lk_cons {α : Type} (f g : String) (x : α) (r : List (Str × α)) : List.lookup (Str.ofString f) ((Str.ofString g, x) :: r) = if f = g then some x else List.lookup (Str.ofString f) r := by
  rw [List.lookup_cons, ofString_beq]
  by_cases h : f = g
  · rw [if_pos h, decide_eq_true h]
  · rw [if_neg h, decide_eq_false h]
end VS
namespace VS
open PySem PySem.Spec L2
open PyProof.Rows hiding St
def topS (i : Nat) : Stmt := PySem.Challenge.pw_lightstold_k75_spares_options_and_picked.main.body.getD i (.Pass ⟨0, 0, 0, 0⟩)
abbrev s_is_word : Stmt := topS 16
abbrev s_quarter : Stmt := topS 18
abbrev s_cross : Stmt := topS 19
abbrev s_same_ray : Stmt := topS 20
abbrev s_comes_before : Stmt := topS 21
abbrev s_lies_from : Stmt := topS 22
abbrev s_direction_of : Stmt := topS 27
abbrev s_is_sector_alone : Stmt := topS 28
abbrev s_follows : Stmt := topS 29
abbrev s_check_sectors : Stmt := topS 30
abbrev s_is_name : Stmt := topS 35
abbrev s_fits_kind : Stmt := topS 36
abbrev s_sectors_fit : Stmt := topS 37
abbrev s_most_height : Stmt := topS 38
abbrev s_first_fault : Stmt := topS 39
abbrev s_check_spares : Stmt := topS 44
abbrev s_options : Stmt := topS 45
abbrev s_picked_coast : Stmt := topS 46
abbrev s_is_row : Stmt := topS 50
abbrev s__law_feed : Stmt := topS 53
abbrev s__law_draw : Stmt := topS 54
abbrev s__law_is_whole : Stmt := topS 55
abbrev s__law_word : Stmt := topS 56
abbrev s__law_rows : Stmt := topS 57
abbrev s__law_sectors : Stmt := topS 58
abbrev s__law_signal : Stmt := topS 59
abbrev s__law_names : Stmt := topS 60
abbrev s__law_coast : Stmt := topS 61
abbrev s__law_fits : Stmt := topS 62
abbrev s__law_due : Stmt := topS 63
abbrev s__law_refused : Stmt := topS 64
abbrev s__law_rhythm : Stmt := topS 65
abbrev s__law_spares : Stmt := topS 66
abbrev s__law_rows_of : Stmt := topS 67
abbrev s__law_plain : Stmt := topS 68
abbrev s__law_asks : Stmt := topS 69
abbrev s_law : Stmt := topS 70
abbrev s_Coast___init__ : Stmt := inClass (topS 12) 0
abbrev s_Signal___init__ : Stmt := inClass (topS 40) 0
abbrev s_Signal_row : Stmt := inClass (topS 40) 1
abbrev s_Signal_changed : Stmt := inClass (topS 40) 2
abbrev s_Chart___init__ : Stmt := inClass (topS 51) 0
abbrev s_Chart_is_on : Stmt := inClass (topS 51) 1
abbrev s_BadChart___init__ : Stmt := inClass (topS 6) 0
theorem sc_BadChart___init__ : FnScope ["self", "at"] ["self", "at"] (defScope s_BadChart___init__) := ⟨rfl, rfl, rfl, by decide +kernel, rfl, by decide +kernel, by decide +kernel⟩
abbrev s_BadCoast___init__ : Stmt := inClass (topS 7) 0
theorem sc_BadCoast___init__ : FnScope ["self", "at"] ["self", "at"] (defScope s_BadCoast___init__) := ⟨rfl, rfl, rfl, by decide +kernel, rfl, by decide +kernel, by decide +kernel⟩
abbrev s_BadDirection___init__ : Stmt := inClass (topS 3) 0
theorem sc_BadDirection___init__ : FnScope ["self", "dx", "dy"] ["self", "dx", "dy"] (defScope s_BadDirection___init__) := ⟨rfl, rfl, rfl, by decide +kernel, rfl, by decide +kernel, by decide +kernel⟩
abbrev s_BadSectors___init__ : Stmt := inClass (topS 4) 0
theorem sc_BadSectors___init__ : FnScope ["self", "at"] ["self", "at"] (defScope s_BadSectors___init__) := ⟨rfl, rfl, rfl, by decide +kernel, rfl, by decide +kernel, by decide +kernel⟩
abbrev s_BadSignal___init__ : Stmt := inClass (topS 5) 0
theorem sc_BadSignal___init__ : FnScope ["self", "field"] ["self", "field"] (defScope s_BadSignal___init__) := ⟨rfl, rfl, rfl, by decide +kernel, rfl, by decide +kernel, by decide +kernel⟩
abbrev s_BadSpare___init__ : Stmt := inClass (topS 9) 0
theorem sc_BadSpare___init__ : FnScope ["self", "at"] ["self", "at"] (defScope s_BadSpare___init__) := ⟨rfl, rfl, rfl, by decide +kernel, rfl, by decide +kernel, by decide +kernel⟩
abbrev n_is_word : List Str := ["text", "letter"]
theorem sc_is_word : FnScope n_is_word ["text"] (defScope s_is_word) := ⟨rfl, rfl, rfl, by decide +kernel, rfl, by decide +kernel, by decide +kernel⟩
abbrev n_quarter : List Str := ["dx", "dy"]
theorem sc_quarter : FnScope n_quarter ["dx", "dy"] (defScope s_quarter) := ⟨rfl, rfl, rfl, by decide +kernel, rfl, by decide +kernel, by decide +kernel⟩
abbrev n_cross : List Str := ["u", "v"]
theorem sc_cross : FnScope n_cross ["u", "v"] (defScope s_cross) := ⟨rfl, rfl, rfl, by decide +kernel, rfl, by decide +kernel, by decide +kernel⟩
abbrev n_same_ray : List Str := ["u", "v"]
theorem sc_same_ray : FnScope n_same_ray ["u", "v"] (defScope s_same_ray) := ⟨rfl, rfl, rfl, by decide +kernel, rfl, by decide +kernel, by decide +kernel⟩
abbrev n_comes_before : List Str := ["u", "v", "first", "second"]
theorem sc_comes_before : FnScope n_comes_before ["u", "v"] (defScope s_comes_before) := ⟨rfl, rfl, rfl, by decide +kernel, rfl, by decide +kernel, by decide +kernel⟩
abbrev n_lies_from : List Str := ["u", "v", "w"]
theorem sc_lies_from : FnScope n_lies_from ["u", "v", "w"] (defScope s_lies_from) := ⟨rfl, rfl, rfl, by decide +kernel, rfl, by decide +kernel, by decide +kernel⟩
abbrev n_direction_of : List Str := ["sector"]
theorem sc_direction_of : FnScope n_direction_of ["sector"] (defScope s_direction_of) := ⟨rfl, rfl, rfl, by decide +kernel, rfl, by decide +kernel, by decide +kernel⟩
abbrev n_is_sector_alone : List Str := ["sector", "dx", "dy", "glass"]
theorem sc_is_sector_alone : FnScope n_is_sector_alone ["sector"] (defScope s_is_sector_alone) := ⟨rfl, rfl, rfl, by decide +kernel, rfl, by decide +kernel, by decide +kernel⟩
abbrev n_follows : List Str := ["sectors", "at", "own", "begin", "before"]
theorem sc_follows : FnScope n_follows ["sectors", "at"] (defScope s_follows) := ⟨rfl, rfl, rfl, by decide +kernel, rfl, by decide +kernel, by decide +kernel⟩
abbrev n_check_sectors : List Str := ["sectors", "at", "sector"]
theorem sc_check_sectors : FnScope n_check_sectors ["sectors"] (defScope s_check_sectors) := ⟨rfl, rfl, rfl, by decide +kernel, rfl, by decide +kernel, by decide +kernel⟩
abbrev n_is_name : List Str := ["text", "letter"]
theorem sc_is_name : FnScope n_is_name ["text"] (defScope s_is_name) := ⟨rfl, rfl, rfl, by decide +kernel, rfl, by decide +kernel, by decide +kernel⟩
abbrev n_fits_kind : List Str := ["rhythm", "kind", "allowed", "letter"]
theorem sc_fits_kind : FnScope n_fits_kind ["rhythm", "kind"] (defScope s_fits_kind) := ⟨rfl, rfl, rfl, by decide +kernel, rfl, by decide +kernel, by decide +kernel⟩
abbrev n_sectors_fit : List Str := ["sectors", "kind"]
theorem sc_sectors_fit : FnScope n_sectors_fit ["sectors", "kind"] (defScope s_sectors_fit) := ⟨rfl, rfl, rfl, by decide +kernel, rfl, by decide +kernel, by decide +kernel⟩
abbrev n_most_height : List Str := ["kind"]
theorem sc_most_height : FnScope n_most_height ["kind"] (defScope s_most_height) := ⟨rfl, rfl, rfl, by decide +kernel, rfl, by decide +kernel, by decide +kernel⟩
abbrev n_first_fault : List Str := ["row", "name", "kind", "x", "y", "rhythm", "strength", "height", "sectors"]
theorem sc_first_fault : FnScope n_first_fault ["row"] (defScope s_first_fault) := ⟨rfl, rfl, rfl, by decide +kernel, rfl, by decide +kernel, by decide +kernel⟩
abbrev n_check_spares : List Str := ["spares", "at", "rhythm", "price"]
theorem sc_check_spares : FnScope n_check_spares ["spares"] (defScope s_check_spares) := ⟨rfl, rfl, rfl, by decide +kernel, rfl, by decide +kernel, by decide +kernel⟩
abbrev n_options : List Str := ["coast", "spares", "rows", "signal", "row", "rhythm", "price"]
theorem sc_options : FnScope n_options ["coast", "spares"] (defScope s_options) := ⟨rfl, rfl, rfl, by decide +kernel, rfl, by decide +kernel, by decide +kernel⟩
abbrev n_picked_coast : List Str := ["coast", "spares", "picks", "rows", "signals", "at", "signal"]
theorem sc_picked_coast : FnScope n_picked_coast ["coast", "spares", "picks"] (defScope s_picked_coast) := ⟨rfl, rfl, rfl, by decide +kernel, rfl, by decide +kernel, by decide +kernel⟩
abbrev n_is_row : List Str := ["row", "wide", "character"]
theorem sc_is_row : FnScope n_is_row ["row", "wide"] (defScope s_is_row) := ⟨rfl, rfl, rfl, by decide +kernel, rfl, by decide +kernel, by decide +kernel⟩
abbrev n__law_feed : List Str := ["script"]
theorem sc__law_feed : FnScope n__law_feed ["script"] (defScope s__law_feed) := ⟨rfl, rfl, rfl, by decide +kernel, rfl, by decide +kernel, by decide +kernel⟩
abbrev n__law_draw : List Str := ["feed", "many", "cell", "told", "mixed"]
theorem sc__law_draw : FnScope n__law_draw ["feed", "many"] (defScope s__law_draw) := ⟨rfl, rfl, rfl, by decide +kernel, rfl, by decide +kernel, by decide +kernel⟩
abbrev n__law_is_whole : List Str := ["x"]
theorem sc__law_is_whole : FnScope n__law_is_whole ["x"] (defScope s__law_is_whole) := ⟨rfl, rfl, rfl, by decide +kernel, rfl, by decide +kernel, by decide +kernel⟩
abbrev n__law_word : List Str := ["feed", "letters", "longest", "size", "word", "k"]
theorem sc__law_word : FnScope n__law_word ["feed", "letters", "longest"] (defScope s__law_word) := ⟨rfl, rfl, rfl, by decide +kernel, rfl, by decide +kernel, by decide +kernel⟩
abbrev n__law_rows : List Str := ["feed", "most", "wide", "high", "rows", "y", "x"]
theorem sc__law_rows : FnScope n__law_rows ["feed", "most"] (defScope s__law_rows) := ⟨rfl, rfl, rfl, by decide +kernel, rfl, by decide +kernel, by decide +kernel⟩
abbrev n__law_sectors : List Str := ["feed", "shape", "told", "rays", "at", "far", "k"]
theorem sc__law_sectors : FnScope n__law_sectors ["feed"] (defScope s__law_sectors) := ⟨rfl, rfl, rfl, by decide +kernel, rfl, by decide +kernel, by decide +kernel⟩
abbrev n__law_signal : List Str := ["feed", "name", "rows", "words", "x", "y", "word", "horn", "strength", "height", "letter"]
theorem sc__law_signal : FnScope n__law_signal ["feed", "name", "rows", "words"] (defScope s__law_signal) := ⟨rfl, rfl, rfl, by decide +kernel, rfl, by decide +kernel, by decide +kernel⟩
abbrev n__law_names : List Str := ["feed", "many", "base", "at", "turn", "k"]
theorem sc__law_names : FnScope n__law_names ["feed", "many"] (defScope s__law_names) := ⟨rfl, rfl, rfl, by decide +kernel, rfl, by decide +kernel, by decide +kernel⟩
abbrev n__law_coast : List Str := ["rows", "signals", "found", "row"]
theorem sc__law_coast : FnScope n__law_coast ["rows", "signals"] (defScope s__law_coast) := ⟨rfl, rfl, rfl, by decide +kernel, rfl, by decide +kernel, by decide +kernel⟩
abbrev n__law_fits : List Str := ["rhythm", "kind", "letters", "letter"]
theorem sc__law_fits : FnScope n__law_fits ["rhythm", "kind"] (defScope s__law_fits) := ⟨rfl, rfl, rfl, by decide +kernel, rfl, by decide +kernel, by decide +kernel⟩
abbrev n__law_due : List Str := ["spares", "k", "rhythm", "price"]
theorem sc__law_due : FnScope n__law_due ["spares"] (defScope s__law_due) := ⟨rfl, rfl, rfl, by decide +kernel, rfl, by decide +kernel, by decide +kernel⟩
abbrev n__law_refused : List Str := ["spares", "told", "e"]
theorem sc__law_refused : FnScope n__law_refused ["spares"] (defScope s__law_refused) := ⟨rfl, rfl, rfl, by decide +kernel, rfl, by decide +kernel, by decide +kernel⟩
abbrev n__law_rhythm : List Str := ["feed", "good", "shape", "size", "row", "k"]
theorem sc__law_rhythm : FnScope n__law_rhythm ["feed", "good"] (defScope s__law_rhythm) := ⟨rfl, rfl, rfl, by decide +kernel, rfl, by decide +kernel, by decide +kernel⟩
abbrev n__law_spares : List Str := ["feed", "many", "good", "spares", "k", "price"]
theorem sc__law_spares : FnScope n__law_spares ["feed", "many", "good"] (defScope s__law_spares) := ⟨rfl, rfl, rfl, by decide +kernel, rfl, by decide +kernel, by decide +kernel⟩
abbrev n__law_rows_of : List Str := ["coast", "signal"]
theorem sc__law_rows_of : FnScope n__law_rows_of ["coast"] (defScope s__law_rows_of) := ⟨rfl, rfl, rfl, by decide +kernel, rfl, by decide +kernel, by decide +kernel⟩
abbrev n__law_plain : List Str := ["row"]
theorem sc__law_plain : FnScope n__law_plain ["row"] (defScope s__law_plain) := ⟨rfl, rfl, rfl, by decide +kernel, rfl, by decide +kernel, by decide +kernel⟩
abbrev n__law_asks : List Str := ["feed", "rows", "signals", "spares", "coast", "due", "row", "handed", "told", "turn", "picks", "kept", "picked", "wanted", "k", "pair"]
theorem sc__law_asks : FnScope n__law_asks ["feed", "rows", "signals", "spares"] (defScope s__law_asks) := ⟨rfl, rfl, rfl, by decide +kernel, rfl, by decide +kernel, by decide +kernel⟩
abbrev n_law : List Str := ["script", "feed", "turn", "spares", "kept", "rows", "many", "words", "signals", "k", "name"]
theorem sc_law : FnScope n_law ["script"] (defScope s_law) := ⟨rfl, rfl, rfl, by decide +kernel, rfl, by decide +kernel, by decide +kernel⟩
abbrev n_Coast___init__ : List Str := ["self", "chart", "signals", "at", "signal", "earlier"]
theorem sc_Coast___init__ : FnScope n_Coast___init__ ["self", "chart", "signals"] (defScope s_Coast___init__) := ⟨rfl, rfl, rfl, by decide +kernel, rfl, by decide +kernel, by decide +kernel⟩
abbrev n_Signal___init__ : List Str := ["self", "name", "kind", "x", "y", "rhythm", "strength", "height", "sectors", "fault", "dx", "dy", "glass"]
theorem sc_Signal___init__ : FnScope n_Signal___init__ ["self", "name", "kind", "x", "y", "rhythm", "strength", "height", "sectors"] (defScope s_Signal___init__) := ⟨rfl, rfl, rfl, by decide +kernel, rfl, by decide +kernel, by decide +kernel⟩
abbrev n_Signal_row : List Str := ["self", "place"]
theorem sc_Signal_row : FnScope n_Signal_row ["self"] (defScope s_Signal_row) := ⟨rfl, rfl, rfl, by decide +kernel, rfl, by decide +kernel, by decide +kernel⟩
abbrev n_Signal_changed : List Str := ["self", "field", "value", "row"]
theorem sc_Signal_changed : FnScope n_Signal_changed ["self", "field", "value"] (defScope s_Signal_changed) := ⟨rfl, rfl, rfl, by decide +kernel, rfl, by decide +kernel, by decide +kernel⟩
abbrev n_Chart___init__ : List Str := ["self", "rows", "at", "row"]
theorem sc_Chart___init__ : FnScope n_Chart___init__ ["self", "rows"] (defScope s_Chart___init__) := ⟨rfl, rfl, rfl, by decide +kernel, rfl, by decide +kernel, by decide +kernel⟩
abbrev n_Chart_is_on : List Str := ["self", "x", "y"]
theorem sc_Chart_is_on : FnScope n_Chart_is_on ["self", "x", "y"] (defScope s_Chart_is_on) := ⟨rfl, rfl, rfl, by decide +kernel, rfl, by decide +kernel, by decide +kernel⟩
def xtb : XT := [("BadSectors", ["at"], [("BadSectors", true)]), ("BadSpare", ["at"], [("BadSpare", true), ("BadSignal", false)])]
/-- what the top has left -/
structure Tx (K : PySem.W.Frag) (mg : Str → Option Value) where
  a_is_word : Addr
  d_is_word : FuncData
  F_is_word : Fun K "is_word" "is_word" s_is_word a_is_word d_is_word
  b_is_word : L2.Binds K d_is_word ["text"] []
  g_is_word : mg "is_word" = some (.ref a_is_word)
  a_quarter : Addr
  d_quarter : FuncData
  F_quarter : Fun K "quarter" "quarter" s_quarter a_quarter d_quarter
  b_quarter : L2.Binds K d_quarter ["dx", "dy"] []
  g_quarter : mg "quarter" = some (.ref a_quarter)
  a_cross : Addr
  d_cross : FuncData
  F_cross : Fun K "cross" "cross" s_cross a_cross d_cross
  b_cross : L2.Binds K d_cross ["u", "v"] []
  g_cross : mg "cross" = some (.ref a_cross)
  a_same_ray : Addr
  d_same_ray : FuncData
  F_same_ray : Fun K "same_ray" "same_ray" s_same_ray a_same_ray d_same_ray
  b_same_ray : L2.Binds K d_same_ray ["u", "v"] []
  g_same_ray : mg "same_ray" = some (.ref a_same_ray)
  a_comes_before : Addr
  d_comes_before : FuncData
  F_comes_before : Fun K "comes_before" "comes_before" s_comes_before a_comes_before d_comes_before
  b_comes_before : L2.Binds K d_comes_before ["u", "v"] []
  g_comes_before : mg "comes_before" = some (.ref a_comes_before)
  a_lies_from : Addr
  d_lies_from : FuncData
  F_lies_from : Fun K "lies_from" "lies_from" s_lies_from a_lies_from d_lies_from
  b_lies_from : L2.Binds K d_lies_from ["u", "v", "w"] []
  g_lies_from : mg "lies_from" = some (.ref a_lies_from)
  a_direction_of : Addr
  d_direction_of : FuncData
  F_direction_of : Fun K "direction_of" "direction_of" s_direction_of a_direction_of d_direction_of
  b_direction_of : L2.Binds K d_direction_of ["sector"] []
  g_direction_of : mg "direction_of" = some (.ref a_direction_of)
  a_is_sector_alone : Addr
  d_is_sector_alone : FuncData
  F_is_sector_alone : Fun K "is_sector_alone" "is_sector_alone" s_is_sector_alone a_is_sector_alone d_is_sector_alone
  b_is_sector_alone : L2.Binds K d_is_sector_alone ["sector"] []
  g_is_sector_alone : mg "is_sector_alone" = some (.ref a_is_sector_alone)
  a_follows : Addr
  d_follows : FuncData
  F_follows : Fun K "follows" "follows" s_follows a_follows d_follows
  b_follows : L2.Binds K d_follows ["sectors", "at"] []
  g_follows : mg "follows" = some (.ref a_follows)
  a_check_sectors : Addr
  d_check_sectors : FuncData
  F_check_sectors : Fun K "check_sectors" "check_sectors" s_check_sectors a_check_sectors d_check_sectors
  b_check_sectors : L2.Binds K d_check_sectors ["sectors"] []
  g_check_sectors : mg "check_sectors" = some (.ref a_check_sectors)
  a_is_name : Addr
  d_is_name : FuncData
  F_is_name : Fun K "is_name" "is_name" s_is_name a_is_name d_is_name
  b_is_name : L2.Binds K d_is_name ["text"] []
  g_is_name : mg "is_name" = some (.ref a_is_name)
  a_fits_kind : Addr
  d_fits_kind : FuncData
  F_fits_kind : Fun K "fits_kind" "fits_kind" s_fits_kind a_fits_kind d_fits_kind
  b_fits_kind : L2.Binds K d_fits_kind ["rhythm", "kind"] []
  g_fits_kind : mg "fits_kind" = some (.ref a_fits_kind)
  a_sectors_fit : Addr
  d_sectors_fit : FuncData
  F_sectors_fit : Fun K "sectors_fit" "sectors_fit" s_sectors_fit a_sectors_fit d_sectors_fit
  b_sectors_fit : L2.Binds K d_sectors_fit ["sectors", "kind"] []
  g_sectors_fit : mg "sectors_fit" = some (.ref a_sectors_fit)
  a_most_height : Addr
  d_most_height : FuncData
  F_most_height : Fun K "most_height" "most_height" s_most_height a_most_height d_most_height
  b_most_height : L2.Binds K d_most_height ["kind"] []
  g_most_height : mg "most_height" = some (.ref a_most_height)
  a_first_fault : Addr
  d_first_fault : FuncData
  F_first_fault : Fun K "first_fault" "first_fault" s_first_fault a_first_fault d_first_fault
  b_first_fault : L2.Binds K d_first_fault ["row"] []
  g_first_fault : mg "first_fault" = some (.ref a_first_fault)
  a_check_spares : Addr
  d_check_spares : FuncData
  F_check_spares : Fun K "check_spares" "check_spares" s_check_spares a_check_spares d_check_spares
  b_check_spares : L2.Binds K d_check_spares ["spares"] []
  g_check_spares : mg "check_spares" = some (.ref a_check_spares)
  a_options : Addr
  d_options : FuncData
  F_options : Fun K "options" "options" s_options a_options d_options
  b_options : L2.Binds K d_options ["coast", "spares"] []
  g_options : mg "options" = some (.ref a_options)
  a_picked_coast : Addr
  d_picked_coast : FuncData
  F_picked_coast : Fun K "picked_coast" "picked_coast" s_picked_coast a_picked_coast d_picked_coast
  b_picked_coast : L2.Binds K d_picked_coast ["coast", "spares", "picks"] []
  g_picked_coast : mg "picked_coast" = some (.ref a_picked_coast)
  a_is_row : Addr
  d_is_row : FuncData
  F_is_row : Fun K "is_row" "is_row" s_is_row a_is_row d_is_row
  b_is_row : L2.Binds K d_is_row ["row", "wide"] []
  g_is_row : mg "is_row" = some (.ref a_is_row)
  a__law_feed : Addr
  d__law_feed : FuncData
  F__law_feed : Fun K "_law_feed" "_law_feed" s__law_feed a__law_feed d__law_feed
  b__law_feed : L2.Binds K d__law_feed ["script"] []
  g__law_feed : mg "_law_feed" = some (.ref a__law_feed)
  a__law_draw : Addr
  d__law_draw : FuncData
  F__law_draw : Fun K "_law_draw" "_law_draw" s__law_draw a__law_draw d__law_draw
  b__law_draw : L2.Binds K d__law_draw ["feed", "many"] []
  g__law_draw : mg "_law_draw" = some (.ref a__law_draw)
  a__law_is_whole : Addr
  d__law_is_whole : FuncData
  F__law_is_whole : Fun K "_law_is_whole" "_law_is_whole" s__law_is_whole a__law_is_whole d__law_is_whole
  b__law_is_whole : L2.Binds K d__law_is_whole ["x"] []
  g__law_is_whole : mg "_law_is_whole" = some (.ref a__law_is_whole)
  a__law_word : Addr
  d__law_word : FuncData
  F__law_word : Fun K "_law_word" "_law_word" s__law_word a__law_word d__law_word
  b__law_word : L2.Binds K d__law_word ["feed", "letters", "longest"] []
  g__law_word : mg "_law_word" = some (.ref a__law_word)
  a__law_rows : Addr
  d__law_rows : FuncData
  F__law_rows : Fun K "_law_rows" "_law_rows" s__law_rows a__law_rows d__law_rows
  b__law_rows : L2.Binds K d__law_rows ["feed", "most"] []
  g__law_rows : mg "_law_rows" = some (.ref a__law_rows)
  a__law_sectors : Addr
  d__law_sectors : FuncData
  F__law_sectors : Fun K "_law_sectors" "_law_sectors" s__law_sectors a__law_sectors d__law_sectors
  b__law_sectors : L2.Binds K d__law_sectors ["feed"] []
  g__law_sectors : mg "_law_sectors" = some (.ref a__law_sectors)
  a__law_signal : Addr
  d__law_signal : FuncData
  F__law_signal : Fun K "_law_signal" "_law_signal" s__law_signal a__law_signal d__law_signal
  b__law_signal : L2.Binds K d__law_signal ["feed", "name", "rows", "words"] []
  g__law_signal : mg "_law_signal" = some (.ref a__law_signal)
  a__law_names : Addr
  d__law_names : FuncData
  F__law_names : Fun K "_law_names" "_law_names" s__law_names a__law_names d__law_names
  b__law_names : L2.Binds K d__law_names ["feed", "many"] []
  g__law_names : mg "_law_names" = some (.ref a__law_names)
  a__law_coast : Addr
  d__law_coast : FuncData
  F__law_coast : Fun K "_law_coast" "_law_coast" s__law_coast a__law_coast d__law_coast
  b__law_coast : L2.Binds K d__law_coast ["rows", "signals"] []
  g__law_coast : mg "_law_coast" = some (.ref a__law_coast)
  a__law_fits : Addr
  d__law_fits : FuncData
  F__law_fits : Fun K "_law_fits" "_law_fits" s__law_fits a__law_fits d__law_fits
  b__law_fits : L2.Binds K d__law_fits ["rhythm", "kind"] []
  g__law_fits : mg "_law_fits" = some (.ref a__law_fits)
  a__law_due : Addr
  d__law_due : FuncData
  F__law_due : Fun K "_law_due" "_law_due" s__law_due a__law_due d__law_due
  b__law_due : L2.Binds K d__law_due ["spares"] []
  g__law_due : mg "_law_due" = some (.ref a__law_due)
  a__law_refused : Addr
  d__law_refused : FuncData
  F__law_refused : Fun K "_law_refused" "_law_refused" s__law_refused a__law_refused d__law_refused
  b__law_refused : L2.Binds K d__law_refused ["spares"] []
  g__law_refused : mg "_law_refused" = some (.ref a__law_refused)
  a__law_rhythm : Addr
  d__law_rhythm : FuncData
  F__law_rhythm : Fun K "_law_rhythm" "_law_rhythm" s__law_rhythm a__law_rhythm d__law_rhythm
  b__law_rhythm : L2.Binds K d__law_rhythm ["feed", "good"] []
  g__law_rhythm : mg "_law_rhythm" = some (.ref a__law_rhythm)
  a__law_spares : Addr
  d__law_spares : FuncData
  F__law_spares : Fun K "_law_spares" "_law_spares" s__law_spares a__law_spares d__law_spares
  b__law_spares : L2.Binds K d__law_spares ["feed", "many", "good"] []
  g__law_spares : mg "_law_spares" = some (.ref a__law_spares)
  a__law_rows_of : Addr
  d__law_rows_of : FuncData
  F__law_rows_of : Fun K "_law_rows_of" "_law_rows_of" s__law_rows_of a__law_rows_of d__law_rows_of
  b__law_rows_of : L2.Binds K d__law_rows_of ["coast"] []
  g__law_rows_of : mg "_law_rows_of" = some (.ref a__law_rows_of)
  a__law_plain : Addr
  d__law_plain : FuncData
  F__law_plain : Fun K "_law_plain" "_law_plain" s__law_plain a__law_plain d__law_plain
  b__law_plain : L2.Binds K d__law_plain ["row"] []
  g__law_plain : mg "_law_plain" = some (.ref a__law_plain)
  a__law_asks : Addr
  d__law_asks : FuncData
  F__law_asks : Fun K "_law_asks" "_law_asks" s__law_asks a__law_asks d__law_asks
  b__law_asks : L2.Binds K d__law_asks ["feed", "rows", "signals", "spares"] []
  g__law_asks : mg "_law_asks" = some (.ref a__law_asks)
  a_law : Addr
  d_law : FuncData
  F_law : Fun K "law" "law" s_law a_law d_law
  b_law : L2.Binds K d_law ["script"] []
  g_law : mg "law" = some (.ref a_law)
  a_Coast___init__ : Addr
  d_Coast___init__ : FuncData
  F_Coast___init__ : Fun K "__init__" "Coast.__init__" s_Coast___init__ a_Coast___init__ d_Coast___init__
  b_Coast___init__ : L2.Binds K d_Coast___init__ ["self", "chart", "signals"] []
  a_Signal___init__ : Addr
  d_Signal___init__ : FuncData
  F_Signal___init__ : Fun K "__init__" "Signal.__init__" s_Signal___init__ a_Signal___init__ d_Signal___init__
  b_Signal___init__ : L2.Binds K d_Signal___init__ ["self", "name", "kind", "x", "y", "rhythm", "strength", "height", "sectors"] []
  a_Signal_row : Addr
  d_Signal_row : FuncData
  F_Signal_row : Fun K "row" "Signal.row" s_Signal_row a_Signal_row d_Signal_row
  b_Signal_row : L2.Binds K d_Signal_row ["self"] []
  a_Signal_changed : Addr
  d_Signal_changed : FuncData
  F_Signal_changed : Fun K "changed" "Signal.changed" s_Signal_changed a_Signal_changed d_Signal_changed
  b_Signal_changed : L2.Binds K d_Signal_changed ["self", "field", "value"] []
  a_Chart___init__ : Addr
  d_Chart___init__ : FuncData
  F_Chart___init__ : Fun K "__init__" "Chart.__init__" s_Chart___init__ a_Chart___init__ d_Chart___init__
  b_Chart___init__ : L2.Binds K d_Chart___init__ ["self", "rows"] []
  a_Chart_is_on : Addr
  d_Chart_is_on : FuncData
  F_Chart_is_on : Fun K "is_on" "Chart.is_on" s_Chart_is_on a_Chart_is_on d_Chart_is_on
  b_Chart_is_on : L2.Binds K d_Chart_is_on ["self", "x", "y"] []
  C_Coast : Addr
  gC_Coast : mg "Coast" = some (.ref C_Coast)
  cls_Coast : Cls K C_Coast
  mk_Coast : Mk K C_Coast a_Coast___init__
  cl_Coast : ClOk K mg "Coast" ["chart", "signals"]
  C_Signal : Addr
  gC_Signal : mg "Signal" = some (.ref C_Signal)
  cls_Signal : Cls K C_Signal
  mk_Signal : Mk K C_Signal a_Signal___init__
  cl_Signal : ClOk K mg "Signal" ["name", "kind", "x", "y", "rhythm", "strength", "height", "sectors"]
  me_Signal_row : Meth K C_Signal "row" a_Signal_row
  me_Signal_changed : Meth K C_Signal "changed" a_Signal_changed
  C_Chart : Addr
  gC_Chart : mg "Chart" = some (.ref C_Chart)
  cls_Chart : Cls K C_Chart
  mk_Chart : Mk K C_Chart a_Chart___init__
  cl_Chart : ClOk K mg "Chart" ["rows", "wide", "high"]
  me_Chart_is_on : Meth K C_Chart "is_on" a_Chart_is_on
  C_BadChart : Addr
  gC_BadChart : mg "BadChart" = some (.ref C_BadChart)
  C_BadCoast : Addr
  gC_BadCoast : mg "BadCoast" = some (.ref C_BadCoast)
  C_BadDirection : Addr
  gC_BadDirection : mg "BadDirection" = some (.ref C_BadDirection)
  C_BadSectors : Addr
  gC_BadSectors : mg "BadSectors" = some (.ref C_BadSectors)
  C_BadSignal : Addr
  gC_BadSignal : mg "BadSignal" = some (.ref C_BadSignal)
  C_BadSpare : Addr
  gC_BadSpare : mg "BadSpare" = some (.ref C_BadSpare)
  ra_BadChart : ∀ {P : Program} {w : World} {base : Heap}, RaC P w K mg base "BadChart" ["at"]
  ra_BadCoast : ∀ {P : Program} {w : World} {base : Heap}, RaC P w K mg base "BadCoast" ["at"]
  ra_BadDirection : ∀ {P : Program} {w : World} {base : Heap}, RaC P w K mg base "BadDirection" ["dx", "dy"]
  ra_BadSectors : ∀ {P : Program} {w : World} {base : Heap}, RaC P w K mg base "BadSectors" ["at"]
  ra_BadSignal : ∀ {P : Program} {w : World} {base : Heap}, RaC P w K mg base "BadSignal" ["field"]
  ra_BadSpare : ∀ {P : Program} {w : World} {base : Heap}, RaC P w K mg base "BadSpare" ["at"]
  xt : ∀ q ∈ xtb, XcOk K mg q.1 q.2.1 q.2.2
  z_abs : mg "abs" = none
  z_bool : mg "bool" = none
  z_enumerate : mg "enumerate" = none
  z_int : mg "int" = none
  z_isinstance : mg "isinstance" = none
  z_len : mg "len" = none
  z_list : mg "list" = none
  z_range : mg "range" = none
  z_tuple : mg "tuple" = none
  c_FIELDS : ∃ a o, mg "FIELDS" = some (.ref a) ∧ K.lookup a = some o ∧ tupIs [.str "name", .str "kind", .str "x", .str "y", .str "rhythm", .str "strength", .str "height", .str "sectors"] o = true
  c_GLASSES : ∃ a o, mg "GLASSES" = some (.ref a) ∧ K.lookup a = some o ∧ tupIs [.str ".", .str "W", .str "R", .str "G", .str "Y"] o = true
  c_HORN_LETTERS : ∃ t, mg "HORN_LETTERS" = some (.str ".L" t)
  c_LETTERS : ∃ t, mg "LETTERS" = some (.str ".WRGYL" t)
  c_LIGHT_LETTERS : ∃ t, mg "LIGHT_LETTERS" = some (.str ".WRGY" t)
  c_MOST_HIGH : ∃ t, mg "MOST_HIGH" = some (.int 8 t)
  c_MOST_LETTERS : ∃ t, mg "MOST_LETTERS" = some (.int 20 t)
  c_MOST_PART : ∃ t, mg "MOST_PART" = some (.int 20 t)
  c_MOST_PRICE : ∃ t, mg "MOST_PRICE" = some (.int 99 t)
  c_MOST_SECTORS : ∃ t, mg "MOST_SECTORS" = some (.int 6 t)
  c_MOST_SIGNALS : ∃ t, mg "MOST_SIGNALS" = some (.int 8 t)
  c_MOST_SPARES : ∃ t, mg "MOST_SPARES" = some (.int 3 t)
  c_MOST_WIDE : ∃ t, mg "MOST_WIDE" = some (.int 8 t)
  e_law : ∀ (s : Shared) (v : Value), BindsTo s d_law ⟨[v], []⟩ [("script", v)]

def bo_is_word_1 : En → R En (Fl × En) :=
  (ifS (ofB (b2 pNotIn (nmB 1) (cB (.str ".WRGYL"))))
      (rtS (sh (cB (.bl false))))
      skS)
theorem bo_is_word_1_ap (e0 : En) : bo_is_word_1 e0 = (ifS (ofB (b2 pNotIn (nmB 1) (cB (.str ".WRGYL"))))
      (rtS (sh (cB (.bl false))))
      skS) e0 := rfl
def b_is_word : En → R En (Fl × En) :=
  (sq (ifS (notT (ofB (b3 (pCmp cLe) (pCmp cLe) (cB (.int 1)) (bN pLen (bcons (nmB 0) bnil)) (cB (.int 20)))))
      (rtS (sh (cB (.bl false))))
      skS)
    (sq (forS (itS (sh (nmB 0))) (stS 1) bo_is_word_1)
    (rtS (sh (cB (.bl true))))))
def m_is_word : FS := finF [false] 2 b_is_word

def b_quarter : En → R En (Fl × En) :=
  (sq (ifS (andT (ofB (b2 pEq (nmB 0) (cB (.int 0)))) (ofB (b2 pEq (nmB 1) (cB (.int 0)))))
      (raS "BadDirection" ["dx", "dy"] (econs (sh (nmB 0)) (econs (sh (nmB 1)) enil)))
      skS)
    (sq (ifS (andT (ofB (b2 (pCmp cGe) (nmB 0) (cB (.int 0)))) (ofB (b2 (pCmp cLt) (nmB 1) (cB (.int 0)))))
      (rtS (sh (cB (.int 0))))
      skS)
    (sq (ifS (ofB (b2 (pCmp cGt) (nmB 0) (cB (.int 0))))
      (rtS (sh (cB (.int 1))))
      skS)
    (sq (ifS (ofB (b2 (pCmp cGt) (nmB 1) (cB (.int 0))))
      (rtS (sh (cB (.int 2))))
      skS)
    (rtS (sh (cB (.int 3))))))))
def m_quarter : FS := finF [false, false] 2 b_quarter

def b_cross : En → R En (Fl × En) :=
  (rtS (bv (b2 pSub (b2 pMulA (b2 pIx (nmB 0) (cB (.int 0))) (b2 pIx (nmB 1) (cB (.int 1)))) (b2 pMulA (b2 pIx (nmB 0) (cB (.int 1))) (b2 pIx (nmB 1) (cB (.int 0)))))))
def m_cross : FS := finF [false, false] 2 b_cross

def b_same_ray : En → R En (Fl × En) :=
  (rtS (andV (sh (b2 pEq (callA 2 m_quarter (bcons (b2 pIx (nmB 0) (cB (.int 0))) (bcons (b2 pIx (nmB 0) (cB (.int 1))) bnil))) (callA 2 m_quarter (bcons (b2 pIx (nmB 1) (cB (.int 0))) (bcons (b2 pIx (nmB 1) (cB (.int 1))) bnil))))) (sh (b2 pEq (callA 2 m_cross (bcons (nmB 0) (bcons (nmB 1) bnil))) (cB (.int 0))))))
def m_same_ray : FS := finF [false, false] 2 b_same_ray

def b_comes_before : En → R En (Fl × En) :=
  (sq (setS 2 (sh (callA 2 m_quarter (bcons (b2 pIx (nmB 0) (cB (.int 0))) (bcons (b2 pIx (nmB 0) (cB (.int 1))) bnil)))))
    (sq (setS 3 (sh (callA 2 m_quarter (bcons (b2 pIx (nmB 1) (cB (.int 0))) (bcons (b2 pIx (nmB 1) (cB (.int 1))) bnil)))))
    (sq (ifS (ofB (b2 pNe (nmB 2) (nmB 3)))
      (rtS (sh (b2 (pCmp cLt) (nmB 2) (nmB 3))))
      skS)
    (rtS (sh (b2 (pCmp cGt) (callA 2 m_cross (bcons (nmB 0) (bcons (nmB 1) bnil))) (cB (.int 0))))))))
def m_comes_before : FS := finF [false, false] 4 b_comes_before

def b_lies_from : En → R En (Fl × En) :=
  (sq (ifS (orT (ofV (sh (callA 2 m_same_ray (bcons (nmB 1) (bcons (nmB 2) bnil))))) (ofV (sh (callA 2 m_same_ray (bcons (nmB 0) (bcons (nmB 1) bnil))))))
      (rtS (sh (cB (.bl true))))
      skS)
    (sq (ifS (ofV (sh (callA 2 m_same_ray (bcons (nmB 0) (bcons (nmB 2) bnil)))))
      (rtS (sh (cB (.bl false))))
      skS)
    (sq (ifS (ofV (sh (callA 2 m_comes_before (bcons (nmB 1) (bcons (nmB 2) bnil)))))
      (rtS (andV (sh (callA 2 m_comes_before (bcons (nmB 1) (bcons (nmB 0) bnil)))) (sh (callA 2 m_comes_before (bcons (nmB 0) (bcons (nmB 2) bnil))))))
      skS)
    (rtS (orV (sh (callA 2 m_comes_before (bcons (nmB 1) (bcons (nmB 0) bnil)))) (sh (callA 2 m_comes_before (bcons (nmB 0) (bcons (nmB 2) bnil)))))))))
def m_lies_from : FS := finF [false, false, false] 3 b_lies_from

def b_direction_of : En → R En (Fl × En) :=
  (rtS (eN mkT (econs (sh (b2 pIx (nmB 0) (cB (.int 0)))) (econs (sh (b2 pIx (nmB 0) (cB (.int 1)))) enil))))
def m_direction_of : FS := finF [false] 1 b_direction_of

def b_is_sector_alone : En → R En (Fl × En) :=
  (sq (asgS (gtup 3 (gcons (stS 1) (gcons (stS 2) (gcons (stS 3) gnil)))) (sh (nmB 0)))
    (sq (ifS (orT (notT (ofB (b3 (pCmp cLe) (pCmp cLe) (b1 pNeg (cB (.int 20))) (nmB 1) (cB (.int 20))))) (notT (ofB (b3 (pCmp cLe) (pCmp cLe) (b1 pNeg (cB (.int 20))) (nmB 2) (cB (.int 20))))))
      (rtS (sh (cB (.bl false))))
      skS)
    (sq (ifS (andT (ofB (b2 pEq (nmB 1) (cB (.int 0)))) (ofB (b2 pEq (nmB 2) (cB (.int 0)))))
      (rtS (sh (cB (.bl false))))
      skS)
    (rtS (sh (b2 pIn (nmB 3) (cB (.tup [.str ".", .str "W", .str "R", .str "G", .str "Y"]))))))))
def m_is_sector_alone : FS := finF [false] 4 b_is_sector_alone

def b_follows : En → R En (Fl × En) :=
  (sq (setS 2 (callE m_direction_of [none] (econs (sh (b2 pIx (nmB 0) (nmB 1))) enil)))
    (sq (setS 3 (callE m_direction_of [none] (econs (sh (b2 pIx (nmB 0) (cB (.int 0)))) enil)))
    (sq (setS 4 (callE m_direction_of [none] (econs (sh (b2 pIx (nmB 0) (b2 pSub (nmB 1) (cB (.int 1))))) enil)))
    (sq (ifS (orT (ofV (sh (callA 2 m_same_ray (bcons (nmB 2) (bcons (nmB 3) bnil))))) (ofV (sh (callA 2 m_same_ray (bcons (nmB 2) (bcons (nmB 4) bnil))))))
      (rtS (sh (cB (.bl false))))
      skS)
    (rtS (sh (callA 3 m_lies_from (bcons (nmB 2) (bcons (nmB 4) (bcons (nmB 3) bnil))))))))))
def m_follows : FS := finF [false, false] 5 b_follows

def bo_check_sectors_1 : En → R En (Fl × En) :=
  (sq (ifS (notT (ofV (sh (callA 1 m_is_sector_alone (bcons (nmB 2) bnil)))))
      (raS "BadSectors" ["at"] (econs (sh (nmB 1)) enil))
      skS)
    (ifS (andT (ofB (b2 (pCmp cGt) (nmB 1) (cB (.int 0)))) (notT (ofV (sh (callA 2 m_follows (bcons (nmB 0) (bcons (nmB 1) bnil)))))))
      (raS "BadSectors" ["at"] (econs (sh (nmB 1)) enil))
      skS))
theorem bo_check_sectors_1_ap (e0 : En) : bo_check_sectors_1 e0 = (sq (ifS (notT (ofV (sh (callA 1 m_is_sector_alone (bcons (nmB 2) bnil)))))
      (raS "BadSectors" ["at"] (econs (sh (nmB 1)) enil))
      skS)
    (ifS (andT (ofB (b2 (pCmp cGt) (nmB 1) (cB (.int 0)))) (notT (ofV (sh (callA 2 m_follows (bcons (nmB 0) (bcons (nmB 1) bnil)))))))
      (raS "BadSectors" ["at"] (econs (sh (nmB 1)) enil))
      skS)) e0 := rfl
def b_check_sectors : En → R En (Fl × En) :=
  (sq (ifS (notT (ofB (b3 (pCmp cLe) (pCmp cLe) (cB (.int 1)) (bN pLen (bcons (nmB 0) bnil)) (cB (.int 6)))))
      (raS "BadSectors" ["at"] (econs (sh (b1 pNeg (cB (.int 1)))) enil))
      skS)
    (forS (itE2 (econs (sh (nmB 0)) enil)) (gtup 2 (gcons (stS 1) (gcons (stS 2) gnil))) bo_check_sectors_1))
def m_check_sectors : FS := finF [false] 3 b_check_sectors

def bo_is_name_1 : En → R En (Fl × En) :=
  (ifS (ofB (b2 pNotIn (nmB 1) (cB (.str "abcdefghijklmnopqrstuvwxyz"))))
      (rtS (sh (cB (.bl false))))
      skS)
theorem bo_is_name_1_ap (e0 : En) : bo_is_name_1 e0 = (ifS (ofB (b2 pNotIn (nmB 1) (cB (.str "abcdefghijklmnopqrstuvwxyz"))))
      (rtS (sh (cB (.bl false))))
      skS) e0 := rfl
def b_is_name : En → R En (Fl × En) :=
  (sq (ifS (notT (ofB (b3 (pCmp cLe) (pCmp cLe) (cB (.int 1)) (bN pLen (bcons (nmB 0) bnil)) (cB (.int 12)))))
      (rtS (sh (cB (.bl false))))
      skS)
    (sq (forS (itS (sh (nmB 0))) (stS 1) bo_is_name_1)
    (rtS (sh (cB (.bl true))))))
def m_is_name : FS := finF [false] 2 b_is_name

def bo_fits_kind_1 : En → R En (Fl × En) :=
  (ifS (ofB (b2 pNotIn (nmB 3) (nmB 2)))
      (rtS (sh (cB (.bl false))))
      skS)
theorem bo_fits_kind_1_ap (e0 : En) : bo_fits_kind_1 e0 = (ifS (ofB (b2 pNotIn (nmB 3) (nmB 2)))
      (rtS (sh (cB (.bl false))))
      skS) e0 := rfl
def b_fits_kind : En → R En (Fl × En) :=
  (sq (setS 2 (sh (cB (.str ".WRGY"))))
    (sq (ifS (ofB (b2 pEq (nmB 1) (cB (.str "horn"))))
      (setS 2 (sh (cB (.str ".L"))))
      skS)
    (sq (ifS (notT (ofV (sh (callA 1 m_is_word (bcons (nmB 0) bnil)))))
      (rtS (sh (cB (.bl false))))
      skS)
    (sq (forS (itS (sh (nmB 0))) (stS 3) bo_fits_kind_1)
    (rtS (sh (b2 pNe (nmB 0) (b2 pMulA (cB (.str ".")) (bN pLen (bcons (nmB 0) bnil))))))))))
def m_fits_kind : FS := finF [false, false] 4 b_fits_kind

def b_sectors_fit : En → R En (Fl × En) :=
  (sq (ifS (ofB (b2 pEq (nmB 1) (cB (.str "horn"))))
      (rtS (sh (b2 pEq (bN pLen (bcons (nmB 0) bnil)) (cB (.int 0)))))
      skS)
    (sq (trS xtb (dropS (callE m_check_sectors [none] (econs (sh (nmB 0)) enil)))
      [("BadSectors", none, fun xc xfs => (rtS (sh (cB (.bl false)))))])
    (rtS (sh (cB (.bl true))))))
def m_sectors_fit : FS := finF [false, false] 2 b_sectors_fit

def b_most_height : En → R En (Fl × En) :=
  (sq (ifS (ofB (b2 pEq (nmB 0) (cB (.str "horn"))))
      (rtS (sh (cB (.int 0))))
      skS)
    (rtS (sh (cB (.int 20)))))
def m_most_height : FS := finF [false] 1 b_most_height

def b_first_fault : En → R En (Fl × En) :=
  (sq (asgS (gtup 8 (gcons (stS 1) (gcons (stS 2) (gcons (stS 3) (gcons (stS 4) (gcons (stS 5) (gcons (stS 6) (gcons (stS 7) (gcons (stS 8) gnil))))))))) (sh (nmB 0)))
    (sq (ifS (notT (ofV (sh (callA 1 m_is_name (bcons (nmB 1) bnil)))))
      (rtS (sh (cB (.str "name"))))
      skS)
    (sq (ifS (ofB (b2 pNotIn (nmB 2) (bN mkT (bcons (cB (.str "light")) (bcons (cB (.str "horn")) bnil)))))
      (rtS (sh (cB (.str "kind"))))
      skS)
    (sq (ifS (notT (ofB (b3 (pCmp cLe) (pCmp cLe) (cB (.int 0)) (nmB 3) (cB (.int 7)))))
      (rtS (sh (cB (.str "x"))))
      skS)
    (sq (ifS (notT (ofB (b3 (pCmp cLe) (pCmp cLe) (cB (.int 0)) (nmB 4) (cB (.int 7)))))
      (rtS (sh (cB (.str "y"))))
      skS)
    (sq (ifS (notT (ofV (sh (callA 2 m_fits_kind (bcons (nmB 5) (bcons (nmB 2) bnil))))))
      (rtS (sh (cB (.str "rhythm"))))
      skS)
    (sq (ifS (notT (ofB (b3 (pCmp cLe) (pCmp cLe) (cB (.int 1)) (nmB 6) (cB (.int 40)))))
      (rtS (sh (cB (.str "strength"))))
      skS)
    (sq (ifS (notT (ofB (b3 (pCmp cLe) (pCmp cLe) (cB (.int 0)) (nmB 7) (callA 1 m_most_height (bcons (nmB 2) bnil)))))
      (rtS (sh (cB (.str "height"))))
      skS)
    (sq (ifS (notT (ofV (sh (callA 2 m_sectors_fit (bcons (nmB 8) (bcons (nmB 2) bnil))))))
      (rtS (sh (cB (.str "sectors"))))
      skS)
    (rtS (sh (cB .non))))))))))))
def m_first_fault : FS := finF [false] 9 b_first_fault

def bo_check_spares_1 : En → R En (Fl × En) :=
  (sq (ifS (andT (notT (ofV (sh (callA 2 m_fits_kind (bcons (nmB 2) (bcons (cB (.str "light")) bnil)))))) (notT (ofV (sh (callA 2 m_fits_kind (bcons (nmB 2) (bcons (cB (.str "horn")) bnil)))))))
      (raS "BadSpare" ["at"] (econs (sh (nmB 1)) enil))
      skS)
    (ifS (notT (ofB (b3 (pCmp cLe) (pCmp cLe) (cB (.int 1)) (nmB 3) (cB (.int 99)))))
      (raS "BadSpare" ["at"] (econs (sh (nmB 1)) enil))
      skS))
theorem bo_check_spares_1_ap (e0 : En) : bo_check_spares_1 e0 = (sq (ifS (andT (notT (ofV (sh (callA 2 m_fits_kind (bcons (nmB 2) (bcons (cB (.str "light")) bnil)))))) (notT (ofV (sh (callA 2 m_fits_kind (bcons (nmB 2) (bcons (cB (.str "horn")) bnil)))))))
      (raS "BadSpare" ["at"] (econs (sh (nmB 1)) enil))
      skS)
    (ifS (notT (ofB (b3 (pCmp cLe) (pCmp cLe) (cB (.int 1)) (nmB 3) (cB (.int 99)))))
      (raS "BadSpare" ["at"] (econs (sh (nmB 1)) enil))
      skS)) e0 := rfl
def b_check_spares : En → R En (Fl × En) :=
  (sq (ifS (ofB (b2 (pCmp cGt) (bN pLen (bcons (nmB 0) bnil)) (cB (.int 3))))
      (raS "BadSpare" ["at"] (econs (sh (b1 pNeg (cB (.int 1)))) enil))
      skS)
    (forS (itE2 (econs (sh (nmB 0)) enil)) (gtup 2 (gcons (stS 1) (gcons (gtup 2 (gcons (stS 2) (gcons (stS 3) gnil))) gnil))) bo_check_spares_1))
def m_check_spares : FS := finF [false] 4 b_check_spares

def bo_options_1 : En → R En (Fl × En) :=
  (ifS (ofV (sh (callA 2 m_fits_kind (bcons (nmB 5) (bcons (b1 (pFld "Signal" "kind") (nmB 3)) bnil)))))
      (apS 4 (eN mkT (econs (sh (nmB 5)) (econs (sh (nmB 6)) enil))))
      skS)
theorem bo_options_1_ap (e0 : En) : bo_options_1 e0 = (ifS (ofV (sh (callA 2 m_fits_kind (bcons (nmB 5) (bcons (b1 (pFld "Signal" "kind") (nmB 3)) bnil)))))
      (apS 4 (eN mkT (econs (sh (nmB 5)) (econs (sh (nmB 6)) enil))))
      skS) e0 := rfl
def bo_options_2 : En → R En (Fl × En) :=
  (sq (setS 4 (eN mkL (econs (eN mkT (econs (sh (b1 (pFld "Signal" "rhythm") (nmB 3))) (econs (sh (cB (.int 0))) enil))) enil)))
    (sq (forS (itS (sh (nmB 1))) (gtup 2 (gcons (stS 5) (gcons (stS 6) gnil))) bo_options_1)
    (apS 2 (mvE 4))))
theorem bo_options_2_ap (e0 : En) : bo_options_2 e0 = (sq (setS 4 (eN mkL (econs (eN mkT (econs (sh (b1 (pFld "Signal" "rhythm") (nmB 3))) (econs (sh (cB (.int 0))) enil))) enil)))
    (sq (forS (itS (sh (nmB 1))) (gtup 2 (gcons (stS 5) (gcons (stS 6) gnil))) bo_options_1)
    (apS 2 (mvE 4)))) e0 := rfl
def b_options : En → R En (Fl × En) :=
  (sq (setS 2 (eN mkL enil))
    (sq (forS (itS (sh (b1 (pFld "Coast" "signals") (nmB 0)))) (stS 3) bo_options_2)
    (rtS (mvE 2))))
def m_options : FS := finF [false, false] 7 b_options

def b_Chart_is_on : En → R En (Fl × En) :=
  (rtS (andV (sh (b3 (pCmp cLe) (pCmp cLt) (cB (.int 0)) (nmB 1) (b1 (pFld "Chart" "wide") (nmB 0)))) (sh (b3 (pCmp cLe) (pCmp cLt) (cB (.int 0)) (nmB 2) (b1 (pFld "Chart" "high") (nmB 0))))))
def m_Chart_is_on : FS := finF [false, false, false] 3 b_Chart_is_on

def el_Coast___init___1 : En → R En (T × En) :=
  (sh (b1 (pFld "Signal" "name") (nmB 5)))
theorem el_Coast___init___1_ap (e0 : En) : el_Coast___init___1 e0 = (sh (b1 (pFld "Signal" "name") (nmB 5))) e0 := rfl
def bo_Coast___init___2 : En → R En (Fl × En) :=
  (sq (ifS (ofV (e2 pIn (sh (b1 (pFld "Signal" "name") (nmB 4))) (lcE [5] (itS (bv (bSl (nmB 2) noO (soO (nmB 3))))) (stS 5) yesT el_Coast___init___1)))
      (raS "BadCoast" ["at"] (econs (sh (nmB 3)) enil))
      skS)
    (ifS (notT (ofV (methE "Chart" "is_on" 3 m_Chart_is_on (sh (nmB 1)) (econs (sh (b1 (pFld "Signal" "x") (nmB 4))) (econs (sh (b1 (pFld "Signal" "y") (nmB 4))) enil)))))
      (raS "BadCoast" ["at"] (econs (sh (nmB 3)) enil))
      skS))
theorem bo_Coast___init___2_ap (e0 : En) : bo_Coast___init___2 e0 = (sq (ifS (ofV (e2 pIn (sh (b1 (pFld "Signal" "name") (nmB 4))) (lcE [5] (itS (bv (bSl (nmB 2) noO (soO (nmB 3))))) (stS 5) yesT el_Coast___init___1)))
      (raS "BadCoast" ["at"] (econs (sh (nmB 3)) enil))
      skS)
    (ifS (notT (ofV (methE "Chart" "is_on" 3 m_Chart_is_on (sh (nmB 1)) (econs (sh (b1 (pFld "Signal" "x") (nmB 4))) (econs (sh (b1 (pFld "Signal" "y") (nmB 4))) enil)))))
      (raS "BadCoast" ["at"] (econs (sh (nmB 3)) enil))
      skS)) e0 := rfl
def b_Coast___init__ : En → R En (Fl × En) :=
  (sq (ifS (ofB (b2 (pCmp cGt) (bN pLen (bcons (nmB 2) bnil)) (cB (.int 8))))
      (raS "BadCoast" ["at"] (econs (sh (b1 pNeg (cB (.int 1)))) enil))
      skS)
    (sq (forS (itE2 (econs (sh (nmB 2)) enil)) (gtup 2 (gcons (stS 3) (gcons (stS 4) gnil))) bo_Coast___init___2)
    (sq (flS 0 "Coast" "chart" (sh (nmB 1)))
    (flS 0 "Coast" "signals" (bv (bN pTuple (bcons (nmB 2) bnil)))))))
def m_Coast___init__ : FS := finF [true, false, false] 6 b_Coast___init__

def el_Signal___init___1 : En → R En (T × En) :=
  (eN mkT (econs (sh (nmB 10)) (econs (sh (nmB 11)) (econs (sh (nmB 12)) enil))))
theorem el_Signal___init___1_ap (e0 : En) : el_Signal___init___1 e0 = (eN mkT (econs (sh (nmB 10)) (econs (sh (nmB 11)) (econs (sh (nmB 12)) enil)))) e0 := rfl
def b_Signal___init__ : En → R En (Fl × En) :=
  (sq (setS 9 (sh (callA 1 m_first_fault (bcons (bN mkT (bcons (nmB 1) (bcons (nmB 2) (bcons (nmB 3) (bcons (nmB 4) (bcons (nmB 5) (bcons (nmB 6) (bcons (nmB 7) (bcons (nmB 8) bnil))))))))) bnil))))
    (sq (ifS (ofB (b2 pIsNot (nmB 9) (cB .non)))
      (raS "BadSignal" ["field"] (econs (sh (nmB 9)) enil))
      skS)
    (sq (flS 0 "Signal" "name" (sh (nmB 1)))
    (sq (flS 0 "Signal" "kind" (sh (nmB 2)))
    (sq (flS 0 "Signal" "x" (sh (nmB 3)))
    (sq (flS 0 "Signal" "y" (sh (nmB 4)))
    (sq (flS 0 "Signal" "rhythm" (sh (nmB 5)))
    (sq (flS 0 "Signal" "strength" (sh (nmB 6)))
    (sq (flS 0 "Signal" "height" (sh (nmB 7)))
    (flS 0 "Signal" "sectors" (eN pTuple (econs (lcE [10, 11, 12] (itS (sh (nmB 8))) (gtup 3 (gcons (stS 10) (gcons (stS 11) (gcons (stS 12) gnil)))) yesT el_Signal___init___1) enil))))))))))))
def m_Signal___init__ : FS := finF [true, false, false, false, false, false, false, false, false] 13 b_Signal___init__

def b_Signal_row : En → R En (Fl × En) :=
  (sq (setS 1 (eN mkT (econs (sh (b1 (pFld "Signal" "x") (nmB 0))) (econs (sh (b1 (pFld "Signal" "y") (nmB 0))) enil))))
    (rtS (bv (b2 pAdd (b2 pAdd (bN mkT (bcons (b1 (pFld "Signal" "name") (nmB 0)) (bcons (b1 (pFld "Signal" "kind") (nmB 0)) bnil))) (nmB 1)) (bN mkT (bcons (b1 (pFld "Signal" "rhythm") (nmB 0)) (bcons (b1 (pFld "Signal" "strength") (nmB 0)) (bcons (b1 (pFld "Signal" "height") (nmB 0)) (bcons (b1 (pFld "Signal" "sectors") (nmB 0)) bnil)))))))))
def m_Signal_row : FS := finF [false] 2 b_Signal_row

def b_Signal_changed : En → R En (Fl × En) :=
  (sq (ifS (ofB (b2 pNotIn (nmB 1) (cB (.tup [.str "name", .str "kind", .str "x", .str "y", .str "rhythm", .str "strength", .str "height", .str "sectors"]))))
      (raS "BadSignal" ["field"] (econs (sh (nmB 1)) enil))
      skS)
    (sq (setS 3 (eN pList (econs (methE "Signal" "row" 1 m_Signal_row (sh (nmB 0)) enil) enil)))
    (sq (siS 3 (sh (tixB ["name", "kind", "x", "y", "rhythm", "strength", "height", "sectors"] (nmB 1))) (sh (nmB 2)))
    (fun env => (rtS (makeU "Signal" 9 m_Signal___init__ (sh (nmB 3)))) (frz 3 env)))))
def m_Signal_changed : FS := finF [false, false, false] 4 b_Signal_changed

def bo_picked_coast_1 : En → R En (Fl × En) :=
  (apS 4 (methE "Signal" "changed" 3 m_Signal_changed (sh (nmB 6)) (econs (sh (cB (.str "rhythm"))) (econs (sh (b2 pIx (b2 pIx (b2 pIx (nmB 3) (nmB 5)) (b2 pIx (nmB 2) (nmB 5))) (cB (.int 0)))) enil))))
theorem bo_picked_coast_1_ap (e0 : En) : bo_picked_coast_1 e0 = (apS 4 (methE "Signal" "changed" 3 m_Signal_changed (sh (nmB 6)) (econs (sh (cB (.str "rhythm"))) (econs (sh (b2 pIx (b2 pIx (b2 pIx (nmB 3) (nmB 5)) (b2 pIx (nmB 2) (nmB 5))) (cB (.int 0)))) enil)))) e0 := rfl
def b_picked_coast : En → R En (Fl × En) :=
  (sq (setS 3 (fzE (callE m_options [none, none] (econs (sh (nmB 0)) (econs (sh (nmB 1)) enil)))))
    (sq (setS 4 (eN mkL enil))
    (sq (forS (itE2 (econs (sh (b1 (pFld "Coast" "signals") (nmB 0))) enil)) (gtup 2 (gcons (stS 5) (gcons (stS 6) gnil))) bo_picked_coast_1)
    (fun env => (rtS (makeE "Coast" 3 m_Coast___init__ (econs (sh (b1 (pFld "Coast" "chart") (nmB 0))) (econs (sh (nmB 4)) enil)))) (frz 4 env)))))
def m_picked_coast : FS := finF [false, false, false] 7 b_picked_coast

def bo_is_row_1 : En → R En (Fl × En) :=
  (ifS (ofB (b2 pNotIn (nmB 2) (cB (.str "~#"))))
      (rtS (sh (cB (.bl false))))
      skS)
theorem bo_is_row_1_ap (e0 : En) : bo_is_row_1 e0 = (ifS (ofB (b2 pNotIn (nmB 2) (cB (.str "~#"))))
      (rtS (sh (cB (.bl false))))
      skS) e0 := rfl
def b_is_row : En → R En (Fl × En) :=
  (sq (ifS (ofB (b2 pNe (bN pLen (bcons (nmB 0) bnil)) (nmB 1)))
      (rtS (sh (cB (.bl false))))
      skS)
    (sq (forS (itS (sh (nmB 0))) (stS 2) bo_is_row_1)
    (rtS (sh (b3 (pCmp cLe) (pCmp cLe) (cB (.int 1)) (nmB 1) (cB (.int 8)))))))
def m_is_row : FS := finF [false, false] 3 b_is_row

def b__law_feed : En → R En (Fl × En) :=
  (rtS (eN mkL (econs (fzE (bv (bN pList (bcons (nmB 0) bnil)))) (econs (sh (cB (.int 0))) (econs (sh (cB (.int 0))) (econs (sh (cB (.int 1))) enil))))))
def m__law_feed : FS := finF [false] 1 b__law_feed

def b__law_draw : En → R En (Fl × En) :=
  (sq (ifS (andT (ofB (b2 pEq (b2 pIx (nmB 0) (cB (.int 2))) (cB (.int 0)))) (ofB (b2 (pCmp cLt) (b2 pIx (nmB 0) (cB (.int 1))) (bN pLen (bcons (b2 pIx (nmB 0) (cB (.int 0))) bnil)))))
      (sq (setS 2 (bv (bN pAbs (bcons (bN pInt (bcons (b2 pIx (b2 pIx (nmB 0) (cB (.int 0))) (b2 pIx (nmB 0) (cB (.int 1)))) bnil)) bnil))))
    (sq (saS 0 pIadd (cB (.int 1)) (cB (.int 1)))
    (ifS (ofB (b2 (pCmp cGe) (nmB 2) (b2 pPow (cB (.int 10)) (cB (.int 18)))))
      (siS 0 (sh (cB (.int 2))) (sh (nmB 2)))
      (siS 0 (sh (cB (.int 3))) (bv (b2 pMod (bN pInt (bcons (b2 pAdd (b2 pAdd (b2 pMulA (b2 pIx (nmB 0) (cB (.int 3))) (cB (.int 48271))) (b2 pMulA (nmB 2) (cB (.int 69621)))) (b2 pIx (nmB 0) (cB (.int 1)))) bnil)) (cB (.int 2147483647))))))))
      skS)
    (sq (ifS (ofB (b2 (pCmp cGt) (b2 pIx (nmB 0) (cB (.int 2))) (cB (.int 0))))
      (sq (setS 3 (bv (b2 pMod (bN pInt (bcons (b2 pIx (nmB 0) (cB (.int 2))) bnil)) (nmB 1))))
    (sq (siS 0 (sh (cB (.int 2))) (bv (b2 pFdiv (b2 pIx (nmB 0) (cB (.int 2))) (nmB 1))))
    (rtS (mvE 3))))
      skS)
    (sq (siS 0 (sh (cB (.int 3))) (bv (b2 pMod (bN pInt (bcons (b2 pAdd (b2 pMulA (b2 pIx (nmB 0) (cB (.int 3))) (cB (.int 16807))) (cB (.int 12345))) bnil)) (cB (.int 2147483647)))))
    (sq (setS 4 (bv (b2 pMod (bN pInt (bcons (b2 pAdd (b2 pMulA (b2 pIx (nmB 0) (cB (.int 3))) (b2 pIx (nmB 0) (cB (.int 3)))) (b2 pIx (nmB 0) (cB (.int 3)))) bnil)) (cB (.int 2147483629)))))
    (rtS (bv (b2 pMod (b2 pFdiv (nmB 4) (cB (.int 11))) (nmB 1))))))))
def m__law_draw : FS := finF [true, false] 5 b__law_draw

def b__law_is_whole : En → R En (Fl × En) :=
  (rtS (andV (bv (bN pIsi (bcons (nmB 0) (bcons (cB (.ty "int")) bnil)))) (notV (bv (bN pIsi (bcons (nmB 0) (bcons (cB (.ty "bool")) bnil)))))))
def m__law_is_whole : FS := finF [false] 1 b__law_is_whole

def el__law_word_1 : En → R En (T × En) :=
  (ixS 1 (callE m__law_draw [some 0, none] (econs (mvE 0) (econs (bv (bN pLen (bcons (nmB 1) bnil))) enil))))
theorem el__law_word_1_ap (e0 : En) : el__law_word_1 e0 = (ixS 1 (callE m__law_draw [some 0, none] (econs (mvE 0) (econs (bv (bN pLen (bcons (nmB 1) bnil))) enil)))) e0 := rfl
def b__law_word : En → R En (Fl × En) :=
  (sq (setS 3 (e2 pAdd (sh (cB (.int 1))) (callE m__law_draw [some 0, none] (econs (mvE 0) (econs (sh (nmB 2)) enil)))))
    (sq (setS 4 (eM "str" pJoin (cB (.str "")) (econs (lcE [5] (itR rgO1 (econs (sh (nmB 3)) enil)) (stS 5) yesT el__law_word_1) enil)))
    (sq (ifS (ofB (b2 pEq (nmB 4) (b2 pMulA (cB (.str ".")) (nmB 3))))
      (rtS (bv (b2 pAdd (cB (.str "W")) (bSl (nmB 4) (soO (cB (.int 1))) noO))))
      skS)
    (rtS (mvE 4)))))
def m__law_word : FS := finF [true, false, false] 6 b__law_word

def el__law_rows_1 : En → R En (T × En) :=
  (e2 pIx (sh (cB (.str "~~~#"))) (callE m__law_draw [some 0, none] (econs (mvE 0) (econs (sh (cB (.int 4))) enil))))
theorem el__law_rows_1_ap (e0 : En) : el__law_rows_1 e0 = (e2 pIx (sh (cB (.str "~~~#"))) (callE m__law_draw [some 0, none] (econs (mvE 0) (econs (sh (cB (.int 4))) enil)))) e0 := rfl
def bo__law_rows_2 : En → R En (Fl × En) :=
  (apS 4 (eM "str" pJoin (cB (.str "")) (econs (lcE [6] (itR rgO1 (econs (sh (nmB 2)) enil)) (stS 6) yesT el__law_rows_1) enil)))
theorem bo__law_rows_2_ap (e0 : En) : bo__law_rows_2 e0 = (apS 4 (eM "str" pJoin (cB (.str "")) (econs (lcE [6] (itR rgO1 (econs (sh (nmB 2)) enil)) (stS 6) yesT el__law_rows_1) enil))) e0 := rfl
def b__law_rows : En → R En (Fl × En) :=
  (sq (setS 2 (e2 pAdd (sh (cB (.int 1))) (callE m__law_draw [some 0, none] (econs (mvE 0) (econs (sh (nmB 1)) enil)))))
    (sq (setS 3 (e2 pAdd (sh (cB (.int 1))) (callE m__law_draw [some 0, none] (econs (mvE 0) (econs (sh (nmB 1)) enil)))))
    (sq (setS 4 (eN mkL enil))
    (sq (forS (itR rgO1 (econs (sh (nmB 3)) enil)) (stS 5) bo__law_rows_2)
    (rtS (mvE 4))))))
def m__law_rows : FS := finF [true, false] 7 b__law_rows

def el__law_sectors_1 : En → R En (T × En) :=
  (e2 pIx (sh (cB (.str "WWWRGY."))) (callE m__law_draw [some 0, none] (econs (mvE 0) (econs (sh (cB (.int 7))) enil))))
theorem el__law_sectors_1_ap (e0 : En) : el__law_sectors_1 e0 = (e2 pIx (sh (cB (.str "WWWRGY."))) (callE m__law_draw [some 0, none] (econs (mvE 0) (econs (sh (cB (.int 7))) enil)))) e0 := rfl
def b__law_sectors : En → R En (Fl × En) :=
  (sq (setS 1 (callE m__law_draw [some 0, none] (econs (mvE 0) (econs (sh (cB (.int 4))) enil))))
    (sq (setS 2 (lcE [6] (itR rgO1 (econs (sh (cB (.int 4))) enil)) (stS 6) yesT el__law_sectors_1))
    (sq (ifS (ofB (b2 (pCmp cLt) (nmB 1) (cB (.int 2))))
      (rtS (eN mkL (econs (eN mkT (econs (sh (cB (.int 0))) (econs (sh (b1 pNeg (cB (.int 1)))) (econs (sh (b2 pIx (nmB 2) (cB (.int 0)))) enil)))) enil)))
      skS)
    (sq (ifS (ofB (b2 pEq (nmB 1) (cB (.int 2))))
      (rtS (eN mkL (econs (eN mkT (econs (sh (cB (.int 0))) (econs (sh (b1 pNeg (cB (.int 1)))) (econs (sh (b2 pIx (nmB 2) (cB (.int 0)))) enil)))) (econs (eN mkT (econs (sh (cB (.int 1))) (econs (sh (cB (.int 0))) (econs (sh (b2 pIx (nmB 2) (cB (.int 1)))) enil)))) (econs (eN mkT (econs (sh (cB (.int 0))) (econs (sh (cB (.int 1))) (econs (sh (b2 pIx (nmB 2) (cB (.int 2)))) enil)))) (econs (eN mkT (econs (sh (b1 pNeg (cB (.int 1)))) (econs (sh (cB (.int 0))) (econs (sh (b2 pIx (nmB 2) (cB (.int 3)))) enil)))) enil))))))
      skS)
    (sq (setS 3 (eN mkL (econs (eN mkT (econs (sh (cB (.int 0))) (econs (sh (b1 pNeg (cB (.int 1)))) enil))) (econs (eN mkT (econs (sh (cB (.int 1))) (econs (sh (b1 pNeg (cB (.int 1)))) enil))) (econs (eN mkT (econs (sh (cB (.int 1))) (econs (sh (cB (.int 0))) enil))) (econs (eN mkT (econs (sh (cB (.int 1))) (econs (sh (cB (.int 1))) enil))) (econs (eN mkT (econs (sh (cB (.int 0))) (econs (sh (cB (.int 1))) enil))) (econs (eN mkT (econs (sh (b1 pNeg (cB (.int 1)))) (econs (sh (cB (.int 1))) enil))) (econs (eN mkT (econs (sh (b1 pNeg (cB (.int 1)))) (econs (sh (cB (.int 0))) enil))) (econs (eN mkT (econs (sh (b1 pNeg (cB (.int 1)))) (econs (sh (b1 pNeg (cB (.int 1)))) enil))) enil))))))))))
    (sq (setS 4 (callE m__law_draw [some 0, none] (econs (mvE 0) (econs (sh (cB (.int 8))) enil))))
    (sq (setS 5 (e2 pMod (eN pInt (econs (e2 pAdd (bv (b2 pAdd (nmB 4) (cB (.int 1)))) (callE m__law_draw [some 0, none] (econs (mvE 0) (econs (sh (cB (.int 7))) enil)))) enil)) (sh (cB (.int 8)))))
    (rtS (eN mkL (econs (eN mkT (econs (sh (b2 pIx (b2 pIx (nmB 3) (nmB 4)) (cB (.int 0)))) (econs (sh (b2 pIx (b2 pIx (nmB 3) (nmB 4)) (cB (.int 1)))) (econs (sh (b2 pIx (nmB 2) (cB (.int 0)))) enil)))) (econs (eN mkT (econs (sh (b2 pIx (b2 pIx (nmB 3) (nmB 5)) (cB (.int 0)))) (econs (sh (b2 pIx (b2 pIx (nmB 3) (nmB 5)) (cB (.int 1)))) (econs (sh (b2 pIx (nmB 2) (cB (.int 1)))) enil)))) enil)))))))))))
def m__law_sectors : FS := finF [true] 7 b__law_sectors

def el__law_signal_1 : En → R En (T × En) :=
  (ifV (ofB (b2 pEq (nmB 10) (cB (.str ".")))) (sh (cB (.str "."))) (sh (cB (.str "L"))))
theorem el__law_signal_1_ap (e0 : En) : el__law_signal_1 e0 = (ifV (ofB (b2 pEq (nmB 10) (cB (.str ".")))) (sh (cB (.str "."))) (sh (cB (.str "L")))) e0 := rfl
def b__law_signal : En → R En (Fl × En) :=
  (sq (setS 4 (callE m__law_draw [some 0, none] (econs (mvE 0) (econs (bv (bN pLen (bcons (b2 pIx (nmB 2) (cB (.int 0))) bnil))) enil))))
    (sq (setS 5 (callE m__law_draw [some 0, none] (econs (mvE 0) (econs (bv (bN pLen (bcons (nmB 2) bnil))) enil))))
    (sq (setS 6 (ixS 3 (callE m__law_draw [some 0, none] (econs (mvE 0) (econs (bv (bN pLen (bcons (nmB 3) bnil))) enil)))))
    (sq (ifS (ofV (e2 pEq (callE m__law_draw [some 0, none] (econs (mvE 0) (econs (sh (cB (.int 5))) enil))) (sh (cB (.int 0)))))
      (sq (setS 7 (eM "str" pJoin (cB (.str "")) (econs (lcE [10] (itS (sh (nmB 6))) (stS 10) yesT el__law_signal_1) enil)))
    (rtS (eN mkT (econs (sh (nmB 1)) (econs (sh (cB (.str "horn"))) (econs (sh (nmB 4)) (econs (sh (nmB 5)) (econs (sh (nmB 7)) (econs (e2 pAdd (sh (cB (.int 1))) (callE m__law_draw [some 0, none] (econs (mvE 0) (econs (sh (cB (.int 4))) enil)))) (econs (sh (cB (.int 0))) (econs (fzE (eN mkL enil)) enil)))))))))))
      skS)
    (sq (setS 8 (e2 pIx (eN mkL (econs (sh (cB (.int 1))) (econs (sh (cB (.int 2))) (econs (sh (cB (.int 10))) (econs (sh (cB (.int 40))) enil))))) (callE m__law_draw [some 0, none] (econs (mvE 0) (econs (sh (cB (.int 4))) enil)))))
    (sq (setS 9 (e2 pIx (eN mkL (econs (sh (cB (.int 0))) (econs (sh (cB (.int 1))) (econs (sh (cB (.int 3))) (econs (sh (cB (.int 20))) enil))))) (callE m__law_draw [some 0, none] (econs (mvE 0) (econs (sh (cB (.int 4))) enil)))))
    (rtS (eN mkT (econs (sh (nmB 1)) (econs (sh (cB (.str "light"))) (econs (sh (nmB 4)) (econs (sh (nmB 5)) (econs (sh (nmB 6)) (econs (sh (nmB 8)) (econs (sh (nmB 9)) (econs (fzE (callE m__law_sectors [some 0] (econs (mvE 0) enil))) enil))))))))))))))))
def m__law_signal : FS := finF [true, false, false, false] 11 b__law_signal

def el__law_names_1 : En → R En (T × En) :=
  (e2 pIx (sh (cB (.str "abcdefghijklmnopqrstuvwxyz"))) (callE m__law_draw [some 0, none] (econs (mvE 0) (econs (sh (cB (.int 26))) enil))))
theorem el__law_names_1_ap (e0 : En) : el__law_names_1 e0 = (e2 pIx (sh (cB (.str "abcdefghijklmnopqrstuvwxyz"))) (callE m__law_draw [some 0, none] (econs (mvE 0) (econs (sh (cB (.int 26))) enil)))) e0 := rfl
def el__law_names_2 : En → R En (T × En) :=
  (bv (b2 pAdd (b2 pAdd (bSl (nmB 2) noO (soO (nmB 3))) (b2 pIx (cB (.str "klqmxabz")) (b2 pMod (bN pInt (bcons (b2 pAdd (nmB 5) (nmB 4)) bnil)) (cB (.int 8))))) (bSl (nmB 2) (soO (nmB 3)) noO)))
theorem el__law_names_2_ap (e0 : En) : el__law_names_2 e0 = (bv (b2 pAdd (b2 pAdd (bSl (nmB 2) noO (soO (nmB 3))) (b2 pIx (cB (.str "klqmxabz")) (b2 pMod (bN pInt (bcons (b2 pAdd (nmB 5) (nmB 4)) bnil)) (cB (.int 8))))) (bSl (nmB 2) (soO (nmB 3)) noO))) e0 := rfl
def b__law_names : En → R En (Fl × En) :=
  (sq (setS 2 (eM "str" pJoin (cB (.str "")) (econs (lcE [5] (itR rgO1 (econs (callE m__law_draw [some 0, none] (econs (mvE 0) (econs (sh (cB (.int 5))) enil))) enil)) (stS 5) yesT el__law_names_1) enil)))
    (sq (setS 3 (callE m__law_draw [some 0, none] (econs (mvE 0) (econs (bv (b2 pAdd (bN pLen (bcons (nmB 2) bnil)) (cB (.int 1)))) enil))))
    (sq (setS 4 (callE m__law_draw [some 0, none] (econs (mvE 0) (econs (sh (cB (.int 8))) enil))))
    (rtS (lcE [5] (itR rgO1 (econs (sh (nmB 1)) enil)) (stS 5) yesT el__law_names_2)))))
def m__law_names : FS := finF [true, false] 6 b__law_names

def bo_Chart___init___1 : En → R En (Fl × En) :=
  (ifS (notT (ofV (sh (callA 2 m_is_row (bcons (nmB 3) (bcons (bN pLen (bcons (b2 pIx (nmB 1) (cB (.int 0))) bnil)) bnil))))))
      (raS "BadChart" ["at"] (econs (sh (nmB 2)) enil))
      skS)
theorem bo_Chart___init___1_ap (e0 : En) : bo_Chart___init___1 e0 = (ifS (notT (ofV (sh (callA 2 m_is_row (bcons (nmB 3) (bcons (bN pLen (bcons (b2 pIx (nmB 1) (cB (.int 0))) bnil)) bnil))))))
      (raS "BadChart" ["at"] (econs (sh (nmB 2)) enil))
      skS) e0 := rfl
def b_Chart___init__ : En → R En (Fl × En) :=
  (sq (ifS (notT (ofB (b3 (pCmp cLe) (pCmp cLe) (cB (.int 1)) (bN pLen (bcons (nmB 1) bnil)) (cB (.int 8)))))
      (raS "BadChart" ["at"] (econs (sh (b1 pNeg (cB (.int 1)))) enil))
      skS)
    (sq (forS (itE2 (econs (sh (nmB 1)) enil)) (gtup 2 (gcons (stS 2) (gcons (stS 3) gnil))) bo_Chart___init___1)
    (sq (flS 0 "Chart" "rows" (bv (bN pTuple (bcons (nmB 1) bnil))))
    (sq (flS 0 "Chart" "wide" (bv (bN pLen (bcons (b2 pIx (nmB 1) (cB (.int 0))) bnil))))
    (flS 0 "Chart" "high" (bv (bN pLen (bcons (nmB 1) bnil))))))))
def m_Chart___init__ : FS := finF [true, false] 4 b_Chart___init__

def bo__law_coast_1 : En → R En (Fl × En) :=
  (apS 2 (makeE "Signal" 9 m_Signal___init__ (econs (sh (b2 pIx (nmB 3) (cB (.int 0)))) (econs (sh (b2 pIx (nmB 3) (cB (.int 1)))) (econs (sh (b2 pIx (nmB 3) (cB (.int 2)))) (econs (sh (b2 pIx (nmB 3) (cB (.int 3)))) (econs (sh (b2 pIx (nmB 3) (cB (.int 4)))) (econs (sh (b2 pIx (nmB 3) (cB (.int 5)))) (econs (sh (b2 pIx (nmB 3) (cB (.int 6)))) (econs (fzE (bv (bN pList (bcons (b2 pIx (nmB 3) (cB (.int 7))) bnil)))) enil))))))))))
theorem bo__law_coast_1_ap (e0 : En) : bo__law_coast_1 e0 = (apS 2 (makeE "Signal" 9 m_Signal___init__ (econs (sh (b2 pIx (nmB 3) (cB (.int 0)))) (econs (sh (b2 pIx (nmB 3) (cB (.int 1)))) (econs (sh (b2 pIx (nmB 3) (cB (.int 2)))) (econs (sh (b2 pIx (nmB 3) (cB (.int 3)))) (econs (sh (b2 pIx (nmB 3) (cB (.int 4)))) (econs (sh (b2 pIx (nmB 3) (cB (.int 5)))) (econs (sh (b2 pIx (nmB 3) (cB (.int 6)))) (econs (fzE (bv (bN pList (bcons (b2 pIx (nmB 3) (cB (.int 7))) bnil)))) enil)))))))))) e0 := rfl
def b__law_coast : En → R En (Fl × En) :=
  (sq (setS 2 (eN mkL enil))
    (sq (forS (itS (sh (nmB 1))) (stS 3) bo__law_coast_1)
    (fun env => (rtS (makeE "Coast" 3 m_Coast___init__ (econs (fzE (makeE "Chart" 2 m_Chart___init__ (econs (fzE (bv (bN pList (bcons (nmB 0) bnil)))) enil))) (econs (sh (nmB 2)) enil)))) (frz 2 env))))
def m__law_coast : FS := finF [false, false] 4 b__law_coast

def te__law_fits_1 : En → R En (Bool × En) :=
  (ofB (b2 pIn (nmB 3) (nmB 2)))
theorem te__law_fits_1_ap (e0 : En) : te__law_fits_1 e0 = (ofB (b2 pIn (nmB 3) (nmB 2))) e0 := rfl
def el__law_fits_2 : En → R En (T × En) :=
  (sh (nmB 3))
theorem el__law_fits_2_ap (e0 : En) : el__law_fits_2 e0 = (sh (nmB 3)) e0 := rfl
def b__law_fits : En → R En (Fl × En) :=
  (sq (setS 2 (sh (cB (.str ".WRGY"))))
    (sq (ifS (ofB (b2 pEq (nmB 1) (cB (.str "horn"))))
      (setS 2 (sh (cB (.str ".L"))))
      skS)
    (sq (ifS (orT (notT (ofB (b3 (pCmp cLe) (pCmp cLe) (cB (.int 1)) (bN pLen (bcons (nmB 0) bnil)) (cB (.int 20))))) (ofB (b2 pEq (nmB 0) (b2 pMulA (cB (.str ".")) (bN pLen (bcons (nmB 0) bnil))))))
      (rtS (sh (cB (.bl false))))
      skS)
    (rtS (e2 pEq (eN pLen (econs (lcE [3] (itS (sh (nmB 0))) (stS 3) te__law_fits_1 el__law_fits_2) enil)) (bv (bN pLen (bcons (nmB 0) bnil))))))))
def m__law_fits : FS := finF [false, false] 4 b__law_fits

def bo__law_due_1 : En → R En (Fl × En) :=
  (sq (asgS (gtup 2 (gcons (stS 2) (gcons (stS 3) gnil))) (sh (b2 pIx (nmB 0) (nmB 1))))
    (ifS (orT (andT (notT (ofV (sh (callA 2 m__law_fits (bcons (nmB 2) (bcons (cB (.str "light")) bnil)))))) (notT (ofV (sh (callA 2 m__law_fits (bcons (nmB 2) (bcons (cB (.str "horn")) bnil))))))) (notT (ofB (b3 (pCmp cLe) (pCmp cLe) (cB (.int 1)) (nmB 3) (cB (.int 99))))))
      (rtS (mvE 1))
      skS))
theorem bo__law_due_1_ap (e0 : En) : bo__law_due_1 e0 = (sq (asgS (gtup 2 (gcons (stS 2) (gcons (stS 3) gnil))) (sh (b2 pIx (nmB 0) (nmB 1))))
    (ifS (orT (andT (notT (ofV (sh (callA 2 m__law_fits (bcons (nmB 2) (bcons (cB (.str "light")) bnil)))))) (notT (ofV (sh (callA 2 m__law_fits (bcons (nmB 2) (bcons (cB (.str "horn")) bnil))))))) (notT (ofB (b3 (pCmp cLe) (pCmp cLe) (cB (.int 1)) (nmB 3) (cB (.int 99))))))
      (rtS (mvE 1))
      skS)) e0 := rfl
def b__law_due : En → R En (Fl × En) :=
  (sq (ifS (ofB (b2 (pCmp cGt) (bN pLen (bcons (nmB 0) bnil)) (cB (.int 3))))
      (rtS (sh (b1 pNeg (cB (.int 1)))))
      skS)
    (sq (forS (itR rgO1 (econs (bv (bN pLen (bcons (nmB 0) bnil))) enil)) (stS 1) bo__law_due_1)
    (rtS (sh (cB .non)))))
def m__law_due : FS := finF [false] 4 b__law_due

def b__law_refused : En → R En (Fl × En) :=
  (sq (trS xtb (setS 1 (callE m_check_spares [none] (econs (sh (nmB 0)) enil)))
      [("BadSpare", some 2, fun xc xfs => (sq (ifS (andT (ofV (sh (callA 1 m__law_is_whole (bcons (xfB xtb xc xfs "at") bnil)))) (notT (ofTr (xiB xtb xc "BadSignal"))))
      (rtS (sh (xfB xtb xc xfs "at")))
      skS)
    (rtS (sh (cB (.str "?"))))))])
    (sq (ifS (ofB (b2 pIsNot (nmB 1) (cB .non)))
      (rtS (sh (cB (.str "?"))))
      skS)
    (rtS (sh (cB .non)))))
def m__law_refused : FS := finF [false] 3 b__law_refused

def el__law_rhythm_1 : En → R En (T × En) :=
  (e2 pIx (sh (cB (.str "L."))) (callE m__law_draw [some 0, none] (econs (mvE 0) (econs (sh (cB (.int 2))) enil))))
theorem el__law_rhythm_1_ap (e0 : En) : el__law_rhythm_1 e0 = (e2 pIx (sh (cB (.str "L."))) (callE m__law_draw [some 0, none] (econs (mvE 0) (econs (sh (cB (.int 2))) enil)))) e0 := rfl
def b__law_rhythm : En → R En (Fl × En) :=
  (sq (setS 2 (callE m__law_draw [some 0, none] (econs (mvE 0) (econs (sh (cB (.int 8))) enil))))
    (sq (ifS (ofTr (nmB 1))
      (setS 2 (bv (b2 pFdiv (nmB 2) (cB (.int 2)))))
      skS)
    (sq (ifS (ofB (b2 (pCmp cLt) (nmB 2) (cB (.int 2))))
      (rtS (callE m__law_word [some 0, none, none] (econsL 0 (econs (e2 pIx (eN mkL (econs (sh (cB (.str ".WRGY"))) (econs (sh (cB (.str "W."))) enil))) (callE m__law_draw [some 0, none] (econs (mvE 0) (econs (sh (cB (.int 2))) enil)))) (econs (e2 pIx (eN mkL (econs (sh (cB (.int 4))) (econs (sh (cB (.int 20))) enil))) (callE m__law_draw [some 0, none] (econs (mvE 0) (econs (sh (cB (.int 2))) enil)))) enil)))))
      skS)
    (sq (ifS (ofB (b2 (pCmp cLt) (nmB 2) (cB (.int 4))))
      (sq (setS 3 (e2 pAdd (sh (cB (.int 1))) (callE m__law_draw [some 0, none] (econs (mvE 0) (econs (sh (cB (.int 20))) enil)))))
    (sq (setS 4 (lcE [5] (itR rgO1 (econs (sh (nmB 3)) enil)) (stS 5) yesT el__law_rhythm_1))
    (sq (siS 4 (callE m__law_draw [some 0, none] (econs (mvE 0) (econs (sh (nmB 3)) enil))) (sh (cB (.str "L"))))
    (rtS (sh (bM "str" pJoin (cB (.str "")) (bcons (nmB 4) bnil)))))))
      skS)
    (rtS (e2 pIx (eN mkL (econs (sh (cB (.str ""))) (econs (sh (cB (.str "."))) (econs (sh (cB (.str "...."))) (econs (sh (cB (.str "WL"))) (econs (sh (cB (.str "L.W"))) (econs (bv (b2 pMulA (cB (.str "W")) (cB (.int 21)))) (econs (bv (b2 pMulA (cB (.str "L")) (cB (.int 21)))) (econs (sh (cB (.str "X"))) (econs (sh (cB (.str "w"))) (econs (sh (cB (.str "W "))) enil))))))))))) (callE m__law_draw [some 0, none] (econs (mvE 0) (econs (sh (cB (.int 10))) enil)))))))))
def m__law_rhythm : FS := finF [true, false] 6 b__law_rhythm

def bo__law_spares_1 : En → R En (Fl × En) :=
  (sq (setS 5 (e2 pIx (eN mkL (econs (sh (cB (.int 1))) (econs (sh (cB (.int 99))) (econs (e2 pAdd (sh (cB (.int 1))) (callE m__law_draw [some 0, none] (econs (mvE 0) (econs (sh (cB (.int 99))) enil)))) enil)))) (callE m__law_draw [some 0, none] (econs (mvE 0) (econs (sh (cB (.int 3))) enil)))))
    (sq (ifS (andT (notT (ofTr (nmB 2))) (ofV (e2 pEq (callE m__law_draw [some 0, none] (econs (mvE 0) (econs (sh (cB (.int 5))) enil))) (sh (cB (.int 0))))))
      (setS 5 (e2 pIx (eN mkL (econs (sh (cB (.int 0))) (econs (sh (b1 pNeg (cB (.int 1)))) (econs (sh (cB (.int 100))) (econs (bv (b2 pPow (cB (.int 10)) (cB (.int 30)))) (econs (sh (b1 pNeg (b2 pPow (cB (.int 10)) (cB (.int 30))))) enil)))))) (callE m__law_draw [some 0, none] (econs (mvE 0) (econs (sh (cB (.int 5))) enil)))))
      skS)
    (apS 3 (eN mkT (econs (callE m__law_rhythm [some 0, none] (econsL 0 (econs (orV (sh (nmB 2)) (e2 (pCmp cGt) (callE m__law_draw [some 0, none] (econs (mvE 0) (econs (sh (cB (.int 3))) enil))) (sh (cB (.int 0))))) enil))) (econs (sh (nmB 5)) enil))))))
theorem bo__law_spares_1_ap (e0 : En) : bo__law_spares_1 e0 = (sq (setS 5 (e2 pIx (eN mkL (econs (sh (cB (.int 1))) (econs (sh (cB (.int 99))) (econs (e2 pAdd (sh (cB (.int 1))) (callE m__law_draw [some 0, none] (econs (mvE 0) (econs (sh (cB (.int 99))) enil)))) enil)))) (callE m__law_draw [some 0, none] (econs (mvE 0) (econs (sh (cB (.int 3))) enil)))))
    (sq (ifS (andT (notT (ofTr (nmB 2))) (ofV (e2 pEq (callE m__law_draw [some 0, none] (econs (mvE 0) (econs (sh (cB (.int 5))) enil))) (sh (cB (.int 0))))))
      (setS 5 (e2 pIx (eN mkL (econs (sh (cB (.int 0))) (econs (sh (b1 pNeg (cB (.int 1)))) (econs (sh (cB (.int 100))) (econs (bv (b2 pPow (cB (.int 10)) (cB (.int 30)))) (econs (sh (b1 pNeg (b2 pPow (cB (.int 10)) (cB (.int 30))))) enil)))))) (callE m__law_draw [some 0, none] (econs (mvE 0) (econs (sh (cB (.int 5))) enil)))))
      skS)
    (apS 3 (eN mkT (econs (callE m__law_rhythm [some 0, none] (econsL 0 (econs (orV (sh (nmB 2)) (e2 (pCmp cGt) (callE m__law_draw [some 0, none] (econs (mvE 0) (econs (sh (cB (.int 3))) enil))) (sh (cB (.int 0))))) enil))) (econs (sh (nmB 5)) enil)))))) e0 := rfl
def b__law_spares : En → R En (Fl × En) :=
  (sq (setS 3 (eN mkL enil))
    (sq (forS (itR rgO1 (econs (sh (nmB 1)) enil)) (stS 4) bo__law_spares_1)
    (rtS (mvE 3))))
def m__law_spares : FS := finF [true, false, false] 6 b__law_spares

def el__law_rows_of_1 : En → R En (T × En) :=
  (methE "Signal" "row" 1 m_Signal_row (sh (nmB 1)) enil)
theorem el__law_rows_of_1_ap (e0 : En) : el__law_rows_of_1 e0 = (methE "Signal" "row" 1 m_Signal_row (sh (nmB 1)) enil) e0 := rfl
def b__law_rows_of : En → R En (Fl × En) :=
  (rtS (lcE [1] (itS (sh (b1 (pFld "Coast" "signals") (nmB 0)))) (stS 1) yesT el__law_rows_of_1))
def m__law_rows_of : FS := finF [false] 2 b__law_rows_of

def b__law_plain : En → R En (Fl × En) :=
  (rtS (bv (b2 pAdd (bSl (nmB 0) noO (soO (cB (.int 7)))) (bN mkT (bcons (bN pTuple (bcons (b2 pIx (nmB 0) (cB (.int 7))) bnil)) bnil)))))
def m__law_plain : FS := finF [false] 1 b__law_plain

def te__law_asks_1 : En → R En (Bool × En) :=
  (ofV (sh (callA 2 m__law_fits (bcons (b2 pIx (nmB 15) (cB (.int 0))) (bcons (b2 pIx (nmB 6) (cB (.int 1))) bnil)))))
theorem te__law_asks_1_ap (e0 : En) : te__law_asks_1 e0 = (ofV (sh (callA 2 m__law_fits (bcons (b2 pIx (nmB 15) (cB (.int 0))) (bcons (b2 pIx (nmB 6) (cB (.int 1))) bnil))))) e0 := rfl
def el__law_asks_2 : En → R En (T × En) :=
  (sh (nmB 15))
theorem el__law_asks_2_ap (e0 : En) : el__law_asks_2 e0 = (sh (nmB 15)) e0 := rfl
def bo__law_asks_3 : En → R En (Fl × En) :=
  (apS 5 (e2 pAdd (eN mkL (econs (eN mkT (econs (sh (b2 pIx (nmB 6) (cB (.int 4)))) (econs (sh (cB (.int 0))) enil))) enil)) (lcE [15] (itS (sh (nmB 3))) (stS 15) te__law_asks_1 el__law_asks_2)))
theorem bo__law_asks_3_ap (e0 : En) : bo__law_asks_3 e0 = (apS 5 (e2 pAdd (eN mkL (econs (eN mkT (econs (sh (b2 pIx (nmB 6) (cB (.int 4)))) (econs (sh (cB (.int 0))) enil))) enil)) (lcE [15] (itS (sh (nmB 3))) (stS 15) te__law_asks_1 el__law_asks_2))) e0 := rfl
def te__law_asks_4 : En → R En (Bool × En) :=
  (ofTr (bN pIsi (bcons (nmB 15) (bcons (cB (.ty "tuple")) bnil))))
theorem te__law_asks_4_ap (e0 : En) : te__law_asks_4 e0 = (ofTr (bN pIsi (bcons (nmB 15) (bcons (cB (.ty "tuple")) bnil)))) e0 := rfl
def el__law_asks_5 : En → R En (T × En) :=
  (sh (nmB 15))
theorem el__law_asks_5_ap (e0 : En) : el__law_asks_5 e0 = (sh (nmB 15)) e0 := rfl
def bo__law_asks_6 : En → R En (Fl × En) :=
  (sq (ifS (orT (notT (ofTr (bN pIsi (bcons (nmB 6) (bcons (cB (.ty "list")) bnil))))) (ofV (e2 pNe (eN pLen (econs (lcKp 6 [15] (stS 15) te__law_asks_4 el__law_asks_5) enil)) (bv (bN pLen (bcons (nmB 6) bnil))))))
      (rtS (sh (cB (.bl false))))
      skS)
    (apS 6 (eN mkT (econs (sh (cB (.str "W"))) (econs (sh (cB (.int 1))) enil)))))
theorem bo__law_asks_6_ap (e0 : En) : bo__law_asks_6 e0 = (sq (ifS (orT (notT (ofTr (bN pIsi (bcons (nmB 6) (bcons (cB (.ty "list")) bnil))))) (ofV (e2 pNe (eN pLen (econs (lcKp 6 [15] (stS 15) te__law_asks_4 el__law_asks_5) enil)) (bv (bN pLen (bcons (nmB 6) bnil))))))
      (rtS (sh (cB (.bl false))))
      skS)
    (apS 6 (eN mkT (econs (sh (cB (.str "W"))) (econs (sh (cB (.int 1))) enil))))) e0 := rfl
def el__law_asks_7 : En → R En (T × En) :=
  (callE m__law_draw [some 0, none] (econs (mvE 0) (econs (bv (bN pLen (bcons (nmB 6) bnil))) enil)))
theorem el__law_asks_7_ap (e0 : En) : el__law_asks_7 e0 = (callE m__law_draw [some 0, none] (econs (mvE 0) (econs (bv (bN pLen (bcons (nmB 6) bnil))) enil))) e0 := rfl
def el__law_asks_8 : En → R En (T × En) :=
  (bv (b2 pSub (bN pLen (bcons (nmB 6) bnil)) (cB (.int 1))))
theorem el__law_asks_8_ap (e0 : En) : el__law_asks_8 e0 = (bv (b2 pSub (bN pLen (bcons (nmB 6) bnil)) (cB (.int 1)))) e0 := rfl
def bo__law_asks_9 : En → R En (Fl × En) :=
  (sq (setS 6 (callE m__law_plain [none] (econs (sh (b2 pIx (nmB 2) (nmB 14))) enil)))
    (apS 13 (bv (b2 pAdd (b2 pAdd (bSl (nmB 6) noO (soO (cB (.int 4)))) (bN mkT (bcons (b2 pIx (b2 pIx (b2 pIx (nmB 5) (nmB 14)) (b2 pIx (nmB 10) (nmB 14))) (cB (.int 0))) bnil))) (bSl (nmB 6) (soO (cB (.int 5))) noO)))))
theorem bo__law_asks_9_ap (e0 : En) : bo__law_asks_9 e0 = (sq (setS 6 (callE m__law_plain [none] (econs (sh (b2 pIx (nmB 2) (nmB 14))) enil)))
    (apS 13 (bv (b2 pAdd (b2 pAdd (bSl (nmB 6) noO (soO (cB (.int 4)))) (bN mkT (bcons (b2 pIx (b2 pIx (b2 pIx (nmB 5) (nmB 14)) (b2 pIx (nmB 10) (nmB 14))) (cB (.int 0))) bnil))) (bSl (nmB 6) (soO (cB (.int 5))) noO))))) e0 := rfl
def bo__law_asks_10 : En → R En (Fl × En) :=
  (sq (fun env => (fun env => (setS 10 (lcE [6] (itS (sh (nmB 5))) (stS 6) yesT el__law_asks_7)) (frz 6 env)) (frz 5 env))
    (sq (ifS (ofB (b2 pEq (nmB 9) (cB (.int 1))))
      (fun env => (fun env => (setS 10 (lcE [6] (itS (sh (nmB 5))) (stS 6) yesT el__law_asks_8)) (frz 6 env)) (frz 5 env))
      skS)
    (sq (setS 11 (bv (bN pList (bcons (nmB 10) bnil))))
    (sq (fun env => (fun env => (fun env => (setS 12 (callE m_picked_coast [none, none, none] (econs (sh (nmB 4)) (econs (sh (nmB 7)) (econs (sh (nmB 10)) enil))))) (frz 4 env)) (frz 7 env)) (frz 10 env))
    (sq (setS 13 (eN mkL enil))
    (sq (forS (itR rgO1 (econs (bv (bN pLen (bcons (nmB 2) bnil))) enil)) (stS 14) bo__law_asks_9)
    (fun env => (ifS (orT (ofB (b2 pNe (callB 1 m__law_rows_of (bcons (nmB 12) bnil)) (nmB 13))) (orT (ofB (b2 pNe (b1 (pFld "Chart" "rows") (b1 (pFld "Coast" "chart") (nmB 12))) (bN pTuple (bcons (nmB 1) bnil)))) (orT (ofB (b2 pNe (nmB 10) (nmB 11))) (ofB (b2 pNe (nmB 7) (nmB 3))))))
      (rtS (sh (cB (.bl false))))
      skS) (frz 12 env))))))))
theorem bo__law_asks_10_ap (e0 : En) : bo__law_asks_10 e0 = (sq (fun env => (fun env => (setS 10 (lcE [6] (itS (sh (nmB 5))) (stS 6) yesT el__law_asks_7)) (frz 6 env)) (frz 5 env))
    (sq (ifS (ofB (b2 pEq (nmB 9) (cB (.int 1))))
      (fun env => (fun env => (setS 10 (lcE [6] (itS (sh (nmB 5))) (stS 6) yesT el__law_asks_8)) (frz 6 env)) (frz 5 env))
      skS)
    (sq (setS 11 (bv (bN pList (bcons (nmB 10) bnil))))
    (sq (fun env => (fun env => (fun env => (setS 12 (callE m_picked_coast [none, none, none] (econs (sh (nmB 4)) (econs (sh (nmB 7)) (econs (sh (nmB 10)) enil))))) (frz 4 env)) (frz 7 env)) (frz 10 env))
    (sq (setS 13 (eN mkL enil))
    (sq (forS (itR rgO1 (econs (bv (bN pLen (bcons (nmB 2) bnil))) enil)) (stS 14) bo__law_asks_9)
    (fun env => (ifS (orT (ofB (b2 pNe (callB 1 m__law_rows_of (bcons (nmB 12) bnil)) (nmB 13))) (orT (ofB (b2 pNe (b1 (pFld "Chart" "rows") (b1 (pFld "Coast" "chart") (nmB 12))) (bN pTuple (bcons (nmB 1) bnil)))) (orT (ofB (b2 pNe (nmB 10) (nmB 11))) (ofB (b2 pNe (nmB 7) (nmB 3))))))
      (rtS (sh (cB (.bl false))))
      skS) (frz 12 env)))))))) e0 := rfl
def el__law_asks_11 : En → R En (T × En) :=
  (callE m__law_plain [none] (econs (sh (nmB 6)) enil))
theorem el__law_asks_11_ap (e0 : En) : el__law_asks_11 e0 = (callE m__law_plain [none] (econs (sh (nmB 6)) enil)) e0 := rfl
def b__law_asks : En → R En (Fl × En) :=
  (sq (setS 4 (callE m__law_coast [none, none] (econs (sh (nmB 1)) (econs (sh (nmB 2)) enil))))
    (sq (setS 5 (eN mkL enil))
    (sq (forS (itS (sh (nmB 2))) (stS 6) bo__law_asks_3)
    (sq (setS 7 (bv (bN pList (bcons (nmB 3) bnil))))
    (sq (fun env => (fun env => (setS 8 (callE m_options [none, none] (econs (sh (nmB 4)) (econs (sh (nmB 7)) enil)))) (frz 4 env)) (frz 7 env))
    (sq (ifS (orT (notT (ofTr (bN pIsi (bcons (nmB 8) (bcons (cB (.ty "list")) bnil))))) (orT (ofB (b2 pNe (nmB 8) (nmB 5))) (ofB (b2 pNe (nmB 7) (nmB 3)))))
      (rtS (sh (cB (.bl false))))
      skS)
    (sq (forOS 8 (stS 6) bo__law_asks_6)
    (sq (fun env => (fun env => (ifS (ofB (b2 pNe (callB 2 m_options (bcons (nmB 4) (bcons (nmB 7) bnil))) (nmB 5)))
      (rtS (sh (cB (.bl false))))
      skS) (frz 4 env)) (frz 7 env))
    (sq (forS (itR rgO1 (econs (sh (cB (.int 2))) enil)) (stS 9) bo__law_asks_10)
    (fun env => (fun env => (rtS (e2 pEq (callE m__law_rows_of [none] (econs (sh (nmB 4)) enil)) (lcE [6] (itS (sh (nmB 2))) (stS 6) yesT el__law_asks_11))) (frz 4 env)) (frz 6 env)))))))))))
def m__law_asks : FS := finF [true, false, false, false] 16 b__law_asks

def bo_law_1 : En → R En (Fl × En) :=
  (sq (setS 3 (callE m__law_spares [some 1, none, none] (econsL 1 (econs (callE m__law_draw [some 1, none] (econs (mvE 1) (econs (sh (cB (.int 5))) enil))) (econs (sh (b2 pEq (nmB 2) (cB (.int 0)))) enil)))))
    (sq (setS 4 (bv (bN pList (bcons (nmB 3) bnil))))
    (ifS (orT (ofB (b2 pNe (callA 1 m__law_refused (bcons (nmB 3) bnil)) (callA 1 m__law_due (bcons (nmB 3) bnil)))) (ofB (b2 pNe (nmB 3) (nmB 4))))
      (rtS (sh (cB (.bl false))))
      skS)))
theorem bo_law_1_ap (e0 : En) : bo_law_1 e0 = (sq (setS 3 (callE m__law_spares [some 1, none, none] (econsL 1 (econs (callE m__law_draw [some 1, none] (econs (mvE 1) (econs (sh (cB (.int 5))) enil))) (econs (sh (b2 pEq (nmB 2) (cB (.int 0)))) enil)))))
    (sq (setS 4 (bv (bN pList (bcons (nmB 3) bnil))))
    (ifS (orT (ofB (b2 pNe (callA 1 m__law_refused (bcons (nmB 3) bnil)) (callA 1 m__law_due (bcons (nmB 3) bnil)))) (ofB (b2 pNe (nmB 3) (nmB 4))))
      (rtS (sh (cB (.bl false))))
      skS))) e0 := rfl
def el_law_2 : En → R En (T × En) :=
  (callE m__law_word [some 1, none, none] (econs (mvE 1) (econs (sh (cB (.str ".WRGY"))) (econs (sh (cB (.int 6))) enil))))
theorem el_law_2_ap (e0 : En) : el_law_2 e0 = (callE m__law_word [some 1, none, none] (econs (mvE 1) (econs (sh (cB (.str ".WRGY"))) (econs (sh (cB (.int 6))) enil)))) e0 := rfl
def el_law_3 : En → R En (T × En) :=
  (callE m__law_signal [some 1, none, none, none] (econs (mvE 1) (econs (sh (nmB 10)) (econs (sh (nmB 5)) (econs (sh (nmB 7)) enil)))))
theorem el_law_3_ap (e0 : En) : el_law_3 e0 = (callE m__law_signal [some 1, none, none, none] (econs (mvE 1) (econs (sh (nmB 10)) (econs (sh (nmB 5)) (econs (sh (nmB 7)) enil))))) e0 := rfl
def b_law : En → R En (Fl × En) :=
  (sq (setS 1 (callE m__law_feed [none] (econs (sh (nmB 0)) enil)))
    (sq (forS (itR rgO1 (econs (sh (cB (.int 3))) enil)) (stS 2) bo_law_1)
    (sq (setS 5 (callE m__law_rows [some 1, none] (econs (mvE 1) (econs (sh (cB (.int 3))) enil))))
    (sq (setS 6 (callE m__law_draw [some 1, none] (econs (mvE 1) (econs (sh (cB (.int 5))) enil))))
    (sq (ifS (ofV (e2 pEq (callE m__law_draw [some 1, none] (econs (mvE 1) (econs (sh (cB (.int 8))) enil))) (sh (cB (.int 0)))))
      (setS 6 (sh (cB (.int 8))))
      skS)
    (sq (setS 7 (lcE [9] (itR rgO1 (econs (sh (cB (.int 3))) enil)) (stS 9) yesT el_law_2))
    (sq (fun env => (fun env => (setS 8 (lcE [10] (itS (callE m__law_names [some 1, none] (econs (mvE 1) (econs (sh (nmB 6)) enil)))) (stS 10) yesT el_law_3)) (frz 5 env)) (frz 7 env))
    (sq (setS 3 (callE m__law_spares [some 1, none, none] (econsL 1 (econs (callE m__law_draw [some 1, none] (econs (mvE 1) (econs (sh (cB (.int 4))) enil))) (econs (sh (cB (.bl true))) enil)))))
    (sq (fun env => (fun env => (fun env => (ifS (orT (ofB (b2 pIsNot (callA 1 m__law_refused (bcons (nmB 3) bnil)) (cB .non))) (notT (ofV (callE m__law_asks [some 1, none, none, none] (econs (mvE 1) (econs (sh (nmB 5)) (econs (sh (nmB 8)) (econs (sh (nmB 3)) enil))))))))
      (rtS (sh (cB (.bl false))))
      skS) (frz 5 env)) (frz 8 env)) (frz 3 env))
    (sq (ifS (orT (ofB (b2 pIsNot (callA 1 m__law_refused (bcons (bN mkL (bcons (bN mkT (bcons (cB (.str "W")) (bcons (cB (.int 1)) bnil))) (bcons (bN mkT (bcons (cB (.str "L")) (bcons (cB (.int 99)) bnil))) (bcons (bN mkT (bcons (cB (.str "W.")) (bcons (cB (.int 5)) bnil))) bnil)))) bnil)) (cB .non))) (ofB (b2 pIsNot (callA 1 m__law_refused (bcons (bN mkL bnil) bnil)) (cB .non))))
      (rtS (sh (cB (.bl false))))
      skS)
    (rtS (andV (sh (b2 pEq (callA 1 m__law_refused (bcons (bN mkL (bcons (bN mkT (bcons (cB (.str "W")) (bcons (cB (.int 1)) bnil))) (bcons (bN mkT (bcons (cB (.str "L")) (bcons (cB (.int 99)) bnil))) (bcons (bN mkT (bcons (cB (.str "W.")) (bcons (cB (.int 5)) bnil))) (bcons (bN mkT (bcons (cB (.str "W")) (bcons (cB (.int 1)) bnil))) bnil))))) bnil)) (b1 pNeg (cB (.int 1))))) (sh (b2 pEq (callA 1 m__law_refused (bcons (bN mkL (bcons (bN mkT (bcons (cB (.str "L")) (bcons (cB (.int 1)) bnil))) (bcons (bN mkT (bcons (cB (.str "WL")) (bcons (cB (.int 0)) bnil))) bnil))) bnil)) (cB (.int 1))))))))))))))))
def m_law : FS := finF [false] 11 b_law

section
variable {P : Program} {w : World} {K : PySem.W.Frag} {mg : Str → Option Value} {base : Heap}
theorem G_is_word (T : Tx K mg) : VF P w K mg base 1 T.a_is_word T.d_is_word ["text"] m_is_word :=
  vf_mk (io := [false]) (N := n_is_word) T.F_is_word sc_is_word rfl fun cdv A outer s H vs E hr => by
  have tk : Takes (cxOf (L2.CX P w) P w K mg base n_is_word "is_word" (defScope s_is_word) T.a_is_word cdv A outer s H E) (fun cls d _ H => E cls d H) := takes_of rfl rfl rfl rfl
  have pOwn : PassesOwn (model P w) (A.deeper (envOfC "is_word" (defScope s_is_word) s.heap.objs.size T.a_is_word cdv)) (envOfC "is_word" (defScope s_is_word) s.heap.objs.size T.a_is_word cdv) (cxOf (L2.CX P w) P w K mg base n_is_word "is_word" (defScope s_is_word) T.a_is_word cdv A outer s H E).xe := passes_of rfl
  exact (vss_cons (vs_if (vt_not (vt_chain op_le prim_cmp op_le prim_cmp vb_int (vb_fn call_lenA prim_len (by rfl) T.z_len PySem.boot_len (vbs_cons (vb_name 0 rfl (.inl rfl)) vbs_nil)) (vb_globI (by rfl) T.c_MOST_LETTERS)))
      (vss_one (vs_ret (ve_b vb_bl)))
      vss_nil)
    (vss_cons (vs_for (b := bo_is_word_1) pOwn rfl (vi_seq (ve_b (vb_name 0 rfl (.inl rfl)))) (vg_name (i := 1) sc_is_word.nd rfl (.inl rfl) (.inl rfl) (fx_ne (by decide)))
      (vss_one (vs_if (vt_cmp (op_notInA (hu65 hr)) prim_notIn (vb_name 1 rfl (.inl rfl)) (vb_globS (by rfl) T.c_LETTERS) (by rfl))
      (vss_one (vs_ret (ve_b vb_bl)))
      vss_nil)))
    (vss_one (vs_ret (ve_b vb_bl)))))

theorem G_quarter (T : Tx K mg) : VF P w K mg base 3 T.a_quarter T.d_quarter ["dx", "dy"] m_quarter :=
  vf_mk (io := [false, false]) (N := n_quarter) T.F_quarter sc_quarter rfl fun cdv A outer s H vs E hr => by
  have tk : Takes (cxOf (L2.CX P w) P w K mg base n_quarter "quarter" (defScope s_quarter) T.a_quarter cdv A outer s H E) (fun cls d _ H => E cls d H) := takes_of rfl rfl rfl rfl
  have pOwn : PassesOwn (model P w) (A.deeper (envOfC "quarter" (defScope s_quarter) s.heap.objs.size T.a_quarter cdv)) (envOfC "quarter" (defScope s_quarter) s.heap.objs.size T.a_quarter cdv) (cxOf (L2.CX P w) P w K mg base n_quarter "quarter" (defScope s_quarter) T.a_quarter cdv A outer s H E).xe := passes_of rfl
  exact (vss_cons (vs_if (vw_pt (vw_and (vt_cmp (op_eq.or (op_eqD hr.units)) prim_eq (vb_name 0 rfl (.inl rfl)) vb_int (nomark _)) (vw_and1 (vt_cmp (op_eq.or (op_eqD hr.units)) prim_eq (vb_name 1 rfl (.inl rfl)) vb_int (nomark _)))))
      (vss_one (vs_raise (names := ["dx", "dy"]) T.ra_BadDirection rfl tk (hr.mono (by decide)) (by rfl) (ves_cons (ve_b (vb_name 0 rfl (.inl rfl))) (ves_cons (ve_b (vb_name 1 rfl (.inl rfl))) ves_nil))))
      vss_nil)
    (vss_cons (vs_if (vw_pt (vw_and (vt_cmp op_ge prim_cmp (vb_name 0 rfl (.inl rfl)) vb_int (nomark _)) (vw_and1 (vt_cmp op_lt prim_cmp (vb_name 1 rfl (.inl rfl)) vb_int (nomark _)))))
      (vss_one (vs_ret (ve_b vb_int)))
      vss_nil)
    (vss_cons (vs_if (vt_cmp op_gt prim_cmp (vb_name 0 rfl (.inl rfl)) vb_int (nomark _))
      (vss_one (vs_ret (ve_b vb_int)))
      vss_nil)
    (vss_cons (vs_if (vt_cmp op_gt prim_cmp (vb_name 1 rfl (.inl rfl)) vb_int (nomark _))
      (vss_one (vs_ret (ve_b vb_int)))
      vss_nil)
    (vss_one (vs_ret (ve_b vb_int)))))))

theorem G_cross (T : Tx K mg) : VF P w K mg base 1 T.a_cross T.d_cross ["u", "v"] m_cross :=
  vf_mk (io := [false, false]) (N := n_cross) T.F_cross sc_cross rfl fun cdv A outer s H vs E hr => by
  have tk : Takes (cxOf (L2.CX P w) P w K mg base n_cross "cross" (defScope s_cross) T.a_cross cdv A outer s H E) (fun cls d _ H => E cls d H) := takes_of rfl rfl rfl rfl
  have pOwn : PassesOwn (model P w) (A.deeper (envOfC "cross" (defScope s_cross) s.heap.objs.size T.a_cross cdv)) (envOfC "cross" (defScope s_cross) s.heap.objs.size T.a_cross cdv) (cxOf (L2.CX P w) P w K mg base n_cross "cross" (defScope s_cross) T.a_cross cdv A outer s H E).xe := passes_of rfl
  exact (vss_one (vs_ret (vv_bin op_sub prim_sub (vb_bin op_mulA prim_mulA (vb_ix ix_seq prim_ix (vb_name 0 rfl (.inl rfl)) vb_int (fun _ _ => rfl)) (vb_ix ix_seq prim_ix (vb_name 1 rfl (.inl rfl)) vb_int (fun _ _ => rfl))) (vb_bin op_mulA prim_mulA (vb_ix ix_seq prim_ix (vb_name 0 rfl (.inl rfl)) vb_int (fun _ _ => rfl)) (vb_ix ix_seq prim_ix (vb_name 1 rfl (.inl rfl)) vb_int (fun _ _ => rfl))))))

theorem G_same_ray (T : Tx K mg) : VF P w K mg base 4 T.a_same_ray T.d_same_ray ["u", "v"] m_same_ray :=
  vf_mk (io := [false, false]) (N := n_same_ray) T.F_same_ray sc_same_ray rfl fun cdv A outer s H vs E hr => by
  have tk : Takes (cxOf (L2.CX P w) P w K mg base n_same_ray "same_ray" (defScope s_same_ray) T.a_same_ray cdv A outer s H E) (fun cls d _ H => E cls d H) := takes_of rfl rfl rfl rfl
  have pOwn : PassesOwn (model P w) (A.deeper (envOfC "same_ray" (defScope s_same_ray) s.heap.objs.size T.a_same_ray cdv)) (envOfC "same_ray" (defScope s_same_ray) s.heap.objs.size T.a_same_ray cdv) (cxOf (L2.CX P w) P w K mg base n_same_ray "same_ray" (defScope s_same_ray) T.a_same_ray cdv A outer s H E).xe := passes_of rfl
  exact (vss_one (vs_ret (ve_and (ve_b (vb_cmp (op_eq.or (op_eqD hr.units)) prim_eq (vb_callA (ps := ["dx", "dy"]) (G_quarter T) (hr.mono (by decide)) (by rfl) T.g_quarter T.F_quarter.kp T.b_quarter tk (vbs_cons (vb_ix ix_seq prim_ix (vb_name 0 rfl (.inl rfl)) vb_int (fun _ _ => rfl)) (vbs_cons (vb_ix ix_seq prim_ix (vb_name 0 rfl (.inl rfl)) vb_int (fun _ _ => rfl)) vbs_nil))) (vb_callA (ps := ["dx", "dy"]) (G_quarter T) (hr.mono (by decide)) (by rfl) T.g_quarter T.F_quarter.kp T.b_quarter tk (vbs_cons (vb_ix ix_seq prim_ix (vb_name 1 rfl (.inl rfl)) vb_int (fun _ _ => rfl)) (vbs_cons (vb_ix ix_seq prim_ix (vb_name 1 rfl (.inl rfl)) vb_int (fun _ _ => rfl)) vbs_nil))) (nomark _))) (ve_one (ve_b (vb_cmp (op_eq.or (op_eqD hr.units)) prim_eq (vb_callA (ps := ["u", "v"]) (G_cross T) (hr.mono (by decide)) (by rfl) T.g_cross T.F_cross.kp T.b_cross tk (vbs_cons (vb_name 0 rfl (.inl rfl)) (vbs_cons (vb_name 1 rfl (.inl rfl)) vbs_nil))) vb_int (nomark _)))))))

theorem G_comes_before (T : Tx K mg) : VF P w K mg base 4 T.a_comes_before T.d_comes_before ["u", "v"] m_comes_before :=
  vf_mk (io := [false, false]) (N := n_comes_before) T.F_comes_before sc_comes_before rfl fun cdv A outer s H vs E hr => by
  have tk : Takes (cxOf (L2.CX P w) P w K mg base n_comes_before "comes_before" (defScope s_comes_before) T.a_comes_before cdv A outer s H E) (fun cls d _ H => E cls d H) := takes_of rfl rfl rfl rfl
  have pOwn : PassesOwn (model P w) (A.deeper (envOfC "comes_before" (defScope s_comes_before) s.heap.objs.size T.a_comes_before cdv)) (envOfC "comes_before" (defScope s_comes_before) s.heap.objs.size T.a_comes_before cdv) (cxOf (L2.CX P w) P w K mg base n_comes_before "comes_before" (defScope s_comes_before) T.a_comes_before cdv A outer s H E).xe := passes_of rfl
  exact (vss_cons (vs_set (i := 2) sc_comes_before.nd rfl (.inl rfl) (.inl rfl) (fx_ne (by decide)) (ve_b (vb_callA (ps := ["dx", "dy"]) (G_quarter T) (hr.mono (by decide)) (by rfl) T.g_quarter T.F_quarter.kp T.b_quarter tk (vbs_cons (vb_ix ix_seq prim_ix (vb_name 0 rfl (.inl rfl)) vb_int (fun _ _ => rfl)) (vbs_cons (vb_ix ix_seq prim_ix (vb_name 0 rfl (.inl rfl)) vb_int (fun _ _ => rfl)) vbs_nil)))))
    (vss_cons (vs_set (i := 3) sc_comes_before.nd rfl (.inl rfl) (.inl rfl) (fx_ne (by decide)) (ve_b (vb_callA (ps := ["dx", "dy"]) (G_quarter T) (hr.mono (by decide)) (by rfl) T.g_quarter T.F_quarter.kp T.b_quarter tk (vbs_cons (vb_ix ix_seq prim_ix (vb_name 1 rfl (.inl rfl)) vb_int (fun _ _ => rfl)) (vbs_cons (vb_ix ix_seq prim_ix (vb_name 1 rfl (.inl rfl)) vb_int (fun _ _ => rfl)) vbs_nil)))))
    (vss_cons (vs_if (vt_cmp (op_ne.or (op_neD hr.units)) prim_ne (vb_name 2 rfl (.inl rfl)) (vb_name 3 rfl (.inl rfl)) (nomark _))
      (vss_one (vs_ret (ve_b (vb_cmp op_lt prim_cmp (vb_name 2 rfl (.inl rfl)) (vb_name 3 rfl (.inl rfl)) (nomark _)))))
      vss_nil)
    (vss_one (vs_ret (ve_b (vb_cmp op_gt prim_cmp (vb_callA (ps := ["u", "v"]) (G_cross T) (hr.mono (by decide)) (by rfl) T.g_cross T.F_cross.kp T.b_cross tk (vbs_cons (vb_name 0 rfl (.inl rfl)) (vbs_cons (vb_name 1 rfl (.inl rfl)) vbs_nil))) vb_int (nomark _))))))))

theorem G_lies_from (T : Tx K mg) : VF P w K mg base 5 T.a_lies_from T.d_lies_from ["u", "v", "w"] m_lies_from :=
  vf_mk (io := [false, false, false]) (N := n_lies_from) T.F_lies_from sc_lies_from rfl fun cdv A outer s H vs E hr => by
  have tk : Takes (cxOf (L2.CX P w) P w K mg base n_lies_from "lies_from" (defScope s_lies_from) T.a_lies_from cdv A outer s H E) (fun cls d _ H => E cls d H) := takes_of rfl rfl rfl rfl
  have pOwn : PassesOwn (model P w) (A.deeper (envOfC "lies_from" (defScope s_lies_from) s.heap.objs.size T.a_lies_from cdv)) (envOfC "lies_from" (defScope s_lies_from) s.heap.objs.size T.a_lies_from cdv) (cxOf (L2.CX P w) P w K mg base n_lies_from "lies_from" (defScope s_lies_from) T.a_lies_from cdv A outer s H E).xe := passes_of rfl
  exact (vss_cons (vs_if (vw_pt (vw_or (vt_v (ve_b (vb_callA (ps := ["u", "v"]) (G_same_ray T) (hr.mono (by decide)) (by rfl) T.g_same_ray T.F_same_ray.kp T.b_same_ray tk (vbs_cons (vb_name 1 rfl (.inl rfl)) (vbs_cons (vb_name 2 rfl (.inl rfl)) vbs_nil))))) (vw_or1 (vt_v (ve_b (vb_callA (ps := ["u", "v"]) (G_same_ray T) (hr.mono (by decide)) (by rfl) T.g_same_ray T.F_same_ray.kp T.b_same_ray tk (vbs_cons (vb_name 0 rfl (.inl rfl)) (vbs_cons (vb_name 1 rfl (.inl rfl)) vbs_nil))))))))
      (vss_one (vs_ret (ve_b vb_bl)))
      vss_nil)
    (vss_cons (vs_if (vt_v (ve_b (vb_callA (ps := ["u", "v"]) (G_same_ray T) (hr.mono (by decide)) (by rfl) T.g_same_ray T.F_same_ray.kp T.b_same_ray tk (vbs_cons (vb_name 0 rfl (.inl rfl)) (vbs_cons (vb_name 2 rfl (.inl rfl)) vbs_nil)))))
      (vss_one (vs_ret (ve_b vb_bl)))
      vss_nil)
    (vss_cons (vs_if (vt_v (ve_b (vb_callA (ps := ["u", "v"]) (G_comes_before T) (hr.mono (by decide)) (by rfl) T.g_comes_before T.F_comes_before.kp T.b_comes_before tk (vbs_cons (vb_name 1 rfl (.inl rfl)) (vbs_cons (vb_name 2 rfl (.inl rfl)) vbs_nil)))))
      (vss_one (vs_ret (ve_and (ve_b (vb_callA (ps := ["u", "v"]) (G_comes_before T) (hr.mono (by decide)) (by rfl) T.g_comes_before T.F_comes_before.kp T.b_comes_before tk (vbs_cons (vb_name 1 rfl (.inl rfl)) (vbs_cons (vb_name 0 rfl (.inl rfl)) vbs_nil)))) (ve_one (ve_b (vb_callA (ps := ["u", "v"]) (G_comes_before T) (hr.mono (by decide)) (by rfl) T.g_comes_before T.F_comes_before.kp T.b_comes_before tk (vbs_cons (vb_name 0 rfl (.inl rfl)) (vbs_cons (vb_name 2 rfl (.inl rfl)) vbs_nil))))))))
      vss_nil)
    (vss_one (vs_ret (ve_or (ve_b (vb_callA (ps := ["u", "v"]) (G_comes_before T) (hr.mono (by decide)) (by rfl) T.g_comes_before T.F_comes_before.kp T.b_comes_before tk (vbs_cons (vb_name 1 rfl (.inl rfl)) (vbs_cons (vb_name 0 rfl (.inl rfl)) vbs_nil)))) (ve_one (ve_b (vb_callA (ps := ["u", "v"]) (G_comes_before T) (hr.mono (by decide)) (by rfl) T.g_comes_before T.F_comes_before.kp T.b_comes_before tk (vbs_cons (vb_name 0 rfl (.inl rfl)) (vbs_cons (vb_name 2 rfl (.inl rfl)) vbs_nil)))))))))))

theorem G_direction_of (T : Tx K mg) : VF P w K mg base 1 T.a_direction_of T.d_direction_of ["sector"] m_direction_of :=
  vf_mk (io := [false]) (N := n_direction_of) T.F_direction_of sc_direction_of rfl fun cdv A outer s H vs E hr => by
  have tk : Takes (cxOf (L2.CX P w) P w K mg base n_direction_of "direction_of" (defScope s_direction_of) T.a_direction_of cdv A outer s H E) (fun cls d _ H => E cls d H) := takes_of rfl rfl rfl rfl
  have pOwn : PassesOwn (model P w) (A.deeper (envOfC "direction_of" (defScope s_direction_of) s.heap.objs.size T.a_direction_of cdv)) (envOfC "direction_of" (defScope s_direction_of) s.heap.objs.size T.a_direction_of cdv) (cxOf (L2.CX P w) P w K mg base n_direction_of "direction_of" (defScope s_direction_of) T.a_direction_of cdv A outer s H E).xe := passes_of rfl
  exact (vss_one (vs_ret (ve_tup (ves_cons (ve_b (vb_ix ix_seq prim_ix (vb_name 0 rfl (.inl rfl)) vb_int (fun _ _ => rfl))) (ves_cons (ve_b (vb_ix ix_seq prim_ix (vb_name 0 rfl (.inl rfl)) vb_int (fun _ _ => rfl))) ves_nil)))))

theorem G_is_sector_alone (T : Tx K mg) : VF P w K mg base 1 T.a_is_sector_alone T.d_is_sector_alone ["sector"] m_is_sector_alone :=
  vf_mk (io := [false]) (N := n_is_sector_alone) T.F_is_sector_alone sc_is_sector_alone rfl fun cdv A outer s H vs E hr => by
  have tk : Takes (cxOf (L2.CX P w) P w K mg base n_is_sector_alone "is_sector_alone" (defScope s_is_sector_alone) T.a_is_sector_alone cdv A outer s H E) (fun cls d _ H => E cls d H) := takes_of rfl rfl rfl rfl
  have pOwn : PassesOwn (model P w) (A.deeper (envOfC "is_sector_alone" (defScope s_is_sector_alone) s.heap.objs.size T.a_is_sector_alone cdv)) (envOfC "is_sector_alone" (defScope s_is_sector_alone) s.heap.objs.size T.a_is_sector_alone cdv) (cxOf (L2.CX P w) P w K mg base n_is_sector_alone "is_sector_alone" (defScope s_is_sector_alone) T.a_is_sector_alone cdv A outer s H E).xe := passes_of rfl
  exact (vss_cons (vs_asg (ve_b (vb_name 0 rfl (.inl rfl))) (vg_tup (n := 3) rfl (vgs_cons (vg_name (i := 1) sc_is_sector_alone.nd rfl (.inl rfl) (.inl rfl) (fx_ne (by decide))) (vgs_cons (vg_name (i := 2) sc_is_sector_alone.nd rfl (.inl rfl) (.inl rfl) (fx_ne (by decide))) (vgs_cons (vg_name (i := 3) sc_is_sector_alone.nd rfl (.inl rfl) (.inl rfl) (fx_ne (by decide))) vgs_nil)))))
    (vss_cons (vs_if (vw_pt (vw_or (vt_not (vt_chain op_le prim_cmp op_le prim_cmp (vb_un un_neg prim_neg (vb_globI (by rfl) T.c_MOST_PART)) (vb_name 1 rfl (.inl rfl)) (vb_globI (by rfl) T.c_MOST_PART))) (vw_or1 (vt_not (vt_chain op_le prim_cmp op_le prim_cmp (vb_un un_neg prim_neg (vb_globI (by rfl) T.c_MOST_PART)) (vb_name 2 rfl (.inl rfl)) (vb_globI (by rfl) T.c_MOST_PART))))))
      (vss_one (vs_ret (ve_b vb_bl)))
      vss_nil)
    (vss_cons (vs_if (vw_pt (vw_and (vt_cmp (op_eq.or (op_eqD hr.units)) prim_eq (vb_name 1 rfl (.inl rfl)) vb_int (nomark _)) (vw_and1 (vt_cmp (op_eq.or (op_eqD hr.units)) prim_eq (vb_name 2 rfl (.inl rfl)) vb_int (nomark _)))))
      (vss_one (vs_ret (ve_b vb_bl)))
      vss_nil)
    (vss_one (vs_ret (ve_b (vb_cmp (op_inA (hu65 hr)) prim_in (vb_name 3 rfl (.inl rfl)) (vb_globT (by rfl) T.c_GLASSES) (by rfl))))))))

theorem G_follows (T : Tx K mg) : VF P w K mg base 6 T.a_follows T.d_follows ["sectors", "at"] m_follows :=
  vf_mk (io := [false, false]) (N := n_follows) T.F_follows sc_follows rfl fun cdv A outer s H vs E hr => by
  have tk : Takes (cxOf (L2.CX P w) P w K mg base n_follows "follows" (defScope s_follows) T.a_follows cdv A outer s H E) (fun cls d _ H => E cls d H) := takes_of rfl rfl rfl rfl
  have pOwn : PassesOwn (model P w) (A.deeper (envOfC "follows" (defScope s_follows) s.heap.objs.size T.a_follows cdv)) (envOfC "follows" (defScope s_follows) s.heap.objs.size T.a_follows cdv) (cxOf (L2.CX P w) P w K mg base n_follows "follows" (defScope s_follows) T.a_follows cdv A outer s H E).xe := passes_of rfl
  exact (vss_cons (vs_set (i := 2) sc_follows.nd rfl (.inl rfl) (.inl rfl) (fx_ne (by decide)) (ve_call (G_direction_of T) (hr.mono (by decide)) (by rfl) T.g_direction_of T.F_direction_of.kp T.b_direction_of tk (vks_cons (vo_val (ve_b (vb_ix ix_seq prim_ix (vb_name 0 rfl (.inl rfl)) (vb_name 1 rfl (.inl rfl)) (fun _ _ => rfl)))) vks_nil)))
    (vss_cons (vs_set (i := 3) sc_follows.nd rfl (.inl rfl) (.inl rfl) (fx_ne (by decide)) (ve_call (G_direction_of T) (hr.mono (by decide)) (by rfl) T.g_direction_of T.F_direction_of.kp T.b_direction_of tk (vks_cons (vo_val (ve_b (vb_ix ix_seq prim_ix (vb_name 0 rfl (.inl rfl)) vb_int (fun _ _ => rfl)))) vks_nil)))
    (vss_cons (vs_set (i := 4) sc_follows.nd rfl (.inl rfl) (.inl rfl) (fx_ne (by decide)) (ve_call (G_direction_of T) (hr.mono (by decide)) (by rfl) T.g_direction_of T.F_direction_of.kp T.b_direction_of tk (vks_cons (vo_val (ve_b (vb_ix ix_seq prim_ix (vb_name 0 rfl (.inl rfl)) (vb_bin op_sub prim_sub (vb_name 1 rfl (.inl rfl)) vb_int) (fun _ _ => rfl)))) vks_nil)))
    (vss_cons (vs_if (vw_pt (vw_or (vt_v (ve_b (vb_callA (ps := ["u", "v"]) (G_same_ray T) (hr.mono (by decide)) (by rfl) T.g_same_ray T.F_same_ray.kp T.b_same_ray tk (vbs_cons (vb_name 2 rfl (.inl rfl)) (vbs_cons (vb_name 3 rfl (.inl rfl)) vbs_nil))))) (vw_or1 (vt_v (ve_b (vb_callA (ps := ["u", "v"]) (G_same_ray T) (hr.mono (by decide)) (by rfl) T.g_same_ray T.F_same_ray.kp T.b_same_ray tk (vbs_cons (vb_name 2 rfl (.inl rfl)) (vbs_cons (vb_name 4 rfl (.inl rfl)) vbs_nil))))))))
      (vss_one (vs_ret (ve_b vb_bl)))
      vss_nil)
    (vss_one (vs_ret (ve_b (vb_callA (ps := ["u", "v", "w"]) (G_lies_from T) (hr.mono (by decide)) (by rfl) T.g_lies_from T.F_lies_from.kp T.b_lies_from tk (vbs_cons (vb_name 2 rfl (.inl rfl)) (vbs_cons (vb_name 4 rfl (.inl rfl)) (vbs_cons (vb_name 3 rfl (.inl rfl)) vbs_nil)))))))))))

theorem G_check_sectors (T : Tx K mg) : VF P w K mg base 7 T.a_check_sectors T.d_check_sectors ["sectors"] m_check_sectors :=
  vf_mk (io := [false]) (N := n_check_sectors) T.F_check_sectors sc_check_sectors rfl fun cdv A outer s H vs E hr => by
  have tk : Takes (cxOf (L2.CX P w) P w K mg base n_check_sectors "check_sectors" (defScope s_check_sectors) T.a_check_sectors cdv A outer s H E) (fun cls d _ H => E cls d H) := takes_of rfl rfl rfl rfl
  have pOwn : PassesOwn (model P w) (A.deeper (envOfC "check_sectors" (defScope s_check_sectors) s.heap.objs.size T.a_check_sectors cdv)) (envOfC "check_sectors" (defScope s_check_sectors) s.heap.objs.size T.a_check_sectors cdv) (cxOf (L2.CX P w) P w K mg base n_check_sectors "check_sectors" (defScope s_check_sectors) T.a_check_sectors cdv A outer s H E).xe := passes_of rfl
  exact (vss_cons (vs_if (vt_not (vt_chain op_le prim_cmp op_le prim_cmp vb_int (vb_fn call_lenA prim_len (by rfl) T.z_len PySem.boot_len (vbs_cons (vb_name 0 rfl (.inl rfl)) vbs_nil)) (vb_globI (by rfl) T.c_MOST_SECTORS)))
      (vss_one (vs_raise (names := ["at"]) T.ra_BadSectors rfl tk (hr.mono (by decide)) (by rfl) (ves_cons (ve_b (vb_un un_neg prim_neg vb_int)) ves_nil)))
      vss_nil)
    (vss_one (vs_for (b := bo_check_sectors_1) pOwn rfl (vi_enum2 (by rfl) T.z_enumerate (ves_cons (ve_b (vb_name 0 rfl (.inl rfl))) ves_nil)) (vg_tup (n := 2) rfl (vgs_cons (vg_name (i := 1) sc_check_sectors.nd rfl (.inl rfl) (.inl rfl) (fx_ne (by decide))) (vgs_cons (vg_name (i := 2) sc_check_sectors.nd rfl (.inl rfl) (.inl rfl) (fx_ne (by decide))) vgs_nil)))
      (vss_cons (vs_if (vt_not (vt_v (ve_b (vb_callA (ps := ["sector"]) (G_is_sector_alone T) (hr.mono (by decide)) (by rfl) T.g_is_sector_alone T.F_is_sector_alone.kp T.b_is_sector_alone tk (vbs_cons (vb_name 2 rfl (.inl rfl)) vbs_nil)))))
      (vss_one (vs_raise (names := ["at"]) T.ra_BadSectors rfl tk (hr.mono (by decide)) (by rfl) (ves_cons (ve_b (vb_name 1 rfl (.inl rfl))) ves_nil)))
      vss_nil)
    (vss_one (vs_if (vw_pt (vw_and (vt_cmp op_gt prim_cmp (vb_name 1 rfl (.inl rfl)) vb_int (nomark _)) (vw_and1 (vt_not (vt_v (ve_b (vb_callA (ps := ["sectors", "at"]) (G_follows T) (hr.mono (by decide)) (by rfl) T.g_follows T.F_follows.kp T.b_follows tk (vbs_cons (vb_name 0 rfl (.inl rfl)) (vbs_cons (vb_name 1 rfl (.inl rfl)) vbs_nil)))))))))
      (vss_one (vs_raise (names := ["at"]) T.ra_BadSectors rfl tk (hr.mono (by decide)) (by rfl) (ves_cons (ve_b (vb_name 1 rfl (.inl rfl))) ves_nil)))
      vss_nil))))))

theorem G_is_name (T : Tx K mg) : VF P w K mg base 1 T.a_is_name T.d_is_name ["text"] m_is_name :=
  vf_mk (io := [false]) (N := n_is_name) T.F_is_name sc_is_name rfl fun cdv A outer s H vs E hr => by
  have tk : Takes (cxOf (L2.CX P w) P w K mg base n_is_name "is_name" (defScope s_is_name) T.a_is_name cdv A outer s H E) (fun cls d _ H => E cls d H) := takes_of rfl rfl rfl rfl
  have pOwn : PassesOwn (model P w) (A.deeper (envOfC "is_name" (defScope s_is_name) s.heap.objs.size T.a_is_name cdv)) (envOfC "is_name" (defScope s_is_name) s.heap.objs.size T.a_is_name cdv) (cxOf (L2.CX P w) P w K mg base n_is_name "is_name" (defScope s_is_name) T.a_is_name cdv A outer s H E).xe := passes_of rfl
  exact (vss_cons (vs_if (vt_not (vt_chain op_le prim_cmp op_le prim_cmp vb_int (vb_fn call_lenA prim_len (by rfl) T.z_len PySem.boot_len (vbs_cons (vb_name 0 rfl (.inl rfl)) vbs_nil)) vb_int))
      (vss_one (vs_ret (ve_b vb_bl)))
      vss_nil)
    (vss_cons (vs_for (b := bo_is_name_1) pOwn rfl (vi_seq (ve_b (vb_name 0 rfl (.inl rfl)))) (vg_name (i := 1) sc_is_name.nd rfl (.inl rfl) (.inl rfl) (fx_ne (by decide)))
      (vss_one (vs_if (vt_cmp (op_notInA (hu65 hr)) prim_notIn (vb_name 1 rfl (.inl rfl)) vb_str (by rfl))
      (vss_one (vs_ret (ve_b vb_bl)))
      vss_nil)))
    (vss_one (vs_ret (ve_b vb_bl)))))

theorem G_fits_kind (T : Tx K mg) : VF P w K mg base 2 T.a_fits_kind T.d_fits_kind ["rhythm", "kind"] m_fits_kind :=
  vf_mk (io := [false, false]) (N := n_fits_kind) T.F_fits_kind sc_fits_kind rfl fun cdv A outer s H vs E hr => by
  have tk : Takes (cxOf (L2.CX P w) P w K mg base n_fits_kind "fits_kind" (defScope s_fits_kind) T.a_fits_kind cdv A outer s H E) (fun cls d _ H => E cls d H) := takes_of rfl rfl rfl rfl
  have pOwn : PassesOwn (model P w) (A.deeper (envOfC "fits_kind" (defScope s_fits_kind) s.heap.objs.size T.a_fits_kind cdv)) (envOfC "fits_kind" (defScope s_fits_kind) s.heap.objs.size T.a_fits_kind cdv) (cxOf (L2.CX P w) P w K mg base n_fits_kind "fits_kind" (defScope s_fits_kind) T.a_fits_kind cdv A outer s H E).xe := passes_of rfl
  exact (vss_cons (vs_set (i := 2) sc_fits_kind.nd rfl (.inl rfl) (.inl rfl) (fx_ne (by decide)) (ve_b (vb_globS (by rfl) T.c_LIGHT_LETTERS)))
    (vss_cons (vs_if (vt_cmp (op_eq.or (op_eqD hr.units)) prim_eq (vb_name 1 rfl (.inl rfl)) vb_str (nomark _))
      (vss_one (vs_set (i := 2) sc_fits_kind.nd rfl (.inl rfl) (.inl rfl) (fx_ne (by decide)) (ve_b (vb_globS (by rfl) T.c_HORN_LETTERS))))
      vss_nil)
    (vss_cons (vs_if (vt_not (vt_v (ve_b (vb_callA (ps := ["text"]) (G_is_word T) (hr.mono (by decide)) (by rfl) T.g_is_word T.F_is_word.kp T.b_is_word tk (vbs_cons (vb_name 0 rfl (.inl rfl)) vbs_nil)))))
      (vss_one (vs_ret (ve_b vb_bl)))
      vss_nil)
    (vss_cons (vs_for (b := bo_fits_kind_1) pOwn rfl (vi_seq (ve_b (vb_name 0 rfl (.inl rfl)))) (vg_name (i := 3) sc_fits_kind.nd rfl (.inl rfl) (.inl rfl) (fx_ne (by decide)))
      (vss_one (vs_if (vt_cmp (op_notInA (hu65 hr)) prim_notIn (vb_name 3 rfl (.inl rfl)) (vb_name 2 rfl (.inl rfl)) (by rfl))
      (vss_one (vs_ret (ve_b vb_bl)))
      vss_nil)))
    (vss_one (vs_ret (ve_b (vb_cmp (op_ne.or (op_neD hr.units)) prim_ne (vb_name 0 rfl (.inl rfl)) (vb_bin op_mulA prim_mulA vb_str (vb_fn call_lenA prim_len (by rfl) T.z_len PySem.boot_len (vbs_cons (vb_name 0 rfl (.inl rfl)) vbs_nil))) (nomark _)))))))))

theorem G_sectors_fit (T : Tx K mg) : VF P w K mg base 8 T.a_sectors_fit T.d_sectors_fit ["sectors", "kind"] m_sectors_fit :=
  vf_mk (io := [false, false]) (N := n_sectors_fit) T.F_sectors_fit sc_sectors_fit rfl fun cdv A outer s H vs E hr => by
  have tk : Takes (cxOf (L2.CX P w) P w K mg base n_sectors_fit "sectors_fit" (defScope s_sectors_fit) T.a_sectors_fit cdv A outer s H E) (fun cls d _ H => E cls d H) := takes_of rfl rfl rfl rfl
  have pOwn : PassesOwn (model P w) (A.deeper (envOfC "sectors_fit" (defScope s_sectors_fit) s.heap.objs.size T.a_sectors_fit cdv)) (envOfC "sectors_fit" (defScope s_sectors_fit) s.heap.objs.size T.a_sectors_fit cdv) (cxOf (L2.CX P w) P w K mg base n_sectors_fit "sectors_fit" (defScope s_sectors_fit) T.a_sectors_fit cdv A outer s H E).xe := passes_of rfl
  exact (vss_cons (vs_if (vt_cmp (op_eq.or (op_eqD hr.units)) prim_eq (vb_name 1 rfl (.inl rfl)) vb_str (nomark _))
      (vss_one (vs_ret (ve_b (vb_cmp (op_eq.or (op_eqD hr.units)) prim_eq (vb_fn call_lenA prim_len (by rfl) T.z_len PySem.boot_len (vbs_cons (vb_name 0 rfl (.inl rfl)) vbs_nil)) vb_int (nomark _)))))
      vss_nil)
    (vss_cons (vs_try (tb := xtb) T.xt rfl rfl tk (fun W1 pn1 xe1 tk pOwn => (vss_one (vs_expr (ve_call (G_check_sectors T) (hr.mono (by decide)) (by rfl) T.g_check_sectors T.F_check_sectors.kp T.b_check_sectors tk (vks_cons (vo_val (ve_b (vb_name 0 rfl (.inl rfl)))) vks_nil)))))
      (.only ⟨by rfl, by decide, .inl T.gC_BadSectors⟩ (clV_own T.gC_BadSectors) (fun a oe cls d pn xc xfs cau => (vss_one (vs_ret (ve_b vb_bl))))))
    (vss_one (vs_ret (ve_b vb_bl)))))

theorem G_most_height (T : Tx K mg) : VF P w K mg base 1 T.a_most_height T.d_most_height ["kind"] m_most_height :=
  vf_mk (io := [false]) (N := n_most_height) T.F_most_height sc_most_height rfl fun cdv A outer s H vs E hr => by
  have tk : Takes (cxOf (L2.CX P w) P w K mg base n_most_height "most_height" (defScope s_most_height) T.a_most_height cdv A outer s H E) (fun cls d _ H => E cls d H) := takes_of rfl rfl rfl rfl
  have pOwn : PassesOwn (model P w) (A.deeper (envOfC "most_height" (defScope s_most_height) s.heap.objs.size T.a_most_height cdv)) (envOfC "most_height" (defScope s_most_height) s.heap.objs.size T.a_most_height cdv) (cxOf (L2.CX P w) P w K mg base n_most_height "most_height" (defScope s_most_height) T.a_most_height cdv A outer s H E).xe := passes_of rfl
  exact (vss_cons (vs_if (vt_cmp (op_eq.or (op_eqD hr.units)) prim_eq (vb_name 0 rfl (.inl rfl)) vb_str (nomark _))
      (vss_one (vs_ret (ve_b vb_int)))
      vss_nil)
    (vss_one (vs_ret (ve_b vb_int))))

theorem G_first_fault (T : Tx K mg) : VF P w K mg base 9 T.a_first_fault T.d_first_fault ["row"] m_first_fault :=
  vf_mk (io := [false]) (N := n_first_fault) T.F_first_fault sc_first_fault rfl fun cdv A outer s H vs E hr => by
  have tk : Takes (cxOf (L2.CX P w) P w K mg base n_first_fault "first_fault" (defScope s_first_fault) T.a_first_fault cdv A outer s H E) (fun cls d _ H => E cls d H) := takes_of rfl rfl rfl rfl
  have pOwn : PassesOwn (model P w) (A.deeper (envOfC "first_fault" (defScope s_first_fault) s.heap.objs.size T.a_first_fault cdv)) (envOfC "first_fault" (defScope s_first_fault) s.heap.objs.size T.a_first_fault cdv) (cxOf (L2.CX P w) P w K mg base n_first_fault "first_fault" (defScope s_first_fault) T.a_first_fault cdv A outer s H E).xe := passes_of rfl
  exact (vss_cons (vs_asg (ve_b (vb_name 0 rfl (.inl rfl))) (vg_tup (n := 8) rfl (vgs_cons (vg_name (i := 1) sc_first_fault.nd rfl (.inl rfl) (.inl rfl) (fx_ne (by decide))) (vgs_cons (vg_name (i := 2) sc_first_fault.nd rfl (.inl rfl) (.inl rfl) (fx_ne (by decide))) (vgs_cons (vg_name (i := 3) sc_first_fault.nd rfl (.inl rfl) (.inl rfl) (fx_ne (by decide))) (vgs_cons (vg_name (i := 4) sc_first_fault.nd rfl (.inl rfl) (.inl rfl) (fx_ne (by decide))) (vgs_cons (vg_name (i := 5) sc_first_fault.nd rfl (.inl rfl) (.inl rfl) (fx_ne (by decide))) (vgs_cons (vg_name (i := 6) sc_first_fault.nd rfl (.inl rfl) (.inl rfl) (fx_ne (by decide))) (vgs_cons (vg_name (i := 7) sc_first_fault.nd rfl (.inl rfl) (.inl rfl) (fx_ne (by decide))) (vgs_cons (vg_name (i := 8) sc_first_fault.nd rfl (.inl rfl) (.inl rfl) (fx_ne (by decide))) vgs_nil))))))))))
    (vss_cons (vs_if (vt_not (vt_v (ve_b (vb_callA (ps := ["text"]) (G_is_name T) (hr.mono (by decide)) (by rfl) T.g_is_name T.F_is_name.kp T.b_is_name tk (vbs_cons (vb_name 1 rfl (.inl rfl)) vbs_nil)))))
      (vss_one (vs_ret (ve_b vb_str)))
      vss_nil)
    (vss_cons (vs_if (vt_cmp (op_notInA (hu65 hr)) prim_notIn (vb_name 2 rfl (.inl rfl)) (vb_tup (vbs_cons vb_str (vbs_cons vb_str vbs_nil))) (by rfl))
      (vss_one (vs_ret (ve_b vb_str)))
      vss_nil)
    (vss_cons (vs_if (vt_not (vt_chain op_le prim_cmp op_le prim_cmp vb_int (vb_name 3 rfl (.inl rfl)) vb_int))
      (vss_one (vs_ret (ve_b vb_str)))
      vss_nil)
    (vss_cons (vs_if (vt_not (vt_chain op_le prim_cmp op_le prim_cmp vb_int (vb_name 4 rfl (.inl rfl)) vb_int))
      (vss_one (vs_ret (ve_b vb_str)))
      vss_nil)
    (vss_cons (vs_if (vt_not (vt_v (ve_b (vb_callA (ps := ["rhythm", "kind"]) (G_fits_kind T) (hr.mono (by decide)) (by rfl) T.g_fits_kind T.F_fits_kind.kp T.b_fits_kind tk (vbs_cons (vb_name 5 rfl (.inl rfl)) (vbs_cons (vb_name 2 rfl (.inl rfl)) vbs_nil))))))
      (vss_one (vs_ret (ve_b vb_str)))
      vss_nil)
    (vss_cons (vs_if (vt_not (vt_chain op_le prim_cmp op_le prim_cmp vb_int (vb_name 6 rfl (.inl rfl)) vb_int))
      (vss_one (vs_ret (ve_b vb_str)))
      vss_nil)
    (vss_cons (vs_if (vt_not (vt_chain op_le prim_cmp op_le prim_cmp vb_int (vb_name 7 rfl (.inl rfl)) (vb_callA (ps := ["kind"]) (G_most_height T) (hr.mono (by decide)) (by rfl) T.g_most_height T.F_most_height.kp T.b_most_height tk (vbs_cons (vb_name 2 rfl (.inl rfl)) vbs_nil))))
      (vss_one (vs_ret (ve_b vb_str)))
      vss_nil)
    (vss_cons (vs_if (vt_not (vt_v (ve_b (vb_callA (ps := ["sectors", "kind"]) (G_sectors_fit T) (hr.mono (by decide)) (by rfl) T.g_sectors_fit T.F_sectors_fit.kp T.b_sectors_fit tk (vbs_cons (vb_name 8 rfl (.inl rfl)) (vbs_cons (vb_name 2 rfl (.inl rfl)) vbs_nil))))))
      (vss_one (vs_ret (ve_b vb_str)))
      vss_nil)
    (vss_one (vs_ret (ve_b vb_non))))))))))))

theorem G_check_spares (T : Tx K mg) : VF P w K mg base 3 T.a_check_spares T.d_check_spares ["spares"] m_check_spares :=
  vf_mk (io := [false]) (N := n_check_spares) T.F_check_spares sc_check_spares rfl fun cdv A outer s H vs E hr => by
  have tk : Takes (cxOf (L2.CX P w) P w K mg base n_check_spares "check_spares" (defScope s_check_spares) T.a_check_spares cdv A outer s H E) (fun cls d _ H => E cls d H) := takes_of rfl rfl rfl rfl
  have pOwn : PassesOwn (model P w) (A.deeper (envOfC "check_spares" (defScope s_check_spares) s.heap.objs.size T.a_check_spares cdv)) (envOfC "check_spares" (defScope s_check_spares) s.heap.objs.size T.a_check_spares cdv) (cxOf (L2.CX P w) P w K mg base n_check_spares "check_spares" (defScope s_check_spares) T.a_check_spares cdv A outer s H E).xe := passes_of rfl
  exact (vss_cons (vs_if (vt_cmp op_gt prim_cmp (vb_fn call_lenA prim_len (by rfl) T.z_len PySem.boot_len (vbs_cons (vb_name 0 rfl (.inl rfl)) vbs_nil)) (vb_globI (by rfl) T.c_MOST_SPARES) (nomark _))
      (vss_one (vs_raise (names := ["at"]) T.ra_BadSpare rfl tk (hr.mono (by decide)) (by rfl) (ves_cons (ve_b (vb_un un_neg prim_neg vb_int)) ves_nil)))
      vss_nil)
    (vss_one (vs_for (b := bo_check_spares_1) pOwn rfl (vi_enum2 (by rfl) T.z_enumerate (ves_cons (ve_b (vb_name 0 rfl (.inl rfl))) ves_nil)) (vg_tup (n := 2) rfl (vgs_cons (vg_name (i := 1) sc_check_spares.nd rfl (.inl rfl) (.inl rfl) (fx_ne (by decide))) (vgs_cons (vg_tup (n := 2) rfl (vgs_cons (vg_name (i := 2) sc_check_spares.nd rfl (.inl rfl) (.inl rfl) (fx_ne (by decide))) (vgs_cons (vg_name (i := 3) sc_check_spares.nd rfl (.inl rfl) (.inl rfl) (fx_ne (by decide))) vgs_nil))) vgs_nil)))
      (vss_cons (vs_if (vw_pt (vw_and (vt_not (vt_v (ve_b (vb_callA (ps := ["rhythm", "kind"]) (G_fits_kind T) (hr.mono (by decide)) (by rfl) T.g_fits_kind T.F_fits_kind.kp T.b_fits_kind tk (vbs_cons (vb_name 2 rfl (.inl rfl)) (vbs_cons vb_str vbs_nil)))))) (vw_and1 (vt_not (vt_v (ve_b (vb_callA (ps := ["rhythm", "kind"]) (G_fits_kind T) (hr.mono (by decide)) (by rfl) T.g_fits_kind T.F_fits_kind.kp T.b_fits_kind tk (vbs_cons (vb_name 2 rfl (.inl rfl)) (vbs_cons vb_str vbs_nil)))))))))
      (vss_one (vs_raise (names := ["at"]) T.ra_BadSpare rfl tk (hr.mono (by decide)) (by rfl) (ves_cons (ve_b (vb_name 1 rfl (.inl rfl))) ves_nil)))
      vss_nil)
    (vss_one (vs_if (vt_not (vt_chain op_le prim_cmp op_le prim_cmp vb_int (vb_name 3 rfl (.inl rfl)) (vb_globI (by rfl) T.c_MOST_PRICE)))
      (vss_one (vs_raise (names := ["at"]) T.ra_BadSpare rfl tk (hr.mono (by decide)) (by rfl) (ves_cons (ve_b (vb_name 1 rfl (.inl rfl))) ves_nil)))
      vss_nil))))))

theorem G_options (T : Tx K mg) : VF P w K mg base 3 T.a_options T.d_options ["coast", "spares"] m_options :=
  vf_mk (io := [false, false]) (N := n_options) T.F_options sc_options rfl fun cdv A outer s H vs E hr => by
  have tk : Takes (cxOf (L2.CX P w) P w K mg base n_options "options" (defScope s_options) T.a_options cdv A outer s H E) (fun cls d _ H => E cls d H) := takes_of rfl rfl rfl rfl
  have pOwn : PassesOwn (model P w) (A.deeper (envOfC "options" (defScope s_options) s.heap.objs.size T.a_options cdv)) (envOfC "options" (defScope s_options) s.heap.objs.size T.a_options cdv) (cxOf (L2.CX P w) P w K mg base n_options "options" (defScope s_options) T.a_options cdv A outer s H E).xe := passes_of rfl
  exact (vss_cons (vs_set (i := 2) sc_options.nd rfl (.inl rfl) (.inl rfl) (fx_ne (by decide)) (ve_lst ves_nil))
    (vss_cons (vs_for (b := bo_options_2) pOwn rfl (vi_seq (ve_b (vb_fld (T.cl_Coast) (by decide) (vb_name 0 rfl (.inl rfl))))) (vg_name (i := 3) sc_options.nd rfl (.inl rfl) (.inl rfl) (fx_ne (by decide)))
      (vss_cons (vs_set (i := 4) sc_options.nd rfl (.inl rfl) (.inl rfl) (fx_ne (by decide)) (ve_lst (ves_cons (ve_tup (ves_cons (ve_b (vb_fld (T.cl_Signal) (by decide) (vb_name 3 rfl (.inl rfl)))) (ves_cons (ve_b vb_int) ves_nil))) ves_nil)))
    (vss_cons (vs_for (b := bo_options_1) pOwn rfl (vi_seq (ve_b (vb_name 1 rfl (.inl rfl)))) (vg_tup (n := 2) rfl (vgs_cons (vg_name (i := 5) sc_options.nd rfl (.inl rfl) (.inl rfl) (fx_ne (by decide))) (vgs_cons (vg_name (i := 6) sc_options.nd rfl (.inl rfl) (.inl rfl) (fx_ne (by decide))) vgs_nil)))
      (vss_one (vs_if (vt_v (ve_b (vb_callA (ps := ["rhythm", "kind"]) (G_fits_kind T) (hr.mono (by decide)) (by rfl) T.g_fits_kind T.F_fits_kind.kp T.b_fits_kind tk (vbs_cons (vb_name 5 rfl (.inl rfl)) (vbs_cons (vb_fld (T.cl_Signal) (by decide) (vb_name 3 rfl (.inl rfl))) vbs_nil)))))
      (vss_one (vs_append (i := 4) rfl (.inl rfl) (ve_tup (ves_cons (ve_b (vb_name 5 rfl (.inl rfl))) (ves_cons (ve_b (vb_name 6 rfl (.inl rfl))) ves_nil)))))
      vss_nil)))
    (vss_one (vs_append (i := 2) rfl (.inl rfl) (ve_move 4 rfl (.inl rfl)))))))
    (vss_one (vs_ret (ve_move 2 rfl (.inl rfl))))))

theorem G_Chart_is_on (T : Tx K mg) : VF P w K mg base 1 T.a_Chart_is_on T.d_Chart_is_on ["self", "x", "y"] m_Chart_is_on :=
  vf_mk (io := [false, false, false]) (N := n_Chart_is_on) T.F_Chart_is_on sc_Chart_is_on rfl fun cdv A outer s H vs E hr => by
  have tk : Takes (cxOf (L2.CX P w) P w K mg base n_Chart_is_on "Chart.is_on" (defScope s_Chart_is_on) T.a_Chart_is_on cdv A outer s H E) (fun cls d _ H => E cls d H) := takes_of rfl rfl rfl rfl
  have pOwn : PassesOwn (model P w) (A.deeper (envOfC "Chart.is_on" (defScope s_Chart_is_on) s.heap.objs.size T.a_Chart_is_on cdv)) (envOfC "Chart.is_on" (defScope s_Chart_is_on) s.heap.objs.size T.a_Chart_is_on cdv) (cxOf (L2.CX P w) P w K mg base n_Chart_is_on "Chart.is_on" (defScope s_Chart_is_on) T.a_Chart_is_on cdv A outer s H E).xe := passes_of rfl
  exact (vss_one (vs_ret (ve_and (ve_b (vb_chain op_le prim_cmp op_lt prim_cmp vb_int (vb_name 1 rfl (.inl rfl)) (vb_fld (T.cl_Chart) (by decide) (vb_name 0 rfl (.inl rfl))))) (ve_one (ve_b (vb_chain op_le prim_cmp op_lt prim_cmp vb_int (vb_name 2 rfl (.inl rfl)) (vb_fld (T.cl_Chart) (by decide) (vb_name 0 rfl (.inl rfl)))))))))

theorem G_Coast___init__ (T : Tx K mg) : VF P w K mg base 3 T.a_Coast___init__ T.d_Coast___init__ ["self", "chart", "signals"] m_Coast___init__ :=
  vf_mk (io := [true, false, false]) (N := n_Coast___init__) T.F_Coast___init__ sc_Coast___init__ rfl fun cdv A outer s H vs E hr => by
  have tk : Takes (cxOf (L2.CX P w) P w K mg base n_Coast___init__ "Coast.__init__" (defScope s_Coast___init__) T.a_Coast___init__ cdv A outer s H E) (fun cls d _ H => E cls d H) := takes_of rfl rfl rfl rfl
  have pOwn : PassesOwn (model P w) (A.deeper (envOfC "Coast.__init__" (defScope s_Coast___init__) s.heap.objs.size T.a_Coast___init__ cdv)) (envOfC "Coast.__init__" (defScope s_Coast___init__) s.heap.objs.size T.a_Coast___init__ cdv) (cxOf (L2.CX P w) P w K mg base n_Coast___init__ "Coast.__init__" (defScope s_Coast___init__) T.a_Coast___init__ cdv A outer s H E).xe := passes_of rfl
  exact (vss_cons (vs_if (vt_cmp op_gt prim_cmp (vb_fn call_lenA prim_len (by rfl) T.z_len PySem.boot_len (vbs_cons (vb_name 2 rfl (.inl rfl)) vbs_nil)) (vb_globI (by rfl) T.c_MOST_SIGNALS) (nomark _))
      (vss_one (vs_raise (names := ["at"]) T.ra_BadCoast rfl tk (hr.mono (by decide)) (by rfl) (ves_cons (ve_b (vb_un un_neg prim_neg vb_int)) ves_nil)))
      vss_nil)
    (vss_cons (vs_for (b := bo_Coast___init___2) pOwn rfl (vi_enum2 (by rfl) T.z_enumerate (ves_cons (ve_b (vb_name 2 rfl (.inl rfl))) ves_nil)) (vg_tup (n := 2) rfl (vgs_cons (vg_name (i := 3) sc_Coast___init__.nd rfl (.inl rfl) (.inl rfl) (fx_ne (by decide))) (vgs_cons (vg_name (i := 4) sc_Coast___init__.nd rfl (.inl rfl) (.inl rfl) (fx_ne (by decide))) vgs_nil)))
      (vss_cons (vs_if (vt_cmpE (op_inA (hu65 hr)) prim_in (ve_b (vb_fld (T.cl_Signal) (by decide) (vb_name 4 rfl (.inl rfl)))) (ve_lc (own := [("earlier", 5)]) (test := yesT) (fe := el_Coast___init___1) rfl sc_Coast___init__.nd (vi_seq (vv_slice (vb_name 2 rfl (.inl rfl)) vo_none (vo_some (vb_name 3 rfl (.inl rfl))))) (blkOk_by (N := n_Coast___init__) (sc := defScope s_Coast___init__) (own := [("earlier", 5)]) (by decide +kernel)) (by decide) (by decide) (fun q hq => of_fxOf (by decide) q hq) (fun _ _ _ _ _ => (vg_name (i := 5) sc_Coast___init__.nd rfl (lLocal (by decide +kernel)) (fLocal (by decide +kernel)) (fx_ne (by decide)))) (fun _ _ _ _ _ => vts_nil) (fun _ _ _ _ _ => (ve_b (vb_fld (T.cl_Signal) (by decide) (vb_name 5 rfl (vLocal (by decide +kernel))))))) (by rfl))
      (vss_one (vs_raise (names := ["at"]) T.ra_BadCoast rfl tk (hr.mono (by decide)) (by rfl) (ves_cons (ve_b (vb_name 3 rfl (.inl rfl))) ves_nil)))
      vss_nil)
    (vss_one (vs_if (vt_not (vt_v (ve_meth (ps := ["self", "x", "y"]) (c := "Chart") T.gC_Chart T.cls_Chart T.me_Chart_is_on (G_Chart_is_on T) (hr.mono (by decide)) T.b_Chart_is_on tk (ve_b (vb_name 1 rfl (.inl rfl))) (ves_cons (ve_b (vb_fld (T.cl_Signal) (by decide) (vb_name 4 rfl (.inl rfl)))) (ves_cons (ve_b (vb_fld (T.cl_Signal) (by decide) (vb_name 4 rfl (.inl rfl)))) ves_nil)))))
      (vss_one (vs_raise (names := ["at"]) T.ra_BadCoast rfl tk (hr.mono (by decide)) (by rfl) (ves_cons (ve_b (vb_name 3 rfl (.inl rfl))) ves_nil)))
      vss_nil))))
    (vss_cons (vs_fld (i := 0) T.cl_Coast (by decide) rfl (.inl rfl) (ve_b (vb_name 1 rfl (.inl rfl))))
    (vss_one (vs_fld (i := 0) T.cl_Coast (by decide) rfl (.inl rfl) (vv_ty call_tuple_of prim_tuple (by rfl) T.z_tuple PyProof.Rows.boot_tuple (vbs_cons (vb_name 2 rfl (.inl rfl)) vbs_nil)))))))

theorem G_Signal___init__ (T : Tx K mg) : VF P w K mg base 10 T.a_Signal___init__ T.d_Signal___init__ ["self", "name", "kind", "x", "y", "rhythm", "strength", "height", "sectors"] m_Signal___init__ :=
  vf_mk (io := [true, false, false, false, false, false, false, false, false]) (N := n_Signal___init__) T.F_Signal___init__ sc_Signal___init__ rfl fun cdv A outer s H vs E hr => by
  have tk : Takes (cxOf (L2.CX P w) P w K mg base n_Signal___init__ "Signal.__init__" (defScope s_Signal___init__) T.a_Signal___init__ cdv A outer s H E) (fun cls d _ H => E cls d H) := takes_of rfl rfl rfl rfl
  have pOwn : PassesOwn (model P w) (A.deeper (envOfC "Signal.__init__" (defScope s_Signal___init__) s.heap.objs.size T.a_Signal___init__ cdv)) (envOfC "Signal.__init__" (defScope s_Signal___init__) s.heap.objs.size T.a_Signal___init__ cdv) (cxOf (L2.CX P w) P w K mg base n_Signal___init__ "Signal.__init__" (defScope s_Signal___init__) T.a_Signal___init__ cdv A outer s H E).xe := passes_of rfl
  exact (vss_cons (vs_set (i := 9) sc_Signal___init__.nd rfl (.inl rfl) (.inl rfl) (fx_ne (by decide)) (ve_b (vb_callA (ps := ["row"]) (G_first_fault T) (hr.mono (by decide)) (by rfl) T.g_first_fault T.F_first_fault.kp T.b_first_fault tk (vbs_cons (vb_tup (vbs_cons (vb_name 1 rfl (.inl rfl)) (vbs_cons (vb_name 2 rfl (.inl rfl)) (vbs_cons (vb_name 3 rfl (.inl rfl)) (vbs_cons (vb_name 4 rfl (.inl rfl)) (vbs_cons (vb_name 5 rfl (.inl rfl)) (vbs_cons (vb_name 6 rfl (.inl rfl)) (vbs_cons (vb_name 7 rfl (.inl rfl)) (vbs_cons (vb_name 8 rfl (.inl rfl)) vbs_nil))))))))) vbs_nil))))
    (vss_cons (vs_if (vt_cmp op_isNotA prim_isNot (vb_name 9 rfl (.inl rfl)) vb_non (nomark _))
      (vss_one (vs_raise (names := ["field"]) T.ra_BadSignal rfl tk (hr.mono (by decide)) (by rfl) (ves_cons (ve_b (vb_name 9 rfl (.inl rfl))) ves_nil)))
      vss_nil)
    (vss_cons (vs_fld (i := 0) T.cl_Signal (by decide) rfl (.inl rfl) (ve_b (vb_name 1 rfl (.inl rfl))))
    (vss_cons (vs_fld (i := 0) T.cl_Signal (by decide) rfl (.inl rfl) (ve_b (vb_name 2 rfl (.inl rfl))))
    (vss_cons (vs_fld (i := 0) T.cl_Signal (by decide) rfl (.inl rfl) (ve_b (vb_name 3 rfl (.inl rfl))))
    (vss_cons (vs_fld (i := 0) T.cl_Signal (by decide) rfl (.inl rfl) (ve_b (vb_name 4 rfl (.inl rfl))))
    (vss_cons (vs_fld (i := 0) T.cl_Signal (by decide) rfl (.inl rfl) (ve_b (vb_name 5 rfl (.inl rfl))))
    (vss_cons (vs_fld (i := 0) T.cl_Signal (by decide) rfl (.inl rfl) (ve_b (vb_name 6 rfl (.inl rfl))))
    (vss_cons (vs_fld (i := 0) T.cl_Signal (by decide) rfl (.inl rfl) (ve_b (vb_name 7 rfl (.inl rfl))))
    (vss_one (vs_fld (i := 0) T.cl_Signal (by decide) rfl (.inl rfl) (ve_ty call_tuple_of prim_tuple (by rfl) T.z_tuple PyProof.Rows.boot_tuple (ves_cons (ve_lc (own := [("dx", 10), ("dy", 11), ("glass", 12)]) (test := yesT) (fe := el_Signal___init___1) rfl sc_Signal___init__.nd (vi_seq (ve_b (vb_name 8 rfl (.inl rfl)))) (blkOk_by (N := n_Signal___init__) (sc := defScope s_Signal___init__) (own := [("dx", 10), ("dy", 11), ("glass", 12)]) (by decide +kernel)) (by decide) (by decide) (fun q hq => of_fxOf (by decide) q hq) (fun _ _ _ _ _ => (vg_tup (n := 3) rfl (vgs_cons (vg_name (i := 10) sc_Signal___init__.nd rfl (lLocal (by decide +kernel)) (fLocal (by decide +kernel)) (fx_ne (by decide))) (vgs_cons (vg_name (i := 11) sc_Signal___init__.nd rfl (lLocal (by decide +kernel)) (fLocal (by decide +kernel)) (fx_ne (by decide))) (vgs_cons (vg_name (i := 12) sc_Signal___init__.nd rfl (lLocal (by decide +kernel)) (fLocal (by decide +kernel)) (fx_ne (by decide))) vgs_nil))))) (fun _ _ _ _ _ => vts_nil) (fun _ _ _ _ _ => (ve_tup (ves_cons (ve_b (vb_name 10 rfl (vLocal (by decide +kernel)))) (ves_cons (ve_b (vb_name 11 rfl (vLocal (by decide +kernel)))) (ves_cons (ve_b (vb_name 12 rfl (vLocal (by decide +kernel)))) ves_nil)))))) ves_nil)))))))))))))

theorem G_Signal_row (T : Tx K mg) : VF P w K mg base 1 T.a_Signal_row T.d_Signal_row ["self"] m_Signal_row :=
  vf_mk (io := [false]) (N := n_Signal_row) T.F_Signal_row sc_Signal_row rfl fun cdv A outer s H vs E hr => by
  have tk : Takes (cxOf (L2.CX P w) P w K mg base n_Signal_row "Signal.row" (defScope s_Signal_row) T.a_Signal_row cdv A outer s H E) (fun cls d _ H => E cls d H) := takes_of rfl rfl rfl rfl
  have pOwn : PassesOwn (model P w) (A.deeper (envOfC "Signal.row" (defScope s_Signal_row) s.heap.objs.size T.a_Signal_row cdv)) (envOfC "Signal.row" (defScope s_Signal_row) s.heap.objs.size T.a_Signal_row cdv) (cxOf (L2.CX P w) P w K mg base n_Signal_row "Signal.row" (defScope s_Signal_row) T.a_Signal_row cdv A outer s H E).xe := passes_of rfl
  exact (vss_cons (vs_set (i := 1) sc_Signal_row.nd rfl (.inl rfl) (.inl rfl) (fx_ne (by decide)) (ve_tup (ves_cons (ve_b (vb_fld (T.cl_Signal) (by decide) (vb_name 0 rfl (.inl rfl)))) (ves_cons (ve_b (vb_fld (T.cl_Signal) (by decide) (vb_name 0 rfl (.inl rfl)))) ves_nil))))
    (vss_one (vs_ret (vv_bin op_addA prim_add (vb_bin op_addA prim_add (vb_tup (vbs_cons (vb_fld (T.cl_Signal) (by decide) (vb_name 0 rfl (.inl rfl))) (vbs_cons (vb_fld (T.cl_Signal) (by decide) (vb_name 0 rfl (.inl rfl))) vbs_nil))) (vb_name 1 rfl (.inl rfl))) (vb_tup (vbs_cons (vb_fld (T.cl_Signal) (by decide) (vb_name 0 rfl (.inl rfl))) (vbs_cons (vb_fld (T.cl_Signal) (by decide) (vb_name 0 rfl (.inl rfl))) (vbs_cons (vb_fld (T.cl_Signal) (by decide) (vb_name 0 rfl (.inl rfl))) (vbs_cons (vb_fld (T.cl_Signal) (by decide) (vb_name 0 rfl (.inl rfl))) vbs_nil)))))))))

theorem G_Signal_changed (T : Tx K mg) : VF P w K mg base 12 T.a_Signal_changed T.d_Signal_changed ["self", "field", "value"] m_Signal_changed :=
  vf_mk (io := [false, false, false]) (N := n_Signal_changed) T.F_Signal_changed sc_Signal_changed rfl fun cdv A outer s H vs E hr => by
  have tk : Takes (cxOf (L2.CX P w) P w K mg base n_Signal_changed "Signal.changed" (defScope s_Signal_changed) T.a_Signal_changed cdv A outer s H E) (fun cls d _ H => E cls d H) := takes_of rfl rfl rfl rfl
  have pOwn : PassesOwn (model P w) (A.deeper (envOfC "Signal.changed" (defScope s_Signal_changed) s.heap.objs.size T.a_Signal_changed cdv)) (envOfC "Signal.changed" (defScope s_Signal_changed) s.heap.objs.size T.a_Signal_changed cdv) (cxOf (L2.CX P w) P w K mg base n_Signal_changed "Signal.changed" (defScope s_Signal_changed) T.a_Signal_changed cdv A outer s H E).xe := passes_of rfl
  exact (vss_cons (vs_if (vt_cmp (op_notInA (hu65 hr)) prim_notIn (vb_name 1 rfl (.inl rfl)) (vb_globT (by rfl) T.c_FIELDS) (by rfl))
      (vss_one (vs_raise (names := ["field"]) T.ra_BadSignal rfl tk (hr.mono (by decide)) (by rfl) (ves_cons (ve_b (vb_name 1 rfl (.inl rfl))) ves_nil)))
      vss_nil)
    (vss_cons (vs_set (i := 3) sc_Signal_changed.nd rfl (.inl rfl) (.inl rfl) (fx_ne (by decide)) (ve_ty call_list_of prim_list (by rfl) T.z_list PyProof.Rows.boot_list (ves_cons (ve_meth0 (ps := ["self"]) (c := "Signal") T.gC_Signal T.cls_Signal T.me_Signal_row (G_Signal_row T) (hr.mono (by decide)) T.b_Signal_row tk (ve_b (vb_name 0 rfl (.inl rfl)))) ves_nil)))
    (vss_cons (vs_setitem (i := 3) rfl (.inl rfl) (ve_b (vb_tix (ys := ["name", "kind", "x", "y", "rhythm", "strength", "height", "sectors"]) (by rfl) T.c_FIELDS (vb_name 1 rfl (.inl rfl)))) (ve_b (vb_name 2 rfl (.inl rfl))))
    (vss_one (vs_frz 3 (vs_ret (ve_makeU (ps := ["self", "name", "kind", "x", "y", "rhythm", "strength", "height", "sectors"]) T.mk_Signal (G_Signal___init__ T) (hr.mono (by decide)) (by rfl) T.gC_Signal T.b_Signal___init__ tk (ve_b (vb_name 3 rfl (.inl rfl))))))))))

theorem G_picked_coast (T : Tx K mg) : VF P w K mg base 13 T.a_picked_coast T.d_picked_coast ["coast", "spares", "picks"] m_picked_coast :=
  vf_mk (io := [false, false, false]) (N := n_picked_coast) T.F_picked_coast sc_picked_coast rfl fun cdv A outer s H vs E hr => by
  have tk : Takes (cxOf (L2.CX P w) P w K mg base n_picked_coast "picked_coast" (defScope s_picked_coast) T.a_picked_coast cdv A outer s H E) (fun cls d _ H => E cls d H) := takes_of rfl rfl rfl rfl
  have pOwn : PassesOwn (model P w) (A.deeper (envOfC "picked_coast" (defScope s_picked_coast) s.heap.objs.size T.a_picked_coast cdv)) (envOfC "picked_coast" (defScope s_picked_coast) s.heap.objs.size T.a_picked_coast cdv) (cxOf (L2.CX P w) P w K mg base n_picked_coast "picked_coast" (defScope s_picked_coast) T.a_picked_coast cdv A outer s H E).xe := passes_of rfl
  exact (vss_cons (vs_set (i := 3) sc_picked_coast.nd rfl (.inl rfl) (.inl rfl) (fx_ne (by decide)) (ve_frz (ve_call (G_options T) (hr.mono (by decide)) (by rfl) T.g_options T.F_options.kp T.b_options tk (vks_cons (vo_val (ve_b (vb_name 0 rfl (.inl rfl)))) (vks_cons (vo_val (ve_b (vb_name 1 rfl (.inl rfl)))) vks_nil)))))
    (vss_cons (vs_set (i := 4) sc_picked_coast.nd rfl (.inl rfl) (.inl rfl) (fx_ne (by decide)) (ve_lst ves_nil))
    (vss_cons (vs_for (b := bo_picked_coast_1) pOwn rfl (vi_enum2 (by rfl) T.z_enumerate (ves_cons (ve_b (vb_fld (T.cl_Coast) (by decide) (vb_name 0 rfl (.inl rfl)))) ves_nil)) (vg_tup (n := 2) rfl (vgs_cons (vg_name (i := 5) sc_picked_coast.nd rfl (.inl rfl) (.inl rfl) (fx_ne (by decide))) (vgs_cons (vg_name (i := 6) sc_picked_coast.nd rfl (.inl rfl) (.inl rfl) (fx_ne (by decide))) vgs_nil)))
      (vss_one (vs_append (i := 4) rfl (.inl rfl) (ve_meth (ps := ["self", "field", "value"]) (c := "Signal") T.gC_Signal T.cls_Signal T.me_Signal_changed (G_Signal_changed T) (hr.mono (by decide)) T.b_Signal_changed tk (ve_b (vb_name 6 rfl (.inl rfl))) (ves_cons (ve_b vb_str) (ves_cons (ve_b (vb_ix ix_seq prim_ix (vb_ix ix_seq prim_ix (vb_ix ix_seq prim_ix (vb_name 3 rfl (.inl rfl)) (vb_name 5 rfl (.inl rfl)) (fun _ _ => rfl)) (vb_ix ix_seq prim_ix (vb_name 2 rfl (.inl rfl)) (vb_name 5 rfl (.inl rfl)) (fun _ _ => rfl)) (fun _ _ => rfl)) vb_int (fun _ _ => rfl))) ves_nil))))))
    (vss_one (vs_frz 4 (vs_ret (ve_make (ps := ["self", "chart", "signals"]) T.mk_Coast (G_Coast___init__ T) (hr.mono (by decide)) (by rfl) T.gC_Coast T.b_Coast___init__ tk (ves_cons (ve_b (vb_fld (T.cl_Coast) (by decide) (vb_name 0 rfl (.inl rfl)))) (ves_cons (ve_b (vb_name 4 rfl (.inl rfl))) ves_nil)))))))))

theorem G_is_row (T : Tx K mg) : VF P w K mg base 1 T.a_is_row T.d_is_row ["row", "wide"] m_is_row :=
  vf_mk (io := [false, false]) (N := n_is_row) T.F_is_row sc_is_row rfl fun cdv A outer s H vs E hr => by
  have tk : Takes (cxOf (L2.CX P w) P w K mg base n_is_row "is_row" (defScope s_is_row) T.a_is_row cdv A outer s H E) (fun cls d _ H => E cls d H) := takes_of rfl rfl rfl rfl
  have pOwn : PassesOwn (model P w) (A.deeper (envOfC "is_row" (defScope s_is_row) s.heap.objs.size T.a_is_row cdv)) (envOfC "is_row" (defScope s_is_row) s.heap.objs.size T.a_is_row cdv) (cxOf (L2.CX P w) P w K mg base n_is_row "is_row" (defScope s_is_row) T.a_is_row cdv A outer s H E).xe := passes_of rfl
  exact (vss_cons (vs_if (vt_cmp (op_ne.or (op_neD hr.units)) prim_ne (vb_fn call_lenA prim_len (by rfl) T.z_len PySem.boot_len (vbs_cons (vb_name 0 rfl (.inl rfl)) vbs_nil)) (vb_name 1 rfl (.inl rfl)) (nomark _))
      (vss_one (vs_ret (ve_b vb_bl)))
      vss_nil)
    (vss_cons (vs_for (b := bo_is_row_1) pOwn rfl (vi_seq (ve_b (vb_name 0 rfl (.inl rfl)))) (vg_name (i := 2) sc_is_row.nd rfl (.inl rfl) (.inl rfl) (fx_ne (by decide)))
      (vss_one (vs_if (vt_cmp (op_notInA (hu65 hr)) prim_notIn (vb_name 2 rfl (.inl rfl)) vb_str (by rfl))
      (vss_one (vs_ret (ve_b vb_bl)))
      vss_nil)))
    (vss_one (vs_ret (ve_b (vb_chain op_le prim_cmp op_le prim_cmp vb_int (vb_name 1 rfl (.inl rfl)) (vb_globI (by rfl) T.c_MOST_WIDE)))))))

theorem G__law_feed (T : Tx K mg) : VF P w K mg base 1 T.a__law_feed T.d__law_feed ["script"] m__law_feed :=
  vf_mk (io := [false]) (N := n__law_feed) T.F__law_feed sc__law_feed rfl fun cdv A outer s H vs E hr => by
  have tk : Takes (cxOf (L2.CX P w) P w K mg base n__law_feed "_law_feed" (defScope s__law_feed) T.a__law_feed cdv A outer s H E) (fun cls d _ H => E cls d H) := takes_of rfl rfl rfl rfl
  have pOwn : PassesOwn (model P w) (A.deeper (envOfC "_law_feed" (defScope s__law_feed) s.heap.objs.size T.a__law_feed cdv)) (envOfC "_law_feed" (defScope s__law_feed) s.heap.objs.size T.a__law_feed cdv) (cxOf (L2.CX P w) P w K mg base n__law_feed "_law_feed" (defScope s__law_feed) T.a__law_feed cdv A outer s H E).xe := passes_of rfl
  exact (vss_one (vs_ret (ve_lst (ves_cons (ve_frz (vv_ty call_list_of prim_list (by rfl) T.z_list PyProof.Rows.boot_list (vbs_cons (vb_name 0 rfl (.inl rfl)) vbs_nil))) (ves_cons (ve_b vb_int) (ves_cons (ve_b vb_int) (ves_cons (ve_b vb_int) ves_nil)))))))

theorem G__law_draw (T : Tx K mg) : VF P w K mg base 1 T.a__law_draw T.d__law_draw ["feed", "many"] m__law_draw :=
  vf_mk (io := [true, false]) (N := n__law_draw) T.F__law_draw sc__law_draw rfl fun cdv A outer s H vs E hr => by
  have tk : Takes (cxOf (L2.CX P w) P w K mg base n__law_draw "_law_draw" (defScope s__law_draw) T.a__law_draw cdv A outer s H E) (fun cls d _ H => E cls d H) := takes_of rfl rfl rfl rfl
  have pOwn : PassesOwn (model P w) (A.deeper (envOfC "_law_draw" (defScope s__law_draw) s.heap.objs.size T.a__law_draw cdv)) (envOfC "_law_draw" (defScope s__law_draw) s.heap.objs.size T.a__law_draw cdv) (cxOf (L2.CX P w) P w K mg base n__law_draw "_law_draw" (defScope s__law_draw) T.a__law_draw cdv A outer s H E).xe := passes_of rfl
  exact (vss_cons (vs_if (vw_pt (vw_and (vt_cmp (op_eq.or (op_eqD hr.units)) prim_eq (vb_ix ix_seq prim_ix (vb_name 0 rfl (.inl rfl)) vb_int (fun _ _ => rfl)) vb_int (nomark _)) (vw_and1 (vt_cmp op_lt prim_cmp (vb_ix ix_seq prim_ix (vb_name 0 rfl (.inl rfl)) vb_int (fun _ _ => rfl)) (vb_fn call_lenA prim_len (by rfl) T.z_len PySem.boot_len (vbs_cons (vb_ix ix_seq prim_ix (vb_name 0 rfl (.inl rfl)) vb_int (fun _ _ => rfl)) vbs_nil)) (nomark _)))))
      (vss_cons (vs_set (i := 2) sc__law_draw.nd rfl (.inl rfl) (.inl rfl) (fx_ne (by decide)) (vv_fn call_abs prim_abs (by rfl) T.z_abs PyProof.Rows.boot_abs (vbs_cons (vb_ty call_int1 prim_int (by rfl) T.z_int PyProof.Rows.boot_int (vbs_cons (vb_ix ix_seq prim_ix (vb_ix ix_seq prim_ix (vb_name 0 rfl (.inl rfl)) vb_int (fun _ _ => rfl)) (vb_ix ix_seq prim_ix (vb_name 0 rfl (.inl rfl)) vb_int (fun _ _ => rfl)) (fun _ _ => rfl)) vbs_nil)) vbs_nil)))
    (vss_cons (vs_augitem (i := 0) rfl (.inl rfl) vb_int vb_int iop_addA prim_iadd)
    (vss_one (vs_if (vt_cmp op_ge prim_cmp (vb_name 2 rfl (.inl rfl)) (vb_bin op_pow prim_pow vb_int vb_int) (nomark _))
      (vss_one (vs_setitem (i := 0) rfl (.inl rfl) (ve_b vb_int) (ve_b (vb_name 2 rfl (.inl rfl)))))
      (vss_one (vs_setitem (i := 0) rfl (.inl rfl) (ve_b vb_int) (vv_bin op_modN prim_mod (vb_ty call_int1 prim_int (by rfl) T.z_int PyProof.Rows.boot_int (vbs_cons (vb_bin op_addA prim_add (vb_bin op_addA prim_add (vb_bin op_mulA prim_mulA (vb_ix ix_seq prim_ix (vb_name 0 rfl (.inl rfl)) vb_int (fun _ _ => rfl)) vb_int) (vb_bin op_mulA prim_mulA (vb_name 2 rfl (.inl rfl)) vb_int)) (vb_ix ix_seq prim_ix (vb_name 0 rfl (.inl rfl)) vb_int (fun _ _ => rfl))) vbs_nil)) vb_int)))))))
      vss_nil)
    (vss_cons (vs_if (vt_cmp op_gt prim_cmp (vb_ix ix_seq prim_ix (vb_name 0 rfl (.inl rfl)) vb_int (fun _ _ => rfl)) vb_int (nomark _))
      (vss_cons (vs_set (i := 3) sc__law_draw.nd rfl (.inl rfl) (.inl rfl) (fx_ne (by decide)) (vv_bin op_modN prim_mod (vb_ty call_int1 prim_int (by rfl) T.z_int PyProof.Rows.boot_int (vbs_cons (vb_ix ix_seq prim_ix (vb_name 0 rfl (.inl rfl)) vb_int (fun _ _ => rfl)) vbs_nil)) (vb_name 1 rfl (.inl rfl))))
    (vss_cons (vs_setitem (i := 0) rfl (.inl rfl) (ve_b vb_int) (vv_bin op_fdivN prim_fdiv (vb_ix ix_seq prim_ix (vb_name 0 rfl (.inl rfl)) vb_int (fun _ _ => rfl)) (vb_name 1 rfl (.inl rfl))))
    (vss_one (vs_ret (ve_move 3 rfl (.inl rfl))))))
      vss_nil)
    (vss_cons (vs_setitem (i := 0) rfl (.inl rfl) (ve_b vb_int) (vv_bin op_modN prim_mod (vb_ty call_int1 prim_int (by rfl) T.z_int PyProof.Rows.boot_int (vbs_cons (vb_bin op_addA prim_add (vb_bin op_mulA prim_mulA (vb_ix ix_seq prim_ix (vb_name 0 rfl (.inl rfl)) vb_int (fun _ _ => rfl)) vb_int) vb_int) vbs_nil)) vb_int))
    (vss_cons (vs_set (i := 4) sc__law_draw.nd rfl (.inl rfl) (.inl rfl) (fx_ne (by decide)) (vv_bin op_modN prim_mod (vb_ty call_int1 prim_int (by rfl) T.z_int PyProof.Rows.boot_int (vbs_cons (vb_bin op_addA prim_add (vb_bin op_mulA prim_mulA (vb_ix ix_seq prim_ix (vb_name 0 rfl (.inl rfl)) vb_int (fun _ _ => rfl)) (vb_ix ix_seq prim_ix (vb_name 0 rfl (.inl rfl)) vb_int (fun _ _ => rfl))) (vb_ix ix_seq prim_ix (vb_name 0 rfl (.inl rfl)) vb_int (fun _ _ => rfl))) vbs_nil)) vb_int))
    (vss_one (vs_ret (vv_bin op_modN prim_mod (vb_bin op_fdivN prim_fdiv (vb_name 4 rfl (.inl rfl)) vb_int) (vb_name 1 rfl (.inl rfl)))))))))

theorem G__law_is_whole (T : Tx K mg) : VF P w K mg base 1 T.a__law_is_whole T.d__law_is_whole ["x"] m__law_is_whole :=
  vf_mk (io := [false]) (N := n__law_is_whole) T.F__law_is_whole sc__law_is_whole rfl fun cdv A outer s H vs E hr => by
  have tk : Takes (cxOf (L2.CX P w) P w K mg base n__law_is_whole "_law_is_whole" (defScope s__law_is_whole) T.a__law_is_whole cdv A outer s H E) (fun cls d _ H => E cls d H) := takes_of rfl rfl rfl rfl
  have pOwn : PassesOwn (model P w) (A.deeper (envOfC "_law_is_whole" (defScope s__law_is_whole) s.heap.objs.size T.a__law_is_whole cdv)) (envOfC "_law_is_whole" (defScope s__law_is_whole) s.heap.objs.size T.a__law_is_whole cdv) (cxOf (L2.CX P w) P w K mg base n__law_is_whole "_law_is_whole" (defScope s__law_is_whole) T.a__law_is_whole cdv A outer s H E).xe := passes_of rfl
  exact (vss_one (vs_ret (ve_and (vv_fn call_isiA prim_isi (by rfl) T.z_isinstance PyProof.Rows.boot_isinstance (vbs_cons (vb_name 0 rfl (.inl rfl)) (vbs_cons (vb_tyN (by rfl) T.z_int PyProof.Rows.boot_int) vbs_nil))) (ve_one (ve_not (vv_fn call_isiA prim_isi (by rfl) T.z_isinstance PyProof.Rows.boot_isinstance (vbs_cons (vb_name 0 rfl (.inl rfl)) (vbs_cons (vb_tyN (by rfl) T.z_bool PyProof.Rows.boot_bool) vbs_nil))))))))

theorem GQ__law_is_whole (T : Tx K mg) : VQ P w K mg base 1 T.a__law_is_whole T.d__law_is_whole ["x"] m__law_is_whole :=
  vq_mk (io := [false]) (N := n__law_is_whole) T.F__law_is_whole sc__law_is_whole rfl fun cdv A outer s H vs E hr => by
  exact (vss_one (vs_ret (ve_and (vv_fn call_isiA prim_isi (by rfl) T.z_isinstance PyProof.Rows.boot_isinstance (vbs_cons (vb_name 0 rfl (.inl rfl)) (vbs_cons (vb_tyN (by rfl) T.z_int PyProof.Rows.boot_int) vbs_nil))) (ve_one (ve_not (vv_fn call_isiA prim_isi (by rfl) T.z_isinstance PyProof.Rows.boot_isinstance (vbs_cons (vb_name 0 rfl (.inl rfl)) (vbs_cons (vb_tyN (by rfl) T.z_bool PyProof.Rows.boot_bool) vbs_nil))))))))

theorem G__law_word (T : Tx K mg) : VF P w K mg base 2 T.a__law_word T.d__law_word ["feed", "letters", "longest"] m__law_word :=
  vf_mk (io := [true, false, false]) (N := n__law_word) T.F__law_word sc__law_word rfl fun cdv A outer s H vs E hr => by
  have tk : Takes (cxOf (L2.CX P w) P w K mg base n__law_word "_law_word" (defScope s__law_word) T.a__law_word cdv A outer s H E) (fun cls d _ H => E cls d H) := takes_of rfl rfl rfl rfl
  have pOwn : PassesOwn (model P w) (A.deeper (envOfC "_law_word" (defScope s__law_word) s.heap.objs.size T.a__law_word cdv)) (envOfC "_law_word" (defScope s__law_word) s.heap.objs.size T.a__law_word cdv) (cxOf (L2.CX P w) P w K mg base n__law_word "_law_word" (defScope s__law_word) T.a__law_word cdv A outer s H E).xe := passes_of rfl
  exact (vss_cons (vs_set (i := 3) sc__law_word.nd rfl (.inl rfl) (.inl rfl) (fx_ne (by decide)) (ve_bin op_addA prim_add (ve_b vb_int) (ve_call (G__law_draw T) (hr.mono (by decide)) (by rfl) T.g__law_draw T.F__law_draw.kp T.b__law_draw tk (vks_cons (vo_mv 0 rfl (.inr (.inl rfl))) (vks_cons (vo_val (ve_b (vb_name 2 rfl (.inl rfl)))) vks_nil)))))
    (vss_cons (vs_set (i := 4) sc__law_word.nd rfl (.inl rfl) (.inl rfl) (fx_ne (by decide)) (ve_m PySem.F.plainAttrs_str PySem.F.slot_str_join PySem.F.type_str_join mt_join prim_join vb_str (ves_cons (ve_lc (own := [("k", 5)]) (test := yesT) (fe := el__law_word_1) rfl sc__law_word.nd (vi_range1 (by rfl) T.z_range (ves_cons (ve_b (vb_name 3 rfl (.inl rfl))) ves_nil)) (blkOk_by (N := n__law_word) (sc := defScope s__law_word) (own := [("k", 5)]) (by decide +kernel)) (by decide) (by decide) (fun q hq => of_fxOf (by decide) q hq) (fun _ _ _ _ _ => (vg_name (i := 5) sc__law_word.nd rfl (lLocal (by decide +kernel)) (fLocal (by decide +kernel)) (fx_ne (by decide)))) (fun _ _ _ _ _ => vts_nil) (fun _ _ _ _ _ => (ve_ixN (i := 1) rfl (vFree (by decide +kernel)) (ve_call (G__law_draw T) (hr.mono (by decide)) (by rfl) T.g__law_draw T.F__law_draw.kp T.b__law_draw takes0 (vks_cons (vo_mv 0 rfl (vFree (by decide +kernel))) (vks_cons (vo_val (vv_fn call_lenA prim_len (by rfl) T.z_len PySem.boot_len (vbs_cons (vb_name 1 rfl (vFree (by decide +kernel))) vbs_nil))) vks_nil))) (fun _ _ => rfl)))) ves_nil)))
    (vss_cons (vs_if (vt_cmp (op_eq.or (op_eqD hr.units)) prim_eq (vb_name 4 rfl (.inl rfl)) (vb_bin op_mulA prim_mulA vb_str (vb_name 3 rfl (.inl rfl))) (nomark _))
      (vss_one (vs_ret (vv_bin op_addA prim_add vb_str (vb_slice (vb_name 4 rfl (.inl rfl)) (vo_some vb_int) vo_none))))
      vss_nil)
    (vss_one (vs_ret (ve_move 4 rfl (.inl rfl)))))))

theorem G__law_rows (T : Tx K mg) : VF P w K mg base 2 T.a__law_rows T.d__law_rows ["feed", "most"] m__law_rows :=
  vf_mk (io := [true, false]) (N := n__law_rows) T.F__law_rows sc__law_rows rfl fun cdv A outer s H vs E hr => by
  have tk : Takes (cxOf (L2.CX P w) P w K mg base n__law_rows "_law_rows" (defScope s__law_rows) T.a__law_rows cdv A outer s H E) (fun cls d _ H => E cls d H) := takes_of rfl rfl rfl rfl
  have pOwn : PassesOwn (model P w) (A.deeper (envOfC "_law_rows" (defScope s__law_rows) s.heap.objs.size T.a__law_rows cdv)) (envOfC "_law_rows" (defScope s__law_rows) s.heap.objs.size T.a__law_rows cdv) (cxOf (L2.CX P w) P w K mg base n__law_rows "_law_rows" (defScope s__law_rows) T.a__law_rows cdv A outer s H E).xe := passes_of rfl
  exact (vss_cons (vs_set (i := 2) sc__law_rows.nd rfl (.inl rfl) (.inl rfl) (fx_ne (by decide)) (ve_bin op_addA prim_add (ve_b vb_int) (ve_call (G__law_draw T) (hr.mono (by decide)) (by rfl) T.g__law_draw T.F__law_draw.kp T.b__law_draw tk (vks_cons (vo_mv 0 rfl (.inr (.inl rfl))) (vks_cons (vo_val (ve_b (vb_name 1 rfl (.inl rfl)))) vks_nil)))))
    (vss_cons (vs_set (i := 3) sc__law_rows.nd rfl (.inl rfl) (.inl rfl) (fx_ne (by decide)) (ve_bin op_addA prim_add (ve_b vb_int) (ve_call (G__law_draw T) (hr.mono (by decide)) (by rfl) T.g__law_draw T.F__law_draw.kp T.b__law_draw tk (vks_cons (vo_mv 0 rfl (.inr (.inl rfl))) (vks_cons (vo_val (ve_b (vb_name 1 rfl (.inl rfl)))) vks_nil)))))
    (vss_cons (vs_set (i := 4) sc__law_rows.nd rfl (.inl rfl) (.inl rfl) (fx_ne (by decide)) (ve_lst ves_nil))
    (vss_cons (vs_for (b := bo__law_rows_2) pOwn rfl (vi_range1 (by rfl) T.z_range (ves_cons (ve_b (vb_name 3 rfl (.inl rfl))) ves_nil)) (vg_name (i := 5) sc__law_rows.nd rfl (.inl rfl) (.inl rfl) (fx_ne (by decide)))
      (vss_one (vs_append (i := 4) rfl (.inl rfl) (ve_m PySem.F.plainAttrs_str PySem.F.slot_str_join PySem.F.type_str_join mt_join prim_join vb_str (ves_cons (ve_lc (own := [("x", 6)]) (test := yesT) (fe := el__law_rows_1) rfl sc__law_rows.nd (vi_range1 (by rfl) T.z_range (ves_cons (ve_b (vb_name 2 rfl (.inl rfl))) ves_nil)) (blkOk_by (N := n__law_rows) (sc := defScope s__law_rows) (own := [("x", 6)]) (by decide +kernel)) (by decide) (by decide) (fun q hq => of_fxOf (by decide) q hq) (fun _ _ _ _ _ => (vg_name (i := 6) sc__law_rows.nd rfl (lLocal (by decide +kernel)) (fLocal (by decide +kernel)) (fx_ne (by decide)))) (fun _ _ _ _ _ => vts_nil) (fun _ _ _ _ _ => (ve_ix ix_seq prim_ix (ve_b vb_str) (ve_call (G__law_draw T) (hr.mono (by decide)) (by rfl) T.g__law_draw T.F__law_draw.kp T.b__law_draw takes0 (vks_cons (vo_mv 0 rfl (vFree (by decide +kernel))) (vks_cons (vo_val (ve_b vb_int)) vks_nil))) (fun _ _ => rfl)))) ves_nil)))))
    (vss_one (vs_ret (ve_move 4 rfl (.inl rfl))))))))

theorem G__law_sectors (T : Tx K mg) : VF P w K mg base 2 T.a__law_sectors T.d__law_sectors ["feed"] m__law_sectors :=
  vf_mk (io := [true]) (N := n__law_sectors) T.F__law_sectors sc__law_sectors rfl fun cdv A outer s H vs E hr => by
  have tk : Takes (cxOf (L2.CX P w) P w K mg base n__law_sectors "_law_sectors" (defScope s__law_sectors) T.a__law_sectors cdv A outer s H E) (fun cls d _ H => E cls d H) := takes_of rfl rfl rfl rfl
  have pOwn : PassesOwn (model P w) (A.deeper (envOfC "_law_sectors" (defScope s__law_sectors) s.heap.objs.size T.a__law_sectors cdv)) (envOfC "_law_sectors" (defScope s__law_sectors) s.heap.objs.size T.a__law_sectors cdv) (cxOf (L2.CX P w) P w K mg base n__law_sectors "_law_sectors" (defScope s__law_sectors) T.a__law_sectors cdv A outer s H E).xe := passes_of rfl
  exact (vss_cons (vs_set (i := 1) sc__law_sectors.nd rfl (.inl rfl) (.inl rfl) (fx_ne (by decide)) (ve_call (G__law_draw T) (hr.mono (by decide)) (by rfl) T.g__law_draw T.F__law_draw.kp T.b__law_draw tk (vks_cons (vo_mv 0 rfl (.inr (.inl rfl))) (vks_cons (vo_val (ve_b vb_int)) vks_nil))))
    (vss_cons (vs_setLc (i := 2) (own := [("k", 6)]) (test := yesT) (fe := el__law_sectors_1) rfl sc__law_sectors.nd rfl rfl (fx_ne (by decide)) (sw_true rfl rfl rfl (by decide +kernel)) (vi_range1 (by rfl) T.z_range (ves_cons (ve_b vb_int) ves_nil)) (blkOk_by (N := n__law_sectors) (sc := defScope s__law_sectors) (own := [("k", 6)]) (by decide +kernel)) (by decide) (by decide) (fun q hq => of_fxOf (by decide) q hq) (fun _ _ _ _ _ => (vg_name (i := 6) sc__law_sectors.nd rfl (lLocal (by decide +kernel)) (fLocal (by decide +kernel)) (fx_ne (by decide)))) (fun _ _ _ _ _ => vts_nil) (fun _ _ _ _ _ => (ve_ix ix_seq prim_ix (ve_b vb_str) (ve_call (G__law_draw T) (hr.mono (by decide)) (by rfl) T.g__law_draw T.F__law_draw.kp T.b__law_draw takes0 (vks_cons (vo_mv 0 rfl (vFree (by decide +kernel))) (vks_cons (vo_val (ve_b vb_int)) vks_nil))) (fun _ _ => rfl))))
    (vss_cons (vs_if (vt_cmp op_lt prim_cmp (vb_name 1 rfl (.inl rfl)) vb_int (nomark _))
      (vss_one (vs_ret (ve_lst (ves_cons (ve_tup (ves_cons (ve_b vb_int) (ves_cons (ve_b (vb_un un_neg prim_neg vb_int)) (ves_cons (ve_b (vb_ix ix_seq prim_ix (vb_name 2 rfl (.inl rfl)) vb_int (fun _ _ => rfl))) ves_nil)))) ves_nil))))
      vss_nil)
    (vss_cons (vs_if (vt_cmp (op_eq.or (op_eqD hr.units)) prim_eq (vb_name 1 rfl (.inl rfl)) vb_int (nomark _))
      (vss_one (vs_ret (ve_lst (ves_cons (ve_tup (ves_cons (ve_b vb_int) (ves_cons (ve_b (vb_un un_neg prim_neg vb_int)) (ves_cons (ve_b (vb_ix ix_seq prim_ix (vb_name 2 rfl (.inl rfl)) vb_int (fun _ _ => rfl))) ves_nil)))) (ves_cons (ve_tup (ves_cons (ve_b vb_int) (ves_cons (ve_b vb_int) (ves_cons (ve_b (vb_ix ix_seq prim_ix (vb_name 2 rfl (.inl rfl)) vb_int (fun _ _ => rfl))) ves_nil)))) (ves_cons (ve_tup (ves_cons (ve_b vb_int) (ves_cons (ve_b vb_int) (ves_cons (ve_b (vb_ix ix_seq prim_ix (vb_name 2 rfl (.inl rfl)) vb_int (fun _ _ => rfl))) ves_nil)))) (ves_cons (ve_tup (ves_cons (ve_b (vb_un un_neg prim_neg vb_int)) (ves_cons (ve_b vb_int) (ves_cons (ve_b (vb_ix ix_seq prim_ix (vb_name 2 rfl (.inl rfl)) vb_int (fun _ _ => rfl))) ves_nil)))) ves_nil)))))))
      vss_nil)
    (vss_cons (vs_set (i := 3) sc__law_sectors.nd rfl (.inl rfl) (.inl rfl) (fx_ne (by decide)) (ve_lst (ves_cons (ve_tup (ves_cons (ve_b vb_int) (ves_cons (ve_b (vb_un un_neg prim_neg vb_int)) ves_nil))) (ves_cons (ve_tup (ves_cons (ve_b vb_int) (ves_cons (ve_b (vb_un un_neg prim_neg vb_int)) ves_nil))) (ves_cons (ve_tup (ves_cons (ve_b vb_int) (ves_cons (ve_b vb_int) ves_nil))) (ves_cons (ve_tup (ves_cons (ve_b vb_int) (ves_cons (ve_b vb_int) ves_nil))) (ves_cons (ve_tup (ves_cons (ve_b vb_int) (ves_cons (ve_b vb_int) ves_nil))) (ves_cons (ve_tup (ves_cons (ve_b (vb_un un_neg prim_neg vb_int)) (ves_cons (ve_b vb_int) ves_nil))) (ves_cons (ve_tup (ves_cons (ve_b (vb_un un_neg prim_neg vb_int)) (ves_cons (ve_b vb_int) ves_nil))) (ves_cons (ve_tup (ves_cons (ve_b (vb_un un_neg prim_neg vb_int)) (ves_cons (ve_b (vb_un un_neg prim_neg vb_int)) ves_nil))) ves_nil))))))))))
    (vss_cons (vs_set (i := 4) sc__law_sectors.nd rfl (.inl rfl) (.inl rfl) (fx_ne (by decide)) (ve_call (G__law_draw T) (hr.mono (by decide)) (by rfl) T.g__law_draw T.F__law_draw.kp T.b__law_draw tk (vks_cons (vo_mv 0 rfl (.inr (.inl rfl))) (vks_cons (vo_val (ve_b vb_int)) vks_nil))))
    (vss_cons (vs_set (i := 5) sc__law_sectors.nd rfl (.inl rfl) (.inl rfl) (fx_ne (by decide)) (ve_bin op_modN prim_mod (ve_ty call_int1 prim_int (by rfl) T.z_int PyProof.Rows.boot_int (ves_cons (ve_bin op_addA prim_add (vv_bin op_addA prim_add (vb_name 4 rfl (.inl rfl)) vb_int) (ve_call (G__law_draw T) (hr.mono (by decide)) (by rfl) T.g__law_draw T.F__law_draw.kp T.b__law_draw tk (vks_cons (vo_mv 0 rfl (.inr (.inl rfl))) (vks_cons (vo_val (ve_b vb_int)) vks_nil)))) ves_nil)) (ve_b vb_int)))
    (vss_one (vs_ret (ve_lst (ves_cons (ve_tup (ves_cons (ve_b (vb_ix ix_seq prim_ix (vb_ix ix_seq prim_ix (vb_name 3 rfl (.inl rfl)) (vb_name 4 rfl (.inl rfl)) (fun _ _ => rfl)) vb_int (fun _ _ => rfl))) (ves_cons (ve_b (vb_ix ix_seq prim_ix (vb_ix ix_seq prim_ix (vb_name 3 rfl (.inl rfl)) (vb_name 4 rfl (.inl rfl)) (fun _ _ => rfl)) vb_int (fun _ _ => rfl))) (ves_cons (ve_b (vb_ix ix_seq prim_ix (vb_name 2 rfl (.inl rfl)) vb_int (fun _ _ => rfl))) ves_nil)))) (ves_cons (ve_tup (ves_cons (ve_b (vb_ix ix_seq prim_ix (vb_ix ix_seq prim_ix (vb_name 3 rfl (.inl rfl)) (vb_name 5 rfl (.inl rfl)) (fun _ _ => rfl)) vb_int (fun _ _ => rfl))) (ves_cons (ve_b (vb_ix ix_seq prim_ix (vb_ix ix_seq prim_ix (vb_name 3 rfl (.inl rfl)) (vb_name 5 rfl (.inl rfl)) (fun _ _ => rfl)) vb_int (fun _ _ => rfl))) (ves_cons (ve_b (vb_ix ix_seq prim_ix (vb_name 2 rfl (.inl rfl)) vb_int (fun _ _ => rfl))) ves_nil)))) ves_nil))))))))))))

theorem G__law_signal (T : Tx K mg) : VF P w K mg base 3 T.a__law_signal T.d__law_signal ["feed", "name", "rows", "words"] m__law_signal :=
  vf_mk (io := [true, false, false, false]) (N := n__law_signal) T.F__law_signal sc__law_signal rfl fun cdv A outer s H vs E hr => by
  have tk : Takes (cxOf (L2.CX P w) P w K mg base n__law_signal "_law_signal" (defScope s__law_signal) T.a__law_signal cdv A outer s H E) (fun cls d _ H => E cls d H) := takes_of rfl rfl rfl rfl
  have pOwn : PassesOwn (model P w) (A.deeper (envOfC "_law_signal" (defScope s__law_signal) s.heap.objs.size T.a__law_signal cdv)) (envOfC "_law_signal" (defScope s__law_signal) s.heap.objs.size T.a__law_signal cdv) (cxOf (L2.CX P w) P w K mg base n__law_signal "_law_signal" (defScope s__law_signal) T.a__law_signal cdv A outer s H E).xe := passes_of rfl
  exact (vss_cons (vs_set (i := 4) sc__law_signal.nd rfl (.inl rfl) (.inl rfl) (fx_ne (by decide)) (ve_call (G__law_draw T) (hr.mono (by decide)) (by rfl) T.g__law_draw T.F__law_draw.kp T.b__law_draw tk (vks_cons (vo_mv 0 rfl (.inl rfl)) (vks_cons (vo_val (vv_fn call_lenA prim_len (by rfl) T.z_len PySem.boot_len (vbs_cons (vb_ix ix_seq prim_ix (vb_name 2 rfl (.inl rfl)) vb_int (fun _ _ => rfl)) vbs_nil))) vks_nil))))
    (vss_cons (vs_set (i := 5) sc__law_signal.nd rfl (.inl rfl) (.inl rfl) (fx_ne (by decide)) (ve_call (G__law_draw T) (hr.mono (by decide)) (by rfl) T.g__law_draw T.F__law_draw.kp T.b__law_draw tk (vks_cons (vo_mv 0 rfl (.inl rfl)) (vks_cons (vo_val (vv_fn call_lenA prim_len (by rfl) T.z_len PySem.boot_len (vbs_cons (vb_name 2 rfl (.inl rfl)) vbs_nil))) vks_nil))))
    (vss_cons (vs_set (i := 6) sc__law_signal.nd rfl (.inl rfl) (.inl rfl) (fx_ne (by decide)) (ve_ixN (i := 3) rfl (.inl rfl) (ve_call (G__law_draw T) (hr.mono (by decide)) (by rfl) T.g__law_draw T.F__law_draw.kp T.b__law_draw tk (vks_cons (vo_mv 0 rfl (.inl rfl)) (vks_cons (vo_val (vv_fn call_lenA prim_len (by rfl) T.z_len PySem.boot_len (vbs_cons (vb_name 3 rfl (.inl rfl)) vbs_nil))) vks_nil))) (fun _ _ => rfl)))
    (vss_cons (vs_if (vt_cmpE (op_eq.or (op_eqD hr.units)) prim_eq (ve_call (G__law_draw T) (hr.mono (by decide)) (by rfl) T.g__law_draw T.F__law_draw.kp T.b__law_draw tk (vks_cons (vo_mv 0 rfl (.inl rfl)) (vks_cons (vo_val (ve_b vb_int)) vks_nil))) (ve_b vb_int) (nomark _))
      (vss_cons (vs_set (i := 7) sc__law_signal.nd rfl (.inl rfl) (.inl rfl) (fx_ne (by decide)) (ve_m PySem.F.plainAttrs_str PySem.F.slot_str_join PySem.F.type_str_join mt_join prim_join vb_str (ves_cons (ve_lc (own := [("letter", 10)]) (test := yesT) (fe := el__law_signal_1) rfl sc__law_signal.nd (vi_seq (ve_b (vb_name 6 rfl (.inl rfl)))) (blkOk_by (N := n__law_signal) (sc := defScope s__law_signal) (own := [("letter", 10)]) (by decide +kernel)) (by decide) (by decide) (fun q hq => of_fxOf (by decide) q hq) (fun _ _ _ _ _ => (vg_name (i := 10) sc__law_signal.nd rfl (lLocal (by decide +kernel)) (fLocal (by decide +kernel)) (fx_ne (by decide)))) (fun _ _ _ _ _ => vts_nil) (fun _ _ _ _ _ => (ve_if (vt_cmp (op_eq.or (op_eqD hr.units)) prim_eq (vb_name 10 rfl (vLocal (by decide +kernel))) vb_str (nomark _)) (ve_b vb_str) (ve_b vb_str)))) ves_nil)))
    (vss_one (vs_ret (ve_tup (ves_cons (ve_b (vb_name 1 rfl (.inl rfl))) (ves_cons (ve_b vb_str) (ves_cons (ve_b (vb_name 4 rfl (.inl rfl))) (ves_cons (ve_b (vb_name 5 rfl (.inl rfl))) (ves_cons (ve_b (vb_name 7 rfl (.inl rfl))) (ves_cons (ve_bin op_addA prim_add (ve_b vb_int) (ve_call (G__law_draw T) (hr.mono (by decide)) (by rfl) T.g__law_draw T.F__law_draw.kp T.b__law_draw tk (vks_cons (vo_mv 0 rfl (.inl rfl)) (vks_cons (vo_val (ve_b vb_int)) vks_nil)))) (ves_cons (ve_b vb_int) (ves_cons (ve_frz (ve_lst ves_nil)) ves_nil))))))))))))
      vss_nil)
    (vss_cons (vs_set (i := 8) sc__law_signal.nd rfl (.inl rfl) (.inl rfl) (fx_ne (by decide)) (ve_ix ix_seq prim_ix (ve_lst (ves_cons (ve_b vb_int) (ves_cons (ve_b vb_int) (ves_cons (ve_b vb_int) (ves_cons (ve_b vb_int) ves_nil))))) (ve_call (G__law_draw T) (hr.mono (by decide)) (by rfl) T.g__law_draw T.F__law_draw.kp T.b__law_draw tk (vks_cons (vo_mv 0 rfl (.inl rfl)) (vks_cons (vo_val (ve_b vb_int)) vks_nil))) (fun _ _ => rfl)))
    (vss_cons (vs_set (i := 9) sc__law_signal.nd rfl (.inl rfl) (.inl rfl) (fx_ne (by decide)) (ve_ix ix_seq prim_ix (ve_lst (ves_cons (ve_b vb_int) (ves_cons (ve_b vb_int) (ves_cons (ve_b vb_int) (ves_cons (ve_b vb_int) ves_nil))))) (ve_call (G__law_draw T) (hr.mono (by decide)) (by rfl) T.g__law_draw T.F__law_draw.kp T.b__law_draw tk (vks_cons (vo_mv 0 rfl (.inl rfl)) (vks_cons (vo_val (ve_b vb_int)) vks_nil))) (fun _ _ => rfl)))
    (vss_one (vs_ret (ve_tup (ves_cons (ve_b (vb_name 1 rfl (.inl rfl))) (ves_cons (ve_b vb_str) (ves_cons (ve_b (vb_name 4 rfl (.inl rfl))) (ves_cons (ve_b (vb_name 5 rfl (.inl rfl))) (ves_cons (ve_b (vb_name 6 rfl (.inl rfl))) (ves_cons (ve_b (vb_name 8 rfl (.inl rfl))) (ves_cons (ve_b (vb_name 9 rfl (.inl rfl))) (ves_cons (ve_frz (ve_call (G__law_sectors T) (hr.mono (by decide)) (by rfl) T.g__law_sectors T.F__law_sectors.kp T.b__law_sectors tk (vks_cons (vo_mv 0 rfl (.inl rfl)) vks_nil))) ves_nil)))))))))))))))))

theorem G__law_names (T : Tx K mg) : VF P w K mg base 2 T.a__law_names T.d__law_names ["feed", "many"] m__law_names :=
  vf_mk (io := [true, false]) (N := n__law_names) T.F__law_names sc__law_names rfl fun cdv A outer s H vs E hr => by
  have tk : Takes (cxOf (L2.CX P w) P w K mg base n__law_names "_law_names" (defScope s__law_names) T.a__law_names cdv A outer s H E) (fun cls d _ H => E cls d H) := takes_of rfl rfl rfl rfl
  have pOwn : PassesOwn (model P w) (A.deeper (envOfC "_law_names" (defScope s__law_names) s.heap.objs.size T.a__law_names cdv)) (envOfC "_law_names" (defScope s__law_names) s.heap.objs.size T.a__law_names cdv) (cxOf (L2.CX P w) P w K mg base n__law_names "_law_names" (defScope s__law_names) T.a__law_names cdv A outer s H E).xe := passes_of rfl
  exact (vss_cons (vs_set (i := 2) sc__law_names.nd rfl (.inr rfl) (.inl rfl) (fx_ne (by decide)) (ve_m PySem.F.plainAttrs_str PySem.F.slot_str_join PySem.F.type_str_join mt_join prim_join vb_str (ves_cons (ve_lc (own := [("k", 5)]) (test := yesT) (fe := el__law_names_1) rfl sc__law_names.nd (vi_range1 (by rfl) T.z_range (ves_cons (ve_call (G__law_draw T) (hr.mono (by decide)) (by rfl) T.g__law_draw T.F__law_draw.kp T.b__law_draw tk (vks_cons (vo_mv 0 rfl (.inr (.inl rfl))) (vks_cons (vo_val (ve_b vb_int)) vks_nil))) ves_nil)) (blkOk_by (N := n__law_names) (sc := defScope s__law_names) (own := [("k", 5)]) (by decide +kernel)) (by decide) (by decide) (fun q hq => of_fxOf (by decide) q hq) (fun _ _ _ _ _ => (vg_name (i := 5) sc__law_names.nd rfl (lLocal (by decide +kernel)) (fLocal (by decide +kernel)) (fx_ne (by decide)))) (fun _ _ _ _ _ => vts_nil) (fun _ _ _ _ _ => (ve_ix ix_seq prim_ix (ve_b vb_str) (ve_call (G__law_draw T) (hr.mono (by decide)) (by rfl) T.g__law_draw T.F__law_draw.kp T.b__law_draw takes0 (vks_cons (vo_mv 0 rfl (vFree (by decide +kernel))) (vks_cons (vo_val (ve_b vb_int)) vks_nil))) (fun _ _ => rfl)))) ves_nil)))
    (vss_cons (vs_set (i := 3) sc__law_names.nd rfl (.inr rfl) (.inl rfl) (fx_ne (by decide)) (ve_call (G__law_draw T) (hr.mono (by decide)) (by rfl) T.g__law_draw T.F__law_draw.kp T.b__law_draw tk (vks_cons (vo_mv 0 rfl (.inr (.inl rfl))) (vks_cons (vo_val (vv_bin op_addA prim_add (vb_fn call_lenA prim_len (by rfl) T.z_len PySem.boot_len (vbs_cons (vb_name 2 rfl (.inr (.inl rfl))) vbs_nil)) vb_int)) vks_nil))))
    (vss_cons (vs_set (i := 4) sc__law_names.nd rfl (.inr rfl) (.inl rfl) (fx_ne (by decide)) (ve_call (G__law_draw T) (hr.mono (by decide)) (by rfl) T.g__law_draw T.F__law_draw.kp T.b__law_draw tk (vks_cons (vo_mv 0 rfl (.inr (.inl rfl))) (vks_cons (vo_val (ve_b vb_int)) vks_nil))))
    (vss_one (vs_ret (ve_lc (own := [("k", 5)]) (test := yesT) (fe := el__law_names_2) rfl sc__law_names.nd (vi_range1 (by rfl) T.z_range (ves_cons (ve_b (vb_name 1 rfl (.inl rfl))) ves_nil)) (blkOk_by (N := n__law_names) (sc := defScope s__law_names) (own := [("k", 5)]) (by decide +kernel)) (by decide) (by decide) (fun q hq => of_fxOf (by decide) q hq) (fun _ _ _ _ _ => (vg_name (i := 5) sc__law_names.nd rfl (lLocal (by decide +kernel)) (fLocal (by decide +kernel)) (fx_ne (by decide)))) (fun _ _ _ _ _ => vts_nil) (fun _ _ _ _ _ => (vv_bin op_addA prim_add (vb_bin op_addA prim_add (vb_slice (vb_name 2 rfl (vFree (by decide +kernel))) vo_none (vo_some (vb_name 3 rfl (vFree (by decide +kernel))))) (vb_ix ix_seq prim_ix vb_str (vb_bin op_modN prim_mod (vb_ty call_int1 prim_int (by rfl) T.z_int PyProof.Rows.boot_int (vbs_cons (vb_bin op_addA prim_add (vb_name 5 rfl (vLocal (by decide +kernel))) (vb_name 4 rfl (vFree (by decide +kernel)))) vbs_nil)) vb_int) (fun _ _ => rfl))) (vb_slice (vb_name 2 rfl (vFree (by decide +kernel))) (vo_some (vb_name 3 rfl (vFree (by decide +kernel)))) vo_none)))))))))

theorem G_Chart___init__ (T : Tx K mg) : VF P w K mg base 3 T.a_Chart___init__ T.d_Chart___init__ ["self", "rows"] m_Chart___init__ :=
  vf_mk (io := [true, false]) (N := n_Chart___init__) T.F_Chart___init__ sc_Chart___init__ rfl fun cdv A outer s H vs E hr => by
  have tk : Takes (cxOf (L2.CX P w) P w K mg base n_Chart___init__ "Chart.__init__" (defScope s_Chart___init__) T.a_Chart___init__ cdv A outer s H E) (fun cls d _ H => E cls d H) := takes_of rfl rfl rfl rfl
  have pOwn : PassesOwn (model P w) (A.deeper (envOfC "Chart.__init__" (defScope s_Chart___init__) s.heap.objs.size T.a_Chart___init__ cdv)) (envOfC "Chart.__init__" (defScope s_Chart___init__) s.heap.objs.size T.a_Chart___init__ cdv) (cxOf (L2.CX P w) P w K mg base n_Chart___init__ "Chart.__init__" (defScope s_Chart___init__) T.a_Chart___init__ cdv A outer s H E).xe := passes_of rfl
  exact (vss_cons (vs_if (vt_not (vt_chain op_le prim_cmp op_le prim_cmp vb_int (vb_fn call_lenA prim_len (by rfl) T.z_len PySem.boot_len (vbs_cons (vb_name 1 rfl (.inl rfl)) vbs_nil)) (vb_globI (by rfl) T.c_MOST_HIGH)))
      (vss_one (vs_raise (names := ["at"]) T.ra_BadChart rfl tk (hr.mono (by decide)) (by rfl) (ves_cons (ve_b (vb_un un_neg prim_neg vb_int)) ves_nil)))
      vss_nil)
    (vss_cons (vs_for (b := bo_Chart___init___1) pOwn rfl (vi_enum2 (by rfl) T.z_enumerate (ves_cons (ve_b (vb_name 1 rfl (.inl rfl))) ves_nil)) (vg_tup (n := 2) rfl (vgs_cons (vg_name (i := 2) sc_Chart___init__.nd rfl (.inl rfl) (.inl rfl) (fx_ne (by decide))) (vgs_cons (vg_name (i := 3) sc_Chart___init__.nd rfl (.inl rfl) (.inl rfl) (fx_ne (by decide))) vgs_nil)))
      (vss_one (vs_if (vt_not (vt_v (ve_b (vb_callA (ps := ["row", "wide"]) (G_is_row T) (hr.mono (by decide)) (by rfl) T.g_is_row T.F_is_row.kp T.b_is_row tk (vbs_cons (vb_name 3 rfl (.inl rfl)) (vbs_cons (vb_fn call_lenA prim_len (by rfl) T.z_len PySem.boot_len (vbs_cons (vb_ix ix_seq prim_ix (vb_name 1 rfl (.inl rfl)) vb_int (fun _ _ => rfl)) vbs_nil)) vbs_nil))))))
      (vss_one (vs_raise (names := ["at"]) T.ra_BadChart rfl tk (hr.mono (by decide)) (by rfl) (ves_cons (ve_b (vb_name 2 rfl (.inl rfl))) ves_nil)))
      vss_nil)))
    (vss_cons (vs_fld (i := 0) T.cl_Chart (by decide) rfl (.inl rfl) (vv_ty call_tuple_of prim_tuple (by rfl) T.z_tuple PyProof.Rows.boot_tuple (vbs_cons (vb_name 1 rfl (.inl rfl)) vbs_nil)))
    (vss_cons (vs_fld (i := 0) T.cl_Chart (by decide) rfl (.inl rfl) (vv_fn call_lenA prim_len (by rfl) T.z_len PySem.boot_len (vbs_cons (vb_ix ix_seq prim_ix (vb_name 1 rfl (.inl rfl)) vb_int (fun _ _ => rfl)) vbs_nil)))
    (vss_one (vs_fld (i := 0) T.cl_Chart (by decide) rfl (.inl rfl) (vv_fn call_lenA prim_len (by rfl) T.z_len PySem.boot_len (vbs_cons (vb_name 1 rfl (.inl rfl)) vbs_nil))))))))

theorem G__law_coast (T : Tx K mg) : VF P w K mg base 12 T.a__law_coast T.d__law_coast ["rows", "signals"] m__law_coast :=
  vf_mk (io := [false, false]) (N := n__law_coast) T.F__law_coast sc__law_coast rfl fun cdv A outer s H vs E hr => by
  have tk : Takes (cxOf (L2.CX P w) P w K mg base n__law_coast "_law_coast" (defScope s__law_coast) T.a__law_coast cdv A outer s H E) (fun cls d _ H => E cls d H) := takes_of rfl rfl rfl rfl
  have pOwn : PassesOwn (model P w) (A.deeper (envOfC "_law_coast" (defScope s__law_coast) s.heap.objs.size T.a__law_coast cdv)) (envOfC "_law_coast" (defScope s__law_coast) s.heap.objs.size T.a__law_coast cdv) (cxOf (L2.CX P w) P w K mg base n__law_coast "_law_coast" (defScope s__law_coast) T.a__law_coast cdv A outer s H E).xe := passes_of rfl
  exact (vss_cons (vs_set (i := 2) sc__law_coast.nd rfl (.inl rfl) (.inl rfl) (fx_ne (by decide)) (ve_lst ves_nil))
    (vss_cons (vs_for (b := bo__law_coast_1) pOwn rfl (vi_seq (ve_b (vb_name 1 rfl (.inl rfl)))) (vg_name (i := 3) sc__law_coast.nd rfl (.inl rfl) (.inl rfl) (fx_ne (by decide)))
      (vss_one (vs_append (i := 2) rfl (.inl rfl) (ve_make (ps := ["self", "name", "kind", "x", "y", "rhythm", "strength", "height", "sectors"]) T.mk_Signal (G_Signal___init__ T) (hr.mono (by decide)) (by rfl) T.gC_Signal T.b_Signal___init__ tk (ves_cons (ve_b (vb_ix ix_seq prim_ix (vb_name 3 rfl (.inl rfl)) vb_int (fun _ _ => rfl))) (ves_cons (ve_b (vb_ix ix_seq prim_ix (vb_name 3 rfl (.inl rfl)) vb_int (fun _ _ => rfl))) (ves_cons (ve_b (vb_ix ix_seq prim_ix (vb_name 3 rfl (.inl rfl)) vb_int (fun _ _ => rfl))) (ves_cons (ve_b (vb_ix ix_seq prim_ix (vb_name 3 rfl (.inl rfl)) vb_int (fun _ _ => rfl))) (ves_cons (ve_b (vb_ix ix_seq prim_ix (vb_name 3 rfl (.inl rfl)) vb_int (fun _ _ => rfl))) (ves_cons (ve_b (vb_ix ix_seq prim_ix (vb_name 3 rfl (.inl rfl)) vb_int (fun _ _ => rfl))) (ves_cons (ve_b (vb_ix ix_seq prim_ix (vb_name 3 rfl (.inl rfl)) vb_int (fun _ _ => rfl))) (ves_cons (ve_frz (vv_ty call_list_of prim_list (by rfl) T.z_list PyProof.Rows.boot_list (vbs_cons (vb_ix ix_seq prim_ix (vb_name 3 rfl (.inl rfl)) vb_int (fun _ _ => rfl)) vbs_nil))) ves_nil))))))))))))
    (vss_one (vs_frz 2 (vs_ret (ve_make (ps := ["self", "chart", "signals"]) T.mk_Coast (G_Coast___init__ T) (hr.mono (by decide)) (by rfl) T.gC_Coast T.b_Coast___init__ tk (ves_cons (ve_frz (ve_make (ps := ["self", "rows"]) T.mk_Chart (G_Chart___init__ T) (hr.mono (by decide)) (by rfl) T.gC_Chart T.b_Chart___init__ tk (ves_cons (ve_frz (vv_ty call_list_of prim_list (by rfl) T.z_list PyProof.Rows.boot_list (vbs_cons (vb_name 0 rfl (.inl rfl)) vbs_nil))) ves_nil))) (ves_cons (ve_b (vb_name 2 rfl (.inl rfl))) ves_nil))))))))

theorem G__law_fits (T : Tx K mg) : VF P w K mg base 1 T.a__law_fits T.d__law_fits ["rhythm", "kind"] m__law_fits :=
  vf_mk (io := [false, false]) (N := n__law_fits) T.F__law_fits sc__law_fits rfl fun cdv A outer s H vs E hr => by
  have tk : Takes (cxOf (L2.CX P w) P w K mg base n__law_fits "_law_fits" (defScope s__law_fits) T.a__law_fits cdv A outer s H E) (fun cls d _ H => E cls d H) := takes_of rfl rfl rfl rfl
  have pOwn : PassesOwn (model P w) (A.deeper (envOfC "_law_fits" (defScope s__law_fits) s.heap.objs.size T.a__law_fits cdv)) (envOfC "_law_fits" (defScope s__law_fits) s.heap.objs.size T.a__law_fits cdv) (cxOf (L2.CX P w) P w K mg base n__law_fits "_law_fits" (defScope s__law_fits) T.a__law_fits cdv A outer s H E).xe := passes_of rfl
  exact (vss_cons (vs_set (i := 2) sc__law_fits.nd rfl (.inr rfl) (.inl rfl) (fx_ne (by decide)) (ve_b vb_str))
    (vss_cons (vs_if (vt_cmp (op_eq.or (op_eqD hr.units)) prim_eq (vb_name 1 rfl (.inl rfl)) vb_str (nomark _))
      (vss_one (vs_set (i := 2) sc__law_fits.nd rfl (.inr rfl) (.inl rfl) (fx_ne (by decide)) (ve_b vb_str)))
      vss_nil)
    (vss_cons (vs_if (vw_pt (vw_or (vt_not (vt_chain op_le prim_cmp op_le prim_cmp vb_int (vb_fn call_lenA prim_len (by rfl) T.z_len PySem.boot_len (vbs_cons (vb_name 0 rfl (.inl rfl)) vbs_nil)) vb_int)) (vw_or1 (vt_cmp (op_eq.or (op_eqD hr.units)) prim_eq (vb_name 0 rfl (.inl rfl)) (vb_bin op_mulA prim_mulA vb_str (vb_fn call_lenA prim_len (by rfl) T.z_len PySem.boot_len (vbs_cons (vb_name 0 rfl (.inl rfl)) vbs_nil))) (nomark _)))))
      (vss_one (vs_ret (ve_b vb_bl)))
      vss_nil)
    (vss_one (vs_ret (ve_cmp (op_eq.or (op_eqD hr.units)) prim_eq (ve_fn call_lenA prim_len (by rfl) T.z_len PySem.boot_len (ves_cons (ve_lc (own := [("letter", 3)]) (test := te__law_fits_1) (fe := el__law_fits_2) rfl sc__law_fits.nd (vi_seq (ve_b (vb_name 0 rfl (.inl rfl)))) (blkOk_by (N := n__law_fits) (sc := defScope s__law_fits) (own := [("letter", 3)]) (by decide +kernel)) (by decide) (by decide) (fun q hq => of_fxOf (by decide) q hq) (fun _ _ _ _ _ => (vg_name (i := 3) sc__law_fits.nd rfl (lLocal (by decide +kernel)) (fLocal (by decide +kernel)) (fx_ne (by decide)))) (fun _ _ _ _ _ => (vts_one (vt_cmp (op_inA (hu65 hr)) prim_in (vb_name 3 rfl (vLocal (by decide +kernel))) (vb_name 2 rfl (vFree (by decide +kernel))) (by rfl)))) (fun _ _ _ _ _ => (ve_b (vb_name 3 rfl (vLocal (by decide +kernel)))))) ves_nil)) (vv_fn call_lenA prim_len (by rfl) T.z_len PySem.boot_len (vbs_cons (vb_name 0 rfl (.inl rfl)) vbs_nil)) (nomark _)))))))

theorem G__law_due (T : Tx K mg) : VF P w K mg base 2 T.a__law_due T.d__law_due ["spares"] m__law_due :=
  vf_mk (io := [false]) (N := n__law_due) T.F__law_due sc__law_due rfl fun cdv A outer s H vs E hr => by
  have tk : Takes (cxOf (L2.CX P w) P w K mg base n__law_due "_law_due" (defScope s__law_due) T.a__law_due cdv A outer s H E) (fun cls d _ H => E cls d H) := takes_of rfl rfl rfl rfl
  have pOwn : PassesOwn (model P w) (A.deeper (envOfC "_law_due" (defScope s__law_due) s.heap.objs.size T.a__law_due cdv)) (envOfC "_law_due" (defScope s__law_due) s.heap.objs.size T.a__law_due cdv) (cxOf (L2.CX P w) P w K mg base n__law_due "_law_due" (defScope s__law_due) T.a__law_due cdv A outer s H E).xe := passes_of rfl
  exact (vss_cons (vs_if (vt_cmp op_gt prim_cmp (vb_fn call_lenA prim_len (by rfl) T.z_len PySem.boot_len (vbs_cons (vb_name 0 rfl (.inl rfl)) vbs_nil)) vb_int (nomark _))
      (vss_one (vs_ret (ve_b (vb_un un_neg prim_neg vb_int))))
      vss_nil)
    (vss_cons (vs_for (b := bo__law_due_1) pOwn rfl (vi_range1 (by rfl) T.z_range (ves_cons (vv_fn call_lenA prim_len (by rfl) T.z_len PySem.boot_len (vbs_cons (vb_name 0 rfl (.inl rfl)) vbs_nil)) ves_nil)) (vg_name (i := 1) sc__law_due.nd rfl (.inl rfl) (.inl rfl) (fx_ne (by decide)))
      (vss_cons (vs_asg (ve_b (vb_ix ix_seq prim_ix (vb_name 0 rfl (.inl rfl)) (vb_name 1 rfl (.inl rfl)) (fun _ _ => rfl))) (vg_tup (n := 2) rfl (vgs_cons (vg_name (i := 2) sc__law_due.nd rfl (.inl rfl) (.inl rfl) (fx_ne (by decide))) (vgs_cons (vg_name (i := 3) sc__law_due.nd rfl (.inl rfl) (.inl rfl) (fx_ne (by decide))) vgs_nil))))
    (vss_one (vs_if (vw_pt (vw_or (vw_pt (vw_and (vt_not (vt_v (ve_b (vb_callA (ps := ["rhythm", "kind"]) (G__law_fits T) (hr.mono (by decide)) (by rfl) T.g__law_fits T.F__law_fits.kp T.b__law_fits tk (vbs_cons (vb_name 2 rfl (.inl rfl)) (vbs_cons vb_str vbs_nil)))))) (vw_and1 (vt_not (vt_v (ve_b (vb_callA (ps := ["rhythm", "kind"]) (G__law_fits T) (hr.mono (by decide)) (by rfl) T.g__law_fits T.F__law_fits.kp T.b__law_fits tk (vbs_cons (vb_name 2 rfl (.inl rfl)) (vbs_cons vb_str vbs_nil))))))))) (vw_or1 (vt_not (vt_chain op_le prim_cmp op_le prim_cmp vb_int (vb_name 3 rfl (.inl rfl)) vb_int)))))
      (vss_one (vs_ret (ve_move 1 rfl (.inl rfl))))
      vss_nil))))
    (vss_one (vs_ret (ve_b vb_non)))))

theorem G__law_refused (T : Tx K mg) : VF P w K mg base 4 T.a__law_refused T.d__law_refused ["spares"] m__law_refused :=
  vf_mk (io := [false]) (N := n__law_refused) T.F__law_refused sc__law_refused rfl fun cdv A outer s H vs E hr => by
  have tk : Takes (cxOf (L2.CX P w) P w K mg base n__law_refused "_law_refused" (defScope s__law_refused) T.a__law_refused cdv A outer s H E) (fun cls d _ H => E cls d H) := takes_of rfl rfl rfl rfl
  have pOwn : PassesOwn (model P w) (A.deeper (envOfC "_law_refused" (defScope s__law_refused) s.heap.objs.size T.a__law_refused cdv)) (envOfC "_law_refused" (defScope s__law_refused) s.heap.objs.size T.a__law_refused cdv) (cxOf (L2.CX P w) P w K mg base n__law_refused "_law_refused" (defScope s__law_refused) T.a__law_refused cdv A outer s H E).xe := passes_of rfl
  exact (vss_cons (vs_try (tb := xtb) T.xt rfl rfl tk (fun W1 pn1 xe1 tk pOwn => (vss_one (vs_set (i := 1) sc__law_refused.nd rfl (.inl rfl) (.inl rfl) (fx_ne (by decide)) (ve_call (G_check_spares T) (hr.mono (by decide)) (by rfl) T.g_check_spares T.F_check_spares.kp T.b_check_spares tk (vks_cons (vo_val (ve_b (vb_name 0 rfl (.inl rfl)))) vks_nil)))))
      (.as_ (i := 2) sc__law_refused.nd rfl rfl (fx_ne (by decide)) ⟨by rfl, by decide, .inl T.gC_BadSpare⟩ (clV_own T.gC_BadSpare) (fun a oe cls d pn xc xfs cau => (vss_cons (vs_if (vw_pt (vw_and (vt_v (ve_b (vb_callQ (ps := ["x"]) (GQ__law_is_whole T) (roomS (hr.mono (by decide))) (by rfl) T.g__law_is_whole T.F__law_is_whole.kp T.b__law_is_whole takes0 (vbs_cons (vb_xf T.xt cau (i := 2) rfl (.inl rfl)) vbs_nil)))) (vw_and1 (vt_not (vt_truth (vb_xi T.xt cau (i := 2) rfl (.inl rfl) (by rfl) T.z_isinstance (by rfl) T.gC_BadSignal))))))
      (vss_one (vs_ret (ve_b (vb_xf T.xt cau (i := 2) rfl (.inl rfl)))))
      vss_nil)
    (vss_one (vs_ret (ve_b vb_str)))))))
    (vss_cons (vs_if (vt_cmp op_isNotA prim_isNot (vb_name 1 rfl (.inl rfl)) vb_non (nomark _))
      (vss_one (vs_ret (ve_b vb_str)))
      vss_nil)
    (vss_one (vs_ret (ve_b vb_non)))))

theorem G__law_rhythm (T : Tx K mg) : VF P w K mg base 3 T.a__law_rhythm T.d__law_rhythm ["feed", "good"] m__law_rhythm :=
  vf_mk (io := [true, false]) (N := n__law_rhythm) T.F__law_rhythm sc__law_rhythm rfl fun cdv A outer s H vs E hr => by
  have tk : Takes (cxOf (L2.CX P w) P w K mg base n__law_rhythm "_law_rhythm" (defScope s__law_rhythm) T.a__law_rhythm cdv A outer s H E) (fun cls d _ H => E cls d H) := takes_of rfl rfl rfl rfl
  have pOwn : PassesOwn (model P w) (A.deeper (envOfC "_law_rhythm" (defScope s__law_rhythm) s.heap.objs.size T.a__law_rhythm cdv)) (envOfC "_law_rhythm" (defScope s__law_rhythm) s.heap.objs.size T.a__law_rhythm cdv) (cxOf (L2.CX P w) P w K mg base n__law_rhythm "_law_rhythm" (defScope s__law_rhythm) T.a__law_rhythm cdv A outer s H E).xe := passes_of rfl
  exact (vss_cons (vs_set (i := 2) sc__law_rhythm.nd rfl (.inl rfl) (.inl rfl) (fx_ne (by decide)) (ve_call (G__law_draw T) (hr.mono (by decide)) (by rfl) T.g__law_draw T.F__law_draw.kp T.b__law_draw tk (vks_cons (vo_mv 0 rfl (.inr (.inl rfl))) (vks_cons (vo_val (ve_b vb_int)) vks_nil))))
    (vss_cons (vs_if (vt_truth (vb_name 1 rfl (.inl rfl)))
      (vss_one (vs_set (i := 2) sc__law_rhythm.nd rfl (.inl rfl) (.inl rfl) (fx_ne (by decide)) (vv_bin op_fdivN prim_fdiv (vb_name 2 rfl (.inl rfl)) vb_int)))
      vss_nil)
    (vss_cons (vs_if (vt_cmp op_lt prim_cmp (vb_name 2 rfl (.inl rfl)) vb_int (nomark _))
      (vss_one (vs_ret (ve_call (G__law_word T) (hr.mono (by decide)) (by rfl) T.g__law_word T.F__law_word.kp T.b__law_word tk (vks_late (i := 0) rfl (.inr (.inl rfl)) (vks_cons (vo_val (ve_ix ix_seq prim_ix (ve_lst (ves_cons (ve_b vb_str) (ves_cons (ve_b vb_str) ves_nil))) (ve_call (G__law_draw T) (hr.mono (by decide)) (by rfl) T.g__law_draw T.F__law_draw.kp T.b__law_draw tk (vks_cons (vo_mv 0 rfl (.inr (.inl rfl))) (vks_cons (vo_val (ve_b vb_int)) vks_nil))) (fun _ _ => rfl))) (vks_cons (vo_val (ve_ix ix_seq prim_ix (ve_lst (ves_cons (ve_b vb_int) (ves_cons (ve_b vb_int) ves_nil))) (ve_call (G__law_draw T) (hr.mono (by decide)) (by rfl) T.g__law_draw T.F__law_draw.kp T.b__law_draw tk (vks_cons (vo_mv 0 rfl (.inr (.inl rfl))) (vks_cons (vo_val (ve_b vb_int)) vks_nil))) (fun _ _ => rfl))) vks_nil))))))
      vss_nil)
    (vss_cons (vs_if (vt_cmp op_lt prim_cmp (vb_name 2 rfl (.inl rfl)) vb_int (nomark _))
      (vss_cons (vs_set (i := 3) sc__law_rhythm.nd rfl (.inl rfl) (.inl rfl) (fx_ne (by decide)) (ve_bin op_addA prim_add (ve_b vb_int) (ve_call (G__law_draw T) (hr.mono (by decide)) (by rfl) T.g__law_draw T.F__law_draw.kp T.b__law_draw tk (vks_cons (vo_mv 0 rfl (.inr (.inl rfl))) (vks_cons (vo_val (ve_b vb_int)) vks_nil)))))
    (vss_cons (vs_setLc (i := 4) (own := [("k", 5)]) (test := yesT) (fe := el__law_rhythm_1) rfl sc__law_rhythm.nd rfl rfl (fx_ne (by decide)) (sw_true rfl rfl rfl (by decide +kernel)) (vi_range1 (by rfl) T.z_range (ves_cons (ve_b (vb_name 3 rfl (.inl rfl))) ves_nil)) (blkOk_by (N := n__law_rhythm) (sc := defScope s__law_rhythm) (own := [("k", 5)]) (by decide +kernel)) (by decide) (by decide) (fun q hq => of_fxOf (by decide) q hq) (fun _ _ _ _ _ => (vg_name (i := 5) sc__law_rhythm.nd rfl (lLocal (by decide +kernel)) (fLocal (by decide +kernel)) (fx_ne (by decide)))) (fun _ _ _ _ _ => vts_nil) (fun _ _ _ _ _ => (ve_ix ix_seq prim_ix (ve_b vb_str) (ve_call (G__law_draw T) (hr.mono (by decide)) (by rfl) T.g__law_draw T.F__law_draw.kp T.b__law_draw takes0 (vks_cons (vo_mv 0 rfl (vFree (by decide +kernel))) (vks_cons (vo_val (ve_b vb_int)) vks_nil))) (fun _ _ => rfl))))
    (vss_cons (vs_setitem (i := 4) rfl (.inl rfl) (ve_call (G__law_draw T) (hr.mono (by decide)) (by rfl) T.g__law_draw T.F__law_draw.kp T.b__law_draw tk (vks_cons (vo_mv 0 rfl (.inr (.inl rfl))) (vks_cons (vo_val (ve_b (vb_name 3 rfl (.inl rfl)))) vks_nil))) (ve_b vb_str))
    (vss_one (vs_ret (ve_b (vb_m PySem.F.plainAttrs_str PySem.F.slot_str_join PySem.F.type_str_join mt_join prim_join vb_str (vbs_cons (vb_name 4 rfl (.inl rfl)) vbs_nil))))))))
      vss_nil)
    (vss_one (vs_ret (ve_ix ix_seq prim_ix (ve_lst (ves_cons (ve_b vb_str) (ves_cons (ve_b vb_str) (ves_cons (ve_b vb_str) (ves_cons (ve_b vb_str) (ves_cons (ve_b vb_str) (ves_cons (vv_bin op_mulA prim_mulA vb_str vb_int) (ves_cons (vv_bin op_mulA prim_mulA vb_str vb_int) (ves_cons (ve_b vb_str) (ves_cons (ve_b vb_str) (ves_cons (ve_b vb_str) ves_nil))))))))))) (ve_call (G__law_draw T) (hr.mono (by decide)) (by rfl) T.g__law_draw T.F__law_draw.kp T.b__law_draw tk (vks_cons (vo_mv 0 rfl (.inr (.inl rfl))) (vks_cons (vo_val (ve_b vb_int)) vks_nil))) (fun _ _ => rfl))))))))

theorem G__law_spares (T : Tx K mg) : VF P w K mg base 4 T.a__law_spares T.d__law_spares ["feed", "many", "good"] m__law_spares :=
  vf_mk (io := [true, false, false]) (N := n__law_spares) T.F__law_spares sc__law_spares rfl fun cdv A outer s H vs E hr => by
  have tk : Takes (cxOf (L2.CX P w) P w K mg base n__law_spares "_law_spares" (defScope s__law_spares) T.a__law_spares cdv A outer s H E) (fun cls d _ H => E cls d H) := takes_of rfl rfl rfl rfl
  have pOwn : PassesOwn (model P w) (A.deeper (envOfC "_law_spares" (defScope s__law_spares) s.heap.objs.size T.a__law_spares cdv)) (envOfC "_law_spares" (defScope s__law_spares) s.heap.objs.size T.a__law_spares cdv) (cxOf (L2.CX P w) P w K mg base n__law_spares "_law_spares" (defScope s__law_spares) T.a__law_spares cdv A outer s H E).xe := passes_of rfl
  exact (vss_cons (vs_set (i := 3) sc__law_spares.nd rfl (.inl rfl) (.inl rfl) (fx_ne (by decide)) (ve_lst ves_nil))
    (vss_cons (vs_for (b := bo__law_spares_1) pOwn rfl (vi_range1 (by rfl) T.z_range (ves_cons (ve_b (vb_name 1 rfl (.inl rfl))) ves_nil)) (vg_name (i := 4) sc__law_spares.nd rfl (.inl rfl) (.inl rfl) (fx_ne (by decide)))
      (vss_cons (vs_set (i := 5) sc__law_spares.nd rfl (.inl rfl) (.inl rfl) (fx_ne (by decide)) (ve_ix ix_seq prim_ix (ve_lst (ves_cons (ve_b vb_int) (ves_cons (ve_b vb_int) (ves_cons (ve_bin op_addA prim_add (ve_b vb_int) (ve_call (G__law_draw T) (hr.mono (by decide)) (by rfl) T.g__law_draw T.F__law_draw.kp T.b__law_draw tk (vks_cons (vo_mv 0 rfl (.inl rfl)) (vks_cons (vo_val (ve_b vb_int)) vks_nil)))) ves_nil)))) (ve_call (G__law_draw T) (hr.mono (by decide)) (by rfl) T.g__law_draw T.F__law_draw.kp T.b__law_draw tk (vks_cons (vo_mv 0 rfl (.inl rfl)) (vks_cons (vo_val (ve_b vb_int)) vks_nil))) (fun _ _ => rfl)))
    (vss_cons (vs_if (vw_pt (vw_and (vt_not (vt_truth (vb_name 2 rfl (.inl rfl)))) (vw_and1 (vt_cmpE (op_eq.or (op_eqD hr.units)) prim_eq (ve_call (G__law_draw T) (hr.mono (by decide)) (by rfl) T.g__law_draw T.F__law_draw.kp T.b__law_draw tk (vks_cons (vo_mv 0 rfl (.inl rfl)) (vks_cons (vo_val (ve_b vb_int)) vks_nil))) (ve_b vb_int) (nomark _)))))
      (vss_one (vs_set (i := 5) sc__law_spares.nd rfl (.inl rfl) (.inl rfl) (fx_ne (by decide)) (ve_ix ix_seq prim_ix (ve_lst (ves_cons (ve_b vb_int) (ves_cons (ve_b (vb_un un_neg prim_neg vb_int)) (ves_cons (ve_b vb_int) (ves_cons (vv_bin op_pow prim_pow vb_int vb_int) (ves_cons (ve_b (vb_un un_neg prim_neg (vb_bin op_pow prim_pow vb_int vb_int))) ves_nil)))))) (ve_call (G__law_draw T) (hr.mono (by decide)) (by rfl) T.g__law_draw T.F__law_draw.kp T.b__law_draw tk (vks_cons (vo_mv 0 rfl (.inl rfl)) (vks_cons (vo_val (ve_b vb_int)) vks_nil))) (fun _ _ => rfl))))
      vss_nil)
    (vss_one (vs_append (i := 3) rfl (.inl rfl) (ve_tup (ves_cons (ve_call (G__law_rhythm T) (hr.mono (by decide)) (by rfl) T.g__law_rhythm T.F__law_rhythm.kp T.b__law_rhythm tk (vks_late (i := 0) rfl (.inl rfl) (vks_cons (vo_val (ve_or (ve_b (vb_name 2 rfl (.inl rfl))) (ve_one (ve_cmp op_gt prim_cmp (ve_call (G__law_draw T) (hr.mono (by decide)) (by rfl) T.g__law_draw T.F__law_draw.kp T.b__law_draw tk (vks_cons (vo_mv 0 rfl (.inl rfl)) (vks_cons (vo_val (ve_b vb_int)) vks_nil))) (ve_b vb_int) (nomark _))))) vks_nil))) (ves_cons (ve_b (vb_name 5 rfl (.inl rfl))) ves_nil))))))))
    (vss_one (vs_ret (ve_move 3 rfl (.inl rfl))))))

theorem G__law_rows_of (T : Tx K mg) : VF P w K mg base 2 T.a__law_rows_of T.d__law_rows_of ["coast"] m__law_rows_of :=
  vf_mk (io := [false]) (N := n__law_rows_of) T.F__law_rows_of sc__law_rows_of rfl fun cdv A outer s H vs E hr => by
  have tk : Takes (cxOf (L2.CX P w) P w K mg base n__law_rows_of "_law_rows_of" (defScope s__law_rows_of) T.a__law_rows_of cdv A outer s H E) (fun cls d _ H => E cls d H) := takes_of rfl rfl rfl rfl
  have pOwn : PassesOwn (model P w) (A.deeper (envOfC "_law_rows_of" (defScope s__law_rows_of) s.heap.objs.size T.a__law_rows_of cdv)) (envOfC "_law_rows_of" (defScope s__law_rows_of) s.heap.objs.size T.a__law_rows_of cdv) (cxOf (L2.CX P w) P w K mg base n__law_rows_of "_law_rows_of" (defScope s__law_rows_of) T.a__law_rows_of cdv A outer s H E).xe := passes_of rfl
  exact (vss_one (vs_ret (ve_lc (own := [("signal", 1)]) (test := yesT) (fe := el__law_rows_of_1) rfl sc__law_rows_of.nd (vi_seq (ve_b (vb_fld (T.cl_Coast) (by decide) (vb_name 0 rfl (.inl rfl))))) (blkOk_by (N := n__law_rows_of) (sc := defScope s__law_rows_of) (own := [("signal", 1)]) (by decide +kernel)) (by decide) (by decide) (fun q hq => of_fxOf (by decide) q hq) (fun _ _ _ _ _ => (vg_name (i := 1) sc__law_rows_of.nd rfl (lLocal (by decide +kernel)) (fLocal (by decide +kernel)) (fx_ne (by decide)))) (fun _ _ _ _ _ => vts_nil) (fun _ _ _ _ _ => (ve_meth0 (ps := ["self"]) (c := "Signal") T.gC_Signal T.cls_Signal T.me_Signal_row (G_Signal_row T) (hr.mono (by decide)) T.b_Signal_row takes0 (ve_b (vb_name 1 rfl (vLocal (by decide +kernel)))))))))

theorem G__law_plain (T : Tx K mg) : VF P w K mg base 1 T.a__law_plain T.d__law_plain ["row"] m__law_plain :=
  vf_mk (io := [false]) (N := n__law_plain) T.F__law_plain sc__law_plain rfl fun cdv A outer s H vs E hr => by
  have tk : Takes (cxOf (L2.CX P w) P w K mg base n__law_plain "_law_plain" (defScope s__law_plain) T.a__law_plain cdv A outer s H E) (fun cls d _ H => E cls d H) := takes_of rfl rfl rfl rfl
  have pOwn : PassesOwn (model P w) (A.deeper (envOfC "_law_plain" (defScope s__law_plain) s.heap.objs.size T.a__law_plain cdv)) (envOfC "_law_plain" (defScope s__law_plain) s.heap.objs.size T.a__law_plain cdv) (cxOf (L2.CX P w) P w K mg base n__law_plain "_law_plain" (defScope s__law_plain) T.a__law_plain cdv A outer s H E).xe := passes_of rfl
  exact (vss_one (vs_ret (vv_bin op_addA prim_add (vb_slice (vb_name 0 rfl (.inl rfl)) vo_none (vo_some vb_int)) (vb_tup (vbs_cons (vb_ty call_tuple_of prim_tuple (by rfl) T.z_tuple PyProof.Rows.boot_tuple (vbs_cons (vb_ix ix_seq prim_ix (vb_name 0 rfl (.inl rfl)) vb_int (fun _ _ => rfl)) vbs_nil)) vbs_nil)))))

theorem G__law_asks (T : Tx K mg) : VF P w K mg base 14 T.a__law_asks T.d__law_asks ["feed", "rows", "signals", "spares"] m__law_asks :=
  vf_mk (io := [true, false, false, false]) (N := n__law_asks) T.F__law_asks sc__law_asks rfl fun cdv A outer s H vs E hr => by
  have tk : Takes (cxOf (L2.CX P w) P w K mg base n__law_asks "_law_asks" (defScope s__law_asks) T.a__law_asks cdv A outer s H E) (fun cls d _ H => E cls d H) := takes_of rfl rfl rfl rfl
  have pOwn : PassesOwn (model P w) (A.deeper (envOfC "_law_asks" (defScope s__law_asks) s.heap.objs.size T.a__law_asks cdv)) (envOfC "_law_asks" (defScope s__law_asks) s.heap.objs.size T.a__law_asks cdv) (cxOf (L2.CX P w) P w K mg base n__law_asks "_law_asks" (defScope s__law_asks) T.a__law_asks cdv A outer s H E).xe := passes_of rfl
  exact (vss_cons (vs_set (i := 4) sc__law_asks.nd rfl (.inl rfl) (.inl rfl) (fx_ne (by decide)) (ve_call (G__law_coast T) (hr.mono (by decide)) (by rfl) T.g__law_coast T.F__law_coast.kp T.b__law_coast tk (vks_cons (vo_val (ve_b (vb_name 1 rfl (.inl rfl)))) (vks_cons (vo_val (ve_b (vb_name 2 rfl (.inl rfl)))) vks_nil))))
    (vss_cons (vs_set (i := 5) sc__law_asks.nd rfl (.inl rfl) (.inl rfl) (fx_ne (by decide)) (ve_lst ves_nil))
    (vss_cons (vs_for (b := bo__law_asks_3) pOwn rfl (vi_seq (ve_b (vb_name 2 rfl (.inl rfl)))) (vg_name (i := 6) sc__law_asks.nd rfl (.inr rfl) (.inl rfl) (fx_ne (by decide)))
      (vss_one (vs_append (i := 5) rfl (.inl rfl) (ve_bin op_addA prim_add (ve_lst (ves_cons (ve_tup (ves_cons (ve_b (vb_ix ix_seq prim_ix (vb_name 6 rfl (.inr (.inl rfl))) vb_int (fun _ _ => rfl))) (ves_cons (ve_b vb_int) ves_nil))) ves_nil)) (ve_lc (own := [("pair", 15)]) (test := te__law_asks_1) (fe := el__law_asks_2) rfl sc__law_asks.nd (vi_seq (ve_b (vb_name 3 rfl (.inl rfl)))) (blkOk_by (N := n__law_asks) (sc := defScope s__law_asks) (own := [("pair", 15)]) (by decide +kernel)) (by decide) (by decide) (fun q hq => of_fxOf (by decide) q hq) (fun _ _ _ _ _ => (vg_name (i := 15) sc__law_asks.nd rfl (lLocal (by decide +kernel)) (fLocal (by decide +kernel)) (fx_ne (by decide)))) (fun _ _ _ _ _ => (vts_one (vt_v (ve_b (vb_callA (ps := ["rhythm", "kind"]) (G__law_fits T) (hr.mono (by decide)) (by rfl) T.g__law_fits T.F__law_fits.kp T.b__law_fits takes0 (vbs_cons (vb_ix ix_seq prim_ix (vb_name 15 rfl (vLocal (by decide +kernel))) vb_int (fun _ _ => rfl)) (vbs_cons (vb_ix ix_seq prim_ix (vb_name 6 rfl (vFree (by decide +kernel))) vb_int (fun _ _ => rfl)) vbs_nil))))))) (fun _ _ _ _ _ => (ve_b (vb_name 15 rfl (vLocal (by decide +kernel))))))))))
    (vss_cons (vs_set (i := 7) sc__law_asks.nd rfl (.inl rfl) (.inl rfl) (fx_ne (by decide)) (vv_ty call_list_of prim_list (by rfl) T.z_list PyProof.Rows.boot_list (vbs_cons (vb_name 3 rfl (.inl rfl)) vbs_nil)))
    (vss_cons (vs_frz 7 (vs_frz 4 (vs_set (i := 8) sc__law_asks.nd rfl (.inl rfl) (.inl rfl) (fx_ne (by decide)) (ve_call (G_options T) (hr.mono (by decide)) (by rfl) T.g_options T.F_options.kp T.b_options tk (vks_cons (vo_val (ve_b (vb_name 4 rfl (.inl rfl)))) (vks_cons (vo_val (ve_b (vb_name 7 rfl (.inl rfl)))) vks_nil))))))
    (vss_cons (vs_if (vw_pt (vw_or (vt_not (vt_truth (vb_fn call_isiA prim_isi (by rfl) T.z_isinstance PyProof.Rows.boot_isinstance (vbs_cons (vb_name 8 rfl (.inl rfl)) (vbs_cons (vb_tyN (by rfl) T.z_list PyProof.Rows.boot_list) vbs_nil))))) (vw_or (vt_cmp (op_ne.or (op_neD hr.units)) prim_ne (vb_name 8 rfl (.inl rfl)) (vb_name 5 rfl (.inl rfl)) (nomark _)) (vw_or1 (vt_cmp (op_ne.or (op_neD hr.units)) prim_ne (vb_name 7 rfl (.inl rfl)) (vb_name 3 rfl (.inl rfl)) (nomark _))))))
      (vss_one (vs_ret (ve_b vb_bl)))
      vss_nil)
    (vss_cons (vs_forO (i := 8) (b := bo__law_asks_6) pOwn rfl rfl (.inl rfl) (vg_name (i := 6) sc__law_asks.nd rfl (.inr rfl) (.inl rfl) (fx_ne (by decide)))
      (vss_cons (vs_if (vw_pt (vw_or (vt_not (vt_truth (vb_fn call_isiA prim_isi (by rfl) T.z_isinstance PyProof.Rows.boot_isinstance (vbs_cons (vb_name 6 rfl (.inr (.inl rfl))) (vbs_cons (vb_tyN (by rfl) T.z_list PyProof.Rows.boot_list) vbs_nil))))) (vw_or1 (vt_cmpE (op_ne.or (op_neD hr.units)) prim_ne (ve_fn call_lenA prim_len (by rfl) T.z_len PySem.boot_len (ves_cons (ve_lcN (i := 6) (own := [("pair", 15)]) (test := te__law_asks_4) (fe := el__law_asks_5) rfl (.inr (.inl rfl)) rfl sc__law_asks.nd (blkOk_by (N := n__law_asks) (sc := defScope s__law_asks) (own := [("pair", 15)]) (by decide +kernel)) (by decide) (by decide) (fun q hq => of_fxOf (by decide) q hq) (fun _ _ _ _ _ => (vg_name (i := 15) sc__law_asks.nd rfl (lLocal (by decide +kernel)) (fLocal (by decide +kernel)) (fx_ne (by decide)))) (fun _ _ _ _ _ => (vts_one (vt_truth (vb_fn call_isiA prim_isi (by rfl) T.z_isinstance PyProof.Rows.boot_isinstance (vbs_cons (vb_name 15 rfl (vLocal (by decide +kernel))) (vbs_cons (vb_tyN (by rfl) T.z_tuple PyProof.Rows.boot_tuple) vbs_nil)))))) (fun _ _ _ _ _ => (ve_b (vb_name 15 rfl (vLocal (by decide +kernel)))))) ves_nil)) (vv_fn call_lenA prim_len (by rfl) T.z_len PySem.boot_len (vbs_cons (vb_name 6 rfl (.inr (.inl rfl))) vbs_nil)) (nomark _)))))
      (vss_one (vs_ret (ve_b vb_bl)))
      vss_nil)
    (vss_one (vs_append (i := 6) rfl (.inr (.inl rfl)) (ve_tup (ves_cons (ve_b vb_str) (ves_cons (ve_b vb_int) ves_nil)))))))
    (vss_cons (vs_frz 7 (vs_frz 4 (vs_if (vt_cmp (op_ne.or (op_neD hr.units)) prim_ne (vb_call (ps := ["coast", "spares"]) (G_options T) (hr.mono (by decide)) (by rfl) T.g_options T.F_options.kp T.b_options tk (vbs_cons (vb_name 4 rfl (.inl rfl)) (vbs_cons (vb_name 7 rfl (.inl rfl)) vbs_nil))) (vb_name 5 rfl (.inl rfl)) (nomark _))
      (vss_one (vs_ret (ve_b vb_bl)))
      vss_nil)))
    (vss_cons (vs_for (b := bo__law_asks_10) pOwn rfl (vi_range1 (by rfl) T.z_range (ves_cons (ve_b vb_int) ves_nil)) (vg_name (i := 9) sc__law_asks.nd rfl (.inl rfl) (.inl rfl) (fx_ne (by decide)))
      (vss_cons (vs_frz 5 (vs_frz 6 (vs_setLc (i := 10) (own := [("row", 6)]) (test := yesT) (fe := el__law_asks_7) rfl sc__law_asks.nd rfl rfl (fx_ne (by decide)) (sw_true rfl rfl rfl (by decide +kernel)) (vi_seq (ve_b (vb_name 5 rfl (.inl rfl)))) (blkOk_by (N := n__law_asks) (sc := defScope s__law_asks) (own := [("row", 6)]) (by decide +kernel)) (by decide) (by decide) (fun q hq => of_fxOf (by decide) q hq) (fun _ _ _ _ _ => (vg_name (i := 6) sc__law_asks.nd rfl (lLocal (by decide +kernel)) (fLocal (by decide +kernel)) (fx_ne (by decide)))) (fun _ _ _ _ _ => vts_nil) (fun _ _ _ _ _ => (ve_call (G__law_draw T) (hr.mono (by decide)) (by rfl) T.g__law_draw T.F__law_draw.kp T.b__law_draw takes0 (vks_cons (vo_mv 0 rfl (vFree (by decide +kernel))) (vks_cons (vo_val (vv_fn call_lenA prim_len (by rfl) T.z_len PySem.boot_len (vbs_cons (vb_name 6 rfl (vLocal (by decide +kernel))) vbs_nil))) vks_nil)))))))
    (vss_cons (vs_if (vt_cmp (op_eq.or (op_eqD hr.units)) prim_eq (vb_name 9 rfl (.inl rfl)) vb_int (nomark _))
      (vss_one (vs_frz 5 (vs_frz 6 (vs_setLc (i := 10) (own := [("row", 6)]) (test := yesT) (fe := el__law_asks_8) rfl sc__law_asks.nd rfl rfl (fx_ne (by decide)) (sw_true rfl rfl rfl (by decide +kernel)) (vi_seq (ve_b (vb_name 5 rfl (.inl rfl)))) (blkOk_by (N := n__law_asks) (sc := defScope s__law_asks) (own := [("row", 6)]) (by decide +kernel)) (by decide) (by decide) (fun q hq => of_fxOf (by decide) q hq) (fun _ _ _ _ _ => (vg_name (i := 6) sc__law_asks.nd rfl (lLocal (by decide +kernel)) (fLocal (by decide +kernel)) (fx_ne (by decide)))) (fun _ _ _ _ _ => vts_nil) (fun _ _ _ _ _ => (vv_bin op_sub prim_sub (vb_fn call_lenA prim_len (by rfl) T.z_len PySem.boot_len (vbs_cons (vb_name 6 rfl (vLocal (by decide +kernel))) vbs_nil)) vb_int))))))
      vss_nil)
    (vss_cons (vs_set (i := 11) sc__law_asks.nd rfl (.inl rfl) (.inl rfl) (fx_ne (by decide)) (vv_ty call_list_of prim_list (by rfl) T.z_list PyProof.Rows.boot_list (vbs_cons (vb_name 10 rfl (.inl rfl)) vbs_nil)))
    (vss_cons (vs_frz 10 (vs_frz 7 (vs_frz 4 (vs_set (i := 12) sc__law_asks.nd rfl (.inl rfl) (.inl rfl) (fx_ne (by decide)) (ve_call (G_picked_coast T) (hr.mono (by decide)) (by rfl) T.g_picked_coast T.F_picked_coast.kp T.b_picked_coast tk (vks_cons (vo_val (ve_b (vb_name 4 rfl (.inl rfl)))) (vks_cons (vo_val (ve_b (vb_name 7 rfl (.inl rfl)))) (vks_cons (vo_val (ve_b (vb_name 10 rfl (.inl rfl)))) vks_nil))))))))
    (vss_cons (vs_set (i := 13) sc__law_asks.nd rfl (.inl rfl) (.inl rfl) (fx_ne (by decide)) (ve_lst ves_nil))
    (vss_cons (vs_for (b := bo__law_asks_9) pOwn rfl (vi_range1 (by rfl) T.z_range (ves_cons (vv_fn call_lenA prim_len (by rfl) T.z_len PySem.boot_len (vbs_cons (vb_name 2 rfl (.inl rfl)) vbs_nil)) ves_nil)) (vg_name (i := 14) sc__law_asks.nd rfl (.inl rfl) (.inl rfl) (fx_ne (by decide)))
      (vss_cons (vs_set (i := 6) sc__law_asks.nd rfl (.inr rfl) (.inl rfl) (fx_ne (by decide)) (ve_call (G__law_plain T) (hr.mono (by decide)) (by rfl) T.g__law_plain T.F__law_plain.kp T.b__law_plain tk (vks_cons (vo_val (ve_b (vb_ix ix_seq prim_ix (vb_name 2 rfl (.inl rfl)) (vb_name 14 rfl (.inl rfl)) (fun _ _ => rfl)))) vks_nil)))
    (vss_one (vs_append (i := 13) rfl (.inl rfl) (vv_bin op_addA prim_add (vb_bin op_addA prim_add (vb_slice (vb_name 6 rfl (.inr (.inl rfl))) vo_none (vo_some vb_int)) (vb_tup (vbs_cons (vb_ix ix_seq prim_ix (vb_ix ix_seq prim_ix (vb_ix ix_seq prim_ix (vb_name 5 rfl (.inl rfl)) (vb_name 14 rfl (.inl rfl)) (fun _ _ => rfl)) (vb_ix ix_seq prim_ix (vb_name 10 rfl (.inl rfl)) (vb_name 14 rfl (.inl rfl)) (fun _ _ => rfl)) (fun _ _ => rfl)) vb_int (fun _ _ => rfl)) vbs_nil))) (vb_slice (vb_name 6 rfl (.inr (.inl rfl))) (vo_some vb_int) vo_none))))))
    (vss_one (vs_frz 12 (vs_if (vw_pt (vw_or (vt_cmp (op_ne.or (op_neD hr.units)) prim_ne (vb_call (ps := ["coast"]) (G__law_rows_of T) (hr.mono (by decide)) (by rfl) T.g__law_rows_of T.F__law_rows_of.kp T.b__law_rows_of tk (vbs_cons (vb_name 12 rfl (.inl rfl)) vbs_nil)) (vb_name 13 rfl (.inl rfl)) (nomark _)) (vw_or (vt_cmp (op_ne.or (op_neD hr.units)) prim_ne (vb_fld (T.cl_Chart) (by decide) (vb_fld (T.cl_Coast) (by decide) (vb_name 12 rfl (.inl rfl)))) (vb_ty call_tuple_of prim_tuple (by rfl) T.z_tuple PyProof.Rows.boot_tuple (vbs_cons (vb_name 1 rfl (.inl rfl)) vbs_nil)) (nomark _)) (vw_or (vt_cmp (op_ne.or (op_neD hr.units)) prim_ne (vb_name 10 rfl (.inl rfl)) (vb_name 11 rfl (.inl rfl)) (nomark _)) (vw_or1 (vt_cmp (op_ne.or (op_neD hr.units)) prim_ne (vb_name 7 rfl (.inl rfl)) (vb_name 3 rfl (.inl rfl)) (nomark _)))))))
      (vss_one (vs_ret (ve_b vb_bl)))
      vss_nil))))))))))
    (vss_one (vs_frz 6 (vs_frz 4 (vs_ret (ve_cmp (op_eq.or (op_eqD hr.units)) prim_eq (ve_call (G__law_rows_of T) (hr.mono (by decide)) (by rfl) T.g__law_rows_of T.F__law_rows_of.kp T.b__law_rows_of tk (vks_cons (vo_val (ve_b (vb_name 4 rfl (.inl rfl)))) vks_nil)) (ve_lc (own := [("row", 6)]) (test := yesT) (fe := el__law_asks_11) rfl sc__law_asks.nd (vi_seq (ve_b (vb_name 2 rfl (.inl rfl)))) (blkOk_by (N := n__law_asks) (sc := defScope s__law_asks) (own := [("row", 6)]) (by decide +kernel)) (by decide) (by decide) (fun q hq => of_fxOf (by decide) q hq) (fun _ _ _ _ _ => (vg_name (i := 6) sc__law_asks.nd rfl (lLocal (by decide +kernel)) (fLocal (by decide +kernel)) (fx_ne (by decide)))) (fun _ _ _ _ _ => vts_nil) (fun _ _ _ _ _ => (ve_call (G__law_plain T) (hr.mono (by decide)) (by rfl) T.g__law_plain T.F__law_plain.kp T.b__law_plain takes0 (vks_cons (vo_val (ve_b (vb_name 6 rfl (vLocal (by decide +kernel))))) vks_nil)))) (nomark _)))))))))))))))

theorem G_law (T : Tx K mg) : VF P w K mg base 15 T.a_law T.d_law ["script"] m_law :=
  vf_mk (io := [false]) (N := n_law) T.F_law sc_law rfl fun cdv A outer s H vs E hr => by
  have tk : Takes (cxOf (L2.CX P w) P w K mg base n_law "law" (defScope s_law) T.a_law cdv A outer s H E) (fun cls d _ H => E cls d H) := takes_of rfl rfl rfl rfl
  have pOwn : PassesOwn (model P w) (A.deeper (envOfC "law" (defScope s_law) s.heap.objs.size T.a_law cdv)) (envOfC "law" (defScope s_law) s.heap.objs.size T.a_law cdv) (cxOf (L2.CX P w) P w K mg base n_law "law" (defScope s_law) T.a_law cdv A outer s H E).xe := passes_of rfl
  exact (vss_cons (vs_set (i := 1) sc_law.nd rfl (.inr rfl) (.inl rfl) (fx_ne (by decide)) (ve_call (G__law_feed T) (hr.mono (by decide)) (by rfl) T.g__law_feed T.F__law_feed.kp T.b__law_feed tk (vks_cons (vo_val (ve_b (vb_name 0 rfl (.inl rfl)))) vks_nil)))
    (vss_cons (vs_for (b := bo_law_1) pOwn rfl (vi_range1 (by rfl) T.z_range (ves_cons (ve_b vb_int) ves_nil)) (vg_name (i := 2) sc_law.nd rfl (.inl rfl) (.inl rfl) (fx_ne (by decide)))
      (vss_cons (vs_set (i := 3) sc_law.nd rfl (.inl rfl) (.inl rfl) (fx_ne (by decide)) (ve_call (G__law_spares T) (hr.mono (by decide)) (by rfl) T.g__law_spares T.F__law_spares.kp T.b__law_spares tk (vks_late (i := 1) rfl (.inr (.inl rfl)) (vks_cons (vo_val (ve_call (G__law_draw T) (hr.mono (by decide)) (by rfl) T.g__law_draw T.F__law_draw.kp T.b__law_draw tk (vks_cons (vo_mv 1 rfl (.inr (.inl rfl))) (vks_cons (vo_val (ve_b vb_int)) vks_nil)))) (vks_cons (vo_val (ve_b (vb_cmp (op_eq.or (op_eqD hr.units)) prim_eq (vb_name 2 rfl (.inl rfl)) vb_int (nomark _)))) vks_nil)))))
    (vss_cons (vs_set (i := 4) sc_law.nd rfl (.inl rfl) (.inl rfl) (fx_ne (by decide)) (vv_ty call_list_of prim_list (by rfl) T.z_list PyProof.Rows.boot_list (vbs_cons (vb_name 3 rfl (.inl rfl)) vbs_nil)))
    (vss_one (vs_if (vw_pt (vw_or (vt_cmp (op_ne.or (op_neD hr.units)) prim_ne (vb_callA (ps := ["spares"]) (G__law_refused T) (hr.mono (by decide)) (by rfl) T.g__law_refused T.F__law_refused.kp T.b__law_refused tk (vbs_cons (vb_name 3 rfl (.inl rfl)) vbs_nil)) (vb_callA (ps := ["spares"]) (G__law_due T) (hr.mono (by decide)) (by rfl) T.g__law_due T.F__law_due.kp T.b__law_due tk (vbs_cons (vb_name 3 rfl (.inl rfl)) vbs_nil)) (nomark _)) (vw_or1 (vt_cmp (op_ne.or (op_neD hr.units)) prim_ne (vb_name 3 rfl (.inl rfl)) (vb_name 4 rfl (.inl rfl)) (nomark _)))))
      (vss_one (vs_ret (ve_b vb_bl)))
      vss_nil)))))
    (vss_cons (vs_set (i := 5) sc_law.nd rfl (.inr rfl) (.inl rfl) (fx_ne (by decide)) (ve_call (G__law_rows T) (hr.mono (by decide)) (by rfl) T.g__law_rows T.F__law_rows.kp T.b__law_rows tk (vks_cons (vo_mv 1 rfl (.inr (.inl rfl))) (vks_cons (vo_val (ve_b vb_int)) vks_nil))))
    (vss_cons (vs_set (i := 6) sc_law.nd rfl (.inl rfl) (.inl rfl) (fx_ne (by decide)) (ve_call (G__law_draw T) (hr.mono (by decide)) (by rfl) T.g__law_draw T.F__law_draw.kp T.b__law_draw tk (vks_cons (vo_mv 1 rfl (.inr (.inl rfl))) (vks_cons (vo_val (ve_b vb_int)) vks_nil))))
    (vss_cons (vs_if (vt_cmpE (op_eq.or (op_eqD hr.units)) prim_eq (ve_call (G__law_draw T) (hr.mono (by decide)) (by rfl) T.g__law_draw T.F__law_draw.kp T.b__law_draw tk (vks_cons (vo_mv 1 rfl (.inr (.inl rfl))) (vks_cons (vo_val (ve_b vb_int)) vks_nil))) (ve_b vb_int) (nomark _))
      (vss_one (vs_set (i := 6) sc_law.nd rfl (.inl rfl) (.inl rfl) (fx_ne (by decide)) (ve_b vb_int)))
      vss_nil)
    (vss_cons (vs_set (i := 7) sc_law.nd rfl (.inr rfl) (.inl rfl) (fx_ne (by decide)) (ve_lc (own := [("k", 9)]) (test := yesT) (fe := el_law_2) rfl sc_law.nd (vi_range1 (by rfl) T.z_range (ves_cons (ve_b vb_int) ves_nil)) (blkOk_by (N := n_law) (sc := defScope s_law) (own := [("k", 9)]) (by decide +kernel)) (by decide) (by decide) (fun q hq => of_fxOf (by decide) q hq) (fun _ _ _ _ _ => (vg_name (i := 9) sc_law.nd rfl (lLocal (by decide +kernel)) (fLocal (by decide +kernel)) (fx_ne (by decide)))) (fun _ _ _ _ _ => vts_nil) (fun _ _ _ _ _ => (ve_call (G__law_word T) (hr.mono (by decide)) (by rfl) T.g__law_word T.F__law_word.kp T.b__law_word takes0 (vks_cons (vo_mv 1 rfl (vFree (by decide +kernel))) (vks_cons (vo_val (ve_b vb_str)) (vks_cons (vo_val (ve_b vb_int)) vks_nil)))))))
    (vss_cons (vs_frz 7 (vs_frz 5 (vs_setLc (i := 8) (own := [("name", 10)]) (test := yesT) (fe := el_law_3) rfl sc_law.nd rfl rfl (fx_ne (by decide)) (sw_true rfl rfl rfl (by decide +kernel)) (vi_seq (ve_call (G__law_names T) (hr.mono (by decide)) (by rfl) T.g__law_names T.F__law_names.kp T.b__law_names tk (vks_cons (vo_mv 1 rfl (.inr (.inl rfl))) (vks_cons (vo_val (ve_b (vb_name 6 rfl (.inl rfl)))) vks_nil)))) (blkOk_by (N := n_law) (sc := defScope s_law) (own := [("name", 10)]) (by decide +kernel)) (by decide) (by decide) (fun q hq => of_fxOf (by decide) q hq) (fun _ _ _ _ _ => (vg_name (i := 10) sc_law.nd rfl (lLocal (by decide +kernel)) (fLocal (by decide +kernel)) (fx_ne (by decide)))) (fun _ _ _ _ _ => vts_nil) (fun _ _ _ _ _ => (ve_call (G__law_signal T) (hr.mono (by decide)) (by rfl) T.g__law_signal T.F__law_signal.kp T.b__law_signal takes0 (vks_cons (vo_mv 1 rfl (vFree (by decide +kernel))) (vks_cons (vo_val (ve_b (vb_name 10 rfl (vLocal (by decide +kernel))))) (vks_cons (vo_val (ve_b (vb_name 5 rfl (vFree (by decide +kernel))))) (vks_cons (vo_val (ve_b (vb_name 7 rfl (vFree (by decide +kernel))))) vks_nil)))))))))
    (vss_cons (vs_set (i := 3) sc_law.nd rfl (.inl rfl) (.inl rfl) (fx_ne (by decide)) (ve_call (G__law_spares T) (hr.mono (by decide)) (by rfl) T.g__law_spares T.F__law_spares.kp T.b__law_spares tk (vks_late (i := 1) rfl (.inr (.inl rfl)) (vks_cons (vo_val (ve_call (G__law_draw T) (hr.mono (by decide)) (by rfl) T.g__law_draw T.F__law_draw.kp T.b__law_draw tk (vks_cons (vo_mv 1 rfl (.inr (.inl rfl))) (vks_cons (vo_val (ve_b vb_int)) vks_nil)))) (vks_cons (vo_val (ve_b vb_bl)) vks_nil)))))
    (vss_cons (vs_frz 3 (vs_frz 8 (vs_frz 5 (vs_if (vw_pt (vw_or (vt_cmp op_isNotA prim_isNot (vb_callA (ps := ["spares"]) (G__law_refused T) (hr.mono (by decide)) (by rfl) T.g__law_refused T.F__law_refused.kp T.b__law_refused tk (vbs_cons (vb_name 3 rfl (.inl rfl)) vbs_nil)) vb_non (nomark _)) (vw_or1 (vt_not (vt_v (ve_call (G__law_asks T) (hr.mono (by decide)) (by rfl) T.g__law_asks T.F__law_asks.kp T.b__law_asks tk (vks_cons (vo_mv 1 rfl (.inr (.inl rfl))) (vks_cons (vo_val (ve_b (vb_name 5 rfl (.inr (.inl rfl))))) (vks_cons (vo_val (ve_b (vb_name 8 rfl (.inl rfl)))) (vks_cons (vo_val (ve_b (vb_name 3 rfl (.inl rfl)))) vks_nil))))))))))
      (vss_one (vs_ret (ve_b vb_bl)))
      vss_nil))))
    (vss_cons (vs_if (vw_pt (vw_or (vt_cmp op_isNotA prim_isNot (vb_callA (ps := ["spares"]) (G__law_refused T) (hr.mono (by decide)) (by rfl) T.g__law_refused T.F__law_refused.kp T.b__law_refused tk (vbs_cons (vb_lst (vbs_cons (vb_tup (vbs_cons vb_str (vbs_cons vb_int vbs_nil))) (vbs_cons (vb_tup (vbs_cons vb_str (vbs_cons vb_int vbs_nil))) (vbs_cons (vb_tup (vbs_cons vb_str (vbs_cons vb_int vbs_nil))) vbs_nil)))) vbs_nil)) vb_non (nomark _)) (vw_or1 (vt_cmp op_isNotA prim_isNot (vb_callA (ps := ["spares"]) (G__law_refused T) (hr.mono (by decide)) (by rfl) T.g__law_refused T.F__law_refused.kp T.b__law_refused tk (vbs_cons (vb_lst vbs_nil) vbs_nil)) vb_non (nomark _)))))
      (vss_one (vs_ret (ve_b vb_bl)))
      vss_nil)
    (vss_one (vs_ret (ve_and (ve_b (vb_cmp (op_eq.or (op_eqD hr.units)) prim_eq (vb_callA (ps := ["spares"]) (G__law_refused T) (hr.mono (by decide)) (by rfl) T.g__law_refused T.F__law_refused.kp T.b__law_refused tk (vbs_cons (vb_lst (vbs_cons (vb_tup (vbs_cons vb_str (vbs_cons vb_int vbs_nil))) (vbs_cons (vb_tup (vbs_cons vb_str (vbs_cons vb_int vbs_nil))) (vbs_cons (vb_tup (vbs_cons vb_str (vbs_cons vb_int vbs_nil))) (vbs_cons (vb_tup (vbs_cons vb_str (vbs_cons vb_int vbs_nil))) vbs_nil))))) vbs_nil)) (vb_un un_neg prim_neg vb_int) (nomark _))) (ve_one (ve_b (vb_cmp (op_eq.or (op_eqD hr.units)) prim_eq (vb_callA (ps := ["spares"]) (G__law_refused T) (hr.mono (by decide)) (by rfl) T.g__law_refused T.F__law_refused.kp T.b__law_refused tk (vbs_cons (vb_lst (vbs_cons (vb_tup (vbs_cons vb_str (vbs_cons vb_int vbs_nil))) (vbs_cons (vb_tup (vbs_cons vb_str (vbs_cons vb_int vbs_nil))) vbs_nil))) vbs_nil)) vb_int (nomark _)))))))))))))))))

end

end VS
namespace VS
open PySem PySem.Spec L2
open PyProof.Rows hiding St
/-! ### texts of letters -/
@[simp] theorem toArr_rep (w : List Nat) (n c : Nat) : (List.toArray w = Array.replicate n c) = (w = List.replicate n c) := by
  apply propext
  constructor
  · intro h
    have := congrArg Array.toList h
    simpa using this
  · rintro h
    rw [h]
    simp
abbrev Wd := List Nat
abbrev LET : Wd := [46, 87, 82, 71, 89, 76]
abbrev LLT : Wd := [46, 87, 82, 71, 89]
abbrev HRN : Wd := [46, 76]
abbrev ABC : Wd := [97, 98, 99, 100, 101, 102, 103, 104, 105, 106, 107, 108, 109, 110, 111, 112, 113, 114, 115, 116, 117, 118, 119, 120, 121, 122]
theorem q_LET : Str.ofString ".WRGYL" = S LET := by rw [ofList_S]; rfl
theorem q_LLT : Str.ofString ".WRGY" = S LLT := by rw [ofList_S]; rfl
theorem q_HRN : Str.ofString ".L" = S HRN := by rw [ofList_S]; rfl
theorem q_ABC : Str.ofString "abcdefghijklmnopqrstuvwxyz" = S ABC := by rw [ofList_S]; rfl
theorem q_dot : Str.ofString "." = S [46] := by rw [ofList_S]; rfl
theorem q_sea : Str.ofString "~#" = S [126, 35] := by rw [ofList_S]; rfl
theorem q_e : Str.ofString "" = S [] := by rw [ofList_S]; rfl
theorem q_W : Str.ofString "W" = S [87] := by rw [ofList_S]; rfl
theorem q_L : Str.ofString "L" = S [76] := by rw [ofList_S]; rfl
theorem in_one (c : Nat) (z : List Nat) : inS (S [c]) (S z) = decide (c ∈ z) := PySem.StrLaws.found_one (S z) c
@[simp] theorem pIn_one (c : Nat) (z : List Nat) : pIn (sT [c]) (sT z) = some (.s (.bl (decide (c ∈ z)))) := by
  show blO (some (inS (S [c]) (S z))) = _
  rw [in_one]; rfl
@[simp] theorem pNotIn_one (c : Nat) (z : List Nat) : pNotIn (sT [c]) (sT z) = some (.s (.bl (!decide (c ∈ z)))) := by
  show blO ((some (inS (S [c]) (S z))).map not) = _
  rw [in_one]; rfl
/-- the signs of a text, one by one -/
abbrev sg (w : Wd) : List D := w.map fun c => .str (S [c])
@[simp] theorem its_sT (w : Wd) : (sT w).its = some (sg w) := rfl
@[simp] theorem enT_sT (w : Wd) : enT (sT w) = some (enD (sg w)) := rfl
/-- a loop over signs that may say False -/
theorem all_lp {body : En → R En (Fl × En)} {g : GTg} {E : Option T → En} (P : Nat → Bool) (hg : ∀ c x, g (sT [c]) (E x) = some (E (some (sT [c])))) (hb : ∀ c, body (E (some (sT [c]))) = if P c then .ok (.nx, E (some (sT [c]))) else .ok (.rt (.s (.bl false)), E (some (sT [c])))) :
    ∀ (w : Wd) (x : Option T), ∃ y, forL g body (sg w) (E x) = if w.all P then .ok (.nx, E y) else .ok (.rt (.s (.bl false)), E y)
  | [], x => ⟨x, by simp⟩
  | c :: w, x => by
    show ∃ y, forL g body (.str (S [c]) :: sg w) (E x) = _
    rw [forL_cons, hg, foN_some, hb]
    by_cases h : P c = true
    · obtain ⟨y, e⟩ := all_lp P hg hb w (some (sT [c]))
      refine ⟨y, ?_⟩
      rw [if_pos h, foM_nx, e]
      simp [h]
    · refine ⟨some (sT [c]), ?_⟩
      rw [if_neg h]
      simp [h]
def isWord (w : Wd) : Bool := decide (1 ≤ w.length ∧ w.length ≤ 20) && w.all fun c => decide (c ∈ LET)
theorem is_word_ok {w : Wd} (h : w.length ≤ 1000) : m_is_word [sT w] = .ok (.s (.bl (isWord w)), [none]) := by
  obtain ⟨y, e⟩ := all_lp (g := stS 1) (body := bo_is_word_1) (E := fun x => [some (sT w), x]) (fun c => decide (c ∈ LET)) (fun c x => by simp) (fun c => by
    by_cases hc : c ∈ LET
    · simp -implicitDefEqProofs [bo_is_word_1_ap, q_LET, -List.mem_cons, hc]
    · simp -implicitDefEqProofs [bo_is_word_1_ap, q_LET, -List.mem_cons, hc]) w none
  unfold isWord
  have hl : w.length ≤ sizeLine := few (by omega)
  by_cases h1 : 1 ≤ w.length ∧ w.length ≤ 20
  · have a1 : (1 : Int) ≤ w.length := by omega
    have a2 : (w.length : Int) ≤ 20 := by omega
    cases hp : w.all (fun c => decide (c ∈ LET)) with
    | true =>
      rw [hp] at e
      simp -implicitDefEqProofs [m_is_word, b_is_word, hl, a1, a2, h1, e]
    | false =>
      rw [hp] at e
      simp -implicitDefEqProofs [m_is_word, b_is_word, hl, a1, a2, h1, e]
  · by_cases a1 : (1 : Int) ≤ w.length
    · have a2 : ¬ (w.length : Int) ≤ 20 := by omega
      simp -implicitDefEqProofs [m_is_word, b_is_word, hl, a1, a2, h1]
    · simp -implicitDefEqProofs [m_is_word, b_is_word, hl, a1, h1]
def isName (w : Wd) : Bool := decide (1 ≤ w.length ∧ w.length ≤ 12) && w.all fun c => decide (c ∈ ABC)
theorem is_name_ok {w : Wd} (h : w.length ≤ 1000) : m_is_name [sT w] = .ok (.s (.bl (isName w)), [none]) := by
  obtain ⟨y, e⟩ := all_lp (g := stS 1) (body := bo_is_name_1) (E := fun x => [some (sT w), x]) (fun c => decide (c ∈ ABC)) (fun c x => by simp) (fun c => by
    by_cases hc : c ∈ ABC
    · simp -implicitDefEqProofs [bo_is_name_1_ap, q_ABC, -List.mem_cons, hc]
    · simp -implicitDefEqProofs [bo_is_name_1_ap, q_ABC, -List.mem_cons, hc]) w none
  unfold isName
  have hl : w.length ≤ sizeLine := few (by omega)
  by_cases h1 : 1 ≤ w.length ∧ w.length ≤ 12
  · have a1 : (1 : Int) ≤ w.length := by omega
    have a2 : (w.length : Int) ≤ 12 := by omega
    cases hp : w.all (fun c => decide (c ∈ ABC)) with
    | true =>
      rw [hp] at e
      simp -implicitDefEqProofs [m_is_name, b_is_name, hl, a1, a2, h1, e]
    | false =>
      rw [hp] at e
      simp -implicitDefEqProofs [m_is_name, b_is_name, hl, a1, a2, h1, e]
  · by_cases a1 : (1 : Int) ≤ w.length
    · have a2 : ¬ (w.length : Int) ≤ 12 := by omega
      simp -implicitDefEqProofs [m_is_name, b_is_name, hl, a1, a2, h1]
    · simp -implicitDefEqProofs [m_is_name, b_is_name, hl, a1, h1]
def isRow (w : Wd) (n : Nat) : Bool := decide (w.length = n) && (w.all (fun c => decide (c ∈ [126, 35])) && decide (1 ≤ n ∧ n ≤ 8))
theorem is_row_ok {w : Wd} {n : Nat} (h : w.length ≤ 1000) : m_is_row [sT w, .s (.int n)] = .ok (.s (.bl (isRow w n)), [none, none]) := by
  obtain ⟨y, e⟩ := all_lp (g := stS 2) (body := bo_is_row_1) (E := fun x => [some (sT w), some (.s (.int (n : Int))), x]) (fun c => decide (c ∈ [126, 35])) (fun c x => by simp) (fun c => by
    by_cases hc : c ∈ [126, 35]
    · simp -implicitDefEqProofs [bo_is_row_1_ap, q_sea, -List.mem_cons, hc]
    · simp -implicitDefEqProofs [bo_is_row_1_ap, q_sea, -List.mem_cons, hc]) w none
  unfold isRow
  have hl : w.length ≤ sizeLine := few (by omega)
  by_cases h0 : w.length = n
  · subst h0
    cases hp : w.all (fun c => decide (c ∈ [126, 35])) with
    | true =>
      rw [hp] at e
      by_cases a1 : (1 : Int) ≤ w.length
      · by_cases a2 : (w.length : Int) ≤ 8
        · have h1 : 1 ≤ w.length ∧ w.length ≤ 8 := by omega
          simp -implicitDefEqProofs [m_is_row, b_is_row, hl, a1, a2, h1, e]
        · have h1 : ¬ (1 ≤ w.length ∧ w.length ≤ 8) := by omega
          simp -implicitDefEqProofs [m_is_row, b_is_row, hl, a1, a2, h1, e]
      · have h1 : ¬ (1 ≤ w.length ∧ w.length ≤ 8) := by omega
        simp -implicitDefEqProofs [m_is_row, b_is_row, hl, a1, h1, e]
    | false =>
      rw [hp] at e
      simp -implicitDefEqProofs [m_is_row, b_is_row, hl, e]
  · have : ¬ (w.length : Int) = n := by omega
    simp -implicitDefEqProofs [m_is_row, b_is_row, hl, h0, this]
/-! ### the rhythm of a kind -/
/-- the two kinds -/
abbrev kS (horn : Bool) : Str := if horn then "horn" else "light"
def kL (horn : Bool) : Wd := if horn then HRN else LLT
def fits (w : Wd) (horn : Bool) : Bool := decide (1 ≤ w.length ∧ w.length ≤ 20) && (w.all (fun c => decide (c ∈ kL horn)) && !decide (w = List.replicate w.length 46))
theorem fold_arr : ∀ (l : List (Array Nat)) (a : Array Nat), (l.foldl (· ++ ·) a).toList = a.toList ++ (l.map Array.toList).flatten
  | [], a => by simp
  | b :: l, a => by
    rw [List.foldl_cons, fold_arr l (a ++ b)]
    simp
theorem mul_S (w : Wd) (n : Nat) : Txt.mul (S w) (n : Int) = S (List.replicate n w).flatten := by
  unfold Txt.mul
  by_cases h0 : (n : Int) < 1
  · have : n = 0 := by omega
    subst this
    rw [if_pos h0]; rfl
  · rw [if_neg h0]
    by_cases h1 : ((n : Int) == 1 || (S w).length == 0) = true
    · rw [if_pos h1]
      simp only [Bool.or_eq_true, beq_iff_eq, S_length] at h1
      rcases h1 with h1 | h1
      · have : n = 1 := by omega
        subst this
        simp
      · have : w = [] := List.eq_nil_of_length_eq_zero h1
        subst this
        congr 1
        induction n with
        | zero => rfl
        | succ n ih => simp
    · rw [if_neg h1]
      congr 1
      apply Array.toList_inj.mp
      rw [fold_arr]
      simp
theorem flat_one (n c : Nat) : (List.replicate n ([c] : List Nat)).flatten = List.replicate n c := by
  induction n with
  | zero => rfl
  | succ n ih => rw [List.replicate_succ, List.flatten_cons, ih]; rfl
@[simp] theorem pMul_one (c n : Nat) (h : n ≤ 1000000) : pMulA (sT [c]) (.s (.int (n : Int))) = some (sT (List.replicate n c)) := by
  show (if (S [c]).length ≤ 16 ∧ -(2 ^ 63) ≤ (n : Int) ∧ (n : Int) ≤ 1000000 then some (T.s (.str (Txt.mul (S [c]) n))) else none) = _
  rw [mul_S, flat_one, if_pos (by simp; omega)]
theorem fits_kind_ok {w : Wd} {horn : Bool} (h : w.length ≤ 1000) : m_fits_kind [sT w, .s (.str (kS horn))] = .ok (.s (.bl (fits w horn)), [none, none]) := by
  obtain ⟨y, e⟩ := all_lp (g := stS 3) (body := bo_fits_kind_1) (E := fun x => [some (sT w), some (.s (.str (kS horn))), some (sT (kL horn)), x]) (fun c => decide (c ∈ kL horn)) (fun c x => by simp) (fun c => by
    by_cases hc : c ∈ kL horn
    · simp -implicitDefEqProofs [bo_fits_kind_1_ap, -List.mem_cons, hc]
    · simp -implicitDefEqProofs [bo_fits_kind_1_ap, -List.mem_cons, hc]) w none
  have sub : ∀ c, c ∈ kL horn → c ∈ LET := by cases horn <;> simp [kL]
  have hl : w.length ≤ 1000000 := by omega
  unfold fits
  have hw : m_is_word [sT w] = .ok (.s (.bl (isWord w)), [none]) := is_word_ok h
  by_cases h1 : 1 ≤ w.length ∧ w.length ≤ 20
  · cases hp : w.all (fun c => decide (c ∈ kL horn)) with
    | true =>
      have : isWord w = true := by
        unfold isWord
        simp only [h1, Bool.and_eq_true, decide_eq_true_eq, List.all_eq_true, true_and, and_self] at hp ⊢
        exact fun c hc => sub c (hp c hc)
      rw [hp] at e
      rw [this] at hw
      cases horn with
      | true => simp -implicitDefEqProofs [kS, kL] at e; simp -implicitDefEqProofs [m_fits_kind, b_fits_kind, kS, q_LLT, q_HRN, q_dot, hw, h1, e, few hl, hl]
      | false => simp -implicitDefEqProofs [kS, kL] at e; simp -implicitDefEqProofs [m_fits_kind, b_fits_kind, kS, q_LLT, q_HRN, q_dot, hw, h1, e, few hl, hl]
    | false =>
      rw [hp] at e
      cases hq : isWord w with
      | true =>
        rw [hq] at hw
        cases horn with
        | true => simp -implicitDefEqProofs [kS, kL] at e; simp -implicitDefEqProofs [m_fits_kind, b_fits_kind, kS, q_LLT, q_HRN, q_dot, hw, h1, e]
        | false => simp -implicitDefEqProofs [kS, kL] at e; simp -implicitDefEqProofs [m_fits_kind, b_fits_kind, kS, q_LLT, q_HRN, q_dot, hw, h1, e]
      | false =>
        rw [hq] at hw
        cases horn with
        | true => simp -implicitDefEqProofs [m_fits_kind, b_fits_kind, kS, q_LLT, q_HRN, q_dot, hw, h1]
        | false => simp -implicitDefEqProofs [m_fits_kind, b_fits_kind, kS, q_LLT, q_HRN, q_dot, hw, h1]
  · have : isWord w = false := by
      unfold isWord
      simp [h1]
    rw [this] at hw
    cases horn with
    | true => simp -implicitDefEqProofs [m_fits_kind, b_fits_kind, kS, q_LLT, q_HRN, q_dot, hw, h1]
    | false => simp -implicitDefEqProofs [m_fits_kind, b_fits_kind, kS, q_LLT, q_HRN, q_dot, hw, h1]
/-- .. as the law reckons it -/
theorem keep_lp {el : En → R En (T × En)} {te : En → R En (Bool × En)} {vs : List Nat} {g : GTg} {E : Option T → En} (P : Nat → Bool) (hg : ∀ c x, g (sT [c]) (E x) = some (E (some (sT [c])))) (ht : ∀ c, te (E (some (sT [c]))) = .ok (P c, E (some (sT [c]))))
    (he : ∀ c, el (E (some (sT [c]))) = .ok (sT [c], E (some (sT [c])))) (hw : ∀ x, wipeE (E x) vs = E none) : ∀ (w : Wd) (ts : List T), ts.length + w.length ≤ 1000000 → lcL vs g te el (sg w) ts (E none) = .ok (ts ++ (w.filter P).map (fun c => sT [c]), E none)
  | [], ts, _ => by simp
  | c :: w, ts, h => by
    simp only [List.length_cons] at h
    show lcL vs g te el (.str (S [c]) :: sg w) ts (E none) = _
    rw [lcL_cons, hg, lcM_some, ht]
    cases hc : P c with
    | true =>
      rw [lcN_true, he, lcP_ok, if_pos (few' (by omega)), hw, keep_lp P hg ht he hw w (ts ++ [sT [c]]) (by simp; omega)]
      simp [hc]
    | false =>
      rw [lcN_false, hw, keep_lp P hg ht he hw w ts (by omega)]
      simp [hc]
theorem law_fits_ok {w : Wd} {horn : Bool} (h : w.length ≤ 1000) : m__law_fits [sT w, .s (.str (kS horn))] = .ok (.s (.bl (fits w horn)), [none, none]) := by
  have e := keep_lp (g := stS 3) (te := te__law_fits_1) (el := el__law_fits_2) (vs := [3]) (E := fun x => [some (sT w), some (.s (.str (kS horn))), some (sT (kL horn)), x]) (fun c => decide (c ∈ kL horn)) (fun c x => by simp) (fun c => by
    simp -implicitDefEqProofs [te__law_fits_1_ap, -List.mem_cons]) (fun c => by simp -implicitDefEqProofs [el__law_fits_2_ap]) (fun x => by simp) w [] (by simp; omega)
  have hl : w.length ≤ 1000000 := by omega
  unfold fits
  have hf : ((w.filter fun c => decide (c ∈ kL horn)).length : Int) = w.length ↔ w.all (fun c => decide (c ∈ kL horn)) = true := by
    rw [Int.natCast_inj, List.length_filter_eq_length_iff, List.all_eq_true]
  simp only [List.nil_append] at e
  by_cases h1 : 1 ≤ w.length ∧ w.length ≤ 20
  · have a1 : (1 : Int) ≤ w.length := by omega
    have a2 : (w.length : Int) ≤ 20 := by omega
    by_cases h2 : w = List.replicate w.length 46
    · cases horn with
      | true => simp -implicitDefEqProofs [m__law_fits, b__law_fits, kS, q_LLT, q_HRN, q_dot, few hl, hl, a1, a2, h1, ← h2]
      | false => simp -implicitDefEqProofs [m__law_fits, b__law_fits, kS, q_LLT, q_HRN, q_dot, few hl, hl, a1, a2, h1, ← h2]
    · cases hp : w.all (fun c => decide (c ∈ kL horn)) with
      | true =>
        have hf' := hf.mpr hp
        cases horn with
        | true => simp -implicitDefEqProofs [kS, kL] at e hf'; simp -implicitDefEqProofs [m__law_fits, b__law_fits, kS, q_LLT, q_HRN, q_dot, few hl, hl, a1, a2, h1, h2, e, hf']
        | false => simp -implicitDefEqProofs [kS, kL] at e hf'; simp -implicitDefEqProofs [m__law_fits, b__law_fits, kS, q_LLT, q_HRN, q_dot, few hl, hl, a1, a2, h1, h2, e, hf']
      | false =>
        have hf' : ¬ ((w.filter fun c => decide (c ∈ kL horn)).length : Int) = w.length := fun z => by rw [hf.mp z] at hp; cases hp
        cases horn with
        | true => simp -implicitDefEqProofs [kS, kL] at e hf'; simp -implicitDefEqProofs [m__law_fits, b__law_fits, kS, q_LLT, q_HRN, q_dot, few hl, hl, a1, a2, h1, h2, e, hf']
        | false => simp -implicitDefEqProofs [kS, kL] at e hf'; simp -implicitDefEqProofs [m__law_fits, b__law_fits, kS, q_LLT, q_HRN, q_dot, few hl, hl, a1, a2, h1, h2, e, hf']
  · by_cases a1 : (1 : Int) ≤ w.length
    · have a2 : ¬ (w.length : Int) ≤ 20 := by omega
      cases horn with
      | true => simp -implicitDefEqProofs [m__law_fits, b__law_fits, kS, q_LLT, q_HRN, q_dot, few hl, hl, a1, a2, h1]
      | false => simp -implicitDefEqProofs [m__law_fits, b__law_fits, kS, q_LLT, q_HRN, q_dot, few hl, hl, a1, a2, h1]
    · cases horn with
      | true => simp -implicitDefEqProofs [m__law_fits, b__law_fits, kS, q_LLT, q_HRN, q_dot, few hl, hl, a1, h1]
      | false => simp -implicitDefEqProofs [m__law_fits, b__law_fits, kS, q_LLT, q_HRN, q_dot, few hl, hl, a1, h1]
end VS
namespace VS
open PySem PySem.Spec L2
open PyProof.Rows hiding St
/-! ### loops by what holds at each turn -/
theorem for_inv {g : GTg} {body : En → R En (Fl × En)} : ∀ {ds : List D} {I : Nat → En → Prop}, (∀ i d e, ds[i]? = some d → I i e → ∃ e1 e2, g (.s d) e = some e1 ∧ body e1 = .ok (.nx, e2) ∧ I (i + 1) e2) → ∀ e, I 0 e →
    ∃ e', forL g body ds e = .ok (.nx, e') ∧ I ds.length e'
  | [], I, h, e, h0 => ⟨e, by simp, h0⟩
  | d :: ds, I, h, e, h0 => by
    obtain ⟨e1, e2, h1, h2, h3⟩ := h 0 d e rfl h0
    obtain ⟨e', h4, h5⟩ := for_inv (ds := ds) (I := fun i => I (i + 1)) (fun i x e q => h (i + 1) x e (by simpa using q)) e2 h3
    refine ⟨e', ?_, h5⟩
    rw [forL_cons, h1, foN_some, h2, foM_nx, h4]
theorem for_ex {g : GTg} {body : En → R En (Fl × En)} {c : Str} {fs : List (Str × D)} {z : En} : ∀ {ds : List D} {I : Nat → En → Prop} (j : Nat), (∀ i d e, i < j → ds[i]? = some d → I i e → ∃ e1 e2, g (.s d) e = some e1 ∧ body e1 = .ok (.nx, e2) ∧ I (i + 1) e2) → j < ds.length →
    (∀ d e, ds[j]? = some d → I j e → ∃ e1 z, g (.s d) e = some e1 ∧ body e1 = .ex c fs z) → ∀ e, I 0 e → ∃ z, forL g body ds e = .ex c fs z
  | [], I, j, h, hj, hx, e, h0 => absurd hj (by simp)
  | d :: ds, I, 0, h, hj, hx, e, h0 => by
    obtain ⟨e1, z, h1, h2⟩ := hx d e rfl h0
    exact ⟨z, by rw [forL_cons, h1, foN_some, h2, foM_ex]⟩
  | d :: ds, I, j + 1, h, hj, hx, e, h0 => by
    obtain ⟨e1, e2, h1, h2, h3⟩ := h 0 d e (by omega) rfl h0
    obtain ⟨z', h4⟩ := for_ex (z := z) (ds := ds) (I := fun i => I (i + 1)) j (fun i x e hi q => h (i + 1) x e (by omega) (by simpa using q)) (by simpa using hj) (fun x e q => hx x e (by simpa using q)) e2 h3
    exact ⟨z', by rw [forL_cons, h1, foN_some, h2, foM_nx, h4]⟩
theorem for_rt {g : GTg} {body : En → R En (Fl × En)} {t : T} : ∀ {ds : List D} {I : Nat → En → Prop} {J : En → Prop} (j : Nat), (∀ i d e, i < j → ds[i]? = some d → I i e → ∃ e1 e2, g (.s d) e = some e1 ∧ body e1 = .ok (.nx, e2) ∧ I (i + 1) e2) → j < ds.length →
    (∀ d e, ds[j]? = some d → I j e → ∃ e1 z, g (.s d) e = some e1 ∧ body e1 = .ok (.rt t, z) ∧ J z) → ∀ e, I 0 e → ∃ z, forL g body ds e = .ok (.rt t, z) ∧ J z
  | [], I, J, j, h, hj, hx, e, h0 => absurd hj (by simp)
  | d :: ds, I, J, 0, h, hj, hx, e, h0 => by
    obtain ⟨e1, z, h1, h2, h3⟩ := hx d e rfl h0
    exact ⟨z, by rw [forL_cons, h1, foN_some, h2, foM_rt], h3⟩
  | d :: ds, I, J, j + 1, h, hj, hx, e, h0 => by
    obtain ⟨e1, e2, h1, h2, h3⟩ := h 0 d e (by omega) rfl h0
    obtain ⟨z', h4, h5⟩ := for_rt (ds := ds) (I := fun i => I (i + 1)) (J := J) j (fun i x e hi q => h (i + 1) x e (by omega) (by simpa using q)) (by simpa using hj) (fun x e q => hx x e (by simpa using q)) e2 h3
    exact ⟨z', by rw [forL_cons, h1, foN_some, h2, foM_nx, h4], h5⟩
/-- a comprehension without a test -/
theorem lc_inv {vs : List Nat} {g : GTg} {el : En → R En (T × En)} : ∀ {ds : List D} {I : Nat → List T → En → Prop}, (∀ i d ts e, ds[i]? = some d → I i ts e → ∃ e1 t e2, g (.s d) e = some e1 ∧ el e1 = .ok (t, e2) ∧ I (i + 1) (ts ++ [t]) (wipeE e2 vs)) → ∀ ts e, I 0 ts e → ts.length + ds.length ≤ 1000000 →
    ∃ ts' e', lcL vs g yesT el ds ts e = .ok (ts', e') ∧ I ds.length ts' e' ∧ ts'.length = ts.length + ds.length
  | [], I, h, ts, e, h0, _ => ⟨ts, e, by simp, h0, rfl⟩
  | d :: ds, I, h, ts, e, h0, hl => by
    simp only [List.length_cons] at hl
    obtain ⟨e1, t, e2, h1, h2, h3⟩ := h 0 d ts e rfl h0
    obtain ⟨ts', e', h4, h5, h6⟩ := lc_inv (ds := ds) (I := fun i => I (i + 1)) (fun i x ts e q => h (i + 1) x ts e (by simpa using q)) (ts ++ [t]) _ h3 (by simp; omega)
    refine ⟨ts', e', ?_, h5, by rw [h6]; simp; omega⟩
    rw [lcL_cons, h1, lcM_some, yesT_ap, lcN_true, h2, lcP_ok, if_pos (few' (by omega)), h4]
/-- .. that makes of each item its own, and leaves the rest -/
theorem lc_map {vs : List Nat} {g : GTg} {el : En → R En (T × En)} {E : En} {f : D → T} : ∀ {ds : List D}, (∀ d ∈ ds, ∃ e1 e2, g (.s d) E = some e1 ∧ el e1 = .ok (f d, e2) ∧ wipeE e2 vs = E) → ∀ ts, ts.length + ds.length ≤ 1000000 → lcL vs g yesT el ds ts E = .ok (ts ++ ds.map f, E)
  | [], h, ts, _ => by simp
  | d :: ds, h, ts, hl => by
    simp only [List.length_cons] at hl
    obtain ⟨e1, e2, h1, h2, h3⟩ := h d List.mem_cons_self
    rw [lcL_cons, h1, lcM_some, yesT_ap, lcN_true, h2, lcP_ok, if_pos (few' (by omega)), h3, lc_map (fun x hx => h x (List.mem_cons_of_mem _ hx)) _ (by simp; omega)]
    simp
/-- .. with a test -/
theorem lc_filt {vs : List Nat} {g : GTg} {te : En → R En (Bool × En)} {el : En → R En (T × En)} {E : En} {p : D → Bool} {f : D → T} : ∀ {ds : List D}, (∀ d ∈ ds, ∃ e1 e2, g (.s d) E = some e1 ∧ te e1 = .ok (p d, e2) ∧ (p d = true → ∃ e3, el e2 = .ok (f d, e3) ∧ wipeE e3 vs = E) ∧ (p d = false → wipeE e2 vs = E)) →
    ∀ ts, ts.length + ds.length ≤ 1000000 → lcL vs g te el ds ts E = .ok (ts ++ (ds.filter p).map f, E)
  | [], h, ts, _ => by simp
  | d :: ds, h, ts, hl => by
    simp only [List.length_cons] at hl
    obtain ⟨e1, e2, h1, h2, h3, h4⟩ := h d List.mem_cons_self
    rw [lcL_cons, h1, lcM_some, h2]
    cases hp : p d with
    | true =>
      obtain ⟨e3, h5, h6⟩ := h3 hp
      rw [lcN_true, h5, lcP_ok, if_pos (few' (by omega)), h6, lc_filt (fun x hx => h x (List.mem_cons_of_mem _ hx)) _ (by simp; omega)]
      simp [hp]
    | false =>
      rw [lcN_false, h4 hp, lc_filt (fun x hx => h x (List.mem_cons_of_mem _ hx)) _ (by omega)]
      simp [hp]
theorem enD_get (ds : List D) (i : Nat) : (enD ds)[i]? = ds[i]?.map fun d => .tup [.int i, d] := by
  unfold enD
  rw [List.getElem?_zipWith]
  by_cases h : i < ds.length
  · rw [List.getElem?_range h, List.getElem?_eq_getElem h]; rfl
  · rw [List.getElem?_eq_none (by simp; omega), List.getElem?_eq_none (l := ds) (by omega)]; rfl
@[simp] theorem enD_len (ds : List D) : (enD ds).length = ds.length := by simp [enD]
theorem enD_some {ds : List D} {i : Nat} {d : D} (h : (enD ds)[i]? = some d) : ∃ x, ds[i]? = some x ∧ d = .tup [.int i, x] := by
  rw [enD_get] at h
  cases e : ds[i]? with
  | none => rw [e] at h; cases h
  | some x => rw [e] at h; exact ⟨x, rfl, (Option.some.inj h).symm⟩
theorem rgD_get (n i : Nat) : (rgD 0 (n : Int))[i]? = if i < n then some (.int i) else none := by
  unfold rgD
  rw [List.getElem?_map]
  by_cases h : i < n
  · rw [List.getElem?_range (by simpa using h), if_pos h]; simp
  · rw [List.getElem?_eq_none (by simp; omega), if_neg h]; rfl
@[simp] theorem rgD_len (n : Nat) : (rgD 0 (n : Int)).length = n := by simp [rgD]
theorem rgD_some {n i : Nat} {d : D} (h : (rgD 0 (n : Int))[i]? = some d) : i < n ∧ d = .int i := by
  rw [rgD_get] at h
  split at h
  · rename_i q; exact ⟨q, (Option.some.inj h).symm⟩
  · cases h
theorem map_get {α : Type} {xs : List α} {f : α → D} {i : Nat} {d : D} (h : (xs.map f)[i]? = some d) : ∃ x, xs[i]? = some x ∧ d = f x := by
  rw [List.getElem?_map] at h
  cases e : xs[i]? with
  | none => rw [e] at h; cases h
  | some x => rw [e] at h; exact ⟨x, rfl, (Option.some.inj h).symm⟩
end VS
namespace VS
open PySem PySem.Spec L2
open PyProof.Rows hiding St
/-! ### sectors -/
structure Sec where
  dx : Int
  dy : Int
  g : Nat
abbrev secD (s : Sec) : D := .tup [.int s.dx, .int s.dy, sD [s.g]]
def qrt (x y : Int) : Int := if 0 ≤ x ∧ y < 0 then 0 else if 0 < x then 1 else if 0 < y then 2 else 3
abbrev ptD (u : Int × Int) : D := .tup [.int u.1, .int u.2]
abbrev ptT (u : Int × Int) : T := .s (ptD u)
/-- a direction that is none of zero, not far -/
def Dir (u : Int × Int) : Prop := ¬ (u.1 = 0 ∧ u.2 = 0) ∧ -1000 ≤ u.1 ∧ u.1 ≤ 1000 ∧ -1000 ≤ u.2 ∧ u.2 ≤ 1000
instance (u : Int × Int) : Decidable (Dir u) := by unfold Dir; infer_instance
theorem quarter_ok {x y : Int} (h : ¬ (x = 0 ∧ y = 0)) : m_quarter [.s (.int x), .s (.int y)] = .ok (.s (.int (qrt x y)), [none, none]) := by
  have hf : x = 0 → ¬ y = 0 := fun a b => h ⟨a, b⟩
  unfold qrt
  by_cases hx : x = 0
  · subst hx
    have hy := hf rfl
    by_cases a : y < 0
    · simp -implicitDefEqProofs [m_quarter, b_quarter, hy, a]
    · have : 0 < y := by omega
      simp -implicitDefEqProofs [m_quarter, b_quarter, hy, a, this]
  · by_cases a : 0 ≤ x
    · have p : 0 < x := by omega
      by_cases b : y < 0
      · simp -implicitDefEqProofs [m_quarter, b_quarter, hx, a, b]
      · simp -implicitDefEqProofs [m_quarter, b_quarter, hx, a, b, p]
    · have p : ¬ 0 < x := by omega
      by_cases b : 0 < y
      · simp -implicitDefEqProofs [m_quarter, b_quarter, hx, a, b, p]
      · simp -implicitDefEqProofs [m_quarter, b_quarter, hx, a, b, p]
def crs (u v : Int × Int) : Int := u.1 * v.2 - u.2 * v.1
theorem cmul_of {x y : Int} (h1 : -1000000 ≤ x) (h2 : x ≤ 1000000) : CMul x y := .inl ⟨by omega, by omega⟩
theorem cross_ok {u v : Int × Int} (hu : Dir u) (hv : Dir v) : m_cross [ptT u, ptT v] = .ok (.s (.int (crs u v)), [none, none]) := by
  obtain ⟨_, a1, a2, a3, a4⟩ := hu
  obtain ⟨_, b1, b2, b3, b4⟩ := hv
  have c1 : CMul u.1 v.2 := cmul_of (by omega) (by omega)
  have c2 : CMul u.2 v.1 := cmul_of (by omega) (by omega)
  simp -implicitDefEqProofs [m_cross, b_cross, crs, c1, c2]
def sRay (u v : Int × Int) : Bool := decide (qrt u.1 u.2 = qrt v.1 v.2) && decide (crs u v = 0)
theorem same_ray_ok {u v : Int × Int} (hu : Dir u) (hv : Dir v) : m_same_ray [ptT u, ptT v] = .ok (.s (.bl (sRay u v)), [none, none]) := by
  have e1 := quarter_ok hu.1
  have e2 := quarter_ok hv.1
  have e3 := cross_ok hu hv
  unfold sRay
  by_cases h : qrt u.1 u.2 = qrt v.1 v.2
  · rw [h] at e1
    simp -implicitDefEqProofs [m_same_ray, b_same_ray, e1, e2, e3, h]
  · simp -implicitDefEqProofs [m_same_ray, b_same_ray, e1, e2, e3, h]
def cBef (u v : Int × Int) : Bool := if qrt u.1 u.2 ≠ qrt v.1 v.2 then decide (qrt u.1 u.2 < qrt v.1 v.2) else decide (0 < crs u v)
theorem comes_before_ok {u v : Int × Int} (hu : Dir u) (hv : Dir v) : m_comes_before [ptT u, ptT v] = .ok (.s (.bl (cBef u v)), [none, none]) := by
  have e1 := quarter_ok hu.1
  have e2 := quarter_ok hv.1
  have e3 := cross_ok hu hv
  unfold cBef
  by_cases h : qrt u.1 u.2 = qrt v.1 v.2
  · rw [h] at e1
    simp -implicitDefEqProofs [m_comes_before, b_comes_before, e1, e2, e3, h]
  · simp -implicitDefEqProofs [m_comes_before, b_comes_before, e1, e2, e3, h]
def lFrom (u v w : Int × Int) : Bool := if sRay v w || sRay u v then true else if sRay u w then false else if cBef v w then cBef v u && cBef u w else cBef v u || cBef u w
theorem lies_from_ok {u v w : Int × Int} (hu : Dir u) (hv : Dir v) (hw : Dir w) : m_lies_from [ptT u, ptT v, ptT w] = .ok (.s (.bl (lFrom u v w)), [none, none, none]) := by
  have e1 := same_ray_ok hv hw
  have e2 := same_ray_ok hu hv
  have e3 := same_ray_ok hu hw
  have e4 := comes_before_ok hv hw
  have e5 := comes_before_ok hv hu
  have e6 := comes_before_ok hu hw
  unfold lFrom
  cases h1 : sRay v w <;> cases h2 : sRay u v <;> cases h3 : sRay u w <;> cases h4 : cBef v w <;> cases h5 : cBef v u <;> cases h6 : cBef u w <;> rw [h1] at e1 <;> rw [h2] at e2 <;> rw [h3] at e3 <;> rw [h4] at e4 <;> rw [h5] at e5 <;> rw [h6] at e6 <;>
    simp -implicitDefEqProofs [m_lies_from, b_lies_from, e1, e2, e3, e4, e5, e6]
theorem direction_ok (s : Sec) : m_direction_of [.s (secD s)] = .ok (ptT (s.dx, s.dy), [none]) := by
  simp -implicitDefEqProofs [m_direction_of, b_direction_of, few]
def alone (s : Sec) : Bool := decide (-20 ≤ s.dx ∧ s.dx ≤ 20) && (decide (-20 ≤ s.dy ∧ s.dy ≤ 20) && (!decide (s.dx = 0 ∧ s.dy = 0) && decide (s.g ∈ [46, 87, 82, 71, 89])))
theorem pInT_one (g : Nat) : pIn (sT [g]) (.s (.tup [.str ".", .str "W", .str "R", .str "G", .str "Y"])) = some (.s (.bl (decide (g ∈ [46, 87, 82, 71, 89])))) := by
  have q1 : Str.ofString "." = S [46] := by rw [ofList_S]; rfl
  have q2 : Str.ofString "W" = S [87] := by rw [ofList_S]; rfl
  have q3 : Str.ofString "R" = S [82] := by rw [ofList_S]; rfl
  have q4 : Str.ofString "G" = S [71] := by rw [ofList_S]; rfl
  have q5 : Str.ofString "Y" = S [89] := by rw [ofList_S]; rfl
  rw [q1, q2, q3, q4, q5]
  have sb : ∀ a b : List Nat, (S a == S b) = decide (b = a) := fun a b => by
    rw [Bool.eq_iff_iff, beq_iff_eq, decide_eq_true_eq, S_eq]
    exact eq_comm
  unfold pIn pInB
  simp [flatD, eqF, blO, sb]
theorem alone_ok {s : Sec} (h : alone s = true) : m_is_sector_alone [.s (secD s)] = .ok (.s (.bl true), [none]) := by
  unfold alone at h
  simp only [Bool.and_eq_true, decide_eq_true_eq, Bool.not_eq_true', decide_eq_false_iff_not] at h
  obtain ⟨⟨a1, a2⟩, ⟨b1, b2⟩, c, d⟩ := h
  by_cases hx : s.dx = 0
  · have hy : ¬ s.dy = 0 := fun z => c ⟨hx, z⟩
    simp -implicitDefEqProofs [m_is_sector_alone, b_is_sector_alone, a1, a2, b1, b2, hx, hy, pInT_one, d, -List.mem_cons]
  · simp -implicitDefEqProofs [m_is_sector_alone, b_is_sector_alone, a1, a2, b1, b2, hx, pInT_one, d, -List.mem_cons]
def fol (own bef beg : Sec) : Bool := if sRay (own.dx, own.dy) (beg.dx, beg.dy) || sRay (own.dx, own.dy) (bef.dx, bef.dy) then false else lFrom (own.dx, own.dy) (bef.dx, bef.dy) (beg.dx, beg.dy)
theorem alone_dir {s : Sec} (h : alone s = true) : Dir (s.dx, s.dy) := by
  unfold alone at h
  simp only [Bool.and_eq_true, decide_eq_true_eq, Bool.not_eq_true', decide_eq_false_iff_not] at h
  unfold Dir
  dsimp only
  omega
/-- a list or a tuple of these -/
def IsC (c : D) (ds : List D) : Prop := c = .lst ds ∨ c = .tup ds
theorem follows_ok {ss : List Sec} {c : D} (hc : IsC c (ss.map secD)) {i : Nat} {own bef beg : Sec} (h0 : ss[0]? = some beg) (h1 : ss[i + 1]? = some own) (h2 : ss[i]? = some bef) (a0 : alone beg = true) (a1 : alone own = true) (a2 : alone bef = true) :
    m_follows [.s c, .s (.int ((i : Int) + 1))] = .ok (.s (.bl (fol own bef beg)), [none, none]) := by
  have e1 := same_ray_ok (alone_dir a1) (alone_dir a0)
  have e2 := same_ray_ok (alone_dir a1) (alone_dir a2)
  have e3 := lies_from_ok (alone_dir a1) (alone_dir a2) (alone_dir a0)
  have g1 : atI (ss.map secD) ((i : Int) + 1) = some (secD own) := by
    have : ((i : Int) + 1) = ((i + 1 : Nat) : Int) := by omega
    rw [this, atI_nat, List.getElem?_map, h1]; rfl
  have g2 : atI (ss.map secD) (i : Int) = some (secD bef) := by rw [atI_nat, List.getElem?_map, h2]; rfl
  have g0 : (ss.map secD)[0]? = some (secD beg) := by rw [List.getElem?_map, h0]; rfl
  unfold fol
  cases p1 : sRay (own.dx, own.dy) (beg.dx, beg.dy) <;> cases p2 : sRay (own.dx, own.dy) (bef.dx, bef.dy) <;> rw [p1] at e1 <;> rw [p2] at e2 <;> rcases hc with rfl | rfl <;>
    simp -implicitDefEqProofs [m_follows, b_follows, g0, g1, g2, direction_ok, e1, e2, e3, -List.getElem?_map]
/-- sectors that are taken -/
def Secs (ss : List Sec) : Prop := 1 ≤ ss.length ∧ ss.length ≤ 6 ∧ (∀ s ∈ ss, alone s = true) ∧ ∀ (i : Nat) (own bef beg : Sec), ss[0]? = some beg → ss[i + 1]? = some own → ss[i]? = some bef → fol own bef beg = true
theorem check_sectors_ok {ss : List Sec} {c : D} (hc : IsC c (ss.map secD)) (h : Secs ss) : m_check_sectors [.s c] = .ok (.s .non, [none]) := by
  obtain ⟨l1, l2, al, fo⟩ := h
  obtain ⟨e', h1, h2⟩ := for_inv (g := gtup 2 (gcons (stS 1) (gcons (stS 2) gnil))) (body := bo_check_sectors_1) (ds := enD (ss.map secD)) (I := fun _ e => ∃ a b, e = [some (.s c), a, b]) (fun i d e hd hI => by
    obtain ⟨a, b, rfl⟩ := hI
    obtain ⟨x, hx, rfl⟩ := enD_some hd
    obtain ⟨s, hs, rfl⟩ := map_get hx
    have as := al s (List.mem_of_getElem? hs)
    have ea := alone_ok as
    refine ⟨_, [some (.s c), some (.s (.int (i : Int))), some (.s (secD s))], by simp; rfl, ?_, _, _, rfl⟩
    cases i with
    | zero => simp -implicitDefEqProofs [bo_check_sectors_1_ap, ea, -List.map_map]
    | succ i =>
      have hlt := (List.getElem?_eq_some_iff.mp hs).1
      have hb : ss[i]? = some ss[i] := List.getElem?_eq_getElem (by omega)
      have hb0 : ss[0]? = some ss[0] := List.getElem?_eq_getElem (by omega)
      have ef := follows_ok hc hb0 hs hb (al _ (List.getElem_mem _)) as (al _ (List.getElem_mem _))
      rw [fo i _ _ _ hb0 hs hb] at ef
      have pos : (0 : Int) < (i : Int) + 1 := by omega
      simp -implicitDefEqProofs [bo_check_sectors_1_ap, ea, pos, ef, -List.map_map]) [some (.s c), none, none] ⟨_, _, rfl⟩
  obtain ⟨a, b, rfl⟩ := h2
  have a1 : (1 : Int) ≤ ss.length := by omega
  have a2 : (ss.length : Int) ≤ 6 := by omega
  rcases hc with rfl | rfl <;> simp -implicitDefEqProofs [m_check_sectors, b_check_sectors, a1, a2, h1]
theorem sectors_fit_ok {ss : List Sec} {c : D} (hc : IsC c (ss.map secD)) (h : Secs ss) : m_sectors_fit [.s c, .s (.str (kS false))] = .ok (.s (.bl true), [none, none]) := by
  have e := check_sectors_ok hc h
  simp -implicitDefEqProofs [m_sectors_fit, b_sectors_fit, kS, e]
theorem sectors_fit_horn {c : D} (hc : IsC c []) : m_sectors_fit [.s c, .s (.str (kS true))] = .ok (.s (.bl true), [none, none]) := by
  rcases hc with rfl | rfl <;> simp -implicitDefEqProofs [m_sectors_fit, b_sectors_fit, kS]
end VS
namespace VS
open PySem PySem.Spec L2
open PyProof.Rows hiding St
/-! ### signals -/
structure Sig where
  name : Wd
  horn : Bool
  x : Int
  y : Int
  word : Wd
  st : Int
  he : Int
  ss : List Sec
/-- .. that are taken -/
structure Ok (r : Sig) : Prop where
  nm : isName r.name = true
  nl : r.name.length ≤ 12
  x0 : 0 ≤ r.x ∧ r.x ≤ 7
  y0 : 0 ≤ r.y ∧ r.y ≤ 7
  wl : r.word.length ≤ 1000
  ft : fits r.word r.horn = true
  s0 : 1 ≤ r.st ∧ r.st ≤ 40
  h0 : 0 ≤ r.he ∧ r.he ≤ (if r.horn then 0 else 20)
  se : if r.horn then r.ss = [] else Secs r.ss
/-- the eight parts, the sectors in c -/
abbrev rowL (r : Sig) (c : D) : List D := [sD r.name, .str (kS r.horn), .int r.x, .int r.y, sD r.word, .int r.st, .int r.he, c]
abbrev rowP (r : Sig) : D := .tup (rowL r (.tup (r.ss.map secD)))
abbrev sigD (r : Sig) : D := .ob "Signal" [("name", sD r.name), ("kind", .str (kS r.horn)), ("x", .int r.x), ("y", .int r.y), ("rhythm", sD r.word), ("strength", .int r.st), ("height", .int r.he), ("sectors", .tup (r.ss.map secD))]
theorem most_height_ok (h : Bool) : m_most_height [.s (.str (kS h))] = .ok (.s (.int (if h then 0 else 20)), [none]) := by
  cases h <;> simp -implicitDefEqProofs [m_most_height, b_most_height, kS]
theorem in_kinds (h : Bool) : pNotIn (.s (.str (kS h))) (.s (.tup [.str "light", .str "horn"])) = some (.s (.bl false)) := by
  unfold pNotIn pInB
  cases h <;> simp [flatD, eqF, blO, kS]
theorem first_fault_ok {r : Sig} {c : D} (hc : IsC c (r.ss.map secD)) (o : Ok r) : m_first_fault [.s (.tup (rowL r c))] = .ok (.s .non, [none]) := by
  have e1 := is_name_ok (w := r.name) (by have := o.nl; omega)
  rw [o.nm] at e1
  have e2 := fits_kind_ok (w := r.word) (horn := r.horn) o.wl
  rw [o.ft] at e2
  have e3 : m_sectors_fit [.s c, .s (.str (kS r.horn))] = .ok (.s (.bl true), [none, none]) := by
    have se := o.se
    revert hc se
    cases r.horn with
    | true =>
      intro hc se
      rw [if_pos rfl] at se
      rw [se] at hc
      exact sectors_fit_horn hc
    | false =>
      intro hc se
      exact sectors_fit_ok hc se
  have e4 := most_height_ok r.horn
  have e5 := in_kinds r.horn
  obtain ⟨x1, x2⟩ := o.x0
  obtain ⟨y1, y2⟩ := o.y0
  obtain ⟨s1, s2⟩ := o.s0
  obtain ⟨h1, h2⟩ := o.h0
  revert e2 e3 e4 e5 h2
  dsimp only [rowL]
  generalize kS r.horn = K
  generalize (if r.horn = true then (0 : Int) else 20) = M
  intro e2 e3 e4 e5 h2
  simp -implicitDefEqProofs [m_first_fault, b_first_fault, few, e1, e2, e3, e4, e5, x1, x2, y1, y2, s1, s2, h1, h2]
theorem sig_init {r : Sig} {c : D} (hc : IsC c (r.ss.map secD)) (o : Ok r) (hl : r.ss.length ≤ 1000) :
    m_Signal___init__ [.ob "Signal" [], sT r.name, .s (.str (kS r.horn)), .s (.int r.x), .s (.int r.y), sT r.word, .s (.int r.st), .s (.int r.he), .s c] =
      .ok (.s .non, [some (.ob "Signal" [("name", sT r.name), ("kind", .s (.str (kS r.horn))), ("x", .s (.int r.x)), ("y", .s (.int r.y)), ("rhythm", sT r.word), ("strength", .s (.int r.st)), ("height", .s (.int r.he)), ("sectors", .s (.tup (r.ss.map secD)))]), none, none, none, none, none, none, none, none]) := by
  have e1 := first_fault_ok hc o
  have hit : (T.s c).its = some (r.ss.map secD) := by rcases hc with rfl | rfl <;> rfl
  dsimp only [rowL] at e1
  generalize kS r.horn = K at e1 ⊢
  have e2 : ∀ (a0 a1 a2 a3 a4 a5 a6 a7 a8 a9 : Option T), lcL [10, 11, 12] (gtup 3 (gcons (stS 10) (gcons (stS 11) (gcons (stS 12) gnil)))) yesT el_Signal___init___1 (r.ss.map secD) [] [a0, a1, a2, a3, a4, a5, a6, a7, a8, a9, none, none, none] =
      .ok ((r.ss.map secD).map T.s, [a0, a1, a2, a3, a4, a5, a6, a7, a8, a9, none, none, none]) := by
    intro a0 a1 a2 a3 a4 a5 a6 a7 a8 a9
    have := lc_map (vs := [10, 11, 12]) (g := gtup 3 (gcons (stS 10) (gcons (stS 11) (gcons (stS 12) gnil)))) (el := el_Signal___init___1) (E := [a0, a1, a2, a3, a4, a5, a6, a7, a8, a9, none, none, none]) (f := T.s) (ds := r.ss.map secD) (fun d hd => by
      obtain ⟨s, hs, rfl⟩ := List.mem_map.mp hd
      refine ⟨[a0, a1, a2, a3, a4, a5, a6, a7, a8, a9, some (.s (.int s.dx)), some (.s (.int s.dy)), some (sT [s.g])], [a0, a1, a2, a3, a4, a5, a6, a7, a8, a9, some (.s (.int s.dx)), some (.s (.int s.dy)), some (sT [s.g])], by simp, ?_, by simp⟩
      simp -implicitDefEqProofs [el_Signal___init___1_ap, few]) [] (by simp; omega)
    simpa -implicitDefEqProofs [-List.map_map] using this
  simp -implicitDefEqProofs [m_Signal___init__, b_Signal___init__, few, e1, hit, e2, -List.map_map]
/-- as made, and frozen -/
theorem er_sig (r : Sig) (K : Str) : er (.ob "Signal" [("name", sT r.name), ("kind", .s (.str K)), ("x", .s (.int r.x)), ("y", .s (.int r.y)), ("rhythm", sT r.word), ("strength", .s (.int r.st)), ("height", .s (.int r.he)), ("sectors", .s (.tup (r.ss.map secD)))]) =
    .ob "Signal" [("name", sD r.name), ("kind", .str K), ("x", .int r.x), ("y", .int r.y), ("rhythm", sD r.word), ("strength", .int r.st), ("height", .int r.he), ("sectors", .tup (r.ss.map secD))] := by simp
theorem sig_row (r : Sig) : m_Signal_row [.s (sigD r)] = .ok (.s (rowP r), [none]) := by
  dsimp only [sigD, rowP, rowL]
  generalize kS r.horn = K
  simp -implicitDefEqProofs [m_Signal_row, b_Signal_row, few]
end VS
namespace VS
open PySem PySem.Spec L2
open PyProof.Rows hiding St
/-! ### the feed -/
abbrev fdT (ns : List Int) (at_ : Nat) (c2 c3 : Int) : T := .l [.s (.lst (ns.map D.int)), .s (.int (at_ : Int)), .s (.int c2), .s (.int c3)]
/-- a feed as it may stand -/
def Fd (t : T) : Prop := ∃ ns a c2 c3, t = fdT ns a c2 c3 ∧ 0 ≤ c2 ∧ 0 ≤ c3 ∧ c3 < 2147483647
theorem fm (x : Int) {m : Int} (h : 0 < m) : 0 ≤ x.fmod m ∧ x.fmod m < m := ⟨Int.fmod_nonneg_of_pos x h, Int.fmod_lt_of_pos x h⟩
theorem fm1 (x : Int) : -18446744073709551616 < x.fmod 2147483647 := by have := (fm x (m := 2147483647) (by omega)).1; omega
theorem fm2 (x : Int) : x.fmod 2147483647 < 18446744073709551616 := by have := (fm x (m := 2147483647) (by omega)).2; omega
theorem draw_ok {t : T} {many : Int} (F : Fd t) (hm : 0 < many) (hb : many < 1000000) : ∃ d t', m__law_draw [t, .s (.int many)] = .ok (.s (.int d), [some t', none]) ∧ Fd t' ∧ 0 ≤ d ∧ d < many := by
  obtain ⟨ns, a, c2, c3, rfl, h2, h3, h4⟩ := F
  have hn : many ≠ 0 := by omega
  have hD : ∀ i, CDivN i many := fun i => ⟨hn, by omega⟩
  have hE : ∀ i, CDivN i 11 := fun i => ⟨by omega, by omega⟩
  by_cases hr : c2 = 0 ∧ (a : Int) < ns.length
  · obtain ⟨rfl, hr⟩ := hr
    have hlt : a < ns.length := by omega
    have e1 : atI (ns.map D.int) (a : Int) = some (D.int (ns[a])) := by rw [atI_nat, List.getElem?_map, List.getElem?_eq_getElem hlt]; rfl
    by_cases hbig : (1000000000000000000 : Int) ≤ (if ns[a] < 0 then -ns[a] else ns[a])
    · have hpos : (0 : Int) < (if ns[a] < 0 then -ns[a] else ns[a]) := by omega
      have e : m__law_draw [fdT ns a 0 c3, .s (.int many)] = .ok (.s (.int ((if ns[a] < 0 then -ns[a] else ns[a]).fmod many)), [some (fdT ns (a + 1) ((if ns[a] < 0 then -ns[a] else ns[a]).fdiv many) c3), none]) := by
        simp -implicitDefEqProofs [m__law_draw, b__law_draw, fdT, hr, e1, pIadd, CMul, CPow, hbig, hpos, hn, hD]
      exact ⟨_, _, e, ⟨ns, a + 1, _, c3, rfl, Int.fdiv_nonneg (by omega) (by omega), h3, h4⟩, (fm _ hm).1, (fm _ hm).2⟩
    · obtain ⟨c, hc⟩ : ∃ c, c = (c3 * 48271 + (if ns[a] < 0 then -ns[a] else ns[a]) * 69621 + ((a : Int) + 1)).fmod 2147483647 := ⟨_, rfl⟩
      have e : ∃ d : Int, m__law_draw [fdT ns a 0 c3, .s (.int many)] = .ok (.s (.int (d.fmod many)), [some (fdT ns (a + 1) 0 ((c * 16807 + 12345).fmod 2147483647)), none]) := by
        refine ⟨?_, ?_⟩
        rotate_left
        · simp -implicitDefEqProofs [m__law_draw, b__law_draw, fdT, hr, e1, pIadd, CMul, CPow, hbig, hn, hD, hE, fm1, fm2, ← hc]
          rfl
      obtain ⟨d, e⟩ := e
      exact ⟨_, _, e, ⟨ns, a + 1, 0, _, rfl, by omega, (fm _ (by omega)).1, (fm _ (by omega)).2⟩, (fm _ hm).1, (fm _ hm).2⟩
  · by_cases hp : 0 < c2
    · have h0 : ¬ c2 = 0 := by omega
      have e : m__law_draw [fdT ns a c2 c3, .s (.int many)] = .ok (.s (.int (c2.fmod many)), [some (fdT ns a (c2.fdiv many) c3), none]) := by
        simp -implicitDefEqProofs [m__law_draw, b__law_draw, fdT, h0, pIadd, CMul, CPow, hp, hn, hD]
      exact ⟨_, _, e, ⟨ns, a, _, c3, rfl, Int.fdiv_nonneg (by omega) (by omega), h3, h4⟩, (fm _ hm).1, (fm _ hm).2⟩
    · have h0 : c2 = 0 := by omega
      subst h0
      have hr' : ¬ (a : Int) < ns.length := fun h => hr ⟨rfl, h⟩
      have e : ∃ d : Int, m__law_draw [fdT ns a 0 c3, .s (.int many)] = .ok (.s (.int (d.fmod many)), [some (fdT ns a 0 ((c3 * 16807 + 12345).fmod 2147483647)), none]) := by
        refine ⟨?_, ?_⟩
        rotate_left
        · simp -implicitDefEqProofs [m__law_draw, b__law_draw, fdT, hr', pIadd, CMul, CPow, hn, hD, hE, fm1, fm2]
          rfl
      obtain ⟨d, e⟩ := e
      exact ⟨_, _, e, ⟨ns, a, 0, _, rfl, by omega, (fm _ (by omega)).1, (fm _ (by omega)).2⟩, (fm _ hm).1, (fm _ hm).2⟩
theorem feed_ok (ns : List Int) (h : ns.length ≤ 63) : ∃ t, m__law_feed [.s (.scr ns)] = .ok (t, [none]) ∧ Fd t := by
  refine ⟨fdT ns 0 0 1, ?_, ns, 0, 0, 1, rfl, by omega, by omega, by omega⟩
  simp -implicitDefEqProofs [m__law_feed, b__law_feed, fdT, few, -List.map_map]
theorem join_ok (ys : List (List Nat)) (h : ys.flatten.length ≤ 1000000) : pJoin (.s (.str (Str.ofString ""))) [.l (ys.map sT)] = some (sT ys.flatten) := by
  have e : (ys.map sT) = ((ys.map S).map D.str).map T.s := by simp [sT]
  have e2 : ((ys.map S).map (·.length)).sum = ys.flatten.length := by
    rw [List.length_flatten]
    congr 1
    simp [Function.comp_def]
  have e3 : Str.ofString "" = S [] := ofList_S ""
  unfold pJoin
  rw [e, e3]
  simp only [lsT, T.ls, shs_map, Option.bind_some, strsO_S, S_length, List.length_nil, Nat.mul_zero, Nat.add_zero]
  rw [e2, if_pos (by omega), join_nil]
end VS
namespace VS
open PySem PySem.Spec L2
open PyProof.Rows hiding St
/-! ### lists of texts -/
theorem eqF_str (a b : List Nat) : eqF (sD a) (sD b) = decide (a = b) := by
  show decide (S a = S b) = _
  simp
theorem any_words (w : List Nat) (ws : List (List Nat)) : ((ws.map sD).any fun y => eqF y (sD w)) = decide (w ∈ ws) := by
  rw [Bool.eq_iff_iff]
  simp only [List.any_eq_true, List.mem_map, decide_eq_true_eq]
  constructor
  · rintro ⟨y, ⟨u, hu, rfl⟩, h⟩
    rw [eqF_str, decide_eq_true_eq] at h
    exact h ▸ hu
  · exact fun h => ⟨_, ⟨w, h, rfl⟩, by rw [eqF_str]; simp⟩
theorem all_flat (ws : List (List Nat)) : (ws.map sD).all flatD = true := by
  rw [List.all_eq_true]
  rintro d hd
  obtain ⟨w, _, rfl⟩ := List.mem_map.mp hd
  rfl
theorem inB_words {y : T} {w : List Nat} {ws : List (List Nat)} (h : y.ls = some (ws.map sD)) : pInB (sT w) y = some (decide (w ∈ ws)) := by
  have hfl : (flatD (sD w) && (ws.map sD).all flatD) = true := by rw [all_flat]; rfl
  unfold pInB
  split
  · cases h
  · cases h
  · rename_i d h1 h2 h3
    cases h1
    rw [h]
    dsimp only
    rw [if_pos hfl, any_words]
  · rename_i ha hb hc
    first
      | exact (ha (sD w) y rfl rfl).elim
      | exact (hb (sD w) y rfl rfl).elim
      | exact (hc (sD w) y rfl rfl).elim
      | exact (ha (sD w) rfl).elim
      | exact (hb (sD w) rfl).elim
      | exact (hc (sD w) rfl).elim
theorem ls_words (ws : List (List Nat)) : (T.l (ws.map sT)).ls = some (ws.map sD) := by
  have e : ws.map sT = (ws.map sD).map T.s := by simp [sT]
  rw [e]
  exact shs_map _
@[simp] theorem shs_words (ws : List (List Nat)) : shs (ws.map sT) = some (ws.map sD) := ls_words ws
@[simp] theorem in_l (w : List Nat) (ws : List (List Nat)) : pIn (sT w) (.l (ws.map sT)) = some (.s (.bl (decide (w ∈ ws)))) := by unfold pIn; rw [inB_words (ls_words ws)]; rfl
@[simp] theorem in_lst (w : List Nat) (ws : List (List Nat)) : pIn (sT w) (.s (.lst (ws.map sD))) = some (.s (.bl (decide (w ∈ ws)))) := by unfold pIn; rw [inB_words (ws := ws) rfl]; rfl
@[simp] theorem notIn_l (w : List Nat) (ws : List (List Nat)) : pNotIn (sT w) (.l (ws.map sT)) = some (.s (.bl (!decide (w ∈ ws)))) := by unfold pNotIn; rw [inB_words (ls_words ws)]; rfl
@[simp] theorem notIn_lst (w : List Nat) (ws : List (List Nat)) : pNotIn (sT w) (.s (.lst (ws.map sD))) = some (.s (.bl (!decide (w ∈ ws)))) := by unfold pNotIn; rw [inB_words (ws := ws) rfl]; rfl
@[simp] theorem ers_words (ws : List (List Nat)) : ers (ws.map sT) = ws.map sD := by
  have e : ws.map sT = (ws.map sD).map T.s := by simp [sT]
  rw [e]
  exact ers_map _
end VS
namespace VS
open PySem PySem.Spec L2
open PyProof.Rows hiding St
/-! ### a signal changed; charts; coasts -/
abbrev sigT (r : Sig) : T := .ob "Signal" [("name", sT r.name), ("kind", .s (.str (kS r.horn))), ("x", .s (.int r.x)), ("y", .s (.int r.y)), ("rhythm", sT r.word), ("strength", .s (.int r.st)), ("height", .s (.int r.he)), ("sectors", .s (.tup (r.ss.map secD)))]
theorem er_sigT (r : Sig) : er (sigT r) = sigD r := by simp
theorem ob_inj : True := trivial
theorem make_sig {r : Sig} {c : D} (hc : IsC c (r.ss.map secD)) (o : Ok r) (hl : r.ss.length ≤ 1000) (e : En) :
    mkK "Signal" 9 m_Signal___init__ (.ok ([sT r.name, .s (.str (kS r.horn)), .s (.int r.x), .s (.int r.y), sT r.word, .s (.int r.st), .s (.int r.he), .s c], e)) = .ok (sigT r, e) := by
  rw [mkK_ok, sig_init hc o hl]
  rfl
theorem meth_sig {m : String} {n : Nat} {sem : FS} {fs : En → R En (List T × En)} (r : Sig) (e : En) (hm : m ≠ "name" ∧ m ≠ "kind" ∧ m ≠ "x" ∧ m ≠ "y" ∧ m ≠ "rhythm" ∧ m ≠ "strength" ∧ m ≠ "height" ∧ m ≠ "sectors") :
    meK "Signal" (Str.ofString m) n sem fs (.ok (.s (sigD r), e)) = meL n sem (.s (sigD r)) (fs e) := by
  rw [meK_ok, if_pos]
  refine ⟨rfl, ?_⟩
  obtain ⟨h1, h2, h3, h4, h5, h6, h7, h8⟩ := hm
  simp [h1, h2, h3, h4, h5, h6, h7, h8]
theorem in_fields : pNotIn (.s (.str "rhythm")) (.s (.tup [.str "name", .str "kind", .str "x", .str "y", .str "rhythm", .str "strength", .str "height", .str "sectors"])) = some (.s (.bl false)) := by
  unfold pNotIn pInB
  simp [flatD, eqF, blO]
theorem tix_rhythm : tixD "rhythm" ["name", "kind", "x", "y", "rhythm", "strength", "height", "sectors"] = some 4 := by
  simp [tixD]
theorem sig_changed {r : Sig} {w : Wd} (o : Ok { r with word := w }) (hl : r.ss.length ≤ 1000) : m_Signal_changed [.s (sigD r), .s (.str "rhythm"), sT w] = .ok (sigT { r with word := w }, [none, none, none]) := by
  have e1 := make_sig (r := { r with word := w }) (c := .tup (r.ss.map secD)) (.inr rfl) o hl
  have e2 := sig_row r
  have e3 := fun n sem fs e => meth_sig (m := "row") (n := n) (sem := sem) (fs := fs) r e (by decide)
  dsimp only [sigD, rowP, rowL] at e1 e2 e3 ⊢
  generalize kS r.horn = K at e1 e2 e3 ⊢
  simp -implicitDefEqProofs [m_Signal_changed, b_Signal_changed, few, in_fields, tix_rhythm, e1, e2, e3, ixN, -mkK_ok]
/-! charts -/
abbrev chD (rows : List Wd) (w h : Nat) : D := .ob "Chart" [("rows", .tup (rows.map sD)), ("wide", .int w), ("high", .int h)]
abbrev chT (rows : List Wd) (w h : Nat) : T := .ob "Chart" [("rows", .s (.tup (rows.map sD))), ("wide", .s (.int w)), ("high", .s (.int h))]
structure OkC (rows : List Wd) (w h : Nat) : Prop where
  l : rows.length = h
  h1 : 1 ≤ h ∧ h ≤ 8
  w1 : 1 ≤ w ∧ w ≤ 8
  each : ∀ r ∈ rows, isRow r w = true
  len : ∀ r ∈ rows, r.length = w
theorem chart_init {rows : List Wd} {w h : Nat} (o : OkC rows w h) : m_Chart___init__ [.ob "Chart" [], .s (.lst (rows.map sD))] = .ok (.s .non, [some (chT rows w h), none]) := by
  obtain ⟨hl, ⟨h1, h2⟩, ⟨w1, w2⟩, each, len⟩ := o
  obtain ⟨r0, rs, rfl⟩ : ∃ r0 rs, rows = r0 :: rs := by
    cases rows with
    | nil => simp at hl; omega
    | cons a b => exact ⟨a, b, rfl⟩
  have l0 : r0.length = w := len r0 List.mem_cons_self
  obtain ⟨e', f1, a, b, rfl⟩ := for_inv (g := gtup 2 (gcons (stS 2) (gcons (stS 3) gnil))) (body := bo_Chart___init___1) (ds := enD ((r0 :: rs).map sD)) (I := fun _ e => ∃ a b, e = [some (.ob "Chart" []), some (.s (.lst ((r0 :: rs).map sD))), a, b]) (fun i d e hd hI => by
    obtain ⟨a, b, rfl⟩ := hI
    obtain ⟨x, hx, rfl⟩ := enD_some hd
    obtain ⟨s, hs, rfl⟩ := map_get hx
    have hm := List.mem_of_getElem? hs
    have er := is_row_ok (w := s) (n := w) (by rw [len s hm]; omega)
    rw [each s hm] at er
    refine ⟨_, [some (.ob "Chart" []), some (.s (.lst ((r0 :: rs).map sD))), some (.s (.int (i : Int))), some (sT s)], by simp; rfl, ?_, _, _, rfl⟩
    simp -implicitDefEqProofs [bo_Chart___init___1_ap, few, l0, er, show w ≤ 1000000 by omega, -List.map_map]) [some (.ob "Chart" []), some (.s (.lst ((r0 :: rs).map sD))), none, none] ⟨_, _, rfl⟩
  have hl' : rs.length + 1 = h := by simpa using hl
  have a1 : (0 : Int) ≤ (rs.length : Int) := by omega
  have a2 : (rs.length : Int) + 1 ≤ 8 := by omega
  have a3 : (1 : Int) ≤ (rs.length : Int) + 1 := by omega
  simp -implicitDefEqProofs [-List.map_map] at f1
  simp -implicitDefEqProofs [m_Chart___init__, b_Chart___init__, few, l0, show w ≤ 1000000 by omega, f1, a1, a2, a3, ← hl', -List.map_map]
theorem make_chart {rows : List Wd} {w h : Nat} (o : OkC rows w h) (e : En) : mkK "Chart" 2 m_Chart___init__ (.ok ([.s (.lst (rows.map sD))], e)) = .ok (chT rows w h, e) := by
  rw [mkK_ok, chart_init o]
  rfl
theorem er_chT (rows : List Wd) (w h : Nat) : er (chT rows w h) = chD rows w h := by simp
theorem meth_chart {m : String} {n : Nat} {sem : FS} {fs : En → R En (List T × En)} (rows : List Wd) (w h : Nat) (e : En) (hm : m ≠ "rows" ∧ m ≠ "wide" ∧ m ≠ "high") :
    meK "Chart" (Str.ofString m) n sem fs (.ok (.s (chD rows w h), e)) = meL n sem (.s (chD rows w h)) (fs e) := by
  rw [meK_ok, if_pos]
  refine ⟨rfl, ?_⟩
  obtain ⟨h1, h2, h3⟩ := hm
  simp [h1, h2, h3]
theorem is_on_ok {rows : List Wd} {w h : Nat} {x y : Int} (hx : 0 ≤ x ∧ x < w) (hy : 0 ≤ y ∧ y < h) : m_Chart_is_on [.s (chD rows w h), .s (.int x), .s (.int y)] = .ok (.s (.bl true), [none, none, none]) := by
  obtain ⟨x1, x2⟩ := hx
  obtain ⟨y1, y2⟩ := hy
  simp -implicitDefEqProofs [m_Chart_is_on, b_Chart_is_on, x1, x2, y1, y2]
end VS
namespace VS
open PySem PySem.Spec L2
open PyProof.Rows hiding St
/-! ### coasts -/
theorem cutL_upto {α : Type} (z : List α) (n : Nat) : cutL z none (some (n : Int)) = z.take n := by
  unfold cutL
  have e : HT.sIx z.length z.length (some (n : Int)) = min n z.length := HT.sIx_nat _ _ _
  simp only [HT.sIx_none, e, List.drop_zero, Nat.sub_zero]
  simp [List.take_eq_take_iff]
theorem cutL_from {α : Type} (z : List α) (n : Nat) : cutL z (some (n : Int)) none = z.drop n := by
  unfold cutL
  have e : HT.sIx z.length 0 (some (n : Int)) = min n z.length := HT.sIx_nat _ _ _
  simp only [HT.sIx_none, e]
  by_cases h : n ≤ z.length
  · rw [Nat.min_eq_left h, List.take_of_length_le (by simp)]
  · rw [Nat.min_eq_right (by omega), List.drop_eq_nil_of_le (by simp), List.drop_eq_nil_of_le (by omega)]
    simp
abbrev coD (ch : D) (rs : List Sig) : D := .ob "Coast" [("chart", ch), ("signals", .tup (rs.map sigD))]
abbrev coT (ch : D) (rs : List Sig) : T := .ob "Coast" [("chart", .s ch), ("signals", .s (.tup (rs.map sigD)))]
structure OkS (rs : List Sig) (w h : Nat) : Prop where
  l : rs.length ≤ 8
  nd : (rs.map Sig.name).Nodup
  on : ∀ r ∈ rs, (0 ≤ r.x ∧ r.x < w) ∧ 0 ≤ r.y ∧ r.y < h
theorem coast_init {rows : List Wd} {w h : Nat} {rs : List Sig} (o : OkS rs w h) : m_Coast___init__ [.ob "Coast" [], .s (chD rows w h), .s (.lst (rs.map sigD))] = .ok (.s .non, [some (coT (chD rows w h) rs), none, none]) := by
  obtain ⟨l, nd, on⟩ := o
  obtain ⟨e', f1, a, b, rfl⟩ := for_inv (g := gtup 2 (gcons (stS 3) (gcons (stS 4) gnil))) (body := bo_Coast___init___2) (ds := enD (rs.map sigD)) (I := fun _ e => ∃ a b, e = [some (.ob "Coast" []), some (.s (chD rows w h)), some (.s (.lst (rs.map sigD))), a, b, none]) (fun i d e hd hI => by
    obtain ⟨a, b, rfl⟩ := hI
    obtain ⟨x, hx, rfl⟩ := enD_some hd
    obtain ⟨r, hs, rfl⟩ := map_get hx
    have hm := List.mem_of_getElem? hs
    have hlt := (List.getElem?_eq_some_iff.mp hs).1
    have hr := (List.getElem?_eq_some_iff.mp hs).2
    have e1 := is_on_ok (rows := rows) (on r hm).1 (on r hm).2
    have e2 := fun n sem fs e => meth_chart (m := "is_on") (n := n) (sem := sem) (fs := fs) rows w h e (by decide)
    refine ⟨_, [some (.ob "Coast" []), some (.s (chD rows w h)), some (.s (.lst (rs.map sigD))), some (.s (.int (i : Int))), some (.s (sigD r)), none], by simp; rfl, ?_, _, _, rfl⟩
    have e3 := lc_map (vs := [5]) (g := stS 5) (el := el_Coast___init___1) (E := [some (.ob "Coast" []), some (.s (chD rows w h)), some (.s (.lst (rs.map sigD))), some (.s (.int (i : Int))), some (.s (sigD r)), none]) (f := fun d => match d with | .ob _ ((_, d) :: _) => .s d | _ => .s .non) (ds := (rs.take i).map sigD) (fun d hd => by
      obtain ⟨q, hq, rfl⟩ := List.mem_map.mp hd
      refine ⟨[some (.ob "Coast" []), some (.s (chD rows w h)), some (.s (.lst (rs.map sigD))), some (.s (.int (i : Int))), some (.s (sigD r)), some (.s (sigD q))], [some (.ob "Coast" []), some (.s (chD rows w h)), some (.s (.lst (rs.map sigD))), some (.s (.int (i : Int))), some (.s (sigD r)), some (.s (sigD q))], by simp, ?_, by simp⟩
      simp -implicitDefEqProofs [el_Coast___init___1_ap]) [] (by simp; omega)
    have e4 : ((rs.take i).map sigD).map (fun d => match d with | .ob _ ((_, d) :: _) => T.s d | _ => T.s .non) = ((rs.take i).map Sig.name).map sT := by
      rw [List.map_map, List.map_map]
      rfl
    rw [e4] at e3
    have e5 : r.name ∉ (rs.take i).map Sig.name := fun z => by
      obtain ⟨q, hq, eq⟩ := List.mem_map.mp z
      obtain ⟨j, hj, ej⟩ := List.getElem_of_mem hq
      have hj' : j < i := by simp at hj; omega
      have e6 : (rs.map Sig.name)[j]'(by simp; omega) = (rs.map Sig.name)[i]'(by simpa using hlt) := by
        simp only [List.getElem_map, hr]
        rw [← eq, ← ej]
        simp
      exact List.pairwise_iff_getElem.mp nd j i (by simp; omega) (by simpa using hlt) hj' e6
    have e7 : cutL (rs.map sigD) none (some (i : Int)) = (rs.take i).map sigD := by rw [cutL_upto, List.map_take]
    simp only [List.nil_append] at e3
    generalize ((rs.take i).map Sig.name) = NM at e3 e5
    generalize hch : chD rows w h = CH at e1 e2 e3 ⊢
    have e8 := in_l r.name NM
    simp -implicitDefEqProofs [bo_Coast___init___2_ap, e1, e2, e3, e5, e7, e8, -List.map_map, -List.map_take]) [some (.ob "Coast" []), some (.s (chD rows w h)), some (.s (.lst (rs.map sigD))), none, none, none] ⟨_, _, rfl⟩
  have hl : ¬ (8 : Int) < rs.length := by omega
  generalize chD rows w h = CH at f1 ⊢
  simp -implicitDefEqProofs [m_Coast___init__, b_Coast___init__, few, f1, hl]
theorem make_coast {rows : List Wd} {w h : Nat} {rs : List Sig} (o : OkS rs w h) (e : En) : mkK "Coast" 3 m_Coast___init__ (.ok ([.s (chD rows w h), .s (.lst (rs.map sigD))], e)) = .ok (coT (chD rows w h) rs, e) := by
  rw [mkK_ok, coast_init o]
  rfl
theorem er_coT (ch : D) (rs : List Sig) : er (coT ch rs) = coD ch rs := by simp
theorem ers_sigT (rs : List Sig) : ers (rs.map sigT) = rs.map sigD := by
  induction rs with
  | nil => simp
  | cons r rs ih => rw [List.map_cons, ers_cons, ih, er_sigT]; rfl
/-- a row as the law holds it -/
abbrev rowD (r : Sig) : D := .tup (rowL r (.lst (r.ss.map secD)))
theorem law_coast_ok {rows : List Wd} {w h : Nat} {rs : List Sig} (oc : OkC rows w h) (os : OkS rs w h) (o : ∀ r ∈ rs, Ok r ∧ r.ss.length ≤ 1000) :
    m__law_coast [.s (.lst (rows.map sD)), .s (.lst (rs.map rowD))] = .ok (coT (chD rows w h) rs, [none, none]) := by
  obtain ⟨e', f1, b, he⟩ := for_inv (g := stS 3) (body := bo__law_coast_1) (ds := rs.map rowD) (I := fun i e => ∃ b, e = [some (.s (.lst (rows.map sD))), some (.s (.lst (rs.map rowD))), some (.l ((rs.take i).map sigT)), b]) (fun i d e hd hI => by
    obtain ⟨b, rfl⟩ := hI
    obtain ⟨r, hs, rfl⟩ := map_get hd
    have hm := List.mem_of_getElem? hs
    have hlt := (List.getElem?_eq_some_iff.mp hs).1
    refine ⟨[some (.s (.lst (rows.map sD))), some (.s (.lst (rs.map rowD))), some (.l ((rs.take i).map sigT)), some (.s (rowD r))], [some (.s (.lst (rows.map sD))), some (.s (.lst (rs.map rowD))), some (.l ((rs.take (i + 1)).map sigT)), some (.s (rowD r))], by simp, ?_, _, rfl⟩
    have e1 := make_sig (c := .lst (r.ss.map secD)) (.inl rfl) (o r hm).1 (o r hm).2
    have e2 : (rs.take (i + 1)).map sigT = (rs.take i).map sigT ++ [sigT r] := by
      rw [List.take_add_one, hs]
      simp
    rw [e2]
    dsimp only [rowD, rowL] at e1 ⊢
    have hl2 : ((rs.take i).map sigT).length ≤ 1000 := by simp; have := os.l; omega
    generalize (rs.take i).map sigT = L at hl2 ⊢
    generalize rs.map rowD = RS
    generalize rows.map sD = RW
    generalize sigT r = ST at e1 ⊢
    generalize kS r.horn = K at e1 ⊢
    simp -implicitDefEqProofs [bo__law_coast_1_ap, few, few', e1, show L.length ≤ 1000000 by omega, -mkK_ok, -List.map_map]) [some (.s (.lst (rows.map sD))), some (.s (.lst (rs.map rowD))), some (.l []), none] ⟨_, rfl⟩
  subst he
  have e3 := make_chart oc
  have e4 := make_coast (rows := rows) os
  rw [show (rs.map rowD).length = rs.length by simp, List.take_length] at f1
  have e5 := ers_sigT rs
  have e6 : er (chT rows w h) = chD rows w h := er_chT rows w h
  generalize chT rows w h = CT at e3 e6
  generalize chD rows w h = CH at e4 e6 ⊢
  generalize coT CH rs = CO at e4 ⊢
  generalize rs.map sigT = L at f1 e5
  generalize rs.map rowD = RS at f1 ⊢
  simp -implicitDefEqProofs [m__law_coast, b__law_coast, few, f1, e3, e4, e5, e6, -mkK_ok, -List.map_map]
end VS
namespace VS
open PySem PySem.Spec L2
open PyProof.Rows hiding St
/-! ### what is drawn -/
/-- signs that are drawn, one by one -/
theorem drawn_lp {vs : List Nat} {g : GTg} {el : En → R En (T × En)} (w : Wd) (E : Option T → Option T → En) (hg : ∀ d t x, g (.s d) (E t x) = some (E t (some (.s d)))) (he : ∀ t x, Fd t → ∃ c t', c ∈ w ∧ Fd t' ∧ el (E (some t) x) = .ok (sT [c], E (some t') x)) (hw : ∀ t x, wipeE (E t x) vs = E t none)
    (n : Nat) (t : T) (F : Fd t) (hn : n ≤ 1000) : ∃ (cs : Wd) (t' : T), lcL vs g yesT el (rgD 0 (n : Int)) [] (E (some t) none) = .ok (cs.map (fun c => sT [c]), E (some t') none) ∧ Fd t' ∧ cs.length = n ∧ ∀ c ∈ cs, c ∈ w := by
  obtain ⟨ts, e', h1, ⟨cs, t', h2, F', h3, h4, h5⟩, h6⟩ := lc_inv (vs := vs) (g := g) (el := el) (ds := rgD 0 (n : Int)) (I := fun i ts e => ∃ (cs : Wd) (t' : T), e = E (some t') none ∧ Fd t' ∧ ts = cs.map (fun c => sT [c]) ∧ cs.length = i ∧ ∀ c ∈ cs, c ∈ w) (fun i d ts e hd hI => by
    obtain ⟨cs, t1, rfl, F1, rfl, hl, hm⟩ := hI
    obtain ⟨c, t2, hc, F2, e2⟩ := he t1 (some (.s d)) F1
    refine ⟨E (some t1) (some (.s d)), sT [c], E (some t2) (some (.s d)), hg _ _ _, e2, cs ++ [c], t2, hw _ _, F2, by simp, by simp [hl], fun x hx => ?_⟩
    rcases List.mem_append.mp hx with z | z
    · exact hm x z
    · have : x = c := by simpa using z
      rw [this]; exact hc) [] (E (some t) none) ⟨[], t, rfl, F, rfl, rfl, by simp⟩ (by simp; omega)
  subst h2 h3
  exact ⟨cs, t', h1, F', by rw [h4]; simp, h5⟩
theorem join_chars (cs : Wd) (h : cs.length ≤ 1000000) : pJoin (.s (.str "")) [.l (cs.map fun x => sT [x])] = some (sT cs) := by
  have hf : (cs.map fun x => [x]).flatten = cs := by
    clear h
    induction cs with
    | nil => rfl
    | cons c cs ih => simp [ih]
  have hj := join_ok (cs.map fun x => [x]) (by rw [hf]; exact h)
  rw [hf, List.map_map] at hj
  exact hj
/-- a word, not dark throughout -/
def Lit (w : Wd) (L : Wd) (n : Nat) : Prop := 1 ≤ w.length ∧ w.length ≤ n ∧ w ≠ List.replicate w.length 46 ∧ ∀ c ∈ w, c ∈ L ∨ c = 87
theorem law_word_ok {t : T} {w : Wd} {longest : Nat} (F : Fd t) (hw : 0 < w.length) (hw2 : w.length ≤ 1000) (h0 : 0 < longest) (h1 : longest < 100) :
    ∃ u t', m__law_word [t, sT w, .s (.int longest)] = .ok (sT u, [some t', none, none]) ∧ Fd t' ∧ Lit u w longest := by
  obtain ⟨x, t1, e1, F1, hx0, hx1⟩ := draw_ok F (many := (longest : Int)) (by omega) (by omega)
  obtain ⟨n, hn⟩ : ∃ n : Nat, 1 + x = (n : Int) := ⟨(1 + x).toNat, by omega⟩
  have hn0 : 1 ≤ n ∧ n ≤ longest := by omega
  obtain ⟨cs, t2, e2, F2, l2, m2⟩ := drawn_lp (vs := [5]) (g := stS 5) (el := el__law_word_1) w (fun t y => [t, some (sT w), some (.s (.int (longest : Int))), some (.s (.int (n : Int))), none, y]) (fun d t y => by simp) (fun t y Ft => by
    obtain ⟨z, t', e3, F3, hz0, hz1⟩ := draw_ok Ft (many := (w.length : Int)) (by omega) (by omega)
    obtain ⟨k, rfl⟩ : ∃ k : Nat, z = k := ⟨z.toNat, by omega⟩
    have hk : k < w.length := by omega
    refine ⟨w[k], t', List.getElem_mem hk, F3, ?_⟩
    simp -implicitDefEqProofs [el__law_word_1_ap, e3, atI_nat, hk, few, show w.length ≤ 1000000 by omega]) (fun t y => by simp) n t1 F1 (by omega)
  have hj := join_chars cs (by omega)
  have hr := rg1n (n := n) (by omega)
  by_cases hd : cs = List.replicate n 46
  · refine ⟨87 :: cs.drop 1, t2, ?_, F2, ?_⟩
    · have hs := S_from cs 1
      simp -implicitDefEqProofs [m__law_word, b__law_word, e1, hn, hr, e2, hj, q_dot, q_W, show n ≤ 1000000 by omega, ← hd, few, l2]
      have hs' : cutS (S cs) (some 1) none = S (cs.drop 1) := hs
      simp -implicitDefEqProofs [hs', few (show 1 + (cs.length - 1) ≤ 1000000 by omega)]
    · refine ⟨by simp, by simp; omega, fun z => ?_, fun c hc => ?_⟩
      · have := congrArg (fun l : List Nat => l.head?) z
        simp [List.replicate_succ] at this
      · rcases List.mem_cons.mp hc with rfl | hc
        · exact .inr rfl
        · exact .inl (m2 c (List.mem_of_mem_drop hc))
  · refine ⟨cs, t2, ?_, F2, by omega, by omega, by rw [l2]; exact hd, fun c hc => .inl (m2 c hc)⟩
    simp -implicitDefEqProofs [m__law_word, b__law_word, e1, hn, hr, e2, hj, q_dot, q_W, show n ≤ 1000000 by omega, hd]
end VS
namespace VS
open PySem PySem.Spec L2
open PyProof.Rows hiding St
/-! ### the chart that is drawn -/
theorem law_rows_ok {t : T} {most : Nat} (F : Fd t) (h0 : 1 ≤ most) (h1 : most ≤ 8) : ∃ (rows : List Wd) (w h : Nat) (t' : T), m__law_rows [t, .s (.int most)] = .ok (.l (rows.map sT), [some t', none]) ∧ Fd t' ∧ OkC rows w h := by
  obtain ⟨x, t1, e1, F1, hx0, hx1⟩ := draw_ok F (many := (most : Int)) (by omega) (by omega)
  obtain ⟨w, hw⟩ : ∃ n : Nat, 1 + x = (n : Int) := ⟨(1 + x).toNat, by omega⟩
  obtain ⟨y, t2, e2, F2, hy0, hy1⟩ := draw_ok F1 (many := (most : Int)) (by omega) (by omega)
  obtain ⟨h, hh⟩ : ∃ n : Nat, 1 + y = (n : Int) := ⟨(1 + y).toNat, by omega⟩
  have hw1 : 1 ≤ w ∧ w ≤ 8 := by omega
  have hh1 : 1 ≤ h ∧ h ≤ 8 := by omega
  have q4 : Str.ofString "~~~#" = S [126, 126, 126, 35] := by rw [ofList_S]; rfl
  obtain ⟨e', f1, rws, t3, z, rfl, F3, hl, hr⟩ := for_inv (g := stS 5) (body := bo__law_rows_2) (ds := rgD 0 (h : Int)) (I := fun i e => ∃ (rws : List Wd) (t' : T) (z : Option T), e = [some t', some (.s (.int (most : Int))), some (.s (.int (w : Int))), some (.s (.int (h : Int))), some (.l (rws.map sT)), z, none] ∧ Fd t' ∧ rws.length = i ∧ ∀ r ∈ rws, r.length = w ∧ ∀ c ∈ r, c ∈ [126, 35])
    (fun i d e hd hI => by
    obtain ⟨rws, t', z, rfl, F', hl, hr⟩ := hI
    obtain ⟨hi, rfl⟩ := rgD_some hd
    obtain ⟨cs, t4, e3, F4, l4, m4⟩ := drawn_lp (vs := [6]) (g := stS 6) (el := el__law_rows_1) [126, 126, 126, 35] (fun t y => [t, some (.s (.int (most : Int))), some (.s (.int (w : Int))), some (.s (.int (h : Int))), some (.l (rws.map sT)), some (.s (.int (i : Int))), y]) (fun d t y => by simp) (fun t y Ft => by
      obtain ⟨z, t', e3, F3, hz0, hz1⟩ := draw_ok Ft (many := 4) (by omega) (by omega)
      obtain ⟨k, rfl⟩ : ∃ k : Nat, z = k := ⟨z.toNat, by omega⟩
      have hk : k < [126, 126, 126, 35].length := by simp; omega
      refine ⟨[126, 126, 126, 35][k], t', List.getElem_mem hk, F3, ?_⟩
      have hk' : ([126, 126, 126, 35] : List Nat)[k]? = some [126, 126, 126, 35][k] := List.getElem?_eq_getElem hk
      generalize ([126, 126, 126, 35] : List Nat)[k] = c at hk' ⊢
      simp -implicitDefEqProofs [el__law_rows_1_ap, e3, q4, atI_nat, hk', few]) (fun t y => by simp) w t' F' (by omega)
    have hj := join_chars cs (by omega)
    have hrg := rg1n (n := w) (by omega)
    refine ⟨[some t', some (.s (.int (most : Int))), some (.s (.int (w : Int))), some (.s (.int (h : Int))), some (.l (rws.map sT)), some (.s (.int (i : Int))), none], [some t4, some (.s (.int (most : Int))), some (.s (.int (w : Int))), some (.s (.int (h : Int))), some (.l ((rws ++ [cs]).map sT)), some (.s (.int (i : Int))), none], by simp, ?_, rws ++ [cs], t4, _, rfl, F4, by simp [hl], fun r hm => ?_⟩
    · have hl2 : (rws.map sT).length ≤ 1000 := by simp; omega
      rw [List.map_append]
      generalize rws.map sT = L at e3 hl2 ⊢
      simp -implicitDefEqProofs [bo__law_rows_2_ap, hrg, e3, hj, few', show L.length ≤ 1000000 by omega]
    · rcases List.mem_append.mp hm with q | q
      · exact hr r q
      · have : r = cs := by simpa using q
        subst this
        refine ⟨l4, fun c hc => ?_⟩
        have := m4 c hc
        simp at this ⊢
        omega) [some t2, some (.s (.int (most : Int))), some (.s (.int (w : Int))), some (.s (.int (h : Int))), some (.l []), none, none] ⟨[], t2, none, rfl, F2, rfl, by simp⟩
  refine ⟨rws, w, h, t3, ?_, F3, ⟨by simpa using hl, hh1, hw1, fun r hm => ?_, fun r hm => (hr r hm).1⟩⟩
  · have hrg := rg1n (n := h) (by omega)
    simp -implicitDefEqProofs [m__law_rows, b__law_rows, e1, e2, hw, hh, hrg, f1]
  · unfold isRow
    simp only [Bool.and_eq_true, decide_eq_true_eq, List.all_eq_true]
    exact ⟨(hr r hm).1, (hr r hm).2, hw1⟩
/-! ### the sectors that are drawn -/
def rayL : List (Int × Int) := [(0, -1), (1, -1), (1, 0), (1, 1), (0, 1), (-1, 1), (-1, 0), (-1, -1)]
def ray (a : Nat) : Int × Int := rayL.getD a (0, 0)
theorem rays_get {a : Nat} (h : a < 8) : (rayL.map ptD)[a]? = some (ptD (ray a)) := by
  rw [List.getElem?_map]
  unfold ray
  rw [List.getD_eq_getElem?_getD, List.getElem?_eq_getElem (show a < rayL.length from h)]
  rfl
theorem rays_apart : ∀ a : Fin 8, ∀ k : Fin 7, sRay (ray ((a.val + 1 + k.val) % 8)) (ray a.val) = false := by decide +kernel
theorem sRay_self : ∀ a : Fin 8, sRay (ray a.val) (ray a.val) = true := by decide +kernel
theorem ray_alone : ∀ a : Fin 8, -20 ≤ (ray a.val).1 ∧ (ray a.val).1 ≤ 20 ∧ -20 ≤ (ray a.val).2 ∧ (ray a.val).2 ≤ 20 ∧ ¬ ((ray a.val).1 = 0 ∧ (ray a.val).2 = 0) := by decide +kernel
theorem alone_of {x y : Int} {g : Nat} (h : -20 ≤ x ∧ x ≤ 20 ∧ -20 ≤ y ∧ y ≤ 20 ∧ ¬ (x = 0 ∧ y = 0)) (hg : g ∈ [87, 87, 87, 82, 71, 89, 46]) : alone ⟨x, y, g⟩ = true := by
  unfold alone
  simp only [Bool.and_eq_true, decide_eq_true_eq, Bool.not_eq_true', decide_eq_false_iff_not]
  refine ⟨⟨h.1, h.2.1⟩, ⟨h.2.2.1, h.2.2.2.1⟩, h.2.2.2.2, ?_⟩
  simp at hg ⊢
  omega
theorem law_sectors_ok {t : T} (F : Fd t) : ∃ (ss : List Sec) (t' : T), m__law_sectors [t] = .ok (.l (ss.map fun s => .s (secD s)), [some t']) ∧ Fd t' ∧ Secs ss := by
  obtain ⟨x, t1, e1, F1, hx0, hx1⟩ := draw_ok F (many := 4) (by omega) (by omega)
  have q7 : Str.ofString "WWWRGY." = S [87, 87, 87, 82, 71, 89, 46] := by rw [ofList_S]; rfl
  obtain ⟨cs, t2, e2, F2, l2, m2⟩ := drawn_lp (vs := [6]) (g := stS 6) (el := el__law_sectors_1) [87, 87, 87, 82, 71, 89, 46] (fun t y => [t, some (.s (.int x)), none, none, none, none, y]) (fun d t y => by simp) (fun t y Ft => by
    obtain ⟨z, t', e3, F3, hz0, hz1⟩ := draw_ok Ft (many := 7) (by omega) (by omega)
    obtain ⟨k, rfl⟩ : ∃ k : Nat, z = k := ⟨z.toNat, by omega⟩
    have hk : k < [87, 87, 87, 82, 71, 89, 46].length := by simp; omega
    refine ⟨[87, 87, 87, 82, 71, 89, 46][k], t', List.getElem_mem hk, F3, ?_⟩
    have hk' : ([87, 87, 87, 82, 71, 89, 46] : List Nat)[k]? = some [87, 87, 87, 82, 71, 89, 46][k] := List.getElem?_eq_getElem hk
    generalize ([87, 87, 87, 82, 71, 89, 46] : List Nat)[k] = c at hk' ⊢
    simp -implicitDefEqProofs [el__law_sectors_1_ap, e3, q7, atI_nat, hk', few]) (fun t y => by simp) 4 t1 F1 (by omega)
  obtain ⟨g0, g1, g2, g3, rfl⟩ : ∃ g0 g1 g2 g3, cs = [g0, g1, g2, g3] := by
    match cs, l2 with
    | [a, b, c, d], _ => exact ⟨a, b, c, d, rfl⟩
  have hr : rgO1 [.s (.int 4)] = some (rgD 0 4) := rg1n (n := 4) (by omega)
  have hd4 : rgD 0 ((4 : Nat) : Int) = rgD 0 4 := rfl
  rw [hd4] at e2
  simp only [List.map_cons, List.map_nil] at e2
  have m0 := m2 g0 (by simp)
  have m1 := m2 g1 (by simp)
  have m22 := m2 g2 (by simp)
  have m3 := m2 g3 (by simp)
  by_cases h1 : x < 2
  · refine ⟨[⟨0, -1, g0⟩], t2, ?_, F2, by simp, by simp, fun s hs => ?_, fun i own bef beg a b c => ?_⟩
    · simp -implicitDefEqProofs [m__law_sectors, b__law_sectors, e1, e2, hr, h1, few]
    · have : s = ⟨0, -1, g0⟩ := by simpa using hs
      subst this
      exact alone_of (by decide) m0
    · simp at b
  · by_cases h2 : x = 2
    · subst h2
      refine ⟨[⟨0, -1, g0⟩, ⟨1, 0, g1⟩, ⟨0, 1, g2⟩, ⟨-1, 0, g3⟩], t2, ?_, F2, by simp, by simp, fun s hs => ?_, fun i own bef beg a b c => ?_⟩
      · simp -implicitDefEqProofs [m__law_sectors, b__law_sectors, e1, e2, hr, few]
      · simp only [List.mem_cons, List.not_mem_nil, or_false] at hs
        rcases hs with rfl | rfl | rfl | rfl
        · exact alone_of (by decide) m0
        · exact alone_of (by decide) m1
        · exact alone_of (by decide) m22
        · exact alone_of (by decide) m3
      · match i, a, b, c with
        | 0, a, b, c => simp at a b c; subst a b c; rfl
        | 1, a, b, c => simp at a b c; subst a b c; rfl
        | 2, a, b, c => simp at a b c; subst a b c; rfl
        | n + 3, a, b, c => simp at b
    · obtain ⟨a, t3, e3, F3, ha0, ha1⟩ := draw_ok F2 (many := 8) (by omega) (by omega)
      obtain ⟨k, t4, e4, F4, hk0, hk1⟩ := draw_ok F3 (many := 7) (by omega) (by omega)
      obtain ⟨a, rfl⟩ : ∃ n : Nat, a = n := ⟨a.toNat, by omega⟩
      obtain ⟨k, rfl⟩ : ∃ n : Nat, k = n := ⟨k.toNat, by omega⟩
      have ha : a < 8 := by omega
      have hk : k < 7 := by omega
      have hf : ((a : Int) + 1 + (k : Int)).fmod 8 = (((a + 1 + k) % 8 : Nat) : Int) := by
        rw [Int.fmod_eq_emod_of_nonneg _ (by omega)]
        omega
      obtain ⟨f, hff⟩ : ∃ f, f = (a + 1 + k) % 8 := ⟨_, rfl⟩
      have hf8 : f < 8 := by omega
      rw [← hff] at hf
      have ra := rays_get ha
      have rf := rays_get hf8
      have rl : rayL.map ptD = [.tup [.int 0, .int (-1)], .tup [.int 1, .int (-1)], .tup [.int 1, .int 0], .tup [.int 1, .int 1], .tup [.int 0, .int 1], .tup [.int (-1), .int 1], .tup [.int (-1), .int 0], .tup [.int (-1), .int (-1)]] := rfl
      rw [rl] at ra rf
      have al := ray_alone ⟨a, ha⟩
      have al2 := ray_alone ⟨f, hf8⟩
      have ap := rays_apart ⟨a, ha⟩ ⟨k, hk⟩
      have sf := sRay_self ⟨a, ha⟩
      simp only at al al2 ap sf
      rw [← hff] at ap
      refine ⟨[⟨(ray a).1, (ray a).2, g0⟩, ⟨(ray f).1, (ray f).2, g1⟩], t4, ?_, F4, by simp, by simp, fun s hs => ?_, fun i own bef beg q1 q2 q3 => ?_⟩
      · simp -implicitDefEqProofs [m__law_sectors, b__law_sectors, e1, e2, e3, e4, hr, h1, h2, few, hf, atI_nat, ra, rf]
      · simp only [List.mem_cons, List.not_mem_nil, or_false] at hs
        rcases hs with rfl | rfl
        · exact alone_of al m0
        · exact alone_of al2 m1
      · match i, q1, q2, q3 with
        | 0, q1, q2, q3 =>
          simp at q1 q2 q3
          subst q1 q2 q3
          unfold fol lFrom
          rw [show ((ray f).1, (ray f).2) = ray f from rfl, show ((ray a).1, (ray a).2) = ray a from rfl, ap, sf]
          rfl
        | n + 1, q1, q2, q3 => simp at q2
end VS
namespace VS
open PySem PySem.Spec L2
open PyProof.Rows hiding St
/-! ### a signal's row that is drawn -/
theorem fits_light {w : Wd} (h : Lit w LLT 20) : fits w false = true := by
  obtain ⟨h1, h2, h3, h4⟩ := h
  unfold fits
  simp only [Bool.and_eq_true, decide_eq_true_eq, List.all_eq_true, Bool.not_eq_true', decide_eq_false_iff_not, kL]
  refine ⟨⟨h1, h2⟩, fun c hc => ?_, h3⟩
  rcases h4 c hc with z | z
  · exact decide_eq_true (show c ∈ LLT from z)
  · subst z; rfl
theorem Lit.mono {w L : Wd} {n m : Nat} (h : Lit w L n) (hn : n ≤ m) : Lit w L m := ⟨h.1, Nat.le_trans h.2.1 hn, h.2.2⟩
def hornOf (w : Wd) : Wd := w.map fun c => if c = 46 then 46 else 76
theorem fits_horn {w L : Wd} (h : Lit w L 20) : fits (hornOf w) true = true := by
  obtain ⟨h1, h2, h3, h4⟩ := h
  unfold fits hornOf
  simp only [Bool.and_eq_true, decide_eq_true_eq, List.all_eq_true, Bool.not_eq_true', decide_eq_false_iff_not, kL, List.length_map, List.mem_map]
  refine ⟨⟨h1, h2⟩, ?_, fun z => h3 ?_⟩
  · rintro c ⟨d, hd, rfl⟩
    by_cases q : d = 46 <;> simp [q]
  · apply List.eq_replicate_iff.mpr
    refine ⟨rfl, fun c hc => ?_⟩
    have z2 := List.eq_replicate_iff.mp z
    have := z2.2 (if c = 46 then 46 else 76) (List.mem_map.mpr ⟨c, hc, rfl⟩)
    by_cases q : c = 46
    · exact q
    · rw [if_neg q] at this
      omega
theorem law_signal_ok {t : T} {name : Wd} {rows ws : List Wd} {w h : Nat} (F : Fd t) (hn : isName name = true) (hnl : name.length ≤ 12) (oc : OkC rows w h) (hw : 0 < ws.length) (hwl : ws.length ≤ 100) (hws : ∀ u ∈ ws, Lit u LLT 20) :
    ∃ (r : Sig) (t' : T), m__law_signal [t, sT name, .s (.lst (rows.map sD)), .s (.lst (ws.map sD))] = .ok (.s (rowD r), [some t', none, none, none]) ∧ Fd t' ∧ r.name = name ∧ Ok r ∧ r.ss.length ≤ 6 ∧ (0 ≤ r.x ∧ r.x < w) ∧ (0 ≤ r.y ∧ r.y < h) := by
  obtain ⟨hl, ⟨h1, h2⟩, ⟨w1, w2⟩, each, len⟩ := oc
  obtain ⟨r0, rs, rfl⟩ : ∃ r0 rs, rows = r0 :: rs := by
    cases rows with
    | nil => simp at hl; omega
    | cons a b => exact ⟨a, b, rfl⟩
  have l0 : r0.length = w := len r0 List.mem_cons_self
  have hl' : rs.length + 1 = h := by simpa using hl
  obtain ⟨x, t1, e1, F1, hx0, hx1⟩ := draw_ok F (many := (w : Int)) (by omega) (by omega)
  obtain ⟨y, t2, e2, F2, hy0, hy1⟩ := draw_ok F1 (many := (h : Int)) (by omega) (by omega)
  obtain ⟨k, t3, e3, F3, hk0, hk1⟩ := draw_ok F2 (many := (ws.length : Int)) (by omega) (by omega)
  obtain ⟨k, rfl⟩ : ∃ n : Nat, k = n := ⟨k.toNat, by omega⟩
  have hk : k < ws.length := by omega
  have lu := hws ws[k] (List.getElem_mem hk)
  obtain ⟨u, hu⟩ : ∃ u, u = ws[k] := ⟨_, rfl⟩
  rw [← hu] at lu
  have gk : (ws.map sD)[k]? = some (sD u) := by rw [List.getElem?_map, List.getElem?_eq_getElem hk, ← hu]; rfl
  obtain ⟨z, t4, e4, F4, hz0, hz1⟩ := draw_ok F3 (many := 5) (by omega) (by omega)
  have hx8 : x ≤ 7 := by omega
  have hy8 : y ≤ 7 := by omega
  have e2' : m__law_draw [t1, .s (.int ((rs.length : Int) + 1))] = .ok (.s (.int y), [some t2, none]) := by
    have : ((rs.length : Int) + 1) = (h : Int) := by omega
    rw [this]; exact e2
  by_cases hz : z = 0
  · subst hz
    obtain ⟨s, t5, e5, F5, hs0, hs1⟩ := draw_ok F4 (many := 4) (by omega) (by omega)
    have fh := fits_horn lu
    have e6 : ∀ (a0 a1 a2 a3 a4 a5 a7 a8 a9 : Option T), lcL [10] (stS 10) yesT el__law_signal_1 (sg u) [] [a0, a1, a2, a3, a4, a5, some (sT u), a7, a8, a9, none] = .ok ((hornOf u).map (fun c => sT [c]), [a0, a1, a2, a3, a4, a5, some (sT u), a7, a8, a9, none]) := by
      intro a0 a1 a2 a3 a4 a5 a7 a8 a9
      have hf : ∀ d ∈ sg u, ∃ e1 e2, stS 10 (.s d) [a0, a1, a2, a3, a4, a5, some (sT u), a7, a8, a9, none] = some e1 ∧ el__law_signal_1 e1 = .ok ((fun d => match d with | .str s => sT (hornOf s.cps.toList) | _ => .s .non) d, e2) ∧ wipeE e2 [10] = [a0, a1, a2, a3, a4, a5, some (sT u), a7, a8, a9, none] := by
        intro d hd
        obtain ⟨c, hc, rfl⟩ := List.mem_map.mp hd
        refine ⟨[a0, a1, a2, a3, a4, a5, some (sT u), a7, a8, a9, some (sT [c])], [a0, a1, a2, a3, a4, a5, some (sT u), a7, a8, a9, some (sT [c])], by simp, ?_, by simp⟩
        by_cases q : c = 46
        · simp -implicitDefEqProofs [el__law_signal_1_ap, q_dot, q_L, hornOf, q]
        · simp -implicitDefEqProofs [el__law_signal_1_ap, q_dot, q_L, hornOf, q]
      have := lc_map hf [] (by simp; have := lu.2.1; omega)
      rw [this]
      have hm : (sg u).map (fun d => match d with | .str s => sT (hornOf s.cps.toList) | _ => T.s .non) = (hornOf u).map (fun c => sT [c]) := by
        unfold hornOf
        rw [List.map_map, List.map_map]
        apply List.map_congr_left
        intro c _
        simp
      rw [hm]; rfl
    have lh : (hornOf u).length = u.length := by simp [hornOf]
    have hj := join_chars (hornOf u) (by rw [lh]; have := lu.2.1; omega)
    refine ⟨⟨name, true, x, y, hornOf u, 1 + s, 0, []⟩, t5, ?_, F5, rfl, ⟨hn, hnl, ⟨hx0, hx8⟩, ⟨hy0, hy8⟩, by rw [lh]; have := lu.2.1; omega, fh, by dsimp only; omega, by simp, by simp⟩, by simp, ⟨hx0, by omega⟩, ⟨hy0, by omega⟩⟩
    have e4' := e4
    simp -implicitDefEqProofs [m__law_signal, b__law_signal, e1, e2', e3, e4, e5, e6, hj, l0, few, show w ≤ 1000000 by omega, atI_nat, gk, kS, -List.getElem?_map]
  · obtain ⟨a, t5, e5, F5, ha0, ha1⟩ := draw_ok F4 (many := 4) (by omega) (by omega)
    obtain ⟨b, t6, e6, F6, hb0, hb1⟩ := draw_ok F5 (many := 4) (by omega) (by omega)
    obtain ⟨ss, t7, e7, F7, hss⟩ := law_sectors_ok F6
    obtain ⟨a, rfl⟩ : ∃ n : Nat, a = n := ⟨a.toNat, by omega⟩
    obtain ⟨b, rfl⟩ : ∃ n : Nat, b = n := ⟨b.toNat, by omega⟩
    obtain ⟨sa, ga, sa1, sa2⟩ : ∃ s : Int, ([.int 1, .int 2, .int 10, .int 40] : List D)[a]? = some (.int s) ∧ 1 ≤ s ∧ s ≤ 40 := by
      match a, ha1 with
      | 0, _ => exact ⟨1, rfl, by omega, by omega⟩
      | 1, _ => exact ⟨2, rfl, by omega, by omega⟩
      | 2, _ => exact ⟨10, rfl, by omega, by omega⟩
      | 3, _ => exact ⟨40, rfl, by omega, by omega⟩
      | n + 4, h => omega
    obtain ⟨sb, gb, sb1, sb2⟩ : ∃ s : Int, ([.int 0, .int 1, .int 3, .int 20] : List D)[b]? = some (.int s) ∧ 0 ≤ s ∧ s ≤ 20 := by
      match b, hb1 with
      | 0, _ => exact ⟨0, rfl, by omega, by omega⟩
      | 1, _ => exact ⟨1, rfl, by omega, by omega⟩
      | 2, _ => exact ⟨3, rfl, by omega, by omega⟩
      | 3, _ => exact ⟨20, rfl, by omega, by omega⟩
      | n + 4, h => omega
    have es : ers (ss.map fun s => T.s (secD s)) = ss.map secD := by
      have := ers_map (ss.map secD)
      rw [List.map_map] at this
      exact this
    refine ⟨⟨name, false, x, y, u, sa, sb, ss⟩, t7, ?_, F7, rfl, ⟨hn, hnl, ⟨hx0, hx8⟩, ⟨hy0, hy8⟩, by have := lu.2.1; dsimp only; omega, fits_light lu, ⟨sa1, sa2⟩, ⟨sb1, by simpa using sb2⟩, by simpa using hss⟩, hss.2.1, ⟨hx0, by omega⟩, ⟨hy0, by omega⟩⟩
    simp -implicitDefEqProofs [m__law_signal, b__law_signal, e1, e2', e3, e4, e5, e6, e7, hz, l0, few, show w ≤ 1000000 by omega, atI_nat, gk, ga, gb, es, kS, -List.getElem?_map, -List.map_map]
end VS
namespace VS
open PySem PySem.Spec L2
open PyProof.Rows hiding St
/-! ### equal data are equal -/
mutual
def eqOk : Nat → D → Bool
  | _, .non => true
  | _, .bl _ => true
  | _, .int _ => true
  | _, .str x => PyData.strOk x
  | n + 1, .lst ds => eqOks n ds
  | n + 1, .tup ds => eqOks n ds
  | _, _ => false
def eqOks : Nat → List D → Bool
  | _, [] => true
  | n, d :: ds => eqOk n d && eqOks n ds
end
mutual
theorem eqOk_py : ∀ (n : Nat) (d : D), eqOk n d = true → ∃ p, toPy d = some p ∧ p.canLay0 = true ∧ p.depth ≤ n
  | n, .non, _ => ⟨.none, rfl, by simp [PyData.canLay0], by simp [PyData.depth]⟩
  | n, .bl b, _ => ⟨.bool b, rfl, by simp [PyData.canLay0], by simp [PyData.depth]⟩
  | n, .int i, _ => ⟨.int i, rfl, by simp [PyData.canLay0], by simp [PyData.depth]⟩
  | n, .str x, h => ⟨.str x, rfl, by simpa [PyData.canLay0, eqOk] using h, by simp [PyData.depth]⟩
  | n + 1, .lst ds, h => by
    obtain ⟨ps, h1, h2, h3⟩ := eqOks_py n ds (by simpa [eqOk] using h)
    exact ⟨.list ps, by simp [toPy, h1], by simpa [PyData.canLay0] using h2, by simp [PyData.depth]; exact h3⟩
  | n + 1, .tup ds, h => by
    obtain ⟨ps, h1, h2, h3⟩ := eqOks_py n ds (by simpa [eqOk] using h)
    exact ⟨.tuple ps, by simp [toPy, h1], by simpa [PyData.canLay0] using h2, by simp [PyData.depth]; exact h3⟩
  | 0, .lst ds, h => by simp [eqOk] at h
  | 0, .tup ds, h => by simp [eqOk] at h
  | n, .scr _, h => by simp [eqOk] at h
  | n, .ty _, h => by simp [eqOk] at h
  | n, .dk _, h => by simp [eqOk] at h
  | n, .ob _ _, h => by simp [eqOk] at h
theorem eqOks_py : ∀ (n : Nat) (ds : List D), eqOks n ds = true → ∃ ps, toPys ds = some ps ∧ PyData.canLayAll0 ps = true ∧ PyData.depthAll ps ≤ n
  | n, [], _ => ⟨[], rfl, by simp [PyData.canLayAll0], by simp [PyData.depthAll]⟩
  | n, d :: ds, h => by
    simp only [eqOks, Bool.and_eq_true] at h
    obtain ⟨p, h1, h2, h3⟩ := eqOk_py n d h.1
    obtain ⟨ps, h4, h5, h6⟩ := eqOks_py n ds h.2
    exact ⟨p :: ps, by simp [toPys, h1, h4], by simp [PyData.canLayAll0, h2, h5], by simp only [PyData.depthAll]; omega⟩
end
theorem eqG_refl {d : D} (h : eqOk 60 d = true) : eqG d d = some true := by
  obtain ⟨p, h1, h2, h3⟩ := eqOk_py 60 d h
  have sh : SeqAt.shaped p = true := by
    unfold SeqAt.shaped
    rw [Bool.and_eq_true]
    exact ⟨h2, decide_eq_true (by omega)⟩
  unfold eqG
  simp only [h1, sh, Bool.and_self, if_true]
  rw [SeqAt.eqv_refl p h2]
theorem pEqB_refl {x y : T} (h : eqOk 60 (er x) = true) (e : er x = er y) : pEqB x y = some true := by
  unfold pEqB
  split
  · rename_i i j; simp at e; simp [e]
  · rename_i i j; simp at e; simp [e]
  · rename_i i j; simp at e; simp [e]
  · rw [← e]; exact eqG_refl h
theorem pNe_refl {x y : T} (h : eqOk 60 (er x) = true) (e : er x = er y) : pNe x y = some (.s (.bl false)) := by
  unfold pNe; rw [pEqB_refl h e]; rfl
theorem pEq_refl {x y : T} (h : eqOk 60 (er x) = true) (e : er x = er y) : pEq x y = some (.s (.bl true)) := by
  unfold pEq; rw [pEqB_refl h e]; rfl
theorem eqOks_of {n : Nat} : ∀ {ds : List D}, (∀ d ∈ ds, eqOk n d = true) → eqOks n ds = true
  | [], _ => by simp [eqOks]
  | d :: ds, h => by
    simp only [eqOks, Bool.and_eq_true]
    exact ⟨h d List.mem_cons_self, eqOks_of fun x hx => h x (List.mem_cons_of_mem _ hx)⟩
end VS
namespace VS
open PySem PySem.Spec L2
open PyProof.Rows hiding St
theorem strOk_S {w : Wd} (h : ∀ c ∈ w, c < 1000) : PyData.strOk (S w) = true := by
  unfold PyData.strOk
  simp only [S_cps, List.all_toArray, List.all_eq_true, decide_eq_true_eq]
  intro c hc
  have := h c hc
  omega
theorem small_ABC {w : Wd} (h : ∀ c ∈ w, c ∈ ABC) : ∀ c ∈ w, c < 1000 := fun c hc => by
  have := h c hc
  simp at this
  omega
theorem small_fits {w : Wd} {b : Bool} (h : fits w b = true) : ∀ c ∈ w, c < 1000 := fun c hc => by
  unfold fits at h
  simp only [Bool.and_eq_true, decide_eq_true_eq, List.all_eq_true] at h
  have := h.2.1 c hc
  cases b <;> simp [kL] at this <;> omega
theorem small_name {w : Wd} (h : isName w = true) : ∀ c ∈ w, c < 1000 := by
  unfold isName at h
  simp only [Bool.and_eq_true, decide_eq_true_eq, List.all_eq_true] at h
  exact small_ABC h.2
/-! ### names -/
def KLQ : Wd := [107, 108, 113, 109, 120, 97, 98, 122]
def nmW (cs : Wd) (a k : Nat) : Wd := cs.take a ++ (KLQ.getD (k % 8) 0 :: cs.drop a)
theorem klq_get {k : Nat} (h : k < 8) : KLQ[k]? = some (KLQ.getD k 0) := by
  rw [List.getD_eq_getElem?_getD, List.getElem?_eq_getElem (show k < KLQ.length from h)]
  rfl
theorem klq_inj : ∀ a b : Fin 8, KLQ.getD a.val 0 = KLQ.getD b.val 0 → a = b := by decide +kernel
theorem klq_abc : ∀ a : Fin 8, KLQ.getD a.val 0 ∈ ABC := by decide +kernel
theorem law_names_ok {t : T} {many : Nat} (F : Fd t) (hm : many ≤ 8) : ∃ (nms : List Wd) (t' : T), m__law_names [t, .s (.int many)] = .ok (.l (nms.map sT), [some t', none]) ∧ Fd t' ∧ nms.length = many ∧ nms.Nodup ∧ ∀ n ∈ nms, isName n = true ∧ n.length ≤ 12 := by
  obtain ⟨n, t1, e1, F1, hn0, hn1⟩ := draw_ok F (many := 5) (by omega) (by omega)
  obtain ⟨n, rfl⟩ : ∃ k : Nat, n = k := ⟨n.toNat, by omega⟩
  have hn : n < 5 := by omega
  obtain ⟨cs, t2, e2, F2, l2, m2⟩ := drawn_lp (vs := [5]) (g := stS 5) (el := el__law_names_1) ABC (fun t y => [t, some (.s (.int (many : Int))), none, none, none, y]) (fun d t y => by simp) (fun t y Ft => by
    obtain ⟨z, t', e3, F3, hz0, hz1⟩ := draw_ok Ft (many := 26) (by omega) (by omega)
    obtain ⟨k, rfl⟩ : ∃ k : Nat, z = k := ⟨z.toNat, by omega⟩
    have hk : k < ABC.length := by simp; omega
    refine ⟨ABC[k], t', List.getElem_mem hk, F3, ?_⟩
    have hk' : ABC[k]? = some ABC[k] := List.getElem?_eq_getElem hk
    generalize ABC[k] = c at hk' ⊢
    simp -implicitDefEqProofs [el__law_names_1_ap, e3, q_ABC, atI_nat, hk', few]) (fun t y => by simp) n t1 F1 (by omega)
  have hj := join_chars cs (by omega)
  obtain ⟨a, t3, e3, F3, ha0, ha1⟩ := draw_ok F2 (many := (cs.length : Int) + 1) (by omega) (by omega)
  obtain ⟨a, rfl⟩ : ∃ k : Nat, a = k := ⟨a.toNat, by omega⟩
  obtain ⟨u, t4, e4, F4, hu0, hu1⟩ := draw_ok F3 (many := 8) (by omega) (by omega)
  obtain ⟨u, rfl⟩ : ∃ k : Nat, u = k := ⟨u.toNat, by omega⟩
  have q8 : Str.ofString "klqmxabz" = S KLQ := by rw [ofList_S]; rfl
  have e5 := lc_map (vs := [5]) (g := stS 5) (el := el__law_names_2) (E := [some t4, some (.s (.int (many : Int))), some (sT cs), some (.s (.int (a : Int))), some (.s (.int (u : Int))), none]) (f := fun d => match d with | .int i => sT (nmW cs a (i.toNat + u)) | _ => .s .non) (ds := rgD 0 (many : Int)) (fun d hd => by
    obtain ⟨i, hi⟩ := List.getElem?_of_mem hd
    obtain ⟨hlt, rfl⟩ := rgD_some hi
    refine ⟨[some t4, some (.s (.int (many : Int))), some (sT cs), some (.s (.int (a : Int))), some (.s (.int (u : Int))), some (.s (.int (i : Int)))], [some t4, some (.s (.int (many : Int))), some (sT cs), some (.s (.int (a : Int))), some (.s (.int (u : Int))), some (.s (.int (i : Int)))], by simp, ?_, by simp⟩
    have hf : ((i : Int) + (u : Int)).fmod 8 = (((i + u) % 8 : Nat) : Int) := by
      rw [Int.fmod_eq_emod_of_nonneg _ (by omega)]
      omega
    have hk := klq_get (k := (i + u) % 8) (Nat.mod_lt _ (by omega))
    have s1 := S_upto cs a
    have s2 := S_from cs a
    have hc8 : KLQ.length ≤ 1000000 := by decide
    simp -implicitDefEqProofs only [Int.toNat_natCast, nmW]
    generalize KLQ.getD ((i + u) % 8) 0 = c at hk ⊢
    generalize hL : KLQ = L at hk q8 hc8 ⊢
    have hl1 : (cs.take a).length ≤ 10 := by simp; omega
    have hl2 : (cs.drop a).length ≤ 10 := by simp; omega
    generalize cs.take a = A at s1 hl1 ⊢
    generalize cs.drop a = B at s2 hl2 ⊢
    simp -implicitDefEqProofs [el__law_names_2_ap, few, show cs.length ≤ 1000000 by omega, s1, s2, hf, atI_nat, hk, q8, hc8, show A.length + 1 ≤ 1000000 by omega, show A.length + 1 + B.length ≤ 1000000 by omega, -Int.natCast_emod, -Int.natCast_add]) [] (by simp; omega)
  have e6 : (rgD 0 (many : Int)).map (fun d => match d with | .int i => sT (nmW cs a (i.toNat + u)) | _ => T.s .non) = ((List.range many).map fun i => nmW cs a (i + u)).map sT := by
    unfold rgD
    rw [List.map_map, List.map_map, Int.sub_zero, Int.toNat_natCast]
    apply List.map_congr_left
    intro i _
    simp
  rw [e6] at e5
  simp only [List.nil_append] at e5
  refine ⟨(List.range many).map fun i => nmW cs a (i + u), t4, ?_, F4, by simp, ?_, fun nm hnm => ?_⟩
  · have hr1 := rg1n (n := n) (by omega)
    have hr2 := rg1n (n := many) (by omega)
    generalize ((List.range many).map fun i => nmW cs a (i + u)).map sT = L at e5 ⊢
    simp -implicitDefEqProofs [m__law_names, b__law_names, e1, e2, e3, e4, e5, hj, hr1, hr2, few, show cs.length ≤ 1000000 by omega]
  · apply List.pairwise_map.mpr
    refine List.Pairwise.imp_of_mem ?_ (List.nodup_range (n := many))
    intro i j hi hj hne e
    have hi' : i < 8 := by have := List.mem_range.mp hi; omega
    have hj' : j < 8 := by have := List.mem_range.mp hj; omega
    unfold nmW at e
    have e2 := (List.append_cancel_left e)
    have e3 := (List.cons.inj e2).1
    have := klq_inj ⟨(i + u) % 8, Nat.mod_lt _ (by omega)⟩ ⟨(j + u) % 8, Nat.mod_lt _ (by omega)⟩ e3
    have := congrArg Fin.val this
    simp only at this
    omega
  · obtain ⟨i, hi, rfl⟩ := List.mem_map.mp hnm
    have hl : (nmW cs a (i + u)).length = cs.length + 1 := by
      unfold nmW
      simp
      omega
    refine ⟨?_, by rw [hl]; omega⟩
    unfold isName
    simp only [Bool.and_eq_true, decide_eq_true_eq, List.all_eq_true]
    refine ⟨by rw [hl]; omega, fun c hc => ?_⟩
    unfold nmW at hc
    rcases List.mem_append.mp hc with z | z
    · exact m2 c (List.mem_of_mem_take z)
    · rcases List.mem_cons.mp z with rfl | z
      · exact klq_abc ⟨(i + u) % 8, Nat.mod_lt _ (by omega)⟩
      · exact m2 c (List.mem_of_mem_drop z)
/-! ### spares, and what is due -/
structure Spr where
  w : Wd
  p : Int
abbrev spD (s : Spr) : D := .tup [sD s.w, .int s.p]
def bad (s : Spr) : Bool := (!fits s.w false && !fits s.w true) || !decide (1 ≤ s.p ∧ s.p ≤ 99)
/-- the first bad one -/
def fstBad : List Spr → Option Nat
  | [] => none
  | s :: r => if bad s then some 0 else (fstBad r).map (· + 1)
def dueS (l : List Spr) : Option Int := if l.length > 3 then some (-1) else (fstBad l).map fun n => (n : Int)
def oD : Option Int → D
  | none => .non
  | some i => .int i
theorem fstBad_none {l : List Spr} (h : fstBad l = none) : ∀ s ∈ l, bad s = false := by
  induction l with
  | nil => simp
  | cons s r ih =>
    unfold fstBad at h
    by_cases b : bad s = true
    · rw [if_pos b] at h; cases h
    · rw [if_neg b] at h
      intro x hx
      rcases List.mem_cons.mp hx with rfl | hx
      · simpa using b
      · exact ih (by cases q : fstBad r with | none => rfl | some n => rw [q] at h; cases h) x hx
theorem fstBad_some : ∀ {l : List Spr} {n : Nat}, fstBad l = some n → (∃ s, l[n]? = some s ∧ bad s = true) ∧ ∀ i s, i < n → l[i]? = some s → bad s = false
  | [], n, h => by cases h
  | s :: r, n, h => by
    unfold fstBad at h
    by_cases b : bad s = true
    · rw [if_pos b] at h
      cases h
      exact ⟨⟨s, rfl, b⟩, fun i s hi => absurd hi (by omega)⟩
    · rw [if_neg b] at h
      cases q : fstBad r with
      | none => rw [q] at h; cases h
      | some m =>
        rw [q] at h
        have e : m + 1 = n := by simpa using h
        subst e
        obtain ⟨⟨s', h1, h2⟩, h3⟩ := fstBad_some q
        refine ⟨⟨s', by simpa using h1, h2⟩, fun i x hi hx => ?_⟩
        cases i with
        | zero =>
          have : s = x := by simpa using hx
          subst this
          simpa using b
        | succ i => exact h3 i x (by omega) (by simpa using hx)
/-- spares with words that are not long -/
def SpOk (l : List Spr) : Prop := l.length ≤ 1000 ∧ ∀ s ∈ l, s.w.length ≤ 1000 ∧ ∀ c ∈ s.w, c < 1000
end VS
namespace VS
open PySem PySem.Spec L2
open PyProof.Rows hiding St
/-! ### what is due, and what the program refuses -/
theorem law_fits_L {w : Wd} (h : w.length ≤ 1000) : m__law_fits [sT w, .s (.str "light")] = .ok (.s (.bl (fits w false)), [none, none]) := law_fits_ok (horn := false) h
theorem law_fits_H {w : Wd} (h : w.length ≤ 1000) : m__law_fits [sT w, .s (.str "horn")] = .ok (.s (.bl (fits w true)), [none, none]) := law_fits_ok (horn := true) h
theorem fits_kind_L {w : Wd} (h : w.length ≤ 1000) : m_fits_kind [sT w, .s (.str "light")] = .ok (.s (.bl (fits w false)), [none, none]) := fits_kind_ok (horn := false) h
theorem fits_kind_H {w : Wd} (h : w.length ≤ 1000) : m_fits_kind [sT w, .s (.str "horn")] = .ok (.s (.bl (fits w true)), [none, none]) := fits_kind_ok (horn := true) h
theorem bad_eq (s : Spr) : bad s = ((!fits s.w false && !fits s.w true) || !(decide (1 ≤ s.p) && decide (s.p ≤ 99))) := by
  unfold bad
  congr 2
  rw [Bool.eq_iff_iff]; simp
theorem due_turn {l : List D} {i : Nat} {s : Spr} (hs : l[i]? = some (spD s)) (hw : s.w.length ≤ 1000) (a b : Option T) :
    bo__law_due_1 [some (.s (.lst l)), some (.s (.int (i : Int))), a, b] = if bad s then .ok (.rt (.s (.int (i : Int))), [some (.s (.lst l)), none, some (sT s.w), some (.s (.int s.p))]) else .ok (.nx, [some (.s (.lst l)), some (.s (.int (i : Int))), some (sT s.w), some (.s (.int s.p))]) := by
  have e1 := law_fits_L hw
  have e2 := law_fits_H hw
  rw [bad_eq]
  cases h1 : fits s.w false <;> cases h2 : fits s.w true <;> rw [h1] at e1 <;> rw [h2] at e2 <;> by_cases p1 : 1 ≤ s.p <;> by_cases p2 : s.p ≤ 99 <;>
    simp -implicitDefEqProofs [bo__law_due_1_ap, atI_nat, hs, e1, e2, p1, p2]
theorem law_due_ok {l : List Spr} (h : SpOk l) : m__law_due [.s (.lst (l.map spD))] = .ok (.s (oD (dueS l)), [none]) := by
  obtain ⟨hl, hw⟩ := h
  unfold dueS
  by_cases h3 : l.length > 3
  · have : (3 : Int) < l.length := by omega
    simp -implicitDefEqProofs [m__law_due, b__law_due, h3, this, oD]
  · have h3' : ¬ (3 : Int) < l.length := by omega
    have hr := rg1n (n := l.length) (by omega)
    have get : ∀ i s, l[i]? = some s → (l.map spD)[i]? = some (spD s) := fun i s q => by rw [List.getElem?_map, q]; rfl
    rw [if_neg h3]
    have step : ∀ i (hi : i < l.length), bad l[i] = false → ∀ j a b, ∃ e1 e2, stS 1 (.s (.int (i : Int))) [some (.s (.lst (l.map spD))), j, a, b] = some e1 ∧ bo__law_due_1 e1 = .ok (.nx, e2) ∧ ∃ j a b, e2 = [some (.s (.lst (l.map spD))), j, a, b] := fun i hi hb j a b =>
      ⟨[some (.s (.lst (l.map spD))), some (.s (.int (i : Int))), a, b], [some (.s (.lst (l.map spD))), some (.s (.int (i : Int))), some (sT l[i].w), some (.s (.int l[i].p))], by simp, by rw [due_turn (get i _ (List.getElem?_eq_getElem hi)) (hw _ (List.getElem_mem hi)).1, hb, if_neg (by simp)], _, _, _, rfl⟩
    cases q : fstBad l with
    | none =>
      have ab := fstBad_none q
      obtain ⟨e', f1, i, a, b, rfl⟩ := for_inv (g := stS 1) (body := bo__law_due_1) (ds := rgD 0 (l.length : Int)) (I := fun _ e => ∃ i a b, e = [some (.s (.lst (l.map spD))), i, a, b]) (fun i d e hd hI => by
        obtain ⟨j, a, b, rfl⟩ := hI
        obtain ⟨hi, rfl⟩ := rgD_some hd
        exact step i hi (ab _ (List.getElem_mem hi)) j a b) [some (.s (.lst (l.map spD))), none, none, none] ⟨_, _, _, rfl⟩
      have hr' : rgO1 [.s (.int ((l.map spD).length : Int))] = some (rgD 0 (l.length : Int)) := by rw [List.length_map]; exact hr
      have h3'' : ¬ (3 : Int) < (l.map spD).length := by rw [List.length_map]; exact h3'
      generalize l.map spD = L at f1 hr' h3'' ⊢
      simp -implicitDefEqProofs [m__law_due, b__law_due, h3'', hr', f1, oD]
    | some n =>
      obtain ⟨⟨s, hs, hb⟩, ab⟩ := fstBad_some q
      have hn := (List.getElem?_eq_some_iff.mp hs).1
      obtain ⟨z, f1, a, b, rfl⟩ := for_rt (g := stS 1) (body := bo__law_due_1) (t := .s (.int (n : Int))) (ds := rgD 0 (l.length : Int)) (I := fun _ e => ∃ i a b, e = [some (.s (.lst (l.map spD))), i, a, b]) (J := fun e => ∃ a b, e = [some (.s (.lst (l.map spD))), none, a, b]) n (fun i d e hi hd hI => by
        obtain ⟨j, a, b, rfl⟩ := hI
        obtain ⟨hi2, rfl⟩ := rgD_some hd
        exact step i hi2 (ab i _ hi (List.getElem?_eq_getElem hi2)) j a b) (by simpa using hn) (fun d e hd hI => by
        obtain ⟨j, a, b, rfl⟩ := hI
        obtain ⟨hi2, rfl⟩ := rgD_some hd
        exact ⟨[some (.s (.lst (l.map spD))), some (.s (.int (n : Int))), a, b], _, by simp, by rw [due_turn (get n _ hs) (hw _ (List.mem_of_getElem? hs)).1, hb, if_pos rfl], _, _, rfl⟩) [some (.s (.lst (l.map spD))), none, none, none] ⟨_, _, _, rfl⟩
      have hr' : rgO1 [.s (.int ((l.map spD).length : Int))] = some (rgD 0 (l.length : Int)) := by rw [List.length_map]; exact hr
      have h3'' : ¬ (3 : Int) < (l.map spD).length := by rw [List.length_map]; exact h3'
      generalize l.map spD = L at f1 hr' h3'' ⊢
      simp -implicitDefEqProofs [m__law_due, b__law_due, h3'', hr', f1, oD]
theorem chk_turn {l : List D} {i : Nat} {s : Spr} (hw : s.w.length ≤ 1000) : bo_check_spares_1 [some (.s (.lst l)), some (.s (.int (i : Int))), some (sT s.w), some (.s (.int s.p))] =
    if bad s then .ex "BadSpare" [("at", .int (i : Int))] [some (.s (.lst l)), some (.s (.int (i : Int))), some (sT s.w), some (.s (.int s.p))] else .ok (.nx, [some (.s (.lst l)), some (.s (.int (i : Int))), some (sT s.w), some (.s (.int s.p))]) := by
  have e1 := fits_kind_L hw
  have e2 := fits_kind_H hw
  rw [bad_eq]
  cases h1 : fits s.w false <;> cases h2 : fits s.w true <;> rw [h1] at e1 <;> rw [h2] at e2 <;> by_cases p1 : 1 ≤ s.p <;> by_cases p2 : s.p ≤ 99 <;>
    simp -implicitDefEqProofs [bo_check_spares_1_ap, e1, e2, p1, p2]
theorem check_spares_ok {l : List Spr} (h : SpOk l) : m_check_spares [.s (.lst (l.map spD))] = match dueS l with
    | none => .ok (.s .non, [none])
    | some i => .ex "BadSpare" [("at", .int i)] [none] := by
  obtain ⟨hl, hw⟩ := h
  unfold dueS
  by_cases h3 : l.length > 3
  · have : (3 : Int) < l.length := by omega
    simp -implicitDefEqProofs [m_check_spares, b_check_spares, h3, this]
  · have h3' : ¬ (3 : Int) < (l.map spD).length := by rw [List.length_map]; omega
    rw [if_neg h3]
    have step : ∀ i (hi : i < l.length), ∀ j a b, gtup 2 (gcons (stS 1) (gcons (gtup 2 (gcons (stS 2) (gcons (stS 3) gnil))) gnil)) (.s (.tup [.int (i : Int), spD l[i]])) [some (.s (.lst (l.map spD))), j, a, b] = some [some (.s (.lst (l.map spD))), some (.s (.int (i : Int))), some (sT l[i].w), some (.s (.int l[i].p))] := fun i hi j a b => by simp
    cases q : fstBad l with
    | none =>
      have ab := fstBad_none q
      obtain ⟨e', f1, i, a, b, rfl⟩ := for_inv (g := gtup 2 (gcons (stS 1) (gcons (gtup 2 (gcons (stS 2) (gcons (stS 3) gnil))) gnil))) (body := bo_check_spares_1) (ds := enD (l.map spD)) (I := fun _ e => ∃ i a b, e = [some (.s (.lst (l.map spD))), i, a, b]) (fun i d e hd hI => by
        obtain ⟨j, a, b, rfl⟩ := hI
        obtain ⟨x, hx, rfl⟩ := enD_some hd
        obtain ⟨s, hs, rfl⟩ := map_get hx
        have hi := (List.getElem?_eq_some_iff.mp hs).1
        have he := (List.getElem?_eq_some_iff.mp hs).2
        have st := step i hi j a b
        rw [he] at st
        exact ⟨_, _, st, by rw [chk_turn (hw _ (List.mem_of_getElem? hs)).1, ab _ (List.mem_of_getElem? hs), if_neg (by simp)], _, _, _, rfl⟩) [some (.s (.lst (l.map spD))), none, none, none] ⟨_, _, _, rfl⟩
      generalize l.map spD = L at f1 h3' ⊢
      simp -implicitDefEqProofs [m_check_spares, b_check_spares, h3', f1]
    | some n =>
      obtain ⟨⟨s, hs, hb⟩, ab⟩ := fstBad_some q
      have hn := (List.getElem?_eq_some_iff.mp hs).1
      obtain ⟨z, f1, hz⟩ : ∃ z, forL (gtup 2 (gcons (stS 1) (gcons (gtup 2 (gcons (stS 2) (gcons (stS 3) gnil))) gnil))) bo_check_spares_1 (enD (l.map spD)) [some (.s (.lst (l.map spD))), none, none, none] = .ex "BadSpare" [("at", .int (n : Int))] z ∧ outs [false] z = [none] := by
        obtain ⟨z, f1⟩ := for_ex (g := gtup 2 (gcons (stS 1) (gcons (gtup 2 (gcons (stS 2) (gcons (stS 3) gnil))) gnil))) (body := bo_check_spares_1) (c := "BadSpare") (fs := [("at", .int (n : Int))]) (z := []) (ds := enD (l.map spD)) (I := fun _ e => ∃ i a b, e = [some (.s (.lst (l.map spD))), i, a, b]) n (fun i d e hi2 hd hI => by
          obtain ⟨j, a, b, rfl⟩ := hI
          obtain ⟨x, hx, rfl⟩ := enD_some hd
          obtain ⟨s, hs, rfl⟩ := map_get hx
          have hi := (List.getElem?_eq_some_iff.mp hs).1
          have he := (List.getElem?_eq_some_iff.mp hs).2
          have st := step i hi j a b
          rw [he] at st
          exact ⟨_, _, st, by rw [chk_turn (hw _ (List.mem_of_getElem? hs)).1, ab i _ hi2 hs, if_neg (by simp)], _, _, _, rfl⟩) (by simpa using hn) (fun d e hd hI => by
          obtain ⟨j, a, b, rfl⟩ := hI
          obtain ⟨x, hx, rfl⟩ := enD_some hd
          obtain ⟨s', hs', rfl⟩ := map_get hx
          have : s' = s := by rw [hs] at hs'; exact (Option.some.inj hs').symm
          subst this
          have he := (List.getElem?_eq_some_iff.mp hs').2
          have st := step n hn j a b
          rw [he] at st
          exact ⟨_, _, st, by rw [chk_turn (hw _ (List.mem_of_getElem? hs')).1, hb, if_pos rfl]⟩) [some (.s (.lst (l.map spD))), none, none, none] ⟨_, _, _, rfl⟩
        refine ⟨z, f1, ?_⟩
        cases z <;> rfl
      generalize l.map spD = L at f1 h3' ⊢
      simp -implicitDefEqProofs [m_check_spares, b_check_spares, h3', f1, hz]
theorem whole_int (i : Int) : m__law_is_whole [.s (.int i)] = .ok (.s (.bl true), [none]) := by
  simp -implicitDefEqProofs [m__law_is_whole, b__law_is_whole, pIsi, tyN, isTy, tyK]
theorem law_refused_ok {l : List Spr} (h : SpOk l) : m__law_refused [.s (.lst (l.map spD))] = .ok (.s (oD (dueS l)), [none]) := by
  have e1 := check_spares_ok h
  cases q : dueS l with
  | none =>
    rw [q] at e1
    generalize l.map spD = L at e1 ⊢
    simp -implicitDefEqProofs [m__law_refused, b__law_refused, e1, oD]
  | some i =>
    rw [q] at e1
    have e2 := whole_int i
    generalize l.map spD = L at e1 ⊢
    simp -implicitDefEqProofs [m__law_refused, b__law_refused, e1, oD, hnS_cons, subX, fldX, xtb, e2]
end VS
namespace VS
open PySem PySem.Spec L2
open PyProof.Rows hiding St
/-! ### spares that are drawn -/
theorem Lit.sub {w L M : Wd} {n : Nat} (h : Lit w L n) (s : ∀ c ∈ L, c ∈ M) : Lit w M n := ⟨h.1, h.2.1, h.2.2.1, fun c hc => (h.2.2.2 c hc).imp (s c) id⟩
def RhOk (good : Bool) (u : Wd) : Prop := u.length ≤ 1000 ∧ (∀ c ∈ u, c < 1000) ∧ (good = true → fits u false = true ∨ fits u true = true)
theorem setL (cs : Wd) (j c : Nat) : (cs.map fun x => sT [x]).set j (sT [c]) = (cs.set j c).map fun x => sT [x] := by
  rw [List.map_set]
theorem rg_fits {cs : Wd} {n j : Nat} (hl : cs.length = n) (h1 : 1 ≤ n) (h2 : n ≤ 20) (hj : j < n) (hm : ∀ c ∈ cs, c ∈ ([76, 46] : List Nat)) : fits (cs.set j 76) true = true := by
  unfold fits
  simp only [Bool.and_eq_true, decide_eq_true_eq, List.all_eq_true, Bool.not_eq_true', decide_eq_false_iff_not, List.length_set]
  refine ⟨⟨by omega, by omega⟩, fun c hc => ?_, fun z => ?_⟩
  · show c ∈ HRN
    rcases List.mem_or_eq_of_mem_set hc with q | q
    · have := hm c q
      simp at this ⊢
      omega
    · subst q; simp
  · have e := List.eq_replicate_iff.mp z
    have := e.2 76 (List.mem_iff_getElem.mpr ⟨j, by simp; omega, by simp⟩)
    omega
theorem word_parts (good : Bool) {t : T} (F : Fd t) : ∃ (a b : Nat) (v : Wd) (k : Nat) (u : Wd) (t1 t2 t3 : T), m__law_draw [t, .s (.int 2)] = .ok (.s (.int (a : Int)), [some t1, none]) ∧ m__law_draw [t1, .s (.int 2)] = .ok (.s (.int (b : Int)), [some t2, none]) ∧
    ([.str ".WRGY", .str "W."] : List D)[a]? = some (sD v) ∧ ([.int 4, .int 20] : List D)[b]? = some (.int (k : Int)) ∧ m__law_word [t2, sT v, .s (.int (k : Int))] = .ok (sT u, [some t3, none, none]) ∧ Fd t3 ∧ RhOk good u := by
  obtain ⟨a, t1, e1, F1, ha0, ha1⟩ := draw_ok F (many := 2) (by omega) (by omega)
  obtain ⟨b, t2, e2, F2, hb0, hb1⟩ := draw_ok F1 (many := 2) (by omega) (by omega)
  obtain ⟨a, rfl⟩ : ∃ k : Nat, a = k := ⟨a.toNat, by omega⟩
  obtain ⟨b, rfl⟩ : ∃ k : Nat, b = k := ⟨b.toNat, by omega⟩
  have q1 : Str.ofString "W." = S [87, 46] := by rw [ofList_S]; rfl
  obtain ⟨v, gv, v1, v2, v3⟩ : ∃ v : Wd, ([.str ".WRGY", .str "W."] : List D)[a]? = some (sD v) ∧ 0 < v.length ∧ v.length ≤ 1000 ∧ ∀ c ∈ v, c ∈ LLT := by
    match a, ha1 with
    | 0, _ => exact ⟨LLT, by rw [q_LLT]; rfl, by simp, by simp, fun _ h => h⟩
    | 1, _ => exact ⟨[87, 46], by rw [q1]; rfl, by simp, by simp, by simp⟩
    | n + 2, h => omega
  obtain ⟨k, gk, k1, k2⟩ : ∃ k : Nat, ([.int 4, .int 20] : List D)[b]? = some (.int (k : Int)) ∧ 0 < k ∧ k ≤ 20 := by
    match b, hb1 with
    | 0, _ => exact ⟨4, rfl, by omega, by omega⟩
    | 1, _ => exact ⟨20, rfl, by omega, by omega⟩
    | n + 2, h => omega
  obtain ⟨u, t3, e3, F3, lu⟩ := law_word_ok F2 v1 v2 k1 (by omega)
  have f := fits_light ((lu.sub v3).mono k2)
  exact ⟨a, b, v, k, u, t1, t2, t3, e1, e2, gv, gk, e3, F3, by have := lu.2.1; omega, small_fits f, fun _ => .inl f⟩
theorem mul_21 (c : Nat) : pMulA (sT [c]) (.s (.int 21)) = some (sT (List.replicate 21 c)) := pMul_one c 21 (by omega)
theorem law_rhythm_ok {t : T} {good : Bool} (F : Fd t) : ∃ (u : Wd) (t' : T), m__law_rhythm [t, .s (.bl good)] = .ok (sT u, [some t', none]) ∧ Fd t' ∧ RhOk good u := by
  obtain ⟨x, t1, e1, F1, hx0, hx1⟩ := draw_ok F (many := 8) (by omega) (by omega)
  obtain ⟨y, hy, hy0, hy1, hg⟩ : ∃ y : Int, y = (if good then x.fdiv 2 else x) ∧ 0 ≤ y ∧ y < 8 ∧ (good = true → y < 4) := by
    refine ⟨_, rfl, ?_⟩
    cases good with
    | true =>
      have : x.fdiv 2 = x / 2 := Int.fdiv_eq_ediv_of_nonneg _ (by omega)
      simp [this]
      omega
    | false => simp; omega
  have hd : CDivN x 2 := ⟨by omega, by omega⟩
  by_cases h2 : y < 2
  · obtain ⟨a, b, v, k, u, t2, t3, t4, e2, e3, gv, gk, e4, F4, ok⟩ := word_parts good F1
    refine ⟨u, t4, ?_, F4, ok⟩
    cases good with
    | true =>
      rw [if_pos rfl] at hy
      rw [hy] at h2
      simp -implicitDefEqProofs [m__law_rhythm, b__law_rhythm, e1, e2, e3, e4, hd, h2, few, atI_nat, gv, gk]
    | false =>
      rw [if_neg (by simp)] at hy
      rw [hy] at h2
      simp -implicitDefEqProofs [m__law_rhythm, b__law_rhythm, e1, e2, e3, e4, h2, few, atI_nat, gv, gk]
  · by_cases h4 : y < 4
    · obtain ⟨z, t2, e2, F2, hz0, hz1⟩ := draw_ok F1 (many := 20) (by omega) (by omega)
      obtain ⟨n, hn⟩ : ∃ n : Nat, 1 + z = (n : Int) := ⟨(1 + z).toNat, by omega⟩
      have hn1 : 1 ≤ n ∧ n ≤ 20 := by omega
      have qL : Str.ofString "L." = S [76, 46] := by rw [ofList_S]; rfl
      obtain ⟨cs, t3, e3, F3, l3, m3⟩ := drawn_lp (vs := [5]) (g := stS 5) (el := el__law_rhythm_1) [76, 46] (fun t d => [t, some (.s (.bl good)), some (.s (.int y)), some (.s (.int (n : Int))), none, d]) (fun d t y => by simp) (fun t d Ft => by
        obtain ⟨z, t', e3, F3, hz0, hz1⟩ := draw_ok Ft (many := 2) (by omega) (by omega)
        obtain ⟨k, rfl⟩ : ∃ k : Nat, z = k := ⟨z.toNat, by omega⟩
        have hk : k < [76, 46].length := by simp; omega
        refine ⟨[76, 46][k], t', List.getElem_mem hk, F3, ?_⟩
        have hk' : ([76, 46] : List Nat)[k]? = some [76, 46][k] := List.getElem?_eq_getElem hk
        generalize ([76, 46] : List Nat)[k] = c at hk' ⊢
        simp -implicitDefEqProofs [el__law_rhythm_1_ap, e3, qL, atI_nat, hk', few]) (fun t y => by simp) n t2 F2 (by omega)
      obtain ⟨j, t4, e4, F4, hj0, hj1⟩ := draw_ok F3 (many := (n : Int)) (by omega) (by omega)
      obtain ⟨j, rfl⟩ : ∃ k : Nat, j = k := ⟨j.toNat, by omega⟩
      have hj : j < n := by omega
      have hs := setL cs j 76
      have hjn := join_chars (cs.set j 76) (by simp; omega)
      have fh := rg_fits l3 hn1.1 hn1.2 hj m3
      have hr := rg1n (n := n) (by omega)
      have hx : ixN (cs.map fun c => sT [c]).length (j : Int) = some j := by rw [ixN_nat, if_pos (by simp; omega)]
      refine ⟨cs.set j 76, t4, ?_, F4, by simp; omega, small_fits fh, fun _ => .inr fh⟩
      generalize (cs.set j 76).map (fun c => sT [c]) = M at hs hjn
      generalize cs.map (fun c => sT [c]) = L at e3 hs hx
      cases good with
      | true =>
        rw [if_pos rfl] at hy
        rw [hy] at h2 h4 e3
        simp -implicitDefEqProofs [m__law_rhythm, b__law_rhythm, e1, e2, e3, e4, hd, h2, h4, few, hn, hr, hx, q_L, hs, hjn]
      | false =>
        rw [if_neg (by simp)] at hy
        rw [hy] at h2 h4 e3
        simp -implicitDefEqProofs [m__law_rhythm, b__law_rhythm, e1, e2, e3, e4, h2, h4, few, hn, hr, hx, q_L, hs, hjn]
    · have hgf : good = false := by
        cases good with
        | true => exact absurd (hg rfl) h4
        | false => rfl
      subst hgf
      rw [if_neg (by simp)] at hy
      subst hy
      obtain ⟨k, t2, e2, F2, hk0, hk1⟩ := draw_ok F1 (many := 10) (by omega) (by omega)
      obtain ⟨k, rfl⟩ : ∃ n : Nat, k = n := ⟨k.toNat, by omega⟩
      obtain ⟨u, gu, u1, u2⟩ : ∃ u : Wd, ([.str "", .str ".", .str "....", .str "WL", .str "L.W", sD (List.replicate 21 87), sD (List.replicate 21 76), .str "X", .str "w", .str "W "] : List D)[k]? = some (sD u) ∧ u.length ≤ 1000 ∧ ∀ c ∈ u, c < 1000 := by
        match k, hk1 with
        | 0, _ => exact ⟨[], by rw [q_e]; rfl, by simp, by simp⟩
        | 1, _ => exact ⟨[46], by rw [q_dot]; rfl, by simp, by simp⟩
        | 2, _ => exact ⟨[46, 46, 46, 46], by rw [ofList_S "...."]; rfl, by simp, by simp⟩
        | 3, _ => exact ⟨[87, 76], by rw [ofList_S "WL"]; rfl, by simp, by simp⟩
        | 4, _ => exact ⟨[76, 46, 87], by rw [ofList_S "L.W"]; rfl, by simp, by simp⟩
        | 5, _ => exact ⟨List.replicate 21 87, rfl, by simp, by simp⟩
        | 6, _ => exact ⟨List.replicate 21 76, rfl, by simp, by simp⟩
        | 7, _ => exact ⟨[88], by rw [ofList_S "X"]; rfl, by simp, by simp⟩
        | 8, _ => exact ⟨[119], by rw [ofList_S "w"]; rfl, by simp, by simp⟩
        | 9, _ => exact ⟨[87, 32], by rw [ofList_S "W "]; rfl, by simp, by simp⟩
        | n + 10, h => omega
      refine ⟨u, t2, ?_, F2, u1, u2, fun z => by cases z⟩
      have m1 := mul_21 87
      have m2 := mul_21 76
      generalize List.replicate 21 87 = A at gu m1
      generalize List.replicate 21 76 = B at gu m2
      simp -implicitDefEqProofs [m__law_rhythm, b__law_rhythm, e1, e2, h2, h4, few, q_W, q_L, m1, m2, atI_nat, gu]
end VS
namespace VS
open PySem PySem.Spec L2
open PyProof.Rows hiding St
theorem spares_turn {t : T} {good : Bool} {many : Nat} {l : List Spr} {i : Nat} (F : Fd t) (hl : l.length ≤ 1000) : ∃ (s : Spr) (t' : T) (q : Option T), bo__law_spares_1 [some t, some (.s (.int (many : Int))), some (.s (.bl good)), some (.l (l.map fun s => .s (spD s))), some (.s (.int (i : Int))), q0] =
      .ok (.nx, [some t', some (.s (.int (many : Int))), some (.s (.bl good)), some (.l ((l ++ [s]).map fun s => .s (spD s))), some (.s (.int (i : Int))), q]) ∧ Fd t' ∧ s.w.length ≤ 1000 ∧ (∀ c ∈ s.w, c < 1000) ∧ (good = true → bad s = false) := by
  obtain ⟨a, t1, e1, F1, ha0, ha1⟩ := draw_ok F (many := 99) (by omega) (by omega)
  obtain ⟨b, t2, e2, F2, hb0, hb1⟩ := draw_ok F1 (many := 3) (by omega) (by omega)
  obtain ⟨b, rfl⟩ : ∃ k : Nat, b = k := ⟨b.toNat, by omega⟩
  obtain ⟨p, gp, p1, p2⟩ : ∃ p : Int, ([.int 1, .int 99, .int (1 + a)] : List D)[b]? = some (.int p) ∧ 1 ≤ p ∧ p ≤ 99 := by
    match b, hb1 with
    | 0, _ => exact ⟨1, rfl, by omega, by omega⟩
    | 1, _ => exact ⟨99, rfl, by omega, by omega⟩
    | 2, _ => exact ⟨1 + a, rfl, by omega, by omega⟩
    | n + 3, h => omega
  have hl1 : (l.map fun s => T.s (spD s)).length ≤ 1000 := by simpa using hl
  have hap : ∀ s : Spr, (l ++ [s]).map (fun s => T.s (spD s)) = (l.map fun s => T.s (spD s)) ++ [T.s (spD s)] := fun s => by simp
  cases good with
  | true =>
    obtain ⟨u, t3, e3, F3, ok1, ok2, ok3⟩ := law_rhythm_ok (good := true) F2
    refine ⟨⟨u, p⟩, t3, some (.s (.int p)), ?_, F3, ok1, ok2, fun _ => ?_⟩
    · rw [hap]
      generalize (l.map fun s => T.s (spD s)) = L at hl1 ⊢
      simp -implicitDefEqProofs [bo__law_spares_1_ap, e1, e2, e3, few, few', atI_nat, gp, show L.length ≤ 1000000 by omega]
    · unfold bad
      rcases ok3 rfl with h | h
      · simp [h, p1, p2]
      · simp [h, p1, p2]
  | false =>
    obtain ⟨c, t3, e3, F3, hc0, hc1⟩ := draw_ok F2 (many := 5) (by omega) (by omega)
    obtain ⟨z, t4, pr, e4, F4⟩ : ∃ (z : Int) (t4 : T) (g : Bool), (if c = 0 then ∃ d : Nat, m__law_draw [t3, .s (.int 5)] = .ok (.s (.int (d : Int)), [some t4, none]) ∧ ([.int 0, .int (-1), .int 100, .int (10 ^ 30), .int (-(10 ^ 30))] : List D)[d]? = some (.int z) else t4 = t3 ∧ z = p) ∧ Fd t4 := by
      by_cases hc : c = 0
      · obtain ⟨d, t4, e4, F4, hd0, hd1⟩ := draw_ok F3 (many := 5) (by omega) (by omega)
        obtain ⟨d, rfl⟩ : ∃ k : Nat, d = k := ⟨d.toNat, by omega⟩
        obtain ⟨z, hz⟩ : ∃ z : Int, ([.int 0, .int (-1), .int 100, .int (10 ^ 30), .int (-(10 ^ 30))] : List D)[d]? = some (.int z) := by
          match d, hd1 with
          | 0, _ => exact ⟨_, rfl⟩
          | 1, _ => exact ⟨_, rfl⟩
          | 2, _ => exact ⟨_, rfl⟩
          | 3, _ => exact ⟨_, rfl⟩
          | 4, _ => exact ⟨_, rfl⟩
          | n + 5, h => omega
        exact ⟨z, t4, true, by rw [if_pos hc]; exact ⟨d, e4, hz⟩, F4⟩
      · exact ⟨p, t3, true, by rw [if_neg hc]; exact ⟨rfl, rfl⟩, F3⟩
    obtain ⟨d, t5, e5, F5, hd0, hd1⟩ := draw_ok F4 (many := 3) (by omega) (by omega)
    obtain ⟨u, t6, e6, F6, ok1, ok2, ok3⟩ := law_rhythm_ok (good := decide (0 < d)) F5
    refine ⟨⟨u, z⟩, t6, some (.s (.int z)), ?_, F6, ok1, ok2, fun h => by cases h⟩
    rw [hap]
    generalize (l.map fun s => T.s (spD s)) = L at hl1 ⊢
    have cp : CPow 10 30 := by decide
    by_cases hc : c = 0
    · rw [if_pos hc] at e4
      obtain ⟨k, e4, hz⟩ := e4
      subst hc
      simp -implicitDefEqProofs [bo__law_spares_1_ap, e1, e2, e3, e4, e5, e6, few, few', atI_nat, gp, cp, show L.length ≤ 1000000 by omega]
      simp at hz
      simp -implicitDefEqProofs [hz, e5, e6, few, few', show L.length ≤ 1000000 by omega]
    · rw [if_neg hc] at e4
      obtain ⟨rfl, rfl⟩ := e4
      simp -implicitDefEqProofs [bo__law_spares_1_ap, e1, e2, e3, e5, e6, few, few', atI_nat, gp, hc, show L.length ≤ 1000000 by omega]
theorem law_spares_ok {t : T} {good : Bool} {many : Nat} (F : Fd t) (hm : many ≤ 100) : ∃ (l : List Spr) (t' : T), m__law_spares [t, .s (.int many), .s (.bl good)] = .ok (.l (l.map fun s => .s (spD s)), [some t', none, none]) ∧ Fd t' ∧ l.length = many ∧ SpOk l ∧ (good = true → ∀ s ∈ l, bad s = false) := by
  obtain ⟨e', f1, l, t', k, q, rfl, F', hl, hs⟩ := for_inv (g := stS 4) (body := bo__law_spares_1) (ds := rgD 0 (many : Int)) (I := fun i e => ∃ (l : List Spr) (t' : T) (k q : Option T), e = [some t', some (.s (.int (many : Int))), some (.s (.bl good)), some (.l (l.map fun s => .s (spD s))), k, q] ∧ Fd t' ∧ l.length = i ∧ ∀ s ∈ l, s.w.length ≤ 1000 ∧ (∀ c ∈ s.w, c < 1000) ∧ (good = true → bad s = false)) (fun i d e hd hI => by
    obtain ⟨l, t', k, q, rfl, F', hl, hs⟩ := hI
    obtain ⟨hi, rfl⟩ := rgD_some hd
    obtain ⟨s, t2, q2, e1, F2, s1, s2, s3⟩ := spares_turn (many := many) (good := good) (l := l) (i := i) (q0 := q) F' (by omega)
    refine ⟨[some t', some (.s (.int (many : Int))), some (.s (.bl good)), some (.l (l.map fun s => .s (spD s))), some (.s (.int (i : Int))), q], _, by simp, e1, l ++ [s], t2, _, _, rfl, F2, by simp [hl], fun x hx => ?_⟩
    rcases List.mem_append.mp hx with z | z
    · exact hs x z
    · have : x = s := by simpa using z
      subst this
      exact ⟨s1, s2, s3⟩) [some t, some (.s (.int (many : Int))), some (.s (.bl good)), some (.l []), none, none] ⟨[], t, none, none, rfl, F, rfl, by simp⟩
  have hl' : l.length = many := by simpa using hl
  refine ⟨l, t', ?_, F', hl', ⟨by omega, fun s h => ⟨(hs s h).1, (hs s h).2.1⟩⟩, fun g s h => (hs s h).2.2 g⟩
  have hr := rg1n (n := many) (by omega)
  simp -implicitDefEqProofs [m__law_spares, b__law_spares, hr, f1]
end VS
namespace VS
open PySem PySem.Spec L2
open PyProof.Rows hiding St
/-! ### the options -/
def opL (sp : List Spr) (r : Sig) (i : Nat) : List T := (D.tup [sD r.word, .int 0] :: ((sp.take i).filter fun s => fits s.w r.horn).map spD).map T.s
theorem opL_len (sp : List Spr) (r : Sig) (i : Nat) : (opL sp r i).length ≤ sp.length + 1 := by
  unfold opL
  simp only [List.length_map, List.length_cons]
  have := List.length_filter_le (fun s => fits s.w r.horn) (sp.take i)
  simp only [List.length_take] at this
  omega
theorem opL_succ {sp : List Spr} {r : Sig} {i : Nat} {s : Spr} (h : sp[i]? = some s) : opL sp r (i + 1) = opL sp r i ++ if fits s.w r.horn then [.s (spD s)] else [] := by
  unfold opL
  rw [List.take_add_one, h]
  cases e : fits s.w r.horn <;> simp [List.filter_append, e]
abbrev opR (sp : List Spr) (r : Sig) : List D := D.tup [sD r.word, .int 0] :: (sp.filter fun s => fits s.w r.horn).map spD
theorem opL_all (sp : List Spr) (r : Sig) : opL sp r sp.length = (opR sp r).map T.s := by
  unfold opL
  rw [List.take_length]
theorem opt_inner {sp : List Spr} (hs : SpOk sp) (c : Option T) (rw : List T) (r : Sig) (a b : Option T) : ∃ a b,
    forL (gtup 2 (gcons (stS 5) (gcons (stS 6) gnil))) bo_options_1 (sp.map spD) [c, some (.s (.lst (sp.map spD))), some (.l rw), some (.s (sigD r)), some (.l (opL sp r 0)), a0, b0] =
      .ok (.nx, [c, some (.s (.lst (sp.map spD))), some (.l rw), some (.s (sigD r)), some (.l ((opR sp r).map T.s)), a, b]) := by
  obtain ⟨e', f1, a, b, he⟩ := for_inv (g := gtup 2 (gcons (stS 5) (gcons (stS 6) gnil))) (body := bo_options_1) (ds := sp.map spD) (I := fun i e => ∃ a b, e = [c, some (.s (.lst (sp.map spD))), some (.l rw), some (.s (sigD r)), some (.l (opL sp r i)), a, b]) (fun i d e hd hI => by
    obtain ⟨a, b, rfl⟩ := hI
    obtain ⟨s, hs2, rfl⟩ := map_get hd
    have hm := List.mem_of_getElem? hs2
    refine ⟨[c, some (.s (.lst (sp.map spD))), some (.l rw), some (.s (sigD r)), some (.l (opL sp r i)), some (sT s.w), some (.s (.int s.p))], [c, some (.s (.lst (sp.map spD))), some (.l rw), some (.s (sigD r)), some (.l (opL sp r (i + 1))), some (sT s.w), some (.s (.int s.p))], by simp, ?_, _, _, rfl⟩
    have e1 := fits_kind_ok (w := s.w) (horn := r.horn) (hs.2 s hm).1
    have hl : (opL sp r i).length ≤ 1001 := by have := opL_len sp r i; have := hs.1; omega
    rw [opL_succ hs2]
    generalize opL sp r i = L at hl ⊢
    dsimp only [sigD]
    generalize sp.map spD = SP
    generalize kS r.horn = K at e1 ⊢
    cases q : fits s.w r.horn <;> rw [q] at e1 <;>
      simp -implicitDefEqProofs [bo_options_1_ap, few, few', e1, show L.length ≤ 1000000 by omega]) [c, some (.s (.lst (sp.map spD))), some (.l rw), some (.s (sigD r)), some (.l (opL sp r 0)), a0, b0] ⟨_, _, rfl⟩
  refine ⟨a, b, ?_⟩
  rw [f1, he, List.length_map, opL_all]
theorem options_ok {ch : D} {rs : List Sig} {sp : List Spr} (hr : rs.length ≤ 8) (hs : SpOk sp) :
    m_options [.s (coD ch rs), .s (.lst (sp.map spD))] = .ok (.l (rs.map fun r => .l ((opR sp r).map T.s)), [none, none]) := by
  obtain ⟨e', f1, a, b, c, d, he⟩ := for_inv (g := stS 3) (body := bo_options_2) (ds := rs.map sigD) (I := fun i e => ∃ a b c d, e = [some (.s (coD ch rs)), some (.s (.lst (sp.map spD))), some (.l ((rs.take i).map fun r => .l ((opR sp r).map T.s))), a, b, c, d]) (fun i d e hd hI => by
    obtain ⟨a, b, c, d, rfl⟩ := hI
    obtain ⟨r, hs2, rfl⟩ := map_get hd
    have hlt := (List.getElem?_eq_some_iff.mp hs2).1
    obtain ⟨a', b', f2⟩ := opt_inner (a0 := c) (b0 := d) hs (some (.s (coD ch rs))) ((rs.take i).map fun r => .l ((opR sp r).map T.s)) r none none
    refine ⟨[some (.s (coD ch rs)), some (.s (.lst (sp.map spD))), some (.l ((rs.take i).map fun r => .l ((opR sp r).map T.s))), some (.s (sigD r)), b, c, d], [some (.s (coD ch rs)), some (.s (.lst (sp.map spD))), some (.l ((rs.take (i + 1)).map fun r => .l ((opR sp r).map T.s))), some (.s (sigD r)), none, a', b'], by simp, ?_, _, _, _, _, rfl⟩
    have e2 : (rs.take (i + 1)).map (fun r => T.l ((opR sp r).map T.s)) = (rs.take i).map (fun r => T.l ((opR sp r).map T.s)) ++ [T.l ((opR sp r).map T.s)] := by
      rw [List.take_add_one, hs2]
      simp
    rw [e2]
    have hl2 : ((rs.take i).map fun r => T.l ((opR sp r).map T.s)).length ≤ 8 := by simp; omega
    have e0 : opL sp r 0 = [.s (.tup [sD r.word, .int 0])] := by simp [opL]
    rw [e0] at f2
    generalize (rs.take i).map (fun r => T.l ((opR sp r).map T.s)) = L at f2 hl2 ⊢
    generalize sp.map spD = SP at f2 ⊢
    generalize (opR sp r).map T.s = O at f2 ⊢
    generalize coD ch rs = CO at f2 ⊢
    dsimp only [sigD] at f2 ⊢
    generalize kS r.horn = K at f2 ⊢
    simp -implicitDefEqProofs [bo_options_2_ap, few, few', f2, show L.length ≤ 1000000 by omega]) [some (.s (coD ch rs)), some (.s (.lst (sp.map spD))), some (.l []), none, none, none, none] ⟨_, _, _, _, rfl⟩
  subst he
  rw [show (rs.map sigD).length = rs.length by simp, List.take_length] at f1
  dsimp only [coD] at f1 ⊢
  generalize sp.map spD = SP at f1 ⊢
  generalize rs.map sigD = RS at f1 ⊢
  simp -implicitDefEqProofs [m_options, b_options, few, f1]
/-! ### rows of a coast -/
theorem rows_of_ok {ch : D} {rs : List Sig} (hr : rs.length ≤ 8) : m__law_rows_of [.s (coD ch rs)] = .ok (.l (rs.map fun r => .s (rowP r)), [none]) := by
  have e1 := lc_map (vs := [1]) (g := stS 1) (el := el__law_rows_of_1) (E := [some (.s (coD ch rs)), none]) (f := fun d => match d with | .ob _ fs => .s (.tup (fs.map Prod.snd)) | _ => .s .non) (ds := rs.map sigD) (fun d hd => by
    obtain ⟨q, hq, rfl⟩ := List.mem_map.mp hd
    refine ⟨[some (.s (coD ch rs)), some (.s (sigD q))], [some (.s (coD ch rs)), some (.s (sigD q))], by simp, ?_, by simp⟩
    have e2 := sig_row q
    have e3 := fun n sem fs e => meth_sig (m := "row") (n := n) (sem := sem) (fs := fs) q e (by decide)
    dsimp only [sigD, rowP, rowL] at e2 e3 ⊢
    generalize kS q.horn = K at e2 e3 ⊢
    simp -implicitDefEqProofs [el__law_rows_of_1_ap, e2, e3]) [] (by simp; omega)
  have e4 : (rs.map sigD).map (fun d => match d with | .ob _ fs => T.s (.tup (fs.map Prod.snd)) | _ => .s .non) = rs.map fun r => .s (rowP r) := by
    rw [List.map_map]
    rfl
  rw [e4] at e1
  simp only [List.nil_append] at e1
  dsimp only [coD] at e1 ⊢
  generalize rs.map sigD = RS at e1 ⊢
  simp -implicitDefEqProofs [m__law_rows_of, b__law_rows_of, few, e1]
theorem plain_ok {r : Sig} (hl : r.ss.length ≤ 1000) : m__law_plain [.s (rowD r)] = .ok (.s (rowP r), [none]) := by
  have e1 : cutL (rowL r (.lst (r.ss.map secD))) none (some ((7 : Nat) : Int)) = (rowL r (.lst (r.ss.map secD))).take 7 := cutL_upto _ _
  dsimp only [rowD, rowP, rowL] at e1 ⊢
  generalize kS r.horn = K at e1 ⊢
  generalize r.ss.map secD = S at e1 ⊢
  simp at e1
  simp -implicitDefEqProofs [m__law_plain, b__law_plain, few, e1]
end VS
namespace VS
open PySem PySem.Spec L2
open PyProof.Rows hiding St
/-! ### what is picked -/
def wds (sp : List Spr) (r : Sig) : List Wd := r.word :: (sp.filter fun s => fits s.w r.horn).map Spr.w
def pk1 (sp : List Spr) (r : Sig) (k : Nat) : Sig := { r with word := (wds sp r).getD k r.word }
def pkd (sp : List Spr) (rs : List Sig) (pk : List Nat) : List Sig := List.zipWith (pk1 sp) rs pk
structure Pk (sp : List Spr) (rs : List Sig) (pk : List Nat) : Prop where
  l : pk.length = rs.length
  ok : ∀ (i : Nat) (r : Sig) (k : Nat), rs[i]? = some r → pk[i]? = some k → k < (opR sp r).length
theorem opR_get {sp : List Spr} {r : Sig} {k : Nat} (h : k < (opR sp r).length) : ∃ p : Int, (opR sp r)[k]? = some (.tup [sD (pk1 sp r k).word, .int p]) := by
  unfold pk1 wds
  cases k with
  | zero => exact ⟨0, rfl⟩
  | succ k =>
    have h' : k < (sp.filter fun s => fits s.w r.horn).length := by simpa [opR] using h
    refine ⟨((sp.filter fun s => fits s.w r.horn)[k]).p, ?_⟩
    show ((sp.filter fun s => fits s.w r.horn).map spD)[k]? = _
    rw [List.getElem?_map, List.getElem?_eq_getElem h']
    simp [List.getD_eq_getElem?_getD, List.getElem?_eq_getElem h']
theorem pk1_ok {sp : List Spr} {r : Sig} (o : Ok r) (k : Nat) : Ok (pk1 sp r k) := by
  have hf : fits (pk1 sp r k).word r.horn = true := by
    unfold pk1 wds
    cases k with
    | zero => exact o.ft
    | succ k =>
      simp only [List.getD_eq_getElem?_getD, List.getElem?_cons_succ, List.getElem?_map]
      cases q : (sp.filter fun s => fits s.w r.horn)[k]? with
      | none => exact o.ft
      | some s => exact (List.mem_filter.mp (List.mem_of_getElem? q)).2
  have hl : (pk1 sp r k).word.length ≤ 1000 := by
    have := hf
    unfold fits at this
    simp only [Bool.and_eq_true, decide_eq_true_eq] at this
    omega
  exact ⟨o.nm, o.nl, o.x0, o.y0, hl, hf, o.s0, o.h0, o.se⟩
theorem pkd_get {sp : List Spr} {rs : List Sig} {pk : List Nat} {i : Nat} {r : Sig} {k : Nat} (h1 : rs[i]? = some r) (h2 : pk[i]? = some k) : (pkd sp rs pk)[i]? = some (pk1 sp r k) := by
  unfold pkd
  rw [List.getElem?_zipWith, h1, h2]
theorem pkd_len {sp : List Spr} {rs : List Sig} {pk : List Nat} (h : pk.length = rs.length) : (pkd sp rs pk).length = rs.length := by
  unfold pkd
  simp [h]
theorem pkd_mem {sp : List Spr} {rs : List Sig} {pk : List Nat} {q : Sig} (h : q ∈ pkd sp rs pk) : ∃ r ∈ rs, ∃ k, q = pk1 sp r k := by
  obtain ⟨i, hi⟩ := List.getElem?_of_mem h
  unfold pkd at hi
  rw [List.getElem?_zipWith] at hi
  split at hi
  · rename_i r k h1 h2
    exact ⟨_, List.mem_of_getElem? h1, _, (Option.some.inj hi).symm⟩
  · cases hi
theorem pkd_names {sp : List Spr} {rs : List Sig} {pk : List Nat} (h : pk.length = rs.length) : (pkd sp rs pk).map Sig.name = rs.map Sig.name := by
  induction rs generalizing pk with
  | nil => simp [pkd]
  | cons r rs ih =>
    cases pk with
    | nil => simp at h
    | cons k pk =>
      have := ih (pk := pk) (by simpa using h)
      simp only [pkd, List.zipWith_cons_cons, List.map_cons, pk1, List.cons.injEq, true_and] at this ⊢
      exact this
theorem pkd_okS {sp : List Spr} {rs : List Sig} {pk : List Nat} {w h : Nat} (hl : pk.length = rs.length) (o : OkS rs w h) : OkS (pkd sp rs pk) w h := by
  refine ⟨by rw [pkd_len hl]; exact o.l, by rw [pkd_names hl]; exact o.nd, fun q hq => ?_⟩
  obtain ⟨r, hr, k, rfl⟩ := pkd_mem hq
  exact o.on r hr
theorem ers_opt (rs : List Sig) (sp : List Spr) : ers (rs.map fun r => T.l ((opR sp r).map T.s)) = rs.map fun r => D.lst (opR sp r) := by
  induction rs with
  | nil => simp
  | cons r rs ih =>
    rw [List.map_cons, List.map_cons, ers_cons, ih, er_l]
    have := ers_map (opR sp r)
    exact congrArg (fun x => D.lst x :: List.map (fun r => D.lst (opR sp r)) rs) this
theorem picked_ok {rows : List Wd} {w h : Nat} {rs : List Sig} {sp : List Spr} {pk : List Nat} (os : OkS rs w h) (o : ∀ r ∈ rs, Ok r ∧ r.ss.length ≤ 1000) (hs : SpOk sp) (hp : Pk sp rs pk) :
    m_picked_coast [.s (coD (chD rows w h) rs), .s (.lst (sp.map spD)), .s (.lst (pk.map fun k : Nat => D.int (k : Int)))] = .ok (coT (chD rows w h) (pkd sp rs pk), [none, none, none]) := by
  have e1 := options_ok (ch := chD rows w h) os.l hs
  have e2 := make_coast (rows := rows) (pkd_okS (sp := sp) hp.l os)
  have e3 := ers_sigT (pkd sp rs pk)
  have e7 := ers_opt rs sp
  obtain ⟨e', f1, a, b, he⟩ := for_inv (g := gtup 2 (gcons (stS 5) (gcons (stS 6) gnil))) (body := bo_picked_coast_1) (ds := enD (rs.map sigD)) (I := fun i e => ∃ a b, e = [some (.s (coD (chD rows w h) rs)), some (.s (.lst (sp.map spD))), some (.s (.lst (pk.map fun k : Nat => D.int (k : Int)))), some (.s (.lst (rs.map fun r => .lst (opR sp r)))), some (.l (((pkd sp rs pk).take i).map sigT)), a, b]) (fun i d e hd hI => by
    obtain ⟨a, b, rfl⟩ := hI
    obtain ⟨x, hx, rfl⟩ := enD_some hd
    obtain ⟨r, hr, rfl⟩ := map_get hx
    have hm := List.mem_of_getElem? hr
    have hlt := (List.getElem?_eq_some_iff.mp hr).1
    obtain ⟨k, hk⟩ : ∃ k, pk[i]? = some k := ⟨_, List.getElem?_eq_getElem (by rw [hp.l]; exact hlt)⟩
    have hko := hp.ok i r k hr hk
    obtain ⟨p, hop⟩ := opR_get hko
    refine ⟨[some (.s (coD (chD rows w h) rs)), some (.s (.lst (sp.map spD))), some (.s (.lst (pk.map fun k : Nat => D.int (k : Int)))), some (.s (.lst (rs.map fun r => .lst (opR sp r)))), some (.l (((pkd sp rs pk).take i).map sigT)), some (.s (.int (i : Int))), some (.s (sigD r))], [some (.s (coD (chD rows w h) rs)), some (.s (.lst (sp.map spD))), some (.s (.lst (pk.map fun k : Nat => D.int (k : Int)))), some (.s (.lst (rs.map fun r => .lst (opR sp r)))), some (.l (((pkd sp rs pk).take (i + 1)).map sigT)), some (.s (.int (i : Int))), some (.s (sigD r))], by simp, ?_, _, _, rfl⟩
    have e4 : ((pkd sp rs pk).take (i + 1)).map sigT = ((pkd sp rs pk).take i).map sigT ++ [sigT (pk1 sp r k)] := by
      rw [List.take_add_one, pkd_get hr hk]
      simp
    rw [e4]
    have hl2 : (((pkd sp rs pk).take i).map sigT).length ≤ 8 := by
      have := pkd_len (sp := sp) hp.l
      have := os.l
      simp
      omega
    have e5 := sig_changed (r := r) (w := (pk1 sp r k).word) (pk1_ok (o r hm).1 k) (o r hm).2
    have e6 := fun n sem fs e => meth_sig (m := "changed") (n := n) (sem := sem) (fs := fs) r e (by decide)
    have e5' : sigT { r with word := (pk1 sp r k).word } = sigT (pk1 sp r k) := rfl
    rw [e5'] at e5
    have g1 : (rs.map fun r => D.lst (opR sp r))[i]? = some (.lst (opR sp r)) := by rw [List.getElem?_map, hr]; rfl
    have g2 : (pk.map fun k : Nat => D.int (k : Int))[i]? = some (.int (k : Int)) := by rw [List.getElem?_map, hk]; rfl
    generalize ((pkd sp rs pk).take i).map sigT = L at hl2 ⊢
    generalize (rs.map fun r => D.lst (opR sp r)) = RW at g1 ⊢
    generalize (pk.map fun k : Nat => D.int (k : Int)) = PK at g2 ⊢
    generalize opR sp r = O at g1 hop ⊢
    generalize sp.map spD = SP at e5 ⊢
    generalize coD (chD rows w h) rs = CO at e5 ⊢
    generalize sigT (pk1 sp r k) = ST at e5 ⊢
    generalize (pk1 sp r k).word = W at e5 hop ⊢
    generalize sigD r = SD at e5 e6 ⊢
    simp -implicitDefEqProofs [bo_picked_coast_1_ap, few, few', atI_nat, g1, g2, hop, e5, e6, show L.length ≤ 1000000 by omega]) [some (.s (coD (chD rows w h) rs)), some (.s (.lst (sp.map spD))), some (.s (.lst (pk.map fun k : Nat => D.int (k : Int)))), some (.s (.lst (rs.map fun r => .lst (opR sp r)))), some (.l []), none, none] ⟨_, _, rfl⟩
  subst he
  rw [show (enD (rs.map sigD)).length = (pkd sp rs pk).length by rw [enD_len, pkd_len hp.l]; simp, List.take_length] at f1
  dsimp only [coD] at e1 e2 f1 ⊢
  generalize chD rows w h = CH at e1 e2 f1 ⊢
  generalize (rs.map fun r => T.l ((opR sp r).map T.s)) = RT at e1 e7 ⊢
  generalize (rs.map fun r => D.lst (opR sp r)) = RW at f1 e7 ⊢
  generalize (pk.map fun k : Nat => D.int (k : Int)) = PK at f1 ⊢
  generalize sp.map spD = SP at e1 f1 ⊢
  generalize coT CH (pkd sp rs pk) = CT at e2 ⊢
  generalize (pkd sp rs pk).map sigT = L at e3 f1 ⊢
  generalize rs.map sigD = RS at e1 f1 ⊢
  simp -implicitDefEqProofs [m_picked_coast, b_picked_coast, few, e1, e2, e3, e7, f1, -mkK_ok]
end VS
namespace VS
open PySem PySem.Spec L2
open PyProof.Rows hiding St
/-! ### what is asked of a coast -/
theorem forO_inv {g : GTg} {body : En → R En (Fl × En)} : ∀ {ts : List T} {I : Nat → En → Prop}, (∀ i t e, ts[i]? = some t → I i e → ∃ e1 e2, g t e = some e1 ∧ body e1 = .ok (.nx, e2) ∧ I (i + 1) e2) → ∀ e, I 0 e →
    ∃ e', forOL g body ts e = .ok (.nx, e') ∧ I ts.length e'
  | [], I, h, e, h0 => ⟨e, by simp, h0⟩
  | t :: ts, I, h, e, h0 => by
    obtain ⟨e1, e2, h1, h2, h3⟩ := h 0 t e rfl h0
    obtain ⟨e', h4, h5⟩ := forO_inv (ts := ts) (I := fun i => I (i + 1)) (fun i x e q => h (i + 1) x e (by simpa using q)) e2 h3
    refine ⟨e', ?_, h5⟩
    rw [forOL_cons, h1, fpN_some, h2, fpM_nx, h4]
theorem strOk_k (b : Bool) : PyData.strOk (kS b) = true := by
  have h1 : Str.ofString "light" = S [108, 105, 103, 104, 116] := by rw [ofList_S]; rfl
  have h2 : Str.ofString "horn" = S [104, 111, 114, 110] := by rw [ofList_S]; rfl
  cases b
  · show PyData.strOk (Str.ofString "light") = true
    rw [h1]; exact strOk_S (by decide)
  · show PyData.strOk (Str.ofString "horn") = true
    rw [h2]; exact strOk_S (by decide)
theorem strOk_sec {s : Sec} (h : alone s = true) : PyData.strOk (S [s.g]) = true := by
  apply strOk_S
  unfold alone at h
  simp only [Bool.and_eq_true, decide_eq_true_eq] at h
  have := h.2.2.2
  simp at this ⊢
  omega
theorem eqOk_secs {r : Sig} (o : Ok r) (n : Nat) : eqOk (n + 2) (.tup (r.ss.map secD)) = true := by
  simp only [eqOk]
  apply eqOks_of
  intro d hd
  obtain ⟨s, hs, rfl⟩ := List.mem_map.mp hd
  have se := o.se
  split at se
  · rw [se] at hs; cases hs
  · have := strOk_sec (se.2.2.1 s hs)
    simp [eqOk, eqOks, this]
theorem eqOk_rowP {r : Sig} (o : Ok r) (n : Nat) : eqOk (n + 3) (rowP r) = true := by
  have h1 := strOk_S (small_name o.nm)
  have h2 := strOk_S (small_fits o.ft)
  have h3 := strOk_k r.horn
  have h4 := eqOk_secs o n
  dsimp only [rowP, rowL]
  generalize kS r.horn = K at h3 ⊢
  generalize D.tup (r.ss.map secD) = X at h4 ⊢
  simp [eqOk, eqOks, h1, h2, h3, h4]
theorem eqOk_sp {sp : List Spr} (h : SpOk sp) (n : Nat) : eqOks (n + 2) (sp.map spD) = true := by
  apply eqOks_of
  intro d hd
  obtain ⟨s, hs, rfl⟩ := List.mem_map.mp hd
  have := strOk_S (h.2 s hs).2
  simp [eqOk, eqOks, this]
theorem eqOk_op {sp : List Spr} (h : SpOk sp) {r : Sig} (o : Ok r) (n : Nat) : eqOk (n + 3) (.lst (opR sp r)) = true := by
  have h2 := strOk_S (small_fits o.ft)
  have h3 : eqOks (n + 2) ((sp.filter fun s => fits s.w r.horn).map spD) = true := eqOk_sp ⟨by have := List.length_filter_le (fun s => fits s.w r.horn) sp; have := h.1; omega, fun s hs => h.2 s (List.mem_filter.mp hs).1⟩ n
  simp only [eqOk, opR, eqOks, h3, h2, Bool.and_self]
/-- what is due of all -/
abbrev dueT (sp : List Spr) (rs : List Sig) : List T := rs.map fun r => .l ((opR sp r).map T.s)
abbrev dueD (sp : List Spr) (rs : List Sig) : List D := rs.map fun r => .lst (opR sp r)
theorem eqOk_due {sp : List Spr} (h : SpOk sp) {rs : List Sig} (o : ∀ r ∈ rs, Ok r) (n : Nat) : eqOk (n + 4) (.lst (dueD sp rs)) = true := by
  simp only [eqOk]
  apply eqOks_of
  intro d hd
  obtain ⟨r, hr, rfl⟩ := List.mem_map.mp hd
  exact eqOk_op h (o r hr) n
theorem asks_due_row {sp : List Spr} (hs : SpOk sp) (r : Sig) (t rw_ sg co : Option T) (L : List T) (hL : L.length ≤ 1000) (a7 a8 a9 a10 a11 a12 a13 a14 : Option T) :
    bo__law_asks_3 [t, rw_, sg, some (.s (.lst (sp.map spD))), co, some (.l L), some (.s (rowD r)), a7, a8, a9, a10, a11, a12, a13, a14, none] =
      .ok (.nx, [t, rw_, sg, some (.s (.lst (sp.map spD))), co, some (.l (L ++ [.l ((opR sp r).map T.s)])), some (.s (rowD r)), a7, a8, a9, a10, a11, a12, a13, a14, none]) := by
  have e1 := lc_filt (vs := [15]) (g := stS 15) (te := te__law_asks_1) (el := el__law_asks_2) (E := [t, rw_, sg, some (.s (.lst (sp.map spD))), co, some (.l L), some (.s (rowD r)), a7, a8, a9, a10, a11, a12, a13, a14, none]) (p := fun d => match d with | .tup (.str w :: _) => fits w.cps.toList r.horn | _ => false) (f := T.s) (ds := sp.map spD) (fun d hd => by
    obtain ⟨s, hs2, rfl⟩ := List.mem_map.mp hd
    have e2 := law_fits_ok (w := s.w) (horn := r.horn) (hs.2 s hs2).1
    refine ⟨[t, rw_, sg, some (.s (.lst (sp.map spD))), co, some (.l L), some (.s (rowD r)), a7, a8, a9, a10, a11, a12, a13, a14, some (.s (spD s))], [t, rw_, sg, some (.s (.lst (sp.map spD))), co, some (.l L), some (.s (rowD r)), a7, a8, a9, a10, a11, a12, a13, a14, some (.s (spD s))], by simp, ?_, fun _ => ⟨[t, rw_, sg, some (.s (.lst (sp.map spD))), co, some (.l L), some (.s (rowD r)), a7, a8, a9, a10, a11, a12, a13, a14, some (.s (spD s))], ?_, by simp⟩, fun _ => by simp⟩
    · dsimp only [rowD, rowL]
      generalize kS r.horn = K at e2 ⊢
      simp -implicitDefEqProofs [te__law_asks_1_ap, e2]
    · simp -implicitDefEqProofs [el__law_asks_2_ap]) [] (by have := hs.1; simp; omega)
  have e3 : ((sp.map spD).filter fun d => match d with | .tup (.str w :: _) => fits w.cps.toList r.horn | _ => false) = (sp.filter fun s => fits s.w r.horn).map spD := by
    rw [List.filter_map]
    congr 1
  rw [e3] at e1
  have hl2 : ((sp.filter fun s => fits s.w r.horn).map spD).length ≤ 1000 := by have := List.length_filter_le (fun s => fits s.w r.horn) sp; have := hs.1; simp; omega
  dsimp only [opR] at e1 ⊢
  generalize (sp.filter fun s => fits s.w r.horn).map spD = F at e1 hl2 ⊢
  generalize sp.map spD = SP at e1 ⊢
  dsimp only [rowD, rowL] at e1 ⊢
  generalize kS r.horn = K at e1 ⊢
  simp only [List.nil_append] at e1
  simp -implicitDefEqProofs [bo__law_asks_3_ap, few, few', e1, pAdd, T.ls, shs_map, shs, show L.length ≤ 1000000 by omega, show 1 + F.length ≤ 1000000 by omega]
theorem asks_row {ds : List D} (hd : ∀ d ∈ ds, ∃ xs, d = D.tup xs) (hl : ds.length ≤ 1001) (t rw_ sg s3 co s5 s7 s8 a9 a10 a11 a12 a13 a14 : Option T) :
    bo__law_asks_6 [t, rw_, sg, s3, co, s5, some (.l (ds.map T.s)), s7, s8, a9, a10, a11, a12, a13, a14, none] =
      .ok (.nx, [t, rw_, sg, s3, co, s5, some (.l ((ds ++ [D.tup [sD [87], .int 1]]).map T.s)), s7, s8, a9, a10, a11, a12, a13, a14, none]) := by
  have e1 := lc_filt (vs := [15]) (g := stS 15) (te := te__law_asks_4) (el := el__law_asks_5) (E := [t, rw_, sg, s3, co, s5, none, s7, s8, a9, a10, a11, a12, a13, a14, none]) (p := fun d => true) (f := T.s) (ds := ds) (fun d hd2 => by
    obtain ⟨xs, rfl⟩ := hd d hd2
    refine ⟨[t, rw_, sg, s3, co, s5, none, s7, s8, a9, a10, a11, a12, a13, a14, some (.s (.tup xs))], [t, rw_, sg, s3, co, s5, none, s7, s8, a9, a10, a11, a12, a13, a14, some (.s (.tup xs))], by simp, ?_, fun _ => ⟨[t, rw_, sg, s3, co, s5, none, s7, s8, a9, a10, a11, a12, a13, a14, some (.s (.tup xs))], ?_, by simp⟩, fun _ => by simp⟩
    · simp -implicitDefEqProofs [te__law_asks_4_ap, pIsi, tyN, isTy, tyK]
    · simp -implicitDefEqProofs [el__law_asks_5_ap]) [] (by simp; omega)
  rw [show ds.filter (fun _ => true) = ds from List.filter_eq_self.mpr fun _ _ => rfl] at e1
  simp only [List.nil_append] at e1
  have e2 : (ds ++ [D.tup [sD [87], .int 1]]).map T.s = ds.map T.s ++ [.s (.tup [sD [87], .int 1])] := by simp
  rw [e2]
  have sm := shs_map ds
  have hl2 : (ds.map T.s).length ≤ 1001 := by simpa using hl
  generalize ds.map T.s = DS at e1 sm hl2 ⊢
  simp -implicitDefEqProofs [bo__law_asks_6_ap, few, few', e1, sm, pIsi, tyN, isTy, tyK, q_W, show DS.length ≤ 1000000 by omega]
end VS
namespace VS
open PySem PySem.Spec L2
open PyProof.Rows hiding St
/-! ### the picks -/
abbrev pkT (pk : List Nat) : List T := pk.map fun k : Nat => T.s (.int (k : Int))
theorem pkT_map (pk : List Nat) : pkT pk = (pk.map fun k : Nat => D.int (k : Int)).map T.s := by
  rw [List.map_map]; rfl
theorem picks_drawn {sp : List Spr} (hs : SpOk sp) {rs : List Sig} (hr : rs.length ≤ 8) (e1 e2 e3 e4 e5 : Option T) (e7 e8 e9 e10 e11 e12 e13 e14 e15 : Option T) {t : T} (F : Fd t) :
    ∃ (pk : List Nat) (t' : T), lcL [6] (stS 6) yesT el__law_asks_7 (dueD sp rs) [] [some t, e1, e2, e3, e4, e5, none, e7, e8, e9, e10, e11, e12, e13, e14, e15] = .ok (pkT pk, [some t', e1, e2, e3, e4, e5, none, e7, e8, e9, e10, e11, e12, e13, e14, e15]) ∧ Fd t' ∧ Pk sp rs pk := by
  obtain ⟨ts, e', f1, ⟨pk, t', rfl, rfl, F', hl, hp⟩, _⟩ := lc_inv (vs := [6]) (g := stS 6) (el := el__law_asks_7) (ds := dueD sp rs) (I := fun i ts e => ∃ (pk : List Nat) (t' : T), ts = pkT pk ∧ e = [some t', e1, e2, e3, e4, e5, none, e7, e8, e9, e10, e11, e12, e13, e14, e15] ∧ Fd t' ∧ pk.length = i ∧ ∀ (j : Nat) (r : Sig) (k : Nat), rs[j]? = some r → pk[j]? = some k → k < (opR sp r).length) (fun i d ts e hd hI => by
    obtain ⟨pk, t1, rfl, rfl, F1, hl, hp⟩ := hI
    obtain ⟨r, hr2, rfl⟩ := map_get hd
    have hol : (opR sp r).length ≤ 1001 := by
      have := List.length_filter_le (fun s => fits s.w r.horn) sp
      have := hs.1
      simp [opR]
      omega
    have hol2 : 1 ≤ (opR sp r).length := by simp [opR]
    obtain ⟨d, t2, q1, F2, d0, d1⟩ := draw_ok F1 (many := ((opR sp r).length : Int)) (by omega) (by omega)
    obtain ⟨k, rfl⟩ : ∃ k : Nat, d = k := ⟨d.toNat, by omega⟩
    refine ⟨[some t1, e1, e2, e3, e4, e5, some (.s (.lst (opR sp r))), e7, e8, e9, e10, e11, e12, e13, e14, e15], .s (.int (k : Int)), [some t2, e1, e2, e3, e4, e5, some (.s (.lst (opR sp r))), e7, e8, e9, e10, e11, e12, e13, e14, e15], by simp, ?_, pk ++ [k], t2, by simp, by simp, F2, by simp [hl], fun j r' k' h1 h2 => ?_⟩
    · generalize opR sp r = O at q1 ⊢
      simp -implicitDefEqProofs [el__law_asks_7_ap, few, q1]
    · by_cases hj : j < pk.length
      · rw [List.getElem?_append_left hj] at h2
        exact hp j r' k' h1 h2
      · rw [List.getElem?_append_right (by omega)] at h2
        have hj2 : j - pk.length = 0 := by
          have := (List.getElem?_eq_some_iff.mp h2).1
          simp at this
          omega
        rw [hj2] at h2
        have : k' = k := by simpa using h2.symm
        subst this
        have : j = i := by omega
        subst this
        rw [hr2] at h1
        obtain rfl := Option.some.inj h1
        omega) [] [some t, e1, e2, e3, e4, e5, none, e7, e8, e9, e10, e11, e12, e13, e14, e15] ⟨[], t, rfl, rfl, F, rfl, by simp⟩ (by simp; omega)
  exact ⟨pk, t', f1, F', by simpa using hl, hp⟩
theorem picks_last {sp : List Spr} (hs : SpOk sp) {rs : List Sig} (hr : rs.length ≤ 8) (e0 e1 e2 e3 e4 e5 : Option T) (e7 e8 e9 e10 e11 e12 e13 e14 e15 : Option T) :
    ∃ (pk : List Nat), lcL [6] (stS 6) yesT el__law_asks_8 (dueD sp rs) [] [e0, e1, e2, e3, e4, e5, none, e7, e8, e9, e10, e11, e12, e13, e14, e15] = .ok (pkT pk, [e0, e1, e2, e3, e4, e5, none, e7, e8, e9, e10, e11, e12, e13, e14, e15]) ∧ Pk sp rs pk := by
  have f1 := lc_map (vs := [6]) (g := stS 6) (el := el__law_asks_8) (ds := dueD sp rs) (E := [e0, e1, e2, e3, e4, e5, none, e7, e8, e9, e10, e11, e12, e13, e14, e15]) (f := fun d => match d with | .lst xs => .s (.int ((xs.length - 1 : Nat) : Int)) | _ => .s .non) (fun d hd => by
    obtain ⟨r, hr2, rfl⟩ := List.mem_map.mp hd
    refine ⟨[e0, e1, e2, e3, e4, e5, some (.s (.lst (opR sp r))), e7, e8, e9, e10, e11, e12, e13, e14, e15], [e0, e1, e2, e3, e4, e5, some (.s (.lst (opR sp r))), e7, e8, e9, e10, e11, e12, e13, e14, e15], by simp, ?_, by simp⟩
    have hol2 : 1 ≤ (opR sp r).length := by simp [opR]
    dsimp only
    have : (((opR sp r).length - 1 : Nat) : Int) = (opR sp r).length - 1 := by omega
    rw [this]
    generalize opR sp r = O
    simp -implicitDefEqProofs [el__law_asks_8_ap]) [] (by simp; omega)
  refine ⟨rs.map fun r => (opR sp r).length - 1, ?_, by simp, fun i r k h1 h2 => ?_⟩
  · rw [f1]
    simp only [List.nil_append, pkT, dueD, List.map_map]
    rfl
  · rw [List.getElem?_map, h1] at h2
    have : k = (opR sp r).length - 1 := by simpa using h2.symm
    have hol2 : 1 ≤ (opR sp r).length := by simp [opR]
    omega
/-! ### a turn of the picks -/
theorem wanted_ok {sp : List Spr} {rs : List Sig} {pk : List Nat} (hr : rs.length ≤ 8) (hl : ∀ r ∈ rs, r.ss.length ≤ 1000) (hp : Pk sp rs pk) (e0 e1 e3 e4 a6 e7 e8 e9 e11 e12 a14 e15 : Option T) :
    ∃ a6 a14, forL (stS 14) bo__law_asks_9 (rgD 0 (rs.length : Int)) [e0, e1, some (.s (.lst (rs.map rowD))), e3, e4, some (.s (.lst (dueD sp rs))), b6, e7, e8, e9, some (.s (.lst (pk.map fun k : Nat => D.int (k : Int)))), e11, e12, some (.l []), b14, e15] =
      .ok (.nx, [e0, e1, some (.s (.lst (rs.map rowD))), e3, e4, some (.s (.lst (dueD sp rs))), a6, e7, e8, e9, some (.s (.lst (pk.map fun k : Nat => D.int (k : Int)))), e11, e12, some (.l ((pkd sp rs pk).map fun r => .s (rowP r))), a14, e15]) := by
  obtain ⟨e', f1, a6, a14, he⟩ := for_inv (g := stS 14) (body := bo__law_asks_9) (ds := rgD 0 (rs.length : Int)) (I := fun i e => ∃ a6 a14, e = [e0, e1, some (.s (.lst (rs.map rowD))), e3, e4, some (.s (.lst (dueD sp rs))), a6, e7, e8, e9, some (.s (.lst (pk.map fun k : Nat => D.int (k : Int)))), e11, e12, some (.l (((pkd sp rs pk).take i).map fun r => .s (rowP r))), a14, e15]) (fun i d e hd hI => by
    obtain ⟨a6, a14, rfl⟩ := hI
    obtain ⟨hi, rfl⟩ := rgD_some hd
    have hr2 : rs[i]? = some rs[i] := List.getElem?_eq_getElem hi
    have hm := List.getElem_mem hi
    generalize rs[i] = r at hr2 hm
    obtain ⟨k, hk⟩ : ∃ k, pk[i]? = some k := ⟨_, List.getElem?_eq_getElem (by rw [hp.l]; exact hi)⟩
    obtain ⟨p, hop⟩ := opR_get (hp.ok i r k hr2 hk)
    refine ⟨[e0, e1, some (.s (.lst (rs.map rowD))), e3, e4, some (.s (.lst (dueD sp rs))), a6, e7, e8, e9, some (.s (.lst (pk.map fun k : Nat => D.int (k : Int)))), e11, e12, some (.l (((pkd sp rs pk).take i).map fun r => .s (rowP r))), some (.s (.int (i : Int))), e15], [e0, e1, some (.s (.lst (rs.map rowD))), e3, e4, some (.s (.lst (dueD sp rs))), some (.s (rowP r)), e7, e8, e9, some (.s (.lst (pk.map fun k : Nat => D.int (k : Int)))), e11, e12, some (.l (((pkd sp rs pk).take (i + 1)).map fun r => .s (rowP r))), some (.s (.int (i : Int))), e15], by simp, ?_, _, _, rfl⟩
    have e4 : ((pkd sp rs pk).take (i + 1)).map (fun r => T.s (rowP r)) = ((pkd sp rs pk).take i).map (fun r => T.s (rowP r)) ++ [.s (rowP (pk1 sp r k))] := by
      rw [List.take_add_one, pkd_get hr2 hk]
      simp
    rw [e4]
    have hl2 : (((pkd sp rs pk).take i).map fun r => T.s (rowP r)).length ≤ 8 := by
      have := pkd_len (sp := sp) hp.l
      simp
      omega
    have q1 := plain_ok (hl r hm)
    have g1 : (rs.map rowD)[i]? = some (rowD r) := by rw [List.getElem?_map, hr2]; rfl
    have g2 : (pk.map fun k : Nat => D.int (k : Int))[i]? = some (.int (k : Int)) := by rw [List.getElem?_map, hk]; rfl
    have g3 : (dueD sp rs)[i]? = some (.lst (opR sp r)) := by rw [List.getElem?_map, hr2]; rfl
    have c1 : cutL (rowL r (.tup (r.ss.map secD))) none (some ((4 : Nat) : Int)) = (rowL r (.tup (r.ss.map secD))).take 4 := cutL_upto _ _
    have c2 : cutL (rowL r (.tup (r.ss.map secD))) (some ((5 : Nat) : Int)) none = (rowL r (.tup (r.ss.map secD))).drop 5 := cutL_from _ _
    have p1 : rowP (pk1 sp r k) = .tup [sD r.name, .str (kS r.horn), .int r.x, .int r.y, sD (pk1 sp r k).word, .int r.st, .int r.he, .tup (r.ss.map secD)] := rfl
    rw [p1]
    generalize ((pkd sp rs pk).take i).map (fun r => T.s (rowP r)) = L at hl2 ⊢
    generalize rs.map rowD = RS at g1 ⊢
    generalize rowD r = RD at g1 q1 ⊢
    generalize (pk.map fun k : Nat => D.int (k : Int)) = PK at g2 ⊢
    generalize dueD sp rs = DU at g3 ⊢
    generalize opR sp r = O at g3 hop ⊢
    generalize (pk1 sp r k).word = W at hop ⊢
    dsimp only [rowP, rowL] at q1 c1 c2 ⊢
    generalize kS r.horn = K at q1 c1 c2 ⊢
    generalize r.ss.map secD = S at q1 c1 c2 ⊢
    simp at c1 c2
    simp -implicitDefEqProofs [bo__law_asks_9_ap, few, few', atI_nat, g1, g2, g3, hop, q1, c1, c2, show L.length ≤ 1000000 by omega]) [e0, e1, some (.s (.lst (rs.map rowD))), e3, e4, some (.s (.lst (dueD sp rs))), b6, e7, e8, e9, some (.s (.lst (pk.map fun k : Nat => D.int (k : Int)))), e11, e12, some (.l []), b14, e15] ⟨_, _, rfl⟩
  refine ⟨a6, a14, ?_⟩
  rw [f1, he, rgD_len, List.take_of_length_le (by rw [pkd_len hp.l]; exact Nat.le_refl _)]
end VS
namespace VS
open PySem PySem.Spec L2
open PyProof.Rows hiding St
/-! ### the turns, and all that is asked -/
theorem frz_any (a : Option T) (e : En) : frz 0 (a :: e) = (a.map fun t => T.s (er t)) :: e := by cases a <;> rfl
theorem shs_pkT (pk : List Nat) : shs (pkT pk) = some (pk.map fun k : Nat => D.int (k : Int)) := by rw [pkT_map]; exact shs_map _
theorem ers_pkT (pk : List Nat) : ers (pkT pk) = pk.map fun k : Nat => D.int (k : Int) := by rw [pkT_map]; exact ers_map _
theorem eqOk_pk (pk : List Nat) (n : Nat) : eqOk (n + 1) (.lst (pk.map fun k : Nat => D.int (k : Int))) = true := by
  simp only [eqOk]
  apply eqOks_of
  intro d hd
  obtain ⟨k, _, rfl⟩ := List.mem_map.mp hd
  simp [eqOk]
theorem eqOk_words {ws : List Wd} (h : ∀ w ∈ ws, ∀ c ∈ w, c < 1000) (n : Nat) : eqOks n (ws.map sD) = true := by
  apply eqOks_of
  intro d hd
  obtain ⟨w, hw, rfl⟩ := List.mem_map.mp hd
  have := strOk_S (h w hw)
  simp [eqOk, this]
theorem small_row {r : Wd} {n : Nat} (h : isRow r n = true) : ∀ c ∈ r, c < 1000 := fun c hc => by
  unfold isRow at h
  simp only [Bool.and_eq_true, decide_eq_true_eq, List.all_eq_true] at h
  have := h.2.1 c hc
  simp at this
  omega
theorem ers_rows (rs : List Sig) : ers (rs.map fun r => T.s (rowP r)) = rs.map rowP := by
  have := ers_map (rs.map rowP)
  rwa [List.map_map] at this
theorem eqOk_rows {rs : List Sig} (o : ∀ r ∈ rs, Ok r) (n : Nat) : eqOk (n + 4) (.lst (rs.map rowP)) = true := by
  simp only [eqOk]
  apply eqOks_of
  intro d hd
  obtain ⟨r, hr, rfl⟩ := List.mem_map.mp hd
  exact eqOk_rowP (o r hr) n
/-- all that is the case of rows, signals, spares -/
structure Case (rows : List Wd) (w h : Nat) (rs : List Sig) (sp : List Spr) : Prop where
  oc : OkC rows w h
  os : OkS rs w h
  o : ∀ r ∈ rs, Ok r ∧ r.ss.length ≤ 1000
  sp : SpOk sp
theorem turn_ok {rows : List Wd} {w h : Nat} {rs : List Sig} {sp : List Spr} (C : Case rows w h rs sp) {t x5 : T} (F : Fd t) (h5 : er x5 = .lst (dueD sp rs)) (u : Nat) (a6 a8 a10 a11 a12 a13 a14 : Option T) :
    ∃ (t' : T) (a6 a10 a11 a12 a13 a14 : Option T), bo__law_asks_10 [some t, some (.s (.lst (rows.map sD))), some (.s (.lst (rs.map rowD))), some (.s (.lst (sp.map spD))), some (.s (coD (chD rows w h) rs)), some x5, b6, some (.s (.lst (sp.map spD))), a8, some (.s (.int (u : Int))), b10, b11, b12, b13, b14, none] =
      .ok (.nx, [some t', some (.s (.lst (rows.map sD))), some (.s (.lst (rs.map rowD))), some (.s (.lst (sp.map spD))), some (.s (coD (chD rows w h) rs)), some (.s (.lst (dueD sp rs))), a6, some (.s (.lst (sp.map spD))), a8, some (.s (.int (u : Int))), a10, a11, a12, a13, a14, none]) ∧ Fd t' := by
  obtain ⟨pk, t', q1, F', p1⟩ := picks_drawn C.sp C.os.l (some (.s (.lst (rows.map sD)))) (some (.s (.lst (rs.map rowD)))) (some (.s (.lst (sp.map spD)))) (some (.s (coD (chD rows w h) rs))) (some (.s (.lst (dueD sp rs)))) (some (.s (.lst (sp.map spD)))) a8 (some (.s (.int (u : Int)))) b10 b11 b12 b13 b14 none F
  obtain ⟨pk2, q2, p2⟩ := picks_last C.sp C.os.l (some t') (some (.s (.lst (rows.map sD)))) (some (.s (.lst (rs.map rowD)))) (some (.s (.lst (sp.map spD)))) (some (.s (coD (chD rows w h) rs))) (some (.s (.lst (dueD sp rs)))) (some (.s (.lst (sp.map spD)))) a8 (some (.s (.int (u : Int)))) (some (.l (pkT pk))) b11 b12 b13 b14 none
  -- the picks of this turn
  obtain ⟨pk3, p3, hu⟩ : ∃ pk3, Pk sp rs pk3 ∧ pk3 = if u = 1 then pk2 else pk := by
    by_cases hu : u = 1
    · exact ⟨pk2, p2, by rw [if_pos hu]⟩
    · exact ⟨pk, p1, by rw [if_neg hu]⟩
  have q3 := picked_ok (rows := rows) C.os C.o C.sp p3
  obtain ⟨c6, c14, q4⟩ := wanted_ok (b6 := b6.map fun t => T.s (er t)) (b14 := b14) C.os.l (fun r hr => (C.o r hr).2) p3 (some t') (some (.s (.lst (rows.map sD)))) (some (.s (.lst (sp.map spD)))) (some (.s (coD (chD rows w h) rs))) none (some (.s (.lst (sp.map spD)))) a8 (some (.s (.int (u : Int)))) (some (.l (pkT pk3))) (some (coT (chD rows w h) (pkd sp rs pk3))) none none
  have okp : ∀ q ∈ pkd sp rs pk3, Ok q := fun q hq => by
    obtain ⟨r, hr, k, rfl⟩ := pkd_mem hq
    exact pk1_ok (C.o r hr).1 k
  have q5 := rows_of_ok (ch := chD rows w h) (rs := pkd sp rs pk3) (by rw [pkd_len p3.l]; exact C.os.l)
  have n1 : pNe (.l ((pkd sp rs pk3).map fun r => T.s (rowP r))) (.l ((pkd sp rs pk3).map fun r => T.s (rowP r))) = some (.s (.bl false)) := pNe_refl (by rw [er_l, ers_rows]; exact eqOk_rows okp 56) rfl
  have n2 : pNe (.s (.tup (rows.map sD))) (.s (.tup (rows.map sD))) = some (.s (.bl false)) := pNe_refl (by
    show eqOk 60 (.tup _) = true
    simp only [eqOk]
    exact eqOk_words (fun r hr => small_row (C.oc.each r hr)) _) rfl
  have n3 : pNe (.s (.lst (pk3.map fun k : Nat => D.int (k : Int)))) (.l (pkT pk3)) = some (.s (.bl false)) := pNe_refl (eqOk_pk pk3 59) (by rw [er_l, ers_pkT]; rfl)
  have n4 : pNe (.s (.lst (sp.map spD))) (.s (.lst (sp.map spD))) = some (.s (.bl false)) := pNe_refl (by
    show eqOk 60 (.lst _) = true
    simp only [eqOk]
    exact eqOk_sp C.sp _) rfl
  have f1 : pFld "Chart" "rows" (.s (chD rows w h)) = some (.s (.tup (rows.map sD))) := by simp
  have r1 := er_coT (chD rows w h) (pkd sp rs pk3)
  have f2 : pFld "Coast" "chart" (.s (coD (chD rows w h) (pkd sp rs pk3))) = some (.s (chD rows w h)) := by simp
  have rg := rg1n (n := rs.length) (by have := C.os.l; omega)
  have rg' : rgO1 [.s (.int ((rs.map rowD).length : Int))] = some (rgD 0 (rs.length : Int)) := by rw [List.length_map]; exact rg
  have s1 := shs_pkT pk3
  have s2 := ers_pkT pk3
  have m1 : (pkT pk3) = (pk3.map fun k : Nat => D.int (k : Int)).map T.s := pkT_map pk3
  refine ⟨t', c6, some (.s (.lst (pk3.map fun k : Nat => D.int (k : Int)))), some (.l (pkT pk3)), some (.s (coD (chD rows w h) (pkd sp rs pk3))), some (.l ((pkd sp rs pk3).map fun r => T.s (rowP r))), c14, ?_, F'⟩
  have h1 : shs (pkT pk3) = some (pk3.map fun k : Nat => D.int (k : Int)) := s1
  have hlen : ((pkd sp rs pk3).map fun r => T.s (rowP r)).length ≤ 8 := by have := pkd_len (sp := sp) p3.l; have := C.os.l; simp; omega
  generalize (pkd sp rs pk3).map (fun r => T.s (rowP r)) = WA at q4 q5 n1 ⊢
  generalize coT (chD rows w h) (pkd sp rs pk3) = CT at q3 q4 r1 ⊢
  generalize coD (chD rows w h) (pkd sp rs pk3) = CD at q5 r1 f2 ⊢
  generalize chD rows w h = CH at q1 q2 q3 q4 f1 f2 ⊢
  generalize dueD sp rs = DU at q1 q2 q4 h5 ⊢
  generalize rows.map sD = RW at q1 q2 q4 n2 f1 ⊢
  generalize rs.map rowD = RS at q1 q2 q4 rg' ⊢
  generalize sp.map spD = SP at q1 q2 q3 q4 n4 ⊢
  dsimp only [coD] at q1 q2 q3 q4 ⊢
  generalize rs.map sigD = SG at q1 q2 q3 q4 ⊢
  by_cases hu1 : u = 1
  · rw [if_pos hu1] at hu
    subst hu
    generalize pkT pk = PT at q1 q2 ⊢
    generalize pkT pk3 = PT3 at q2 q4 n3 s1 s2 m1 h1 ⊢
    generalize (pk3.map fun k : Nat => D.int (k : Int)) = PK at q3 q4 n3 s1 s2 m1 h1 ⊢
    subst hu1
    rw [show ((1 : Nat) : Int) = 1 from rfl] at q1 q2 q4 ⊢
    rcases b6 with _ | v <;> simp only [Option.map] at q4 <;> simp -implicitDefEqProofs [bo__law_asks_10_ap, few, few', frz_any, h5, q1, q2, q3, q4, q5, n1, n2, n3, n4, f1, f2, r1, rg', h1, s2, ← m1]
  · rw [if_neg hu1] at hu
    subst hu
    have hu2 : ¬ (u : Int) = 1 := by omega
    generalize pkT pk3 = PT3 at q1 q2 q4 n3 s1 s2 m1 h1 ⊢
    generalize (pk3.map fun k : Nat => D.int (k : Int)) = PK at q3 q4 n3 s1 s2 m1 h1 ⊢
    rcases b6 with _ | v <;> simp only [Option.map] at q4 <;> simp -implicitDefEqProofs [bo__law_asks_10_ap, few, few', frz_any, h5, hu2, q1, q3, q4, q5, n1, n2, n3, n4, f1, f2, r1, rg', h1, s2, ← m1]
end VS
namespace VS
open PySem PySem.Spec L2
open PyProof.Rows hiding St
theorem dueT_take {sp : List Spr} {rs : List Sig} {i : Nat} {r : Sig} (h : rs[i]? = some r) : (dueT sp rs).take (i + 1) = (dueT sp rs).take i ++ [.l ((opR sp r).map T.s)] := by
  have : (dueT sp rs)[i]? = some (.l ((opR sp r).map T.s)) := by rw [List.getElem?_map, h]; rfl
  rw [List.take_add_one, this]
  rfl
theorem mapT_get {α : Type} {xs : List α} {f : α → T} {i : Nat} {d : T} (h : (xs.map f)[i]? = some d) : ∃ x, xs[i]? = some x ∧ d = f x := by
  rw [List.getElem?_map] at h
  cases e : xs[i]? with
  | none => rw [e] at h; cases h
  | some x => rw [e] at h; exact ⟨x, rfl, (Option.some.inj h).symm⟩
theorem law_asks_ok {rows : List Wd} {w h : Nat} {rs : List Sig} {sp : List Spr} (C : Case rows w h rs sp) {t : T} (F : Fd t) :
    ∃ t', m__law_asks [t, .s (.lst (rows.map sD)), .s (.lst (rs.map rowD)), .s (.lst (sp.map spD))] = .ok (.s (.bl true), [some t', none, none, none]) ∧ Fd t' := by
  have q1 := law_coast_ok C.oc C.os C.o
  obtain ⟨z1, f1, a1, hz1⟩ := for_inv (g := stS 6) (body := bo__law_asks_3) (ds := rs.map rowD) (I := fun i e => ∃ a, e = [some t, some (.s (.lst (rows.map sD))), some (.s (.lst (rs.map rowD))), some (.s (.lst (sp.map spD))), some (coT (chD rows w h) rs), some (.l ((dueT sp rs).take i)), a, none, none, none, none, none, none, none, none, none]) (fun i d e hd hI => by
    obtain ⟨a, rfl⟩ := hI
    obtain ⟨r, hr, rfl⟩ := map_get hd
    refine ⟨[some t, some (.s (.lst (rows.map sD))), some (.s (.lst (rs.map rowD))), some (.s (.lst (sp.map spD))), some (coT (chD rows w h) rs), some (.l ((dueT sp rs).take i)), some (.s (rowD r)), none, none, none, none, none, none, none, none, none], _, by simp, asks_due_row C.sp r _ _ _ _ _ (by have := C.os.l; simp; omega) _ _ _ _ _ _ _ _, some (.s (rowD r)), ?_⟩
    rw [dueT_take hr]) [some t, some (.s (.lst (rows.map sD))), some (.s (.lst (rs.map rowD))), some (.s (.lst (sp.map spD))), some (coT (chD rows w h) rs), some (.l []), none, none, none, none, none, none, none, none, none, none] ⟨none, rfl⟩
  subst hz1
  rw [show (rs.map rowD).length = (dueT sp rs).length by simp, List.take_length] at f1
  have q2 := options_ok (ch := chD rows w h) C.os.l C.sp
  obtain ⟨z2, f2, a2, hz2⟩ := forO_inv (g := stS 6) (body := bo__law_asks_6) (ts := dueT sp rs) (I := fun i e => ∃ a, e = [some t, some (.s (.lst (rows.map sD))), some (.s (.lst (rs.map rowD))), some (.s (.lst (sp.map spD))), some (.s (coD (chD rows w h) rs)), some (.l (dueT sp rs)), a, some (.s (.lst (sp.map spD))), none, none, none, none, none, none, none, none]) (fun i d e hd hI => by
    obtain ⟨a, rfl⟩ := hI
    obtain ⟨r, hr, rfl⟩ := mapT_get hd
    refine ⟨[some t, some (.s (.lst (rows.map sD))), some (.s (.lst (rs.map rowD))), some (.s (.lst (sp.map spD))), some (.s (coD (chD rows w h) rs)), some (.l (dueT sp rs)), some (.l ((opR sp r).map T.s)), some (.s (.lst (sp.map spD))), none, none, none, none, none, none, none, none], _, by simp, asks_row (fun d hd => ?_) (by
      have := List.length_filter_le (fun s => fits s.w r.horn) sp
      have := C.sp.1
      simp [opR]
      omega) _ _ _ _ _ _ _ _ _ _ _ _ _ _, _, rfl⟩
    rcases List.mem_cons.mp hd with rfl | hd
    · exact ⟨_, rfl⟩
    · obtain ⟨s, _, rfl⟩ := List.mem_map.mp hd
      exact ⟨_, rfl⟩) [some t, some (.s (.lst (rows.map sD))), some (.s (.lst (rs.map rowD))), some (.s (.lst (sp.map spD))), some (.s (coD (chD rows w h) rs)), some (.l (dueT sp rs)), a1, some (.s (.lst (sp.map spD))), none, none, none, none, none, none, none, none] ⟨a1, rfl⟩
  subst hz2
  have d1 := ers_opt rs sp
  obtain ⟨z3, f3, t', x5, a6, a9, a10, a11, a12, a13, a14, hz3, F', _⟩ := for_inv (g := stS 9) (body := bo__law_asks_10) (ds := rgD 0 ((2 : Nat) : Int)) (I := fun i e => ∃ (t' x5 : T) (a6 a9 a10 a11 a12 a13 a14 : Option T), e = [some t', some (.s (.lst (rows.map sD))), some (.s (.lst (rs.map rowD))), some (.s (.lst (sp.map spD))), some (.s (coD (chD rows w h) rs)), some x5, a6, some (.s (.lst (sp.map spD))), none, a9, a10, a11, a12, a13, a14, none] ∧ Fd t' ∧ er x5 = .lst (dueD sp rs)) (fun i d e hd hI => by
    obtain ⟨t', x5, a6, a9, a10, a11, a12, a13, a14, rfl, F', h5⟩ := hI
    obtain ⟨hi, rfl⟩ := rgD_some hd
    obtain ⟨t2, c6, c10, c11, c12, c13, c14, q3, F2⟩ := turn_ok (b6 := a6) (b10 := a10) (b11 := a11) (b12 := a12) (b13 := a13) (b14 := a14) C F' h5 i none none none none none none none
    exact ⟨[some t', some (.s (.lst (rows.map sD))), some (.s (.lst (rs.map rowD))), some (.s (.lst (sp.map spD))), some (.s (coD (chD rows w h) rs)), some x5, a6, some (.s (.lst (sp.map spD))), none, some (.s (.int (i : Int))), a10, a11, a12, a13, a14, none], _, by simp, q3, t2, _, _, _, _, _, _, _, _, rfl, F2, rfl⟩) [some t, some (.s (.lst (rows.map sD))), some (.s (.lst (rs.map rowD))), some (.s (.lst (sp.map spD))), some (.s (coD (chD rows w h) rs)), some (.l (dueT sp rs)), a2, some (.s (.lst (sp.map spD))), none, none, none, none, none, none, none, none] ⟨t, _, _, _, _, _, _, _, _, rfl, F, by rw [er_l]; exact congrArg D.lst d1⟩
  subst hz3
  have q4 := rows_of_ok (ch := chD rows w h) C.os.l
  have f4 := fun (e0 e1 e3 e4 e5 e7 e8 e9 e10 e11 e12 e13 e14 e15 : Option T) => lc_map (vs := [6]) (g := stS 6) (el := el__law_asks_11) (E := [e0, e1, some (.s (.lst (rs.map rowD))), e3, e4, e5, none, e7, e8, e9, e10, e11, e12, e13, e14, e15]) (f := fun d => match d with | .tup [a, b, c, d, e, f, g, .lst xs] => .s (.tup [a, b, c, d, e, f, g, .tup xs]) | _ => .s .non) (ds := rs.map rowD) (fun d hd => by
    obtain ⟨r, hr, rfl⟩ := List.mem_map.mp hd
    have p1 := plain_ok (C.o r hr).2
    refine ⟨[e0, e1, some (.s (.lst (rs.map rowD))), e3, e4, e5, some (.s (rowD r)), e7, e8, e9, e10, e11, e12, e13, e14, e15], [e0, e1, some (.s (.lst (rs.map rowD))), e3, e4, e5, some (.s (rowD r)), e7, e8, e9, e10, e11, e12, e13, e14, e15], by simp, ?_, by simp⟩
    show _ = R.ok (T.s (rowP r), _)
    generalize rowD r = RD at p1 ⊢
    generalize rowP r = RP at p1 ⊢
    simp -implicitDefEqProofs [el__law_asks_11_ap, p1]) [] (by have := C.os.l; simp; omega)
  have d2 : (rs.map rowD).map (fun d => match d with | .tup [a, b, c, d, e, f, g, .lst xs] => T.s (.tup [a, b, c, d, e, f, g, .tup xs]) | _ => .s .non) = rs.map fun r => T.s (rowP r) := by
    rw [List.map_map]
    rfl
  rw [d2] at f4
  simp only [List.nil_append] at f4
  have n1 : pNe (.l (dueT sp rs)) (.l (dueT sp rs)) = some (.s (.bl false)) := pNe_refl (by
    rw [er_l]
    have := eqOk_due C.sp (fun r hr => (C.o r hr).1) 56
    rw [show dueD sp rs = ers (dueT sp rs) from d1.symm] at this
    exact this) rfl
  have n2 : pNe (.s (.lst (sp.map spD))) (.s (.lst (sp.map spD))) = some (.s (.bl false)) := pNe_refl (by
    show eqOk 60 (.lst _) = true
    simp only [eqOk]
    exact eqOk_sp C.sp _) rfl
  have n3 : pEq (.l (rs.map fun r => T.s (rowP r))) (.l (rs.map fun r => T.s (rowP r))) = some (.s (.bl true)) := pEq_refl (by rw [er_l, ers_rows]; exact eqOk_rows (fun r hr => (C.o r hr).1) 56) rfl
  have rg : rgO1 [.s (.int 2)] = some (rgD 0 ((2 : Nat) : Int)) := rg1n (n := 2) (by omega)
  have r1 := er_coT (chD rows w h) rs
  have sm := ers_map (sp.map spD)
  have sl : (sp.map spD).length ≤ 1000 := by have := C.sp.1; simpa using this
  refine ⟨t', ?_, F'⟩
  dsimp only [dueT] at f1 f2 f3 n1 q2
  generalize (rs.map fun r => T.l ((opR sp r).map T.s)) = DT at f1 f2 f3 n1 q2 ⊢
  generalize coT (chD rows w h) rs = CT at q1 f1 r1 ⊢
  generalize coD (chD rows w h) rs = CD at q2 f2 f3 r1 q4 ⊢
  generalize rows.map sD = RW at q1 f1 f2 f3 ⊢
  generalize (rs.map fun r => T.s (rowP r)) = RT at q4 f4 n3 ⊢
  generalize rs.map rowD = RS at q1 f1 f2 f3 f4 ⊢
  generalize sp.map spD = SP at q2 f1 f2 f3 n2 sm sl ⊢
  rw [show ((2 : Nat) : Int) = 2 from rfl] at f3 rg
  rcases a6 with _ | v6 <;>
    simp -implicitDefEqProofs [m__law_asks, b__law_asks, few, few', frz_any, pIsi, tyN, isTy, tyK, q1, q2, f1, f2, f3, n1, n2, rg, r1, sm, f4, q4, n3]
end VS
namespace VS
open PySem PySem.Spec L2
open PyProof.Rows hiding St
/-! ### the law -/
theorem atom_oD (o : Option Int) : atomT (.s (oD o)) = some (.s (oD o)) := by cases o <;> rfl
theorem eqOk_oD (o : Option Int) (n : Nat) : eqOk n (oD o) = true := by cases o <;> simp [oD, eqOk]
theorem ers_sp (l : List Spr) : ers (l.map fun s => T.s (spD s)) = l.map spD := by
  have := ers_map (l.map spD)
  rwa [List.map_map] at this
theorem shs_sp (l : List Spr) : shs (l.map fun s => T.s (spD s)) = some (l.map spD) := by
  have := shs_map (l.map spD)
  rwa [List.map_map] at this
theorem law_turn {t : T} {i : Nat} (F : Fd t) (sc a3 a4 : Option T) : ∃ (t' : T) (c3 c4 : Option T), bo_law_1 [sc, some t, some (.s (.int (i : Int))), a3, a4, none, none, none, none, none, none] = .ok (.nx, [sc, some t', some (.s (.int (i : Int))), c3, c4, none, none, none, none, none, none]) ∧ Fd t' := by
  obtain ⟨many, t1, e1, F1, m0, m1⟩ := draw_ok F (many := 5) (by omega) (by omega)
  obtain ⟨many, rfl⟩ : ∃ k : Nat, many = k := ⟨many.toNat, by omega⟩
  obtain ⟨l, t2, e2, F2, hl, hs, hg⟩ := law_spares_ok (good := decide (i = 0)) (many := many) F1 (by omega)
  have e3 := law_refused_ok hs
  have e4 := law_due_ok hs
  have n1 : pNe (.s (oD (dueS l))) (.s (oD (dueS l))) = some (.s (.bl false)) := pNe_refl (eqOk_oD _ 60) rfl
  have n2 : pNe (.l (l.map fun s => T.s (spD s))) (.l ((l.map spD).map T.s)) = some (.s (.bl false)) := pNe_refl (by
    rw [er_l, ers_sp]
    show eqOk 60 (.lst _) = true
    simp only [eqOk]
    exact eqOk_sp hs _) (by rw [er_l, er_l, ers_sp, ers_map])
  have s1 := shs_sp l
  have s2 := ers_sp l
  have at_ := atom_oD (dueS l)
  refine ⟨t2, some (.l (l.map fun s => T.s (spD s))), some (.l ((l.map spD).map T.s)), ?_, F2⟩
  generalize oD (dueS l) = O at e3 e4 n1 at_
  generalize (l.map fun s => T.s (spD s)) = L at e2 n2 s1 s2 ⊢
  generalize l.map spD = M at e3 e4 n2 s1 s2 ⊢
  generalize hG : decide (i = 0) = G at e2
  simp -implicitDefEqProofs [bo_law_1_ap, few, few', e1, hG, e2, e3, e4, n1, n2, s1, s2, at_]
theorem q_Wd : Str.ofString "W." = S [87, 46] := by rw [ofList_S]; rfl
theorem q_WL : Str.ofString "WL" = S [87, 76] := by rw [ofList_S]; rfl
theorem ref1 : m__law_refused [.s (.lst [.tup [sD [87], .int 1], .tup [sD [76], .int 99], .tup [sD [87, 46], .int 5]])] = .ok (.s .non, [none]) :=
  law_refused_ok (l := [⟨[87], 1⟩, ⟨[76], 99⟩, ⟨[87, 46], 5⟩]) ⟨by decide, by decide⟩
theorem ref2 : m__law_refused [.s (.lst [])] = .ok (.s .non, [none]) := law_refused_ok (l := []) ⟨by decide, by decide⟩
theorem ref3 : m__law_refused [.s (.lst [.tup [sD [87], .int 1], .tup [sD [76], .int 99], .tup [sD [87, 46], .int 5], .tup [sD [87], .int 1]])] = .ok (.s (.int (-1)), [none]) :=
  law_refused_ok (l := [⟨[87], 1⟩, ⟨[76], 99⟩, ⟨[87, 46], 5⟩, ⟨[87], 1⟩]) ⟨by decide, by decide⟩
theorem ref4 : m__law_refused [.s (.lst [.tup [sD [76], .int 1], .tup [sD [87, 76], .int 0]])] = .ok (.s (.int 1), [none]) :=
  law_refused_ok (l := [⟨[76], 1⟩, ⟨[87, 76], 0⟩]) ⟨by decide, by decide⟩
theorem words_drawn {t : T} (F : Fd t) (e0 e2 e3 e4 e5 e6 e7 e8 e10 : Option T) : ∃ (us : List Wd) (t' : T), lcL [9] (stS 9) yesT el_law_2 (rgD 0 ((3 : Nat) : Int)) [] [e0, some t, e2, e3, e4, e5, e6, e7, e8, none, e10] = .ok (us.map sT, [e0, some t', e2, e3, e4, e5, e6, e7, e8, none, e10]) ∧ Fd t' ∧ us.length = 3 ∧ ∀ u ∈ us, Lit u LLT 6 := by
  obtain ⟨ts, e', f1, ⟨us, t', rfl, rfl, F', hl, hu⟩, _⟩ := lc_inv (vs := [9]) (g := stS 9) (el := el_law_2) (ds := rgD 0 ((3 : Nat) : Int)) (I := fun i ts e => ∃ (us : List Wd) (t' : T), ts = us.map sT ∧ e = [e0, some t', e2, e3, e4, e5, e6, e7, e8, none, e10] ∧ Fd t' ∧ us.length = i ∧ ∀ u ∈ us, Lit u LLT 6) (fun i d ts e hd hI => by
    obtain ⟨us, t1, rfl, rfl, F1, hl, hu⟩ := hI
    obtain ⟨hi, rfl⟩ := rgD_some hd
    obtain ⟨u, t2, q1, F2, hu2⟩ := law_word_ok (w := LLT) (longest := 6) F1 (by decide) (by decide) (by decide) (by decide)
    refine ⟨[e0, some t1, e2, e3, e4, e5, e6, e7, e8, some (.s (.int (i : Int))), e10], sT u, [e0, some t2, e2, e3, e4, e5, e6, e7, e8, some (.s (.int (i : Int))), e10], by simp, ?_, us ++ [u], t2, by simp, by simp, F2, by simp [hl], fun x hx => ?_⟩
    · rw [show ((6 : Nat) : Int) = 6 from rfl] at q1
      generalize hL : LLT = L at q1
      simp -implicitDefEqProofs [el_law_2_ap, few, q_LLT, hL, q1]
    · rcases List.mem_append.mp hx with z | z
      · exact hu x z
      · have : x = u := by simpa using z
        subst this
        exact hu2) [] [e0, some t, e2, e3, e4, e5, e6, e7, e8, none, e10] ⟨[], t, rfl, rfl, F, rfl, by simp⟩ (by rw [rgD_len]; decide)
  exact ⟨us, t', f1, F', by rw [rgD_len] at hl; exact hl, hu⟩
theorem signals_drawn {t : T} (F : Fd t) {rows ws nms : List Wd} {w h : Nat} (oc : OkC rows w h) (hw : 0 < ws.length) (hwl : ws.length ≤ 100) (hws : ∀ u ∈ ws, Lit u LLT 20) (hn : nms.length ≤ 8) (hnm : ∀ n ∈ nms, isName n = true ∧ n.length ≤ 12) (e0 e2 e3 e4 e6 e8 e9 : Option T) :
    ∃ (rs : List Sig) (t' : T), lcL [10] (stS 10) yesT el_law_3 (nms.map sD) [] [e0, some t, e2, e3, e4, some (.s (.lst (rows.map sD))), e6, some (.s (.lst (ws.map sD))), e8, e9, none] = .ok (rs.map fun r => .s (rowD r), [e0, some t', e2, e3, e4, some (.s (.lst (rows.map sD))), e6, some (.s (.lst (ws.map sD))), e8, e9, none]) ∧ Fd t' ∧ rs.map Sig.name = nms ∧ ∀ r ∈ rs, Ok r ∧ r.ss.length ≤ 6 ∧ (0 ≤ r.x ∧ r.x < w) ∧ (0 ≤ r.y ∧ r.y < h) := by
  obtain ⟨ts, e', f1, ⟨rs, t', rfl, rfl, F', hl, hu⟩, _⟩ := lc_inv (vs := [10]) (g := stS 10) (el := el_law_3) (ds := nms.map sD) (I := fun i ts e => ∃ (rs : List Sig) (t' : T), ts = (rs.map fun r => T.s (rowD r)) ∧ e = [e0, some t', e2, e3, e4, some (.s (.lst (rows.map sD))), e6, some (.s (.lst (ws.map sD))), e8, e9, none] ∧ Fd t' ∧ rs.map Sig.name = nms.take i ∧ ∀ r ∈ rs, Ok r ∧ r.ss.length ≤ 6 ∧ (0 ≤ r.x ∧ r.x < w) ∧ (0 ≤ r.y ∧ r.y < h)) (fun i d ts e hd hI => by
    obtain ⟨rs, t1, rfl, rfl, F1, hl, hu⟩ := hI
    obtain ⟨nm, hnm2, rfl⟩ := map_get hd
    have hm := hnm nm (List.mem_of_getElem? hnm2)
    obtain ⟨r, t2, q1, F2, rn, ro, rl, rx, ry⟩ := law_signal_ok F1 hm.1 hm.2 oc hw hwl hws
    refine ⟨[e0, some t1, e2, e3, e4, some (.s (.lst (rows.map sD))), e6, some (.s (.lst (ws.map sD))), e8, e9, some (sT nm)], .s (rowD r), [e0, some t2, e2, e3, e4, some (.s (.lst (rows.map sD))), e6, some (.s (.lst (ws.map sD))), e8, e9, some (sT nm)], by simp, ?_, rs ++ [r], t2, by simp, by simp, F2, ?_, fun x hx => ?_⟩
    · generalize rows.map sD = RW at q1 ⊢
      generalize ws.map sD = WS at q1 ⊢
      generalize rowD r = RD at q1 ⊢
      simp -implicitDefEqProofs [el_law_3_ap, few, q1]
    · rw [List.map_append, hl, List.take_add_one, hnm2, List.map_singleton, rn]
      rfl
    · rcases List.mem_append.mp hx with z | z
      · exact hu x z
      · have : x = r := by simpa using z
        subst this
        exact ⟨ro, rl, rx, ry⟩) [] [e0, some t, e2, e3, e4, some (.s (.lst (rows.map sD))), e6, some (.s (.lst (ws.map sD))), e8, e9, none] ⟨[], t, rfl, rfl, F, rfl, by simp⟩ (by simp; omega)
  exact ⟨rs, t', f1, F', by rw [hl, List.length_map, List.take_length], hu⟩
end VS
namespace VS
open PySem PySem.Spec L2
open PyProof.Rows hiding St
theorem dueS_none {l : List Spr} (hl : l.length ≤ 3) (h : ∀ s ∈ l, bad s = false) : dueS l = none := by
  unfold dueS
  rw [if_neg (by omega)]
  cases q : fstBad l with
  | none => rfl
  | some n =>
    obtain ⟨⟨s, hs, hb⟩, _⟩ := fstBad_some q
    rw [h s (List.mem_of_getElem? hs)] at hb
    cases hb
theorem ers_rowD (rs : List Sig) : ers (rs.map fun r => T.s (rowD r)) = rs.map rowD := by
  have := ers_map (rs.map rowD)
  rwa [List.map_map] at this
theorem its_words (ws : List Wd) : (T.l (ws.map sT)).its = some (ws.map sD) := ls_words ws
theorem law_true (ns : List Int) (h : ns.length ≤ 63) : ∃ us, m_law [.s (.scr ns)] = .ok (.s (.bl true), us) := by
  obtain ⟨t0, e0, F0⟩ := feed_ok ns h
  obtain ⟨z1, f1, t1, a2, a3, a4, hz1, F1⟩ := for_inv (g := stS 2) (body := bo_law_1) (ds := rgD 0 ((3 : Nat) : Int)) (I := fun i e => ∃ (t1 : T) (a2 a3 a4 : Option T), e = [some (.s (.scr ns)), some t1, a2, a3, a4, none, none, none, none, none, none] ∧ Fd t1) (fun i d e hd hI => by
    obtain ⟨t1, a2, a3, a4, rfl, F1⟩ := hI
    obtain ⟨hi, rfl⟩ := rgD_some hd
    obtain ⟨t2, c3, c4, q, F2⟩ := law_turn (i := i) F1 (some (.s (.scr ns))) a3 a4
    exact ⟨[some (.s (.scr ns)), some t1, some (.s (.int (i : Int))), a3, a4, none, none, none, none, none, none], _, by simp, q, t2, _, _, _, rfl, F2⟩) [some (.s (.scr ns)), some t0, none, none, none, none, none, none, none, none, none] ⟨t0, _, _, _, rfl, F0⟩
  subst hz1
  obtain ⟨rows, w, hh, t2, e2, F2, oc⟩ := law_rows_ok (most := 3) F1 (by omega) (by omega)
  rw [show ((3 : Nat) : Int) = 3 from rfl] at e2
  obtain ⟨m, t3, e3, F3, m0, m1⟩ := draw_ok F2 (many := 5) (by omega) (by omega)
  obtain ⟨m, rfl⟩ : ∃ k : Nat, m = k := ⟨m.toNat, by omega⟩
  obtain ⟨d8, t4, e4, F4, _, _⟩ := draw_ok F3 (many := 8) (by omega) (by omega)
  obtain ⟨n, hn, hn2⟩ : ∃ n : Nat, n ≤ 8 ∧ (n : Int) = if d8 = 0 then 8 else (m : Int) := by
    by_cases h : d8 = 0
    · exact ⟨8, by omega, by rw [if_pos h]; rfl⟩
    · exact ⟨m, by omega, by rw [if_neg h]⟩
  obtain ⟨us, t5, e5, F5, ul, uL⟩ := words_drawn F4 (some (.s (.scr ns))) a2 a3 a4 (some (.l (rows.map sT))) (some (.s (.int (n : Int)))) none none none
  obtain ⟨nms, t6, e6, F6, nl, nd, nn⟩ := law_names_ok F5 hn
  obtain ⟨rs, t7, e7, F7, rn, ro⟩ := signals_drawn F6 oc (ws := us) (nms := nms) (by omega) (by omega) (fun u hu => (uL u hu).mono (by omega)) (by omega) nn (some (.s (.scr ns))) a2 a3 a4 (some (.s (.int (n : Int)))) none none
  obtain ⟨k, t8, e8, F8, k0, k1⟩ := draw_ok F7 (many := 4) (by omega) (by omega)
  obtain ⟨k, rfl⟩ : ∃ j : Nat, k = j := ⟨k.toNat, by omega⟩
  obtain ⟨sp, t9, e9, F9, sl, so, sg⟩ := law_spares_ok (good := true) (many := k) F8 (by omega)
  have e10 := law_refused_ok so
  rw [dueS_none (by omega) (sg rfl)] at e10
  have rl : rs.length ≤ 8 := by
    have := congrArg List.length rn
    rw [List.length_map] at this
    omega
  have C : Case rows w hh rs sp := ⟨oc, ⟨rl, by rw [rn]; exact nd, fun r hr => (ro r hr).2.2⟩, fun r hr => ⟨(ro r hr).1, by have := (ro r hr).2.1; omega⟩, so⟩
  obtain ⟨t10, e11, F10⟩ := law_asks_ok C F9
  have g1 : rgO1 [.s (.int 3)] = some (rgD 0 ((3 : Nat) : Int)) := rg1n (n := 3) (by omega)
  have w1 := ers_words rows
  have w2 := ers_words us
  have w3 := its_words nms
  have w4 := ers_rowD rs
  have w5 := ers_sp sp
  have r1 := ref1
  have r2 := ref2
  have r3 := ref3
  have r4 := ref4
  refine ⟨[none], ?_⟩
  generalize rgD 0 ((3 : Nat) : Int) = R3 at f1 e5 g1
  generalize rows.map sT = A1 at e2 e5 w1 ⊢
  generalize rows.map sD = A2 at e7 e11 w1 ⊢
  generalize us.map sT = A3 at e5 w2 ⊢
  generalize us.map sD = A4 at e7 w2 ⊢
  generalize nms.map sT = A5 at e6 w3 ⊢
  generalize nms.map sD = A6 at e7 w3 ⊢
  generalize (rs.map fun r => T.s (rowD r)) = A7 at e7 w4 ⊢
  generalize rs.map rowD = A8 at e11 w4 ⊢
  generalize (sp.map fun s => T.s (spD s)) = A9 at e9 w5 ⊢
  generalize sp.map spD = A10 at e10 e11 w5 ⊢
  by_cases h8 : d8 = 0
  · rw [if_pos h8] at hn2
    rw [hn2] at e5 e6 e7
    subst h8
    simp -implicitDefEqProofs [m_law, b_law, few, few', e0, g1, f1, e2, e3, e4, e5, e6, e7, e8, e9, e10, e11, w1, w2, w3, w4, w5, oD, q_W, q_L, q_Wd, q_WL, r1, r2, r3, r4]
  · rw [if_neg h8] at hn2
    rw [hn2] at e5 e6 e7
    simp -implicitDefEqProofs [m_law, b_law, few, few', h8, e0, g1, f1, e2, e3, e4, e5, e6, e7, e8, e9, e10, e11, w1, w2, w3, w4, w5, oD, q_W, q_L, q_Wd, q_WL, r1, r2, r3, r4]
end VS
namespace VS
open PySem PySem.Spec L2
open PyProof.Rows hiding St
def spLaw (K : PySem.W.Frag) : Sp := fun vs H Q _ => ∃ (a : Addr) (ns : List Int), vs = [.ref a] ∧ SqL K H a (ns.map V.int) ∧ ns.length ≤ 63 ∧ ∀ H', Q (.bl true) H'
theorem noCX {P : Program} {w : World} {H : Hp} {s : Shared} {e : Value} {s' : Shared} (h : L2.CX P w [] H s (fun _ _ _ => False) e s') : False := by
  obtain ⟨_, _, _, _, _, _, _, _, _, _, _, _, z⟩ := h
  exact z
theorem law_of {w : World} {K : PySem.W.Frag} {mg : Str → Option Value} {fa : Addr} (hmg : mg "law" = some (.ref fa)) (T : Tx K mg) : ∃ fd : FuncData, (∀ (s : Shared) (v : Value), BindsTo s fd ⟨[v], []⟩ [("script", v)]) ∧ ∀ base : Heap, K.In base → base.Ns mainGlobals mg →
    FnOk PySem.Challenge.pw_lightstold_k75_spares_options_and_picked w K mg base (L2.CX PySem.Challenge.pw_lightstold_k75_spares_options_and_picked w) 15 fa fd ["script"] (spLaw K) := by
  have e := hmg.symm.trans T.g_law
  cases e
  refine ⟨T.d_law, T.e_law, fun base _ _ => (G_law T).imp fun vs H Q E h => ?_⟩
  obtain ⟨a, ns, rfl, hS, hl, q⟩ := h
  obtain ⟨us, e⟩ := law_true ns hl
  refine ⟨rfl, [.s (.scr ns)], H, [], ?_, List.nodup_nil, by simp, Same.refl H, ?_⟩
  · simp only [Owns, Own, Rep]
    exact ⟨.ref a, [], [], [], rfl, ⟨⟨a, rfl, hS⟩, rfl⟩, ⟨rfl, rfl⟩, rfl⟩
  · rw [e]
    intro v F' H' fp' ft _ o _ _ _ _
    simp only [Own, Rep] at o
    rw [o.1]
    exact q H'

def tx_mk {h : Heap} {K : PySem.W.Frag} {mg : Str → Option Value} (X : K.In h) (G : h.Ns mainGlobals mg) {C0 C1 C2 X0 X1 X2 X3 X4 X5 : Addr} {f0 : Addr} {od0 an0 : Option Addr} {sl0 : Array (Option Value)} {oc0 kV0 dc0 pm0 cd0 ct0 : Value} {f1 : Addr} {od1 an1 : Option Addr} {sl1 : Array (Option Value)} {oc1 kV1 dc1 pm1 cd1 ct1 : Value} {f2 : Addr} {od2 an2 : Option Addr} {sl2 : Array (Option Value)} {oc2 kV2 dc2 pm2 cd2 ct2 : Value} {f3 : Addr} {od3 an3 : Option Addr} {sl3 : Array (Option Value)} {oc3 kV3 dc3 pm3 cd3 ct3 : Value} {f4 : Addr} {od4 an4 : Option Addr} {sl4 : Array (Option Value)} {oc4 kV4 dc4 pm4 cd4 ct4 : Value} {f5 : Addr} {od5 an5 : Option Addr} {sl5 : Array (Option Value)} {oc5 kV5 dc5 pm5 cd5 ct5 : Value} {f6 : Addr} {od6 an6 : Option Addr} {sl6 : Array (Option Value)} {oc6 kV6 dc6 pm6 cd6 ct6 : Value} {f7 : Addr} {od7 an7 : Option Addr} {sl7 : Array (Option Value)} {oc7 kV7 dc7 pm7 cd7 ct7 : Value} {f8 : Addr} {od8 an8 : Option Addr} {sl8 : Array (Option Value)} {oc8 kV8 dc8 pm8 cd8 ct8 : Value} {f9 : Addr} {od9 an9 : Option Addr} {sl9 : Array (Option Value)} {oc9 kV9 dc9 pm9 cd9 ct9 : Value} {f10 : Addr} {od10 an10 : Option Addr} {sl10 : Array (Option Value)} {oc10 kV10 dc10 pm10 cd10 ct10 : Value} {f11 : Addr} {od11 an11 : Option Addr} {sl11 : Array (Option Value)} {oc11 kV11 dc11 pm11 cd11 ct11 : Value} {f12 : Addr} {od12 an12 : Option Addr} {sl12 : Array (Option Value)} {oc12 kV12 dc12 pm12 cd12 ct12 : Value} {f13 : Addr} {od13 an13 : Option Addr} {sl13 : Array (Option Value)} {oc13 kV13 dc13 pm13 cd13 ct13 : Value} {f14 : Addr} {od14 an14 : Option Addr} {sl14 : Array (Option Value)} {oc14 kV14 dc14 pm14 cd14 ct14 : Value} {f15 : Addr} {od15 an15 : Option Addr} {sl15 : Array (Option Value)} {oc15 kV15 dc15 pm15 cd15 ct15 : Value} {f16 : Addr} {od16 an16 : Option Addr} {sl16 : Array (Option Value)} {oc16 kV16 dc16 pm16 cd16 ct16 : Value} {f17 : Addr} {od17 an17 : Option Addr} {sl17 : Array (Option Value)} {oc17 kV17 dc17 pm17 cd17 ct17 : Value} {f18 : Addr} {od18 an18 : Option Addr} {sl18 : Array (Option Value)} {oc18 kV18 dc18 pm18 cd18 ct18 : Value} {f19 : Addr} {od19 an19 : Option Addr} {sl19 : Array (Option Value)} {oc19 kV19 dc19 pm19 cd19 ct19 : Value} {f20 : Addr} {od20 an20 : Option Addr} {sl20 : Array (Option Value)} {oc20 kV20 dc20 pm20 cd20 ct20 : Value} {f21 : Addr} {od21 an21 : Option Addr} {sl21 : Array (Option Value)} {oc21 kV21 dc21 pm21 cd21 ct21 : Value} {f22 : Addr} {od22 an22 : Option Addr} {sl22 : Array (Option Value)} {oc22 kV22 dc22 pm22 cd22 ct22 : Value} {f23 : Addr} {od23 an23 : Option Addr} {sl23 : Array (Option Value)} {oc23 kV23 dc23 pm23 cd23 ct23 : Value} {f24 : Addr} {od24 an24 : Option Addr} {sl24 : Array (Option Value)} {oc24 kV24 dc24 pm24 cd24 ct24 : Value} {f25 : Addr} {od25 an25 : Option Addr} {sl25 : Array (Option Value)} {oc25 kV25 dc25 pm25 cd25 ct25 : Value} {f26 : Addr} {od26 an26 : Option Addr} {sl26 : Array (Option Value)} {oc26 kV26 dc26 pm26 cd26 ct26 : Value} {f27 : Addr} {od27 an27 : Option Addr} {sl27 : Array (Option Value)} {oc27 kV27 dc27 pm27 cd27 ct27 : Value} {f28 : Addr} {od28 an28 : Option Addr} {sl28 : Array (Option Value)} {oc28 kV28 dc28 pm28 cd28 ct28 : Value} {f29 : Addr} {od29 an29 : Option Addr} {sl29 : Array (Option Value)} {oc29 kV29 dc29 pm29 cd29 ct29 : Value} {f30 : Addr} {od30 an30 : Option Addr} {sl30 : Array (Option Value)} {oc30 kV30 dc30 pm30 cd30 ct30 : Value} {f31 : Addr} {od31 an31 : Option Addr} {sl31 : Array (Option Value)} {oc31 kV31 dc31 pm31 cd31 ct31 : Value} {f32 : Addr} {od32 an32 : Option Addr} {sl32 : Array (Option Value)} {oc32 kV32 dc32 pm32 cd32 ct32 : Value} {f33 : Addr} {od33 an33 : Option Addr} {sl33 : Array (Option Value)} {oc33 kV33 dc33 pm33 cd33 ct33 : Value} {f34 : Addr} {od34 an34 : Option Addr} {sl34 : Array (Option Value)} {oc34 kV34 dc34 pm34 cd34 ct34 : Value} {f35 : Addr} {od35 an35 : Option Addr} {sl35 : Array (Option Value)} {oc35 kV35 dc35 pm35 cd35 ct35 : Value} {f36 : Addr} {od36 an36 : Option Addr} {sl36 : Array (Option Value)} {oc36 kV36 dc36 pm36 cd36 ct36 : Value} {f37 : Addr} {od37 an37 : Option Addr} {sl37 : Array (Option Value)} {oc37 kV37 dc37 pm37 cd37 ct37 : Value} {f38 : Addr} {od38 an38 : Option Addr} {sl38 : Array (Option Value)} {oc38 kV38 dc38 pm38 cd38 ct38 : Value} {f39 : Addr} {od39 an39 : Option Addr} {sl39 : Array (Option Value)} {oc39 kV39 dc39 pm39 cd39 ct39 : Value} {f40 : Addr} {od40 an40 : Option Addr} {sl40 : Array (Option Value)} {oc40 kV40 dc40 pm40 cd40 ct40 : Value} {f41 : Addr} {od41 an41 : Option Addr} {sl41 : Array (Option Value)} {oc41 kV41 dc41 pm41 cd41 ct41 : Value} {f42 : Addr} {od42 an42 : Option Addr} {sl42 : Array (Option Value)} {oc42 kV42 dc42 pm42 cd42 ct42 : Value} {nmX0 qnX0 : Str} {NX0 : Addr} {bsX0 bmX0 : List Value} {snX0 : List Str} {subX0 : List Value} {abX0 : Bool} {colX0 : Option Bool} {ddX0 : Option Addr} {m0X0 m1X0 m2X0 m3X0 m5X0 : Option Value} {f43 : Addr} {od43 an43 : Option Addr} {sl43 : Array (Option Value)} {oc43 kV43 dc43 pm43 cd43 ct43 : Value} {nmX1 qnX1 : Str} {NX1 : Addr} {bsX1 bmX1 : List Value} {snX1 : List Str} {subX1 : List Value} {abX1 : Bool} {colX1 : Option Bool} {ddX1 : Option Addr} {m0X1 m1X1 m2X1 m3X1 m5X1 : Option Value} {f44 : Addr} {od44 an44 : Option Addr} {sl44 : Array (Option Value)} {oc44 kV44 dc44 pm44 cd44 ct44 : Value} {nmX2 qnX2 : Str} {NX2 : Addr} {bsX2 bmX2 : List Value} {snX2 : List Str} {subX2 : List Value} {abX2 : Bool} {colX2 : Option Bool} {ddX2 : Option Addr} {m0X2 m1X2 m2X2 m3X2 m5X2 : Option Value} {f45 : Addr} {od45 an45 : Option Addr} {sl45 : Array (Option Value)} {oc45 kV45 dc45 pm45 cd45 ct45 : Value} {nmX3 qnX3 : Str} {NX3 : Addr} {bsX3 bmX3 : List Value} {snX3 : List Str} {subX3 : List Value} {abX3 : Bool} {colX3 : Option Bool} {ddX3 : Option Addr} {m0X3 m1X3 m2X3 m3X3 m5X3 : Option Value} {f46 : Addr} {od46 an46 : Option Addr} {sl46 : Array (Option Value)} {oc46 kV46 dc46 pm46 cd46 ct46 : Value} {nmX4 qnX4 : Str} {NX4 : Addr} {bsX4 bmX4 : List Value} {snX4 : List Str} {subX4 : List Value} {abX4 : Bool} {colX4 : Option Bool} {ddX4 : Option Addr} {m0X4 m1X4 m2X4 m3X4 m5X4 : Option Value} {f47 : Addr} {od47 an47 : Option Addr} {sl47 : Array (Option Value)} {oc47 kV47 dc47 pm47 cd47 ct47 : Value} {nmX5 qnX5 : Str} {NX5 : Addr} {bsX5 bmX5 : List Value} {snX5 : List Str} {subX5 : List Value} {abX5 : Bool} {colX5 : Option Bool} {ddX5 : Option Addr} {m0X5 m1X5 m2X5 m3X5 m5X5 : Option Value} {f48 : Addr} {od48 an48 : Option Addr} {sl48 : Array (Option Value)} {oc48 kV48 dc48 pm48 cd48 ct48 : Value} {ta_FIELDS : Addr} {to_FIELDS : Obj} {ta_GLASSES : Addr} {to_GLASSES : Obj} {tk_HORN_LETTERS : Tok} {tk_LETTERS : Tok} {tk_LIGHT_LETTERS : Tok} {tk_MOST_HIGH : Tok} {tk_MOST_LETTERS : Tok} {tk_MOST_PART : Tok} {tk_MOST_PRICE : Tok} {tk_MOST_SECTORS : Tok} {tk_MOST_SIGNALS : Tok} {tk_MOST_SPARES : Tok} {tk_MOST_WIDE : Tok}
    (gC0 : PySem.W.nsIn K mainGlobals "Coast" = some (some (.ref C0)))
    (gC1 : PySem.W.nsIn K mainGlobals "Signal" = some (some (.ref C1)))
    (gC2 : PySem.W.nsIn K mainGlobals "Chart" = some (some (.ref C2)))
    (gX0 : PySem.W.nsIn K mainGlobals "BadChart" = some (some (.ref X0)))
    (gX1 : PySem.W.nsIn K mainGlobals "BadCoast" = some (some (.ref X1)))
    (gX2 : PySem.W.nsIn K mainGlobals "BadDirection" = some (some (.ref X2)))
    (gX3 : PySem.W.nsIn K mainGlobals "BadSectors" = some (some (.ref X3)))
    (gX4 : PySem.W.nsIn K mainGlobals "BadSignal" = some (some (.ref X4)))
    (gX5 : PySem.W.nsIn K mainGlobals "BadSpare" = some (some (.ref X5)))
    (x0 : PySem.W.nsIn K mainGlobals "is_word" = some (some (.ref f0)))
    (l0 : K.lookup f0 = some ⟨oc0, od0, .func (PySem.W.fnOf "is_word" "is_word" (defArgs s_is_word) (defBody s_is_word) (defScope s_is_word) .none kV0 dc0 pm0 an0 cd0 ct0), sl0⟩)
    (c0 : PySem.W.codeIn K cd0 "is_word" = true)
    (k0 : PySem.W.keepIn K (.ref f0) = true)
    (x1 : PySem.W.nsIn K mainGlobals "quarter" = some (some (.ref f1)))
    (l1 : K.lookup f1 = some ⟨oc1, od1, .func (PySem.W.fnOf "quarter" "quarter" (defArgs s_quarter) (defBody s_quarter) (defScope s_quarter) .none kV1 dc1 pm1 an1 cd1 ct1), sl1⟩)
    (c1 : PySem.W.codeIn K cd1 "quarter" = true)
    (k1 : PySem.W.keepIn K (.ref f1) = true)
    (x2 : PySem.W.nsIn K mainGlobals "cross" = some (some (.ref f2)))
    (l2 : K.lookup f2 = some ⟨oc2, od2, .func (PySem.W.fnOf "cross" "cross" (defArgs s_cross) (defBody s_cross) (defScope s_cross) .none kV2 dc2 pm2 an2 cd2 ct2), sl2⟩)
    (c2 : PySem.W.codeIn K cd2 "cross" = true)
    (k2 : PySem.W.keepIn K (.ref f2) = true)
    (x3 : PySem.W.nsIn K mainGlobals "same_ray" = some (some (.ref f3)))
    (l3 : K.lookup f3 = some ⟨oc3, od3, .func (PySem.W.fnOf "same_ray" "same_ray" (defArgs s_same_ray) (defBody s_same_ray) (defScope s_same_ray) .none kV3 dc3 pm3 an3 cd3 ct3), sl3⟩)
    (c3 : PySem.W.codeIn K cd3 "same_ray" = true)
    (k3 : PySem.W.keepIn K (.ref f3) = true)
    (x4 : PySem.W.nsIn K mainGlobals "comes_before" = some (some (.ref f4)))
    (l4 : K.lookup f4 = some ⟨oc4, od4, .func (PySem.W.fnOf "comes_before" "comes_before" (defArgs s_comes_before) (defBody s_comes_before) (defScope s_comes_before) .none kV4 dc4 pm4 an4 cd4 ct4), sl4⟩)
    (c4 : PySem.W.codeIn K cd4 "comes_before" = true)
    (k4 : PySem.W.keepIn K (.ref f4) = true)
    (x5 : PySem.W.nsIn K mainGlobals "lies_from" = some (some (.ref f5)))
    (l5 : K.lookup f5 = some ⟨oc5, od5, .func (PySem.W.fnOf "lies_from" "lies_from" (defArgs s_lies_from) (defBody s_lies_from) (defScope s_lies_from) .none kV5 dc5 pm5 an5 cd5 ct5), sl5⟩)
    (c5 : PySem.W.codeIn K cd5 "lies_from" = true)
    (k5 : PySem.W.keepIn K (.ref f5) = true)
    (x6 : PySem.W.nsIn K mainGlobals "direction_of" = some (some (.ref f6)))
    (l6 : K.lookup f6 = some ⟨oc6, od6, .func (PySem.W.fnOf "direction_of" "direction_of" (defArgs s_direction_of) (defBody s_direction_of) (defScope s_direction_of) .none kV6 dc6 pm6 an6 cd6 ct6), sl6⟩)
    (c6 : PySem.W.codeIn K cd6 "direction_of" = true)
    (k6 : PySem.W.keepIn K (.ref f6) = true)
    (x7 : PySem.W.nsIn K mainGlobals "is_sector_alone" = some (some (.ref f7)))
    (l7 : K.lookup f7 = some ⟨oc7, od7, .func (PySem.W.fnOf "is_sector_alone" "is_sector_alone" (defArgs s_is_sector_alone) (defBody s_is_sector_alone) (defScope s_is_sector_alone) .none kV7 dc7 pm7 an7 cd7 ct7), sl7⟩)
    (c7 : PySem.W.codeIn K cd7 "is_sector_alone" = true)
    (k7 : PySem.W.keepIn K (.ref f7) = true)
    (x8 : PySem.W.nsIn K mainGlobals "follows" = some (some (.ref f8)))
    (l8 : K.lookup f8 = some ⟨oc8, od8, .func (PySem.W.fnOf "follows" "follows" (defArgs s_follows) (defBody s_follows) (defScope s_follows) .none kV8 dc8 pm8 an8 cd8 ct8), sl8⟩)
    (c8 : PySem.W.codeIn K cd8 "follows" = true)
    (k8 : PySem.W.keepIn K (.ref f8) = true)
    (x9 : PySem.W.nsIn K mainGlobals "check_sectors" = some (some (.ref f9)))
    (l9 : K.lookup f9 = some ⟨oc9, od9, .func (PySem.W.fnOf "check_sectors" "check_sectors" (defArgs s_check_sectors) (defBody s_check_sectors) (defScope s_check_sectors) .none kV9 dc9 pm9 an9 cd9 ct9), sl9⟩)
    (c9 : PySem.W.codeIn K cd9 "check_sectors" = true)
    (k9 : PySem.W.keepIn K (.ref f9) = true)
    (x10 : PySem.W.nsIn K mainGlobals "is_name" = some (some (.ref f10)))
    (l10 : K.lookup f10 = some ⟨oc10, od10, .func (PySem.W.fnOf "is_name" "is_name" (defArgs s_is_name) (defBody s_is_name) (defScope s_is_name) .none kV10 dc10 pm10 an10 cd10 ct10), sl10⟩)
    (c10 : PySem.W.codeIn K cd10 "is_name" = true)
    (k10 : PySem.W.keepIn K (.ref f10) = true)
    (x11 : PySem.W.nsIn K mainGlobals "fits_kind" = some (some (.ref f11)))
    (l11 : K.lookup f11 = some ⟨oc11, od11, .func (PySem.W.fnOf "fits_kind" "fits_kind" (defArgs s_fits_kind) (defBody s_fits_kind) (defScope s_fits_kind) .none kV11 dc11 pm11 an11 cd11 ct11), sl11⟩)
    (c11 : PySem.W.codeIn K cd11 "fits_kind" = true)
    (k11 : PySem.W.keepIn K (.ref f11) = true)
    (x12 : PySem.W.nsIn K mainGlobals "sectors_fit" = some (some (.ref f12)))
    (l12 : K.lookup f12 = some ⟨oc12, od12, .func (PySem.W.fnOf "sectors_fit" "sectors_fit" (defArgs s_sectors_fit) (defBody s_sectors_fit) (defScope s_sectors_fit) .none kV12 dc12 pm12 an12 cd12 ct12), sl12⟩)
    (c12 : PySem.W.codeIn K cd12 "sectors_fit" = true)
    (k12 : PySem.W.keepIn K (.ref f12) = true)
    (x13 : PySem.W.nsIn K mainGlobals "most_height" = some (some (.ref f13)))
    (l13 : K.lookup f13 = some ⟨oc13, od13, .func (PySem.W.fnOf "most_height" "most_height" (defArgs s_most_height) (defBody s_most_height) (defScope s_most_height) .none kV13 dc13 pm13 an13 cd13 ct13), sl13⟩)
    (c13 : PySem.W.codeIn K cd13 "most_height" = true)
    (k13 : PySem.W.keepIn K (.ref f13) = true)
    (x14 : PySem.W.nsIn K mainGlobals "first_fault" = some (some (.ref f14)))
    (l14 : K.lookup f14 = some ⟨oc14, od14, .func (PySem.W.fnOf "first_fault" "first_fault" (defArgs s_first_fault) (defBody s_first_fault) (defScope s_first_fault) .none kV14 dc14 pm14 an14 cd14 ct14), sl14⟩)
    (c14 : PySem.W.codeIn K cd14 "first_fault" = true)
    (k14 : PySem.W.keepIn K (.ref f14) = true)
    (x15 : PySem.W.nsIn K mainGlobals "check_spares" = some (some (.ref f15)))
    (l15 : K.lookup f15 = some ⟨oc15, od15, .func (PySem.W.fnOf "check_spares" "check_spares" (defArgs s_check_spares) (defBody s_check_spares) (defScope s_check_spares) .none kV15 dc15 pm15 an15 cd15 ct15), sl15⟩)
    (c15 : PySem.W.codeIn K cd15 "check_spares" = true)
    (k15 : PySem.W.keepIn K (.ref f15) = true)
    (x16 : PySem.W.nsIn K mainGlobals "options" = some (some (.ref f16)))
    (l16 : K.lookup f16 = some ⟨oc16, od16, .func (PySem.W.fnOf "options" "options" (defArgs s_options) (defBody s_options) (defScope s_options) .none kV16 dc16 pm16 an16 cd16 ct16), sl16⟩)
    (c16 : PySem.W.codeIn K cd16 "options" = true)
    (k16 : PySem.W.keepIn K (.ref f16) = true)
    (x17 : PySem.W.nsIn K mainGlobals "picked_coast" = some (some (.ref f17)))
    (l17 : K.lookup f17 = some ⟨oc17, od17, .func (PySem.W.fnOf "picked_coast" "picked_coast" (defArgs s_picked_coast) (defBody s_picked_coast) (defScope s_picked_coast) .none kV17 dc17 pm17 an17 cd17 ct17), sl17⟩)
    (c17 : PySem.W.codeIn K cd17 "picked_coast" = true)
    (k17 : PySem.W.keepIn K (.ref f17) = true)
    (x18 : PySem.W.nsIn K mainGlobals "is_row" = some (some (.ref f18)))
    (l18 : K.lookup f18 = some ⟨oc18, od18, .func (PySem.W.fnOf "is_row" "is_row" (defArgs s_is_row) (defBody s_is_row) (defScope s_is_row) .none kV18 dc18 pm18 an18 cd18 ct18), sl18⟩)
    (c18 : PySem.W.codeIn K cd18 "is_row" = true)
    (k18 : PySem.W.keepIn K (.ref f18) = true)
    (x19 : PySem.W.nsIn K mainGlobals "_law_feed" = some (some (.ref f19)))
    (l19 : K.lookup f19 = some ⟨oc19, od19, .func (PySem.W.fnOf "_law_feed" "_law_feed" (defArgs s__law_feed) (defBody s__law_feed) (defScope s__law_feed) .none kV19 dc19 pm19 an19 cd19 ct19), sl19⟩)
    (c19 : PySem.W.codeIn K cd19 "_law_feed" = true)
    (k19 : PySem.W.keepIn K (.ref f19) = true)
    (x20 : PySem.W.nsIn K mainGlobals "_law_draw" = some (some (.ref f20)))
    (l20 : K.lookup f20 = some ⟨oc20, od20, .func (PySem.W.fnOf "_law_draw" "_law_draw" (defArgs s__law_draw) (defBody s__law_draw) (defScope s__law_draw) .none kV20 dc20 pm20 an20 cd20 ct20), sl20⟩)
    (c20 : PySem.W.codeIn K cd20 "_law_draw" = true)
    (k20 : PySem.W.keepIn K (.ref f20) = true)
    (x21 : PySem.W.nsIn K mainGlobals "_law_is_whole" = some (some (.ref f21)))
    (l21 : K.lookup f21 = some ⟨oc21, od21, .func (PySem.W.fnOf "_law_is_whole" "_law_is_whole" (defArgs s__law_is_whole) (defBody s__law_is_whole) (defScope s__law_is_whole) .none kV21 dc21 pm21 an21 cd21 ct21), sl21⟩)
    (c21 : PySem.W.codeIn K cd21 "_law_is_whole" = true)
    (k21 : PySem.W.keepIn K (.ref f21) = true)
    (x22 : PySem.W.nsIn K mainGlobals "_law_word" = some (some (.ref f22)))
    (l22 : K.lookup f22 = some ⟨oc22, od22, .func (PySem.W.fnOf "_law_word" "_law_word" (defArgs s__law_word) (defBody s__law_word) (defScope s__law_word) .none kV22 dc22 pm22 an22 cd22 ct22), sl22⟩)
    (c22 : PySem.W.codeIn K cd22 "_law_word" = true)
    (k22 : PySem.W.keepIn K (.ref f22) = true)
    (x23 : PySem.W.nsIn K mainGlobals "_law_rows" = some (some (.ref f23)))
    (l23 : K.lookup f23 = some ⟨oc23, od23, .func (PySem.W.fnOf "_law_rows" "_law_rows" (defArgs s__law_rows) (defBody s__law_rows) (defScope s__law_rows) .none kV23 dc23 pm23 an23 cd23 ct23), sl23⟩)
    (c23 : PySem.W.codeIn K cd23 "_law_rows" = true)
    (k23 : PySem.W.keepIn K (.ref f23) = true)
    (x24 : PySem.W.nsIn K mainGlobals "_law_sectors" = some (some (.ref f24)))
    (l24 : K.lookup f24 = some ⟨oc24, od24, .func (PySem.W.fnOf "_law_sectors" "_law_sectors" (defArgs s__law_sectors) (defBody s__law_sectors) (defScope s__law_sectors) .none kV24 dc24 pm24 an24 cd24 ct24), sl24⟩)
    (c24 : PySem.W.codeIn K cd24 "_law_sectors" = true)
    (k24 : PySem.W.keepIn K (.ref f24) = true)
    (x25 : PySem.W.nsIn K mainGlobals "_law_signal" = some (some (.ref f25)))
    (l25 : K.lookup f25 = some ⟨oc25, od25, .func (PySem.W.fnOf "_law_signal" "_law_signal" (defArgs s__law_signal) (defBody s__law_signal) (defScope s__law_signal) .none kV25 dc25 pm25 an25 cd25 ct25), sl25⟩)
    (c25 : PySem.W.codeIn K cd25 "_law_signal" = true)
    (k25 : PySem.W.keepIn K (.ref f25) = true)
    (x26 : PySem.W.nsIn K mainGlobals "_law_names" = some (some (.ref f26)))
    (l26 : K.lookup f26 = some ⟨oc26, od26, .func (PySem.W.fnOf "_law_names" "_law_names" (defArgs s__law_names) (defBody s__law_names) (defScope s__law_names) .none kV26 dc26 pm26 an26 cd26 ct26), sl26⟩)
    (c26 : PySem.W.codeIn K cd26 "_law_names" = true)
    (k26 : PySem.W.keepIn K (.ref f26) = true)
    (x27 : PySem.W.nsIn K mainGlobals "_law_coast" = some (some (.ref f27)))
    (l27 : K.lookup f27 = some ⟨oc27, od27, .func (PySem.W.fnOf "_law_coast" "_law_coast" (defArgs s__law_coast) (defBody s__law_coast) (defScope s__law_coast) .none kV27 dc27 pm27 an27 cd27 ct27), sl27⟩)
    (c27 : PySem.W.codeIn K cd27 "_law_coast" = true)
    (k27 : PySem.W.keepIn K (.ref f27) = true)
    (x28 : PySem.W.nsIn K mainGlobals "_law_fits" = some (some (.ref f28)))
    (l28 : K.lookup f28 = some ⟨oc28, od28, .func (PySem.W.fnOf "_law_fits" "_law_fits" (defArgs s__law_fits) (defBody s__law_fits) (defScope s__law_fits) .none kV28 dc28 pm28 an28 cd28 ct28), sl28⟩)
    (c28 : PySem.W.codeIn K cd28 "_law_fits" = true)
    (k28 : PySem.W.keepIn K (.ref f28) = true)
    (x29 : PySem.W.nsIn K mainGlobals "_law_due" = some (some (.ref f29)))
    (l29 : K.lookup f29 = some ⟨oc29, od29, .func (PySem.W.fnOf "_law_due" "_law_due" (defArgs s__law_due) (defBody s__law_due) (defScope s__law_due) .none kV29 dc29 pm29 an29 cd29 ct29), sl29⟩)
    (c29 : PySem.W.codeIn K cd29 "_law_due" = true)
    (k29 : PySem.W.keepIn K (.ref f29) = true)
    (x30 : PySem.W.nsIn K mainGlobals "_law_refused" = some (some (.ref f30)))
    (l30 : K.lookup f30 = some ⟨oc30, od30, .func (PySem.W.fnOf "_law_refused" "_law_refused" (defArgs s__law_refused) (defBody s__law_refused) (defScope s__law_refused) .none kV30 dc30 pm30 an30 cd30 ct30), sl30⟩)
    (c30 : PySem.W.codeIn K cd30 "_law_refused" = true)
    (k30 : PySem.W.keepIn K (.ref f30) = true)
    (x31 : PySem.W.nsIn K mainGlobals "_law_rhythm" = some (some (.ref f31)))
    (l31 : K.lookup f31 = some ⟨oc31, od31, .func (PySem.W.fnOf "_law_rhythm" "_law_rhythm" (defArgs s__law_rhythm) (defBody s__law_rhythm) (defScope s__law_rhythm) .none kV31 dc31 pm31 an31 cd31 ct31), sl31⟩)
    (c31 : PySem.W.codeIn K cd31 "_law_rhythm" = true)
    (k31 : PySem.W.keepIn K (.ref f31) = true)
    (x32 : PySem.W.nsIn K mainGlobals "_law_spares" = some (some (.ref f32)))
    (l32 : K.lookup f32 = some ⟨oc32, od32, .func (PySem.W.fnOf "_law_spares" "_law_spares" (defArgs s__law_spares) (defBody s__law_spares) (defScope s__law_spares) .none kV32 dc32 pm32 an32 cd32 ct32), sl32⟩)
    (c32 : PySem.W.codeIn K cd32 "_law_spares" = true)
    (k32 : PySem.W.keepIn K (.ref f32) = true)
    (x33 : PySem.W.nsIn K mainGlobals "_law_rows_of" = some (some (.ref f33)))
    (l33 : K.lookup f33 = some ⟨oc33, od33, .func (PySem.W.fnOf "_law_rows_of" "_law_rows_of" (defArgs s__law_rows_of) (defBody s__law_rows_of) (defScope s__law_rows_of) .none kV33 dc33 pm33 an33 cd33 ct33), sl33⟩)
    (c33 : PySem.W.codeIn K cd33 "_law_rows_of" = true)
    (k33 : PySem.W.keepIn K (.ref f33) = true)
    (x34 : PySem.W.nsIn K mainGlobals "_law_plain" = some (some (.ref f34)))
    (l34 : K.lookup f34 = some ⟨oc34, od34, .func (PySem.W.fnOf "_law_plain" "_law_plain" (defArgs s__law_plain) (defBody s__law_plain) (defScope s__law_plain) .none kV34 dc34 pm34 an34 cd34 ct34), sl34⟩)
    (c34 : PySem.W.codeIn K cd34 "_law_plain" = true)
    (k34 : PySem.W.keepIn K (.ref f34) = true)
    (x35 : PySem.W.nsIn K mainGlobals "_law_asks" = some (some (.ref f35)))
    (l35 : K.lookup f35 = some ⟨oc35, od35, .func (PySem.W.fnOf "_law_asks" "_law_asks" (defArgs s__law_asks) (defBody s__law_asks) (defScope s__law_asks) .none kV35 dc35 pm35 an35 cd35 ct35), sl35⟩)
    (c35 : PySem.W.codeIn K cd35 "_law_asks" = true)
    (k35 : PySem.W.keepIn K (.ref f35) = true)
    (x36 : PySem.W.nsIn K mainGlobals "law" = some (some (.ref f36)))
    (l36 : K.lookup f36 = some ⟨oc36, od36, .func (PySem.W.fnOf "law" "law" (defArgs s_law) (defBody s_law) (defScope s_law) .none kV36 dc36 pm36 an36 cd36 ct36), sl36⟩)
    (c36 : PySem.W.codeIn K cd36 "law" = true)
    (k36 : PySem.W.keepIn K (.ref f36) = true)
    (x37 : PySem.W.findIn K (.ref C0) "__init__" = some (some (.ref f37)))
    (i37 : PySem.W.isFn K (.ref f37) = true)
    (l37 : K.lookup f37 = some ⟨oc37, od37, .func (PySem.W.fnOf "__init__" "Coast.__init__" (defArgs s_Coast___init__) (defBody s_Coast___init__) (defScope s_Coast___init__) .none kV37 dc37 pm37 an37 cd37 ct37), sl37⟩)
    (c37 : PySem.W.codeIn K cd37 "Coast.__init__" = true)
    (k37 : PySem.W.keepIn K (.ref f37) = true)
    (x38 : PySem.W.findIn K (.ref C1) "__init__" = some (some (.ref f38)))
    (i38 : PySem.W.isFn K (.ref f38) = true)
    (l38 : K.lookup f38 = some ⟨oc38, od38, .func (PySem.W.fnOf "__init__" "Signal.__init__" (defArgs s_Signal___init__) (defBody s_Signal___init__) (defScope s_Signal___init__) .none kV38 dc38 pm38 an38 cd38 ct38), sl38⟩)
    (c38 : PySem.W.codeIn K cd38 "Signal.__init__" = true)
    (k38 : PySem.W.keepIn K (.ref f38) = true)
    (x39 : PySem.W.findIn K (.ref C1) "row" = some (some (.ref f39)))
    (i39 : PySem.W.isFn K (.ref f39) = true)
    (l39 : K.lookup f39 = some ⟨oc39, od39, .func (PySem.W.fnOf "row" "Signal.row" (defArgs s_Signal_row) (defBody s_Signal_row) (defScope s_Signal_row) .none kV39 dc39 pm39 an39 cd39 ct39), sl39⟩)
    (c39 : PySem.W.codeIn K cd39 "Signal.row" = true)
    (k39 : PySem.W.keepIn K (.ref f39) = true)
    (x40 : PySem.W.findIn K (.ref C1) "changed" = some (some (.ref f40)))
    (i40 : PySem.W.isFn K (.ref f40) = true)
    (l40 : K.lookup f40 = some ⟨oc40, od40, .func (PySem.W.fnOf "changed" "Signal.changed" (defArgs s_Signal_changed) (defBody s_Signal_changed) (defScope s_Signal_changed) .none kV40 dc40 pm40 an40 cd40 ct40), sl40⟩)
    (c40 : PySem.W.codeIn K cd40 "Signal.changed" = true)
    (k40 : PySem.W.keepIn K (.ref f40) = true)
    (x41 : PySem.W.findIn K (.ref C2) "__init__" = some (some (.ref f41)))
    (i41 : PySem.W.isFn K (.ref f41) = true)
    (l41 : K.lookup f41 = some ⟨oc41, od41, .func (PySem.W.fnOf "__init__" "Chart.__init__" (defArgs s_Chart___init__) (defBody s_Chart___init__) (defScope s_Chart___init__) .none kV41 dc41 pm41 an41 cd41 ct41), sl41⟩)
    (c41 : PySem.W.codeIn K cd41 "Chart.__init__" = true)
    (k41 : PySem.W.keepIn K (.ref f41) = true)
    (x42 : PySem.W.findIn K (.ref C2) "is_on" = some (some (.ref f42)))
    (i42 : PySem.W.isFn K (.ref f42) = true)
    (l42 : K.lookup f42 = some ⟨oc42, od42, .func (PySem.W.fnOf "is_on" "Chart.is_on" (defArgs s_Chart_is_on) (defBody s_Chart_is_on) (defScope s_Chart_is_on) .none kV42 dc42 pm42 an42 cd42 ct42), sl42⟩)
    (c42 : PySem.W.codeIn K cd42 "Chart.is_on" = true)
    (k42 : PySem.W.keepIn K (.ref f42) = true)
    (pgC0 : PySem.W.plainGet K C0 Str.empty = true)
    (hdC0 : PySem.W.hasDictIn K C0 = true)
    (poC0 : PySem.W.plainOver K C0 = true)
    (saC0 : PySem.W.findIn K (.ref C0) "__setattr__" = some (some (.builtin "object.__setattr__")))
    (mkC0 : PySem.W.makesIn K C0 = true)
    (kcC0 : PySem.W.keepIn K (.ref C0) = true)
    (nC0_0 : PySem.W.findIn K (.ref C0) "chart" = some none)
    (nC0_1 : PySem.W.findIn K (.ref C0) "signals" = some none)
    (pgC1 : PySem.W.plainGet K C1 Str.empty = true)
    (hdC1 : PySem.W.hasDictIn K C1 = true)
    (poC1 : PySem.W.plainOver K C1 = true)
    (saC1 : PySem.W.findIn K (.ref C1) "__setattr__" = some (some (.builtin "object.__setattr__")))
    (mkC1 : PySem.W.makesIn K C1 = true)
    (kcC1 : PySem.W.keepIn K (.ref C1) = true)
    (nC1_0 : PySem.W.findIn K (.ref C1) "name" = some none)
    (nC1_1 : PySem.W.findIn K (.ref C1) "kind" = some none)
    (nC1_2 : PySem.W.findIn K (.ref C1) "x" = some none)
    (nC1_3 : PySem.W.findIn K (.ref C1) "y" = some none)
    (nC1_4 : PySem.W.findIn K (.ref C1) "rhythm" = some none)
    (nC1_5 : PySem.W.findIn K (.ref C1) "strength" = some none)
    (nC1_6 : PySem.W.findIn K (.ref C1) "height" = some none)
    (nC1_7 : PySem.W.findIn K (.ref C1) "sectors" = some none)
    (pgC2 : PySem.W.plainGet K C2 Str.empty = true)
    (hdC2 : PySem.W.hasDictIn K C2 = true)
    (poC2 : PySem.W.plainOver K C2 = true)
    (saC2 : PySem.W.findIn K (.ref C2) "__setattr__" = some (some (.builtin "object.__setattr__")))
    (mkC2 : PySem.W.makesIn K C2 = true)
    (kcC2 : PySem.W.keepIn K (.ref C2) = true)
    (nC2_0 : PySem.W.findIn K (.ref C2) "rows" = some none)
    (nC2_1 : PySem.W.findIn K (.ref C2) "wide" = some none)
    (nC2_2 : PySem.W.findIn K (.ref C2) "high" = some none)
    (eX0 : PySem.W.subIn K (.ref X0) (.type "BaseException") = some true)
    (nX0_0 : PySem.W.findIn K (.ref X0) "at" = some none)
    (xlX0 : K.lookup X0 = some (excClassObj nmX0 qnX0 X0 NX0 bsX0 bmX0 true snX0 subX0 abX0 colX0 ddX0 m0X0 m1X0 m2X0 m3X0 m5X0 "ValueError.__new__"))
    (rvX0 : PySem.HandSPX.refsVE bmX0 = true)
    (saX0 : PySem.W.findIn K (.ref X0) "__setattr__" = some (some (.builtin "object.__setattr__")))
    (tyX0 : PySem.W.typeIn K (.ref X0) = some (.type "type"))
    (kcX0 : PySem.W.keepIn K (.ref X0) = true)
    (x43 : PySem.W.findIn K (.ref X0) "__init__" = some (some (.ref f43)))
    (t43 : PySem.W.typeIn K (.ref f43) = some (.type "function"))
    (l43 : K.lookup f43 = some ⟨oc43, od43, .func (PySem.W.fnOf "__init__" "BadChart.__init__" (defArgs s_BadChart___init__) (defBody s_BadChart___init__) (defScope s_BadChart___init__) .none kV43 dc43 pm43 an43 cd43 ct43), sl43⟩)
    (c43 : PySem.W.codeIn K cd43 "BadChart.__init__" = true)
    (k43 : PySem.W.keepIn K (.ref f43) = true)
    (eX1 : PySem.W.subIn K (.ref X1) (.type "BaseException") = some true)
    (nX1_0 : PySem.W.findIn K (.ref X1) "at" = some none)
    (xlX1 : K.lookup X1 = some (excClassObj nmX1 qnX1 X1 NX1 bsX1 bmX1 true snX1 subX1 abX1 colX1 ddX1 m0X1 m1X1 m2X1 m3X1 m5X1 "ValueError.__new__"))
    (rvX1 : PySem.HandSPX.refsVE bmX1 = true)
    (saX1 : PySem.W.findIn K (.ref X1) "__setattr__" = some (some (.builtin "object.__setattr__")))
    (tyX1 : PySem.W.typeIn K (.ref X1) = some (.type "type"))
    (kcX1 : PySem.W.keepIn K (.ref X1) = true)
    (x44 : PySem.W.findIn K (.ref X1) "__init__" = some (some (.ref f44)))
    (t44 : PySem.W.typeIn K (.ref f44) = some (.type "function"))
    (l44 : K.lookup f44 = some ⟨oc44, od44, .func (PySem.W.fnOf "__init__" "BadCoast.__init__" (defArgs s_BadCoast___init__) (defBody s_BadCoast___init__) (defScope s_BadCoast___init__) .none kV44 dc44 pm44 an44 cd44 ct44), sl44⟩)
    (c44 : PySem.W.codeIn K cd44 "BadCoast.__init__" = true)
    (k44 : PySem.W.keepIn K (.ref f44) = true)
    (eX2 : PySem.W.subIn K (.ref X2) (.type "BaseException") = some true)
    (nX2_0 : PySem.W.findIn K (.ref X2) "dx" = some none)
    (nX2_1 : PySem.W.findIn K (.ref X2) "dy" = some none)
    (xlX2 : K.lookup X2 = some (excClassObj nmX2 qnX2 X2 NX2 bsX2 bmX2 true snX2 subX2 abX2 colX2 ddX2 m0X2 m1X2 m2X2 m3X2 m5X2 "ValueError.__new__"))
    (rvX2 : PySem.HandSPX.refsVE bmX2 = true)
    (saX2 : PySem.W.findIn K (.ref X2) "__setattr__" = some (some (.builtin "object.__setattr__")))
    (tyX2 : PySem.W.typeIn K (.ref X2) = some (.type "type"))
    (kcX2 : PySem.W.keepIn K (.ref X2) = true)
    (x45 : PySem.W.findIn K (.ref X2) "__init__" = some (some (.ref f45)))
    (t45 : PySem.W.typeIn K (.ref f45) = some (.type "function"))
    (l45 : K.lookup f45 = some ⟨oc45, od45, .func (PySem.W.fnOf "__init__" "BadDirection.__init__" (defArgs s_BadDirection___init__) (defBody s_BadDirection___init__) (defScope s_BadDirection___init__) .none kV45 dc45 pm45 an45 cd45 ct45), sl45⟩)
    (c45 : PySem.W.codeIn K cd45 "BadDirection.__init__" = true)
    (k45 : PySem.W.keepIn K (.ref f45) = true)
    (eX3 : PySem.W.subIn K (.ref X3) (.type "BaseException") = some true)
    (nX3_0 : PySem.W.findIn K (.ref X3) "at" = some none)
    (xlX3 : K.lookup X3 = some (excClassObj nmX3 qnX3 X3 NX3 bsX3 bmX3 true snX3 subX3 abX3 colX3 ddX3 m0X3 m1X3 m2X3 m3X3 m5X3 "ValueError.__new__"))
    (rvX3 : PySem.HandSPX.refsVE bmX3 = true)
    (saX3 : PySem.W.findIn K (.ref X3) "__setattr__" = some (some (.builtin "object.__setattr__")))
    (tyX3 : PySem.W.typeIn K (.ref X3) = some (.type "type"))
    (kcX3 : PySem.W.keepIn K (.ref X3) = true)
    (x46 : PySem.W.findIn K (.ref X3) "__init__" = some (some (.ref f46)))
    (t46 : PySem.W.typeIn K (.ref f46) = some (.type "function"))
    (l46 : K.lookup f46 = some ⟨oc46, od46, .func (PySem.W.fnOf "__init__" "BadSectors.__init__" (defArgs s_BadSectors___init__) (defBody s_BadSectors___init__) (defScope s_BadSectors___init__) .none kV46 dc46 pm46 an46 cd46 ct46), sl46⟩)
    (c46 : PySem.W.codeIn K cd46 "BadSectors.__init__" = true)
    (k46 : PySem.W.keepIn K (.ref f46) = true)
    (eX4 : PySem.W.subIn K (.ref X4) (.type "BaseException") = some true)
    (nX4_0 : PySem.W.findIn K (.ref X4) "field" = some none)
    (xlX4 : K.lookup X4 = some (excClassObj nmX4 qnX4 X4 NX4 bsX4 bmX4 true snX4 subX4 abX4 colX4 ddX4 m0X4 m1X4 m2X4 m3X4 m5X4 "ValueError.__new__"))
    (rvX4 : PySem.HandSPX.refsVE bmX4 = true)
    (saX4 : PySem.W.findIn K (.ref X4) "__setattr__" = some (some (.builtin "object.__setattr__")))
    (tyX4 : PySem.W.typeIn K (.ref X4) = some (.type "type"))
    (kcX4 : PySem.W.keepIn K (.ref X4) = true)
    (x47 : PySem.W.findIn K (.ref X4) "__init__" = some (some (.ref f47)))
    (t47 : PySem.W.typeIn K (.ref f47) = some (.type "function"))
    (l47 : K.lookup f47 = some ⟨oc47, od47, .func (PySem.W.fnOf "__init__" "BadSignal.__init__" (defArgs s_BadSignal___init__) (defBody s_BadSignal___init__) (defScope s_BadSignal___init__) .none kV47 dc47 pm47 an47 cd47 ct47), sl47⟩)
    (c47 : PySem.W.codeIn K cd47 "BadSignal.__init__" = true)
    (k47 : PySem.W.keepIn K (.ref f47) = true)
    (eX5 : PySem.W.subIn K (.ref X5) (.type "BaseException") = some true)
    (nX5_0 : PySem.W.findIn K (.ref X5) "at" = some none)
    (xlX5 : K.lookup X5 = some (excClassObj nmX5 qnX5 X5 NX5 bsX5 bmX5 true snX5 subX5 abX5 colX5 ddX5 m0X5 m1X5 m2X5 m3X5 m5X5 "ValueError.__new__"))
    (rvX5 : PySem.HandSPX.refsVE bmX5 = true)
    (saX5 : PySem.W.findIn K (.ref X5) "__setattr__" = some (some (.builtin "object.__setattr__")))
    (tyX5 : PySem.W.typeIn K (.ref X5) = some (.type "type"))
    (kcX5 : PySem.W.keepIn K (.ref X5) = true)
    (x48 : PySem.W.findIn K (.ref X5) "__init__" = some (some (.ref f48)))
    (t48 : PySem.W.typeIn K (.ref f48) = some (.type "function"))
    (l48 : K.lookup f48 = some ⟨oc48, od48, .func (PySem.W.fnOf "__init__" "BadSpare.__init__" (defArgs s_BadSpare___init__) (defBody s_BadSpare___init__) (defScope s_BadSpare___init__) .none kV48 dc48 pm48 an48 cd48 ct48), sl48⟩)
    (c48 : PySem.W.codeIn K cd48 "BadSpare.__init__" = true)
    (k48 : PySem.W.keepIn K (.ref f48) = true)
    (oN : PySem.W.specialIn K (.builtin "object.__class__") "__get__" = some (some (.builtin "getset_descriptor.__get__")))
    (oT : PySem.W.takesIn K (.builtin "object.__class__") = some true)
    (gaX3 : PySem.W.findIn K (.ref X3) "__getattribute__" = some (some (.builtin "BaseException.__getattribute__")))
    (ggX3 : PySem.W.findIn K (.ref X3) "__getattr__" = some none)
    (hdX3 : PySem.W.hasDictIn K X3 = true)
    (haX3 : PySem.W.findIn K (.ref X3) "__class__" = some (some (.builtin "object.__class__")))
    (hmX3 : PySem.W.mroIn K X3 (.type "object") = some true)
    (emX3_0 : PySem.W.exmOne K (.ref X3) (.ref X3) = some true)
    (ktX3_0 : PySem.W.kitOne K (.ref X3) (.ref X3) = some true)
    (gaX5 : PySem.W.findIn K (.ref X5) "__getattribute__" = some (some (.builtin "BaseException.__getattribute__")))
    (ggX5 : PySem.W.findIn K (.ref X5) "__getattr__" = some none)
    (hdX5 : PySem.W.hasDictIn K X5 = true)
    (haX5 : PySem.W.findIn K (.ref X5) "__class__" = some (some (.builtin "object.__class__")))
    (hmX5 : PySem.W.mroIn K X5 (.type "object") = some true)
    (emX5_1 : PySem.W.exmOne K (.ref X5) (.ref X4) = some false)
    (ktX5_1 : PySem.W.kitOne K (.ref X5) (.ref X4) = some false)
    (emX5_0 : PySem.W.exmOne K (.ref X5) (.ref X5) = some true)
    (ktX5_0 : PySem.W.kitOne K (.ref X5) (.ref X5) = some true)
    (v_FIELDS : PySem.W.nsIn K mainGlobals "FIELDS" = some (some (.ref ta_FIELDS)))
    (vl_FIELDS : K.lookup ta_FIELDS = some to_FIELDS)
    (vt_FIELDS : tupIs [.str "name", .str "kind", .str "x", .str "y", .str "rhythm", .str "strength", .str "height", .str "sectors"] to_FIELDS = true)
    (v_GLASSES : PySem.W.nsIn K mainGlobals "GLASSES" = some (some (.ref ta_GLASSES)))
    (vl_GLASSES : K.lookup ta_GLASSES = some to_GLASSES)
    (vt_GLASSES : tupIs [.str ".", .str "W", .str "R", .str "G", .str "Y"] to_GLASSES = true)
    (v_HORN_LETTERS : PySem.W.nsIn K mainGlobals "HORN_LETTERS" = some (some (.str ".L" tk_HORN_LETTERS)))
    (v_LETTERS : PySem.W.nsIn K mainGlobals "LETTERS" = some (some (.str ".WRGYL" tk_LETTERS)))
    (v_LIGHT_LETTERS : PySem.W.nsIn K mainGlobals "LIGHT_LETTERS" = some (some (.str ".WRGY" tk_LIGHT_LETTERS)))
    (v_MOST_HIGH : PySem.W.nsIn K mainGlobals "MOST_HIGH" = some (some (.int 8 tk_MOST_HIGH)))
    (v_MOST_LETTERS : PySem.W.nsIn K mainGlobals "MOST_LETTERS" = some (some (.int 20 tk_MOST_LETTERS)))
    (v_MOST_PART : PySem.W.nsIn K mainGlobals "MOST_PART" = some (some (.int 20 tk_MOST_PART)))
    (v_MOST_PRICE : PySem.W.nsIn K mainGlobals "MOST_PRICE" = some (some (.int 99 tk_MOST_PRICE)))
    (v_MOST_SECTORS : PySem.W.nsIn K mainGlobals "MOST_SECTORS" = some (some (.int 6 tk_MOST_SECTORS)))
    (v_MOST_SIGNALS : PySem.W.nsIn K mainGlobals "MOST_SIGNALS" = some (some (.int 8 tk_MOST_SIGNALS)))
    (v_MOST_SPARES : PySem.W.nsIn K mainGlobals "MOST_SPARES" = some (some (.int 3 tk_MOST_SPARES)))
    (v_MOST_WIDE : PySem.W.nsIn K mainGlobals "MOST_WIDE" = some (some (.int 8 tk_MOST_WIDE)))
    (z_abs : PySem.W.nsIn K mainGlobals "abs" = some none)
    (z_bool : PySem.W.nsIn K mainGlobals "bool" = some none)
    (z_enumerate : PySem.W.nsIn K mainGlobals "enumerate" = some none)
    (z_int : PySem.W.nsIn K mainGlobals "int" = some none)
    (z_isinstance : PySem.W.nsIn K mainGlobals "isinstance" = some none)
    (z_len : PySem.W.nsIn K mainGlobals "len" = some none)
    (z_list : PySem.W.nsIn K mainGlobals "list" = some none)
    (z_range : PySem.W.nsIn K mainGlobals "range" = some none)
    (z_tuple : PySem.W.nsIn K mainGlobals "tuple" = some none) : Tx K mg where
  a_is_word := f0
  d_is_word := _
  F_is_word := fun_mk (st := s_is_word) l0 c0 k0
  b_is_word := (fun_mk (st := s_is_word) l0 c0 k0).binds (ps := ["text"]) fun _ _ _ _ _ _ us hl => match us, hl with | [_], _ => rfl
  g_is_word := PySem.W.mg_of X G x0
  a_quarter := f1
  d_quarter := _
  F_quarter := fun_mk (st := s_quarter) l1 c1 k1
  b_quarter := (fun_mk (st := s_quarter) l1 c1 k1).binds (ps := ["dx", "dy"]) fun _ _ _ _ _ _ us hl => match us, hl with | [_, _], _ => rfl
  g_quarter := PySem.W.mg_of X G x1
  a_cross := f2
  d_cross := _
  F_cross := fun_mk (st := s_cross) l2 c2 k2
  b_cross := (fun_mk (st := s_cross) l2 c2 k2).binds (ps := ["u", "v"]) fun _ _ _ _ _ _ us hl => match us, hl with | [_, _], _ => rfl
  g_cross := PySem.W.mg_of X G x2
  a_same_ray := f3
  d_same_ray := _
  F_same_ray := fun_mk (st := s_same_ray) l3 c3 k3
  b_same_ray := (fun_mk (st := s_same_ray) l3 c3 k3).binds (ps := ["u", "v"]) fun _ _ _ _ _ _ us hl => match us, hl with | [_, _], _ => rfl
  g_same_ray := PySem.W.mg_of X G x3
  a_comes_before := f4
  d_comes_before := _
  F_comes_before := fun_mk (st := s_comes_before) l4 c4 k4
  b_comes_before := (fun_mk (st := s_comes_before) l4 c4 k4).binds (ps := ["u", "v"]) fun _ _ _ _ _ _ us hl => match us, hl with | [_, _], _ => rfl
  g_comes_before := PySem.W.mg_of X G x4
  a_lies_from := f5
  d_lies_from := _
  F_lies_from := fun_mk (st := s_lies_from) l5 c5 k5
  b_lies_from := (fun_mk (st := s_lies_from) l5 c5 k5).binds (ps := ["u", "v", "w"]) fun _ _ _ _ _ _ us hl => match us, hl with | [_, _, _], _ => rfl
  g_lies_from := PySem.W.mg_of X G x5
  a_direction_of := f6
  d_direction_of := _
  F_direction_of := fun_mk (st := s_direction_of) l6 c6 k6
  b_direction_of := (fun_mk (st := s_direction_of) l6 c6 k6).binds (ps := ["sector"]) fun _ _ _ _ _ _ us hl => match us, hl with | [_], _ => rfl
  g_direction_of := PySem.W.mg_of X G x6
  a_is_sector_alone := f7
  d_is_sector_alone := _
  F_is_sector_alone := fun_mk (st := s_is_sector_alone) l7 c7 k7
  b_is_sector_alone := (fun_mk (st := s_is_sector_alone) l7 c7 k7).binds (ps := ["sector"]) fun _ _ _ _ _ _ us hl => match us, hl with | [_], _ => rfl
  g_is_sector_alone := PySem.W.mg_of X G x7
  a_follows := f8
  d_follows := _
  F_follows := fun_mk (st := s_follows) l8 c8 k8
  b_follows := (fun_mk (st := s_follows) l8 c8 k8).binds (ps := ["sectors", "at"]) fun _ _ _ _ _ _ us hl => match us, hl with | [_, _], _ => rfl
  g_follows := PySem.W.mg_of X G x8
  a_check_sectors := f9
  d_check_sectors := _
  F_check_sectors := fun_mk (st := s_check_sectors) l9 c9 k9
  b_check_sectors := (fun_mk (st := s_check_sectors) l9 c9 k9).binds (ps := ["sectors"]) fun _ _ _ _ _ _ us hl => match us, hl with | [_], _ => rfl
  g_check_sectors := PySem.W.mg_of X G x9
  a_is_name := f10
  d_is_name := _
  F_is_name := fun_mk (st := s_is_name) l10 c10 k10
  b_is_name := (fun_mk (st := s_is_name) l10 c10 k10).binds (ps := ["text"]) fun _ _ _ _ _ _ us hl => match us, hl with | [_], _ => rfl
  g_is_name := PySem.W.mg_of X G x10
  a_fits_kind := f11
  d_fits_kind := _
  F_fits_kind := fun_mk (st := s_fits_kind) l11 c11 k11
  b_fits_kind := (fun_mk (st := s_fits_kind) l11 c11 k11).binds (ps := ["rhythm", "kind"]) fun _ _ _ _ _ _ us hl => match us, hl with | [_, _], _ => rfl
  g_fits_kind := PySem.W.mg_of X G x11
  a_sectors_fit := f12
  d_sectors_fit := _
  F_sectors_fit := fun_mk (st := s_sectors_fit) l12 c12 k12
  b_sectors_fit := (fun_mk (st := s_sectors_fit) l12 c12 k12).binds (ps := ["sectors", "kind"]) fun _ _ _ _ _ _ us hl => match us, hl with | [_, _], _ => rfl
  g_sectors_fit := PySem.W.mg_of X G x12
  a_most_height := f13
  d_most_height := _
  F_most_height := fun_mk (st := s_most_height) l13 c13 k13
  b_most_height := (fun_mk (st := s_most_height) l13 c13 k13).binds (ps := ["kind"]) fun _ _ _ _ _ _ us hl => match us, hl with | [_], _ => rfl
  g_most_height := PySem.W.mg_of X G x13
  a_first_fault := f14
  d_first_fault := _
  F_first_fault := fun_mk (st := s_first_fault) l14 c14 k14
  b_first_fault := (fun_mk (st := s_first_fault) l14 c14 k14).binds (ps := ["row"]) fun _ _ _ _ _ _ us hl => match us, hl with | [_], _ => rfl
  g_first_fault := PySem.W.mg_of X G x14
  a_check_spares := f15
  d_check_spares := _
  F_check_spares := fun_mk (st := s_check_spares) l15 c15 k15
  b_check_spares := (fun_mk (st := s_check_spares) l15 c15 k15).binds (ps := ["spares"]) fun _ _ _ _ _ _ us hl => match us, hl with | [_], _ => rfl
  g_check_spares := PySem.W.mg_of X G x15
  a_options := f16
  d_options := _
  F_options := fun_mk (st := s_options) l16 c16 k16
  b_options := (fun_mk (st := s_options) l16 c16 k16).binds (ps := ["coast", "spares"]) fun _ _ _ _ _ _ us hl => match us, hl with | [_, _], _ => rfl
  g_options := PySem.W.mg_of X G x16
  a_picked_coast := f17
  d_picked_coast := _
  F_picked_coast := fun_mk (st := s_picked_coast) l17 c17 k17
  b_picked_coast := (fun_mk (st := s_picked_coast) l17 c17 k17).binds (ps := ["coast", "spares", "picks"]) fun _ _ _ _ _ _ us hl => match us, hl with | [_, _, _], _ => rfl
  g_picked_coast := PySem.W.mg_of X G x17
  a_is_row := f18
  d_is_row := _
  F_is_row := fun_mk (st := s_is_row) l18 c18 k18
  b_is_row := (fun_mk (st := s_is_row) l18 c18 k18).binds (ps := ["row", "wide"]) fun _ _ _ _ _ _ us hl => match us, hl with | [_, _], _ => rfl
  g_is_row := PySem.W.mg_of X G x18
  a__law_feed := f19
  d__law_feed := _
  F__law_feed := fun_mk (st := s__law_feed) l19 c19 k19
  b__law_feed := (fun_mk (st := s__law_feed) l19 c19 k19).binds (ps := ["script"]) fun _ _ _ _ _ _ us hl => match us, hl with | [_], _ => rfl
  g__law_feed := PySem.W.mg_of X G x19
  a__law_draw := f20
  d__law_draw := _
  F__law_draw := fun_mk (st := s__law_draw) l20 c20 k20
  b__law_draw := (fun_mk (st := s__law_draw) l20 c20 k20).binds (ps := ["feed", "many"]) fun _ _ _ _ _ _ us hl => match us, hl with | [_, _], _ => rfl
  g__law_draw := PySem.W.mg_of X G x20
  a__law_is_whole := f21
  d__law_is_whole := _
  F__law_is_whole := fun_mk (st := s__law_is_whole) l21 c21 k21
  b__law_is_whole := (fun_mk (st := s__law_is_whole) l21 c21 k21).binds (ps := ["x"]) fun _ _ _ _ _ _ us hl => match us, hl with | [_], _ => rfl
  g__law_is_whole := PySem.W.mg_of X G x21
  a__law_word := f22
  d__law_word := _
  F__law_word := fun_mk (st := s__law_word) l22 c22 k22
  b__law_word := (fun_mk (st := s__law_word) l22 c22 k22).binds (ps := ["feed", "letters", "longest"]) fun _ _ _ _ _ _ us hl => match us, hl with | [_, _, _], _ => rfl
  g__law_word := PySem.W.mg_of X G x22
  a__law_rows := f23
  d__law_rows := _
  F__law_rows := fun_mk (st := s__law_rows) l23 c23 k23
  b__law_rows := (fun_mk (st := s__law_rows) l23 c23 k23).binds (ps := ["feed", "most"]) fun _ _ _ _ _ _ us hl => match us, hl with | [_, _], _ => rfl
  g__law_rows := PySem.W.mg_of X G x23
  a__law_sectors := f24
  d__law_sectors := _
  F__law_sectors := fun_mk (st := s__law_sectors) l24 c24 k24
  b__law_sectors := (fun_mk (st := s__law_sectors) l24 c24 k24).binds (ps := ["feed"]) fun _ _ _ _ _ _ us hl => match us, hl with | [_], _ => rfl
  g__law_sectors := PySem.W.mg_of X G x24
  a__law_signal := f25
  d__law_signal := _
  F__law_signal := fun_mk (st := s__law_signal) l25 c25 k25
  b__law_signal := (fun_mk (st := s__law_signal) l25 c25 k25).binds (ps := ["feed", "name", "rows", "words"]) fun _ _ _ _ _ _ us hl => match us, hl with | [_, _, _, _], _ => rfl
  g__law_signal := PySem.W.mg_of X G x25
  a__law_names := f26
  d__law_names := _
  F__law_names := fun_mk (st := s__law_names) l26 c26 k26
  b__law_names := (fun_mk (st := s__law_names) l26 c26 k26).binds (ps := ["feed", "many"]) fun _ _ _ _ _ _ us hl => match us, hl with | [_, _], _ => rfl
  g__law_names := PySem.W.mg_of X G x26
  a__law_coast := f27
  d__law_coast := _
  F__law_coast := fun_mk (st := s__law_coast) l27 c27 k27
  b__law_coast := (fun_mk (st := s__law_coast) l27 c27 k27).binds (ps := ["rows", "signals"]) fun _ _ _ _ _ _ us hl => match us, hl with | [_, _], _ => rfl
  g__law_coast := PySem.W.mg_of X G x27
  a__law_fits := f28
  d__law_fits := _
  F__law_fits := fun_mk (st := s__law_fits) l28 c28 k28
  b__law_fits := (fun_mk (st := s__law_fits) l28 c28 k28).binds (ps := ["rhythm", "kind"]) fun _ _ _ _ _ _ us hl => match us, hl with | [_, _], _ => rfl
  g__law_fits := PySem.W.mg_of X G x28
  a__law_due := f29
  d__law_due := _
  F__law_due := fun_mk (st := s__law_due) l29 c29 k29
  b__law_due := (fun_mk (st := s__law_due) l29 c29 k29).binds (ps := ["spares"]) fun _ _ _ _ _ _ us hl => match us, hl with | [_], _ => rfl
  g__law_due := PySem.W.mg_of X G x29
  a__law_refused := f30
  d__law_refused := _
  F__law_refused := fun_mk (st := s__law_refused) l30 c30 k30
  b__law_refused := (fun_mk (st := s__law_refused) l30 c30 k30).binds (ps := ["spares"]) fun _ _ _ _ _ _ us hl => match us, hl with | [_], _ => rfl
  g__law_refused := PySem.W.mg_of X G x30
  a__law_rhythm := f31
  d__law_rhythm := _
  F__law_rhythm := fun_mk (st := s__law_rhythm) l31 c31 k31
  b__law_rhythm := (fun_mk (st := s__law_rhythm) l31 c31 k31).binds (ps := ["feed", "good"]) fun _ _ _ _ _ _ us hl => match us, hl with | [_, _], _ => rfl
  g__law_rhythm := PySem.W.mg_of X G x31
  a__law_spares := f32
  d__law_spares := _
  F__law_spares := fun_mk (st := s__law_spares) l32 c32 k32
  b__law_spares := (fun_mk (st := s__law_spares) l32 c32 k32).binds (ps := ["feed", "many", "good"]) fun _ _ _ _ _ _ us hl => match us, hl with | [_, _, _], _ => rfl
  g__law_spares := PySem.W.mg_of X G x32
  a__law_rows_of := f33
  d__law_rows_of := _
  F__law_rows_of := fun_mk (st := s__law_rows_of) l33 c33 k33
  b__law_rows_of := (fun_mk (st := s__law_rows_of) l33 c33 k33).binds (ps := ["coast"]) fun _ _ _ _ _ _ us hl => match us, hl with | [_], _ => rfl
  g__law_rows_of := PySem.W.mg_of X G x33
  a__law_plain := f34
  d__law_plain := _
  F__law_plain := fun_mk (st := s__law_plain) l34 c34 k34
  b__law_plain := (fun_mk (st := s__law_plain) l34 c34 k34).binds (ps := ["row"]) fun _ _ _ _ _ _ us hl => match us, hl with | [_], _ => rfl
  g__law_plain := PySem.W.mg_of X G x34
  a__law_asks := f35
  d__law_asks := _
  F__law_asks := fun_mk (st := s__law_asks) l35 c35 k35
  b__law_asks := (fun_mk (st := s__law_asks) l35 c35 k35).binds (ps := ["feed", "rows", "signals", "spares"]) fun _ _ _ _ _ _ us hl => match us, hl with | [_, _, _, _], _ => rfl
  g__law_asks := PySem.W.mg_of X G x35
  a_law := f36
  d_law := _
  F_law := fun_mk (st := s_law) l36 c36 k36
  b_law := (fun_mk (st := s_law) l36 c36 k36).binds (ps := ["script"]) fun _ _ _ _ _ _ us hl => match us, hl with | [_], _ => rfl
  g_law := PySem.W.mg_of X G x36
  a_Coast___init__ := f37
  d_Coast___init__ := _
  F_Coast___init__ := fun_mk (st := s_Coast___init__) l37 c37 k37
  b_Coast___init__ := (fun_mk (st := s_Coast___init__) l37 c37 k37).binds (ps := ["self", "chart", "signals"]) fun _ _ _ _ _ _ us hl => match us, hl with | [_, _, _], _ => rfl
  a_Signal___init__ := f38
  d_Signal___init__ := _
  F_Signal___init__ := fun_mk (st := s_Signal___init__) l38 c38 k38
  b_Signal___init__ := (fun_mk (st := s_Signal___init__) l38 c38 k38).binds (ps := ["self", "name", "kind", "x", "y", "rhythm", "strength", "height", "sectors"]) fun _ _ _ _ _ _ us hl => match us, hl with | [_, _, _, _, _, _, _, _, _], _ => rfl
  a_Signal_row := f39
  d_Signal_row := _
  F_Signal_row := fun_mk (st := s_Signal_row) l39 c39 k39
  b_Signal_row := (fun_mk (st := s_Signal_row) l39 c39 k39).binds (ps := ["self"]) fun _ _ _ _ _ _ us hl => match us, hl with | [_], _ => rfl
  a_Signal_changed := f40
  d_Signal_changed := _
  F_Signal_changed := fun_mk (st := s_Signal_changed) l40 c40 k40
  b_Signal_changed := (fun_mk (st := s_Signal_changed) l40 c40 k40).binds (ps := ["self", "field", "value"]) fun _ _ _ _ _ _ us hl => match us, hl with | [_, _, _], _ => rfl
  a_Chart___init__ := f41
  d_Chart___init__ := _
  F_Chart___init__ := fun_mk (st := s_Chart___init__) l41 c41 k41
  b_Chart___init__ := (fun_mk (st := s_Chart___init__) l41 c41 k41).binds (ps := ["self", "rows"]) fun _ _ _ _ _ _ us hl => match us, hl with | [_, _], _ => rfl
  a_Chart_is_on := f42
  d_Chart_is_on := _
  F_Chart_is_on := fun_mk (st := s_Chart_is_on) l42 c42 k42
  b_Chart_is_on := (fun_mk (st := s_Chart_is_on) l42 c42 k42).binds (ps := ["self", "x", "y"]) fun _ _ _ _ _ _ us hl => match us, hl with | [_, _, _], _ => rfl
  C_Coast := C0
  gC_Coast := PySem.W.mg_of X G gC0
  cls_Coast := ⟨pgC0, hdC0, poC0, saC0⟩
  mk_Coast := ⟨mkC0, x37, i37, kcC0⟩
  cl_Coast := ⟨⟨C0, PySem.W.mg_of X G gC0, ⟨pgC0, hdC0, poC0, saC0⟩, (List.forall_mem_cons.mpr ⟨nC0_0, (List.forall_mem_cons.mpr ⟨nC0_1, (List.forall_mem_nil _)⟩)⟩)⟩⟩
  C_Signal := C1
  gC_Signal := PySem.W.mg_of X G gC1
  cls_Signal := ⟨pgC1, hdC1, poC1, saC1⟩
  mk_Signal := ⟨mkC1, x38, i38, kcC1⟩
  cl_Signal := ⟨⟨C1, PySem.W.mg_of X G gC1, ⟨pgC1, hdC1, poC1, saC1⟩, (List.forall_mem_cons.mpr ⟨nC1_0, (List.forall_mem_cons.mpr ⟨nC1_1, (List.forall_mem_cons.mpr ⟨nC1_2, (List.forall_mem_cons.mpr ⟨nC1_3, (List.forall_mem_cons.mpr ⟨nC1_4, (List.forall_mem_cons.mpr ⟨nC1_5, (List.forall_mem_cons.mpr ⟨nC1_6, (List.forall_mem_cons.mpr ⟨nC1_7, (List.forall_mem_nil _)⟩)⟩)⟩)⟩)⟩)⟩)⟩)⟩)⟩⟩
  me_Signal_row := ⟨x39, i39, k39⟩
  me_Signal_changed := ⟨x40, i40, k40⟩
  C_Chart := C2
  gC_Chart := PySem.W.mg_of X G gC2
  cls_Chart := ⟨pgC2, hdC2, poC2, saC2⟩
  mk_Chart := ⟨mkC2, x41, i41, kcC2⟩
  cl_Chart := ⟨⟨C2, PySem.W.mg_of X G gC2, ⟨pgC2, hdC2, poC2, saC2⟩, (List.forall_mem_cons.mpr ⟨nC2_0, (List.forall_mem_cons.mpr ⟨nC2_1, (List.forall_mem_cons.mpr ⟨nC2_2, (List.forall_mem_nil _)⟩)⟩)⟩)⟩⟩
  me_Chart_is_on := ⟨x42, i42, k42⟩
  C_BadChart := X0
  gC_BadChart := PySem.W.mg_of X G gX0
  ra_BadChart := ⟨X0, f43, _, PySem.W.mg_of X G gX0, ⟨⟨_, _, _, _, _, _, _, _, _, _, _, _, _, _, _, xlX0, rvX0⟩, saX0, eX0, tyX0, kcX0⟩, x43, t43, init1 (fun_mk (st := s_BadChart___init__) l43 c43 k43) sc_BadChart___init__ rfl (.inl rfl) (.inl rfl), (fun_mk (st := s_BadChart___init__) l43 c43 k43).binds (ps := ["self", "at"]) (fun _ _ _ _ _ _ us hl => match us, hl with | [_, _], _ => rfl), (List.forall_mem_cons.mpr ⟨nX0_0, (List.forall_mem_nil _)⟩)⟩
  C_BadCoast := X1
  gC_BadCoast := PySem.W.mg_of X G gX1
  ra_BadCoast := ⟨X1, f44, _, PySem.W.mg_of X G gX1, ⟨⟨_, _, _, _, _, _, _, _, _, _, _, _, _, _, _, xlX1, rvX1⟩, saX1, eX1, tyX1, kcX1⟩, x44, t44, init1 (fun_mk (st := s_BadCoast___init__) l44 c44 k44) sc_BadCoast___init__ rfl (.inl rfl) (.inl rfl), (fun_mk (st := s_BadCoast___init__) l44 c44 k44).binds (ps := ["self", "at"]) (fun _ _ _ _ _ _ us hl => match us, hl with | [_, _], _ => rfl), (List.forall_mem_cons.mpr ⟨nX1_0, (List.forall_mem_nil _)⟩)⟩
  C_BadDirection := X2
  gC_BadDirection := PySem.W.mg_of X G gX2
  ra_BadDirection := ⟨X2, f45, _, PySem.W.mg_of X G gX2, ⟨⟨_, _, _, _, _, _, _, _, _, _, _, _, _, _, _, xlX2, rvX2⟩, saX2, eX2, tyX2, kcX2⟩, x45, t45, init2 (fun_mk (st := s_BadDirection___init__) l45 c45 k45) sc_BadDirection___init__ rfl (.inl rfl) (.inl rfl) (.inl rfl), (fun_mk (st := s_BadDirection___init__) l45 c45 k45).binds (ps := ["self", "dx", "dy"]) (fun _ _ _ _ _ _ us hl => match us, hl with | [_, _, _], _ => rfl), (List.forall_mem_cons.mpr ⟨nX2_0, (List.forall_mem_cons.mpr ⟨nX2_1, (List.forall_mem_nil _)⟩)⟩)⟩
  C_BadSectors := X3
  gC_BadSectors := PySem.W.mg_of X G gX3
  ra_BadSectors := ⟨X3, f46, _, PySem.W.mg_of X G gX3, ⟨⟨_, _, _, _, _, _, _, _, _, _, _, _, _, _, _, xlX3, rvX3⟩, saX3, eX3, tyX3, kcX3⟩, x46, t46, init1 (fun_mk (st := s_BadSectors___init__) l46 c46 k46) sc_BadSectors___init__ rfl (.inl rfl) (.inl rfl), (fun_mk (st := s_BadSectors___init__) l46 c46 k46).binds (ps := ["self", "at"]) (fun _ _ _ _ _ _ us hl => match us, hl with | [_, _], _ => rfl), (List.forall_mem_cons.mpr ⟨nX3_0, (List.forall_mem_nil _)⟩)⟩
  C_BadSignal := X4
  gC_BadSignal := PySem.W.mg_of X G gX4
  ra_BadSignal := ⟨X4, f47, _, PySem.W.mg_of X G gX4, ⟨⟨_, _, _, _, _, _, _, _, _, _, _, _, _, _, _, xlX4, rvX4⟩, saX4, eX4, tyX4, kcX4⟩, x47, t47, init1 (fun_mk (st := s_BadSignal___init__) l47 c47 k47) sc_BadSignal___init__ rfl (.inl rfl) (.inl rfl), (fun_mk (st := s_BadSignal___init__) l47 c47 k47).binds (ps := ["self", "field"]) (fun _ _ _ _ _ _ us hl => match us, hl with | [_, _], _ => rfl), (List.forall_mem_cons.mpr ⟨nX4_0, (List.forall_mem_nil _)⟩)⟩
  C_BadSpare := X5
  gC_BadSpare := PySem.W.mg_of X G gX5
  ra_BadSpare := ⟨X5, f48, _, PySem.W.mg_of X G gX5, ⟨⟨_, _, _, _, _, _, _, _, _, _, _, _, _, _, _, xlX5, rvX5⟩, saX5, eX5, tyX5, kcX5⟩, x48, t48, init1 (fun_mk (st := s_BadSpare___init__) l48 c48 k48) sc_BadSpare___init__ rfl (.inl rfl) (.inl rfl), (fun_mk (st := s_BadSpare___init__) l48 c48 k48).binds (ps := ["self", "at"]) (fun _ _ _ _ _ _ us hl => match us, hl with | [_, _], _ => rfl), (List.forall_mem_cons.mpr ⟨nX5_0, (List.forall_mem_nil _)⟩)⟩
  xt := (List.forall_mem_cons.mpr ⟨⟨⟨X3, PySem.W.mg_of X G gX3, ⟨gaX3, ggX3, eX3, hdX3⟩, ⟨gaX3, ggX3, eX3, hdX3, haX3, oN, oT, hmX3⟩, (List.forall_mem_cons.mpr ⟨nX3_0, (List.forall_mem_nil _)⟩), (List.forall_mem_cons.mpr ⟨⟨_, clV_own (PySem.W.mg_of X G gX3), emX3_0, ktX3_0⟩, (List.forall_mem_nil _)⟩)⟩⟩, (List.forall_mem_cons.mpr ⟨⟨⟨X5, PySem.W.mg_of X G gX5, ⟨gaX5, ggX5, eX5, hdX5⟩, ⟨gaX5, ggX5, eX5, hdX5, haX5, oN, oT, hmX5⟩, (List.forall_mem_cons.mpr ⟨nX5_0, (List.forall_mem_nil _)⟩), (List.forall_mem_cons.mpr ⟨⟨_, clV_own (PySem.W.mg_of X G gX5), emX5_0, ktX5_0⟩, (List.forall_mem_cons.mpr ⟨⟨_, clV_own (PySem.W.mg_of X G gX4), emX5_1, ktX5_1⟩, (List.forall_mem_nil _)⟩)⟩)⟩⟩, (List.forall_mem_nil _)⟩)⟩)
  c_FIELDS := ⟨_, _, PySem.W.mg_of X G v_FIELDS, vl_FIELDS, vt_FIELDS⟩
  c_GLASSES := ⟨_, _, PySem.W.mg_of X G v_GLASSES, vl_GLASSES, vt_GLASSES⟩
  c_HORN_LETTERS := ⟨_, PySem.W.mg_of X G v_HORN_LETTERS⟩
  c_LETTERS := ⟨_, PySem.W.mg_of X G v_LETTERS⟩
  c_LIGHT_LETTERS := ⟨_, PySem.W.mg_of X G v_LIGHT_LETTERS⟩
  c_MOST_HIGH := ⟨_, PySem.W.mg_of X G v_MOST_HIGH⟩
  c_MOST_LETTERS := ⟨_, PySem.W.mg_of X G v_MOST_LETTERS⟩
  c_MOST_PART := ⟨_, PySem.W.mg_of X G v_MOST_PART⟩
  c_MOST_PRICE := ⟨_, PySem.W.mg_of X G v_MOST_PRICE⟩
  c_MOST_SECTORS := ⟨_, PySem.W.mg_of X G v_MOST_SECTORS⟩
  c_MOST_SIGNALS := ⟨_, PySem.W.mg_of X G v_MOST_SIGNALS⟩
  c_MOST_SPARES := ⟨_, PySem.W.mg_of X G v_MOST_SPARES⟩
  c_MOST_WIDE := ⟨_, PySem.W.mg_of X G v_MOST_WIDE⟩
  z_abs := PySem.W.mg_none_of X G z_abs
  z_bool := PySem.W.mg_none_of X G z_bool
  z_enumerate := PySem.W.mg_none_of X G z_enumerate
  z_int := PySem.W.mg_none_of X G z_int
  z_isinstance := PySem.W.mg_none_of X G z_isinstance
  z_len := PySem.W.mg_none_of X G z_len
  z_list := PySem.W.mg_none_of X G z_list
  z_range := PySem.W.mg_none_of X G z_range
  z_tuple := PySem.W.mg_none_of X G z_tuple
  e_law := fun s v => .of_eq rfl

end VS
open PySem PySem.W PyProof.Rows
set_option maxHeartbeats 0 in
theorem PySem.Challenge.cw_lightstold_k75_spares_options_and_picked_holds : PySem.Challenge.rw_lightstold_k75_spares_options_and_picked.Holds := by
  w_on; o_law; k_head; (case hw => w_witness2)
  k_fill
  refine L2.walk_of (l := PySem.Challenge.rw_lightstold_k75_spares_options_and_picked) (n := 63) (k := 15) (x := "script") (CX := fun w => L2.CX PySem.Challenge.pw_lightstold_k75_spares_options_and_picked w) (sp := fun w => VS.spLaw _) rfl (by decide) rfl ⟨rfl, by decide, by decide⟩ (fun w h Y => PySem.W.kIn_of Y) ?F (fun _ _ a ns hl _ hS => ⟨a, ns, rfl, hS, hl, fun _ => rfl⟩) (fun _ _ _ _ _ h => VS.noCX h)
  case F =>
    intro w mg fa h KX G hmg
    refine' VS.law_of hmg (VS.tx_mk KX G ?gC0 ?gC1 ?gC2 ?gX0 ?gX1 ?gX2 ?gX3 ?gX4 ?gX5 ?x0 ?l0 ?c0 ?k0 ?x1 ?l1 ?c1 ?k1 ?x2 ?l2 ?c2 ?k2 ?x3 ?l3 ?c3 ?k3 ?x4 ?l4 ?c4 ?k4 ?x5 ?l5 ?c5 ?k5 ?x6 ?l6 ?c6 ?k6 ?x7 ?l7 ?c7 ?k7 ?x8 ?l8 ?c8 ?k8 ?x9 ?l9 ?c9 ?k9 ?x10 ?l10 ?c10 ?k10 ?x11 ?l11 ?c11 ?k11 ?x12 ?l12 ?c12 ?k12 ?x13 ?l13 ?c13 ?k13 ?x14 ?l14 ?c14 ?k14 ?x15 ?l15 ?c15 ?k15 ?x16 ?l16 ?c16 ?k16 ?x17 ?l17 ?c17 ?k17 ?x18 ?l18 ?c18 ?k18 ?x19 ?l19 ?c19 ?k19 ?x20 ?l20 ?c20 ?k20 ?x21 ?l21 ?c21 ?k21 ?x22 ?l22 ?c22 ?k22 ?x23 ?l23 ?c23 ?k23 ?x24 ?l24 ?c24 ?k24 ?x25 ?l25 ?c25 ?k25 ?x26 ?l26 ?c26 ?k26 ?x27 ?l27 ?c27 ?k27 ?x28 ?l28 ?c28 ?k28 ?x29 ?l29 ?c29 ?k29 ?x30 ?l30 ?c30 ?k30 ?x31 ?l31 ?c31 ?k31 ?x32 ?l32 ?c32 ?k32 ?x33 ?l33 ?c33 ?k33 ?x34 ?l34 ?c34 ?k34 ?x35 ?l35 ?c35 ?k35 ?x36 ?l36 ?c36 ?k36 ?x37 ?i37 ?l37 ?c37 ?k37 ?x38 ?i38 ?l38 ?c38 ?k38 ?x39 ?i39 ?l39 ?c39 ?k39 ?x40 ?i40 ?l40 ?c40 ?k40 ?x41 ?i41 ?l41 ?c41 ?k41 ?x42 ?i42 ?l42 ?c42 ?k42 ?pgC0 ?hdC0 ?poC0 ?saC0 ?mkC0 ?kcC0 ?nC0_0 ?nC0_1 ?pgC1 ?hdC1 ?poC1 ?saC1 ?mkC1 ?kcC1 ?nC1_0 ?nC1_1 ?nC1_2 ?nC1_3 ?nC1_4 ?nC1_5 ?nC1_6 ?nC1_7 ?pgC2 ?hdC2 ?poC2 ?saC2 ?mkC2 ?kcC2 ?nC2_0 ?nC2_1 ?nC2_2 ?eX0 ?nX0_0 ?xlX0 ?rvX0 ?saX0 ?tyX0 ?kcX0 ?x43 ?t43 ?l43 ?c43 ?k43 ?eX1 ?nX1_0 ?xlX1 ?rvX1 ?saX1 ?tyX1 ?kcX1 ?x44 ?t44 ?l44 ?c44 ?k44 ?eX2 ?nX2_0 ?nX2_1 ?xlX2 ?rvX2 ?saX2 ?tyX2 ?kcX2 ?x45 ?t45 ?l45 ?c45 ?k45 ?eX3 ?nX3_0 ?xlX3 ?rvX3 ?saX3 ?tyX3 ?kcX3 ?x46 ?t46 ?l46 ?c46 ?k46 ?eX4 ?nX4_0 ?xlX4 ?rvX4 ?saX4 ?tyX4 ?kcX4 ?x47 ?t47 ?l47 ?c47 ?k47 ?eX5 ?nX5_0 ?xlX5 ?rvX5 ?saX5 ?tyX5 ?kcX5 ?x48 ?t48 ?l48 ?c48 ?k48 ?oN ?oT ?gaX3 ?ggX3 ?hdX3 ?haX3 ?hmX3 ?emX3_0 ?ktX3_0 ?gaX5 ?ggX5 ?hdX5 ?haX5 ?hmX5 ?emX5_1 ?ktX5_1 ?emX5_0 ?ktX5_0 ?v_FIELDS ?vl_FIELDS ?vt_FIELDS ?v_GLASSES ?vl_GLASSES ?vt_GLASSES ?v_HORN_LETTERS ?v_LETTERS ?v_LIGHT_LETTERS ?v_MOST_HIGH ?v_MOST_LETTERS ?v_MOST_PART ?v_MOST_PRICE ?v_MOST_SECTORS ?v_MOST_SIGNALS ?v_MOST_SPARES ?v_MOST_WIDE ?z_abs ?z_bool ?z_enumerate ?z_int ?z_isinstance ?z_len ?z_list ?z_range ?z_tuple)
    (case gC0 => first | k_is | rfl | decide +kernel)
    (case gC1 => first | k_is | rfl | decide +kernel)
    (case gC2 => first | k_is | rfl | decide +kernel)
    (case gX0 => first | k_is | rfl | decide +kernel)
    (case gX1 => first | k_is | rfl | decide +kernel)
    (case gX2 => first | k_is | rfl | decide +kernel)
    (case gX3 => first | k_is | rfl | decide +kernel)
    (case gX4 => first | k_is | rfl | decide +kernel)
    (case gX5 => first | k_is | rfl | decide +kernel)
    (case x0 => first | k_is | rfl | decide +kernel)
    (case l0 => first | k_is | rfl | decide +kernel)
    (case c0 => first | k_is | rfl | decide +kernel)
    (case k0 => first | k_is | rfl | decide +kernel)
    (case x1 => first | k_is | rfl | decide +kernel)
    (case l1 => first | k_is | rfl | decide +kernel)
    (case c1 => first | k_is | rfl | decide +kernel)
    (case k1 => first | k_is | rfl | decide +kernel)
    (case x2 => first | k_is | rfl | decide +kernel)
    (case l2 => first | k_is | rfl | decide +kernel)
    (case c2 => first | k_is | rfl | decide +kernel)
    (case k2 => first | k_is | rfl | decide +kernel)
    (case x3 => first | k_is | rfl | decide +kernel)
    (case l3 => first | k_is | rfl | decide +kernel)
    (case c3 => first | k_is | rfl | decide +kernel)
    (case k3 => first | k_is | rfl | decide +kernel)
    (case x4 => first | k_is | rfl | decide +kernel)
    (case l4 => first | k_is | rfl | decide +kernel)
    (case c4 => first | k_is | rfl | decide +kernel)
    (case k4 => first | k_is | rfl | decide +kernel)
    (case x5 => first | k_is | rfl | decide +kernel)
    (case l5 => first | k_is | rfl | decide +kernel)
    (case c5 => first | k_is | rfl | decide +kernel)
    (case k5 => first | k_is | rfl | decide +kernel)
    (case x6 => first | k_is | rfl | decide +kernel)
    (case l6 => first | k_is | rfl | decide +kernel)
    (case c6 => first | k_is | rfl | decide +kernel)
    (case k6 => first | k_is | rfl | decide +kernel)
    (case x7 => first | k_is | rfl | decide +kernel)
    (case l7 => first | k_is | rfl | decide +kernel)
    (case c7 => first | k_is | rfl | decide +kernel)
    (case k7 => first | k_is | rfl | decide +kernel)
    (case x8 => first | k_is | rfl | decide +kernel)
    (case l8 => first | k_is | rfl | decide +kernel)
    (case c8 => first | k_is | rfl | decide +kernel)
    (case k8 => first | k_is | rfl | decide +kernel)
    (case x9 => first | k_is | rfl | decide +kernel)
    (case l9 => first | k_is | rfl | decide +kernel)
    (case c9 => first | k_is | rfl | decide +kernel)
    (case k9 => first | k_is | rfl | decide +kernel)
    (case x10 => first | k_is | rfl | decide +kernel)
    (case l10 => first | k_is | rfl | decide +kernel)
    (case c10 => first | k_is | rfl | decide +kernel)
    (case k10 => first | k_is | rfl | decide +kernel)
    (case x11 => first | k_is | rfl | decide +kernel)
    (case l11 => first | k_is | rfl | decide +kernel)
    (case c11 => first | k_is | rfl | decide +kernel)
    (case k11 => first | k_is | rfl | decide +kernel)
    (case x12 => first | k_is | rfl | decide +kernel)
    (case l12 => first | k_is | rfl | decide +kernel)
    (case c12 => first | k_is | rfl | decide +kernel)
    (case k12 => first | k_is | rfl | decide +kernel)
    (case x13 => first | k_is | rfl | decide +kernel)
    (case l13 => first | k_is | rfl | decide +kernel)
    (case c13 => first | k_is | rfl | decide +kernel)
    (case k13 => first | k_is | rfl | decide +kernel)
    (case x14 => first | k_is | rfl | decide +kernel)
    (case l14 => first | k_is | rfl | decide +kernel)
    (case c14 => first | k_is | rfl | decide +kernel)
    (case k14 => first | k_is | rfl | decide +kernel)
    (case x15 => first | k_is | rfl | decide +kernel)
    (case l15 => first | k_is | rfl | decide +kernel)
    (case c15 => first | k_is | rfl | decide +kernel)
    (case k15 => first | k_is | rfl | decide +kernel)
    (case x16 => first | k_is | rfl | decide +kernel)
    (case l16 => first | k_is | rfl | decide +kernel)
    (case c16 => first | k_is | rfl | decide +kernel)
    (case k16 => first | k_is | rfl | decide +kernel)
    (case x17 => first | k_is | rfl | decide +kernel)
    (case l17 => first | k_is | rfl | decide +kernel)
    (case c17 => first | k_is | rfl | decide +kernel)
    (case k17 => first | k_is | rfl | decide +kernel)
    (case x18 => first | k_is | rfl | decide +kernel)
    (case l18 => first | k_is | rfl | decide +kernel)
    (case c18 => first | k_is | rfl | decide +kernel)
    (case k18 => first | k_is | rfl | decide +kernel)
    (case x19 => first | k_is | rfl | decide +kernel)
    (case l19 => first | k_is | rfl | decide +kernel)
    (case c19 => first | k_is | rfl | decide +kernel)
    (case k19 => first | k_is | rfl | decide +kernel)
    (case x20 => first | k_is | rfl | decide +kernel)
    (case l20 => first | k_is | rfl | decide +kernel)
    (case c20 => first | k_is | rfl | decide +kernel)
    (case k20 => first | k_is | rfl | decide +kernel)
    (case x21 => first | k_is | rfl | decide +kernel)
    (case l21 => first | k_is | rfl | decide +kernel)
    (case c21 => first | k_is | rfl | decide +kernel)
    (case k21 => first | k_is | rfl | decide +kernel)
    (case x22 => first | k_is | rfl | decide +kernel)
    (case l22 => first | k_is | rfl | decide +kernel)
    (case c22 => first | k_is | rfl | decide +kernel)
    (case k22 => first | k_is | rfl | decide +kernel)
    (case x23 => first | k_is | rfl | decide +kernel)
    (case l23 => first | k_is | rfl | decide +kernel)
    (case c23 => first | k_is | rfl | decide +kernel)
    (case k23 => first | k_is | rfl | decide +kernel)
    (case x24 => first | k_is | rfl | decide +kernel)
    (case l24 => first | k_is | rfl | decide +kernel)
    (case c24 => first | k_is | rfl | decide +kernel)
    (case k24 => first | k_is | rfl | decide +kernel)
    (case x25 => first | k_is | rfl | decide +kernel)
    (case l25 => first | k_is | rfl | decide +kernel)
    (case c25 => first | k_is | rfl | decide +kernel)
    (case k25 => first | k_is | rfl | decide +kernel)
    (case x26 => first | k_is | rfl | decide +kernel)
    (case l26 => first | k_is | rfl | decide +kernel)
    (case c26 => first | k_is | rfl | decide +kernel)
    (case k26 => first | k_is | rfl | decide +kernel)
    (case x27 => first | k_is | rfl | decide +kernel)
    (case l27 => first | k_is | rfl | decide +kernel)
    (case c27 => first | k_is | rfl | decide +kernel)
    (case k27 => first | k_is | rfl | decide +kernel)
    (case x28 => first | k_is | rfl | decide +kernel)
    (case l28 => first | k_is | rfl | decide +kernel)
    (case c28 => first | k_is | rfl | decide +kernel)
    (case k28 => first | k_is | rfl | decide +kernel)
    (case x29 => first | k_is | rfl | decide +kernel)
    (case l29 => first | k_is | rfl | decide +kernel)
    (case c29 => first | k_is | rfl | decide +kernel)
    (case k29 => first | k_is | rfl | decide +kernel)
    (case x30 => first | k_is | rfl | decide +kernel)
    (case l30 => first | k_is | rfl | decide +kernel)
    (case c30 => first | k_is | rfl | decide +kernel)
    (case k30 => first | k_is | rfl | decide +kernel)
    (case x31 => first | k_is | rfl | decide +kernel)
    (case l31 => first | k_is | rfl | decide +kernel)
    (case c31 => first | k_is | rfl | decide +kernel)
    (case k31 => first | k_is | rfl | decide +kernel)
    (case x32 => first | k_is | rfl | decide +kernel)
    (case l32 => first | k_is | rfl | decide +kernel)
    (case c32 => first | k_is | rfl | decide +kernel)
    (case k32 => first | k_is | rfl | decide +kernel)
    (case x33 => first | k_is | rfl | decide +kernel)
    (case l33 => first | k_is | rfl | decide +kernel)
    (case c33 => first | k_is | rfl | decide +kernel)
    (case k33 => first | k_is | rfl | decide +kernel)
    (case x34 => first | k_is | rfl | decide +kernel)
    (case l34 => first | k_is | rfl | decide +kernel)
    (case c34 => first | k_is | rfl | decide +kernel)
    (case k34 => first | k_is | rfl | decide +kernel)
    (case x35 => first | k_is | rfl | decide +kernel)
    (case l35 => first | k_is | rfl | decide +kernel)
    (case c35 => first | k_is | rfl | decide +kernel)
    (case k35 => first | k_is | rfl | decide +kernel)
    (case x36 => first | k_is | rfl | decide +kernel)
    (case l36 => first | k_is | rfl | decide +kernel)
    (case c36 => first | k_is | rfl | decide +kernel)
    (case k36 => first | k_is | rfl | decide +kernel)
    (case x37 => first | k_is | rfl | decide +kernel)
    (case i37 => first | k_is | rfl | decide +kernel)
    (case l37 => first | k_is | rfl | decide +kernel)
    (case c37 => first | k_is | rfl | decide +kernel)
    (case k37 => first | k_is | rfl | decide +kernel)
    (case x38 => first | k_is | rfl | decide +kernel)
    (case i38 => first | k_is | rfl | decide +kernel)
    (case l38 => first | k_is | rfl | decide +kernel)
    (case c38 => first | k_is | rfl | decide +kernel)
    (case k38 => first | k_is | rfl | decide +kernel)
    (case x39 => first | k_is | rfl | decide +kernel)
    (case i39 => first | k_is | rfl | decide +kernel)
    (case l39 => first | k_is | rfl | decide +kernel)
    (case c39 => first | k_is | rfl | decide +kernel)
    (case k39 => first | k_is | rfl | decide +kernel)
    (case x40 => first | k_is | rfl | decide +kernel)
    (case i40 => first | k_is | rfl | decide +kernel)
    (case l40 => first | k_is | rfl | decide +kernel)
    (case c40 => first | k_is | rfl | decide +kernel)
    (case k40 => first | k_is | rfl | decide +kernel)
    (case x41 => first | k_is | rfl | decide +kernel)
    (case i41 => first | k_is | rfl | decide +kernel)
    (case l41 => first | k_is | rfl | decide +kernel)
    (case c41 => first | k_is | rfl | decide +kernel)
    (case k41 => first | k_is | rfl | decide +kernel)
    (case x42 => first | k_is | rfl | decide +kernel)
    (case i42 => first | k_is | rfl | decide +kernel)
    (case l42 => first | k_is | rfl | decide +kernel)
    (case c42 => first | k_is | rfl | decide +kernel)
    (case k42 => first | k_is | rfl | decide +kernel)
    (case pgC0 => first | k_is | rfl | decide +kernel)
    (case hdC0 => first | k_is | rfl | decide +kernel)
    (case poC0 => first | k_is | rfl | decide +kernel)
    (case saC0 => first | k_is | rfl | decide +kernel)
    (case mkC0 => first | k_is | rfl | decide +kernel)
    (case kcC0 => first | k_is | rfl | decide +kernel)
    (case nC0_0 => first | k_is | rfl | decide +kernel)
    (case nC0_1 => first | k_is | rfl | decide +kernel)
    (case pgC1 => first | k_is | rfl | decide +kernel)
    (case hdC1 => first | k_is | rfl | decide +kernel)
    (case poC1 => first | k_is | rfl | decide +kernel)
    (case saC1 => first | k_is | rfl | decide +kernel)
    (case mkC1 => first | k_is | rfl | decide +kernel)
    (case kcC1 => first | k_is | rfl | decide +kernel)
    (case nC1_0 => first | k_is | rfl | decide +kernel)
    (case nC1_1 => first | k_is | rfl | decide +kernel)
    (case nC1_2 => first | k_is | rfl | decide +kernel)
    (case nC1_3 => first | k_is | rfl | decide +kernel)
    (case nC1_4 => first | k_is | rfl | decide +kernel)
    (case nC1_5 => first | k_is | rfl | decide +kernel)
    (case nC1_6 => first | k_is | rfl | decide +kernel)
    (case nC1_7 => first | k_is | rfl | decide +kernel)
    (case pgC2 => first | k_is | rfl | decide +kernel)
    (case hdC2 => first | k_is | rfl | decide +kernel)
    (case poC2 => first | k_is | rfl | decide +kernel)
    (case saC2 => first | k_is | rfl | decide +kernel)
    (case mkC2 => first | k_is | rfl | decide +kernel)
    (case kcC2 => first | k_is | rfl | decide +kernel)
    (case nC2_0 => first | k_is | rfl | decide +kernel)
    (case nC2_1 => first | k_is | rfl | decide +kernel)
    (case nC2_2 => first | k_is | rfl | decide +kernel)
    (case eX0 => first | k_is | rfl | decide +kernel)
    (case nX0_0 => first | k_is | rfl | decide +kernel)
    (case xlX0 => first | k_is | rfl | decide +kernel)
    (case rvX0 => first | k_is | rfl | decide +kernel)
    (case saX0 => first | k_is | rfl | decide +kernel)
    (case tyX0 => first | k_is | rfl | decide +kernel)
    (case kcX0 => first | k_is | rfl | decide +kernel)
    (case x43 => first | k_is | rfl | decide +kernel)
    (case t43 => first | k_is | rfl | decide +kernel)
    (case l43 => first | k_is | rfl | decide +kernel)
    (case c43 => first | k_is | rfl | decide +kernel)
    (case k43 => first | k_is | rfl | decide +kernel)
    (case eX1 => first | k_is | rfl | decide +kernel)
    (case nX1_0 => first | k_is | rfl | decide +kernel)
    (case xlX1 => first | k_is | rfl | decide +kernel)
    (case rvX1 => first | k_is | rfl | decide +kernel)
    (case saX1 => first | k_is | rfl | decide +kernel)
    (case tyX1 => first | k_is | rfl | decide +kernel)
    (case kcX1 => first | k_is | rfl | decide +kernel)
    (case x44 => first | k_is | rfl | decide +kernel)
    (case t44 => first | k_is | rfl | decide +kernel)
    (case l44 => first | k_is | rfl | decide +kernel)
    (case c44 => first | k_is | rfl | decide +kernel)
    (case k44 => first | k_is | rfl | decide +kernel)
    (case eX2 => first | k_is | rfl | decide +kernel)
    (case nX2_0 => first | k_is | rfl | decide +kernel)
    (case nX2_1 => first | k_is | rfl | decide +kernel)
    (case xlX2 => first | k_is | rfl | decide +kernel)
    (case rvX2 => first | k_is | rfl | decide +kernel)
    (case saX2 => first | k_is | rfl | decide +kernel)
    (case tyX2 => first | k_is | rfl | decide +kernel)
    (case kcX2 => first | k_is | rfl | decide +kernel)
    (case x45 => first | k_is | rfl | decide +kernel)
    (case t45 => first | k_is | rfl | decide +kernel)
    (case l45 => first | k_is | rfl | decide +kernel)
    (case c45 => first | k_is | rfl | decide +kernel)
    (case k45 => first | k_is | rfl | decide +kernel)
    (case eX3 => first | k_is | rfl | decide +kernel)
    (case nX3_0 => first | k_is | rfl | decide +kernel)
    (case xlX3 => first | k_is | rfl | decide +kernel)
    (case rvX3 => first | k_is | rfl | decide +kernel)
    (case saX3 => first | k_is | rfl | decide +kernel)
    (case tyX3 => first | k_is | rfl | decide +kernel)
    (case kcX3 => first | k_is | rfl | decide +kernel)
    (case x46 => first | k_is | rfl | decide +kernel)
    (case t46 => first | k_is | rfl | decide +kernel)
    (case l46 => first | k_is | rfl | decide +kernel)
    (case c46 => first | k_is | rfl | decide +kernel)
    (case k46 => first | k_is | rfl | decide +kernel)
    (case eX4 => first | k_is | rfl | decide +kernel)
    (case nX4_0 => first | k_is | rfl | decide +kernel)
    (case xlX4 => first | k_is | rfl | decide +kernel)
    (case rvX4 => first | k_is | rfl | decide +kernel)
    (case saX4 => first | k_is | rfl | decide +kernel)
    (case tyX4 => first | k_is | rfl | decide +kernel)
    (case kcX4 => first | k_is | rfl | decide +kernel)
    (case x47 => first | k_is | rfl | decide +kernel)
    (case t47 => first | k_is | rfl | decide +kernel)
    (case l47 => first | k_is | rfl | decide +kernel)
    (case c47 => first | k_is | rfl | decide +kernel)
    (case k47 => first | k_is | rfl | decide +kernel)
    (case eX5 => first | k_is | rfl | decide +kernel)
    (case nX5_0 => first | k_is | rfl | decide +kernel)
    (case xlX5 => first | k_is | rfl | decide +kernel)
    (case rvX5 => first | k_is | rfl | decide +kernel)
    (case saX5 => first | k_is | rfl | decide +kernel)
    (case tyX5 => first | k_is | rfl | decide +kernel)
    (case kcX5 => first | k_is | rfl | decide +kernel)
    (case x48 => first | k_is | rfl | decide +kernel)
    (case t48 => first | k_is | rfl | decide +kernel)
    (case l48 => first | k_is | rfl | decide +kernel)
    (case c48 => first | k_is | rfl | decide +kernel)
    (case k48 => first | k_is | rfl | decide +kernel)
    (case oN => first | k_is | rfl | decide +kernel)
    (case oT => first | k_is | rfl | decide +kernel)
    (case gaX3 => first | k_is | rfl | decide +kernel)
    (case ggX3 => first | k_is | rfl | decide +kernel)
    (case hdX3 => first | k_is | rfl | decide +kernel)
    (case haX3 => first | k_is | rfl | decide +kernel)
    (case hmX3 => first | k_is | rfl | decide +kernel)
    (case emX3_0 => first | k_is | rfl | decide +kernel)
    (case ktX3_0 => first | k_is | rfl | decide +kernel)
    (case gaX5 => first | k_is | rfl | decide +kernel)
    (case ggX5 => first | k_is | rfl | decide +kernel)
    (case hdX5 => first | k_is | rfl | decide +kernel)
    (case haX5 => first | k_is | rfl | decide +kernel)
    (case hmX5 => first | k_is | rfl | decide +kernel)
    (case emX5_1 => first | k_is | rfl | decide +kernel)
    (case ktX5_1 => first | k_is | rfl | decide +kernel)
    (case emX5_0 => first | k_is | rfl | decide +kernel)
    (case ktX5_0 => first | k_is | rfl | decide +kernel)
    (case v_FIELDS => first | k_is | rfl | decide +kernel)
    (case vl_FIELDS => first | k_is | rfl | decide +kernel)
    (case vt_FIELDS => first | k_is | rfl | decide +kernel)
    (case v_GLASSES => first | k_is | rfl | decide +kernel)
    (case vl_GLASSES => first | k_is | rfl | decide +kernel)
    (case vt_GLASSES => first | k_is | rfl | decide +kernel)
    (case v_HORN_LETTERS => first | k_is | rfl | decide +kernel)
    (case v_LETTERS => first | k_is | rfl | decide +kernel)
    (case v_LIGHT_LETTERS => first | k_is | rfl | decide +kernel)
    (case v_MOST_HIGH => first | k_is | rfl | decide +kernel)
    (case v_MOST_LETTERS => first | k_is | rfl | decide +kernel)
    (case v_MOST_PART => first | k_is | rfl | decide +kernel)
    (case v_MOST_PRICE => first | k_is | rfl | decide +kernel)
    (case v_MOST_SECTORS => first | k_is | rfl | decide +kernel)
    (case v_MOST_SIGNALS => first | k_is | rfl | decide +kernel)
    (case v_MOST_SPARES => first | k_is | rfl | decide +kernel)
    (case v_MOST_WIDE => first | k_is | rfl | decide +kernel)
    (case z_abs => first | k_is | rfl | decide +kernel)
    (case z_bool => first | k_is | rfl | decide +kernel)
    (case z_enumerate => first | k_is | rfl | decide +kernel)
    (case z_int => first | k_is | rfl | decide +kernel)
    (case z_isinstance => first | k_is | rfl | decide +kernel)
    (case z_len => first | k_is | rfl | decide +kernel)
    (case z_list => first | k_is | rfl | decide +kernel)
    (case z_range => first | k_is | rfl | decide +kernel)
    (case z_tuple => first | k_is | rfl | decide +kernel)
