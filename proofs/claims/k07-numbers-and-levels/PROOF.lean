import PyProof.Rows.All
import Wide.All
import OpenK.AllK
import Wide.FinOn
import HandS.ForMost
import HandS.Exc
import HandS.WordsExc
import HandS.TryOnly
import HandS.TupAny
import HandS.Deep
import HandS.Style
import HandS.Walk
import HandS.ExcOwn
import KE.KExcSuper
import HandS.ExcInit
import HandS.RaiseMore
import HandS.Codes
import KE.KStateDown
import HandS.Head0
import HandS.Head1
import HandS.Head2
import HandS.HeadEnd
import HandS.HeadHook1
import HandS.HeadHook2
import PySem.Challenge.RW_stripestack_k07_numbers_and_levels
section
set_option Elab.async false
set_option linter.all false
set_option maxRecDepth 100000
/-! TvA: trees over the abstract heap: data that stands still, owned objects in slots. -/
namespace Tv
open PySem PySem.Spec PyProof.Rows L2

abbrev D := PyData
def keyD : Key → D
  | .inl i => .int i
  | .inr x => .str x

/-- the written part, and the exception that a suite holds: its address, its dict, its field -/
structure Kz where
  K : PySem.W.Frag
  z : Option (Addr × Addr × Str)

mutual
/-- v stands for the tree d, all of it in F -/
inductive Rp (K : PySem.W.Frag) (F : Hp) : V → D → Prop
  | non : Rp K F .non .none
  | bl (b : Bool) : Rp K F (.bl b) (.bool b)
  | int (i : Int) : Rp K F (.int i) (.int i)
  | str (x : Str) : Rp K F (.str x) (.str x)
  | lst {a : Addr} {xs : List V} {ds : List D} : SqL K F a xs → RpAll K F xs ds → Rp K F (.ref a) (.list ds)
  | tup {a : Addr} {xs : List V} {ds : List D} : SqT K F a xs → RpAll K F xs ds → Rp K F (.ref a) (.tuple ds)
  | dK {a : Addr} {kvs : List (Key × V)} {es : List (D × D)} : F a = some (.dK kvs) → es.map (·.1) = kvs.map (fun p => keyD p.1) → RpAll K F (kvs.map (·.2)) (es.map (·.2)) → Rp K F (.ref a) (.dict es)
  | dT {a : Addr} {kvs : List (List Key × V)} {es : List (D × D)} : F a = some (.dT kvs) → es.map (·.1) = kvs.map (fun p => PyData.tuple (p.1.map keyD)) → RpAll K F (kvs.map (·.2)) (es.map (·.2)) → Rp K F (.ref a) (.dict es)
inductive RpAll (K : PySem.W.Frag) (F : Hp) : List V → List D → Prop
  | nil : RpAll K F [] []
  | cons {v : V} {vs : List V} {d : D} {ds : List D} : Rp K F v d → RpAll K F vs ds → RpAll K F (v :: vs) (d :: ds)
end

section
variable {K : PySem.W.Frag} {F F' : Hp}
mutual
theorem Rp.mono (e : Same F F') : ∀ {v : V} {d : D}, Rp K F v d → Rp K F' v d
  | _, _, .non => .non
  | _, _, .bl b => .bl b
  | _, _, .int i => .int i
  | _, _, .str x => .str x
  | _, _, .lst h t => .lst (e.seq h) (RpAll.mono e t)
  | _, _, .tup h t => .tup (by
      rcases h with (h | ⟨o, h⟩) | h
      · exact .inl (.inl (e _ _ h))
      · exact .inl (.inr ⟨o, e _ _ h⟩)
      · exact .inr h) (RpAll.mono e t)
  | _, _, .dK h k t => .dK (e _ _ h) k (RpAll.mono e t)
  | _, _, .dT h k t => .dT (e _ _ h) k (RpAll.mono e t)
theorem RpAll.mono (e : Same F F') : ∀ {vs : List V} {ds : List D}, RpAll K F vs ds → RpAll K F' vs ds
  | _, _, .nil => .nil
  | _, _, .cons h t => .cons (Rp.mono e h) (RpAll.mono e t)
end
theorem RpAll.length : ∀ {vs : List V} {ds : List D}, RpAll K F vs ds → vs.length = ds.length
  | _, _, .nil => rfl
  | _, _, .cons _ t => congrArg (· + 1) (RpAll.length t)
theorem RpAll.append : ∀ {vs : List V} {ds : List D} {vs' : List V} {ds' : List D}, RpAll K F vs ds → RpAll K F vs' ds' → RpAll K F (vs ++ vs') (ds ++ ds')
  | _, _, _, _, .nil, q => q
  | _, _, _, _, .cons h t, q => .cons h (RpAll.append t q)
theorem RpAll.get : ∀ {vs : List V} {ds : List D} {i : Nat} {d : D}, RpAll K F vs ds → ds[i]? = some d → ∃ v, vs[i]? = some v ∧ Rp K F v d
  | _, _, _, _, .nil, h => by simp at h
  | _, _, 0, _, .cons h t, e => by
    simp at e
    subst e
    exact ⟨_, rfl, h⟩
  | _, _, i + 1, _, .cons h t, e => by
    obtain ⟨v, e1, r⟩ := RpAll.get (i := i) t (by simpa using e)
    exact ⟨v, by simpa using e1, r⟩
theorem RpAll.get' : ∀ {vs : List V} {ds : List D} {i : Nat} {v : V}, RpAll K F vs ds → vs[i]? = some v → ∃ d, ds[i]? = some d ∧ Rp K F v d
  | _, _, _, _, .nil, h => by simp at h
  | _, _, 0, _, .cons h t, e => by
    simp at e
    subst e
    exact ⟨_, rfl, h⟩
  | _, _, i + 1, _, .cons h t, e => by
    obtain ⟨v, e1, r⟩ := RpAll.get' (i := i) t (by simpa using e)
    exact ⟨v, by simpa using e1, r⟩
theorem RpAll.drop : ∀ (n : Nat) {vs : List V} {ds : List D}, RpAll K F vs ds → RpAll K F (vs.drop n) (ds.drop n)
  | 0, _, _, h => h
  | _ + 1, _, _, .nil => .nil
  | n + 1, _, _, .cons _ t => RpAll.drop n t
theorem RpAll.take : ∀ (n : Nat) {vs : List V} {ds : List D}, RpAll K F vs ds → RpAll K F (vs.take n) (ds.take n)
  | 0, _, _, _ => .nil
  | _ + 1, _, _, .nil => .nil
  | n + 1, _, _, .cons h t => .cons h (RpAll.take n t)
theorem RpAll.set : ∀ (n : Nat) {vs : List V} {ds : List D} {v : V} {d : D}, Rp K F v d → RpAll K F vs ds → RpAll K F (vs.set n v) (ds.set n d)
  | _, _, _, _, _, _, .nil => .nil
  | 0, _, _, _, _, r, .cons _ t => .cons r t
  | n + 1, _, _, _, _, r, .cons h t => .cons h (RpAll.set n r t)
theorem RpAll.rep : ∀ (n : Nat) {vs : List V} {ds : List D}, RpAll K F vs ds → RpAll K F (List.replicate n vs).flatten (List.replicate n ds).flatten
  | 0, _, _, _ => .nil
  | n + 1, _, _, h => by
    rw [List.replicate_succ, List.replicate_succ, List.flatten_cons, List.flatten_cons]
    exact h.append (RpAll.rep n h)
end

/-! ### owned trees -/
/-- what a slot holds: a tree that stands still; a list of the slot's own (nothing else holds it); the exception of a suite -/
inductive Ow where
  | dat (d : D)
  | lst (ds : List D)
  | xcp (d : D)
abbrev Env := List (Option Ow)
def Ow.toD : Ow → D
  | .dat d => d
  | .lst ds => .list ds
  | .xcp d => d

/-- H without the addresses A -/
def out (A : List Addr) (H : Hp) : Hp := fun b => if b ∈ A then none else H b
theorem out_some {A : List Addr} {H : Hp} {b : Addr} {o : HO} : out A H b = some o ↔ b ∉ A ∧ H b = some o := by
  unfold out
  by_cases h : b ∈ A
  · simp [h]
  · simp [h]
theorem out_sub {A A' : List Addr} {H : Hp} (h : ∀ a ∈ A', a ∈ A) : Same (out A H) (out A' H) := fun b o e => by
  rw [out_some] at e ⊢
  exact ⟨fun q => e.1 (h b q), e.2⟩
theorem out_le {A : List Addr} {H : Hp} : Same (out A H) H := fun b o e => (out_some.mp e).2

/-- v is the owned tree ow, its own objects at A in H, all else in F -/
inductive ROw (Z : Kz) (F H : Hp) : V → Ow → List Addr → Prop
  | dat {v : V} {d : D} : Rp Z.K F v d → ROw Z F H v (.dat d) []
  | lst {a : Addr} {vs : List V} {ds : List D} : H a = some (.lst vs) → RpAll Z.K F vs ds → ROw Z F H (.ref a) (.lst ds) [a]
  | xcp {a dd : Addr} {f : Str} {v : V} {d : D} : Z.z = some (a, dd, f) → F dd = some (.xd [(f, v)]) → Rp Z.K F v d → ROw Z F H (.ref a) (.xcp d) []
theorem ROw.mono {Z : Kz} {F F' H H' : Hp} {v : V} {ow : Ow} {A : List Addr} (e : Same F F') (k : ∀ a ∈ A, H' a = H a) (h : ROw Z F H v ow A) : ROw Z F' H' v ow A := by
  cases h with
  | dat r => exact .dat (r.mono e)
  | lst hs r => exact .lst ((k _ (by simp)).trans hs) (r.mono e)
  | xcp hz hd r => exact .xcp hz (e _ _ hd) (r.mono e)
theorem ROw.tr {Z : Kz} {F H : Hp} {v : V} {ow : Ow} {A : List Addr} (h : ROw Z F H v ow A) : ∀ a ∈ A, H a ≠ none := by
  cases h with
  | dat r => simp
  | lst hs r =>
    intro a ha
    simp at ha
    subst ha
    rw [hs]
    simp
  | xcp _ _ _ => simp

/-- the slots and what they hold -/
inductive REnv (Z : Kz) (F H : Hp) : List (Option V) → Env → List Addr → Prop
  | nil : REnv Z F H [] [] []
  | no {x : Option V} {σ : List (Option V)} {Γ : Env} {A : List Addr} : REnv Z F H σ Γ A → REnv Z F H (x :: σ) (none :: Γ) A
  | yes {v : V} {ow : Ow} {σ : List (Option V)} {Γ : Env} {B A : List Addr} : ROw Z F H v ow B → REnv Z F H σ Γ A → REnv Z F H (some v :: σ) (some ow :: Γ) (B ++ A)
section
variable {Z : Kz} {F F' H H' : Hp} {σ : List (Option V)} {Γ : Env} {A : List Addr}
theorem REnv.mono (e : Same F F') : ∀ {σ : List (Option V)} {Γ : Env} {A : List Addr}, REnv Z F H σ Γ A → (∀ a ∈ A, H' a = H a) → REnv Z F' H' σ Γ A
  | _, _, _, .nil, _ => .nil
  | _, _, _, .no h, k => .no (REnv.mono e h k)
  | _, _, _, .yes r h, k => .yes (r.mono e fun a ha => k a (List.mem_append_left _ ha)) (REnv.mono e h fun a ha => k a (List.mem_append_right _ ha))
theorem REnv.tr : ∀ {σ : List (Option V)} {Γ : Env} {A : List Addr}, REnv Z F H σ Γ A → ∀ a ∈ A, H a ≠ none
  | _, _, _, .nil, _, h => by simp at h
  | _, _, _, .no h, a, ha => REnv.tr h a ha
  | _, _, _, .yes r h, a, ha => (List.mem_append.mp ha).elim (fun q => r.tr a q) fun q => REnv.tr h a q
theorem REnv.length : ∀ {σ : List (Option V)} {Γ : Env} {A : List Addr}, REnv Z F H σ Γ A → σ.length = Γ.length
  | _, _, _, .nil => rfl
  | _, _, _, .no h => congrArg (· + 1) (REnv.length h)
  | _, _, _, .yes _ h => congrArg (· + 1) (REnv.length h)
/-- what a slot holds; another thing may be laid there -/
theorem REnv.at : ∀ {σ : List (Option V)} {Γ : Env} {A : List Addr} {i : Nat} {ow : Ow}, REnv Z F H σ Γ A → Γ[i]? = some (some ow) →
    ∃ v B P S, σ[i]? = some (some v) ∧ A = P ++ (B ++ S) ∧ ROw Z F H v ow B ∧ ∀ v' ow' B' F' H', ROw Z F' H' v' ow' B' → Same F F' → (∀ a, a ∈ P ∨ a ∈ S → H' a = H a) → REnv Z F' H' (σ.set i (some v')) (Γ.set i (some ow')) (P ++ (B' ++ S))
  | _, _, _, _, _, .nil, h => by simp at h
  | _, _, _, 0, _, .no _, h => by simp at h
  | _, _, _, i + 1, _, .no t, h => by
    obtain ⟨v, B, P, S, h1, h2, h3, h4⟩ := REnv.at (i := i) t (by simpa using h)
    exact ⟨v, B, P, S, by simpa using h1, h2, h3, fun v' ow' B' F' H' r e k => .no (h4 v' ow' B' F' H' r e k)⟩
  | _, _, _, 0, _, .yes (B := B) (A := A) r t, h => by
    simp at h
    subst h
    exact ⟨_, B, [], A, rfl, rfl, r, fun v' ow' B' F' H' r' e k => show REnv Z F' H' _ _ (B' ++ A) from .yes r' (t.mono e fun a ha => k a (.inr ha))⟩
  | _, _, _, i + 1, _, .yes (B := B0) r t, h => by
    obtain ⟨v, B, P, S, h1, h2, h3, h4⟩ := REnv.at (i := i) t (by simpa using h)
    refine ⟨v, B, B0 ++ P, S, by simpa using h1, by rw [h2, List.append_assoc], h3, fun v' ow' B' F' H' r' e k => ?_⟩
    rw [List.append_assoc]
    exact .yes (r.mono e fun a ha => k a (.inl (List.mem_append_left _ ha))) (h4 v' ow' B' F' H' r' e fun a ha => k a (ha.elim (fun q => .inl (List.mem_append_right _ q)) .inr))
/-- a slot is laid anew, whatever it held -/
theorem REnv.lay : ∀ {σ : List (Option V)} {Γ : Env} {A : List Addr} {i : Nat}, REnv Z F H σ Γ A → i < Γ.length →
    ∃ B P S, A = P ++ (B ++ S) ∧ ∀ v' ow' B', ROw Z F H v' ow' B' → REnv Z F H (σ.set i (some v')) (Γ.set i (some ow')) (P ++ (B' ++ S))
  | _, _, _, _, .nil, h => by simp at h
  | _, _, _, 0, .no (A := A) t, h => ⟨[], [], A, rfl, fun v' ow' B' r => show REnv Z F H _ _ (B' ++ A) from .yes r t⟩
  | _, _, _, i + 1, .no t, h => by
    obtain ⟨B, P, S, h2, h4⟩ := REnv.lay (i := i) t (by simpa using h)
    exact ⟨B, P, S, h2, fun v' ow' B' r => .no (h4 v' ow' B' r)⟩
  | _, _, _, 0, .yes (B := B) (A := A) r t, h => ⟨B, [], A, rfl, fun v' ow' B' r' => show REnv Z F H _ _ (B' ++ A) from .yes r' t⟩
  | _, _, _, i + 1, .yes (B := B0) r t, h => by
    obtain ⟨B, P, S, h2, h4⟩ := REnv.lay (i := i) t (by simpa using h)
    refine ⟨B, B0 ++ P, S, by rw [h2, List.append_assoc], fun v' ow' B' r' => ?_⟩
    rw [List.append_assoc]
    exact .yes r (h4 v' ow' B' r')
/-- a slot is emptied -/
theorem REnv.wipe1 : ∀ {σ : List (Option V)} {Γ : Env} {A : List Addr} {i : Nat}, REnv Z F H σ Γ A → (∀ ow, Γ[i]? = some (some ow) → ∃ d, ow = .dat d) → REnv Z F H (σ.set i none) (Γ.set i none) A
  | _, _, _, _, .nil, _ => .nil
  | _, _, _, 0, .no t, _ => .no t
  | _, _, _, i + 1, .no t, h => .no (REnv.wipe1 t fun ow e => h ow (by simpa using e))
  | _, _, _, 0, .yes r t, h => by
    obtain ⟨d, e⟩ := h _ rfl
    subst e
    cases r
    exact .no t
  | _, _, _, i + 1, .yes r t, h => .yes r (REnv.wipe1 t fun ow e => h ow (by simpa using e))
end

/-! ### states -/
/-- A: the slots' own objects; T: objects that others hold for the time being -/
structure Ste (Z : Kz) (σ : List (Option V)) (H : Hp) (Γ : Env) (A T : List Addr) : Prop where
  env : REnv Z (out (A ++ T) H) H σ Γ A
  nd : (A ++ T).Nodup
  tr : ∀ t ∈ T, H t ≠ none
/-- from H, of which A was ours, to H', of which A' is ours -/
def Stp (A : List Addr) (H : Hp) (A' : List Addr) (H' : Hp) : Prop := Same (out A H) H' ∧ ∀ a ∈ A', a ∈ A ∨ H a = none
section
variable {Z : Kz} {σ : List (Option V)} {H H' H1 H2 : Hp} {Γ : Env} {A A' A1 A2 B B1 C T : List Addr} {p : Addr} {o : HO}
theorem Stp.refl : Stp A H A H := ⟨out_le, fun _ h => .inl h⟩
theorem Stp.keep (h : Stp A H A' H') {b : Addr} {o : HO} (hb : b ∉ A) (e : H b = some o) : H' b = some o := h.1 b o (out_some.mpr ⟨hb, e⟩)
theorem Stp.sub (h : Stp A H A' H') (s : ∀ a ∈ A1, a ∈ A') : Stp A H A1 H' := ⟨h.1, fun a q => h.2 a (s a q)⟩
theorem Stp.trans (h : Stp A H A1 H1) (h' : Stp A1 H1 A2 H2) : Stp A H A2 H2 := by
  have key : ∀ b o, b ∉ A → H b = some o → b ∉ A1 ∧ H1 b = some o := fun b o hb e => ⟨fun q => (h.2 b q).elim hb (fun n => by rw [n] at e; cases e), h.keep hb e⟩
  refine ⟨fun b o e => ?_, fun a ha => ?_⟩
  · obtain ⟨hb, e⟩ := out_some.mp e
    obtain ⟨h1, h2⟩ := key b o hb e
    exact h'.keep h1 h2
  · rcases h'.2 a ha with q | q
    · exact h.2 a q
    · by_cases hA : a ∈ A
      · exact .inl hA
      · cases e : H a with
        | none => exact .inr rfl
        | some o =>
          obtain ⟨_, h2⟩ := key a o hA e
          rw [h2] at q
          cases q
/-- with things laid aside on the way -/
theorem Stp.trans2 (h : Stp A H (A1 ++ B1) H1) (h' : Stp A1 H1 C H2) : Stp A H (C ++ B1) H2 := by
  have h1 : Stp A H A1 H1 := h.sub fun a q => List.mem_append_left _ q
  have h2 := h1.trans h'
  refine ⟨h2.1, fun a ha => ?_⟩
  rcases List.mem_append.mp ha with q | q
  · exact h2.2 a q
  · exact h.2 a (List.mem_append_right _ q)
theorem Stp.exF (h : Stp A H A' H') : Same (out (A ++ T) H) (out (A' ++ T) H') := fun b o e => by
  obtain ⟨hb, e⟩ := out_some.mp e
  have nA : b ∉ A := fun q => hb (List.mem_append_left _ q)
  refine out_some.mpr ⟨fun q => ?_, h.keep nA e⟩
  rcases List.mem_append.mp q with q | q
  · exact (h.2 b q).elim nA fun n => by rw [n] at e; cases e
  · exact hb (List.mem_append_right _ q)
theorem Ste.trA (s : Ste Z σ H Γ A T) : ∀ a ∈ A ++ T, H a ≠ none := fun a ha => (List.mem_append.mp ha).elim (s.env.tr a) (s.tr a)
theorem Ste.fresh (s : Ste Z σ H Γ A T) (hp : H p = none) : p ∉ A ++ T := fun q => s.trA p q hp
theorem Stp.new (hp : H p = none) : Stp A H A (upd H p o) := ⟨fun b u e => by
  obtain ⟨_, e⟩ := out_some.mp e
  rw [upd_ne (ne_of_none e hp)]
  exact e, fun _ h => .inl h⟩
/-- what was laid aside is kept behind a step -/
theorem Stp.keepT (h : Stp A H A' H') (nd : (A ++ T).Nodup) (tr : ∀ t ∈ T, H t ≠ none) : ∀ t ∈ T, H' t = H t := fun t ht => by
  cases e : H t with
  | none => exact absurd e (tr t ht)
  | some o => exact h.keep (fun q => (List.nodup_append.mp nd).2.2 t q t ht rfl) e
theorem Ste.drop (s : Ste Z σ H Γ A (B ++ T)) : Ste Z σ H Γ A T := by
  refine ⟨s.env.mono (out_sub fun a ha => ?_) fun _ _ => rfl, ?_, fun t ht => s.tr t (List.mem_append_right _ ht)⟩
  · rcases List.mem_append.mp ha with q | q
    · exact List.mem_append_left _ q
    · exact List.mem_append_right _ (List.mem_append_right _ q)
  · exact s.nd.sublist (List.Sublist.append (List.Sublist.refl A) (List.sublist_append_right B T))
/-- a new object is laid -/
theorem Ste.new (s : Ste Z σ H Γ A T) (hp : H p = none) : Ste Z σ (upd H p o) Γ A T := by
  have np := s.fresh hp
  refine ⟨s.env.mono (Stp.exF (Stp.new hp)) fun a ha => upd_ne fun e => np (by rw [← e]; exact List.mem_append_left _ ha), s.nd, fun t ht => ?_⟩
  rw [upd_ne fun e => np (by rw [← e]; exact List.mem_append_right _ ht)]
  exact s.tr t ht
theorem out_new (hp : H p = none) (np : p ∉ A) : out A (upd H p o) p = some o := out_some.mpr ⟨np, upd_same⟩
end
end Tv
end

section
set_option Elab.async false
set_option linter.all false
set_option maxRecDepth 100000
/-! TvE: a small language over slots, and what it comes to, over trees alone. -/
namespace Tv
open PySem PySem.Spec PyProof.Rows L2

/-! ### the language -/
inductive Cop where
  | eq | ne | lt | le | gt | ge | in_ | nin | is_ | isnt
inductive Bop where
  | add | sub | mul | fdiv | mod
inductive Blt where
  | len | int | abs | min | max | ord | tuple | list | any | all
mutual
inductive E where
  | var (i : Nat)
  | con (d : D)
  | glb (x : Str) (d : D)
  | bin (op : Bop) (a b : E)
  | rep (a b : E)
  | neg (a : E)
  | cmp (op : Cop) (a b : E)
  | chain (op op' : Cop) (a b c : E)
  | and_ (a b : E)
  | or_ (a b : E)
  | not_ (a : E)
  | ite (t : T) (a b : E)
  | tup (es : Es)
  | lst (es : Es)
  | sub (a i : E)
  | slc (a : E) (lo hi : Eo)
  | call (f : Str) (es : Es)
  | blt (f : Blt) (es : Es)
  | lc (v : Nat) (it : Iw) (t : To) (elt : E)
inductive Eo where
  | no
  | some (e : E)
inductive To where
  | no
  | some (t : T)
inductive T where
  | val (e : E)
  | and_ (a b : T)
  | or_ (a b : T)
  | not_ (a : T)
inductive Es where
  | nil
  | cons (e : E) (es : Es)
inductive Iw where
  | e (e : E)
  | rng (a : E)
  | rng2 (a b : E)
end
inductive Tg where
  | one (i : Nat)
  | many (is : List Nat)
mutual
inductive S where
  | asg (g : Tg) (e : E)
  | app (i : Nat) (e : E)
  | expr (e : E)
  | ret (e : E)
  | retN
  | ite (t : T) (a b : Ss)
  | whl (t : T) (b : Ss)
  | for_ (g : Tg) (it : Iw) (b : Ss)
  | brk
  | cnt
  | pass
  | rse (c : Str) (e : E)
  | tr (b : Ss) (c : Str) (i : Option Nat) (s : Ss)
inductive Ss where
  | nil
  | cons (s : S) (r : Ss)
end

/-! ### what it comes to -/
/-- an exception of an own class, with what it was made of -/
structure Xn where
  cls : Str
  val : D
/-- a def's end -/
inductive Rf where
  | ok (ow : Ow)
  | exn (x : Xn)
  | bad
abbrev Ft := Str → List D → Rf
/-- an expression's end: a thing of its own, or a slot as it stands -/
inductive R where
  | fre (ow : Ow)
  | var (i : Nat)
inductive Ro (α : Type) where
  | ok (a : α) (Γ : Env)
  | exn (x : Xn) (Γ : Env)
  | bad
def Ro.bind {α β : Type} (r : Ro α) (f : α → Env → Ro β) : Ro β := match r with
  | .ok a Γ => f a Γ
  | .exn x Γ => .exn x Γ
  | .bad => .bad
/-- a statement's end -/
inductive So where
  | next (Γ : Env)
  | brk (Γ : Env)
  | cnt (Γ : Env)
  | ret (ow : Ow) (Γ : Env)
  | exn (x : Xn) (Γ : Env)
  | bad
def Ro.so {α : Type} (r : Ro α) (f : α → Env → So) : So := match r with
  | .ok a Γ => f a Γ
  | .exn x Γ => .exn x Γ
  | .bad => .bad
def So.seq (r : So) (f : Env → So) : So := match r with
  | .next Γ => f Γ
  | r => r

/-- nothing may leave -/
def So.shut (r : So) : So := match r with
  | .exn _ _ => .bad
  | r => r

/-- the tree of a thing, not an exception's -/
def Ow.tree : Ow → Option D
  | .dat d => some d
  | .lst ds => some (.list ds)
  | .xcp _ => none
/-- read as a tree, as it stands -/
def view (Γ : Env) : R → Option D
  | .fre ow => ow.tree
  | .var i => match Γ[i]? with
    | some (some ow) => ow.tree
    | _ => none
def viewAll (Γ : Env) : List R → Option (List D)
  | [] => some []
  | r :: rs => match view Γ r, viewAll Γ rs with
    | some d, some ds => some (d :: ds)
    | _, _ => none
/-- taken as a tree that stands still from now on -/
def asD (r : R) (Γ : Env) : Ro D := match r with
  | .fre ow => match ow.tree with
    | some d => .ok d Γ
    | none => .bad
  | .var i => match Γ[i]? with
    | some (some ow) => match ow.tree with
      | some d => .ok d (Γ.set i (some (.dat d)))
      | none => .bad
    | _ => .bad
def asDs : List R → Env → Ro (List D)
  | [], Γ => .ok [] Γ
  | r :: rs, Γ => (asD r Γ).bind fun d Γ => (asDs rs Γ).bind fun ds Γ => .ok (d :: ds) Γ

/-! ### operations on trees -/
def chr1 (c : Nat) : D := .str ⟨#[c]⟩
def catD : D → D → Option Ow
  | .int i, .int j => some (.dat (.int (i + j)))
  | .str x, .str y => if x.length + y.length ≤ sizeLine then some (.dat (.str (x ++ y))) else none
  | .list xs, .list ys => if xs.length + ys.length ≤ sizeLine then some (.lst (xs ++ ys)) else none
  | .tuple xs, .tuple ys => if xs.length + ys.length ≤ sizeLine then some (.dat (.tuple (xs ++ ys))) else none
  | _, _ => none
/-- asked without a computation -/
noncomputable def askd {α : Type} (p : Prop) (a b : α) : α := @ite α p (Classical.propDecidable p) a b
theorem askd_t {α : Type} {p : Prop} {a b : α} (h : p) : askd p a b = a := if_pos h
theorem askd_f {α : Type} {p : Prop} {a b : α} (h : ¬ p) : askd p a b = b := if_neg h
noncomputable def mulD : D → D → Option Ow
  | .int i, .int j => askd ((-(2 ^ 64) < i ∧ i < 2 ^ 64) ∨ (-(2 ^ 64) < j ∧ j < 2 ^ 64)) (some (.dat (.int (i * j)))) none
  | _, _ => none
noncomputable def repD (xs : List D) : D → Option Ow
  | .int k => askd (-(2 ^ 63) ≤ k ∧ k < 2 ^ 63 ∧ xs.length * k.toNat ≤ sizeLine) (some (.lst (List.replicate k.toNat xs).flatten)) none
  | _ => none
noncomputable def binD : Bop → D → D → Option Ow
  | .add, x, y => catD x y
  | .sub, .int i, .int j => some (.dat (.int (i - j)))
  | .mul, x, y => mulD x y
  | .fdiv, .int i, .int j => if 0 < j ∧ j < 1073741824 then some (.dat (.int (i / j))) else none
  | .mod, .int i, .int j => if 0 < j then some (.dat (.int (i % j))) else none
  | _, _, _ => none
def flatD : D → Bool
  | .none => true
  | .bool _ => true
  | .int _ => true
  | .str _ => true
  | _ => false
def scalD : D → D → Bool
  | .none, .none => true | .none, .int _ => true | .int _, .none => true | .none, .bool _ => true | .bool _, .none => true | .none, .str _ => true | .str _, .none => true
  | .int _, .int _ => true | .bool _, .bool _ => true | .str _, .str _ => true
  | .int _, .str _ => true | .str _, .int _ => true | .bool _, .str _ => true | .str _, .bool _ => true
  | _, _ => false
def eqD (x y : D) : Option Bool := if scalD x y || (SeqAt.shaped x && SeqAt.shaped y) then some (PyData.eqv x y) else none
def ltS (a b : Str) : Bool := decide (a.cps.toList < b.cps.toList)
def leS (a b : Str) : Bool := !ltS b a
def isN : D → Bool
  | .none => true
  | _ => false
def inD (x : D) : D → Option Bool
  | .list ys => if flatD x && ys.all flatD then some (ys.any fun y => PyData.eqv y x) else none
  | .tuple ys => if flatD x && ys.all flatD then some (ys.any fun y => PyData.eqv y x) else none
  | _ => none
def cmpD : Cop → D → D → Option Bool
  | .eq, x, y => eqD x y
  | .ne, x, y => (eqD x y).map (!·)
  | .lt, .int i, .int j => some (decide (i < j))
  | .lt, .str a, .str b => some (ltS a b)
  | .le, .int i, .int j => some (decide (i ≤ j))
  | .le, .str a, .str b => some (leS a b)
  | .gt, .int i, .int j => some (decide (j < i))
  | .gt, .str a, .str b => some (ltS b a)
  | .ge, .int i, .int j => some (decide (j ≤ i))
  | .ge, .str a, .str b => some (leS b a)
  | .in_, x, y => inD x y
  | .nin, x, y => (inD x y).map (!·)
  | .is_, x, .none => some (isN x)
  | .isnt, x, .none => some (!isN x)
  | _, _, _ => none
def negD : D → Option Ow
  | .int i => some (.dat (.int (-i)))
  | _ => none
def truD : D → Option Bool
  | .none => some false
  | .bool b => some b
  | .int i => some (i != 0)
  | .str x => if x.length ≤ sizeLine then some ((x.length : Int) != 0) else none
  | .list xs => some (!xs.isEmpty)
  | .tuple xs => some (!xs.isEmpty)
  | .dict _ => none
def subD : D → D → Option Ow
  | .list xs, .int i => (atI xs i).map Ow.dat
  | .tuple xs, .int i => (atI xs i).map Ow.dat
  | .str z, .int i => if z.length ≤ sizeLine then (atI z.cps.toList i).map fun c => .dat (chr1 c) else none
  | _, _ => none
def cutD (xs : List D) (lo hi : Option Int) : List D := (xs.drop (HT.sIx xs.length 0 lo)).take (HT.sIx xs.length xs.length hi - HT.sIx xs.length 0 lo)
def slcD : D → Option Int → Option Int → Option Ow
  | .list xs, lo, hi => some (.lst (cutD xs lo hi))
  | .tuple xs, lo, hi => some (.dat (.tuple (cutD xs lo hi)))
  | _, _, _ => none
def intOf : D → Option Int
  | .int i => some i
  | _ => none
def boolsOf : List D → Option (List Bool)
  | [] => some []
  | .bool b :: r => (boolsOf r).map (b :: ·)
  | _ => none
def lenD : List D → Option Ow
  | [.list xs] => some (.dat (.int xs.length))
  | [.tuple xs] => some (.dat (.int xs.length))
  | [.str z] => if z.length ≤ sizeLine then some (.dat (.int z.length)) else none
  | _ => none
def intD : List D → Option Ow
  | [.int i] => some (.dat (.int i))
  | [.bool b] => some (.dat (.int (if b then 1 else 0)))
  | _ => none
def absD : List D → Option Ow
  | [.int i] => some (.dat (.int (if i < 0 then -i else i)))
  | _ => none
def minD : List D → Option Ow
  | [.int i, .int j] => some (.dat (.int (if j < i then j else i)))
  | _ => none
def maxD : List D → Option Ow
  | [.int i, .int j] => some (.dat (.int (if j > i then j else i)))
  | _ => none
def ordD : List D → Option Ow
  | [.str z] => if z.length = 1 then some (.dat (.int (z.cps.getD 0 0 : Nat))) else none
  | _ => none
def tupleD : List D → Option Ow
  | [.list xs] => some (.dat (.tuple xs))
  | [.tuple xs] => some (.dat (.tuple xs))
  | _ => none
def listD : List D → Option Ow
  | [.list xs] => some (.lst xs)
  | [.tuple xs] => some (.lst xs)
  | _ => none
def anyD : List D → Option Ow
  | [.list xs] => (boolsOf xs).map fun bs => .dat (.bool (bs.any id))
  | _ => none
def allD : List D → Option Ow
  | [.list xs] => (boolsOf xs).map fun bs => .dat (.bool (bs.all id))
  | _ => none
def bltD : Blt → List D → Option Ow
  | .len => lenD
  | .int => intD
  | .abs => absD
  | .min => minD
  | .max => maxD
  | .ord => ordD
  | .tuple => tupleD
  | .list => listD
  | .any => anyD
  | .all => allD
/-- the trees that a walk gives -/
def itemsD : D → Option (List D)
  | .list xs => some xs
  | .tuple xs => some xs
  | .str z => some (z.cps.toList.map chr1)
  | _ => none
def rangeD (lo : Int) (n : Nat) : List D := (List.range n).map fun (i : Nat) => PyData.int (lo + (i : Int))
noncomputable def big62 (i : Int) : Bool := askd (-(2 ^ 62) ≤ i ∧ i < 2 ^ 62) true false

def ofO {α : Type} (o : Option α) (Γ : Env) : Ro α := match o with
  | some a => .ok a Γ
  | none => .bad
def R.ofO (o : Option Ow) (Γ : Env) : Ro R := match o with
  | some ow => .ok (.fre ow) Γ
  | none => .bad
def freD (d : D) (Γ : Env) : Ro R := .ok (.fre (.dat d)) Γ

/-! ### comprehensions, loops -/
/-- a slot that may be covered for a while -/
def coverable (Γ : Env) (v : Nat) : Bool := match Γ[v]? with
  | some none => true
  | some (some (.dat _)) => true
  | _ => false
def lcL (v : Nat) (t : Env → Ro Bool) (e : Env → Ro R) : List D → Env → Ro (List D)
  | [], Γ => .ok [] Γ
  | d :: ds, Γ => match t (Γ.set v (some (.dat d))) with
    | .ok true Γ => match e Γ with
      | .ok r Γ => match asD r Γ with
        | .ok y Γ => if coverable Γ v then (match lcL v t e ds (Γ.set v none) with
          | .ok ys Γ => .ok (y :: ys) Γ
          | _ => .bad) else .bad
        | _ => .bad
      | _ => .bad
    | .ok false Γ => if coverable Γ v then lcL v t e ds (Γ.set v none) else .bad
    | _ => .bad
def setTg (g : Tg) (d : D) (Γ : Env) : Option Env := match g with
  | .one i => if i < Γ.length then some (Γ.set i (some (.dat d))) else none
  | .many is => match d with
    | .tuple ds => if ds.length = is.length ∧ is.all (· < Γ.length) then some ((is.zip ds).foldl (fun Γ p => Γ.set p.1 (some (.dat p.2))) Γ) else none
    | _ => none
def forL (g : Tg) (b : Env → So) : List D → Env → So
  | [], Γ => .next Γ
  | d :: ds, Γ => match setTg g d Γ with
    | none => .bad
    | some Γ => match b Γ with
      | .next Γ => forL g b ds Γ
      | .cnt Γ => forL g b ds Γ
      | .brk Γ => .next Γ
      | r => r
/-- so many tests and turns -/
def whlN (t : Env → Ro Bool) (b : Env → So) : Nat → Env → Option So
  | 0, _ => none
  | n + 1, Γ => match t Γ with
    | .ok false Γ => some (.next Γ)
    | .ok true Γ => match b Γ with
      | .next Γ => whlN t b n Γ
      | .cnt Γ => whlN t b n Γ
      | .brk Γ => some (.next Γ)
      | r => some r
    | .exn x Γ => some (.exn x Γ)
    | .bad => some .bad
open Classical in
noncomputable def whlD (t : Env → Ro Bool) (b : Env → So) (Γ : Env) : So :=
  if h : ∃ n r, whlN t b n Γ = some r then (Classical.choose_spec h).choose else .bad
theorem whlN_mono {t : Env → Ro Bool} {b : Env → So} : ∀ {n m : Nat} {Γ : Env} {r : So}, whlN t b n Γ = some r → n ≤ m → whlN t b m Γ = some r
  | 0, _, _, _, h, _ => by cases h
  | n + 1, 0, _, _, _, h => absurd h (by omega)
  | n + 1, m + 1, Γ, r, h, hm => by
    unfold whlN at h ⊢
    cases ht : t Γ with
    | bad => rw [ht] at h; exact h
    | exn x Γ' => rw [ht] at h; exact h
    | ok c Γ' =>
      rw [ht] at h
      cases c with
      | false => exact h
      | true =>
        dsimp only at h ⊢
        cases hb : b Γ' with
        | next Γ2 =>
          rw [hb] at h
          exact whlN_mono h (by omega)
        | cnt Γ2 =>
          rw [hb] at h
          exact whlN_mono h (by omega)
        | brk Γ2 => rw [hb] at h; exact h
        | ret ow Γ2 => rw [hb] at h; exact h
        | exn x Γ2 => rw [hb] at h; exact h
        | bad => rw [hb] at h; exact h
theorem whlD_of {t : Env → Ro Bool} {b : Env → So} {n : Nat} {Γ : Env} {r : So} (h : whlN t b n Γ = some r) : whlD t b Γ = r := by
  have hh : ∃ n r, whlN t b n Γ = some r := ⟨n, r, h⟩
  unfold whlD
  rw [dif_pos hh]
  have q := (Classical.choose_spec hh).choose_spec
  have m1 := whlN_mono q (Nat.le_max_left (Classical.choose hh) n)
  have m2 := whlN_mono h (Nat.le_max_right (Classical.choose hh) n)
  rw [m1] at m2
  exact Option.some.inj m2
theorem whlD_ex {t : Env → Ro Bool} {b : Env → So} {Γ : Env} (h : whlD t b Γ ≠ .bad) : ∃ n, whlN t b n Γ = some (whlD t b Γ) := by
  by_cases hh : ∃ n r, whlN t b n Γ = some r
  · obtain ⟨n, r, e⟩ := hh
    rw [whlD_of e]
    exact ⟨n, e⟩
  · unfold whlD at h
    rw [dif_neg hh] at h
    exact absurd rfl h
/-- one turn -/
theorem whlD_eq (t : Env → Ro Bool) (b : Env → So) (Γ : Env) : whlD t b Γ = match t Γ with
    | .ok false Γ => .next Γ
    | .ok true Γ => (match b Γ with
      | .next Γ => whlD t b Γ
      | .cnt Γ => whlD t b Γ
      | .brk Γ => .next Γ
      | r => r)
    | .exn x Γ => .exn x Γ
    | .bad => .bad := by
  have one : ∀ r, whlN t b 1 Γ = some r → whlD t b Γ = r := fun r h => whlD_of h
  unfold whlN at one
  cases ht : t Γ with
  | bad => rw [ht] at one; exact one _ rfl
  | exn x Γ' => rw [ht] at one; exact one _ rfl
  | ok c Γ' =>
    rw [ht] at one
    cases c with
    | false => exact one _ rfl
    | true =>
      dsimp only at one ⊢
      have go : ∀ Γ2, (∀ n, whlN t b (n + 1) Γ = whlN t b n Γ2) → whlD t b Γ = whlD t b Γ2 := fun Γ2 e => by
        by_cases hh : ∃ n r, whlN t b n Γ2 = some r
        · obtain ⟨n, r, q⟩ := hh
          rw [whlD_of q]
          exact whlD_of ((e n).trans q)
        · have h2 : ¬ ∃ n r, whlN t b n Γ = some r := by
            rintro ⟨n, r, q⟩
            cases n with
            | zero => cases q
            | succ n => exact hh ⟨n, r, (e n).symm.trans q⟩
          unfold whlD
          rw [dif_neg hh, dif_neg h2]
      cases hb : b Γ' with
      | next Γ2 => exact go Γ2 fun n => by show whlN t b (n + 1) Γ = _; rw [whlN, ht]; dsimp only; rw [hb]
      | cnt Γ2 => exact go Γ2 fun n => by show whlN t b (n + 1) Γ = _; rw [whlN, ht]; dsimp only; rw [hb]
      | brk Γ2 => rw [hb] at one; exact one _ rfl
      | ret ow Γ2 => rw [hb] at one; exact one _ rfl
      | exn x Γ2 => rw [hb] at one; exact one _ rfl
      | bad => rw [hb] at one; exact one _ rfl

/-- no slot holds an exception -/
def noX (Γ : Env) : Bool := Γ.all fun o => match o with
  | some (.xcp _) => false
  | _ => true
/-- what an exception may be made of -/
def xokD : D → Bool
  | .str _ => true
  | _ => false
/-! ### the evaluator -/
/-- ft: what the defs come to; sub: which class of exceptions is which -/
structure Cz where
  ft : Ft
  sub : Str → Str → Option Bool
section
variable (c : Cz)
mutual
noncomputable def evE : E → Env → Ro R
  | .var i, Γ => match Γ[i]? with
    | some (some (.dat d)) => freD d Γ
    | some (some _) => .ok (.var i) Γ
    | _ => .bad
  | .con d, Γ => freD d Γ
  | .glb _ d, Γ => freD d Γ
  | .bin op a b, Γ => (evE a Γ).bind fun x Γ => (evE b Γ).bind fun y Γ => match view Γ x, view Γ y with
    | some dx, some dy => R.ofO (binD op dx dy) Γ
    | _, _ => .bad
  | .rep a b, Γ => (evE a Γ).bind fun x Γ => (evE b Γ).bind fun y Γ => match x, view Γ y with
    | .fre (.lst xs), some dy => R.ofO (repD xs dy) Γ
    | _, _ => .bad
  | .neg a, Γ => (evE a Γ).bind fun x Γ => match view Γ x with
    | some d => R.ofO (negD d) Γ
    | none => .bad
  | .cmp op a b, Γ => (evE a Γ).bind fun x Γ => (evE b Γ).bind fun y Γ => match view Γ x, view Γ y with
    | some dx, some dy => (ofO (cmpD op dx dy) Γ).bind fun k Γ => freD (.bool k) Γ
    | _, _ => .bad
  | .chain op op' a b e, Γ => (evE a Γ).bind fun x Γ => (evE b Γ).bind fun y Γ => match view Γ x, view Γ y with
    | some dx, some dy => (ofO (cmpD op dx dy) Γ).bind fun k Γ => match k with
      | false => freD (.bool false) Γ
      | true => (evE e Γ).bind fun z Γ => match view Γ y, view Γ z with
        | some dy, some dz => (ofO (cmpD op' dy dz) Γ).bind fun k Γ => freD (.bool k) Γ
        | _, _ => .bad
    | _, _ => .bad
  | .and_ a b, Γ => (evE a Γ).bind fun x Γ => match x with
    | .fre (.dat (.bool true)) => evE b Γ
    | .fre (.dat (.bool false)) => freD (.bool false) Γ
    | _ => .bad
  | .or_ a b, Γ => (evE a Γ).bind fun x Γ => match x with
    | .fre (.dat (.bool true)) => freD (.bool true) Γ
    | .fre (.dat (.bool false)) => evE b Γ
    | _ => .bad
  | .not_ a, Γ => (evE a Γ).bind fun x Γ => match x with
    | .fre (.dat (.bool k)) => freD (.bool (!k)) Γ
    | _ => .bad
  | .ite t a b, Γ => (evT t Γ).bind fun k Γ => match k with
    | true => evE a Γ
    | false => evE b Γ
  | .tup es, Γ => (evEs es Γ).bind fun rs Γ => (asDs rs Γ).bind fun ds Γ => if ds.length ≤ sizeLine then freD (.tuple ds) Γ else .bad
  | .lst es, Γ => (evEs es Γ).bind fun rs Γ => (asDs rs Γ).bind fun ds Γ => if ds.length ≤ sizeLine then .ok (.fre (.lst ds)) Γ else .bad
  | .sub a i, Γ => (evE a Γ).bind fun x Γ => (evE i Γ).bind fun y Γ => match view Γ x, view Γ y with
    | some dx, some dy => R.ofO (subD dx dy) Γ
    | _, _ => .bad
  | .slc a lo hi, Γ => (evE a Γ).bind fun x Γ => (evO lo Γ).bind fun i Γ => (evO hi Γ).bind fun j Γ => match view Γ x with
    | some dx => R.ofO (slcD dx i j) Γ
    | none => .bad
  | .call f es, Γ => (evEs es Γ).bind fun rs Γ => (asDs rs Γ).bind fun ds Γ => match c.ft f ds with
    | .ok ow => .ok (.fre ow) Γ
    | .exn x => .exn x Γ
    | .bad => .bad
  | .blt f es, Γ => (evEs es Γ).bind fun rs Γ => match viewAll Γ rs with
    | some ds => R.ofO (bltD f ds) Γ
    | none => .bad
  | .lc v it t elt, Γ => (evI it Γ).bind fun ds Γ => if coverable Γ v ∧ ds.length < sizeLine then match lcL v (evTo t) (evE elt) ds (Γ.set v none) with
      | .ok ys Γ' => .ok (.fre (.lst ys)) (Γ'.set v (Γ.getD v none))
      | _ => .bad
    else .bad
noncomputable def evO : Eo → Env → Ro (Option Int)
  | .no, Γ => .ok none Γ
  | .some e, Γ => (evE e Γ).bind fun x Γ => match view Γ x with
    | some (.int i) => .ok (some i) Γ
    | _ => .bad
noncomputable def evTo : To → Env → Ro Bool
  | .no, Γ => .ok true Γ
  | .some t, Γ => evT t Γ
noncomputable def evT : T → Env → Ro Bool
  | .val e, Γ => (evE e Γ).bind fun x Γ => match view Γ x with
    | some d => ofO (truD d) Γ
    | none => .bad
  | .and_ a b, Γ => (evT a Γ).bind fun k Γ => match k with
    | true => evT b Γ
    | false => .ok false Γ
  | .or_ a b, Γ => (evT a Γ).bind fun k Γ => match k with
    | true => .ok true Γ
    | false => evT b Γ
  | .not_ a, Γ => (evT a Γ).bind fun k Γ => .ok (!k) Γ
noncomputable def evEs : Es → Env → Ro (List R)
  | .nil, Γ => .ok [] Γ
  | .cons e es, Γ => (evE e Γ).bind fun r Γ => (evEs es Γ).bind fun rs Γ => .ok (r :: rs) Γ
/-- what a walk goes through -/
noncomputable def evI : Iw → Env → Ro (List D)
  | .e e, Γ => (evE e Γ).bind fun r Γ => (asD r Γ).bind fun d Γ => ofO (itemsD d) Γ
  | .rng a, Γ => (evE a Γ).bind fun x Γ => match view Γ x with
    | some (.int j) => if big62 j then .ok (rangeD 0 j.toNat) Γ else .bad
    | _ => .bad
  | .rng2 a b, Γ => (evE a Γ).bind fun x Γ => (evE b Γ).bind fun y Γ => match view Γ x, view Γ y with
    | some (.int i), some (.int j) => if big62 i && big62 j then .ok (rangeD i (j - i).toNat) Γ else .bad
    | _, _ => .bad
end
mutual
noncomputable def evS : S → Env → So
  | .asg g e, Γ => (evE c e Γ).so fun r Γ => match g, r with
    | .one i, .fre ow => if i < Γ.length then .next (Γ.set i (some ow)) else .bad
    | g, r => (asD r Γ).so fun d Γ => match setTg g d Γ with
      | some Γ => .next Γ
      | none => .bad
  | .app i e, Γ => match Γ[i]? with
    | some (some (.lst _)) => (evE c e Γ).so fun r Γ => (asD r Γ).so fun d Γ => match Γ[i]? with
      | some (some (.lst ds)) => if ds.length < sizeLine then .next (Γ.set i (some (.lst (ds ++ [d])))) else .bad
      | _ => .bad
    | _ => .bad
  | .expr e, Γ => (evE c e Γ).so fun _ Γ => .next Γ
  | .ret e, Γ => (evE c e Γ).so fun r Γ => match r with
    | .fre ow => .ret ow Γ
    | r => (asD r Γ).so fun d Γ => .ret (.dat d) Γ
  | .retN, Γ => .ret (.dat .none) Γ
  | .ite t a b, Γ => (evT c t Γ).so fun k Γ => match k with
    | true => evSs a Γ
    | false => evSs b Γ
  | .whl t b, Γ => whlD (evT c t) (evSs b) Γ
  | .for_ g it b, Γ => (evI c it Γ).so fun ds Γ => forL g (evSs b) ds Γ
  | .brk, Γ => .brk Γ
  | .cnt, Γ => .cnt Γ
  | .pass, Γ => .next Γ
  | .rse x e, Γ => (evE c e Γ).so fun r Γ => (asD r Γ).so fun d Γ => if xokD d then .exn ⟨x, d⟩ Γ else .bad
  | .tr b x i s, Γ => match evSs b Γ with
    | .exn y Γ => match c.sub y.cls x with
      | some true => (match i with
        | none => (evSs s Γ).shut
        | some i => match evSs s (Γ.set i (some (.xcp y.val))) with
          | .next Γ => if noX (Γ.set i none) then .next (Γ.set i none) else .bad
          | .ret ow Γ => if noX (Γ.set i none) then .ret ow (Γ.set i none) else .bad
          | _ => .bad)
      | some false => .exn y Γ
      | none => .bad
    | r => r
noncomputable def evSs : Ss → Env → So
  | .nil, Γ => .next Γ
  | .cons s r, Γ => (evS s Γ).seq (evSs r)
end
end
/-! ### a def, a program -/
structure Fn where
  np : Nat
  ns : Nat
  body : Ss
noncomputable def runF (c : Cz) (f : Fn) (args : List D) : Rf :=
  if args.length = f.np then match evSs c f.body (args.map (fun d => some (.dat d)) ++ List.replicate (f.ns - f.np) none) with
    | .next _ => .ok (.dat .none)
    | .ret ow _ => .ok ow
    | .exn x _ => .exn x
    | _ => .bad
  else .bad
noncomputable def tab (sub : Str → Str → Option Bool) (pr : List (Str × Fn)) : Nat → Ft
  | 0 => fun _ _ => .bad
  | n + 1 => fun f args => match pr.lookup f with
    | some fn => runF ⟨tab sub pr n, sub⟩ fn args
    | none => .bad
end Tv
end

section
set_option Elab.async false
set_option linter.all false
set_option maxRecDepth 100000
/-! TvB: an expression's end over the heap; taking things as trees. -/
namespace Tv
open PySem PySem.Spec PyProof.Rows L2

/-! ### slots of a state -/
section
variable {Z : Kz} {σ : List (Option V)} {H H' H1 H2 : Hp} {Γ : Env} {A A' A1 A2 B B1 C T : List Addr} {p : Addr} {o : HO}
theorem Ow.tree_toD {ow : Ow} {d : D} (h : ow.tree = some d) : (ow = .dat d) ∨ ∃ ds, ow = .lst ds ∧ d = .list ds := by
  cases ow with
  | dat e =>
    cases h
    exact .inl rfl
  | lst ds =>
    cases h
    exact .inr ⟨ds, rfl, rfl⟩
  | xcp e => cases h
theorem nodup_mid {P Q S T : List Addr} (h : ((P ++ (Q ++ S)) ++ T).Nodup) : ((P ++ S) ++ T).Nodup :=
  h.sublist (List.Sublist.append (List.Sublist.append (List.Sublist.refl P) (List.sublist_append_right Q S)) (List.Sublist.refl T))
theorem mem_mid {P Q S T : List Addr} {a : Addr} (h : a ∈ (P ++ S) ++ T) : a ∈ (P ++ (Q ++ S)) ++ T := by
  simp only [List.mem_append] at h ⊢
  rcases h with (h | h) | h
  · exact .inl (.inl h)
  · exact .inl (.inr (.inr h))
  · exact .inr h
/-- a slot's own list is let stand still -/
theorem Ste.freeze (s : Ste Z σ H Γ A T) {i : Nat} {ow : Ow} {d : D} (e : Γ[i]? = some (some ow)) (t : ow.tree = some d) :
    ∃ v A', σ[i]? = some (some v) ∧ Ste Z σ H (Γ.set i (some (.dat d))) A' T ∧ (∀ a ∈ A', a ∈ A) ∧ Rp Z.K (out (A' ++ T) H) v d := by
  obtain ⟨v, B, P, S, h1, h2, h3, h4⟩ := s.env.at e
  have sub : Same (out (A ++ T) H) (out ((P ++ S) ++ T) H) := out_sub fun a ha => by rw [h2]; exact mem_mid ha
  have hr : Rp Z.K (out ((P ++ S) ++ T) H) v d := by
    rcases Ow.tree_toD t with rfl | ⟨ds, rfl, rfl⟩
    · cases h3 with
      | dat r => exact r.mono sub
    · cases h3 with
      | lst hs r =>
        refine .lst (SqL.of (out_some.mpr ⟨?_, hs⟩)) (r.mono sub)
        have nd := s.nd
        rw [h2] at nd
        intro q
        simp only [List.nodup_append, List.mem_append, List.mem_cons, List.not_mem_nil] at nd q
        rcases q with (q | q) | q
        · exact nd.1.2.2 _ q _ (.inl (.inl rfl)) rfl
        · exact nd.1.2.1.2.2 _ (.inl rfl) _ q rfl
        · exact nd.2.2 _ (.inr (.inl (.inl rfl))) _ q rfl
  refine ⟨v, P ++ S, h1, ⟨?_, ?_, s.tr⟩, fun a ha => ?_, hr⟩
  · have q := h4 v (.dat d) [] _ H (.dat hr) sub fun _ _ => rfl
    rw [List.nil_append] at q
    have es : σ.set i (some v) = σ := by
      apply List.ext_getElem?
      intro j
      by_cases hj : i = j
      · subst hj
        rw [List.getElem?_set_self (by obtain ⟨h, _⟩ := List.getElem?_eq_some_iff.mp h1; exact h), h1]
      · rw [List.getElem?_set_ne hj]
    rw [es] at q
    exact q
  · have nd := s.nd
    rw [h2] at nd
    exact nodup_mid nd
  · rw [h2]
    simp only [List.mem_append] at ha ⊢
    rcases ha with h | h
    · exact .inl h
    · exact .inr (.inr h)
theorem nodup_swap {P Q S B T : List Addr} (h : ((P ++ (Q ++ S)) ++ (B ++ T)).Nodup) : ((P ++ (B ++ S)) ++ T).Nodup := by
  simp only [List.nodup_append, List.mem_append] at h ⊢
  grind
/-- a thing of its own is laid into a slot -/
theorem Ste.lay (s : Ste Z σ H Γ A (B ++ T)) {i : Nat} {v : V} {ow : Ow} (hi : i < Γ.length) (r : ROw Z (out (A ++ (B ++ T)) H) H v ow B) :
    ∃ A', Ste Z (σ.set i (some v)) H (Γ.set i (some ow)) A' T ∧ ∀ a ∈ A', a ∈ A ∨ a ∈ B := by
  obtain ⟨Q, P, S, h2, h4⟩ := s.env.lay hi
  have sub : Same (out (A ++ (B ++ T)) H) (out ((P ++ (B ++ S)) ++ T) H) := out_sub fun a ha => by
    rw [h2]
    simp only [List.mem_append] at ha ⊢
    grind
  have nd := s.nd
  rw [h2] at nd
  refine ⟨P ++ (B ++ S), ⟨(h4 v ow B r).mono sub fun _ _ => rfl, nodup_swap nd, fun t ht => s.tr t (List.mem_append_right _ ht)⟩, fun a ha => ?_⟩
  rw [h2]
  simp only [List.mem_append] at ha ⊢
  grind
/-- a slot's own list grows -/
theorem Ste.grow (s : Ste Z σ H Γ A T) {i : Nat} {ds ds' : List D} (e : Γ[i]? = some (some (.lst ds))) :
    ∃ a vs, σ[i]? = some (some (.ref a)) ∧ H a = some (.lst vs) ∧ RpAll Z.K (out (A ++ T) H) vs ds ∧ a ∈ A ∧ ∀ vs', RpAll Z.K (out (A ++ T) H) vs' ds' → Ste Z σ (upd H a (.lst vs')) (Γ.set i (some (.lst ds'))) A T ∧ Stp A H A (upd H a (.lst vs')) := by
  obtain ⟨v, B, P, S, h1, h2, h3, h4⟩ := s.env.at e
  cases h3 with
  | @lst a vs _ hs r =>
    have nd := s.nd
    have ha : a ∈ A := by rw [h2]; simp
    refine ⟨a, vs, h1, hs, r, ha, fun vs' r' => ?_⟩
    have eF : out (A ++ T) (upd H a (.lst vs')) = out (A ++ T) H := by
      funext b
      unfold out
      by_cases hb : b ∈ A ++ T
      · rw [if_pos hb, if_pos hb]
      · rw [if_neg hb, if_neg hb, upd_ne]
        intro q
        rw [q] at hb
        exact hb (List.mem_append_left _ ha)
    have q := h4 (.ref a) (.lst ds') [a] (out (A ++ T) H) (upd H a (.lst vs')) (.lst upd_same r') (fun _ _ h => h) fun b hb => upd_ne fun q => by
      rw [h2] at nd
      rw [q] at hb
      simp only [List.nodup_append, List.mem_append, List.mem_cons, List.not_mem_nil] at nd
      rcases hb with hb | hb
      · exact nd.1.2.2 _ hb _ (.inl (.inl rfl)) rfl
      · exact nd.1.2.1.2.2 _ (.inl rfl) _ hb rfl
    have es : σ.set i (some (.ref a)) = σ := by
      apply List.ext_getElem?
      intro j
      by_cases hj : i = j
      · subst hj
        rw [List.getElem?_set_self (by obtain ⟨h, _⟩ := List.getElem?_eq_some_iff.mp h1; exact h), h1]
      · rw [List.getElem?_set_ne hj]
    rw [es, ← h2] at q
    refine ⟨⟨by rw [eF]; exact q, nd, fun t ht => ?_⟩, fun b u e => ?_, fun _ h => .inl h⟩
    · by_cases ht' : t = a
      · rw [ht', upd_same]
        simp
      · rw [upd_ne ht']
        exact s.tr t ht
    · obtain ⟨hb, e⟩ := out_some.mp e
      rw [upd_ne fun q => hb (by rw [q]; exact ha)]
      exact e
end

/-! ### an expression's end -/
/-- the constants of a place: the module's names, the field of each own exception class, the wish about exceptions -/
structure Cc where
  Z : Kz
  mg : Str → Option Value
  fld : Str → Str
  W : WX
/-- v is what r says: a thing of its own at B, or the slot's value -/
def RR (Z : Kz) (F H : Hp) (σ : List (Option V)) (v : V) (r : R) (B : List Addr) : Prop := match r with
  | .fre ow => ROw Z F H v ow B
  | .var i => σ[i]? = some (some v) ∧ B = []
/-- behind an expression that began at H, A with T laid aside -/
def Pst (Z : Kz) (σ : List (Option V)) (H : Hp) (A T : List Addr) (Γ : Env) (r : R) (v : V) (H' : Hp) : Prop :=
  ∃ A' B, Ste Z σ H' Γ A' (B ++ T) ∧ RR Z (out (A' ++ (B ++ T)) H') H' σ v r B ∧ Stp A H (A' ++ B) H'
/-- an exception out of it -/
def XPst (C : Cc) (σ : List (Option V)) (H : Hp) (A T : List Addr) (Γ : Env) (x : Xn) (cls : Value) (d : Option Addr) (H' : Hp) : Prop :=
  ∃ A' a dd v, C.mg x.cls = some (.ref a) ∧ cls = .ref a ∧ d = some dd ∧ Ste C.Z σ H' Γ A' T ∧ out (A' ++ T) H' dd = some (.xd [(C.fld x.cls, v)]) ∧ Rp C.Z.K (out (A' ++ T) H') v x.val ∧ Stp A H A' H'
def Wp (C : Cc) (σ : List (Option V)) (H : Hp) (A T : List Addr) (o : Ro R) (Q : VK) : Prop := match o with
  | .ok r Γ => ∀ v H', Pst C.Z σ H A T Γ r v H' → Q v H'
  | .exn x Γ => ∀ cls d H', XPst C σ H A T Γ x cls d H' → C.W cls d σ H'
  | .bad => False
/-- the reading of an expression that comes to ev -/
def tE (C : Cc) (ev : Env → Ro R) : TE := fun σ H Q => ∃ Γ A T, Ste C.Z σ H Γ A T ∧ Wp C σ H A T (ev Γ) Q
theorem PE.imp {X : Cx} {e : Expr} {t t' : TE} (h : PE X e t) (i : ∀ σ H Q, t' σ H Q → t σ H Q) : PE X e t' := ⟨fun pins s σ H Q I q => h.run pins s σ H Q I (i σ H Q q)⟩
theorem PT.imp {X : Cx} {e : Expr} {t t' : TT} (h : PT X e t) (i : ∀ σ H Q, t' σ H Q → t σ H Q) : PT X e t' := ⟨fun pins s σ H Q I q => h.run pins s σ H Q I (i σ H Q q)⟩
theorem PW.imp {X : Cx} {e : Expr} {t t' : TT} (h : PW X e t) (i : ∀ σ H Q, t' σ H Q → t σ H Q) : PW X e t' := ⟨fun wh pins s σ H Q I q => h.run wh pins s σ H Q I (i σ H Q q)⟩
theorem PA.imp {X : Cx} {e : List Expr} {t t' : TA} (h : PA X e t) (i : ∀ σ H Q, t' σ H Q → t σ H Q) : PA X e t' := ⟨fun pos pins s σ H Q I q => h.run pos pins s σ H Q I (i σ H Q q)⟩
theorem PS.imp {X : Cx} {e : Stmt} {t t' : TS} (h : PS X e t) (i : ∀ D σ H, t' D σ H → t D σ H) : PS X e t' := ⟨fun pins s σ H Q I q => h.run pins s σ H Q I (i Q σ H q)⟩
theorem PSs.imp {X : Cx} {e : List Stmt} {t t' : TS} (h : PSs X e t) (i : ∀ D σ H, t' D σ H → t D σ H) : PSs X e t' := ⟨fun pins s σ H Q I q => h.run pins s σ H Q I (i Q σ H q)⟩
theorem PI.imp {X : Cx} {tg e : Expr} {t t' : TI} (h : PI X tg e t) (i : ∀ σ H Q, t' σ H Q → t σ H Q) : PI X tg e t' := ⟨fun pins s σ H Q I q => h.run pins s σ H Q I (i σ H Q q)⟩

section
variable {C : Cc} {Z : Kz} {σ : List (Option V)} {H H' H1 H2 : Hp} {Γ Γ' Γ1 Γ2 : Env} {A A' A1 A2 B B1 B2 T : List Addr} {r : R} {v : V} {x : Xn} {cls : Value} {d : Option Addr}
/-- further from where an expression ended -/
theorem Pst.go (s : Stp A H (A1 ++ B1) H1) (p : Pst Z σ H1 A1 (B1 ++ T) Γ' r v H') :
    ∃ A2 B2, Ste Z σ H' Γ' A2 ((B2 ++ B1) ++ T) ∧ RR Z (out (A2 ++ ((B2 ++ B1) ++ T)) H') H' σ v r B2 ∧ Stp A H (A2 ++ (B2 ++ B1)) H' := by
  obtain ⟨A2, B2, h1, h2, h3⟩ := p
  rw [← List.append_assoc B2 B1 T] at h1 h2
  refine ⟨A2, B2, h1, h2, ?_⟩
  rw [← List.append_assoc]
  exact s.trans2 h3
theorem XPst.go (s : Stp A H (A1 ++ B1) H1) (p : XPst C σ H1 A1 (B1 ++ T) Γ' x cls d H') : XPst C σ H A T Γ' x cls d H' := by
  obtain ⟨A2, a, dd, v, h0, h1, h2, h3, h4, h5, h6⟩ := p
  have sub : Same (out (A2 ++ (B1 ++ T)) H') (out (A2 ++ T) H') := out_sub fun b hb => by
    simp only [List.mem_append] at hb ⊢
    exact hb.elim .inl fun q => .inr (.inr q)
  exact ⟨A2, a, dd, v, h0, h1, h2, h3.drop, sub _ _ h4, h5.mono sub, (s.trans2 h6).sub fun a ha => List.mem_append_left _ ha⟩
/-- what was laid aside stands as it did -/
theorem ROw.later {F : Hp} {ow : Ow} (r : ROw Z (out (A1 ++ (B1 ++ T)) H1) H1 v ow B1) (s : Ste Z σ H1 Γ1 A1 (B1 ++ T)) (st : Stp A1 H1 (A2 ++ B2) H2) : ROw Z (out (A2 ++ ((B2 ++ B1) ++ T)) H2) H2 v ow B1 := by
  have e := st.exF (T := B1 ++ T)
  rw [List.append_assoc A2 B2 (B1 ++ T), ← List.append_assoc B2 B1 T] at e
  exact r.mono e fun a ha => st.sub (fun a ha => ha) |>.keepT s.nd s.tr a (List.mem_append_left _ ha)
theorem Ste.start (s : Ste Z σ H Γ A T) : Ste Z σ H Γ A ([] ++ T) := s

/-! ### reading as a tree -/
/-- v reads as the tree d -/
def RV (Z : Kz) (F H : Hp) (v : V) (d : D) : Prop := Rp Z.K F v d ∨ ∃ a vs ds, v = .ref a ∧ d = .list ds ∧ H a = some (.lst vs) ∧ RpAll Z.K F vs ds
theorem ROw.rv {F : Hp} {ow : Ow} {t : D} (h : ROw Z F H v ow B) (e : ow.tree = some t) : RV Z F H v t := by
  cases h with
  | dat r =>
    cases e
    exact .inl r
  | lst hs r =>
    cases e
    exact .inr ⟨_, _, _, rfl, rfl, hs, r⟩
  | xcp _ _ _ => cases e
theorem RR.rv {t : D} (s : Ste Z σ H Γ A T) (h : RR Z (out (A ++ T) H) H σ v r B) (e : view Γ r = some t) : RV Z (out (A ++ T) H) H v t := by
  cases r with
  | fre ow => exact ROw.rv h e
  | var i =>
    obtain ⟨h1, _⟩ := h
    have e : (match Γ[i]? with
      | some (some ow) => ow.tree
      | _ => none) = some t := e
    split at e
    · rename_i ow h2
      obtain ⟨v', B', P, S, g1, _, g3, _⟩ := s.env.at h2
      rw [h1] at g1
      cases g1
      exact g3.rv e
    · cases e
/-- what was read ahead, behind a later step -/
theorem RR.later (r1 : RR Z (out (A1 ++ (B1 ++ T)) H1) H1 σ v r B1) (s : Ste Z σ H1 Γ1 A1 (B1 ++ T)) (st : Stp A1 H1 (A2 ++ B2) H2) :
    RR Z (out (A2 ++ ((B2 ++ B1) ++ T)) H2) H2 σ v r B1 := by
  cases r with
  | fre ow => exact ROw.later (F := H1) r1 s st
  | var i => exact r1

/-! ### a result that is given -/
/-- what is to be shown of a result ow behind an operation at H over F -/
structure Fin (Z : Kz) (F H : Hp) (ow : Ow) (Q : VK) : Prop where
  dat : ∀ d v, ow = .dat d → Rp Z.K F v d → Q v H
  tup : ∀ ds p vs, ow = .dat (.tuple ds) → H p = none → RpAll Z.K F vs ds → Q (.ref p) (upd H p (.tup vs))
  lst : ∀ ds p vs, ow = .lst ds → H p = none → RpAll Z.K F vs ds → Q (.ref p) (upd H p (.lst vs))
theorem Fin.of {ow : Ow} {Q : VK} (s : Ste Z σ H1 Γ A1 (B1 ++ T)) (st : Stp A H (A1 ++ B1) H1) (q : ∀ v H', Pst Z σ H A T Γ (.fre ow) v H' → Q v H') : Fin Z (out (A1 ++ (B1 ++ T)) H1) H1 ow Q := by
  have s0 := s.drop
  have sub : Same (out (A1 ++ (B1 ++ T)) H1) (out (A1 ++ T) H1) := out_sub fun a ha => by
    simp only [List.mem_append] at ha ⊢
    exact ha.elim .inl fun q => .inr (.inr q)
  have st0 : Stp A H A1 H1 := st.sub fun a ha => List.mem_append_left _ ha
  refine ⟨fun d v e r => ?_, fun ds p vs e hp r => ?_, fun ds p vs e hp r => ?_⟩
  · subst e
    exact q v H1 ⟨A1, [], s0, .dat (r.mono sub), by rw [List.append_nil]; exact st0⟩
  · subst e
    refine q _ _ ⟨A1, [], s0.new hp, .dat (.tup (SqT.of (out_new hp (s0.fresh hp))) ((r.mono sub).mono (Stp.exF (Stp.new hp)))), ?_⟩
    rw [List.append_nil]
    exact st0.trans (Stp.new hp)
  · subst e
    have np := s0.fresh hp
    have s1 := s0.new (o := .lst vs) hp
    have hpH : p ∈ A ∨ H p = none := by
      by_cases hA : p ∈ A
      · exact .inl hA
      · refine .inr ?_
        cases e : H p with
        | none => rfl
        | some o =>
          rw [st0.keep hA e] at hp
          cases hp
    have nA : p ∉ A1 := fun q => np (List.mem_append_left _ q)
    have nT : p ∉ T := fun q => np (List.mem_append_right _ q)
    refine q _ _ ⟨A1, [p], ⟨s0.env.mono (fun b o e => ?_) fun a ha => upd_ne fun q => nA (by rw [← q]; exact ha), ?_, fun t ht => ?_⟩, .lst upd_same (r.mono fun b o e => ?_), ?_⟩
    · obtain ⟨e1, e2⟩ := out_some.mp e
      have nb := ne_of_none e2 hp
      refine out_some.mpr ⟨fun q => ?_, by rw [upd_ne nb]; exact e2⟩
      simp only [List.mem_append, List.mem_cons, List.not_mem_nil, or_false] at q e1
      grind
    · have nd := s0.nd
      simp only [List.nodup_append, List.mem_append, List.nodup_cons, List.mem_cons, List.not_mem_nil, or_false] at nd ⊢
      grind
    · rcases List.mem_append.mp ht with q | q
      · simp only [List.mem_cons, List.not_mem_nil, or_false] at q
        rw [q, upd_same]
        simp
      · rw [upd_ne fun z => nT (by rw [← z]; exact q)]
        exact s0.tr t q
    · obtain ⟨e1, e2⟩ := out_some.mp e
      have nb := ne_of_none e2 hp
      refine out_some.mpr ⟨fun q => ?_, by rw [upd_ne nb]; exact e2⟩
      simp only [List.mem_append, List.mem_cons, List.not_mem_nil, or_false] at q e1
      grind
    · refine ⟨(st0.trans (Stp.new hp)).1, fun a ha => ?_⟩
      rcases List.mem_append.mp ha with q | q
      · exact st0.2 a q
      · simp only [List.mem_cons, List.not_mem_nil, or_false] at q
        rw [q]
        exact hpH
end
end Tv
end

section
set_option Elab.async false
set_option linter.all false
set_option maxRecDepth 100000
/-! TvO: the operations on trees are those of the machine. -/
namespace Tv
open PySem PySem.Spec PyProof.Rows L2

section
variable {Z : Kz} {F H : Hp} {v : V} {d : D}
theorem sq_le {K : PySem.W.Frag} {a : Addr} {xs : List V} (e : Same F H) (h : SqT K F a xs) : SqT K H a xs := by
  rcases h with (h | ⟨o, h⟩) | h
  · exact .inl (.inl (e _ _ h))
  · exact .inl (.inr ⟨o, e _ _ h⟩)
  · exact .inr h
theorem RV.list {ds : List D} (e : Same F H) (h : RV Z F H v (.list ds)) : ∃ a vs, v = .ref a ∧ SqL Z.K H a vs ∧ RpAll Z.K F vs ds := by
  rcases h with h | ⟨a, vs, ds', rfl, e1, hs, r⟩
  · cases h with
    | lst hs r => exact ⟨_, _, rfl, e.seq hs, r⟩
  · cases e1
    exact ⟨a, vs, rfl, SqL.of hs, r⟩
theorem RV.tup {ds : List D} (e : Same F H) (h : RV Z F H v (.tuple ds)) : ∃ a vs, v = .ref a ∧ SqT Z.K H a vs ∧ RpAll Z.K F vs ds ∧ Rp Z.K F v (.tuple ds) := by
  rcases h with h | ⟨a, vs, ds', rfl, e1, hs, r⟩
  · have h0 := h
    cases h with
    | tup hs r => exact ⟨_, _, rfl, sq_le e hs, r, h0⟩
  · cases e1
theorem RV.int {i : Int} (h : RV Z F H v (.int i)) : v = .int i := by
  rcases h with h | ⟨a, vs, ds', rfl, e1, hs, r⟩
  · cases h
    rfl
  · cases e1
theorem RV.str {x : Str} (h : RV Z F H v (.str x)) : v = .str x := by
  rcases h with h | ⟨a, vs, ds', rfl, e1, hs, r⟩
  · cases h
    rfl
  · cases e1
theorem RV.bool {x : Bool} (h : RV Z F H v (.bool x)) : v = .bl x := by
  rcases h with h | ⟨a, vs, ds', rfl, e1, hs, r⟩
  · cases h
    rfl
  · cases e1
theorem RV.none (h : RV Z F H v .none) : v = .non := by
  rcases h with h | ⟨a, vs, ds', rfl, e1, hs, r⟩
  · cases h
    rfl
  · cases e1
end
/-! ### list + list, list * n of any that may be read -/
section
variable {X : Cx}
def rCatL (K : PySem.W.Frag) : R2 := fun x y H Q => ∃ l b xs zs, x = .ref l ∧ y = .ref b ∧ SqL K H l xs ∧ SqL K H b zs ∧ xs.length + zs.length ≤ sizeLine ∧ ∀ p, H p = none → Q (.ref p) (upd H p (.lst (xs ++ zs)))
theorem plainL_eq {h : Heap} {a : Addr} {its : List Value} (p : PlainL h a its.toArray) : ∃ n sl, h.get? a = some { cls := .type "list", dict := none, data := .seq its.toArray n, slots := sl } := by
  obtain ⟨⟨c, d, dt, sl⟩, n, e, h1, h2, h3⟩ := p
  simp only at h1 h2 h3
  subst h1 h2 h3
  exact ⟨n, sl, e⟩
theorem op_catL : OpR X (binaryOp .Add) (rCatL X.K) := by
  intro pins s σ H x y v u Q I rx ry h
  obtain ⟨l, b, xs, zs, rfl, rfl, hH, hB, hz, q⟩ := h
  cases rx
  cases ry
  obtain ⟨its, r, pl, z1⟩ := I.list hH
  obtain ⟨its2, r2, pl2, z2⟩ := I.list hB
  obtain ⟨n, sl, e⟩ := plainL_eq pl
  obtain ⟨n2, sl2, e2⟩ := plainL_eq pl2
  have hl := r.length
  have hl2 := r2.length
  refine concat_meets ⟨_, e, rfl⟩ ⟨_, e2, rfl⟩ noFill_list_add seq_list_add PySem.F.slot_list_add PySem.F.entry_list_add (PySem.F.args_list_add_2 _ _)
    (list_addW l b its.toArray its2.toArray n n2 none none sl sl2 (by rw [List.size_toArray, List.size_toArray]; omega)) ⟨e, e2, ?_⟩
  have ea : its.toArray ++ its2.toArray = (its ++ its2).toArray := by simp
  rw [ea]
  exact ⟨.ref _, _, I.lnew (t' := s.toks) (r.append r2) (by rw [List.length_append]; omega), rfl, q _ I.fresh⟩
end
/-- what a two-place operation is on trees -/
def Op2 (Z : Kz) (r : R2) (f : D → D → Option Ow) : Prop := ∀ F H x y dx dy ow Q, Same F H → RV Z F H x dx → RV Z F H y dy → f dx dy = some ow → Fin Z F H ow Q → r x y H Q
def rAddA (K : PySem.W.Frag) : R2 := fun x y H Q => rI0 (fun i j => .int (i + j)) x y H Q ∨ (∃ i j, x = .str i ∧ y = .str j ∧ i.length + j.length ≤ sizeLine ∧ Q (.str (i ++ j)) H) ∨ rCatL K x y H Q ∨ rCatA K x y H Q
theorem op_addA {X : Cx} : OpR X (binaryOp .Add) (rAddA X.K) := op_add.or (op_add_str.or (op_catL.or op_catA))
theorem op2_add {Z : Kz} : Op2 Z (rAddA Z.K) (binD .add) := by
  intro F H x y dx dy ow Q e hx hy hf q
  have hf : catD dx dy = some ow := hf
  unfold catD at hf
  split at hf
  · obtain rfl := hx.int
    obtain rfl := hy.int
    cases hf
    exact .inl ⟨_, _, rfl, rfl, q.dat _ _ rfl (.int _)⟩
  · split at hf
    · obtain rfl := hx.str
      obtain rfl := hy.str
      cases hf
      exact .inr (.inl ⟨_, _, rfl, rfl, by assumption, q.dat _ _ rfl (.str _)⟩)
    · cases hf
  · split at hf
    · rename_i hz
      obtain ⟨a, vs, rfl, h1, r1⟩ := hx.list e
      obtain ⟨b, ws, rfl, h2, r2⟩ := hy.list e
      cases hf
      refine .inr (.inr (.inl ⟨a, b, vs, ws, rfl, rfl, h1, h2, by rw [r1.length, r2.length]; exact hz, fun p hp => q.lst _ p _ rfl hp (r1.append r2)⟩))
    · cases hf
  · split at hf
    · rename_i xs ys hz
      obtain ⟨a, vs, rfl, h1, r1, g1⟩ := hx.tup e
      obtain ⟨b, ws, rfl, h2, r2, g2⟩ := hy.tup e
      cases hf
      have e1 := r1.length
      have e2 := r2.length
      refine .inr (.inr (.inr ⟨a, b, vs, ws, rfl, rfl, h1, h2, by rw [e1, e2]; exact hz, fun n => ?_, fun _ n => ?_, fun _ _ p hp => q.tup _ p _ rfl hp (r1.append r2)⟩))
      · subst n
        cases r1
        exact q.dat _ _ rfl g2
      · subst n
        cases r2
        refine q.dat _ _ rfl ?_
        rw [List.append_nil]
        exact g1
    · cases hf
  · cases hf
theorem op2_sub {Z : Kz} : Op2 Z (rI0 fun i j => .int (i - j)) (binD .sub) := by
  intro F H x y dx dy ow Q e hx hy hf q
  cases dx <;> first | (cases hf; done) | skip
  cases dy <;> first | (cases hf; done) | skip
  obtain rfl := hx.int
  obtain rfl := hy.int
  cases hf
  exact ⟨_, _, rfl, rfl, q.dat _ _ rfl (.int _)⟩
theorem op2_mul {Z : Kz} : Op2 Z (rI CMul fun i j => .int (i * j)) (binD .mul) := by
  intro F H x y dx dy ow Q e hx hy hf q
  have hf : mulD dx dy = some ow := hf
  unfold mulD at hf
  split at hf
  · rename_i i j _
    by_cases hz : (-(2 ^ 64) < i ∧ i < 2 ^ 64) ∨ (-(2 ^ 64) < j ∧ j < 2 ^ 64)
    · rw [askd_t hz] at hf
      obtain rfl := hx.int
      obtain rfl := hy.int
      cases hf
      exact ⟨_, _, rfl, rfl, hz, q.dat _ _ rfl (.int _)⟩
    · rw [askd_f hz] at hf
      cases hf
  · cases hf
theorem op2_fdiv {Z : Kz} : Op2 Z (rI CDiv fun i j => .int (i / j)) (binD .fdiv) := by
  intro F H x y dx dy ow Q e hx hy hf q
  cases dx <;> first | (cases hf; done) | skip
  cases dy <;> first | (cases hf; done) | skip
  obtain rfl := hx.int
  obtain rfl := hy.int
  rename_i i j
  have hf : (if 0 < j ∧ j < 1073741824 then some (Ow.dat (.int (i / j))) else none) = some ow := hf
  split at hf
  · rename_i hc
    cases hf
    exact ⟨_, _, rfl, rfl, hc, q.dat _ _ rfl (.int _)⟩
  · cases hf
theorem op2_mod {Z : Kz} : Op2 Z (rI (fun _ j => 0 < j) fun i j => .int (i % j)) (binD .mod) := by
  intro F H x y dx dy ow Q e hx hy hf q
  cases dx <;> first | (cases hf; done) | skip
  cases dy <;> first | (cases hf; done) | skip
  obtain rfl := hx.int
  obtain rfl := hy.int
  rename_i i j
  have hf : (if 0 < j then some (Ow.dat (.int (i % j))) else none) = some ow := hf
  split at hf
  · rename_i hc
    cases hf
    exact ⟨_, _, rfl, rfl, hc, q.dat _ _ rfl (.int _)⟩
  · cases hf

/-! ### comparisons -/
def cmpB (op : Cop) (dx dy : D) : Option Ow := (cmpD op dx dy).map fun k => .dat (.bool k)
theorem cmpB_some {op : Cop} {dx dy : D} {ow : Ow} (h : cmpB op dx dy = some ow) : ∃ k, cmpD op dx dy = some k ∧ ow = .dat (.bool k) := by
  unfold cmpB at h
  cases e : cmpD op dx dy with
  | none => rw [e] at h; cases h
  | some k => rw [e] at h; cases h; exact ⟨k, rfl, rfl⟩
/-- the value of a plain tree -/
theorem scal_v {Z : Kz} {F H : Hp} {x y : V} {dx dy : D} (hx : RV Z F H x dx) (hy : RV Z F H y dy) (h : scalD dx dy = true) : scal x y = true ∧ decide (x = y) = PyData.eqv dx dy := by
  cases dx <;> cases dy <;> first | (cases h; done) | skip
  all_goals first | obtain rfl := hx.int | obtain rfl := hx.str | obtain rfl := hx.bool | obtain rfl := hx.none
  all_goals first | obtain rfl := hy.int | obtain rfl := hy.str | obtain rfl := hy.bool | obtain rfl := hy.none
  all_goals refine ⟨rfl, ?_⟩
  all_goals first | rfl | (simp only [PyData.eqv]; first | rfl | exact dec_int | exact dec_bl | exact dec_str | simp)
mutual
theorem Rp.dp {K : PySem.W.Frag} {F : Hp} : ∀ {v : V} {d : D}, Rp K F v d → d.canLay0 = true → Dp K F v d
  | _, _, .non, _ => .non
  | _, _, .bl b, _ => .bl b
  | _, _, .int i, _ => .int i
  | _, _, .str x, _ => .str x
  | _, _, .lst h t, c => .lst h (RpAll.dp t (by simpa [PyData.canLay0] using c))
  | _, _, .tup h t, c => .tup h (RpAll.dp t (by simpa [PyData.canLay0] using c))
  | _, _, .dK _ _ _, c => by simp [PyData.canLay0] at c
  | _, _, .dT _ _ _, c => by simp [PyData.canLay0] at c
theorem RpAll.dp {K : PySem.W.Frag} {F : Hp} : ∀ {vs : List V} {ds : List D}, RpAll K F vs ds → PyData.canLayAll0 ds = true → DpAll K F vs ds
  | _, _, .nil, _ => .nil
  | _, _, .cons h t, c => by
    have c' := c
    simp only [PyData.canLayAll0, Bool.and_eq_true] at c'
    exact .cons (Rp.dp h c'.1) (RpAll.dp t c'.2)
end
theorem RV.dp {Z : Kz} {F H : Hp} {v : V} {d : D} (e : Same F H) (h : RV Z F H v d) (c : SeqAt.shaped d = true) : Dp Z.K H v d := by
  have c := SeqAt.canLay_of_shaped c
  rcases h with h | ⟨a, vs, ds, rfl, rfl, hs, r⟩
  · exact (h.mono e).dp c
  · exact .lst (SqL.of hs) (RpAll.dp (r.mono e) (by simpa [PyData.canLay0] using c))
def rEqA (K : PySem.W.Frag) : R2 := fun x y H Q => rEq x y H Q ∨ rEqD K x y H Q
def rNeA (K : PySem.W.Frag) : R2 := fun x y H Q => rNe x y H Q ∨ rNeD K x y H Q
theorem op_eqA {X : Cx} (hu : X.A.units + 64 < cLine) : OpR X (compareOp .Eq) (rEqA X.K) := op_eq.or (op_eqD hu)
theorem op_neA {X : Cx} (hu : X.A.units + 64 < cLine) : OpR X (compareOp .NotEq) (rNeA X.K) := op_ne.or (op_neD hu)
theorem eqD_cases {Z : Kz} {F H : Hp} {x y : V} {dx dy : D} {k : Bool} (e : Same F H) (hx : RV Z F H x dx) (hy : RV Z F H y dy) (h : eqD dx dy = some k) : k = PyData.eqv dx dy ∧ ((scal x y = true ∧ decide (x = y) = k) ∨ (Dp Z.K H x dx ∧ Dp Z.K H y dy ∧ SeqAt.shaped dx = true ∧ SeqAt.shaped dy = true)) := by
  unfold eqD at h
  split at h
  · rename_i c
    cases h
    refine ⟨rfl, ?_⟩
    rcases Bool.or_eq_true_iff.mp c with c | c
    · exact .inl (scal_v hx hy c)
    · obtain ⟨c1, c2⟩ := Bool.and_eq_true_iff.mp c
      exact .inr ⟨hx.dp e c1, hy.dp e c2, c1, c2⟩
  · cases h
theorem op2_eq {Z : Kz} : Op2 Z (rEqA Z.K) (cmpB .eq) := by
  intro F H x y dx dy ow Q e hx hy hf q
  obtain ⟨k, hk, rfl⟩ := cmpB_some hf
  obtain ⟨rfl, h⟩ := eqD_cases e hx hy hk
  have q1 := q.dat _ _ rfl (.bl (PyData.eqv dx dy))
  rcases h with ⟨h1, h2⟩ | ⟨h1, h2, h3, h4⟩
  · exact .inl ⟨h1, by rw [h2]; exact q1⟩
  · exact .inr ⟨dx, dy, h1, h2, h3, h4, q1⟩
theorem op2_ne {Z : Kz} : Op2 Z (rNeA Z.K) (cmpB .ne) := by
  intro F H x y dx dy ow Q e hx hy hf q
  obtain ⟨k, hk, rfl⟩ := cmpB_some hf
  have hk : (eqD dx dy).map (!·) = some k := hk
  cases h0 : eqD dx dy with
  | none => rw [h0] at hk; cases hk
  | some k0 =>
    rw [h0] at hk
    cases hk
    obtain ⟨rfl, h⟩ := eqD_cases e hx hy h0
    have q1 := q.dat _ _ rfl (.bl (!PyData.eqv dx dy))
    rcases h with ⟨h1, h2⟩ | ⟨h1, h2, h3, h4⟩
    · exact .inl ⟨h1, by rw [h2]; exact q1⟩
    · exact .inr ⟨dx, dy, h1, h2, h3, h4, q1⟩
/-- an order of ints or of texts -/
def rOrd (p : Int → Int → Bool) (s : Str → Str → Bool) : R2 := fun x y H Q => rI0 (fun i j => .bl (p i j)) x y H Q ∨ ∃ i j, x = .str i ∧ y = .str j ∧ Q (.bl (s i j)) H
theorem op2_ord {Z : Kz} {p : Int → Int → Bool} {s : Str → Str → Bool} {f : D → D → Option Ow}
    (h : ∀ dx dy ow, f dx dy = some ow → (∃ i j, dx = .int i ∧ dy = .int j ∧ ow = .dat (.bool (p i j))) ∨ ∃ i j, dx = .str i ∧ dy = .str j ∧ ow = .dat (.bool (s i j))) : Op2 Z (rOrd p s) f := by
  intro F H x y dx dy ow Q e hx hy hf q
  rcases h dx dy ow hf with ⟨i, j, rfl, rfl, rfl⟩ | ⟨i, j, rfl, rfl, rfl⟩
  · obtain rfl := hx.int
    obtain rfl := hy.int
    exact .inl ⟨_, _, rfl, rfl, q.dat _ _ rfl (.bl _)⟩
  · obtain rfl := hx.str
    obtain rfl := hy.str
    exact .inr ⟨_, _, rfl, rfl, q.dat _ _ rfl (.bl _)⟩
theorem ord_cases {op : Cop} {p : Int → Int → Bool} {s : Str → Str → Bool} (h1 : ∀ i j, cmpD op (.int i) (.int j) = some (p i j)) (h2 : ∀ i j, cmpD op (.str i) (.str j) = some (s i j))
    (h3 : ∀ dx dy k, cmpD op dx dy = some k → (∃ i j, dx = .int i ∧ dy = .int j) ∨ ∃ i j, dx = .str i ∧ dy = .str j) (dx dy : D) (ow : Ow) (h : cmpB op dx dy = some ow) :
    (∃ i j, dx = .int i ∧ dy = .int j ∧ ow = .dat (.bool (p i j))) ∨ ∃ i j, dx = .str i ∧ dy = .str j ∧ ow = .dat (.bool (s i j)) := by
  obtain ⟨k, hk, rfl⟩ := cmpB_some h
  rcases h3 dx dy k hk with ⟨i, j, rfl, rfl⟩ | ⟨i, j, rfl, rfl⟩
  · rw [h1] at hk
    cases hk
    exact .inl ⟨_, _, rfl, rfl, rfl⟩
  · rw [h2] at hk
    cases hk
    exact .inr ⟨_, _, rfl, rfl, rfl⟩
theorem op2_lt {Z : Kz} : Op2 Z (rOrd (fun i j => decide (i < j)) ltS) (cmpB .lt) := op2_ord (ord_cases (fun _ _ => rfl) (fun _ _ => rfl) fun dx dy k h => by
  cases dx <;> cases dy <;> first | (cases h; done) | exact .inl ⟨_, _, rfl, rfl⟩ | exact .inr ⟨_, _, rfl, rfl⟩)
theorem op2_le {Z : Kz} : Op2 Z (rOrd (fun i j => decide (i ≤ j)) leS) (cmpB .le) := op2_ord (ord_cases (fun _ _ => rfl) (fun _ _ => rfl) fun dx dy k h => by
  cases dx <;> cases dy <;> first | (cases h; done) | exact .inl ⟨_, _, rfl, rfl⟩ | exact .inr ⟨_, _, rfl, rfl⟩)
theorem op2_gt {Z : Kz} : Op2 Z (rOrd (fun i j => decide (j < i)) fun a b => ltS b a) (cmpB .gt) := op2_ord (ord_cases (fun _ _ => rfl) (fun _ _ => rfl) fun dx dy k h => by
  cases dx <;> cases dy <;> first | (cases h; done) | exact .inl ⟨_, _, rfl, rfl⟩ | exact .inr ⟨_, _, rfl, rfl⟩)
theorem op2_ge {Z : Kz} : Op2 Z (rOrd (fun i j => decide (j ≤ i)) fun a b => leS b a) (cmpB .ge) := op2_ord (ord_cases (fun _ _ => rfl) (fun _ _ => rfl) fun dx dy k h => by
  cases dx <;> cases dy <;> first | (cases h; done) | exact .inl ⟨_, _, rfl, rfl⟩ | exact .inr ⟨_, _, rfl, rfl⟩)
section
variable {X : Cx}
theorem op_ltA : OpR X (compareOp .Lt) (rOrd (fun i j => decide (i < j)) ltS) := op_lt.or op_lt_str
theorem op_leA : OpR X (compareOp .LtE) (rOrd (fun i j => decide (i ≤ j)) leS) := op_le.or op_le_str
theorem op_gtA : OpR X (compareOp .Gt) (rOrd (fun i j => decide (j < i)) fun a b => ltS b a) := op_gt.or op_gt_str
theorem op_geA : OpR X (compareOp .GtE) (rOrd (fun i j => decide (j ≤ i)) fun a b => leS b a) := op_ge.or op_ge_str
end
/-- is None -/
theorem op2_is {Z : Kz} : Op2 Z (fun x y H Q => y = .non ∧ Q (.bl (decide (x = .non))) H) (cmpB .is_) := by
  intro F H x y dx dy ow Q e hx hy hf q
  obtain ⟨k, hk, rfl⟩ := cmpB_some hf
  cases dy <;> first | (cases hk; done) | skip
  obtain rfl := hy.none
  refine ⟨rfl, ?_⟩
  have hk : some (isN dx) = some k := hk
  cases hk
  have e2 : decide (x = V.non) = isN dx := by
    rcases hx with h | ⟨a, vs, ds, rfl, rfl, _, _⟩
    · cases h <;> rfl
    · rfl
  rw [e2]
  exact q.dat _ _ rfl (.bl _)
theorem op2_isnt {Z : Kz} : Op2 Z (fun x y H Q => y = .non ∧ Q (.bl (!decide (x = .non))) H) (cmpB .isnt) := by
  intro F H x y dx dy ow Q e hx hy hf q
  obtain ⟨k, hk, rfl⟩ := cmpB_some hf
  cases dy <;> first | (cases hk; done) | skip
  obtain rfl := hy.none
  refine ⟨rfl, ?_⟩
  have hk : some (!isN dx) = some k := hk
  cases hk
  have e2 : (!decide (x = V.non)) = !isN dx := by
    rcases hx with h | ⟨a, vs, ds, rfl, rfl, _, _⟩
    · cases h <;> rfl
    · rfl
  rw [e2]
  exact q.dat _ _ rfl (.bl _)
end Tv
end

section
set_option Elab.async false
set_option linter.all false
set_option maxRecDepth 100000
/-! TvS1: readings of expressions by what they come to. -/
namespace Tv
open PySem PySem.Spec PyProof.Rows L2

section
variable {C : Cc} {σ : List (Option V)} {H : Hp} {Q : VK} {ea eb ec : Env → Ro R}

/-- one expression, then what follows -/
theorem tE_one {k : R → Env → Ro R} {r : V → Hp → Prop}
    (hk : ∀ {Γ2 A T H0 A0 B H2 v x}, Ste C.Z σ H2 Γ2 A (B ++ T) → RR C.Z (out (A ++ (B ++ T)) H2) H2 σ v x B → Stp A0 H0 (A ++ B) H2 → Wp C σ H0 A0 T (k x Γ2) Q → r v H2)
    (h : tE C (fun Γ => (ea Γ).bind k) σ H Q) : tE C ea σ H r := by
  obtain ⟨Γ, A, T, s, w⟩ := h
  have w : Wp C σ H A T ((ea Γ).bind k) Q := w
  refine ⟨Γ, A, T, s, ?_⟩
  cases e : ea Γ with
  | bad => rw [e] at w; exact w
  | exn x Γ' => rw [e] at w; exact w
  | ok x Γ' =>
    rw [e] at w
    intro v H' p
    obtain ⟨A', B, s', rr, st⟩ := p
    exact hk s' rr st w
/-- a further expression from where one ended -/
theorem tE_then {Γ1 : Env} {A1 B1 T A0 : List Addr} {H0 H1 : Hp} {k : R → Env → Ro R} {r : V → Hp → Prop} (s1 : Ste C.Z σ H1 Γ1 A1 (B1 ++ T)) (st1 : Stp A0 H0 (A1 ++ B1) H1) (w : Wp C σ H0 A0 T ((eb Γ1).bind k) Q)
    (hk : ∀ {Γ2 A2 B2 H2 v y}, Ste C.Z σ H2 Γ2 A2 ((B2 ++ B1) ++ T) → (∀ {v1 : V} {x : R}, RR C.Z (out (A1 ++ (B1 ++ T)) H1) H1 σ v1 x B1 → RR C.Z (out (A2 ++ ((B2 ++ B1) ++ T)) H2) H2 σ v1 x B1) →
      RR C.Z (out (A2 ++ ((B2 ++ B1) ++ T)) H2) H2 σ v y B2 → Stp A0 H0 (A2 ++ (B2 ++ B1)) H2 → Stp A1 H1 (A2 ++ B2) H2 → Wp C σ H0 A0 T (k y Γ2) Q → r v H2) : tE C eb σ H1 r := by
  refine ⟨Γ1, A1, B1 ++ T, s1, ?_⟩
  cases e : eb Γ1 with
  | bad => rw [e] at w; exact w
  | exn y Γ' =>
    rw [e] at w
    intro cls d H' p
    exact w cls d H' (p.go st1)
  | ok y Γ' =>
    rw [e] at w
    intro v2 H2 p
    obtain ⟨A2, B2, s2, r2, st2⟩ := p
    have s2' := s2
    rw [← List.append_assoc B2 B1 T] at s2 r2
    refine hk s2 (fun r1 => r1.later s1 st2) r2 ?_ st2 w
    rw [← List.append_assoc]
    exact st1.trans2 st2
theorem tE_two {k : R → R → Env → Ro R} {r : R2}
    (hk : ∀ {Γ2 A T H0 A0 B1 B2 H2 v1 v2 x y}, Ste C.Z σ H2 Γ2 A ((B2 ++ B1) ++ T) → RR C.Z (out (A ++ ((B2 ++ B1) ++ T)) H2) H2 σ v1 x B1 → RR C.Z (out (A ++ ((B2 ++ B1) ++ T)) H2) H2 σ v2 y B2 → Stp A0 H0 (A ++ (B2 ++ B1)) H2 → Wp C σ H0 A0 T (k x y Γ2) Q → r v1 v2 H2 Q)
    (h : tE C (fun Γ => (ea Γ).bind fun x Γ => (eb Γ).bind fun y Γ => k x y Γ) σ H Q) : tOp r (tE C ea) (tE C eb) σ H Q :=
  tE_one (r := fun v H1 => tE C eb σ H1 fun v2 H2 => r v v2 H2 Q) (fun s1 r1 st1 w => tE_then s1 st1 w fun s2 l r2 st2 _ w => hk s2 (l r1) r2 st2 w) h

/-! ### small ones -/
theorem wp_dat {Γ : Env} {A T A0 B : List Addr} {H0 H2 : Hp} {v : V} {d : D} (s : Ste C.Z σ H2 Γ A (B ++ T)) (st : Stp A0 H0 (A ++ B) H2) (w : Wp C σ H0 A0 T (freD d Γ) Q) (r : Rp C.Z.K (out (A ++ (B ++ T)) H2) v d) : Q v H2 :=
  (Fin.of s st w).dat d v rfl r
theorem Ste.vr {Γ : Env} {A T : List Addr} (s : Ste C.Z σ H Γ A T) : Ste C.Z σ H Γ A ([] ++ T) := s
theorem Stp.vr {A : List Addr} : Stp A H (A ++ []) H := by rw [List.append_nil]; exact Stp.refl
section
variable {X : Cx} {pos : Pos} {e : Expr}
theorem de_var {i : Nat} {x : Str} (hN : X.N[i]? = some x) (hv : Vis X.env.scope x) (hd : (x == ("__debug__" : Str)) = false) (hcd : (x == ("__classdict__" : Str)) = false) :
    PE X (.Name x pos) (tE C fun Γ => match Γ[i]? with
      | some (some (.dat d)) => freD d Γ
      | some (some _) => .ok (.var i) Γ
      | _ => .bad) := by
  refine PE.imp (pe_var hN hv hd hcd) fun σ H Q h => ?_
  obtain ⟨Γ, A, T, s, w⟩ := h
  dsimp only at w
  split at w
  · rename_i d hg
    obtain ⟨v, B, P, S, g1, g2, g3, _⟩ := s.env.at hg
    cases g3 with
    | dat r => exact ⟨v, g1, wp_dat s.vr Stp.vr w r⟩
  · rename_i ow _ hg
    obtain ⟨v, B, P, S, g1, g2, g3, _⟩ := s.env.at hg
    exact ⟨v, g1, w v H ⟨A, [], s, ⟨g1, rfl⟩, Stp.vr⟩⟩
  · exact w.elim
theorem de_con {d : D} {v : V} (h : PE X e (tC v)) (r : ∀ F, Rp C.Z.K F v d) : PE X e (tE C (freD d)) := by
  refine PE.imp h fun σ H Q h => ?_
  obtain ⟨Γ, A, T, s, w⟩ := h
  exact wp_dat s.vr Stp.vr w (r _)
end
/-! ### operations of one, of two -/
theorem Ste.le {Γ : Env} {A T : List Addr} (_ : Ste C.Z σ H Γ A T) : Same (out (A ++ T) H) H := out_le
theorem wp_op2 {r : R2} {f : D → D → Option Ow} (ho : Op2 C.Z r f) {Γ2 : Env} {A T A0 B1 B2 : List Addr} {H0 H2 : Hp} {v1 v2 : V} {x y : R} (s : Ste C.Z σ H2 Γ2 A ((B2 ++ B1) ++ T)) (r1 : RR C.Z (out (A ++ ((B2 ++ B1) ++ T)) H2) H2 σ v1 x B1)
    (r2 : RR C.Z (out (A ++ ((B2 ++ B1) ++ T)) H2) H2 σ v2 y B2) (st : Stp A0 H0 (A ++ (B2 ++ B1)) H2)
    (w : Wp C σ H0 A0 T (match view Γ2 x, view Γ2 y with
      | some dx, some dy => R.ofO (f dx dy) Γ2
      | _, _ => .bad) Q) : r v1 v2 H2 Q := by
  split at w
  · rename_i dx dy hx hy
    cases e : f dx dy with
    | none => rw [e] at w; exact w.elim
    | some ow =>
      rw [e] at w
      exact ho _ H2 v1 v2 dx dy ow Q out_le (r1.rv s hx) (r2.rv s hy) e (Fin.of s st w)
  · exact w.elim
theorem tE_op2 {r : R2} {f : D → D → Option Ow} (ho : Op2 C.Z r f)
    (h : tE C (fun Γ => (ea Γ).bind fun x Γ => (eb Γ).bind fun y Γ => match view Γ x, view Γ y with
      | some dx, some dy => R.ofO (f dx dy) Γ
      | _, _ => .bad) σ H Q) : tOp r (tE C ea) (tE C eb) σ H Q := tE_two (fun s r1 r2 st w => wp_op2 ho s r1 r2 st w) h
theorem ofO_bool {o : Option Bool} {Γ : Env} : ((ofO o Γ).bind fun k Γ => freD (.bool k) Γ) = R.ofO (o.map fun k => Ow.dat (.bool k)) Γ := by
  cases o <;> rfl
/-- a comparison -/
theorem tE_cmp {r : R2} {op : Cop} (ho : Op2 C.Z r (cmpB op))
    (h : tE C (fun Γ => (ea Γ).bind fun x Γ => (eb Γ).bind fun y Γ => match view Γ x, view Γ y with
      | some dx, some dy => (ofO (cmpD op dx dy) Γ).bind fun k Γ => freD (.bool k) Γ
      | _, _ => .bad) σ H Q) : tOp r (tE C ea) (tE C eb) σ H Q := tE_two (fun s r1 r2 st w => wp_op2 ho s r1 r2 st (by
        split at w
        · rw [ofO_bool] at w
          exact w
        · exact w)) h
/-- of one value -/
def Op1 (Z : Kz) (r : V → Hp → VK → Prop) (f : D → Option Ow) : Prop := ∀ F H x dx ow Q, Same F H → RV Z F H x dx → f dx = some ow → Fin Z F H ow Q → r x H Q
theorem tE_op1 {r : V → Hp → VK → Prop} {f : D → Option Ow} (ho : Op1 C.Z r f)
    (h : tE C (fun Γ => (ea Γ).bind fun x Γ => match view Γ x with
      | some d => R.ofO (f d) Γ
      | none => .bad) σ H Q) : tUn r (tE C ea) σ H Q := tE_one (r := fun v H => r v H Q) (fun s r1 st w => by
        split at w
        · rename_i dx hx
          cases e : f dx with
          | none => rw [e] at w; exact w.elim
          | some ow =>
            rw [e] at w
            exact ho _ _ _ dx ow Q out_le (r1.rv s hx) e (Fin.of s st w)
        · exact w.elim) h
theorem op1_neg {Z : Kz} : Op1 Z (rU fun i => .int (-i)) negD := by
  intro F H x dx ow Q e hx hf q
  cases dx <;> first | (cases hf; done) | skip
  obtain rfl := hx.int
  cases hf
  exact ⟨_, rfl, q.dat _ _ rfl (.int _)⟩
/-- [..] * n -/
theorem tE_rep (h : tE C (fun Γ => (ea Γ).bind fun x Γ => (eb Γ).bind fun y Γ => match x, view Γ y with
      | .fre (.lst xs), some dy => R.ofO (repD xs dy) Γ
      | _, _ => .bad) σ H Q) : tOp rRep (tE C ea) (tE C eb) σ H Q := tE_two (fun {Γ2 A T H0 A0 B1 B2 H2 v1 v2 x y} s r1 r2 st w => by
    split at w
    · rename_i xs dy hy
      have hv := r2.rv s hy
      have r1 : ROw C.Z (out (A ++ ((B2 ++ B1) ++ T)) H2) H2 v1 (.lst xs) B1 := r1
      cases r1 with
      | @lst a vs _ hs rs =>
        cases dy <;> first | exact w.elim | skip
        rename_i k
        obtain rfl := hv.int
        have w : Wp C σ H0 A0 T (R.ofO (askd (-(2 ^ 63) ≤ k ∧ k < 2 ^ 63 ∧ xs.length * k.toNat ≤ sizeLine) (some (Ow.lst (List.replicate k.toNat xs).flatten)) none) Γ2) Q := w
        by_cases hc : -(2 ^ 63) ≤ k ∧ k < 2 ^ 63 ∧ xs.length * k.toNat ≤ sizeLine
        · rw [askd_t hc] at w
          exact ⟨a, k, vs, rfl, rfl, hs, hc.1, hc.2.1, by rw [rs.length]; exact hc.2.2, fun p hp => (Fin.of s st w).lst _ p _ rfl hp (rs.rep _)⟩
        · rw [askd_f hc] at w
          exact w.elim
    · exact w.elim) h

/-! ### truth values -/
theorem tE_and (h : tE C (fun Γ => (ea Γ).bind fun x Γ => match x with
    | .fre (.dat (.bool true)) => eb Γ
    | .fre (.dat (.bool false)) => freD (.bool false) Γ
    | _ => .bad) σ H Q) : tAndV (tE C ea) (tE C eb) σ H Q := by
  refine tE_one (fun {Γ2 A T H0 A0 B H2 v x} s r1 st w => ?_) h
  split at w
  · cases (show ROw C.Z _ _ _ _ _ from r1) with
    | dat r =>
      cases r
      refine ⟨true, rfl, ?_⟩
      rw [if_pos rfl]
      refine ⟨Γ2, A, T, s, ?_⟩
      cases e : eb Γ2 with
      | bad => rw [e] at w; exact w
      | exn y Γ' =>
        rw [e] at w
        exact fun cls d H' p => w cls d H' (XPst.go (B1 := []) st p)
      | ok y Γ' =>
        rw [e] at w
        intro v2 H3 p
        obtain ⟨A2, B2, s2, r2, st2⟩ := p
        rw [List.append_nil] at st
        exact w v2 H3 ⟨A2, B2, s2, r2, st.trans st2⟩
  · cases (show ROw C.Z _ _ _ _ _ from r1) with
    | dat r =>
      cases r
      refine ⟨false, rfl, ?_⟩
      rw [if_neg (by decide)]
      exact wp_dat s st w (.bl false)
  · exact w.elim
theorem tE_or (h : tE C (fun Γ => (ea Γ).bind fun x Γ => match x with
    | .fre (.dat (.bool true)) => freD (.bool true) Γ
    | .fre (.dat (.bool false)) => eb Γ
    | _ => .bad) σ H Q) : tOrV (tE C ea) (tE C eb) σ H Q := by
  refine tE_one (fun {Γ2 A T H0 A0 B H2 v x} s r1 st w => ?_) h
  split at w
  · cases (show ROw C.Z _ _ _ _ _ from r1) with
    | dat r =>
      cases r
      refine ⟨true, rfl, ?_⟩
      rw [if_pos rfl]
      exact wp_dat s st w (.bl true)
  · cases (show ROw C.Z _ _ _ _ _ from r1) with
    | dat r =>
      cases r
      refine ⟨false, rfl, ?_⟩
      rw [if_neg (by decide)]
      refine ⟨Γ2, A, T, s, ?_⟩
      cases e : eb Γ2 with
      | bad => rw [e] at w; exact w
      | exn y Γ' =>
        rw [e] at w
        exact fun cls d H' p => w cls d H' (XPst.go (B1 := []) st p)
      | ok y Γ' =>
        rw [e] at w
        intro v2 H3 p
        obtain ⟨A2, B2, s2, r2, st2⟩ := p
        rw [List.append_nil] at st
        exact w v2 H3 ⟨A2, B2, s2, r2, st.trans st2⟩
  · exact w.elim
theorem tE_not (h : tE C (fun Γ => (ea Γ).bind fun x Γ => match x with
    | .fre (.dat (.bool k)) => freD (.bool (!k)) Γ
    | _ => .bad) σ H Q) : tNotV (tE C ea) σ H Q := by
  refine tE_one (fun {Γ2 A T H0 A0 B H2 v x} s r1 st w => ?_) h
  split at w
  · cases (show ROw C.Z _ _ _ _ _ from r1) with
    | dat r =>
      cases r
      exact ⟨_, rfl, wp_dat s st w (.bl _)⟩
  · exact w.elim

/-! ### tests -/
def WpT {α : Type} (C : Cc) (σ : List (Option V)) (H : Hp) (A T : List Addr) (o : Ro α) (Q : α → Hp → Prop) : Prop := match o with
  | .ok k Γ => ∀ H' A', Ste C.Z σ H' Γ A' T → Stp A H A' H' → Q k H'
  | .exn x Γ => ∀ cls d H', XPst C σ H A T Γ x cls d H' → C.W cls d σ H'
  | .bad => False
def tT {α : Type} (C : Cc) (ev : Env → Ro α) : List (Option V) → Hp → (α → Hp → Prop) → Prop := fun σ H Q => ∃ Γ A T, Ste C.Z σ H Γ A T ∧ WpT C σ H A T (ev Γ) Q
variable {ta tb : Env → Ro Bool} {QT : Bool → Hp → Prop}
theorem XPst.go0 {A A1 T : List Addr} {H1 H' : Hp} {Γ' : Env} {x : Xn} {cls : Value} {d : Option Addr} (s : Stp A H A1 H1) (p : XPst C σ H1 A1 T Γ' x cls d H') : XPst C σ H A T Γ' x cls d H' :=
  XPst.go (B1 := []) (by rw [List.append_nil]; exact s) p
/-- a further test from where something ended -/
theorem tT_then {α : Type} {tb : Env → Ro α} {QT : α → Hp → Prop} {Γ1 : Env} {A1 T A0 : List Addr} {H0 H1 : Hp} (s1 : Ste C.Z σ H1 Γ1 A1 T) (st1 : Stp A0 H0 A1 H1) (w : WpT C σ H0 A0 T (tb Γ1) QT) : tT C tb σ H1 QT := by
  refine ⟨Γ1, A1, T, s1, ?_⟩
  cases e : tb Γ1 with
  | bad => rw [e] at w; exact w
  | exn y Γ' =>
    rw [e] at w
    exact fun cls d H' p => w cls d H' (p.go0 st1)
  | ok y Γ' =>
    rw [e] at w
    exact fun H2 A2 s2 st2 => w H2 A2 s2 (st1.trans st2)
theorem tT_bind {α β : Type} {ta : Env → Ro α} {QT : β → Hp → Prop} {k : α → Env → Ro β} {r : α → Hp → Prop} (hk : ∀ {Γ1 A1 T H0 A0 H1 c}, Ste C.Z σ H1 Γ1 A1 T → Stp A0 H0 A1 H1 → WpT C σ H0 A0 T (k c Γ1) QT → r c H1)
    (h : tT C (fun Γ => (ta Γ).bind k) σ H QT) : tT C ta σ H r := by
  obtain ⟨Γ, A, T, s, w⟩ := h
  have w : WpT C σ H A T ((ta Γ).bind k) QT := w
  refine ⟨Γ, A, T, s, ?_⟩
  cases e : ta Γ with
  | bad => rw [e] at w; exact w
  | exn x Γ' => rw [e] at w; exact w
  | ok c Γ' =>
    rw [e] at w
    exact fun H' A' s' st => hk s' st w
theorem tT_and (h : tT C (fun Γ => (ta Γ).bind fun k Γ => match k with
    | true => tb Γ
    | false => .ok false Γ) σ H QT) : tAnd (tT C ta) (tT C tb) σ H QT := tT_bind (fun {Γ1 A1 T H0 A0 H1 c} s st w => by
      cases c with
      | true =>
        rw [if_pos rfl]
        exact tT_then s st w
      | false =>
        rw [if_neg (by decide)]
        exact w H1 A1 s st) h
theorem tT_or (h : tT C (fun Γ => (ta Γ).bind fun k Γ => match k with
    | true => .ok true Γ
    | false => tb Γ) σ H QT) : tOr (tT C ta) (tT C tb) σ H QT := tT_bind (fun {Γ1 A1 T H0 A0 H1 c} s st w => by
      cases c with
      | true =>
        rw [if_pos rfl]
        exact w H1 A1 s st
      | false =>
        rw [if_neg (by decide)]
        exact tT_then s st w) h
theorem tT_not (h : tT C (fun Γ => (ta Γ).bind fun k Γ => .ok (!k) Γ) σ H QT) : tNot (tT C ta) σ H QT := by
  have g : tT C ta σ H (fun c H1 => QT (!c) H1) := tT_bind (QT := QT) (k := fun k Γ => .ok (!k) Γ) (fun {Γ1 A1 T H0 A0 H1 c} s st w => by
    have w : ∀ H' A', Ste C.Z σ H' Γ1 A' T → Stp A0 H0 A' H' → QT (!c) H' := w
    exact w H1 A1 s st) h
  exact g
/-- an expression behind which a test's answer is given -/
theorem tT_val {α : Type} {QT : α → Hp → Prop} {k : R → Env → Ro α} {r : V → Hp → Prop}
    (hk : ∀ {Γ2 A T H0 A0 B H2 v x}, Ste C.Z σ H2 Γ2 A (B ++ T) → RR C.Z (out (A ++ (B ++ T)) H2) H2 σ v x B → Stp A0 H0 (A ++ B) H2 → WpT C σ H0 A0 T (k x Γ2) QT → r v H2)
    (h : tT C (fun Γ => (ea Γ).bind k) σ H QT) : tE C ea σ H r := by
  obtain ⟨Γ, A, T, s, w⟩ := h
  have w : WpT C σ H A T ((ea Γ).bind k) QT := w
  refine ⟨Γ, A, T, s, ?_⟩
  cases e : ea Γ with
  | bad => rw [e] at w; exact w
  | exn x Γ' => rw [e] at w; exact w
  | ok x Γ' =>
    rw [e] at w
    intro v H' p
    obtain ⟨A', B, s', rr, st⟩ := p
    exact hk s' rr st w
/-- the truth of a value -/
theorem tru_v {Z : Kz} {F : Hp} {v : V} {d : D} {k : Bool} (e : Same F H) (h : RV Z F H v d) (ht : truD d = some k) : TruV Z.K v H k := by
  cases d with
  | none =>
    obtain rfl := h.none
    cases ht
    rfl
  | bool b =>
    obtain rfl := h.bool
    cases ht
    rfl
  | int i =>
    obtain rfl := h.int
    cases ht
    rfl
  | str x =>
    obtain rfl := h.str
    have ht : (if x.length ≤ sizeLine then some ((x.length : Int) != 0) else none) = some k := ht
    split at ht
    · cases ht
      exact ⟨by assumption, rfl⟩
    · cases ht
  | list xs =>
    obtain ⟨a, vs, rfl, hs, r⟩ := h.list e
    cases ht
    refine .inl ⟨vs, hs, ?_⟩
    cases r <;> rfl
  | tuple xs =>
    obtain ⟨a, vs, rfl, hs, r, _⟩ := h.tup e
    cases ht
    refine .inr (.inl ⟨vs, hs, ?_⟩)
    cases r <;> rfl
  | dict xs => cases ht
theorem tT_tru {QT : Bool → Hp → Prop} (h : tT C (fun Γ => (ea Γ).bind fun x Γ => match view Γ x with
    | some d => ofO (truD d) Γ
    | none => .bad) σ H QT) : tE C ea σ H fun v H' => ∃ k, TruV C.Z.K v H' k ∧ QT k H' := tT_val (fun {Γ2 A T H0 A0 B H2 v x} s rr st w => by
      split at w
      · rename_i d hd
        cases e : truD d with
        | none => rw [e] at w; exact w.elim
        | some k =>
          rw [e] at w
          exact ⟨k, tru_v out_le (rr.rv s hd) e, w H2 A s.drop (st.sub fun a ha => List.mem_append_left _ ha)⟩
      · exact w.elim) h
/-- a comparison's truth: where the value is a truth value -/
theorem tT_cmp {QT : Bool → Hp → Prop} (hb : ∀ Γ r Γ', ea Γ = .ok r Γ' → ∃ k, r = .fre (.dat (.bool k))) (h : tT C (fun Γ => (ea Γ).bind fun x Γ => match view Γ x with
    | some d => ofO (truD d) Γ
    | none => .bad) σ H QT) : tE C ea σ H fun v H' => ∃ k, v = .bl k ∧ QT k H' := by
  obtain ⟨Γ, A, T, s, w⟩ := h
  have w : WpT C σ H A T ((ea Γ).bind fun x Γ => match view Γ x with
    | some d => ofO (truD d) Γ
    | none => .bad) QT := w
  refine ⟨Γ, A, T, s, ?_⟩
  cases e : ea Γ with
  | bad => rw [e] at w; exact w
  | exn x Γ' => rw [e] at w; exact w
  | ok x Γ' =>
    rw [e] at w
    obtain ⟨k, rfl⟩ := hb _ _ _ e
    intro v H' p
    obtain ⟨A', B, s', rr, st⟩ := p
    cases (show ROw C.Z _ _ _ _ _ from rr) with
    | dat r =>
      cases r
      exact ⟨k, rfl, w H' A' s'.drop (st.sub fun a ha => List.mem_append_left _ ha)⟩
theorem tE_ite (h : tE C (fun Γ => (ta Γ).bind fun k Γ => match k with
    | true => ea Γ
    | false => eb Γ) σ H Q) : tIf (tT C ta) (tE C ea) (tE C eb) σ H Q := by
  obtain ⟨Γ, A, T, s, w⟩ := h
  have w : Wp C σ H A T ((ta Γ).bind fun k Γ => match k with
    | true => ea Γ
    | false => eb Γ) Q := w
  refine ⟨Γ, A, T, s, ?_⟩
  cases e : ta Γ with
  | bad => rw [e] at w; exact w
  | exn x Γ' => rw [e] at w; exact w
  | ok c Γ' =>
    rw [e] at w
    intro H' A' s' st
    have go : ∀ {ex : Env → Ro R}, Wp C σ H A T (ex Γ') Q → tE C ex σ H' Q := fun {ex} w => by
      refine ⟨Γ', A', T, s', ?_⟩
      cases e : ex Γ' with
      | bad => rw [e] at w; exact w
      | exn y Γ2 =>
        rw [e] at w
        exact fun cls d H2 p => w cls d H2 (p.go0 st)
      | ok y Γ2 =>
        rw [e] at w
        intro v H2 p
        obtain ⟨A2, B2, s2, r2, st2⟩ := p
        exact w v H2 ⟨A2, B2, s2, r2, st.trans st2⟩
    cases c with
    | true =>
      rw [if_pos rfl]
      exact go w
    | false =>
      rw [if_neg (by decide)]
      exact go w
end
end Tv
end

section
set_option Elab.async false
set_option linter.all false
set_option maxRecDepth 100000
/-! TvS2: argument lists, displays, subscripts, slices, calls. -/
namespace Tv
open PySem PySem.Spec PyProof.Rows L2

section
variable {C : Cc} {Z : Kz} {σ : List (Option V)} {H : Hp} {Q : VK} {ea eb ec : Env → Ro R}

/-- something of another kind from where an expression ended -/
theorem tT_thenE {α : Type} {eo : Env → Ro α} {k : α → Env → Ro R} {r : α → Hp → Prop} {Γ1 : Env} {A1 B1 T A0 : List Addr} {H0 H1 : Hp} (s1 : Ste C.Z σ H1 Γ1 A1 (B1 ++ T)) (st1 : Stp A0 H0 (A1 ++ B1) H1) (w : Wp C σ H0 A0 T ((eo Γ1).bind k) Q)
    (hk : ∀ {Γ2 A2 H2 i}, Ste C.Z σ H2 Γ2 A2 (B1 ++ T) → (∀ {v1 : V} {x : R}, RR C.Z (out (A1 ++ (B1 ++ T)) H1) H1 σ v1 x B1 → RR C.Z (out (A2 ++ (B1 ++ T)) H2) H2 σ v1 x B1) → Stp A0 H0 (A2 ++ B1) H2 → Wp C σ H0 A0 T (k i Γ2) Q → r i H2) : tT C eo σ H1 r := by
  refine ⟨Γ1, A1, B1 ++ T, s1, ?_⟩
  cases e : eo Γ1 with
  | bad => rw [e] at w; exact w
  | exn y Γ' =>
    rw [e] at w
    exact fun cls d H' p => w cls d H' (p.go st1)
  | ok i Γ2 =>
    rw [e] at w
    intro H2 A2 s2 st2
    refine hk s2 (fun {v1 x} r1 => ?_) (st1.trans2 st2) w
    have q := r1.later (B2 := []) s1 (by rw [List.append_nil]; exact st2)
    exact q
/-! ### slices -/
theorem tO_no {C : Cc} {σ : List (Option V)} {H : Hp} {Q : Option Int → Hp → Prop} (h : tT C (fun Γ => .ok (none : Option Int) Γ) σ H Q) : tNoPart σ H Q := by
  obtain ⟨Γ, A, T, s, w⟩ := h
  exact w H A s Stp.refl
theorem tO_some {C : Cc} {σ : List (Option V)} {H : Hp} {Q : Option Int → Hp → Prop} (h : tT C (fun Γ => (ea Γ).bind fun x Γ => match view Γ x with
    | some (.int i) => .ok (some i) Γ
    | _ => .bad) σ H Q) : tPart (tE C ea) σ H Q := tT_val (fun {Γ2 A T H0 A0 B H2 v x} s rr st w => by
      split at w
      · rename_i i hi
        obtain rfl := (rr.rv s hi).int
        exact ⟨i, rfl, w H2 A s.drop (st.sub fun a ha => List.mem_append_left _ ha)⟩
      · exact w.elim) h
def rSlU (K : PySem.W.Frag) : V → Option Int → Option Int → Hp → VK → Prop := fun x lo hi H Q => rSlL K x lo hi H Q ∨ rSlA K x lo hi H Q
theorem sl_any {X : Cx} : SlR X (rSlU X.K) := sl_list.or sl_tupA
theorem RpAll.cut {K : PySem.W.Frag} {F : Hp} {vs : List V} {ds : List D} (r : RpAll K F vs ds) (lo hi : Option Int) : RpAll K F (cutV vs lo hi) (cutD ds lo hi) := by
  unfold cutV cutD
  rw [r.length]
  exact (r.drop _).take _
theorem cut_all {ds : List D} {lo hi : Option Int} (h : HT.sIx ds.length 0 lo = 0 ∧ HT.sIx ds.length ds.length hi = ds.length) : cutD ds lo hi = ds := by
  unfold cutD
  rw [h.1, h.2, List.drop_zero, Nat.sub_zero, List.take_length]
theorem tE_slc {el eh : Env → Ro (Option Int)} (h : tE C (fun Γ => (ea Γ).bind fun x Γ => (el Γ).bind fun i Γ => (eh Γ).bind fun j Γ => match view Γ x with
    | some dx => R.ofO (slcD dx i j) Γ
    | none => .bad) σ H Q) : tSl (rSlU C.Z.K) (tE C ea) (tT C el) (tT C eh) σ H Q := tE_one (fun {Γ1 A1 T H0 A0 B1 H1 v x} s1 r1 st1 w =>
  tT_thenE s1 st1 w fun {Γ2 A2 H2 i} s2 l2 st2 w => tT_thenE s2 st2 w fun {Γ3 A3 H3 j} s3 l3 st3 w => by
    have r3 := l3 (l2 r1)
    split at w
    · rename_i dx hx
      have hv := r3.rv s3 hx
      have F := fun ow (e : slcD dx i j = some ow) => Fin.of (ow := ow) s3 st3 (Q := Q) (by rw [e] at w; exact w)
      cases dx <;> first | exact w.elim | skip
      · obtain ⟨a, vs, rfl, hs, rs⟩ := hv.list out_le
        exact .inl ⟨a, vs, rfl, hs, fun p hp => (F _ rfl).lst _ p _ rfl hp (rs.cut i j)⟩
      · obtain ⟨a, vs, rfl, hs, rs, g⟩ := hv.tup out_le
        refine .inr ⟨a, vs, rfl, hs, fun hw => (F _ rfl).dat _ _ rfl ?_, fun _ p hp => (F _ rfl).tup _ p _ rfl hp (rs.cut i j)⟩
        rw [rs.length] at hw
        rw [cut_all hw]
        exact g
    · exact w.elim) h

/-! ### subscripts -/
theorem at_vals {K : PySem.W.Frag} {F : Hp} {vs : List V} {ds : List D} {i : Int} {d : D} (r : RpAll K F vs ds) (h : atI ds i = some d) : ∃ v, atI vs i = some v ∧ Rp K F v d := by
  unfold atI at h ⊢
  rw [r.length]
  cases e : ixN ds.length i with
  | none => rw [e] at h; cases h
  | some j =>
    rw [e] at h
    exact r.get h
theorem op2_sub' {Z : Kz} : Op2 Z (rIx Z.K) subD := by
  intro F H x y dx dy ow Q e hx hy hf q
  cases dy <;> first | (cases dx <;> cases hf; done) | skip
  rename_i i
  obtain rfl := hy.int
  cases dx <;> first | (cases hf; done) | skip
  · obtain rfl := hx.str
    rename_i z
    have hf : (if z.length ≤ sizeLine then (atI z.cps.toList i).map fun c => Ow.dat (chr1 c) else none) = some ow := hf
    split at hf
    · rename_i hz
      cases ea : atI z.cps.toList i with
      | none => rw [ea] at hf; cases hf
      | some c =>
        rw [ea] at hf
        cases hf
        exact .inr (.inr ⟨z, i, c, rfl, rfl, hz, ea, q.dat _ _ rfl (.str _)⟩)
    · cases hf
  · rename_i ds
    obtain ⟨a, vs, rfl, hs, rs⟩ := hx.list e
    have hf : (atI ds i).map Ow.dat = some ow := hf
    cases ea : atI ds i with
    | none => rw [ea] at hf; cases hf
    | some d =>
      rw [ea] at hf
      cases hf
      obtain ⟨v, hv, rv⟩ := at_vals rs ea
      exact .inl ⟨a, vs, i, v, rfl, rfl, hs, hv, q.dat _ _ rfl rv⟩
  · rename_i ds
    obtain ⟨a, vs, rfl, hs, rs, _⟩ := hx.tup e
    have hf : (atI ds i).map Ow.dat = some ow := hf
    cases ea : atI ds i with
    | none => rw [ea] at hf; cases hf
    | some d =>
      rw [ea] at hf
      cases hf
      obtain ⟨v, hv, rv⟩ := at_vals rs ea
      exact .inr (.inl ⟨a, vs, i, v, rfl, rfl, hs, hv, q.dat _ _ rfl rv⟩)

/-! ### argument lists -/
inductive RRs (Z : Kz) (F H : Hp) (σ : List (Option V)) : List V → List R → List Addr → Prop
  | nil : RRs Z F H σ [] [] []
  | cons {v : V} {r : R} {vs : List V} {rs : List R} {B1 B2 : List Addr} : RR Z F H σ v r B1 → RRs Z F H σ vs rs B2 → RRs Z F H σ (v :: vs) (r :: rs) (B2 ++ B1)
def WpA (C : Cc) (σ : List (Option V)) (H : Hp) (A T : List Addr) (o : Ro (List R)) (Q : List V → Hp → Prop) : Prop := match o with
  | .ok rs Γ => ∀ vs H' A' B, Ste C.Z σ H' Γ A' (B ++ T) → RRs C.Z (out (A' ++ (B ++ T)) H') H' σ vs rs B → Stp A H (A' ++ B) H' → Q vs H'
  | .exn x Γ => ∀ cls d H', XPst C σ H A T Γ x cls d H' → C.W cls d σ H'
  | .bad => False
def tA (C : Cc) (ev : Env → Ro (List R)) : TA := fun σ H Q => ∃ Γ A T, Ste C.Z σ H Γ A T ∧ WpA C σ H A T (ev Γ) Q
theorem tA_nil {Q : List V → Hp → Prop} (h : tA C (fun Γ => .ok [] Γ) σ H Q) : tNil σ H Q := by
  obtain ⟨Γ, A, T, s, w⟩ := h
  exact w [] H A [] s .nil (by rw [List.append_nil]; exact Stp.refl)
theorem tA_cons {es : Env → Ro (List R)} {Q : List V → Hp → Prop} (h : tA C (fun Γ => (ea Γ).bind fun r Γ => (es Γ).bind fun rs Γ => .ok (r :: rs) Γ) σ H Q) : tCons (tE C ea) (tA C es) σ H Q := by
  obtain ⟨Γ, A, T, s, w⟩ := h
  have w : WpA C σ H A T ((ea Γ).bind fun r Γ => (es Γ).bind fun rs Γ => .ok (r :: rs) Γ) Q := w
  refine ⟨Γ, A, T, s, ?_⟩
  cases e : ea Γ with
  | bad => rw [e] at w; exact w
  | exn x Γ' => rw [e] at w; exact w
  | ok x Γ1 =>
    rw [e] at w
    intro v H1 p
    obtain ⟨A1, B1, s1, r1, st1⟩ := p
    have w : WpA C σ H A T ((es Γ1).bind fun rs Γ => .ok (x :: rs) Γ) Q := w
    refine ⟨Γ1, A1, B1 ++ T, s1, ?_⟩
    cases e2 : es Γ1 with
    | bad => rw [e2] at w; exact w
    | exn y Γ' =>
      rw [e2] at w
      exact fun cls d H' p => w cls d H' (p.go st1)
    | ok rs Γ2 =>
      rw [e2] at w
      intro vs H2 A2 B2 s2 r2 st2
      have r1' := r1.later s1 st2
      rw [← List.append_assoc B2 B1 T] at s2 r2
      refine w (v :: vs) H2 A2 (B2 ++ B1) s2 (.cons r1' r2) ?_
      rw [← List.append_assoc]
      exact st1.trans2 st2
/-- a list of arguments, then what follows -/
theorem tA_one {k : List R → Env → Ro R} {r : List V → Hp → Prop} {es : Env → Ro (List R)}
    (hk : ∀ {Γ2 A T H0 A0 B H2 vs rs}, Ste C.Z σ H2 Γ2 A (B ++ T) → RRs C.Z (out (A ++ (B ++ T)) H2) H2 σ vs rs B → Stp A0 H0 (A ++ B) H2 → Wp C σ H0 A0 T (k rs Γ2) Q → r vs H2)
    (h : tE C (fun Γ => (es Γ).bind k) σ H Q) : tA C es σ H r := by
  obtain ⟨Γ, A, T, s, w⟩ := h
  have w : Wp C σ H A T ((es Γ).bind k) Q := w
  refine ⟨Γ, A, T, s, ?_⟩
  cases e : es Γ with
  | bad => rw [e] at w; exact w
  | exn x Γ' => rw [e] at w; exact w
  | ok rs Γ' =>
    rw [e] at w
    exact fun vs H' A' B s' rr st => hk s' rr st w

/-! ### taken as trees that stand still -/
/-- v may be taken as r says, all but slots' own things standing in F -/
def Rdy (Z : Kz) (F : Hp) (σ : List (Option V)) (v : V) (r : R) : Prop := match r with
  | .fre ow => ∀ d, ow.tree = some d → Rp Z.K F v d
  | .var i => σ[i]? = some (some v)
inductive Rdys (Z : Kz) (F : Hp) (σ : List (Option V)) : List V → List R → Prop
  | nil : Rdys Z F σ [] []
  | cons {v : V} {r : R} {vs : List V} {rs : List R} : Rdy Z F σ v r → Rdys Z F σ vs rs → Rdys Z F σ (v :: vs) (r :: rs)
theorem Rdy.mono {F F' : Hp} (e : Same F F') {v : V} {r : R} (h : Rdy Z F σ v r) : Rdy Z F' σ v r := by
  cases r with
  | fre ow => exact fun d t => (h d t).mono e
  | var i => exact h
theorem Rdys.mono {F F' : Hp} (e : Same F F') : ∀ {vs : List V} {rs : List R}, Rdys Z F σ vs rs → Rdys Z F' σ vs rs
  | _, _, .nil => .nil
  | _, _, .cons h t => .cons (h.mono e) (Rdys.mono e t)
theorem RR.rdy {A B B' T : List Addr} {v : V} {r : R} (nd : (A ++ (B ++ T)).Nodup) (hb : ∀ b ∈ B', b ∈ B) (h : RR Z (out (A ++ (B ++ T)) H) H σ v r B') : Rdy Z (out (A ++ T) H) σ v r := by
  cases r with
  | var i => exact h.1
  | fre ow =>
    intro d t
    have sub : Same (out (A ++ (B ++ T)) H) (out (A ++ T) H) := out_sub fun a ha => by
      simp only [List.mem_append] at ha ⊢
      exact ha.elim .inl fun q => .inr (.inr q)
    cases (show ROw Z _ _ _ _ _ from h) with
    | dat r =>
      cases t
      exact r.mono sub
    | @lst a vs ds hs r =>
      cases t
      refine .lst (SqL.of (out_some.mpr ⟨fun q => ?_, hs⟩)) (r.mono sub)
      have ha := hb a (by simp)
      simp only [List.nodup_append, List.mem_append] at nd q
      grind
    | xcp _ _ _ => cases t
theorem RRs.rdy {A B T : List Addr} (nd : (A ++ (B ++ T)).Nodup) : ∀ {B' : List Addr} {vs : List V} {rs : List R}, (∀ b ∈ B', b ∈ B) → RRs Z (out (A ++ (B ++ T)) H) H σ vs rs B' → Rdys Z (out (A ++ T) H) σ vs rs
  | _, _, _, _, .nil => .nil
  | _, _, _, hb, .cons h t => .cons (h.rdy nd fun b q => hb b (List.mem_append_right _ q)) (RRs.rdy nd (fun b q => hb b (List.mem_append_left _ q)) t)
theorem asD_ok {Γ Γ' : Env} {A T : List Addr} {v : V} {r : R} {d : D} (s : Ste Z σ H Γ A T) (h : Rdy Z (out (A ++ T) H) σ v r) (e : asD r Γ = .ok d Γ') :
    ∃ A', Ste Z σ H Γ' A' T ∧ Rp Z.K (out (A' ++ T) H) v d ∧ ∀ a ∈ A', a ∈ A := by
  cases r with
  | fre ow =>
    have e : (match ow.tree with
      | some d => Ro.ok d Γ
      | none => .bad) = .ok d Γ' := e
    cases t : ow.tree with
    | none => rw [t] at e; cases e
    | some d0 =>
      rw [t] at e
      cases e
      exact ⟨A, s, h d t, fun a ha => ha⟩
  | var i =>
    have e : (match Γ[i]? with
      | some (some ow) => (match ow.tree with
        | some d => Ro.ok d (Γ.set i (some (.dat d)))
        | none => .bad)
      | _ => .bad) = .ok d Γ' := e
    split at e
    · rename_i ow hg
      cases t : ow.tree with
      | none => rw [t] at e; cases e
      | some d0 =>
        rw [t] at e
        cases e
        obtain ⟨v', A', h1, s', sub, rp⟩ := s.freeze hg t
        have h : σ[i]? = some (some v) := h
        rw [h] at h1
        cases h1
        exact ⟨A', s', rp, sub⟩
    · cases e
theorem asD_no {r : R} {Γ Γ' : Env} {x : Xn} : asD r Γ ≠ .exn x Γ' := by
  intro e
  cases r with
  | fre ow =>
    have e : (match ow.tree with
      | some d => Ro.ok d Γ
      | none => .bad) = .exn x Γ' := e
    cases t : ow.tree with
    | none => rw [t] at e; cases e
    | some d0 => rw [t] at e; cases e
  | var i =>
    have e : (match Γ[i]? with
      | some (some ow) => (match ow.tree with
        | some d => Ro.ok d (Γ.set i (some (.dat d)))
        | none => .bad)
      | _ => .bad) = .exn x Γ' := e
    split at e
    · rename_i ow hg
      cases t : ow.tree with
      | none => rw [t] at e; cases e
      | some d0 => rw [t] at e; cases e
    · cases e
theorem shrink {A A' T : List Addr} (sub : ∀ a ∈ A', a ∈ A) : Same (out (A ++ T) H) (out (A' ++ T) H) := out_sub fun a ha => by
  simp only [List.mem_append] at ha ⊢
  exact ha.elim (fun q => .inl (sub a q)) .inr
theorem asDs_ok : ∀ {rs : List R} {vs : List V} {Γ Γ' : Env} {A T : List Addr} {ds : List D}, Ste Z σ H Γ A T → Rdys Z (out (A ++ T) H) σ vs rs → asDs rs Γ = .ok ds Γ' →
    ∃ A', Ste Z σ H Γ' A' T ∧ RpAll Z.K (out (A' ++ T) H) vs ds ∧ ∀ a ∈ A', a ∈ A
  | [], _, Γ, Γ', A, T, ds, s, .nil, e => by
    have e : Ro.ok [] Γ = .ok ds Γ' := e
    cases e
    exact ⟨A, s, .nil, fun a ha => ha⟩
  | r :: rs, _, Γ, Γ', A, T, ds, s, .cons h t, e => by
    have e : ((asD r Γ).bind fun d Γ => (asDs rs Γ).bind fun ds Γ => .ok (d :: ds) Γ) = .ok ds Γ' := e
    cases e1 : asD r Γ with
    | bad => rw [e1] at e; cases e
    | exn x Γ2 => rw [e1] at e; cases e
    | ok d Γ1 =>
      rw [e1] at e
      have e : ((asDs rs Γ1).bind fun ds Γ => .ok (d :: ds) Γ) = .ok ds Γ' := e
      obtain ⟨A1, s1, rp, sub1⟩ := asD_ok s h e1
      cases e2 : asDs rs Γ1 with
      | bad => rw [e2] at e; cases e
      | exn x Γ2 => rw [e2] at e; cases e
      | ok ds2 Γ2 =>
        rw [e2] at e
        cases e
        obtain ⟨A2, s2, rps, sub2⟩ := asDs_ok s1 (t.mono (shrink sub1)) e2
        exact ⟨A2, s2, .cons (rp.mono (shrink sub2)) rps, fun a ha => sub1 a (sub2 a ha)⟩
theorem asDs_no : ∀ {rs : List R} {Γ Γ' : Env} {x : Xn}, asDs rs Γ ≠ .exn x Γ'
  | [], _, _, _, e => by cases e
  | r :: rs, Γ, Γ', x, e => by
    have e : ((asD r Γ).bind fun d Γ => (asDs rs Γ).bind fun ds Γ => .ok (d :: ds) Γ) = .exn x Γ' := e
    cases e1 : asD r Γ with
    | bad => rw [e1] at e; cases e
    | exn y Γ2 => exact asD_no e1
    | ok d Γ1 =>
      rw [e1] at e
      have e : ((asDs rs Γ1).bind fun ds Γ => .ok (d :: ds) Γ) = .exn x Γ' := e
      cases e2 : asDs rs Γ1 with
      | bad => rw [e2] at e; cases e
      | exn y Γ2 => exact asDs_no e2
      | ok ds2 Γ2 => rw [e2] at e; cases e
/-- arguments taken as trees, then what follows -/
theorem tA_trees {k : List D → Env → Ro R} {r : List V → Hp → Prop} {es : Env → Ro (List R)}
    (hk : ∀ {Γ2 A T H0 A0 H2 vs ds}, Ste C.Z σ H2 Γ2 A T → RpAll C.Z.K (out (A ++ T) H2) vs ds → Stp A0 H0 A H2 → Wp C σ H0 A0 T (k ds Γ2) Q → r vs H2)
    (h : tE C (fun Γ => (es Γ).bind fun rs Γ => (asDs rs Γ).bind k) σ H Q) : tA C es σ H r := tA_one (fun {Γ2 A T H0 A0 B H2 vs rs} s rr st w => by
      cases e : asDs rs Γ2 with
      | bad => rw [e] at w; exact w.elim
      | exn x Γ' => exact absurd e asDs_no
      | ok ds Γ3 =>
        rw [e] at w
        obtain ⟨A', s', rp, sub⟩ := asDs_ok s.drop (rr.rdy s.nd fun b q => q) e
        exact hk s' rp (st.sub fun a ha => List.mem_append_left _ (sub a ha)) w) h

/-! ### displays -/
theorem fin_of0 {Γ : Env} {A T A0 : List Addr} {H0 H2 : Hp} {ow : Ow} (s : Ste C.Z σ H2 Γ A T) (st : Stp A0 H0 A H2) (w : Wp C σ H0 A0 T (.ok (.fre ow) Γ) Q) : Fin C.Z (out (A ++ T) H2) H2 ow Q :=
  Fin.of (B1 := []) s (by rw [List.append_nil]; exact st) w
theorem tE_tup {es : Env → Ro (List R)} (h : tE C (fun Γ => (es Γ).bind fun rs Γ => (asDs rs Γ).bind fun ds Γ => if ds.length ≤ sizeLine then freD (.tuple ds) Γ else .bad) σ H Q) : tTup (tA C es) σ H Q :=
  tA_trees (fun {Γ2 A T H0 A0 H2 vs ds} s rp st w => by
    split at w
    · rename_i hz
      exact ⟨by rw [rp.length]; exact hz, fun p hp => (fin_of0 s st w).tup _ p _ rfl hp rp⟩
    · exact w.elim) h
theorem tE_lst {es : Env → Ro (List R)} (h : tE C (fun Γ => (es Γ).bind fun rs Γ => (asDs rs Γ).bind fun ds Γ => if ds.length ≤ sizeLine then .ok (.fre (.lst ds)) Γ else .bad) σ H Q) : tLst (tA C es) σ H Q :=
  tA_trees (fun {Γ2 A T H0 A0 H2 vs ds} s rp st w => by
    split at w
    · rename_i hz
      exact ⟨by rw [rp.length]; exact hz, fun p hp => (fin_of0 s st w).lst _ p _ rfl hp rp⟩
    · exact w.elim) h

/-! ### calls of defs -/
/-- what a def that comes to g promises -/
def spD (K : PySem.W.Frag) (mg : Str → Option Value) (fld : Str → Str) (n : Nat) (g : List D → Rf) : Sp := fun vs H Q E => ∃ ds T, vs.length = n ∧ RpAll K (out T H) vs ds ∧ T.Nodup ∧ (∀ t ∈ T, H t ≠ none) ∧ match g ds with
  | .ok ow => ∀ v H' B, Same H H' → (∀ b ∈ B, H b = none) → (B ++ T).Nodup → ROw ⟨K, none⟩ (out (B ++ T) H') H' v ow B → Q v H'
  | .exn x => ∀ a dd v H', mg x.cls = some (.ref a) → Same H H' → out T H' dd = some (.xd [(fld x.cls, v)]) → Rp K (out T H') v x.val → E (.ref a) (some dd) H'
  | .bad => False
theorem ROw.noz {K : PySem.W.Frag} {Z : Kz} {F H : Hp} {v : V} {ow : Ow} {B : List Addr} (hK : Z.K = K) (h : ROw ⟨K, none⟩ F H v ow B) : ROw Z F H v ow B := by
  subst hK
  cases h with
  | dat r => exact .dat r
  | lst hs r => exact .lst hs r
  | xcp hz _ _ => cases hz
theorem tE_call {es : Env → Ro (List R)} {f : List D → Rf} {n : Nat} (hn : ∀ ds, f ds ≠ .bad → ds.length = n) (h : tE C (fun Γ => (es Γ).bind fun rs Γ => (asDs rs Γ).bind fun ds Γ => match f ds with
    | .ok ow => .ok (.fre ow) Γ
    | .exn x => .exn x Γ
    | .bad => .bad) σ H Q) : tA C es σ H fun vs H1 => spD C.Z.K C.mg C.fld n f vs H1 Q (WE C.W σ) := tA_trees (fun {Γ2 A T H0 A0 H2 vs ds} s rp st w => by
  have s' := s
  refine ⟨ds, A ++ T, ?_, rp, s.nd, s.trA, ?_⟩
  · rw [rp.length]
    refine hn ds fun e => ?_
    rw [e] at w
    exact w
  · cases e : f ds with
    | bad => rw [e] at w; exact w
    | ok ow =>
      rw [e] at w
      intro v H' B sm fr nd r
      have e1 : B ++ (A ++ T) = B ++ (A ++ T) := rfl
      have kA : ∀ a ∈ A ++ T, H' a = H2 a := fun a ha => by
        cases q : H2 a with
        | none => exact absurd q (s.trA a ha)
        | some o => exact sm a o q
      have sub2 : ∀ b, b ∈ A ++ (B ++ T) ↔ b ∈ B ++ (A ++ T) := fun b => by
        simp only [List.mem_append]
        grind
      have eF : out (A ++ (B ++ T)) H' = out (B ++ (A ++ T)) H' := by
        funext b
        unfold out
        simp only [sub2]
      have ge : Same (out (A ++ T) H2) (out (A ++ (B ++ T)) H') := fun b o q => by
        obtain ⟨q1, q2⟩ := out_some.mp q
        refine out_some.mpr ⟨fun z => ?_, sm b o q2⟩
        have nb : b ∉ B := fun z => by rw [fr b z] at q2; cases q2
        simp only [List.mem_append] at z q1
        grind
      refine w v H' ⟨A, B, ⟨s.env.mono ge fun a ha => kA a (List.mem_append_left _ ha), ?_, fun t ht => ?_⟩, ?_, ?_⟩
      · simp only [List.nodup_append, List.mem_append] at nd ⊢
        grind
      · rcases List.mem_append.mp ht with q | q
        · exact (ROw.tr r) t q
        · rw [kA t (List.mem_append_right _ q)]
          exact s.tr t q
      · rw [eF]
        exact r.noz rfl
      · refine ⟨fun b o q => sm b o (st.keep (out_some.mp q).1 (out_some.mp q).2), fun a ha => ?_⟩
        rcases List.mem_append.mp ha with q | q
        · exact st.2 a q
        · by_cases hA : a ∈ A0
          · exact .inl hA
          · refine .inr ?_
            cases z : H0 a with
            | none => rfl
            | some o =>
              have z2 := st.keep hA z
              rw [fr a q] at z2
              cases z2
    | exn x =>
      rw [e] at w
      intro a dd v H' hm sm hd hv
      have kA : ∀ a ∈ A ++ T, H' a = H2 a := fun a ha => by
        cases q : H2 a with
        | none => exact absurd q (s.trA a ha)
        | some o => exact sm a o q
      have ge : Same (out (A ++ T) H2) (out (A ++ T) H') := fun b o q => by
        obtain ⟨q1, q2⟩ := out_some.mp q
        exact out_some.mpr ⟨q1, sm b o q2⟩
      refine w _ _ H' ⟨A, a, dd, v, hm, rfl, rfl, ⟨s.env.mono ge fun a ha => kA a (List.mem_append_left _ ha), s.nd, fun t ht => ?_⟩, hd, hv, ⟨fun b o q => sm b o (st.keep (out_some.mp q).1 (out_some.mp q).2), st.2⟩⟩
      rw [kA t (List.mem_append_right _ ht)]
      exact s.tr t ht) h

/-! ### built-ins -/
inductive RVs (Z : Kz) (F H : Hp) : List V → List D → Prop
  | nil : RVs Z F H [] []
  | cons {v : V} {d : D} {vs : List V} {ds : List D} : RV Z F H v d → RVs Z F H vs ds → RVs Z F H (v :: vs) (d :: ds)
theorem RRs.rvs {Γ : Env} {A T : List Addr} (s : Ste Z σ H Γ A T) : ∀ {rs : List R} {vs : List V} {B : List Addr} {ds : List D}, RRs Z (out (A ++ T) H) H σ vs rs B → viewAll Γ rs = some ds → RVs Z (out (A ++ T) H) H vs ds
  | [], _, _, _, .nil, e => by
    cases e
    exact .nil
  | r :: rs, _, _, ds, .cons h t, e => by
    have e : (match view Γ r, viewAll Γ rs with
      | some d, some ds => some (d :: ds)
      | _, _ => none) = some ds := e
    split at e
    · rename_i d ds' e1 e2
      cases e
      exact .cons (h.rv s e1) (RRs.rvs s t e2)
    · cases e
def OpN (Z : Kz) (r : List V → Hp → VK → Prop) (f : List D → Option Ow) : Prop := ∀ F H vs ds ow Q, Same F H → RVs Z F H vs ds → f ds = some ow → Fin Z F H ow Q → r vs H Q
theorem tE_blt {es : Env → Ro (List R)} {r : List V → Hp → VK → Prop} {f : List D → Option Ow} (ho : OpN C.Z r f) (h : tE C (fun Γ => (es Γ).bind fun rs Γ => match viewAll Γ rs with
    | some ds => R.ofO (f ds) Γ
    | none => .bad) σ H Q) : tCB r (tA C es) σ H Q := tA_one (r := fun vs H1 => r vs H1 Q) (fun {Γ2 A T H0 A0 B H2 vs rs} s rr st w => by
      split at w
      · rename_i ds hd
        cases e : f ds with
        | none => rw [e] at w; exact w.elim
        | some ow =>
          rw [e] at w
          exact ho _ _ _ ds ow Q out_le (rr.rvs s hd) e (Fin.of s st w)
      · exact w.elim) h
end
end Tv
end

section
set_option Elab.async false
set_option linter.all false
set_option maxRecDepth 100000
/-! TvS3: built-ins, walks, comprehensions. -/
namespace Tv
open PySem PySem.Spec PyProof.Rows L2

/-! ### built-ins -/
section
variable {Z : Kz}
theorem RVs.one {F H : Hp} {vs : List V} {d : D} (h : RVs Z F H vs [d]) : ∃ v, vs = [v] ∧ RV Z F H v d := by
  cases h with
  | cons h t =>
    cases t
    exact ⟨_, rfl, h⟩
theorem RVs.two {F H : Hp} {vs : List V} {d e : D} (h : RVs Z F H vs [d, e]) : ∃ v w, vs = [v, w] ∧ RV Z F H v d ∧ RV Z F H w e := by
  cases h with
  | cons h t =>
    cases t with
    | cons h2 t =>
      cases t
      exact ⟨_, _, rfl, h, h2⟩
theorem opn_len : OpN Z (fun xs H Q => ∃ x n, xs = [x] ∧ LenV Z.K x H n ∧ Q (.int n) H) lenD := by
  intro F H vs ds ow Q e r hf q
  unfold lenD at hf
  split at hf
  · obtain ⟨v, rfl, hv⟩ := r.one
    obtain ⟨a, ws, rfl, hs, rs⟩ := hv.list e
    cases hf
    exact ⟨_, _, rfl, .inl ⟨ws, hs, rs.length.symm⟩, q.dat _ _ rfl (.int _)⟩
  · obtain ⟨v, rfl, hv⟩ := r.one
    obtain ⟨a, ws, rfl, hs, rs, _⟩ := hv.tup e
    cases hf
    exact ⟨_, _, rfl, .inr ⟨ws, hs, rs.length.symm⟩, q.dat _ _ rfl (.int _)⟩
  · obtain ⟨v, rfl, hv⟩ := r.one
    obtain rfl := hv.str
    split at hf
    · rename_i hz
      cases hf
      exact ⟨_, _, rfl, ⟨hz, rfl⟩, q.dat _ _ rfl (.int _)⟩
    · cases hf
  · cases hf
theorem opn_int : OpN Z (fun xs H Q => (∃ i, xs = [.int i] ∧ Q (.int i) H) ∨ ∃ k, xs = [.bl k] ∧ Q (.int (if k then 1 else 0)) H) intD := by
  intro F H vs ds ow Q e r hf q
  unfold intD at hf
  split at hf
  · obtain ⟨v, rfl, hv⟩ := r.one
    obtain rfl := hv.int
    cases hf
    exact .inl ⟨_, rfl, q.dat _ _ rfl (.int _)⟩
  · obtain ⟨v, rfl, hv⟩ := r.one
    obtain rfl := hv.bool
    cases hf
    exact .inr ⟨_, rfl, q.dat _ _ rfl (.int _)⟩
  · cases hf
theorem opn_abs : OpN Z (fun xs H Q => ∃ i, xs = [.int i] ∧ Q (.int (if i < 0 then -i else i)) H) absD := by
  intro F H vs ds ow Q e r hf q
  unfold absD at hf
  split at hf
  · obtain ⟨v, rfl, hv⟩ := r.one
    obtain rfl := hv.int
    cases hf
    exact ⟨_, rfl, q.dat _ _ rfl (.int _)⟩
  · cases hf
theorem opn_min : OpN Z (fun xs H Q => ∃ i j, xs = [.int i, .int j] ∧ Q (.int (if j < i then j else i)) H) minD := by
  intro F H vs ds ow Q e r hf q
  unfold minD at hf
  split at hf
  · obtain ⟨v, w, rfl, hv, hw⟩ := r.two
    obtain rfl := hv.int
    obtain rfl := hw.int
    cases hf
    exact ⟨_, _, rfl, q.dat _ _ rfl (.int _)⟩
  · cases hf
theorem opn_max : OpN Z (fun xs H Q => ∃ i j, xs = [.int i, .int j] ∧ Q (.int (if j > i then j else i)) H) maxD := by
  intro F H vs ds ow Q e r hf q
  unfold maxD at hf
  split at hf
  · obtain ⟨v, w, rfl, hv, hw⟩ := r.two
    obtain rfl := hv.int
    obtain rfl := hw.int
    cases hf
    exact ⟨_, _, rfl, q.dat _ _ rfl (.int _)⟩
  · cases hf
theorem opn_ord : OpN Z (fun xs H Q => ∃ x, xs = [.str x] ∧ x.length = 1 ∧ Q (.int (x.cps.getD 0 0 : Nat)) H) ordD := by
  intro F H vs ds ow Q e r hf q
  unfold ordD at hf
  split at hf
  · obtain ⟨v, rfl, hv⟩ := r.one
    obtain rfl := hv.str
    split at hf
    · rename_i hz
      cases hf
      exact ⟨_, rfl, hz, q.dat _ _ rfl (.int _)⟩
    · cases hf
  · cases hf
theorem opn_tuple : OpN Z (fun xs H Q => ∃ p ys, xs = [.ref p] ∧ ((SqL Z.K H p ys ∧ ∀ l, H l = none → Q (.ref l) (upd H l (.tup ys))) ∨ (SqT Z.K H p ys ∧ Q (.ref p) H))) tupleD := by
  intro F H vs ds ow Q e r hf q
  unfold tupleD at hf
  split at hf
  · obtain ⟨v, rfl, hv⟩ := r.one
    obtain ⟨a, ws, rfl, hs, rs⟩ := hv.list e
    cases hf
    exact ⟨a, ws, rfl, .inl ⟨hs, fun l hl => q.tup _ l _ rfl hl rs⟩⟩
  · obtain ⟨v, rfl, hv⟩ := r.one
    obtain ⟨a, ws, rfl, hs, rs, g⟩ := hv.tup e
    cases hf
    exact ⟨a, ws, rfl, .inr ⟨hs, q.dat _ _ rfl g⟩⟩
  · cases hf
theorem opn_list : OpN Z (fun xs H Q => ∃ p ys, xs = [.ref p] ∧ (SqL Z.K H p ys ∨ SqT Z.K H p ys) ∧ ∀ l, H l = none → Q (.ref l) (upd H l (.lst ys))) listD := by
  intro F H vs ds ow Q e r hf q
  unfold listD at hf
  split at hf
  · obtain ⟨v, rfl, hv⟩ := r.one
    obtain ⟨a, ws, rfl, hs, rs⟩ := hv.list e
    cases hf
    exact ⟨a, ws, rfl, .inl hs, fun l hl => q.lst _ l _ rfl hl rs⟩
  · obtain ⟨v, rfl, hv⟩ := r.one
    obtain ⟨a, ws, rfl, hs, rs, g⟩ := hv.tup e
    cases hf
    exact ⟨a, ws, rfl, .inr hs, fun l hl => q.lst _ l _ rfl hl rs⟩
  · cases hf
theorem bools_of {K : PySem.W.Frag} {F : Hp} : ∀ {vs : List V} {ds : List D} {bs : List Bool}, RpAll K F vs ds → boolsOf ds = some bs → vs = bs.map V.bl
  | _, [], bs, .nil, h => by
    cases h
    rfl
  | _, d :: ds, bs, .cons r t, h => by
    cases r <;> first | (cases h; done) | skip
    rename_i b
    have h : (boolsOf ds).map (b :: ·) = some bs := h
    cases e : boolsOf ds with
    | none => rw [e] at h; cases h
    | some cs =>
      rw [e] at h
      cases h
      rw [bools_of t e]
      rfl
theorem opn_any : OpN Z (rAny Z.K) anyD := by
  intro F H vs ds ow Q e r hf q
  unfold anyD at hf
  split at hf
  · rename_i xs
    obtain ⟨v, rfl, hv⟩ := r.one
    obtain ⟨a, ws, rfl, hs, rs⟩ := hv.list e
    cases eb : boolsOf xs with
    | none => rw [eb] at hf; cases hf
    | some bs =>
      rw [eb] at hf
      cases hf
      rw [bools_of rs eb] at hs
      exact ⟨a, bs, rfl, hs, q.dat _ _ rfl (.bl _)⟩
  · cases hf
theorem opn_all : OpN Z (rAll Z.K) allD := by
  intro F H vs ds ow Q e r hf q
  unfold allD at hf
  split at hf
  · rename_i xs
    obtain ⟨v, rfl, hv⟩ := r.one
    obtain ⟨a, ws, rfl, hs, rs⟩ := hv.list e
    cases eb : boolsOf xs with
    | none => rw [eb] at hf; cases hf
    | some bs =>
      rw [eb] at hf
      cases hf
      rw [bools_of rs eb] at hs
      exact ⟨a, bs, rfl, hs, q.dat _ _ rfl (.bl _)⟩
  · cases hf
end

/-! ### walks -/
/-- a walk over the trees ds that stand in F -/
def Wk (K : PySem.W.Frag) (F : Hp) (J : It) (ds : List D) : Prop := Walk J ds.length (fun H => Same F H) fun i H x H' => H' = H ∧ ∃ d, ds[i]? = some d ∧ Rp K F x d
def WpI (C : Cc) (σ : List (Option V)) (H : Hp) (A T : List Addr) (o : Ro (List D)) (R : It → Hp → Prop) : Prop := match o with
  | .ok ds Γ => ∀ J H' A', Ste C.Z σ H' Γ A' T → Stp A H A' H' → Wk C.Z.K (out (A' ++ T) H') J ds → R J H'
  | .exn x Γ => ∀ cls d H', XPst C σ H A T Γ x cls d H' → C.W cls d σ H'
  | .bad => False
def tI (C : Cc) (ev : Env → Ro (List D)) : TI := fun σ H R => ∃ Γ A T, Ste C.Z σ H Γ A T ∧ WpI C σ H A T (ev Γ) R
/-- a list, a tuple, a text -/
def iAny (K : PySem.W.Frag) (tl : TE) : TI := fun σ H R => tl σ H fun x H1 => (∃ a xs, x = .ref a ∧ SqL K H1 a xs ∧ R (Itl K a) H1) ∨ (∃ a xs, x = .ref a ∧ SqT K H1 a xs ∧ R (Itt K a) H1) ∨ ∃ z, x = .str z ∧ R (Its z) H1
theorem pi_any {X : Cx} {tg l : Expr} {tl : TE} (hl : PE X l tl) : PI X tg l (iAny X.K tl) := by
  refine ⟨fun pins s σ H R I h => thn (hl.run pins s σ H _ I h) fun v s1 ⟨x, H1, I1, r1, q1⟩ => ?_⟩
  have new : ∀ b : Addr, b = s1.heap.objs.size → FpOk X pins H1 b := fun b e => by
    rw [e]
    exact I1.fpOk (Nat.le_refl _) (I1.hok.fresh (Nat.le_refl _))
  rcases q1 with ⟨a, xs, rfl, hq, q⟩ | ⟨a, xs, rfl, hq, q⟩ | ⟨z, rfl, q⟩
  · cases r1
    obtain ⟨its, rv, p, _⟩ := I1.list hq
    exact wpAny_pyIter_list p.isList ⟨s1.heap.objs.size, [s1.heap.objs.size], _, _, H1, rfl, I1.kept (t' := s1.toks) fun b o e => Heap.get?_push_of_some _ e, turn_list a _, ⟨_, Heap.get?_push_size _ rfl, rfl, rfl⟩, fun b hb => new b (by simpa using hb), q⟩
  · cases r1
    obtain ⟨its, rv, p, _⟩ := I1.tuple hq
    exact wpAny_pyIter_tuple (show s1.heap.IsTuple a its.toArray from p) ⟨s1.heap.objs.size, [s1.heap.objs.size], _, _, H1, rfl, I1.kept (t' := s1.toks) fun b o e => Heap.get?_push_of_some _ e, turn_tuple a _, ⟨_, Heap.get?_push_size _ rfl, rfl, rfl⟩, fun b hb => new b (by simpa using hb), q⟩
  · obtain ⟨t, rfl⟩ := r1
    by_cases ha : z.cps.all (· < 128) = true
    · exact wpAny_pyIter_ascii ha (pi_one (tk := s1.toks) I1 _ (turn_str _ z t "str_ascii_iterator" (.inl rfl)) ⟨_, Heap.get?_push_size _ rfl, rfl, rfl⟩ q)
    · exact wpAny_pyIter_wide (Bool.eq_false_iff.mpr ha) (pi_one (tk := s1.toks) I1 _ (turn_str _ z t "str_iterator" (.inr rfl)) ⟨_, Heap.get?_push_size _ rfl, rfl, rfl⟩ q)
section
variable {K : PySem.W.Frag} {F : Hp} {a : Addr} {vs : List V} {ds : List D}
theorem wk_list (h : SqL K F a vs) (r : RpAll K F vs ds) : Wk K F (Itl K a) ds := by
  unfold Wk
  rw [← r.length]
  exact (walk_list (K := K) (a := a) (xs := vs)).mono (fun H e => e.seq h) fun i H x H' _ _ y => ⟨y.1, r.get' y.2⟩
theorem wk_tup (h : SqT K F a vs) (r : RpAll K F vs ds) : Wk K F (Itt K a) ds := by
  unfold Wk
  rw [← r.length]
  exact (walk_tup (K := K) (a := a) (xs := vs)).mono (fun H e => sq_le e h) fun i H x H' _ _ y => ⟨y.1, r.get' y.2⟩
theorem wk_str {z : Str} : Wk K F (Its z) (z.cps.toList.map chr1) := by
  unfold Wk
  have e : (z.cps.toList.map chr1).length = z.cps.size := by simp
  rw [e]
  refine (walk_str (z := z)).mono (fun H _ => trivial) fun i H x H' _ _ y => ?_
  obtain ⟨y1, c, hc, rfl⟩ := y
  refine ⟨y1, chr1 c, ?_, .str _⟩
  rw [List.getElem?_map]
  have hc' : z.cps.toList[i]? = some c := by simpa using hc
  rw [hc']
  rfl
theorem wk_range {lo : Int} {n : Nat} : Wk K F (Itr lo n) (rangeD lo n) := by
  unfold Wk rangeD
  have e : ((List.range n).map fun (i : Nat) => PyData.int (lo + (i : Int))).length = n := by simp
  rw [e]
  refine (walk_range (lo := lo) (n := n)).mono (fun H _ => trivial) fun i H x H' hi _ y => ?_
  obtain ⟨y1, rfl⟩ := y
  refine ⟨y1, .int (lo + (i : Int)), ?_, .int _⟩
  rw [List.getElem?_map, List.getElem?_range hi]
  rfl
end
section
variable {C : Cc} {σ : List (Option V)} {H : Hp} {ea eb : Env → Ro R} {R' : It → Hp → Prop}
/-- an expression taken as a tree, then a walk -/
theorem tI_e (h : tI C (fun Γ => (ea Γ).bind fun r Γ => (asD r Γ).bind fun d Γ => ofO (itemsD d) Γ) σ H R') : iAny C.Z.K (tE C ea) σ H R' := by
  obtain ⟨Γ, A, T, s, w⟩ := h
  have w : WpI C σ H A T ((ea Γ).bind fun r Γ => (asD r Γ).bind fun d Γ => ofO (itemsD d) Γ) R' := w
  refine ⟨Γ, A, T, s, ?_⟩
  cases e : ea Γ with
  | bad => rw [e] at w; exact w
  | exn x Γ' => rw [e] at w; exact w
  | ok r Γ1 =>
    rw [e] at w
    intro v H1 p
    obtain ⟨A1, B1, s1, r1, st1⟩ := p
    have w : WpI C σ H A T ((asD r Γ1).bind fun d Γ => ofO (itemsD d) Γ) R' := w
    cases e2 : asD r Γ1 with
    | bad => rw [e2] at w; exact w.elim
    | exn x Γ' => exact absurd e2 asD_no
    | ok d Γ2 =>
      rw [e2] at w
      have w : WpI C σ H A T (ofO (itemsD d) Γ2) R' := w
      obtain ⟨A2, s2, rp, sub⟩ := asD_ok s1.drop (r1.rdy s1.nd fun b q => q) e2
      have st2 : Stp A H A2 H1 := st1.sub fun a ha => List.mem_append_left _ (sub a ha)
      cases d <;> first | exact w.elim | skip
      · cases rp
        exact .inr (.inr ⟨_, rfl, w _ H1 A2 s2 st2 wk_str⟩)
      · cases rp with
        | lst hs rs => exact .inl ⟨_, _, rfl, out_le.seq hs, w _ H1 A2 s2 st2 (wk_list hs rs)⟩
      · cases rp with
        | tup hs rs => exact .inr (.inl ⟨_, _, rfl, sq_le out_le hs, w _ H1 A2 s2 st2 (wk_tup hs rs)⟩)
theorem big62_ok {i : Int} (h : big62 i = true) : -(2 ^ 62) ≤ i ∧ i < 2 ^ 62 := by
  unfold big62 at h
  by_cases hc : -(2 ^ 62) ≤ i ∧ i < 2 ^ 62
  · exact hc
  · rw [askd_f hc] at h
    cases h
theorem big62_of {i : Int} (h : -4611686018427387904 ≤ i) (h2 : i < 4611686018427387904) : big62 i = true := askd_t ⟨h, h2⟩
theorem tI_rng (h : tI C (fun Γ => (ea Γ).bind fun x Γ => match view Γ x with
    | some (.int j) => if big62 j then .ok (rangeD 0 j.toNat) Γ else .bad
    | _ => .bad) σ H R') : iRng1 (tCons (tE C ea) tNil) σ H R' := by
  obtain ⟨Γ, A, T, s, w⟩ := h
  have w : WpI C σ H A T ((ea Γ).bind fun x Γ => match view Γ x with
    | some (.int j) => if big62 j then .ok (rangeD 0 j.toNat) Γ else .bad
    | _ => .bad) R' := w
  refine ⟨Γ, A, T, s, ?_⟩
  cases e : ea Γ with
  | bad => rw [e] at w; exact w
  | exn x Γ' => rw [e] at w; exact w
  | ok r Γ1 =>
    rw [e] at w
    intro v H1 p
    obtain ⟨A1, B1, s1, r1, st1⟩ := p
    have w : WpI C σ H A T (match view Γ1 r with
      | some (.int j) => if big62 j then .ok (rangeD 0 j.toNat) Γ1 else .bad
      | _ => .bad) R' := w
    split at w
    · rename_i j hj
      split at w
      · rename_i hb
        obtain rfl := (r1.rv s1 hj).int
        exact ⟨j, rfl, (big62_ok hb).1, (big62_ok hb).2, w _ H1 A1 s1.drop (st1.sub fun a ha => List.mem_append_left _ ha) wk_range⟩
      · exact w.elim
    · exact w.elim
theorem tI_rng2 (h : tI C (fun Γ => (ea Γ).bind fun x Γ => (eb Γ).bind fun y Γ => match view Γ x, view Γ y with
    | some (.int i), some (.int j) => if big62 i && big62 j then .ok (rangeD i (j - i).toNat) Γ else .bad
    | _, _ => .bad) σ H R') : iRng2 (tCons (tE C ea) (tCons (tE C eb) tNil)) σ H R' := by
  obtain ⟨Γ, A, T, s, w⟩ := h
  have w : WpI C σ H A T ((ea Γ).bind fun x Γ => (eb Γ).bind fun y Γ => match view Γ x, view Γ y with
    | some (.int i), some (.int j) => if big62 i && big62 j then .ok (rangeD i (j - i).toNat) Γ else .bad
    | _, _ => .bad) R' := w
  refine ⟨Γ, A, T, s, ?_⟩
  cases e : ea Γ with
  | bad => rw [e] at w; exact w
  | exn x Γ' => rw [e] at w; exact w
  | ok r Γ1 =>
    rw [e] at w
    intro v H1 p
    obtain ⟨A1, B1, s1, r1, st1⟩ := p
    have w : WpI C σ H A T ((eb Γ1).bind fun y Γ => match view Γ r, view Γ y with
      | some (.int i), some (.int j) => if big62 i && big62 j then .ok (rangeD i (j - i).toNat) Γ else .bad
      | _, _ => .bad) R' := w
    refine ⟨Γ1, A1, B1 ++ T, s1, ?_⟩
    cases e2 : eb Γ1 with
    | bad => rw [e2] at w; exact w
    | exn y Γ' =>
      rw [e2] at w
      exact fun cls d H' p => w cls d H' (p.go st1)
    | ok y Γ2 =>
      rw [e2] at w
      intro v2 H2 p
      obtain ⟨A2, B2, s2, r2, st2⟩ := p
      have r1' := r1.later s1 st2
      rw [← List.append_assoc B2 B1 T] at s2 r2
      have st3 : Stp A H (A2 ++ (B2 ++ B1)) H2 := by
        rw [← List.append_assoc]
        exact st1.trans2 st2
      have w : WpI C σ H A T (match view Γ2 r, view Γ2 y with
        | some (.int i), some (.int j) => if big62 i && big62 j then .ok (rangeD i (j - i).toNat) Γ2 else .bad
        | _, _ => .bad) R' := w
      split at w
      · rename_i i j hi hj
        split at w
        · rename_i hb
          obtain ⟨b1, b2⟩ := Bool.and_eq_true_iff.mp hb
          obtain rfl := (r1'.rv s2 hi).int
          obtain rfl := (r2.rv s2 hj).int
          exact ⟨i, j, rfl, ⟨(big62_ok b1).1, (big62_ok b1).2, (big62_ok b2).1, (big62_ok b2).2⟩, w _ H2 A2 s2.drop (st3.sub fun a ha => List.mem_append_left _ ha) wk_range⟩
        · exact w.elim
      · exact w.elim
end
end Tv
end

section
set_option Elab.async false
set_option linter.all false
set_option maxRecDepth 100000
/-! TvS4: comprehensions. -/
namespace Tv
open PySem PySem.Spec PyProof.Rows L2

section
variable {C : Cc} {Z : Kz} {σ : List (Option V)} {H H' H1 H2 : Hp} {Γ : Env} {A A' A1 A2 B T X : List Addr}
theorem Stp.ext (h : Stp A H A' H') : Stp (A ++ X) H (A' ++ X) H' := by
  refine ⟨fun b o e => ?_, fun a ha => ?_⟩
  · obtain ⟨e1, e2⟩ := out_some.mp e
    exact h.keep (fun q => e1 (List.mem_append_left _ q)) e2
  · rcases List.mem_append.mp ha with q | q
    · exact (h.2 a q).imp (List.mem_append_left _) id
    · exact .inl (List.mem_append_right _ q)
theorem REnv.clear {F : Hp} : ∀ {σ : List (Option V)} {Γ : Env} {A : List Addr} {v : Nat}, REnv Z F H (σ.set v none) Γ A → REnv Z F H σ (Γ.set v none) A
  | [], Γ, A, v, h => by
    have h : REnv Z F H [] Γ A := h
    cases h
    exact .nil
  | x :: σ, Γ, A, 0, h => by
    have h : REnv Z F H (none :: σ) Γ A := h
    cases h with
    | no h => exact .no h
  | x :: σ, Γ, A, v + 1, h => by
    have h : REnv Z F H (x :: σ.set v none) Γ A := h
    cases h with
    | no t => exact .no (REnv.clear (σ := σ) (v := v) t)
    | yes r t => exact .yes r (REnv.clear (σ := σ) (v := v) t)
theorem coverable_dat {v : Nat} (h : coverable Γ v = true) : ∀ ow, Γ[v]? = some (some ow) → ∃ d, ow = .dat d := by
  intro ow e
  unfold coverable at h
  rw [e] at h
  cases ow with
  | dat d => exact ⟨d, rfl⟩
  | _ => cases h
theorem coverable_lt {v : Nat} (h : coverable Γ v = true) : v < Γ.length := by
  unfold coverable at h
  by_cases hv : v < Γ.length
  · exact hv
  · rw [List.getElem?_eq_none (by omega)] at h
    cases h
theorem Ste.wipe (s : Ste Z σ H Γ A T) {v : Nat} (h : coverable Γ v = true) : Ste Z (σ.set v none) H (Γ.set v none) A T := ⟨s.env.wipe1 (coverable_dat h), s.nd, s.tr⟩
/-- what stands still in a slot is laid there -/
theorem Ste.layD (s : Ste Z σ H Γ A T) {v : Nat} {x : V} {d : D} (hv : v < Γ.length) (r : Rp Z.K (out (A ++ T) H) x d) : ∃ A', Ste Z (σ.set v (some x)) H (Γ.set v (some (.dat d))) A' T ∧ ∀ a ∈ A', a ∈ A := by
  obtain ⟨A', s', h⟩ := Ste.lay (B := []) s hv (.dat r)
  exact ⟨A', s', fun a ha => (h a ha).elim id fun q => by simp at q⟩
/-- the slot as it was ahead of the walk -/
theorem Ste.restore {Γ1 : Env} {v : Nat} (s1 : Ste Z σ H1 Γ1 A1 T) (c : coverable Γ1 v = true) (s : Ste Z (σ.set v none) H Γ A (B ++ T)) (e : Same (out (A1 ++ T) H1) (out (A ++ (B ++ T)) H)) :
    ∃ A', Ste Z σ H (Γ.set v (Γ1.getD v none)) A' (B ++ T) ∧ ∀ a ∈ A', a ∈ A := by
  have hv := coverable_lt c
  have hl : σ.length = Γ1.length := s1.env.length
  have hl2 : Γ.length = σ.length := by have := s.env.length; rw [List.length_set] at this; omega
  cases q : Γ1[v]? with
  | none =>
    rw [List.getElem?_eq_none_iff] at q
    omega
  | some o =>
    have eg : Γ1.getD v none = o := by
      rw [List.getD_eq_getElem?_getD, q]
      rfl
    rw [eg]
    cases o with
    | none => exact ⟨A, ⟨s.env.clear, s.nd, s.tr⟩, fun a ha => ha⟩
    | some ow =>
      obtain ⟨d, rfl⟩ := coverable_dat c ow q
      obtain ⟨x, B', P, S, h1, _, h3, _⟩ := s1.env.at q
      cases h3 with
      | dat r =>
        obtain ⟨A', s', sub⟩ := s.layD (v := v) (x := x) (d := d) (by omega) (r.mono e)
        have es : (σ.set v none).set v (some x) = σ := by
          rw [List.set_set]
          apply List.ext_getElem?
          intro j
          by_cases hj : v = j
          · subst hj
            rw [List.getElem?_set_self (by omega), h1]
          · rw [List.getElem?_set_ne hj]
        rw [es] at s'
        exact ⟨A', s', sub⟩
/-- a thing that is laid aside is written -/
theorem Ste.writeT (s : Ste Z σ H Γ A T) {D : Addr} {o : HO} (hD : D ∈ T) : Ste Z σ (upd H D o) Γ A T ∧ out (A ++ T) (upd H D o) = out (A ++ T) H := by
  have eF : out (A ++ T) (upd H D o) = out (A ++ T) H := by
    funext b
    unfold out
    by_cases hb : b ∈ A ++ T
    · rw [if_pos hb, if_pos hb]
    · rw [if_neg hb, if_neg hb, upd_ne]
      intro q
      rw [q] at hb
      exact hb (List.mem_append_right _ hD)
  refine ⟨⟨?_, s.nd, fun t ht => ?_⟩, eF⟩
  · rw [eF]
    exact s.env.mono (fun _ _ h => h) fun a ha => upd_ne fun q => by
      rw [q] at ha
      exact (List.nodup_append.mp s.nd).2.2 D ha D hD rfl
  · by_cases q : t = D
    · rw [q, upd_same]
      simp
    · rw [upd_ne q]
      exact s.tr t ht
end
/-- nothing may leave -/
abbrev Cc.shut (C : Cc) : Cc := { C with W := fun _ _ _ _ => False }
section
variable {C : Cc} {σ : List (Option V)} {H : Hp} {Q : VK} {ei : Env → Ro (List D)} {et : Env → Ro Bool} {ee : Env → Ro R} {v : Nat}
theorem tE_lc (h : tE C (fun Γ => (ei Γ).bind fun ds Γ => if coverable Γ v ∧ ds.length < sizeLine then match lcL v et ee ds (Γ.set v none) with
      | .ok ys Γ' => .ok (.fre (.lst ys)) (Γ'.set v (Γ.getD v none))
      | _ => .bad
    else .bad) σ H Q) : tLc (tI C ei) (gName v) (tT C.shut et) (tE C.shut ee) [v] σ H Q := by
  obtain ⟨Γ, A, T, s, w⟩ := h
  have w : Wp C σ H A T ((ei Γ).bind fun ds Γ => if coverable Γ v ∧ ds.length < sizeLine then match lcL v et ee ds (Γ.set v none) with
      | .ok ys Γ' => .ok (.fre (.lst ys)) (Γ'.set v (Γ.getD v none))
      | _ => .bad
    else .bad) Q := w
  refine ⟨Γ, A, T, s, ?_⟩
  cases e : ei Γ with
  | bad => rw [e] at w; exact w
  | exn x Γ' => rw [e] at w; exact w
  | ok ds Γ1 =>
    rw [e] at w
    have w : Wp C σ H A T (if coverable Γ1 v ∧ ds.length < sizeLine then match lcL v et ee ds (Γ1.set v none) with
      | .ok ys Γ' => .ok (.fre (.lst ys)) (Γ'.set v (Γ1.getD v none))
      | _ => .bad
    else .bad) Q := w
    intro J H1 A1 s1 st1 wk D hD
    split at w
    case isFalse => exact w.elim
    rename_i hc
    obtain ⟨hc, hz⟩ := hc
    cases el : lcL v et ee ds (Γ1.set v none) with
    | bad => rw [el] at w; exact w.elim
    | exn x Γ' => rw [el] at w; exact w.elim
    | ok ys Γe =>
      rw [el] at w
      have fD : D ∉ A1 ++ T := s1.fresh hD
      have stD : Stp A1 H1 (A1 ++ [D]) (upd H1 D (.lst [])) := ⟨(Stp.new hD).1, fun a ha => by
        rcases List.mem_append.mp ha with q | q
        · exact .inl q
        · simp at q
          subst q
          exact .inr hD⟩
      have exF : ∀ {Ai : List Addr} {H' : Hp}, Stp A1 H1 (Ai ++ [D]) H' → Same (out (A1 ++ T) H1) (out (Ai ++ (D :: T)) H') := fun {Ai H'} st => by
        have q := st.exF (T := T)
        rw [List.append_assoc] at q
        exact q
      refine lc_it wk (fun i H' => ∃ Γi Ai accV acc rest, Ste C.Z (σ.set v none) H' Γi Ai (D :: T) ∧ Stp A1 H1 (Ai ++ [D]) H' ∧ H' D = some (.lst accV) ∧ RpAll C.Z.K (out (Ai ++ (D :: T)) H') accV acc ∧ acc.length ≤ i ∧
        lcL v et ee (ds.drop i) Γi = .ok rest Γe ∧ ys = acc ++ rest) ?h0 ?hG ?hs ?hd
      case h0 =>
        have np : D ∉ A1 ∧ D ∉ T := ⟨fun q => fD (List.mem_append_left _ q), fun q => fD (List.mem_append_right _ q)⟩
        refine ⟨_, A1, [], [], ys, ⟨(s1.env.mono ?_ fun a ha => upd_ne fun q => np.1 (by rw [← q]; exact ha)).wipe1 (coverable_dat hc), ?_, fun t ht => ?_⟩, stD, upd_same, .nil, Nat.zero_le _, el, rfl⟩
        · intro b o q
          obtain ⟨q1, q2⟩ := out_some.mp q
          have nb := ne_of_none q2 hD
          refine out_some.mpr ⟨fun z => ?_, by rw [upd_ne nb]; exact q2⟩
          simp only [List.mem_append, List.mem_cons] at z q1
          grind
        · have nd := s1.nd
          simp only [List.nodup_append, List.nodup_cons, List.mem_cons] at nd ⊢
          grind
        · rcases List.mem_cons.mp ht with q | q
          · rw [q, upd_same]
            simp
          · rw [upd_ne fun z => np.2 (by rw [← z]; exact q)]
            exact s1.tr t q
      case hG =>
        rintro i H' _ ⟨Γi, Ai, accV, acc, rest, si, sti, _⟩
        exact fun b o q => out_le _ _ (exF sti b o q)
      case hs =>
        rintro i x H' H'' hi ⟨Γi, Ai, accV, acc, rest, si, sti, hDi, ra, hl, eqi, ey⟩ ⟨eH, d, hd, rd⟩
        rw [eH]
        have hdrop : ds.drop i = d :: ds.drop (i + 1) := by
          obtain ⟨h1, h2⟩ := List.getElem?_eq_some_iff.mp hd
          rw [List.drop_eq_getElem_cons h1, h2]
        rw [hdrop] at eqi
        unfold lcL at eqi
        have hlen : v < Γi.length := by
          have q := si.env.length
          have q1 := s1.env.length
          have q2 := coverable_lt hc
          rw [List.length_set] at q
          omega
        obtain ⟨A2, s2, sub2⟩ := si.layD hlen (rd.mono (exF sti))
        have e2 : (σ.set v none).set v (some x) = σ.set v (some x) := List.set_set ..
        rw [e2] at s2
        show wipe (σ.set v none |>.set v (some x)) [v] = wipe σ [v] ∧ tT C.shut et ((σ.set v none).set v (some x)) H' _
        rw [e2]
        refine ⟨List.set_set .., ?_⟩
        have st2 : Stp A1 H1 (A2 ++ [D]) H' := sti.sub fun a ha => (List.mem_append.mp ha).elim (fun q => List.mem_append_left _ (sub2 a q)) fun q => List.mem_append_right _ q
        refine ⟨_, A2, D :: T, s2, ?_⟩
        cases et1 : et (Γi.set v (some (.dat d))) with
        | bad => rw [et1] at eqi; cases eqi
        | exn x Γ' => rw [et1] at eqi; cases eqi
        | ok b Γa =>
          rw [et1] at eqi
          intro H3 A3 s3 st3
          have st3' : Stp A1 H1 (A3 ++ [D]) H3 := st2.trans st3.ext
          have D3 : H3 D = some (.lst accV) := (st3.keepT s2.nd s2.tr D (by simp)).trans hDi
          have ra3 : RpAll C.Z.K (out (A3 ++ (D :: T)) H3) accV acc := (ra.mono (shrink sub2)).mono st3.exF
          cases b with
          | false =>
            have eqi : (if coverable Γa v then lcL v et ee (ds.drop (i + 1)) (Γa.set v none) else .bad) = .ok rest Γe := eqi
            split at eqi
            · rename_i cv
              rw [if_neg (by decide)]
              have s4 := s3.wipe cv
              rw [List.set_set] at s4
              exact ⟨_, A3, accV, acc, rest, s4, st3', D3, ra3, by omega, eqi, ey⟩
            · cases eqi
          | true =>
            rw [if_pos rfl]
            have eqi : (match ee Γa with
              | .ok r Γ => match asD r Γ with
                | .ok y Γ => if coverable Γ v then (match lcL v et ee (ds.drop (i + 1)) (Γ.set v none) with
                  | .ok ys Γ => .ok (y :: ys) Γ
                  | _ => .bad) else .bad
                | _ => .bad
              | _ => .bad) = Ro.ok rest Γe := eqi
            show tE C.shut ee ((σ.set v none).set v (some x)) H3 _
            rw [e2]
            refine ⟨Γa, A3, D :: T, s3, ?_⟩
            cases ee1 : ee Γa with
            | bad => rw [ee1] at eqi; cases eqi
            | exn x Γ' => rw [ee1] at eqi; cases eqi
            | ok r Γb =>
              rw [ee1] at eqi
              have eqi : (match asD r Γb with
                | .ok y Γ => if coverable Γ v then (match lcL v et ee (ds.drop (i + 1)) (Γ.set v none) with
                  | .ok ys Γ => .ok (y :: ys) Γ
                  | _ => .bad) else .bad
                | _ => .bad) = Ro.ok rest Γe := eqi
              intro y H4 p
              obtain ⟨A4, B4, s4, r4, st4⟩ := p
              cases ed : asD r Γb with
              | bad => rw [ed] at eqi; cases eqi
              | exn x Γ' => exact absurd ed asD_no
              | ok yd Γc =>
                rw [ed] at eqi
                have eqi : (if coverable Γc v then (match lcL v et ee (ds.drop (i + 1)) (Γc.set v none) with
                  | .ok ys Γ => .ok (yd :: ys) Γ
                  | _ => .bad) else .bad) = Ro.ok rest Γe := eqi
                obtain ⟨A5, s5, rp5, sub5⟩ := asD_ok s4.drop (r4.rdy s4.nd fun b q => q) ed
                have st5 : Stp A3 H3 A5 H4 := st4.sub fun a ha => List.mem_append_left _ (sub5 a ha)
                have D4 : H4 D = some (.lst accV) := (st5.keepT s3.nd s3.tr D (by simp)).trans D3
                have ra5 : RpAll C.Z.K (out (A5 ++ (D :: T)) H4) accV acc := ra3.mono st5.exF
                split at eqi
                case isFalse => cases eqi
                rename_i cv
                cases er : lcL v et ee (ds.drop (i + 1)) (Γc.set v none) with
                | bad => rw [er] at eqi; cases eqi
                | exn x Γ' => rw [er] at eqi; cases eqi
                | ok rest' Γe' =>
                  rw [er] at eqi
                  cases eqi
                  have s6 := s5.wipe cv
                  rw [List.set_set] at s6
                  have s7 := s6.writeT (D := D) (o := .lst (accV ++ [y])) (by simp)
                  have hzz : accV.length < sizeLine := by
                    rw [ra.length]
                    have q := wk
                    omega
                  refine ⟨accV, D4, hzz, _, A5, accV ++ [y], acc ++ [yd], rest', s7.1, ?_, upd_same, ?_, ?_, er, ?_⟩
                  · refine (st3'.trans st5.ext).trans ⟨fun b o q => ?_, fun a ha => .inl ha⟩
                    obtain ⟨q1, q2⟩ := out_some.mp q
                    rw [upd_ne fun z => q1 (by rw [z]; simp)]
                    exact q2
                  · rw [s7.2]
                    exact ra5.append (.cons rp5 .nil)
                  · rw [List.length_append]
                    show acc.length + 1 ≤ i + 1
                    omega
                  · rw [ey, List.append_assoc]
                    rfl
      case hd =>
        rintro H' ⟨Γi, Ai, accV, acc, rest, si, sti, hDi, ra, hl, eqi, ey⟩
        rw [List.drop_length] at eqi
        have eqi : Ro.ok [] Γi = .ok rest Γe := eqi
        cases eqi
        rw [List.append_nil] at ey
        subst ey
        obtain ⟨A', s', sub⟩ := Ste.restore (B := [D]) s1 hc si (exF sti)
        have st2 : Stp A H (A' ++ [D]) H' := by
          refine (st1.trans sti).sub fun a ha => ?_
          rcases List.mem_append.mp ha with q | q
          · exact List.mem_append_left _ (sub a q)
          · exact List.mem_append_right _ q
        refine w (.ref D) H' ⟨A', [D], s', .lst hDi (ra.mono (out_sub fun a ha => ?_)), st2⟩
        simp only [List.mem_append, List.mem_cons, List.not_mem_nil, or_false] at ha ⊢
        rcases ha with q | q | q
        · exact .inl (sub a q)
        · exact .inr (.inl q)
        · exact .inr (.inr q)
end
end Tv
end

section
set_option Elab.async false
set_option linter.all false
set_option maxRecDepth 100000
/-! TvS5: statements. -/
namespace Tv
open PySem PySem.Spec PyProof.Rows L2

def WpS (C : Cc) (H : Hp) (A T : List Addr) (o : So) (Dn : Ends) : Prop := match o with
  | .next Γ => ∀ σ' H' A', Ste C.Z σ' H' Γ A' T → Stp A H A' H' → Dn.nx σ' H'
  | .brk Γ => ∀ σ' H' A', Ste C.Z σ' H' Γ A' T → Stp A H A' H' → Dn.bk σ' H'
  | .cnt Γ => ∀ σ' H' A', Ste C.Z σ' H' Γ A' T → Stp A H A' H' → Dn.ct σ' H'
  | .ret ow Γ => ∀ v σ' H' A' B, Ste C.Z σ' H' Γ A' (B ++ T) → ROw C.Z (out (A' ++ (B ++ T)) H') H' v ow B → Stp A H (A' ++ B) H' → Dn.rt v H'
  | .exn x Γ => ∀ cls d σ' H', XPst C σ' H A T Γ x cls d H' → C.W cls d σ' H'
  | .bad => False
def tS (C : Cc) (ev : Env → So) : TS := fun Dn σ H => ∃ Γ A T, Ste C.Z σ H Γ A T ∧ WpS C H A T (ev Γ) Dn
section
variable {C : Cc} {σ : List (Option V)} {H H0 H1 : Hp} {Γ Γ1 : Env} {A A0 A1 B T : List Addr} {Dn : Ends} {ea : Env → Ro R} {es eb : Env → So} {et : Env → Ro Bool}
theorem WpS.back {o : So} (st : Stp A0 H0 A1 H1) (w : WpS C H0 A0 T o Dn) : WpS C H1 A1 T o Dn := by
  cases o with
  | next Γ => exact fun σ' H' A' s q => w σ' H' A' s (st.trans q)
  | brk Γ => exact fun σ' H' A' s q => w σ' H' A' s (st.trans q)
  | cnt Γ => exact fun σ' H' A' s q => w σ' H' A' s (st.trans q)
  | ret ow Γ => exact fun v σ' H' A' B s r q => w v σ' H' A' B s r (st.trans q)
  | exn x Γ => exact fun cls d σ' H' p => w cls d σ' H' (p.go0 st)
  | bad => exact w
/-- from where something ended -/
theorem tS_then (s : Ste C.Z σ H1 Γ1 A1 T) (st : Stp A0 H0 A1 H1) (w : WpS C H0 A0 T (es Γ1) Dn) : tS C es Dn σ H1 := ⟨Γ1, A1, T, s, w.back st⟩
theorem tS_seq (h : tS C (fun Γ => (es Γ).seq eb) Dn σ H) : tSeq (tS C es) (tS C eb) Dn σ H := by
  obtain ⟨Γ, A, T, s, w⟩ := h
  have w : WpS C H A T ((es Γ).seq eb) Dn := w
  refine ⟨Γ, A, T, s, ?_⟩
  cases e : es Γ with
  | next Γ1 =>
    rw [e] at w
    exact fun σ' H' A' s' st => tS_then s' st w
  | brk Γ1 => rw [e] at w; exact w
  | cnt Γ1 => rw [e] at w; exact w
  | ret ow Γ1 => rw [e] at w; exact w
  | exn x Γ1 => rw [e] at w; exact w
  | bad => rw [e] at w; exact w
theorem tS_nil (h : tS C (fun Γ => .next Γ) Dn σ H) : tNext Dn σ H := by
  obtain ⟨Γ, A, T, s, w⟩ := h
  exact w σ H A s Stp.refl
theorem tS_brk (h : tS C (fun Γ => .brk Γ) Dn σ H) : tBreak Dn σ H := by
  obtain ⟨Γ, A, T, s, w⟩ := h
  exact w σ H A s Stp.refl
theorem tS_cnt (h : tS C (fun Γ => .cnt Γ) Dn σ H) : tCont Dn σ H := by
  obtain ⟨Γ, A, T, s, w⟩ := h
  exact w σ H A s Stp.refl
theorem tS_retN (h : tS C (fun Γ => .ret (.dat .none) Γ) Dn σ H) : tRetN Dn σ H := by
  obtain ⟨Γ, A, T, s, w⟩ := h
  exact w .non σ H A [] s (.dat .non) (by rw [List.append_nil]; exact Stp.refl)
/-- an expression, then what follows -/
theorem tS_one {k : R → Env → So} {r : V → Hp → Prop}
    (hk : ∀ {Γ2 A T H0 A0 B H2 v x}, Ste C.Z σ H2 Γ2 A (B ++ T) → RR C.Z (out (A ++ (B ++ T)) H2) H2 σ v x B → Stp A0 H0 (A ++ B) H2 → WpS C H0 A0 T (k x Γ2) Dn → r v H2)
    (h : tS C (fun Γ => (ea Γ).so k) Dn σ H) : tE C ea σ H r := by
  obtain ⟨Γ, A, T, s, w⟩ := h
  have w : WpS C H A T ((ea Γ).so k) Dn := w
  refine ⟨Γ, A, T, s, ?_⟩
  cases e : ea Γ with
  | bad => rw [e] at w; exact w
  | exn x Γ' =>
    rw [e] at w
    exact fun cls d H' p => w cls d σ H' p
  | ok x Γ' =>
    rw [e] at w
    intro v H' p
    obtain ⟨A', B, s', rr, st⟩ := p
    exact hk s' rr st w
/-- .. taken as a tree -/
theorem tS_tree {k : D → Env → So} {r : V → Hp → Prop}
    (hk : ∀ {Γ2 A T H0 A0 H2 v d}, Ste C.Z σ H2 Γ2 A T → Rp C.Z.K (out (A ++ T) H2) v d → Stp A0 H0 A H2 → WpS C H0 A0 T (k d Γ2) Dn → r v H2)
    {Γ2 : Env} {A T A0 B : List Addr} {H0 H2 : Hp} {v : V} {x : R} (s : Ste C.Z σ H2 Γ2 A (B ++ T)) (rr : RR C.Z (out (A ++ (B ++ T)) H2) H2 σ v x B) (st : Stp A0 H0 (A ++ B) H2) (w : WpS C H0 A0 T ((asD x Γ2).so k) Dn) : r v H2 := by
  cases e : asD x Γ2 with
  | bad => rw [e] at w; exact w.elim
  | exn y Γ' => exact absurd e asD_no
  | ok d Γ3 =>
    rw [e] at w
    obtain ⟨A', s', rp, sub⟩ := asD_ok s.drop (rr.rdy s.nd fun b q => q) e
    exact hk s' rp (st.sub fun a ha => List.mem_append_left _ (sub a ha)) w
theorem tS_expr (h : tS C (fun Γ => (ea Γ).so fun _ Γ => .next Γ) Dn σ H) : tDrop (tE C ea) Dn σ H :=
  tS_one (r := fun _ H1 => Dn.nx σ H1) (fun {Γ2 A T H0 A0 B H2 v x} s rr st w => by
    have w : ∀ σ' H' A', Ste C.Z σ' H' Γ2 A' T → Stp A0 H0 A' H' → Dn.nx σ' H' := w
    exact w σ H2 A s.drop (st.sub fun a ha => List.mem_append_left _ ha)) h
theorem tS_ret (h : tS C (fun Γ => (ea Γ).so fun r Γ => match r with
    | .fre ow => .ret ow Γ
    | r => (asD r Γ).so fun d Γ => .ret (.dat d) Γ) Dn σ H) : tRet (tE C ea) Dn σ H :=
  tS_one (r := fun v H1 => Dn.rt v H1) (fun {Γ2 A T H0 A0 B H2 v x} s rr st w => by
    cases x with
    | fre ow =>
      have w : ∀ v σ' H' A' B, Ste C.Z σ' H' Γ2 A' (B ++ T) → ROw C.Z (out (A' ++ (B ++ T)) H') H' v ow B → Stp A0 H0 (A' ++ B) H' → Dn.rt v H' := w
      exact w v σ H2 A B s rr st
    | var i =>
      refine tS_tree (r := fun v H1 => Dn.rt v H1) (fun {Γ2 A T H0 A0 H2 v d} s rp st w => ?_) s rr st w
      have w : ∀ v σ' H' A' B, Ste C.Z σ' H' Γ2 A' (B ++ T) → ROw C.Z (out (A' ++ (B ++ T)) H') H' v (.dat d) B → Stp A0 H0 (A' ++ B) H' → Dn.rt v H' := w
      exact w v σ H2 A [] s (.dat rp) (by rw [List.append_nil]; exact st)) h
theorem tS_ite (h : tS C (fun Γ => (et Γ).so fun k Γ => match k with
    | true => es Γ
    | false => eb Γ) Dn σ H) : tIfS (tT C et) (tS C es) (tS C eb) Dn σ H := by
  obtain ⟨Γ, A, T, s, w⟩ := h
  have w : WpS C H A T ((et Γ).so fun k Γ => match k with
    | true => es Γ
    | false => eb Γ) Dn := w
  refine ⟨Γ, A, T, s, ?_⟩
  cases e : et Γ with
  | bad => rw [e] at w; exact w
  | exn x Γ' =>
    rw [e] at w
    exact fun cls d H' p => w cls d σ H' p
  | ok b Γ' =>
    rw [e] at w
    intro H' A' s' st
    cases b with
    | true =>
      rw [if_pos rfl]
      exact tS_then s' st w
    | false =>
      rw [if_neg (by decide)]
      exact tS_then s' st w

/-! ### stores -/
theorem Ste.len (s : Ste C.Z σ H Γ A T) : σ.length = Γ.length := s.env.length
theorem tS_asg {i : Nat} (h : tS C (fun Γ => (ea Γ).so fun r Γ => match (Tg.one i), r with
    | .one i, .fre ow => if i < Γ.length then .next (Γ.set i (some ow)) else .bad
    | g, r => (asD r Γ).so fun d Γ => match setTg g d Γ with
      | some Γ => .next Γ
      | none => .bad) Dn σ H) : tAsg (tE C ea) (gName i) Dn σ H :=
  tS_one (r := fun v H1 => gName i v σ H1 Dn.nx) (fun {Γ2 A T H0 A0 B H2 v x} s rr st w => by
    cases x with
    | fre ow =>
      have w : WpS C H0 A0 T (if i < Γ2.length then .next (Γ2.set i (some ow)) else .bad) Dn := w
      split at w
      · rename_i hi
        obtain ⟨A', s', sub⟩ := s.lay hi rr
        have w : ∀ σ' H' A', Ste C.Z σ' H' (Γ2.set i (some ow)) A' T → Stp A0 H0 A' H' → Dn.nx σ' H' := w
        exact w _ H2 A' s' (st.sub fun a ha => List.mem_append.mpr (sub a ha))
      · exact w.elim
    | var j =>
      refine tS_tree (r := fun v H1 => Dn.nx (σ.set i (some v)) H1) (fun {Γ2 A T H0 A0 H2 v d} s rp st w => ?_) s rr st w
      have w : WpS C H0 A0 T (match (if i < Γ2.length then some (Γ2.set i (some (.dat d))) else none) with
        | some Γ => .next Γ
        | none => .bad) Dn := w
      split at w
      · rename_i Γ3 hg
        split at hg
        · rename_i hi
          cases hg
          obtain ⟨A', s', sub⟩ := s.layD hi rp
          have w : ∀ σ' H' A', Ste C.Z σ' H' (Γ2.set i (some (.dat d))) A' T → Stp A0 H0 A' H' → Dn.nx σ' H' := w
          exact w _ H2 A' s' (st.sub sub)
        · cases hg
      · exact w.elim) h
/-- the targets of a tuple, one after another -/
def gsNames : List Nat → TGs
  | [] => gNil
  | i :: is => gCons (gName i) (gsNames is)
def gTg (K : PySem.W.Frag) : Tg → TG
  | .one i => gName i
  | .many is => gTup K is.length (gsNames is)
theorem set_names {Q : L2.St → Hp → Prop} : ∀ {is : List Nat} {vs : List V} {ds : List D} {Γ : Env} {σ : List (Option V)} {A : List Addr}, Ste C.Z σ H Γ A T → RpAll C.Z.K (out (A ++ T) H) vs ds → ds.length = is.length → (∀ i ∈ is, i < Γ.length) →
    (∀ σ' A', Ste C.Z σ' H ((is.zip ds).foldl (fun Γ p => Γ.set p.1 (some (.dat p.2))) Γ) A' T → (∀ a ∈ A', a ∈ A) → Q σ' H) → gsNames is vs σ H Q
  | [], _, [], Γ, σ, A, s, .nil, _, _, q => ⟨rfl, q σ A s fun a ha => ha⟩
  | [], _, d :: ds, _, _, _, _, _, hl, _, _ => by cases hl
  | i :: is, _, [], _, _, _, _, _, hl, _, _ => by cases hl
  | i :: is, _, d :: ds, Γ, σ, A, s, .cons (v := v) (vs := vs) r t, hl, hi, q => by
    obtain ⟨A', s', sub⟩ := s.layD (hi i (by simp)) r
    refine ⟨v, vs, rfl, ?_⟩
    exact set_names s' (t.mono (shrink sub)) (by simpa using hl) (fun j hj => by rw [List.length_set]; exact hi j (List.mem_cons_of_mem _ hj)) fun σ' A2 s2 sub2 => q σ' A2 s2 fun a ha => sub a (sub2 a ha)
theorem set_tg {g : Tg} {d : D} {v : V} {Γ1 : Env} {Q : L2.St → Hp → Prop} (s : Ste C.Z σ H Γ A T) (r : Rp C.Z.K (out (A ++ T) H) v d) (e : setTg g d Γ = some Γ1) (q : ∀ σ' A', Ste C.Z σ' H Γ1 A' T → (∀ a ∈ A', a ∈ A) → Q σ' H) : gTg C.Z.K g v σ H Q := by
  cases g with
  | one i =>
    have e : (if i < Γ.length then some (Γ.set i (some (Ow.dat d))) else none) = some Γ1 := e
    split at e
    · rename_i hi
      cases e
      obtain ⟨A', s', sub⟩ := s.layD hi r
      exact q _ A' s' sub
    · cases e
  | many is =>
    cases d <;> first | (cases e; done) | skip
    rename_i ds
    have e : (if ds.length = is.length ∧ is.all (· < Γ.length) then some ((is.zip ds).foldl (fun Γ p => Γ.set p.1 (some (Ow.dat p.2))) Γ) else none) = some Γ1 := e
    split at e
    · rename_i hc
      cases e
      cases r with
      | @tup a xs _ hs ra =>
        refine ⟨a, xs, rfl, sq_le out_le hs, ra.length.trans hc.1, ?_⟩
        exact set_names s ra hc.1 (fun i hi => by simpa using List.all_eq_true.mp hc.2 i hi) q
    · cases e
theorem tS_asgT {g : Tg} (h : tS C (fun Γ => (ea Γ).so fun r Γ => match g, r with
    | .one i, .fre ow => if i < Γ.length then .next (Γ.set i (some ow)) else .bad
    | g, r => (asD r Γ).so fun d Γ => match setTg g d Γ with
      | some Γ => .next Γ
      | none => .bad) Dn σ H) (hg : ∀ i, g ≠ .one i) : tAsg (tE C ea) (gTg C.Z.K g) Dn σ H :=
  tS_one (r := fun v H1 => gTg C.Z.K g v σ H1 Dn.nx) (fun {Γ2 A T H0 A0 B H2 v x} s rr st w => by
    have w : WpS C H0 A0 T ((asD x Γ2).so fun d Γ => match setTg g d Γ with
      | some Γ => .next Γ
      | none => .bad) Dn := by
      cases g with
      | one i => exact absurd rfl (hg i)
      | many is => exact w
    refine tS_tree (r := fun v H1 => gTg C.Z.K g v σ H1 Dn.nx) (fun {Γ2 A T H0 A0 H2 v d} s rp st w => ?_) s rr st w
    split at w
    · rename_i Γ3 e
      refine set_tg s rp e fun σ' A' s' sub => ?_
      have w : ∀ σ' H' A', Ste C.Z σ' H' Γ3 A' T → Stp A0 H0 A' H' → Dn.nx σ' H' := w
      exact w σ' H2 A' s' (st.sub sub)
    · exact w.elim) h
/-- x.append(e) -/
theorem tS_app {i : Nat} (h : tS C (fun Γ => match Γ[i]? with
    | some (some (.lst _)) => (ea Γ).so fun r Γ => (asD r Γ).so fun d Γ => match Γ[i]? with
      | some (some (.lst ds)) => if ds.length < sizeLine then .next (Γ.set i (some (.lst (ds ++ [d])))) else .bad
      | _ => .bad
    | _ => .bad) Dn σ H) : tDrop (tBM C.Z.K "list" rAppend (tVar i) (tCons (tE C ea) tNil)) Dn σ H := by
  obtain ⟨Γ, A, T, s, w⟩ := h
  dsimp only at w
  split at w
  · rename_i ds0 h0
    obtain ⟨v, B, P, S, g1, g2, g3, _⟩ := s.env.at h0
    cases g3 with
    | @lst a vs _ hs r =>
      refine ⟨_, g1, .inl ⟨rfl, _, SqL.of hs⟩, ?_⟩
      refine tS_one (Dn := Dn) (r := fun y H2 => rAppend (.ref a) [y] H2 fun _ H1 => Dn.nx σ H1) (k := fun r Γ => (asD r Γ).so fun d Γ => match Γ[i]? with
        | some (some (.lst ds)) => if ds.length < sizeLine then .next (Γ.set i (some (.lst (ds ++ [d])))) else .bad
        | _ => .bad) (fun {Γ2 A T H0 A0 B H2 v x} s rr st w => ?_) ⟨Γ, A, T, s, w⟩
      refine tS_tree (r := fun y H2 => rAppend (.ref a) [y] H2 fun _ H1 => Dn.nx σ H1) (fun {Γ2 A T H0 A0 H2 v d} s rp st w => ?_) s rr st w
      split at w
      · rename_i ds h2
        split at w
        · rename_i hz
          obtain ⟨a', vs', e1, e2, e3, ha, e4⟩ := s.grow (ds' := ds ++ [d]) h2
          rw [g1] at e1
          cases e1
          obtain ⟨s5, st5⟩ := e4 (vs' ++ [v]) (e3.append (.cons rp .nil))
          refine ⟨a, vs', v, rfl, rfl, e2, by rw [e3.length]; exact hz, ?_⟩
          have w : ∀ σ' H' A', Ste C.Z σ' H' (Γ2.set i (some (.lst (ds ++ [d])))) A' T → Stp A0 H0 A' H' → Dn.nx σ' H' := w
          exact w σ _ A s5 (st.trans st5)
        · exact w.elim
      · exact w.elim
  · exact w.elim

/-! ### loops -/
theorem tS_whl (h : tS C (whlD et es) Dn σ H) : tWhile (tT C et) (tS C es) Dn σ H := by
  obtain ⟨Γ, A, T, s, w⟩ := h
  have nb : whlD et es Γ ≠ .bad := fun e => by rw [e] at w; exact w
  obtain ⟨n, hn⟩ := whlD_ex nb
  generalize hr : whlD et es Γ = r at w hn
  refine ⟨fun m σ' H' => ∃ Γ' A', Ste C.Z σ' H' Γ' A' T ∧ Stp A H A' H' ∧ whlN et es m Γ' = some r, ⟨n, Γ, A, s, Stp.refl, hn⟩, ?_⟩
  rintro m σ1 H1 ⟨Γ1, A1, s1, st1, e1⟩
  refine ⟨Γ1, A1, T, s1, ?_⟩
  cases m with
  | zero => cases e1
  | succ m =>
    unfold whlN at e1
    cases et1 : et Γ1 with
    | bad =>
      rw [et1] at e1
      cases e1
      exact absurd hr nb
    | exn x Γ' =>
      rw [et1] at e1
      cases e1
      exact fun cls d H' p => w cls d σ1 H' (p.go0 st1)
    | ok k Γ2 =>
      rw [et1] at e1
      intro H2 A2 s2 st2
      have st12 := st1.trans st2
      cases k with
      | false =>
        cases e1
        rw [if_neg (by decide)]
        exact w σ1 H2 A2 s2 st12
      | true =>
        rw [if_pos rfl]
        have e1 : (match es Γ2 with
          | .next Γ => whlN et es m Γ
          | .cnt Γ => whlN et es m Γ
          | .brk Γ => some (.next Γ)
          | r => some r) = some r := e1
        refine ⟨fun σ' H' => ∃ Γ' A', Ste C.Z σ' H' Γ' A' T ∧ Stp A H A' H' ∧ whlN et es m Γ' = some r, fun σ' H' q => ⟨m, by omega, q⟩, Γ2, A2, T, s2, ?_⟩
        cases eb : es Γ2 with
        | next Γ3 =>
          rw [eb] at e1
          exact fun σ' H' A' s' q => ⟨Γ3, A', s', st12.trans q, e1⟩
        | cnt Γ3 =>
          rw [eb] at e1
          exact fun σ' H' A' s' q => ⟨Γ3, A', s', st12.trans q, e1⟩
        | brk Γ3 =>
          rw [eb] at e1
          cases e1
          exact fun σ' H' A' s' q => w σ' H' A' s' (st12.trans q)
        | ret ow Γ3 =>
          rw [eb] at e1
          cases e1
          exact fun v σ' H' A' B s' r q => w v σ' H' A' B s' r (st12.trans q)
        | exn x Γ3 =>
          rw [eb] at e1
          cases e1
          exact fun cls d σ' H' p => w cls d σ' H' (p.go0 st12)
        | bad =>
          rw [eb] at e1
          cases e1
          exact absurd hr nb
theorem tS_for {g : Tg} {ei : Env → Ro (List D)} (h : tS C (fun Γ => (ei Γ).so fun ds Γ => forL g es ds Γ) Dn σ H) : tFor (tI C ei) (gTg C.Z.K g) (tS C es) Dn σ H := by
  obtain ⟨Γ, A, T, s, w⟩ := h
  have w : WpS C H A T ((ei Γ).so fun ds Γ => forL g es ds Γ) Dn := w
  refine ⟨Γ, A, T, s, ?_⟩
  cases e : ei Γ with
  | bad => rw [e] at w; exact w
  | exn x Γ' =>
    rw [e] at w
    exact fun cls d H' p => w cls d σ H' p
  | ok ds Γ1 =>
    rw [e] at w
    have w : WpS C H A T (forL g es ds Γ1) Dn := w
    intro J H1 A1 s1 st1 wk
    generalize hq : forL g es ds Γ1 = fin at w
    refine for_it wk (fun i σ' H' => ∃ Γi Ai, Ste C.Z σ' H' Γi Ai T ∧ Stp A1 H1 Ai H' ∧ forL g es (ds.drop i) Γi = fin) ⟨Γ1, A1, s1, Stp.refl, hq⟩ ?hG ?hs ?hd
    case hG =>
      rintro i σ' H' _ ⟨Γi, Ai, si, sti, _⟩
      exact fun b o q => out_le _ _ (sti.exF b o q)
    case hd =>
      rintro σ' H' ⟨Γi, Ai, si, sti, e⟩
      rw [List.drop_length] at e
      have e : So.next Γi = fin := e
      rw [← e] at w
      exact w σ' H' Ai si (st1.trans sti)
    case hs =>
      rintro i x σ' H' H'' hi ⟨Γi, Ai, si, sti, e⟩ ⟨eH, d, hd, rd⟩
      rw [eH]
      have hdrop : ds.drop i = d :: ds.drop (i + 1) := by
        obtain ⟨h1, h2⟩ := List.getElem?_eq_some_iff.mp hd
        rw [List.drop_eq_getElem_cons h1, h2]
      rw [hdrop] at e
      unfold forL at e
      cases eg : setTg g d Γi with
      | none =>
        rw [eg] at e
        rw [← e] at w
        exact w.elim
      | some Γ2 =>
        rw [eg] at e
        refine set_tg si (rd.mono sti.exF) eg fun σ2 A2 s2 sub2 => ?_
        have st2 : Stp A1 H1 A2 H' := sti.sub sub2
        refine ⟨Γ2, A2, T, s2, ?_⟩
        have e : (match es Γ2 with
          | .next Γ => forL g es (ds.drop (i + 1)) Γ
          | .cnt Γ => forL g es (ds.drop (i + 1)) Γ
          | .brk Γ => .next Γ
          | r => r) = fin := e
        cases eb : es Γ2 with
        | next Γ3 =>
          rw [eb] at e
          exact fun σ' H' A' s' q => ⟨Γ3, A', s', st2.trans q, e⟩
        | cnt Γ3 =>
          rw [eb] at e
          exact fun σ' H' A' s' q => ⟨Γ3, A', s', st2.trans q, e⟩
        | brk Γ3 =>
          rw [eb] at e
          rw [← e] at w
          exact fun σ' H' A' s' q => w σ' H' A' s' (st1.trans (st2.trans q))
        | ret ow Γ3 =>
          rw [eb] at e
          rw [← e] at w
          exact fun v σ' H' A' B s' r q => w v σ' H' A' B s' r (st1.trans (st2.trans q))
        | exn x Γ3 =>
          rw [eb] at e
          rw [← e] at w
          exact fun cls d σ' H' p => w cls d σ' H' (p.go0 (st1.trans st2))
        | bad =>
          rw [eb] at e
          rw [← e] at w
          exact w
end
end Tv
end

section
set_option Elab.async false
set_option linter.all false
set_option maxRecDepth 100000
/-! TvN: chained comparisons. -/
namespace Tv
open PySem PySem.Spec PyProof.Rows L2
section
variable {C : Cc} {Z : Kz} {σ : List (Option V)} {H H1 H2 : Hp} {Q : VK} {ea eb ec : Env → Ro R} {Γ1 : Env} {A1 A2 B B1 B2 T : List Addr} {v : V} {r : R}
theorem RR.laterS (hb : ∀ b ∈ B, b ∈ B1) (r1 : RR Z (out (A1 ++ (B1 ++ T)) H1) H1 σ v r B) (s : Ste Z σ H1 Γ1 A1 (B1 ++ T)) (st : Stp A1 H1 (A2 ++ B2) H2) :
    RR Z (out (A2 ++ ((B2 ++ B1) ++ T)) H2) H2 σ v r B := by
  cases r with
  | fre ow =>
    have e := st.exF (T := B1 ++ T)
    rw [List.append_assoc A2 B2 (B1 ++ T), ← List.append_assoc B2 B1 T] at e
    exact ROw.mono (F := out (A1 ++ (B1 ++ T)) H1) e (fun a ha => st.keepT s.nd s.tr a (List.mem_append_left _ (hb a ha))) r1
  | var i => exact r1
abbrev evChain (op op' : Cop) (ea eb ec : Env → Ro R) : Env → Ro R := fun Γ => (ea Γ).bind fun x Γ => (eb Γ).bind fun y Γ => match view Γ x, view Γ y with
    | some dx, some dy => (ofO (cmpD op dx dy) Γ).bind fun k Γ => match k with
      | false => freD (.bool false) Γ
      | true => (ec Γ).bind fun z Γ => match view Γ y, view Γ z with
        | some dy, some dz => (ofO (cmpD op' dy dz) Γ).bind fun k Γ => freD (.bool k) Γ
        | _, _ => .bad
    | _, _ => .bad
theorem tE_chain {r r' : R2} {op op' : Cop} (ho : Op2 C.Z r (cmpB op)) (ho' : Op2 C.Z r' (cmpB op')) (h : tE C (evChain op op' ea eb ec) σ H Q) : tChain r r' (tE C ea) (tE C eb) (tE C ec) σ H Q :=
  tE_two (r := fun v1 v2 H2 Q => r v1 v2 H2 fun z H3 => ∃ k, z = .bl k ∧ (if k = true then tE C ec σ H3 fun w' H4 => r' v2 w' H4 Q else Q (.bl false) H3))
    (fun {Γ2 A T H0 A0 B1 B2 H2 v1 v2 x y} s r1 r2 st w => by
      split at w
      · rename_i dx dy hx hy
        cases e : cmpD op dx dy with
        | none => rw [e] at w; exact w.elim
        | some k =>
          rw [e] at w
          refine ho _ H2 v1 v2 dx dy (.dat (.bool k)) _ out_le (r1.rv s hx) (r2.rv s hy) (by unfold cmpB; rw [e]; rfl) ⟨fun d v e r => ?_, fun ds p vs e => (by cases e), fun ds p vs e => (by cases e)⟩
          cases e
          cases r
          refine ⟨k, rfl, ?_⟩
          cases k with
          | false =>
            rw [if_neg (by decide)]
            exact wp_dat s st w (.bl false)
          | true =>
            rw [if_pos rfl]
            have w : Wp C σ H0 A0 T ((ec Γ2).bind fun z Γ => match view Γ y, view Γ z with
              | some dy, some dz => (ofO (cmpD op' dy dz) Γ).bind fun k Γ => freD (.bool k) Γ
              | _, _ => .bad) Q := w
            refine ⟨Γ2, A, (B2 ++ B1) ++ T, s, ?_⟩
            cases e3 : ec Γ2 with
            | bad => rw [e3] at w; exact w
            | exn z Γ' =>
              rw [e3] at w
              exact fun cls d H' p => w cls d H' (p.go st)
            | ok z Γ3 =>
              rw [e3] at w
              intro v3 H3 p
              obtain ⟨A3, B3, s3, r3, st3⟩ := p
              have r2' := r2.laterS (fun b hb => List.mem_append_left _ hb) s st3
              rw [← List.append_assoc B3 (B2 ++ B1) T] at s3 r3
              have st4 : Stp A0 H0 (A3 ++ (B3 ++ (B2 ++ B1))) H3 := by
                rw [← List.append_assoc]
                exact st.trans2 st3
              have w : Wp C σ H0 A0 T (match view Γ3 y, view Γ3 z with
                | some dy, some dz => (ofO (cmpD op' dy dz) Γ3).bind fun k Γ => freD (.bool k) Γ
                | _, _ => .bad) Q := w
              split at w
              · rename_i dy' dz hy' hz
                rw [ofO_bool] at w
                cases e4 : cmpD op' dy' dz with
                | none => rw [e4] at w; exact w.elim
                | some k' =>
                  rw [e4] at w
                  exact ho' _ H3 v2 v3 dy' dz (.dat (.bool k')) Q out_le (r2'.rv s3 hy') (r3.rv s3 hz) (by unfold cmpB; rw [e4]; rfl) (Fin.of s3 st4 w)
              · exact w.elim
      · exact w.elim) h
end
end Tv
end

section
set_option Elab.async false
set_option linter.all false
set_option maxRecDepth 100000
/-! TvM: what the syntax of a tree comes to, where the tree is open. -/
namespace Tv
open PySem PySem.Spec PyProof.Rows L2
theorem eval_mcall {o : Expr} {name : Str} {apos pos : Pos} {args : List Expr} {env : PySem.Env} (hp : (apos.endLine == pos.line) = true) (hf : methodCallForm (args.length + 0) (backTo pos (starEach args env)) [] = true) :
    eval (.Call (.Attribute o name apos) args [] pos) env = (do
      let ov ← attributeBase o name env (eval o env)
      standAt apos.atName
      let (f, first) ← holding [ov] (getMethod ov name (do return (← importBound o env).getD true))
      callWith pos f first (backTo pos (starEach args env)) []) := by
  show (do
    let ov ← attributeBase o name env (eval o env)
    standAt apos.atName
    methodCall o name apos pos env ov (args.length + 0) (backTo pos (starEach args env)) []) = _
  unfold methodCall calleeOf methodCallPos
  rw [hf]
  simp only [hp, Bool.not_true, Bool.false_or, if_true, pure_bind]
end Tv
end

section
set_option Elab.async false
set_option linter.all false
set_option maxRecDepth 100000
set_option maxHeartbeats 2000000
/-! TvC: a look at the syntax: is it what the small language says? -/
namespace Tv
open PySem PySem.Spec PyProof.Rows L2

/-! ### what a place knows -/
structure Gc where
  N : List Str
  sc : Scope
  calm : Bool
  fnAll : Bool
  un : List Str
  cs : List (Str × D)
  df : List (Str × Nat)
  xc : List Str
def Gc.blk (G : Gc) (scope : Scope) : Gc := { G with sc := relS scope G.sc, fnAll := false }
def visC (sc : Scope) (x : Str) : Bool := match sc.names.lookup x with
  | some .local => true
  | some .cell => true
  | some .free => true
  | _ => false
def locC (G : Gc) (x : Str) : Bool := match G.sc.names.lookup x with
  | some .local => true
  | some .cell => G.fnAll
  | _ => false
def glC (sc : Scope) (x : Str) : Bool := match sc.names.lookup x with
  | some .globalImplicit => true
  | _ => false
def dbgC (x : Str) : Bool := !(x == ("__debug__" : Str)) && !(x == ("__classdict__" : Str))
def slotC (G : Gc) (i : Nat) (x : Str) : Bool := match G.N[i]? with
  | some y => decide (y = x)
  | none => false
/-- a name of the built-ins -/
def bltC (G : Gc) (x y : Str) : Bool := decide (x = y) && glC G.sc x && G.un.elem x
def constC : D → Const → Bool
  | .none, .none => true
  | .bool a, .bool b => decide (a = b)
  | .int a, .int b => decide (a = b)
  | .str a, .str b => decide (a = b)
  | _, _ => false
def bopC : Bop → Operator → Bool
  | .add, .Add => true
  | .sub, .Sub => true
  | .mul, .Mult => true
  | .fdiv, .FloorDiv => true
  | .mod, .Mod => true
  | _, _ => false
def copC : Cop → CmpOp → Bool
  | .eq, .Eq => true
  | .ne, .NotEq => true
  | .lt, .Lt => true
  | .le, .LtE => true
  | .gt, .Gt => true
  | .ge, .GtE => true
  | .is_, .Is => true
  | .isnt, .IsNot => true
  | _, _ => false
mutual
def sameD : D → D → Bool
  | .none, .none => true
  | .bool a, .bool b => decide (a = b)
  | .int a, .int b => decide (a = b)
  | .str a, .str b => decide (a = b)
  | .tuple xs, .tuple ys => sameDs xs ys
  | .list xs, .list ys => sameDs xs ys
  | _, _ => false
def sameDs : List D → List D → Bool
  | [], [] => true
  | x :: xs, y :: ys => sameD x y && sameDs xs ys
  | _, _ => false
end
mutual
theorem sameD_eq : ∀ {x y : D}, sameD x y = true → x = y
  | .none, y, h => by cases y <;> first | rfl | simp [sameD] at h
  | .bool a, y, h => by cases y <;> simp_all [sameD]
  | .int a, y, h => by cases y <;> simp_all [sameD]
  | .str a, y, h => by cases y <;> simp_all [sameD]
  | .tuple xs, y, h => by
    cases y <;> first | (simp [sameD] at h; done) | skip
    rename_i ys
    have q : sameDs xs ys = true := by simpa [sameD] using h
    rw [sameDs_eq q]
  | .list xs, y, h => by
    cases y <;> first | (simp [sameD] at h; done) | skip
    rename_i ys
    have q : sameDs xs ys = true := by simpa [sameD] using h
    rw [sameDs_eq q]
  | .dict xs, y, h => by cases y <;> simp [sameD] at h
theorem sameDs_eq : ∀ {x y : List D}, sameDs x y = true → x = y
  | [], y, h => by cases y <;> first | rfl | simp [sameDs] at h
  | a :: as, y, h => by
    cases y with
    | nil => simp [sameDs] at h
    | cons b bs =>
      simp only [sameDs, Bool.and_eq_true] at h
      rw [sameD_eq h.1, sameDs_eq h.2]
end
def isStar : Expr → Bool
  | .Starred .. => true
  | _ => false
def noStars (es : List Expr) : Bool := es.all fun e => !isStar e
def isSlice : Expr → Bool
  | .Slice .. => true
  | _ => false
def isSet : Expr → Bool
  | .Set .. => true
  | _ => false
def isCmp : Expr → Bool
  | .Compare .. => true
  | _ => false
/-- the test is the value's truth -/
def plainT : Expr → Bool
  | .UnaryOp .Not _ _ => false
  | .BoolOp .. => false
  | .IfExp .. => false
  | .Compare .. => false
  | _ => true
def Blt.nm : Blt → Str
  | .len => "len"
  | .int => "int"
  | .abs => "abs"
  | .min => "min"
  | .max => "max"
  | .ord => "ord"
  | .tuple => "tuple"
  | .list => "list"
  | .any => "any"
  | .all => "all"
def Es.len : Es → Nat
  | .nil => 0
  | .cons _ es => es.len + 1
def dfC (G : Gc) (f : Str) (n : Nat) : Bool := G.df.any fun p => decide (p.1 = f) && decide (p.2 = n)
/-- a comprehension's own names: the target's -/
def tgNames : Tg → Expr → Option (List (Str × Nat))
  | .one i, .Name x _ => some [(x, i)]
  | _, _ => none

mutual
def chkE : E → Gc → Expr → Bool
  | .var i, G, x => match x with
    | .Name n _ => slotC G i n && visC G.sc n && dbgC n
    | _ => false
  | .con d, _, x => match x with
    | .Constant k _ _ => constC d k
    | _ => false
  | .glb y d, G, x => match x with
    | .Name n _ => decide (n = y) && glC G.sc n && dbgC n && G.cs.any fun p => decide (p.1 = n) && sameD p.2 d
    | _ => false
  | .bin op a b, G, x => match x with
    | .BinOp l o r _ => bopC op o && chkE a G l && chkE b G r
    | _ => false
  | .rep a b, G, x => match x with
    | .BinOp l .Mult r _ => chkE a G l && chkE b G r
    | _ => false
  | .neg a, G, x => match x with
    | .UnaryOp .USub y _ => chkE a G y
    | _ => false
  | .cmp op a b, G, x => match x with
    | .Compare l [o] [r] _ => copC op o && !isSet r && chkE a G l && chkE b G r
    | _ => false
  | .chain op op' a b c, G, x => match x with
    | .Compare l [o, o'] [m, r] _ => copC op o && copC op' o' && !isSet r && chkE a G l && chkE b G m && chkE c G r
    | _ => false
  | .and_ a b, G, x => match x with
    | .BoolOp .And (y :: z :: rest) pos => chkE a G y && (match rest with
      | [] => chkE b G z
      | w :: rest => chkE b G (.BoolOp .And (z :: w :: rest) pos))
    | _ => false
  | .or_ a b, G, x => match x with
    | .BoolOp .Or (y :: z :: rest) pos => chkE a G y && (match rest with
      | [] => chkE b G z
      | w :: rest => chkE b G (.BoolOp .Or (z :: w :: rest) pos))
    | _ => false
  | .not_ a, G, x => match x with
    | .UnaryOp .Not y _ => chkE a G y
    | _ => false
  | .ite t a b, G, x => match x with
    | .IfExp c y z _ => chkT t G c && chkE a G y && chkE b G z
    | _ => false
  | .tup es, G, x => match x with
    | .Tuple xs _ _ => noStars xs && chkEs es G xs
    | _ => false
  | .lst es, G, x => match x with
    | .List xs _ => noStars xs && chkEs es G xs
    | _ => false
  | .sub a i, G, x => match x with
    | .Subscript y z _ => !isSlice z && chkE a G y && chkE i G z
    | _ => false
  | .slc a lo hi, G, x => match x with
    | .Subscript y (.Slice l h none _) _ => chkE a G y && chkO lo G l && chkO hi G h
    | _ => false
  | .call f es, G, x => match x with
    | .Call (.Name g _) (y :: ys) [] _ => decide (g = f) && glC G.sc g && dbgC g && dfC G f es.len && G.calm && noStars (y :: ys) && chkEs es G (y :: ys)
    | _ => false
  | .blt f es, G, x => match x with
    | .Call (.Name g _) (y :: ys) [] _ => bltC G g f.nm && G.calm && noStars (y :: ys) && chkEs es G (y :: ys)
    | _ => false
  | .lc v it t e, G, x => match x with
    | .ListComp elt [⟨.Name n p, iter, ifs, a⟩] scope _ => decide (a = 0) && G.calm && blkC G.N G.sc scope [(n, v)] && slotC (G.blk scope) v n && (match (G.blk scope).sc.names.lookup n with
        | some .local => true
        | _ => false) && !isSet iter && chkI it G iter && chkTo t (G.blk scope) ifs && chkE e (G.blk scope) elt
    | _ => false
def chkO : Eo → Gc → Option Expr → Bool
  | .no, _, x => match x with
    | none => true
    | some _ => false
  | .some e, G, x => match x with
    | some y => chkE e G y
    | none => false
def chkTo : To → Gc → List Expr → Bool
  | .no, _, x => match x with
    | [] => true
    | _ => false
  | .some t, G, x => match x with
    | [y] => chkT t G y
    | _ => false
def chkT : T → Gc → Expr → Bool
  | .val e, G, x => chkE e G x && (plainT x || isCmp x)
  | .and_ a b, G, x => match x with
    | .BoolOp .And (y :: z :: rest) pos => chkT a G y && (match rest with
      | [] => chkT b G z
      | w :: rest => chkT b G (.BoolOp .And (z :: w :: rest) pos))
    | _ => false
  | .or_ a b, G, x => match x with
    | .BoolOp .Or (y :: z :: rest) pos => chkT a G y && (match rest with
      | [] => chkT b G z
      | w :: rest => chkT b G (.BoolOp .Or (z :: w :: rest) pos))
    | _ => false
  | .not_ a, G, x => match x with
    | .UnaryOp .Not y _ => chkT a G y
    | _ => false
def chkEs : Es → Gc → List Expr → Bool
  | .nil, _, x => match x with
    | [] => true
    | _ => false
  | .cons e es, G, x => match x with
    | y :: ys => chkE e G y && chkEs es G ys
    | [] => false
def chkI : Iw → Gc → Expr → Bool
  | .e e, G, x => chkE e G x
  | .rng a, G, x => match x with
    | .Call (.Name g _) [y] [] _ => bltC G g "range" && !isStar y && chkE a G y
    | _ => false
  | .rng2 a b, G, x => match x with
    | .Call (.Name g _) [y, z] [] _ => bltC G g "range" && !isStar y && !isStar z && chkE a G y && chkE b G z
    | _ => false
end
end Tv
end

section
set_option Elab.async false
set_option linter.all false
set_option maxRecDepth 100000
set_option maxHeartbeats 2000000
/-! TvC2: a look at the syntax: statements. -/
namespace Tv
open PySem PySem.Spec PyProof.Rows L2
def chkNames : List Nat → Gc → List Expr → Bool
  | [], _, x => match x with
    | [] => true
    | _ => false
  | i :: is, G, x => match x with
    | .Name n _ :: ys => slotC G i n && locC G n && chkNames is G ys
    | _ => false
def chkTg (G : Gc) : Tg → Expr → Bool
  | .one i, .Name n _ => slotC G i n && locC G n
  | .many is, .Tuple xs _ _ => G.calm && chkNames is G xs
  | _, _ => false
def isComp : Expr → Bool
  | .ListComp .. => true
  | .SetComp .. => true
  | .DictComp .. => true
  | _ => false
def isTupE : Expr → Bool
  | .Tuple .. => true
  | _ => false
/-- the stores of a tuple into a tuple go another way -/
def isSeqE : Expr → Bool
  | .Tuple .. => true
  | .List .. => true
  | _ => false
def plainAsg (tg x : Expr) : Bool := !isSeqE tg || !isTupE x
/-- name = [..] on one line, the name a local -/
def sameLine (G : Gc) : Expr → Expr → Bool
  | .Name y py, .ListComp _ _ scope pos => (py.line == pos.line) && (match G.sc.names.lookup y with
      | some .local => true
      | _ => false) && !(scope.names.any fun (n, k) => n == y && (k == .local || k == .cell))
  | _, _ => false
/-- .. not so -/
def noSwap (G : Gc) : Expr → Expr → Bool
  | .Name y py, .ListComp _ _ scope pos => !((match G.sc.names.lookup y with
      | some .local => true
      | _ => false) && (py.line == pos.line) && !(scope.names.any fun (n, k) => n == y && (k == .local || k == .cell)))
  | _, x => !isComp x
mutual
def chkS : S → Gc → Stmt → Bool
  | .asg g e, G, x => match x with
    | .Assign [tg] y _ => chkTg G g tg && chkE e G y && plainAsg tg y && (noSwap G tg y || sameLine G tg y)
    | _ => false
  | .app i e, G, x => match x with
    | .Expr (.Call (.Attribute (.Name n _) m apos) [y] [] cpos) _ => slotC G i n && visC G.sc n && dbgC n && decide (m = "append") && (apos.endLine == cpos.line) && !isStar y && chkE e G y
    | _ => false
  | .expr e, G, x => match x with
    | .Expr y _ => !isComp y && chkE e G y
    | _ => false
  | .ret e, G, x => match x with
    | .Return (some y) _ => chkE e G y
    | _ => false
  | .retN, _, x => match x with
    | .Return none _ => true
    | _ => false
  | .ite t a b, G, x => match x with
    | .If c p q _ => chkT t G c && chkSs a G p && chkSs b G q
    | _ => false
  | .whl t b, G, x => match x with
    | .While c p [] _ => chkT t G c && chkSs b G p
    | _ => false
  | .for_ g it b, G, x => match x with
    | .For tg y p [] _ => G.calm && chkTg G g tg && chkI it G y && !isSet y && chkSs b G p
    | _ => false
  | .brk, _, x => match x with
    | .Break _ => true
    | _ => false
  | .cnt, _, x => match x with
    | .Continue _ => true
    | _ => false
  | .pass, _, x => match x with
    | .Pass _ => true
    | .Expr (.Constant (.str _) _ _) _ => true
    | _ => false
  | .rse c e, G, x => match x with
    | .Raise (some (.Call (.Name n _) [y] [] _)) none _ => decide (n = c) && glC G.sc n && dbgC n && G.xc.elem n && G.calm && !isStar y && chkE e G y
    | _ => false
  | .tr b c i s, G, x => match x with
    | .Try p [.ExceptHandler (some (.Name n _)) m (q0 :: q) _] [] [] _ => decide (n = c) && glC G.sc n && dbgC n && G.xc.elem n && chkSs b G p && (match i, m with
        | none, none => chkSs s { G with calm := false } (q0 :: q)
        | _, _ => false)
    | _ => false
def chkSs : Ss → Gc → List Stmt → Bool
  | .nil, _, x => match x with
    | [] => true
    | _ => false
  | .cons s r, G, x => match x with
    | y :: ys => chkS s G y && chkSs r G ys
    | [] => false
end
end Tv
end

section
set_option Elab.async false
set_option linter.all false
set_option maxRecDepth 100000
set_option maxHeartbeats 2000000
/-! TvD1: what the look finds is so: expressions. -/
namespace Tv
open PySem PySem.Spec PyProof.Rows L2

structure Good (G : Gc) (C : Cc) (c : Cz) (X : Cx) : Prop where
  K : X.K = C.Z.K
  mg : X.mg = C.mg
  N : X.N = G.N
  sc : X.env.scope = G.sc
  nd : X.N.Nodup
  kd : X.env.scope.kind = .function
  calm : G.calm = true → X.calm = true
  fn : G.fnAll = true → ∀ x, X.fn x = true
  tk : Takes X C.W
  u64 : X.A.units + 64 < cLine
  un : ∀ x ∈ G.un, X.mg x = none
  cs : ∀ p ∈ G.cs, ∃ u v, X.mg p.1 = some u ∧ RelV v u ∧ ∀ F, Rp C.Z.K F v p.2
  df : G.calm = true → ∀ p ∈ G.df, ∃ k f fd ps, FnOk X.prog X.w X.K X.mg X.base (L2.CX X.prog X.w) k f fd ps (spD C.Z.K C.mg C.fld p.2 (c.ft p.1)) ∧ Room k X.A ∧ X.mg p.1 = some (.ref f) ∧ PySem.W.keepIn X.K (.ref f) = true ∧ Binds X.K fd ps [] ∧ ∀ ds, c.ft p.1 ds ≠ .bad → ds.length = p.2

section
variable {G : Gc} {C : Cc} {c : Cz} {X : Cx}
theorem Good.vis (g : Good G C c X) {x : Str} (h : visC G.sc x = true) : Vis X.env.scope x := by
  rw [g.sc]
  unfold visC at h
  split at h
  · exact .inl (by assumption)
  · exact .inr (.inl (by assumption))
  · exact .inr (.inr (by assumption))
  · cases h
theorem Good.gl (g : Good G C c X) {x : Str} (h : glC G.sc x = true) : Gl X x := by
  show X.env.scope.names.lookup x = _
  rw [g.sc]
  unfold glC at h
  split at h
  · assumption
  · cases h
theorem Good.slot (g : Good G C c X) {i : Nat} {x : Str} (h : slotC G i x = true) : X.N[i]? = some x := by
  rw [g.N]
  unfold slotC at h
  split at h
  · rename_i y e
    rw [e, of_decide_eq_true h]
  · cases h
theorem Good.blt (g : Good G C c X) {x y : Str} (h : bltC G x y = true) : x = y ∧ Gl X y ∧ X.mg y = none := by
  unfold bltC at h
  simp only [Bool.and_eq_true, decide_eq_true_eq] at h
  obtain ⟨⟨rfl, h2⟩, h3⟩ := h
  exact ⟨rfl, g.gl h2, g.un _ (by simpa using h3)⟩
theorem dbg1 {x : Str} (h : dbgC x = true) : (x == ("__debug__" : Str)) = false ∧ (x == ("__classdict__" : Str)) = false := by
  unfold dbgC at h
  simpa using h
theorem star_cons {e : Expr} {es : List Expr} {env : PySem.Env} (h : isStar e = false) : starEach (e :: es) env = (false, eval e env) :: starEach es env := by
  cases e <;> first | rfl | cases h
theorem noStars_cons {e : Expr} {es : List Expr} (h : noStars (e :: es) = true) : isStar e = false ∧ noStars es = true := by
  unfold noStars at h ⊢
  simpa using h
theorem back_no {pos : Pos} {env : PySem.Env} : ∀ {es : List Expr}, noStars es = true → (backTo pos (starEach es env)).any (·.1) = false
  | [], _ => rfl
  | e :: es, h => by
    obtain ⟨h1, h2⟩ := noStars_cons h
    rw [star_cons h1]
    show (false || (backTo pos (starEach es env)).any (·.1)) = false
    rw [back_no h2]
    rfl
theorem plainIx {b : Expr} (h : isSlice b = false) : PlainIx b := by
  intro o i
  cases b <;> first | rfl | cases h
theorem noSet {op : CmpOp} {b : Expr} (h : isSet b = false) : behindInMarks op b = false := by
  cases b <;> first | rfl | cases h
theorem noFold {b : Expr} (h : isSet b = false) {env : PySem.Env} : ∀ x, foldedSetIterable b env x = pure x := by
  intro x
  cases b <;> first | rfl | cases h
theorem plainT_is {e : Expr} (h : plainT e = true) {env : PySem.Env} : ∀ whole, isTrue e env whole = (do let v ← whole; standAt e.pos; holding [v] (truthy v)) := by
  intro whole
  cases e <;> first | rfl | (cases h; done) | skip
  rename_i op _ _
  cases op <;> first | rfl | cases h

/-! ### one step -/
noncomputable abbrev evBin (op : Bop) (ea eb : Env → Ro R) : Env → Ro R := fun Γ => (ea Γ).bind fun x Γ => (eb Γ).bind fun y Γ => match view Γ x, view Γ y with
  | some dx, some dy => R.ofO (binD op dx dy) Γ
  | _, _ => .bad
abbrev evCmp (op : Cop) (ea eb : Env → Ro R) : Env → Ro R := fun Γ => (ea Γ).bind fun x Γ => (eb Γ).bind fun y Γ => match view Γ x, view Γ y with
  | some dx, some dy => (ofO (cmpD op dx dy) Γ).bind fun k Γ => freD (.bool k) Γ
  | _, _ => .bad
variable {ea eb : Env → Ro R}
theorem de_bin (g : Good G C c X) {op : Bop} {o : Operator} {l r : Expr} {pos : Pos} (h : bopC op o = true) (ha : PE X l (tE C ea)) (hb : PE X r (tE C eb)) : PE X (.BinOp l o r pos) (tE C (evBin op ea eb)) := by
  cases op <;> cases o <;> first | (cases h; done) | skip
  · have q := op_addA (X := X)
    rw [g.K] at q
    exact PE.imp (pe_op q ha hb) fun σ H Q h => tE_op2 op2_add h
  · exact PE.imp (pe_op op_sub ha hb) fun σ H Q h => tE_op2 op2_sub h
  · exact PE.imp (pe_op op_mul ha hb) fun σ H Q h => tE_op2 op2_mul h
  · exact PE.imp (pe_op op_fdiv ha hb) fun σ H Q h => tE_op2 op2_fdiv h
  · exact PE.imp (pe_op op_mod ha hb) fun σ H Q h => tE_op2 op2_mod h
/-- the operation of a comparison -/
theorem cop_ok (g : Good G C c X) {op : Cop} {o : CmpOp} (h : copC op o = true) : ∃ r, OpR X (compareOp o) r ∧ Op2 C.Z r (cmpB op) := by
  cases op <;> cases o <;> first | (cases h; done) | skip
  · have q := op_eqA g.u64
    rw [g.K] at q
    exact ⟨_, q, op2_eq⟩
  · have q := op_neA g.u64
    rw [g.K] at q
    exact ⟨_, q, op2_ne⟩
  · exact ⟨_, op_ltA, op2_lt⟩
  · exact ⟨_, op_leA, op2_le⟩
  · exact ⟨_, op_gtA, op2_gt⟩
  · exact ⟨_, op_geA, op2_ge⟩
  · exact ⟨_, op_isN, op2_is⟩
  · exact ⟨_, op_notN, op2_isnt⟩
theorem de_cmp (g : Good G C c X) {op : Cop} {o : CmpOp} {l r : Expr} {pos : Pos} (h : copC op o = true) (hs : isSet r = false) (ha : PE X l (tE C ea)) (hb : PE X r (tE C eb)) : PE X (.Compare l [o] [r] pos) (tE C (evCmp op ea eb)) := by
  obtain ⟨rr, h1, h2⟩ := cop_ok g h
  exact PE.imp (pe_cmpR h1 ha hb (noSet hs)) fun σ H Q h => tE_cmp h2 h
theorem dt_cmp (g : Good G C c X) {op : Cop} {o : CmpOp} {l r : Expr} {pos : Pos} (h : copC op o = true) (hs : isSet r = false) (ha : PE X l (tE C ea)) (hb : PE X r (tE C eb)) : PT X (.Compare l [o] [r] pos) (tT C fun Γ => (evCmp op ea eb Γ).bind fun x Γ => match view Γ x with
    | some d => ofO (truD d) Γ
    | none => .bad) := by
  obtain ⟨rr, h1, h2⟩ := cop_ok g h
  refine PT.imp (pt_cmpR h1 ha hb (noSet hs)) fun σ H Q h => ?_
  refine tE_cmp h2 (tT_cmp (ea := evCmp op ea eb) (fun Γ r Γ' e => ?_) h)
  unfold evCmp at e
  cases e1 : ea Γ with
  | bad => rw [e1] at e; cases e
  | exn x Γ1 => rw [e1] at e; cases e
  | ok x Γ1 =>
    rw [e1] at e
    have e : ((eb Γ1).bind fun y Γ => match view Γ x, view Γ y with
      | some dx, some dy => (ofO (cmpD op dx dy) Γ).bind fun k Γ => freD (.bool k) Γ
      | _, _ => .bad) = .ok r Γ' := e
    cases e2 : eb Γ1 with
    | bad => rw [e2] at e; cases e
    | exn x Γ1 => rw [e2] at e; cases e
    | ok y Γ2 =>
      rw [e2] at e
      have e : (match view Γ2 x, view Γ2 y with
        | some dx, some dy => (ofO (cmpD op dx dy) Γ2).bind fun k Γ => freD (.bool k) Γ
        | _, _ => .bad) = Ro.ok r Γ' := e
      split at e
      · rename_i dx dy _ _
        cases e3 : cmpD op dx dy with
        | none => rw [e3] at e; cases e
        | some k =>
          rw [e3] at e
          cases e
          exact ⟨k, rfl⟩
      · cases e
theorem de_const {d : D} {k : Const} {n : Nat} {pos : Pos} (h : constC d k = true) : PE X (.Constant k n pos) (tE C (freD d)) := by
  cases d <;> cases k <;> first | (cases h; done) | skip
  · exact de_con pe_non fun F => .non
  · rw [of_decide_eq_true h]
    exact de_con pe_bl fun F => .bl _
  · rw [of_decide_eq_true h]
    exact de_con pe_int fun F => .int _
  · rw [of_decide_eq_true h]
    exact de_con pe_str fun F => .str _
theorem de_glb (g : Good G C c X) {x : Str} {d : D} {pos : Pos} (hg : glC G.sc x = true) (hd : dbgC x = true) (h : (G.cs.any fun p => decide (p.1 = x) && sameD p.2 d) = true) : PE X (.Name x pos) (tE C (freD d)) := by
  obtain ⟨p, hp, q⟩ := List.any_eq_true.mp h
  simp only [Bool.and_eq_true, decide_eq_true_eq] at q
  obtain ⟨rfl, q⟩ := q
  obtain rfl := sameD_eq q
  obtain ⟨u, v, hm, r, rp⟩ := g.cs p hp
  exact de_con (pe_glob (g.gl hg) hm r (dbg1 hd).1) rp
theorem de_blt (g : Good G C c X) {f : Blt} {n : Str} {y : Expr} {ys : List Expr} {p pos : Pos} {es : Env → Ro (List R)} (h : bltC G n f.nm = true) (hc : G.calm = true) (hs : noStars (y :: ys) = true) (ha : PA X (y :: ys) (tA C es)) :
    PE X (.Call (.Name n p) (y :: ys) [] pos) (tE C fun Γ => (es Γ).bind fun rs Γ => match viewAll Γ rs with
      | some ds => R.ofO (bltD f ds) Γ
      | none => .bad) := by
  obtain ⟨rfl, hg, hm⟩ := g.blt h
  obtain ⟨s1, s2⟩ := noStars_cons hs
  have e1 := star_cons (es := ys) (env := X.env) s1
  have e2 := back_no (pos := pos) (env := X.env) s2
  have hc := g.calm hc
  cases f
  · have q := call_len (X := X)
    rw [g.K] at q
    exact PE.imp (pe_callB q hg hm (by decide +kernel) ha (by decide) (by decide) e1 e2) fun σ H Q h => tE_blt opn_len h
  · exact PE.imp (pe_callTy call_int1 hg hm (by decide +kernel) ha (by decide) (by decide) e1 e2) fun σ H Q h => tE_blt opn_int h
  · exact PE.imp (pe_callB call_abs hg hm (by decide +kernel) ha (by decide) (by decide) e1 e2) fun σ H Q h => tE_blt opn_abs h
  · exact PE.imp (pe_callB (call_min2 hc) hg hm (by decide +kernel) ha (by decide) (by decide) e1 e2) fun σ H Q h => tE_blt opn_min h
  · exact PE.imp (pe_callB (call_max2 hc) hg hm (by decide +kernel) ha (by decide) (by decide) e1 e2) fun σ H Q h => tE_blt opn_max h
  · exact PE.imp (pe_callB call_ord hg hm (by decide +kernel) ha (by decide) (by decide) e1 e2) fun σ H Q h => tE_blt opn_ord h
  · have q := call_tuple_of (X := X)
    rw [g.K] at q
    exact PE.imp (pe_callTy q hg hm (by decide +kernel) ha (by decide) (by decide) e1 e2) fun σ H Q h => tE_blt opn_tuple h
  · have q := call_list_of (X := X)
    rw [g.K] at q
    exact PE.imp (pe_callTy q hg hm (by decide +kernel) ha (by decide) (by decide) e1 e2) fun σ H Q h => tE_blt opn_list h
  · have q := cr_any hc
    rw [g.K] at q
    exact PE.imp (pe_callB q hg hm (by decide +kernel) ha (by decide) (by decide) e1 e2) fun σ H Q h => tE_blt opn_any h
  · have q := cr_all hc
    rw [g.K] at q
    exact PE.imp (pe_callB q hg hm (by decide +kernel) ha (by decide) (by decide) e1 e2) fun σ H Q h => tE_blt opn_all h
theorem de_call (g : Good G C c X) {f n : Str} {m : Nat} {y : Expr} {ys : List Expr} {p pos : Pos} {es : Env → Ro (List R)} (hf : n = f) (hg : glC G.sc n = true) (hd : dbgC n = true) (h : dfC G f m = true) (hc : G.calm = true) (hs : noStars (y :: ys) = true)
    (ha : PA X (y :: ys) (tA C es)) : PE X (.Call (.Name n p) (y :: ys) [] pos) (tE C fun Γ => (es Γ).bind fun rs Γ => (asDs rs Γ).bind fun ds Γ => match c.ft f ds with
      | .ok ow => .ok (.fre ow) Γ
      | .exn x => .exn x Γ
      | .bad => .bad) := by
  subst hf
  obtain ⟨s1, s2⟩ := noStars_cons hs
  obtain ⟨q, hq, e⟩ := List.any_eq_true.mp h
  simp only [Bool.and_eq_true, decide_eq_true_eq] at e
  obtain ⟨rfl, rfl⟩ := e
  obtain ⟨k, fa, fd, ps, F, hr, hm, hk, hb, hl⟩ := g.df hc q hq
  refine PE.imp (pe_callS F hr (g.gl hg) hm hk hb (fun σ => passAt g.tk σ) ha (dbg1 hd).1 (star_cons s1) (back_no s2)) fun σ H Q h => ?_
  exact tE_call hl h
theorem da_nil : PA X [] (tA C fun Γ => .ok [] Γ) := PA.imp pa_nil fun σ H Q h => tA_nil h
theorem da_cons {y : Expr} {ys : List Expr} {es : Env → Ro (List R)} (hs : isStar y = false) (ha : PE X y (tE C ea)) (hb : PA X ys (tA C es)) : PA X (y :: ys) (tA C fun Γ => (ea Γ).bind fun r Γ => (es Γ).bind fun rs Γ => .ok (r :: rs) Γ) :=
  PA.imp (pa_cons ha hb (star_cons hs)) fun σ H Q h => tA_cons h
/-- a block of a comprehension -/
theorem Good.blk (g : Good G C c X) {scope : Scope} {own : List (Str × Nat)} (ok : BlkOk X.N X.env.scope scope own) (s : Shared) (H : Hp) (D : Addr) (cl : List (Str × Addr)) (fp : List Addr) : Good (G.blk scope) C.shut c (X.blk s H scope (compEnvC scope cl D X.env) fp) where
  K := g.K
  mg := g.mg
  N := g.N
  sc := by
    show relS scope X.env.scope = relS scope G.sc
    rw [g.sc]
  nd := g.nd
  kd := ok.kind
  calm := g.calm
  fn := fun h => by cases h
  tk := fun u s' ⟨a, B, sI, pins, σ, H, cls, d, e, I, nb, up, sky, na, os, ag, w⟩ => w
  u64 := g.u64
  un := g.un
  cs := g.cs
  df := g.df
theorem Good.loc (g : Good G C c X) {x : Str} (h : locC G x = true) : Loc X.env.scope x ∧ (X.fn x = true ∨ X.env.scope.names.lookup x = some .local) := by
  rw [g.sc]
  unfold locC at h
  split at h
  · rename_i e
    exact ⟨.inl e, .inr e⟩
  · rename_i e
    exact ⟨.inr e, .inl (g.fn h x)⟩
  · cases h
end
end Tv
end

section
set_option Elab.async false
set_option linter.all false
set_option maxRecDepth 100000
set_option maxHeartbeats 4000000
/-! TvD2: what the look finds is so: all expressions. -/
namespace Tv
open PySem PySem.Spec PyProof.Rows L2

section
variable {G : Gc} {C : Cc} {c : Cz} {X : Cx}
theorem de_chain (g : Good G C c X) {op op' : Cop} {o o' : CmpOp} {l m r : Expr} {pos : Pos} {ea eb ec : Env → Ro R} (h : copC op o = true) (h' : copC op' o' = true) (hs : isSet r = false) (ha : PE X l (tE C ea)) (hb : PE X m (tE C eb)) (hc : PE X r (tE C ec)) :
    PE X (.Compare l [o, o'] [m, r] pos) (tE C (evChain op op' ea eb ec)) ∧ PT X (.Compare l [o, o'] [m, r] pos) (tT C fun Γ => (evChain op op' ea eb ec Γ).bind fun x Γ => match view Γ x with
    | some d => ofO (truD d) Γ
    | none => .bad) := by
  obtain ⟨r1, h1, h2⟩ := cop_ok g h
  obtain ⟨r2, h3, h4⟩ := cop_ok g h'
  have hm : lastMarks [o, o'] [m, r] = false := noSet (op := o') hs
  refine ⟨PE.imp (pe_chain h1 h3 ha hb hc hm) fun σ H Q h => tE_chain h2 h4 h, PT.imp (pt_chain h1 h3 ha hb hc hm) fun σ H Q h => ?_⟩
  refine tE_chain h2 h4 (tT_cmp (ea := evChain op op' ea eb ec) (fun Γ r Γ' e => ?_) h)
  unfold evChain at e
  cases e1 : ea Γ with
  | bad => rw [e1] at e; cases e
  | exn x Γ1 => rw [e1] at e; cases e
  | ok x Γ1 =>
    rw [e1] at e
    have e : ((eb Γ1).bind fun y Γ => match view Γ x, view Γ y with
      | some dx, some dy => (ofO (cmpD op dx dy) Γ).bind fun k Γ => match k with
        | false => freD (.bool false) Γ
        | true => (ec Γ).bind fun z Γ => match view Γ y, view Γ z with
          | some dy, some dz => (ofO (cmpD op' dy dz) Γ).bind fun k Γ => freD (.bool k) Γ
          | _, _ => .bad
      | _, _ => .bad) = .ok r Γ' := e
    cases e2 : eb Γ1 with
    | bad => rw [e2] at e; cases e
    | exn x Γ1 => rw [e2] at e; cases e
    | ok y Γ2 =>
      rw [e2] at e
      have e : (match view Γ2 x, view Γ2 y with
        | some dx, some dy => (ofO (cmpD op dx dy) Γ2).bind fun k Γ => match k with
          | false => freD (.bool false) Γ
          | true => (ec Γ).bind fun z Γ => match view Γ y, view Γ z with
            | some dy, some dz => (ofO (cmpD op' dy dz) Γ).bind fun k Γ => freD (.bool k) Γ
            | _, _ => .bad
        | _, _ => .bad) = Ro.ok r Γ' := e
      split at e
      · rename_i dx dy _ _
        cases e3 : cmpD op dx dy with
        | none => rw [e3] at e; cases e
        | some k =>
          rw [e3] at e
          cases k with
          | false =>
            cases e
            exact ⟨false, rfl⟩
          | true =>
            have e : ((ec Γ2).bind fun z Γ => match view Γ y, view Γ z with
              | some dy, some dz => (ofO (cmpD op' dy dz) Γ).bind fun k Γ => freD (.bool k) Γ
              | _, _ => .bad) = Ro.ok r Γ' := e
            cases e4 : ec Γ2 with
            | bad => rw [e4] at e; cases e
            | exn x Γ1 => rw [e4] at e; cases e
            | ok z Γ3 =>
              rw [e4] at e
              have e : (match view Γ3 y, view Γ3 z with
                | some dy, some dz => (ofO (cmpD op' dy dz) Γ3).bind fun k Γ => freD (.bool k) Γ
                | _, _ => .bad) = Ro.ok r Γ' := e
              split at e
              · rename_i dy' dz _ _
                cases e5 : cmpD op' dy' dz with
                | none => rw [e5] at e; cases e
                | some k =>
                  rw [e5] at e
                  cases e
                  exact ⟨k, rfl⟩
              · cases e
      · cases e
/-- .. of tests of more than one part: whatever stands for the whole -/
def isBo : Expr → Bool
  | .BoolOp .. => true
  | _ => false
theorem dw_and {t u : TT} {y z : Expr} {rest : List Expr} {pos : Pos} (ha : PT X y t) (hb : match rest with
    | [] => PT X z u
    | w :: rest => PW X (.BoolOp .And (z :: w :: rest) pos) u) : PW X (.BoolOp .And (y :: z :: rest) pos) (tAnd t u) := by
  cases rest with
  | nil => exact pw_and ha (pw_and1 hb)
  | cons w rest => exact pw_and ha hb
theorem dw_or {t u : TT} {y z : Expr} {rest : List Expr} {pos : Pos} (ha : PT X y t) (hb : match rest with
    | [] => PT X z u
    | w :: rest => PW X (.BoolOp .Or (z :: w :: rest) pos) u) : PW X (.BoolOp .Or (y :: z :: rest) pos) (tOr t u) := by
  cases rest with
  | nil => exact pw_or ha (pw_or1 hb)
  | cons w rest => exact pw_or ha hb
end
def snE (c : Cz) (e : E) : Prop := ∀ {G : Gc} {C : Cc} {X : Cx} {x : Expr}, Good G C c X → chkE e G x = true → PE X x (tE C (evE c e))
def snO (c : Cz) (o : Eo) : Prop := ∀ {G : Gc} {C : Cc} {X : Cx} {x : Option Expr}, Good G C c X → chkO o G x = true → PO X x (tT C (evO c o))
def snTo (c : Cz) (o : To) : Prop := ∀ {G : Gc} {C : Cc} {X : Cx} {x : List Expr}, Good G C c X → chkTo o G x = true → PTs X x (tT C (evTo c o))
def snT (c : Cz) (t : T) : Prop := ∀ {G : Gc} {C : Cc} {X : Cx} {x : Expr}, Good G C c X → chkT t G x = true → PT X x (tT C (evT c t)) ∧ (isBo x = true → PW X x (tT C (evT c t)))
def snEs (c : Cz) (es : Es) : Prop := ∀ {G : Gc} {C : Cc} {X : Cx} {x : List Expr}, Good G C c X → noStars x = true → chkEs es G x = true → PA X x (tA C (evEs c es))
def snI (c : Cz) (i : Iw) : Prop := ∀ {G : Gc} {C : Cc} {X : Cx} {x tg : Expr}, Good G C c X → chkI i G x = true → PI X tg x (tI C (evI c i))
variable {c : Cz}
theorem sE_var {i : Nat} : snE c (.var i) := by
  intro G C X x g h
  cases x <;> first | (cases h; done) | skip
  simp only [chkE, Bool.and_eq_true] at h
  obtain ⟨⟨h1, h2⟩, h3⟩ := h
  exact de_var (g.slot h1) (g.vis h2) (dbg1 h3).1 (dbg1 h3).2
theorem sE_con {d : D} : snE c (.con d) := by
  intro G C X x g h
  cases x <;> first | (cases h; done) | skip
  exact de_const h
theorem sE_glb {y : Str} {d : D} : snE c (.glb y d) := by
  intro G C X x g h
  cases x <;> first | (cases h; done) | skip
  simp only [chkE, Bool.and_eq_true] at h
  obtain ⟨⟨⟨h1, h2⟩, h3⟩, h4⟩ := h
  exact de_glb g h2 h3 h4
theorem sE_bin {op : Bop} {a b : E} (ia : snE c a) (ib : snE c b) : snE c (.bin op a b) := by
  intro G C X x g h
  cases x <;> first | (cases h; done) | skip
  simp only [chkE, Bool.and_eq_true] at h
  obtain ⟨⟨h1, h2⟩, h3⟩ := h
  exact de_bin g h1 (ia g h2) (ib g h3)
theorem sE_rep {a b : E} (ia : snE c a) (ib : snE c b) : snE c (.rep a b) := by
  intro G C X x g h
  cases x <;> first | (cases h; done) | skip
  rename_i l o r pos
  cases o <;> first | (cases h; done) | skip
  simp only [chkE, Bool.and_eq_true] at h
  exact PE.imp (pe_op op_rep (ia g h.1) (ib g h.2)) fun σ H Q q => tE_rep q
theorem sE_neg {a : E} (ia : snE c a) : snE c (.neg a) := by
  intro G C X x g h
  cases x <;> first | (cases h; done) | skip
  rename_i o y pos
  cases o <;> first | (cases h; done) | skip
  exact PE.imp (pe_un un_neg (ia g h)) fun σ H Q q => tE_op1 op1_neg q
theorem sE_cmp {op : Cop} {a b : E} (ia : snE c a) (ib : snE c b) : snE c (.cmp op a b) := by
  intro G C X x g h
  unfold chkE at h
  split at h
  · simp only [Bool.and_eq_true, Bool.not_eq_true'] at h
    obtain ⟨⟨⟨h1, h2⟩, h3⟩, h4⟩ := h
    exact de_cmp g h1 h2 (ia g h3) (ib g h4)
  · cases h
theorem sE_chain {op op' : Cop} {a b e : E} (ia : snE c a) (ib : snE c b) (ie : snE c e) : snE c (.chain op op' a b e) := by
  intro G C X x g h
  unfold chkE at h
  split at h
  · simp only [Bool.and_eq_true, Bool.not_eq_true'] at h
    obtain ⟨⟨⟨⟨⟨h1, h2⟩, h3⟩, h4⟩, h5⟩, h6⟩ := h
    exact (de_chain g h1 h2 h3 (ia g h4) (ib g h5) (ie g h6)).1
  · cases h
theorem sE_and {a b : E} (ia : snE c a) (ib : snE c b) : snE c (.and_ a b) := by
  intro G C X x g h
  unfold chkE at h
  split at h
  · rename_i y z rest pos
    simp only [Bool.and_eq_true] at h
    obtain ⟨h1, h2⟩ := h
    cases rest with
    | nil => exact PE.imp (pe_and (ia g h1) (pe_one (ib g h2))) fun σ H Q q => tE_and q
    | cons w rest => exact PE.imp (pe_and (ia g h1) (ib g h2)) fun σ H Q q => tE_and q
  · cases h
theorem sE_or {a b : E} (ia : snE c a) (ib : snE c b) : snE c (.or_ a b) := by
  intro G C X x g h
  unfold chkE at h
  split at h
  · rename_i y z rest pos
    simp only [Bool.and_eq_true] at h
    obtain ⟨h1, h2⟩ := h
    cases rest with
    | nil => exact PE.imp (pe_or (ia g h1) (pe_one (ib g h2))) fun σ H Q q => tE_or q
    | cons w rest => exact PE.imp (pe_or (ia g h1) (ib g h2)) fun σ H Q q => tE_or q
  · cases h
theorem sE_not {a : E} (ia : snE c a) : snE c (.not_ a) := by
  intro G C X x g h
  cases x <;> first | (cases h; done) | skip
  rename_i o y pos
  cases o <;> first | (cases h; done) | skip
  exact PE.imp (pe_not (ia g h)) fun σ H Q q => tE_not q
theorem sE_ite {t : T} {a b : E} (it : snT c t) (ia : snE c a) (ib : snE c b) : snE c (.ite t a b) := by
  intro G C X x g h
  cases x <;> first | (cases h; done) | skip
  simp only [chkE, Bool.and_eq_true] at h
  obtain ⟨⟨h1, h2⟩, h3⟩ := h
  exact PE.imp (pe_ifExp (it g h1).1 (ia g h2) (ib g h3)) fun σ H Q q => tE_ite q
theorem sE_tup {es : Es} (i : snEs c es) : snE c (.tup es) := by
  intro G C X x g h
  cases x <;> first | (cases h; done) | skip
  simp only [chkE, Bool.and_eq_true] at h
  exact PE.imp (pe_tup (i g h.1 h.2)) fun σ H Q q => tE_tup q
theorem sE_lst {es : Es} (i : snEs c es) : snE c (.lst es) := by
  intro G C X x g h
  cases x <;> first | (cases h; done) | skip
  simp only [chkE, Bool.and_eq_true] at h
  exact PE.imp (pe_lst (i g h.1 h.2)) fun σ H Q q => tE_lst q
theorem sE_sub {a b : E} (ia : snE c a) (ib : snE c b) : snE c (.sub a b) := by
  intro G C X x g h
  cases x <;> first | (cases h; done) | skip
  simp only [chkE, Bool.and_eq_true, Bool.not_eq_true'] at h
  obtain ⟨⟨h1, h2⟩, h3⟩ := h
  have q := ix_seq (X := X)
  rw [g.K] at q
  exact PE.imp (pe_ix q (ia g h2) (ib g h3) (plainIx h1)) fun σ H Q q => tE_op2 op2_sub' q
theorem sE_slc {a : E} {lo hi : Eo} (ia : snE c a) (il : snO c lo) (ih : snO c hi) : snE c (.slc a lo hi) := by
  intro G C X x g h
  unfold chkE at h
  split at h
  · simp only [Bool.and_eq_true] at h
    obtain ⟨⟨h1, h2⟩, h3⟩ := h
    have q := sl_any (X := X)
    rw [g.K] at q
    exact PE.imp (pe_slice q (ia g h1) (il g h2) (ih g h3)) fun σ H Q q => tE_slc q
  · cases h
theorem sE_call {f : Str} {es : Es} (i : snEs c es) : snE c (.call f es) := by
  intro G C X x g h
  unfold chkE at h
  split at h
  · simp only [Bool.and_eq_true, decide_eq_true_eq] at h
    obtain ⟨⟨⟨⟨⟨⟨h1, h2⟩, h3⟩, h4⟩, h5⟩, h6⟩, h7⟩ := h
    exact de_call g h1 h2 h3 h4 h5 h6 (i g h6 h7)
  · cases h
theorem sE_blt {f : Blt} {es : Es} (i : snEs c es) : snE c (.blt f es) := by
  intro G C X x g h
  unfold chkE at h
  split at h
  · simp only [Bool.and_eq_true] at h
    obtain ⟨⟨⟨h1, h2⟩, h3⟩, h4⟩ := h
    exact de_blt g h1 h2 h3 (i g h3 h4)
  · cases h
theorem sE_lc {v : Nat} {it : Iw} {t : To} {e : E} (ii : snI c it) (iT : snTo c t) (ie : snE c e) : snE c (.lc v it t e) := by
  intro G C X x g h
  unfold chkE at h
  split at h
  · rename_i elt n p iter ifs a scope pos
    simp only [Bool.and_eq_true, decide_eq_true_eq, Bool.not_eq_true'] at h
    obtain ⟨⟨⟨⟨⟨⟨⟨⟨rfl, h2⟩, h3⟩, h4⟩, h5⟩, h6⟩, h7⟩, h8⟩, h9⟩ := h
    have ok : BlkOk X.N X.env.scope scope [(n, v)] := by
      rw [g.N, g.sc]
      exact blkOk_by h3
    have hl : (G.blk scope).sc.names.lookup n = some .local := by
      split at h5
      · assumption
      · cases h5
    refine PE.imp (pe_lc (g.calm h2) g.nd (ii g h7) ok (g := gName v) (tt := tT C.shut (evTo c t)) (te := tE C.shut (evE c e)) (fun s H D cl fp => ?_) (fun s H D cl fp => iT (g.blk ok s H D cl fp) h8) (fun s H D cl fp => ie (g.blk ok s H D cl fp) h9) (noFold h6)) fun σ H Q q => tE_lc q
    have g' := g.blk ok s H D cl fp
    have e : (X.blk s H scope (compEnvC scope cl D X.env) fp).env.scope.names.lookup n = some .local := by
      rw [g'.sc]
      exact hl
    exact pg_name g'.nd (g'.slot h4) (.inl e) (.inr e)
  · cases h
theorem sO_no : snO c .no := by
  intro G C X x g h
  cases x with
  | none =>
    refine ⟨fun pins s σ H Q I q => (po_none (X := X)).run pins s σ H Q I (tO_no q)⟩
  | some y => cases h
theorem PO.imp {X : Cx} {e : Option Expr} {t t' : List (Option V) → Hp → (Option Int → Hp → Prop) → Prop} (h : PO X e t) (i : ∀ σ H Q, t' σ H Q → t σ H Q) : PO X e t' := ⟨fun pins s σ H Q I q => h.run pins s σ H Q I (i σ H Q q)⟩
theorem PTs.imp {X : Cx} {e : List Expr} {t t' : TT} (h : PTs X e t) (i : ∀ σ H Q, t' σ H Q → t σ H Q) : PTs X e t' := ⟨fun pins s σ H Q I q => h.run pins s σ H Q I (i σ H Q q)⟩
theorem sO_some {e : E} (ie : snE c e) : snO c (.some e) := by
  intro G C X x g h
  cases x with
  | none => cases h
  | some y => exact PO.imp (po_some (ie g h)) fun σ H Q q => tO_some q
theorem sTo_no : snTo c .no := by
  intro G C X x g h
  cases x with
  | nil => exact PTs.imp pts_nil fun σ H Q ⟨Γ, A, T, s, w⟩ => w H A s Stp.refl
  | cons y ys => cases h
theorem sTo_some {t : T} (it : snT c t) : snTo c (.some t) := by
  intro G C X x g h
  unfold chkTo at h
  split at h
  · exact pts_one (it g h).1
  · cases h
def snC (c : Cz) (e : E) : Prop := ∀ {G : Gc} {C : Cc} {X : Cx} {x : Expr}, Good G C c X → chkE e G x = true → isCmp x = true → PT X x (tT C (evT c (.val e)))
theorem sT_val {e : E} (ie : snE c e) (ic : snC c e) : snT c (.val e) := by
  intro G C X x g h
  unfold chkT at h
  simp only [Bool.and_eq_true, Bool.or_eq_true] at h
  obtain ⟨h1, h2⟩ := h
  rcases h2 with h2 | h2
  · refine ⟨?_, fun hb => ?_⟩
    · have q := pt_truth (ie g h1) (plainT_is h2)
      rw [g.K] at q
      exact PT.imp q fun σ H Q q => tT_tru q
    · cases x <;> first | (cases hb; done) | (cases h2; done)
  · refine ⟨ic g h1 h2, fun hb => ?_⟩
    cases x <;> first | (cases hb; done) | (cases h2; done)
theorem sC_cmp {op : Cop} {a b : E} (ia : snE c a) (ib : snE c b) : snC c (.cmp op a b) := by
  intro G C X x g h _
  unfold chkE at h
  split at h
  · simp only [Bool.and_eq_true, Bool.not_eq_true'] at h
    obtain ⟨⟨⟨h1, h2⟩, h3⟩, h4⟩ := h
    exact dt_cmp g h1 h2 (ia g h3) (ib g h4)
  · cases h
theorem sC_chain {op op' : Cop} {a b e : E} (ia : snE c a) (ib : snE c b) (ie : snE c e) : snC c (.chain op op' a b e) := by
  intro G C X x g h _
  unfold chkE at h
  split at h
  · simp only [Bool.and_eq_true, Bool.not_eq_true'] at h
    obtain ⟨⟨⟨⟨⟨h1, h2⟩, h3⟩, h4⟩, h5⟩, h6⟩ := h
    exact (de_chain g h1 h2 h3 (ia g h4) (ib g h5) (ie g h6)).2
  · cases h
/-- no comparison -/
def noCmpE : E → Bool
  | .cmp .. => false
  | .chain .. => false
  | _ => true
theorem sC_no {e : E} (hn : noCmpE e = true) : snC c e := by
  intro G C X x g h hx
  cases x <;> first | (cases hx; done) | skip
  cases e <;> first | (cases hn; done) | (unfold chkE at h; cases h; done)
theorem sT_and {a b : T} (ia : snT c a) (ib : snT c b) : snT c (.and_ a b) := by
  intro G C X x g h
  unfold chkT at h
  split at h
  · rename_i y z rest pos
    simp only [Bool.and_eq_true] at h
    obtain ⟨h1, h2⟩ := h
    have q : PW X (.BoolOp .And (y :: z :: rest) pos) (tAnd (tT C (evT c a)) (tT C (evT c b))) := by
      refine dw_and (ia g h1).1 ?_
      cases rest with
      | nil => exact (ib g h2).1
      | cons w rest => exact (ib g h2).2 rfl
    have q := PW.imp q (t' := tT C (evT c (.and_ a b))) fun σ H Q q => tT_and q
    exact ⟨q.pt, fun _ => q⟩
  · cases h
theorem sT_or {a b : T} (ia : snT c a) (ib : snT c b) : snT c (.or_ a b) := by
  intro G C X x g h
  unfold chkT at h
  split at h
  · rename_i y z rest pos
    simp only [Bool.and_eq_true] at h
    obtain ⟨h1, h2⟩ := h
    have q : PW X (.BoolOp .Or (y :: z :: rest) pos) (tOr (tT C (evT c a)) (tT C (evT c b))) := by
      refine dw_or (ia g h1).1 ?_
      cases rest with
      | nil => exact (ib g h2).1
      | cons w rest => exact (ib g h2).2 rfl
    have q := PW.imp q (t' := tT C (evT c (.or_ a b))) fun σ H Q q => tT_or q
    exact ⟨q.pt, fun _ => q⟩
  · cases h
theorem sT_not {a : T} (ia : snT c a) : snT c (.not_ a) := by
  intro G C X x g h
  cases x <;> first | (cases h; done) | skip
  rename_i o y pos
  cases o <;> first | (cases h; done) | skip
  exact ⟨PT.imp (pt_not (ia g h).1) fun σ H Q q => tT_not q, fun hb => by cases hb⟩
theorem sEs_nil : snEs c .nil := by
  intro G C X x g _ h
  cases x with
  | nil => exact da_nil
  | cons y ys => cases h
theorem sEs_cons {e : E} {es : Es} (ie : snE c e) (i : snEs c es) : snEs c (.cons e es) := by
  intro G C X x g hs h
  cases x with
  | nil => cases h
  | cons y ys =>
    simp only [chkEs, Bool.and_eq_true] at h
    obtain ⟨s1, s2⟩ := noStars_cons hs
    exact da_cons s1 (ie g h.1) (i g s2 h.2)
theorem sI_e {e : E} (ie : snE c e) : snI c (.e e) := by
  intro G C X x tg g h
  have q := pi_any (tg := tg) (ie g h)
  rw [g.K] at q
  exact PI.imp q fun σ H Q q => tI_e q
theorem sI_rng {a : E} (ia : snE c a) : snI c (.rng a) := by
  intro G C X x tg g h
  unfold chkI at h
  split at h
  · simp only [Bool.and_eq_true, Bool.not_eq_true'] at h
    obtain ⟨⟨h1, h2⟩, h3⟩ := h
    obtain ⟨rfl, hg, hm⟩ := g.blt h1
    refine PI.imp (pi_range1 hg hm (pa_cons (ia g h3) pa_nil (star_cons h2)) (star_cons h2)) fun σ H Q q => tI_rng q
  · cases h
theorem sI_rng2 {a b : E} (ia : snE c a) (ib : snE c b) : snI c (.rng2 a b) := by
  intro G C X x tg g h
  unfold chkI at h
  split at h
  · simp only [Bool.and_eq_true, Bool.not_eq_true'] at h
    obtain ⟨⟨⟨⟨h1, h2⟩, h3⟩, h4⟩, h5⟩ := h
    obtain ⟨rfl, hg, hm⟩ := g.blt h1
    refine PI.imp (pi_range2 hg hm (pa_cons (ia g h4) (pa_cons (ib g h5) pa_nil (star_cons h3)) (star_cons h2)) ?_ (star_cons h3)) fun σ H Q q => tI_rng2 q
    rw [star_cons h2, star_cons h3]
    rfl
  · cases h
mutual
theorem sndE (c : Cz) : ∀ e : E, snE c e ∧ snC c e
  | .var i => ⟨sE_var, sC_no rfl⟩
  | .con d => ⟨sE_con, sC_no rfl⟩
  | .glb y d => ⟨sE_glb, sC_no rfl⟩
  | .bin op a b => ⟨sE_bin (sndE c a).1 (sndE c b).1, sC_no rfl⟩
  | .rep a b => ⟨sE_rep (sndE c a).1 (sndE c b).1, sC_no rfl⟩
  | .neg a => ⟨sE_neg (sndE c a).1, sC_no rfl⟩
  | .cmp op a b => ⟨sE_cmp (sndE c a).1 (sndE c b).1, sC_cmp (sndE c a).1 (sndE c b).1⟩
  | .chain op op' a b e => ⟨sE_chain (sndE c a).1 (sndE c b).1 (sndE c e).1, sC_chain (sndE c a).1 (sndE c b).1 (sndE c e).1⟩
  | .and_ a b => ⟨sE_and (sndE c a).1 (sndE c b).1, sC_no rfl⟩
  | .or_ a b => ⟨sE_or (sndE c a).1 (sndE c b).1, sC_no rfl⟩
  | .not_ a => ⟨sE_not (sndE c a).1, sC_no rfl⟩
  | .ite t a b => ⟨sE_ite (sndT c t) (sndE c a).1 (sndE c b).1, sC_no rfl⟩
  | .tup es => ⟨sE_tup (sndEs c es), sC_no rfl⟩
  | .lst es => ⟨sE_lst (sndEs c es), sC_no rfl⟩
  | .sub a i => ⟨sE_sub (sndE c a).1 (sndE c i).1, sC_no rfl⟩
  | .slc a lo hi => ⟨sE_slc (sndE c a).1 (sndO c lo) (sndO c hi), sC_no rfl⟩
  | .call f es => ⟨sE_call (sndEs c es), sC_no rfl⟩
  | .blt f es => ⟨sE_blt (sndEs c es), sC_no rfl⟩
  | .lc v it t e => ⟨sE_lc (sndI c it) (sndTo c t) (sndE c e).1, sC_no rfl⟩
theorem sndO (c : Cz) : ∀ o : Eo, snO c o
  | .no => sO_no
  | .some e => sO_some (sndE c e).1
theorem sndTo (c : Cz) : ∀ t : To, snTo c t
  | .no => sTo_no
  | .some t => sTo_some (sndT c t)
theorem sndT (c : Cz) : ∀ t : T, snT c t
  | .val e => sT_val (sndE c e).1 (sndE c e).2
  | .and_ a b => sT_and (sndT c a) (sndT c b)
  | .or_ a b => sT_or (sndT c a) (sndT c b)
  | .not_ a => sT_not (sndT c a)
theorem sndEs (c : Cz) : ∀ es : Es, snEs c es
  | .nil => sEs_nil
  | .cons e es => sEs_cons (sndE c e).1 (sndEs c es)
theorem sndI (c : Cz) : ∀ i : Iw, snI c i
  | .e e => sI_e (sndE c e).1
  | .rng a => sI_rng (sndE c a).1
  | .rng2 a b => sI_rng2 (sndE c a).1 (sndE c b).1
end
end Tv
end

section
set_option Elab.async false
set_option linter.all false
set_option maxRecDepth 100000
set_option maxHeartbeats 2000000
/-! TvX: an own exception class whose __init__ hands str(x) to super().__init__ and keeps x in a field. -/
namespace PySem
namespace TvX
open PySem.W PySem.Calls PyProof.Rows PySem.HandSPX
def iA (fld : Str) (p1 p2 : Pos) : Arguments := { posonlyargs := [], args := [{ arg := "self", annotation := none, pos := p1 }, { arg := fld, annotation := none, pos := p2 }], vararg := none, kwonlyargs := [], kw_defaults := [], kwarg := none, defaults := [] }
def iB (fld : Str) (q0 q1 q2 q3 q4 q5 q6 q7 q8 q9 q10 q11 : Pos) : List Stmt := [.Expr (.Call (.Attribute (.Call (.Name "super" q0) [] [] q1) "__init__" q2) [.Call (.Name "str" q3) [.Name fld q4] [] q5] [] q6) q7, .Assign [.Attribute (.Name "self" q8) fld q9] (.Name fld q10) q11]
def iS (fld : Str) : Scope := { kind := .function, names := [("self", .local), (fld, .local), ("__class__", .free), ("super", .globalImplicit), ("str", .globalImplicit)], isGenerator := false, isCoroutine := false, more := [] }
/-- the field is called otherwise than what else stands there -/
structure Fld (fld : Str) : Prop where
  loc : (iS fld).names.lookup fld = some .local
  s1 : (iS fld).names.lookup ("self" : Str) = some .local
  s2 : (iS fld).names.lookup ("__class__" : Str) = some .free
  s3 : (iS fld).names.lookup ("super" : Str) = some .globalImplicit
  s4 : (iS fld).names.lookup ("str" : Str) = some .globalImplicit
  ne : (("self" : Str) == fld) = false
  dbg : (fld == ("__debug__" : Str)) = false
  bind : ∀ (a b : Value) (qual : Str) (p1 p2 : Pos) (body : List Stmt) (kV doc pm : Value) (an : Option Addr) (cdv ct : Value) (cc : Addr), bindArgs (ksFn "__init__" qual (iA fld p1 p2) body (iS fld) .none kV doc pm an cdv ct cc) ⟨[a, b], []⟩ = pure [(("self" : Str), a), (fld, b)]
/-- what the written part says of the class at C and of its __init__ at fI -/
structure ExT (P : Program) (K : Frag) (C fI : Addr) (fld : Str) : Prop where
  oex : L2.OexC K C
  iC : findIn K (.ref C) "__init__" = some (some (.ref fI))
  tI : typeIn K (.ref fI) = some (.type "function")
  noF : findIn K (.ref C) fld = some none
  sub : mroIn K C (.ref C) = some true
  ve : mroIn K C (.type "ValueError") = some true
  any : nsIn K cStatics "thirdparty.any" = some none
  along : ∃ cd, clsIn K C = some cd ∧ alongIn K "__init__" ((cd.mro.dropWhile (· != .ref C)).drop 1) = some (some (.builtin "ValueError.__init__"))
  fn : ∃ oc od qual kV doc pm an cda ct cc osl p1 p2 q0 q1 q2 q3 q4 q5 q6 q7 q8 q9 q10 q11,
    K.lookup fI = some ⟨oc, od, .func (ksFn "__init__" qual (iA fld p1 p2) (iB fld q0 q1 q2 q3 q4 q5 q6 q7 q8 q9 q10 q11) (iS fld) .none kV doc pm an (.ref cda) ct cc), osl⟩ ∧ codeIn K (.ref cda) qual = true ∧
    (∃ cl cld csl, K.lookup cc = some ⟨cl, cld, .cell (some (.ref C)), csl⟩) ∧
    ((q2.endLine == q6.line) = true) ∧ ∃ ccl cdd vs ccs file tf, K.lookup cda = some ⟨ccl, cdd, .fields vs, ccs⟩ ∧ vs[2]? = some (.str file tf) ∧ ((P.main.file : Str) == file) = true
  top : (P.main.scope.names.lookup ("super" : Str)).isSome = false
  fl : Fld fld

/-- what __init__ leaves of a fresh exception at x -/
structure InitEnd (h h' : Heap) (x C dx t1 : Addr) (fld : Str) (v : Value) : Prop where
  keep : ∀ b o, b ≠ x → h.get? b = some o → h'.get? b = some o
  obj : h'.get? x = some { cls := .ref C, dict := some dx, data := .fields #[.ref t1, .none, .none, .none, .bool false, .none] }
  dbig : h.objs.size ≤ dx
  dne : dx ≠ x
  ns : h'.Ns1 dx (fun y => if y = fld then some v else none)
/-- str(v) gives something, and what stood stands -/
def StrOk (prog : Program) (w : World) (h : Heap) (v : Value) : Prop := ∀ (A : Around) (Q : Value → Shared → Prop) (E : Value → Shared → Prop) (s : Shared), A.units + 66 < cLine → (∀ b o, h.get? b = some o → s.heap.get? b = some o) →
  (∀ u h' tk, (∀ b o, s.heap.get? b = some o → h'.get? b = some o) → Q u { s with heap := h', toks := tk }) → wpAny (model prog w) A (call (.type "str") [v]) Q E s
section
variable {prog : Program} {w : World} {A : Around} {E : Value → Shared → Prop} {R : Result → Shared → Prop} {s : Shared} {K : Frag} {mg mb : Str → Option Value} {C fI : Addr} {fld : Str}
theorem call_bwV {bm : List Value} {nm q : Str} {N : Addr} {bs : List Value} {sn : List Str} {sub : List Value} {ab : Bool} {col : Option Bool} {dd : Option Addr} {k0 k1 k2 k3 k5 : Option Value} {u e t0 : Addr} {rest : List Value} {Q : Value → Shared → Prop}
    (hC : s.heap.get? C = some (excClassObj nm q C N bs bm true sn sub ab col dd k0 k1 k2 k3 k5 "ValueError.__new__")) (he : s.heap.get? e = some (excO C t0)) (hu : s.heap.get? u = some (kxs_mw "ValueError.__init__" e)) (hz : rest.length ≤ sizeLine)
    (hq : ∀ h' t1, (∀ b o, b ≠ e → s.heap.get? b = some o → h'.get? b = some o) → h'.get? e = some (excO C t1) → Q .none { s with heap := h' }) :
    wpAny (model prog w) A (call (.ref u) rest) Q E s := by
  obtain ⟨hh, g, d, tk, os⟩ := s
  refine wpAny_call (codeAny_of_tree ?_)
  show wpAny _ A.in1 (callAny (.ref u) ⟨rest, []⟩) _ _ _
  simp only [callAny]
  refine wpAny_bind (wpAny_load hu ?_)
  simp only [kxs_mw, show (Value.type "method-wrapper" == Value.type "method" || Value.type "method-wrapper" == Value.type "builtin_function_or_method" || Value.type "method-wrapper" == Value.type "method-wrapper") = true by decide, if_true]
  refine KFB.if_so (by decide) ?_
  refine wpAny_bind (check_bound_init PySem.F.excBase_ValueError.toExcCallFacts hC he rfl ?_)
  refine wpAny_bind (wpAny_pure (wpAny_pure ?_))
  refine ⟨plainId_quiet PySem.F.excBase_ValueError.init.plain _, codeAny_builtin PySem.F.excBase_ValueError.initEntry ?_⟩
  exact exc_init_tree (cls := .ref C) (t0 := t0) (dv := none) (c2 := .none) (c3 := .none) (b4 := .bool false) he hz fun h' k1 k2 _ => hq h' _ k1 k2
theorem own_init (T : ExT prog K C fI fld) {x t0 : Addr} {v : Value} (X : K.In s.heap) (hlim : s.heap.NoLimit) (hG : s.heap.Ns mainGlobals mg) (hB : s.heap.Ns builtinsNs mb) (hbb : ∀ x : Str, x ≠ "__name__" → mb x = bootBuiltins x)
    (m1 : mg "super" = none) (m2 : mg "str" = none) (hx : s.heap.get? x = some (excO C t0)) (hroom : A.depth < recursionLimit) (hun : A.units + 100 < cLine) (hst : StrOk prog w s.heap v)
    (hxK : K.lookup x = none) {args : Args} (hb : ∀ fd : FuncData, (∃ oc od osl, K.lookup fI = some ⟨oc, od, .func fd, osl⟩) → BindsTo s fd args [("self", .ref x), (fld, v)])
    (hq : ∀ h' tk dx t1, InitEnd s.heap h' x C dx t1 fld v → R (.ok (.ret .none)) { s with heap := h', toks := tk }) :
    codeAny (model prog w) A (.call (.ref fI) args) R s := by
  obtain ⟨oc, od, qual, kV, doc, pm, an, cda, ct, cc, osl, p1, p2, q0, q1, q2, q3, q4, q5, q6, q7, q8, q9, q10, q11, lf, hcd, ⟨cl, cld, csl, lcc⟩, hpos, ccl, cdd, vs, ccs, file, tf, lco, hvs, hfile⟩ := T.fn
  obtain ⟨nm, q, N, bs, bm, sn, sub, ab, col, dd, k0, k1, k2, k3, k5, hC, hbm⟩ := T.oex.cls
  obtain ⟨cd, hcd1, hal⟩ := T.along
  refine ks_codeAny_call_defAt (fd := ksFn "__init__" qual (iA fld p1 p2) (iB fld q0 q1 q2 q3 q4 q5 q6 q7 q8 q9 q10 q11) (iS fld) .none kV doc pm an (.ref cda) ct cc) (body := iB fld q0 q1 q2 q3 q4 q5 q6 q7 q8 q9 q10 q11) (binds := [("self", .ref x), (fld, v)])
    hroom (X _ _ lf) rfl hlim (codeRec_of X hcd) rfl (hb _ ⟨_, _, _, lf⟩) ?_ ?_ (fun h₁ hns k₁ => ?_) rfl rfl rfl
  · intro y hy
    simp only [iS, List.mem_cons, List.not_mem_nil, or_false] at hy
    rcases hy with rfl | rfl | rfl | rfl | rfl <;> exact fun q => nomatch q
  · intro y hy
    simp only [List.mem_cons, List.not_mem_nil, or_false] at hy
    rcases hy with rfl | rfl
    · exact T.fl.s1
    · exact T.fl.loc
  generalize hL : s.heap.objs.size = L at hns
  have X1 : K.In h₁ := X.keeps k₁
  have mself : List.lookup ("self" : Str) ([(("self" : Str), Value.ref x), (fld, v)] : List (Str × Value)).reverse = some (.ref x) := by
    show List.lookup ("self" : Str) [(fld, v), (("self" : Str), Value.ref x)] = _
    simp [List.lookup, T.fl.ne]
  have mfld : List.lookup fld ([(("self" : Str), Value.ref x), (fld, v)] : List (Str × Value)).reverse = some v := by
    show List.lookup fld [(fld, v), (("self" : Str), Value.ref x)] = _
    simp [List.lookup]
  have hcl : clsIn K C = some { name := nm, bases := bs, mro := .ref C :: bm, ns := N, qualname := q, hasDict := true, slotNames := sn, subclasses := sub, abstract := ab, collection := col, hasDel := false } := by unfold clsIn; rw [hC] <;> rfl
  rw [hcl] at hcd1
  cases hcd1
  have I1 : InstAt h₁ x (excO C t0) C none := ⟨k₁ _ _ hx, rfl, rfl, trivial⟩
  have neC : x ≠ C := fun e => by rw [e, hC] at hxK; cases hxK
  refine ks_wpAt_execs_cons (ks_wpAt_Expr_any (ks_wpAt_MethodCall ?_ (Tv.eval_mcall hpos (by first | rfl | with_unfolding_all rfl))))
  refine ks_wpAt_super_base T.fl.s3 T.fl.s2 (by decide) rfl (X1 _ _ lf) rfl rfl rfl (X1 _ _ lco) rfl hvs hfile T.top ?_
  refine ks_loadName_global rfl T.fl.s3 (loadGlobal_builtin (hG.keeps k₁) m1 (hB.keeps k₁) ((hbb _ (by decide)).trans (by decide +kernel : bootBuiltins "super" = some (.type "super"))) ⟨rfl, ?_⟩)
  refine wpAny_loadName_free rfl T.fl.s2 rfl ⟨_, X1 _ _ lcc, rfl⟩ ?_
  refine wpAny_loadName_local rfl T.fl.s1 hns mself ?_
  refine ks_wpAny_isType_cls (X1 _ _ hC) rfl ⟨rfl, ?_⟩
  refine ks_wpAny_call_super (X1 _ _ hC) rfl (k₁ _ _ hx) rfl (fun c e => by cases e) (looks_mroIn X1 T.sub) (fun h₂ hso k₂ => ?_)
  have k12 : ∀ b o, s.heap.get? b = some o → h₂.get? b = some o := fun b o e => k₂ b o (k₁ b o e)
  have X2 : K.In h₂ := X.keeps k12
  have I2 : InstAt h₂ x (excO C t0) C none := ⟨k12 _ _ hx, rfl, rfl, trivial⟩
  refine kxs_getMethod kxs_ValueError hso (looks_opaque X2 T.any) ((looks_clsIn X2 hcl).andThen .now) rfl X2 hal (I2.type.andThen (looks_mroIn X2 T.ve)) neC (by decide) ?_
  have k3 : ∀ b o, h₂.get? b = some o → (h₂.push (kxs_mw "ValueError.__init__" x)).get? b = some o := fun b o e => Heap.get?_push_of_some _ e
  have hu := (Heap.get?_push_size h₂ rfl : (h₂.push (kxs_mw "ValueError.__init__" x)).get? h₂.objs.size = some (kxs_mw "ValueError.__init__" x))
  generalize hh3 : h₂.push (kxs_mw "ValueError.__init__" x) = h₃ at k3 hu ⊢
  have k13 : ∀ b o, s.heap.get? b = some o → h₃.get? b = some o := fun b o e => k3 b o (k12 b o e)
  have kL : ∀ b o, h₁.get? b = some o → h₃.get? b = some o := fun b o e => k3 b o (k₂ b o e)
  have args1 : ∀ {Q : List Value → Shared → Prop} {E : Value → Shared → Prop} {A' : Around} {g : Array GenState} {d : Drawn} {tk : Nat} {os : OsState}, A'.units + 66 < cLine →
      (∀ u h' tk, (∀ b o, h₃.get? b = some o → h'.get? b = some o) → Q [u] ⟨h', g, d, tk, os⟩) →
      wpAny (model prog w) A' (spliced (backTo q6 (starEach [.Call (.Name "str" q3) [.Name fld q4] [] q5] (callEnv (ksFn "__init__" qual (iA fld p1 p2) (iB fld q0 q1 q2 q3 q4 q5 q6 q7 q8 q9 q10 q11) (iS fld) .none kV doc pm an (.ref cda) ct cc) L fI)))) Q E ⟨h₃, g, d, tk, os⟩ := by
    intro Q E A' g d tk os hun q
    refine Calls.spliced_cons (Call_ (wpAny_Name (ks_loadName_global rfl T.fl.s4 (loadGlobal_builtin (hG.keeps k13) m2 (hB.keeps k13) ((hbb _ (by decide)).trans (by decide +kernel : bootBuiltins "str" = some (.type "str"))) ?_)) (by decide)))
    refine PyProof.Rows.callWith_type1 (Calls.spliced_cons ?_)
    refine wpAny_Name (wpAny_loadName_local rfl T.fl.loc (hns.keeps kL) mfld (Calls.spliced_nil ?_)) T.fl.dbg
    exact hst _ _ _ _ hun k13 fun u h' tk k => Calls.spliced_nil (q u h' tk k)
  show wpAny _ _ (callWith q6 (.ref h₂.objs.size) [] (backTo q6 (starEach [.Call (.Name "str" q3) [.Name fld q4] [] q5] _)) []) _ _ _
  refine kxs_callWith (i := "ValueError.__init__") (x := x) (by first | rfl | with_unfolding_all rfl) (evalArgs_plain ?_)
  refine args1 (by show A.units + 3 + 66 < cLine; omega) fun u h₄ tk k₄ => ⟨k₄ _ _ hu, ?_⟩
  have k14 : ∀ b o, s.heap.get? b = some o → h₄.get? b = some o := fun b o e => k₄ b o (k13 b o e)
  refine call_bwV (k14 _ _ (X _ _ hC)) (k14 _ _ hx) (k₄ _ _ hu) (by show 1 ≤ sizeLine; decide) fun h₅ t1 k₅ hx₅ => ?_
  have k15 : ∀ b o, b ≠ x → s.heap.get? b = some o → h₅.get? b = some o := fun b o hb e => k₅ b o hb (k14 b o e)
  have kL5 : ∀ b o, b ≠ x → h₁.get? b = some o → h₅.get? b = some o := fun b o hb e => k₅ b o hb (k₄ b o (kL b o e))
  have neL : L ≠ x := fun e => by
    rw [← hL] at e
    have q := Heap.lt_size hx
    rw [e] at q
    exact absurd q (Nat.lt_irrefl _)
  have hns5 : h₅.Ns L (fun y => List.lookup y ([(("self" : Str), Value.ref x), (fld, v)] : List (Str × Value)).reverse) := by
    obtain ⟨oL, es, ep, hL1, r⟩ := hns
    exact ⟨oL, es, ep, kL5 _ _ neL hL1, r⟩
  have X5 : K.In h₅ := fun b o e => k15 b o (fun q => by rw [q, hxK] at e; cases e) (X b o e)
  refine wpAt_of_wpAny (wpAny_execs_cons (plainObj_wpAny_Assign_Attribute ?_))
  refine wpAny_Name (wpAny_loadName_local rfl T.fl.loc hns5 mfld ?_) T.fl.dbg
  refine wpAny_Name (wpAny_loadName_local rfl T.fl.s1 hns5 mself ?_) (by decide)
  refine set_plain X5 (ox := excO C t1) (od := none) ⟨hx₅, rfl, rfl, trivial⟩ T.oex.sa ?_
  refine exc_osa X5 hx₅ hcl (show refsVE (.ref C :: bm) = true from hbm) rfl T.noF (fun h₆ tk₆ dx k₆ dn dne hx₆ hn₆ => ?_)
  refine wpAny_execs_nil (hq h₆ tk₆ dx t1 ⟨fun b o hb e => k₆ b o hb (k15 b o hb e), hx₆, by rw [hL]; exact Nat.le_trans (Nat.le_of_lt hns5.lt) dn, dne, hn₆⟩)
end
theorem fld_why : Fld "why" := ⟨by decide, by decide, by decide, by decide, by decide, by decide, by decide, fun _ _ _ _ _ _ _ _ _ _ _ _ _ => by first | rfl | with_unfolding_all rfl | kernel_rfl⟩
theorem fld_part : Fld "part" := ⟨by decide, by decide, by decide, by decide, by decide, by decide, by decide, fun _ _ _ _ _ _ _ _ _ _ _ _ _ => by first | rfl | with_unfolding_all rfl | kernel_rfl⟩
theorem fld_path : Fld "path" := ⟨by decide, by decide, by decide, by decide, by decide, by decide, by decide, fun _ _ _ _ _ _ _ _ _ _ _ _ _ => by first | rfl | with_unfolding_all rfl | kernel_rfl⟩
end TvX
end PySem
end

section
set_option Elab.async false
set_option linter.all false
set_option maxRecDepth 100000
set_option maxHeartbeats 2000000
/-! TvX2: raise C(e) of an own exception class. -/
namespace Tv
open PySem PySem.Spec PyProof.Rows L2 PySem.TvX

/-- what an exception may be made of -/
def XVal (v : V) (H : Hp) : Prop := ∃ z, v = .str z
theorem XVal.strOk {prog : Program} {w : World} {h : Heap} {v : V} {u : Value} {H : Hp} (x : XVal v H) (r : RelV v u) : StrOk prog w h u := by
  obtain ⟨z, rfl⟩ := x
  obtain ⟨t, rfl⟩ := r
  intro A Q E s hu hk q
  refine PySem.P.str_of_str ?_
  obtain ⟨hp, g, d, tk, os⟩ := s
  exact q _ _ _ fun _ _ e => e
/-- what __init__ promises -/
def spI (C : Addr) (fld : Str) : Sp := fun vs H Q _ => ∃ a y, vs = [.ref a, y] ∧ H a = some (exo a C none) ∧ XVal y H ∧ ∀ dx, H dx = none → dx ≠ a → Q .non (upd (upd H dx (exd dx [(fld, y)])) a (exo a C (some dx)))
theorem init_ok {P : Program} {w : World} {K : PySem.W.Frag} {mg : Str → Option Value} {base : Heap} {CX : CXT} {C fI : Addr} {fld : Str} (T : ExT P K C fI fld) (m1 : mg "super" = none) (m2 : mg "str" = none) :
    ∃ fd, FnOk P w K mg base CX 0 fI fd ["self", fld] (spI C fld) ∧ Binds K fd ["self", fld] [] := by
  obtain ⟨oc, od, qual, kV, doc, pm, an, cda, ct, cc, osl, p1, p2, q0, q1, q2, q3, q4, q5, q6, q7, q8, q9, q10, q11, lf, hrest⟩ := T.fn
  refine ⟨PySem.W.ksFn "__init__" qual (iA fld p1 p2) (iB fld q0 q1 q2 q3 q4 q5 q6 q7 q8 q9 q10 q11) (iS fld) .none kV doc pm an (.ref cda) ct cc, ⟨fun vs H Q E h => ?_, fun A outer s H args us vs Q E hr e0 hb r hsp => ?_⟩, .all fun us hl => ?_⟩
  · obtain ⟨a, y, rfl, _⟩ := h
    rfl
  · obtain ⟨x, y, rfl, hx, xv, q⟩ := hsp
    cases r with
    | @cons _ u0 _ ur ra rr =>
      obtain rfl : u0 = Value.ref x := ra
      cases rr with
      | @cons _ u1 _ ur2 ry rn =>
        cases rn
        have bs := e0.bs
        have bk : ∀ b o, base.get? b = some o → s.heap.get? b = some o := fun b o e => (bs b o e).1
        obtain ⟨t0, ho⟩ := exo_at e0.hok hx
        obtain ⟨mb, hB, hbb⟩ := e0.mod.blt
        have hxK : K.lookup x = none := by
          cases e : K.lookup x with
          | none => rfl
          | some o =>
            have := (bs _ _ (e0.mod.kin _ _ e)).2
            rw [hx] at this
            cases this
        refine own_init (t0 := t0) (v := u1) T (e0.mod.kin.keeps bk) (e0.mod.nolimit.keeps bk) (e0.mod.glob.keeps bk) (hB.keeps bk) hbb m1 m2 ho hr.depth (by have := hr.un; omega) (xv.strOk ry) hxK (fun fd h => ?_) fun h' tk dx t1 e => ?_
        · obtain ⟨oc', od', osl', l2⟩ := h
          rw [lf] at l2
          cases l2
          exact hb
        · have dn := e.dbig
          have hnd : H dx = none := e0.hok.fresh dn
          have nd : ∀ {b : Addr} {o : Obj}, s.heap.get? b = some o → b ≠ dx := fun {b o} q => Nat.ne_of_lt (Nat.lt_of_lt_of_le (Heap.lt_size q) dn)
          have na : ∀ {b : Addr}, H b = none → b ≠ x := fun {b} n z => by
            rw [z, hx] at n
            cases n
          refine ⟨.non, upd (upd H dx (exd dx [(fld, y)])) x (exo x C (some dx)), rfl, e0.bare, ?_, fun b o q => ?_, rfl, q dx hnd e.dne⟩
          · exact {
              keep := fun b o q n _ _ => e.keep b o (na n) q
              slot := fun b o q n _ _ => ⟨o.slots, e.keep b o (na n) q⟩
              free := fun b o q n _ => by rw [upd_ne (na n), upd_ne (nd q)]; exact n
              there := fun b o q _ => by
                by_cases hb : b = x
                · exact ⟨_, by rw [hb]; exact e.obj⟩
                · exact ⟨o, e.keep b o hb q⟩
              tups := fun b xs q => by rw [upd_ne (at_ne hx q exo_tup), upd_ne (ne_of_none q hnd)]; exact q
              frzs := fun b o v q => by rw [upd_ne (at_ne hx q exo_frz), upd_ne (ne_of_none q hnd)]; exact q
              tbls := fun b ps q => ⟨#[], by rw [upd_ne (at_ne hx q exo_tbl), upd_ne (ne_of_none q hnd), q]; simp⟩ }
          · by_cases hb : b = x
            · subst hb
              rw [upd_same] at q
              cases q
              exact exo_ok e.obj
            · rw [upd_ne hb] at q
              by_cases hd : b = dx
              · subst hd
                rw [upd_same] at q
                cases q
                exact exd_ok e.ns (relO_put (fs := []) (mA := fun _ => none) ry fun g => True.intro)
              · rw [upd_ne hd] at q
                exact (e0.hok b o q).stay (fun c v hc z => e.keep c v (by
                    rcases hc with hc | hc
                    · rw [hc]
                      exact hb
                    · exact at_ne hx hc exo_own) z)
                  (fun c hc => by rw [upd_ne (at_ne hx hc exo_own), upd_ne (ne_of_none hc hnd)]; exact hc) (fun c xs hc => by rw [upd_ne (at_ne hx hc exo_tup), upd_ne (ne_of_none hc hnd)]; exact hc)
  · match us, hl with
    | [a, b], _ => exact T.fl.bind a b _ _ _ _ _ _ _ _ _ _ _
end Tv
end

section
set_option Elab.async false
set_option linter.all false
set_option maxRecDepth 100000
set_option maxHeartbeats 2000000
/-! TvR: raise and try, by what they come to. -/
namespace Tv
open PySem PySem.Spec PyProof.Rows L2 PySem.TvX

section
variable {C : Cc} {σ : List (Option V)} {H : Hp} {Dn : Ends} {ea : Env → Ro R} {eb es : Env → So} {x : Str}
theorem del_upd2 {H1 : Hp} {a dx : Addr} {o u p q : HO} (h : H1 a = none) (ne : dx ≠ a) : upd (del (upd (upd (upd H1 a o) dx u) a p) a) dx q = upd H1 dx q := by
  funext b
  by_cases hb : b = dx
  · rw [hb, upd_same, upd_same]
  · rw [upd_ne hb, upd_ne hb]
    by_cases ha : b = a
    · rw [ha, del_same, h]
    · rw [del_ne ha, upd_ne ha, upd_ne hb, upd_ne ha]
theorem tS_rse {a : Addr} (hm : C.mg x = some (.ref a)) (h : tS C (fun Γ => (ea Γ).so fun r Γ => (asD r Γ).so fun d Γ => if xokD d then .exn ⟨x, d⟩ Γ else .bad) Dn σ H) :
    tMkO a (spI a (C.fld x)) [] (tCons (tE C ea) tNil) σ H fun cls d H' => C.W cls d σ H' := by
  refine tS_one (Dn := Dn) (r := fun v H1 => tNil σ H1 fun xs H2 => ([v] ++ xs).length ≤ 1000 ∧ ∀ b, H2 b = none → spI a (C.fld x) (.ref b :: (([v] ++ xs) ++ [])) (upd H2 b (exo b a none))
      (fun v H3 => v = .non ∧ ∃ (d : Addr) (fs : List (Str × V)), H3 b = some (exo b a (some d)) ∧ H3 d = some (exd d fs) ∧ H2 d = none ∧ C.W (.ref a) (some d) σ (upd (del H3 b) d (.xd fs))) (fun _ _ _ => False))
    (k := fun r Γ => (asD r Γ).so fun d Γ => if xokD d then .exn ⟨x, d⟩ Γ else .bad) (fun {Γ2 A T H0 A0 B H2 v y} s rr st w => ?_) h
  refine tS_tree (Dn := Dn) (r := fun v H1 => tNil σ H1 fun xs H2 => ([v] ++ xs).length ≤ 1000 ∧ ∀ b, H2 b = none → spI a (C.fld x) (.ref b :: (([v] ++ xs) ++ [])) (upd H2 b (exo b a none))
      (fun v H3 => v = .non ∧ ∃ (d : Addr) (fs : List (Str × V)), H3 b = some (exo b a (some d)) ∧ H3 d = some (exd d fs) ∧ H2 d = none ∧ C.W (.ref a) (some d) σ (upd (del H3 b) d (.xd fs))) (fun _ _ _ => False))
    (fun {Γ2 A T H0 A0 H2 v d} s rp st w => ?_) s rr st w
  split at w
  · rename_i hx
    refine ⟨by show 1 ≤ 1000; omega, fun b hb => ⟨b, v, rfl, upd_same, ?_, fun dx hdx ne => ⟨rfl, dx, _, upd_same, by rw [upd_ne ne, upd_same], ?_, ?_⟩⟩⟩
    · cases d <;> first | (cases hx; done) | skip
      cases rp
      exact ⟨_, rfl⟩
    · rw [upd_ne ne] at hdx
      exact hdx
    · rw [upd_ne ne] at hdx
      rw [del_upd2 hb ne]
      have w : ∀ cls d' σ' H', XPst C σ' H0 A0 T Γ2 ⟨x, d⟩ cls d' H' → C.W cls d' σ' H' := w
      exact w _ _ σ _ ⟨A, a, dx, v, hm, rfl, rfl, s.new hdx, out_new hdx (s.fresh hdx), rp.mono (Stp.exF (Stp.new hdx)), st.trans (Stp.new hdx)⟩
  · exact w.elim
/-- another wish about exceptions -/
abbrev Cc.wish (C : Cc) (W : WX) : Cc := { C with W := W }
theorem tS_tr0 {sub : Str → Str → Option Bool} {K : PySem.W.Frag} {cv : Value} {C2 : Cc} (hC : C2.Z = C.Z) (hs : ∀ y k a, C.mg y = some (.ref a) → sub y x = some k → PySem.W.exmOne K (.ref a) cv = some k)
    (h : tS C (fun Γ => match eb Γ with
      | .exn y Γ => match sub y.cls x with
        | some true => es Γ
        | some false => .exn y Γ
        | none => .bad
      | r => r) Dn σ H) (hex : ∀ Γ y Γ', es Γ ≠ .exn y Γ') : tS (C.wish (wOnly K cv (fun _ _ _ => tS C2 es) C.W Dn)) eb Dn σ H := by
  obtain ⟨Γ, A, T, s, w⟩ := h
  dsimp only at w
  refine ⟨Γ, A, T, s, ?_⟩
  cases e : eb Γ with
  | next Γ1 => rw [e] at w; exact w
  | brk Γ1 => rw [e] at w; exact w
  | cnt Γ1 => rw [e] at w; exact w
  | ret ow Γ1 => rw [e] at w; exact w
  | bad => rw [e] at w; exact w
  | exn y Γ1 =>
    rw [e] at w
    dsimp only at w
    intro cls d σ' H' p
    obtain ⟨A', a, dd, v, h0, h1, h2, h3, h4, h5, h6⟩ := p
    cases es1 : sub y.cls x with
    | none => rw [es1] at w; exact w.elim
    | some k =>
      rw [es1] at w
      have hk := hs y.cls k a h0 es1
      subst h1
      refine ⟨k, hk, fun e => ?_, fun e => ?_⟩
      · subst e
        intro b hb
        have s3 : Ste C2.Z σ' H' Γ1 A' T := by rw [hC]; exact h3
        refine ⟨Γ1, A', T, s3, ?_⟩
        have w : WpS C H A T (es Γ1) Dn := w
        have w := w.back h6
        cases e2 : es Γ1 with
        | next Γ2 =>
          rw [e2] at w
          intro σ2 H2 A2 s2 st2
          exact w σ2 H2 A2 (by rw [← hC]; exact s2) st2
        | brk Γ2 =>
          rw [e2] at w
          intro σ2 H2 A2 s2 st2
          exact w σ2 H2 A2 (by rw [← hC]; exact s2) st2
        | cnt Γ2 =>
          rw [e2] at w
          intro σ2 H2 A2 s2 st2
          exact w σ2 H2 A2 (by rw [← hC]; exact s2) st2
        | ret ow Γ2 =>
          rw [e2] at w
          intro v σ2 H2 A2 B s2 r2 st2
          exact w v σ2 H2 A2 B (by rw [← hC]; exact s2) (by rw [← hC]; exact r2) st2
        | exn y2 Γ2 => exact absurd e2 (hex _ _ _)
        | bad => rw [e2] at w; exact w
      · subst e
        exact w _ _ _ _ ⟨A', a, dd, v, h0, rfl, h2, h3, h4, h5, h6⟩
end
end Tv
end

section
set_option Elab.async false
set_option linter.all false
set_option maxRecDepth 100000
set_option maxHeartbeats 4000000
/-! TvD3: what the look finds is so: statements. -/
namespace Tv
open PySem PySem.Spec PyProof.Rows L2 PySem.TvX

structure GoodS (G : Gc) (C : Cc) (c : Cz) (X : Cx) : Prop extends Good G C c X where
  own : PassesOwn (model X.prog X.w) X.A X.env X.xe
  stack : X.stack = X.env :: X.outer
  fr : X.env.frame = some X.env.locals
  room : G.calm = true → Room 1 X.A
  xc : ∀ x ∈ G.xc, ∃ a fI, C.mg x = some (.ref a) ∧ ExT X.prog C.Z.K a fI (C.fld x)
  m1 : C.mg "super" = none
  m2 : C.mg "str" = none
  sb : ∀ y x k a b, C.mg y = some (.ref a) → C.mg x = some (.ref b) → c.sub y x = some k → PySem.W.exmOne C.Z.K (.ref a) (.ref b) = some k

section
variable {G : Gc} {C : Cc} {c : Cz} {X : Cx}
theorem Good.wish {W : WX} {pn : List (Addr × Obj)} {xe : Value → Shared → Prop} (g : Good G C c X) (tk : Takes (X.tr pn xe) W) : Good G (C.wish W) c (X.tr pn xe) where
  K := g.K
  mg := g.mg
  N := g.N
  sc := g.sc
  nd := g.nd
  kd := g.kd
  calm := g.calm
  fn := g.fn
  tk := tk
  u64 := g.u64
  un := g.un
  cs := g.cs
  df := g.df
theorem GoodS.wish {W : WX} {pn : List (Addr × Obj)} {xe : Value → Shared → Prop} (g : GoodS G C c X) (tk : Takes (X.tr pn xe) W) (ow : PassesOwn (model X.prog X.w) X.A X.env xe) : GoodS G (C.wish W) c (X.tr pn xe) where
  toGood := g.toGood.wish tk
  own := ow
  stack := g.stack
  fr := g.fr
  room := g.room
  xc := g.xc
  m1 := g.m1
  m2 := g.m2
  sb := g.sb
/-- what a suite knows -/
abbrev Gc.still (G : Gc) : Gc := { G with calm := false }
theorem GoodS.suite (g : GoodS G C c X) (a : Addr) (pn : List (Addr × Obj)) : GoodS G.still (C.wish fun _ _ _ _ => False) c (X.suite a pn) where
  K := g.K
  mg := g.mg
  N := g.N
  sc := g.sc
  nd := g.nd
  kd := g.kd
  calm := fun h => by cases h
  fn := g.fn
  tk := fun u s' ⟨a, B, sI, pins, σ, H, cls, d, e, I, nb, up, sky, na, os, ag, w⟩ => w
  u64 := g.u64
  un := g.un
  cs := g.cs
  df := fun h => by cases h
  own := PassesOwn.never
  stack := g.stack
  fr := g.fr
  room := fun h => by cases h
  xc := g.xc
  m1 := g.m1
  m2 := g.m2
  sb := g.sb
/-! ### targets -/
theorem dg_one (g : Good G C c X) {i : Nat} {n : Str} {p : Pos} (h1 : slotC G i n = true) (h2 : locC G n = true) : PG X (.Name n p) (gName i) := pg_name g.nd (g.slot h1) (g.loc h2).1 (g.loc h2).2
theorem name_each {n : Str} {p : Pos} {es : List Expr} {env : PySem.Env} : assignEach (.Name n p :: es) env = (false, assign (.Name n p) env) :: assignEach es env := rfl
theorem dg_names (g : Good G C c X) : ∀ {is : List Nat} {xs : List Expr}, chkNames is G xs = true → PGs X xs (gsNames is) ∧ (assignEach xs X.env).length = is.length ∧ (assignEach xs X.env).findIdx? (·.1) = none
  | [], xs, h => by
    cases xs with
    | nil => exact ⟨pgs_nil, rfl, rfl⟩
    | cons y ys => cases h
  | i :: is, xs, h => by
    unfold chkNames at h
    split at h
    · rename_i n p ys
      simp only [Bool.and_eq_true] at h
      obtain ⟨⟨h1, h2⟩, h3⟩ := h
      obtain ⟨q1, q2, q3⟩ := dg_names g h3
      refine ⟨pgs_cons (dg_one g h1 h2) q1, by rw [name_each, List.length_cons, q2, List.length_cons], ?_⟩
      rw [name_each, List.findIdx?_cons, q3]
      rfl
    · cases h
theorem dg (g : Good G C c X) {t : Tg} {x : Expr} (h : chkTg G t x = true) : PG X x (gTg C.Z.K t) := by
  unfold chkTg at h
  split at h
  · simp only [Bool.and_eq_true] at h
    exact dg_one g h.1 h.2
  · rename_i is xs k p
    simp only [Bool.and_eq_true] at h
    obtain ⟨q1, q2, q3⟩ := dg_names g h.2
    have q := pg_tup (k := k) (pos := p) (g.calm h.1) q1 q2 q3
    rw [g.K] at q
    exact q
  · cases h
/-! ### stores -/
theorem stores1 {tg x : Expr} {env : PySem.Env} (h : isSeqE tg = false) : swappedStores [tg] x env = pure none := by
  cases tg <;> first | (cases h; done) | (cases x <;> rfl)
theorem stores2 {tg x : Expr} {env : PySem.Env} (h : isTupE x = false) : swappedStores [tg] x env = pure none := by
  cases x <;> first | (cases h; done) | (cases tg <;> rfl)
theorem plain_stores {tg x : Expr} {env : PySem.Env} (h : plainAsg tg x = true) : swappedStores [tg] x env = pure none := by
  unfold plainAsg at h
  simp only [Bool.or_eq_true, Bool.not_eq_true'] at h
  exact h.elim stores1 stores2
theorem tg_each {g : Gc} {t : Tg} {x : Expr} (h : chkTg g t x = true) {env : PySem.Env} : (assignEach [x] env).map (·.2) = [assign x env] := by
  unfold chkTg at h
  split at h
  · rfl
  · rfl
  · cases h
theorem swap_comp {x : Expr} {t : Option Expr} {l : Nat} {env : PySem.Env} (h : isComp x = false) : swapsWith x t l env = pure false := by
  cases x <;> first | rfl | cases h
theorem no_swap (g : Good G C c X) {tg x : Expr} {l : Nat} (h : noSwap G tg x = true) : swapsWithSole [tg] x l X.env = pure false := by
  show swapsWith x (some tg) l X.env = pure false
  unfold noSwap at h
  split at h
  · rename_i y py elt gs scope pos
    have hb : X.env.blockKind = .function := by unfold Env.blockKind; rw [g.kd]; rfl
    unfold swapsWith
    have e : (X.env.blockKind == .function && X.env.kindOf y == some .local && py.line == (Expr.ListComp elt gs scope pos).pos.line && !(scope.names.any fun (n, k) => n == y && (k == .local || k == .cell))) = false := by
      rw [hb]
      have e1 : X.env.kindOf y = G.sc.names.lookup y := by
        show X.env.scope.names.lookup y = _
        rw [g.sc]
      rw [e1]
      show (true && (G.sc.names.lookup y == some .local) && py.line == pos.line && _) = false
      cases e2 : G.sc.names.lookup y with
      | none => rfl
      | some k =>
        rw [e2] at h
        cases k <;> first | rfl | skip
        generalize (scope.names.any fun (n, k) => n == y && (k == .local || k == .cell)) = b at h ⊢
        generalize (py.line == pos.line) = b2 at h ⊢
        cases b <;> cases b2 <;> first | rfl | cases h
    dsimp only
    rw [e]
  · exact swap_comp (by simpa using h)
/-! ### statements -/
def snS (c : Cz) (s : S) : Prop := ∀ {G : Gc} {C : Cc} {X : Cx} {x : Stmt}, GoodS G C c X → chkS s G x = true → PS X x (tS C (evS c s))
def snSs (c : Cz) (s : Ss) : Prop := ∀ {G : Gc} {C : Cc} {X : Cx} {x : List Stmt}, GoodS G C c X → chkSs s G x = true → PSs X x (tS C (evSs c s))
end
variable {c : Cz}
theorem sS_asg {g : Tg} {e : E} : snS c (.asg g e) := by
  intro G C X x gd h
  unfold chkS at h
  split at h
  · rename_i tg y pos
    simp only [Bool.and_eq_true, Bool.or_eq_true] at h
    obtain ⟨⟨⟨h1, h2⟩, h3⟩, h4⟩ := h
    have he := (sndE c e).1 gd.toGood h2
    rcases h4 with h4 | h4
    · refine PS.imp (ps_asg he (dg gd.toGood h1) (no_swap gd.toGood h4) (plain_stores h3) (tg_each h1)) fun D σ H q => ?_
      cases g with
      | one i => exact tS_asg q
      | many is => exact tS_asgT q (by intro i e; cases e)
    · unfold sameLine at h4
      split at h4
      · rename_i y0 py elt gs scope cpos
        simp only [Bool.and_eq_true, Bool.not_eq_true'] at h4
        obtain ⟨⟨l1, l2⟩, l3⟩ := h4
        have hy : X.env.scope.names.lookup y0 = some .local := by
          rw [gd.sc]
          split at l2
          · assumption
          · cases l2
        cases g with
        | many is => cases h1
        | one i =>
          simp only [chkTg, Bool.and_eq_true] at h1
          cases e <;> first | (cases h2; done) | skip
          rename_i v it t e
          unfold chkE at h2
          split at h2
          · rename_i elt' n p iter ifs a scope' pos' heq
            cases heq
            simp only [Bool.and_eq_true, decide_eq_true_eq, Bool.not_eq_true'] at h2
            obtain ⟨⟨⟨⟨⟨⟨⟨⟨rfl, k2⟩, k3⟩, k4⟩, k5⟩, k6⟩, k7⟩, k8⟩, k9⟩ := h2
            have ok : BlkOk X.N X.env.scope scope [(n, v)] := by
              rw [gd.N, gd.sc]
              exact blkOk_by k3
            have hl : (G.blk scope).sc.names.lookup n = some .local := by
              split at k5
              · assumption
              · cases k5
            refine PS.imp (ps_setLc (gd.calm k2) gd.nd (gd.slot h1.1) hy (sw_true gd.kd hy l1 l3) (sndI c it gd.toGood k7) ok (g := gName v) (tt := tT C.shut (evTo c t)) (te := tE C.shut (evE c e)) (fun s H D cl fp => ?_) (fun s H D cl fp => sndTo c t (gd.toGood.blk ok s H D cl fp) k8) (fun s H D cl fp => (sndE c e).1 (gd.toGood.blk ok s H D cl fp) k9) (noFold k6)) fun D σ H q => tE_lc (tS_asg (ea := evE c (.lc v it t e)) q)
            have g' := gd.toGood.blk ok s H D cl fp
            have e : (X.blk s H scope (compEnvC scope cl D X.env) fp).env.scope.names.lookup n = some .local := by
              rw [g'.sc]
              exact hl
            exact pg_name g'.nd (g'.slot k4) (.inl e) (.inr e)
          · cases h2
      · cases h4
  · cases h
theorem sS_app {i : Nat} {e : E} : snS c (.app i e) := by
  intro G C X x gd h
  unfold chkS at h
  split at h
  · rename_i n p m apos y cpos pos
    simp only [Bool.and_eq_true, Bool.not_eq_true', decide_eq_true_eq] at h
    obtain ⟨⟨⟨⟨⟨⟨h1, h2⟩, h3⟩, rfl⟩, h5⟩, h6⟩, h7⟩ := h
    have he := (sndE c e).1 gd.toGood h7
    have q := pe_bm PySem.F.plainAttrs_list PySem.F.slot_list_append PySem.F.type_list_append (mt_append (X := X)) (pe_var (pos := p) (gd.slot h1) (gd.vis h2) (dbg1 h3).1 (dbg1 h3).2) (pa_cons he pa_nil (star_cons h6)) (apos := apos) (cpos := cpos) rfl
      (by rw [star_cons h6]; rfl) h5 (star_cons h6) rfl
    rw [gd.K] at q
    exact PS.imp (ps_expr q (swap_comp rfl)) fun D σ H q => tS_app q
  · cases h
theorem sS_expr {e : E} : snS c (.expr e) := by
  intro G C X x gd h
  unfold chkS at h
  split at h
  · simp only [Bool.and_eq_true, Bool.not_eq_true'] at h
    exact PS.imp (ps_expr ((sndE c e).1 gd.toGood h.2) (swap_comp h.1)) fun D σ H q => tS_expr q
  · cases h
theorem sS_ret {e : E} : snS c (.ret e) := by
  intro G C X x gd h
  unfold chkS at h
  split at h
  · exact PS.imp (ps_ret ((sndE c e).1 gd.toGood h)) fun D σ H q => tS_ret q
  · cases h
theorem sS_retN : snS c .retN := by
  intro G C X x gd h
  unfold chkS at h
  split at h
  · exact PS.imp ps_retN fun D σ H q => tS_retN q
  · cases h
theorem sS_ite {t : T} {a b : Ss} (ia : snSs c a) (ib : snSs c b) : snS c (.ite t a b) := by
  intro G C X x gd h
  unfold chkS at h
  split at h
  · simp only [Bool.and_eq_true] at h
    obtain ⟨⟨h1, h2⟩, h3⟩ := h
    exact PS.imp (ps_if (sndT c t gd.toGood h1).1 (ia gd h2) (ib gd h3)) fun D σ H q => tS_ite q
  · cases h
theorem sS_whl {t : T} {b : Ss} (ib : snSs c b) : snS c (.whl t b) := by
  intro G C X x gd h
  unfold chkS at h
  split at h
  · simp only [Bool.and_eq_true] at h
    exact PS.imp (ps_while gd.own (sndT c t gd.toGood h.1).1 (ib gd h.2)) fun D σ H q => tS_whl q
  · cases h
theorem sS_for {g : Tg} {it : Iw} {b : Ss} (ib : snSs c b) : snS c (.for_ g it b) := by
  intro G C X x gd h
  unfold chkS at h
  split at h
  · simp only [Bool.and_eq_true, Bool.not_eq_true'] at h
    obtain ⟨⟨⟨⟨h1, h2⟩, h3⟩, h4⟩, h5⟩ := h
    exact PS.imp (ps_for gd.own (gd.calm h1) (sndI c it gd.toGood h3) (dg gd.toGood h2) (ib gd h5) (noFold h4)) fun D σ H q => tS_for q
  · cases h
theorem sS_brk : snS c .brk := by
  intro G C X x gd h
  unfold chkS at h
  split at h
  · exact PS.imp ps_break fun D σ H q => tS_brk q
  · cases h
theorem sS_cnt : snS c .cnt := by
  intro G C X x gd h
  unfold chkS at h
  split at h
  · exact PS.imp ps_continue fun D σ H q => tS_cnt q
  · cases h
theorem sS_pass : snS c .pass := by
  intro G C X x gd h
  unfold chkS at h
  split at h
  · exact PS.imp ps_pass fun D σ H q => tS_nil q
  · exact PS.imp ps_doc fun D σ H q => tS_nil q
  · cases h
theorem sS_rse {k : Str} {e : E} : snS c (.rse k e) := by
  intro G C X x gd h
  unfold chkS at h
  split at h
  · simp only [Bool.and_eq_true, Bool.not_eq_true', decide_eq_true_eq] at h
    obtain ⟨⟨⟨⟨⟨⟨rfl, h2⟩, h3⟩, h4⟩, h5⟩, h6⟩, h7⟩ := h
    have he := (sndE c e).1 gd.toGood h7
    obtain ⟨a, fI, hm, T⟩ := gd.xc _ (by simpa using h4)
    have T' := T
    rw [← gd.K] at T
    obtain ⟨fd, F, hb⟩ := init_ok (w := X.w) (base := X.base) (CX := L2.CX X.prog X.w) T (mg := X.mg) (by rw [gd.mg]; exact gd.m1) (by rw [gd.mg]; exact gd.m2)
    rename_i n p y pos pos2
    have q := pmk_oex (p := p) (pos := pos) T.oex T.iC T.tI F (gd.room h5) hb .nil (passes_call (E := fun _ _ _ => False) gd.tk fun _ _ _ _ z => z.elim) (gd.gl h2) (by rw [gd.mg]; exact hm) (pa_cons he pa_nil (star_cons h6)) (dbg1 h3).1 (star_cons h6) rfl
    exact PS.imp (ps_raise (gd.calm h5) gd.tk q) fun D σ H q => tS_rse hm q
  · cases h
theorem tS_shut {C : Cc} {es : Env → So} {D : Ends} {σ : List (Option V)} {H : Hp} (h : tS C (fun Γ => (es Γ).shut) D σ H) : tS C es D σ H := by
  obtain ⟨Γ, A, T, s, w⟩ := h
  refine ⟨Γ, A, T, s, ?_⟩
  have w : WpS C H A T (es Γ).shut D := w
  cases e : es Γ with
  | exn x Γ' => rw [e] at w; exact w.elim
  | _ => rw [e] at w; exact w
theorem sS_tr {b : Ss} {k : Str} {i : Option Nat} {s : Ss} (ib : snSs c b) (is : snSs c s) : snS c (.tr b k i s) := by
  intro G C X x gd h
  unfold chkS at h
  split at h
  · rename_i p n np m q0 q hp pos
    simp only [Bool.and_eq_true, decide_eq_true_eq] at h
    obtain ⟨⟨⟨⟨⟨rfl, h2⟩, h3⟩, h4⟩, h5⟩, h6⟩ := h
    obtain ⟨a, fI, hm, T⟩ := gd.xc _ (by simpa using h4)
    split at h6
    · have hc : Names X n (.ref a) := ⟨gd.gl h2, (dbg1 h3).1, .inl (by rw [gd.mg]; exact hm)⟩
      refine PS.imp (ps_try_only gd.stack gd.fr hc gd.tk (tb := fun W => tS (C.wish W) (evSs c b)) (ts := fun _ _ _ => tS (C.wish fun _ _ _ _ => False) (fun Γ => (evSs c s Γ).shut)) (fun W pn xe tk ow => ib (gd.wish tk ow) h5)
        (fun a oe cls d pn _ _ => PSs.imp (is (gd.suite a ((a, oe) :: pn)) h6) fun D σ H q => tS_shut q)) fun D σ H q => ?_
      exact tS_tr0 (C2 := C.wish fun _ _ _ _ => False) (x := n) (sub := c.sub) rfl (fun y k b hy hs => by rw [gd.K]; exact gd.sb y n k b a hy hm hs) q (fun Γ y Γ' e => by
        have e : (evSs c s Γ).shut = .exn y Γ' := e
        cases e2 : evSs c s Γ with
        | exn x Γ2 => rw [e2] at e; cases e
        | _ => rw [e2] at e; cases e)
    · cases h6
  · cases h
theorem sSs_nil : snSs c .nil := by
  intro G C X x gd h
  cases x with
  | nil => exact PSs.imp pss_nil fun D σ H q => tS_nil q
  | cons y ys => cases h
theorem sSs_cons {s : S} {r : Ss} (i : snS c s) (ir : snSs c r) : snSs c (.cons s r) := by
  intro G C X x gd h
  cases x with
  | nil => cases h
  | cons y ys =>
    simp only [chkSs, Bool.and_eq_true] at h
    exact PSs.imp (pss_cons (i gd h.1) (ir gd h.2)) fun D σ H q => tS_seq q
mutual
theorem sndS (c : Cz) : ∀ s : S, snS c s
  | .asg g e => sS_asg
  | .app i e => sS_app
  | .expr e => sS_expr
  | .ret e => sS_ret
  | .retN => sS_retN
  | .ite t a b => sS_ite (sndSs c a) (sndSs c b)
  | .whl t b => sS_whl (sndSs c b)
  | .for_ g it b => sS_for (sndSs c b)
  | .brk => sS_brk
  | .cnt => sS_cnt
  | .pass => sS_pass
  | .rse k e => sS_rse
  | .tr b k i s => sS_tr (sndSs c b) (sndSs c s)
theorem sndSs (c : Cz) : ∀ s : Ss, snSs c s
  | .nil => sSs_nil
  | .cons s r => sSs_cons (sndS c s) (sndSs c r)
end
end Tv
end

section
set_option Elab.async false
set_option linter.all false
set_option maxRecDepth 100000
set_option maxHeartbeats 2000000
/-! TvF: every def keeps what the small language says, at every level. -/
namespace Tv
open PySem PySem.Spec PyProof.Rows L2 PySem.TvX C8

/-- a def of the text, its slots, what it comes to -/
structure Pd where
  nm : Str
  st : Stmt
  N : List Str
  ps : List Str
  fn : Fn
/-- what all defs know -/
structure Gw where
  un : List Str
  cs : List (Str × D)
  xc : List Str
  df : List (Str × Nat)
def Gw.at (g : Gw) (N : List Str) (sc : Scope) : Gc := { N := N, sc := sc, calm := true, fnAll := true, un := g.un, cs := g.cs, df := g.df, xc := g.xc }
def chkD (g : Gw) (d : Pd) : Bool := decide (d.fn.np = d.ps.length) && decide (d.fn.ns = d.N.length) && scC d.N d.ps (fnScope d.st) && chkSs d.fn.body (g.at d.N (fnScope d.st)) (fnBody d.st)
def prOf (ds : List Pd) : List (Str × Fn) := ds.map fun d => (d.nm, d.fn)
def dfOf (ds : List Pd) : List (Str × Nat) := ds.map fun d => (d.nm, d.fn.np)

/-- the world of the defs -/
structure Wd (P : Program) (K : PySem.W.Frag) (mg : Str → Option Value) (fld : Str → Str) (sub : Str → Str → Option Bool) (g : Gw) (ds : List Pd) : Prop where
  un : ∀ x ∈ g.un, mg x = none
  cs : ∀ p ∈ g.cs, ∃ u v, mg p.1 = some u ∧ RelV v u ∧ ∀ F, Rp K F v p.2
  xc : ∀ x ∈ g.xc, ∃ a fI, mg x = some (.ref a) ∧ ExT P K a fI (fld x)
  m1 : mg "super" = none
  m2 : mg "str" = none
  sb : ∀ y x k a b, mg y = some (.ref a) → mg x = some (.ref b) → sub y x = some k → PySem.W.exmOne K (.ref a) (.ref b) = some k
  df : g.df = dfOf ds
  chk : ∀ d ∈ ds, chkD g d = true
  uniq : ∀ d ∈ ds, (prOf ds).lookup d.nm = some d.fn
  def_ : ∀ d ∈ ds, ∃ f fd, Def K mg d.nm d.st f fd ∧ Binds K fd d.ps [] ∧ fd.defaults = .none

section
variable {P : Program} {w : World} {K : PySem.W.Frag} {mg : Str → Option Value} {base : Heap} {fld : Str → Str} {sub : Str → Str → Option Bool} {g : Gw} {ds : List Pd}
theorem out_nil {H : Hp} : out [] H = H := by
  funext b
  unfold out
  rw [if_neg (by simp)]
theorem renv_none {Z : Kz} {F H : Hp} : ∀ n : Nat, REnv Z F H (List.replicate n none) (List.replicate n none) []
  | 0 => .nil
  | n + 1 => .no (renv_none n)
theorem renv_start {Z : Kz} {F H : Hp} {n : Nat} : ∀ {vs : List V} {ds : List D}, RpAll Z.K F vs ds → REnv Z F H (vs.map some ++ List.replicate n none) (ds.map (fun d => some (.dat d)) ++ List.replicate n none) []
  | _, _, .nil => renv_none n
  | _, _, .cons r t => by
    have q := REnv.yes (H := H) (ROw.dat r) (renv_start (Z := Z) (n := n) t)
    exact q
theorem runF_len {c : Cz} {f : Fn} {ds : List D} (h : runF c f ds ≠ .bad) : ds.length = f.np := by
  unfold runF at h
  split at h
  · assumption
  · exact absurd rfl h
theorem body_ok {C : Cc} {c : Cz} {f : Fn} {N : List Str} {vs : List V} {H : Hp} {Q : VK} {E : XK} (hZ : C.Z = ⟨K, none⟩) (hm : C.mg = mg) (hf : C.fld = fld) (hW : C.W = fun cls d _ H => E cls d H) (hN : f.ns = N.length) (hsp : spD K mg fld f.np (runF c f) vs H Q E) :
    tS C (evSs c f.body) { nx := fun _ H' => Q .non H', rt := Q } (L2.start N vs) H := by
  obtain ⟨ds, T, hl, rp, nd, tr, h⟩ := hsp
  have hl2 := rp.length
  have e : runF c f ds = (match evSs c f.body (ds.map (fun d => some (.dat d)) ++ List.replicate (f.ns - f.np) none) with
    | .next _ => .ok (.dat .none)
    | .ret ow _ => .ok ow
    | .exn x _ => .exn x
    | _ => .bad) := by
    unfold runF
    rw [if_pos (by omega)] <;> rfl
  rw [e] at h
  refine ⟨ds.map (fun d => some (.dat d)) ++ List.replicate (f.ns - f.np) none, [], T, ⟨?_, nd, tr⟩, ?_⟩
  · unfold L2.start
    rw [← hN, hl]
    exact renv_start (by rw [hZ]; exact rp)
  · have sm : ∀ {A : List Addr} {H' : Hp}, Stp [] H A H' → Same H H' := fun {A H'} st => by
      have q := st.1
      rw [out_nil] at q
      exact q
    cases e2 : evSs c f.body (ds.map (fun d => some (.dat d)) ++ List.replicate (f.ns - f.np) none) with
    | next Γ =>
      rw [e2] at h
      intro σ' H' A' s st
      exact h .non H' [] (sm st) (fun b hb => by simp at hb) nd (.dat .non)
    | brk Γ => rw [e2] at h; exact h.elim
    | cnt Γ => rw [e2] at h; exact h.elim
    | bad => rw [e2] at h; exact h.elim
    | ret ow Γ =>
      rw [e2] at h
      intro v σ' H' A' B s r st
      refine h v H' B (sm st) (fun b hb => (st.2 b (List.mem_append_right _ hb)).elim (fun q => by simp at q) id) ?_ ?_
      · exact s.nd.sublist (List.sublist_append_right A' (B ++ T))
      · rw [hZ] at r
        exact r.mono (out_sub fun a ha => List.mem_append_right _ ha) fun _ _ => rfl
    | exn x Γ =>
      rw [e2] at h
      rintro cls d σ' H' ⟨A', a, dd, v, h0, rfl, rfl, s, hd, hv, st⟩
      rw [hW]
      have sub : Same (out (A' ++ T) H') (out T H') := out_sub fun a ha => List.mem_append_right _ ha
      refine h a dd v H' (by rw [← hm]; exact h0) (sm st) ?_ ?_
      · rw [← hf]
        exact sub _ _ hd
      · rw [hZ] at hv
        exact hv.mono sub
theorem spD_bad {n : Nat} {f : List D → Rf} (h : ∀ ds, f ds = .bad) {vs : List V} {H : Hp} {Q : VK} {E : XK} (hsp : spD K mg fld n f vs H Q E) : False := by
  obtain ⟨ds, T, _, _, _, _, q⟩ := hsp
  rw [h] at q
  exact q
theorem fn_ok (W : Wd P K mg fld sub g ds) : ∀ (n : Nat) (d : Pd), d ∈ ds → ∀ (f : Addr) (fd : FuncData), Def K mg d.nm d.st f fd → FnOk P w K mg base (L2.CX P w) (n + 1) f fd d.ps (spD K mg fld d.fn.np (tab sub (prOf ds) n d.nm)) ∧
    ∀ xs, tab sub (prOf ds) n d.nm xs ≠ .bad → xs.length = d.fn.np
  | 0, d, hd, f, fd, D => by
    refine ⟨⟨fun vs H Q E h => (spD_bad (fun _ => rfl) h).elim, fun A outer s H args us vs Q E hr he hb hv h => (spD_bad (fun _ => rfl) h).elim⟩, fun xs h => absurd rfl h⟩
  | n + 1, d, hd, f, fd, D => by
    have hc := W.chk d hd
    unfold chkD at hc
    simp only [Bool.and_eq_true, decide_eq_true_eq] at hc
    obtain ⟨⟨⟨h1, h2⟩, h3⟩, h4⟩ := hc
    have et : tab sub (prOf ds) (n + 1) d.nm = runF ⟨tab sub (prOf ds) n, sub⟩ d.fn := by
      funext xs
      show (match (prOf ds).lookup d.nm with
        | some fn => runF ⟨tab sub (prOf ds) n, sub⟩ fn xs
        | none => .bad) = _
      rw [W.uniq d hd]
    have S := fnScope_by h3
    rw [et]
    refine ⟨?_, fun xs h => runF_len h⟩
    obtain ⟨oc, od, dV, kV, doc, pm, an, cdv, ct, osl, rfl, lk, hcd⟩ := D.fn.ex
    refine fn_of lk hcd S (fun vs H Q E h => ?_) fun A outer s H vs Q E hr hsp => ?_
    · obtain ⟨ds, T, hl, _⟩ := h
      rw [hl, h1]
    · refine ⟨tS ⟨⟨K, none⟩, mg, fld, fun cls d _ H => E cls d H⟩ (evSs ⟨tab sub (prOf ds) n, sub⟩ d.fn.body), ?_, body_ok rfl rfl rfl rfl h2 hsp⟩
      refine sndSs _ d.fn.body (G := g.at d.N (fnScope d.st)) ?_ h4
      exact {
        K := rfl
        mg := rfl
        N := rfl
        sc := rfl
        nd := S.nd
        kd := S.kind
        calm := fun _ => rfl
        fn := fun _ _ => rfl
        tk := takes_of rfl rfl rfl rfl
        u64 := hr.units
        un := W.un
        cs := W.cs
        df := fun _ p hp => by
          have hp : p ∈ g.df := hp
          rw [W.df] at hp
          obtain ⟨d2, hd2, rfl⟩ := List.mem_map.mp hp
          obtain ⟨f2, fd2, D2, b2, _⟩ := W.def_ d2 hd2
          obtain ⟨F2, hl2⟩ := fn_ok W n d2 hd2 f2 fd2 D2
          exact ⟨n + 1, f2, fd2, d2.ps, F2, hr, D2.mgf, D2.kp, b2, hl2⟩
        own := passes_of rfl
        stack := rfl
        fr := rfl
        room := fun _ => hr.mono (by omega)
        xc := W.xc
        m1 := W.m1
        m2 := W.m2
        sb := W.sb }
end
end Tv
end

section
set_option Elab.async false
set_option linter.all false
set_option maxRecDepth 100000
set_option maxHeartbeats 2000000
/-! TvH: what stands behind the top, found by one run. -/
namespace Tv
open PySem PySem.Spec PyProof.Rows L2 PySem.TvX C8

/-! ### constants of the module -/
mutual
def repB (K : PySem.W.Frag) : D → Value → Bool
  | .none, .none => true
  | .bool b, .bool c => b == c
  | .int i, .int j _ => decide (i = j)
  | .str x, .str y _ => decide (x = y)
  | .tuple ds, .ref a => (match K.lookup a with
    | some ⟨.type c, _, .seq its _, _⟩ => decide (c = "tuple") && (decide (its.size ≤ sizeLine) && repAllB K ds its.toList)
    | _ => false)
  | _, _ => false
def repAllB (K : PySem.W.Frag) : List D → List Value → Bool
  | [], [] => true
  | d :: ds, u :: us => repB K d u && repAllB K ds us
  | _, _ => false
end
section
variable {K : PySem.W.Frag}
mutual
theorem repB_ok : ∀ {d : D} {u : Value}, repB K d u = true → ∃ v, RelV v u ∧ ∀ F, Rp K F v d
  | .none, u, h => by
    cases u <;> first | (simp [repB] at h; done) | skip
    exact ⟨.non, rfl, fun F => .non⟩
  | .bool b, u, h => by
    cases u <;> first | (simp [repB] at h; done) | skip
    simp only [repB, beq_iff_eq] at h
    subst h
    exact ⟨.bl b, rfl, fun F => .bl b⟩
  | .int i, u, h => by
    cases u <;> first | (simp [repB] at h; done) | skip
    simp only [repB, decide_eq_true_eq] at h
    subst h
    exact ⟨.int i, ⟨_, rfl⟩, fun F => .int i⟩
  | .str x, u, h => by
    cases u <;> first | (simp [repB] at h; done) | skip
    simp only [repB, decide_eq_true_eq] at h
    subst h
    exact ⟨.str x, ⟨_, rfl⟩, fun F => .str x⟩
  | .tuple ds, u, h => by
    cases u <;> first | (simp [repB] at h; done) | skip
    rename_i a
    simp only [repB] at h
    split at h
    · rename_i c od its n sl q
      simp only [Bool.and_eq_true, decide_eq_true_eq] at h
      obtain ⟨rfl, h2, h3⟩ := h
      obtain ⟨vs, r, rp⟩ := repAllB_ok h3
      exact ⟨.ref a, rfl, fun F => .tup (.inr ⟨_, its, n, q, rfl, rfl, h2, r⟩) (rp F)⟩
    · cases h
  | .list xs, u, h => by cases u <;> simp [repB] at h
  | .dict xs, u, h => by cases u <;> simp [repB] at h
theorem repAllB_ok : ∀ {ds : List D} {us : List Value}, repAllB K ds us = true → ∃ vs, Vals vs us ∧ ∀ F, RpAll K F vs ds
  | [], us, h => by
    cases us with
    | nil => exact ⟨[], .nil, fun F => .nil⟩
    | cons u us => simp [repAllB] at h
  | d :: ds, us, h => by
    cases us with
    | nil => simp [repAllB] at h
    | cons u us =>
      simp only [repAllB, Bool.and_eq_true] at h
      obtain ⟨v, r, rp⟩ := repB_ok h.1
      obtain ⟨vs, rs, rps⟩ := repAllB_ok h.2
      exact ⟨v :: vs, .cons r rs, fun F => .cons (rp F) (rps F)⟩
end
def csB (K : PySem.W.Frag) (p : Str × D) : Bool := match PySem.W.nsIn K mainGlobals p.1 with
  | some (some u) => repB K p.2 u
  | _ => false
theorem csB_ok {h : Heap} {mg : Str → Option Value} (X : K.In h) (G : h.Ns mainGlobals mg) {p : Str × D} (c : csB K p = true) : ∃ u v, mg p.1 = some u ∧ RelV v u ∧ ∀ F, Rp K F v p.2 := by
  unfold csB at c
  split at c
  · rename_i u e
    obtain ⟨v, r, rp⟩ := repB_ok c
    exact ⟨u, v, PySem.W.mg_of X G e, r, rp⟩
  · cases c

/-! ### exception classes -/
structure Xc where
  x : Str
  fld : Str
  qual : Str
  st : Stmt
def initOf : Stmt → Stmt
  | .ClassDef (body := b) .. => (b.find? fun s => match s with
    | .FunctionDef .. => true
    | _ => false).getD default
  | s => s
abbrev FnO : Type := Option (Str × Str × Arguments × FuncBody × Scope × Addr × List Str × Value × Addr)
def fnO (K : PySem.W.Frag) (a : Addr) : FnO := match K.lookup a with
  | some ⟨_, _, .func fd, _⟩ => some (fd.name, fd.qualname, fd.params, fd.body, fd.scope, fd.globals, fd.closure.map (·.1), fd.defaults, fd.builtins)
  | _ => none
def Xc.val (x : Xc) : FnO := some ("__init__", x.qual, fnArgs (initOf x.st), .stmts (fnBody (initOf x.st)), fnScope (initOf x.st), mainGlobals, ["__class__"], .none, builtinsNs)
def Xc.C (K : PySem.W.Frag) (x : Xc) : Addr := He.ga K x.x
def Xc.fI (K : PySem.W.Frag) (x : Xc) : Addr := He.ma K (He.ga K x.x) "__init__"
def oexB (K : PySem.W.Frag) (C : Addr) : Bool := match K.lookup C with
  | some ⟨.type "type", _, .cls cd, sl⟩ => (match cd.mro, sl.toList with
    | .ref C' :: bm, [_, _, _, _, some (.builtin n), _] => C' == C && n == "ValueError.__new__" && !cd.hasDel && cd.hasDict && PySem.HandSPX.refsVE bm
    | _, _ => false)
  | _ => false
theorem oexB_ok {C : Addr} (q : oexB K C = true) : ∃ nm q N bs bm sn sub ab col dd k0 k1 k2 k3 k5, K.lookup C = some (excClassObj nm q C N bs bm true sn sub ab col dd k0 k1 k2 k3 k5 "ValueError.__new__") ∧ PySem.HandSPX.refsVE bm = true := by
  unfold oexB at q
  split at q
  · rename_i dd cd sl ho
    split at q
    · rename_i C' bm k0 k1 k2 k3 n k5 hm hs
      simp only [Bool.and_eq_true, beq_iff_eq, Bool.not_eq_true'] at q
      obtain ⟨⟨⟨⟨rfl, rfl⟩, hdel⟩, hd⟩, ht⟩ := q
      obtain ⟨nm, bs, mro, ns, qn, hdc, sn, sub, ab, col, del⟩ := cd
      dsimp only at hm hdel hd
      subst hm hdel hd
      have hsl : sl = #[k0, k1, k2, k3, some (.builtin "ValueError.__new__"), k5] := by
        obtain ⟨l⟩ := sl
        simp only at hs
        rw [hs]
      subst hsl
      exact ⟨nm, qn, ns, bs, bm, sn, sub, ab, col, dd, k0, k1, k2, k3, k5, ho, ht⟩
    · cases q
  · cases q
def alongB (K : PySem.W.Frag) (C : Addr) : Bool := match PySem.W.clsIn K C with
  | some cd => He.eqO (PySem.W.alongIn K "__init__" ((cd.mro.dropWhile (· != .ref C)).drop 1)) (some (some (.builtin "ValueError.__init__")))
  | none => false
def cellB (K : PySem.W.Frag) (C : Addr) (cl : List (Str × Addr)) : Bool := match cl with
  | [(_, cc)] => (match K.lookup cc with
    | some ⟨_, _, .cell (some (.ref C')), _⟩ => C' == C
    | _ => false)
  | _ => false
def codeB (P : Program) (K : PySem.W.Frag) (cd : Value) : Bool := match cd with
  | .ref cda => (match K.lookup cda with
    | some ⟨_, _, .fields vs, _⟩ => (match vs[2]? with
      | some (Value.str file _) => P.main.file == file
      | _ => false)
    | _ => false)
  | _ => false
def initB (P : Program) (K : PySem.W.Frag) (C fI : Addr) (q : Str) : Bool := match K.lookup fI with
  | some ⟨_, _, .func fd, _⟩ => cellB K C fd.closure && (PySem.W.codeIn K fd.code q && codeB P K fd.code)
  | _ => false
def xcB (P : Program) (K : PySem.W.Frag) (x : Xc) : Bool := (He.Fa.glo x.x).ok K && (oexB K (x.C K) && (He.eqO (PySem.W.findIn K (.ref (x.C K)) "__setattr__") (some (some (.builtin "object.__setattr__"))) && (decide (PySem.W.subIn K (.ref (x.C K)) (.type "BaseException") = some true) &&
  (decide (PySem.W.typeIn K (.ref (x.C K)) = some (.type "type")) && (PySem.W.keepIn K (.ref (x.C K)) && (He.eqO (PySem.W.findIn K (.ref (x.C K)) "__init__") (some (some (.ref (x.fI K)))) && (decide (PySem.W.typeIn K (.ref (x.fI K)) = some (.type "function")) &&
  (He.eqO (PySem.W.findIn K (.ref (x.C K)) x.fld) (some none) && (decide (PySem.W.mroIn K (x.C K) (.ref (x.C K)) = some true) && (decide (PySem.W.mroIn K (x.C K) (.type "ValueError") = some true) && (alongB K (x.C K) && initB P K (x.C K) (x.fI K) x.qual)))))))))))
/-- what the text says of such a class -/
def XcS (x : Xc) : Prop := Fld x.fld ∧ ∃ p1 p2 q0 q1 q2 q3 q4 q5 q6 q7 q8 q9 q10 q11, fnArgs (initOf x.st) = iA x.fld p1 p2 ∧ fnBody (initOf x.st) = iB x.fld q0 q1 q2 q3 q4 q5 q6 q7 q8 q9 q10 q11 ∧ fnScope (initOf x.st) = iS x.fld ∧ (q2.endLine == q6.line) = true
theorem xcB_ok {P : Program} {x : Xc} (c : xcB P K x = true) (e : fnO K (x.fI K) = x.val) (s : XcS x) (htop : (P.main.scope.names.lookup ("super" : Str)).isSome = false) (any : PySem.W.nsIn K cStatics "thirdparty.any" = some none) : ExT P K (x.C K) (x.fI K) x.fld := by
  unfold xcB at c
  simp only [Bool.and_eq_true, decide_eq_true_eq] at c
  obtain ⟨c1, c2, c3, c4, c5, c6, c7, c8, c9, c10, c11, c12, c13⟩ := c
  obtain ⟨fl, p1, p2, q0, q1, q2, q3, q4, q5, q6, q7, q8, q9, q10, q11, e1, e2, e3, e4⟩ := s
  refine ⟨⟨oexB_ok c2, He.eqO_ok c3, c4, c5, c6⟩, He.eqO_ok c7, c8, He.eqO_ok c9, c10, c11, any, ?_, ?_, htop, fl⟩
  · unfold alongB at c12
    split at c12
    · rename_i cd hcd
      exact ⟨cd, hcd, He.eqO_ok c12⟩
    · cases c12
  · unfold initB at c13
    unfold fnO at e
    split at c13
    · rename_i oc od fd sl lf
      rw [lf] at e
      obtain ⟨n1, n2, n3, n4, n5, n6, n7, n8, n9, n10, n11, n12, n13, n14, n15⟩ := fd
      have e : (some (n1, n2, n3, n4, n5, n6, n7.map (·.1), n8, n15) : FnO) = (some (("__init__" : Str), x.qual, fnArgs (initOf x.st), FuncBody.stmts (fnBody (initOf x.st)), fnScope (initOf x.st), mainGlobals, [("__class__" : Str)], Value.none, builtinsNs) : FnO) := e
      simp only [Option.some.injEq, Prod.mk.injEq] at e
      obtain ⟨rfl, rfl, rfl, rfl, rfl, rfl, h7, rfl, rfl⟩ := e
      simp only [Bool.and_eq_true] at c13
      obtain ⟨d1, d2, d3⟩ := c13
      unfold cellB at d1
      split at d1
      · rename_i nm cc
        split at d1
        · rename_i cl cld C' csl lcc
          have hC : C' = x.C K := by simpa using d1
          subst hC
          simp only [List.map_cons, List.map_nil, List.cons.injEq, and_true] at h7
          subst h7
          unfold codeB at d3
          split at d3
          · rename_i cda
            split at d3
            · rename_i ccl cdd vs ccs lco
              split at d3
              · rename_i file tf hvs
                rw [e1, e2, e3] at lf
                exact ⟨oc, od, x.qual, n9, n10, n11, n12, cda, n14, cc, sl, p1, p2, q0, q1, q2, q3, q4, q5, q6, q7, q8, q9, q10, q11, lf, d2, ⟨cl, cld, csl, lcc⟩, e4, ccl, cdd, vs, ccs, file, tf, lco, hvs, d3⟩
              · cases d3
            · cases d3
          · cases d3
        · cases d1
      · cases d1
    · cases c13
end
end Tv
end

section
set_option Elab.async false
set_option linter.all false
set_option maxRecDepth 100000
set_option maxHeartbeats 2000000
/-! TvG: the hook; the law's end. -/
namespace Tv
open PySem PySem.Spec PyProof.Rows L2 PySem.TvX C8

structure Hd where
  un : List Str
  cs : List (Str × D)
  ds : List Pd
  xs : List Xc
def Pd.dd (d : Pd) : He.DefD := { at_ := (d.nm, none), name := d.nm, qual := d.nm, params := fnArgs d.st, body := fnBody d.st, scope := fnScope d.st }
def hdB (P : Program) (h : Hd) (K : PySem.W.Frag) : Bool := (h.un.all fun x => (He.Fa.free x).ok K) && ((h.cs.all fun p => csB K p) && ((h.ds.all fun d => (He.Fa.glo d.nm).ok K && d.dd.ok K) && ((h.xs.all fun x => xcB P K x) &&
  ((h.xs.all fun x => h.xs.all fun y => (He.Fa.exm x.x y.x (decide (x.x = y.x))).ok K) && He.eqO (PySem.W.nsIn K cStatics "thirdparty.any") (some none)))))
abbrev AlH : Type := Bool × List He.FnW × List FnO
def obsH (P : Program) (h : Hd) (K : PySem.W.Frag) : AlH := (hdB P h K, h.ds.map (fun d => He.fnW K (d.nm, none)), h.xs.map fun x => fnO K (x.fI K))
def valH (h : Hd) : AlH := (true, h.ds.map (fun d => d.dd.val), h.xs.map Xc.val)
def obsG (P : Program) (h : Hd) (g : Addr → Option Obj) : AlH := obsH P h (He.frG g (cStatics :: He.asD g 4))
def hookH (P : Program) (h : Hd) : PySem.W.Hook where
  α := AlH
  obs := fun s => obsG P h s.heap.get?
  val := fun _ => valH h
  says := fun _ hp => ∃ K : PySem.W.Frag, K.In hp ∧ obsH P h K = valH h
  of := fun _ _ e => ⟨_, He.frG_in, e⟩
  keeps := fun _ _ _ ⟨K, hK, c⟩ k => ⟨K, PySem.W.Frag.In.keeps hK k, c⟩
def obT (P : Program) (h : Hd) (s : PySem.W.SharedT) : AlH := obsG P h (HandSHeadRun.getT s)
theorem obT_eq (P : Program) (h : Hd) (s : PySem.W.SharedT) : obT P h s = (hookH P h).obs s.abs := by
  have e : HandSHeadRun.getT s = s.abs.heap.get? := funext (HandSHeadRun.getT_eq s)
  show obsG P h (HandSHeadRun.getT s) = obsG P h s.abs.heap.get?
  rw [e]

/-! ### from what was seen to the world of the defs -/
def fldOf (h : Hd) (x : Str) : Str := match h.xs.find? fun c => decide (c.x = x) with
  | some c => c.fld
  | none => "why"
def subOf (h : Hd) (y x : Str) : Option Bool := if (h.xs.any fun c => decide (c.x = y)) && (h.xs.any fun c => decide (c.x = x)) then some (decide (y = x)) else none
def gwOf (h : Hd) : Gw := { un := h.un, cs := h.cs, xc := h.xs.map (·.x), df := dfOf h.ds }
/-- the parameters are bound one by one -/
def BindOk (d : Pd) : Prop := ∀ (kV doc pm : Value) (an : Option Addr) (cdv ct : Value) (us : List Value), us.length = d.ps.length → bindArgs (PySem.W.fnOf d.nm d.nm (fnArgs d.st) (fnBody d.st) (fnScope d.st) .none kV doc pm an cdv ct) ⟨us, []⟩ = pure (d.ps.zip us)
def AllD (p : Pd → Prop) : List Pd → Prop
  | [] => True
  | d :: r => p d ∧ AllD p r
theorem AllD.mem {p : Pd → Prop} : ∀ {l : List Pd}, AllD p l → ∀ d ∈ l, p d
  | [], _, d, h => by cases h
  | e :: r, q, d, h => by
    rcases List.mem_cons.mp h with rfl | h
    · exact q.1
    · exact AllD.mem q.2 d h
def AllX (p : Xc → Prop) : List Xc → Prop
  | [] => True
  | d :: r => p d ∧ AllX p r
theorem AllX.mem {p : Xc → Prop} : ∀ {l : List Xc}, AllX p l → ∀ d ∈ l, p d
  | [], _, d, h => by cases h
  | e :: r, q, d, h => by
    rcases List.mem_cons.mp h with rfl | h
    · exact q.1
    · exact AllX.mem q.2 d h
/-- the names are apart, and more that the kernel sees -/
def hdS (h : Hd) : Bool := h.un.elem ("super" : Str) && (h.un.elem ("str" : Str) && (decide (h.ds.map (·.nm)).Nodup && (h.xs.all fun x => decide (fldOf h x.x = x.fld))))
theorem lookup_pr : ∀ {ds : List Pd}, (ds.map (·.nm)).Nodup → ∀ d ∈ ds, (prOf ds).lookup d.nm = some d.fn
  | [], _, d, h => by cases h
  | e :: r, nd, d, h => by
    have nd := List.nodup_cons.mp nd
    show ((e.nm, e.fn) :: prOf r).lookup d.nm = _
    rcases List.mem_cons.mp h with rfl | h
    · simp [List.lookup]
    · have ne : d.nm ≠ e.nm := fun q => nd.1 (by show e.nm ∈ _; rw [← q]; exact List.mem_map.mpr ⟨d, h, rfl⟩)
      have e2 : (d.nm == e.nm) = false := by simpa using ne
      simp only [List.lookup, e2]
      exact lookup_pr nd.2 d h
section
variable {P : Program} {h : Hd} {K : PySem.W.Frag} {hp : Heap} {mg : Str → Option Value}
theorem defOf_ok (d : Pd) (X : K.In hp) (G : hp.Ns mainGlobals mg) (c1 : (He.Fa.glo d.nm).ok K = true) (c2 : d.dd.ok K = true) (e : He.fnW K (d.nm, none) = d.dd.val) (b : BindOk d) : ∃ f fd, Def K mg d.nm d.st f fd ∧ Binds K fd d.ps [] ∧ fd.defaults = .none := by
  obtain ⟨fd, F⟩ := He.DefD.funD (d := d.dd) e c2
  obtain ⟨oc, od, dV, kV, doc, pm, an, cdv, ct, osl, hfd, lk, hcd, hdf, _⟩ := F.ex
  have hdV : dV = .none := by
    rcases hdf with q | q
    · exact q.2
    · exact absurd rfl q.1
  subst hdV
  have Fn : C8.Fun K d.nm d.nm d.st (He.ga K d.nm) fd := ⟨oc, od, _, kV, doc, pm, an, cdv, ct, osl, hfd, lk, hcd⟩
  have e0 : fd.defaults = .none := by rw [hfd]
  exact ⟨He.ga K d.nm, fd, ⟨Fn, He.glo_ok X G c1, F.kp⟩, Fn.binds e0 b, e0⟩
theorem world (S : obsH P h K = valH h) (X : K.In hp) (G : hp.Ns mainGlobals mg) (hs : hdS h = true) (htop : (P.main.scope.names.lookup ("super" : Str)).isSome = false) (hb : AllD BindOk h.ds) (hx : AllX XcS h.xs) (hc : ∀ d ∈ h.ds, chkD (gwOf h) d = true) :
    Wd P K mg (fldOf h) (subOf h) (gwOf h) h.ds := by
  have S1 : hdB P h K = true := congrArg (fun z : AlH => z.1) S
  have S2 : h.ds.map (fun d => He.fnW K (d.nm, none)) = h.ds.map (fun d => d.dd.val) := congrArg (fun z : AlH => z.2.1) S
  have S3 : h.xs.map (fun x => fnO K (x.fI K)) = h.xs.map Xc.val := congrArg (fun z : AlH => z.2.2) S
  unfold hdB at S1
  simp only [Bool.and_eq_true, List.all_eq_true] at S1
  obtain ⟨a1, a2, a3, a4, a5, a6⟩ := S1
  unfold hdS at hs
  simp only [Bool.and_eq_true, List.all_eq_true, decide_eq_true_eq] at hs
  obtain ⟨b1, b2, b3, b4⟩ := hs
  have un : ∀ x ∈ h.un, mg x = none := fun x hx => He.free_ok X G (a1 x hx)
  have glo : ∀ x ∈ h.xs, mg x.x = some (.ref (x.C K)) := fun x hx => by
    have q := a4 x hx
    unfold xcB at q
    exact He.glo_ok X G (Bool.and_eq_true_iff.mp q).1
  have m2 : ∀ {α β : Type} {f g : α → β} {l : List α}, l.map f = l.map g → ∀ x ∈ l, f x = g x := by
    intro α β f g l e x hx
    induction l with
    | nil => cases hx
    | cons y r ih =>
      simp only [List.map_cons, List.cons.injEq] at e
      rcases List.mem_cons.mp hx with rfl | hx
      · exact e.1
      · exact ih e.2 hx
  refine {
    un := un
    cs := fun p hp => csB_ok X G (a2 p hp)
    xc := fun x hm => ?_
    m1 := un _ (by simpa using b1)
    m2 := un _ (by simpa using b2)
    sb := fun y x k a b hy hxx hk => ?_
    df := rfl
    chk := hc
    uniq := lookup_pr b3
    def_ := fun d hd => ?_ }
  · obtain ⟨c, hc, rfl⟩ := List.mem_map.mp hm
    refine ⟨c.C K, c.fI K, glo c hc, ?_⟩
    rw [b4 c hc]
    exact xcB_ok (a4 c hc) (m2 S3 c hc) (hx.mem c hc) htop (He.eqO_ok a6)
  · unfold subOf at hk
    split at hk
    · rename_i q
      simp only [Bool.and_eq_true, List.any_eq_true, decide_eq_true_eq] at q
      obtain ⟨⟨c1, h1, rfl⟩, c2, h2, rfl⟩ := q
      cases hk
      rw [glo c1 h1] at hy
      rw [glo c2 h2] at hxx
      cases hy
      cases hxx
      exact He.exm_ok (a5 c1 h1 c2 h2)
    · cases hk
  · obtain ⟨q1, q2⟩ := a3 d hd
    exact defOf_ok d X G q1 q2 (m2 S2 d hd) (hb.mem d hd)
end
/-! ### the law -/
theorem walk_ofW {l : PySem.W.OpenLaw} {n k : Nat} {q : Program} {loose : List Str} {XP : (Str → Option Value) → Heap → Prop} {YP : World → Heap → Prop} {d : DefRec} {CX : World → CXT} {x : Str}
    (hn : l.most = some n) (hn2 : n ≤ sizeLine) (hdf : d.params.defaults = []) (hr : Room k callerA)
    (F : ∀ (w : World) (mg : Str → Option Value) (fa : Addr) (h : Heap), YP w h → h.Ns mainGlobals mg → mg d.name = some (.ref fa) →
      ∃ (K : PySem.W.Frag) (fd : FuncData) (sp : Sp), K.In h ∧ (∀ (s : Shared) (u : Value), BindsTo s fd ⟨[u], []⟩ [(x, u)]) ∧
        (∀ (H : Hp) (a : Addr) (ns : List Int), ns.length ≤ n → Only H → SqL K H a (ns.map V.int) → sp [.ref a] H (fun v _ => v = .bl true) fun _ _ _ => False) ∧
        ∀ base : Heap, K.In base → base.Ns mainGlobals mg → FnOk l.prog w K mg base (CX w) k fa fd [x] sp)
    (hCX : ∀ (w : World) (H : Hp) (s : Shared) (e : Value) (s' : Shared), CX w [] H s (fun _ _ _ => False) e s' → False) :
    PySem.W.WalkO q loose XP YP l.row.toRowW d [] (fun f vs => PySem.call f vs) := by
  refine Att.attach_call hn hdf fun w s₀ s₁ mg mb fa o pm cd doc a vs ns G Y ho hd hcd hmg hobj hints hlen hg => ?_
  obtain ⟨K, fd, sp, KX, hb, hsp, hF⟩ := F w mg fa _ Y G.T.g hmg
  exact law_call KX G.T.g G.T.b G.T.builtins G.T.nolimit hg hobj hints (Nat.le_trans hlen hn2) hr hF hb (fun H hO hS => hsp H a ns hlen hO hS) fun H e s' => hCX w H s₁ e s'
theorem ints_rp {K : PySem.W.Frag} {F : Hp} : ∀ ns : List Int, RpAll K F (ns.map V.int) (ns.map PyData.int)
  | [] => .nil
  | n :: ns => .cons (.int n) (ints_rp ns)
theorem law_end {l : PySem.W.OpenLaw} {n N : Nat} {q : Program} {loose : List Str} {XP : (Str → Option Value) → Heap → Prop} {d : DefRec} {h : Hd} {dl : Pd} {x : Str}
    (hn : l.most = some n) (hn2 : n ≤ sizeLine) (hdf : d.params.defaults = []) (hr : Room (N + 1) callerA)
    (hl : dl ∈ h.ds) (hnm : d.name = dl.nm) (hps : dl.ps = [x])
    (hs : hdS h = true) (htop : (l.prog.main.scope.names.lookup ("super" : Str)).isSome = false) (hb : AllD BindOk h.ds) (hx : AllX XcS h.xs) (hc : ∀ d ∈ h.ds, chkD (gwOf h) d = true)
    (law : ∀ ns : List Int, ns.length ≤ n → tab (subOf h) (prOf h.ds) N dl.nm [.list (ns.map PyData.int)] = .ok (.dat (.bool true))) :
    PySem.W.WalkO q loose XP (hookH l.prog h).says l.row.toRowW d [] (fun f vs => PySem.call f vs) := by
  refine walk_ofW (n := n) (k := N + 1) (CX := fun w => L2.CX l.prog w) (x := x) hn hn2 hdf hr (fun w mg fa hp Y G hmg => ?_) fun w H s e s' c => ?_
  · obtain ⟨K, X, S⟩ := Y
    have W := world S X G hs htop hb hx hc
    obtain ⟨f, fd, D, b, e0⟩ := W.def_ dl hl
    have hf : fa = f := by
      have q := D.mgf
      rw [← hnm, hmg] at q
      cases q
      rfl
    subst hf
    obtain ⟨oc, od, dV, kV, doc, pm, an, cdv, ct, osl, hfd, lk, hcd⟩ := D.fn.ex
    have hdV : dV = .none := by
      rw [hfd] at e0
      exact e0
    subst hdV
    have hcd1 := hc dl hl
    unfold chkD at hcd1
    simp only [Bool.and_eq_true, decide_eq_true_eq] at hcd1
    have hnp : dl.fn.np = 1 := by
      rw [hcd1.1.1.1, hps]
      rfl
    refine ⟨K, fd, spD K mg (fldOf h) dl.fn.np (tab (subOf h) (prOf h.ds) N dl.nm), X, fun s u => ?_, fun H a ns hlen hO hS => ?_, fun base KB GB => ?_⟩
    · have q := hb.mem dl hl kV doc pm an cdv ct [u] (by rw [hps]; rfl)
      rw [hps] at q
      rw [hfd]
      exact .of_eq q
    · refine ⟨[.list (ns.map PyData.int)], [], by rw [hnp]; rfl, .cons (.lst (by rw [out_nil]; exact hS) (ints_rp ns)) .nil, List.nodup_nil, (fun t ht => by simp at ht), ?_⟩
      rw [law ns hlen]
      intro v H' B _ _ _ r
      cases r with
      | dat r =>
        cases r
        rfl
    · have F2 := (fn_ok (base := base) (w := w) W N dl hl fa fd D).1
      rw [hps] at F2
      exact F2
  · obtain ⟨a, B, H', cls, d, _, _, _, _, _, _, _, q⟩ := c
    exact q
end Tv
end

section
set_option linter.all false
/-! PF: the program's own defs in the small language (printed by genpf.py). -/
namespace PF
open PySem Tv
def c_check_schema : Ss := (.cons (.expr (.call "check_fields" (.cons (.var 0) (.cons (.con (.int 1)) .nil)))) .nil)
def f_check_schema : Fn := ⟨1, 1, c_check_schema⟩
def c_columns_of : Ss := (.cons (.asg (.one 1) (.lst .nil)) (.cons (.expr (.call "add_leaves" (.cons (.var 0) (.cons (.tup .nil) (.cons (.con (.int 0)) (.cons (.con (.int 0)) (.cons (.var 1) .nil))))))) (.cons (.ret (.var 1)) .nil)))
def f_columns_of : Fn := ⟨1, 2, c_columns_of⟩
def c_paths_of : Ss := (.cons (.ret (.lc 1 (.e (.call "columns_of" (.cons (.var 0) .nil))) .no (.sub (.var 1) (.con (.int 0))))) .nil)
def f_paths_of : Fn := ⟨1, 2, c_paths_of⟩
def c_column_of : Ss := (.cons (.for_ (.one 2) (.e (.call "columns_of" (.cons (.var 0) .nil))) (.cons (.ite (.val (.cmp .eq (.sub (.var 2) (.con (.int 0))) (.var 1))) (.cons (.ret (.var 2)) .nil) .nil) .nil)) (.cons (.rse "NoColumn" (.var 1)) .nil))
def f_column_of : Fn := ⟨2, 3, c_column_of⟩
def c_project_schema : Ss := (.cons (.asg (.one 2) (.call "paths_of" (.cons (.var 0) .nil))) (.cons (.for_ (.one 3) (.e (.var 1)) (.cons (.ite (.val (.cmp .nin (.var 3) (.var 2))) (.cons (.rse "NoColumn" (.var 3)) .nil) .nil) .nil)) (.cons (.ite (.not_ (.val (.var 1))) (.cons (.rse "NoColumn" (.tup .nil)) .nil) .nil) (.cons (.ret (.call "project_fields" (.cons (.var 0) (.cons (.tup .nil) (.cons (.var 1) .nil))))) .nil))))
def f_project_schema : Fn := ⟨2, 4, c_project_schema⟩
def c_check_record : Ss := (.cons (.expr (.call "check_group" (.cons (.var 0) (.cons (.var 1) .nil)))) .nil)
def f_check_record : Fn := ⟨2, 2, c_check_record⟩
def c_shred_group : Ss := (.cons (.for_ (.one 7) (.rng (.blt .len (.cons (.var 0) .nil))) (.cons (.asg (.many [10, 11, 12]) (.sub (.var 0) (.var 7))) (.cons (.asg (.one 8) (.bin .add (.var 2) (.tup (.cons (.var 10) .nil)))) (.cons (.asg (.one 9) (.sub (.var 1) (.var 7))) (.cons (.ite (.val (.cmp .eq (.var 11) (.con (.str "one")))) (.cons (.expr (.call "shred_one" (.cons (.var 12) (.cons (.var 9) (.cons (.var 8) (.cons (.var 3) (.cons (.var 4) (.cons (.var 5) (.cons (.var 6) .nil))))))))) .nil) (.cons (.ite (.or_ (.val (.cmp .is_ (.var 9) (.con .none))) (.and_ (.val (.cmp .eq (.var 11) (.con (.str "many")))) (.val (.cmp .eq (.var 9) (.tup .nil))))) (.cons (.expr (.call "shred_empty" (.cons (.var 12) (.cons (.var 8) (.cons (.var 3) (.cons (.var 4) (.cons (.var 6) .nil))))))) .nil) (.cons (.ite (.val (.cmp .eq (.var 11) (.con (.str "maybe")))) (.cons (.expr (.call "shred_one" (.cons (.var 12) (.cons (.var 9) (.cons (.var 8) (.cons (.var 3) (.cons (.bin .add (.var 4) (.con (.int 1))) (.cons (.var 5) (.cons (.var 6) .nil))))))))) .nil) (.cons (.for_ (.one 13) (.rng (.blt .len (.cons (.var 9) .nil))) (.cons (.asg (.one 14) (.var 3)) (.cons (.ite (.val (.cmp .gt (.var 13) (.con (.int 0)))) (.cons (.asg (.one 14) (.bin .add (.var 5) (.con (.int 1)))) .nil) .nil) (.cons (.expr (.call "shred_one" (.cons (.var 12) (.cons (.sub (.var 9) (.var 13)) (.cons (.var 8) (.cons (.var 14) (.cons (.bin .add (.var 4) (.con (.int 1))) (.cons (.bin .add (.var 5) (.con (.int 1))) (.cons (.var 6) .nil))))))))) .nil)))) .nil)) .nil)) .nil)) .nil))))) .nil)
def f_shred_group : Fn := ⟨7, 15, c_shred_group⟩
def c_project_record : Ss := (.cons (.asg (.one 3) (.lst .nil)) (.cons (.asg (.one 4) (.con (.int 0))) (.cons (.for_ (.one 5) (.rng (.blt .len (.cons (.var 0) .nil))) (.cons (.asg (.many [6, 7, 8]) (.sub (.var 0) (.var 5))) (.cons (.ite (.and_ (.val (.cmp .lt (.var 4) (.blt .len (.cons (.var 1) .nil)))) (.val (.cmp .eq (.sub (.sub (.var 1) (.var 4)) (.con (.int 0))) (.var 6)))) (.cons (.asg (.one 9) (.sub (.sub (.var 1) (.var 4)) (.con (.int 2)))) (.cons (.asg (.one 4) (.bin .add (.var 4) (.con (.int 1)))) (.cons (.ite (.val (.cmp .eq (.var 7) (.con (.str "many")))) (.cons (.app 3 (.blt .tuple (.cons (.lc 10 (.e (.sub (.var 2) (.var 5))) .no (.call "project_one" (.cons (.var 8) (.cons (.var 9) (.cons (.var 10) .nil))))) .nil))) .nil) (.cons (.ite (.val (.cmp .is_ (.sub (.var 2) (.var 5)) (.con .none))) (.cons (.app 3 (.con .none)) .nil) (.cons (.app 3 (.call "project_one" (.cons (.var 8) (.cons (.var 9) (.cons (.sub (.var 2) (.var 5)) .nil))))) .nil)) .nil)) .nil))) .nil) .nil))) (.cons (.ret (.blt .tuple (.cons (.var 3) .nil))) .nil))))
def f_project_record : Fn := ⟨3, 11, c_project_record⟩
def c_put_number : Ss := (.cons (.asg (.one 1) (.lst .nil)) (.cons (.whl (.val (.cmp .ge (.var 0) (.con (.int 128)))) (.cons (.app 1 (.bin .add (.bin .mod (.var 0) (.con (.int 128))) (.con (.int 128)))) (.cons (.asg (.one 0) (.bin .fdiv (.var 0) (.con (.int 128)))) .nil))) (.cons (.app 1 (.var 0)) (.cons (.ret (.var 1)) .nil))))
def f_put_number : Fn := ⟨1, 2, c_put_number⟩
def c_take_number : Ss := (.cons (.asg (.one 2) (.con (.int 0))) (.cons (.asg (.one 3) (.con (.int 1))) (.cons (.for_ (.one 4) (.rng (.glb "MAX_LENGTH" (.int 5))) (.cons (.ite (.val (.cmp .ge (.bin .add (.var 1) (.var 4)) (.blt .len (.cons (.var 0) .nil)))) (.cons (.rse "BadFile" (.con (.str "number"))) .nil) .nil) (.cons (.asg (.one 5) (.sub (.var 0) (.bin .add (.var 1) (.var 4)))) (.cons (.asg (.one 2) (.bin .add (.var 2) (.bin .mul (.bin .mod (.var 5) (.con (.int 128))) (.var 3)))) (.cons (.asg (.one 3) (.bin .mul (.var 3) (.con (.int 128)))) (.cons (.ite (.val (.cmp .lt (.var 5) (.con (.int 128)))) (.cons (.ite (.and_ (.val (.cmp .eq (.var 5) (.con (.int 0)))) (.val (.cmp .gt (.var 4) (.con (.int 0))))) (.cons (.rse "BadFile" (.con (.str "number"))) .nil) .nil) (.cons (.ret (.tup (.cons (.var 2) (.cons (.bin .add (.bin .add (.var 1) (.var 4)) (.con (.int 1))) .nil)))) .nil)) .nil) .nil)))))) (.cons (.rse "BadFile" (.con (.str "number"))) .nil))))
def f_take_number : Fn := ⟨2, 6, c_take_number⟩
def c_fold_sign : Ss := (.cons (.ite (.val (.cmp .lt (.var 0) (.con (.int 0)))) (.cons (.ret (.bin .sub (.bin .mul (.neg (.con (.int 2))) (.var 0)) (.con (.int 1)))) .nil) .nil) (.cons (.ret (.bin .mul (.con (.int 2)) (.var 0))) .nil))
def f_fold_sign : Fn := ⟨1, 1, c_fold_sign⟩
def c_unfold_sign : Ss := (.cons (.ite (.val (.cmp .eq (.bin .mod (.var 0) (.con (.int 2))) (.con (.int 1)))) (.cons (.ret (.bin .fdiv (.neg (.bin .add (.var 0) (.con (.int 1)))) (.con (.int 2)))) .nil) .nil) (.cons (.ret (.bin .fdiv (.var 0) (.con (.int 2)))) .nil))
def f_unfold_sign : Fn := ⟨1, 1, c_unfold_sign⟩
def c_put_word : Ss := (.cons (.asg (.one 0) (.bin .mod (.var 0) (.con (.int 4294967296)))) (.cons (.ret (.lst (.cons (.bin .mod (.var 0) (.con (.int 256))) (.cons (.bin .mod (.bin .fdiv (.var 0) (.con (.int 256))) (.con (.int 256))) (.cons (.bin .mod (.bin .fdiv (.var 0) (.con (.int 65536))) (.con (.int 256))) (.cons (.bin .fdiv (.var 0) (.con (.int 16777216))) .nil)))))) .nil))
def f_put_word : Fn := ⟨1, 1, c_put_word⟩
def c_take_word : Ss := (.cons (.ite (.val (.cmp .gt (.bin .add (.var 1) (.con (.int 4))) (.blt .len (.cons (.var 0) .nil)))) (.cons (.rse "BadFile" (.con (.str "word"))) .nil) .nil) (.cons (.asg (.one 2) (.bin .add (.bin .add (.bin .add (.sub (.var 0) (.var 1)) (.bin .mul (.con (.int 256)) (.sub (.var 0) (.bin .add (.var 1) (.con (.int 1)))))) (.bin .mul (.con (.int 65536)) (.sub (.var 0) (.bin .add (.var 1) (.con (.int 2)))))) (.bin .mul (.con (.int 16777216)) (.sub (.var 0) (.bin .add (.var 1) (.con (.int 3))))))) (.cons (.ret (.tup (.cons (.var 2) (.cons (.bin .add (.var 1) (.con (.int 4))) .nil)))) .nil)))
def f_take_word : Fn := ⟨2, 3, c_take_word⟩
def c_width_of : Ss := (.cons (.asg (.one 1) (.con (.int 0))) (.cons (.whl (.val (.cmp .gt (.var 0) (.con (.int 0)))) (.cons (.asg (.one 1) (.bin .add (.var 1) (.con (.int 1)))) (.cons (.asg (.one 0) (.bin .fdiv (.var 0) (.con (.int 2)))) .nil))) (.cons (.ret (.var 1)) .nil)))
def f_width_of : Fn := ⟨1, 2, c_width_of⟩
def c_pack : Ss := (.cons (.asg (.one 2) (.con (.int 0))) (.cons (.asg (.one 3) (.con (.int 1))) (.cons (.for_ (.one 4) (.e (.var 0)) (.cons (.asg (.one 2) (.bin .add (.var 2) (.bin .mul (.var 4) (.var 3)))) (.cons (.for_ (.one 6) (.rng (.var 1)) (.cons (.asg (.one 3) (.bin .mul (.var 3) (.con (.int 2)))) .nil)) .nil))) (.cons (.asg (.one 5) (.lst .nil)) (.cons (.for_ (.one 6) (.rng (.bin .fdiv (.bin .add (.bin .mul (.blt .len (.cons (.var 0) .nil)) (.var 1)) (.con (.int 7))) (.con (.int 8)))) (.cons (.app 5 (.bin .mod (.var 2) (.con (.int 256)))) (.cons (.asg (.one 2) (.bin .fdiv (.var 2) (.con (.int 256)))) .nil))) (.cons (.ret (.var 5)) .nil))))))
def f_pack : Fn := ⟨2, 7, c_pack⟩
def c_unpack : Ss := (.cons (.asg (.one 4) (.bin .fdiv (.bin .add (.bin .mul (.var 2) (.var 3)) (.con (.int 7))) (.con (.int 8)))) (.cons (.ite (.val (.cmp .gt (.bin .add (.var 1) (.var 4)) (.blt .len (.cons (.var 0) .nil)))) (.cons (.rse "BadFile" (.con (.str "bits"))) .nil) .nil) (.cons (.asg (.one 5) (.con (.int 0))) (.cons (.for_ (.one 6) (.rng (.var 4)) (.cons (.asg (.one 5) (.bin .add (.var 5) (.sub (.var 0) (.bin .sub (.bin .sub (.bin .add (.var 1) (.var 4)) (.con (.int 1))) (.var 6))))) (.cons (.ite (.val (.cmp .lt (.var 6) (.bin .sub (.var 4) (.con (.int 1))))) (.cons (.asg (.one 5) (.bin .mul (.var 5) (.con (.int 256)))) .nil) .nil) .nil))) (.cons (.asg (.one 7) (.con (.int 1))) (.cons (.for_ (.one 8) (.rng (.var 3)) (.cons (.asg (.one 7) (.bin .mul (.var 7) (.con (.int 2)))) .nil)) (.cons (.asg (.one 9) (.lst .nil)) (.cons (.for_ (.one 8) (.rng (.var 2)) (.cons (.app 9 (.bin .mod (.var 5) (.var 7))) (.cons (.asg (.one 5) (.bin .fdiv (.var 5) (.var 7))) .nil))) (.cons (.ite (.val (.cmp .ne (.var 5) (.con (.int 0)))) (.cons (.rse "BadFile" (.con (.str "bits"))) .nil) .nil) (.cons (.ret (.tup (.cons (.var 9) (.cons (.bin .add (.var 1) (.var 4)) .nil)))) .nil))))))))))
def f_unpack : Fn := ⟨4, 10, c_unpack⟩
def c_run_length : Ss := (.cons (.asg (.one 2) (.var 1)) (.cons (.whl (.and_ (.val (.cmp .lt (.var 2) (.blt .len (.cons (.var 0) .nil)))) (.val (.cmp .eq (.sub (.var 0) (.var 2)) (.sub (.var 0) (.var 1))))) (.cons (.asg (.one 2) (.bin .add (.var 2) (.con (.int 1)))) .nil)) (.cons (.ret (.bin .sub (.var 2) (.var 1))) .nil)))
def f_run_length : Fn := ⟨2, 3, c_run_length⟩
def c_piece_length : Ss := (.cons (.asg (.one 2) (.var 1)) (.cons (.whl (.and_ (.val (.cmp .lt (.var 2) (.blt .len (.cons (.var 0) .nil)))) (.and_ (.val (.cmp .lt (.bin .sub (.var 2) (.var 1)) (.glb "MOST_PIECE" (.int 32)))) (.val (.cmp .lt (.call "run_length" (.cons (.var 0) (.cons (.var 2) .nil))) (.glb "LEAST_RUN" (.int 4)))))) (.cons (.asg (.one 2) (.bin .add (.var 2) (.con (.int 1)))) .nil)) (.cons (.ret (.bin .sub (.var 2) (.var 1))) .nil)))
def f_piece_length : Fn := ⟨2, 3, c_piece_length⟩
def c_put_levels : Ss := (.cons (.asg (.one 2) (.call "width_of" (.cons (.var 1) .nil))) (.cons (.asg (.one 3) (.lst .nil)) (.cons (.asg (.one 4) (.con (.int 0))) (.cons (.whl (.and_ (.val (.cmp .lt (.var 4) (.blt .len (.cons (.var 0) .nil)))) (.val (.cmp .gt (.var 2) (.con (.int 0))))) (.cons (.asg (.one 5) (.call "run_length" (.cons (.var 0) (.cons (.var 4) .nil)))) (.cons (.ite (.val (.cmp .ge (.var 5) (.glb "LEAST_RUN" (.int 4)))) (.cons (.asg (.one 3) (.bin .add (.bin .add (.var 3) (.call "put_number" (.cons (.bin .mul (.con (.int 2)) (.var 5)) .nil))) (.call "put_number" (.cons (.sub (.var 0) (.var 4)) .nil)))) .nil) (.cons (.asg (.one 5) (.call "piece_length" (.cons (.var 0) (.cons (.var 4) .nil)))) (.cons (.asg (.one 3) (.bin .add (.bin .add (.var 3) (.call "put_number" (.cons (.bin .add (.bin .mul (.con (.int 2)) (.var 5)) (.con (.int 1))) .nil))) (.call "pack" (.cons (.slc (.var 0) (.some (.var 4)) (.some (.bin .add (.var 4) (.var 5)))) (.cons (.var 2) .nil))))) .nil))) (.cons (.asg (.one 4) (.bin .add (.var 4) (.var 5))) .nil)))) (.cons (.ret (.var 3)) .nil)))))
def f_put_levels : Fn := ⟨2, 6, c_put_levels⟩
def c_take_levels : Ss := (.cons (.asg (.one 4) (.call "width_of" (.cons (.var 3) .nil))) (.cons (.ite (.val (.cmp .eq (.var 4) (.con (.int 0)))) (.cons (.ret (.tup (.cons (.rep (.lst (.cons (.con (.int 0)) .nil)) (.var 2)) (.cons (.var 1) .nil)))) .nil) .nil) (.cons (.asg (.one 5) (.lst .nil)) (.cons (.whl (.val (.cmp .lt (.blt .len (.cons (.var 5) .nil)) (.var 2))) (.cons (.asg (.many [7, 1]) (.call "take_number" (.cons (.var 0) (.cons (.var 1) .nil)))) (.cons (.asg (.one 6) (.bin .fdiv (.var 7) (.con (.int 2)))) (.cons (.ite (.or_ (.val (.cmp .eq (.var 6) (.con (.int 0)))) (.val (.cmp .gt (.bin .add (.blt .len (.cons (.var 5) .nil)) (.var 6)) (.var 2)))) (.cons (.rse "BadFile" (.con (.str "levels"))) .nil) .nil) (.cons (.ite (.val (.cmp .eq (.bin .mod (.var 7) (.con (.int 2))) (.con (.int 0)))) (.cons (.asg (.many [8, 1]) (.call "take_number" (.cons (.var 0) (.cons (.var 1) .nil)))) (.cons (.asg (.one 5) (.bin .add (.var 5) (.rep (.lst (.cons (.var 8) .nil)) (.var 6)))) .nil)) (.cons (.asg (.many [9, 1]) (.call "unpack" (.cons (.var 0) (.cons (.var 1) (.cons (.var 6) (.cons (.var 4) .nil)))))) (.cons (.asg (.one 5) (.bin .add (.var 5) (.var 9))) .nil))) .nil))))) (.cons (.ite (.val (.blt .any (.cons (.lc 10 (.e (.var 5)) .no (.cmp .gt (.var 10) (.var 3))) .nil))) (.cons (.rse "BadFile" (.con (.str "levels"))) .nil) .nil) (.cons (.ret (.tup (.cons (.var 5) (.cons (.var 1) .nil)))) .nil))))))
def f_take_levels : Fn := ⟨4, 11, c_take_levels⟩
def c_allowed : Ss := (.cons (.ite (.val (.cmp .eq (.var 0) (.con (.str "int")))) (.cons (.ret (.tup (.cons (.glb "PLAIN" (.int 0)) (.cons (.glb "DICTIONARY" (.int 1)) (.cons (.glb "DIFFERENCES" (.int 2)) .nil))))) .nil) .nil) (.cons (.ite (.val (.cmp .eq (.var 0) (.con (.str "text")))) (.cons (.ret (.tup (.cons (.glb "PLAIN" (.int 0)) (.cons (.glb "DICTIONARY" (.int 1)) .nil)))) .nil) .nil) (.cons (.ret (.tup (.cons (.glb "PLAIN" (.int 0)) .nil))) .nil)))
def f_allowed : Fn := ⟨1, 1, c_allowed⟩
def c_put_one : Ss := (.cons (.ite (.val (.cmp .eq (.var 0) (.con (.str "int")))) (.cons (.ret (.call "put_word" (.cons (.var 1) .nil))) .nil) .nil) (.cons (.ite (.val (.cmp .eq (.var 0) (.con (.str "bool")))) (.cons (.ret (.lst (.cons (.blt .int (.cons (.var 1) .nil)) .nil))) .nil) .nil) (.cons (.ret (.bin .add (.call "put_number" (.cons (.blt .len (.cons (.var 1) .nil)) .nil)) (.lc 2 (.e (.var 1)) .no (.blt .ord (.cons (.var 2) .nil))))) .nil)))
def f_put_one : Fn := ⟨2, 3, c_put_one⟩
def c_take_one : Ss := (.cons (.ite (.val (.cmp .eq (.var 0) (.con (.str "text")))) (.cons (.asg (.many [3, 2]) (.call "take_text" (.cons (.var 1) (.cons (.var 2) .nil)))) .nil) (.cons (.ite (.val (.cmp .eq (.var 0) (.con (.str "int")))) (.cons (.asg (.many [3, 2]) (.call "take_word" (.cons (.var 1) (.cons (.var 2) .nil)))) (.cons (.ite (.val (.cmp .ge (.var 3) (.glb "HALF" (.int 2147483648)))) (.cons (.asg (.one 3) (.bin .sub (.var 3) (.bin .mul (.con (.int 2)) (.glb "HALF" (.int 2147483648))))) .nil) .nil) .nil)) (.cons (.ite (.or_ (.val (.cmp .ge (.var 2) (.blt .len (.cons (.var 1) .nil)))) (.val (.cmp .gt (.sub (.var 1) (.var 2)) (.con (.int 1))))) (.cons (.rse "BadFile" (.con (.str "bool"))) .nil) .nil) (.cons (.asg (.one 3) (.cmp .eq (.sub (.var 1) (.var 2)) (.con (.int 1)))) (.cons (.asg (.one 2) (.bin .add (.var 2) (.con (.int 1)))) .nil)))) .nil)) (.cons (.ite (.not_ (.val (.call "is_value" (.cons (.var 0) (.cons (.var 3) .nil))))) (.cons (.rse "BadFile" (.con (.str "value"))) .nil) .nil) (.cons (.ret (.tup (.cons (.var 3) (.cons (.var 2) .nil)))) .nil)))
def f_take_one : Fn := ⟨3, 4, c_take_one⟩
def c_put_plain : Ss := (.cons (.ite (.val (.cmp .eq (.var 0) (.con (.str "bool")))) (.cons (.ret (.call "pack" (.cons (.lc 3 (.e (.var 1)) .no (.blt .int (.cons (.var 3) .nil))) (.cons (.con (.int 1)) .nil)))) .nil) .nil) (.cons (.asg (.one 2) (.lst .nil)) (.cons (.for_ (.one 3) (.e (.var 1)) (.cons (.asg (.one 2) (.bin .add (.var 2) (.call "put_one" (.cons (.var 0) (.cons (.var 3) .nil))))) .nil)) (.cons (.ret (.var 2)) .nil))))
def f_put_plain : Fn := ⟨2, 4, c_put_plain⟩
def c_take_plain : Ss := (.cons (.ite (.val (.cmp .eq (.var 0) (.con (.str "bool")))) (.cons (.asg (.many [6, 2]) (.call "unpack" (.cons (.var 1) (.cons (.var 2) (.cons (.var 3) (.cons (.con (.int 1)) .nil)))))) (.cons (.ret (.tup (.cons (.lc 8 (.e (.var 6)) .no (.cmp .eq (.var 8) (.con (.int 1)))) (.cons (.var 2) .nil)))) .nil)) .nil) (.cons (.asg (.one 4) (.lst .nil)) (.cons (.for_ (.one 5) (.rng (.var 3)) (.cons (.asg (.many [7, 2]) (.call "take_one" (.cons (.var 0) (.cons (.var 1) (.cons (.var 2) .nil))))) (.cons (.app 4 (.var 7)) .nil))) (.cons (.ret (.tup (.cons (.var 4) (.cons (.var 2) .nil)))) .nil))))
def f_take_plain : Fn := ⟨4, 9, c_take_plain⟩
def c_take_dictionary : Ss := (.cons (.asg (.many [4, 2]) (.call "take_number" (.cons (.var 1) (.cons (.var 2) .nil)))) (.cons (.ite (.or_ (.val (.cmp .gt (.var 4) (.var 3))) (.and_ (.val (.cmp .eq (.var 4) (.con (.int 0)))) (.val (.cmp .gt (.var 3) (.con (.int 0)))))) (.cons (.rse "BadFile" (.con (.str "dictionary"))) .nil) .nil) (.cons (.asg (.many [5, 2]) (.call "take_plain" (.cons (.var 0) (.cons (.var 1) (.cons (.var 2) (.cons (.var 4) .nil)))))) (.cons (.asg (.many [6, 2]) (.call "take_levels" (.cons (.var 1) (.cons (.var 2) (.cons (.var 3) (.cons (.blt .max (.cons (.con (.int 0)) (.cons (.bin .sub (.var 4) (.con (.int 1))) .nil))) .nil)))))) (.cons (.ret (.tup (.cons (.lc 7 (.e (.var 6)) .no (.sub (.var 5) (.var 7))) (.cons (.var 2) .nil)))) .nil)))))
def f_take_dictionary : Fn := ⟨4, 8, c_take_dictionary⟩
def c_put_differences : Ss := (.cons (.asg (.one 1) (.lst .nil)) (.cons (.asg (.one 2) (.con (.int 0))) (.cons (.for_ (.one 3) (.e (.var 0)) (.cons (.asg (.one 1) (.bin .add (.var 1) (.call "put_number" (.cons (.call "fold_sign" (.cons (.bin .sub (.var 3) (.var 2)) .nil)) .nil)))) (.cons (.asg (.one 2) (.var 3)) .nil))) (.cons (.ret (.var 1)) .nil))))
def f_put_differences : Fn := ⟨1, 4, c_put_differences⟩
def c_take_differences : Ss := (.cons (.asg (.one 3) (.lst .nil)) (.cons (.asg (.one 4) (.con (.int 0))) (.cons (.for_ (.one 5) (.rng (.var 2)) (.cons (.asg (.many [6, 1]) (.call "take_number" (.cons (.var 0) (.cons (.var 1) .nil)))) (.cons (.asg (.one 4) (.bin .add (.var 4) (.call "unfold_sign" (.cons (.var 6) .nil)))) (.cons (.ite (.not_ (.val (.call "is_value" (.cons (.con (.str "int")) (.cons (.var 4) .nil))))) (.cons (.rse "BadFile" (.con (.str "value"))) .nil) .nil) (.cons (.app 3 (.var 4)) .nil))))) (.cons (.ret (.tup (.cons (.var 3) (.cons (.var 1) .nil)))) .nil))))
def f_take_differences : Fn := ⟨3, 7, c_take_differences⟩
def c_put_values : Ss := (.cons (.ite (.val (.cmp .eq (.var 2) (.glb "DICTIONARY" (.int 1)))) (.cons (.ret (.call "put_dictionary" (.cons (.var 0) (.cons (.var 1) .nil)))) .nil) .nil) (.cons (.ite (.val (.cmp .eq (.var 2) (.glb "DIFFERENCES" (.int 2)))) (.cons (.ret (.call "put_differences" (.cons (.var 1) .nil))) .nil) .nil) (.cons (.ret (.call "put_plain" (.cons (.var 0) (.cons (.var 1) .nil)))) .nil)))
def f_put_values : Fn := ⟨3, 3, c_put_values⟩
def c_take_values : Ss := (.cons (.ite (.val (.cmp .eq (.var 4) (.glb "DICTIONARY" (.int 1)))) (.cons (.ret (.call "take_dictionary" (.cons (.var 0) (.cons (.var 1) (.cons (.var 2) (.cons (.var 3) .nil)))))) .nil) .nil) (.cons (.ite (.val (.cmp .eq (.var 4) (.glb "DIFFERENCES" (.int 2)))) (.cons (.ret (.call "take_differences" (.cons (.var 1) (.cons (.var 2) (.cons (.var 3) .nil))))) .nil) .nil) (.cons (.ret (.call "take_plain" (.cons (.var 0) (.cons (.var 1) (.cons (.var 2) (.cons (.var 3) .nil)))))) .nil)))
def f_take_values : Fn := ⟨5, 5, c_take_values⟩
def c_put_page : Ss := (.cons (.asg (.many [5, 6, 7, 8]) (.var 0)) (.cons (.asg (.one 3) (.lc 9 (.e (.var 1)) (.some (.val (.cmp .isnt (.sub (.var 9) (.con (.int 2))) (.con .none)))) (.sub (.var 9) (.con (.int 2))))) (.cons (.asg (.one 4) (.bin .add (.call "put_number" (.cons (.blt .len (.cons (.var 1) .nil)) .nil)) (.call "put_levels" (.cons (.lc 9 (.e (.var 1)) .no (.sub (.var 9) (.con (.int 0)))) (.cons (.var 8) .nil))))) (.cons (.asg (.one 4) (.bin .add (.var 4) (.call "put_levels" (.cons (.lc 9 (.e (.var 1)) .no (.sub (.var 9) (.con (.int 1)))) (.cons (.var 7) .nil))))) (.cons (.ret (.bin .add (.var 4) (.call "put_values" (.cons (.var 6) (.cons (.var 3) (.cons (.var 2) .nil)))))) .nil)))))
def f_put_page : Fn := ⟨3, 10, c_put_page⟩
def c_take_page : Ss := (.cons (.asg (.many [6, 7, 8, 9]) (.var 0)) (.cons (.asg (.many [10, 11]) (.call "take_number" (.cons (.var 1) (.cons (.con (.int 0)) .nil)))) (.cons (.ite (.val (.cmp .gt (.var 10) (.glb "MAX_ENTRIES" (.int 20000)))) (.cons (.rse "BadFile" (.con (.str "count"))) .nil) .nil) (.cons (.asg (.many [12, 11]) (.call "take_levels" (.cons (.var 1) (.cons (.var 11) (.cons (.var 10) (.cons (.var 9) .nil)))))) (.cons (.asg (.many [13, 11]) (.call "take_levels" (.cons (.var 1) (.cons (.var 11) (.cons (.var 10) (.cons (.var 8) .nil)))))) (.cons (.asg (.many [14, 11]) (.call "take_values" (.cons (.var 7) (.cons (.var 1) (.cons (.var 11) (.cons (.blt .len (.cons (.lc 15 (.e (.var 13)) (.some (.val (.cmp .eq (.var 15) (.var 8)))) (.var 15)) .nil)) (.cons (.var 2) .nil))))))) (.cons (.ite (.val (.cmp .ne (.var 11) (.blt .len (.cons (.var 1) .nil)))) (.cons (.rse "BadFile" (.con (.str "page"))) .nil) .nil) (.cons (.asg (.one 3) (.lst .nil)) (.cons (.asg (.one 4) (.con (.int 0))) (.cons (.for_ (.one 5) (.rng (.var 10)) (.cons (.ite (.val (.cmp .eq (.sub (.var 13) (.var 5)) (.var 8))) (.cons (.app 3 (.tup (.cons (.sub (.var 12) (.var 5)) (.cons (.sub (.var 13) (.var 5)) (.cons (.sub (.var 14) (.var 4)) .nil))))) (.cons (.asg (.one 4) (.bin .add (.var 4) (.con (.int 1)))) .nil)) (.cons (.app 3 (.tup (.cons (.sub (.var 12) (.var 5)) (.cons (.sub (.var 13) (.var 5)) (.cons (.con .none) .nil))))) .nil)) .nil)) (.cons (.ret (.var 3)) .nil)))))))))))
def f_take_page : Fn := ⟨3, 16, c_take_page⟩
def c_mark_of : Ss := (.cons (.asg (.one 2) (.con (.int 0))) (.cons (.ite (.val (.cmp .eq (.var 0) (.con (.str "text")))) (.cons (.for_ (.one 3) (.e (.var 1)) (.cons (.asg (.one 2) (.bin .mod (.bin .add (.bin .mul (.var 2) (.con (.int 31))) (.blt .ord (.cons (.var 3) .nil))) (.glb "BITS" (.int 4294967296)))) .nil)) .nil) (.cons (.asg (.one 2) (.blt .int (.cons (.var 1) .nil))) .nil)) (.cons (.ret (.bin .fdiv (.bin .mod (.bin .mul (.var 2) (.con (.int 2654435761))) (.glb "BITS" (.int 4294967296))) (.con (.int 134217728)))) .nil)))
def f_mark_of : Fn := ⟨2, 4, c_mark_of⟩
def c_has_mark : Ss := (.cons (.for_ (.one 2) (.rng (.var 1)) (.cons (.asg (.one 0) (.bin .fdiv (.var 0) (.con (.int 2)))) .nil)) (.cons (.ret (.cmp .eq (.bin .mod (.var 0) (.con (.int 2))) (.con (.int 1)))) .nil))
def f_has_mark : Fn := ⟨2, 3, c_has_mark⟩
def c_told_of : Ss := (.cons (.asg (.one 2) (.lc 4 (.e (.var 1)) (.some (.val (.cmp .isnt (.sub (.var 4) (.con (.int 2))) (.con .none)))) (.sub (.var 4) (.con (.int 2))))) (.cons (.ite (.not_ (.val (.var 2))) (.cons (.ret (.tup (.cons (.glb "EMPTY" (.int 0)) (.cons (.con .none) (.cons (.con .none) (.cons (.con (.int 0)) .nil)))))) .nil) .nil) (.cons (.asg (.one 3) (.glb "FULL" (.int 2))) (.cons (.ite (.val (.cmp .lt (.blt .len (.cons (.var 2) .nil)) (.blt .len (.cons (.var 1) .nil)))) (.cons (.asg (.one 3) (.glb "PARTLY" (.int 1))) .nil) .nil) (.cons (.ret (.tup (.cons (.var 3) (.cons (.blt .min (.cons (.var 2) .nil)) (.cons (.blt .max (.cons (.var 2) .nil)) (.cons (.call "sieve_of" (.cons (.sub (.var 0) (.con (.int 1))) (.cons (.var 2) .nil))) .nil)))))) .nil)))))
def f_told_of : Fn := ⟨2, 5, c_told_of⟩
def c_put_told : Ss := (.cons (.ite (.val (.cmp .eq (.sub (.var 1) (.con (.int 0))) (.glb "EMPTY" (.int 0)))) (.cons (.ret (.lst (.cons (.glb "EMPTY" (.int 0)) .nil))) .nil) .nil) (.cons (.ret (.bin .add (.bin .add (.bin .add (.lst (.cons (.sub (.var 1) (.con (.int 0))) .nil)) (.call "put_one" (.cons (.sub (.var 0) (.con (.int 1))) (.cons (.sub (.var 1) (.con (.int 1))) .nil)))) (.call "put_one" (.cons (.sub (.var 0) (.con (.int 1))) (.cons (.sub (.var 1) (.con (.int 2))) .nil)))) (.call "put_word" (.cons (.sub (.var 1) (.con (.int 3))) .nil)))) .nil))
def f_put_told : Fn := ⟨2, 2, c_put_told⟩
def c_take_told : Ss := (.cons (.ite (.or_ (.val (.cmp .ge (.var 2) (.blt .len (.cons (.var 1) .nil)))) (.val (.cmp .gt (.sub (.var 1) (.var 2)) (.glb "FULL" (.int 2))))) (.cons (.rse "BadFile" (.con (.str "told"))) .nil) .nil) (.cons (.asg (.one 3) (.sub (.var 1) (.var 2))) (.cons (.asg (.one 2) (.bin .add (.var 2) (.con (.int 1)))) (.cons (.ite (.val (.cmp .eq (.var 3) (.glb "EMPTY" (.int 0)))) (.cons (.ret (.tup (.cons (.tup (.cons (.glb "EMPTY" (.int 0)) (.cons (.con .none) (.cons (.con .none) (.cons (.con (.int 0)) .nil))))) (.cons (.var 2) .nil)))) .nil) .nil) (.cons (.asg (.many [4, 2]) (.call "take_one" (.cons (.sub (.var 0) (.con (.int 1))) (.cons (.var 1) (.cons (.var 2) .nil))))) (.cons (.asg (.many [5, 2]) (.call "take_one" (.cons (.sub (.var 0) (.con (.int 1))) (.cons (.var 1) (.cons (.var 2) .nil))))) (.cons (.asg (.many [6, 2]) (.call "take_word" (.cons (.var 1) (.cons (.var 2) .nil)))) (.cons (.ret (.tup (.cons (.tup (.cons (.var 3) (.cons (.var 4) (.cons (.var 5) (.cons (.var 6) .nil))))) (.cons (.var 2) .nil)))) .nil))))))))
def f_take_told : Fn := ⟨3, 7, c_take_told⟩
def c_check_layout : Ss := (.cons (.asg (.many [4, 5]) (.var 1)) (.cons (.asg (.one 2) (.call "columns_of" (.cons (.var 0) .nil))) (.cons (.ite (.or_ (.val (.cmp .lt (.var 4) (.con (.int 1)))) (.val (.cmp .gt (.var 4) (.glb "MAX_PAGE" (.int 1000))))) (.cons (.rse "BadLayout" (.con (.str "size"))) .nil) .nil) (.cons (.ite (.val (.cmp .ne (.blt .len (.cons (.var 5) .nil)) (.blt .len (.cons (.var 2) .nil)))) (.cons (.rse "BadLayout" (.con (.str "encodings"))) .nil) .nil) (.cons (.for_ (.one 3) (.rng (.blt .len (.cons (.var 2) .nil))) (.cons (.ite (.val (.cmp .nin (.sub (.var 5) (.var 3)) (.call "allowed" (.cons (.sub (.sub (.var 2) (.var 3)) (.con (.int 1))) .nil)))) (.cons (.rse "BadLayout" (.con (.str "encoding"))) .nil) .nil) .nil)) .nil)))))
def f_check_layout : Fn := ⟨2, 6, c_check_layout⟩
def c_take_byte : Ss := (.cons (.ite (.val (.cmp .ge (.var 1) (.blt .len (.cons (.var 0) .nil)))) (.cons (.rse "BadFile" (.con (.str "footer"))) .nil) .nil) (.cons (.ret (.sub (.var 0) (.var 1))) .nil))
def f_take_byte : Fn := ⟨2, 2, c_take_byte⟩
def c_take_fields : Ss := (.cons (.ite (.val (.cmp .gt (.var 2) (.con (.int 5)))) (.cons (.rse "BadFile" (.con (.str "footer"))) .nil) .nil) (.cons (.asg (.one 3) (.lst .nil)) (.cons (.asg (.one 4) (.call "take_byte" (.cons (.var 0) (.cons (.var 1) .nil)))) (.cons (.asg (.one 1) (.bin .add (.var 1) (.con (.int 1)))) (.cons (.for_ (.one 5) (.rng (.var 4)) (.cons (.asg (.one 6) (.call "take_byte" (.cons (.var 0) (.cons (.var 1) .nil)))) (.cons (.asg (.one 7) (.call "take_name" (.cons (.var 0) (.cons (.bin .add (.var 1) (.con (.int 1))) (.cons (.var 6) .nil))))) (.cons (.asg (.one 1) (.bin .add (.bin .add (.var 1) (.con (.int 1))) (.var 6))) (.cons (.asg (.one 8) (.call "take_byte" (.cons (.var 0) (.cons (.var 1) .nil)))) (.cons (.asg (.one 9) (.call "take_byte" (.cons (.var 0) (.cons (.bin .add (.var 1) (.con (.int 1))) .nil)))) (.cons (.asg (.one 1) (.bin .add (.var 1) (.con (.int 2)))) (.cons (.ite (.or_ (.val (.cmp .gt (.var 8) (.con (.int 2)))) (.val (.cmp .gt (.var 9) (.con (.int 3))))) (.cons (.rse "BadFile" (.con (.str "footer"))) .nil) .nil) (.cons (.ite (.val (.cmp .eq (.var 9) (.con (.int 3)))) (.cons (.asg (.many [10, 1]) (.call "take_fields" (.cons (.var 0) (.cons (.var 1) (.cons (.bin .add (.var 2) (.con (.int 1))) .nil))))) (.cons (.app 3 (.tup (.cons (.var 7) (.cons (.sub (.glb "TIMES" (.tuple [(.str "one"), (.str "maybe"), (.str "many")])) (.var 8)) (.cons (.var 10) .nil))))) .nil)) (.cons (.app 3 (.tup (.cons (.var 7) (.cons (.sub (.glb "TIMES" (.tuple [(.str "one"), (.str "maybe"), (.str "many")])) (.var 8)) (.cons (.sub (.glb "KINDS" (.tuple [(.str "int"), (.str "bool"), (.str "text")])) (.var 9)) .nil))))) .nil)) .nil))))))))) (.cons (.ret (.tup (.cons (.blt .tuple (.cons (.var 3) .nil)) (.cons (.var 1) .nil)))) .nil))))))
def f_take_fields : Fn := ⟨3, 11, c_take_fields⟩
def c_put_group : Ss := (.cons (.asg (.many [8, 9]) (.var 2)) (.cons (.asg (.one 3) (.call "shred" (.cons (.var 0) (.cons (.var 1) .nil)))) (.cons (.asg (.one 4) (.call "columns_of" (.cons (.var 0) .nil))) (.cons (.asg (.one 5) (.lst .nil)) (.cons (.asg (.one 6) (.bin .add (.bin .add (.call "put_number" (.cons (.blt .len (.cons (.var 1) .nil)) .nil)) (.call "put_number" (.cons (.var 8) .nil))) (.blt .list (.cons (.var 9) .nil)))) (.cons (.for_ (.one 7) (.rng (.blt .len (.cons (.var 4) .nil))) (.cons (.for_ (.one 10) (.e (.call "cut" (.cons (.sub (.var 3) (.sub (.sub (.var 4) (.var 7)) (.con (.int 0)))) (.cons (.var 8) .nil)))) (.cons (.asg (.one 11) (.call "put_page" (.cons (.sub (.var 4) (.var 7)) (.cons (.var 10) (.cons (.sub (.var 9) (.var 7)) .nil))))) (.cons (.asg (.one 5) (.bin .add (.var 5) (.var 11))) (.cons (.asg (.one 6) (.bin .add (.bin .add (.var 6) (.call "put_number" (.cons (.blt .len (.cons (.var 11) .nil)) .nil))) (.call "put_told" (.cons (.sub (.var 4) (.var 7)) (.cons (.call "told_of" (.cons (.sub (.var 4) (.var 7)) (.cons (.var 10) .nil))) .nil))))) .nil)))) .nil)) (.cons (.ret (.tup (.cons (.var 5) (.cons (.var 6) .nil)))) .nil)))))))
def f_put_group : Fn := ⟨3, 12, c_put_group⟩
def c_write_groups : Ss := (.cons (.expr (.call "check_schema" (.cons (.var 0) .nil))) (.cons (.asg (.one 2) (.blt .list (.cons (.glb "MAGIC" (.tuple [(.int 83), (.int 84), (.int 75), (.int 49)])) .nil))) (.cons (.asg (.one 3) (.bin .add (.call "put_fields" (.cons (.var 0) .nil)) (.call "put_number" (.cons (.blt .len (.cons (.var 1) .nil)) .nil)))) (.cons (.for_ (.many [4, 5]) (.e (.var 1)) (.cons (.expr (.call "check_layout" (.cons (.var 0) (.cons (.var 5) .nil)))) (.cons (.ite (.val (.cmp .gt (.blt .len (.cons (.var 4) .nil)) (.glb "MAX_RECORDS" (.int 5000)))) (.cons (.rse "BadLayout" (.con (.str "records"))) .nil) .nil) (.cons (.for_ (.one 6) (.e (.var 4)) (.cons (.expr (.call "check_record" (.cons (.var 0) (.cons (.var 6) .nil)))) .nil)) (.cons (.asg (.many [7, 8]) (.call "put_group" (.cons (.var 0) (.cons (.var 4) (.cons (.var 5) .nil))))) (.cons (.asg (.one 2) (.bin .add (.var 2) (.var 7))) (.cons (.asg (.one 3) (.bin .add (.var 3) (.var 8))) .nil))))))) (.cons (.ret (.bin .add (.bin .add (.bin .add (.var 2) (.var 3)) (.call "put_word" (.cons (.blt .len (.cons (.var 3) .nil)) .nil))) (.blt .list (.cons (.glb "MAGIC" (.tuple [(.int 83), (.int 84), (.int 75), (.int 49)])) .nil)))) .nil)))))
def f_write_groups : Fn := ⟨2, 9, c_write_groups⟩
def c_condition_paths : Ss := (.cons (.ite (.or_ (.val (.cmp .eq (.sub (.var 0) (.con (.int 0))) (.con (.str "and")))) (.val (.cmp .eq (.sub (.var 0) (.con (.int 0))) (.con (.str "or"))))) (.cons (.asg (.one 1) (.call "condition_paths" (.cons (.sub (.var 0) (.con (.int 1))) .nil))) (.cons (.ret (.bin .add (.var 1) (.lc 2 (.e (.call "condition_paths" (.cons (.sub (.var 0) (.con (.int 2))) .nil))) (.some (.val (.cmp .nin (.var 2) (.var 1)))) (.var 2)))) .nil)) .nil) (.cons (.ite (.val (.cmp .eq (.sub (.var 0) (.con (.int 0))) (.con (.str "not")))) (.cons (.ret (.call "condition_paths" (.cons (.sub (.var 0) (.con (.int 1))) .nil))) .nil) .nil) (.cons (.ret (.lst (.cons (.sub (.var 0) (.con (.int 1))) .nil))) .nil)))
def f_condition_paths : Fn := ⟨1, 3, c_condition_paths⟩
def c_compares : Ss := (.cons (.ite (.val (.cmp .eq (.var 0) (.con (.str "lt")))) (.cons (.ret (.cmp .lt (.var 1) (.var 2))) .nil) .nil) (.cons (.ite (.val (.cmp .eq (.var 0) (.con (.str "le")))) (.cons (.ret (.cmp .le (.var 1) (.var 2))) .nil) .nil) (.cons (.ite (.val (.cmp .eq (.var 0) (.con (.str "eq")))) (.cons (.ret (.cmp .eq (.var 1) (.var 2))) .nil) .nil) (.cons (.ite (.val (.cmp .eq (.var 0) (.con (.str "ge")))) (.cons (.ret (.cmp .ge (.var 1) (.var 2))) .nil) .nil) (.cons (.ret (.cmp .gt (.var 1) (.var 2))) .nil)))))
def f_compares : Fn := ⟨3, 3, c_compares⟩
def c_holds : Ss := (.cons (.asg (.one 2) (.sub (.var 0) (.con (.int 0)))) (.cons (.ite (.val (.cmp .eq (.var 2) (.con (.str "and")))) (.cons (.ret (.and_ (.call "holds" (.cons (.sub (.var 0) (.con (.int 1))) (.cons (.var 1) .nil))) (.call "holds" (.cons (.sub (.var 0) (.con (.int 2))) (.cons (.var 1) .nil))))) .nil) .nil) (.cons (.ite (.val (.cmp .eq (.var 2) (.con (.str "or")))) (.cons (.ret (.or_ (.call "holds" (.cons (.sub (.var 0) (.con (.int 1))) (.cons (.var 1) .nil))) (.call "holds" (.cons (.sub (.var 0) (.con (.int 2))) (.cons (.var 1) .nil))))) .nil) .nil) (.cons (.ite (.val (.cmp .eq (.var 2) (.con (.str "not")))) (.cons (.ret (.not_ (.call "holds" (.cons (.sub (.var 0) (.con (.int 1))) (.cons (.var 1) .nil))))) .nil) .nil) (.cons (.ite (.val (.cmp .eq (.var 2) (.con (.str "has")))) (.cons (.ret (.cmp .gt (.blt .len (.cons (.sub (.var 1) (.sub (.var 0) (.con (.int 1)))) .nil)) (.con (.int 0)))) .nil) .nil) (.cons (.ret (.blt .any (.cons (.lc 3 (.e (.sub (.var 1) (.sub (.var 0) (.con (.int 1))))) .no (.call "compares" (.cons (.var 2) (.cons (.var 3) (.cons (.sub (.var 0) (.con (.int 2))) .nil))))) .nil))) .nil))))))
def f_holds : Fn := ⟨2, 4, c_holds⟩
def c_verdict_leaf : Ss := (.cons (.asg (.many [5, 6, 7, 8]) (.var 2)) (.cons (.asg (.one 3) (.sub (.var 1) (.con (.int 0)))) (.cons (.ite (.val (.cmp .eq (.var 5) (.glb "EMPTY" (.int 0)))) (.cons (.ret (.con (.str "never"))) .nil) .nil) (.cons (.ite (.val (.cmp .eq (.var 3) (.con (.str "has")))) (.cons (.ite (.val (.cmp .eq (.var 5) (.glb "FULL" (.int 2)))) (.cons (.ret (.con (.str "always"))) .nil) .nil) (.cons (.ret (.con (.str "perhaps"))) .nil)) .nil) (.cons (.asg (.one 4) (.sub (.var 1) (.con (.int 2)))) (.cons (.ite (.val (.cmp .eq (.var 3) (.con (.str "eq")))) (.cons (.ite (.or_ (.val (.cmp .lt (.var 4) (.var 6))) (.or_ (.val (.cmp .gt (.var 4) (.var 7))) (.not_ (.val (.call "has_mark" (.cons (.var 8) (.cons (.call "mark_of" (.cons (.var 0) (.cons (.var 4) .nil))) .nil))))))) (.cons (.ret (.con (.str "never"))) .nil) .nil) (.cons (.asg (.one 9) (.con (.bool true))) (.cons (.asg (.one 10) (.cmp .eq (.var 6) (.var 7))) .nil))) (.cons (.ite (.or_ (.val (.cmp .eq (.var 3) (.con (.str "lt")))) (.val (.cmp .eq (.var 3) (.con (.str "le"))))) (.cons (.asg (.one 9) (.call "compares" (.cons (.var 3) (.cons (.var 6) (.cons (.var 4) .nil))))) (.cons (.asg (.one 10) (.call "compares" (.cons (.var 3) (.cons (.var 7) (.cons (.var 4) .nil))))) .nil)) (.cons (.asg (.one 9) (.call "compares" (.cons (.var 3) (.cons (.var 7) (.cons (.var 4) .nil))))) (.cons (.asg (.one 10) (.call "compares" (.cons (.var 3) (.cons (.var 6) (.cons (.var 4) .nil))))) .nil))) .nil)) (.cons (.ite (.not_ (.val (.var 9))) (.cons (.ret (.con (.str "never"))) .nil) .nil) (.cons (.ite (.and_ (.val (.var 10)) (.val (.cmp .eq (.var 5) (.glb "FULL" (.int 2))))) (.cons (.ret (.con (.str "always"))) .nil) .nil) (.cons (.ret (.con (.str "perhaps"))) .nil)))))))))
def f_verdict_leaf : Fn := ⟨3, 11, c_verdict_leaf⟩
def c__wall : Ss := (.cons (.whl (.val (.con (.bool true))) (.cons (.pass) .nil)) .nil)
def f__wall : Fn := ⟨1, 1, c__wall⟩
def c_plain_layout : Ss := (.cons (.ret (.tup (.cons (.var 1) (.cons (.bin .mul (.tup (.cons (.con (.int 0)) .nil)) (.blt .len (.cons (.call "columns_of" (.cons (.var 0) .nil)) .nil))) .nil)))) .nil)
def f_plain_layout : Fn := ⟨2, 2, c_plain_layout⟩
def c_group_footer : Ss := (.cons (.asg (.many [5, 6, 7]) (.var 1)) (.cons (.asg (.one 2) (.bin .add (.bin .add (.call "put_number" (.cons (.var 5) .nil)) (.call "put_number" (.cons (.sub (.var 6) (.con (.int 0))) .nil))) (.blt .list (.cons (.sub (.var 6) (.con (.int 1))) .nil)))) (.cons (.asg (.one 3) (.call "columns_of" (.cons (.var 0) .nil))) (.cons (.for_ (.one 4) (.rng (.blt .len (.cons (.var 3) .nil))) (.cons (.for_ (.many [8, 9, 10]) (.e (.sub (.var 7) (.var 4))) (.cons (.asg (.one 2) (.bin .add (.bin .add (.var 2) (.call "put_number" (.cons (.var 9) .nil))) (.call "put_told" (.cons (.sub (.var 3) (.var 4)) (.cons (.var 10) .nil))))) .nil)) .nil)) (.cons (.ret (.var 2)) .nil)))))
def f_group_footer : Fn := ⟨2, 11, c_group_footer⟩
def c_field_named : Ss := (.cons (.for_ (.one 2) (.rng (.blt .len (.cons (.var 0) .nil))) (.cons (.ite (.val (.cmp .eq (.sub (.sub (.var 0) (.var 2)) (.con (.int 0))) (.var 1))) (.cons (.ret (.var 2)) .nil) .nil) .nil)) (.cons (.ret (.con .none)) .nil))
def f_field_named : Fn := ⟨2, 3, c_field_named⟩
def c_fits : Ss := (.cons (.tr (.cons (.expr (.call "check_fit" (.cons (.var 0) (.cons (.var 1) (.cons (.tup .nil) .nil))))) .nil) "NoFit" none (.cons (.ret (.con (.bool false))) .nil)) (.cons (.ret (.con (.bool true))) .nil))
def f_fits : Fn := ⟨2, 2, c_fits⟩
end PF
end

section
set_option Elab.async false
set_option linter.all false
set_option maxRecDepth 100000
set_option maxHeartbeats 0
/-! C07: the defs of the law in the small language (printed by gen.py). -/
namespace C07
open PySem PySem.Spec PyProof.Rows L2 Tv
abbrev L : PySem.W.OpenLaw := PySem.Challenge.rw_stripestack_k07_numbers_and_levels
abbrev R : PySem.W.OpenRow := PySem.W.OpenLaw.row L
def stAt (i : Nat) : Stmt := (R.prog.main.body[i]?).getD default
def d_put_number : Pd := { nm := "put_number", st := stAt 5, N := ["number", "result"], ps := ["number"], fn := PF.f_put_number }
def d_take_number : Pd := { nm := "take_number", st := stAt 6, N := ["data", "at", "number", "worth", "k", "byte"], ps := ["data", "at"], fn := PF.f_take_number }
def d_fold_sign : Pd := { nm := "fold_sign", st := stAt 7, N := ["number"], ps := ["number"], fn := PF.f_fold_sign }
def d_unfold_sign : Pd := { nm := "unfold_sign", st := stAt 8, N := ["number"], ps := ["number"], fn := PF.f_unfold_sign }
def d_put_word : Pd := { nm := "put_word", st := stAt 9, N := ["number"], ps := ["number"], fn := PF.f_put_word }
def d_take_word : Pd := { nm := "take_word", st := stAt 10, N := ["data", "at", "number"], ps := ["data", "at"], fn := PF.f_take_word }
def d_width_of : Pd := { nm := "width_of", st := stAt 11, N := ["most", "width"], ps := ["most"], fn := PF.f_width_of }
def d_pack : Pd := { nm := "pack", st := stAt 12, N := ["numbers", "width", "total", "worth", "number", "result", "_"], ps := ["numbers", "width"], fn := PF.f_pack }
def d_unpack : Pd := { nm := "unpack", st := stAt 13, N := ["data", "at", "count", "width", "length", "total", "k", "size", "_", "numbers"], ps := ["data", "at", "count", "width"], fn := PF.f_unpack }
def d_run_length : Pd := { nm := "run_length", st := stAt 17, N := ["numbers", "at", "end"], ps := ["numbers", "at"], fn := PF.f_run_length }
def d_piece_length : Pd := { nm := "piece_length", st := stAt 18, N := ["numbers", "at", "end"], ps := ["numbers", "at"], fn := PF.f_piece_length }
def d_put_levels : Pd := { nm := "put_levels", st := stAt 19, N := ["numbers", "most", "width", "result", "at", "length"], ps := ["numbers", "most"], fn := PF.f_put_levels }
def d_take_levels : Pd := { nm := "take_levels", st := stAt 20, N := ["data", "at", "count", "most", "width", "numbers", "length", "head", "value", "piece", "number"], ps := ["data", "at", "count", "most"], fn := PF.f_take_levels }
def c__law_cell : Ss := (.cons (.ite (.val (.cmp .lt (.var 1) (.blt .len (.cons (.var 0) .nil)))) (.cons (.ret (.blt .int (.cons (.sub (.var 0) (.var 1)) .nil))) .nil) .nil) (.cons (.ret (.con (.int 0))) .nil))
def d__law_cell : Pd := { nm := "_law_cell", st := stAt 22, N := ["_law_script", "_law_k"], ps := ["_law_script", "_law_k"], fn := ⟨2, 2, c__law_cell⟩ }
def c__law_numbers : Ss := (.cons (.asg (.one 2) (.lst .nil)) (.cons (.asg (.one 3) (.blt .abs (.cons (.var 0) .nil))) (.cons (.ite (.val (.cmp .ge (.var 3) (.con (.int 1000000000000000000)))) (.cons (.for_ (.one 4) (.rng (.var 1)) (.cons (.app 2 (.bin .mod (.blt .int (.cons (.var 3) .nil)) (.con (.int 1048576)))) (.cons (.asg (.one 3) (.bin .fdiv (.var 3) (.con (.int 1048576)))) .nil))) (.cons (.ret (.var 2)) .nil)) .nil) (.cons (.for_ (.one 4) (.rng (.var 1)) (.cons (.asg (.one 3) (.bin .mod (.blt .int (.cons (.bin .add (.bin .add (.bin .mul (.var 3) (.con (.int 48271))) (.bin .mul (.var 4) (.con (.int 7919)))) (.con (.int 11))) .nil)) (.con (.int 2147483647)))) (.cons (.app 2 (.bin .mod (.bin .mod (.blt .int (.cons (.bin .mul (.var 3) (.con (.int 69621))) .nil)) (.con (.int 2147483629))) (.con (.int 1048576)))) .nil))) (.cons (.ret (.var 2)) .nil)))))
def d__law_numbers : Pd := { nm := "_law_numbers", st := stAt 23, N := ["_law_cell_here", "_law_many", "_law_found", "_law_rest", "_law_k"], ps := ["_law_cell_here", "_law_many"], fn := ⟨2, 5, c__law_numbers⟩ }
def c__law_number : Ss := (.cons (.asg (.one 1) (.lst .nil)) (.cons (.for_ (.one 2) (.rng (.con (.int 5))) (.cons (.ite (.val (.cmp .ge (.var 0) (.con (.int 128)))) (.cons (.app 1 (.bin .add (.bin .mod (.blt .int (.cons (.var 0) .nil)) (.con (.int 128))) (.con (.int 128)))) (.cons (.asg (.one 0) (.bin .fdiv (.var 0) (.con (.int 128)))) .nil)) .nil) .nil)) (.cons (.ret (.bin .add (.var 1) (.lst (.cons (.var 0) .nil)))) .nil)))
def d__law_number : Pd := { nm := "_law_number", st := stAt 24, N := ["_law_number_here", "_law_found", "_law_k"], ps := ["_law_number_here"], fn := ⟨1, 3, c__law_number⟩ }
def c__law_word : Ss := (.cons (.asg (.one 0) (.bin .mod (.blt .int (.cons (.var 0) .nil)) (.con (.int 4294967296)))) (.cons (.ret (.lst (.cons (.bin .mod (.blt .int (.cons (.var 0) .nil)) (.con (.int 256))) (.cons (.bin .mod (.blt .int (.cons (.bin .fdiv (.var 0) (.con (.int 256))) .nil)) (.con (.int 256))) (.cons (.bin .mod (.blt .int (.cons (.bin .fdiv (.var 0) (.con (.int 65536))) .nil)) (.con (.int 256))) (.cons (.bin .fdiv (.var 0) (.con (.int 16777216))) .nil)))))) .nil))
def d__law_word : Pd := { nm := "_law_word", st := stAt 25, N := ["_law_number_here"], ps := ["_law_number_here"], fn := ⟨1, 1, c__law_word⟩ }
def c__law_width : Ss := (.cons (.asg (.one 1) (.con (.int 0))) (.cons (.for_ (.one 2) (.rng (.con (.int 40))) (.cons (.ite (.val (.cmp .gt (.var 0) (.con (.int 0)))) (.cons (.asg (.one 1) (.bin .add (.var 1) (.con (.int 1)))) (.cons (.asg (.one 0) (.bin .fdiv (.var 0) (.con (.int 2)))) .nil)) .nil) .nil)) (.cons (.ret (.var 1)) .nil)))
def d__law_width : Pd := { nm := "_law_width", st := stAt 26, N := ["_law_most", "_law_width_here", "_law_k"], ps := ["_law_most"], fn := ⟨1, 3, c__law_width⟩ }
def c__law_pack : Ss := (.cons (.asg (.one 2) (.lst .nil)) (.cons (.for_ (.one 3) (.e (.var 0)) (.cons (.for_ (.one 5) (.rng (.var 1)) (.cons (.app 2 (.bin .mod (.blt .int (.cons (.var 3) .nil)) (.con (.int 2)))) (.cons (.asg (.one 3) (.bin .fdiv (.var 3) (.con (.int 2)))) .nil))) .nil)) (.cons (.asg (.one 4) (.lst .nil)) (.cons (.for_ (.one 5) (.rng (.bin .fdiv (.bin .add (.blt .len (.cons (.var 2) .nil)) (.con (.int 7))) (.con (.int 8)))) (.cons (.asg (.one 6) (.con (.int 0))) (.cons (.for_ (.one 7) (.rng (.con (.int 8))) (.cons (.ite (.val (.cmp .lt (.bin .sub (.bin .add (.bin .mul (.con (.int 8)) (.var 5)) (.con (.int 7))) (.var 7)) (.blt .len (.cons (.var 2) .nil)))) (.cons (.asg (.one 6) (.bin .add (.bin .mul (.var 6) (.con (.int 2))) (.sub (.var 2) (.bin .sub (.bin .add (.bin .mul (.con (.int 8)) (.var 5)) (.con (.int 7))) (.var 7))))) .nil) (.cons (.asg (.one 6) (.bin .mul (.var 6) (.con (.int 2)))) .nil)) .nil)) (.cons (.app 4 (.var 6)) .nil)))) (.cons (.ret (.var 4)) .nil)))))
def d__law_pack : Pd := { nm := "_law_pack", st := stAt 27, N := ["_law_numbers_here", "_law_width_here", "_law_bits", "_law_number_here", "_law_found", "_law_k", "_law_total", "_law_j"], ps := ["_law_numbers_here", "_law_width_here"], fn := ⟨2, 8, c__law_pack⟩ }
def c__law_run : Ss := (.cons (.asg (.one 3) (.con (.int 0))) (.cons (.for_ (.one 4) (.rng2 (.var 1) (.blt .min (.cons (.blt .len (.cons (.var 0) .nil)) (.cons (.bin .add (.var 1) (.var 2)) .nil)))) (.cons (.ite (.val (.cmp .ne (.sub (.var 0) (.var 4)) (.sub (.var 0) (.var 1)))) (.cons (.brk) .nil) .nil) (.cons (.asg (.one 3) (.bin .add (.var 3) (.con (.int 1)))) .nil))) (.cons (.ret (.var 3)) .nil)))
def d__law_run : Pd := { nm := "_law_run", st := stAt 28, N := ["_law_numbers_here", "_law_at", "_law_most", "_law_count", "_law_k"], ps := ["_law_numbers_here", "_law_at", "_law_most"], fn := ⟨3, 5, c__law_run⟩ }
def c__law_levels : Ss := (.cons (.asg (.one 2) (.call "_law_width" (.cons (.var 1) .nil))) (.cons (.asg (.one 3) (.lst .nil)) (.cons (.asg (.one 4) (.con (.int 0))) (.cons (.whl (.and_ (.val (.cmp .lt (.var 4) (.blt .len (.cons (.var 0) .nil)))) (.val (.cmp .gt (.var 2) (.con (.int 0))))) (.cons (.asg (.one 5) (.call "_law_run" (.cons (.var 0) (.cons (.var 4) (.cons (.blt .len (.cons (.var 0) .nil)) .nil))))) (.cons (.ite (.val (.cmp .ge (.var 5) (.con (.int 4)))) (.cons (.asg (.one 3) (.bin .add (.bin .add (.var 3) (.call "_law_number" (.cons (.bin .mul (.con (.int 2)) (.var 5)) .nil))) (.call "_law_number" (.cons (.sub (.var 0) (.var 4)) .nil)))) (.cons (.asg (.one 4) (.bin .add (.var 4) (.var 5))) .nil)) (.cons (.asg (.one 6) (.bin .add (.var 4) (.con (.int 1)))) (.cons (.whl (.and_ (.val (.cmp .lt (.var 6) (.blt .len (.cons (.var 0) .nil)))) (.and_ (.val (.cmp .lt (.bin .sub (.var 6) (.var 4)) (.con (.int 32)))) (.val (.cmp .lt (.call "_law_run" (.cons (.var 0) (.cons (.var 6) (.cons (.con (.int 4)) .nil)))) (.con (.int 4)))))) (.cons (.asg (.one 6) (.bin .add (.var 6) (.con (.int 1)))) .nil)) (.cons (.asg (.one 3) (.bin .add (.bin .add (.var 3) (.call "_law_number" (.cons (.bin .add (.bin .mul (.con (.int 2)) (.bin .sub (.var 6) (.var 4))) (.con (.int 1))) .nil))) (.call "_law_pack" (.cons (.slc (.var 0) (.some (.var 4)) (.some (.var 6))) (.cons (.var 2) .nil))))) (.cons (.asg (.one 4) (.var 6)) .nil))))) .nil))) (.cons (.ret (.var 3)) .nil)))))
def d__law_levels : Pd := { nm := "_law_levels", st := stAt 29, N := ["_law_numbers_here", "_law_most", "_law_width_here", "_law_found", "_law_at", "_law_length", "_law_end"], ps := ["_law_numbers_here", "_law_most"], fn := ⟨2, 7, c__law_levels⟩ }
def c__law_refused : Ss := (.cons (.tr (.cons (.ite (.val (.cmp .eq (.var 0) (.con (.int 0)))) (.cons (.expr (.call "take_number" (.cons (.var 1) (.cons (.con (.int 0)) .nil)))) .nil) (.cons (.ite (.val (.cmp .eq (.var 0) (.con (.int 1)))) (.cons (.expr (.call "take_levels" (.cons (.var 1) (.cons (.con (.int 0)) (.cons (.var 2) (.cons (.var 3) .nil)))))) .nil) (.cons (.ite (.val (.cmp .eq (.var 0) (.con (.int 2)))) (.cons (.expr (.call "unpack" (.cons (.var 1) (.cons (.con (.int 0)) (.cons (.var 2) (.cons (.var 3) .nil)))))) .nil) (.cons (.expr (.call "take_word" (.cons (.var 1) (.cons (.con (.int 0)) .nil)))) .nil)) .nil)) .nil)) .nil) "BadFile" none (.cons (.ret (.con (.bool true))) .nil)) (.cons (.ret (.con (.bool false))) .nil))
def d__law_refused : Pd := { nm := "_law_refused", st := stAt 30, N := ["_law_kind", "_law_data", "_law_count", "_law_most"], ps := ["_law_kind", "_law_data", "_law_count", "_law_most"], fn := ⟨4, 4, c__law_refused⟩ }
def c__law_row : Ss := (.cons (.asg (.one 2) (.call "_law_numbers" (.cons (.var 0) (.cons (.con (.int 30)) .nil)))) (.cons (.asg (.one 3) (.lst .nil)) (.cons (.for_ (.one 4) (.rng (.bin .mod (.blt .int (.cons (.sub (.var 2) (.con (.int 0))) .nil)) (.con (.int 24)))) (.cons (.asg (.one 5) (.bin .mod (.blt .int (.cons (.bin .fdiv (.sub (.var 2) (.bin .add (.con (.int 1)) (.var 4))) (.con (.int 16))) .nil)) (.bin .add (.var 1) (.con (.int 1))))) (.cons (.asg (.one 3) (.bin .add (.var 3) (.rep (.lst (.cons (.var 5) .nil)) (.sub (.lst (.cons (.con (.int 1)) (.cons (.con (.int 1)) (.cons (.con (.int 2)) (.cons (.con (.int 3)) (.cons (.con (.int 4)) (.cons (.con (.int 5)) (.cons (.con (.int 9)) (.cons (.con (.int 1)) .nil))))))))) (.bin .mod (.blt .int (.cons (.sub (.var 2) (.bin .add (.con (.int 1)) (.var 4))) .nil)) (.con (.int 8))))))) .nil))) (.cons (.ret (.var 3)) .nil))))
def d__law_row : Pd := { nm := "_law_row", st := stAt 31, N := ["_law_cell_here", "_law_most", "_law_numbers_here", "_law_row_here", "_law_k", "_law_value"], ps := ["_law_cell_here", "_law_most"], fn := ⟨2, 6, c__law_row⟩ }
def c_law : Ss := (.cons (.asg (.one 1) (.bin .mod (.blt .abs (.cons (.call "_law_cell" (.cons (.var 0) (.cons (.con (.int 0)) .nil))) .nil)) (.con (.int 34359738368)))) (.cons (.asg (.one 2) (.call "_law_number" (.cons (.var 1) .nil))) (.cons (.ite (.or_ (.val (.cmp .ne (.call "put_number" (.cons (.var 1) .nil)) (.var 2))) (.val (.cmp .ne (.call "take_number" (.cons (.bin .add (.bin .add (.lst (.cons (.con (.int 9)) .nil)) (.var 2)) (.lst (.cons (.con (.int 200)) (.cons (.con (.int 3)) .nil)))) (.cons (.con (.int 1)) .nil))) (.tup (.cons (.var 1) (.cons (.bin .add (.con (.int 1)) (.blt .len (.cons (.var 2) .nil))) .nil)))))) (.cons (.ret (.con (.bool false))) .nil) .nil) (.cons (.ite (.or_ (.not_ (.val (.call "_law_refused" (.cons (.con (.int 0)) (.cons (.slc (.var 2) .no (.some (.bin .sub (.blt .len (.cons (.var 2) .nil)) (.con (.int 1))))) (.cons (.con (.int 0)) (.cons (.con (.int 0)) .nil))))))) (.or_ (.not_ (.val (.call "_law_refused" (.cons (.con (.int 0)) (.cons (.lst (.cons (.con (.int 128)) (.cons (.con (.int 0)) .nil))) (.cons (.con (.int 0)) (.cons (.con (.int 0)) .nil))))))) (.not_ (.val (.call "_law_refused" (.cons (.con (.int 0)) (.cons (.rep (.lst (.cons (.con (.int 255)) .nil)) (.con (.int 6))) (.cons (.con (.int 0)) (.cons (.con (.int 0)) .nil))))))))) (.cons (.ret (.con (.bool false))) .nil) .nil) (.cons (.asg (.one 3) (.call "_law_cell" (.cons (.var 0) (.cons (.con (.int 1)) .nil)))) (.cons (.ite (.or_ (.val (.cmp .ne (.call "put_word" (.cons (.var 3) .nil)) (.call "_law_word" (.cons (.var 3) .nil)))) (.val (.cmp .ne (.call "take_word" (.cons (.bin .add (.call "_law_word" (.cons (.var 3) .nil)) (.lst (.cons (.con (.int 1)) .nil))) (.cons (.con (.int 0)) .nil))) (.tup (.cons (.bin .mod (.blt .int (.cons (.var 3) .nil)) (.con (.int 4294967296))) (.cons (.con (.int 4)) .nil)))))) (.cons (.ret (.con (.bool false))) .nil) .nil) (.cons (.asg (.one 4) (.bin .sub (.bin .mod (.blt .int (.cons (.var 3) .nil)) (.con (.int 8589934592))) (.con (.int 4294967296)))) (.cons (.asg (.one 5) (.sub (.lst (.cons (.bin .mul (.con (.int 2)) (.var 4)) (.cons (.bin .sub (.bin .sub (.con (.int 0)) (.bin .mul (.con (.int 2)) (.var 4))) (.con (.int 1))) .nil))) (.blt .int (.cons (.cmp .lt (.var 4) (.con (.int 0))) .nil)))) (.cons (.ite (.or_ (.val (.cmp .ne (.call "fold_sign" (.cons (.var 4) .nil)) (.var 5))) (.or_ (.val (.cmp .ne (.call "unfold_sign" (.cons (.var 5) .nil)) (.var 4))) (.not_ (.val (.call "_law_refused" (.cons (.con (.int 3)) (.cons (.lst (.cons (.con (.int 1)) (.cons (.con (.int 2)) (.cons (.con (.int 3)) .nil)))) (.cons (.con (.int 0)) (.cons (.con (.int 0)) .nil))))))))) (.cons (.ret (.con (.bool false))) .nil) .nil) (.cons (.asg (.one 6) (.bin .mod (.blt .abs (.cons (.call "_law_cell" (.cons (.var 0) (.cons (.con (.int 2)) .nil))) .nil)) (.con (.int 13)))) (.cons (.asg (.one 7) (.con (.int 1))) (.cons (.for_ (.one 8) (.rng (.var 6)) (.cons (.asg (.one 7) (.bin .mul (.var 7) (.con (.int 2)))) .nil)) (.cons (.asg (.one 9) (.lc 14 (.e (.call "_law_numbers" (.cons (.call "_law_cell" (.cons (.var 0) (.cons (.con (.int 3)) .nil))) (.cons (.bin .add (.con (.int 1)) (.bin .mod (.blt .abs (.cons (.call "_law_cell" (.cons (.var 0) (.cons (.con (.int 2)) .nil))) .nil)) (.con (.int 17)))) .nil)))) .no (.bin .mod (.blt .int (.cons (.var 14) .nil)) (.var 7)))) (.cons (.asg (.one 10) (.call "_law_pack" (.cons (.var 9) (.cons (.var 6) .nil)))) (.cons (.ite (.or_ (.val (.cmp .ne (.call "width_of" (.cons (.bin .sub (.var 7) (.con (.int 1))) .nil)) (.var 6))) (.or_ (.val (.cmp .ne (.call "width_of" (.cons (.var 7) .nil)) (.bin .add (.var 6) (.con (.int 1))))) (.val (.cmp .ne (.call "pack" (.cons (.var 9) (.cons (.var 6) .nil))) (.var 10))))) (.cons (.ret (.con (.bool false))) .nil) .nil) (.cons (.ite (.val (.cmp .ne (.call "unpack" (.cons (.bin .add (.bin .add (.lst (.cons (.con (.int 7)) .nil)) (.var 10)) (.lst (.cons (.con (.int 1)) .nil))) (.cons (.con (.int 1)) (.cons (.blt .len (.cons (.var 9) .nil)) (.cons (.var 6) .nil))))) (.tup (.cons (.var 9) (.cons (.bin .add (.con (.int 1)) (.blt .len (.cons (.var 10) .nil))) .nil))))) (.cons (.ret (.con (.bool false))) .nil) .nil) (.cons (.ite (.and_ (.val (.cmp .gt (.blt .len (.cons (.var 10) .nil)) (.con (.int 0)))) (.not_ (.val (.call "_law_refused" (.cons (.con (.int 2)) (.cons (.slc (.var 10) .no (.some (.bin .sub (.blt .len (.cons (.var 10) .nil)) (.con (.int 1))))) (.cons (.blt .len (.cons (.var 9) .nil)) (.cons (.var 6) .nil)))))))) (.cons (.ret (.con (.bool false))) .nil) .nil) (.cons (.ite (.and_ (.val (.cmp .gt (.bin .mod (.blt .int (.cons (.bin .mul (.blt .len (.cons (.var 9) .nil)) (.var 6)) .nil)) (.con (.int 8))) (.con (.int 0)))) (.not_ (.val (.call "_law_refused" (.cons (.con (.int 2)) (.cons (.bin .add (.slc (.var 10) .no (.some (.bin .sub (.blt .len (.cons (.var 10) .nil)) (.con (.int 1))))) (.lst (.cons (.con (.int 255)) .nil))) (.cons (.blt .len (.cons (.var 9) .nil)) (.cons (.var 6) .nil)))))))) (.cons (.ret (.con (.bool false))) .nil) .nil) (.cons (.asg (.one 11) (.sub (.lst (.cons (.con (.int 0)) (.cons (.con (.int 1)) (.cons (.con (.int 2)) (.cons (.con (.int 3)) (.cons (.con (.int 7)) (.cons (.con (.int 300)) (.cons (.con (.int 70000)) .nil)))))))) (.bin .mod (.blt .abs (.cons (.call "_law_cell" (.cons (.var 0) (.cons (.con (.int 4)) .nil))) .nil)) (.con (.int 7))))) (.cons (.for_ (.one 8) (.rng2 (.con (.int 5)) (.blt .min (.cons (.blt .len (.cons (.var 0) .nil)) (.cons (.con (.int 10)) .nil)))) (.cons (.asg (.one 12) (.call "_law_row" (.cons (.call "_law_cell" (.cons (.var 0) (.cons (.var 8) .nil))) (.cons (.var 11) .nil)))) (.cons (.asg (.one 13) (.call "_law_levels" (.cons (.var 12) (.cons (.var 11) .nil)))) (.cons (.ite (.or_ (.val (.cmp .ne (.call "put_levels" (.cons (.var 12) (.cons (.var 11) .nil))) (.var 13))) (.val (.cmp .ne (.call "take_levels" (.cons (.bin .add (.bin .add (.lst (.cons (.con (.int 3)) .nil)) (.var 13)) (.lst (.cons (.con (.int 77)) .nil))) (.cons (.con (.int 1)) (.cons (.blt .len (.cons (.var 12) .nil)) (.cons (.var 11) .nil))))) (.tup (.cons (.var 12) (.cons (.bin .add (.con (.int 1)) (.blt .len (.cons (.var 13) .nil))) .nil)))))) (.cons (.ret (.con (.bool false))) .nil) .nil) (.cons (.ite (.and_ (.val (.cmp .gt (.blt .len (.cons (.var 13) .nil)) (.con (.int 0)))) (.not_ (.val (.call "_law_refused" (.cons (.con (.int 1)) (.cons (.slc (.var 13) .no (.some (.bin .sub (.blt .len (.cons (.var 13) .nil)) (.con (.int 1))))) (.cons (.blt .len (.cons (.var 12) .nil)) (.cons (.var 11) .nil)))))))) (.cons (.ret (.con (.bool false))) .nil) .nil) (.cons (.ite (.and_ (.val (.cmp .gt (.var 11) (.con (.int 0)))) (.and_ (.not_ (.val (.call "_law_refused" (.cons (.con (.int 1)) (.cons (.bin .add (.call "_law_number" (.cons (.bin .add (.bin .mul (.con (.int 2)) (.blt .len (.cons (.var 12) .nil))) (.con (.int 2))) .nil)) (.lst (.cons (.con (.int 0)) .nil))) (.cons (.blt .len (.cons (.var 12) .nil)) (.cons (.var 11) .nil))))))) (.val (.cmp .gt (.blt .len (.cons (.var 12) .nil)) (.con (.int 0)))))) (.cons (.ret (.con (.bool false))) .nil) .nil) .nil)))))) (.cons (.ret (.cmp .eq (.call "take_levels" (.cons (.lst (.cons (.con (.int 2)) (.cons (.con (.int 1)) (.cons (.con (.int 3)) (.cons (.con (.int 2)) .nil))))) (.cons (.con (.int 0)) (.cons (.con (.int 2)) (.cons (.con (.int 3)) .nil))))) (.tup (.cons (.lst (.cons (.con (.int 1)) (.cons (.con (.int 2)) .nil))) (.cons (.con (.int 4)) .nil))))) .nil)))))))))))))))))))))
def d_law : Pd := { nm := "law", st := stAt 32, N := ["_law_script", "_law_number_here", "_law_due", "_law_word_here", "_law_signed", "_law_folded", "_law_width_here", "_law_size", "_law_k", "_law_numbers_here", "_law_packed", "_law_most", "_law_row_here", "_law_levels_here", "_law_one"], ps := ["_law_script"], fn := ⟨1, 15, c_law⟩ }
def ds : List Pd := [d_put_number, d_take_number, d_fold_sign, d_unfold_sign, d_put_word, d_take_word, d_width_of, d_pack, d_unpack, d_run_length, d_piece_length, d_put_levels, d_take_levels, d__law_cell, d__law_numbers, d__law_number, d__law_word, d__law_width, d__law_pack, d__law_run, d__law_levels, d__law_refused, d__law_row, d_law]
def x_BadFile : Xc := { x := "BadFile", fld := "part", qual := "BadFile.__init__", st := stAt 2 }
def xs : List Xc := [x_BadFile]
def hd : Hd := { un := ["abs", "any", "int", "len", "min", "range", "str", "super"], cs := [("MAX_LENGTH", (.int 5)), ("LEAST_RUN", (.int 4)), ("MOST_PIECE", (.int 32))], ds := ds, xs := xs }
theorem b_put_number : BindOk d_put_number := by
  intro kV doc pm an cdv ct us hl
  match us, hl with
  | [_], _ => with_unfolding_all rfl
theorem b_take_number : BindOk d_take_number := by
  intro kV doc pm an cdv ct us hl
  match us, hl with
  | [_, _], _ => with_unfolding_all rfl
theorem b_fold_sign : BindOk d_fold_sign := by
  intro kV doc pm an cdv ct us hl
  match us, hl with
  | [_], _ => with_unfolding_all rfl
theorem b_unfold_sign : BindOk d_unfold_sign := by
  intro kV doc pm an cdv ct us hl
  match us, hl with
  | [_], _ => with_unfolding_all rfl
theorem b_put_word : BindOk d_put_word := by
  intro kV doc pm an cdv ct us hl
  match us, hl with
  | [_], _ => with_unfolding_all rfl
theorem b_take_word : BindOk d_take_word := by
  intro kV doc pm an cdv ct us hl
  match us, hl with
  | [_, _], _ => with_unfolding_all rfl
theorem b_width_of : BindOk d_width_of := by
  intro kV doc pm an cdv ct us hl
  match us, hl with
  | [_], _ => with_unfolding_all rfl
theorem b_pack : BindOk d_pack := by
  intro kV doc pm an cdv ct us hl
  match us, hl with
  | [_, _], _ => with_unfolding_all rfl
theorem b_unpack : BindOk d_unpack := by
  intro kV doc pm an cdv ct us hl
  match us, hl with
  | [_, _, _, _], _ => with_unfolding_all rfl
theorem b_run_length : BindOk d_run_length := by
  intro kV doc pm an cdv ct us hl
  match us, hl with
  | [_, _], _ => with_unfolding_all rfl
theorem b_piece_length : BindOk d_piece_length := by
  intro kV doc pm an cdv ct us hl
  match us, hl with
  | [_, _], _ => with_unfolding_all rfl
theorem b_put_levels : BindOk d_put_levels := by
  intro kV doc pm an cdv ct us hl
  match us, hl with
  | [_, _], _ => with_unfolding_all rfl
theorem b_take_levels : BindOk d_take_levels := by
  intro kV doc pm an cdv ct us hl
  match us, hl with
  | [_, _, _, _], _ => with_unfolding_all rfl
theorem b__law_cell : BindOk d__law_cell := by
  intro kV doc pm an cdv ct us hl
  match us, hl with
  | [_, _], _ => with_unfolding_all rfl
theorem b__law_numbers : BindOk d__law_numbers := by
  intro kV doc pm an cdv ct us hl
  match us, hl with
  | [_, _], _ => with_unfolding_all rfl
theorem b__law_number : BindOk d__law_number := by
  intro kV doc pm an cdv ct us hl
  match us, hl with
  | [_], _ => with_unfolding_all rfl
theorem b__law_word : BindOk d__law_word := by
  intro kV doc pm an cdv ct us hl
  match us, hl with
  | [_], _ => with_unfolding_all rfl
theorem b__law_width : BindOk d__law_width := by
  intro kV doc pm an cdv ct us hl
  match us, hl with
  | [_], _ => with_unfolding_all rfl
theorem b__law_pack : BindOk d__law_pack := by
  intro kV doc pm an cdv ct us hl
  match us, hl with
  | [_, _], _ => with_unfolding_all rfl
theorem b__law_run : BindOk d__law_run := by
  intro kV doc pm an cdv ct us hl
  match us, hl with
  | [_, _, _], _ => with_unfolding_all rfl
theorem b__law_levels : BindOk d__law_levels := by
  intro kV doc pm an cdv ct us hl
  match us, hl with
  | [_, _], _ => with_unfolding_all rfl
theorem b__law_refused : BindOk d__law_refused := by
  intro kV doc pm an cdv ct us hl
  match us, hl with
  | [_, _, _, _], _ => with_unfolding_all rfl
theorem b__law_row : BindOk d__law_row := by
  intro kV doc pm an cdv ct us hl
  match us, hl with
  | [_, _], _ => with_unfolding_all rfl
theorem b_law : BindOk d_law := by
  intro kV doc pm an cdv ct us hl
  match us, hl with
  | [_], _ => with_unfolding_all rfl
theorem binds : AllD BindOk ds := ⟨b_put_number, b_take_number, b_fold_sign, b_unfold_sign, b_put_word, b_take_word, b_width_of, b_pack, b_unpack, b_run_length, b_piece_length, b_put_levels, b_take_levels, b__law_cell, b__law_numbers, b__law_number, b__law_word, b__law_width, b__law_pack, b__law_run, b__law_levels, b__law_refused, b__law_row, b_law, trivial⟩
theorem s_BadFile : XcS x_BadFile := ⟨TvX.fld_part, _, _, _, _, _, _, _, _, _, _, _, _, _, _, by rfl, by rfl, by rfl, by rfl⟩
theorem xcs : AllX XcS xs := ⟨s_BadFile, trivial⟩
theorem k_put_number : chkD (gwOf hd) d_put_number = true := by kernel_rfl
theorem k_take_number : chkD (gwOf hd) d_take_number = true := by kernel_rfl
theorem k_fold_sign : chkD (gwOf hd) d_fold_sign = true := by kernel_rfl
theorem k_unfold_sign : chkD (gwOf hd) d_unfold_sign = true := by kernel_rfl
theorem k_put_word : chkD (gwOf hd) d_put_word = true := by kernel_rfl
theorem k_take_word : chkD (gwOf hd) d_take_word = true := by kernel_rfl
theorem k_width_of : chkD (gwOf hd) d_width_of = true := by kernel_rfl
theorem k_pack : chkD (gwOf hd) d_pack = true := by kernel_rfl
theorem k_unpack : chkD (gwOf hd) d_unpack = true := by kernel_rfl
theorem k_run_length : chkD (gwOf hd) d_run_length = true := by kernel_rfl
theorem k_piece_length : chkD (gwOf hd) d_piece_length = true := by kernel_rfl
theorem k_put_levels : chkD (gwOf hd) d_put_levels = true := by kernel_rfl
theorem k_take_levels : chkD (gwOf hd) d_take_levels = true := by kernel_rfl
theorem k__law_cell : chkD (gwOf hd) d__law_cell = true := by kernel_rfl
theorem k__law_numbers : chkD (gwOf hd) d__law_numbers = true := by kernel_rfl
theorem k__law_number : chkD (gwOf hd) d__law_number = true := by kernel_rfl
theorem k__law_word : chkD (gwOf hd) d__law_word = true := by kernel_rfl
theorem k__law_width : chkD (gwOf hd) d__law_width = true := by kernel_rfl
theorem k__law_pack : chkD (gwOf hd) d__law_pack = true := by kernel_rfl
theorem k__law_run : chkD (gwOf hd) d__law_run = true := by kernel_rfl
theorem k__law_levels : chkD (gwOf hd) d__law_levels = true := by kernel_rfl
theorem k__law_refused : chkD (gwOf hd) d__law_refused = true := by kernel_rfl
theorem k__law_row : chkD (gwOf hd) d__law_row = true := by kernel_rfl
theorem k_law : chkD (gwOf hd) d_law = true := by kernel_rfl
theorem chk : AllD (fun d => chkD (gwOf hd) d = true) ds := ⟨k_put_number, k_take_number, k_fold_sign, k_unfold_sign, k_put_word, k_take_word, k_width_of, k_pack, k_unpack, k_run_length, k_piece_length, k_put_levels, k_take_levels, k__law_cell, k__law_numbers, k__law_number, k__law_word, k__law_width, k__law_pack, k__law_run, k__law_levels, k__law_refused, k__law_row, k_law, trivial⟩
theorem sane : hdS hd = true := by kernel_rfl
theorem top : (R.prog.main.scope.names.lookup ("super" : Str)).isSome = false := by kernel_rfl
def loose0 : List PySem.Str := ["Refused", "BadFile", "MAX_LENGTH", "put_number", "take_number", "fold_sign", "unfold_sign", "put_word", "take_word", "width_of", "pack", "unpack", "LEAST_RUN", "MOST_PIECE", "run_length", "piece_length", "put_levels", "take_levels", "_law_cell", "_law_numbers", "_law_number", "_law_word", "_law_width", "_law_pack", "_law_run", "_law_levels", "_law_refused", "_law_row"]
def loose : List PySem.Str := loose0
theorem run (w : World) : HandSHeadRun.RunEq R (PySem.W.view R.prog [32]) (hookH R.prog hd) (obT R.prog hd) 4000 loose w := by
  intro os
  kernel_rfl
end C07
end

section
set_option linter.all false
set_option maxRecDepth 100000
/-! TvL: working with the evaluator. -/
namespace Tv
open PySem
/-- equal, and not by a look alone -/
theorem nrfl {α : Sort _} {a b : α} (h : a = b) : a = b := h
section
variable {α β : Type} {a : α} {Γ : Env} {x : Xn} {f : α → Env → Ro β} {g : α → Env → So} {k : Env → So} {ow : Ow} {d : D} {ds : List D}
theorem bind_ok : Ro.bind (.ok a Γ) f = f a Γ := nrfl rfl
theorem bind_exn : Ro.bind (.exn x Γ : Ro α) f = .exn x Γ := nrfl rfl
theorem bind_bad : Ro.bind (.bad : Ro α) f = .bad := nrfl rfl
theorem so_ok : Ro.so (.ok a Γ) g = g a Γ := nrfl rfl
theorem so_exn : Ro.so (.exn x Γ : Ro α) g = .exn x Γ := nrfl rfl
theorem so_bad : Ro.so (.bad : Ro α) g = .bad := nrfl rfl
theorem seq_next : So.seq (.next Γ) k = k Γ := nrfl rfl
theorem seq_brk : So.seq (.brk Γ) k = .brk Γ := nrfl rfl
theorem seq_cnt : So.seq (.cnt Γ) k = .cnt Γ := nrfl rfl
theorem seq_ret : So.seq (.ret ow Γ) k = .ret ow Γ := nrfl rfl
theorem seq_exn : So.seq (.exn x Γ) k = .exn x Γ := nrfl rfl
theorem seq_bad : So.seq .bad k = .bad := nrfl rfl
theorem ofO_some : ofO (some a) Γ = .ok a Γ := nrfl rfl
theorem rofO_some : R.ofO (some ow) Γ = .ok (.fre ow) Γ := nrfl rfl
theorem view_dat : view Γ (.fre (.dat d)) = some d := nrfl rfl
theorem view_lst : view Γ (.fre (.lst ds)) = some (.list ds) := nrfl rfl
theorem view_var {i : Nat} : view Γ (.var i) = match Γ[i]? with
  | some (some ow) => ow.tree
  | _ => none := nrfl rfl
theorem tree_dat : (Ow.dat d).tree = some d := nrfl rfl
theorem tree_lst : (Ow.lst ds).tree = some (.list ds) := nrfl rfl
theorem asD_dat : asD (.fre (.dat d)) Γ = .ok d Γ := nrfl rfl
theorem asD_lst : asD (.fre (.lst ds)) Γ = .ok (.list ds) Γ := nrfl rfl
theorem asD_var {i : Nat} : asD (.var i) Γ = match Γ[i]? with
  | some (some ow) => match ow.tree with
    | some d => .ok d (Γ.set i (some (.dat d)))
    | none => .bad
  | _ => .bad := nrfl rfl
theorem get0 {o : Option Ow} : (o :: Γ)[0]? = some o := nrfl rfl
theorem getS {o : Option Ow} {n : Nat} : (o :: Γ)[n + 1]? = Γ[n]? := nrfl rfl
theorem set0 {o p : Option Ow} : (o :: Γ).set 0 p = p :: Γ := nrfl rfl
theorem setS {o p : Option Ow} {n : Nat} : (o :: Γ).set (n + 1) p = o :: Γ.set n p := nrfl rfl
theorem getD0 {o p : Option Ow} : (o :: Γ).getD 0 p = o := nrfl rfl
theorem getDS {o p : Option Ow} {n : Nat} : (o :: Γ).getD (n + 1) p = Γ.getD n p := nrfl rfl
theorem add_ii {i j : Int} : binD .add (.int i) (.int j) = some (.dat (.int (i + j))) := nrfl rfl
theorem sub_ii {i j : Int} : binD .sub (.int i) (.int j) = some (.dat (.int (i - j))) := nrfl rfl
theorem mul_ii {i j : Int} (h : (-(2 ^ 64) < i ∧ i < 2 ^ 64) ∨ (-(2 ^ 64) < j ∧ j < 2 ^ 64)) : binD .mul (.int i) (.int j) = some (.dat (.int (i * j))) := askd_t h
theorem big_ok {i : Int} (h : -4611686018427387904 ≤ i ∧ i < 4611686018427387904) : big62 i = true := askd_t h
theorem fdiv_ii {i j : Int} (h : 0 < j ∧ j < 1073741824) : binD .fdiv (.int i) (.int j) = some (.dat (.int (i / j))) := if_pos h
theorem mod_ii {i j : Int} (h : 0 < j) : binD .mod (.int i) (.int j) = some (.dat (.int (i % j))) := if_pos h
theorem add_ll {xs ys : List D} (h : xs.length + ys.length ≤ sizeLine) : binD .add (.list xs) (.list ys) = some (.lst (xs ++ ys)) := if_pos h
theorem add_ss {a b : Str} (h : a.length + b.length ≤ sizeLine) : binD .add (.str a) (.str b) = some (.dat (.str (a ++ b))) := if_pos h
theorem add_tt {xs ys : List D} (h : xs.length + ys.length ≤ sizeLine) : binD .add (.tuple xs) (.tuple ys) = some (.dat (.tuple (xs ++ ys))) := if_pos h
theorem lt_ii {i j : Int} : cmpD .lt (.int i) (.int j) = some (decide (i < j)) := nrfl rfl
theorem le_ii {i j : Int} : cmpD .le (.int i) (.int j) = some (decide (i ≤ j)) := nrfl rfl
theorem gt_ii {i j : Int} : cmpD .gt (.int i) (.int j) = some (decide (j < i)) := nrfl rfl
theorem ge_ii {i j : Int} : cmpD .ge (.int i) (.int j) = some (decide (j ≤ i)) := nrfl rfl
theorem eqv_ii {i j : Int} : PyData.eqv (.int i) (.int j) = decide (i = j) := by unfold PyData.eqv; rfl
theorem eq_ii {i j : Int} : cmpD .eq (.int i) (.int j) = some (decide (i = j)) := by
  show eqD (.int i) (.int j) = _
  unfold eqD
  rw [eqv_ii]
  rfl
theorem ne_ii {i j : Int} : cmpD .ne (.int i) (.int j) = some (!decide (i = j)) := by
  show (eqD (.int i) (.int j)).map (!·) = _
  rw [show eqD (.int i) (.int j) = some (decide (i = j)) from eq_ii]
  rfl
theorem len_l {xs : List D} : bltD .len [.list xs] = some (.dat (.int xs.length)) := nrfl rfl
theorem len_t {xs : List D} : bltD .len [.tuple xs] = some (.dat (.int xs.length)) := nrfl rfl
theorem int_i {i : Int} : bltD .int [.int i] = some (.dat (.int i)) := nrfl rfl
theorem int_b {b : Bool} : bltD .int [.bool b] = some (.dat (.int (if b then 1 else 0))) := nrfl rfl
theorem abs_i {i : Int} : bltD .abs [.int i] = some (.dat (.int (if i < 0 then -i else i))) := nrfl rfl
theorem min_ii {i j : Int} : bltD .min [.int i, .int j] = some (.dat (.int (if j < i then j else i))) := nrfl rfl
theorem max_ii {i j : Int} : bltD .max [.int i, .int j] = some (.dat (.int (if j > i then j else i))) := nrfl rfl
theorem tru_b {b : Bool} : truD (.bool b) = some b := nrfl rfl
theorem neg_i {i : Int} : negD (.int i) = some (.dat (.int (-i))) := nrfl rfl
theorem items_l {xs : List D} : itemsD (.list xs) = some xs := nrfl rfl
theorem items_t {xs : List D} : itemsD (.tuple xs) = some xs := nrfl rfl
theorem sub_l {xs : List D} {i : Int} : subD (.list xs) (.int i) = (L2.atI xs i).map Ow.dat := nrfl rfl
theorem sub_t {xs : List D} {i : Int} : subD (.tuple xs) (.int i) = (L2.atI xs i).map Ow.dat := nrfl rfl
theorem slc_l {xs : List D} {i j : Option Int} : slcD (.list xs) i j = some (.lst (cutD xs i j)) := nrfl rfl
theorem slc_t {xs : List D} {i j : Option Int} : slcD (.tuple xs) i j = some (.dat (.tuple (cutD xs i j))) := nrfl rfl
theorem ft_mk {ft : Ft} {sub : Str → Str → Option Bool} : (Cz.mk ft sub).ft = ft := nrfl rfl
end
/-! ### equations -/
noncomputable def K2 (eb : Env → Ro R) (k : R → R → Env → Ro R) (x : R) (Γ : Env) : Ro R := (eb Γ).bind (k x)
theorem K2_eq {eb : Env → Ro R} {k : R → R → Env → Ro R} {x : R} {Γ : Env} : K2 eb k x Γ = (eb Γ).bind (k x) := nrfl rfl
noncomputable def kBin (op : Bop) (x : R) (y : R) (Γ : Env) : Ro R := match view Γ x, view Γ y with
  | some dx, some dy => R.ofO (binD op dx dy) Γ
  | _, _ => .bad
theorem kBin_eq {op : Bop} {x : R} {y : R} {Γ : Env} : kBin op x y Γ = match view Γ x, view Γ y with
  | some dx, some dy => R.ofO (binD op dx dy) Γ
  | _, _ => .bad := nrfl rfl
noncomputable def kRep  (x : R) (y : R) (Γ : Env) : Ro R := match x, view Γ y with
  | .fre (.lst xs), some dy => R.ofO (repD xs dy) Γ
  | _, _ => .bad
theorem kRep_eq  {x : R} {y : R} {Γ : Env} : kRep  x y Γ = match x, view Γ y with
  | .fre (.lst xs), some dy => R.ofO (repD xs dy) Γ
  | _, _ => .bad := nrfl rfl
noncomputable def kNeg  (x : R) (Γ : Env) : Ro R := match view Γ x with
  | some d => R.ofO (negD d) Γ
  | none => .bad
theorem kNeg_eq  {x : R} {Γ : Env} : kNeg  x Γ = match view Γ x with
  | some d => R.ofO (negD d) Γ
  | none => .bad := nrfl rfl
noncomputable def kBool  (k : Bool) (Γ : Env) : Ro R := .ok (.fre (.dat (.bool k))) Γ
theorem kBool_eq  {k : Bool} {Γ : Env} : kBool  k Γ = .ok (.fre (.dat (.bool k))) Γ := nrfl rfl
noncomputable def kCmp (op : Cop) (x : R) (y : R) (Γ : Env) : Ro R := match view Γ x, view Γ y with
  | some dx, some dy => (ofO (cmpD op dx dy) Γ).bind kBool
  | _, _ => .bad
theorem kCmp_eq {op : Cop} {x : R} {y : R} {Γ : Env} : kCmp op x y Γ = match view Γ x, view Γ y with
  | some dx, some dy => (ofO (cmpD op dx dy) Γ).bind kBool
  | _, _ => .bad := nrfl rfl
noncomputable def kCh3 (op : Cop) (y : R) (z : R) (Γ : Env) : Ro R := match view Γ y, view Γ z with
  | some dy, some dz => (ofO (cmpD op dy dz) Γ).bind kBool
  | _, _ => .bad
theorem kCh3_eq {op : Cop} {y : R} {z : R} {Γ : Env} : kCh3 op y z Γ = match view Γ y, view Γ z with
  | some dy, some dz => (ofO (cmpD op dy dz) Γ).bind kBool
  | _, _ => .bad := nrfl rfl
noncomputable def kCh2 (op : Cop) (ec : Env → Ro R) (y : R) (k : Bool) (Γ : Env) : Ro R := match k with
  | false => .ok (.fre (.dat (.bool false))) Γ
  | true => (ec Γ).bind (kCh3 op y)
theorem kCh2_eq {op : Cop} {ec : Env → Ro R} {y : R} {k : Bool} {Γ : Env} : kCh2 op ec y k Γ = match k with
  | false => .ok (.fre (.dat (.bool false))) Γ
  | true => (ec Γ).bind (kCh3 op y) := nrfl rfl
noncomputable def kCh1 (op op' : Cop) (ec : Env → Ro R) (x : R) (y : R) (Γ : Env) : Ro R := match view Γ x, view Γ y with
  | some dx, some dy => (ofO (cmpD op dx dy) Γ).bind (kCh2 op' ec y)
  | _, _ => .bad
theorem kCh1_eq {op op' : Cop} {ec : Env → Ro R} {x : R} {y : R} {Γ : Env} : kCh1 op op' ec x y Γ = match view Γ x, view Γ y with
  | some dx, some dy => (ofO (cmpD op dx dy) Γ).bind (kCh2 op' ec y)
  | _, _ => .bad := nrfl rfl
noncomputable def kAnd (eb : Env → Ro R) (x : R) (Γ : Env) : Ro R := match x with
  | .fre (.dat (.bool true)) => eb Γ
  | .fre (.dat (.bool false)) => .ok (.fre (.dat (.bool false))) Γ
  | _ => .bad
theorem kAnd_eq {eb : Env → Ro R} {x : R} {Γ : Env} : kAnd eb x Γ = match x with
  | .fre (.dat (.bool true)) => eb Γ
  | .fre (.dat (.bool false)) => .ok (.fre (.dat (.bool false))) Γ
  | _ => .bad := nrfl rfl
noncomputable def kOr (eb : Env → Ro R) (x : R) (Γ : Env) : Ro R := match x with
  | .fre (.dat (.bool true)) => .ok (.fre (.dat (.bool true))) Γ
  | .fre (.dat (.bool false)) => eb Γ
  | _ => .bad
theorem kOr_eq {eb : Env → Ro R} {x : R} {Γ : Env} : kOr eb x Γ = match x with
  | .fre (.dat (.bool true)) => .ok (.fre (.dat (.bool true))) Γ
  | .fre (.dat (.bool false)) => eb Γ
  | _ => .bad := nrfl rfl
noncomputable def kNot  (x : R) (Γ : Env) : Ro R := match x with
  | .fre (.dat (.bool k)) => .ok (.fre (.dat (.bool (!k)))) Γ
  | _ => .bad
theorem kNot_eq  {x : R} {Γ : Env} : kNot  x Γ = match x with
  | .fre (.dat (.bool k)) => .ok (.fre (.dat (.bool (!k)))) Γ
  | _ => .bad := nrfl rfl
noncomputable def kIte (ea eb : Env → Ro R) (k : Bool) (Γ : Env) : Ro R := match k with
  | true => ea Γ
  | false => eb Γ
theorem kIte_eq {ea eb : Env → Ro R} {k : Bool} {Γ : Env} : kIte ea eb k Γ = match k with
  | true => ea Γ
  | false => eb Γ := nrfl rfl
noncomputable def kTup2  (ds : List D) (Γ : Env) : Ro R := if ds.length ≤ sizeLine then .ok (.fre (.dat (.tuple ds))) Γ else .bad
theorem kTup2_eq  {ds : List D} {Γ : Env} : kTup2  ds Γ = if ds.length ≤ sizeLine then .ok (.fre (.dat (.tuple ds))) Γ else .bad := nrfl rfl
noncomputable def kTup  (rs : List R) (Γ : Env) : Ro R := (asDs rs Γ).bind kTup2
theorem kTup_eq  {rs : List R} {Γ : Env} : kTup  rs Γ = (asDs rs Γ).bind kTup2 := nrfl rfl
noncomputable def kLst2  (ds : List D) (Γ : Env) : Ro R := if ds.length ≤ sizeLine then .ok (.fre (.lst ds)) Γ else .bad
theorem kLst2_eq  {ds : List D} {Γ : Env} : kLst2  ds Γ = if ds.length ≤ sizeLine then .ok (.fre (.lst ds)) Γ else .bad := nrfl rfl
noncomputable def kLst  (rs : List R) (Γ : Env) : Ro R := (asDs rs Γ).bind kLst2
theorem kLst_eq  {rs : List R} {Γ : Env} : kLst  rs Γ = (asDs rs Γ).bind kLst2 := nrfl rfl
noncomputable def kSub  (x : R) (y : R) (Γ : Env) : Ro R := match view Γ x, view Γ y with
  | some dx, some dy => R.ofO (subD dx dy) Γ
  | _, _ => .bad
theorem kSub_eq  {x : R} {y : R} {Γ : Env} : kSub  x y Γ = match view Γ x, view Γ y with
  | some dx, some dy => R.ofO (subD dx dy) Γ
  | _, _ => .bad := nrfl rfl
noncomputable def kS3  (x : R) (i : Option Int) (j : Option Int) (Γ : Env) : Ro R := match view Γ x with
  | some dx => R.ofO (slcD dx i j) Γ
  | none => .bad
theorem kS3_eq  {x : R} {i : Option Int} {j : Option Int} {Γ : Env} : kS3  x i j Γ = match view Γ x with
  | some dx => R.ofO (slcD dx i j) Γ
  | none => .bad := nrfl rfl
noncomputable def kS2 (eh : Env → Ro (Option Int)) (x : R) (i : Option Int) (Γ : Env) : Ro R := (eh Γ).bind (kS3 x i)
theorem kS2_eq {eh : Env → Ro (Option Int)} {x : R} {i : Option Int} {Γ : Env} : kS2 eh x i Γ = (eh Γ).bind (kS3 x i) := nrfl rfl
noncomputable def kS1 (el eh : Env → Ro (Option Int)) (x : R) (Γ : Env) : Ro R := (el Γ).bind (kS2 eh x)
theorem kS1_eq {el eh : Env → Ro (Option Int)} {x : R} {Γ : Env} : kS1 el eh x Γ = (el Γ).bind (kS2 eh x) := nrfl rfl
noncomputable def kCall2 (c : Cz) (f : Str) (ds : List D) (Γ : Env) : Ro R := match c.ft f ds with
  | .ok ow => .ok (.fre ow) Γ
  | .exn x => .exn x Γ
  | .bad => .bad
theorem kCall2_eq {c : Cz} {f : Str} {ds : List D} {Γ : Env} : kCall2 c f ds Γ = match c.ft f ds with
  | .ok ow => .ok (.fre ow) Γ
  | .exn x => .exn x Γ
  | .bad => .bad := nrfl rfl
noncomputable def kCall (c : Cz) (f : Str) (rs : List R) (Γ : Env) : Ro R := (asDs rs Γ).bind (kCall2 c f)
theorem kCall_eq {c : Cz} {f : Str} {rs : List R} {Γ : Env} : kCall c f rs Γ = (asDs rs Γ).bind (kCall2 c f) := nrfl rfl
noncomputable def kBlt (f : Blt) (rs : List R) (Γ : Env) : Ro R := match viewAll Γ rs with
  | some ds => R.ofO (bltD f ds) Γ
  | none => .bad
theorem kBlt_eq {f : Blt} {rs : List R} {Γ : Env} : kBlt f rs Γ = match viewAll Γ rs with
  | some ds => R.ofO (bltD f ds) Γ
  | none => .bad := nrfl rfl
noncomputable def kLc (v : Nat) (t : Env → Ro Bool) (e : Env → Ro R) (ds : List D) (Γ : Env) : Ro R := if coverable Γ v ∧ ds.length < sizeLine then match lcL v t e ds (Γ.set v none) with
    | .ok ys Γ' => .ok (.fre (.lst ys)) (Γ'.set v (Γ.getD v none))
    | _ => .bad
  else .bad
theorem kLc_eq {v : Nat} {t : Env → Ro Bool} {e : Env → Ro R} {ds : List D} {Γ : Env} : kLc v t e ds Γ = if coverable Γ v ∧ ds.length < sizeLine then match lcL v t e ds (Γ.set v none) with
    | .ok ys Γ' => .ok (.fre (.lst ys)) (Γ'.set v (Γ.getD v none))
    | _ => .bad
  else .bad := nrfl rfl
noncomputable def kO  (x : R) (Γ : Env) : Ro (Option Int) := match view Γ x with
  | some (.int i) => .ok (some i) Γ
  | _ => .bad
theorem kO_eq  {x : R} {Γ : Env} : kO  x Γ = match view Γ x with
  | some (.int i) => .ok (some i) Γ
  | _ => .bad := nrfl rfl
noncomputable def kTv  (x : R) (Γ : Env) : Ro Bool := match view Γ x with
  | some d => ofO (truD d) Γ
  | none => .bad
theorem kTv_eq  {x : R} {Γ : Env} : kTv  x Γ = match view Γ x with
  | some d => ofO (truD d) Γ
  | none => .bad := nrfl rfl
noncomputable def kTand (tb : Env → Ro Bool) (k : Bool) (Γ : Env) : Ro Bool := match k with
  | true => tb Γ
  | false => .ok false Γ
theorem kTand_eq {tb : Env → Ro Bool} {k : Bool} {Γ : Env} : kTand tb k Γ = match k with
  | true => tb Γ
  | false => .ok false Γ := nrfl rfl
noncomputable def kTor (tb : Env → Ro Bool) (k : Bool) (Γ : Env) : Ro Bool := match k with
  | true => .ok true Γ
  | false => tb Γ
theorem kTor_eq {tb : Env → Ro Bool} {k : Bool} {Γ : Env} : kTor tb k Γ = match k with
  | true => .ok true Γ
  | false => tb Γ := nrfl rfl
noncomputable def kTnot  (k : Bool) (Γ : Env) : Ro Bool := .ok (!k) Γ
theorem kTnot_eq  {k : Bool} {Γ : Env} : kTnot  k Γ = .ok (!k) Γ := nrfl rfl
noncomputable def kEs2 (r : R) (rs : List R) (Γ : Env) : Ro (List R) := .ok (r :: rs) Γ
theorem kEs2_eq {r : R} {rs : List R} {Γ : Env} : kEs2 r rs Γ = .ok (r :: rs) Γ := nrfl rfl
noncomputable def kEs1 (es : Env → Ro (List R)) (r : R) (Γ : Env) : Ro (List R) := (es Γ).bind (kEs2 r)
theorem kEs1_eq {es : Env → Ro (List R)} {r : R} {Γ : Env} : kEs1 es r Γ = (es Γ).bind (kEs2 r) := nrfl rfl
noncomputable def kIe2  (d : D) (Γ : Env) : Ro (List D) := ofO (itemsD d) Γ
theorem kIe2_eq  {d : D} {Γ : Env} : kIe2  d Γ = ofO (itemsD d) Γ := nrfl rfl
noncomputable def kIe  (r : R) (Γ : Env) : Ro (List D) := (asD r Γ).bind kIe2
theorem kIe_eq  {r : R} {Γ : Env} : kIe  r Γ = (asD r Γ).bind kIe2 := nrfl rfl
noncomputable def kR1  (x : R) (Γ : Env) : Ro (List D) := match view Γ x with
  | some (.int j) => if big62 j then .ok (rangeD 0 j.toNat) Γ else .bad
  | _ => .bad
theorem kR1_eq  {x : R} {Γ : Env} : kR1  x Γ = match view Γ x with
  | some (.int j) => if big62 j then .ok (rangeD 0 j.toNat) Γ else .bad
  | _ => .bad := nrfl rfl
noncomputable def kR22  (x : R) (y : R) (Γ : Env) : Ro (List D) := match view Γ x, view Γ y with
  | some (.int i), some (.int j) => if big62 i && big62 j then .ok (rangeD i (j - i).toNat) Γ else .bad
  | _, _ => .bad
theorem kR22_eq  {x : R} {y : R} {Γ : Env} : kR22  x y Γ = match view Γ x, view Γ y with
  | some (.int i), some (.int j) => if big62 i && big62 j then .ok (rangeD i (j - i).toNat) Γ else .bad
  | _, _ => .bad := nrfl rfl
noncomputable def kR21 (eb : Env → Ro R) (x : R) (Γ : Env) : Ro (List D) := (eb Γ).bind (kR22 x)
theorem kR21_eq {eb : Env → Ro R} {x : R} {Γ : Env} : kR21 eb x Γ = (eb Γ).bind (kR22 x) := nrfl rfl
noncomputable def kA2 (d : D) (ds : List D) (Γ : Env) : Ro (List D) := .ok (d :: ds) Γ
theorem kA2_eq {d : D} {ds : List D} {Γ : Env} : kA2 d ds Γ = .ok (d :: ds) Γ := nrfl rfl
noncomputable def kA1 (rs : List R) (d : D) (Γ : Env) : Ro (List D) := (asDs rs Γ).bind (kA2 d)
theorem kA1_eq {rs : List R} {d : D} {Γ : Env} : kA1 rs d Γ = (asDs rs Γ).bind (kA2 d) := nrfl rfl
noncomputable def kAsg2 (g : Tg) (d : D) (Γ : Env) : So := match setTg g d Γ with
  | some Γ => .next Γ
  | none => .bad
theorem kAsg2_eq {g : Tg} {d : D} {Γ : Env} : kAsg2 g d Γ = match setTg g d Γ with
  | some Γ => .next Γ
  | none => .bad := nrfl rfl
noncomputable def kAsg (g : Tg) (r : R) (Γ : Env) : So := match g, r with
  | .one i, .fre ow => if i < Γ.length then .next (Γ.set i (some ow)) else .bad
  | g, r => (asD r Γ).so (kAsg2 g)
theorem kAsg_eq {g : Tg} {r : R} {Γ : Env} : kAsg g r Γ = match g, r with
  | .one i, .fre ow => if i < Γ.length then .next (Γ.set i (some ow)) else .bad
  | g, r => (asD r Γ).so (kAsg2 g) := nrfl rfl
noncomputable def kApp2 (i : Nat) (d : D) (Γ : Env) : So := match Γ[i]? with
  | some (some (.lst ds)) => if ds.length < sizeLine then .next (Γ.set i (some (.lst (ds ++ [d])))) else .bad
  | _ => .bad
theorem kApp2_eq {i : Nat} {d : D} {Γ : Env} : kApp2 i d Γ = match Γ[i]? with
  | some (some (.lst ds)) => if ds.length < sizeLine then .next (Γ.set i (some (.lst (ds ++ [d])))) else .bad
  | _ => .bad := nrfl rfl
noncomputable def kApp (i : Nat) (r : R) (Γ : Env) : So := (asD r Γ).so (kApp2 i)
theorem kApp_eq {i : Nat} {r : R} {Γ : Env} : kApp i r Γ = (asD r Γ).so (kApp2 i) := nrfl rfl
noncomputable def kEx  (r : R) (Γ : Env) : So := .next Γ
theorem kEx_eq  {r : R} {Γ : Env} : kEx  r Γ = .next Γ := nrfl rfl
noncomputable def kRet2  (d : D) (Γ : Env) : So := .ret (.dat d) Γ
theorem kRet2_eq  {d : D} {Γ : Env} : kRet2  d Γ = .ret (.dat d) Γ := nrfl rfl
noncomputable def kRet  (r : R) (Γ : Env) : So := match r with
  | .fre ow => .ret ow Γ
  | r => (asD r Γ).so kRet2
theorem kRet_eq  {r : R} {Γ : Env} : kRet  r Γ = match r with
  | .fre ow => .ret ow Γ
  | r => (asD r Γ).so kRet2 := nrfl rfl
noncomputable def kSi (a b : Env → So) (k : Bool) (Γ : Env) : So := match k with
  | true => a Γ
  | false => b Γ
theorem kSi_eq {a b : Env → So} {k : Bool} {Γ : Env} : kSi a b k Γ = match k with
  | true => a Γ
  | false => b Γ := nrfl rfl
noncomputable def kFor (g : Tg) (b : Env → So) (ds : List D) (Γ : Env) : So := forL g b ds Γ
theorem kFor_eq {g : Tg} {b : Env → So} {ds : List D} {Γ : Env} : kFor g b ds Γ = forL g b ds Γ := nrfl rfl
noncomputable def kRse2 (x : Str) (d : D) (Γ : Env) : So := if xokD d then .exn ⟨x, d⟩ Γ else .bad
theorem kRse2_eq {x : Str} {d : D} {Γ : Env} : kRse2 x d Γ = if xokD d then .exn ⟨x, d⟩ Γ else .bad := nrfl rfl
noncomputable def kRse (x : Str) (r : R) (Γ : Env) : So := (asD r Γ).so (kRse2 x)
theorem kRse_eq {x : Str} {r : R} {Γ : Env} : kRse x r Γ = (asD r Γ).so (kRse2 x) := nrfl rfl
theorem evE_var {c : Cz} {i : Nat} {Γ : Env} : evE c (.var i) Γ = (match Γ[i]? with
  | some (some (.dat d)) => .ok (.fre (.dat d)) Γ
  | some (some _) => .ok (.var i) Γ
  | _ => .bad) := nrfl (by rfl)
theorem evE_con {c : Cz} {d : D} {Γ : Env} : evE c (.con d) Γ = .ok (.fre (.dat d)) Γ := nrfl (by rfl)
theorem evE_glb {c : Cz} {y : Str} {d : D} {Γ : Env} : evE c (.glb y d) Γ = .ok (.fre (.dat d)) Γ := nrfl (by rfl)
theorem evE_bin {c : Cz} {op : Bop} {a b : E} {Γ : Env} : evE c (.bin op a b) Γ = (evE c a Γ).bind (K2 (evE c b) (kBin op)) := nrfl (by rfl)
theorem evE_rep {c : Cz} {a b : E} {Γ : Env} : evE c (.rep a b) Γ = (evE c a Γ).bind (K2 (evE c b) kRep) := nrfl (by rfl)
theorem evE_neg {c : Cz} {a : E} {Γ : Env} : evE c (.neg a) Γ = (evE c a Γ).bind kNeg := nrfl (by rfl)
theorem evE_cmp {c : Cz} {op : Cop} {a b : E} {Γ : Env} : evE c (.cmp op a b) Γ = (evE c a Γ).bind (K2 (evE c b) (kCmp op)) := nrfl (by rfl)
theorem evE_chain {c : Cz} {op op' : Cop} {a b e : E} {Γ : Env} : evE c (.chain op op' a b e) Γ = (evE c a Γ).bind (K2 (evE c b) (kCh1 op op' (evE c e))) := nrfl (by rfl)
theorem evE_and {c : Cz} {a b : E} {Γ : Env} : evE c (.and_ a b) Γ = (evE c a Γ).bind (kAnd (evE c b)) := nrfl (by rfl)
theorem evE_or {c : Cz} {a b : E} {Γ : Env} : evE c (.or_ a b) Γ = (evE c a Γ).bind (kOr (evE c b)) := nrfl (by rfl)
theorem evE_not {c : Cz} {a : E} {Γ : Env} : evE c (.not_ a) Γ = (evE c a Γ).bind kNot := nrfl (by rfl)
theorem evE_ite {c : Cz} {t : T} {a b : E} {Γ : Env} : evE c (.ite t a b) Γ = (evT c t Γ).bind (kIte (evE c a) (evE c b)) := nrfl (by rfl)
theorem evE_tup {c : Cz} {es : Es} {Γ : Env} : evE c (.tup es) Γ = (evEs c es Γ).bind kTup := nrfl (by rfl)
theorem evE_lst {c : Cz} {es : Es} {Γ : Env} : evE c (.lst es) Γ = (evEs c es Γ).bind kLst := nrfl (by rfl)
theorem evE_sub {c : Cz} {a i : E} {Γ : Env} : evE c (.sub a i) Γ = (evE c a Γ).bind (K2 (evE c i) kSub) := nrfl (by rfl)
theorem evE_slc {c : Cz} {a : E} {lo hi : Eo} {Γ : Env} : evE c (.slc a lo hi) Γ = (evE c a Γ).bind (kS1 (evO c lo) (evO c hi)) := nrfl (by rfl)
theorem evE_call {c : Cz} {f : Str} {es : Es} {Γ : Env} : evE c (.call f es) Γ = (evEs c es Γ).bind (kCall c f) := nrfl (by rfl)
theorem evE_blt {c : Cz} {f : Blt} {es : Es} {Γ : Env} : evE c (.blt f es) Γ = (evEs c es Γ).bind (kBlt f) := nrfl (by rfl)
theorem evE_lc {c : Cz} {v : Nat} {it : Iw} {t : To} {e : E} {Γ : Env} : evE c (.lc v it t e) Γ = (evI c it Γ).bind (kLc v (evTo c t) (evE c e)) := nrfl (by rfl)
theorem evO_no {c : Cz}  {Γ : Env} : evO c .no Γ = .ok none Γ := nrfl (by rfl)
theorem evO_some {c : Cz} {e : E} {Γ : Env} : evO c (.some e) Γ = (evE c e Γ).bind kO := nrfl (by rfl)
theorem evTo_no {c : Cz}  {Γ : Env} : evTo c .no Γ = .ok true Γ := nrfl (by rfl)
theorem evTo_some {c : Cz} {t : T} {Γ : Env} : evTo c (.some t) Γ = evT c t Γ := nrfl (by rfl)
theorem evT_val {c : Cz} {e : E} {Γ : Env} : evT c (.val e) Γ = (evE c e Γ).bind kTv := nrfl (by rfl)
theorem evT_and {c : Cz} {a b : T} {Γ : Env} : evT c (.and_ a b) Γ = (evT c a Γ).bind (kTand (evT c b)) := nrfl (by rfl)
theorem evT_or {c : Cz} {a b : T} {Γ : Env} : evT c (.or_ a b) Γ = (evT c a Γ).bind (kTor (evT c b)) := nrfl (by rfl)
theorem evT_not {c : Cz} {a : T} {Γ : Env} : evT c (.not_ a) Γ = (evT c a Γ).bind kTnot := nrfl (by rfl)
theorem evEs_nil {c : Cz}  {Γ : Env} : evEs c .nil Γ = .ok [] Γ := nrfl (by rfl)
theorem evEs_cons {c : Cz} {e : E} {es : Es} {Γ : Env} : evEs c (.cons e es) Γ = (evE c e Γ).bind (kEs1 (evEs c es)) := nrfl (by rfl)
theorem evI_e {c : Cz} {e : E} {Γ : Env} : evI c (.e e) Γ = (evE c e Γ).bind kIe := nrfl (by rfl)
theorem evI_rng {c : Cz} {a : E} {Γ : Env} : evI c (.rng a) Γ = (evE c a Γ).bind kR1 := nrfl (by rfl)
theorem evI_rng2 {c : Cz} {a b : E} {Γ : Env} : evI c (.rng2 a b) Γ = (evE c a Γ).bind (kR21 (evE c b)) := nrfl (by rfl)
theorem evS_asg {c : Cz} {g : Tg} {e : E} {Γ : Env} : evS c (.asg g e) Γ = (evE c e Γ).so (kAsg g) := nrfl (by rfl)
theorem evS_app {c : Cz} {i : Nat} {e : E} {Γ : Env} : evS c (.app i e) Γ = (match Γ[i]? with
  | some (some (.lst _)) => (evE c e Γ).so (kApp i)
  | _ => .bad) := nrfl (by rfl)
theorem evS_expr {c : Cz} {e : E} {Γ : Env} : evS c (.expr e) Γ = (evE c e Γ).so kEx := nrfl (by rfl)
theorem evS_ret {c : Cz} {e : E} {Γ : Env} : evS c (.ret e) Γ = (evE c e Γ).so kRet := nrfl (by rfl)
theorem evS_retN {c : Cz}  {Γ : Env} : evS c .retN Γ = .ret (.dat .none) Γ := nrfl (by rfl)
theorem evS_ite {c : Cz} {t : T} {a b : Ss} {Γ : Env} : evS c (.ite t a b) Γ = (evT c t Γ).so (kSi (evSs c a) (evSs c b)) := nrfl (by rfl)
theorem evS_whl {c : Cz} {t : T} {b : Ss} {Γ : Env} : evS c (.whl t b) Γ = whlD (evT c t) (evSs c b) Γ := nrfl (by rfl)
theorem evS_for {c : Cz} {g : Tg} {it : Iw} {b : Ss} {Γ : Env} : evS c (.for_ g it b) Γ = (evI c it Γ).so (kFor g (evSs c b)) := nrfl (by rfl)
theorem evS_brk {c : Cz}  {Γ : Env} : evS c .brk Γ = .brk Γ := nrfl (by rfl)
theorem evS_cnt {c : Cz}  {Γ : Env} : evS c .cnt Γ = .cnt Γ := nrfl (by rfl)
theorem evS_pass {c : Cz}  {Γ : Env} : evS c .pass Γ = .next Γ := nrfl (by rfl)
theorem evS_rse {c : Cz} {x : Str} {e : E} {Γ : Env} : evS c (.rse x e) Γ = (evE c e Γ).so (kRse x) := nrfl (by rfl)
theorem evSs_nil {c : Cz}  {Γ : Env} : evSs c .nil Γ = .next Γ := nrfl (by rfl)
theorem evSs_cons {c : Cz} {s : S} {r : Ss} {Γ : Env} : evSs c (.cons s r) Γ = (evS c s Γ).seq (evSs c r) := nrfl (by rfl)
theorem asDs_nil {Γ : Env} : asDs [] Γ = .ok [] Γ := nrfl rfl
theorem asDs_cons {r : R} {rs : List R} {Γ : Env} : asDs (r :: rs) Γ = (asD r Γ).bind (kA1 rs) := nrfl rfl
theorem evS_tr {c : Cz} {b s : Ss} {x : Str} {Γ : Env} : evS c (.tr b x none s) Γ = (match evSs c b Γ with
  | .exn y Γ => (match c.sub y.cls x with
    | some true => (evSs c s Γ).shut
    | some false => .exn y Γ
    | none => .bad)
  | r => r) := by
  show (match evSs c b Γ with
    | .exn y Γ => _
    | r => r) = _
  cases evSs c b Γ <;> rfl
/-- a def's end, of its body's -/
def rf (r : So) : Rf := match r with
  | .next _ => .ok (.dat .none)
  | .ret ow _ => .ok ow
  | .exn x _ => .exn x
  | _ => .bad
theorem rf_next {Γ : Env} : rf (.next Γ) = .ok (.dat .none) := nrfl rfl
theorem rf_ret {Γ : Env} {ow : Ow} : rf (.ret ow Γ) = .ok ow := nrfl rfl
theorem rf_exn {Γ : Env} {x : Xn} : rf (.exn x Γ) = .exn x := nrfl rfl
theorem tab_def {sub : Str → Str → Option Bool} {pr : List (Str × Fn)} {n : Nat} {f : Str} {np ns : Nat} {b : Ss} {args : List D} (h : pr.lookup f = some ⟨np, ns, b⟩) (hl : args.length = np) :
    tab sub pr (n + 1) f args = rf (evSs ⟨tab sub pr n, sub⟩ b (args.map (fun d => some (.dat d)) ++ List.replicate (ns - np) none)) := by
  show (match pr.lookup f with
    | some fn => runF ⟨tab sub pr n, sub⟩ fn args
    | none => .bad) = _
  rw [h]
  show runF ⟨tab sub pr n, sub⟩ ⟨np, ns, b⟩ args = _
  unfold runF
  rw [if_pos hl]
  rfl
/-! ### loops -/
/-- behind a turn: N where the loop goes on, Q where it ends -/
def Turn (Q : So → Prop) (N : Env → Prop) (r : So) : Prop := match r with
  | .next Γ => N Γ
  | .cnt Γ => N Γ
  | .brk Γ => Q (.next Γ)
  | r => Q r
section
variable {Q : So → Prop} {N : Env → Prop} {Γ : Env} {b : Env → So}
theorem turn_next : Turn Q N (.next Γ) = N Γ := nrfl rfl
theorem turn_cnt : Turn Q N (.cnt Γ) = N Γ := nrfl rfl
theorem turn_brk : Turn Q N (.brk Γ) = Q (.next Γ) := nrfl rfl
theorem turn_ret {ow : Ow} : Turn Q N (.ret ow Γ) = Q (.ret ow Γ) := nrfl rfl
theorem turn_exn {x : Xn} : Turn Q N (.exn x Γ) = Q (.exn x Γ) := nrfl rfl
theorem turn_bad : Turn Q N .bad = Q .bad := nrfl rfl
end
theorem for_gen {g : Tg} {b : Env → So} {Q : So → Prop} (P : Nat → Env → Prop) (ds : List D)
    (h : ∀ (i : Nat) (d : D) (Γ : Env), ds[i]? = some d → P i Γ → ∃ Γ', setTg g d Γ = some Γ' ∧ Turn Q (P (i + 1)) (b Γ'))
    (hd : ∀ Γ, P ds.length Γ → Q (.next Γ)) (Γ : Env) (h0 : P 0 Γ) : Q (forL g b ds Γ) := by
  have key : ∀ (m : Nat) (i : Nat) (Γ : Env), m = ds.length - i → i ≤ ds.length → P i Γ → Q (forL g b (ds.drop i) Γ) := by
    intro m
    induction m with
    | zero =>
      intro i Γ hm hi p
      have e : i = ds.length := by omega
      subst e
      rw [List.drop_length]
      exact hd Γ p
    | succ m ih =>
      intro i Γ hm hi p
      have hi : i < ds.length := by omega
      rw [List.drop_eq_getElem_cons hi]
      obtain ⟨Γ', e, q⟩ := h i ds[i] Γ (List.getElem?_eq_getElem hi) p
      unfold forL
      rw [e]
      dsimp only
      cases eb : b Γ' with
      | next Γ2 =>
        rw [eb] at q
        exact ih (i + 1) Γ2 (by omega) (by omega) q
      | cnt Γ2 =>
        rw [eb] at q
        exact ih (i + 1) Γ2 (by omega) (by omega) q
      | brk Γ2 => rw [eb] at q; exact q
      | ret ow Γ2 => rw [eb] at q; exact q
      | exn x Γ2 => rw [eb] at q; exact q
      | bad => rw [eb] at q; exact q
  exact key ds.length 0 Γ rfl (Nat.zero_le _) h0
/-- behind a test -/
def Test (Q : So → Prop) (N : Env → Prop) (b : Env → So) (r : Ro Bool) : Prop := match r with
  | .ok true Γ => Turn Q N (b Γ)
  | .ok false Γ => Q (.next Γ)
  | .exn x Γ => Q (.exn x Γ)
  | .bad => Q .bad
section
variable {Q : So → Prop} {N : Env → Prop} {Γ : Env} {b : Env → So}
theorem test_t : Test Q N b (.ok true Γ) = Turn Q N (b Γ) := nrfl rfl
theorem test_f : Test Q N b (.ok false Γ) = Q (.next Γ) := nrfl rfl
end
theorem whl_gen {t : Env → Ro Bool} {b : Env → So} {Q : So → Prop} (P : Nat → Env → Prop)
    (h : ∀ (m : Nat) (Γ : Env), P m Γ → Test Q (fun Γ => ∃ m', m' < m ∧ P m' Γ) b (t Γ)) (m : Nat) (Γ : Env) (h0 : P m Γ) : Q (whlD t b Γ) := by
  induction m using Nat.strongRecOn generalizing Γ with
  | ind m ih =>
    have q := h m Γ h0
    rw [whlD_eq]
    cases et : t Γ with
    | bad => rw [et] at q; exact q
    | exn x Γ' => rw [et] at q; exact q
    | ok k Γ' =>
      rw [et] at q
      cases k with
      | false => exact q
      | true =>
        rw [test_t] at q
        dsimp only
        cases eb : b Γ' with
        | next Γ2 =>
          rw [eb] at q
          obtain ⟨m', hm, p⟩ := q
          exact ih m' hm Γ2 p
        | cnt Γ2 =>
          rw [eb] at q
          obtain ⟨m', hm, p⟩ := q
          exact ih m' hm Γ2 p
        | brk Γ2 => rw [eb] at q; exact q
        | ret ow Γ2 => rw [eb] at q; exact q
        | exn x Γ2 => rw [eb] at q; exact q
        | bad => rw [eb] at q; exact q
/-- a comprehension: st, the slots behind so many turns -/
theorem lc_gen {v : Nat} {t : Env → Ro Bool} {e : Env → Ro R} (P : Env → Prop) {f : D → Option D} : ∀ (ds : List D) (Γ : Env), P Γ →
    (∀ (d : D) (Γ : Env), d ∈ ds → P Γ → match f d with
      | none => ∃ Γ1, t (Γ.set v (some (.dat d))) = .ok false Γ1 ∧ coverable Γ1 v = true ∧ P (Γ1.set v none)
      | some y => ∃ Γ1 Γ2 Γ3 r, t (Γ.set v (some (.dat d))) = .ok true Γ1 ∧ e Γ1 = .ok r Γ2 ∧ asD r Γ2 = .ok y Γ3 ∧ coverable Γ3 v = true ∧ P (Γ3.set v none)) →
    ∃ Γ', lcL v t e ds Γ = .ok (ds.filterMap f) Γ' ∧ P Γ'
  | [], Γ, p, _ => ⟨Γ, rfl, p⟩
  | d :: ds, Γ, p, h => by
    have q := h d Γ (List.mem_cons_self ..) p
    unfold lcL
    cases hf : f d with
    | none =>
      rw [hf] at q
      obtain ⟨Γ1, e1, e2, p2⟩ := q
      obtain ⟨Γ', e3, p3⟩ := lc_gen P ds (Γ1.set v none) p2 fun d' Γ m => h d' Γ (List.mem_cons_of_mem _ m)
      rw [e1]
      dsimp only
      rw [if_pos e2, e3, List.filterMap_cons, hf]
      exact ⟨Γ', rfl, p3⟩
    | some y =>
      rw [hf] at q
      obtain ⟨Γ1, Γ2, Γ3, r, e1, e2, e3, e4, p2⟩ := q
      obtain ⟨Γ', e5, p3⟩ := lc_gen P ds (Γ3.set v none) p2 fun d' Γ m => h d' Γ (List.mem_cons_of_mem _ m)
      rw [e1]
      dsimp only
      rw [e2]
      dsimp only
      rw [e3]
      dsimp only
      rw [if_pos e4, e5, List.filterMap_cons, hf]
      exact ⟨Γ', rfl, p3⟩
end Tv
end

section
set_option linter.all false
set_option maxRecDepth 100000
set_option maxHeartbeats 1000000
namespace M1
open PySem Tv PF
/-- numbers as data -/
def nD (n : Nat) : D := .int (n : Int)
def iD (xs : List Nat) : List D := xs.map nD
theorem iD_len (xs : List Nat) : (iD xs).length = xs.length := by simp [iD]
theorem iD_app (xs ys : List Nat) : iD xs ++ iD ys = iD (xs ++ ys) := by simp [iD]
abbrev Tb := List (Str × Fn)
def Has (pr : Tb) (x : Str) (f : Fn) : Prop := pr.lookup x = some f
/-- the bytes of a number -/
def putN (n : Nat) : List Nat := if n < 128 then [n] else (n % 128 + 128) :: putN (n / 128)
termination_by n
theorem putN_lt {n : Nat} (h : n < 128) : putN n = [n] := by rw [putN, if_pos h]
theorem putN_ge {n : Nat} (h : ¬ n < 128) : putN n = (n % 128 + 128) :: putN (n / 128) := by rw [putN, if_neg h]
section
variable {sub : Str → Str → Option Bool} {pr : Tb}
theorem put_number_ok (h : Has pr "put_number" f_put_number) (n : Nat) (x : Nat) (hx : (putN x).length < 1000) : tab sub pr (n + 1) "put_number" [nD x] = .ok (.dat (.list (iD (putN x)))) := by
  rw [tab_def h rfl]
  unfold c_put_number
  show rf (evSs _ _ [some (.dat (nD x)), none]) = _
  unfold nD
  simp only [K2_eq, kBin_eq, kRep_eq, kNeg_eq, kBool_eq, kCmp_eq, kCh3_eq, kCh2_eq, kCh1_eq, kAnd_eq, kOr_eq, kNot_eq, kIte_eq, kTup2_eq, kTup_eq, kLst2_eq, kLst_eq, kSub_eq, kS3_eq, kS2_eq, kS1_eq, kCall2_eq, kCall_eq, kBlt_eq, kLc_eq, kO_eq, kTv_eq, kTand_eq, kTor_eq, kTnot_eq, kEs2_eq, kEs1_eq, kIe2_eq, kIe_eq, kR1_eq, kR22_eq, kR21_eq, kA2_eq, kA1_eq, kAsg2_eq, kAsg_eq, kApp2_eq, kApp_eq, kEx_eq, kRet2_eq, kRet_eq, kSi_eq, kFor_eq, kRse2_eq, kRse_eq, evE_var, evE_con, evE_glb, evE_bin, evE_rep, evE_neg, evE_cmp, evE_chain, evE_and, evE_or, evE_not, evE_ite, evE_tup, evE_lst, evE_sub, evE_slc, evE_call, evE_blt, evE_lc, evO_no, evO_some, evTo_no, evTo_some, evT_val, evT_and, evT_or, evT_not, evEs_nil, evEs_cons, evI_e, evI_rng, evI_rng2, evS_asg, evS_app, evS_expr, evS_ret, evS_retN, evS_ite, evS_whl, evS_for, evS_brk, evS_cnt, evS_pass, evS_rse, evSs_nil, evSs_cons, asDs_nil, asDs_cons, sizeLine, turn_next, turn_cnt, turn_brk, turn_ret, turn_exn, test_t, test_f, bind_ok, bind_exn, bind_bad, so_ok, so_exn, so_bad, seq_next, seq_brk, seq_cnt, seq_ret, seq_exn, seq_bad, ofO_some, rofO_some, view_dat, view_lst, view_var, tree_dat, tree_lst, asD_dat, asD_lst, asD_var, get0, getS, set0, setS, getD0, getDS, add_ii, sub_ii, lt_ii, le_ii, gt_ii, ge_ii, eq_ii, ne_ii, len_l, len_t, int_i, int_b, abs_i, min_ii, max_ii, tru_b, neg_i, items_l, items_t, sub_l, sub_t, slc_l, slc_t, viewAll, ft_mk, fdiv_ii, mod_ii, mul_ii, and_self, true_and, and_true, or_true, true_or, Option.map_some, rf_next, rf_ret, rf_exn, decide_true, decide_false, reduceIte, List.length_cons, List.length_nil, Nat.zero_add, Nat.zero_le, Bool.not_true, Bool.not_false, Bool.false_eq_true, Nat.reducePow, Nat.reduceAdd, Nat.reduceLT, Nat.reduceLeDiff, Nat.reduceMul, Int.reduceLT, Int.reduceLE, Int.reduceNeg, Int.reducePow, Int.reduceAdd, Int.reduceSub, Int.reduceMul, Int.reduceToNat, Nat.reduceEqDiff, Int.reduceEq]
  refine whl_gen (Q := fun r => rf (So.seq r _) = _) (P := fun m Γ => ∃ acc, Γ = [some (.dat (.int (m : Int))), some (.lst (iD acc))] ∧ putN x = acc ++ putN m) ?_ x _ ⟨[], rfl, rfl⟩
  rintro y Γ ⟨acc, rfl, e⟩
  have hl : acc.length < 1000 := by rw [e, List.length_append] at hx; omega
  have hz : (iD acc).length < 16777216 := by rw [iD_len]; omega
  by_cases hy : (128 : Int) ≤ (y : Int)
  · have hy2 : ¬ y < 128 := by omega
    simp only [K2_eq, kBin_eq, kRep_eq, kNeg_eq, kBool_eq, kCmp_eq, kCh3_eq, kCh2_eq, kCh1_eq, kAnd_eq, kOr_eq, kNot_eq, kIte_eq, kTup2_eq, kTup_eq, kLst2_eq, kLst_eq, kSub_eq, kS3_eq, kS2_eq, kS1_eq, kCall2_eq, kCall_eq, kBlt_eq, kLc_eq, kO_eq, kTv_eq, kTand_eq, kTor_eq, kTnot_eq, kEs2_eq, kEs1_eq, kIe2_eq, kIe_eq, kR1_eq, kR22_eq, kR21_eq, kA2_eq, kA1_eq, kAsg2_eq, kAsg_eq, kApp2_eq, kApp_eq, kEx_eq, kRet2_eq, kRet_eq, kSi_eq, kFor_eq, kRse2_eq, kRse_eq, evE_var, evE_con, evE_glb, evE_bin, evE_rep, evE_neg, evE_cmp, evE_chain, evE_and, evE_or, evE_not, evE_ite, evE_tup, evE_lst, evE_sub, evE_slc, evE_call, evE_blt, evE_lc, evO_no, evO_some, evTo_no, evTo_some, evT_val, evT_and, evT_or, evT_not, evEs_nil, evEs_cons, evI_e, evI_rng, evI_rng2, evS_asg, evS_app, evS_expr, evS_ret, evS_retN, evS_ite, evS_whl, evS_for, evS_brk, evS_cnt, evS_pass, evS_rse, evSs_nil, evSs_cons, asDs_nil, asDs_cons, sizeLine, turn_next, turn_cnt, turn_brk, turn_ret, turn_exn, test_t, test_f, bind_ok, bind_exn, bind_bad, so_ok, so_exn, so_bad, seq_next, seq_brk, seq_cnt, seq_ret, seq_exn, seq_bad, ofO_some, rofO_some, view_dat, view_lst, view_var, tree_dat, tree_lst, asD_dat, asD_lst, asD_var, get0, getS, set0, setS, getD0, getDS, add_ii, sub_ii, lt_ii, le_ii, gt_ii, ge_ii, eq_ii, ne_ii, len_l, len_t, int_i, int_b, abs_i, min_ii, max_ii, tru_b, neg_i, items_l, items_t, sub_l, sub_t, slc_l, slc_t, viewAll, ft_mk, fdiv_ii, mod_ii, mul_ii, and_self, true_and, and_true, or_true, true_or, Option.map_some, rf_next, rf_ret, rf_exn, decide_true, decide_false, reduceIte, List.length_cons, List.length_nil, Nat.zero_add, Nat.zero_le, Bool.not_true, Bool.not_false, Bool.false_eq_true, Nat.reducePow, Nat.reduceAdd, Nat.reduceLT, Nat.reduceLeDiff, Nat.reduceMul, Int.reduceLT, Int.reduceLE, Int.reduceNeg, Int.reducePow, Int.reduceAdd, Int.reduceSub, Int.reduceMul, Int.reduceToNat, Nat.reduceEqDiff, Int.reduceEq, hy, hz]
    refine ⟨y / 128, by omega, acc ++ [y % 128 + 128], ?_, ?_⟩
    · rw [← iD_app]
      simp [iD, nD]
    · rw [e, putN_ge hy2]
      simp
  · have hy2 : y < 128 := by omega
    simp only [K2_eq, kBin_eq, kRep_eq, kNeg_eq, kBool_eq, kCmp_eq, kCh3_eq, kCh2_eq, kCh1_eq, kAnd_eq, kOr_eq, kNot_eq, kIte_eq, kTup2_eq, kTup_eq, kLst2_eq, kLst_eq, kSub_eq, kS3_eq, kS2_eq, kS1_eq, kCall2_eq, kCall_eq, kBlt_eq, kLc_eq, kO_eq, kTv_eq, kTand_eq, kTor_eq, kTnot_eq, kEs2_eq, kEs1_eq, kIe2_eq, kIe_eq, kR1_eq, kR22_eq, kR21_eq, kA2_eq, kA1_eq, kAsg2_eq, kAsg_eq, kApp2_eq, kApp_eq, kEx_eq, kRet2_eq, kRet_eq, kSi_eq, kFor_eq, kRse2_eq, kRse_eq, evE_var, evE_con, evE_glb, evE_bin, evE_rep, evE_neg, evE_cmp, evE_chain, evE_and, evE_or, evE_not, evE_ite, evE_tup, evE_lst, evE_sub, evE_slc, evE_call, evE_blt, evE_lc, evO_no, evO_some, evTo_no, evTo_some, evT_val, evT_and, evT_or, evT_not, evEs_nil, evEs_cons, evI_e, evI_rng, evI_rng2, evS_asg, evS_app, evS_expr, evS_ret, evS_retN, evS_ite, evS_whl, evS_for, evS_brk, evS_cnt, evS_pass, evS_rse, evSs_nil, evSs_cons, asDs_nil, asDs_cons, sizeLine, turn_next, turn_cnt, turn_brk, turn_ret, turn_exn, test_t, test_f, bind_ok, bind_exn, bind_bad, so_ok, so_exn, so_bad, seq_next, seq_brk, seq_cnt, seq_ret, seq_exn, seq_bad, ofO_some, rofO_some, view_dat, view_lst, view_var, tree_dat, tree_lst, asD_dat, asD_lst, asD_var, get0, getS, set0, setS, getD0, getDS, add_ii, sub_ii, lt_ii, le_ii, gt_ii, ge_ii, eq_ii, ne_ii, len_l, len_t, int_i, int_b, abs_i, min_ii, max_ii, tru_b, neg_i, items_l, items_t, sub_l, sub_t, slc_l, slc_t, viewAll, ft_mk, fdiv_ii, mod_ii, mul_ii, and_self, true_and, and_true, or_true, true_or, Option.map_some, rf_next, rf_ret, rf_exn, decide_true, decide_false, reduceIte, List.length_cons, List.length_nil, Nat.zero_add, Nat.zero_le, Bool.not_true, Bool.not_false, Bool.false_eq_true, Nat.reducePow, Nat.reduceAdd, Nat.reduceLT, Nat.reduceLeDiff, Nat.reduceMul, Int.reduceLT, Int.reduceLE, Int.reduceNeg, Int.reducePow, Int.reduceAdd, Int.reduceSub, Int.reduceMul, Int.reduceToNat, Nat.reduceEqDiff, Int.reduceEq, hy, hz]
    rw [e, putN_lt hy2]
    simp [iD, nD]
end
end M1
end

section
set_option linter.all false
set_option maxRecDepth 100000
set_option maxHeartbeats 2000000
namespace M1
open PySem Tv PF
theorem sub_nat {data : List Nat} {k b : Nat} (h : data[k]? = some b) : subD (.list (iD data)) (.int (k : Int)) = some (.dat (.int (b : Int))) := by
  rw [sub_l]
  have e : (iD data)[k]? = some (nD b) := by unfold iD; rw [List.getElem?_map, h]; rfl
  rw [L2.atI_nat e]
  rfl
/-! ### take_number -/
/-- the number at the head, how many bytes it takes -/
def tk : Nat → Bool → List Nat → Option (Nat × Nat)
  | 0, _, _ => none
  | _ + 1, _, [] => none
  | f + 1, fst, b :: r => if b < 128 then (if b = 0 ∧ fst = false then none else some (b, 1)) else (tk f false r).map fun p => (b % 128 + 128 * p.1, p.2 + 1)
def takeN (data : List Nat) (at_ : Nat) : Option (Nat × Nat) := (tk 5 true (data.drop at_)).map fun p => (p.1, at_ + p.2)
def badF (x : Str) : Rf := .exn ⟨"BadFile", .str x⟩
/-- what take_number answers -/
def takeR (o : Option (Nat × Nat)) : Rf := match o with
  | some (v, p) => .ok (.dat (.tuple [nD v, nD p]))
  | none => badF "number"
section
variable {sub : Str → Str → Option Bool} {pr : Tb}
def tkR (data : List Nat) (at_ i num : Nat) : Rf := takeR ((tk (5 - i) (decide (i = 0)) (data.drop (at_ + i))).map fun p => (num + 128 ^ i * p.1, at_ + i + p.2))
theorem drop_cons {α : Type} {l : List α} {k : Nat} {b : α} (h : l[k]? = some b) : l.drop k = b :: l.drop (k + 1) := by
  obtain ⟨h1, h2⟩ := List.getElem?_eq_some_iff.mp h
  rw [List.drop_eq_getElem_cons h1, h2]
theorem range5 : rangeD 0 5 = [.int 0, .int 1, .int 2, .int 3, .int 4] := rfl
theorem take_number_ok (h : Has pr "take_number" f_take_number) (n : Nat) (data : List Nat) (at_ : Nat) : tab sub pr (n + 1) "take_number" [.list (iD data), nD at_] = takeR (takeN data at_) := by
  rw [tab_def h rfl]
  unfold c_take_number
  show rf (evSs _ _ [some (.dat (.list (iD data))), some (.dat (nD at_)), none, none, none, none]) = _
  unfold nD
  simp only [K2_eq, kBin_eq, kRep_eq, kNeg_eq, kBool_eq, kCmp_eq, kCh3_eq, kCh2_eq, kCh1_eq, kAnd_eq, kOr_eq, kNot_eq, kIte_eq, kTup2_eq, kTup_eq, kLst2_eq, kLst_eq, kSub_eq, kS3_eq, kS2_eq, kS1_eq, kCall2_eq, kCall_eq, kBlt_eq, kLc_eq, kO_eq, kTv_eq, kTand_eq, kTor_eq, kTnot_eq, kEs2_eq, kEs1_eq, kIe2_eq, kIe_eq, kR1_eq, kR22_eq, kR21_eq, kA2_eq, kA1_eq, kAsg2_eq, kAsg_eq, kApp2_eq, kApp_eq, kEx_eq, kRet2_eq, kRet_eq, kSi_eq, kFor_eq, kRse2_eq, kRse_eq, evE_var, evE_con, evE_glb, evE_bin, evE_rep, evE_neg, evE_cmp, evE_chain, evE_and, evE_or, evE_not, evE_ite, evE_tup, evE_lst, evE_sub, evE_slc, evE_call, evE_blt, evE_lc, evO_no, evO_some, evTo_no, evTo_some, evT_val, evT_and, evT_or, evT_not, evEs_nil, evEs_cons, evI_e, evI_rng, evI_rng2, evS_asg, evS_app, evS_expr, evS_ret, evS_retN, evS_ite, evS_whl, evS_for, evS_brk, evS_cnt, evS_pass, evS_rse, evSs_nil, evSs_cons, asDs_nil, asDs_cons, sizeLine, turn_next, turn_cnt, turn_brk, turn_ret, turn_exn, test_t, test_f, bind_ok, bind_exn, bind_bad, so_ok, so_exn, so_bad, seq_next, seq_brk, seq_cnt, seq_ret, seq_exn, seq_bad, ofO_some, rofO_some, view_dat, view_lst, view_var, tree_dat, tree_lst, asD_dat, asD_lst, asD_var, get0, getS, set0, setS, getD0, getDS, add_ii, sub_ii, lt_ii, le_ii, gt_ii, ge_ii, eq_ii, ne_ii, len_l, len_t, int_i, int_b, abs_i, min_ii, max_ii, tru_b, neg_i, items_l, items_t, sub_l, sub_t, slc_l, slc_t, viewAll, ft_mk, fdiv_ii, mod_ii, mul_ii, and_self, true_and, and_true, or_true, true_or, Option.map_some, rf_next, rf_ret, rf_exn, decide_true, decide_false, reduceIte, List.length_cons, List.length_nil, Nat.zero_add, Nat.zero_le, Bool.not_true, Bool.not_false, Bool.false_eq_true, Nat.reducePow, Nat.reduceAdd, Nat.reduceLT, Nat.reduceLeDiff, Nat.reduceMul, Int.reduceLT, Int.reduceLE, Int.reduceNeg, Int.reducePow, Int.reduceAdd, Int.reduceSub, Int.reduceMul, Int.reduceToNat, Nat.reduceEqDiff, Int.reduceEq]
  have eb : big62 5 = true := big_ok (by omega)
  simp only [K2_eq, kBin_eq, kRep_eq, kNeg_eq, kBool_eq, kCmp_eq, kCh3_eq, kCh2_eq, kCh1_eq, kAnd_eq, kOr_eq, kNot_eq, kIte_eq, kTup2_eq, kTup_eq, kLst2_eq, kLst_eq, kSub_eq, kS3_eq, kS2_eq, kS1_eq, kCall2_eq, kCall_eq, kBlt_eq, kLc_eq, kO_eq, kTv_eq, kTand_eq, kTor_eq, kTnot_eq, kEs2_eq, kEs1_eq, kIe2_eq, kIe_eq, kR1_eq, kR22_eq, kR21_eq, kA2_eq, kA1_eq, kAsg2_eq, kAsg_eq, kApp2_eq, kApp_eq, kEx_eq, kRet2_eq, kRet_eq, kSi_eq, kFor_eq, kRse2_eq, kRse_eq, evE_var, evE_con, evE_glb, evE_bin, evE_rep, evE_neg, evE_cmp, evE_chain, evE_and, evE_or, evE_not, evE_ite, evE_tup, evE_lst, evE_sub, evE_slc, evE_call, evE_blt, evE_lc, evO_no, evO_some, evTo_no, evTo_some, evT_val, evT_and, evT_or, evT_not, evEs_nil, evEs_cons, evI_e, evI_rng, evI_rng2, evS_asg, evS_app, evS_expr, evS_ret, evS_retN, evS_ite, evS_whl, evS_for, evS_brk, evS_cnt, evS_pass, evS_rse, evSs_nil, evSs_cons, asDs_nil, asDs_cons, sizeLine, turn_next, turn_cnt, turn_brk, turn_ret, turn_exn, test_t, test_f, bind_ok, bind_exn, bind_bad, so_ok, so_exn, so_bad, seq_next, seq_brk, seq_cnt, seq_ret, seq_exn, seq_bad, ofO_some, rofO_some, view_dat, view_lst, view_var, tree_dat, tree_lst, asD_dat, asD_lst, asD_var, get0, getS, set0, setS, getD0, getDS, add_ii, sub_ii, lt_ii, le_ii, gt_ii, ge_ii, eq_ii, ne_ii, len_l, len_t, int_i, int_b, abs_i, min_ii, max_ii, tru_b, neg_i, items_l, items_t, sub_l, sub_t, slc_l, slc_t, viewAll, ft_mk, fdiv_ii, mod_ii, mul_ii, and_self, true_and, and_true, or_true, true_or, Option.map_some, rf_next, rf_ret, rf_exn, decide_true, decide_false, reduceIte, List.length_cons, List.length_nil, Nat.zero_add, Nat.zero_le, Bool.not_true, Bool.not_false, Bool.false_eq_true, Nat.reducePow, Nat.reduceAdd, Nat.reduceLT, Nat.reduceLeDiff, Nat.reduceMul, Int.reduceLT, Int.reduceLE, Int.reduceNeg, Int.reducePow, Int.reduceAdd, Int.reduceSub, Int.reduceMul, Int.reduceToNat, Nat.reduceEqDiff, Int.reduceEq, eb]
  have e0 : takeR (takeN data at_) = tkR data at_ 0 0 := by
    unfold takeN tkR
    have e1 : tk (5 - 0) (decide (0 = 0)) (List.drop (at_ + 0) data) = tk 5 true (List.drop at_ data) := rfl
    rw [e1]
    generalize tk 5 true (List.drop at_ data) = q
    cases q with
    | none => rfl
    | some p => simp
  rw [e0]
  have hl5 : (rangeD 0 5).length = 5 := by decide
  refine for_gen (Q := fun r => rf (So.seq r _) = _) (P := fun i Γ => i ≤ 5 ∧ ∃ (num w : Nat) (o p : Option Ow), Γ = [some (.dat (.list (iD data))), some (.dat (.int (at_ : Int))), some (.dat (.int (num : Int))), some (.dat (.int (w : Int))), o, p] ∧ w = 128 ^ i ∧ tkR data at_ 0 0 = tkR data at_ i num) (rangeD 0 5) ?_ ?_ _ ⟨by omega, 0, 1, none, none, rfl, rfl, rfl⟩
  · rintro i d Γ hd ⟨hi5, num, w, o, p, rfl, hw, e⟩
    have hi : i < 5 := by
      have := (List.getElem?_eq_some_iff.mp hd).1
      rw [hl5] at this
      exact this
    have hd' : d = .int (i : Int) := by
      rw [range5] at hd
      have : i = 0 ∨ i = 1 ∨ i = 2 ∨ i = 3 ∨ i = 4 := by omega
      rcases this with rfl | rfl | rfl | rfl | rfl <;> (simp at hd; rw [← hd]; rfl)
    subst hd'
    refine ⟨_, rfl, ?_⟩
    rw [e]
    have ei : (at_ : Int) + (i : Int) = ((at_ + i : Nat) : Int) := by omega
    have el : ((iD data).length : Int) = (data.length : Int) := by rw [iD_len]
    by_cases hlt : (data.length : Int) ≤ ((at_ + i : Nat) : Int)
    · simp only [K2_eq, kBin_eq, kRep_eq, kNeg_eq, kBool_eq, kCmp_eq, kCh3_eq, kCh2_eq, kCh1_eq, kAnd_eq, kOr_eq, kNot_eq, kIte_eq, kTup2_eq, kTup_eq, kLst2_eq, kLst_eq, kSub_eq, kS3_eq, kS2_eq, kS1_eq, kCall2_eq, kCall_eq, kBlt_eq, kLc_eq, kO_eq, kTv_eq, kTand_eq, kTor_eq, kTnot_eq, kEs2_eq, kEs1_eq, kIe2_eq, kIe_eq, kR1_eq, kR22_eq, kR21_eq, kA2_eq, kA1_eq, kAsg2_eq, kAsg_eq, kApp2_eq, kApp_eq, kEx_eq, kRet2_eq, kRet_eq, kSi_eq, kFor_eq, kRse2_eq, kRse_eq, evE_var, evE_con, evE_glb, evE_bin, evE_rep, evE_neg, evE_cmp, evE_chain, evE_and, evE_or, evE_not, evE_ite, evE_tup, evE_lst, evE_sub, evE_slc, evE_call, evE_blt, evE_lc, evO_no, evO_some, evTo_no, evTo_some, evT_val, evT_and, evT_or, evT_not, evEs_nil, evEs_cons, evI_e, evI_rng, evI_rng2, evS_asg, evS_app, evS_expr, evS_ret, evS_retN, evS_ite, evS_whl, evS_for, evS_brk, evS_cnt, evS_pass, evS_rse, evSs_nil, evSs_cons, asDs_nil, asDs_cons, sizeLine, turn_next, turn_cnt, turn_brk, turn_ret, turn_exn, test_t, test_f, bind_ok, bind_exn, bind_bad, so_ok, so_exn, so_bad, seq_next, seq_brk, seq_cnt, seq_ret, seq_exn, seq_bad, ofO_some, rofO_some, view_dat, view_lst, view_var, tree_dat, tree_lst, asD_dat, asD_lst, asD_var, get0, getS, set0, setS, getD0, getDS, add_ii, sub_ii, lt_ii, le_ii, gt_ii, ge_ii, eq_ii, ne_ii, len_l, len_t, int_i, int_b, abs_i, min_ii, max_ii, tru_b, neg_i, items_l, items_t, sub_l, sub_t, slc_l, slc_t, viewAll, ft_mk, fdiv_ii, mod_ii, mul_ii, and_self, true_and, and_true, or_true, true_or, Option.map_some, rf_next, rf_ret, rf_exn, decide_true, decide_false, reduceIte, List.length_cons, List.length_nil, Nat.zero_add, Nat.zero_le, Bool.not_true, Bool.not_false, Bool.false_eq_true, Nat.reducePow, Nat.reduceAdd, Nat.reduceLT, Nat.reduceLeDiff, Nat.reduceMul, Int.reduceLT, Int.reduceLE, Int.reduceNeg, Int.reducePow, Int.reduceAdd, Int.reduceSub, Int.reduceMul, Int.reduceToNat, Nat.reduceEqDiff, Int.reduceEq, ei, el, hlt, xokD]
      unfold tkR
      rw [List.drop_eq_nil_of_le (by omega)]
      obtain ⟨f, hf⟩ : ∃ f, 5 - i = f + 1 := ⟨4 - i, by omega⟩
      rw [hf]
      rfl
    · obtain ⟨b, hb⟩ : ∃ b, data[at_ + i]? = some b := ⟨data[at_ + i]'(by omega), List.getElem?_eq_getElem (by omega)⟩
      have hw4 : w ≤ 268435456 := by
        have : 128 ^ i ≤ 128 ^ 4 := Nat.pow_le_pow_right (by omega) (by omega)
        omega
      have c1 : (-18446744073709551616 : Int) < (w : Int) := by omega
      have c2 : (w : Int) < 18446744073709551616 := by omega
      simp only [K2_eq, kBin_eq, kRep_eq, kNeg_eq, kBool_eq, kCmp_eq, kCh3_eq, kCh2_eq, kCh1_eq, kAnd_eq, kOr_eq, kNot_eq, kIte_eq, kTup2_eq, kTup_eq, kLst2_eq, kLst_eq, kSub_eq, kS3_eq, kS2_eq, kS1_eq, kCall2_eq, kCall_eq, kBlt_eq, kLc_eq, kO_eq, kTv_eq, kTand_eq, kTor_eq, kTnot_eq, kEs2_eq, kEs1_eq, kIe2_eq, kIe_eq, kR1_eq, kR22_eq, kR21_eq, kA2_eq, kA1_eq, kAsg2_eq, kAsg_eq, kApp2_eq, kApp_eq, kEx_eq, kRet2_eq, kRet_eq, kSi_eq, kFor_eq, kRse2_eq, kRse_eq, evE_var, evE_con, evE_glb, evE_bin, evE_rep, evE_neg, evE_cmp, evE_chain, evE_and, evE_or, evE_not, evE_ite, evE_tup, evE_lst, evE_sub, evE_slc, evE_call, evE_blt, evE_lc, evO_no, evO_some, evTo_no, evTo_some, evT_val, evT_and, evT_or, evT_not, evEs_nil, evEs_cons, evI_e, evI_rng, evI_rng2, evS_asg, evS_app, evS_expr, evS_ret, evS_retN, evS_ite, evS_whl, evS_for, evS_brk, evS_cnt, evS_pass, evS_rse, evSs_nil, evSs_cons, asDs_nil, asDs_cons, sizeLine, turn_next, turn_cnt, turn_brk, turn_ret, turn_exn, test_t, test_f, bind_ok, bind_exn, bind_bad, so_ok, so_exn, so_bad, seq_next, seq_brk, seq_cnt, seq_ret, seq_exn, seq_bad, ofO_some, rofO_some, view_dat, view_lst, view_var, tree_dat, tree_lst, asD_dat, asD_lst, asD_var, get0, getS, set0, setS, getD0, getDS, add_ii, sub_ii, lt_ii, le_ii, gt_ii, ge_ii, eq_ii, ne_ii, len_l, len_t, int_i, int_b, abs_i, min_ii, max_ii, tru_b, neg_i, items_l, items_t, sub_l, sub_t, slc_l, slc_t, viewAll, ft_mk, fdiv_ii, mod_ii, mul_ii, and_self, true_and, and_true, or_true, true_or, Option.map_some, rf_next, rf_ret, rf_exn, decide_true, decide_false, reduceIte, List.length_cons, List.length_nil, Nat.zero_add, Nat.zero_le, Bool.not_true, Bool.not_false, Bool.false_eq_true, Nat.reducePow, Nat.reduceAdd, Nat.reduceLT, Nat.reduceLeDiff, Nat.reduceMul, Int.reduceLT, Int.reduceLE, Int.reduceNeg, Int.reducePow, Int.reduceAdd, Int.reduceSub, Int.reduceMul, Int.reduceToNat, Nat.reduceEqDiff, Int.reduceEq, ei, el, hlt, sub_nat hb, c1, c2]
      have ed := drop_cons hb
      obtain ⟨f, hf⟩ : ∃ f, 5 - i = f + 1 := ⟨4 - i, by omega⟩
      have hf2 : 5 - (i + 1) = f := by omega
      by_cases h128 : (b : Int) < 128
      · have hb2 : b < 128 := by omega
        have hmod : (b : Int) % 128 = b := by omega
        by_cases hb0 : (b : Int) = 0
        · have hb00 : b = 0 := by omega
          by_cases hi0 : (0 : Int) < (i : Int)
          · have hi00 : ¬ i = 0 := by omega
            simp only [K2_eq, kBin_eq, kRep_eq, kNeg_eq, kBool_eq, kCmp_eq, kCh3_eq, kCh2_eq, kCh1_eq, kAnd_eq, kOr_eq, kNot_eq, kIte_eq, kTup2_eq, kTup_eq, kLst2_eq, kLst_eq, kSub_eq, kS3_eq, kS2_eq, kS1_eq, kCall2_eq, kCall_eq, kBlt_eq, kLc_eq, kO_eq, kTv_eq, kTand_eq, kTor_eq, kTnot_eq, kEs2_eq, kEs1_eq, kIe2_eq, kIe_eq, kR1_eq, kR22_eq, kR21_eq, kA2_eq, kA1_eq, kAsg2_eq, kAsg_eq, kApp2_eq, kApp_eq, kEx_eq, kRet2_eq, kRet_eq, kSi_eq, kFor_eq, kRse2_eq, kRse_eq, evE_var, evE_con, evE_glb, evE_bin, evE_rep, evE_neg, evE_cmp, evE_chain, evE_and, evE_or, evE_not, evE_ite, evE_tup, evE_lst, evE_sub, evE_slc, evE_call, evE_blt, evE_lc, evO_no, evO_some, evTo_no, evTo_some, evT_val, evT_and, evT_or, evT_not, evEs_nil, evEs_cons, evI_e, evI_rng, evI_rng2, evS_asg, evS_app, evS_expr, evS_ret, evS_retN, evS_ite, evS_whl, evS_for, evS_brk, evS_cnt, evS_pass, evS_rse, evSs_nil, evSs_cons, asDs_nil, asDs_cons, sizeLine, turn_next, turn_cnt, turn_brk, turn_ret, turn_exn, test_t, test_f, bind_ok, bind_exn, bind_bad, so_ok, so_exn, so_bad, seq_next, seq_brk, seq_cnt, seq_ret, seq_exn, seq_bad, ofO_some, rofO_some, view_dat, view_lst, view_var, tree_dat, tree_lst, asD_dat, asD_lst, asD_var, get0, getS, set0, setS, getD0, getDS, add_ii, sub_ii, lt_ii, le_ii, gt_ii, ge_ii, eq_ii, ne_ii, len_l, len_t, int_i, int_b, abs_i, min_ii, max_ii, tru_b, neg_i, items_l, items_t, sub_l, sub_t, slc_l, slc_t, viewAll, ft_mk, fdiv_ii, mod_ii, mul_ii, and_self, true_and, and_true, or_true, true_or, Option.map_some, rf_next, rf_ret, rf_exn, decide_true, decide_false, reduceIte, List.length_cons, List.length_nil, Nat.zero_add, Nat.zero_le, Bool.not_true, Bool.not_false, Bool.false_eq_true, Nat.reducePow, Nat.reduceAdd, Nat.reduceLT, Nat.reduceLeDiff, Nat.reduceMul, Int.reduceLT, Int.reduceLE, Int.reduceNeg, Int.reducePow, Int.reduceAdd, Int.reduceSub, Int.reduceMul, Int.reduceToNat, Nat.reduceEqDiff, Int.reduceEq, h128, hb0, hi0, xokD]
            unfold tkR
            rw [hf, ed]
            unfold tk
            rw [if_pos hb2, if_pos ⟨hb00, by simp [hi00]⟩]
            rfl
          · have hi00 : i = 0 := by omega
            subst hi00
            simp only [K2_eq, kBin_eq, kRep_eq, kNeg_eq, kBool_eq, kCmp_eq, kCh3_eq, kCh2_eq, kCh1_eq, kAnd_eq, kOr_eq, kNot_eq, kIte_eq, kTup2_eq, kTup_eq, kLst2_eq, kLst_eq, kSub_eq, kS3_eq, kS2_eq, kS1_eq, kCall2_eq, kCall_eq, kBlt_eq, kLc_eq, kO_eq, kTv_eq, kTand_eq, kTor_eq, kTnot_eq, kEs2_eq, kEs1_eq, kIe2_eq, kIe_eq, kR1_eq, kR22_eq, kR21_eq, kA2_eq, kA1_eq, kAsg2_eq, kAsg_eq, kApp2_eq, kApp_eq, kEx_eq, kRet2_eq, kRet_eq, kSi_eq, kFor_eq, kRse2_eq, kRse_eq, evE_var, evE_con, evE_glb, evE_bin, evE_rep, evE_neg, evE_cmp, evE_chain, evE_and, evE_or, evE_not, evE_ite, evE_tup, evE_lst, evE_sub, evE_slc, evE_call, evE_blt, evE_lc, evO_no, evO_some, evTo_no, evTo_some, evT_val, evT_and, evT_or, evT_not, evEs_nil, evEs_cons, evI_e, evI_rng, evI_rng2, evS_asg, evS_app, evS_expr, evS_ret, evS_retN, evS_ite, evS_whl, evS_for, evS_brk, evS_cnt, evS_pass, evS_rse, evSs_nil, evSs_cons, asDs_nil, asDs_cons, sizeLine, turn_next, turn_cnt, turn_brk, turn_ret, turn_exn, test_t, test_f, bind_ok, bind_exn, bind_bad, so_ok, so_exn, so_bad, seq_next, seq_brk, seq_cnt, seq_ret, seq_exn, seq_bad, ofO_some, rofO_some, view_dat, view_lst, view_var, tree_dat, tree_lst, asD_dat, asD_lst, asD_var, get0, getS, set0, setS, getD0, getDS, add_ii, sub_ii, lt_ii, le_ii, gt_ii, ge_ii, eq_ii, ne_ii, len_l, len_t, int_i, int_b, abs_i, min_ii, max_ii, tru_b, neg_i, items_l, items_t, sub_l, sub_t, slc_l, slc_t, viewAll, ft_mk, fdiv_ii, mod_ii, mul_ii, and_self, true_and, and_true, or_true, true_or, Option.map_some, rf_next, rf_ret, rf_exn, decide_true, decide_false, reduceIte, List.length_cons, List.length_nil, Nat.zero_add, Nat.zero_le, Bool.not_true, Bool.not_false, Bool.false_eq_true, Nat.reducePow, Nat.reduceAdd, Nat.reduceLT, Nat.reduceLeDiff, Nat.reduceMul, Int.reduceLT, Int.reduceLE, Int.reduceNeg, Int.reducePow, Int.reduceAdd, Int.reduceSub, Int.reduceMul, Int.reduceToNat, Nat.reduceEqDiff, Int.reduceEq, h128, hb0, hi0]
            unfold tkR
            rw [hf, ed]
            unfold tk
            rw [if_pos hb2, if_neg (by simp)]
            simp [takeR, nD, hb00]
        · have hb00 : ¬ b = 0 := by omega
          simp only [K2_eq, kBin_eq, kRep_eq, kNeg_eq, kBool_eq, kCmp_eq, kCh3_eq, kCh2_eq, kCh1_eq, kAnd_eq, kOr_eq, kNot_eq, kIte_eq, kTup2_eq, kTup_eq, kLst2_eq, kLst_eq, kSub_eq, kS3_eq, kS2_eq, kS1_eq, kCall2_eq, kCall_eq, kBlt_eq, kLc_eq, kO_eq, kTv_eq, kTand_eq, kTor_eq, kTnot_eq, kEs2_eq, kEs1_eq, kIe2_eq, kIe_eq, kR1_eq, kR22_eq, kR21_eq, kA2_eq, kA1_eq, kAsg2_eq, kAsg_eq, kApp2_eq, kApp_eq, kEx_eq, kRet2_eq, kRet_eq, kSi_eq, kFor_eq, kRse2_eq, kRse_eq, evE_var, evE_con, evE_glb, evE_bin, evE_rep, evE_neg, evE_cmp, evE_chain, evE_and, evE_or, evE_not, evE_ite, evE_tup, evE_lst, evE_sub, evE_slc, evE_call, evE_blt, evE_lc, evO_no, evO_some, evTo_no, evTo_some, evT_val, evT_and, evT_or, evT_not, evEs_nil, evEs_cons, evI_e, evI_rng, evI_rng2, evS_asg, evS_app, evS_expr, evS_ret, evS_retN, evS_ite, evS_whl, evS_for, evS_brk, evS_cnt, evS_pass, evS_rse, evSs_nil, evSs_cons, asDs_nil, asDs_cons, sizeLine, turn_next, turn_cnt, turn_brk, turn_ret, turn_exn, test_t, test_f, bind_ok, bind_exn, bind_bad, so_ok, so_exn, so_bad, seq_next, seq_brk, seq_cnt, seq_ret, seq_exn, seq_bad, ofO_some, rofO_some, view_dat, view_lst, view_var, tree_dat, tree_lst, asD_dat, asD_lst, asD_var, get0, getS, set0, setS, getD0, getDS, add_ii, sub_ii, lt_ii, le_ii, gt_ii, ge_ii, eq_ii, ne_ii, len_l, len_t, int_i, int_b, abs_i, min_ii, max_ii, tru_b, neg_i, items_l, items_t, sub_l, sub_t, slc_l, slc_t, viewAll, ft_mk, fdiv_ii, mod_ii, mul_ii, and_self, true_and, and_true, or_true, true_or, Option.map_some, rf_next, rf_ret, rf_exn, decide_true, decide_false, reduceIte, List.length_cons, List.length_nil, Nat.zero_add, Nat.zero_le, Bool.not_true, Bool.not_false, Bool.false_eq_true, Nat.reducePow, Nat.reduceAdd, Nat.reduceLT, Nat.reduceLeDiff, Nat.reduceMul, Int.reduceLT, Int.reduceLE, Int.reduceNeg, Int.reducePow, Int.reduceAdd, Int.reduceSub, Int.reduceMul, Int.reduceToNat, Nat.reduceEqDiff, Int.reduceEq, h128, hb0]
          unfold tkR
          rw [hf, ed]
          unfold tk
          rw [if_pos hb2, if_neg (fun q => hb00 q.1)]
          simp only [takeR, nD, Option.map_some]
          rw [hmod, ← hw]
          congr 4
          · rw [Int.mul_comm]
            push_cast
            rfl
      · have hb2 : ¬ b < 128 := by omega
        simp only [K2_eq, kBin_eq, kRep_eq, kNeg_eq, kBool_eq, kCmp_eq, kCh3_eq, kCh2_eq, kCh1_eq, kAnd_eq, kOr_eq, kNot_eq, kIte_eq, kTup2_eq, kTup_eq, kLst2_eq, kLst_eq, kSub_eq, kS3_eq, kS2_eq, kS1_eq, kCall2_eq, kCall_eq, kBlt_eq, kLc_eq, kO_eq, kTv_eq, kTand_eq, kTor_eq, kTnot_eq, kEs2_eq, kEs1_eq, kIe2_eq, kIe_eq, kR1_eq, kR22_eq, kR21_eq, kA2_eq, kA1_eq, kAsg2_eq, kAsg_eq, kApp2_eq, kApp_eq, kEx_eq, kRet2_eq, kRet_eq, kSi_eq, kFor_eq, kRse2_eq, kRse_eq, evE_var, evE_con, evE_glb, evE_bin, evE_rep, evE_neg, evE_cmp, evE_chain, evE_and, evE_or, evE_not, evE_ite, evE_tup, evE_lst, evE_sub, evE_slc, evE_call, evE_blt, evE_lc, evO_no, evO_some, evTo_no, evTo_some, evT_val, evT_and, evT_or, evT_not, evEs_nil, evEs_cons, evI_e, evI_rng, evI_rng2, evS_asg, evS_app, evS_expr, evS_ret, evS_retN, evS_ite, evS_whl, evS_for, evS_brk, evS_cnt, evS_pass, evS_rse, evSs_nil, evSs_cons, asDs_nil, asDs_cons, sizeLine, turn_next, turn_cnt, turn_brk, turn_ret, turn_exn, test_t, test_f, bind_ok, bind_exn, bind_bad, so_ok, so_exn, so_bad, seq_next, seq_brk, seq_cnt, seq_ret, seq_exn, seq_bad, ofO_some, rofO_some, view_dat, view_lst, view_var, tree_dat, tree_lst, asD_dat, asD_lst, asD_var, get0, getS, set0, setS, getD0, getDS, add_ii, sub_ii, lt_ii, le_ii, gt_ii, ge_ii, eq_ii, ne_ii, len_l, len_t, int_i, int_b, abs_i, min_ii, max_ii, tru_b, neg_i, items_l, items_t, sub_l, sub_t, slc_l, slc_t, viewAll, ft_mk, fdiv_ii, mod_ii, mul_ii, and_self, true_and, and_true, or_true, true_or, Option.map_some, rf_next, rf_ret, rf_exn, decide_true, decide_false, reduceIte, List.length_cons, List.length_nil, Nat.zero_add, Nat.zero_le, Bool.not_true, Bool.not_false, Bool.false_eq_true, Nat.reducePow, Nat.reduceAdd, Nat.reduceLT, Nat.reduceLeDiff, Nat.reduceMul, Int.reduceLT, Int.reduceLE, Int.reduceNeg, Int.reducePow, Int.reduceAdd, Int.reduceSub, Int.reduceMul, Int.reduceToNat, Nat.reduceEqDiff, Int.reduceEq, h128]
        refine ⟨by omega, num + b % 128 * w, w * 128, some (.dat (.int (i : Int))), some (.dat (.int (b : Int))), ?_, by rw [hw, Nat.pow_succ], ?_⟩
        · push_cast
          rfl
        · unfold tkR
          rw [hf, hf2, ed]
          conv => lhs; unfold tk
          rw [if_neg hb2, show at_ + (i + 1) = at_ + i + 1 by omega]
          have : decide (i + 1 = 0) = false := by simp
          rw [this]
          cases tk f false (List.drop (at_ + i + 1) data) with
          | none => rfl
          | some p =>
            simp only [Option.map_some, takeR]
            congr 4
            · congr 1
              rw [hw, Nat.pow_succ, Nat.mul_add, Nat.mul_comm (b % 128), Nat.mul_assoc, Nat.add_assoc]
            · rw [show at_ + i + (p.snd + 1) = at_ + i + 1 + p.snd by omega]
  · rintro Γ ⟨_, num, w, o, p, rfl, hw, e⟩
    rw [hl5] at e
    rw [e]
    simp only [K2_eq, kBin_eq, kRep_eq, kNeg_eq, kBool_eq, kCmp_eq, kCh3_eq, kCh2_eq, kCh1_eq, kAnd_eq, kOr_eq, kNot_eq, kIte_eq, kTup2_eq, kTup_eq, kLst2_eq, kLst_eq, kSub_eq, kS3_eq, kS2_eq, kS1_eq, kCall2_eq, kCall_eq, kBlt_eq, kLc_eq, kO_eq, kTv_eq, kTand_eq, kTor_eq, kTnot_eq, kEs2_eq, kEs1_eq, kIe2_eq, kIe_eq, kR1_eq, kR22_eq, kR21_eq, kA2_eq, kA1_eq, kAsg2_eq, kAsg_eq, kApp2_eq, kApp_eq, kEx_eq, kRet2_eq, kRet_eq, kSi_eq, kFor_eq, kRse2_eq, kRse_eq, evE_var, evE_con, evE_glb, evE_bin, evE_rep, evE_neg, evE_cmp, evE_chain, evE_and, evE_or, evE_not, evE_ite, evE_tup, evE_lst, evE_sub, evE_slc, evE_call, evE_blt, evE_lc, evO_no, evO_some, evTo_no, evTo_some, evT_val, evT_and, evT_or, evT_not, evEs_nil, evEs_cons, evI_e, evI_rng, evI_rng2, evS_asg, evS_app, evS_expr, evS_ret, evS_retN, evS_ite, evS_whl, evS_for, evS_brk, evS_cnt, evS_pass, evS_rse, evSs_nil, evSs_cons, asDs_nil, asDs_cons, sizeLine, turn_next, turn_cnt, turn_brk, turn_ret, turn_exn, test_t, test_f, bind_ok, bind_exn, bind_bad, so_ok, so_exn, so_bad, seq_next, seq_brk, seq_cnt, seq_ret, seq_exn, seq_bad, ofO_some, rofO_some, view_dat, view_lst, view_var, tree_dat, tree_lst, asD_dat, asD_lst, asD_var, get0, getS, set0, setS, getD0, getDS, add_ii, sub_ii, lt_ii, le_ii, gt_ii, ge_ii, eq_ii, ne_ii, len_l, len_t, int_i, int_b, abs_i, min_ii, max_ii, tru_b, neg_i, items_l, items_t, sub_l, sub_t, slc_l, slc_t, viewAll, ft_mk, fdiv_ii, mod_ii, mul_ii, and_self, true_and, and_true, or_true, true_or, Option.map_some, rf_next, rf_ret, rf_exn, decide_true, decide_false, reduceIte, List.length_cons, List.length_nil, Nat.zero_add, Nat.zero_le, Bool.not_true, Bool.not_false, Bool.false_eq_true, Nat.reducePow, Nat.reduceAdd, Nat.reduceLT, Nat.reduceLeDiff, Nat.reduceMul, Int.reduceLT, Int.reduceLE, Int.reduceNeg, Int.reducePow, Int.reduceAdd, Int.reduceSub, Int.reduceMul, Int.reduceToNat, Nat.reduceEqDiff, Int.reduceEq, xokD]
    unfold tkR
    rfl
end
end M1
end

section
set_option linter.all false
set_option maxRecDepth 100000
set_option maxHeartbeats 2000000
namespace M1
open PySem Tv PF
variable {sub : Str → Str → Option Bool} {pr : Tb}
/-! ### signs, words -/
theorem fold_sign_ok (h : Has pr "fold_sign" f_fold_sign) (n : Nat) (x : Int) : tab sub pr (n + 1) "fold_sign" [.int x] = .ok (.dat (.int (if x < 0 then -2 * x - 1 else 2 * x))) := by
  rw [tab_def h rfl]
  unfold c_fold_sign
  show rf (evSs _ _ [some (.dat (.int x))]) = _
  by_cases hx : x < 0
  · simp only [K2_eq, kBin_eq, kRep_eq, kNeg_eq, kBool_eq, kCmp_eq, kCh3_eq, kCh2_eq, kCh1_eq, kAnd_eq, kOr_eq, kNot_eq, kIte_eq, kTup2_eq, kTup_eq, kLst2_eq, kLst_eq, kSub_eq, kS3_eq, kS2_eq, kS1_eq, kCall2_eq, kCall_eq, kBlt_eq, kLc_eq, kO_eq, kTv_eq, kTand_eq, kTor_eq, kTnot_eq, kEs2_eq, kEs1_eq, kIe2_eq, kIe_eq, kR1_eq, kR22_eq, kR21_eq, kA2_eq, kA1_eq, kAsg2_eq, kAsg_eq, kApp2_eq, kApp_eq, kEx_eq, kRet2_eq, kRet_eq, kSi_eq, kFor_eq, kRse2_eq, kRse_eq, evE_var, evE_con, evE_glb, evE_bin, evE_rep, evE_neg, evE_cmp, evE_chain, evE_and, evE_or, evE_not, evE_ite, evE_tup, evE_lst, evE_sub, evE_slc, evE_call, evE_blt, evE_lc, evO_no, evO_some, evTo_no, evTo_some, evT_val, evT_and, evT_or, evT_not, evEs_nil, evEs_cons, evI_e, evI_rng, evI_rng2, evS_asg, evS_app, evS_expr, evS_ret, evS_retN, evS_ite, evS_whl, evS_for, evS_brk, evS_cnt, evS_pass, evS_rse, evSs_nil, evSs_cons, asDs_nil, asDs_cons, sizeLine, turn_next, turn_cnt, turn_brk, turn_ret, turn_exn, test_t, test_f, bind_ok, bind_exn, bind_bad, so_ok, so_exn, so_bad, seq_next, seq_brk, seq_cnt, seq_ret, seq_exn, seq_bad, ofO_some, rofO_some, view_dat, view_lst, view_var, tree_dat, tree_lst, asD_dat, asD_lst, asD_var, get0, getS, set0, setS, getD0, getDS, add_ii, sub_ii, lt_ii, le_ii, gt_ii, ge_ii, eq_ii, ne_ii, len_l, len_t, int_i, int_b, abs_i, min_ii, max_ii, tru_b, neg_i, items_l, items_t, slc_l, slc_t, viewAll, ft_mk, fdiv_ii, mod_ii, mul_ii, and_self, true_and, and_true, or_true, true_or, Option.map_some, rf_next, rf_ret, rf_exn, Int.toNat_natCast, if_true, ite_true, decide_true, decide_false, reduceIte, List.length_cons, List.length_nil, Nat.zero_add, Nat.zero_le, List.map_cons, List.map_nil, Bool.not_true, Bool.not_false, Bool.false_eq_true, Nat.reducePow, Nat.reduceAdd, Nat.reduceLT, Nat.reduceLeDiff, Nat.reduceMul, Int.reduceLT, Int.reduceLE, Int.reduceNeg, Int.reducePow, Int.reduceAdd, Int.reduceSub, Int.reduceMul, Int.reduceToNat, Nat.reduceEqDiff, Int.reduceEq, hx]
  · simp only [K2_eq, kBin_eq, kRep_eq, kNeg_eq, kBool_eq, kCmp_eq, kCh3_eq, kCh2_eq, kCh1_eq, kAnd_eq, kOr_eq, kNot_eq, kIte_eq, kTup2_eq, kTup_eq, kLst2_eq, kLst_eq, kSub_eq, kS3_eq, kS2_eq, kS1_eq, kCall2_eq, kCall_eq, kBlt_eq, kLc_eq, kO_eq, kTv_eq, kTand_eq, kTor_eq, kTnot_eq, kEs2_eq, kEs1_eq, kIe2_eq, kIe_eq, kR1_eq, kR22_eq, kR21_eq, kA2_eq, kA1_eq, kAsg2_eq, kAsg_eq, kApp2_eq, kApp_eq, kEx_eq, kRet2_eq, kRet_eq, kSi_eq, kFor_eq, kRse2_eq, kRse_eq, evE_var, evE_con, evE_glb, evE_bin, evE_rep, evE_neg, evE_cmp, evE_chain, evE_and, evE_or, evE_not, evE_ite, evE_tup, evE_lst, evE_sub, evE_slc, evE_call, evE_blt, evE_lc, evO_no, evO_some, evTo_no, evTo_some, evT_val, evT_and, evT_or, evT_not, evEs_nil, evEs_cons, evI_e, evI_rng, evI_rng2, evS_asg, evS_app, evS_expr, evS_ret, evS_retN, evS_ite, evS_whl, evS_for, evS_brk, evS_cnt, evS_pass, evS_rse, evSs_nil, evSs_cons, asDs_nil, asDs_cons, sizeLine, turn_next, turn_cnt, turn_brk, turn_ret, turn_exn, test_t, test_f, bind_ok, bind_exn, bind_bad, so_ok, so_exn, so_bad, seq_next, seq_brk, seq_cnt, seq_ret, seq_exn, seq_bad, ofO_some, rofO_some, view_dat, view_lst, view_var, tree_dat, tree_lst, asD_dat, asD_lst, asD_var, get0, getS, set0, setS, getD0, getDS, add_ii, sub_ii, lt_ii, le_ii, gt_ii, ge_ii, eq_ii, ne_ii, len_l, len_t, int_i, int_b, abs_i, min_ii, max_ii, tru_b, neg_i, items_l, items_t, slc_l, slc_t, viewAll, ft_mk, fdiv_ii, mod_ii, mul_ii, and_self, true_and, and_true, or_true, true_or, Option.map_some, rf_next, rf_ret, rf_exn, Int.toNat_natCast, if_true, ite_true, decide_true, decide_false, reduceIte, List.length_cons, List.length_nil, Nat.zero_add, Nat.zero_le, List.map_cons, List.map_nil, Bool.not_true, Bool.not_false, Bool.false_eq_true, Nat.reducePow, Nat.reduceAdd, Nat.reduceLT, Nat.reduceLeDiff, Nat.reduceMul, Int.reduceLT, Int.reduceLE, Int.reduceNeg, Int.reducePow, Int.reduceAdd, Int.reduceSub, Int.reduceMul, Int.reduceToNat, Nat.reduceEqDiff, Int.reduceEq, hx]
theorem unfold_sign_ok (h : Has pr "unfold_sign" f_unfold_sign) (n : Nat) (x : Int) : tab sub pr (n + 1) "unfold_sign" [.int x] = .ok (.dat (.int (if x % 2 = 1 then -(x + 1) / 2 else x / 2))) := by
  rw [tab_def h rfl]
  unfold c_unfold_sign
  show rf (evSs _ _ [some (.dat (.int x))]) = _
  by_cases hx : x % 2 = 1
  · simp only [K2_eq, kBin_eq, kRep_eq, kNeg_eq, kBool_eq, kCmp_eq, kCh3_eq, kCh2_eq, kCh1_eq, kAnd_eq, kOr_eq, kNot_eq, kIte_eq, kTup2_eq, kTup_eq, kLst2_eq, kLst_eq, kSub_eq, kS3_eq, kS2_eq, kS1_eq, kCall2_eq, kCall_eq, kBlt_eq, kLc_eq, kO_eq, kTv_eq, kTand_eq, kTor_eq, kTnot_eq, kEs2_eq, kEs1_eq, kIe2_eq, kIe_eq, kR1_eq, kR22_eq, kR21_eq, kA2_eq, kA1_eq, kAsg2_eq, kAsg_eq, kApp2_eq, kApp_eq, kEx_eq, kRet2_eq, kRet_eq, kSi_eq, kFor_eq, kRse2_eq, kRse_eq, evE_var, evE_con, evE_glb, evE_bin, evE_rep, evE_neg, evE_cmp, evE_chain, evE_and, evE_or, evE_not, evE_ite, evE_tup, evE_lst, evE_sub, evE_slc, evE_call, evE_blt, evE_lc, evO_no, evO_some, evTo_no, evTo_some, evT_val, evT_and, evT_or, evT_not, evEs_nil, evEs_cons, evI_e, evI_rng, evI_rng2, evS_asg, evS_app, evS_expr, evS_ret, evS_retN, evS_ite, evS_whl, evS_for, evS_brk, evS_cnt, evS_pass, evS_rse, evSs_nil, evSs_cons, asDs_nil, asDs_cons, sizeLine, turn_next, turn_cnt, turn_brk, turn_ret, turn_exn, test_t, test_f, bind_ok, bind_exn, bind_bad, so_ok, so_exn, so_bad, seq_next, seq_brk, seq_cnt, seq_ret, seq_exn, seq_bad, ofO_some, rofO_some, view_dat, view_lst, view_var, tree_dat, tree_lst, asD_dat, asD_lst, asD_var, get0, getS, set0, setS, getD0, getDS, add_ii, sub_ii, lt_ii, le_ii, gt_ii, ge_ii, eq_ii, ne_ii, len_l, len_t, int_i, int_b, abs_i, min_ii, max_ii, tru_b, neg_i, items_l, items_t, slc_l, slc_t, viewAll, ft_mk, fdiv_ii, mod_ii, mul_ii, and_self, true_and, and_true, or_true, true_or, Option.map_some, rf_next, rf_ret, rf_exn, Int.toNat_natCast, if_true, ite_true, decide_true, decide_false, reduceIte, List.length_cons, List.length_nil, Nat.zero_add, Nat.zero_le, List.map_cons, List.map_nil, Bool.not_true, Bool.not_false, Bool.false_eq_true, Nat.reducePow, Nat.reduceAdd, Nat.reduceLT, Nat.reduceLeDiff, Nat.reduceMul, Int.reduceLT, Int.reduceLE, Int.reduceNeg, Int.reducePow, Int.reduceAdd, Int.reduceSub, Int.reduceMul, Int.reduceToNat, Nat.reduceEqDiff, Int.reduceEq, hx]
  · simp only [K2_eq, kBin_eq, kRep_eq, kNeg_eq, kBool_eq, kCmp_eq, kCh3_eq, kCh2_eq, kCh1_eq, kAnd_eq, kOr_eq, kNot_eq, kIte_eq, kTup2_eq, kTup_eq, kLst2_eq, kLst_eq, kSub_eq, kS3_eq, kS2_eq, kS1_eq, kCall2_eq, kCall_eq, kBlt_eq, kLc_eq, kO_eq, kTv_eq, kTand_eq, kTor_eq, kTnot_eq, kEs2_eq, kEs1_eq, kIe2_eq, kIe_eq, kR1_eq, kR22_eq, kR21_eq, kA2_eq, kA1_eq, kAsg2_eq, kAsg_eq, kApp2_eq, kApp_eq, kEx_eq, kRet2_eq, kRet_eq, kSi_eq, kFor_eq, kRse2_eq, kRse_eq, evE_var, evE_con, evE_glb, evE_bin, evE_rep, evE_neg, evE_cmp, evE_chain, evE_and, evE_or, evE_not, evE_ite, evE_tup, evE_lst, evE_sub, evE_slc, evE_call, evE_blt, evE_lc, evO_no, evO_some, evTo_no, evTo_some, evT_val, evT_and, evT_or, evT_not, evEs_nil, evEs_cons, evI_e, evI_rng, evI_rng2, evS_asg, evS_app, evS_expr, evS_ret, evS_retN, evS_ite, evS_whl, evS_for, evS_brk, evS_cnt, evS_pass, evS_rse, evSs_nil, evSs_cons, asDs_nil, asDs_cons, sizeLine, turn_next, turn_cnt, turn_brk, turn_ret, turn_exn, test_t, test_f, bind_ok, bind_exn, bind_bad, so_ok, so_exn, so_bad, seq_next, seq_brk, seq_cnt, seq_ret, seq_exn, seq_bad, ofO_some, rofO_some, view_dat, view_lst, view_var, tree_dat, tree_lst, asD_dat, asD_lst, asD_var, get0, getS, set0, setS, getD0, getDS, add_ii, sub_ii, lt_ii, le_ii, gt_ii, ge_ii, eq_ii, ne_ii, len_l, len_t, int_i, int_b, abs_i, min_ii, max_ii, tru_b, neg_i, items_l, items_t, slc_l, slc_t, viewAll, ft_mk, fdiv_ii, mod_ii, mul_ii, and_self, true_and, and_true, or_true, true_or, Option.map_some, rf_next, rf_ret, rf_exn, Int.toNat_natCast, if_true, ite_true, decide_true, decide_false, reduceIte, List.length_cons, List.length_nil, Nat.zero_add, Nat.zero_le, List.map_cons, List.map_nil, Bool.not_true, Bool.not_false, Bool.false_eq_true, Nat.reducePow, Nat.reduceAdd, Nat.reduceLT, Nat.reduceLeDiff, Nat.reduceMul, Int.reduceLT, Int.reduceLE, Int.reduceNeg, Int.reducePow, Int.reduceAdd, Int.reduceSub, Int.reduceMul, Int.reduceToNat, Nat.reduceEqDiff, Int.reduceEq, hx]
/-- the bytes of a word -/
def wordN (x : Int) : List D := [.int (x % 4294967296 % 256), .int (x % 4294967296 / 256 % 256), .int (x % 4294967296 / 65536 % 256), .int (x % 4294967296 / 16777216)]
theorem put_word_ok (h : Has pr "put_word" f_put_word) (n : Nat) (x : Int) : tab sub pr (n + 1) "put_word" [.int x] = .ok (.lst (wordN x)) := by
  rw [tab_def h rfl]
  unfold c_put_word
  show rf (evSs _ _ [some (.dat (.int x))]) = _
  simp only [K2_eq, kBin_eq, kRep_eq, kNeg_eq, kBool_eq, kCmp_eq, kCh3_eq, kCh2_eq, kCh1_eq, kAnd_eq, kOr_eq, kNot_eq, kIte_eq, kTup2_eq, kTup_eq, kLst2_eq, kLst_eq, kSub_eq, kS3_eq, kS2_eq, kS1_eq, kCall2_eq, kCall_eq, kBlt_eq, kLc_eq, kO_eq, kTv_eq, kTand_eq, kTor_eq, kTnot_eq, kEs2_eq, kEs1_eq, kIe2_eq, kIe_eq, kR1_eq, kR22_eq, kR21_eq, kA2_eq, kA1_eq, kAsg2_eq, kAsg_eq, kApp2_eq, kApp_eq, kEx_eq, kRet2_eq, kRet_eq, kSi_eq, kFor_eq, kRse2_eq, kRse_eq, evE_var, evE_con, evE_glb, evE_bin, evE_rep, evE_neg, evE_cmp, evE_chain, evE_and, evE_or, evE_not, evE_ite, evE_tup, evE_lst, evE_sub, evE_slc, evE_call, evE_blt, evE_lc, evO_no, evO_some, evTo_no, evTo_some, evT_val, evT_and, evT_or, evT_not, evEs_nil, evEs_cons, evI_e, evI_rng, evI_rng2, evS_asg, evS_app, evS_expr, evS_ret, evS_retN, evS_ite, evS_whl, evS_for, evS_brk, evS_cnt, evS_pass, evS_rse, evSs_nil, evSs_cons, asDs_nil, asDs_cons, sizeLine, turn_next, turn_cnt, turn_brk, turn_ret, turn_exn, test_t, test_f, bind_ok, bind_exn, bind_bad, so_ok, so_exn, so_bad, seq_next, seq_brk, seq_cnt, seq_ret, seq_exn, seq_bad, ofO_some, rofO_some, view_dat, view_lst, view_var, tree_dat, tree_lst, asD_dat, asD_lst, asD_var, get0, getS, set0, setS, getD0, getDS, add_ii, sub_ii, lt_ii, le_ii, gt_ii, ge_ii, eq_ii, ne_ii, len_l, len_t, int_i, int_b, abs_i, min_ii, max_ii, tru_b, neg_i, items_l, items_t, slc_l, slc_t, viewAll, ft_mk, fdiv_ii, mod_ii, mul_ii, and_self, true_and, and_true, or_true, true_or, Option.map_some, rf_next, rf_ret, rf_exn, Int.toNat_natCast, if_true, ite_true, decide_true, decide_false, reduceIte, List.length_cons, List.length_nil, Nat.zero_add, Nat.zero_le, List.map_cons, List.map_nil, Bool.not_true, Bool.not_false, Bool.false_eq_true, Nat.reducePow, Nat.reduceAdd, Nat.reduceLT, Nat.reduceLeDiff, Nat.reduceMul, Int.reduceLT, Int.reduceLE, Int.reduceNeg, Int.reducePow, Int.reduceAdd, Int.reduceSub, Int.reduceMul, Int.reduceToNat, Nat.reduceEqDiff, Int.reduceEq]
  rfl
theorem take_word_ok (h : Has pr "take_word" f_take_word) (n : Nat) (data : List Nat) (at_ a b c d : Nat) (ha : data[at_]? = some a) (hb : data[at_ + 1]? = some b) (hc : data[at_ + 2]? = some c) (hd : data[at_ + 3]? = some d) :
    tab sub pr (n + 1) "take_word" [.list (iD data), nD at_] = .ok (.dat (.tuple [nD (a + 256 * b + 65536 * c + 16777216 * d), nD (at_ + 4)])) := by
  rw [tab_def h rfl]
  unfold c_take_word
  show rf (evSs _ _ [some (.dat (.list (iD data))), some (.dat (nD at_)), none]) = _
  unfold nD
  have hl : at_ + 3 < data.length := (List.getElem?_eq_some_iff.mp hd).1
  have el : ((iD data).length : Int) = (data.length : Int) := by rw [iD_len]
  have h1 : ¬ ((data.length : Int) < (at_ : Int) + 4) := by omega
  have s1 : subD (.list (iD data)) (.int ((at_ : Int) + 1)) = some (.dat (.int (b : Int))) := by
    rw [show (at_ : Int) + 1 = ((at_ + 1 : Nat) : Int) by omega]
    exact sub_nat hb
  have s2 : subD (.list (iD data)) (.int ((at_ : Int) + 2)) = some (.dat (.int (c : Int))) := by
    rw [show (at_ : Int) + 2 = ((at_ + 2 : Nat) : Int) by omega]
    exact sub_nat hc
  have s3 : subD (.list (iD data)) (.int ((at_ : Int) + 3)) = some (.dat (.int (d : Int))) := by
    rw [show (at_ : Int) + 3 = ((at_ + 3 : Nat) : Int) by omega]
    exact sub_nat hd
  simp only [K2_eq, kBin_eq, kRep_eq, kNeg_eq, kBool_eq, kCmp_eq, kCh3_eq, kCh2_eq, kCh1_eq, kAnd_eq, kOr_eq, kNot_eq, kIte_eq, kTup2_eq, kTup_eq, kLst2_eq, kLst_eq, kSub_eq, kS3_eq, kS2_eq, kS1_eq, kCall2_eq, kCall_eq, kBlt_eq, kLc_eq, kO_eq, kTv_eq, kTand_eq, kTor_eq, kTnot_eq, kEs2_eq, kEs1_eq, kIe2_eq, kIe_eq, kR1_eq, kR22_eq, kR21_eq, kA2_eq, kA1_eq, kAsg2_eq, kAsg_eq, kApp2_eq, kApp_eq, kEx_eq, kRet2_eq, kRet_eq, kSi_eq, kFor_eq, kRse2_eq, kRse_eq, evE_var, evE_con, evE_glb, evE_bin, evE_rep, evE_neg, evE_cmp, evE_chain, evE_and, evE_or, evE_not, evE_ite, evE_tup, evE_lst, evE_sub, evE_slc, evE_call, evE_blt, evE_lc, evO_no, evO_some, evTo_no, evTo_some, evT_val, evT_and, evT_or, evT_not, evEs_nil, evEs_cons, evI_e, evI_rng, evI_rng2, evS_asg, evS_app, evS_expr, evS_ret, evS_retN, evS_ite, evS_whl, evS_for, evS_brk, evS_cnt, evS_pass, evS_rse, evSs_nil, evSs_cons, asDs_nil, asDs_cons, sizeLine, turn_next, turn_cnt, turn_brk, turn_ret, turn_exn, test_t, test_f, bind_ok, bind_exn, bind_bad, so_ok, so_exn, so_bad, seq_next, seq_brk, seq_cnt, seq_ret, seq_exn, seq_bad, ofO_some, rofO_some, view_dat, view_lst, view_var, tree_dat, tree_lst, asD_dat, asD_lst, asD_var, get0, getS, set0, setS, getD0, getDS, add_ii, sub_ii, lt_ii, le_ii, gt_ii, ge_ii, eq_ii, ne_ii, len_l, len_t, int_i, int_b, abs_i, min_ii, max_ii, tru_b, neg_i, items_l, items_t, slc_l, slc_t, viewAll, ft_mk, fdiv_ii, mod_ii, mul_ii, and_self, true_and, and_true, or_true, true_or, Option.map_some, rf_next, rf_ret, rf_exn, Int.toNat_natCast, if_true, ite_true, decide_true, decide_false, reduceIte, List.length_cons, List.length_nil, Nat.zero_add, Nat.zero_le, List.map_cons, List.map_nil, Bool.not_true, Bool.not_false, Bool.false_eq_true, Nat.reducePow, Nat.reduceAdd, Nat.reduceLT, Nat.reduceLeDiff, Nat.reduceMul, Int.reduceLT, Int.reduceLE, Int.reduceNeg, Int.reducePow, Int.reduceAdd, Int.reduceSub, Int.reduceMul, Int.reduceToNat, Nat.reduceEqDiff, Int.reduceEq, el, h1, sub_nat ha, s1, s2, s3]
  simp only [Int.natCast_add, Int.natCast_mul]
  rfl
theorem take_word_bad (h : Has pr "take_word" f_take_word) (n : Nat) (data : List Nat) (at_ : Nat) (hl : data.length < at_ + 4) : tab sub pr (n + 1) "take_word" [.list (iD data), nD at_] = badF "word" := by
  rw [tab_def h rfl]
  unfold c_take_word
  show rf (evSs _ _ [some (.dat (.list (iD data))), some (.dat (nD at_)), none]) = _
  unfold nD
  have el : ((iD data).length : Int) = (data.length : Int) := by rw [iD_len]
  have h1 : ((data.length : Int) < (at_ : Int) + 4) := by omega
  simp only [K2_eq, kBin_eq, kRep_eq, kNeg_eq, kBool_eq, kCmp_eq, kCh3_eq, kCh2_eq, kCh1_eq, kAnd_eq, kOr_eq, kNot_eq, kIte_eq, kTup2_eq, kTup_eq, kLst2_eq, kLst_eq, kSub_eq, kS3_eq, kS2_eq, kS1_eq, kCall2_eq, kCall_eq, kBlt_eq, kLc_eq, kO_eq, kTv_eq, kTand_eq, kTor_eq, kTnot_eq, kEs2_eq, kEs1_eq, kIe2_eq, kIe_eq, kR1_eq, kR22_eq, kR21_eq, kA2_eq, kA1_eq, kAsg2_eq, kAsg_eq, kApp2_eq, kApp_eq, kEx_eq, kRet2_eq, kRet_eq, kSi_eq, kFor_eq, kRse2_eq, kRse_eq, evE_var, evE_con, evE_glb, evE_bin, evE_rep, evE_neg, evE_cmp, evE_chain, evE_and, evE_or, evE_not, evE_ite, evE_tup, evE_lst, evE_sub, evE_slc, evE_call, evE_blt, evE_lc, evO_no, evO_some, evTo_no, evTo_some, evT_val, evT_and, evT_or, evT_not, evEs_nil, evEs_cons, evI_e, evI_rng, evI_rng2, evS_asg, evS_app, evS_expr, evS_ret, evS_retN, evS_ite, evS_whl, evS_for, evS_brk, evS_cnt, evS_pass, evS_rse, evSs_nil, evSs_cons, asDs_nil, asDs_cons, sizeLine, turn_next, turn_cnt, turn_brk, turn_ret, turn_exn, test_t, test_f, bind_ok, bind_exn, bind_bad, so_ok, so_exn, so_bad, seq_next, seq_brk, seq_cnt, seq_ret, seq_exn, seq_bad, ofO_some, rofO_some, view_dat, view_lst, view_var, tree_dat, tree_lst, asD_dat, asD_lst, asD_var, get0, getS, set0, setS, getD0, getDS, add_ii, sub_ii, lt_ii, le_ii, gt_ii, ge_ii, eq_ii, ne_ii, len_l, len_t, int_i, int_b, abs_i, min_ii, max_ii, tru_b, neg_i, items_l, items_t, slc_l, slc_t, viewAll, ft_mk, fdiv_ii, mod_ii, mul_ii, and_self, true_and, and_true, or_true, true_or, Option.map_some, rf_next, rf_ret, rf_exn, Int.toNat_natCast, if_true, ite_true, decide_true, decide_false, reduceIte, List.length_cons, List.length_nil, Nat.zero_add, Nat.zero_le, List.map_cons, List.map_nil, Bool.not_true, Bool.not_false, Bool.false_eq_true, Nat.reducePow, Nat.reduceAdd, Nat.reduceLT, Nat.reduceLeDiff, Nat.reduceMul, Int.reduceLT, Int.reduceLE, Int.reduceNeg, Int.reducePow, Int.reduceAdd, Int.reduceSub, Int.reduceMul, Int.reduceToNat, Nat.reduceEqDiff, Int.reduceEq, el, h1, xokD]
  rfl
/-! ### widths -/
def widN (n : Nat) : Nat := if n = 0 then 0 else 1 + widN (n / 2)
termination_by n
theorem widN_pos {n : Nat} (h : n ≠ 0) : widN n = 1 + widN (n / 2) := by rw [widN, if_neg h]
theorem widN_zero : widN 0 = 0 := by rw [widN, if_pos rfl]
theorem width_of_ok (h : Has pr "width_of" f_width_of) (n : Nat) (x : Nat) : tab sub pr (n + 1) "width_of" [nD x] = .ok (.dat (nD (widN x))) := by
  rw [tab_def h rfl]
  unfold c_width_of
  show rf (evSs _ _ [some (.dat (nD x)), none]) = _
  unfold nD
  simp only [K2_eq, kBin_eq, kRep_eq, kNeg_eq, kBool_eq, kCmp_eq, kCh3_eq, kCh2_eq, kCh1_eq, kAnd_eq, kOr_eq, kNot_eq, kIte_eq, kTup2_eq, kTup_eq, kLst2_eq, kLst_eq, kSub_eq, kS3_eq, kS2_eq, kS1_eq, kCall2_eq, kCall_eq, kBlt_eq, kLc_eq, kO_eq, kTv_eq, kTand_eq, kTor_eq, kTnot_eq, kEs2_eq, kEs1_eq, kIe2_eq, kIe_eq, kR1_eq, kR22_eq, kR21_eq, kA2_eq, kA1_eq, kAsg2_eq, kAsg_eq, kApp2_eq, kApp_eq, kEx_eq, kRet2_eq, kRet_eq, kSi_eq, kFor_eq, kRse2_eq, kRse_eq, evE_var, evE_con, evE_glb, evE_bin, evE_rep, evE_neg, evE_cmp, evE_chain, evE_and, evE_or, evE_not, evE_ite, evE_tup, evE_lst, evE_sub, evE_slc, evE_call, evE_blt, evE_lc, evO_no, evO_some, evTo_no, evTo_some, evT_val, evT_and, evT_or, evT_not, evEs_nil, evEs_cons, evI_e, evI_rng, evI_rng2, evS_asg, evS_app, evS_expr, evS_ret, evS_retN, evS_ite, evS_whl, evS_for, evS_brk, evS_cnt, evS_pass, evS_rse, evSs_nil, evSs_cons, asDs_nil, asDs_cons, sizeLine, turn_next, turn_cnt, turn_brk, turn_ret, turn_exn, test_t, test_f, bind_ok, bind_exn, bind_bad, so_ok, so_exn, so_bad, seq_next, seq_brk, seq_cnt, seq_ret, seq_exn, seq_bad, ofO_some, rofO_some, view_dat, view_lst, view_var, tree_dat, tree_lst, asD_dat, asD_lst, asD_var, get0, getS, set0, setS, getD0, getDS, add_ii, sub_ii, lt_ii, le_ii, gt_ii, ge_ii, eq_ii, ne_ii, len_l, len_t, int_i, int_b, abs_i, min_ii, max_ii, tru_b, neg_i, items_l, items_t, slc_l, slc_t, viewAll, ft_mk, fdiv_ii, mod_ii, mul_ii, and_self, true_and, and_true, or_true, true_or, Option.map_some, rf_next, rf_ret, rf_exn, Int.toNat_natCast, if_true, ite_true, decide_true, decide_false, reduceIte, List.length_cons, List.length_nil, Nat.zero_add, Nat.zero_le, List.map_cons, List.map_nil, Bool.not_true, Bool.not_false, Bool.false_eq_true, Nat.reducePow, Nat.reduceAdd, Nat.reduceLT, Nat.reduceLeDiff, Nat.reduceMul, Int.reduceLT, Int.reduceLE, Int.reduceNeg, Int.reducePow, Int.reduceAdd, Int.reduceSub, Int.reduceMul, Int.reduceToNat, Nat.reduceEqDiff, Int.reduceEq]
  refine whl_gen (Q := fun r => rf (So.seq r _) = _) (P := fun m Γ => ∃ w : Nat, Γ = [some (.dat (.int (m : Int))), some (.dat (.int (w : Int)))] ∧ widN x = w + widN m) ?_ x _ ⟨0, rfl, by omega⟩
  rintro y Γ ⟨w, rfl, e⟩
  by_cases hy : (0 : Int) < (y : Int)
  · simp only [K2_eq, kBin_eq, kRep_eq, kNeg_eq, kBool_eq, kCmp_eq, kCh3_eq, kCh2_eq, kCh1_eq, kAnd_eq, kOr_eq, kNot_eq, kIte_eq, kTup2_eq, kTup_eq, kLst2_eq, kLst_eq, kSub_eq, kS3_eq, kS2_eq, kS1_eq, kCall2_eq, kCall_eq, kBlt_eq, kLc_eq, kO_eq, kTv_eq, kTand_eq, kTor_eq, kTnot_eq, kEs2_eq, kEs1_eq, kIe2_eq, kIe_eq, kR1_eq, kR22_eq, kR21_eq, kA2_eq, kA1_eq, kAsg2_eq, kAsg_eq, kApp2_eq, kApp_eq, kEx_eq, kRet2_eq, kRet_eq, kSi_eq, kFor_eq, kRse2_eq, kRse_eq, evE_var, evE_con, evE_glb, evE_bin, evE_rep, evE_neg, evE_cmp, evE_chain, evE_and, evE_or, evE_not, evE_ite, evE_tup, evE_lst, evE_sub, evE_slc, evE_call, evE_blt, evE_lc, evO_no, evO_some, evTo_no, evTo_some, evT_val, evT_and, evT_or, evT_not, evEs_nil, evEs_cons, evI_e, evI_rng, evI_rng2, evS_asg, evS_app, evS_expr, evS_ret, evS_retN, evS_ite, evS_whl, evS_for, evS_brk, evS_cnt, evS_pass, evS_rse, evSs_nil, evSs_cons, asDs_nil, asDs_cons, sizeLine, turn_next, turn_cnt, turn_brk, turn_ret, turn_exn, test_t, test_f, bind_ok, bind_exn, bind_bad, so_ok, so_exn, so_bad, seq_next, seq_brk, seq_cnt, seq_ret, seq_exn, seq_bad, ofO_some, rofO_some, view_dat, view_lst, view_var, tree_dat, tree_lst, asD_dat, asD_lst, asD_var, get0, getS, set0, setS, getD0, getDS, add_ii, sub_ii, lt_ii, le_ii, gt_ii, ge_ii, eq_ii, ne_ii, len_l, len_t, int_i, int_b, abs_i, min_ii, max_ii, tru_b, neg_i, items_l, items_t, slc_l, slc_t, viewAll, ft_mk, fdiv_ii, mod_ii, mul_ii, and_self, true_and, and_true, or_true, true_or, Option.map_some, rf_next, rf_ret, rf_exn, Int.toNat_natCast, if_true, ite_true, decide_true, decide_false, reduceIte, List.length_cons, List.length_nil, Nat.zero_add, Nat.zero_le, List.map_cons, List.map_nil, Bool.not_true, Bool.not_false, Bool.false_eq_true, Nat.reducePow, Nat.reduceAdd, Nat.reduceLT, Nat.reduceLeDiff, Nat.reduceMul, Int.reduceLT, Int.reduceLE, Int.reduceNeg, Int.reducePow, Int.reduceAdd, Int.reduceSub, Int.reduceMul, Int.reduceToNat, Nat.reduceEqDiff, Int.reduceEq, hy]
    refine ⟨y / 2, by omega, w + 1, ?_, ?_⟩
    · simp
    · rw [e, widN_pos (by omega)]
      omega
  · have hy2 : y = 0 := by omega
    subst hy2
    simp only [K2_eq, kBin_eq, kRep_eq, kNeg_eq, kBool_eq, kCmp_eq, kCh3_eq, kCh2_eq, kCh1_eq, kAnd_eq, kOr_eq, kNot_eq, kIte_eq, kTup2_eq, kTup_eq, kLst2_eq, kLst_eq, kSub_eq, kS3_eq, kS2_eq, kS1_eq, kCall2_eq, kCall_eq, kBlt_eq, kLc_eq, kO_eq, kTv_eq, kTand_eq, kTor_eq, kTnot_eq, kEs2_eq, kEs1_eq, kIe2_eq, kIe_eq, kR1_eq, kR22_eq, kR21_eq, kA2_eq, kA1_eq, kAsg2_eq, kAsg_eq, kApp2_eq, kApp_eq, kEx_eq, kRet2_eq, kRet_eq, kSi_eq, kFor_eq, kRse2_eq, kRse_eq, evE_var, evE_con, evE_glb, evE_bin, evE_rep, evE_neg, evE_cmp, evE_chain, evE_and, evE_or, evE_not, evE_ite, evE_tup, evE_lst, evE_sub, evE_slc, evE_call, evE_blt, evE_lc, evO_no, evO_some, evTo_no, evTo_some, evT_val, evT_and, evT_or, evT_not, evEs_nil, evEs_cons, evI_e, evI_rng, evI_rng2, evS_asg, evS_app, evS_expr, evS_ret, evS_retN, evS_ite, evS_whl, evS_for, evS_brk, evS_cnt, evS_pass, evS_rse, evSs_nil, evSs_cons, asDs_nil, asDs_cons, sizeLine, turn_next, turn_cnt, turn_brk, turn_ret, turn_exn, test_t, test_f, bind_ok, bind_exn, bind_bad, so_ok, so_exn, so_bad, seq_next, seq_brk, seq_cnt, seq_ret, seq_exn, seq_bad, ofO_some, rofO_some, view_dat, view_lst, view_var, tree_dat, tree_lst, asD_dat, asD_lst, asD_var, get0, getS, set0, setS, getD0, getDS, add_ii, sub_ii, lt_ii, le_ii, gt_ii, ge_ii, eq_ii, ne_ii, len_l, len_t, int_i, int_b, abs_i, min_ii, max_ii, tru_b, neg_i, items_l, items_t, slc_l, slc_t, viewAll, ft_mk, fdiv_ii, mod_ii, mul_ii, and_self, true_and, and_true, or_true, true_or, Option.map_some, rf_next, rf_ret, rf_exn, Int.toNat_natCast, if_true, ite_true, decide_true, decide_false, reduceIte, List.length_cons, List.length_nil, Nat.zero_add, Nat.zero_le, List.map_cons, List.map_nil, Bool.not_true, Bool.not_false, Bool.false_eq_true, Nat.reducePow, Nat.reduceAdd, Nat.reduceLT, Nat.reduceLeDiff, Nat.reduceMul, Int.reduceLT, Int.reduceLE, Int.reduceNeg, Int.reducePow, Int.reduceAdd, Int.reduceSub, Int.reduceMul, Int.reduceToNat, Nat.reduceEqDiff, Int.reduceEq, hy]
    rw [e, widN_zero]
    simp
end M1
end

section
set_option linter.all false
set_option maxRecDepth 100000
set_option maxHeartbeats 2000000
namespace M1
open PySem Tv PF
variable {sub : Str → Str → Option Bool} {pr : Tb}
theorem range_len (n : Nat) : (rangeD 0 n).length = n := by simp [rangeD]
theorem range_at {n i : Nat} {d : D} (h : (rangeD 0 n)[i]? = some d) : i < n ∧ d = .int (i : Int) := by
  have hi : i < n := by
    have := (List.getElem?_eq_some_iff.mp h).1
    rw [range_len] at this
    exact this
  refine ⟨hi, ?_⟩
  unfold rangeD at h
  rw [List.getElem?_map, List.getElem?_range hi] at h
  simp at h
  exact h.symm
theorem big_nat {n : Nat} (h : n < 4611686018427387904) : big62 (n : Int) = true := big_ok (by omega)
theorem iD_at {xs : List Nat} {i : Nat} {d : D} (h : (iD xs)[i]? = some d) : ∃ x, xs[i]? = some x ∧ d = .int (x : Int) := by
  unfold iD at h
  rw [List.getElem?_map] at h
  cases e : xs[i]? with
  | none => rw [e] at h; cases h
  | some x => rw [e] at h; cases h; exact ⟨x, rfl, rfl⟩
/-! ### bits into bytes -/
def packT (w : Nat) : List Nat → Nat
  | [] => 0
  | x :: r => x + 2 ^ w * packT w r
def toB : Nat → Nat → List Nat
  | 0, _ => []
  | k + 1, t => t % 256 :: toB k (t / 256)
def packN (xs : List Nat) (w : Nat) : List Nat := toB ((xs.length * w + 7) / 8) (packT w xs)
theorem packT_snoc (w : Nat) : ∀ (xs : List Nat) (y : Nat), packT w (xs ++ [y]) = packT w xs + 2 ^ (w * xs.length) * y
  | [], y => by simp [packT]
  | x :: r, y => by
    show x + 2 ^ w * packT w (r ++ [y]) = x + 2 ^ w * packT w r + 2 ^ (w * (r.length + 1)) * y
    rw [packT_snoc w r y, Nat.mul_add, Nat.mul_succ, Nat.pow_add, ← Nat.mul_assoc, Nat.mul_comm (2 ^ w) (2 ^ (w * r.length))]
    omega
theorem take_snoc {xs : List Nat} {i x : Nat} (h : xs[i]? = some x) : xs.take (i + 1) = xs.take i ++ [x] := by
  obtain ⟨h1, h2⟩ := List.getElem?_eq_some_iff.mp h
  rw [List.take_succ, h]
  rfl
theorem toB_len : ∀ (k t : Nat), (toB k t).length = k
  | 0, _ => rfl
  | k + 1, t => by show (toB k (t / 256)).length + 1 = _; rw [toB_len k]
theorem pack_ok (h : Has pr "pack" f_pack) (n : Nat) (xs : List Nat) (w : Nat) (hx : ∀ x ∈ xs, x < 1000000000) (hl : xs.length < 1000000) (hw : w < 100) (hs : xs.length * w < 100000) : tab sub pr (n + 1) "pack" [.list (iD xs), nD w] = .ok (.dat (.list (iD (packN xs w)))) := by
  rw [tab_def h rfl]
  unfold c_pack
  show rf (evSs _ _ [some (.dat (.list (iD xs))), some (.dat (nD w)), none, none, none, none, none]) = _
  unfold nD
  simp only [K2_eq, kBin_eq, kRep_eq, kNeg_eq, kBool_eq, kCmp_eq, kCh3_eq, kCh2_eq, kCh1_eq, kAnd_eq, kOr_eq, kNot_eq, kIte_eq, kTup2_eq, kTup_eq, kLst2_eq, kLst_eq, kSub_eq, kS3_eq, kS2_eq, kS1_eq, kCall2_eq, kCall_eq, kBlt_eq, kLc_eq, kO_eq, kTv_eq, kTand_eq, kTor_eq, kTnot_eq, kEs2_eq, kEs1_eq, kIe2_eq, kIe_eq, kR1_eq, kR22_eq, kR21_eq, kA2_eq, kA1_eq, kAsg2_eq, kAsg_eq, kApp2_eq, kApp_eq, kEx_eq, kRet2_eq, kRet_eq, kSi_eq, kFor_eq, kRse2_eq, kRse_eq, evE_var, evE_con, evE_glb, evE_bin, evE_rep, evE_neg, evE_cmp, evE_chain, evE_and, evE_or, evE_not, evE_ite, evE_tup, evE_lst, evE_sub, evE_slc, evE_call, evE_blt, evE_lc, evO_no, evO_some, evTo_no, evTo_some, evT_val, evT_and, evT_or, evT_not, evEs_nil, evEs_cons, evI_e, evI_rng, evI_rng2, evS_asg, evS_app, evS_expr, evS_ret, evS_retN, evS_ite, evS_whl, evS_for, evS_brk, evS_cnt, evS_pass, evS_rse, evSs_nil, evSs_cons, asDs_nil, asDs_cons, sizeLine, turn_next, turn_cnt, turn_brk, turn_ret, turn_exn, test_t, test_f, bind_ok, bind_exn, bind_bad, so_ok, so_exn, so_bad, seq_next, seq_brk, seq_cnt, seq_ret, seq_exn, seq_bad, ofO_some, rofO_some, view_dat, view_lst, view_var, tree_dat, tree_lst, asD_dat, asD_lst, asD_var, get0, getS, set0, setS, getD0, getDS, add_ii, sub_ii, lt_ii, le_ii, gt_ii, ge_ii, eq_ii, ne_ii, len_l, len_t, int_i, int_b, abs_i, min_ii, max_ii, tru_b, neg_i, items_l, items_t, slc_l, slc_t, viewAll, ft_mk, fdiv_ii, mod_ii, mul_ii, and_self, true_and, and_true, or_true, true_or, Option.map_some, rf_next, rf_ret, rf_exn, Int.toNat_natCast, if_true, ite_true, decide_true, decide_false, reduceIte, List.length_cons, List.length_nil, Nat.zero_add, Nat.zero_le, List.map_cons, List.map_nil, Bool.not_true, Bool.not_false, Bool.false_eq_true, Nat.reducePow, Nat.reduceAdd, Nat.reduceLT, Nat.reduceLeDiff, Nat.reduceMul, Int.reduceLT, Int.reduceLE, Int.reduceNeg, Int.reducePow, Int.reduceAdd, Int.reduceSub, Int.reduceMul, Int.reduceToNat, Nat.reduceEqDiff, Int.reduceEq]
  refine for_gen (Q := fun r => rf (So.seq r _) = _) (P := fun i Γ => i ≤ xs.length ∧ ∃ (t wo : Nat) (o p : Option Ow), Γ = [some (.dat (.list (iD xs))), some (.dat (.int (w : Int))), some (.dat (.int (t : Int))), some (.dat (.int (wo : Int))), o, none, p] ∧ t = packT w (xs.take i) ∧ wo = 2 ^ (w * i)) (iD xs) ?_ ?_ _ ⟨by omega, 0, 1, none, none, rfl, by simp [packT], by simp⟩
  · rintro i d Γ hd ⟨hi5, t, wo, o, p, rfl, ht, hwo⟩
    obtain ⟨x, hxi, rfl⟩ := iD_at hd
    refine ⟨_, rfl, ?_⟩
    have hxm : x < 1000000000 := hx x (List.mem_of_getElem? hxi)
    have c1 : (-18446744073709551616 : Int) < (x : Int) := by omega
    have c2 : (x : Int) < 18446744073709551616 := by omega
    have bw : big62 (w : Int) = true := big_nat (by omega)
    simp only [K2_eq, kBin_eq, kRep_eq, kNeg_eq, kBool_eq, kCmp_eq, kCh3_eq, kCh2_eq, kCh1_eq, kAnd_eq, kOr_eq, kNot_eq, kIte_eq, kTup2_eq, kTup_eq, kLst2_eq, kLst_eq, kSub_eq, kS3_eq, kS2_eq, kS1_eq, kCall2_eq, kCall_eq, kBlt_eq, kLc_eq, kO_eq, kTv_eq, kTand_eq, kTor_eq, kTnot_eq, kEs2_eq, kEs1_eq, kIe2_eq, kIe_eq, kR1_eq, kR22_eq, kR21_eq, kA2_eq, kA1_eq, kAsg2_eq, kAsg_eq, kApp2_eq, kApp_eq, kEx_eq, kRet2_eq, kRet_eq, kSi_eq, kFor_eq, kRse2_eq, kRse_eq, evE_var, evE_con, evE_glb, evE_bin, evE_rep, evE_neg, evE_cmp, evE_chain, evE_and, evE_or, evE_not, evE_ite, evE_tup, evE_lst, evE_sub, evE_slc, evE_call, evE_blt, evE_lc, evO_no, evO_some, evTo_no, evTo_some, evT_val, evT_and, evT_or, evT_not, evEs_nil, evEs_cons, evI_e, evI_rng, evI_rng2, evS_asg, evS_app, evS_expr, evS_ret, evS_retN, evS_ite, evS_whl, evS_for, evS_brk, evS_cnt, evS_pass, evS_rse, evSs_nil, evSs_cons, asDs_nil, asDs_cons, sizeLine, turn_next, turn_cnt, turn_brk, turn_ret, turn_exn, test_t, test_f, bind_ok, bind_exn, bind_bad, so_ok, so_exn, so_bad, seq_next, seq_brk, seq_cnt, seq_ret, seq_exn, seq_bad, ofO_some, rofO_some, view_dat, view_lst, view_var, tree_dat, tree_lst, asD_dat, asD_lst, asD_var, get0, getS, set0, setS, getD0, getDS, add_ii, sub_ii, lt_ii, le_ii, gt_ii, ge_ii, eq_ii, ne_ii, len_l, len_t, int_i, int_b, abs_i, min_ii, max_ii, tru_b, neg_i, items_l, items_t, slc_l, slc_t, viewAll, ft_mk, fdiv_ii, mod_ii, mul_ii, and_self, true_and, and_true, or_true, true_or, Option.map_some, rf_next, rf_ret, rf_exn, Int.toNat_natCast, if_true, ite_true, decide_true, decide_false, reduceIte, List.length_cons, List.length_nil, Nat.zero_add, Nat.zero_le, List.map_cons, List.map_nil, Bool.not_true, Bool.not_false, Bool.false_eq_true, Nat.reducePow, Nat.reduceAdd, Nat.reduceLT, Nat.reduceLeDiff, Nat.reduceMul, Int.reduceLT, Int.reduceLE, Int.reduceNeg, Int.reducePow, Int.reduceAdd, Int.reduceSub, Int.reduceMul, Int.reduceToNat, Nat.reduceEqDiff, Int.reduceEq, c1, c2, bw]
    refine for_gen (Q := fun r => Turn _ _ (So.seq r _)) (P := fun j Γ => ∃ (wo' : Nat) (p : Option Ow), Γ = [some (.dat (.list (iD xs))), some (.dat (.int (w : Int))), some (.dat (.int ((t : Int) + (x : Int) * (wo : Int)))), some (.dat (.int (wo' : Int))), some (.dat (.int (x : Int))), none, p] ∧ wo' = wo * 2 ^ j) (rangeD 0 w) ?_ ?_ _ ⟨wo, p, rfl, by simp⟩
    · rintro j d Γ hd ⟨wo', p, rfl, e⟩
      obtain ⟨hj, rfl⟩ := range_at hd
      refine ⟨_, rfl, ?_⟩
      simp only [K2_eq, kBin_eq, kRep_eq, kNeg_eq, kBool_eq, kCmp_eq, kCh3_eq, kCh2_eq, kCh1_eq, kAnd_eq, kOr_eq, kNot_eq, kIte_eq, kTup2_eq, kTup_eq, kLst2_eq, kLst_eq, kSub_eq, kS3_eq, kS2_eq, kS1_eq, kCall2_eq, kCall_eq, kBlt_eq, kLc_eq, kO_eq, kTv_eq, kTand_eq, kTor_eq, kTnot_eq, kEs2_eq, kEs1_eq, kIe2_eq, kIe_eq, kR1_eq, kR22_eq, kR21_eq, kA2_eq, kA1_eq, kAsg2_eq, kAsg_eq, kApp2_eq, kApp_eq, kEx_eq, kRet2_eq, kRet_eq, kSi_eq, kFor_eq, kRse2_eq, kRse_eq, evE_var, evE_con, evE_glb, evE_bin, evE_rep, evE_neg, evE_cmp, evE_chain, evE_and, evE_or, evE_not, evE_ite, evE_tup, evE_lst, evE_sub, evE_slc, evE_call, evE_blt, evE_lc, evO_no, evO_some, evTo_no, evTo_some, evT_val, evT_and, evT_or, evT_not, evEs_nil, evEs_cons, evI_e, evI_rng, evI_rng2, evS_asg, evS_app, evS_expr, evS_ret, evS_retN, evS_ite, evS_whl, evS_for, evS_brk, evS_cnt, evS_pass, evS_rse, evSs_nil, evSs_cons, asDs_nil, asDs_cons, sizeLine, turn_next, turn_cnt, turn_brk, turn_ret, turn_exn, test_t, test_f, bind_ok, bind_exn, bind_bad, so_ok, so_exn, so_bad, seq_next, seq_brk, seq_cnt, seq_ret, seq_exn, seq_bad, ofO_some, rofO_some, view_dat, view_lst, view_var, tree_dat, tree_lst, asD_dat, asD_lst, asD_var, get0, getS, set0, setS, getD0, getDS, add_ii, sub_ii, lt_ii, le_ii, gt_ii, ge_ii, eq_ii, ne_ii, len_l, len_t, int_i, int_b, abs_i, min_ii, max_ii, tru_b, neg_i, items_l, items_t, slc_l, slc_t, viewAll, ft_mk, fdiv_ii, mod_ii, mul_ii, and_self, true_and, and_true, or_true, true_or, Option.map_some, rf_next, rf_ret, rf_exn, Int.toNat_natCast, if_true, ite_true, decide_true, decide_false, reduceIte, List.length_cons, List.length_nil, Nat.zero_add, Nat.zero_le, List.map_cons, List.map_nil, Bool.not_true, Bool.not_false, Bool.false_eq_true, Nat.reducePow, Nat.reduceAdd, Nat.reduceLT, Nat.reduceLeDiff, Nat.reduceMul, Int.reduceLT, Int.reduceLE, Int.reduceNeg, Int.reducePow, Int.reduceAdd, Int.reduceSub, Int.reduceMul, Int.reduceToNat, Nat.reduceEqDiff, Int.reduceEq]
      refine ⟨wo' * 2, some (.dat (.int (j : Int))), ?_, by rw [e, Nat.pow_succ, Nat.mul_assoc]⟩
      simp only [Int.natCast_mul]
      rfl
    · rintro Γ ⟨wo', p, rfl, e⟩
      rw [range_len] at e
      simp only [K2_eq, kBin_eq, kRep_eq, kNeg_eq, kBool_eq, kCmp_eq, kCh3_eq, kCh2_eq, kCh1_eq, kAnd_eq, kOr_eq, kNot_eq, kIte_eq, kTup2_eq, kTup_eq, kLst2_eq, kLst_eq, kSub_eq, kS3_eq, kS2_eq, kS1_eq, kCall2_eq, kCall_eq, kBlt_eq, kLc_eq, kO_eq, kTv_eq, kTand_eq, kTor_eq, kTnot_eq, kEs2_eq, kEs1_eq, kIe2_eq, kIe_eq, kR1_eq, kR22_eq, kR21_eq, kA2_eq, kA1_eq, kAsg2_eq, kAsg_eq, kApp2_eq, kApp_eq, kEx_eq, kRet2_eq, kRet_eq, kSi_eq, kFor_eq, kRse2_eq, kRse_eq, evE_var, evE_con, evE_glb, evE_bin, evE_rep, evE_neg, evE_cmp, evE_chain, evE_and, evE_or, evE_not, evE_ite, evE_tup, evE_lst, evE_sub, evE_slc, evE_call, evE_blt, evE_lc, evO_no, evO_some, evTo_no, evTo_some, evT_val, evT_and, evT_or, evT_not, evEs_nil, evEs_cons, evI_e, evI_rng, evI_rng2, evS_asg, evS_app, evS_expr, evS_ret, evS_retN, evS_ite, evS_whl, evS_for, evS_brk, evS_cnt, evS_pass, evS_rse, evSs_nil, evSs_cons, asDs_nil, asDs_cons, sizeLine, turn_next, turn_cnt, turn_brk, turn_ret, turn_exn, test_t, test_f, bind_ok, bind_exn, bind_bad, so_ok, so_exn, so_bad, seq_next, seq_brk, seq_cnt, seq_ret, seq_exn, seq_bad, ofO_some, rofO_some, view_dat, view_lst, view_var, tree_dat, tree_lst, asD_dat, asD_lst, asD_var, get0, getS, set0, setS, getD0, getDS, add_ii, sub_ii, lt_ii, le_ii, gt_ii, ge_ii, eq_ii, ne_ii, len_l, len_t, int_i, int_b, abs_i, min_ii, max_ii, tru_b, neg_i, items_l, items_t, slc_l, slc_t, viewAll, ft_mk, fdiv_ii, mod_ii, mul_ii, and_self, true_and, and_true, or_true, true_or, Option.map_some, rf_next, rf_ret, rf_exn, Int.toNat_natCast, if_true, ite_true, decide_true, decide_false, reduceIte, List.length_cons, List.length_nil, Nat.zero_add, Nat.zero_le, List.map_cons, List.map_nil, Bool.not_true, Bool.not_false, Bool.false_eq_true, Nat.reducePow, Nat.reduceAdd, Nat.reduceLT, Nat.reduceLeDiff, Nat.reduceMul, Int.reduceLT, Int.reduceLE, Int.reduceNeg, Int.reducePow, Int.reduceAdd, Int.reduceSub, Int.reduceMul, Int.reduceToNat, Nat.reduceEqDiff, Int.reduceEq]
      have hi : i < xs.length := (List.getElem?_eq_some_iff.mp hxi).1
      refine ⟨by omega, t + x * wo, wo', some (.dat (.int (x : Int))), p, ?_, ?_, ?_⟩
      · simp only [Int.natCast_add, Int.natCast_mul]
      · rw [take_snoc hxi, packT_snoc, ht, hwo, List.length_take, Nat.min_eq_left (by omega), Nat.mul_comm x]
      · rw [e, hwo, ← Nat.pow_add, Nat.mul_succ]
  · rintro Γ ⟨_, t, wo, o, p, rfl, ht, hwo⟩
    rw [iD_len, List.take_length] at ht
    have el : ((iD xs).length : Int) = (xs.length : Int) := by rw [iD_len]
    have c1 : (-18446744073709551616 : Int) < (xs.length : Int) := by omega
    have c2 : (xs.length : Int) < 18446744073709551616 := by omega
    have en : ((xs.length : Int) * (w : Int) + 7) / 8 = (((xs.length * w + 7) / 8 : Nat) : Int) := by
      rw [← Int.natCast_mul]
      omega
    have bn : big62 (((xs.length * w + 7) / 8 : Nat) : Int) = true := big_nat (by omega)
    simp only [K2_eq, kBin_eq, kRep_eq, kNeg_eq, kBool_eq, kCmp_eq, kCh3_eq, kCh2_eq, kCh1_eq, kAnd_eq, kOr_eq, kNot_eq, kIte_eq, kTup2_eq, kTup_eq, kLst2_eq, kLst_eq, kSub_eq, kS3_eq, kS2_eq, kS1_eq, kCall2_eq, kCall_eq, kBlt_eq, kLc_eq, kO_eq, kTv_eq, kTand_eq, kTor_eq, kTnot_eq, kEs2_eq, kEs1_eq, kIe2_eq, kIe_eq, kR1_eq, kR22_eq, kR21_eq, kA2_eq, kA1_eq, kAsg2_eq, kAsg_eq, kApp2_eq, kApp_eq, kEx_eq, kRet2_eq, kRet_eq, kSi_eq, kFor_eq, kRse2_eq, kRse_eq, evE_var, evE_con, evE_glb, evE_bin, evE_rep, evE_neg, evE_cmp, evE_chain, evE_and, evE_or, evE_not, evE_ite, evE_tup, evE_lst, evE_sub, evE_slc, evE_call, evE_blt, evE_lc, evO_no, evO_some, evTo_no, evTo_some, evT_val, evT_and, evT_or, evT_not, evEs_nil, evEs_cons, evI_e, evI_rng, evI_rng2, evS_asg, evS_app, evS_expr, evS_ret, evS_retN, evS_ite, evS_whl, evS_for, evS_brk, evS_cnt, evS_pass, evS_rse, evSs_nil, evSs_cons, asDs_nil, asDs_cons, sizeLine, turn_next, turn_cnt, turn_brk, turn_ret, turn_exn, test_t, test_f, bind_ok, bind_exn, bind_bad, so_ok, so_exn, so_bad, seq_next, seq_brk, seq_cnt, seq_ret, seq_exn, seq_bad, ofO_some, rofO_some, view_dat, view_lst, view_var, tree_dat, tree_lst, asD_dat, asD_lst, asD_var, get0, getS, set0, setS, getD0, getDS, add_ii, sub_ii, lt_ii, le_ii, gt_ii, ge_ii, eq_ii, ne_ii, len_l, len_t, int_i, int_b, abs_i, min_ii, max_ii, tru_b, neg_i, items_l, items_t, slc_l, slc_t, viewAll, ft_mk, fdiv_ii, mod_ii, mul_ii, and_self, true_and, and_true, or_true, true_or, Option.map_some, rf_next, rf_ret, rf_exn, Int.toNat_natCast, if_true, ite_true, decide_true, decide_false, reduceIte, List.length_cons, List.length_nil, Nat.zero_add, Nat.zero_le, List.map_cons, List.map_nil, Bool.not_true, Bool.not_false, Bool.false_eq_true, Nat.reducePow, Nat.reduceAdd, Nat.reduceLT, Nat.reduceLeDiff, Nat.reduceMul, Int.reduceLT, Int.reduceLE, Int.reduceNeg, Int.reducePow, Int.reduceAdd, Int.reduceSub, Int.reduceMul, Int.reduceToNat, Nat.reduceEqDiff, Int.reduceEq, el, c1, c2, en, bn]
    unfold packN
    generalize hk : (xs.length * w + 7) / 8 = k
    have hk2 : k < 100000 := by omega
    refine for_gen (Q := fun r => rf (So.seq r _) = _) (P := fun i Γ => i ≤ k ∧ ∃ (t' : Nat) (acc : List Nat) (p : Option Ow), Γ = [some (.dat (.list (iD xs))), some (.dat (.int (w : Int))), some (.dat (.int (t' : Int))), some (.dat (.int (wo : Int))), o, some (.lst (iD acc)), p] ∧ acc.length = i ∧ toB k (packT w xs) = acc ++ toB (k - i) t') (rangeD 0 k) ?_ ?_ _ ⟨by omega, t, [], p, rfl, rfl, by rw [ht]; rfl⟩
    · rintro i d Γ hd ⟨_, t', acc, p, rfl, ha, e⟩
      obtain ⟨hi, rfl⟩ := range_at hd
      refine ⟨_, rfl, ?_⟩
      have hz : (iD acc).length < 16777216 := by rw [iD_len]; omega
      simp only [K2_eq, kBin_eq, kRep_eq, kNeg_eq, kBool_eq, kCmp_eq, kCh3_eq, kCh2_eq, kCh1_eq, kAnd_eq, kOr_eq, kNot_eq, kIte_eq, kTup2_eq, kTup_eq, kLst2_eq, kLst_eq, kSub_eq, kS3_eq, kS2_eq, kS1_eq, kCall2_eq, kCall_eq, kBlt_eq, kLc_eq, kO_eq, kTv_eq, kTand_eq, kTor_eq, kTnot_eq, kEs2_eq, kEs1_eq, kIe2_eq, kIe_eq, kR1_eq, kR22_eq, kR21_eq, kA2_eq, kA1_eq, kAsg2_eq, kAsg_eq, kApp2_eq, kApp_eq, kEx_eq, kRet2_eq, kRet_eq, kSi_eq, kFor_eq, kRse2_eq, kRse_eq, evE_var, evE_con, evE_glb, evE_bin, evE_rep, evE_neg, evE_cmp, evE_chain, evE_and, evE_or, evE_not, evE_ite, evE_tup, evE_lst, evE_sub, evE_slc, evE_call, evE_blt, evE_lc, evO_no, evO_some, evTo_no, evTo_some, evT_val, evT_and, evT_or, evT_not, evEs_nil, evEs_cons, evI_e, evI_rng, evI_rng2, evS_asg, evS_app, evS_expr, evS_ret, evS_retN, evS_ite, evS_whl, evS_for, evS_brk, evS_cnt, evS_pass, evS_rse, evSs_nil, evSs_cons, asDs_nil, asDs_cons, sizeLine, turn_next, turn_cnt, turn_brk, turn_ret, turn_exn, test_t, test_f, bind_ok, bind_exn, bind_bad, so_ok, so_exn, so_bad, seq_next, seq_brk, seq_cnt, seq_ret, seq_exn, seq_bad, ofO_some, rofO_some, view_dat, view_lst, view_var, tree_dat, tree_lst, asD_dat, asD_lst, asD_var, get0, getS, set0, setS, getD0, getDS, add_ii, sub_ii, lt_ii, le_ii, gt_ii, ge_ii, eq_ii, ne_ii, len_l, len_t, int_i, int_b, abs_i, min_ii, max_ii, tru_b, neg_i, items_l, items_t, slc_l, slc_t, viewAll, ft_mk, fdiv_ii, mod_ii, mul_ii, and_self, true_and, and_true, or_true, true_or, Option.map_some, rf_next, rf_ret, rf_exn, Int.toNat_natCast, if_true, ite_true, decide_true, decide_false, reduceIte, List.length_cons, List.length_nil, Nat.zero_add, Nat.zero_le, List.map_cons, List.map_nil, Bool.not_true, Bool.not_false, Bool.false_eq_true, Nat.reducePow, Nat.reduceAdd, Nat.reduceLT, Nat.reduceLeDiff, Nat.reduceMul, Int.reduceLT, Int.reduceLE, Int.reduceNeg, Int.reducePow, Int.reduceAdd, Int.reduceSub, Int.reduceMul, Int.reduceToNat, Nat.reduceEqDiff, Int.reduceEq, hz]
      refine ⟨by omega, t' / 256, acc ++ [t' % 256], some (.dat (.int (i : Int))), ?_, by simp [ha], ?_⟩
      · rw [← iD_app]
        simp [iD, nD]
      · rw [e]
        obtain ⟨q, hq⟩ : ∃ q, k - i = q + 1 := ⟨k - i - 1, by omega⟩
        rw [hq, show k - (i + 1) = q by omega]
        simp [toB]
    · rintro Γ ⟨_, t', acc, p, rfl, ha, e⟩
      rw [range_len] at e ha
      simp only [K2_eq, kBin_eq, kRep_eq, kNeg_eq, kBool_eq, kCmp_eq, kCh3_eq, kCh2_eq, kCh1_eq, kAnd_eq, kOr_eq, kNot_eq, kIte_eq, kTup2_eq, kTup_eq, kLst2_eq, kLst_eq, kSub_eq, kS3_eq, kS2_eq, kS1_eq, kCall2_eq, kCall_eq, kBlt_eq, kLc_eq, kO_eq, kTv_eq, kTand_eq, kTor_eq, kTnot_eq, kEs2_eq, kEs1_eq, kIe2_eq, kIe_eq, kR1_eq, kR22_eq, kR21_eq, kA2_eq, kA1_eq, kAsg2_eq, kAsg_eq, kApp2_eq, kApp_eq, kEx_eq, kRet2_eq, kRet_eq, kSi_eq, kFor_eq, kRse2_eq, kRse_eq, evE_var, evE_con, evE_glb, evE_bin, evE_rep, evE_neg, evE_cmp, evE_chain, evE_and, evE_or, evE_not, evE_ite, evE_tup, evE_lst, evE_sub, evE_slc, evE_call, evE_blt, evE_lc, evO_no, evO_some, evTo_no, evTo_some, evT_val, evT_and, evT_or, evT_not, evEs_nil, evEs_cons, evI_e, evI_rng, evI_rng2, evS_asg, evS_app, evS_expr, evS_ret, evS_retN, evS_ite, evS_whl, evS_for, evS_brk, evS_cnt, evS_pass, evS_rse, evSs_nil, evSs_cons, asDs_nil, asDs_cons, sizeLine, turn_next, turn_cnt, turn_brk, turn_ret, turn_exn, test_t, test_f, bind_ok, bind_exn, bind_bad, so_ok, so_exn, so_bad, seq_next, seq_brk, seq_cnt, seq_ret, seq_exn, seq_bad, ofO_some, rofO_some, view_dat, view_lst, view_var, tree_dat, tree_lst, asD_dat, asD_lst, asD_var, get0, getS, set0, setS, getD0, getDS, add_ii, sub_ii, lt_ii, le_ii, gt_ii, ge_ii, eq_ii, ne_ii, len_l, len_t, int_i, int_b, abs_i, min_ii, max_ii, tru_b, neg_i, items_l, items_t, slc_l, slc_t, viewAll, ft_mk, fdiv_ii, mod_ii, mul_ii, and_self, true_and, and_true, or_true, true_or, Option.map_some, rf_next, rf_ret, rf_exn, Int.toNat_natCast, if_true, ite_true, decide_true, decide_false, reduceIte, List.length_cons, List.length_nil, Nat.zero_add, Nat.zero_le, List.map_cons, List.map_nil, Bool.not_true, Bool.not_false, Bool.false_eq_true, Nat.reducePow, Nat.reduceAdd, Nat.reduceLT, Nat.reduceLeDiff, Nat.reduceMul, Int.reduceLT, Int.reduceLE, Int.reduceNeg, Int.reducePow, Int.reduceAdd, Int.reduceSub, Int.reduceMul, Int.reduceToNat, Nat.reduceEqDiff, Int.reduceEq]
      rw [e]
      simp [toB]
end M1
end

section
set_option linter.all false
set_option maxRecDepth 100000
set_option maxHeartbeats 2000000
namespace M1
open PySem Tv PF
variable {sub : Str → Str → Option Bool} {pr : Tb}
/-! ### bytes into bits -/
def fromB : List Nat → Nat
  | [] => 0
  | b :: r => b + 256 * fromB r
def digs (s : Nat) : Nat → Nat → List Nat
  | 0, _ => []
  | k + 1, t => t % s :: digs s k (t / s)
/-- what unpack answers -/
def unpackR (data : List Nat) (at_ count w : Nat) : Rf :=
  if data.length < at_ + (count * w + 7) / 8 then badF "bits"
  else if fromB ((data.drop at_).take ((count * w + 7) / 8)) / (2 ^ w) ^ count ≠ 0 then badF "bits"
  else .ok (.dat (.tuple [.list (iD (digs (2 ^ w) count (fromB ((data.drop at_).take ((count * w + 7) / 8))))), nD (at_ + (count * w + 7) / 8)]))
theorem digs_len (s : Nat) : ∀ (k t : Nat), (digs s k t).length = k
  | 0, _ => rfl
  | k + 1, t => by show (digs s k (t / s)).length + 1 = _; rw [digs_len s k]
theorem unpack_ok (h : Has pr "unpack" f_unpack) (n : Nat) (data : List Nat) (at_ count w : Nat) (hc : count < 1000000) (hw : w < 30) (hs : count * w < 100000) (ha : at_ < 100000000) : tab sub pr (n + 1) "unpack" [.list (iD data), nD at_, nD count, nD w] = unpackR data at_ count w := by
  rw [tab_def h rfl]
  unfold c_unpack
  show rf (evSs _ _ [some (.dat (.list (iD data))), some (.dat (nD at_)), some (.dat (nD count)), some (.dat (nD w)), none, none, none, none, none, none]) = _
  unfold nD
  have c1 : (-18446744073709551616 : Int) < (count : Int) := by omega
  have c2 : (count : Int) < 18446744073709551616 := by omega
  have en : ((count : Int) * (w : Int) + 7) / 8 = (((count * w + 7) / 8 : Nat) : Int) := by
    rw [← Int.natCast_mul]
    omega
  have el : ((iD data).length : Int) = (data.length : Int) := by rw [iD_len]
  unfold unpackR
  generalize hk : (count * w + 7) / 8 = k at en ⊢
  have hk2 : k < 100000 := by omega
  by_cases hlen : data.length < at_ + k
  · have hl1 : (data.length : Int) < (at_ : Int) + (k : Int) := by omega
    rw [if_pos hlen]
    simp only [K2_eq, kBin_eq, kRep_eq, kNeg_eq, kBool_eq, kCmp_eq, kCh3_eq, kCh2_eq, kCh1_eq, kAnd_eq, kOr_eq, kNot_eq, kIte_eq, kTup2_eq, kTup_eq, kLst2_eq, kLst_eq, kSub_eq, kS3_eq, kS2_eq, kS1_eq, kCall2_eq, kCall_eq, kBlt_eq, kLc_eq, kO_eq, kTv_eq, kTand_eq, kTor_eq, kTnot_eq, kEs2_eq, kEs1_eq, kIe2_eq, kIe_eq, kR1_eq, kR22_eq, kR21_eq, kA2_eq, kA1_eq, kAsg2_eq, kAsg_eq, kApp2_eq, kApp_eq, kEx_eq, kRet2_eq, kRet_eq, kSi_eq, kFor_eq, kRse2_eq, kRse_eq, evE_var, evE_con, evE_glb, evE_bin, evE_rep, evE_neg, evE_cmp, evE_chain, evE_and, evE_or, evE_not, evE_ite, evE_tup, evE_lst, evE_sub, evE_slc, evE_call, evE_blt, evE_lc, evO_no, evO_some, evTo_no, evTo_some, evT_val, evT_and, evT_or, evT_not, evEs_nil, evEs_cons, evI_e, evI_rng, evI_rng2, evS_asg, evS_app, evS_expr, evS_ret, evS_retN, evS_ite, evS_whl, evS_for, evS_brk, evS_cnt, evS_pass, evS_rse, evSs_nil, evSs_cons, asDs_nil, asDs_cons, sizeLine, turn_next, turn_cnt, turn_brk, turn_ret, turn_exn, test_t, test_f, bind_ok, bind_exn, bind_bad, so_ok, so_exn, so_bad, seq_next, seq_brk, seq_cnt, seq_ret, seq_exn, seq_bad, ofO_some, rofO_some, view_dat, view_lst, view_var, tree_dat, tree_lst, asD_dat, asD_lst, asD_var, get0, getS, set0, setS, getD0, getDS, add_ii, sub_ii, lt_ii, le_ii, gt_ii, ge_ii, eq_ii, ne_ii, len_l, len_t, int_i, int_b, abs_i, min_ii, max_ii, tru_b, neg_i, items_l, items_t, slc_l, slc_t, viewAll, ft_mk, fdiv_ii, mod_ii, mul_ii, and_self, true_and, and_true, or_true, true_or, Option.map_some, rf_next, rf_ret, rf_exn, Int.toNat_natCast, if_true, ite_true, decide_true, decide_false, reduceIte, List.length_cons, List.length_nil, Nat.zero_add, Nat.zero_le, List.map_cons, List.map_nil, Bool.not_true, Bool.not_false, Bool.false_eq_true, Nat.reducePow, Nat.reduceAdd, Nat.reduceLT, Nat.reduceLeDiff, Nat.reduceMul, Int.reduceLT, Int.reduceLE, Int.reduceNeg, Int.reducePow, Int.reduceAdd, Int.reduceSub, Int.reduceMul, Int.reduceToNat, Nat.reduceEqDiff, Int.reduceEq, c1, c2, en, el, hl1, xokD]
    rfl
  · have hl1 : ¬ (data.length : Int) < (at_ : Int) + (k : Int) := by omega
    rw [if_neg hlen]
    have bk : big62 (k : Int) = true := big_nat (by omega)
    simp only [K2_eq, kBin_eq, kRep_eq, kNeg_eq, kBool_eq, kCmp_eq, kCh3_eq, kCh2_eq, kCh1_eq, kAnd_eq, kOr_eq, kNot_eq, kIte_eq, kTup2_eq, kTup_eq, kLst2_eq, kLst_eq, kSub_eq, kS3_eq, kS2_eq, kS1_eq, kCall2_eq, kCall_eq, kBlt_eq, kLc_eq, kO_eq, kTv_eq, kTand_eq, kTor_eq, kTnot_eq, kEs2_eq, kEs1_eq, kIe2_eq, kIe_eq, kR1_eq, kR22_eq, kR21_eq, kA2_eq, kA1_eq, kAsg2_eq, kAsg_eq, kApp2_eq, kApp_eq, kEx_eq, kRet2_eq, kRet_eq, kSi_eq, kFor_eq, kRse2_eq, kRse_eq, evE_var, evE_con, evE_glb, evE_bin, evE_rep, evE_neg, evE_cmp, evE_chain, evE_and, evE_or, evE_not, evE_ite, evE_tup, evE_lst, evE_sub, evE_slc, evE_call, evE_blt, evE_lc, evO_no, evO_some, evTo_no, evTo_some, evT_val, evT_and, evT_or, evT_not, evEs_nil, evEs_cons, evI_e, evI_rng, evI_rng2, evS_asg, evS_app, evS_expr, evS_ret, evS_retN, evS_ite, evS_whl, evS_for, evS_brk, evS_cnt, evS_pass, evS_rse, evSs_nil, evSs_cons, asDs_nil, asDs_cons, sizeLine, turn_next, turn_cnt, turn_brk, turn_ret, turn_exn, test_t, test_f, bind_ok, bind_exn, bind_bad, so_ok, so_exn, so_bad, seq_next, seq_brk, seq_cnt, seq_ret, seq_exn, seq_bad, ofO_some, rofO_some, view_dat, view_lst, view_var, tree_dat, tree_lst, asD_dat, asD_lst, asD_var, get0, getS, set0, setS, getD0, getDS, add_ii, sub_ii, lt_ii, le_ii, gt_ii, ge_ii, eq_ii, ne_ii, len_l, len_t, int_i, int_b, abs_i, min_ii, max_ii, tru_b, neg_i, items_l, items_t, slc_l, slc_t, viewAll, ft_mk, fdiv_ii, mod_ii, mul_ii, and_self, true_and, and_true, or_true, true_or, Option.map_some, rf_next, rf_ret, rf_exn, Int.toNat_natCast, if_true, ite_true, decide_true, decide_false, reduceIte, List.length_cons, List.length_nil, Nat.zero_add, Nat.zero_le, List.map_cons, List.map_nil, Bool.not_true, Bool.not_false, Bool.false_eq_true, Nat.reducePow, Nat.reduceAdd, Nat.reduceLT, Nat.reduceLeDiff, Nat.reduceMul, Int.reduceLT, Int.reduceLE, Int.reduceNeg, Int.reducePow, Int.reduceAdd, Int.reduceSub, Int.reduceMul, Int.reduceToNat, Nat.reduceEqDiff, Int.reduceEq, c1, c2, en, el, hl1, bk]
    generalize hsl : (data.drop at_).take k = sl
    have hsll : sl.length = k := by rw [← hsl, List.length_take, List.length_drop]; omega
    refine for_gen (Q := fun r => rf (So.seq r _) = _) (P := fun i Γ => i ≤ k ∧ ∃ (t : Nat) (p : Option Ow), Γ = [some (.dat (.list (iD data))), some (.dat (.int (at_ : Int))), some (.dat (.int (count : Int))), some (.dat (.int (w : Int))), some (.dat (.int (k : Int))), some (.dat (.int (t : Int))), p, none, none, none] ∧ t = (if i < k then 256 else 1) * fromB (sl.drop (k - i))) (rangeD 0 k) ?_ ?_ _ ⟨by omega, 0, none, rfl, by rw [Nat.sub_zero, List.drop_eq_nil_of_le (by omega)]; simp [fromB]⟩
    · rintro i d Γ hd ⟨_, t, p, rfl, ht⟩
      obtain ⟨hi, rfl⟩ := range_at hd
      refine ⟨_, rfl, ?_⟩
      obtain ⟨b, hb⟩ : ∃ b, data[at_ + k - 1 - i]? = some b := ⟨data[at_ + k - 1 - i]'(by omega), List.getElem?_eq_getElem (by omega)⟩
      have s1 : subD (.list (iD data)) (.int ((at_ : Int) + (k : Int) - 1 - (i : Int))) = some (.dat (.int (b : Int))) := by
        rw [show (at_ : Int) + (k : Int) - 1 - (i : Int) = ((at_ + k - 1 - i : Nat) : Int) by omega]
        exact sub_nat hb
      have hsb : sl[k - (i + 1)]? = some b := by
        rw [← hsl, List.getElem?_take_of_lt (by omega), List.getElem?_drop, ← hb]
        congr 1
        omega
      have hdr : fromB (sl.drop (k - (i + 1))) = b + 256 * fromB (sl.drop (k - i)) := by
        rw [drop_cons hsb, show k - (i + 1) + 1 = k - i by omega]
        rfl
      by_cases hlast : i + 1 < k
      · have hl2 : (i : Int) < (k : Int) - 1 := by omega
        simp only [K2_eq, kBin_eq, kRep_eq, kNeg_eq, kBool_eq, kCmp_eq, kCh3_eq, kCh2_eq, kCh1_eq, kAnd_eq, kOr_eq, kNot_eq, kIte_eq, kTup2_eq, kTup_eq, kLst2_eq, kLst_eq, kSub_eq, kS3_eq, kS2_eq, kS1_eq, kCall2_eq, kCall_eq, kBlt_eq, kLc_eq, kO_eq, kTv_eq, kTand_eq, kTor_eq, kTnot_eq, kEs2_eq, kEs1_eq, kIe2_eq, kIe_eq, kR1_eq, kR22_eq, kR21_eq, kA2_eq, kA1_eq, kAsg2_eq, kAsg_eq, kApp2_eq, kApp_eq, kEx_eq, kRet2_eq, kRet_eq, kSi_eq, kFor_eq, kRse2_eq, kRse_eq, evE_var, evE_con, evE_glb, evE_bin, evE_rep, evE_neg, evE_cmp, evE_chain, evE_and, evE_or, evE_not, evE_ite, evE_tup, evE_lst, evE_sub, evE_slc, evE_call, evE_blt, evE_lc, evO_no, evO_some, evTo_no, evTo_some, evT_val, evT_and, evT_or, evT_not, evEs_nil, evEs_cons, evI_e, evI_rng, evI_rng2, evS_asg, evS_app, evS_expr, evS_ret, evS_retN, evS_ite, evS_whl, evS_for, evS_brk, evS_cnt, evS_pass, evS_rse, evSs_nil, evSs_cons, asDs_nil, asDs_cons, sizeLine, turn_next, turn_cnt, turn_brk, turn_ret, turn_exn, test_t, test_f, bind_ok, bind_exn, bind_bad, so_ok, so_exn, so_bad, seq_next, seq_brk, seq_cnt, seq_ret, seq_exn, seq_bad, ofO_some, rofO_some, view_dat, view_lst, view_var, tree_dat, tree_lst, asD_dat, asD_lst, asD_var, get0, getS, set0, setS, getD0, getDS, add_ii, sub_ii, lt_ii, le_ii, gt_ii, ge_ii, eq_ii, ne_ii, len_l, len_t, int_i, int_b, abs_i, min_ii, max_ii, tru_b, neg_i, items_l, items_t, slc_l, slc_t, viewAll, ft_mk, fdiv_ii, mod_ii, mul_ii, and_self, true_and, and_true, or_true, true_or, Option.map_some, rf_next, rf_ret, rf_exn, Int.toNat_natCast, if_true, ite_true, decide_true, decide_false, reduceIte, List.length_cons, List.length_nil, Nat.zero_add, Nat.zero_le, List.map_cons, List.map_nil, Bool.not_true, Bool.not_false, Bool.false_eq_true, Nat.reducePow, Nat.reduceAdd, Nat.reduceLT, Nat.reduceLeDiff, Nat.reduceMul, Int.reduceLT, Int.reduceLE, Int.reduceNeg, Int.reducePow, Int.reduceAdd, Int.reduceSub, Int.reduceMul, Int.reduceToNat, Nat.reduceEqDiff, Int.reduceEq, s1, hl2]
        refine ⟨by omega, (t + b) * 256, some (.dat (.int (i : Int))), ?_, ?_⟩
        · simp only [Int.natCast_add, Int.natCast_mul]
          rfl
        · rw [if_pos hlast, hdr, ht, if_pos hi]
          omega
      · have hl2 : ¬ (i : Int) < (k : Int) - 1 := by omega
        simp only [K2_eq, kBin_eq, kRep_eq, kNeg_eq, kBool_eq, kCmp_eq, kCh3_eq, kCh2_eq, kCh1_eq, kAnd_eq, kOr_eq, kNot_eq, kIte_eq, kTup2_eq, kTup_eq, kLst2_eq, kLst_eq, kSub_eq, kS3_eq, kS2_eq, kS1_eq, kCall2_eq, kCall_eq, kBlt_eq, kLc_eq, kO_eq, kTv_eq, kTand_eq, kTor_eq, kTnot_eq, kEs2_eq, kEs1_eq, kIe2_eq, kIe_eq, kR1_eq, kR22_eq, kR21_eq, kA2_eq, kA1_eq, kAsg2_eq, kAsg_eq, kApp2_eq, kApp_eq, kEx_eq, kRet2_eq, kRet_eq, kSi_eq, kFor_eq, kRse2_eq, kRse_eq, evE_var, evE_con, evE_glb, evE_bin, evE_rep, evE_neg, evE_cmp, evE_chain, evE_and, evE_or, evE_not, evE_ite, evE_tup, evE_lst, evE_sub, evE_slc, evE_call, evE_blt, evE_lc, evO_no, evO_some, evTo_no, evTo_some, evT_val, evT_and, evT_or, evT_not, evEs_nil, evEs_cons, evI_e, evI_rng, evI_rng2, evS_asg, evS_app, evS_expr, evS_ret, evS_retN, evS_ite, evS_whl, evS_for, evS_brk, evS_cnt, evS_pass, evS_rse, evSs_nil, evSs_cons, asDs_nil, asDs_cons, sizeLine, turn_next, turn_cnt, turn_brk, turn_ret, turn_exn, test_t, test_f, bind_ok, bind_exn, bind_bad, so_ok, so_exn, so_bad, seq_next, seq_brk, seq_cnt, seq_ret, seq_exn, seq_bad, ofO_some, rofO_some, view_dat, view_lst, view_var, tree_dat, tree_lst, asD_dat, asD_lst, asD_var, get0, getS, set0, setS, getD0, getDS, add_ii, sub_ii, lt_ii, le_ii, gt_ii, ge_ii, eq_ii, ne_ii, len_l, len_t, int_i, int_b, abs_i, min_ii, max_ii, tru_b, neg_i, items_l, items_t, slc_l, slc_t, viewAll, ft_mk, fdiv_ii, mod_ii, mul_ii, and_self, true_and, and_true, or_true, true_or, Option.map_some, rf_next, rf_ret, rf_exn, Int.toNat_natCast, if_true, ite_true, decide_true, decide_false, reduceIte, List.length_cons, List.length_nil, Nat.zero_add, Nat.zero_le, List.map_cons, List.map_nil, Bool.not_true, Bool.not_false, Bool.false_eq_true, Nat.reducePow, Nat.reduceAdd, Nat.reduceLT, Nat.reduceLeDiff, Nat.reduceMul, Int.reduceLT, Int.reduceLE, Int.reduceNeg, Int.reducePow, Int.reduceAdd, Int.reduceSub, Int.reduceMul, Int.reduceToNat, Nat.reduceEqDiff, Int.reduceEq, s1, hl2]
        refine ⟨by omega, t + b, some (.dat (.int (i : Int))), ?_, ?_⟩
        · simp only [Int.natCast_add]
        · rw [if_neg hlast, hdr, ht, if_pos hi]
          omega
    · rintro Γ ⟨_, t, p, rfl, ht⟩
      rw [range_len] at ht
      have ht2 : t = fromB sl := by
        rw [ht, if_neg (by omega), Nat.sub_self, List.drop_zero, Nat.one_mul]
      rw [← ht2]
      have bw : big62 (w : Int) = true := big_nat (by omega)
      simp only [K2_eq, kBin_eq, kRep_eq, kNeg_eq, kBool_eq, kCmp_eq, kCh3_eq, kCh2_eq, kCh1_eq, kAnd_eq, kOr_eq, kNot_eq, kIte_eq, kTup2_eq, kTup_eq, kLst2_eq, kLst_eq, kSub_eq, kS3_eq, kS2_eq, kS1_eq, kCall2_eq, kCall_eq, kBlt_eq, kLc_eq, kO_eq, kTv_eq, kTand_eq, kTor_eq, kTnot_eq, kEs2_eq, kEs1_eq, kIe2_eq, kIe_eq, kR1_eq, kR22_eq, kR21_eq, kA2_eq, kA1_eq, kAsg2_eq, kAsg_eq, kApp2_eq, kApp_eq, kEx_eq, kRet2_eq, kRet_eq, kSi_eq, kFor_eq, kRse2_eq, kRse_eq, evE_var, evE_con, evE_glb, evE_bin, evE_rep, evE_neg, evE_cmp, evE_chain, evE_and, evE_or, evE_not, evE_ite, evE_tup, evE_lst, evE_sub, evE_slc, evE_call, evE_blt, evE_lc, evO_no, evO_some, evTo_no, evTo_some, evT_val, evT_and, evT_or, evT_not, evEs_nil, evEs_cons, evI_e, evI_rng, evI_rng2, evS_asg, evS_app, evS_expr, evS_ret, evS_retN, evS_ite, evS_whl, evS_for, evS_brk, evS_cnt, evS_pass, evS_rse, evSs_nil, evSs_cons, asDs_nil, asDs_cons, sizeLine, turn_next, turn_cnt, turn_brk, turn_ret, turn_exn, test_t, test_f, bind_ok, bind_exn, bind_bad, so_ok, so_exn, so_bad, seq_next, seq_brk, seq_cnt, seq_ret, seq_exn, seq_bad, ofO_some, rofO_some, view_dat, view_lst, view_var, tree_dat, tree_lst, asD_dat, asD_lst, asD_var, get0, getS, set0, setS, getD0, getDS, add_ii, sub_ii, lt_ii, le_ii, gt_ii, ge_ii, eq_ii, ne_ii, len_l, len_t, int_i, int_b, abs_i, min_ii, max_ii, tru_b, neg_i, items_l, items_t, slc_l, slc_t, viewAll, ft_mk, fdiv_ii, mod_ii, mul_ii, and_self, true_and, and_true, or_true, true_or, Option.map_some, rf_next, rf_ret, rf_exn, Int.toNat_natCast, if_true, ite_true, decide_true, decide_false, reduceIte, List.length_cons, List.length_nil, Nat.zero_add, Nat.zero_le, List.map_cons, List.map_nil, Bool.not_true, Bool.not_false, Bool.false_eq_true, Nat.reducePow, Nat.reduceAdd, Nat.reduceLT, Nat.reduceLeDiff, Nat.reduceMul, Int.reduceLT, Int.reduceLE, Int.reduceNeg, Int.reducePow, Int.reduceAdd, Int.reduceSub, Int.reduceMul, Int.reduceToNat, Nat.reduceEqDiff, Int.reduceEq, bw]
      refine for_gen (Q := fun r => rf (So.seq r _) = _) (P := fun i Γ => ∃ (s : Nat) (o : Option Ow), Γ = [some (.dat (.list (iD data))), some (.dat (.int (at_ : Int))), some (.dat (.int (count : Int))), some (.dat (.int (w : Int))), some (.dat (.int (k : Int))), some (.dat (.int (t : Int))), p, some (.dat (.int (s : Int))), o, none] ∧ s = 2 ^ i) (rangeD 0 w) ?_ ?_ _ ⟨1, none, rfl, rfl⟩
      · rintro j d Γ hd ⟨s, o, rfl, e⟩
        obtain ⟨hj, rfl⟩ := range_at hd
        refine ⟨_, rfl, ?_⟩
        simp only [K2_eq, kBin_eq, kRep_eq, kNeg_eq, kBool_eq, kCmp_eq, kCh3_eq, kCh2_eq, kCh1_eq, kAnd_eq, kOr_eq, kNot_eq, kIte_eq, kTup2_eq, kTup_eq, kLst2_eq, kLst_eq, kSub_eq, kS3_eq, kS2_eq, kS1_eq, kCall2_eq, kCall_eq, kBlt_eq, kLc_eq, kO_eq, kTv_eq, kTand_eq, kTor_eq, kTnot_eq, kEs2_eq, kEs1_eq, kIe2_eq, kIe_eq, kR1_eq, kR22_eq, kR21_eq, kA2_eq, kA1_eq, kAsg2_eq, kAsg_eq, kApp2_eq, kApp_eq, kEx_eq, kRet2_eq, kRet_eq, kSi_eq, kFor_eq, kRse2_eq, kRse_eq, evE_var, evE_con, evE_glb, evE_bin, evE_rep, evE_neg, evE_cmp, evE_chain, evE_and, evE_or, evE_not, evE_ite, evE_tup, evE_lst, evE_sub, evE_slc, evE_call, evE_blt, evE_lc, evO_no, evO_some, evTo_no, evTo_some, evT_val, evT_and, evT_or, evT_not, evEs_nil, evEs_cons, evI_e, evI_rng, evI_rng2, evS_asg, evS_app, evS_expr, evS_ret, evS_retN, evS_ite, evS_whl, evS_for, evS_brk, evS_cnt, evS_pass, evS_rse, evSs_nil, evSs_cons, asDs_nil, asDs_cons, sizeLine, turn_next, turn_cnt, turn_brk, turn_ret, turn_exn, test_t, test_f, bind_ok, bind_exn, bind_bad, so_ok, so_exn, so_bad, seq_next, seq_brk, seq_cnt, seq_ret, seq_exn, seq_bad, ofO_some, rofO_some, view_dat, view_lst, view_var, tree_dat, tree_lst, asD_dat, asD_lst, asD_var, get0, getS, set0, setS, getD0, getDS, add_ii, sub_ii, lt_ii, le_ii, gt_ii, ge_ii, eq_ii, ne_ii, len_l, len_t, int_i, int_b, abs_i, min_ii, max_ii, tru_b, neg_i, items_l, items_t, slc_l, slc_t, viewAll, ft_mk, fdiv_ii, mod_ii, mul_ii, and_self, true_and, and_true, or_true, true_or, Option.map_some, rf_next, rf_ret, rf_exn, Int.toNat_natCast, if_true, ite_true, decide_true, decide_false, reduceIte, List.length_cons, List.length_nil, Nat.zero_add, Nat.zero_le, List.map_cons, List.map_nil, Bool.not_true, Bool.not_false, Bool.false_eq_true, Nat.reducePow, Nat.reduceAdd, Nat.reduceLT, Nat.reduceLeDiff, Nat.reduceMul, Int.reduceLT, Int.reduceLE, Int.reduceNeg, Int.reducePow, Int.reduceAdd, Int.reduceSub, Int.reduceMul, Int.reduceToNat, Nat.reduceEqDiff, Int.reduceEq]
        refine ⟨s * 2, some (.dat (.int (j : Int))), ?_, by rw [e, Nat.pow_succ]⟩
        simp only [Int.natCast_mul]
        rfl
      · rintro Γ ⟨s, o, rfl, e⟩
        rw [range_len] at e
        rw [← e]
        have hs1 : 0 < s := by rw [e]; exact Nat.pow_pos (by omega)
        have hs2 : s ≤ 536870912 := by
          have : 2 ^ w ≤ 2 ^ 29 := Nat.pow_le_pow_right (by omega) (by omega)
          omega
        have bc : big62 (count : Int) = true := big_nat (by omega)
        have f1 : (0 : Int) < (s : Int) := by omega
        have f2 : (s : Int) < 1073741824 := by omega
        simp only [K2_eq, kBin_eq, kRep_eq, kNeg_eq, kBool_eq, kCmp_eq, kCh3_eq, kCh2_eq, kCh1_eq, kAnd_eq, kOr_eq, kNot_eq, kIte_eq, kTup2_eq, kTup_eq, kLst2_eq, kLst_eq, kSub_eq, kS3_eq, kS2_eq, kS1_eq, kCall2_eq, kCall_eq, kBlt_eq, kLc_eq, kO_eq, kTv_eq, kTand_eq, kTor_eq, kTnot_eq, kEs2_eq, kEs1_eq, kIe2_eq, kIe_eq, kR1_eq, kR22_eq, kR21_eq, kA2_eq, kA1_eq, kAsg2_eq, kAsg_eq, kApp2_eq, kApp_eq, kEx_eq, kRet2_eq, kRet_eq, kSi_eq, kFor_eq, kRse2_eq, kRse_eq, evE_var, evE_con, evE_glb, evE_bin, evE_rep, evE_neg, evE_cmp, evE_chain, evE_and, evE_or, evE_not, evE_ite, evE_tup, evE_lst, evE_sub, evE_slc, evE_call, evE_blt, evE_lc, evO_no, evO_some, evTo_no, evTo_some, evT_val, evT_and, evT_or, evT_not, evEs_nil, evEs_cons, evI_e, evI_rng, evI_rng2, evS_asg, evS_app, evS_expr, evS_ret, evS_retN, evS_ite, evS_whl, evS_for, evS_brk, evS_cnt, evS_pass, evS_rse, evSs_nil, evSs_cons, asDs_nil, asDs_cons, sizeLine, turn_next, turn_cnt, turn_brk, turn_ret, turn_exn, test_t, test_f, bind_ok, bind_exn, bind_bad, so_ok, so_exn, so_bad, seq_next, seq_brk, seq_cnt, seq_ret, seq_exn, seq_bad, ofO_some, rofO_some, view_dat, view_lst, view_var, tree_dat, tree_lst, asD_dat, asD_lst, asD_var, get0, getS, set0, setS, getD0, getDS, add_ii, sub_ii, lt_ii, le_ii, gt_ii, ge_ii, eq_ii, ne_ii, len_l, len_t, int_i, int_b, abs_i, min_ii, max_ii, tru_b, neg_i, items_l, items_t, slc_l, slc_t, viewAll, ft_mk, fdiv_ii, mod_ii, mul_ii, and_self, true_and, and_true, or_true, true_or, Option.map_some, rf_next, rf_ret, rf_exn, Int.toNat_natCast, if_true, ite_true, decide_true, decide_false, reduceIte, List.length_cons, List.length_nil, Nat.zero_add, Nat.zero_le, List.map_cons, List.map_nil, Bool.not_true, Bool.not_false, Bool.false_eq_true, Nat.reducePow, Nat.reduceAdd, Nat.reduceLT, Nat.reduceLeDiff, Nat.reduceMul, Int.reduceLT, Int.reduceLE, Int.reduceNeg, Int.reducePow, Int.reduceAdd, Int.reduceSub, Int.reduceMul, Int.reduceToNat, Nat.reduceEqDiff, Int.reduceEq, bc]
        refine for_gen (Q := fun r => rf (So.seq r _) = _) (P := fun i Γ => i ≤ count ∧ ∃ (t' : Nat) (acc : List Nat) (o : Option Ow), Γ = [some (.dat (.list (iD data))), some (.dat (.int (at_ : Int))), some (.dat (.int (count : Int))), some (.dat (.int (w : Int))), some (.dat (.int (k : Int))), some (.dat (.int (t' : Int))), p, some (.dat (.int (s : Int))), o, some (.lst (iD acc))] ∧ acc.length = i ∧ digs s count t = acc ++ digs s (count - i) t' ∧ t' = t / s ^ i) (rangeD 0 count) ?_ ?_ _ ⟨by omega, t, [], o, rfl, rfl, rfl, by simp⟩
        · rintro i d Γ hd ⟨_, t', acc, o, rfl, hal, hdi, ht'⟩
          obtain ⟨hi, rfl⟩ := range_at hd
          refine ⟨_, rfl, ?_⟩
          have hz : (iD acc).length < 16777216 := by rw [iD_len]; omega
          simp only [K2_eq, kBin_eq, kRep_eq, kNeg_eq, kBool_eq, kCmp_eq, kCh3_eq, kCh2_eq, kCh1_eq, kAnd_eq, kOr_eq, kNot_eq, kIte_eq, kTup2_eq, kTup_eq, kLst2_eq, kLst_eq, kSub_eq, kS3_eq, kS2_eq, kS1_eq, kCall2_eq, kCall_eq, kBlt_eq, kLc_eq, kO_eq, kTv_eq, kTand_eq, kTor_eq, kTnot_eq, kEs2_eq, kEs1_eq, kIe2_eq, kIe_eq, kR1_eq, kR22_eq, kR21_eq, kA2_eq, kA1_eq, kAsg2_eq, kAsg_eq, kApp2_eq, kApp_eq, kEx_eq, kRet2_eq, kRet_eq, kSi_eq, kFor_eq, kRse2_eq, kRse_eq, evE_var, evE_con, evE_glb, evE_bin, evE_rep, evE_neg, evE_cmp, evE_chain, evE_and, evE_or, evE_not, evE_ite, evE_tup, evE_lst, evE_sub, evE_slc, evE_call, evE_blt, evE_lc, evO_no, evO_some, evTo_no, evTo_some, evT_val, evT_and, evT_or, evT_not, evEs_nil, evEs_cons, evI_e, evI_rng, evI_rng2, evS_asg, evS_app, evS_expr, evS_ret, evS_retN, evS_ite, evS_whl, evS_for, evS_brk, evS_cnt, evS_pass, evS_rse, evSs_nil, evSs_cons, asDs_nil, asDs_cons, sizeLine, turn_next, turn_cnt, turn_brk, turn_ret, turn_exn, test_t, test_f, bind_ok, bind_exn, bind_bad, so_ok, so_exn, so_bad, seq_next, seq_brk, seq_cnt, seq_ret, seq_exn, seq_bad, ofO_some, rofO_some, view_dat, view_lst, view_var, tree_dat, tree_lst, asD_dat, asD_lst, asD_var, get0, getS, set0, setS, getD0, getDS, add_ii, sub_ii, lt_ii, le_ii, gt_ii, ge_ii, eq_ii, ne_ii, len_l, len_t, int_i, int_b, abs_i, min_ii, max_ii, tru_b, neg_i, items_l, items_t, slc_l, slc_t, viewAll, ft_mk, fdiv_ii, mod_ii, mul_ii, and_self, true_and, and_true, or_true, true_or, Option.map_some, rf_next, rf_ret, rf_exn, Int.toNat_natCast, if_true, ite_true, decide_true, decide_false, reduceIte, List.length_cons, List.length_nil, Nat.zero_add, Nat.zero_le, List.map_cons, List.map_nil, Bool.not_true, Bool.not_false, Bool.false_eq_true, Nat.reducePow, Nat.reduceAdd, Nat.reduceLT, Nat.reduceLeDiff, Nat.reduceMul, Int.reduceLT, Int.reduceLE, Int.reduceNeg, Int.reducePow, Int.reduceAdd, Int.reduceSub, Int.reduceMul, Int.reduceToNat, Nat.reduceEqDiff, Int.reduceEq, hz, f1, f2]
          refine ⟨by omega, t' / s, acc ++ [t' % s], some (.dat (.int (i : Int))), ?_, by simp [hal], ?_, ?_⟩
          · rw [← iD_app]
            simp [iD, nD]
          · rw [hdi]
            obtain ⟨q, hq⟩ : ∃ q, count - i = q + 1 := ⟨count - i - 1, by omega⟩
            rw [hq, show count - (i + 1) = q by omega]
            simp [digs]
          · rw [ht', Nat.div_div_eq_div_mul, ← Nat.pow_succ]
        · rintro Γ ⟨_, t', acc, o, rfl, hal, hdi, ht'⟩
          rw [range_len] at hdi ht' hal
          rw [Nat.sub_self] at hdi
          simp only [digs, List.append_nil] at hdi
          rw [hdi, ← ht']
          by_cases hz : t' = 0
          · have hz2 : (t' : Int) = 0 := by omega
            rw [if_neg (by omega)]
            simp only [K2_eq, kBin_eq, kRep_eq, kNeg_eq, kBool_eq, kCmp_eq, kCh3_eq, kCh2_eq, kCh1_eq, kAnd_eq, kOr_eq, kNot_eq, kIte_eq, kTup2_eq, kTup_eq, kLst2_eq, kLst_eq, kSub_eq, kS3_eq, kS2_eq, kS1_eq, kCall2_eq, kCall_eq, kBlt_eq, kLc_eq, kO_eq, kTv_eq, kTand_eq, kTor_eq, kTnot_eq, kEs2_eq, kEs1_eq, kIe2_eq, kIe_eq, kR1_eq, kR22_eq, kR21_eq, kA2_eq, kA1_eq, kAsg2_eq, kAsg_eq, kApp2_eq, kApp_eq, kEx_eq, kRet2_eq, kRet_eq, kSi_eq, kFor_eq, kRse2_eq, kRse_eq, evE_var, evE_con, evE_glb, evE_bin, evE_rep, evE_neg, evE_cmp, evE_chain, evE_and, evE_or, evE_not, evE_ite, evE_tup, evE_lst, evE_sub, evE_slc, evE_call, evE_blt, evE_lc, evO_no, evO_some, evTo_no, evTo_some, evT_val, evT_and, evT_or, evT_not, evEs_nil, evEs_cons, evI_e, evI_rng, evI_rng2, evS_asg, evS_app, evS_expr, evS_ret, evS_retN, evS_ite, evS_whl, evS_for, evS_brk, evS_cnt, evS_pass, evS_rse, evSs_nil, evSs_cons, asDs_nil, asDs_cons, sizeLine, turn_next, turn_cnt, turn_brk, turn_ret, turn_exn, test_t, test_f, bind_ok, bind_exn, bind_bad, so_ok, so_exn, so_bad, seq_next, seq_brk, seq_cnt, seq_ret, seq_exn, seq_bad, ofO_some, rofO_some, view_dat, view_lst, view_var, tree_dat, tree_lst, asD_dat, asD_lst, asD_var, get0, getS, set0, setS, getD0, getDS, add_ii, sub_ii, lt_ii, le_ii, gt_ii, ge_ii, eq_ii, ne_ii, len_l, len_t, int_i, int_b, abs_i, min_ii, max_ii, tru_b, neg_i, items_l, items_t, slc_l, slc_t, viewAll, ft_mk, fdiv_ii, mod_ii, mul_ii, and_self, true_and, and_true, or_true, true_or, Option.map_some, rf_next, rf_ret, rf_exn, Int.toNat_natCast, if_true, ite_true, decide_true, decide_false, reduceIte, List.length_cons, List.length_nil, Nat.zero_add, Nat.zero_le, List.map_cons, List.map_nil, Bool.not_true, Bool.not_false, Bool.false_eq_true, Nat.reducePow, Nat.reduceAdd, Nat.reduceLT, Nat.reduceLeDiff, Nat.reduceMul, Int.reduceLT, Int.reduceLE, Int.reduceNeg, Int.reducePow, Int.reduceAdd, Int.reduceSub, Int.reduceMul, Int.reduceToNat, Nat.reduceEqDiff, Int.reduceEq, hz2]
            simp [nD]
          · have hz2 : ¬ (t' : Int) = 0 := by omega
            rw [if_pos hz]
            simp only [K2_eq, kBin_eq, kRep_eq, kNeg_eq, kBool_eq, kCmp_eq, kCh3_eq, kCh2_eq, kCh1_eq, kAnd_eq, kOr_eq, kNot_eq, kIte_eq, kTup2_eq, kTup_eq, kLst2_eq, kLst_eq, kSub_eq, kS3_eq, kS2_eq, kS1_eq, kCall2_eq, kCall_eq, kBlt_eq, kLc_eq, kO_eq, kTv_eq, kTand_eq, kTor_eq, kTnot_eq, kEs2_eq, kEs1_eq, kIe2_eq, kIe_eq, kR1_eq, kR22_eq, kR21_eq, kA2_eq, kA1_eq, kAsg2_eq, kAsg_eq, kApp2_eq, kApp_eq, kEx_eq, kRet2_eq, kRet_eq, kSi_eq, kFor_eq, kRse2_eq, kRse_eq, evE_var, evE_con, evE_glb, evE_bin, evE_rep, evE_neg, evE_cmp, evE_chain, evE_and, evE_or, evE_not, evE_ite, evE_tup, evE_lst, evE_sub, evE_slc, evE_call, evE_blt, evE_lc, evO_no, evO_some, evTo_no, evTo_some, evT_val, evT_and, evT_or, evT_not, evEs_nil, evEs_cons, evI_e, evI_rng, evI_rng2, evS_asg, evS_app, evS_expr, evS_ret, evS_retN, evS_ite, evS_whl, evS_for, evS_brk, evS_cnt, evS_pass, evS_rse, evSs_nil, evSs_cons, asDs_nil, asDs_cons, sizeLine, turn_next, turn_cnt, turn_brk, turn_ret, turn_exn, test_t, test_f, bind_ok, bind_exn, bind_bad, so_ok, so_exn, so_bad, seq_next, seq_brk, seq_cnt, seq_ret, seq_exn, seq_bad, ofO_some, rofO_some, view_dat, view_lst, view_var, tree_dat, tree_lst, asD_dat, asD_lst, asD_var, get0, getS, set0, setS, getD0, getDS, add_ii, sub_ii, lt_ii, le_ii, gt_ii, ge_ii, eq_ii, ne_ii, len_l, len_t, int_i, int_b, abs_i, min_ii, max_ii, tru_b, neg_i, items_l, items_t, slc_l, slc_t, viewAll, ft_mk, fdiv_ii, mod_ii, mul_ii, and_self, true_and, and_true, or_true, true_or, Option.map_some, rf_next, rf_ret, rf_exn, Int.toNat_natCast, if_true, ite_true, decide_true, decide_false, reduceIte, List.length_cons, List.length_nil, Nat.zero_add, Nat.zero_le, List.map_cons, List.map_nil, Bool.not_true, Bool.not_false, Bool.false_eq_true, Nat.reducePow, Nat.reduceAdd, Nat.reduceLT, Nat.reduceLeDiff, Nat.reduceMul, Int.reduceLT, Int.reduceLE, Int.reduceNeg, Int.reducePow, Int.reduceAdd, Int.reduceSub, Int.reduceMul, Int.reduceToNat, Nat.reduceEqDiff, Int.reduceEq, hz2, xokD]
            rfl
end M1
end

section
set_option linter.all false
set_option maxRecDepth 100000
set_option maxHeartbeats 4000000
namespace M1
open PySem Tv PF
variable {sub : Str → Str → Option Bool} {pr : Tb}
/-! ### runs and pieces -/
def eqN (x : Nat) : List Nat → Nat
  | [] => 0
  | y :: r => if y = x then 1 + eqN x r else 0
def runL : List Nat → Nat
  | [] => 0
  | x :: r => 1 + eqN x r
def pieceL : Nat → List Nat → Nat
  | 0, _ => 0
  | _ + 1, [] => 0
  | f + 1, x :: r => if runL (x :: r) < 4 then 1 + pieceL f r else 0
theorem eqN_le (x : Nat) : ∀ xs : List Nat, eqN x xs ≤ xs.length
  | [] => Nat.le_refl _
  | y :: r => by
    unfold eqN
    have := eqN_le x r
    split
    · simp; omega
    · simp
theorem runL_le : ∀ xs : List Nat, runL xs ≤ xs.length
  | [] => Nat.le_refl _
  | x :: r => by
    have := eqN_le x r
    simp [runL]
    omega
theorem pieceL_le : ∀ (f : Nat) (xs : List Nat), pieceL f xs ≤ xs.length
  | 0, _ => Nat.zero_le _
  | _ + 1, [] => Nat.le_refl _
  | f + 1, x :: r => by
    unfold pieceL
    have := pieceL_le f r
    split
    · simp; omega
    · simp
theorem pieceL_lef : ∀ (f : Nat) (xs : List Nat), pieceL f xs ≤ f
  | 0, _ => Nat.zero_le _
  | _ + 1, [] => Nat.zero_le _
  | f + 1, x :: r => by
    unfold pieceL
    have := pieceL_lef f r
    split <;> omega
theorem run_length_ok (h : Has pr "run_length" f_run_length) (n : Nat) (xs : List Nat) (at_ : Nat) (ha : at_ ≤ xs.length) : tab sub pr (n + 1) "run_length" [.list (iD xs), nD at_] = .ok (.dat (nD (runL (xs.drop at_)))) := by
  rw [tab_def h rfl]
  unfold c_run_length
  show rf (evSs _ _ [some (.dat (.list (iD xs))), some (.dat (nD at_)), none]) = _
  unfold nD
  simp only [K2_eq, kBin_eq, kRep_eq, kNeg_eq, kBool_eq, kCmp_eq, kCh3_eq, kCh2_eq, kCh1_eq, kAnd_eq, kOr_eq, kNot_eq, kIte_eq, kTup2_eq, kTup_eq, kLst2_eq, kLst_eq, kSub_eq, kS3_eq, kS2_eq, kS1_eq, kCall2_eq, kCall_eq, kBlt_eq, kLc_eq, kO_eq, kTv_eq, kTand_eq, kTor_eq, kTnot_eq, kEs2_eq, kEs1_eq, kIe2_eq, kIe_eq, kR1_eq, kR22_eq, kR21_eq, kA2_eq, kA1_eq, kAsg2_eq, kAsg_eq, kApp2_eq, kApp_eq, kEx_eq, kRet2_eq, kRet_eq, kSi_eq, kFor_eq, kRse2_eq, kRse_eq, evE_var, evE_con, evE_glb, evE_bin, evE_rep, evE_neg, evE_cmp, evE_chain, evE_and, evE_or, evE_not, evE_ite, evE_tup, evE_lst, evE_sub, evE_slc, evE_call, evE_blt, evE_lc, evO_no, evO_some, evTo_no, evTo_some, evT_val, evT_and, evT_or, evT_not, evEs_nil, evEs_cons, evI_e, evI_rng, evI_rng2, evS_asg, evS_app, evS_expr, evS_ret, evS_retN, evS_ite, evS_whl, evS_for, evS_brk, evS_cnt, evS_pass, evS_rse, evSs_nil, evSs_cons, asDs_nil, asDs_cons, sizeLine, turn_next, turn_cnt, turn_brk, turn_ret, turn_exn, test_t, test_f, bind_ok, bind_exn, bind_bad, so_ok, so_exn, so_bad, seq_next, seq_brk, seq_cnt, seq_ret, seq_exn, seq_bad, ofO_some, rofO_some, view_dat, view_lst, view_var, tree_dat, tree_lst, asD_dat, asD_lst, asD_var, get0, getS, set0, setS, getD0, getDS, add_ii, sub_ii, lt_ii, le_ii, gt_ii, ge_ii, eq_ii, ne_ii, len_l, len_t, int_i, int_b, abs_i, min_ii, max_ii, tru_b, neg_i, items_l, items_t, slc_l, slc_t, viewAll, ft_mk, fdiv_ii, mod_ii, mul_ii, and_self, true_and, and_true, or_true, true_or, Option.map_some, rf_next, rf_ret, rf_exn, Int.toNat_natCast, if_true, ite_true, decide_true, decide_false, reduceIte, List.length_cons, List.length_nil, Nat.zero_add, Nat.zero_le, List.map_cons, List.map_nil, Bool.not_true, Bool.not_false, Bool.false_eq_true, Nat.reducePow, Nat.reduceAdd, Nat.reduceLT, Nat.reduceLeDiff, Nat.reduceMul, Int.reduceLT, Int.reduceLE, Int.reduceNeg, Int.reducePow, Int.reduceAdd, Int.reduceSub, Int.reduceMul, Int.reduceToNat, Nat.reduceEqDiff, Int.reduceEq]
  have el : ((iD xs).length : Int) = (xs.length : Int) := by rw [iD_len]
  obtain ⟨x0, hx0, e0⟩ : ∃ x0, (at_ < xs.length → xs[at_]? = some x0) ∧ runL (xs.drop at_) = eqN x0 (xs.drop at_) := by
    by_cases hlt : at_ < xs.length
    · refine ⟨xs[at_], fun _ => List.getElem?_eq_getElem hlt, ?_⟩
      rw [drop_cons (List.getElem?_eq_getElem hlt)]
      simp [runL, eqN]
    · refine ⟨0, fun q => absurd q hlt, ?_⟩
      rw [List.drop_eq_nil_of_le (by omega)]
      rfl
  refine whl_gen (Q := fun r => rf (So.seq r _) = _) (P := fun m Γ => ∃ e : Nat, Γ = [some (.dat (.list (iD xs))), some (.dat (.int (at_ : Int))), some (.dat (.int (e : Int)))] ∧ m = xs.length - e ∧ at_ ≤ e ∧ e ≤ xs.length ∧ runL (xs.drop at_) = (e - at_) + eqN x0 (xs.drop e)) ?_ (xs.length - at_) _ ⟨at_, rfl, rfl, by omega, ha, by rw [e0]; omega⟩
  rintro m Γ ⟨e, rfl, rfl, h1, h2, h3⟩
  by_cases he : e < xs.length
  · have he2 : (e : Int) < (xs.length : Int) := by omega
    obtain ⟨y, hy⟩ : ∃ y, xs[e]? = some y := ⟨xs[e], List.getElem?_eq_getElem he⟩
    have hx := hx0 (by omega)
    rw [drop_cons hy] at h3
    unfold eqN at h3
    by_cases hyx : y = x0
    · have hyx2 : (y : Int) = (x0 : Int) := by omega
      rw [if_pos hyx] at h3
      simp only [K2_eq, kBin_eq, kRep_eq, kNeg_eq, kBool_eq, kCmp_eq, kCh3_eq, kCh2_eq, kCh1_eq, kAnd_eq, kOr_eq, kNot_eq, kIte_eq, kTup2_eq, kTup_eq, kLst2_eq, kLst_eq, kSub_eq, kS3_eq, kS2_eq, kS1_eq, kCall2_eq, kCall_eq, kBlt_eq, kLc_eq, kO_eq, kTv_eq, kTand_eq, kTor_eq, kTnot_eq, kEs2_eq, kEs1_eq, kIe2_eq, kIe_eq, kR1_eq, kR22_eq, kR21_eq, kA2_eq, kA1_eq, kAsg2_eq, kAsg_eq, kApp2_eq, kApp_eq, kEx_eq, kRet2_eq, kRet_eq, kSi_eq, kFor_eq, kRse2_eq, kRse_eq, evE_var, evE_con, evE_glb, evE_bin, evE_rep, evE_neg, evE_cmp, evE_chain, evE_and, evE_or, evE_not, evE_ite, evE_tup, evE_lst, evE_sub, evE_slc, evE_call, evE_blt, evE_lc, evO_no, evO_some, evTo_no, evTo_some, evT_val, evT_and, evT_or, evT_not, evEs_nil, evEs_cons, evI_e, evI_rng, evI_rng2, evS_asg, evS_app, evS_expr, evS_ret, evS_retN, evS_ite, evS_whl, evS_for, evS_brk, evS_cnt, evS_pass, evS_rse, evSs_nil, evSs_cons, asDs_nil, asDs_cons, sizeLine, turn_next, turn_cnt, turn_brk, turn_ret, turn_exn, test_t, test_f, bind_ok, bind_exn, bind_bad, so_ok, so_exn, so_bad, seq_next, seq_brk, seq_cnt, seq_ret, seq_exn, seq_bad, ofO_some, rofO_some, view_dat, view_lst, view_var, tree_dat, tree_lst, asD_dat, asD_lst, asD_var, get0, getS, set0, setS, getD0, getDS, add_ii, sub_ii, lt_ii, le_ii, gt_ii, ge_ii, eq_ii, ne_ii, len_l, len_t, int_i, int_b, abs_i, min_ii, max_ii, tru_b, neg_i, items_l, items_t, slc_l, slc_t, viewAll, ft_mk, fdiv_ii, mod_ii, mul_ii, and_self, true_and, and_true, or_true, true_or, Option.map_some, rf_next, rf_ret, rf_exn, Int.toNat_natCast, if_true, ite_true, decide_true, decide_false, reduceIte, List.length_cons, List.length_nil, Nat.zero_add, Nat.zero_le, List.map_cons, List.map_nil, Bool.not_true, Bool.not_false, Bool.false_eq_true, Nat.reducePow, Nat.reduceAdd, Nat.reduceLT, Nat.reduceLeDiff, Nat.reduceMul, Int.reduceLT, Int.reduceLE, Int.reduceNeg, Int.reducePow, Int.reduceAdd, Int.reduceSub, Int.reduceMul, Int.reduceToNat, Nat.reduceEqDiff, Int.reduceEq, el, he2, sub_nat hy, sub_nat hx, hyx2]
      refine ⟨xs.length - (e + 1), by omega, e + 1, ?_, rfl, by omega, by omega, by omega⟩
      simp
    · have hyx2 : ¬ (y : Int) = (x0 : Int) := by omega
      rw [if_neg hyx] at h3
      simp only [K2_eq, kBin_eq, kRep_eq, kNeg_eq, kBool_eq, kCmp_eq, kCh3_eq, kCh2_eq, kCh1_eq, kAnd_eq, kOr_eq, kNot_eq, kIte_eq, kTup2_eq, kTup_eq, kLst2_eq, kLst_eq, kSub_eq, kS3_eq, kS2_eq, kS1_eq, kCall2_eq, kCall_eq, kBlt_eq, kLc_eq, kO_eq, kTv_eq, kTand_eq, kTor_eq, kTnot_eq, kEs2_eq, kEs1_eq, kIe2_eq, kIe_eq, kR1_eq, kR22_eq, kR21_eq, kA2_eq, kA1_eq, kAsg2_eq, kAsg_eq, kApp2_eq, kApp_eq, kEx_eq, kRet2_eq, kRet_eq, kSi_eq, kFor_eq, kRse2_eq, kRse_eq, evE_var, evE_con, evE_glb, evE_bin, evE_rep, evE_neg, evE_cmp, evE_chain, evE_and, evE_or, evE_not, evE_ite, evE_tup, evE_lst, evE_sub, evE_slc, evE_call, evE_blt, evE_lc, evO_no, evO_some, evTo_no, evTo_some, evT_val, evT_and, evT_or, evT_not, evEs_nil, evEs_cons, evI_e, evI_rng, evI_rng2, evS_asg, evS_app, evS_expr, evS_ret, evS_retN, evS_ite, evS_whl, evS_for, evS_brk, evS_cnt, evS_pass, evS_rse, evSs_nil, evSs_cons, asDs_nil, asDs_cons, sizeLine, turn_next, turn_cnt, turn_brk, turn_ret, turn_exn, test_t, test_f, bind_ok, bind_exn, bind_bad, so_ok, so_exn, so_bad, seq_next, seq_brk, seq_cnt, seq_ret, seq_exn, seq_bad, ofO_some, rofO_some, view_dat, view_lst, view_var, tree_dat, tree_lst, asD_dat, asD_lst, asD_var, get0, getS, set0, setS, getD0, getDS, add_ii, sub_ii, lt_ii, le_ii, gt_ii, ge_ii, eq_ii, ne_ii, len_l, len_t, int_i, int_b, abs_i, min_ii, max_ii, tru_b, neg_i, items_l, items_t, slc_l, slc_t, viewAll, ft_mk, fdiv_ii, mod_ii, mul_ii, and_self, true_and, and_true, or_true, true_or, Option.map_some, rf_next, rf_ret, rf_exn, Int.toNat_natCast, if_true, ite_true, decide_true, decide_false, reduceIte, List.length_cons, List.length_nil, Nat.zero_add, Nat.zero_le, List.map_cons, List.map_nil, Bool.not_true, Bool.not_false, Bool.false_eq_true, Nat.reducePow, Nat.reduceAdd, Nat.reduceLT, Nat.reduceLeDiff, Nat.reduceMul, Int.reduceLT, Int.reduceLE, Int.reduceNeg, Int.reducePow, Int.reduceAdd, Int.reduceSub, Int.reduceMul, Int.reduceToNat, Nat.reduceEqDiff, Int.reduceEq, el, he2, sub_nat hy, sub_nat hx, hyx2]
      rw [h3]
      congr 3
      omega
  · have he2 : ¬ (e : Int) < (xs.length : Int) := by omega
    rw [List.drop_eq_nil_of_le (show xs.length ≤ e by omega)] at h3
    simp only [K2_eq, kBin_eq, kRep_eq, kNeg_eq, kBool_eq, kCmp_eq, kCh3_eq, kCh2_eq, kCh1_eq, kAnd_eq, kOr_eq, kNot_eq, kIte_eq, kTup2_eq, kTup_eq, kLst2_eq, kLst_eq, kSub_eq, kS3_eq, kS2_eq, kS1_eq, kCall2_eq, kCall_eq, kBlt_eq, kLc_eq, kO_eq, kTv_eq, kTand_eq, kTor_eq, kTnot_eq, kEs2_eq, kEs1_eq, kIe2_eq, kIe_eq, kR1_eq, kR22_eq, kR21_eq, kA2_eq, kA1_eq, kAsg2_eq, kAsg_eq, kApp2_eq, kApp_eq, kEx_eq, kRet2_eq, kRet_eq, kSi_eq, kFor_eq, kRse2_eq, kRse_eq, evE_var, evE_con, evE_glb, evE_bin, evE_rep, evE_neg, evE_cmp, evE_chain, evE_and, evE_or, evE_not, evE_ite, evE_tup, evE_lst, evE_sub, evE_slc, evE_call, evE_blt, evE_lc, evO_no, evO_some, evTo_no, evTo_some, evT_val, evT_and, evT_or, evT_not, evEs_nil, evEs_cons, evI_e, evI_rng, evI_rng2, evS_asg, evS_app, evS_expr, evS_ret, evS_retN, evS_ite, evS_whl, evS_for, evS_brk, evS_cnt, evS_pass, evS_rse, evSs_nil, evSs_cons, asDs_nil, asDs_cons, sizeLine, turn_next, turn_cnt, turn_brk, turn_ret, turn_exn, test_t, test_f, bind_ok, bind_exn, bind_bad, so_ok, so_exn, so_bad, seq_next, seq_brk, seq_cnt, seq_ret, seq_exn, seq_bad, ofO_some, rofO_some, view_dat, view_lst, view_var, tree_dat, tree_lst, asD_dat, asD_lst, asD_var, get0, getS, set0, setS, getD0, getDS, add_ii, sub_ii, lt_ii, le_ii, gt_ii, ge_ii, eq_ii, ne_ii, len_l, len_t, int_i, int_b, abs_i, min_ii, max_ii, tru_b, neg_i, items_l, items_t, slc_l, slc_t, viewAll, ft_mk, fdiv_ii, mod_ii, mul_ii, and_self, true_and, and_true, or_true, true_or, Option.map_some, rf_next, rf_ret, rf_exn, Int.toNat_natCast, if_true, ite_true, decide_true, decide_false, reduceIte, List.length_cons, List.length_nil, Nat.zero_add, Nat.zero_le, List.map_cons, List.map_nil, Bool.not_true, Bool.not_false, Bool.false_eq_true, Nat.reducePow, Nat.reduceAdd, Nat.reduceLT, Nat.reduceLeDiff, Nat.reduceMul, Int.reduceLT, Int.reduceLE, Int.reduceNeg, Int.reducePow, Int.reduceAdd, Int.reduceSub, Int.reduceMul, Int.reduceToNat, Nat.reduceEqDiff, Int.reduceEq, el, he2]
    rw [h3]
    simp only [eqN]
    congr 3
    omega
theorem piece_length_ok (h : Has pr "piece_length" f_piece_length) (hr : Has pr "run_length" f_run_length) (n : Nat) (xs : List Nat) (at_ : Nat) (ha : at_ ≤ xs.length) : tab sub pr (n + 2) "piece_length" [.list (iD xs), nD at_] = .ok (.dat (nD (pieceL 32 (xs.drop at_)))) := by
  rw [tab_def h rfl]
  unfold c_piece_length
  show rf (evSs _ _ [some (.dat (.list (iD xs))), some (.dat (nD at_)), none]) = _
  unfold nD
  simp only [K2_eq, kBin_eq, kRep_eq, kNeg_eq, kBool_eq, kCmp_eq, kCh3_eq, kCh2_eq, kCh1_eq, kAnd_eq, kOr_eq, kNot_eq, kIte_eq, kTup2_eq, kTup_eq, kLst2_eq, kLst_eq, kSub_eq, kS3_eq, kS2_eq, kS1_eq, kCall2_eq, kCall_eq, kBlt_eq, kLc_eq, kO_eq, kTv_eq, kTand_eq, kTor_eq, kTnot_eq, kEs2_eq, kEs1_eq, kIe2_eq, kIe_eq, kR1_eq, kR22_eq, kR21_eq, kA2_eq, kA1_eq, kAsg2_eq, kAsg_eq, kApp2_eq, kApp_eq, kEx_eq, kRet2_eq, kRet_eq, kSi_eq, kFor_eq, kRse2_eq, kRse_eq, evE_var, evE_con, evE_glb, evE_bin, evE_rep, evE_neg, evE_cmp, evE_chain, evE_and, evE_or, evE_not, evE_ite, evE_tup, evE_lst, evE_sub, evE_slc, evE_call, evE_blt, evE_lc, evO_no, evO_some, evTo_no, evTo_some, evT_val, evT_and, evT_or, evT_not, evEs_nil, evEs_cons, evI_e, evI_rng, evI_rng2, evS_asg, evS_app, evS_expr, evS_ret, evS_retN, evS_ite, evS_whl, evS_for, evS_brk, evS_cnt, evS_pass, evS_rse, evSs_nil, evSs_cons, asDs_nil, asDs_cons, sizeLine, turn_next, turn_cnt, turn_brk, turn_ret, turn_exn, test_t, test_f, bind_ok, bind_exn, bind_bad, so_ok, so_exn, so_bad, seq_next, seq_brk, seq_cnt, seq_ret, seq_exn, seq_bad, ofO_some, rofO_some, view_dat, view_lst, view_var, tree_dat, tree_lst, asD_dat, asD_lst, asD_var, get0, getS, set0, setS, getD0, getDS, add_ii, sub_ii, lt_ii, le_ii, gt_ii, ge_ii, eq_ii, ne_ii, len_l, len_t, int_i, int_b, abs_i, min_ii, max_ii, tru_b, neg_i, items_l, items_t, slc_l, slc_t, viewAll, ft_mk, fdiv_ii, mod_ii, mul_ii, and_self, true_and, and_true, or_true, true_or, Option.map_some, rf_next, rf_ret, rf_exn, Int.toNat_natCast, if_true, ite_true, decide_true, decide_false, reduceIte, List.length_cons, List.length_nil, Nat.zero_add, Nat.zero_le, List.map_cons, List.map_nil, Bool.not_true, Bool.not_false, Bool.false_eq_true, Nat.reducePow, Nat.reduceAdd, Nat.reduceLT, Nat.reduceLeDiff, Nat.reduceMul, Int.reduceLT, Int.reduceLE, Int.reduceNeg, Int.reducePow, Int.reduceAdd, Int.reduceSub, Int.reduceMul, Int.reduceToNat, Nat.reduceEqDiff, Int.reduceEq]
  have el : ((iD xs).length : Int) = (xs.length : Int) := by rw [iD_len]
  refine whl_gen (Q := fun r => rf (So.seq r _) = _) (P := fun m Γ => ∃ e : Nat, Γ = [some (.dat (.list (iD xs))), some (.dat (.int (at_ : Int))), some (.dat (.int (e : Int)))] ∧ m = xs.length - e ∧ at_ ≤ e ∧ e ≤ xs.length ∧ e - at_ ≤ 32 ∧ pieceL 32 (xs.drop at_) = (e - at_) + pieceL (32 - (e - at_)) (xs.drop e)) ?_ (xs.length - at_) _ ⟨at_, rfl, rfl, by omega, ha, by omega, by rw [Nat.sub_self, Nat.sub_zero, Nat.zero_add]⟩
  rintro m Γ ⟨e, rfl, rfl, h1, h2, h4, h3⟩
  by_cases he : e < xs.length
  · have he2 : (e : Int) < (xs.length : Int) := by omega
    obtain ⟨y, hy⟩ : ∃ y, xs[e]? = some y := ⟨xs[e], List.getElem?_eq_getElem he⟩
    by_cases h32 : e - at_ < 32
    · have h32b : (e : Int) - (at_ : Int) < 32 := by omega
      have hrun := run_length_ok (sub := sub) hr n xs e (by omega)
      unfold nD at hrun
      obtain ⟨f, hf⟩ : ∃ f, 32 - (e - at_) = f + 1 := ⟨31 - (e - at_), by omega⟩
      rw [hf, drop_cons hy] at h3
      rw [drop_cons hy] at hrun
      have h3q : pieceL (f + 1) (y :: xs.drop (e + 1)) = if runL (y :: xs.drop (e + 1)) < 4 then 1 + pieceL f (xs.drop (e + 1)) else 0 := rfl
      rw [h3q] at h3
      by_cases h4r : runL (y :: xs.drop (e + 1)) < 4
      · have h4b : ((runL (y :: xs.drop (e + 1)) : Nat) : Int) < 4 := by omega
        rw [if_pos h4r] at h3
        simp only [K2_eq, kBin_eq, kRep_eq, kNeg_eq, kBool_eq, kCmp_eq, kCh3_eq, kCh2_eq, kCh1_eq, kAnd_eq, kOr_eq, kNot_eq, kIte_eq, kTup2_eq, kTup_eq, kLst2_eq, kLst_eq, kSub_eq, kS3_eq, kS2_eq, kS1_eq, kCall2_eq, kCall_eq, kBlt_eq, kLc_eq, kO_eq, kTv_eq, kTand_eq, kTor_eq, kTnot_eq, kEs2_eq, kEs1_eq, kIe2_eq, kIe_eq, kR1_eq, kR22_eq, kR21_eq, kA2_eq, kA1_eq, kAsg2_eq, kAsg_eq, kApp2_eq, kApp_eq, kEx_eq, kRet2_eq, kRet_eq, kSi_eq, kFor_eq, kRse2_eq, kRse_eq, evE_var, evE_con, evE_glb, evE_bin, evE_rep, evE_neg, evE_cmp, evE_chain, evE_and, evE_or, evE_not, evE_ite, evE_tup, evE_lst, evE_sub, evE_slc, evE_call, evE_blt, evE_lc, evO_no, evO_some, evTo_no, evTo_some, evT_val, evT_and, evT_or, evT_not, evEs_nil, evEs_cons, evI_e, evI_rng, evI_rng2, evS_asg, evS_app, evS_expr, evS_ret, evS_retN, evS_ite, evS_whl, evS_for, evS_brk, evS_cnt, evS_pass, evS_rse, evSs_nil, evSs_cons, asDs_nil, asDs_cons, sizeLine, turn_next, turn_cnt, turn_brk, turn_ret, turn_exn, test_t, test_f, bind_ok, bind_exn, bind_bad, so_ok, so_exn, so_bad, seq_next, seq_brk, seq_cnt, seq_ret, seq_exn, seq_bad, ofO_some, rofO_some, view_dat, view_lst, view_var, tree_dat, tree_lst, asD_dat, asD_lst, asD_var, get0, getS, set0, setS, getD0, getDS, add_ii, sub_ii, lt_ii, le_ii, gt_ii, ge_ii, eq_ii, ne_ii, len_l, len_t, int_i, int_b, abs_i, min_ii, max_ii, tru_b, neg_i, items_l, items_t, slc_l, slc_t, viewAll, ft_mk, fdiv_ii, mod_ii, mul_ii, and_self, true_and, and_true, or_true, true_or, Option.map_some, rf_next, rf_ret, rf_exn, Int.toNat_natCast, if_true, ite_true, decide_true, decide_false, reduceIte, List.length_cons, List.length_nil, Nat.zero_add, Nat.zero_le, List.map_cons, List.map_nil, Bool.not_true, Bool.not_false, Bool.false_eq_true, Nat.reducePow, Nat.reduceAdd, Nat.reduceLT, Nat.reduceLeDiff, Nat.reduceMul, Int.reduceLT, Int.reduceLE, Int.reduceNeg, Int.reducePow, Int.reduceAdd, Int.reduceSub, Int.reduceMul, Int.reduceToNat, Nat.reduceEqDiff, Int.reduceEq, el, he2, h32b, hrun, h4b]
        refine ⟨xs.length - (e + 1), by omega, e + 1, ?_, rfl, by omega, by omega, by omega, ?_⟩
        · simp
        · rw [h3, show 32 - (e + 1 - at_) = f by omega]
          omega
      · have h4b : ¬ ((runL (y :: xs.drop (e + 1)) : Nat) : Int) < 4 := by omega
        rw [if_neg h4r] at h3
        simp only [K2_eq, kBin_eq, kRep_eq, kNeg_eq, kBool_eq, kCmp_eq, kCh3_eq, kCh2_eq, kCh1_eq, kAnd_eq, kOr_eq, kNot_eq, kIte_eq, kTup2_eq, kTup_eq, kLst2_eq, kLst_eq, kSub_eq, kS3_eq, kS2_eq, kS1_eq, kCall2_eq, kCall_eq, kBlt_eq, kLc_eq, kO_eq, kTv_eq, kTand_eq, kTor_eq, kTnot_eq, kEs2_eq, kEs1_eq, kIe2_eq, kIe_eq, kR1_eq, kR22_eq, kR21_eq, kA2_eq, kA1_eq, kAsg2_eq, kAsg_eq, kApp2_eq, kApp_eq, kEx_eq, kRet2_eq, kRet_eq, kSi_eq, kFor_eq, kRse2_eq, kRse_eq, evE_var, evE_con, evE_glb, evE_bin, evE_rep, evE_neg, evE_cmp, evE_chain, evE_and, evE_or, evE_not, evE_ite, evE_tup, evE_lst, evE_sub, evE_slc, evE_call, evE_blt, evE_lc, evO_no, evO_some, evTo_no, evTo_some, evT_val, evT_and, evT_or, evT_not, evEs_nil, evEs_cons, evI_e, evI_rng, evI_rng2, evS_asg, evS_app, evS_expr, evS_ret, evS_retN, evS_ite, evS_whl, evS_for, evS_brk, evS_cnt, evS_pass, evS_rse, evSs_nil, evSs_cons, asDs_nil, asDs_cons, sizeLine, turn_next, turn_cnt, turn_brk, turn_ret, turn_exn, test_t, test_f, bind_ok, bind_exn, bind_bad, so_ok, so_exn, so_bad, seq_next, seq_brk, seq_cnt, seq_ret, seq_exn, seq_bad, ofO_some, rofO_some, view_dat, view_lst, view_var, tree_dat, tree_lst, asD_dat, asD_lst, asD_var, get0, getS, set0, setS, getD0, getDS, add_ii, sub_ii, lt_ii, le_ii, gt_ii, ge_ii, eq_ii, ne_ii, len_l, len_t, int_i, int_b, abs_i, min_ii, max_ii, tru_b, neg_i, items_l, items_t, slc_l, slc_t, viewAll, ft_mk, fdiv_ii, mod_ii, mul_ii, and_self, true_and, and_true, or_true, true_or, Option.map_some, rf_next, rf_ret, rf_exn, Int.toNat_natCast, if_true, ite_true, decide_true, decide_false, reduceIte, List.length_cons, List.length_nil, Nat.zero_add, Nat.zero_le, List.map_cons, List.map_nil, Bool.not_true, Bool.not_false, Bool.false_eq_true, Nat.reducePow, Nat.reduceAdd, Nat.reduceLT, Nat.reduceLeDiff, Nat.reduceMul, Int.reduceLT, Int.reduceLE, Int.reduceNeg, Int.reducePow, Int.reduceAdd, Int.reduceSub, Int.reduceMul, Int.reduceToNat, Nat.reduceEqDiff, Int.reduceEq, el, he2, h32b, hrun, h4b]
        rw [h3]
        congr 3
        omega
    · have h32b : ¬ (e : Int) - (at_ : Int) < 32 := by omega
      have e0 : 32 - (e - at_) = 0 := by omega
      rw [e0] at h3
      simp only [K2_eq, kBin_eq, kRep_eq, kNeg_eq, kBool_eq, kCmp_eq, kCh3_eq, kCh2_eq, kCh1_eq, kAnd_eq, kOr_eq, kNot_eq, kIte_eq, kTup2_eq, kTup_eq, kLst2_eq, kLst_eq, kSub_eq, kS3_eq, kS2_eq, kS1_eq, kCall2_eq, kCall_eq, kBlt_eq, kLc_eq, kO_eq, kTv_eq, kTand_eq, kTor_eq, kTnot_eq, kEs2_eq, kEs1_eq, kIe2_eq, kIe_eq, kR1_eq, kR22_eq, kR21_eq, kA2_eq, kA1_eq, kAsg2_eq, kAsg_eq, kApp2_eq, kApp_eq, kEx_eq, kRet2_eq, kRet_eq, kSi_eq, kFor_eq, kRse2_eq, kRse_eq, evE_var, evE_con, evE_glb, evE_bin, evE_rep, evE_neg, evE_cmp, evE_chain, evE_and, evE_or, evE_not, evE_ite, evE_tup, evE_lst, evE_sub, evE_slc, evE_call, evE_blt, evE_lc, evO_no, evO_some, evTo_no, evTo_some, evT_val, evT_and, evT_or, evT_not, evEs_nil, evEs_cons, evI_e, evI_rng, evI_rng2, evS_asg, evS_app, evS_expr, evS_ret, evS_retN, evS_ite, evS_whl, evS_for, evS_brk, evS_cnt, evS_pass, evS_rse, evSs_nil, evSs_cons, asDs_nil, asDs_cons, sizeLine, turn_next, turn_cnt, turn_brk, turn_ret, turn_exn, test_t, test_f, bind_ok, bind_exn, bind_bad, so_ok, so_exn, so_bad, seq_next, seq_brk, seq_cnt, seq_ret, seq_exn, seq_bad, ofO_some, rofO_some, view_dat, view_lst, view_var, tree_dat, tree_lst, asD_dat, asD_lst, asD_var, get0, getS, set0, setS, getD0, getDS, add_ii, sub_ii, lt_ii, le_ii, gt_ii, ge_ii, eq_ii, ne_ii, len_l, len_t, int_i, int_b, abs_i, min_ii, max_ii, tru_b, neg_i, items_l, items_t, slc_l, slc_t, viewAll, ft_mk, fdiv_ii, mod_ii, mul_ii, and_self, true_and, and_true, or_true, true_or, Option.map_some, rf_next, rf_ret, rf_exn, Int.toNat_natCast, if_true, ite_true, decide_true, decide_false, reduceIte, List.length_cons, List.length_nil, Nat.zero_add, Nat.zero_le, List.map_cons, List.map_nil, Bool.not_true, Bool.not_false, Bool.false_eq_true, Nat.reducePow, Nat.reduceAdd, Nat.reduceLT, Nat.reduceLeDiff, Nat.reduceMul, Int.reduceLT, Int.reduceLE, Int.reduceNeg, Int.reducePow, Int.reduceAdd, Int.reduceSub, Int.reduceMul, Int.reduceToNat, Nat.reduceEqDiff, Int.reduceEq, el, he2, h32b]
      rw [h3]
      simp only [pieceL]
      congr 3
      omega
  · have he2 : ¬ (e : Int) < (xs.length : Int) := by omega
    rw [List.drop_eq_nil_of_le (show xs.length ≤ e by omega)] at h3
    have e0 : pieceL (32 - (e - at_)) [] = 0 := by
      cases (32 - (e - at_)) <;> rfl
    rw [e0] at h3
    simp only [K2_eq, kBin_eq, kRep_eq, kNeg_eq, kBool_eq, kCmp_eq, kCh3_eq, kCh2_eq, kCh1_eq, kAnd_eq, kOr_eq, kNot_eq, kIte_eq, kTup2_eq, kTup_eq, kLst2_eq, kLst_eq, kSub_eq, kS3_eq, kS2_eq, kS1_eq, kCall2_eq, kCall_eq, kBlt_eq, kLc_eq, kO_eq, kTv_eq, kTand_eq, kTor_eq, kTnot_eq, kEs2_eq, kEs1_eq, kIe2_eq, kIe_eq, kR1_eq, kR22_eq, kR21_eq, kA2_eq, kA1_eq, kAsg2_eq, kAsg_eq, kApp2_eq, kApp_eq, kEx_eq, kRet2_eq, kRet_eq, kSi_eq, kFor_eq, kRse2_eq, kRse_eq, evE_var, evE_con, evE_glb, evE_bin, evE_rep, evE_neg, evE_cmp, evE_chain, evE_and, evE_or, evE_not, evE_ite, evE_tup, evE_lst, evE_sub, evE_slc, evE_call, evE_blt, evE_lc, evO_no, evO_some, evTo_no, evTo_some, evT_val, evT_and, evT_or, evT_not, evEs_nil, evEs_cons, evI_e, evI_rng, evI_rng2, evS_asg, evS_app, evS_expr, evS_ret, evS_retN, evS_ite, evS_whl, evS_for, evS_brk, evS_cnt, evS_pass, evS_rse, evSs_nil, evSs_cons, asDs_nil, asDs_cons, sizeLine, turn_next, turn_cnt, turn_brk, turn_ret, turn_exn, test_t, test_f, bind_ok, bind_exn, bind_bad, so_ok, so_exn, so_bad, seq_next, seq_brk, seq_cnt, seq_ret, seq_exn, seq_bad, ofO_some, rofO_some, view_dat, view_lst, view_var, tree_dat, tree_lst, asD_dat, asD_lst, asD_var, get0, getS, set0, setS, getD0, getDS, add_ii, sub_ii, lt_ii, le_ii, gt_ii, ge_ii, eq_ii, ne_ii, len_l, len_t, int_i, int_b, abs_i, min_ii, max_ii, tru_b, neg_i, items_l, items_t, slc_l, slc_t, viewAll, ft_mk, fdiv_ii, mod_ii, mul_ii, and_self, true_and, and_true, or_true, true_or, Option.map_some, rf_next, rf_ret, rf_exn, Int.toNat_natCast, if_true, ite_true, decide_true, decide_false, reduceIte, List.length_cons, List.length_nil, Nat.zero_add, Nat.zero_le, List.map_cons, List.map_nil, Bool.not_true, Bool.not_false, Bool.false_eq_true, Nat.reducePow, Nat.reduceAdd, Nat.reduceLT, Nat.reduceLeDiff, Nat.reduceMul, Int.reduceLT, Int.reduceLE, Int.reduceNeg, Int.reducePow, Int.reduceAdd, Int.reduceSub, Int.reduceMul, Int.reduceToNat, Nat.reduceEqDiff, Int.reduceEq, el, he2]
    rw [h3]
    congr 3
    omega
/-! ### levels -/
def levF (w : Nat) : Nat → List Nat → List Nat
  | 0, _ => []
  | _ + 1, [] => []
  | f + 1, x :: r => if 4 ≤ runL (x :: r) then putN (2 * runL (x :: r)) ++ putN x ++ levF w f ((x :: r).drop (runL (x :: r)))
    else putN (2 * pieceL 32 (x :: r) + 1) ++ packN ((x :: r).take (pieceL 32 (x :: r))) w ++ levF w f ((x :: r).drop (pieceL 32 (x :: r)))
def levN (xs : List Nat) (most : Nat) : List Nat := if widN most = 0 then [] else levF (widN most) xs.length xs
theorem putN_len : ∀ (k x : Nat), x < 128 ^ (k + 1) → (putN x).length ≤ k + 1
  | 0, x, h => by
    rw [putN_lt (by omega)]
    simp
  | k + 1, x, h => by
    by_cases hx : x < 128
    · rw [putN_lt hx]
      simp
    · rw [putN_ge hx]
      have : x / 128 < 128 ^ (k + 1) := by
        rw [Nat.div_lt_iff_lt_mul (by omega), ← Nat.pow_succ]
        exact h
      have := putN_len k (x / 128) this
      simp
      omega
theorem cut_nat {xs : List Nat} {a b : Nat} (hab : a ≤ b) (hb : b ≤ xs.length) : cutD (iD xs) (some (a : Int)) (some (b : Int)) = iD ((xs.drop a).take (b - a)) := by
  unfold cutD
  rw [HT.sIx_nat, HT.sIx_nat, iD_len, Nat.min_eq_left hb, Nat.min_eq_left (show a ≤ xs.length by omega)]
  unfold iD
  rw [← List.map_drop, ← List.map_take]
theorem runL_pos {x : Nat} {r : List Nat} : 0 < runL (x :: r) := by simp [runL]; omega
theorem pieceL_pos {x : Nat} {r : List Nat} (h : ¬ 4 ≤ runL (x :: r)) : 0 < pieceL 32 (x :: r) := by
  unfold pieceL
  rw [if_pos (by omega)]
  omega
theorem packN_len (xs : List Nat) (w : Nat) : (packN xs w).length = (xs.length * w + 7) / 8 := toB_len _ _
/-- the numbers of a row -/
structure Row (xs : List Nat) (most : Nat) : Prop where
  len : xs.length ≤ 20000
  le : ∀ x ∈ xs, x ≤ most
  most : most < 536870912
theorem widN_le : ∀ (k x : Nat), x < 2 ^ k → widN x ≤ k
  | 0, x, h => by
    have : x = 0 := by simpa using h
    rw [this, widN_zero]
    omega
  | k + 1, x, h => by
    by_cases hx : x = 0
    · rw [hx, widN_zero]
      omega
    · rw [widN_pos hx]
      have : x / 2 < 2 ^ k := by
        rw [Nat.div_lt_iff_lt_mul (by omega), ← Nat.pow_succ]
        exact h
      have := widN_le k (x / 2) this
      omega
theorem levF_len (w : Nat) (hw : w ≤ 29) : ∀ (f : Nat) (xs : List Nat), xs.length ≤ 20000 → (∀ x ∈ xs, x < 536870912) → (levF w f xs).length ≤ 200 * xs.length
  | 0, _, _, _ => Nat.zero_le _
  | _ + 1, [], _, _ => Nat.zero_le _
  | f + 1, x :: r, hl, hx => by
    have sub : ∀ k, ∀ y ∈ (x :: r).drop k, y < 536870912 := fun k y hy => hx y (List.mem_of_mem_drop hy)
    have lenk : ∀ k, ((x :: r).drop k).length = (x :: r).length - k := fun k => List.length_drop
    unfold levF
    have h1 := runL_le (x :: r)
    have h2 := pieceL_le 32 (x :: r)
    have h3 := pieceL_lef 32 (x :: r)
    have hx0 := hx x (List.mem_cons_self ..)
    have p3 := putN_len 4 x (by omega)
    split
    · rename_i h4
      have p1 := putN_len 4 (2 * runL (x :: r)) (by omega)
      have q := levF_len w hw f ((x :: r).drop (runL (x :: r))) (by rw [lenk]; omega) (sub _)
      rw [lenk] at q
      simp only [List.length_append]
      omega
    · rename_i h4
      have hp := pieceL_pos h4
      have p1 := putN_len 4 (2 * pieceL 32 (x :: r) + 1) (by omega)
      have q := levF_len w hw f ((x :: r).drop (pieceL 32 (x :: r))) (by rw [lenk]; omega) (sub _)
      rw [lenk] at q
      have hpk := packN_len ((x :: r).take (pieceL 32 (x :: r))) w
      rw [List.length_take, Nat.min_eq_left h2] at hpk
      have hm : pieceL 32 (x :: r) * w ≤ 32 * 29 := Nat.mul_le_mul h3 hw
      simp only [List.length_append]
      omega
theorem putN_shrink (x : Nat) (h : x < 34359738368) : (putN x).length < 1000 := by
  have := putN_len 4 x (by omega)
  omega
theorem put_levels_ok (h : Has pr "put_levels" f_put_levels) (hw : Has pr "width_of" f_width_of) (hr : Has pr "run_length" f_run_length) (hp : Has pr "piece_length" f_piece_length) (hn : Has pr "put_number" f_put_number) (hk : Has pr "pack" f_pack)
    (n : Nat) (xs : List Nat) (most : Nat) (R : Row xs most) : tab sub pr (n + 3) "put_levels" [.list (iD xs), nD most] = .ok (.dat (.list (iD (levN xs most)))) := by
  rw [tab_def h rfl]
  unfold c_put_levels
  show rf (evSs _ _ [some (.dat (.list (iD xs))), some (.dat (nD most)), none, none, none, none]) = _
  have ew := width_of_ok (sub := sub) hw (n + 1) most
  have hl := R.len
  have hwl : widN most ≤ 29 := widN_le 29 most R.most
  unfold nD at ew ⊢
  simp only [K2_eq, kBin_eq, kRep_eq, kNeg_eq, kBool_eq, kCmp_eq, kCh3_eq, kCh2_eq, kCh1_eq, kAnd_eq, kOr_eq, kNot_eq, kIte_eq, kTup2_eq, kTup_eq, kLst2_eq, kLst_eq, kSub_eq, kS3_eq, kS2_eq, kS1_eq, kCall2_eq, kCall_eq, kBlt_eq, kLc_eq, kO_eq, kTv_eq, kTand_eq, kTor_eq, kTnot_eq, kEs2_eq, kEs1_eq, kIe2_eq, kIe_eq, kR1_eq, kR22_eq, kR21_eq, kA2_eq, kA1_eq, kAsg2_eq, kAsg_eq, kApp2_eq, kApp_eq, kEx_eq, kRet2_eq, kRet_eq, kSi_eq, kFor_eq, kRse2_eq, kRse_eq, evE_var, evE_con, evE_glb, evE_bin, evE_rep, evE_neg, evE_cmp, evE_chain, evE_and, evE_or, evE_not, evE_ite, evE_tup, evE_lst, evE_sub, evE_slc, evE_call, evE_blt, evE_lc, evO_no, evO_some, evTo_no, evTo_some, evT_val, evT_and, evT_or, evT_not, evEs_nil, evEs_cons, evI_e, evI_rng, evI_rng2, evS_asg, evS_app, evS_expr, evS_ret, evS_retN, evS_ite, evS_whl, evS_for, evS_brk, evS_cnt, evS_pass, evS_rse, evSs_nil, evSs_cons, asDs_nil, asDs_cons, sizeLine, turn_next, turn_cnt, turn_brk, turn_ret, turn_exn, test_t, test_f, bind_ok, bind_exn, bind_bad, so_ok, so_exn, so_bad, seq_next, seq_brk, seq_cnt, seq_ret, seq_exn, seq_bad, ofO_some, rofO_some, view_dat, view_lst, view_var, tree_dat, tree_lst, asD_dat, asD_lst, asD_var, get0, getS, set0, setS, getD0, getDS, add_ii, sub_ii, lt_ii, le_ii, gt_ii, ge_ii, eq_ii, ne_ii, len_l, len_t, int_i, int_b, abs_i, min_ii, max_ii, tru_b, neg_i, items_l, items_t, slc_l, slc_t, viewAll, ft_mk, fdiv_ii, mod_ii, mul_ii, and_self, true_and, and_true, or_true, true_or, Option.map_some, rf_next, rf_ret, rf_exn, Int.toNat_natCast, if_true, ite_true, decide_true, decide_false, reduceIte, List.length_cons, List.length_nil, Nat.zero_add, Nat.zero_le, List.map_cons, List.map_nil, Bool.not_true, Bool.not_false, Bool.false_eq_true, Nat.reducePow, Nat.reduceAdd, Nat.reduceLT, Nat.reduceLeDiff, Nat.reduceMul, Int.reduceLT, Int.reduceLE, Int.reduceNeg, Int.reducePow, Int.reduceAdd, Int.reduceSub, Int.reduceMul, Int.reduceToNat, Nat.reduceEqDiff, Int.reduceEq, ew]
  unfold levN
  generalize widN most = w at hwl ⊢
  have el : ((iD xs).length : Int) = (xs.length : Int) := by rw [iD_len]
  have hxs : ∀ x ∈ xs, x < 536870912 := fun x hx => Nat.lt_of_le_of_lt (R.le x hx) R.most
  by_cases hw0 : w = 0
  · subst hw0
    rw [if_pos rfl]
    refine whl_gen (Q := fun r => rf (So.seq r _) = _) (P := fun m Γ => Γ = [some (.dat (.list (iD xs))), some (.dat (.int (most : Int))), some (.dat (.int ((0 : Nat) : Int))), some (.lst []), some (.dat (.int 0)), none]) ?_ 0 _ rfl
    rintro m Γ rfl
    have hz : ¬ (0 : Int) < ((0 : Nat) : Int) := by omega
    by_cases h0 : (0 : Int) < (xs.length : Int)
    · simp only [K2_eq, kBin_eq, kRep_eq, kNeg_eq, kBool_eq, kCmp_eq, kCh3_eq, kCh2_eq, kCh1_eq, kAnd_eq, kOr_eq, kNot_eq, kIte_eq, kTup2_eq, kTup_eq, kLst2_eq, kLst_eq, kSub_eq, kS3_eq, kS2_eq, kS1_eq, kCall2_eq, kCall_eq, kBlt_eq, kLc_eq, kO_eq, kTv_eq, kTand_eq, kTor_eq, kTnot_eq, kEs2_eq, kEs1_eq, kIe2_eq, kIe_eq, kR1_eq, kR22_eq, kR21_eq, kA2_eq, kA1_eq, kAsg2_eq, kAsg_eq, kApp2_eq, kApp_eq, kEx_eq, kRet2_eq, kRet_eq, kSi_eq, kFor_eq, kRse2_eq, kRse_eq, evE_var, evE_con, evE_glb, evE_bin, evE_rep, evE_neg, evE_cmp, evE_chain, evE_and, evE_or, evE_not, evE_ite, evE_tup, evE_lst, evE_sub, evE_slc, evE_call, evE_blt, evE_lc, evO_no, evO_some, evTo_no, evTo_some, evT_val, evT_and, evT_or, evT_not, evEs_nil, evEs_cons, evI_e, evI_rng, evI_rng2, evS_asg, evS_app, evS_expr, evS_ret, evS_retN, evS_ite, evS_whl, evS_for, evS_brk, evS_cnt, evS_pass, evS_rse, evSs_nil, evSs_cons, asDs_nil, asDs_cons, sizeLine, turn_next, turn_cnt, turn_brk, turn_ret, turn_exn, test_t, test_f, bind_ok, bind_exn, bind_bad, so_ok, so_exn, so_bad, seq_next, seq_brk, seq_cnt, seq_ret, seq_exn, seq_bad, ofO_some, rofO_some, view_dat, view_lst, view_var, tree_dat, tree_lst, asD_dat, asD_lst, asD_var, get0, getS, set0, setS, getD0, getDS, add_ii, sub_ii, lt_ii, le_ii, gt_ii, ge_ii, eq_ii, ne_ii, len_l, len_t, int_i, int_b, abs_i, min_ii, max_ii, tru_b, neg_i, items_l, items_t, slc_l, slc_t, viewAll, ft_mk, fdiv_ii, mod_ii, mul_ii, and_self, true_and, and_true, or_true, true_or, Option.map_some, rf_next, rf_ret, rf_exn, Int.toNat_natCast, if_true, ite_true, decide_true, decide_false, reduceIte, List.length_cons, List.length_nil, Nat.zero_add, Nat.zero_le, List.map_cons, List.map_nil, Bool.not_true, Bool.not_false, Bool.false_eq_true, Nat.reducePow, Nat.reduceAdd, Nat.reduceLT, Nat.reduceLeDiff, Nat.reduceMul, Int.reduceLT, Int.reduceLE, Int.reduceNeg, Int.reducePow, Int.reduceAdd, Int.reduceSub, Int.reduceMul, Int.reduceToNat, Nat.reduceEqDiff, Int.reduceEq, el, h0, hz]
      rfl
    · simp only [K2_eq, kBin_eq, kRep_eq, kNeg_eq, kBool_eq, kCmp_eq, kCh3_eq, kCh2_eq, kCh1_eq, kAnd_eq, kOr_eq, kNot_eq, kIte_eq, kTup2_eq, kTup_eq, kLst2_eq, kLst_eq, kSub_eq, kS3_eq, kS2_eq, kS1_eq, kCall2_eq, kCall_eq, kBlt_eq, kLc_eq, kO_eq, kTv_eq, kTand_eq, kTor_eq, kTnot_eq, kEs2_eq, kEs1_eq, kIe2_eq, kIe_eq, kR1_eq, kR22_eq, kR21_eq, kA2_eq, kA1_eq, kAsg2_eq, kAsg_eq, kApp2_eq, kApp_eq, kEx_eq, kRet2_eq, kRet_eq, kSi_eq, kFor_eq, kRse2_eq, kRse_eq, evE_var, evE_con, evE_glb, evE_bin, evE_rep, evE_neg, evE_cmp, evE_chain, evE_and, evE_or, evE_not, evE_ite, evE_tup, evE_lst, evE_sub, evE_slc, evE_call, evE_blt, evE_lc, evO_no, evO_some, evTo_no, evTo_some, evT_val, evT_and, evT_or, evT_not, evEs_nil, evEs_cons, evI_e, evI_rng, evI_rng2, evS_asg, evS_app, evS_expr, evS_ret, evS_retN, evS_ite, evS_whl, evS_for, evS_brk, evS_cnt, evS_pass, evS_rse, evSs_nil, evSs_cons, asDs_nil, asDs_cons, sizeLine, turn_next, turn_cnt, turn_brk, turn_ret, turn_exn, test_t, test_f, bind_ok, bind_exn, bind_bad, so_ok, so_exn, so_bad, seq_next, seq_brk, seq_cnt, seq_ret, seq_exn, seq_bad, ofO_some, rofO_some, view_dat, view_lst, view_var, tree_dat, tree_lst, asD_dat, asD_lst, asD_var, get0, getS, set0, setS, getD0, getDS, add_ii, sub_ii, lt_ii, le_ii, gt_ii, ge_ii, eq_ii, ne_ii, len_l, len_t, int_i, int_b, abs_i, min_ii, max_ii, tru_b, neg_i, items_l, items_t, slc_l, slc_t, viewAll, ft_mk, fdiv_ii, mod_ii, mul_ii, and_self, true_and, and_true, or_true, true_or, Option.map_some, rf_next, rf_ret, rf_exn, Int.toNat_natCast, if_true, ite_true, decide_true, decide_false, reduceIte, List.length_cons, List.length_nil, Nat.zero_add, Nat.zero_le, List.map_cons, List.map_nil, Bool.not_true, Bool.not_false, Bool.false_eq_true, Nat.reducePow, Nat.reduceAdd, Nat.reduceLT, Nat.reduceLeDiff, Nat.reduceMul, Int.reduceLT, Int.reduceLE, Int.reduceNeg, Int.reducePow, Int.reduceAdd, Int.reduceSub, Int.reduceMul, Int.reduceToNat, Nat.reduceEqDiff, Int.reduceEq, el, h0]
      rfl
  · rw [if_neg hw0]
    have hlev := levF_len w hwl xs.length xs hl hxs
    refine whl_gen (Q := fun r => rf (So.seq r _) = _) (P := fun m Γ => ∃ (a f : Nat) (acc : List Nat) (o : Option Ow), Γ = [some (.dat (.list (iD xs))), some (.dat (.int (most : Int))), some (.dat (.int (w : Int))), some (.lst (iD acc)), some (.dat (.int (a : Int))), o] ∧ m = xs.length - a ∧ a ≤ xs.length ∧ xs.length - a ≤ f ∧ levF w xs.length xs = acc ++ levF w f (xs.drop a)) ?_ xs.length _ ⟨0, xs.length, [], none, rfl, rfl, by omega, by omega, rfl⟩
    rintro m Γ ⟨a, f, acc, o, rfl, rfl, h1, h2, h3⟩
    have hacc : acc.length ≤ 4000000 := by
      have := congrArg List.length h3
      rw [List.length_append] at this
      omega
    have hwp : (0 : Int) < (w : Int) := by omega
    by_cases ha : a < xs.length
    · have ha2 : (a : Int) < (xs.length : Int) := by omega
      obtain ⟨y, hy⟩ : ∃ y, xs[a]? = some y := ⟨xs[a], List.getElem?_eq_getElem ha⟩
      have hy0 := hxs y (List.mem_of_getElem? hy)
      have hrun := run_length_ok (sub := sub) hr (n + 1) xs a (by omega)
      have hdr := drop_cons hy
      have hrl := runL_le (xs.drop a)
      have hpl := pieceL_le 32 (xs.drop a)
      have hpf := pieceL_lef 32 (xs.drop a)
      rw [List.length_drop] at hrl hpl
      have hrp : 0 < runL (xs.drop a) := by rw [hdr]; exact runL_pos
      obtain ⟨f', hf⟩ : ∃ f', f = f' + 1 := ⟨f - 1, by omega⟩
      subst hf
      have h3' : levF w (f' + 1) (xs.drop a) = if 4 ≤ runL (xs.drop a) then putN (2 * runL (xs.drop a)) ++ putN y ++ levF w f' ((xs.drop a).drop (runL (xs.drop a)))
        else putN (2 * pieceL 32 (xs.drop a) + 1) ++ packN ((xs.drop a).take (pieceL 32 (xs.drop a))) w ++ levF w f' ((xs.drop a).drop (pieceL 32 (xs.drop a))) := by
        rw [hdr]
        rfl
      rw [h3', List.drop_drop, List.drop_drop] at h3
      by_cases h4 : 4 ≤ runL (xs.drop a)
      · have h4b : (4 : Int) ≤ ((runL (xs.drop a) : Nat) : Int) := by omega
        rw [if_pos h4] at h3
        have n1 := put_number_ok (sub := sub) hn (n + 1) (2 * runL (xs.drop a)) (putN_shrink _ (by omega))
        have n2 := put_number_ok (sub := sub) hn (n + 1) y (putN_shrink _ (by omega))
        unfold nD at n1 n2 hrun
        have e2 : (((2 * runL (xs.drop a) : Nat)) : Int) = 2 * ((runL (xs.drop a) : Nat) : Int) := by omega
        rw [e2] at n1
        have l1 := putN_shrink (2 * runL (xs.drop a)) (by omega)
        have l2 := putN_shrink y (by omega)
        generalize runL (xs.drop a) = rl at *
        have a1 : binD .add (.list (iD acc)) (.list (iD (putN (2 * rl)))) = some (.lst (iD acc ++ iD (putN (2 * rl)))) := add_ll (by rw [iD_len, iD_len]; show _ ≤ 2 ^ 24; omega)
        have a2 : binD .add (.list (iD acc ++ iD (putN (2 * rl)))) (.list (iD (putN y))) = some (.lst (iD acc ++ iD (putN (2 * rl)) ++ iD (putN y))) := add_ll (by rw [List.length_append, iD_len, iD_len, iD_len]; show _ ≤ 2 ^ 24; omega)
        simp only [K2_eq, kBin_eq, kRep_eq, kNeg_eq, kBool_eq, kCmp_eq, kCh3_eq, kCh2_eq, kCh1_eq, kAnd_eq, kOr_eq, kNot_eq, kIte_eq, kTup2_eq, kTup_eq, kLst2_eq, kLst_eq, kSub_eq, kS3_eq, kS2_eq, kS1_eq, kCall2_eq, kCall_eq, kBlt_eq, kLc_eq, kO_eq, kTv_eq, kTand_eq, kTor_eq, kTnot_eq, kEs2_eq, kEs1_eq, kIe2_eq, kIe_eq, kR1_eq, kR22_eq, kR21_eq, kA2_eq, kA1_eq, kAsg2_eq, kAsg_eq, kApp2_eq, kApp_eq, kEx_eq, kRet2_eq, kRet_eq, kSi_eq, kFor_eq, kRse2_eq, kRse_eq, evE_var, evE_con, evE_glb, evE_bin, evE_rep, evE_neg, evE_cmp, evE_chain, evE_and, evE_or, evE_not, evE_ite, evE_tup, evE_lst, evE_sub, evE_slc, evE_call, evE_blt, evE_lc, evO_no, evO_some, evTo_no, evTo_some, evT_val, evT_and, evT_or, evT_not, evEs_nil, evEs_cons, evI_e, evI_rng, evI_rng2, evS_asg, evS_app, evS_expr, evS_ret, evS_retN, evS_ite, evS_whl, evS_for, evS_brk, evS_cnt, evS_pass, evS_rse, evSs_nil, evSs_cons, asDs_nil, asDs_cons, sizeLine, turn_next, turn_cnt, turn_brk, turn_ret, turn_exn, test_t, test_f, bind_ok, bind_exn, bind_bad, so_ok, so_exn, so_bad, seq_next, seq_brk, seq_cnt, seq_ret, seq_exn, seq_bad, ofO_some, rofO_some, view_dat, view_lst, view_var, tree_dat, tree_lst, asD_dat, asD_lst, asD_var, get0, getS, set0, setS, getD0, getDS, add_ii, sub_ii, lt_ii, le_ii, gt_ii, ge_ii, eq_ii, ne_ii, len_l, len_t, int_i, int_b, abs_i, min_ii, max_ii, tru_b, neg_i, items_l, items_t, slc_l, slc_t, viewAll, ft_mk, fdiv_ii, mod_ii, mul_ii, and_self, true_and, and_true, or_true, true_or, Option.map_some, rf_next, rf_ret, rf_exn, Int.toNat_natCast, if_true, ite_true, decide_true, decide_false, reduceIte, List.length_cons, List.length_nil, Nat.zero_add, Nat.zero_le, List.map_cons, List.map_nil, Bool.not_true, Bool.not_false, Bool.false_eq_true, Nat.reducePow, Nat.reduceAdd, Nat.reduceLT, Nat.reduceLeDiff, Nat.reduceMul, Int.reduceLT, Int.reduceLE, Int.reduceNeg, Int.reducePow, Int.reduceAdd, Int.reduceSub, Int.reduceMul, Int.reduceToNat, Nat.reduceEqDiff, Int.reduceEq, el, ha2, hwp, hrun, h4b, n1, n2, a1, a2, sub_nat hy]
        refine ⟨xs.length - (a + rl), by omega, a + rl, f', acc ++ putN (2 * rl) ++ putN y, some (.dat (.int (rl : Int))), ?_, rfl, by omega, by omega, ?_⟩
        · rw [← iD_app, ← iD_app]
          simp
        · rw [h3]
          simp
      · have h4b : ¬ (4 : Int) ≤ ((runL (xs.drop a) : Nat) : Int) := by omega
        rw [if_neg h4] at h3
        have hpp : 0 < pieceL 32 (xs.drop a) := by
          rw [hdr] at h4 ⊢
          exact pieceL_pos h4
        have hpi := piece_length_ok (sub := sub) hp hr n xs a (by omega)
        have n1 := put_number_ok (sub := sub) hn (n + 1) (2 * pieceL 32 (xs.drop a) + 1) (putN_shrink _ (by omega))
        unfold nD at n1 hrun hpi
        have e2 : (((2 * pieceL 32 (xs.drop a) + 1 : Nat)) : Int) = 2 * ((pieceL 32 (xs.drop a) : Nat) : Int) + 1 := by omega
        rw [e2] at n1
        have l1 := putN_shrink (2 * pieceL 32 (xs.drop a) + 1) (by omega)
        generalize pieceL 32 (xs.drop a) = pl at *
        have hcut := cut_nat (xs := xs) (a := a) (b := a + pl) (by omega) (by omega)
        have e3 : ((a + pl : Nat) : Int) = (a : Int) + (pl : Int) := by omega
        rw [e3, show a + pl - a = pl by omega] at hcut
        have hm : pl * w ≤ 32 * 29 := Nat.mul_le_mul hpf hwl
        have htl : ((xs.drop a).take pl).length = pl := by rw [List.length_take, List.length_drop]; omega
        have hpk := pack_ok (sub := sub) hk (n + 1) ((xs.drop a).take pl) w (fun x hx => by
          have := hxs x (List.mem_of_mem_drop (List.mem_of_mem_take hx))
          omega) (by omega) (by omega) (by rw [htl]; omega)
        unfold nD at hpk
        have l3 := packN_len ((xs.drop a).take pl) w
        rw [htl] at l3
        have a1 : binD .add (.list (iD acc)) (.list (iD (putN (2 * pl + 1)))) = some (.lst (iD acc ++ iD (putN (2 * pl + 1)))) := add_ll (by rw [iD_len, iD_len]; show _ ≤ 2 ^ 24; omega)
        have a2 : binD .add (.list (iD acc ++ iD (putN (2 * pl + 1)))) (.list (iD (packN ((xs.drop a).take pl) w))) = some (.lst (iD acc ++ iD (putN (2 * pl + 1)) ++ iD (packN ((xs.drop a).take pl) w))) := add_ll (by rw [List.length_append, iD_len, iD_len, iD_len]; show _ ≤ 2 ^ 24; omega)
        simp only [K2_eq, kBin_eq, kRep_eq, kNeg_eq, kBool_eq, kCmp_eq, kCh3_eq, kCh2_eq, kCh1_eq, kAnd_eq, kOr_eq, kNot_eq, kIte_eq, kTup2_eq, kTup_eq, kLst2_eq, kLst_eq, kSub_eq, kS3_eq, kS2_eq, kS1_eq, kCall2_eq, kCall_eq, kBlt_eq, kLc_eq, kO_eq, kTv_eq, kTand_eq, kTor_eq, kTnot_eq, kEs2_eq, kEs1_eq, kIe2_eq, kIe_eq, kR1_eq, kR22_eq, kR21_eq, kA2_eq, kA1_eq, kAsg2_eq, kAsg_eq, kApp2_eq, kApp_eq, kEx_eq, kRet2_eq, kRet_eq, kSi_eq, kFor_eq, kRse2_eq, kRse_eq, evE_var, evE_con, evE_glb, evE_bin, evE_rep, evE_neg, evE_cmp, evE_chain, evE_and, evE_or, evE_not, evE_ite, evE_tup, evE_lst, evE_sub, evE_slc, evE_call, evE_blt, evE_lc, evO_no, evO_some, evTo_no, evTo_some, evT_val, evT_and, evT_or, evT_not, evEs_nil, evEs_cons, evI_e, evI_rng, evI_rng2, evS_asg, evS_app, evS_expr, evS_ret, evS_retN, evS_ite, evS_whl, evS_for, evS_brk, evS_cnt, evS_pass, evS_rse, evSs_nil, evSs_cons, asDs_nil, asDs_cons, sizeLine, turn_next, turn_cnt, turn_brk, turn_ret, turn_exn, test_t, test_f, bind_ok, bind_exn, bind_bad, so_ok, so_exn, so_bad, seq_next, seq_brk, seq_cnt, seq_ret, seq_exn, seq_bad, ofO_some, rofO_some, view_dat, view_lst, view_var, tree_dat, tree_lst, asD_dat, asD_lst, asD_var, get0, getS, set0, setS, getD0, getDS, add_ii, sub_ii, lt_ii, le_ii, gt_ii, ge_ii, eq_ii, ne_ii, len_l, len_t, int_i, int_b, abs_i, min_ii, max_ii, tru_b, neg_i, items_l, items_t, slc_l, slc_t, viewAll, ft_mk, fdiv_ii, mod_ii, mul_ii, and_self, true_and, and_true, or_true, true_or, Option.map_some, rf_next, rf_ret, rf_exn, Int.toNat_natCast, if_true, ite_true, decide_true, decide_false, reduceIte, List.length_cons, List.length_nil, Nat.zero_add, Nat.zero_le, List.map_cons, List.map_nil, Bool.not_true, Bool.not_false, Bool.false_eq_true, Nat.reducePow, Nat.reduceAdd, Nat.reduceLT, Nat.reduceLeDiff, Nat.reduceMul, Int.reduceLT, Int.reduceLE, Int.reduceNeg, Int.reducePow, Int.reduceAdd, Int.reduceSub, Int.reduceMul, Int.reduceToNat, Nat.reduceEqDiff, Int.reduceEq, el, ha2, hwp, hrun, h4b, hpi, n1, hcut, hpk, a1, a2]
        refine ⟨xs.length - (a + pl), by omega, a + pl, f', acc ++ putN (2 * pl + 1) ++ packN ((xs.drop a).take pl) w, some (.dat (.int (pl : Int))), ?_, rfl, by omega, by omega, ?_⟩
        · rw [← iD_app, ← iD_app]
          simp
        · rw [h3]
          simp
    · have ha2 : ¬ (a : Int) < (xs.length : Int) := by omega
      have e0 : levF w f (xs.drop a) = [] := by
        rw [List.drop_eq_nil_of_le (by omega)]
        cases f <;> rfl
      simp only [K2_eq, kBin_eq, kRep_eq, kNeg_eq, kBool_eq, kCmp_eq, kCh3_eq, kCh2_eq, kCh1_eq, kAnd_eq, kOr_eq, kNot_eq, kIte_eq, kTup2_eq, kTup_eq, kLst2_eq, kLst_eq, kSub_eq, kS3_eq, kS2_eq, kS1_eq, kCall2_eq, kCall_eq, kBlt_eq, kLc_eq, kO_eq, kTv_eq, kTand_eq, kTor_eq, kTnot_eq, kEs2_eq, kEs1_eq, kIe2_eq, kIe_eq, kR1_eq, kR22_eq, kR21_eq, kA2_eq, kA1_eq, kAsg2_eq, kAsg_eq, kApp2_eq, kApp_eq, kEx_eq, kRet2_eq, kRet_eq, kSi_eq, kFor_eq, kRse2_eq, kRse_eq, evE_var, evE_con, evE_glb, evE_bin, evE_rep, evE_neg, evE_cmp, evE_chain, evE_and, evE_or, evE_not, evE_ite, evE_tup, evE_lst, evE_sub, evE_slc, evE_call, evE_blt, evE_lc, evO_no, evO_some, evTo_no, evTo_some, evT_val, evT_and, evT_or, evT_not, evEs_nil, evEs_cons, evI_e, evI_rng, evI_rng2, evS_asg, evS_app, evS_expr, evS_ret, evS_retN, evS_ite, evS_whl, evS_for, evS_brk, evS_cnt, evS_pass, evS_rse, evSs_nil, evSs_cons, asDs_nil, asDs_cons, sizeLine, turn_next, turn_cnt, turn_brk, turn_ret, turn_exn, test_t, test_f, bind_ok, bind_exn, bind_bad, so_ok, so_exn, so_bad, seq_next, seq_brk, seq_cnt, seq_ret, seq_exn, seq_bad, ofO_some, rofO_some, view_dat, view_lst, view_var, tree_dat, tree_lst, asD_dat, asD_lst, asD_var, get0, getS, set0, setS, getD0, getDS, add_ii, sub_ii, lt_ii, le_ii, gt_ii, ge_ii, eq_ii, ne_ii, len_l, len_t, int_i, int_b, abs_i, min_ii, max_ii, tru_b, neg_i, items_l, items_t, slc_l, slc_t, viewAll, ft_mk, fdiv_ii, mod_ii, mul_ii, and_self, true_and, and_true, or_true, true_or, Option.map_some, rf_next, rf_ret, rf_exn, Int.toNat_natCast, if_true, ite_true, decide_true, decide_false, reduceIte, List.length_cons, List.length_nil, Nat.zero_add, Nat.zero_le, List.map_cons, List.map_nil, Bool.not_true, Bool.not_false, Bool.false_eq_true, Nat.reducePow, Nat.reduceAdd, Nat.reduceLT, Nat.reduceLeDiff, Nat.reduceMul, Int.reduceLT, Int.reduceLE, Int.reduceNeg, Int.reducePow, Int.reduceAdd, Int.reduceSub, Int.reduceMul, Int.reduceToNat, Nat.reduceEqDiff, Int.reduceEq, el, ha2]
      rw [h3, e0, List.append_nil]
end M1
end

section
set_option linter.all false
set_option maxRecDepth 100000
set_option maxHeartbeats 4000000
namespace M1
open PySem Tv PF
variable {sub : Str → Str → Option Bool} {pr : Tb}
/-! ### levels read -/
/-- an answer, or BadFile with some word -/
def Res (o : Option (List Nat × Nat)) (r : Rf) : Prop := match o with
  | some (xs, p) => r = .ok (.dat (.tuple [.list (iD xs), nD p]))
  | none => ∃ s, r = badF s
def unpackO (data : List Nat) (at_ count w : Nat) : Option (List Nat × Nat) :=
  if data.length < at_ + (count * w + 7) / 8 then none
  else if fromB ((data.drop at_).take ((count * w + 7) / 8)) / (2 ^ w) ^ count ≠ 0 then none
  else some (digs (2 ^ w) count (fromB ((data.drop at_).take ((count * w + 7) / 8))), at_ + (count * w + 7) / 8)
theorem unpackR_some {data : List Nat} {at_ count w : Nat} {xs : List Nat} {p : Nat} (h : unpackO data at_ count w = some (xs, p)) : unpackR data at_ count w = .ok (.dat (.tuple [.list (iD xs), nD p])) ∧ p ≤ data.length ∧ at_ ≤ p ∧ xs.length = count := by
  unfold unpackO at h
  unfold unpackR
  split at h
  · cases h
  · rename_i h1
    split at h
    · cases h
    · rename_i h2
      cases h
      rw [if_neg h1, if_neg h2]
      exact ⟨rfl, by omega, by omega, digs_len _ _ _⟩
theorem unpackR_none {data : List Nat} {at_ count w : Nat} (h : unpackO data at_ count w = none) : unpackR data at_ count w = badF "bits" := by
  unfold unpackO at h
  unfold unpackR
  split at h
  · rename_i h1
    rw [if_pos h1]
  · rename_i h1
    split at h
    · rename_i h2
      rw [if_neg h1, if_pos h2]
    · cases h
theorem tk_le : ∀ {f : Nat} {b : Bool} {l : List Nat} {v k : Nat}, tk f b l = some (v, k) → k ≤ l.length ∧ 1 ≤ k
  | 0, _, _, _, _, h => by cases h
  | _ + 1, _, [], _, _, h => by cases h
  | f + 1, b, x :: r, v, k, h => by
    unfold tk at h
    split at h
    · split at h
      · cases h
      · cases h
        simp
    · cases e : tk f false r with
      | none => rw [e] at h; cases h
      | some p =>
        obtain ⟨v', k'⟩ := p
        rw [e] at h
        cases h
        have := (tk_le e).1
        simp
        omega
theorem takeN_le {data : List Nat} {at_ v p : Nat} (h : takeN data at_ = some (v, p)) (ha : at_ ≤ data.length) : p ≤ data.length ∧ at_ ≤ p := by
  unfold takeN at h
  cases e : tk 5 true (data.drop at_) with
  | none => rw [e] at h; cases h
  | some q =>
    obtain ⟨v', k⟩ := q
    rw [e] at h
    cases h
    have := (tk_le e).1
    rw [List.length_drop] at this
    omega
theorem set_many2 {i j : Nat} {x y : D} {Γ : Tv.Env} : setTg (.many [i, j]) (.tuple [x, y]) Γ = if i < Γ.length ∧ j < Γ.length then some ((Γ.set i (some (.dat x))).set j (some (.dat y))) else none := by
  unfold setTg
  simp
/-- the loop -/
def tlv (data : List Nat) (count w : Nat) : Nat → Nat → List Nat → Option (List Nat × Nat)
  | 0, a, acc => some (acc, a)
  | f + 1, a, acc => if acc.length < count then (match takeN data a with
    | none => none
    | some (head, a1) => if head / 2 = 0 ∨ count < acc.length + head / 2 then none
      else if head % 2 = 0 then (match takeN data a1 with
        | none => none
        | some (v, a2) => tlv data count w f a2 (acc ++ List.replicate (head / 2) v))
      else (match unpackO data a1 (head / 2) w with
        | none => none
        | some (xs, a2) => tlv data count w f a2 (acc ++ xs)))
    else some (acc, a)
def fin (most : Nat) (o : Option (List Nat × Nat)) : Option (List Nat × Nat) := match o with
  | none => none
  | some (xs, p) => if xs.any (fun x => decide (most < x)) then none else some (xs, p)
def takeLv (data : List Nat) (a count most : Nat) : Option (List Nat × Nat) := if widN most = 0 then some (List.replicate count 0, a) else fin most (tlv data count (widN most) count a [])
theorem rep_nat {v k : Nat} (hk : k ≤ 1000000) : repD [PyData.int (v : Int)] (.int (k : Int)) = some (.lst (iD (List.replicate k v))) := by
  show askd (-(2 ^ 63) ≤ (k : Int) ∧ (k : Int) < 2 ^ 63 ∧ [PyData.int (v : Int)].length * (k : Int).toNat ≤ sizeLine) _ _ = _
  rw [askd_t ⟨by omega, by omega, by show 1 * (k : Int).toNat ≤ 2 ^ 24; omega⟩]
  congr 2
  rw [Int.toNat_natCast]
  unfold iD
  rw [List.map_replicate]
  clear hk
  induction k with
  | zero => rfl
  | succ k ih =>
    rw [List.replicate_succ, List.flatten_cons, ih, List.replicate_succ]
    rfl
theorem bools_map {xs : List Nat} {q : Nat → Bool} : boolsOf (xs.map fun x => PyData.bool (q x)) = some (xs.map q) := by
  induction xs with
  | nil => rfl
  | cons x r ih =>
    show (boolsOf (r.map fun x => PyData.bool (q x))).map (q x :: ·) = _
    rw [ih]
    rfl
theorem take_levels_ok (h : Has pr "take_levels" f_take_levels) (hw : Has pr "width_of" f_width_of) (hn : Has pr "take_number" f_take_number) (hu : Has pr "unpack" f_unpack)
    (n : Nat) (data : List Nat) (a0 count most : Nat) (hd : data.length < 10000000) (ha0 : a0 ≤ data.length) (hc : count ≤ 1000) (hm : most < 536870912) : Res (takeLv data a0 count most) (tab sub pr (n + 2) "take_levels" [.list (iD data), nD a0, nD count, nD most]) := by
  rw [tab_def h rfl]
  unfold c_take_levels
  show Res _ (rf (evSs _ _ [some (.dat (.list (iD data))), some (.dat (nD a0)), some (.dat (nD count)), some (.dat (nD most)), none, none, none, none, none, none, none]))
  have ew := width_of_ok (sub := sub) hw n most
  have hwl : widN most ≤ 29 := widN_le 29 most hm
  unfold nD at ew ⊢
  unfold takeLv
  generalize widN most = w at hwl ew ⊢
  by_cases hw0 : w = 0
  · subst hw0
    have hw1 : ((0 : Nat) : Int) = 0 := rfl
    have r1 := rep_nat (v := 0) (k := count) (by omega)
    simp only [K2_eq, kBin_eq, kRep_eq, kNeg_eq, kBool_eq, kCmp_eq, kCh3_eq, kCh2_eq, kCh1_eq, kAnd_eq, kOr_eq, kNot_eq, kIte_eq, kTup2_eq, kTup_eq, kLst2_eq, kLst_eq, kSub_eq, kS3_eq, kS2_eq, kS1_eq, kCall2_eq, kCall_eq, kBlt_eq, kLc_eq, kO_eq, kTv_eq, kTand_eq, kTor_eq, kTnot_eq, kEs2_eq, kEs1_eq, kIe2_eq, kIe_eq, kR1_eq, kR22_eq, kR21_eq, kA2_eq, kA1_eq, kAsg2_eq, kAsg_eq, kApp2_eq, kApp_eq, kEx_eq, kRet2_eq, kRet_eq, kSi_eq, kFor_eq, kRse2_eq, kRse_eq, evE_var, evE_con, evE_glb, evE_bin, evE_rep, evE_neg, evE_cmp, evE_chain, evE_and, evE_or, evE_not, evE_ite, evE_tup, evE_lst, evE_sub, evE_slc, evE_call, evE_blt, evE_lc, evO_no, evO_some, evTo_no, evTo_some, evT_val, evT_and, evT_or, evT_not, evEs_nil, evEs_cons, evI_e, evI_rng, evI_rng2, evS_asg, evS_app, evS_expr, evS_ret, evS_retN, evS_ite, evS_whl, evS_for, evS_brk, evS_cnt, evS_pass, evS_rse, evSs_nil, evSs_cons, asDs_nil, asDs_cons, sizeLine, turn_next, turn_cnt, turn_brk, turn_ret, turn_exn, test_t, test_f, bind_ok, bind_exn, bind_bad, so_ok, so_exn, so_bad, seq_next, seq_brk, seq_cnt, seq_ret, seq_exn, seq_bad, ofO_some, rofO_some, view_dat, view_lst, view_var, tree_dat, tree_lst, asD_dat, asD_lst, asD_var, get0, getS, set0, setS, getD0, getDS, add_ii, sub_ii, lt_ii, le_ii, gt_ii, ge_ii, eq_ii, ne_ii, len_l, len_t, int_i, int_b, abs_i, min_ii, max_ii, tru_b, neg_i, items_l, items_t, slc_l, slc_t, viewAll, ft_mk, fdiv_ii, mod_ii, mul_ii, and_self, true_and, and_true, or_true, true_or, Option.map_some, rf_next, rf_ret, rf_exn, Int.toNat_natCast, if_true, ite_true, decide_true, decide_false, reduceIte, List.length_cons, List.length_nil, Nat.zero_add, Nat.zero_le, List.map_cons, List.map_nil, Bool.not_true, Bool.not_false, Bool.false_eq_true, Nat.reducePow, Nat.reduceAdd, Nat.reduceLT, Nat.reduceLeDiff, Nat.reduceMul, Int.reduceLT, Int.reduceLE, Int.reduceNeg, Int.reducePow, Int.reduceAdd, Int.reduceSub, Int.reduceMul, Int.reduceToNat, Nat.reduceEqDiff, Int.reduceEq, ew, hw1]
    have r2 : repD [PyData.int 0] (PyData.int (count : Int)) = some (.lst (iD (List.replicate count 0))) := r1
    simp only [K2_eq, kBin_eq, kRep_eq, kNeg_eq, kBool_eq, kCmp_eq, kCh3_eq, kCh2_eq, kCh1_eq, kAnd_eq, kOr_eq, kNot_eq, kIte_eq, kTup2_eq, kTup_eq, kLst2_eq, kLst_eq, kSub_eq, kS3_eq, kS2_eq, kS1_eq, kCall2_eq, kCall_eq, kBlt_eq, kLc_eq, kO_eq, kTv_eq, kTand_eq, kTor_eq, kTnot_eq, kEs2_eq, kEs1_eq, kIe2_eq, kIe_eq, kR1_eq, kR22_eq, kR21_eq, kA2_eq, kA1_eq, kAsg2_eq, kAsg_eq, kApp2_eq, kApp_eq, kEx_eq, kRet2_eq, kRet_eq, kSi_eq, kFor_eq, kRse2_eq, kRse_eq, evE_var, evE_con, evE_glb, evE_bin, evE_rep, evE_neg, evE_cmp, evE_chain, evE_and, evE_or, evE_not, evE_ite, evE_tup, evE_lst, evE_sub, evE_slc, evE_call, evE_blt, evE_lc, evO_no, evO_some, evTo_no, evTo_some, evT_val, evT_and, evT_or, evT_not, evEs_nil, evEs_cons, evI_e, evI_rng, evI_rng2, evS_asg, evS_app, evS_expr, evS_ret, evS_retN, evS_ite, evS_whl, evS_for, evS_brk, evS_cnt, evS_pass, evS_rse, evSs_nil, evSs_cons, asDs_nil, asDs_cons, sizeLine, turn_next, turn_cnt, turn_brk, turn_ret, turn_exn, test_t, test_f, bind_ok, bind_exn, bind_bad, so_ok, so_exn, so_bad, seq_next, seq_brk, seq_cnt, seq_ret, seq_exn, seq_bad, ofO_some, rofO_some, view_dat, view_lst, view_var, tree_dat, tree_lst, asD_dat, asD_lst, asD_var, get0, getS, set0, setS, getD0, getDS, add_ii, sub_ii, lt_ii, le_ii, gt_ii, ge_ii, eq_ii, ne_ii, len_l, len_t, int_i, int_b, abs_i, min_ii, max_ii, tru_b, neg_i, items_l, items_t, slc_l, slc_t, viewAll, ft_mk, fdiv_ii, mod_ii, mul_ii, and_self, true_and, and_true, or_true, true_or, Option.map_some, rf_next, rf_ret, rf_exn, Int.toNat_natCast, if_true, ite_true, decide_true, decide_false, reduceIte, List.length_cons, List.length_nil, Nat.zero_add, Nat.zero_le, List.map_cons, List.map_nil, Bool.not_true, Bool.not_false, Bool.false_eq_true, Nat.reducePow, Nat.reduceAdd, Nat.reduceLT, Nat.reduceLeDiff, Nat.reduceMul, Int.reduceLT, Int.reduceLE, Int.reduceNeg, Int.reducePow, Int.reduceAdd, Int.reduceSub, Int.reduceMul, Int.reduceToNat, Nat.reduceEqDiff, Int.reduceEq, r2]
    rfl
  · have hw1 : ¬ (w : Int) = 0 := by omega
    rw [if_neg hw0]
    simp only [K2_eq, kBin_eq, kRep_eq, kNeg_eq, kBool_eq, kCmp_eq, kCh3_eq, kCh2_eq, kCh1_eq, kAnd_eq, kOr_eq, kNot_eq, kIte_eq, kTup2_eq, kTup_eq, kLst2_eq, kLst_eq, kSub_eq, kS3_eq, kS2_eq, kS1_eq, kCall2_eq, kCall_eq, kBlt_eq, kLc_eq, kO_eq, kTv_eq, kTand_eq, kTor_eq, kTnot_eq, kEs2_eq, kEs1_eq, kIe2_eq, kIe_eq, kR1_eq, kR22_eq, kR21_eq, kA2_eq, kA1_eq, kAsg2_eq, kAsg_eq, kApp2_eq, kApp_eq, kEx_eq, kRet2_eq, kRet_eq, kSi_eq, kFor_eq, kRse2_eq, kRse_eq, evE_var, evE_con, evE_glb, evE_bin, evE_rep, evE_neg, evE_cmp, evE_chain, evE_and, evE_or, evE_not, evE_ite, evE_tup, evE_lst, evE_sub, evE_slc, evE_call, evE_blt, evE_lc, evO_no, evO_some, evTo_no, evTo_some, evT_val, evT_and, evT_or, evT_not, evEs_nil, evEs_cons, evI_e, evI_rng, evI_rng2, evS_asg, evS_app, evS_expr, evS_ret, evS_retN, evS_ite, evS_whl, evS_for, evS_brk, evS_cnt, evS_pass, evS_rse, evSs_nil, evSs_cons, asDs_nil, asDs_cons, sizeLine, turn_next, turn_cnt, turn_brk, turn_ret, turn_exn, test_t, test_f, bind_ok, bind_exn, bind_bad, so_ok, so_exn, so_bad, seq_next, seq_brk, seq_cnt, seq_ret, seq_exn, seq_bad, ofO_some, rofO_some, view_dat, view_lst, view_var, tree_dat, tree_lst, asD_dat, asD_lst, asD_var, get0, getS, set0, setS, getD0, getDS, add_ii, sub_ii, lt_ii, le_ii, gt_ii, ge_ii, eq_ii, ne_ii, len_l, len_t, int_i, int_b, abs_i, min_ii, max_ii, tru_b, neg_i, items_l, items_t, slc_l, slc_t, viewAll, ft_mk, fdiv_ii, mod_ii, mul_ii, and_self, true_and, and_true, or_true, true_or, Option.map_some, rf_next, rf_ret, rf_exn, Int.toNat_natCast, if_true, ite_true, decide_true, decide_false, reduceIte, List.length_cons, List.length_nil, Nat.zero_add, Nat.zero_le, List.map_cons, List.map_nil, Bool.not_true, Bool.not_false, Bool.false_eq_true, Nat.reducePow, Nat.reduceAdd, Nat.reduceLT, Nat.reduceLeDiff, Nat.reduceMul, Int.reduceLT, Int.reduceLE, Int.reduceNeg, Int.reducePow, Int.reduceAdd, Int.reduceSub, Int.reduceMul, Int.reduceToNat, Nat.reduceEqDiff, Int.reduceEq, ew, hw1]
    have el : ((iD data).length : Int) = (data.length : Int) := by rw [iD_len]
    refine whl_gen (Q := fun r => Res _ (rf (So.seq r _))) (P := fun m Γ => ∃ (a f : Nat) (acc : List Nat) (o1 o2 o3 o4 : Option Ow), Γ = [some (.dat (.list (iD data))), some (.dat (.int (a : Int))), some (.dat (.int (count : Int))), some (.dat (.int (most : Int))), some (.dat (.int (w : Int))), some (.lst (iD acc)), o1, o2, o3, o4, none] ∧ m = count - acc.length ∧ count - acc.length ≤ f ∧ acc.length ≤ count ∧ a ≤ data.length ∧ tlv data count w count a0 [] = tlv data count w f a acc) ?_ count _ ⟨a0, count, [], none, none, none, none, rfl, by simp, by simp, by simp, ha0, rfl⟩
    rintro m Γ ⟨a, f, acc, o1, o2, o3, o4, rfl, rfl, h1, h2, h3, h5⟩
    have ea : ((iD acc).length : Int) = (acc.length : Int) := by rw [iD_len]
    rw [h5]
    by_cases hlt : acc.length < count
    · have hlt2 : (acc.length : Int) < (count : Int) := by omega
      obtain ⟨f', rfl⟩ : ∃ f', f = f' + 1 := ⟨f - 1, by omega⟩
      have e1 := take_number_ok (sub := sub) hn n data a
      have ht : tlv data count w (f' + 1) a acc = (match takeN data a with
        | none => none
        | some (head, a1) => if head / 2 = 0 ∨ count < acc.length + head / 2 then none
          else if head % 2 = 0 then (match takeN data a1 with
            | none => none
            | some (v, a2) => tlv data count w f' a2 (acc ++ List.replicate (head / 2) v))
          else (match unpackO data a1 (head / 2) w with
            | none => none
            | some (xs, a2) => tlv data count w f' a2 (acc ++ xs))) := if_pos hlt
      cases t1 : takeN data a with
      | none =>
        rw [t1] at e1 ht
        simp only [takeR, nD, badF] at e1
        dsimp only at ht
        rw [ht]
        simp only [K2_eq, kBin_eq, kRep_eq, kNeg_eq, kBool_eq, kCmp_eq, kCh3_eq, kCh2_eq, kCh1_eq, kAnd_eq, kOr_eq, kNot_eq, kIte_eq, kTup2_eq, kTup_eq, kLst2_eq, kLst_eq, kSub_eq, kS3_eq, kS2_eq, kS1_eq, kCall2_eq, kCall_eq, kBlt_eq, kLc_eq, kO_eq, kTv_eq, kTand_eq, kTor_eq, kTnot_eq, kEs2_eq, kEs1_eq, kIe2_eq, kIe_eq, kR1_eq, kR22_eq, kR21_eq, kA2_eq, kA1_eq, kAsg2_eq, kAsg_eq, kApp2_eq, kApp_eq, kEx_eq, kRet2_eq, kRet_eq, kSi_eq, kFor_eq, kRse2_eq, kRse_eq, evE_var, evE_con, evE_glb, evE_bin, evE_rep, evE_neg, evE_cmp, evE_chain, evE_and, evE_or, evE_not, evE_ite, evE_tup, evE_lst, evE_sub, evE_slc, evE_call, evE_blt, evE_lc, evO_no, evO_some, evTo_no, evTo_some, evT_val, evT_and, evT_or, evT_not, evEs_nil, evEs_cons, evI_e, evI_rng, evI_rng2, evS_asg, evS_app, evS_expr, evS_ret, evS_retN, evS_ite, evS_whl, evS_for, evS_brk, evS_cnt, evS_pass, evS_rse, evSs_nil, evSs_cons, asDs_nil, asDs_cons, sizeLine, turn_next, turn_cnt, turn_brk, turn_ret, turn_exn, test_t, test_f, bind_ok, bind_exn, bind_bad, so_ok, so_exn, so_bad, seq_next, seq_brk, seq_cnt, seq_ret, seq_exn, seq_bad, ofO_some, rofO_some, view_dat, view_lst, view_var, tree_dat, tree_lst, asD_dat, asD_lst, asD_var, get0, getS, set0, setS, getD0, getDS, add_ii, sub_ii, lt_ii, le_ii, gt_ii, ge_ii, eq_ii, ne_ii, len_l, len_t, int_i, int_b, abs_i, min_ii, max_ii, tru_b, neg_i, items_l, items_t, slc_l, slc_t, viewAll, ft_mk, fdiv_ii, mod_ii, mul_ii, and_self, true_and, and_true, or_true, true_or, Option.map_some, rf_next, rf_ret, rf_exn, Int.toNat_natCast, if_true, ite_true, decide_true, decide_false, reduceIte, List.length_cons, List.length_nil, Nat.zero_add, Nat.zero_le, List.map_cons, List.map_nil, Bool.not_true, Bool.not_false, Bool.false_eq_true, Nat.reducePow, Nat.reduceAdd, Nat.reduceLT, Nat.reduceLeDiff, Nat.reduceMul, Int.reduceLT, Int.reduceLE, Int.reduceNeg, Int.reducePow, Int.reduceAdd, Int.reduceSub, Int.reduceMul, Int.reduceToNat, Nat.reduceEqDiff, Int.reduceEq, ea, hlt2, e1]
        exact ⟨_, rfl⟩
      | some q =>
        obtain ⟨v, a1⟩ := q
        rw [t1] at e1 ht
        obtain ⟨b1, b2⟩ := takeN_le t1 h3
        simp only [takeR, nD] at e1
        dsimp only at ht
        have en : (v : Int) / 2 = ((v / 2 : Nat) : Int) := by omega
        generalize hl : v / 2 = l at en ht
        by_cases hl0 : l = 0
        · have hl1 : ((l : Nat) : Int) = 0 := by omega
          rw [if_pos (.inl hl0)] at ht
          rw [ht]
          simp only [K2_eq, kBin_eq, kRep_eq, kNeg_eq, kBool_eq, kCmp_eq, kCh3_eq, kCh2_eq, kCh1_eq, kAnd_eq, kOr_eq, kNot_eq, kIte_eq, kTup2_eq, kTup_eq, kLst2_eq, kLst_eq, kSub_eq, kS3_eq, kS2_eq, kS1_eq, kCall2_eq, kCall_eq, kBlt_eq, kLc_eq, kO_eq, kTv_eq, kTand_eq, kTor_eq, kTnot_eq, kEs2_eq, kEs1_eq, kIe2_eq, kIe_eq, kR1_eq, kR22_eq, kR21_eq, kA2_eq, kA1_eq, kAsg2_eq, kAsg_eq, kApp2_eq, kApp_eq, kEx_eq, kRet2_eq, kRet_eq, kSi_eq, kFor_eq, kRse2_eq, kRse_eq, evE_var, evE_con, evE_glb, evE_bin, evE_rep, evE_neg, evE_cmp, evE_chain, evE_and, evE_or, evE_not, evE_ite, evE_tup, evE_lst, evE_sub, evE_slc, evE_call, evE_blt, evE_lc, evO_no, evO_some, evTo_no, evTo_some, evT_val, evT_and, evT_or, evT_not, evEs_nil, evEs_cons, evI_e, evI_rng, evI_rng2, evS_asg, evS_app, evS_expr, evS_ret, evS_retN, evS_ite, evS_whl, evS_for, evS_brk, evS_cnt, evS_pass, evS_rse, evSs_nil, evSs_cons, asDs_nil, asDs_cons, sizeLine, turn_next, turn_cnt, turn_brk, turn_ret, turn_exn, test_t, test_f, bind_ok, bind_exn, bind_bad, so_ok, so_exn, so_bad, seq_next, seq_brk, seq_cnt, seq_ret, seq_exn, seq_bad, ofO_some, rofO_some, view_dat, view_lst, view_var, tree_dat, tree_lst, asD_dat, asD_lst, asD_var, get0, getS, set0, setS, getD0, getDS, add_ii, sub_ii, lt_ii, le_ii, gt_ii, ge_ii, eq_ii, ne_ii, len_l, len_t, int_i, int_b, abs_i, min_ii, max_ii, tru_b, neg_i, items_l, items_t, slc_l, slc_t, viewAll, ft_mk, fdiv_ii, mod_ii, mul_ii, and_self, true_and, and_true, or_true, true_or, Option.map_some, rf_next, rf_ret, rf_exn, Int.toNat_natCast, if_true, ite_true, decide_true, decide_false, reduceIte, List.length_cons, List.length_nil, Nat.zero_add, Nat.zero_le, List.map_cons, List.map_nil, Bool.not_true, Bool.not_false, Bool.false_eq_true, Nat.reducePow, Nat.reduceAdd, Nat.reduceLT, Nat.reduceLeDiff, Nat.reduceMul, Int.reduceLT, Int.reduceLE, Int.reduceNeg, Int.reducePow, Int.reduceAdd, Int.reduceSub, Int.reduceMul, Int.reduceToNat, Nat.reduceEqDiff, Int.reduceEq, ea, hlt2, e1, set_many2, en, hl1, xokD]
          exact ⟨_, rfl⟩
        · have hl1 : ¬ ((l : Nat) : Int) = 0 := by omega
          by_cases hbig : count < acc.length + l
          · have hbig2 : (count : Int) < (acc.length : Int) + (l : Int) := by omega
            rw [if_pos (.inr hbig)] at ht
            rw [ht]
            simp only [K2_eq, kBin_eq, kRep_eq, kNeg_eq, kBool_eq, kCmp_eq, kCh3_eq, kCh2_eq, kCh1_eq, kAnd_eq, kOr_eq, kNot_eq, kIte_eq, kTup2_eq, kTup_eq, kLst2_eq, kLst_eq, kSub_eq, kS3_eq, kS2_eq, kS1_eq, kCall2_eq, kCall_eq, kBlt_eq, kLc_eq, kO_eq, kTv_eq, kTand_eq, kTor_eq, kTnot_eq, kEs2_eq, kEs1_eq, kIe2_eq, kIe_eq, kR1_eq, kR22_eq, kR21_eq, kA2_eq, kA1_eq, kAsg2_eq, kAsg_eq, kApp2_eq, kApp_eq, kEx_eq, kRet2_eq, kRet_eq, kSi_eq, kFor_eq, kRse2_eq, kRse_eq, evE_var, evE_con, evE_glb, evE_bin, evE_rep, evE_neg, evE_cmp, evE_chain, evE_and, evE_or, evE_not, evE_ite, evE_tup, evE_lst, evE_sub, evE_slc, evE_call, evE_blt, evE_lc, evO_no, evO_some, evTo_no, evTo_some, evT_val, evT_and, evT_or, evT_not, evEs_nil, evEs_cons, evI_e, evI_rng, evI_rng2, evS_asg, evS_app, evS_expr, evS_ret, evS_retN, evS_ite, evS_whl, evS_for, evS_brk, evS_cnt, evS_pass, evS_rse, evSs_nil, evSs_cons, asDs_nil, asDs_cons, sizeLine, turn_next, turn_cnt, turn_brk, turn_ret, turn_exn, test_t, test_f, bind_ok, bind_exn, bind_bad, so_ok, so_exn, so_bad, seq_next, seq_brk, seq_cnt, seq_ret, seq_exn, seq_bad, ofO_some, rofO_some, view_dat, view_lst, view_var, tree_dat, tree_lst, asD_dat, asD_lst, asD_var, get0, getS, set0, setS, getD0, getDS, add_ii, sub_ii, lt_ii, le_ii, gt_ii, ge_ii, eq_ii, ne_ii, len_l, len_t, int_i, int_b, abs_i, min_ii, max_ii, tru_b, neg_i, items_l, items_t, slc_l, slc_t, viewAll, ft_mk, fdiv_ii, mod_ii, mul_ii, and_self, true_and, and_true, or_true, true_or, Option.map_some, rf_next, rf_ret, rf_exn, Int.toNat_natCast, if_true, ite_true, decide_true, decide_false, reduceIte, List.length_cons, List.length_nil, Nat.zero_add, Nat.zero_le, List.map_cons, List.map_nil, Bool.not_true, Bool.not_false, Bool.false_eq_true, Nat.reducePow, Nat.reduceAdd, Nat.reduceLT, Nat.reduceLeDiff, Nat.reduceMul, Int.reduceLT, Int.reduceLE, Int.reduceNeg, Int.reducePow, Int.reduceAdd, Int.reduceSub, Int.reduceMul, Int.reduceToNat, Nat.reduceEqDiff, Int.reduceEq, ea, hlt2, e1, set_many2, en, hl1, hbig2, xokD]
            exact ⟨_, rfl⟩
          · have hbig2 : ¬ (count : Int) < (acc.length : Int) + (l : Int) := by omega
            rw [if_neg (by omega)] at ht
            by_cases hpar : v % 2 = 0
            · have hpar2 : (v : Int) % 2 = 0 := by omega
              rw [if_pos hpar] at ht
              have e2 := take_number_ok (sub := sub) hn n data a1
              cases t2 : takeN data a1 with
              | none =>
                rw [t2] at e2 ht
                simp only [takeR, nD, badF] at e2
                dsimp only at ht
                rw [ht]
                simp only [K2_eq, kBin_eq, kRep_eq, kNeg_eq, kBool_eq, kCmp_eq, kCh3_eq, kCh2_eq, kCh1_eq, kAnd_eq, kOr_eq, kNot_eq, kIte_eq, kTup2_eq, kTup_eq, kLst2_eq, kLst_eq, kSub_eq, kS3_eq, kS2_eq, kS1_eq, kCall2_eq, kCall_eq, kBlt_eq, kLc_eq, kO_eq, kTv_eq, kTand_eq, kTor_eq, kTnot_eq, kEs2_eq, kEs1_eq, kIe2_eq, kIe_eq, kR1_eq, kR22_eq, kR21_eq, kA2_eq, kA1_eq, kAsg2_eq, kAsg_eq, kApp2_eq, kApp_eq, kEx_eq, kRet2_eq, kRet_eq, kSi_eq, kFor_eq, kRse2_eq, kRse_eq, evE_var, evE_con, evE_glb, evE_bin, evE_rep, evE_neg, evE_cmp, evE_chain, evE_and, evE_or, evE_not, evE_ite, evE_tup, evE_lst, evE_sub, evE_slc, evE_call, evE_blt, evE_lc, evO_no, evO_some, evTo_no, evTo_some, evT_val, evT_and, evT_or, evT_not, evEs_nil, evEs_cons, evI_e, evI_rng, evI_rng2, evS_asg, evS_app, evS_expr, evS_ret, evS_retN, evS_ite, evS_whl, evS_for, evS_brk, evS_cnt, evS_pass, evS_rse, evSs_nil, evSs_cons, asDs_nil, asDs_cons, sizeLine, turn_next, turn_cnt, turn_brk, turn_ret, turn_exn, test_t, test_f, bind_ok, bind_exn, bind_bad, so_ok, so_exn, so_bad, seq_next, seq_brk, seq_cnt, seq_ret, seq_exn, seq_bad, ofO_some, rofO_some, view_dat, view_lst, view_var, tree_dat, tree_lst, asD_dat, asD_lst, asD_var, get0, getS, set0, setS, getD0, getDS, add_ii, sub_ii, lt_ii, le_ii, gt_ii, ge_ii, eq_ii, ne_ii, len_l, len_t, int_i, int_b, abs_i, min_ii, max_ii, tru_b, neg_i, items_l, items_t, slc_l, slc_t, viewAll, ft_mk, fdiv_ii, mod_ii, mul_ii, and_self, true_and, and_true, or_true, true_or, Option.map_some, rf_next, rf_ret, rf_exn, Int.toNat_natCast, if_true, ite_true, decide_true, decide_false, reduceIte, List.length_cons, List.length_nil, Nat.zero_add, Nat.zero_le, List.map_cons, List.map_nil, Bool.not_true, Bool.not_false, Bool.false_eq_true, Nat.reducePow, Nat.reduceAdd, Nat.reduceLT, Nat.reduceLeDiff, Nat.reduceMul, Int.reduceLT, Int.reduceLE, Int.reduceNeg, Int.reducePow, Int.reduceAdd, Int.reduceSub, Int.reduceMul, Int.reduceToNat, Nat.reduceEqDiff, Int.reduceEq, ea, hlt2, e1, set_many2, en, hl1, hbig2, hpar2, e2]
                exact ⟨_, rfl⟩
              | some q =>
                obtain ⟨v2, a2⟩ := q
                rw [t2] at e2 ht
                obtain ⟨b3, b4⟩ := takeN_le t2 b1
                simp only [takeR, nD] at e2
                dsimp only at ht
                have r1 := rep_nat (v := v2) (k := l) (by omega)
                have a1 : binD .add (.list (iD acc)) (.list (iD (List.replicate l v2))) = some (.lst (iD acc ++ iD (List.replicate l v2))) := add_ll (by rw [iD_len, iD_len, List.length_replicate]; show _ ≤ 2 ^ 24; omega)
                simp only [K2_eq, kBin_eq, kRep_eq, kNeg_eq, kBool_eq, kCmp_eq, kCh3_eq, kCh2_eq, kCh1_eq, kAnd_eq, kOr_eq, kNot_eq, kIte_eq, kTup2_eq, kTup_eq, kLst2_eq, kLst_eq, kSub_eq, kS3_eq, kS2_eq, kS1_eq, kCall2_eq, kCall_eq, kBlt_eq, kLc_eq, kO_eq, kTv_eq, kTand_eq, kTor_eq, kTnot_eq, kEs2_eq, kEs1_eq, kIe2_eq, kIe_eq, kR1_eq, kR22_eq, kR21_eq, kA2_eq, kA1_eq, kAsg2_eq, kAsg_eq, kApp2_eq, kApp_eq, kEx_eq, kRet2_eq, kRet_eq, kSi_eq, kFor_eq, kRse2_eq, kRse_eq, evE_var, evE_con, evE_glb, evE_bin, evE_rep, evE_neg, evE_cmp, evE_chain, evE_and, evE_or, evE_not, evE_ite, evE_tup, evE_lst, evE_sub, evE_slc, evE_call, evE_blt, evE_lc, evO_no, evO_some, evTo_no, evTo_some, evT_val, evT_and, evT_or, evT_not, evEs_nil, evEs_cons, evI_e, evI_rng, evI_rng2, evS_asg, evS_app, evS_expr, evS_ret, evS_retN, evS_ite, evS_whl, evS_for, evS_brk, evS_cnt, evS_pass, evS_rse, evSs_nil, evSs_cons, asDs_nil, asDs_cons, sizeLine, turn_next, turn_cnt, turn_brk, turn_ret, turn_exn, test_t, test_f, bind_ok, bind_exn, bind_bad, so_ok, so_exn, so_bad, seq_next, seq_brk, seq_cnt, seq_ret, seq_exn, seq_bad, ofO_some, rofO_some, view_dat, view_lst, view_var, tree_dat, tree_lst, asD_dat, asD_lst, asD_var, get0, getS, set0, setS, getD0, getDS, add_ii, sub_ii, lt_ii, le_ii, gt_ii, ge_ii, eq_ii, ne_ii, len_l, len_t, int_i, int_b, abs_i, min_ii, max_ii, tru_b, neg_i, items_l, items_t, slc_l, slc_t, viewAll, ft_mk, fdiv_ii, mod_ii, mul_ii, and_self, true_and, and_true, or_true, true_or, Option.map_some, rf_next, rf_ret, rf_exn, Int.toNat_natCast, if_true, ite_true, decide_true, decide_false, reduceIte, List.length_cons, List.length_nil, Nat.zero_add, Nat.zero_le, List.map_cons, List.map_nil, Bool.not_true, Bool.not_false, Bool.false_eq_true, Nat.reducePow, Nat.reduceAdd, Nat.reduceLT, Nat.reduceLeDiff, Nat.reduceMul, Int.reduceLT, Int.reduceLE, Int.reduceNeg, Int.reducePow, Int.reduceAdd, Int.reduceSub, Int.reduceMul, Int.reduceToNat, Nat.reduceEqDiff, Int.reduceEq, ea, hlt2, e1, set_many2, en, hl1, hbig2, hpar2, e2, r1, a1]
                refine ⟨count - (acc.length + l), by omega, a2, f', acc ++ List.replicate l v2, _, _, _, _, by rw [← iD_app], ?_, ?_, ?_, b3, ht⟩
                · simp
                · simp; omega
                · simp; omega
            · have hpar2 : ¬ (v : Int) % 2 = 0 := by omega
              rw [if_neg hpar] at ht
              have hm2 : l * w ≤ 1000 * 29 := Nat.mul_le_mul (by omega) hwl
              have e2 := unpack_ok (sub := sub) hu n data a1 l w (by omega) (by omega) (by omega) (by omega)
              cases t2 : unpackO data a1 l w with
              | none =>
                rw [unpackR_none t2] at e2
                rw [t2] at ht
                unfold nD badF at e2
                dsimp only at ht
                rw [ht]
                simp only [K2_eq, kBin_eq, kRep_eq, kNeg_eq, kBool_eq, kCmp_eq, kCh3_eq, kCh2_eq, kCh1_eq, kAnd_eq, kOr_eq, kNot_eq, kIte_eq, kTup2_eq, kTup_eq, kLst2_eq, kLst_eq, kSub_eq, kS3_eq, kS2_eq, kS1_eq, kCall2_eq, kCall_eq, kBlt_eq, kLc_eq, kO_eq, kTv_eq, kTand_eq, kTor_eq, kTnot_eq, kEs2_eq, kEs1_eq, kIe2_eq, kIe_eq, kR1_eq, kR22_eq, kR21_eq, kA2_eq, kA1_eq, kAsg2_eq, kAsg_eq, kApp2_eq, kApp_eq, kEx_eq, kRet2_eq, kRet_eq, kSi_eq, kFor_eq, kRse2_eq, kRse_eq, evE_var, evE_con, evE_glb, evE_bin, evE_rep, evE_neg, evE_cmp, evE_chain, evE_and, evE_or, evE_not, evE_ite, evE_tup, evE_lst, evE_sub, evE_slc, evE_call, evE_blt, evE_lc, evO_no, evO_some, evTo_no, evTo_some, evT_val, evT_and, evT_or, evT_not, evEs_nil, evEs_cons, evI_e, evI_rng, evI_rng2, evS_asg, evS_app, evS_expr, evS_ret, evS_retN, evS_ite, evS_whl, evS_for, evS_brk, evS_cnt, evS_pass, evS_rse, evSs_nil, evSs_cons, asDs_nil, asDs_cons, sizeLine, turn_next, turn_cnt, turn_brk, turn_ret, turn_exn, test_t, test_f, bind_ok, bind_exn, bind_bad, so_ok, so_exn, so_bad, seq_next, seq_brk, seq_cnt, seq_ret, seq_exn, seq_bad, ofO_some, rofO_some, view_dat, view_lst, view_var, tree_dat, tree_lst, asD_dat, asD_lst, asD_var, get0, getS, set0, setS, getD0, getDS, add_ii, sub_ii, lt_ii, le_ii, gt_ii, ge_ii, eq_ii, ne_ii, len_l, len_t, int_i, int_b, abs_i, min_ii, max_ii, tru_b, neg_i, items_l, items_t, slc_l, slc_t, viewAll, ft_mk, fdiv_ii, mod_ii, mul_ii, and_self, true_and, and_true, or_true, true_or, Option.map_some, rf_next, rf_ret, rf_exn, Int.toNat_natCast, if_true, ite_true, decide_true, decide_false, reduceIte, List.length_cons, List.length_nil, Nat.zero_add, Nat.zero_le, List.map_cons, List.map_nil, Bool.not_true, Bool.not_false, Bool.false_eq_true, Nat.reducePow, Nat.reduceAdd, Nat.reduceLT, Nat.reduceLeDiff, Nat.reduceMul, Int.reduceLT, Int.reduceLE, Int.reduceNeg, Int.reducePow, Int.reduceAdd, Int.reduceSub, Int.reduceMul, Int.reduceToNat, Nat.reduceEqDiff, Int.reduceEq, ea, hlt2, e1, set_many2, en, hl1, hbig2, hpar2, e2]
                exact ⟨_, rfl⟩
              | some q =>
                obtain ⟨xs, a2⟩ := q
                obtain ⟨u1, u2, u3, u4⟩ := unpackR_some t2
                rw [u1] at e2
                rw [t2] at ht
                unfold nD at e2
                dsimp only at ht
                have a1 : binD .add (.list (iD acc)) (.list (iD xs)) = some (.lst (iD acc ++ iD xs)) := add_ll (by rw [iD_len, iD_len]; show _ ≤ 2 ^ 24; omega)
                simp only [K2_eq, kBin_eq, kRep_eq, kNeg_eq, kBool_eq, kCmp_eq, kCh3_eq, kCh2_eq, kCh1_eq, kAnd_eq, kOr_eq, kNot_eq, kIte_eq, kTup2_eq, kTup_eq, kLst2_eq, kLst_eq, kSub_eq, kS3_eq, kS2_eq, kS1_eq, kCall2_eq, kCall_eq, kBlt_eq, kLc_eq, kO_eq, kTv_eq, kTand_eq, kTor_eq, kTnot_eq, kEs2_eq, kEs1_eq, kIe2_eq, kIe_eq, kR1_eq, kR22_eq, kR21_eq, kA2_eq, kA1_eq, kAsg2_eq, kAsg_eq, kApp2_eq, kApp_eq, kEx_eq, kRet2_eq, kRet_eq, kSi_eq, kFor_eq, kRse2_eq, kRse_eq, evE_var, evE_con, evE_glb, evE_bin, evE_rep, evE_neg, evE_cmp, evE_chain, evE_and, evE_or, evE_not, evE_ite, evE_tup, evE_lst, evE_sub, evE_slc, evE_call, evE_blt, evE_lc, evO_no, evO_some, evTo_no, evTo_some, evT_val, evT_and, evT_or, evT_not, evEs_nil, evEs_cons, evI_e, evI_rng, evI_rng2, evS_asg, evS_app, evS_expr, evS_ret, evS_retN, evS_ite, evS_whl, evS_for, evS_brk, evS_cnt, evS_pass, evS_rse, evSs_nil, evSs_cons, asDs_nil, asDs_cons, sizeLine, turn_next, turn_cnt, turn_brk, turn_ret, turn_exn, test_t, test_f, bind_ok, bind_exn, bind_bad, so_ok, so_exn, so_bad, seq_next, seq_brk, seq_cnt, seq_ret, seq_exn, seq_bad, ofO_some, rofO_some, view_dat, view_lst, view_var, tree_dat, tree_lst, asD_dat, asD_lst, asD_var, get0, getS, set0, setS, getD0, getDS, add_ii, sub_ii, lt_ii, le_ii, gt_ii, ge_ii, eq_ii, ne_ii, len_l, len_t, int_i, int_b, abs_i, min_ii, max_ii, tru_b, neg_i, items_l, items_t, slc_l, slc_t, viewAll, ft_mk, fdiv_ii, mod_ii, mul_ii, and_self, true_and, and_true, or_true, true_or, Option.map_some, rf_next, rf_ret, rf_exn, Int.toNat_natCast, if_true, ite_true, decide_true, decide_false, reduceIte, List.length_cons, List.length_nil, Nat.zero_add, Nat.zero_le, List.map_cons, List.map_nil, Bool.not_true, Bool.not_false, Bool.false_eq_true, Nat.reducePow, Nat.reduceAdd, Nat.reduceLT, Nat.reduceLeDiff, Nat.reduceMul, Int.reduceLT, Int.reduceLE, Int.reduceNeg, Int.reducePow, Int.reduceAdd, Int.reduceSub, Int.reduceMul, Int.reduceToNat, Nat.reduceEqDiff, Int.reduceEq, ea, hlt2, e1, set_many2, en, hl1, hbig2, hpar2, e2, a1]
                refine ⟨count - (acc.length + l), by omega, a2, f', acc ++ xs, _, _, _, _, by rw [← iD_app], ?_, ?_, ?_, u2, ht⟩
                · simp [u4]
                · simp; omega
                · simp; omega
    · have hlt2 : ¬ (acc.length : Int) < (count : Int) := by omega
      have ht : tlv data count w f a acc = some (acc, a) := by
        cases f with
        | zero => rfl
        | succ f => exact if_neg hlt
      rw [ht]
      have hz : (iD acc).length < 16777216 := by rw [iD_len]; omega
      have hcv : coverable [some (.dat (.list (iD data))), some (.dat (.int (a : Int))), some (.dat (.int (count : Int))), some (.dat (.int (most : Int))), some (.dat (.int (w : Int))), some (.dat (.list (iD acc))), o1, o2, o3, o4, none] 10 = true := rfl
      obtain ⟨Γ', hlc, hΓ⟩ := lc_gen (v := 10) (t := evTo ⟨tab sub pr (n + 1), sub⟩ .no) (e := evE ⟨tab sub pr (n + 1), sub⟩ (.cmp .gt (.var 10) (.var 3))) (P := fun Γ => Γ = [some (.dat (.list (iD data))), some (.dat (.int (a : Int))), some (.dat (.int (count : Int))), some (.dat (.int (most : Int))), some (.dat (.int (w : Int))), some (.dat (.list (iD acc))), o1, o2, o3, o4, none])
        (f := fun d => match d with
          | .int i => some (.bool (decide ((most : Int) < i)))
          | _ => none) (iD acc) _ rfl (fun d Γ hd hP => by
            subst hP
            obtain ⟨x, hx, rfl⟩ := List.mem_map.mp hd
            refine ⟨_, _, _, _, rfl, rfl, rfl, rfl, rfl⟩)
      subst hΓ
      have hfm : (iD acc).filterMap (fun d => match d with
          | .int i => some (.bool (decide ((most : Int) < i)))
          | _ => none) = acc.map fun x => PyData.bool (decide (most < x)) := by
        clear hlc hcv hz ht hlt2 hlt ea h1 h2 h5
        induction acc with
        | nil => rfl
        | cons x r ih =>
          show PyData.bool (decide ((most : Int) < (x : Int))) :: (iD r).filterMap _ = _
          rw [ih]
          show _ = PyData.bool (decide (most < x)) :: _
          congr 2
          apply decide_eq_decide.mpr
          omega
      rw [hfm] at hlc
      have hany : bltD .any [.list (acc.map fun x => PyData.bool (decide (most < x)))] = some (.dat (.bool (acc.any fun x => decide (most < x)))) := by
        show (boolsOf _).map _ = _
        rw [bools_map]
        simp [List.any_map]
      simp only [K2_eq, kBin_eq, kRep_eq, kNeg_eq, kBool_eq, kCmp_eq, kCh3_eq, kCh2_eq, kCh1_eq, kAnd_eq, kOr_eq, kNot_eq, kIte_eq, kTup2_eq, kTup_eq, kLst2_eq, kLst_eq, kSub_eq, kS3_eq, kS2_eq, kS1_eq, kCall2_eq, kCall_eq, kBlt_eq, kLc_eq, kO_eq, kTv_eq, kTand_eq, kTor_eq, kTnot_eq, kEs2_eq, kEs1_eq, kIe2_eq, kIe_eq, kR1_eq, kR22_eq, kR21_eq, kA2_eq, kA1_eq, kAsg2_eq, kAsg_eq, kApp2_eq, kApp_eq, kEx_eq, kRet2_eq, kRet_eq, kSi_eq, kFor_eq, kRse2_eq, kRse_eq, evE_var, evE_con, evE_glb, evE_bin, evE_rep, evE_neg, evE_cmp, evE_chain, evE_and, evE_or, evE_not, evE_ite, evE_tup, evE_lst, evE_sub, evE_slc, evE_call, evE_blt, evE_lc, evO_no, evO_some, evTo_no, evTo_some, evT_val, evT_and, evT_or, evT_not, evEs_nil, evEs_cons, evI_e, evI_rng, evI_rng2, evS_asg, evS_app, evS_expr, evS_ret, evS_retN, evS_ite, evS_whl, evS_for, evS_brk, evS_cnt, evS_pass, evS_rse, evSs_nil, evSs_cons, asDs_nil, asDs_cons, sizeLine, turn_next, turn_cnt, turn_brk, turn_ret, turn_exn, test_t, test_f, bind_ok, bind_exn, bind_bad, so_ok, so_exn, so_bad, seq_next, seq_brk, seq_cnt, seq_ret, seq_exn, seq_bad, ofO_some, rofO_some, view_dat, view_lst, view_var, tree_dat, tree_lst, asD_dat, asD_lst, asD_var, get0, getS, set0, setS, getD0, getDS, add_ii, sub_ii, lt_ii, le_ii, gt_ii, ge_ii, eq_ii, ne_ii, len_l, len_t, int_i, int_b, abs_i, min_ii, max_ii, tru_b, neg_i, items_l, items_t, slc_l, slc_t, viewAll, ft_mk, fdiv_ii, mod_ii, mul_ii, and_self, true_and, and_true, or_true, true_or, Option.map_some, rf_next, rf_ret, rf_exn, Int.toNat_natCast, if_true, ite_true, decide_true, decide_false, reduceIte, List.length_cons, List.length_nil, Nat.zero_add, Nat.zero_le, List.map_cons, List.map_nil, Bool.not_true, Bool.not_false, Bool.false_eq_true, Nat.reducePow, Nat.reduceAdd, Nat.reduceLT, Nat.reduceLeDiff, Nat.reduceMul, Int.reduceLT, Int.reduceLE, Int.reduceNeg, Int.reducePow, Int.reduceAdd, Int.reduceSub, Int.reduceMul, Int.reduceToNat, Nat.reduceEqDiff, Int.reduceEq, ea, hlt2, hz, hcv, hlc, hany]
      unfold fin
      dsimp only
      cases hq : acc.any (fun x => decide (most < x)) with
      | true =>
        simp only [K2_eq, kBin_eq, kRep_eq, kNeg_eq, kBool_eq, kCmp_eq, kCh3_eq, kCh2_eq, kCh1_eq, kAnd_eq, kOr_eq, kNot_eq, kIte_eq, kTup2_eq, kTup_eq, kLst2_eq, kLst_eq, kSub_eq, kS3_eq, kS2_eq, kS1_eq, kCall2_eq, kCall_eq, kBlt_eq, kLc_eq, kO_eq, kTv_eq, kTand_eq, kTor_eq, kTnot_eq, kEs2_eq, kEs1_eq, kIe2_eq, kIe_eq, kR1_eq, kR22_eq, kR21_eq, kA2_eq, kA1_eq, kAsg2_eq, kAsg_eq, kApp2_eq, kApp_eq, kEx_eq, kRet2_eq, kRet_eq, kSi_eq, kFor_eq, kRse2_eq, kRse_eq, evE_var, evE_con, evE_glb, evE_bin, evE_rep, evE_neg, evE_cmp, evE_chain, evE_and, evE_or, evE_not, evE_ite, evE_tup, evE_lst, evE_sub, evE_slc, evE_call, evE_blt, evE_lc, evO_no, evO_some, evTo_no, evTo_some, evT_val, evT_and, evT_or, evT_not, evEs_nil, evEs_cons, evI_e, evI_rng, evI_rng2, evS_asg, evS_app, evS_expr, evS_ret, evS_retN, evS_ite, evS_whl, evS_for, evS_brk, evS_cnt, evS_pass, evS_rse, evSs_nil, evSs_cons, asDs_nil, asDs_cons, sizeLine, turn_next, turn_cnt, turn_brk, turn_ret, turn_exn, test_t, test_f, bind_ok, bind_exn, bind_bad, so_ok, so_exn, so_bad, seq_next, seq_brk, seq_cnt, seq_ret, seq_exn, seq_bad, ofO_some, rofO_some, view_dat, view_lst, view_var, tree_dat, tree_lst, asD_dat, asD_lst, asD_var, get0, getS, set0, setS, getD0, getDS, add_ii, sub_ii, lt_ii, le_ii, gt_ii, ge_ii, eq_ii, ne_ii, len_l, len_t, int_i, int_b, abs_i, min_ii, max_ii, tru_b, neg_i, items_l, items_t, slc_l, slc_t, viewAll, ft_mk, fdiv_ii, mod_ii, mul_ii, and_self, true_and, and_true, or_true, true_or, Option.map_some, rf_next, rf_ret, rf_exn, Int.toNat_natCast, if_true, ite_true, decide_true, decide_false, reduceIte, List.length_cons, List.length_nil, Nat.zero_add, Nat.zero_le, List.map_cons, List.map_nil, Bool.not_true, Bool.not_false, Bool.false_eq_true, Nat.reducePow, Nat.reduceAdd, Nat.reduceLT, Nat.reduceLeDiff, Nat.reduceMul, Int.reduceLT, Int.reduceLE, Int.reduceNeg, Int.reducePow, Int.reduceAdd, Int.reduceSub, Int.reduceMul, Int.reduceToNat, Nat.reduceEqDiff, Int.reduceEq, xokD]
        exact ⟨_, rfl⟩
      | false =>
        simp only [K2_eq, kBin_eq, kRep_eq, kNeg_eq, kBool_eq, kCmp_eq, kCh3_eq, kCh2_eq, kCh1_eq, kAnd_eq, kOr_eq, kNot_eq, kIte_eq, kTup2_eq, kTup_eq, kLst2_eq, kLst_eq, kSub_eq, kS3_eq, kS2_eq, kS1_eq, kCall2_eq, kCall_eq, kBlt_eq, kLc_eq, kO_eq, kTv_eq, kTand_eq, kTor_eq, kTnot_eq, kEs2_eq, kEs1_eq, kIe2_eq, kIe_eq, kR1_eq, kR22_eq, kR21_eq, kA2_eq, kA1_eq, kAsg2_eq, kAsg_eq, kApp2_eq, kApp_eq, kEx_eq, kRet2_eq, kRet_eq, kSi_eq, kFor_eq, kRse2_eq, kRse_eq, evE_var, evE_con, evE_glb, evE_bin, evE_rep, evE_neg, evE_cmp, evE_chain, evE_and, evE_or, evE_not, evE_ite, evE_tup, evE_lst, evE_sub, evE_slc, evE_call, evE_blt, evE_lc, evO_no, evO_some, evTo_no, evTo_some, evT_val, evT_and, evT_or, evT_not, evEs_nil, evEs_cons, evI_e, evI_rng, evI_rng2, evS_asg, evS_app, evS_expr, evS_ret, evS_retN, evS_ite, evS_whl, evS_for, evS_brk, evS_cnt, evS_pass, evS_rse, evSs_nil, evSs_cons, asDs_nil, asDs_cons, sizeLine, turn_next, turn_cnt, turn_brk, turn_ret, turn_exn, test_t, test_f, bind_ok, bind_exn, bind_bad, so_ok, so_exn, so_bad, seq_next, seq_brk, seq_cnt, seq_ret, seq_exn, seq_bad, ofO_some, rofO_some, view_dat, view_lst, view_var, tree_dat, tree_lst, asD_dat, asD_lst, asD_var, get0, getS, set0, setS, getD0, getDS, add_ii, sub_ii, lt_ii, le_ii, gt_ii, ge_ii, eq_ii, ne_ii, len_l, len_t, int_i, int_b, abs_i, min_ii, max_ii, tru_b, neg_i, items_l, items_t, slc_l, slc_t, viewAll, ft_mk, fdiv_ii, mod_ii, mul_ii, and_self, true_and, and_true, or_true, true_or, Option.map_some, rf_next, rf_ret, rf_exn, Int.toNat_natCast, if_true, ite_true, decide_true, decide_false, reduceIte, List.length_cons, List.length_nil, Nat.zero_add, Nat.zero_le, List.map_cons, List.map_nil, Bool.not_true, Bool.not_false, Bool.false_eq_true, Nat.reducePow, Nat.reduceAdd, Nat.reduceLT, Nat.reduceLeDiff, Nat.reduceMul, Int.reduceLT, Int.reduceLE, Int.reduceNeg, Int.reducePow, Int.reduceAdd, Int.reduceSub, Int.reduceMul, Int.reduceToNat, Nat.reduceEqDiff, Int.reduceEq]
        rfl
end M1
end

section
set_option linter.all false
set_option maxRecDepth 100000
set_option maxHeartbeats 2000000
namespace M1
open PySem Tv PF
/-! ### reading what was written -/
theorem tk_put : ∀ (f x : Nat) (b : Bool) (post : List Nat), x < 128 ^ (f + 1) → (b = true ∨ x ≠ 0) → tk (f + 1) b (putN x ++ post) = some (x, (putN x).length)
  | f, x, b, post, h, hb => by
    by_cases hx : x < 128
    · rw [putN_lt hx]
      show tk (f + 1) b (x :: post) = _
      unfold tk
      rw [if_pos hx, if_neg]
      · rfl
      · rintro ⟨h1, h2⟩
        rcases hb with hb | hb
        · rw [hb] at h2
          cases h2
        · exact hb h1
    · rw [putN_ge hx]
      cases f with
      | zero => exact absurd h (by omega)
      | succ f =>
        show tk (f + 2) b ((x % 128 + 128) :: (putN (x / 128) ++ post)) = _
        unfold tk
        have hq : x / 128 < 128 ^ (f + 1) := by
          rw [Nat.div_lt_iff_lt_mul (by omega), ← Nat.pow_succ]
          exact h
        rw [if_neg (by omega), tk_put f (x / 128) false post hq (.inr (by omega))]
        show some ((x % 128 + 128) % 128 + 128 * (x / 128), (putN (x / 128)).length + 1) = some (x, (putN (x / 128)).length + 1)
        congr 2
        omega
theorem tk_nil (f : Nat) (b : Bool) : tk f b [] = none := by cases f <;> rfl
theorem putN_ne (x : Nat) : putN x ≠ [] := by
  by_cases hx : x < 128
  · rw [putN_lt hx]
    simp
  · rw [putN_ge hx]
    simp
theorem tk_cut : ∀ (f x : Nat) (b : Bool), tk f b (putN x).dropLast = none
  | 0, x, b => rfl
  | f + 1, x, b => by
    by_cases hx : x < 128
    · rw [putN_lt hx]
      rfl
    · rw [putN_ge hx, List.dropLast_cons_of_ne_nil (putN_ne _)]
      unfold tk
      rw [if_neg (by omega), tk_cut f (x / 128) false]
      rfl
theorem takeN_put {x : Nat} (pre post : List Nat) (h : x < 34359738368) : takeN (pre ++ (putN x ++ post)) pre.length = some (x, pre.length + (putN x).length) := by
  unfold takeN
  rw [List.drop_left, tk_put 4 x true post (by omega) (.inl rfl)]
  rfl
theorem takeN_at {data : List Nat} {a x : Nat} {post : List Nat} (hd : data.drop a = putN x ++ post) (h : x < 34359738368) : takeN data a = some (x, a + (putN x).length) := by
  unfold takeN
  rw [hd, tk_put 4 x true post (by omega) (.inl rfl)]
  rfl
theorem takeN_cut {data : List Nat} {a x : Nat} (hd : data.drop a = (putN x).dropLast) : takeN data a = none := by
  unfold takeN
  rw [hd, tk_cut]
  rfl
/-! ### bits -/
theorem fromB_toB : ∀ (k t : Nat), t < 256 ^ k → fromB (toB k t) = t
  | 0, t, h => by
    have : t = 0 := by simpa using h
    rw [this]
    rfl
  | k + 1, t, h => by
    show t % 256 + 256 * fromB (toB k (t / 256)) = t
    rw [fromB_toB k (t / 256) (by rw [Nat.div_lt_iff_lt_mul (by omega), ← Nat.pow_succ]; exact h)]
    omega
theorem packT_lt (w : Nat) : ∀ xs : List Nat, (∀ x ∈ xs, x < 2 ^ w) → packT w xs < 2 ^ (w * xs.length)
  | [], _ => by simp [packT]
  | x :: r, h => by
    have h1 := h x (List.mem_cons_self ..)
    have h2 := packT_lt w r fun y hy => h y (List.mem_cons_of_mem _ hy)
    show x + 2 ^ w * packT w r < 2 ^ (w * (r.length + 1))
    rw [Nat.mul_succ, Nat.pow_add, Nat.mul_comm (2 ^ (w * r.length))]
    have h3 : 2 ^ w * (packT w r + 1) ≤ 2 ^ w * 2 ^ (w * r.length) := Nat.mul_le_mul_left _ h2
    rw [Nat.mul_add, Nat.mul_one] at h3
    omega
theorem digs_packT (w : Nat) : ∀ xs : List Nat, (∀ x ∈ xs, x < 2 ^ w) → digs (2 ^ w) xs.length (packT w xs) = xs
  | [], _ => rfl
  | x :: r, h => by
    have h1 := h x (List.mem_cons_self ..)
    have hp : 0 < 2 ^ w := Nat.pow_pos (by omega)
    show (x + 2 ^ w * packT w r) % 2 ^ w :: digs (2 ^ w) r.length ((x + 2 ^ w * packT w r) / 2 ^ w) = x :: r
    rw [Nat.add_mul_mod_self_left, Nat.mod_eq_of_lt h1, Nat.add_mul_div_left _ _ hp, Nat.div_eq_of_lt h1, Nat.zero_add, digs_packT w r fun y hy => h y (List.mem_cons_of_mem _ hy)]
theorem pow_bytes {n w : Nat} : 2 ^ (w * n) ≤ 256 ^ ((n * w + 7) / 8) := by
  have e : (256 : Nat) = 2 ^ 8 := by decide
  rw [e, ← Nat.pow_mul]
  refine Nat.pow_le_pow_right (by omega) ?_
  rw [Nat.mul_comm w n]
  omega
theorem unpackO_pack {data : List Nat} {a w : Nat} {xs post : List Nat} (hd : data.drop a = packN xs w ++ post) (h : ∀ x ∈ xs, x < 2 ^ w) (ha : a ≤ data.length) : unpackO data a xs.length w = some (xs, a + (packN xs w).length) := by
  have hl : (packN xs w).length = (xs.length * w + 7) / 8 := packN_len xs w
  have hlen : data.length = a + ((packN xs w).length + post.length) := by
    have := congrArg List.length hd
    rw [List.length_drop, List.length_append] at this
    omega
  have hlt := packT_lt w xs h
  have e1 : fromB ((data.drop a).take ((xs.length * w + 7) / 8)) = packT w xs := by
    rw [hd, ← hl, List.take_left]
    exact fromB_toB _ _ (Nat.lt_of_lt_of_le hlt pow_bytes)
  unfold unpackO
  rw [if_neg (by omega), e1, if_neg, digs_packT w xs h, hl]
  rw [← Nat.pow_mul, Nat.div_eq_of_lt hlt]
  simp
theorem unpackO_short {data : List Nat} {a n w : Nat} (h : data.length < a + (n * w + 7) / 8) : unpackO data a n w = none := if_pos h
theorem fromB_app : ∀ (xs ys : List Nat), fromB (xs ++ ys) = fromB xs + 256 ^ xs.length * fromB ys
  | [], ys => by simp [fromB]
  | x :: r, ys => by
    show x + 256 * fromB (r ++ ys) = x + 256 * fromB r + 256 ^ (r.length + 1) * fromB ys
    rw [fromB_app r ys, Nat.mul_add, Nat.pow_succ, Nat.mul_comm (256 ^ r.length) 256, Nat.mul_assoc]
    omega
theorem unpackO_over {data : List Nat} {n w : Nat} (hl : data.length + 1 = (n * w + 7) / 8) (h8 : 0 < n * w % 8) : unpackO (data ++ [255]) 0 n w = none := by
  unfold unpackO
  split
  · rfl
  · rw [if_pos]
    rw [List.drop_zero, ← hl, List.take_of_length_le (by simp), fromB_app]
    have e : (256 : Nat) = 2 ^ 8 := by decide
    have h1 : 2 ^ (w * n) ≤ 256 ^ data.length * 255 := by
      have : 2 ^ (w * n) ≤ 2 ^ (8 * data.length + 7) := Nat.pow_le_pow_right (by omega) (by rw [Nat.mul_comm w n]; omega)
      rw [Nat.pow_add, Nat.pow_mul 2 8 data.length] at this
      have e2 : (2 : Nat) ^ 8 = 256 := by decide
      have e3 : (2 : Nat) ^ 7 = 128 := by decide
      rw [e2, e3] at this
      have h0 : 0 ≤ 256 ^ data.length := Nat.zero_le _
      omega
    have h2 : fromB [255] = 255 := rfl
    rw [h2, ← Nat.pow_mul]
    have hp : 0 < 2 ^ (w * n) := Nat.pow_pos (by omega)
    intro q
    rw [Nat.div_eq_zero_iff] at q
    omega
/-! ### levels -/
theorem eqN_rep (x : Nat) : ∀ xs : List Nat, xs.take (eqN x xs) = List.replicate (eqN x xs) x
  | [] => rfl
  | y :: r => by
    unfold eqN
    split
    · rename_i h
      rw [Nat.add_comm, List.take_succ_cons, eqN_rep x r, List.replicate_succ, h]
    · rfl
theorem runL_rep (x : Nat) (r : List Nat) : (x :: r).take (runL (x :: r)) = List.replicate (runL (x :: r)) x := by
  show (x :: r).take (1 + eqN x r) = List.replicate (1 + eqN x r) x
  rw [Nat.add_comm, List.take_succ_cons, eqN_rep, List.replicate_succ]
theorem lt_widN : ∀ x : Nat, x < 2 ^ widN x := by
  intro x
  induction x using Nat.strongRecOn with
  | ind x ih =>
    by_cases hx : x = 0
    · rw [hx, widN_zero]
      decide
    · rw [widN_pos hx, Nat.pow_add]
      have := ih (x / 2) (by omega)
      omega
theorem drop_app {data xs ys : List Nat} {a : Nat} (h : data.drop a = xs ++ ys) : data.drop (a + xs.length) = ys := by
  rw [← List.drop_drop, h, List.drop_left]
theorem tlv_lev {data : List Nat} {count w : Nat} (hw : w ≤ 29) : ∀ (f g : Nat) (xs acc post : List Nat) (a : Nat), data.drop a = levF w g xs ++ post → a ≤ data.length → acc.length + xs.length = count → xs.length ≤ f → xs.length ≤ g → xs.length ≤ 20000 → (∀ x ∈ xs, x < 2 ^ w) →
    tlv data count w f a acc = some (acc ++ xs, a + (levF w g xs).length)
  | f, g, [], acc, post, a, hd, ha, hc, hf, hg, hl, hx => by
    have e : levF w g [] = [] := by cases g <;> rfl
    have hc : acc.length = count := by simpa using hc
    rw [e, List.append_nil]
    cases f with
    | zero => rfl
    | succ f =>
      unfold tlv
      rw [if_neg (by omega)]
      rfl
  | 0, g, x :: r, acc, post, a, hd, ha, hc, hf, hg, hl, hx => by simp at hf
  | f + 1, 0, x :: r, acc, post, a, hd, ha, hc, hf, hg, hl, hx => by simp at hg
  | f + 1, g + 1, x :: r, acc, post, a, hd, ha, hc, hf, hg, hl, hx => by
    have hle := runL_le (x :: r)
    have hpl := pieceL_le 32 (x :: r)
    have hpf := pieceL_lef 32 (x :: r)
    have hrp : 0 < runL (x :: r) := runL_pos
    have hx0 := hx x (List.mem_cons_self ..)
    have h29 : (2 : Nat) ^ w ≤ 2 ^ 29 := Nat.pow_le_pow_right (by omega) hw
    have hlen : ∀ k, ((x :: r).drop k).length = (x :: r).length - k := fun k => List.length_drop
    have hmem : ∀ k, ∀ y ∈ (x :: r).drop k, y < 2 ^ w := fun k y hy => hx y (List.mem_of_mem_drop hy)
    unfold levF at hd ⊢
    unfold tlv
    rw [if_pos (by simp at hc; omega)]
    by_cases h4 : 4 ≤ runL (x :: r)
    · rw [if_pos h4] at hd ⊢
      rw [List.append_assoc, List.append_assoc] at hd
      have t1 := takeN_at hd (by omega)
      have hd2 := drop_app hd
      have ha2 : a + (putN (2 * runL (x :: r))).length ≤ data.length := (takeN_le t1 ha).1
      have t2 := takeN_at hd2 (by omega)
      have hd3 := drop_app hd2
      have ha3 := (takeN_le t2 ha2).1
      rw [t1]
      dsimp only
      rw [show 2 * runL (x :: r) / 2 = runL (x :: r) by omega, if_neg (by simp at hc; simp at hle; omega), if_pos (by omega), t2]
      dsimp only
      rw [tlv_lev hw f g _ _ post _ hd3 ha3 (by rw [List.length_append, List.length_replicate, hlen]; simp at hc hle ⊢; omega) (by rw [hlen]; omega) (by rw [hlen]; omega) (by rw [hlen]; omega) (hmem _)]
      rw [← runL_rep, List.append_assoc, List.take_append_drop]
      congr 2
      simp only [List.length_append]
      omega
    · rw [if_neg h4] at hd ⊢
      rw [List.append_assoc, List.append_assoc] at hd
      have hpp := pieceL_pos h4
      have t1 := takeN_at hd (by omega)
      have hd2 := drop_app hd
      have ha2 := (takeN_le t1 ha).1
      have htl : ((x :: r).take (pieceL 32 (x :: r))).length = pieceL 32 (x :: r) := by rw [List.length_take, Nat.min_eq_left hpl]
      have t2 := unpackO_pack (xs := (x :: r).take (pieceL 32 (x :: r))) hd2 (fun y hy => hx y (List.mem_of_mem_take hy)) ha2
      rw [htl] at t2
      have hd3 := drop_app hd2
      have ha3 := (unpackR_some t2).2.1
      rw [t1]
      dsimp only
      rw [show (2 * pieceL 32 (x :: r) + 1) / 2 = pieceL 32 (x :: r) by omega, if_neg (by simp at hc; simp at hpl; omega), if_neg (by omega), t2]
      dsimp only
      rw [tlv_lev hw f g _ _ post _ hd3 ha3 (by rw [List.length_append, htl, hlen]; simp at hc hpl ⊢; omega) (by rw [hlen]; omega) (by rw [hlen]; omega) (by rw [hlen]; omega) (hmem _)]
      rw [List.append_assoc, List.take_append_drop]
      congr 2
      simp only [List.length_append]
      omega
theorem takeLv_lev {pre post xs : List Nat} {most : Nat} (R : Row xs most) : takeLv (pre ++ (levN xs most ++ post)) pre.length xs.length most = some (xs, pre.length + (levN xs most).length) := by
  have hwl : widN most ≤ 29 := widN_le 29 most R.most
  unfold takeLv levN
  by_cases h0 : widN most = 0
  · rw [if_pos h0, if_pos h0]
    have hm : most = 0 := by
      by_cases hm : most = 0
      · exact hm
      · rw [widN_pos hm] at h0
        omega
    have e : xs = List.replicate xs.length 0 := by
      refine List.eq_replicate_iff.mpr ⟨rfl, fun x hx => ?_⟩
      have := R.le x hx
      omega
    rw [← e]
    rfl
  · rw [if_neg h0, if_neg h0]
    have hxs : ∀ x ∈ xs, x < 2 ^ widN most := fun x hx => Nat.lt_of_le_of_lt (R.le x hx) (lt_widN most)
    rw [tlv_lev hwl xs.length xs.length xs [] post pre.length (List.drop_left ..) (by simp) (by simp) (Nat.le_refl _) (Nat.le_refl _) R.len hxs]
    unfold fin
    dsimp only
    rw [List.nil_append, if_neg]
    intro q
    obtain ⟨x, hx, h⟩ := List.any_eq_true.mp q
    have := R.le x hx
    simp at h
    omega
end M1
end

section
set_option linter.all false
set_option maxRecDepth 100000
set_option maxHeartbeats 2000000
namespace M1
open PySem Tv PF
theorem dropLast_app {xs ys : List Nat} (h : ys ≠ []) : (xs ++ ys).dropLast = xs ++ ys.dropLast := List.dropLast_append_of_ne_nil h
theorem tlv_cut {data : List Nat} {count w : Nat} (hw : w ≤ 29) (hw1 : 1 ≤ w) : ∀ (f g : Nat) (xs acc : List Nat) (a : Nat), data.drop a = (levF w g xs).dropLast → levF w g xs ≠ [] → a ≤ data.length → acc.length + xs.length = count → xs.length ≤ f → xs.length ≤ g → xs.length ≤ 20000 → (∀ x ∈ xs, x < 2 ^ w) →
    tlv data count w f a acc = none
  | f, g, [], acc, a, hd, hne, ha, hc, hf, hg, hl, hx => by
    have e : levF w g [] = [] := by cases g <;> rfl
    exact absurd e hne
  | 0, g, x :: r, acc, a, hd, hne, ha, hc, hf, hg, hl, hx => by simp at hf
  | f + 1, 0, x :: r, acc, a, hd, hne, ha, hc, hf, hg, hl, hx => by simp at hg
  | f + 1, g + 1, x :: r, acc, a, hd, hne, ha, hc, hf, hg, hl, hx => by
    have hle := runL_le (x :: r)
    have hpl := pieceL_le 32 (x :: r)
    have hpf := pieceL_lef 32 (x :: r)
    have hrp : 0 < runL (x :: r) := runL_pos
    have hx0 := hx x (List.mem_cons_self ..)
    have h29 : (2 : Nat) ^ w ≤ 2 ^ 29 := Nat.pow_le_pow_right (by omega) hw
    have hlen : ∀ k, ((x :: r).drop k).length = (x :: r).length - k := fun k => List.length_drop
    have hmem : ∀ k, ∀ y ∈ (x :: r).drop k, y < 2 ^ w := fun k y hy => hx y (List.mem_of_mem_drop hy)
    unfold levF at hd
    unfold tlv
    rw [if_pos (by simp at hc; omega)]
    by_cases h4 : 4 ≤ runL (x :: r)
    · rw [if_pos h4] at hd
      by_cases hr : levF w g ((x :: r).drop (runL (x :: r))) = []
      · rw [hr, List.append_nil, dropLast_app (putN_ne x)] at hd
        have t1 := takeN_at hd (by omega)
        have hd2 := drop_app hd
        have t2 := takeN_cut hd2
        rw [t1]
        dsimp only
        rw [show 2 * runL (x :: r) / 2 = runL (x :: r) by omega, if_neg (by simp at hc; simp at hle; omega), if_pos (by omega), t2]
      · rw [dropLast_app hr, List.append_assoc] at hd
        have t1 := takeN_at hd (by omega)
        have hd2 := drop_app hd
        have ha2 : a + (putN (2 * runL (x :: r))).length ≤ data.length := (takeN_le t1 ha).1
        have t2 := takeN_at hd2 (by omega)
        have hd3 := drop_app hd2
        have ha3 := (takeN_le t2 ha2).1
        rw [t1]
        dsimp only
        rw [show 2 * runL (x :: r) / 2 = runL (x :: r) by omega, if_neg (by simp at hc; simp at hle; omega), if_pos (by omega), t2]
        dsimp only
        exact tlv_cut hw hw1 f g _ _ _ hd3 hr ha3 (by rw [List.length_append, List.length_replicate, hlen]; simp at hc hle ⊢; omega) (by rw [hlen]; omega) (by rw [hlen]; omega) (by rw [hlen]; omega) (hmem _)
    · rw [if_neg h4] at hd
      have hpp := pieceL_pos h4
      have htl : ((x :: r).take (pieceL 32 (x :: r))).length = pieceL 32 (x :: r) := by rw [List.length_take, Nat.min_eq_left hpl]
      have hpk := packN_len ((x :: r).take (pieceL 32 (x :: r))) w
      rw [htl] at hpk
      have hm : 1 ≤ pieceL 32 (x :: r) * w := Nat.mul_pos hpp hw1
      have hpne : packN ((x :: r).take (pieceL 32 (x :: r))) w ≠ [] := by
        intro q
        rw [q] at hpk
        simp at hpk
        omega
      by_cases hr : levF w g ((x :: r).drop (pieceL 32 (x :: r))) = []
      · rw [hr, List.append_nil, dropLast_app hpne] at hd
        have t1 := takeN_at hd (by omega)
        have t2 := unpackO_short (data := data) (a := a + (putN (2 * pieceL 32 (x :: r) + 1)).length) (n := pieceL 32 (x :: r)) (w := w) (by
          have := congrArg List.length hd
          rw [List.length_drop, List.length_append, List.length_dropLast] at this
          omega)
        rw [t1]
        dsimp only
        rw [show (2 * pieceL 32 (x :: r) + 1) / 2 = pieceL 32 (x :: r) by omega, if_neg (by simp at hc; simp at hpl; omega), if_neg (by omega), t2]
      · rw [dropLast_app hr, List.append_assoc] at hd
        have t1 := takeN_at hd (by omega)
        have hd2 := drop_app hd
        have ha2 := (takeN_le t1 ha).1
        have t2 := unpackO_pack (xs := (x :: r).take (pieceL 32 (x :: r))) hd2 (fun y hy => hx y (List.mem_of_mem_take hy)) ha2
        rw [htl] at t2
        have hd3 := drop_app hd2
        have ha3 := (unpackR_some t2).2.1
        rw [t1]
        dsimp only
        rw [show (2 * pieceL 32 (x :: r) + 1) / 2 = pieceL 32 (x :: r) by omega, if_neg (by simp at hc; simp at hpl; omega), if_neg (by omega), t2]
        dsimp only
        exact tlv_cut hw hw1 f g _ _ _ hd3 hr ha3 (by rw [List.length_append, htl, hlen]; simp at hc hpl ⊢; omega) (by rw [hlen]; omega) (by rw [hlen]; omega) (by rw [hlen]; omega) (hmem _)
theorem takeLv_cut {xs : List Nat} {most : Nat} (R : Row xs most) (hne : levN xs most ≠ []) : takeLv (levN xs most).dropLast 0 xs.length most = none := by
  have hwl : widN most ≤ 29 := widN_le 29 most R.most
  unfold takeLv
  by_cases h0 : widN most = 0
  · unfold levN at hne
    rw [if_pos h0] at hne
    exact absurd rfl hne
  · rw [if_neg h0]
    have e : levN xs most = levF (widN most) xs.length xs := by
      unfold levN
      rw [if_neg h0]
    rw [e] at hne ⊢
    have hxs : ∀ x ∈ xs, x < 2 ^ widN most := fun x hx => Nat.lt_of_le_of_lt (R.le x hx) (lt_widN most)
    rw [tlv_cut hwl (by omega) xs.length xs.length xs [] 0 rfl hne (by simp) (by simp) (Nat.le_refl _) (Nat.le_refl _) R.len hxs]
    rfl
theorem takeLv_long {n most : Nat} (hn : 0 < n) (hn2 : n < 1000000) (hm : most ≠ 0) : takeLv (putN (2 * n + 2) ++ [0]) 0 n most = none := by
  unfold takeLv
  rw [if_neg (by rw [widN_pos hm]; omega)]
  obtain ⟨f, rfl⟩ : ∃ f, n = f + 1 := ⟨n - 1, by omega⟩
  unfold tlv
  rw [if_pos (by simp)]
  have t1 := takeN_at (data := putN (2 * (f + 1) + 2) ++ [0]) (a := 0) (x := 2 * (f + 1) + 2) (post := [0]) rfl (by omega)
  rw [t1]
  dsimp only
  rw [if_pos (.inr (by show f + 1 < 0 + (2 * (f + 1) + 2) / 2; omega))]
  rfl
end M1
end

section
set_option linter.all false
set_option maxRecDepth 100000
set_option maxHeartbeats 4000000
namespace L1
open PySem Tv PF M1 C07
abbrev sub : Str → Str → Option Bool := subOf hd
abbrev pr : Tb := prOf hd.ds
theorem h_put_number : Has pr "put_number" f_put_number := by unfold Has; rfl
theorem h_take_number : Has pr "take_number" f_take_number := by unfold Has; rfl
theorem h_fold_sign : Has pr "fold_sign" f_fold_sign := by unfold Has; rfl
theorem h_unfold_sign : Has pr "unfold_sign" f_unfold_sign := by unfold Has; rfl
theorem h_put_word : Has pr "put_word" f_put_word := by unfold Has; rfl
theorem h_take_word : Has pr "take_word" f_take_word := by unfold Has; rfl
theorem h_width_of : Has pr "width_of" f_width_of := by unfold Has; rfl
theorem h_pack : Has pr "pack" f_pack := by unfold Has; rfl
theorem h_unpack : Has pr "unpack" f_unpack := by unfold Has; rfl
theorem h_run_length : Has pr "run_length" f_run_length := by unfold Has; rfl
theorem h_piece_length : Has pr "piece_length" f_piece_length := by unfold Has; rfl
theorem h_put_levels : Has pr "put_levels" f_put_levels := by unfold Has; rfl
theorem h_take_levels : Has pr "take_levels" f_take_levels := by unfold Has; rfl
theorem h__law_cell : pr.lookup ("_law_cell" : Str) = some d__law_cell.fn := by rfl
theorem h__law_numbers : pr.lookup ("_law_numbers" : Str) = some d__law_numbers.fn := by rfl
theorem h__law_number : pr.lookup ("_law_number" : Str) = some d__law_number.fn := by rfl
theorem h__law_word : pr.lookup ("_law_word" : Str) = some d__law_word.fn := by rfl
theorem h__law_width : pr.lookup ("_law_width" : Str) = some d__law_width.fn := by rfl
theorem h__law_pack : pr.lookup ("_law_pack" : Str) = some d__law_pack.fn := by rfl
theorem h__law_run : pr.lookup ("_law_run" : Str) = some d__law_run.fn := by rfl
theorem h__law_levels : pr.lookup ("_law_levels" : Str) = some d__law_levels.fn := by rfl
theorem h__law_refused : pr.lookup ("_law_refused" : Str) = some d__law_refused.fn := by rfl
theorem h__law_row : pr.lookup ("_law_row" : Str) = some d__law_row.fn := by rfl
theorem h_law : pr.lookup ("law" : Str) = some d_law.fn := by rfl
/-! ### cells -/
def cell (ns : List Int) (k : Nat) : Int := ns.getD k 0
theorem sub_int {ns : List Int} {k : Nat} {x : Int} (h : ns[k]? = some x) : subD (.list (ns.map PyData.int)) (.int (k : Int)) = some (.dat (.int x)) := by
  rw [sub_l]
  have e : (ns.map PyData.int)[k]? = some (.int x) := by rw [List.getElem?_map, h]; rfl
  rw [L2.atI_nat e]
  rfl
theorem cell_ok (n : Nat) (ns : List Int) (k : Nat) : tab sub pr (n + 1) "_law_cell" [.list (ns.map PyData.int), nD k] = .ok (.dat (.int (cell ns k))) := by
  rw [tab_def h__law_cell rfl]
  unfold c__law_cell
  show rf (evSs _ _ [some (.dat (.list (ns.map PyData.int))), some (.dat (nD k))]) = _
  unfold nD
  have el : ((ns.map PyData.int).length : Int) = (ns.length : Int) := by rw [List.length_map]
  by_cases hk : k < ns.length
  · have hk2 : (k : Int) < (ns.length : Int) := by omega
    have e : ns[k]? = some (cell ns k) := by
      unfold cell
      rw [List.getD_eq_getElem?_getD, List.getElem?_eq_getElem hk]
      rfl
    simp only [K2_eq, kBin_eq, kRep_eq, kNeg_eq, kBool_eq, kCmp_eq, kCh3_eq, kCh2_eq, kCh1_eq, kAnd_eq, kOr_eq, kNot_eq, kIte_eq, kTup2_eq, kTup_eq, kLst2_eq, kLst_eq, kSub_eq, kS3_eq, kS2_eq, kS1_eq, kCall2_eq, kCall_eq, kBlt_eq, kLc_eq, kO_eq, kTv_eq, kTand_eq, kTor_eq, kTnot_eq, kEs2_eq, kEs1_eq, kIe2_eq, kIe_eq, kR1_eq, kR22_eq, kR21_eq, kA2_eq, kA1_eq, kAsg2_eq, kAsg_eq, kApp2_eq, kApp_eq, kEx_eq, kRet2_eq, kRet_eq, kSi_eq, kFor_eq, kRse2_eq, kRse_eq, evE_var, evE_con, evE_glb, evE_bin, evE_rep, evE_neg, evE_cmp, evE_chain, evE_and, evE_or, evE_not, evE_ite, evE_tup, evE_lst, evE_sub, evE_slc, evE_call, evE_blt, evE_lc, evO_no, evO_some, evTo_no, evTo_some, evT_val, evT_and, evT_or, evT_not, evEs_nil, evEs_cons, evI_e, evI_rng, evI_rng2, evS_asg, evS_app, evS_expr, evS_ret, evS_retN, evS_ite, evS_whl, evS_for, evS_brk, evS_cnt, evS_pass, evS_rse, evSs_nil, evSs_cons, asDs_nil, asDs_cons, sizeLine, turn_next, turn_cnt, turn_brk, turn_ret, turn_exn, test_t, test_f, bind_ok, bind_exn, bind_bad, so_ok, so_exn, so_bad, seq_next, seq_brk, seq_cnt, seq_ret, seq_exn, seq_bad, ofO_some, rofO_some, view_dat, view_lst, view_var, tree_dat, tree_lst, asD_dat, asD_lst, asD_var, get0, getS, set0, setS, getD0, getDS, add_ii, sub_ii, lt_ii, le_ii, gt_ii, ge_ii, eq_ii, ne_ii, len_l, len_t, int_i, int_b, abs_i, min_ii, max_ii, tru_b, neg_i, items_l, items_t, slc_l, slc_t, viewAll, ft_mk, fdiv_ii, mod_ii, mul_ii, and_self, true_and, and_true, or_true, true_or, Option.map_some, rf_next, rf_ret, rf_exn, Int.toNat_natCast, if_true, ite_true, decide_true, decide_false, reduceIte, List.length_cons, List.length_nil, Nat.zero_add, Nat.zero_le, List.map_cons, List.map_nil, Bool.not_true, Bool.not_false, Bool.false_eq_true, Nat.reducePow, Nat.reduceAdd, Nat.reduceLT, Nat.reduceLeDiff, Nat.reduceMul, Int.reduceLT, Int.reduceLE, Int.reduceNeg, Int.reducePow, Int.reduceAdd, Int.reduceSub, Int.reduceMul, Int.reduceToNat, Nat.reduceEqDiff, Int.reduceEq, el, hk2, sub_int e]
  · have hk2 : ¬ (k : Int) < (ns.length : Int) := by omega
    have e : cell ns k = 0 := by
      unfold cell
      rw [List.getD_eq_getElem?_getD, List.getElem?_eq_none (by omega)]
      rfl
    simp only [K2_eq, kBin_eq, kRep_eq, kNeg_eq, kBool_eq, kCmp_eq, kCh3_eq, kCh2_eq, kCh1_eq, kAnd_eq, kOr_eq, kNot_eq, kIte_eq, kTup2_eq, kTup_eq, kLst2_eq, kLst_eq, kSub_eq, kS3_eq, kS2_eq, kS1_eq, kCall2_eq, kCall_eq, kBlt_eq, kLc_eq, kO_eq, kTv_eq, kTand_eq, kTor_eq, kTnot_eq, kEs2_eq, kEs1_eq, kIe2_eq, kIe_eq, kR1_eq, kR22_eq, kR21_eq, kA2_eq, kA1_eq, kAsg2_eq, kAsg_eq, kApp2_eq, kApp_eq, kEx_eq, kRet2_eq, kRet_eq, kSi_eq, kFor_eq, kRse2_eq, kRse_eq, evE_var, evE_con, evE_glb, evE_bin, evE_rep, evE_neg, evE_cmp, evE_chain, evE_and, evE_or, evE_not, evE_ite, evE_tup, evE_lst, evE_sub, evE_slc, evE_call, evE_blt, evE_lc, evO_no, evO_some, evTo_no, evTo_some, evT_val, evT_and, evT_or, evT_not, evEs_nil, evEs_cons, evI_e, evI_rng, evI_rng2, evS_asg, evS_app, evS_expr, evS_ret, evS_retN, evS_ite, evS_whl, evS_for, evS_brk, evS_cnt, evS_pass, evS_rse, evSs_nil, evSs_cons, asDs_nil, asDs_cons, sizeLine, turn_next, turn_cnt, turn_brk, turn_ret, turn_exn, test_t, test_f, bind_ok, bind_exn, bind_bad, so_ok, so_exn, so_bad, seq_next, seq_brk, seq_cnt, seq_ret, seq_exn, seq_bad, ofO_some, rofO_some, view_dat, view_lst, view_var, tree_dat, tree_lst, asD_dat, asD_lst, asD_var, get0, getS, set0, setS, getD0, getDS, add_ii, sub_ii, lt_ii, le_ii, gt_ii, ge_ii, eq_ii, ne_ii, len_l, len_t, int_i, int_b, abs_i, min_ii, max_ii, tru_b, neg_i, items_l, items_t, slc_l, slc_t, viewAll, ft_mk, fdiv_ii, mod_ii, mul_ii, and_self, true_and, and_true, or_true, true_or, Option.map_some, rf_next, rf_ret, rf_exn, Int.toNat_natCast, if_true, ite_true, decide_true, decide_false, reduceIte, List.length_cons, List.length_nil, Nat.zero_add, Nat.zero_le, List.map_cons, List.map_nil, Bool.not_true, Bool.not_false, Bool.false_eq_true, Nat.reducePow, Nat.reduceAdd, Nat.reduceLT, Nat.reduceLeDiff, Nat.reduceMul, Int.reduceLT, Int.reduceLE, Int.reduceNeg, Int.reducePow, Int.reduceAdd, Int.reduceSub, Int.reduceMul, Int.reduceToNat, Nat.reduceEqDiff, Int.reduceEq, el, hk2, e]
/-! ### numbers -/
def NumR (m : Nat) (r : Rf) : Prop := ∃ xs : List Nat, xs.length = m ∧ (∀ y ∈ xs, y < 1048576) ∧ r = .ok (.dat (.list (iD xs)))
theorem numbers_ok (n : Nat) (x : Int) (m : Nat) (hm : m ≤ 1000) : NumR m (tab sub pr (n + 1) "_law_numbers" [.int x, nD m]) := by
  have key : ∀ r : Rf, r = tab sub pr (n + 1) "_law_numbers" [.int x, nD m] → NumR m r := by
    intro r hr
    rw [tab_def h__law_numbers rfl] at hr
    unfold c__law_numbers at hr
    replace hr : r = rf (evSs ⟨tab sub pr n, sub⟩ _ [some (.dat (.int x)), some (.dat (nD m)), none, none, none]) := hr
    subst hr
    unfold nD
    obtain ⟨a, ha⟩ : ∃ a : Nat, (if x < 0 then -x else x) = (a : Int) := by
      by_cases hx : x < 0
      · exact ⟨(-x).toNat, by rw [if_pos hx]; omega⟩
      · exact ⟨x.toNat, by rw [if_neg hx]; omega⟩
    have bm : big62 (m : Int) = true := big_nat (by omega)
    by_cases hbig : (1000000000000000000 : Int) ≤ (a : Int)
    · simp only [K2_eq, kBin_eq, kRep_eq, kNeg_eq, kBool_eq, kCmp_eq, kCh3_eq, kCh2_eq, kCh1_eq, kAnd_eq, kOr_eq, kNot_eq, kIte_eq, kTup2_eq, kTup_eq, kLst2_eq, kLst_eq, kSub_eq, kS3_eq, kS2_eq, kS1_eq, kCall2_eq, kCall_eq, kBlt_eq, kLc_eq, kO_eq, kTv_eq, kTand_eq, kTor_eq, kTnot_eq, kEs2_eq, kEs1_eq, kIe2_eq, kIe_eq, kR1_eq, kR22_eq, kR21_eq, kA2_eq, kA1_eq, kAsg2_eq, kAsg_eq, kApp2_eq, kApp_eq, kEx_eq, kRet2_eq, kRet_eq, kSi_eq, kFor_eq, kRse2_eq, kRse_eq, evE_var, evE_con, evE_glb, evE_bin, evE_rep, evE_neg, evE_cmp, evE_chain, evE_and, evE_or, evE_not, evE_ite, evE_tup, evE_lst, evE_sub, evE_slc, evE_call, evE_blt, evE_lc, evO_no, evO_some, evTo_no, evTo_some, evT_val, evT_and, evT_or, evT_not, evEs_nil, evEs_cons, evI_e, evI_rng, evI_rng2, evS_asg, evS_app, evS_expr, evS_ret, evS_retN, evS_ite, evS_whl, evS_for, evS_brk, evS_cnt, evS_pass, evS_rse, evSs_nil, evSs_cons, asDs_nil, asDs_cons, sizeLine, turn_next, turn_cnt, turn_brk, turn_ret, turn_exn, test_t, test_f, bind_ok, bind_exn, bind_bad, so_ok, so_exn, so_bad, seq_next, seq_brk, seq_cnt, seq_ret, seq_exn, seq_bad, ofO_some, rofO_some, view_dat, view_lst, view_var, tree_dat, tree_lst, asD_dat, asD_lst, asD_var, get0, getS, set0, setS, getD0, getDS, add_ii, sub_ii, lt_ii, le_ii, gt_ii, ge_ii, eq_ii, ne_ii, len_l, len_t, int_i, int_b, abs_i, min_ii, max_ii, tru_b, neg_i, items_l, items_t, slc_l, slc_t, viewAll, ft_mk, fdiv_ii, mod_ii, mul_ii, and_self, true_and, and_true, or_true, true_or, Option.map_some, rf_next, rf_ret, rf_exn, Int.toNat_natCast, if_true, ite_true, decide_true, decide_false, reduceIte, List.length_cons, List.length_nil, Nat.zero_add, Nat.zero_le, List.map_cons, List.map_nil, Bool.not_true, Bool.not_false, Bool.false_eq_true, Nat.reducePow, Nat.reduceAdd, Nat.reduceLT, Nat.reduceLeDiff, Nat.reduceMul, Int.reduceLT, Int.reduceLE, Int.reduceNeg, Int.reducePow, Int.reduceAdd, Int.reduceSub, Int.reduceMul, Int.reduceToNat, Nat.reduceEqDiff, Int.reduceEq, ha, hbig, bm]
      refine for_gen (Q := fun r => NumR m (rf (So.seq (So.seq r _) _))) (P := fun i Γ => i ≤ m ∧ ∃ (acc : List Nat) (rest : Nat) (o : Option Ow), Γ = [some (.dat (.int x)), some (.dat (.int (m : Int))), some (.lst (iD acc)), some (.dat (.int (rest : Int))), o] ∧ acc.length = i ∧ ∀ y ∈ acc, y < 1048576) (rangeD 0 m) ?_ ?_ _ ⟨by omega, [], a, none, rfl, rfl, by simp⟩
      · rintro i d Γ hd ⟨_, acc, rest, o, rfl, hl, hall⟩
        obtain ⟨hi, rfl⟩ := range_at hd
        refine ⟨_, rfl, ?_⟩
        have hz : (iD acc).length < 16777216 := by rw [iD_len]; omega
        simp only [K2_eq, kBin_eq, kRep_eq, kNeg_eq, kBool_eq, kCmp_eq, kCh3_eq, kCh2_eq, kCh1_eq, kAnd_eq, kOr_eq, kNot_eq, kIte_eq, kTup2_eq, kTup_eq, kLst2_eq, kLst_eq, kSub_eq, kS3_eq, kS2_eq, kS1_eq, kCall2_eq, kCall_eq, kBlt_eq, kLc_eq, kO_eq, kTv_eq, kTand_eq, kTor_eq, kTnot_eq, kEs2_eq, kEs1_eq, kIe2_eq, kIe_eq, kR1_eq, kR22_eq, kR21_eq, kA2_eq, kA1_eq, kAsg2_eq, kAsg_eq, kApp2_eq, kApp_eq, kEx_eq, kRet2_eq, kRet_eq, kSi_eq, kFor_eq, kRse2_eq, kRse_eq, evE_var, evE_con, evE_glb, evE_bin, evE_rep, evE_neg, evE_cmp, evE_chain, evE_and, evE_or, evE_not, evE_ite, evE_tup, evE_lst, evE_sub, evE_slc, evE_call, evE_blt, evE_lc, evO_no, evO_some, evTo_no, evTo_some, evT_val, evT_and, evT_or, evT_not, evEs_nil, evEs_cons, evI_e, evI_rng, evI_rng2, evS_asg, evS_app, evS_expr, evS_ret, evS_retN, evS_ite, evS_whl, evS_for, evS_brk, evS_cnt, evS_pass, evS_rse, evSs_nil, evSs_cons, asDs_nil, asDs_cons, sizeLine, turn_next, turn_cnt, turn_brk, turn_ret, turn_exn, test_t, test_f, bind_ok, bind_exn, bind_bad, so_ok, so_exn, so_bad, seq_next, seq_brk, seq_cnt, seq_ret, seq_exn, seq_bad, ofO_some, rofO_some, view_dat, view_lst, view_var, tree_dat, tree_lst, asD_dat, asD_lst, asD_var, get0, getS, set0, setS, getD0, getDS, add_ii, sub_ii, lt_ii, le_ii, gt_ii, ge_ii, eq_ii, ne_ii, len_l, len_t, int_i, int_b, abs_i, min_ii, max_ii, tru_b, neg_i, items_l, items_t, slc_l, slc_t, viewAll, ft_mk, fdiv_ii, mod_ii, mul_ii, and_self, true_and, and_true, or_true, true_or, Option.map_some, rf_next, rf_ret, rf_exn, Int.toNat_natCast, if_true, ite_true, decide_true, decide_false, reduceIte, List.length_cons, List.length_nil, Nat.zero_add, Nat.zero_le, List.map_cons, List.map_nil, Bool.not_true, Bool.not_false, Bool.false_eq_true, Nat.reducePow, Nat.reduceAdd, Nat.reduceLT, Nat.reduceLeDiff, Nat.reduceMul, Int.reduceLT, Int.reduceLE, Int.reduceNeg, Int.reducePow, Int.reduceAdd, Int.reduceSub, Int.reduceMul, Int.reduceToNat, Nat.reduceEqDiff, Int.reduceEq, hz]
        refine ⟨by omega, acc ++ [rest % 1048576], rest / 1048576, some (.dat (.int (i : Int))), ?_, by simp [hl], ?_⟩
        · rw [← iD_app]
          simp [iD, nD]
        · intro y hy
          rcases List.mem_append.mp hy with hy | hy
          · exact hall y hy
          · simp at hy
            omega
      · rintro Γ ⟨_, acc, rest, o, rfl, hl, hall⟩
        rw [range_len] at hl
        simp only [K2_eq, kBin_eq, kRep_eq, kNeg_eq, kBool_eq, kCmp_eq, kCh3_eq, kCh2_eq, kCh1_eq, kAnd_eq, kOr_eq, kNot_eq, kIte_eq, kTup2_eq, kTup_eq, kLst2_eq, kLst_eq, kSub_eq, kS3_eq, kS2_eq, kS1_eq, kCall2_eq, kCall_eq, kBlt_eq, kLc_eq, kO_eq, kTv_eq, kTand_eq, kTor_eq, kTnot_eq, kEs2_eq, kEs1_eq, kIe2_eq, kIe_eq, kR1_eq, kR22_eq, kR21_eq, kA2_eq, kA1_eq, kAsg2_eq, kAsg_eq, kApp2_eq, kApp_eq, kEx_eq, kRet2_eq, kRet_eq, kSi_eq, kFor_eq, kRse2_eq, kRse_eq, evE_var, evE_con, evE_glb, evE_bin, evE_rep, evE_neg, evE_cmp, evE_chain, evE_and, evE_or, evE_not, evE_ite, evE_tup, evE_lst, evE_sub, evE_slc, evE_call, evE_blt, evE_lc, evO_no, evO_some, evTo_no, evTo_some, evT_val, evT_and, evT_or, evT_not, evEs_nil, evEs_cons, evI_e, evI_rng, evI_rng2, evS_asg, evS_app, evS_expr, evS_ret, evS_retN, evS_ite, evS_whl, evS_for, evS_brk, evS_cnt, evS_pass, evS_rse, evSs_nil, evSs_cons, asDs_nil, asDs_cons, sizeLine, turn_next, turn_cnt, turn_brk, turn_ret, turn_exn, test_t, test_f, bind_ok, bind_exn, bind_bad, so_ok, so_exn, so_bad, seq_next, seq_brk, seq_cnt, seq_ret, seq_exn, seq_bad, ofO_some, rofO_some, view_dat, view_lst, view_var, tree_dat, tree_lst, asD_dat, asD_lst, asD_var, get0, getS, set0, setS, getD0, getDS, add_ii, sub_ii, lt_ii, le_ii, gt_ii, ge_ii, eq_ii, ne_ii, len_l, len_t, int_i, int_b, abs_i, min_ii, max_ii, tru_b, neg_i, items_l, items_t, slc_l, slc_t, viewAll, ft_mk, fdiv_ii, mod_ii, mul_ii, and_self, true_and, and_true, or_true, true_or, Option.map_some, rf_next, rf_ret, rf_exn, Int.toNat_natCast, if_true, ite_true, decide_true, decide_false, reduceIte, List.length_cons, List.length_nil, Nat.zero_add, Nat.zero_le, List.map_cons, List.map_nil, Bool.not_true, Bool.not_false, Bool.false_eq_true, Nat.reducePow, Nat.reduceAdd, Nat.reduceLT, Nat.reduceLeDiff, Nat.reduceMul, Int.reduceLT, Int.reduceLE, Int.reduceNeg, Int.reducePow, Int.reduceAdd, Int.reduceSub, Int.reduceMul, Int.reduceToNat, Nat.reduceEqDiff, Int.reduceEq]
        exact ⟨acc, hl, hall, rfl⟩
    · simp only [K2_eq, kBin_eq, kRep_eq, kNeg_eq, kBool_eq, kCmp_eq, kCh3_eq, kCh2_eq, kCh1_eq, kAnd_eq, kOr_eq, kNot_eq, kIte_eq, kTup2_eq, kTup_eq, kLst2_eq, kLst_eq, kSub_eq, kS3_eq, kS2_eq, kS1_eq, kCall2_eq, kCall_eq, kBlt_eq, kLc_eq, kO_eq, kTv_eq, kTand_eq, kTor_eq, kTnot_eq, kEs2_eq, kEs1_eq, kIe2_eq, kIe_eq, kR1_eq, kR22_eq, kR21_eq, kA2_eq, kA1_eq, kAsg2_eq, kAsg_eq, kApp2_eq, kApp_eq, kEx_eq, kRet2_eq, kRet_eq, kSi_eq, kFor_eq, kRse2_eq, kRse_eq, evE_var, evE_con, evE_glb, evE_bin, evE_rep, evE_neg, evE_cmp, evE_chain, evE_and, evE_or, evE_not, evE_ite, evE_tup, evE_lst, evE_sub, evE_slc, evE_call, evE_blt, evE_lc, evO_no, evO_some, evTo_no, evTo_some, evT_val, evT_and, evT_or, evT_not, evEs_nil, evEs_cons, evI_e, evI_rng, evI_rng2, evS_asg, evS_app, evS_expr, evS_ret, evS_retN, evS_ite, evS_whl, evS_for, evS_brk, evS_cnt, evS_pass, evS_rse, evSs_nil, evSs_cons, asDs_nil, asDs_cons, sizeLine, turn_next, turn_cnt, turn_brk, turn_ret, turn_exn, test_t, test_f, bind_ok, bind_exn, bind_bad, so_ok, so_exn, so_bad, seq_next, seq_brk, seq_cnt, seq_ret, seq_exn, seq_bad, ofO_some, rofO_some, view_dat, view_lst, view_var, tree_dat, tree_lst, asD_dat, asD_lst, asD_var, get0, getS, set0, setS, getD0, getDS, add_ii, sub_ii, lt_ii, le_ii, gt_ii, ge_ii, eq_ii, ne_ii, len_l, len_t, int_i, int_b, abs_i, min_ii, max_ii, tru_b, neg_i, items_l, items_t, slc_l, slc_t, viewAll, ft_mk, fdiv_ii, mod_ii, mul_ii, and_self, true_and, and_true, or_true, true_or, Option.map_some, rf_next, rf_ret, rf_exn, Int.toNat_natCast, if_true, ite_true, decide_true, decide_false, reduceIte, List.length_cons, List.length_nil, Nat.zero_add, Nat.zero_le, List.map_cons, List.map_nil, Bool.not_true, Bool.not_false, Bool.false_eq_true, Nat.reducePow, Nat.reduceAdd, Nat.reduceLT, Nat.reduceLeDiff, Nat.reduceMul, Int.reduceLT, Int.reduceLE, Int.reduceNeg, Int.reducePow, Int.reduceAdd, Int.reduceSub, Int.reduceMul, Int.reduceToNat, Nat.reduceEqDiff, Int.reduceEq, ha, hbig, bm]
      refine for_gen (Q := fun r => NumR m (rf (So.seq r _))) (P := fun i Γ => i ≤ m ∧ ∃ (acc : List Nat) (rest : Nat) (o : Option Ow), Γ = [some (.dat (.int x)), some (.dat (.int (m : Int))), some (.lst (iD acc)), some (.dat (.int (rest : Int))), o] ∧ acc.length = i ∧ ∀ y ∈ acc, y < 1048576) (rangeD 0 m) ?_ ?_ _ ⟨by omega, [], a, none, rfl, rfl, by simp⟩
      · rintro i d Γ hd ⟨_, acc, rest, o, rfl, hl, hall⟩
        obtain ⟨hi, rfl⟩ := range_at hd
        refine ⟨_, rfl, ?_⟩
        have hz : (iD acc).length < 16777216 := by rw [iD_len]; omega
        have e1 : ((rest : Int) * 48271 + (i : Int) * 7919 + 11) % 2147483647 = (((rest * 48271 + i * 7919 + 11) % 2147483647 : Nat) : Int) := by omega
        generalize hr2 : (rest * 48271 + i * 7919 + 11) % 2147483647 = rest2 at e1
        have e2 : ((rest2 : Int) * 69621) % 2147483629 % 1048576 = ((rest2 * 69621 % 2147483629 % 1048576 : Nat) : Int) := by
          simp only [Int.natCast_emod, Int.natCast_mul]
          rfl
        simp only [K2_eq, kBin_eq, kRep_eq, kNeg_eq, kBool_eq, kCmp_eq, kCh3_eq, kCh2_eq, kCh1_eq, kAnd_eq, kOr_eq, kNot_eq, kIte_eq, kTup2_eq, kTup_eq, kLst2_eq, kLst_eq, kSub_eq, kS3_eq, kS2_eq, kS1_eq, kCall2_eq, kCall_eq, kBlt_eq, kLc_eq, kO_eq, kTv_eq, kTand_eq, kTor_eq, kTnot_eq, kEs2_eq, kEs1_eq, kIe2_eq, kIe_eq, kR1_eq, kR22_eq, kR21_eq, kA2_eq, kA1_eq, kAsg2_eq, kAsg_eq, kApp2_eq, kApp_eq, kEx_eq, kRet2_eq, kRet_eq, kSi_eq, kFor_eq, kRse2_eq, kRse_eq, evE_var, evE_con, evE_glb, evE_bin, evE_rep, evE_neg, evE_cmp, evE_chain, evE_and, evE_or, evE_not, evE_ite, evE_tup, evE_lst, evE_sub, evE_slc, evE_call, evE_blt, evE_lc, evO_no, evO_some, evTo_no, evTo_some, evT_val, evT_and, evT_or, evT_not, evEs_nil, evEs_cons, evI_e, evI_rng, evI_rng2, evS_asg, evS_app, evS_expr, evS_ret, evS_retN, evS_ite, evS_whl, evS_for, evS_brk, evS_cnt, evS_pass, evS_rse, evSs_nil, evSs_cons, asDs_nil, asDs_cons, sizeLine, turn_next, turn_cnt, turn_brk, turn_ret, turn_exn, test_t, test_f, bind_ok, bind_exn, bind_bad, so_ok, so_exn, so_bad, seq_next, seq_brk, seq_cnt, seq_ret, seq_exn, seq_bad, ofO_some, rofO_some, view_dat, view_lst, view_var, tree_dat, tree_lst, asD_dat, asD_lst, asD_var, get0, getS, set0, setS, getD0, getDS, add_ii, sub_ii, lt_ii, le_ii, gt_ii, ge_ii, eq_ii, ne_ii, len_l, len_t, int_i, int_b, abs_i, min_ii, max_ii, tru_b, neg_i, items_l, items_t, slc_l, slc_t, viewAll, ft_mk, fdiv_ii, mod_ii, mul_ii, and_self, true_and, and_true, or_true, true_or, Option.map_some, rf_next, rf_ret, rf_exn, Int.toNat_natCast, if_true, ite_true, decide_true, decide_false, reduceIte, List.length_cons, List.length_nil, Nat.zero_add, Nat.zero_le, List.map_cons, List.map_nil, Bool.not_true, Bool.not_false, Bool.false_eq_true, Nat.reducePow, Nat.reduceAdd, Nat.reduceLT, Nat.reduceLeDiff, Nat.reduceMul, Int.reduceLT, Int.reduceLE, Int.reduceNeg, Int.reducePow, Int.reduceAdd, Int.reduceSub, Int.reduceMul, Int.reduceToNat, Nat.reduceEqDiff, Int.reduceEq, hz, e1, e2]
        refine ⟨by omega, acc ++ [rest2 * 69621 % 2147483629 % 1048576], rest2, some (.dat (.int (i : Int))), ?_, by simp [hl], ?_⟩
        · rw [← iD_app]
          simp [iD, nD]
        · intro y hy
          rcases List.mem_append.mp hy with hy | hy
          · exact hall y hy
          · simp at hy
            omega
      · rintro Γ ⟨_, acc, rest, o, rfl, hl, hall⟩
        rw [range_len] at hl
        simp only [K2_eq, kBin_eq, kRep_eq, kNeg_eq, kBool_eq, kCmp_eq, kCh3_eq, kCh2_eq, kCh1_eq, kAnd_eq, kOr_eq, kNot_eq, kIte_eq, kTup2_eq, kTup_eq, kLst2_eq, kLst_eq, kSub_eq, kS3_eq, kS2_eq, kS1_eq, kCall2_eq, kCall_eq, kBlt_eq, kLc_eq, kO_eq, kTv_eq, kTand_eq, kTor_eq, kTnot_eq, kEs2_eq, kEs1_eq, kIe2_eq, kIe_eq, kR1_eq, kR22_eq, kR21_eq, kA2_eq, kA1_eq, kAsg2_eq, kAsg_eq, kApp2_eq, kApp_eq, kEx_eq, kRet2_eq, kRet_eq, kSi_eq, kFor_eq, kRse2_eq, kRse_eq, evE_var, evE_con, evE_glb, evE_bin, evE_rep, evE_neg, evE_cmp, evE_chain, evE_and, evE_or, evE_not, evE_ite, evE_tup, evE_lst, evE_sub, evE_slc, evE_call, evE_blt, evE_lc, evO_no, evO_some, evTo_no, evTo_some, evT_val, evT_and, evT_or, evT_not, evEs_nil, evEs_cons, evI_e, evI_rng, evI_rng2, evS_asg, evS_app, evS_expr, evS_ret, evS_retN, evS_ite, evS_whl, evS_for, evS_brk, evS_cnt, evS_pass, evS_rse, evSs_nil, evSs_cons, asDs_nil, asDs_cons, sizeLine, turn_next, turn_cnt, turn_brk, turn_ret, turn_exn, test_t, test_f, bind_ok, bind_exn, bind_bad, so_ok, so_exn, so_bad, seq_next, seq_brk, seq_cnt, seq_ret, seq_exn, seq_bad, ofO_some, rofO_some, view_dat, view_lst, view_var, tree_dat, tree_lst, asD_dat, asD_lst, asD_var, get0, getS, set0, setS, getD0, getDS, add_ii, sub_ii, lt_ii, le_ii, gt_ii, ge_ii, eq_ii, ne_ii, len_l, len_t, int_i, int_b, abs_i, min_ii, max_ii, tru_b, neg_i, items_l, items_t, slc_l, slc_t, viewAll, ft_mk, fdiv_ii, mod_ii, mul_ii, and_self, true_and, and_true, or_true, true_or, Option.map_some, rf_next, rf_ret, rf_exn, Int.toNat_natCast, if_true, ite_true, decide_true, decide_false, reduceIte, List.length_cons, List.length_nil, Nat.zero_add, Nat.zero_le, List.map_cons, List.map_nil, Bool.not_true, Bool.not_false, Bool.false_eq_true, Nat.reducePow, Nat.reduceAdd, Nat.reduceLT, Nat.reduceLeDiff, Nat.reduceMul, Int.reduceLT, Int.reduceLE, Int.reduceNeg, Int.reducePow, Int.reduceAdd, Int.reduceSub, Int.reduceMul, Int.reduceToNat, Nat.reduceEqDiff, Int.reduceEq]
        exact ⟨acc, hl, hall, rfl⟩
  exact key _ rfl
/-! ### _law_number -/
theorem number_ok (n : Nat) (x : Nat) (hx : x < 34359738368) : tab sub pr (n + 1) "_law_number" [nD x] = .ok (.lst (iD (putN x))) := by
  rw [tab_def h__law_number rfl]
  unfold c__law_number
  show rf (evSs _ _ [some (.dat (nD x)), none, none]) = _
  unfold nD
  have b5 : big62 5 = true := big_ok (by omega)
  simp only [K2_eq, kBin_eq, kRep_eq, kNeg_eq, kBool_eq, kCmp_eq, kCh3_eq, kCh2_eq, kCh1_eq, kAnd_eq, kOr_eq, kNot_eq, kIte_eq, kTup2_eq, kTup_eq, kLst2_eq, kLst_eq, kSub_eq, kS3_eq, kS2_eq, kS1_eq, kCall2_eq, kCall_eq, kBlt_eq, kLc_eq, kO_eq, kTv_eq, kTand_eq, kTor_eq, kTnot_eq, kEs2_eq, kEs1_eq, kIe2_eq, kIe_eq, kR1_eq, kR22_eq, kR21_eq, kA2_eq, kA1_eq, kAsg2_eq, kAsg_eq, kApp2_eq, kApp_eq, kEx_eq, kRet2_eq, kRet_eq, kSi_eq, kFor_eq, kRse2_eq, kRse_eq, evE_var, evE_con, evE_glb, evE_bin, evE_rep, evE_neg, evE_cmp, evE_chain, evE_and, evE_or, evE_not, evE_ite, evE_tup, evE_lst, evE_sub, evE_slc, evE_call, evE_blt, evE_lc, evO_no, evO_some, evTo_no, evTo_some, evT_val, evT_and, evT_or, evT_not, evEs_nil, evEs_cons, evI_e, evI_rng, evI_rng2, evS_asg, evS_app, evS_expr, evS_ret, evS_retN, evS_ite, evS_whl, evS_for, evS_brk, evS_cnt, evS_pass, evS_rse, evSs_nil, evSs_cons, asDs_nil, asDs_cons, sizeLine, turn_next, turn_cnt, turn_brk, turn_ret, turn_exn, test_t, test_f, bind_ok, bind_exn, bind_bad, so_ok, so_exn, so_bad, seq_next, seq_brk, seq_cnt, seq_ret, seq_exn, seq_bad, ofO_some, rofO_some, view_dat, view_lst, view_var, tree_dat, tree_lst, asD_dat, asD_lst, asD_var, get0, getS, set0, setS, getD0, getDS, add_ii, sub_ii, lt_ii, le_ii, gt_ii, ge_ii, eq_ii, ne_ii, len_l, len_t, int_i, int_b, abs_i, min_ii, max_ii, tru_b, neg_i, items_l, items_t, slc_l, slc_t, viewAll, ft_mk, fdiv_ii, mod_ii, mul_ii, and_self, true_and, and_true, or_true, true_or, Option.map_some, rf_next, rf_ret, rf_exn, Int.toNat_natCast, if_true, ite_true, decide_true, decide_false, reduceIte, List.length_cons, List.length_nil, Nat.zero_add, Nat.zero_le, List.map_cons, List.map_nil, Bool.not_true, Bool.not_false, Bool.false_eq_true, Nat.reducePow, Nat.reduceAdd, Nat.reduceLT, Nat.reduceLeDiff, Nat.reduceMul, Int.reduceLT, Int.reduceLE, Int.reduceNeg, Int.reducePow, Int.reduceAdd, Int.reduceSub, Int.reduceMul, Int.reduceToNat, Nat.reduceEqDiff, Int.reduceEq, b5]
  have hs := putN_shrink x hx
  have r5 : (rangeD 0 5).length = 5 := by decide
  refine for_gen (Q := fun r => rf (So.seq r _) = _) (P := fun i Γ => i ≤ 5 ∧ ∃ (y : Nat) (acc : List Nat) (o : Option Ow), Γ = [some (.dat (.int (y : Int))), some (.lst (iD acc)), o] ∧ putN x = acc ++ putN y ∧ y < 128 ^ (5 - i + 1) ∧ (y < 128 ∨ i ≤ 5) ∧ (y * 128 ^ i ≤ x ∨ y < 128)) (rangeD 0 5) ?_ ?_ _ ⟨by omega, x, [], none, rfl, rfl, by omega, .inr (by omega), .inl (by omega)⟩
  · rintro i d Γ hd ⟨_, y, acc, o, rfl, e, h1, h2, h3⟩
    have hd5 : (rangeD 0 5)[i]? = some d := hd
    obtain ⟨hi, rfl⟩ := range_at (n := 5) hd5
    refine ⟨_, rfl, ?_⟩
    have hl : acc.length < 1000 := by rw [e, List.length_append] at hs; omega
    have hz : (iD acc).length < 16777216 := by rw [iD_len]; omega
    by_cases hy : (128 : Int) ≤ (y : Int)
    · have hy2 : ¬ y < 128 := by omega
      simp only [K2_eq, kBin_eq, kRep_eq, kNeg_eq, kBool_eq, kCmp_eq, kCh3_eq, kCh2_eq, kCh1_eq, kAnd_eq, kOr_eq, kNot_eq, kIte_eq, kTup2_eq, kTup_eq, kLst2_eq, kLst_eq, kSub_eq, kS3_eq, kS2_eq, kS1_eq, kCall2_eq, kCall_eq, kBlt_eq, kLc_eq, kO_eq, kTv_eq, kTand_eq, kTor_eq, kTnot_eq, kEs2_eq, kEs1_eq, kIe2_eq, kIe_eq, kR1_eq, kR22_eq, kR21_eq, kA2_eq, kA1_eq, kAsg2_eq, kAsg_eq, kApp2_eq, kApp_eq, kEx_eq, kRet2_eq, kRet_eq, kSi_eq, kFor_eq, kRse2_eq, kRse_eq, evE_var, evE_con, evE_glb, evE_bin, evE_rep, evE_neg, evE_cmp, evE_chain, evE_and, evE_or, evE_not, evE_ite, evE_tup, evE_lst, evE_sub, evE_slc, evE_call, evE_blt, evE_lc, evO_no, evO_some, evTo_no, evTo_some, evT_val, evT_and, evT_or, evT_not, evEs_nil, evEs_cons, evI_e, evI_rng, evI_rng2, evS_asg, evS_app, evS_expr, evS_ret, evS_retN, evS_ite, evS_whl, evS_for, evS_brk, evS_cnt, evS_pass, evS_rse, evSs_nil, evSs_cons, asDs_nil, asDs_cons, sizeLine, turn_next, turn_cnt, turn_brk, turn_ret, turn_exn, test_t, test_f, bind_ok, bind_exn, bind_bad, so_ok, so_exn, so_bad, seq_next, seq_brk, seq_cnt, seq_ret, seq_exn, seq_bad, ofO_some, rofO_some, view_dat, view_lst, view_var, tree_dat, tree_lst, asD_dat, asD_lst, asD_var, get0, getS, set0, setS, getD0, getDS, add_ii, sub_ii, lt_ii, le_ii, gt_ii, ge_ii, eq_ii, ne_ii, len_l, len_t, int_i, int_b, abs_i, min_ii, max_ii, tru_b, neg_i, items_l, items_t, slc_l, slc_t, viewAll, ft_mk, fdiv_ii, mod_ii, mul_ii, and_self, true_and, and_true, or_true, true_or, Option.map_some, rf_next, rf_ret, rf_exn, Int.toNat_natCast, if_true, ite_true, decide_true, decide_false, reduceIte, List.length_cons, List.length_nil, Nat.zero_add, Nat.zero_le, List.map_cons, List.map_nil, Bool.not_true, Bool.not_false, Bool.false_eq_true, Nat.reducePow, Nat.reduceAdd, Nat.reduceLT, Nat.reduceLeDiff, Nat.reduceMul, Int.reduceLT, Int.reduceLE, Int.reduceNeg, Int.reducePow, Int.reduceAdd, Int.reduceSub, Int.reduceMul, Int.reduceToNat, Nat.reduceEqDiff, Int.reduceEq, hy, hz]
      refine ⟨by omega, y / 128, acc ++ [y % 128 + 128], some (.dat (.int (i : Int))), ?_, ?_, ?_, .inr (by omega), ?_⟩
      · rw [← iD_app]
        simp [iD, nD]
      · rw [e, putN_ge hy2]
        simp
      · rw [Nat.div_lt_iff_lt_mul (by omega), ← Nat.pow_succ]
        have : 5 - (i + 1) + 1 + 1 = 5 - i + 1 := by omega
        rw [Nat.succ_eq_add_one, this]
        exact h1
      · rcases h3 with h3 | h3
        · left
          rw [Nat.pow_succ, ← Nat.mul_assoc, Nat.mul_right_comm]
          exact Nat.le_trans (Nat.mul_le_mul_right _ (Nat.div_mul_le_self y 128)) h3
        · omega
    · have hy2 : y < 128 := by omega
      simp only [K2_eq, kBin_eq, kRep_eq, kNeg_eq, kBool_eq, kCmp_eq, kCh3_eq, kCh2_eq, kCh1_eq, kAnd_eq, kOr_eq, kNot_eq, kIte_eq, kTup2_eq, kTup_eq, kLst2_eq, kLst_eq, kSub_eq, kS3_eq, kS2_eq, kS1_eq, kCall2_eq, kCall_eq, kBlt_eq, kLc_eq, kO_eq, kTv_eq, kTand_eq, kTor_eq, kTnot_eq, kEs2_eq, kEs1_eq, kIe2_eq, kIe_eq, kR1_eq, kR22_eq, kR21_eq, kA2_eq, kA1_eq, kAsg2_eq, kAsg_eq, kApp2_eq, kApp_eq, kEx_eq, kRet2_eq, kRet_eq, kSi_eq, kFor_eq, kRse2_eq, kRse_eq, evE_var, evE_con, evE_glb, evE_bin, evE_rep, evE_neg, evE_cmp, evE_chain, evE_and, evE_or, evE_not, evE_ite, evE_tup, evE_lst, evE_sub, evE_slc, evE_call, evE_blt, evE_lc, evO_no, evO_some, evTo_no, evTo_some, evT_val, evT_and, evT_or, evT_not, evEs_nil, evEs_cons, evI_e, evI_rng, evI_rng2, evS_asg, evS_app, evS_expr, evS_ret, evS_retN, evS_ite, evS_whl, evS_for, evS_brk, evS_cnt, evS_pass, evS_rse, evSs_nil, evSs_cons, asDs_nil, asDs_cons, sizeLine, turn_next, turn_cnt, turn_brk, turn_ret, turn_exn, test_t, test_f, bind_ok, bind_exn, bind_bad, so_ok, so_exn, so_bad, seq_next, seq_brk, seq_cnt, seq_ret, seq_exn, seq_bad, ofO_some, rofO_some, view_dat, view_lst, view_var, tree_dat, tree_lst, asD_dat, asD_lst, asD_var, get0, getS, set0, setS, getD0, getDS, add_ii, sub_ii, lt_ii, le_ii, gt_ii, ge_ii, eq_ii, ne_ii, len_l, len_t, int_i, int_b, abs_i, min_ii, max_ii, tru_b, neg_i, items_l, items_t, slc_l, slc_t, viewAll, ft_mk, fdiv_ii, mod_ii, mul_ii, and_self, true_and, and_true, or_true, true_or, Option.map_some, rf_next, rf_ret, rf_exn, Int.toNat_natCast, if_true, ite_true, decide_true, decide_false, reduceIte, List.length_cons, List.length_nil, Nat.zero_add, Nat.zero_le, List.map_cons, List.map_nil, Bool.not_true, Bool.not_false, Bool.false_eq_true, Nat.reducePow, Nat.reduceAdd, Nat.reduceLT, Nat.reduceLeDiff, Nat.reduceMul, Int.reduceLT, Int.reduceLE, Int.reduceNeg, Int.reducePow, Int.reduceAdd, Int.reduceSub, Int.reduceMul, Int.reduceToNat, Nat.reduceEqDiff, Int.reduceEq, hy]
      exact ⟨by omega, y, acc, some (.dat (.int (i : Int))), rfl, e, Nat.lt_of_lt_of_le hy2 (by
        have : 128 ^ 1 ≤ 128 ^ (5 - (i + 1) + 1) := Nat.pow_le_pow_right (by omega) (by omega)
        omega), .inl hy2, .inr hy2⟩
  · rintro Γ ⟨_, y, acc, o, rfl, e, h1, h2, h3⟩
    rw [r5] at h1 h3
    have hy : y < 128 := by omega
    have hl : acc.length < 1000 := by rw [e, List.length_append] at hs; omega
    have a1 : binD .add (.list (iD acc)) (.list [PyData.int (y : Int)]) = some (.lst (iD acc ++ [PyData.int (y : Int)])) := add_ll (by rw [iD_len]; show acc.length + 1 ≤ 2 ^ 24; omega)
    simp only [K2_eq, kBin_eq, kRep_eq, kNeg_eq, kBool_eq, kCmp_eq, kCh3_eq, kCh2_eq, kCh1_eq, kAnd_eq, kOr_eq, kNot_eq, kIte_eq, kTup2_eq, kTup_eq, kLst2_eq, kLst_eq, kSub_eq, kS3_eq, kS2_eq, kS1_eq, kCall2_eq, kCall_eq, kBlt_eq, kLc_eq, kO_eq, kTv_eq, kTand_eq, kTor_eq, kTnot_eq, kEs2_eq, kEs1_eq, kIe2_eq, kIe_eq, kR1_eq, kR22_eq, kR21_eq, kA2_eq, kA1_eq, kAsg2_eq, kAsg_eq, kApp2_eq, kApp_eq, kEx_eq, kRet2_eq, kRet_eq, kSi_eq, kFor_eq, kRse2_eq, kRse_eq, evE_var, evE_con, evE_glb, evE_bin, evE_rep, evE_neg, evE_cmp, evE_chain, evE_and, evE_or, evE_not, evE_ite, evE_tup, evE_lst, evE_sub, evE_slc, evE_call, evE_blt, evE_lc, evO_no, evO_some, evTo_no, evTo_some, evT_val, evT_and, evT_or, evT_not, evEs_nil, evEs_cons, evI_e, evI_rng, evI_rng2, evS_asg, evS_app, evS_expr, evS_ret, evS_retN, evS_ite, evS_whl, evS_for, evS_brk, evS_cnt, evS_pass, evS_rse, evSs_nil, evSs_cons, asDs_nil, asDs_cons, sizeLine, turn_next, turn_cnt, turn_brk, turn_ret, turn_exn, test_t, test_f, bind_ok, bind_exn, bind_bad, so_ok, so_exn, so_bad, seq_next, seq_brk, seq_cnt, seq_ret, seq_exn, seq_bad, ofO_some, rofO_some, view_dat, view_lst, view_var, tree_dat, tree_lst, asD_dat, asD_lst, asD_var, get0, getS, set0, setS, getD0, getDS, add_ii, sub_ii, lt_ii, le_ii, gt_ii, ge_ii, eq_ii, ne_ii, len_l, len_t, int_i, int_b, abs_i, min_ii, max_ii, tru_b, neg_i, items_l, items_t, slc_l, slc_t, viewAll, ft_mk, fdiv_ii, mod_ii, mul_ii, and_self, true_and, and_true, or_true, true_or, Option.map_some, rf_next, rf_ret, rf_exn, Int.toNat_natCast, if_true, ite_true, decide_true, decide_false, reduceIte, List.length_cons, List.length_nil, Nat.zero_add, Nat.zero_le, List.map_cons, List.map_nil, Bool.not_true, Bool.not_false, Bool.false_eq_true, Nat.reducePow, Nat.reduceAdd, Nat.reduceLT, Nat.reduceLeDiff, Nat.reduceMul, Int.reduceLT, Int.reduceLE, Int.reduceNeg, Int.reducePow, Int.reduceAdd, Int.reduceSub, Int.reduceMul, Int.reduceToNat, Nat.reduceEqDiff, Int.reduceEq, a1]
    rw [e, putN_lt hy, ← iD_app]
    rfl
theorem word_ok (n : Nat) (x : Int) : tab sub pr (n + 1) "_law_word" [.int x] = .ok (.lst (wordN x)) := by
  rw [tab_def h__law_word rfl]
  unfold c__law_word
  show rf (evSs _ _ [some (.dat (.int x))]) = _
  simp only [K2_eq, kBin_eq, kRep_eq, kNeg_eq, kBool_eq, kCmp_eq, kCh3_eq, kCh2_eq, kCh1_eq, kAnd_eq, kOr_eq, kNot_eq, kIte_eq, kTup2_eq, kTup_eq, kLst2_eq, kLst_eq, kSub_eq, kS3_eq, kS2_eq, kS1_eq, kCall2_eq, kCall_eq, kBlt_eq, kLc_eq, kO_eq, kTv_eq, kTand_eq, kTor_eq, kTnot_eq, kEs2_eq, kEs1_eq, kIe2_eq, kIe_eq, kR1_eq, kR22_eq, kR21_eq, kA2_eq, kA1_eq, kAsg2_eq, kAsg_eq, kApp2_eq, kApp_eq, kEx_eq, kRet2_eq, kRet_eq, kSi_eq, kFor_eq, kRse2_eq, kRse_eq, evE_var, evE_con, evE_glb, evE_bin, evE_rep, evE_neg, evE_cmp, evE_chain, evE_and, evE_or, evE_not, evE_ite, evE_tup, evE_lst, evE_sub, evE_slc, evE_call, evE_blt, evE_lc, evO_no, evO_some, evTo_no, evTo_some, evT_val, evT_and, evT_or, evT_not, evEs_nil, evEs_cons, evI_e, evI_rng, evI_rng2, evS_asg, evS_app, evS_expr, evS_ret, evS_retN, evS_ite, evS_whl, evS_for, evS_brk, evS_cnt, evS_pass, evS_rse, evSs_nil, evSs_cons, asDs_nil, asDs_cons, sizeLine, turn_next, turn_cnt, turn_brk, turn_ret, turn_exn, test_t, test_f, bind_ok, bind_exn, bind_bad, so_ok, so_exn, so_bad, seq_next, seq_brk, seq_cnt, seq_ret, seq_exn, seq_bad, ofO_some, rofO_some, view_dat, view_lst, view_var, tree_dat, tree_lst, asD_dat, asD_lst, asD_var, get0, getS, set0, setS, getD0, getDS, add_ii, sub_ii, lt_ii, le_ii, gt_ii, ge_ii, eq_ii, ne_ii, len_l, len_t, int_i, int_b, abs_i, min_ii, max_ii, tru_b, neg_i, items_l, items_t, slc_l, slc_t, viewAll, ft_mk, fdiv_ii, mod_ii, mul_ii, and_self, true_and, and_true, or_true, true_or, Option.map_some, rf_next, rf_ret, rf_exn, Int.toNat_natCast, if_true, ite_true, decide_true, decide_false, reduceIte, List.length_cons, List.length_nil, Nat.zero_add, Nat.zero_le, List.map_cons, List.map_nil, Bool.not_true, Bool.not_false, Bool.false_eq_true, Nat.reducePow, Nat.reduceAdd, Nat.reduceLT, Nat.reduceLeDiff, Nat.reduceMul, Int.reduceLT, Int.reduceLE, Int.reduceNeg, Int.reducePow, Int.reduceAdd, Int.reduceSub, Int.reduceMul, Int.reduceToNat, Nat.reduceEqDiff, Int.reduceEq]
  rfl
theorem width_ok (n : Nat) (x : Nat) (hx : x < 1099511627776) : tab sub pr (n + 1) "_law_width" [nD x] = .ok (.dat (nD (widN x))) := by
  rw [tab_def h__law_width rfl]
  unfold c__law_width
  show rf (evSs _ _ [some (.dat (nD x)), none, none]) = _
  unfold nD
  have b5 : big62 40 = true := big_ok (by omega)
  simp only [K2_eq, kBin_eq, kRep_eq, kNeg_eq, kBool_eq, kCmp_eq, kCh3_eq, kCh2_eq, kCh1_eq, kAnd_eq, kOr_eq, kNot_eq, kIte_eq, kTup2_eq, kTup_eq, kLst2_eq, kLst_eq, kSub_eq, kS3_eq, kS2_eq, kS1_eq, kCall2_eq, kCall_eq, kBlt_eq, kLc_eq, kO_eq, kTv_eq, kTand_eq, kTor_eq, kTnot_eq, kEs2_eq, kEs1_eq, kIe2_eq, kIe_eq, kR1_eq, kR22_eq, kR21_eq, kA2_eq, kA1_eq, kAsg2_eq, kAsg_eq, kApp2_eq, kApp_eq, kEx_eq, kRet2_eq, kRet_eq, kSi_eq, kFor_eq, kRse2_eq, kRse_eq, evE_var, evE_con, evE_glb, evE_bin, evE_rep, evE_neg, evE_cmp, evE_chain, evE_and, evE_or, evE_not, evE_ite, evE_tup, evE_lst, evE_sub, evE_slc, evE_call, evE_blt, evE_lc, evO_no, evO_some, evTo_no, evTo_some, evT_val, evT_and, evT_or, evT_not, evEs_nil, evEs_cons, evI_e, evI_rng, evI_rng2, evS_asg, evS_app, evS_expr, evS_ret, evS_retN, evS_ite, evS_whl, evS_for, evS_brk, evS_cnt, evS_pass, evS_rse, evSs_nil, evSs_cons, asDs_nil, asDs_cons, sizeLine, turn_next, turn_cnt, turn_brk, turn_ret, turn_exn, test_t, test_f, bind_ok, bind_exn, bind_bad, so_ok, so_exn, so_bad, seq_next, seq_brk, seq_cnt, seq_ret, seq_exn, seq_bad, ofO_some, rofO_some, view_dat, view_lst, view_var, tree_dat, tree_lst, asD_dat, asD_lst, asD_var, get0, getS, set0, setS, getD0, getDS, add_ii, sub_ii, lt_ii, le_ii, gt_ii, ge_ii, eq_ii, ne_ii, len_l, len_t, int_i, int_b, abs_i, min_ii, max_ii, tru_b, neg_i, items_l, items_t, slc_l, slc_t, viewAll, ft_mk, fdiv_ii, mod_ii, mul_ii, and_self, true_and, and_true, or_true, true_or, Option.map_some, rf_next, rf_ret, rf_exn, Int.toNat_natCast, if_true, ite_true, decide_true, decide_false, reduceIte, List.length_cons, List.length_nil, Nat.zero_add, Nat.zero_le, List.map_cons, List.map_nil, Bool.not_true, Bool.not_false, Bool.false_eq_true, Nat.reducePow, Nat.reduceAdd, Nat.reduceLT, Nat.reduceLeDiff, Nat.reduceMul, Int.reduceLT, Int.reduceLE, Int.reduceNeg, Int.reducePow, Int.reduceAdd, Int.reduceSub, Int.reduceMul, Int.reduceToNat, Nat.reduceEqDiff, Int.reduceEq, b5]
  have r5 : (rangeD 0 40).length = 40 := by decide
  refine for_gen (Q := fun r => rf (So.seq r _) = _) (P := fun i Γ => i ≤ 40 ∧ ∃ (y w : Nat) (o : Option Ow), Γ = [some (.dat (.int (y : Int))), some (.dat (.int (w : Int))), o] ∧ widN x = w + widN y ∧ y * 2 ^ i ≤ x) (rangeD 0 40) ?_ ?_ _ ⟨by omega, x, 0, none, rfl, by omega, by omega⟩
  · rintro i d Γ hd ⟨_, y, w, o, rfl, e, h3⟩
    have hd5 : (rangeD 0 40)[i]? = some d := hd
    obtain ⟨hi, rfl⟩ := range_at (n := 40) hd5
    refine ⟨_, rfl, ?_⟩
    by_cases hy : (0 : Int) < (y : Int)
    · simp only [K2_eq, kBin_eq, kRep_eq, kNeg_eq, kBool_eq, kCmp_eq, kCh3_eq, kCh2_eq, kCh1_eq, kAnd_eq, kOr_eq, kNot_eq, kIte_eq, kTup2_eq, kTup_eq, kLst2_eq, kLst_eq, kSub_eq, kS3_eq, kS2_eq, kS1_eq, kCall2_eq, kCall_eq, kBlt_eq, kLc_eq, kO_eq, kTv_eq, kTand_eq, kTor_eq, kTnot_eq, kEs2_eq, kEs1_eq, kIe2_eq, kIe_eq, kR1_eq, kR22_eq, kR21_eq, kA2_eq, kA1_eq, kAsg2_eq, kAsg_eq, kApp2_eq, kApp_eq, kEx_eq, kRet2_eq, kRet_eq, kSi_eq, kFor_eq, kRse2_eq, kRse_eq, evE_var, evE_con, evE_glb, evE_bin, evE_rep, evE_neg, evE_cmp, evE_chain, evE_and, evE_or, evE_not, evE_ite, evE_tup, evE_lst, evE_sub, evE_slc, evE_call, evE_blt, evE_lc, evO_no, evO_some, evTo_no, evTo_some, evT_val, evT_and, evT_or, evT_not, evEs_nil, evEs_cons, evI_e, evI_rng, evI_rng2, evS_asg, evS_app, evS_expr, evS_ret, evS_retN, evS_ite, evS_whl, evS_for, evS_brk, evS_cnt, evS_pass, evS_rse, evSs_nil, evSs_cons, asDs_nil, asDs_cons, sizeLine, turn_next, turn_cnt, turn_brk, turn_ret, turn_exn, test_t, test_f, bind_ok, bind_exn, bind_bad, so_ok, so_exn, so_bad, seq_next, seq_brk, seq_cnt, seq_ret, seq_exn, seq_bad, ofO_some, rofO_some, view_dat, view_lst, view_var, tree_dat, tree_lst, asD_dat, asD_lst, asD_var, get0, getS, set0, setS, getD0, getDS, add_ii, sub_ii, lt_ii, le_ii, gt_ii, ge_ii, eq_ii, ne_ii, len_l, len_t, int_i, int_b, abs_i, min_ii, max_ii, tru_b, neg_i, items_l, items_t, slc_l, slc_t, viewAll, ft_mk, fdiv_ii, mod_ii, mul_ii, and_self, true_and, and_true, or_true, true_or, Option.map_some, rf_next, rf_ret, rf_exn, Int.toNat_natCast, if_true, ite_true, decide_true, decide_false, reduceIte, List.length_cons, List.length_nil, Nat.zero_add, Nat.zero_le, List.map_cons, List.map_nil, Bool.not_true, Bool.not_false, Bool.false_eq_true, Nat.reducePow, Nat.reduceAdd, Nat.reduceLT, Nat.reduceLeDiff, Nat.reduceMul, Int.reduceLT, Int.reduceLE, Int.reduceNeg, Int.reducePow, Int.reduceAdd, Int.reduceSub, Int.reduceMul, Int.reduceToNat, Nat.reduceEqDiff, Int.reduceEq, hy]
      refine ⟨by omega, y / 2, w + 1, some (.dat (.int (i : Int))), ?_, ?_, ?_⟩
      · simp
      · rw [e, widN_pos (by omega)]
        omega
      · rw [Nat.pow_succ, ← Nat.mul_assoc, Nat.mul_right_comm]
        exact Nat.le_trans (Nat.mul_le_mul_right _ (Nat.div_mul_le_self y 2)) h3
    · have hy2 : y = 0 := by omega
      simp only [K2_eq, kBin_eq, kRep_eq, kNeg_eq, kBool_eq, kCmp_eq, kCh3_eq, kCh2_eq, kCh1_eq, kAnd_eq, kOr_eq, kNot_eq, kIte_eq, kTup2_eq, kTup_eq, kLst2_eq, kLst_eq, kSub_eq, kS3_eq, kS2_eq, kS1_eq, kCall2_eq, kCall_eq, kBlt_eq, kLc_eq, kO_eq, kTv_eq, kTand_eq, kTor_eq, kTnot_eq, kEs2_eq, kEs1_eq, kIe2_eq, kIe_eq, kR1_eq, kR22_eq, kR21_eq, kA2_eq, kA1_eq, kAsg2_eq, kAsg_eq, kApp2_eq, kApp_eq, kEx_eq, kRet2_eq, kRet_eq, kSi_eq, kFor_eq, kRse2_eq, kRse_eq, evE_var, evE_con, evE_glb, evE_bin, evE_rep, evE_neg, evE_cmp, evE_chain, evE_and, evE_or, evE_not, evE_ite, evE_tup, evE_lst, evE_sub, evE_slc, evE_call, evE_blt, evE_lc, evO_no, evO_some, evTo_no, evTo_some, evT_val, evT_and, evT_or, evT_not, evEs_nil, evEs_cons, evI_e, evI_rng, evI_rng2, evS_asg, evS_app, evS_expr, evS_ret, evS_retN, evS_ite, evS_whl, evS_for, evS_brk, evS_cnt, evS_pass, evS_rse, evSs_nil, evSs_cons, asDs_nil, asDs_cons, sizeLine, turn_next, turn_cnt, turn_brk, turn_ret, turn_exn, test_t, test_f, bind_ok, bind_exn, bind_bad, so_ok, so_exn, so_bad, seq_next, seq_brk, seq_cnt, seq_ret, seq_exn, seq_bad, ofO_some, rofO_some, view_dat, view_lst, view_var, tree_dat, tree_lst, asD_dat, asD_lst, asD_var, get0, getS, set0, setS, getD0, getDS, add_ii, sub_ii, lt_ii, le_ii, gt_ii, ge_ii, eq_ii, ne_ii, len_l, len_t, int_i, int_b, abs_i, min_ii, max_ii, tru_b, neg_i, items_l, items_t, slc_l, slc_t, viewAll, ft_mk, fdiv_ii, mod_ii, mul_ii, and_self, true_and, and_true, or_true, true_or, Option.map_some, rf_next, rf_ret, rf_exn, Int.toNat_natCast, if_true, ite_true, decide_true, decide_false, reduceIte, List.length_cons, List.length_nil, Nat.zero_add, Nat.zero_le, List.map_cons, List.map_nil, Bool.not_true, Bool.not_false, Bool.false_eq_true, Nat.reducePow, Nat.reduceAdd, Nat.reduceLT, Nat.reduceLeDiff, Nat.reduceMul, Int.reduceLT, Int.reduceLE, Int.reduceNeg, Int.reducePow, Int.reduceAdd, Int.reduceSub, Int.reduceMul, Int.reduceToNat, Nat.reduceEqDiff, Int.reduceEq, hy]
      exact ⟨by omega, y, w, some (.dat (.int (i : Int))), rfl, e, by rw [hy2]; omega⟩
  · rintro Γ ⟨_, y, w, o, rfl, e, h3⟩
    rw [r5] at h3
    have hy : y = 0 := by omega
    subst hy
    simp only [K2_eq, kBin_eq, kRep_eq, kNeg_eq, kBool_eq, kCmp_eq, kCh3_eq, kCh2_eq, kCh1_eq, kAnd_eq, kOr_eq, kNot_eq, kIte_eq, kTup2_eq, kTup_eq, kLst2_eq, kLst_eq, kSub_eq, kS3_eq, kS2_eq, kS1_eq, kCall2_eq, kCall_eq, kBlt_eq, kLc_eq, kO_eq, kTv_eq, kTand_eq, kTor_eq, kTnot_eq, kEs2_eq, kEs1_eq, kIe2_eq, kIe_eq, kR1_eq, kR22_eq, kR21_eq, kA2_eq, kA1_eq, kAsg2_eq, kAsg_eq, kApp2_eq, kApp_eq, kEx_eq, kRet2_eq, kRet_eq, kSi_eq, kFor_eq, kRse2_eq, kRse_eq, evE_var, evE_con, evE_glb, evE_bin, evE_rep, evE_neg, evE_cmp, evE_chain, evE_and, evE_or, evE_not, evE_ite, evE_tup, evE_lst, evE_sub, evE_slc, evE_call, evE_blt, evE_lc, evO_no, evO_some, evTo_no, evTo_some, evT_val, evT_and, evT_or, evT_not, evEs_nil, evEs_cons, evI_e, evI_rng, evI_rng2, evS_asg, evS_app, evS_expr, evS_ret, evS_retN, evS_ite, evS_whl, evS_for, evS_brk, evS_cnt, evS_pass, evS_rse, evSs_nil, evSs_cons, asDs_nil, asDs_cons, sizeLine, turn_next, turn_cnt, turn_brk, turn_ret, turn_exn, test_t, test_f, bind_ok, bind_exn, bind_bad, so_ok, so_exn, so_bad, seq_next, seq_brk, seq_cnt, seq_ret, seq_exn, seq_bad, ofO_some, rofO_some, view_dat, view_lst, view_var, tree_dat, tree_lst, asD_dat, asD_lst, asD_var, get0, getS, set0, setS, getD0, getDS, add_ii, sub_ii, lt_ii, le_ii, gt_ii, ge_ii, eq_ii, ne_ii, len_l, len_t, int_i, int_b, abs_i, min_ii, max_ii, tru_b, neg_i, items_l, items_t, slc_l, slc_t, viewAll, ft_mk, fdiv_ii, mod_ii, mul_ii, and_self, true_and, and_true, or_true, true_or, Option.map_some, rf_next, rf_ret, rf_exn, Int.toNat_natCast, if_true, ite_true, decide_true, decide_false, reduceIte, List.length_cons, List.length_nil, Nat.zero_add, Nat.zero_le, List.map_cons, List.map_nil, Bool.not_true, Bool.not_false, Bool.false_eq_true, Nat.reducePow, Nat.reduceAdd, Nat.reduceLT, Nat.reduceLeDiff, Nat.reduceMul, Int.reduceLT, Int.reduceLE, Int.reduceNeg, Int.reducePow, Int.reduceAdd, Int.reduceSub, Int.reduceMul, Int.reduceToNat, Nat.reduceEqDiff, Int.reduceEq]
    rw [e, widN_zero]
    simp
end L1
end

section
set_option linter.all false
set_option maxRecDepth 100000
set_option maxHeartbeats 4000000
namespace L1
open PySem Tv PF M1 C07
/-! ### bits -/
def bitsN : Nat → Nat → List Nat
  | 0, _ => []
  | w + 1, x => x % 2 :: bitsN w (x / 2)
def bitsV : List Nat → Nat
  | [] => 0
  | b :: r => b + 2 * bitsV r
def bitsA (w : Nat) : List Nat → List Nat
  | [] => []
  | x :: r => bitsN w x ++ bitsA w r
theorem bitsN_len : ∀ w x : Nat, (bitsN w x).length = w
  | 0, _ => rfl
  | w + 1, x => by show (bitsN w (x / 2)).length + 1 = _; rw [bitsN_len w]
theorem bitsA_len (w : Nat) : ∀ xs : List Nat, (bitsA w xs).length = xs.length * w
  | [] => by simp [bitsA]
  | x :: r => by
    show (bitsN w x ++ bitsA w r).length = (r.length + 1) * w
    rw [List.length_append, bitsN_len, bitsA_len w r, Nat.add_mul]
    omega
theorem bitsV_app : ∀ xs ys : List Nat, bitsV (xs ++ ys) = bitsV xs + 2 ^ xs.length * bitsV ys
  | [], ys => by simp [bitsV]
  | x :: r, ys => by
    show x + 2 * bitsV (r ++ ys) = x + 2 * bitsV r + 2 ^ (r.length + 1) * bitsV ys
    rw [bitsV_app r ys, Nat.mul_add, Nat.pow_succ, Nat.mul_comm (2 ^ r.length) 2, Nat.mul_assoc]
    omega
theorem bitsV_N : ∀ w x : Nat, x < 2 ^ w → bitsV (bitsN w x) = x
  | 0, x, h => by
    have : x = 0 := by simpa using h
    rw [this]
    rfl
  | w + 1, x, h => by
    show x % 2 + 2 * bitsV (bitsN w (x / 2)) = x
    rw [bitsV_N w (x / 2) (by rw [Nat.div_lt_iff_lt_mul (by omega), ← Nat.pow_succ]; exact h)]
    omega
theorem bitsV_A (w : Nat) : ∀ xs : List Nat, (∀ x ∈ xs, x < 2 ^ w) → bitsV (bitsA w xs) = packT w xs
  | [], _ => rfl
  | x :: r, h => by
    show bitsV (bitsN w x ++ bitsA w r) = x + 2 ^ w * packT w r
    rw [bitsV_app, bitsN_len, bitsV_N w x (h x (List.mem_cons_self ..)), bitsV_A w r fun y hy => h y (List.mem_cons_of_mem _ hy)]
theorem bitsN_lt : ∀ w x : Nat, ∀ b ∈ bitsN w x, b < 2
  | 0, _, b, h => by simp [bitsN] at h
  | w + 1, x, b, h => by
    rcases List.mem_cons.mp h with rfl | h
    · omega
    · exact bitsN_lt w _ b h
theorem bitsA_lt (w : Nat) : ∀ xs : List Nat, ∀ b ∈ bitsA w xs, b < 2
  | [], b, h => by simp [bitsA] at h
  | x :: r, b, h => by
    rcases List.mem_append.mp h with h | h
    · exact bitsN_lt w x b h
    · exact bitsA_lt w r b h
theorem bitsV_lt : ∀ xs : List Nat, (∀ b ∈ xs, b < 2) → bitsV xs < 2 ^ xs.length
  | [], _ => by simp [bitsV]
  | x :: r, h => by
    have h1 := h x (List.mem_cons_self ..)
    have h2 := bitsV_lt r fun b hb => h b (List.mem_cons_of_mem _ hb)
    show x + 2 * bitsV r < 2 ^ (r.length + 1)
    rw [Nat.pow_succ]
    omega
/-- eight at a time -/
theorem toB_bits : ∀ (k : Nat) (bs : List Nat), (∀ b ∈ bs, b < 2) → bs.length ≤ 8 * k → toB k (bitsV bs) = (List.range k).map fun i => bitsV ((bs.drop (8 * i)).take 8)
  | 0, bs, _, _ => rfl
  | k + 1, bs, h, hl => by
    have e : bitsV bs = bitsV (bs.take 8) + 2 ^ (bs.take 8).length * bitsV (bs.drop 8) := by
      rw [← bitsV_app, List.take_append_drop]
    have h1 := bitsV_lt (bs.take 8) fun b hb => h b (List.mem_of_mem_take hb)
    have hd : ∀ b ∈ bs.drop 8, b < 2 := fun b hb => h b (List.mem_of_mem_drop hb)
    have key : bitsV bs % 256 = bitsV (bs.take 8) ∧ bitsV bs / 256 = bitsV (bs.drop 8) := by
      by_cases h8 : bs.length < 8
      · have e2 : bs.drop 8 = [] := List.drop_eq_nil_of_le (by omega)
        have e3 : bs.take 8 = bs := List.take_of_length_le (by omega)
        rw [e2, e3]
        rw [e3] at h1
        have : 2 ^ bs.length ≤ 2 ^ 8 := Nat.pow_le_pow_right (by omega) (by omega)
        show _ ∧ _ = 0
        omega
      · have e4 : (bs.take 8).length = 8 := by rw [List.length_take]; omega
        rw [e4] at e h1
        omega
    show bitsV bs % 256 :: toB k (bitsV bs / 256) = _
    rw [key.1, key.2, toB_bits k (bs.drop 8) hd (by rw [List.length_drop]; omega), List.range_succ_eq_map, List.map_cons, List.map_map]
    congr 1
    refine List.map_congr_left fun i _ => ?_
    show _ = bitsV ((bs.drop (8 * (i + 1))).take 8)
    rw [List.drop_drop, show 8 + 8 * i = 8 * (i + 1) by omega]
theorem packN_bits {xs : List Nat} {w : Nat} (h : ∀ x ∈ xs, x < 2 ^ w) : packN xs w = (List.range (((bitsA w xs).length + 7) / 8)).map fun i => bitsV (((bitsA w xs).drop (8 * i)).take 8) := by
  unfold packN
  rw [bitsA_len, ← bitsV_A w xs h]
  exact toB_bits _ _ (bitsA_lt w xs) (by rw [bitsA_len]; omega)
/-- the highest bits first -/
theorem bitsV_drop {bs : List Nat} {j b : Nat} (h : bs[j]? = some b) : bitsV (bs.drop j) = b + 2 * bitsV (bs.drop (j + 1)) := by
  rw [drop_cons h]
  rfl
theorem pack2_ok (n : Nat) (xs : List Nat) (w : Nat) (hx : ∀ x ∈ xs, x < 2 ^ w) (hl : xs.length * w < 100000) (hw : w < 100) : tab sub pr (n + 1) "_law_pack" [.list (iD xs), nD w] = .ok (.dat (.list (iD (packN xs w)))) := by
  rw [tab_def h__law_pack rfl]
  unfold c__law_pack
  show rf (evSs _ _ [some (.dat (.list (iD xs))), some (.dat (nD w)), none, none, none, none, none, none]) = _
  unfold nD
  simp only [K2_eq, kBin_eq, kRep_eq, kNeg_eq, kBool_eq, kCmp_eq, kCh3_eq, kCh2_eq, kCh1_eq, kAnd_eq, kOr_eq, kNot_eq, kIte_eq, kTup2_eq, kTup_eq, kLst2_eq, kLst_eq, kSub_eq, kS3_eq, kS2_eq, kS1_eq, kCall2_eq, kCall_eq, kBlt_eq, kLc_eq, kO_eq, kTv_eq, kTand_eq, kTor_eq, kTnot_eq, kEs2_eq, kEs1_eq, kIe2_eq, kIe_eq, kR1_eq, kR22_eq, kR21_eq, kA2_eq, kA1_eq, kAsg2_eq, kAsg_eq, kApp2_eq, kApp_eq, kEx_eq, kRet2_eq, kRet_eq, kSi_eq, kFor_eq, kRse2_eq, kRse_eq, evE_var, evE_con, evE_glb, evE_bin, evE_rep, evE_neg, evE_cmp, evE_chain, evE_and, evE_or, evE_not, evE_ite, evE_tup, evE_lst, evE_sub, evE_slc, evE_call, evE_blt, evE_lc, evO_no, evO_some, evTo_no, evTo_some, evT_val, evT_and, evT_or, evT_not, evEs_nil, evEs_cons, evI_e, evI_rng, evI_rng2, evS_asg, evS_app, evS_expr, evS_ret, evS_retN, evS_ite, evS_whl, evS_for, evS_brk, evS_cnt, evS_pass, evS_rse, evSs_nil, evSs_cons, asDs_nil, asDs_cons, sizeLine, turn_next, turn_cnt, turn_brk, turn_ret, turn_exn, test_t, test_f, bind_ok, bind_exn, bind_bad, so_ok, so_exn, so_bad, seq_next, seq_brk, seq_cnt, seq_ret, seq_exn, seq_bad, ofO_some, rofO_some, view_dat, view_lst, view_var, tree_dat, tree_lst, asD_dat, asD_lst, asD_var, get0, getS, set0, setS, getD0, getDS, add_ii, sub_ii, lt_ii, le_ii, gt_ii, ge_ii, eq_ii, ne_ii, len_l, len_t, int_i, int_b, abs_i, min_ii, max_ii, tru_b, neg_i, items_l, items_t, slc_l, slc_t, viewAll, ft_mk, fdiv_ii, mod_ii, mul_ii, and_self, true_and, and_true, or_true, true_or, Option.map_some, rf_next, rf_ret, rf_exn, Int.toNat_natCast, if_true, ite_true, decide_true, decide_false, reduceIte, List.length_cons, List.length_nil, Nat.zero_add, Nat.zero_le, List.map_cons, List.map_nil, Bool.not_true, Bool.not_false, Bool.false_eq_true, Nat.reducePow, Nat.reduceAdd, Nat.reduceLT, Nat.reduceLeDiff, Nat.reduceMul, Int.reduceLT, Int.reduceLE, Int.reduceNeg, Int.reducePow, Int.reduceAdd, Int.reduceSub, Int.reduceMul, Int.reduceToNat, Nat.reduceEqDiff, Int.reduceEq]
  have bw : big62 (w : Int) = true := big_nat (by omega)
  refine for_gen (Q := fun r => rf (So.seq r _) = _) (P := fun i Γ => i ≤ xs.length ∧ ∃ (acc : List Nat) (o p : Option Ow), Γ = [some (.dat (.list (iD xs))), some (.dat (.int (w : Int))), some (.lst (iD acc)), o, none, p, none, none] ∧ bitsA w xs = acc ++ bitsA w (xs.drop i) ∧ acc.length = i * w) (iD xs) ?_ ?_ _ ⟨by omega, [], none, none, rfl, rfl, by simp⟩
  · rintro i d Γ hd ⟨_, acc, o, p, rfl, e, hal⟩
    obtain ⟨x, hxi, rfl⟩ := iD_at hd
    have hi : i < xs.length := (List.getElem?_eq_some_iff.mp hxi).1
    refine ⟨_, rfl, ?_⟩
    have hmul : i * w ≤ xs.length * w := Nat.mul_le_mul_right _ (by omega)
    simp only [K2_eq, kBin_eq, kRep_eq, kNeg_eq, kBool_eq, kCmp_eq, kCh3_eq, kCh2_eq, kCh1_eq, kAnd_eq, kOr_eq, kNot_eq, kIte_eq, kTup2_eq, kTup_eq, kLst2_eq, kLst_eq, kSub_eq, kS3_eq, kS2_eq, kS1_eq, kCall2_eq, kCall_eq, kBlt_eq, kLc_eq, kO_eq, kTv_eq, kTand_eq, kTor_eq, kTnot_eq, kEs2_eq, kEs1_eq, kIe2_eq, kIe_eq, kR1_eq, kR22_eq, kR21_eq, kA2_eq, kA1_eq, kAsg2_eq, kAsg_eq, kApp2_eq, kApp_eq, kEx_eq, kRet2_eq, kRet_eq, kSi_eq, kFor_eq, kRse2_eq, kRse_eq, evE_var, evE_con, evE_glb, evE_bin, evE_rep, evE_neg, evE_cmp, evE_chain, evE_and, evE_or, evE_not, evE_ite, evE_tup, evE_lst, evE_sub, evE_slc, evE_call, evE_blt, evE_lc, evO_no, evO_some, evTo_no, evTo_some, evT_val, evT_and, evT_or, evT_not, evEs_nil, evEs_cons, evI_e, evI_rng, evI_rng2, evS_asg, evS_app, evS_expr, evS_ret, evS_retN, evS_ite, evS_whl, evS_for, evS_brk, evS_cnt, evS_pass, evS_rse, evSs_nil, evSs_cons, asDs_nil, asDs_cons, sizeLine, turn_next, turn_cnt, turn_brk, turn_ret, turn_exn, test_t, test_f, bind_ok, bind_exn, bind_bad, so_ok, so_exn, so_bad, seq_next, seq_brk, seq_cnt, seq_ret, seq_exn, seq_bad, ofO_some, rofO_some, view_dat, view_lst, view_var, tree_dat, tree_lst, asD_dat, asD_lst, asD_var, get0, getS, set0, setS, getD0, getDS, add_ii, sub_ii, lt_ii, le_ii, gt_ii, ge_ii, eq_ii, ne_ii, len_l, len_t, int_i, int_b, abs_i, min_ii, max_ii, tru_b, neg_i, items_l, items_t, slc_l, slc_t, viewAll, ft_mk, fdiv_ii, mod_ii, mul_ii, and_self, true_and, and_true, or_true, true_or, Option.map_some, rf_next, rf_ret, rf_exn, Int.toNat_natCast, if_true, ite_true, decide_true, decide_false, reduceIte, List.length_cons, List.length_nil, Nat.zero_add, Nat.zero_le, List.map_cons, List.map_nil, Bool.not_true, Bool.not_false, Bool.false_eq_true, Nat.reducePow, Nat.reduceAdd, Nat.reduceLT, Nat.reduceLeDiff, Nat.reduceMul, Int.reduceLT, Int.reduceLE, Int.reduceNeg, Int.reducePow, Int.reduceAdd, Int.reduceSub, Int.reduceMul, Int.reduceToNat, Nat.reduceEqDiff, Int.reduceEq, bw]
    rw [drop_cons hxi] at e
    refine for_gen (Q := fun r => Turn _ _ (So.seq r _)) (P := fun j Γ => j ≤ w ∧ ∃ (y : Nat) (acc' : List Nat) (p : Option Ow), Γ = [some (.dat (.list (iD xs))), some (.dat (.int (w : Int))), some (.lst (iD acc')), some (.dat (.int (y : Int))), none, p, none, none] ∧ acc ++ bitsN w x = acc' ++ bitsN (w - j) y ∧ acc'.length = i * w + j) (rangeD 0 w) ?_ ?_ _ ⟨by omega, x, acc, p, rfl, rfl, by omega⟩
    · rintro j d Γ hd ⟨_, y, acc', p, rfl, e2, hal2⟩
      obtain ⟨hj, rfl⟩ := range_at hd
      refine ⟨_, rfl, ?_⟩
      have hz : (iD acc').length < 16777216 := by rw [iD_len]; omega
      simp only [K2_eq, kBin_eq, kRep_eq, kNeg_eq, kBool_eq, kCmp_eq, kCh3_eq, kCh2_eq, kCh1_eq, kAnd_eq, kOr_eq, kNot_eq, kIte_eq, kTup2_eq, kTup_eq, kLst2_eq, kLst_eq, kSub_eq, kS3_eq, kS2_eq, kS1_eq, kCall2_eq, kCall_eq, kBlt_eq, kLc_eq, kO_eq, kTv_eq, kTand_eq, kTor_eq, kTnot_eq, kEs2_eq, kEs1_eq, kIe2_eq, kIe_eq, kR1_eq, kR22_eq, kR21_eq, kA2_eq, kA1_eq, kAsg2_eq, kAsg_eq, kApp2_eq, kApp_eq, kEx_eq, kRet2_eq, kRet_eq, kSi_eq, kFor_eq, kRse2_eq, kRse_eq, evE_var, evE_con, evE_glb, evE_bin, evE_rep, evE_neg, evE_cmp, evE_chain, evE_and, evE_or, evE_not, evE_ite, evE_tup, evE_lst, evE_sub, evE_slc, evE_call, evE_blt, evE_lc, evO_no, evO_some, evTo_no, evTo_some, evT_val, evT_and, evT_or, evT_not, evEs_nil, evEs_cons, evI_e, evI_rng, evI_rng2, evS_asg, evS_app, evS_expr, evS_ret, evS_retN, evS_ite, evS_whl, evS_for, evS_brk, evS_cnt, evS_pass, evS_rse, evSs_nil, evSs_cons, asDs_nil, asDs_cons, sizeLine, turn_next, turn_cnt, turn_brk, turn_ret, turn_exn, test_t, test_f, bind_ok, bind_exn, bind_bad, so_ok, so_exn, so_bad, seq_next, seq_brk, seq_cnt, seq_ret, seq_exn, seq_bad, ofO_some, rofO_some, view_dat, view_lst, view_var, tree_dat, tree_lst, asD_dat, asD_lst, asD_var, get0, getS, set0, setS, getD0, getDS, add_ii, sub_ii, lt_ii, le_ii, gt_ii, ge_ii, eq_ii, ne_ii, len_l, len_t, int_i, int_b, abs_i, min_ii, max_ii, tru_b, neg_i, items_l, items_t, slc_l, slc_t, viewAll, ft_mk, fdiv_ii, mod_ii, mul_ii, and_self, true_and, and_true, or_true, true_or, Option.map_some, rf_next, rf_ret, rf_exn, Int.toNat_natCast, if_true, ite_true, decide_true, decide_false, reduceIte, List.length_cons, List.length_nil, Nat.zero_add, Nat.zero_le, List.map_cons, List.map_nil, Bool.not_true, Bool.not_false, Bool.false_eq_true, Nat.reducePow, Nat.reduceAdd, Nat.reduceLT, Nat.reduceLeDiff, Nat.reduceMul, Int.reduceLT, Int.reduceLE, Int.reduceNeg, Int.reducePow, Int.reduceAdd, Int.reduceSub, Int.reduceMul, Int.reduceToNat, Nat.reduceEqDiff, Int.reduceEq, hz]
      refine ⟨by omega, y / 2, acc' ++ [y % 2], some (.dat (.int (j : Int))), ?_, ?_, by simp [hal2]; omega⟩
      · rw [← iD_app]
        simp [iD, nD]
      · rw [e2]
        obtain ⟨q, hq⟩ : ∃ q, w - j = q + 1 := ⟨w - j - 1, by omega⟩
        rw [hq, show w - (j + 1) = q by omega]
        simp [bitsN]
    · rintro Γ ⟨_, y, acc', p, rfl, e2, hal2⟩
      rw [range_len] at e2 hal2
      rw [Nat.sub_self] at e2
      simp only [K2_eq, kBin_eq, kRep_eq, kNeg_eq, kBool_eq, kCmp_eq, kCh3_eq, kCh2_eq, kCh1_eq, kAnd_eq, kOr_eq, kNot_eq, kIte_eq, kTup2_eq, kTup_eq, kLst2_eq, kLst_eq, kSub_eq, kS3_eq, kS2_eq, kS1_eq, kCall2_eq, kCall_eq, kBlt_eq, kLc_eq, kO_eq, kTv_eq, kTand_eq, kTor_eq, kTnot_eq, kEs2_eq, kEs1_eq, kIe2_eq, kIe_eq, kR1_eq, kR22_eq, kR21_eq, kA2_eq, kA1_eq, kAsg2_eq, kAsg_eq, kApp2_eq, kApp_eq, kEx_eq, kRet2_eq, kRet_eq, kSi_eq, kFor_eq, kRse2_eq, kRse_eq, evE_var, evE_con, evE_glb, evE_bin, evE_rep, evE_neg, evE_cmp, evE_chain, evE_and, evE_or, evE_not, evE_ite, evE_tup, evE_lst, evE_sub, evE_slc, evE_call, evE_blt, evE_lc, evO_no, evO_some, evTo_no, evTo_some, evT_val, evT_and, evT_or, evT_not, evEs_nil, evEs_cons, evI_e, evI_rng, evI_rng2, evS_asg, evS_app, evS_expr, evS_ret, evS_retN, evS_ite, evS_whl, evS_for, evS_brk, evS_cnt, evS_pass, evS_rse, evSs_nil, evSs_cons, asDs_nil, asDs_cons, sizeLine, turn_next, turn_cnt, turn_brk, turn_ret, turn_exn, test_t, test_f, bind_ok, bind_exn, bind_bad, so_ok, so_exn, so_bad, seq_next, seq_brk, seq_cnt, seq_ret, seq_exn, seq_bad, ofO_some, rofO_some, view_dat, view_lst, view_var, tree_dat, tree_lst, asD_dat, asD_lst, asD_var, get0, getS, set0, setS, getD0, getDS, add_ii, sub_ii, lt_ii, le_ii, gt_ii, ge_ii, eq_ii, ne_ii, len_l, len_t, int_i, int_b, abs_i, min_ii, max_ii, tru_b, neg_i, items_l, items_t, slc_l, slc_t, viewAll, ft_mk, fdiv_ii, mod_ii, mul_ii, and_self, true_and, and_true, or_true, true_or, Option.map_some, rf_next, rf_ret, rf_exn, Int.toNat_natCast, if_true, ite_true, decide_true, decide_false, reduceIte, List.length_cons, List.length_nil, Nat.zero_add, Nat.zero_le, List.map_cons, List.map_nil, Bool.not_true, Bool.not_false, Bool.false_eq_true, Nat.reducePow, Nat.reduceAdd, Nat.reduceLT, Nat.reduceLeDiff, Nat.reduceMul, Int.reduceLT, Int.reduceLE, Int.reduceNeg, Int.reducePow, Int.reduceAdd, Int.reduceSub, Int.reduceMul, Int.reduceToNat, Nat.reduceEqDiff, Int.reduceEq]
      refine ⟨by omega, acc', some (.dat (.int (y : Int))), p, rfl, ?_, ?_⟩
      · rw [e]
        show acc ++ (bitsN w x ++ bitsA w (xs.drop (i + 1))) = _
        rw [← List.append_assoc, e2]
        simp [bitsN]
      · rw [hal2, Nat.add_mul]
        omega
  · rintro Γ ⟨_, acc, o, p, rfl, e, hal⟩
    rw [iD_len, List.drop_length] at e
    have e : bitsA w xs = acc := by rw [e]; simp [bitsA]
    subst e
    have hlt := bitsA_lt w xs
    have hln := bitsA_len w xs
    rw [packN_bits hx]
    generalize bitsA w xs = bs at *
    have el : ((iD bs).length : Int) = (bs.length : Int) := by rw [iD_len]
    have en : ((bs.length : Int) + 7) / 8 = (((bs.length + 7) / 8 : Nat) : Int) := by omega
    generalize hk : (bs.length + 7) / 8 = k at *
    have bk : big62 (k : Int) = true := big_nat (by omega)
    have b8 : big62 8 = true := big_ok (by omega)
    simp only [K2_eq, kBin_eq, kRep_eq, kNeg_eq, kBool_eq, kCmp_eq, kCh3_eq, kCh2_eq, kCh1_eq, kAnd_eq, kOr_eq, kNot_eq, kIte_eq, kTup2_eq, kTup_eq, kLst2_eq, kLst_eq, kSub_eq, kS3_eq, kS2_eq, kS1_eq, kCall2_eq, kCall_eq, kBlt_eq, kLc_eq, kO_eq, kTv_eq, kTand_eq, kTor_eq, kTnot_eq, kEs2_eq, kEs1_eq, kIe2_eq, kIe_eq, kR1_eq, kR22_eq, kR21_eq, kA2_eq, kA1_eq, kAsg2_eq, kAsg_eq, kApp2_eq, kApp_eq, kEx_eq, kRet2_eq, kRet_eq, kSi_eq, kFor_eq, kRse2_eq, kRse_eq, evE_var, evE_con, evE_glb, evE_bin, evE_rep, evE_neg, evE_cmp, evE_chain, evE_and, evE_or, evE_not, evE_ite, evE_tup, evE_lst, evE_sub, evE_slc, evE_call, evE_blt, evE_lc, evO_no, evO_some, evTo_no, evTo_some, evT_val, evT_and, evT_or, evT_not, evEs_nil, evEs_cons, evI_e, evI_rng, evI_rng2, evS_asg, evS_app, evS_expr, evS_ret, evS_retN, evS_ite, evS_whl, evS_for, evS_brk, evS_cnt, evS_pass, evS_rse, evSs_nil, evSs_cons, asDs_nil, asDs_cons, sizeLine, turn_next, turn_cnt, turn_brk, turn_ret, turn_exn, test_t, test_f, bind_ok, bind_exn, bind_bad, so_ok, so_exn, so_bad, seq_next, seq_brk, seq_cnt, seq_ret, seq_exn, seq_bad, ofO_some, rofO_some, view_dat, view_lst, view_var, tree_dat, tree_lst, asD_dat, asD_lst, asD_var, get0, getS, set0, setS, getD0, getDS, add_ii, sub_ii, lt_ii, le_ii, gt_ii, ge_ii, eq_ii, ne_ii, len_l, len_t, int_i, int_b, abs_i, min_ii, max_ii, tru_b, neg_i, items_l, items_t, slc_l, slc_t, viewAll, ft_mk, fdiv_ii, mod_ii, mul_ii, and_self, true_and, and_true, or_true, true_or, Option.map_some, rf_next, rf_ret, rf_exn, Int.toNat_natCast, if_true, ite_true, decide_true, decide_false, reduceIte, List.length_cons, List.length_nil, Nat.zero_add, Nat.zero_le, List.map_cons, List.map_nil, Bool.not_true, Bool.not_false, Bool.false_eq_true, Nat.reducePow, Nat.reduceAdd, Nat.reduceLT, Nat.reduceLeDiff, Nat.reduceMul, Int.reduceLT, Int.reduceLE, Int.reduceNeg, Int.reducePow, Int.reduceAdd, Int.reduceSub, Int.reduceMul, Int.reduceToNat, Nat.reduceEqDiff, Int.reduceEq, el, en, bk]
    refine for_gen (Q := fun r => rf (So.seq r _) = _) (P := fun i Γ => i ≤ k ∧ ∃ (acc : List Nat) (p q r : Option Ow), Γ = [some (.dat (.list (iD xs))), some (.dat (.int (w : Int))), some (.lst (iD bs)), o, some (.lst (iD acc)), p, q, r] ∧ acc = (List.range i).map fun i => bitsV ((bs.drop (8 * i)).take 8)) (rangeD 0 k) ?_ ?_ _ ⟨by omega, [], p, none, none, rfl, rfl⟩
    · rintro i d Γ hd ⟨_, acc, p, q, r, rfl, e⟩
      obtain ⟨hi, rfl⟩ := range_at hd
      refine ⟨_, rfl, ?_⟩
      simp only [K2_eq, kBin_eq, kRep_eq, kNeg_eq, kBool_eq, kCmp_eq, kCh3_eq, kCh2_eq, kCh1_eq, kAnd_eq, kOr_eq, kNot_eq, kIte_eq, kTup2_eq, kTup_eq, kLst2_eq, kLst_eq, kSub_eq, kS3_eq, kS2_eq, kS1_eq, kCall2_eq, kCall_eq, kBlt_eq, kLc_eq, kO_eq, kTv_eq, kTand_eq, kTor_eq, kTnot_eq, kEs2_eq, kEs1_eq, kIe2_eq, kIe_eq, kR1_eq, kR22_eq, kR21_eq, kA2_eq, kA1_eq, kAsg2_eq, kAsg_eq, kApp2_eq, kApp_eq, kEx_eq, kRet2_eq, kRet_eq, kSi_eq, kFor_eq, kRse2_eq, kRse_eq, evE_var, evE_con, evE_glb, evE_bin, evE_rep, evE_neg, evE_cmp, evE_chain, evE_and, evE_or, evE_not, evE_ite, evE_tup, evE_lst, evE_sub, evE_slc, evE_call, evE_blt, evE_lc, evO_no, evO_some, evTo_no, evTo_some, evT_val, evT_and, evT_or, evT_not, evEs_nil, evEs_cons, evI_e, evI_rng, evI_rng2, evS_asg, evS_app, evS_expr, evS_ret, evS_retN, evS_ite, evS_whl, evS_for, evS_brk, evS_cnt, evS_pass, evS_rse, evSs_nil, evSs_cons, asDs_nil, asDs_cons, sizeLine, turn_next, turn_cnt, turn_brk, turn_ret, turn_exn, test_t, test_f, bind_ok, bind_exn, bind_bad, so_ok, so_exn, so_bad, seq_next, seq_brk, seq_cnt, seq_ret, seq_exn, seq_bad, ofO_some, rofO_some, view_dat, view_lst, view_var, tree_dat, tree_lst, asD_dat, asD_lst, asD_var, get0, getS, set0, setS, getD0, getDS, add_ii, sub_ii, lt_ii, le_ii, gt_ii, ge_ii, eq_ii, ne_ii, len_l, len_t, int_i, int_b, abs_i, min_ii, max_ii, tru_b, neg_i, items_l, items_t, slc_l, slc_t, viewAll, ft_mk, fdiv_ii, mod_ii, mul_ii, and_self, true_and, and_true, or_true, true_or, Option.map_some, rf_next, rf_ret, rf_exn, Int.toNat_natCast, if_true, ite_true, decide_true, decide_false, reduceIte, List.length_cons, List.length_nil, Nat.zero_add, Nat.zero_le, List.map_cons, List.map_nil, Bool.not_true, Bool.not_false, Bool.false_eq_true, Nat.reducePow, Nat.reduceAdd, Nat.reduceLT, Nat.reduceLeDiff, Nat.reduceMul, Int.reduceLT, Int.reduceLE, Int.reduceNeg, Int.reducePow, Int.reduceAdd, Int.reduceSub, Int.reduceMul, Int.reduceToNat, Nat.reduceEqDiff, Int.reduceEq, b8]
      have r8 : (rangeD 0 8).length = 8 := by decide
      refine for_gen (Q := fun r => Turn _ _ (So.seq r _)) (P := fun j Γ => j ≤ 8 ∧ ∃ (t : Nat) (r : Option Ow), Γ = [some (.dat (.list (iD xs))), some (.dat (.int (w : Int))), some (.lst (iD bs)), o, some (.lst (iD acc)), some (.dat (.int (i : Int))), some (.dat (.int (t : Int))), r] ∧ t = bitsV (((bs.drop (8 * i)).take 8).drop (8 - j))) (rangeD 0 8) ?_ ?_ _ ⟨by omega, 0, r, rfl, by rw [List.drop_eq_nil_of_le (by rw [List.length_take]; omega)]; rfl⟩
      · rintro j d Γ hd ⟨_, t, r, rfl, ht⟩
        have hd5 : (rangeD 0 8)[j]? = some d := hd
        obtain ⟨hj, rfl⟩ := range_at (n := 8) hd5
        refine ⟨_, rfl, ?_⟩
        by_cases hin : 8 * i + 7 - j < bs.length
        · have hin2 : (8 : Int) * (i : Int) + 7 - (j : Int) < (bs.length : Int) := by omega
          obtain ⟨b, hb⟩ : ∃ b, bs[8 * i + 7 - j]? = some b := ⟨bs[8 * i + 7 - j], List.getElem?_eq_getElem hin⟩
          have s1 : subD (.list (iD bs)) (.int ((8 : Int) * (i : Int) + 7 - (j : Int))) = some (.dat (.int (b : Int))) := by
            rw [show (8 : Int) * (i : Int) + 7 - (j : Int) = ((8 * i + 7 - j : Nat) : Int) by omega]
            exact sub_nat hb
          have hb2 : ((bs.drop (8 * i)).take 8)[8 - (j + 1)]? = some b := by
            rw [List.getElem?_take_of_lt (by omega), List.getElem?_drop, ← hb]
            congr 1
            omega
          simp only [K2_eq, kBin_eq, kRep_eq, kNeg_eq, kBool_eq, kCmp_eq, kCh3_eq, kCh2_eq, kCh1_eq, kAnd_eq, kOr_eq, kNot_eq, kIte_eq, kTup2_eq, kTup_eq, kLst2_eq, kLst_eq, kSub_eq, kS3_eq, kS2_eq, kS1_eq, kCall2_eq, kCall_eq, kBlt_eq, kLc_eq, kO_eq, kTv_eq, kTand_eq, kTor_eq, kTnot_eq, kEs2_eq, kEs1_eq, kIe2_eq, kIe_eq, kR1_eq, kR22_eq, kR21_eq, kA2_eq, kA1_eq, kAsg2_eq, kAsg_eq, kApp2_eq, kApp_eq, kEx_eq, kRet2_eq, kRet_eq, kSi_eq, kFor_eq, kRse2_eq, kRse_eq, evE_var, evE_con, evE_glb, evE_bin, evE_rep, evE_neg, evE_cmp, evE_chain, evE_and, evE_or, evE_not, evE_ite, evE_tup, evE_lst, evE_sub, evE_slc, evE_call, evE_blt, evE_lc, evO_no, evO_some, evTo_no, evTo_some, evT_val, evT_and, evT_or, evT_not, evEs_nil, evEs_cons, evI_e, evI_rng, evI_rng2, evS_asg, evS_app, evS_expr, evS_ret, evS_retN, evS_ite, evS_whl, evS_for, evS_brk, evS_cnt, evS_pass, evS_rse, evSs_nil, evSs_cons, asDs_nil, asDs_cons, sizeLine, turn_next, turn_cnt, turn_brk, turn_ret, turn_exn, test_t, test_f, bind_ok, bind_exn, bind_bad, so_ok, so_exn, so_bad, seq_next, seq_brk, seq_cnt, seq_ret, seq_exn, seq_bad, ofO_some, rofO_some, view_dat, view_lst, view_var, tree_dat, tree_lst, asD_dat, asD_lst, asD_var, get0, getS, set0, setS, getD0, getDS, add_ii, sub_ii, lt_ii, le_ii, gt_ii, ge_ii, eq_ii, ne_ii, len_l, len_t, int_i, int_b, abs_i, min_ii, max_ii, tru_b, neg_i, items_l, items_t, slc_l, slc_t, viewAll, ft_mk, fdiv_ii, mod_ii, mul_ii, and_self, true_and, and_true, or_true, true_or, Option.map_some, rf_next, rf_ret, rf_exn, Int.toNat_natCast, if_true, ite_true, decide_true, decide_false, reduceIte, List.length_cons, List.length_nil, Nat.zero_add, Nat.zero_le, List.map_cons, List.map_nil, Bool.not_true, Bool.not_false, Bool.false_eq_true, Nat.reducePow, Nat.reduceAdd, Nat.reduceLT, Nat.reduceLeDiff, Nat.reduceMul, Int.reduceLT, Int.reduceLE, Int.reduceNeg, Int.reducePow, Int.reduceAdd, Int.reduceSub, Int.reduceMul, Int.reduceToNat, Nat.reduceEqDiff, Int.reduceEq, el, hin2, s1]
          refine ⟨by omega, t * 2 + b, some (.dat (.int (j : Int))), ?_, ?_⟩
          · simp only [Int.natCast_add, Int.natCast_mul]
            rfl
          · rw [bitsV_drop hb2, show 8 - (j + 1) + 1 = 8 - j by omega, ← ht]
            omega
        · have hin2 : ¬ (8 : Int) * (i : Int) + 7 - (j : Int) < (bs.length : Int) := by omega
          simp only [K2_eq, kBin_eq, kRep_eq, kNeg_eq, kBool_eq, kCmp_eq, kCh3_eq, kCh2_eq, kCh1_eq, kAnd_eq, kOr_eq, kNot_eq, kIte_eq, kTup2_eq, kTup_eq, kLst2_eq, kLst_eq, kSub_eq, kS3_eq, kS2_eq, kS1_eq, kCall2_eq, kCall_eq, kBlt_eq, kLc_eq, kO_eq, kTv_eq, kTand_eq, kTor_eq, kTnot_eq, kEs2_eq, kEs1_eq, kIe2_eq, kIe_eq, kR1_eq, kR22_eq, kR21_eq, kA2_eq, kA1_eq, kAsg2_eq, kAsg_eq, kApp2_eq, kApp_eq, kEx_eq, kRet2_eq, kRet_eq, kSi_eq, kFor_eq, kRse2_eq, kRse_eq, evE_var, evE_con, evE_glb, evE_bin, evE_rep, evE_neg, evE_cmp, evE_chain, evE_and, evE_or, evE_not, evE_ite, evE_tup, evE_lst, evE_sub, evE_slc, evE_call, evE_blt, evE_lc, evO_no, evO_some, evTo_no, evTo_some, evT_val, evT_and, evT_or, evT_not, evEs_nil, evEs_cons, evI_e, evI_rng, evI_rng2, evS_asg, evS_app, evS_expr, evS_ret, evS_retN, evS_ite, evS_whl, evS_for, evS_brk, evS_cnt, evS_pass, evS_rse, evSs_nil, evSs_cons, asDs_nil, asDs_cons, sizeLine, turn_next, turn_cnt, turn_brk, turn_ret, turn_exn, test_t, test_f, bind_ok, bind_exn, bind_bad, so_ok, so_exn, so_bad, seq_next, seq_brk, seq_cnt, seq_ret, seq_exn, seq_bad, ofO_some, rofO_some, view_dat, view_lst, view_var, tree_dat, tree_lst, asD_dat, asD_lst, asD_var, get0, getS, set0, setS, getD0, getDS, add_ii, sub_ii, lt_ii, le_ii, gt_ii, ge_ii, eq_ii, ne_ii, len_l, len_t, int_i, int_b, abs_i, min_ii, max_ii, tru_b, neg_i, items_l, items_t, slc_l, slc_t, viewAll, ft_mk, fdiv_ii, mod_ii, mul_ii, and_self, true_and, and_true, or_true, true_or, Option.map_some, rf_next, rf_ret, rf_exn, Int.toNat_natCast, if_true, ite_true, decide_true, decide_false, reduceIte, List.length_cons, List.length_nil, Nat.zero_add, Nat.zero_le, List.map_cons, List.map_nil, Bool.not_true, Bool.not_false, Bool.false_eq_true, Nat.reducePow, Nat.reduceAdd, Nat.reduceLT, Nat.reduceLeDiff, Nat.reduceMul, Int.reduceLT, Int.reduceLE, Int.reduceNeg, Int.reducePow, Int.reduceAdd, Int.reduceSub, Int.reduceMul, Int.reduceToNat, Nat.reduceEqDiff, Int.reduceEq, el, hin2]
          refine ⟨by omega, t * 2, some (.dat (.int (j : Int))), ?_, ?_⟩
          · simp only [Int.natCast_mul]
            rfl
          · have h0 : ∀ m, bs.length - 8 * i ≤ m → ((bs.drop (8 * i)).take 8).drop m = [] := fun m hm => List.drop_eq_nil_of_le (by rw [List.length_take, List.length_drop]; omega)
            rw [ht, h0 (8 - j) (by omega), h0 (8 - (j + 1)) (by omega)]
            rfl
      · rintro Γ ⟨_, t, r, rfl, ht⟩
        rw [r8, Nat.sub_self, List.drop_zero] at ht
        have hal : acc.length = i := by rw [e]; simp
        have hz : (iD acc).length < 16777216 := by rw [iD_len]; omega
        simp only [K2_eq, kBin_eq, kRep_eq, kNeg_eq, kBool_eq, kCmp_eq, kCh3_eq, kCh2_eq, kCh1_eq, kAnd_eq, kOr_eq, kNot_eq, kIte_eq, kTup2_eq, kTup_eq, kLst2_eq, kLst_eq, kSub_eq, kS3_eq, kS2_eq, kS1_eq, kCall2_eq, kCall_eq, kBlt_eq, kLc_eq, kO_eq, kTv_eq, kTand_eq, kTor_eq, kTnot_eq, kEs2_eq, kEs1_eq, kIe2_eq, kIe_eq, kR1_eq, kR22_eq, kR21_eq, kA2_eq, kA1_eq, kAsg2_eq, kAsg_eq, kApp2_eq, kApp_eq, kEx_eq, kRet2_eq, kRet_eq, kSi_eq, kFor_eq, kRse2_eq, kRse_eq, evE_var, evE_con, evE_glb, evE_bin, evE_rep, evE_neg, evE_cmp, evE_chain, evE_and, evE_or, evE_not, evE_ite, evE_tup, evE_lst, evE_sub, evE_slc, evE_call, evE_blt, evE_lc, evO_no, evO_some, evTo_no, evTo_some, evT_val, evT_and, evT_or, evT_not, evEs_nil, evEs_cons, evI_e, evI_rng, evI_rng2, evS_asg, evS_app, evS_expr, evS_ret, evS_retN, evS_ite, evS_whl, evS_for, evS_brk, evS_cnt, evS_pass, evS_rse, evSs_nil, evSs_cons, asDs_nil, asDs_cons, sizeLine, turn_next, turn_cnt, turn_brk, turn_ret, turn_exn, test_t, test_f, bind_ok, bind_exn, bind_bad, so_ok, so_exn, so_bad, seq_next, seq_brk, seq_cnt, seq_ret, seq_exn, seq_bad, ofO_some, rofO_some, view_dat, view_lst, view_var, tree_dat, tree_lst, asD_dat, asD_lst, asD_var, get0, getS, set0, setS, getD0, getDS, add_ii, sub_ii, lt_ii, le_ii, gt_ii, ge_ii, eq_ii, ne_ii, len_l, len_t, int_i, int_b, abs_i, min_ii, max_ii, tru_b, neg_i, items_l, items_t, slc_l, slc_t, viewAll, ft_mk, fdiv_ii, mod_ii, mul_ii, and_self, true_and, and_true, or_true, true_or, Option.map_some, rf_next, rf_ret, rf_exn, Int.toNat_natCast, if_true, ite_true, decide_true, decide_false, reduceIte, List.length_cons, List.length_nil, Nat.zero_add, Nat.zero_le, List.map_cons, List.map_nil, Bool.not_true, Bool.not_false, Bool.false_eq_true, Nat.reducePow, Nat.reduceAdd, Nat.reduceLT, Nat.reduceLeDiff, Nat.reduceMul, Int.reduceLT, Int.reduceLE, Int.reduceNeg, Int.reducePow, Int.reduceAdd, Int.reduceSub, Int.reduceMul, Int.reduceToNat, Nat.reduceEqDiff, Int.reduceEq, hz]
        refine ⟨by omega, acc ++ [t], some (.dat (.int (i : Int))), some (.dat (.int (t : Int))), r, ?_, ?_⟩
        · rw [← iD_app]
          rfl
        · rw [List.range_succ, List.map_append, ← e, ht]
          rfl
    · rintro Γ ⟨_, acc, p, q, r, rfl, e⟩
      rw [range_len] at e
      simp only [K2_eq, kBin_eq, kRep_eq, kNeg_eq, kBool_eq, kCmp_eq, kCh3_eq, kCh2_eq, kCh1_eq, kAnd_eq, kOr_eq, kNot_eq, kIte_eq, kTup2_eq, kTup_eq, kLst2_eq, kLst_eq, kSub_eq, kS3_eq, kS2_eq, kS1_eq, kCall2_eq, kCall_eq, kBlt_eq, kLc_eq, kO_eq, kTv_eq, kTand_eq, kTor_eq, kTnot_eq, kEs2_eq, kEs1_eq, kIe2_eq, kIe_eq, kR1_eq, kR22_eq, kR21_eq, kA2_eq, kA1_eq, kAsg2_eq, kAsg_eq, kApp2_eq, kApp_eq, kEx_eq, kRet2_eq, kRet_eq, kSi_eq, kFor_eq, kRse2_eq, kRse_eq, evE_var, evE_con, evE_glb, evE_bin, evE_rep, evE_neg, evE_cmp, evE_chain, evE_and, evE_or, evE_not, evE_ite, evE_tup, evE_lst, evE_sub, evE_slc, evE_call, evE_blt, evE_lc, evO_no, evO_some, evTo_no, evTo_some, evT_val, evT_and, evT_or, evT_not, evEs_nil, evEs_cons, evI_e, evI_rng, evI_rng2, evS_asg, evS_app, evS_expr, evS_ret, evS_retN, evS_ite, evS_whl, evS_for, evS_brk, evS_cnt, evS_pass, evS_rse, evSs_nil, evSs_cons, asDs_nil, asDs_cons, sizeLine, turn_next, turn_cnt, turn_brk, turn_ret, turn_exn, test_t, test_f, bind_ok, bind_exn, bind_bad, so_ok, so_exn, so_bad, seq_next, seq_brk, seq_cnt, seq_ret, seq_exn, seq_bad, ofO_some, rofO_some, view_dat, view_lst, view_var, tree_dat, tree_lst, asD_dat, asD_lst, asD_var, get0, getS, set0, setS, getD0, getDS, add_ii, sub_ii, lt_ii, le_ii, gt_ii, ge_ii, eq_ii, ne_ii, len_l, len_t, int_i, int_b, abs_i, min_ii, max_ii, tru_b, neg_i, items_l, items_t, slc_l, slc_t, viewAll, ft_mk, fdiv_ii, mod_ii, mul_ii, and_self, true_and, and_true, or_true, true_or, Option.map_some, rf_next, rf_ret, rf_exn, Int.toNat_natCast, if_true, ite_true, decide_true, decide_false, reduceIte, List.length_cons, List.length_nil, Nat.zero_add, Nat.zero_le, List.map_cons, List.map_nil, Bool.not_true, Bool.not_false, Bool.false_eq_true, Nat.reducePow, Nat.reduceAdd, Nat.reduceLT, Nat.reduceLeDiff, Nat.reduceMul, Int.reduceLT, Int.reduceLE, Int.reduceNeg, Int.reducePow, Int.reduceAdd, Int.reduceSub, Int.reduceMul, Int.reduceToNat, Nat.reduceEqDiff, Int.reduceEq]
      rw [e]
end L1
end

section
set_option linter.all false
set_option maxRecDepth 100000
set_option maxHeartbeats 4000000
namespace L1
open PySem Tv PF M1 C07
theorem range2_len (lo : Int) (n : Nat) : (rangeD lo n).length = n := by simp [rangeD]
theorem range2_at {lo : Int} {n i : Nat} {d : D} (h : (rangeD lo n)[i]? = some d) : i < n ∧ d = .int (lo + (i : Int)) := by
  have hi : i < n := by
    have := (List.getElem?_eq_some_iff.mp h).1
    rw [range2_len] at this
    exact this
  refine ⟨hi, ?_⟩
  unfold rangeD at h
  rw [List.getElem?_map, List.getElem?_range hi] at h
  simp at h
  exact h.symm
theorem run2_ok (n : Nat) (xs : List Nat) (a m : Nat) (ha : a ≤ xs.length) (hl : xs.length < 1000000) (hm : m < 10000000) : tab sub pr (n + 1) "_law_run" [.list (iD xs), nD a, nD m] = .ok (.dat (nD (min (runL (xs.drop a)) m))) := by
  rw [tab_def h__law_run rfl]
  unfold c__law_run
  show rf (evSs _ _ [some (.dat (.list (iD xs))), some (.dat (nD a)), some (.dat (nD m)), none, none]) = _
  unfold nD
  have el : ((iD xs).length : Int) = (xs.length : Int) := by rw [iD_len]
  obtain ⟨k, hk⟩ : ∃ k : Nat, (if (a : Int) + (m : Int) < (xs.length : Int) then (a : Int) + (m : Int) else (xs.length : Int)) = (k : Int) ∧ k = min xs.length (a + m) := by
    by_cases hc : (a : Int) + (m : Int) < (xs.length : Int)
    · exact ⟨a + m, by rw [if_pos hc]; omega, by omega⟩
    · exact ⟨xs.length, by rw [if_neg hc], by omega⟩
  obtain ⟨hk, hk2⟩ := hk
  have b1 : big62 (a : Int) = true := big_nat (by omega)
  have b2 : big62 (k : Int) = true := big_nat (by omega)
  have b3 : (big62 (a : Int) && big62 (k : Int)) = true := by rw [b1, b2]; rfl
  have ek : ((k : Int) - (a : Int)).toNat = k - a := by omega
  simp only [K2_eq, kBin_eq, kRep_eq, kNeg_eq, kBool_eq, kCmp_eq, kCh3_eq, kCh2_eq, kCh1_eq, kAnd_eq, kOr_eq, kNot_eq, kIte_eq, kTup2_eq, kTup_eq, kLst2_eq, kLst_eq, kSub_eq, kS3_eq, kS2_eq, kS1_eq, kCall2_eq, kCall_eq, kBlt_eq, kLc_eq, kO_eq, kTv_eq, kTand_eq, kTor_eq, kTnot_eq, kEs2_eq, kEs1_eq, kIe2_eq, kIe_eq, kR1_eq, kR22_eq, kR21_eq, kA2_eq, kA1_eq, kAsg2_eq, kAsg_eq, kApp2_eq, kApp_eq, kEx_eq, kRet2_eq, kRet_eq, kSi_eq, kFor_eq, kRse2_eq, kRse_eq, evE_var, evE_con, evE_glb, evE_bin, evE_rep, evE_neg, evE_cmp, evE_chain, evE_and, evE_or, evE_not, evE_ite, evE_tup, evE_lst, evE_sub, evE_slc, evE_call, evE_blt, evE_lc, evO_no, evO_some, evTo_no, evTo_some, evT_val, evT_and, evT_or, evT_not, evEs_nil, evEs_cons, evI_e, evI_rng, evI_rng2, evS_asg, evS_app, evS_expr, evS_ret, evS_retN, evS_ite, evS_whl, evS_for, evS_brk, evS_cnt, evS_pass, evS_rse, evSs_nil, evSs_cons, asDs_nil, asDs_cons, sizeLine, turn_next, turn_cnt, turn_brk, turn_ret, turn_exn, test_t, test_f, bind_ok, bind_exn, bind_bad, so_ok, so_exn, so_bad, seq_next, seq_brk, seq_cnt, seq_ret, seq_exn, seq_bad, ofO_some, rofO_some, view_dat, view_lst, view_var, tree_dat, tree_lst, asD_dat, asD_lst, asD_var, get0, getS, set0, setS, getD0, getDS, add_ii, sub_ii, lt_ii, le_ii, gt_ii, ge_ii, eq_ii, ne_ii, len_l, len_t, int_i, int_b, abs_i, min_ii, max_ii, tru_b, neg_i, items_l, items_t, slc_l, slc_t, viewAll, ft_mk, fdiv_ii, mod_ii, mul_ii, and_self, true_and, and_true, or_true, true_or, Option.map_some, rf_next, rf_ret, rf_exn, Int.toNat_natCast, if_true, ite_true, decide_true, decide_false, reduceIte, List.length_cons, List.length_nil, Nat.zero_add, Nat.zero_le, List.map_cons, List.map_nil, Bool.not_true, Bool.not_false, Bool.false_eq_true, Nat.reducePow, Nat.reduceAdd, Nat.reduceLT, Nat.reduceLeDiff, Nat.reduceMul, Int.reduceLT, Int.reduceLE, Int.reduceNeg, Int.reducePow, Int.reduceAdd, Int.reduceSub, Int.reduceMul, Int.reduceToNat, Nat.reduceEqDiff, Int.reduceEq, el, hk, b3, ek]
  obtain ⟨x0, hx0, e0⟩ : ∃ x0, (a < xs.length → xs[a]? = some x0) ∧ runL (xs.drop a) = eqN x0 (xs.drop a) := by
    by_cases hlt : a < xs.length
    · refine ⟨xs[a], fun _ => List.getElem?_eq_getElem hlt, ?_⟩
      rw [drop_cons (List.getElem?_eq_getElem hlt)]
      simp [runL, eqN]
    · refine ⟨0, fun q => absurd q hlt, ?_⟩
      rw [List.drop_eq_nil_of_le (by omega)]
      rfl
  refine for_gen (Q := fun r => rf (So.seq r _) = _) (P := fun i Γ => i ≤ k - a ∧ ∃ (o : Option Ow), Γ = [some (.dat (.list (iD xs))), some (.dat (.int (a : Int))), some (.dat (.int (m : Int))), some (.dat (.int (i : Int))), o] ∧ runL (xs.drop a) = i + eqN x0 (xs.drop (a + i))) (rangeD (a : Int) (k - a)) ?_ ?_ _ ⟨by omega, none, rfl, by rw [e0]; simp⟩
  · rintro i d Γ hd ⟨_, o, rfl, e⟩
    obtain ⟨hi, rfl⟩ := range2_at hd
    refine ⟨_, rfl, ?_⟩
    have hai : a + i < xs.length := by omega
    obtain ⟨y, hy⟩ : ∃ y, xs[a + i]? = some y := ⟨xs[a + i], List.getElem?_eq_getElem hai⟩
    have hx := hx0 (by omega)
    have s1 : subD (.list (iD xs)) (.int ((a : Int) + (i : Int))) = some (.dat (.int (y : Int))) := by
      rw [show (a : Int) + (i : Int) = ((a + i : Nat) : Int) by omega]
      exact sub_nat hy
    rw [drop_cons hy] at e
    unfold eqN at e
    by_cases hyx : y = x0
    · have hyx2 : (y : Int) = (x0 : Int) := by omega
      rw [if_pos hyx] at e
      simp only [K2_eq, kBin_eq, kRep_eq, kNeg_eq, kBool_eq, kCmp_eq, kCh3_eq, kCh2_eq, kCh1_eq, kAnd_eq, kOr_eq, kNot_eq, kIte_eq, kTup2_eq, kTup_eq, kLst2_eq, kLst_eq, kSub_eq, kS3_eq, kS2_eq, kS1_eq, kCall2_eq, kCall_eq, kBlt_eq, kLc_eq, kO_eq, kTv_eq, kTand_eq, kTor_eq, kTnot_eq, kEs2_eq, kEs1_eq, kIe2_eq, kIe_eq, kR1_eq, kR22_eq, kR21_eq, kA2_eq, kA1_eq, kAsg2_eq, kAsg_eq, kApp2_eq, kApp_eq, kEx_eq, kRet2_eq, kRet_eq, kSi_eq, kFor_eq, kRse2_eq, kRse_eq, evE_var, evE_con, evE_glb, evE_bin, evE_rep, evE_neg, evE_cmp, evE_chain, evE_and, evE_or, evE_not, evE_ite, evE_tup, evE_lst, evE_sub, evE_slc, evE_call, evE_blt, evE_lc, evO_no, evO_some, evTo_no, evTo_some, evT_val, evT_and, evT_or, evT_not, evEs_nil, evEs_cons, evI_e, evI_rng, evI_rng2, evS_asg, evS_app, evS_expr, evS_ret, evS_retN, evS_ite, evS_whl, evS_for, evS_brk, evS_cnt, evS_pass, evS_rse, evSs_nil, evSs_cons, asDs_nil, asDs_cons, sizeLine, turn_next, turn_cnt, turn_brk, turn_ret, turn_exn, test_t, test_f, bind_ok, bind_exn, bind_bad, so_ok, so_exn, so_bad, seq_next, seq_brk, seq_cnt, seq_ret, seq_exn, seq_bad, ofO_some, rofO_some, view_dat, view_lst, view_var, tree_dat, tree_lst, asD_dat, asD_lst, asD_var, get0, getS, set0, setS, getD0, getDS, add_ii, sub_ii, lt_ii, le_ii, gt_ii, ge_ii, eq_ii, ne_ii, len_l, len_t, int_i, int_b, abs_i, min_ii, max_ii, tru_b, neg_i, items_l, items_t, slc_l, slc_t, viewAll, ft_mk, fdiv_ii, mod_ii, mul_ii, and_self, true_and, and_true, or_true, true_or, Option.map_some, rf_next, rf_ret, rf_exn, Int.toNat_natCast, if_true, ite_true, decide_true, decide_false, reduceIte, List.length_cons, List.length_nil, Nat.zero_add, Nat.zero_le, List.map_cons, List.map_nil, Bool.not_true, Bool.not_false, Bool.false_eq_true, Nat.reducePow, Nat.reduceAdd, Nat.reduceLT, Nat.reduceLeDiff, Nat.reduceMul, Int.reduceLT, Int.reduceLE, Int.reduceNeg, Int.reducePow, Int.reduceAdd, Int.reduceSub, Int.reduceMul, Int.reduceToNat, Nat.reduceEqDiff, Int.reduceEq, s1, sub_nat hx, hyx2]
      refine ⟨by omega, some (.dat (.int ((a : Int) + (i : Int)))), ?_, ?_⟩
      · simp
      · rw [e, show a + (i + 1) = a + i + 1 by omega]
        omega
    · have hyx2 : ¬ (y : Int) = (x0 : Int) := by omega
      rw [if_neg hyx] at e
      simp only [K2_eq, kBin_eq, kRep_eq, kNeg_eq, kBool_eq, kCmp_eq, kCh3_eq, kCh2_eq, kCh1_eq, kAnd_eq, kOr_eq, kNot_eq, kIte_eq, kTup2_eq, kTup_eq, kLst2_eq, kLst_eq, kSub_eq, kS3_eq, kS2_eq, kS1_eq, kCall2_eq, kCall_eq, kBlt_eq, kLc_eq, kO_eq, kTv_eq, kTand_eq, kTor_eq, kTnot_eq, kEs2_eq, kEs1_eq, kIe2_eq, kIe_eq, kR1_eq, kR22_eq, kR21_eq, kA2_eq, kA1_eq, kAsg2_eq, kAsg_eq, kApp2_eq, kApp_eq, kEx_eq, kRet2_eq, kRet_eq, kSi_eq, kFor_eq, kRse2_eq, kRse_eq, evE_var, evE_con, evE_glb, evE_bin, evE_rep, evE_neg, evE_cmp, evE_chain, evE_and, evE_or, evE_not, evE_ite, evE_tup, evE_lst, evE_sub, evE_slc, evE_call, evE_blt, evE_lc, evO_no, evO_some, evTo_no, evTo_some, evT_val, evT_and, evT_or, evT_not, evEs_nil, evEs_cons, evI_e, evI_rng, evI_rng2, evS_asg, evS_app, evS_expr, evS_ret, evS_retN, evS_ite, evS_whl, evS_for, evS_brk, evS_cnt, evS_pass, evS_rse, evSs_nil, evSs_cons, asDs_nil, asDs_cons, sizeLine, turn_next, turn_cnt, turn_brk, turn_ret, turn_exn, test_t, test_f, bind_ok, bind_exn, bind_bad, so_ok, so_exn, so_bad, seq_next, seq_brk, seq_cnt, seq_ret, seq_exn, seq_bad, ofO_some, rofO_some, view_dat, view_lst, view_var, tree_dat, tree_lst, asD_dat, asD_lst, asD_var, get0, getS, set0, setS, getD0, getDS, add_ii, sub_ii, lt_ii, le_ii, gt_ii, ge_ii, eq_ii, ne_ii, len_l, len_t, int_i, int_b, abs_i, min_ii, max_ii, tru_b, neg_i, items_l, items_t, slc_l, slc_t, viewAll, ft_mk, fdiv_ii, mod_ii, mul_ii, and_self, true_and, and_true, or_true, true_or, Option.map_some, rf_next, rf_ret, rf_exn, Int.toNat_natCast, if_true, ite_true, decide_true, decide_false, reduceIte, List.length_cons, List.length_nil, Nat.zero_add, Nat.zero_le, List.map_cons, List.map_nil, Bool.not_true, Bool.not_false, Bool.false_eq_true, Nat.reducePow, Nat.reduceAdd, Nat.reduceLT, Nat.reduceLeDiff, Nat.reduceMul, Int.reduceLT, Int.reduceLE, Int.reduceNeg, Int.reducePow, Int.reduceAdd, Int.reduceSub, Int.reduceMul, Int.reduceToNat, Nat.reduceEqDiff, Int.reduceEq, s1, sub_nat hx, hyx2]
      rw [e, show min (i + 0) m = i by omega]
  · rintro Γ ⟨_, o, rfl, e⟩
    rw [range2_len] at e
    simp only [K2_eq, kBin_eq, kRep_eq, kNeg_eq, kBool_eq, kCmp_eq, kCh3_eq, kCh2_eq, kCh1_eq, kAnd_eq, kOr_eq, kNot_eq, kIte_eq, kTup2_eq, kTup_eq, kLst2_eq, kLst_eq, kSub_eq, kS3_eq, kS2_eq, kS1_eq, kCall2_eq, kCall_eq, kBlt_eq, kLc_eq, kO_eq, kTv_eq, kTand_eq, kTor_eq, kTnot_eq, kEs2_eq, kEs1_eq, kIe2_eq, kIe_eq, kR1_eq, kR22_eq, kR21_eq, kA2_eq, kA1_eq, kAsg2_eq, kAsg_eq, kApp2_eq, kApp_eq, kEx_eq, kRet2_eq, kRet_eq, kSi_eq, kFor_eq, kRse2_eq, kRse_eq, evE_var, evE_con, evE_glb, evE_bin, evE_rep, evE_neg, evE_cmp, evE_chain, evE_and, evE_or, evE_not, evE_ite, evE_tup, evE_lst, evE_sub, evE_slc, evE_call, evE_blt, evE_lc, evO_no, evO_some, evTo_no, evTo_some, evT_val, evT_and, evT_or, evT_not, evEs_nil, evEs_cons, evI_e, evI_rng, evI_rng2, evS_asg, evS_app, evS_expr, evS_ret, evS_retN, evS_ite, evS_whl, evS_for, evS_brk, evS_cnt, evS_pass, evS_rse, evSs_nil, evSs_cons, asDs_nil, asDs_cons, sizeLine, turn_next, turn_cnt, turn_brk, turn_ret, turn_exn, test_t, test_f, bind_ok, bind_exn, bind_bad, so_ok, so_exn, so_bad, seq_next, seq_brk, seq_cnt, seq_ret, seq_exn, seq_bad, ofO_some, rofO_some, view_dat, view_lst, view_var, tree_dat, tree_lst, asD_dat, asD_lst, asD_var, get0, getS, set0, setS, getD0, getDS, add_ii, sub_ii, lt_ii, le_ii, gt_ii, ge_ii, eq_ii, ne_ii, len_l, len_t, int_i, int_b, abs_i, min_ii, max_ii, tru_b, neg_i, items_l, items_t, slc_l, slc_t, viewAll, ft_mk, fdiv_ii, mod_ii, mul_ii, and_self, true_and, and_true, or_true, true_or, Option.map_some, rf_next, rf_ret, rf_exn, Int.toNat_natCast, if_true, ite_true, decide_true, decide_false, reduceIte, List.length_cons, List.length_nil, Nat.zero_add, Nat.zero_le, List.map_cons, List.map_nil, Bool.not_true, Bool.not_false, Bool.false_eq_true, Nat.reducePow, Nat.reduceAdd, Nat.reduceLT, Nat.reduceLeDiff, Nat.reduceMul, Int.reduceLT, Int.reduceLE, Int.reduceNeg, Int.reducePow, Int.reduceAdd, Int.reduceSub, Int.reduceMul, Int.reduceToNat, Nat.reduceEqDiff, Int.reduceEq, range2_len]
    have hmin : min (runL (xs.drop a)) m = k - a := by
      by_cases hc : xs.length ≤ a + (k - a)
      · rw [List.drop_eq_nil_of_le hc] at e
        simp only [eqN] at e
        omega
      · omega
    rw [hmin]
theorem levels2_ok (n : Nat) (xs : List Nat) (most : Nat) (R : Row xs most) : tab sub pr (n + 3) "_law_levels" [.list (iD xs), nD most] = .ok (.dat (.list (iD (levN xs most)))) := by
  rw [tab_def h__law_levels rfl]
  unfold c__law_levels
  show rf (evSs _ _ [some (.dat (.list (iD xs))), some (.dat (nD most)), none, none, none, none, none]) = _
  have hl := R.len
  have hmo := R.most
  have ew := width_ok (n + 1) most (by omega)
  have hwl : widN most ≤ 29 := widN_le 29 most R.most
  have hxw : ∀ x ∈ xs, x < 2 ^ widN most := fun x hx => Nat.lt_of_le_of_lt (R.le x hx) (lt_widN most)
  unfold nD at ew ⊢
  simp only [K2_eq, kBin_eq, kRep_eq, kNeg_eq, kBool_eq, kCmp_eq, kCh3_eq, kCh2_eq, kCh1_eq, kAnd_eq, kOr_eq, kNot_eq, kIte_eq, kTup2_eq, kTup_eq, kLst2_eq, kLst_eq, kSub_eq, kS3_eq, kS2_eq, kS1_eq, kCall2_eq, kCall_eq, kBlt_eq, kLc_eq, kO_eq, kTv_eq, kTand_eq, kTor_eq, kTnot_eq, kEs2_eq, kEs1_eq, kIe2_eq, kIe_eq, kR1_eq, kR22_eq, kR21_eq, kA2_eq, kA1_eq, kAsg2_eq, kAsg_eq, kApp2_eq, kApp_eq, kEx_eq, kRet2_eq, kRet_eq, kSi_eq, kFor_eq, kRse2_eq, kRse_eq, evE_var, evE_con, evE_glb, evE_bin, evE_rep, evE_neg, evE_cmp, evE_chain, evE_and, evE_or, evE_not, evE_ite, evE_tup, evE_lst, evE_sub, evE_slc, evE_call, evE_blt, evE_lc, evO_no, evO_some, evTo_no, evTo_some, evT_val, evT_and, evT_or, evT_not, evEs_nil, evEs_cons, evI_e, evI_rng, evI_rng2, evS_asg, evS_app, evS_expr, evS_ret, evS_retN, evS_ite, evS_whl, evS_for, evS_brk, evS_cnt, evS_pass, evS_rse, evSs_nil, evSs_cons, asDs_nil, asDs_cons, sizeLine, turn_next, turn_cnt, turn_brk, turn_ret, turn_exn, test_t, test_f, bind_ok, bind_exn, bind_bad, so_ok, so_exn, so_bad, seq_next, seq_brk, seq_cnt, seq_ret, seq_exn, seq_bad, ofO_some, rofO_some, view_dat, view_lst, view_var, tree_dat, tree_lst, asD_dat, asD_lst, asD_var, get0, getS, set0, setS, getD0, getDS, add_ii, sub_ii, lt_ii, le_ii, gt_ii, ge_ii, eq_ii, ne_ii, len_l, len_t, int_i, int_b, abs_i, min_ii, max_ii, tru_b, neg_i, items_l, items_t, slc_l, slc_t, viewAll, ft_mk, fdiv_ii, mod_ii, mul_ii, and_self, true_and, and_true, or_true, true_or, Option.map_some, rf_next, rf_ret, rf_exn, Int.toNat_natCast, if_true, ite_true, decide_true, decide_false, reduceIte, List.length_cons, List.length_nil, Nat.zero_add, Nat.zero_le, List.map_cons, List.map_nil, Bool.not_true, Bool.not_false, Bool.false_eq_true, Nat.reducePow, Nat.reduceAdd, Nat.reduceLT, Nat.reduceLeDiff, Nat.reduceMul, Int.reduceLT, Int.reduceLE, Int.reduceNeg, Int.reducePow, Int.reduceAdd, Int.reduceSub, Int.reduceMul, Int.reduceToNat, Nat.reduceEqDiff, Int.reduceEq, ew]
  unfold levN
  generalize widN most = w at hwl hxw ⊢
  have el : ((iD xs).length : Int) = (xs.length : Int) := by rw [iD_len]
  have hxs : ∀ x ∈ xs, x < 536870912 := fun x hx => Nat.lt_of_le_of_lt (R.le x hx) R.most
  by_cases hw0 : w = 0
  · subst hw0
    rw [if_pos rfl]
    refine whl_gen (Q := fun r => rf (So.seq r _) = _) (P := fun m Γ => Γ = [some (.dat (.list (iD xs))), some (.dat (.int (most : Int))), some (.dat (.int ((0 : Nat) : Int))), some (.lst []), some (.dat (.int 0)), none, none]) ?_ 0 _ rfl
    rintro m Γ rfl
    have hz : ¬ (0 : Int) < ((0 : Nat) : Int) := by omega
    by_cases h0 : (0 : Int) < (xs.length : Int)
    · simp only [K2_eq, kBin_eq, kRep_eq, kNeg_eq, kBool_eq, kCmp_eq, kCh3_eq, kCh2_eq, kCh1_eq, kAnd_eq, kOr_eq, kNot_eq, kIte_eq, kTup2_eq, kTup_eq, kLst2_eq, kLst_eq, kSub_eq, kS3_eq, kS2_eq, kS1_eq, kCall2_eq, kCall_eq, kBlt_eq, kLc_eq, kO_eq, kTv_eq, kTand_eq, kTor_eq, kTnot_eq, kEs2_eq, kEs1_eq, kIe2_eq, kIe_eq, kR1_eq, kR22_eq, kR21_eq, kA2_eq, kA1_eq, kAsg2_eq, kAsg_eq, kApp2_eq, kApp_eq, kEx_eq, kRet2_eq, kRet_eq, kSi_eq, kFor_eq, kRse2_eq, kRse_eq, evE_var, evE_con, evE_glb, evE_bin, evE_rep, evE_neg, evE_cmp, evE_chain, evE_and, evE_or, evE_not, evE_ite, evE_tup, evE_lst, evE_sub, evE_slc, evE_call, evE_blt, evE_lc, evO_no, evO_some, evTo_no, evTo_some, evT_val, evT_and, evT_or, evT_not, evEs_nil, evEs_cons, evI_e, evI_rng, evI_rng2, evS_asg, evS_app, evS_expr, evS_ret, evS_retN, evS_ite, evS_whl, evS_for, evS_brk, evS_cnt, evS_pass, evS_rse, evSs_nil, evSs_cons, asDs_nil, asDs_cons, sizeLine, turn_next, turn_cnt, turn_brk, turn_ret, turn_exn, test_t, test_f, bind_ok, bind_exn, bind_bad, so_ok, so_exn, so_bad, seq_next, seq_brk, seq_cnt, seq_ret, seq_exn, seq_bad, ofO_some, rofO_some, view_dat, view_lst, view_var, tree_dat, tree_lst, asD_dat, asD_lst, asD_var, get0, getS, set0, setS, getD0, getDS, add_ii, sub_ii, lt_ii, le_ii, gt_ii, ge_ii, eq_ii, ne_ii, len_l, len_t, int_i, int_b, abs_i, min_ii, max_ii, tru_b, neg_i, items_l, items_t, slc_l, slc_t, viewAll, ft_mk, fdiv_ii, mod_ii, mul_ii, and_self, true_and, and_true, or_true, true_or, Option.map_some, rf_next, rf_ret, rf_exn, Int.toNat_natCast, if_true, ite_true, decide_true, decide_false, reduceIte, List.length_cons, List.length_nil, Nat.zero_add, Nat.zero_le, List.map_cons, List.map_nil, Bool.not_true, Bool.not_false, Bool.false_eq_true, Nat.reducePow, Nat.reduceAdd, Nat.reduceLT, Nat.reduceLeDiff, Nat.reduceMul, Int.reduceLT, Int.reduceLE, Int.reduceNeg, Int.reducePow, Int.reduceAdd, Int.reduceSub, Int.reduceMul, Int.reduceToNat, Nat.reduceEqDiff, Int.reduceEq, el, h0, hz]
      rfl
    · simp only [K2_eq, kBin_eq, kRep_eq, kNeg_eq, kBool_eq, kCmp_eq, kCh3_eq, kCh2_eq, kCh1_eq, kAnd_eq, kOr_eq, kNot_eq, kIte_eq, kTup2_eq, kTup_eq, kLst2_eq, kLst_eq, kSub_eq, kS3_eq, kS2_eq, kS1_eq, kCall2_eq, kCall_eq, kBlt_eq, kLc_eq, kO_eq, kTv_eq, kTand_eq, kTor_eq, kTnot_eq, kEs2_eq, kEs1_eq, kIe2_eq, kIe_eq, kR1_eq, kR22_eq, kR21_eq, kA2_eq, kA1_eq, kAsg2_eq, kAsg_eq, kApp2_eq, kApp_eq, kEx_eq, kRet2_eq, kRet_eq, kSi_eq, kFor_eq, kRse2_eq, kRse_eq, evE_var, evE_con, evE_glb, evE_bin, evE_rep, evE_neg, evE_cmp, evE_chain, evE_and, evE_or, evE_not, evE_ite, evE_tup, evE_lst, evE_sub, evE_slc, evE_call, evE_blt, evE_lc, evO_no, evO_some, evTo_no, evTo_some, evT_val, evT_and, evT_or, evT_not, evEs_nil, evEs_cons, evI_e, evI_rng, evI_rng2, evS_asg, evS_app, evS_expr, evS_ret, evS_retN, evS_ite, evS_whl, evS_for, evS_brk, evS_cnt, evS_pass, evS_rse, evSs_nil, evSs_cons, asDs_nil, asDs_cons, sizeLine, turn_next, turn_cnt, turn_brk, turn_ret, turn_exn, test_t, test_f, bind_ok, bind_exn, bind_bad, so_ok, so_exn, so_bad, seq_next, seq_brk, seq_cnt, seq_ret, seq_exn, seq_bad, ofO_some, rofO_some, view_dat, view_lst, view_var, tree_dat, tree_lst, asD_dat, asD_lst, asD_var, get0, getS, set0, setS, getD0, getDS, add_ii, sub_ii, lt_ii, le_ii, gt_ii, ge_ii, eq_ii, ne_ii, len_l, len_t, int_i, int_b, abs_i, min_ii, max_ii, tru_b, neg_i, items_l, items_t, slc_l, slc_t, viewAll, ft_mk, fdiv_ii, mod_ii, mul_ii, and_self, true_and, and_true, or_true, true_or, Option.map_some, rf_next, rf_ret, rf_exn, Int.toNat_natCast, if_true, ite_true, decide_true, decide_false, reduceIte, List.length_cons, List.length_nil, Nat.zero_add, Nat.zero_le, List.map_cons, List.map_nil, Bool.not_true, Bool.not_false, Bool.false_eq_true, Nat.reducePow, Nat.reduceAdd, Nat.reduceLT, Nat.reduceLeDiff, Nat.reduceMul, Int.reduceLT, Int.reduceLE, Int.reduceNeg, Int.reducePow, Int.reduceAdd, Int.reduceSub, Int.reduceMul, Int.reduceToNat, Nat.reduceEqDiff, Int.reduceEq, el, h0]
      rfl
  · rw [if_neg hw0]
    have hlev := levF_len w hwl xs.length xs hl hxs
    refine whl_gen (Q := fun r => rf (So.seq r _) = _) (P := fun m Γ => ∃ (a f : Nat) (acc : List Nat) (o p : Option Ow), Γ = [some (.dat (.list (iD xs))), some (.dat (.int (most : Int))), some (.dat (.int (w : Int))), some (.lst (iD acc)), some (.dat (.int (a : Int))), o, p] ∧ m = xs.length - a ∧ a ≤ xs.length ∧ xs.length - a ≤ f ∧ levF w xs.length xs = acc ++ levF w f (xs.drop a)) ?_ xs.length _ ⟨0, xs.length, [], none, none, rfl, rfl, by omega, by omega, rfl⟩
    rintro m Γ ⟨a, f, acc, o, p, rfl, rfl, h1, h2, h3⟩
    have hacc : acc.length ≤ 4000000 := by
      have := congrArg List.length h3
      rw [List.length_append] at this
      omega
    have hwp : (0 : Int) < (w : Int) := by omega
    by_cases ha : a < xs.length
    · have ha2 : (a : Int) < (xs.length : Int) := by omega
      obtain ⟨y, hy⟩ : ∃ y, xs[a]? = some y := ⟨xs[a], List.getElem?_eq_getElem ha⟩
      have hy0 := hxs y (List.mem_of_getElem? hy)
      have hdr := drop_cons hy
      have hrl := runL_le (xs.drop a)
      have hpl := pieceL_le 32 (xs.drop a)
      have hpf := pieceL_lef 32 (xs.drop a)
      rw [List.length_drop] at hrl hpl
      have hrun := run2_ok (n + 1) xs a xs.length (by omega) (by omega) (by omega)
      rw [Nat.min_eq_left (show runL (xs.drop a) ≤ xs.length by omega)] at hrun
      have hrp : 0 < runL (xs.drop a) := by rw [hdr]; exact runL_pos
      obtain ⟨f', hf⟩ : ∃ f', f = f' + 1 := ⟨f - 1, by omega⟩
      subst hf
      have h3' : levF w (f' + 1) (xs.drop a) = if 4 ≤ runL (xs.drop a) then putN (2 * runL (xs.drop a)) ++ putN y ++ levF w f' ((xs.drop a).drop (runL (xs.drop a)))
        else putN (2 * pieceL 32 (xs.drop a) + 1) ++ packN ((xs.drop a).take (pieceL 32 (xs.drop a))) w ++ levF w f' ((xs.drop a).drop (pieceL 32 (xs.drop a))) := by
        rw [hdr]
        rfl
      rw [h3', List.drop_drop, List.drop_drop] at h3
      by_cases h4 : 4 ≤ runL (xs.drop a)
      · have h4b : (4 : Int) ≤ ((runL (xs.drop a) : Nat) : Int) := by omega
        rw [if_pos h4] at h3
        have n1 := number_ok (n + 1) (2 * runL (xs.drop a)) (by omega)
        have n2 := number_ok (n + 1) y (by omega)
        unfold nD at n1 n2 hrun
        have e2 : (((2 * runL (xs.drop a) : Nat)) : Int) = 2 * ((runL (xs.drop a) : Nat) : Int) := by omega
        rw [e2] at n1
        have l1 := putN_shrink (2 * runL (xs.drop a)) (by omega)
        have l2 := putN_shrink y (by omega)
        generalize runL (xs.drop a) = rl at *
        have a1 : binD .add (.list (iD acc)) (.list (iD (putN (2 * rl)))) = some (.lst (iD acc ++ iD (putN (2 * rl)))) := add_ll (by rw [iD_len, iD_len]; show _ ≤ 2 ^ 24; omega)
        have a2 : binD .add (.list (iD acc ++ iD (putN (2 * rl)))) (.list (iD (putN y))) = some (.lst (iD acc ++ iD (putN (2 * rl)) ++ iD (putN y))) := add_ll (by rw [List.length_append, iD_len, iD_len, iD_len]; show _ ≤ 2 ^ 24; omega)
        simp only [K2_eq, kBin_eq, kRep_eq, kNeg_eq, kBool_eq, kCmp_eq, kCh3_eq, kCh2_eq, kCh1_eq, kAnd_eq, kOr_eq, kNot_eq, kIte_eq, kTup2_eq, kTup_eq, kLst2_eq, kLst_eq, kSub_eq, kS3_eq, kS2_eq, kS1_eq, kCall2_eq, kCall_eq, kBlt_eq, kLc_eq, kO_eq, kTv_eq, kTand_eq, kTor_eq, kTnot_eq, kEs2_eq, kEs1_eq, kIe2_eq, kIe_eq, kR1_eq, kR22_eq, kR21_eq, kA2_eq, kA1_eq, kAsg2_eq, kAsg_eq, kApp2_eq, kApp_eq, kEx_eq, kRet2_eq, kRet_eq, kSi_eq, kFor_eq, kRse2_eq, kRse_eq, evE_var, evE_con, evE_glb, evE_bin, evE_rep, evE_neg, evE_cmp, evE_chain, evE_and, evE_or, evE_not, evE_ite, evE_tup, evE_lst, evE_sub, evE_slc, evE_call, evE_blt, evE_lc, evO_no, evO_some, evTo_no, evTo_some, evT_val, evT_and, evT_or, evT_not, evEs_nil, evEs_cons, evI_e, evI_rng, evI_rng2, evS_asg, evS_app, evS_expr, evS_ret, evS_retN, evS_ite, evS_whl, evS_for, evS_brk, evS_cnt, evS_pass, evS_rse, evSs_nil, evSs_cons, asDs_nil, asDs_cons, sizeLine, turn_next, turn_cnt, turn_brk, turn_ret, turn_exn, test_t, test_f, bind_ok, bind_exn, bind_bad, so_ok, so_exn, so_bad, seq_next, seq_brk, seq_cnt, seq_ret, seq_exn, seq_bad, ofO_some, rofO_some, view_dat, view_lst, view_var, tree_dat, tree_lst, asD_dat, asD_lst, asD_var, get0, getS, set0, setS, getD0, getDS, add_ii, sub_ii, lt_ii, le_ii, gt_ii, ge_ii, eq_ii, ne_ii, len_l, len_t, int_i, int_b, abs_i, min_ii, max_ii, tru_b, neg_i, items_l, items_t, slc_l, slc_t, viewAll, ft_mk, fdiv_ii, mod_ii, mul_ii, and_self, true_and, and_true, or_true, true_or, Option.map_some, rf_next, rf_ret, rf_exn, Int.toNat_natCast, if_true, ite_true, decide_true, decide_false, reduceIte, List.length_cons, List.length_nil, Nat.zero_add, Nat.zero_le, List.map_cons, List.map_nil, Bool.not_true, Bool.not_false, Bool.false_eq_true, Nat.reducePow, Nat.reduceAdd, Nat.reduceLT, Nat.reduceLeDiff, Nat.reduceMul, Int.reduceLT, Int.reduceLE, Int.reduceNeg, Int.reducePow, Int.reduceAdd, Int.reduceSub, Int.reduceMul, Int.reduceToNat, Nat.reduceEqDiff, Int.reduceEq, el, ha2, hwp, hrun, h4b, n1, n2, a1, a2, sub_nat hy]
        refine ⟨xs.length - (a + rl), by omega, a + rl, f', acc ++ putN (2 * rl) ++ putN y, some (.dat (.int (rl : Int))), p, ?_, rfl, by omega, by omega, ?_⟩
        · rw [← iD_app, ← iD_app]
          simp
        · rw [h3]
          simp
      · have h4b : ¬ (4 : Int) ≤ ((runL (xs.drop a) : Nat) : Int) := by omega
        rw [if_neg h4] at h3
        have hp1 : pieceL 32 (xs.drop a) = 1 + pieceL 31 (xs.drop (a + 1)) := by
          rw [hdr] at h4 ⊢
          exact if_pos (by omega)
        unfold nD at hrun
        simp only [K2_eq, kBin_eq, kRep_eq, kNeg_eq, kBool_eq, kCmp_eq, kCh3_eq, kCh2_eq, kCh1_eq, kAnd_eq, kOr_eq, kNot_eq, kIte_eq, kTup2_eq, kTup_eq, kLst2_eq, kLst_eq, kSub_eq, kS3_eq, kS2_eq, kS1_eq, kCall2_eq, kCall_eq, kBlt_eq, kLc_eq, kO_eq, kTv_eq, kTand_eq, kTor_eq, kTnot_eq, kEs2_eq, kEs1_eq, kIe2_eq, kIe_eq, kR1_eq, kR22_eq, kR21_eq, kA2_eq, kA1_eq, kAsg2_eq, kAsg_eq, kApp2_eq, kApp_eq, kEx_eq, kRet2_eq, kRet_eq, kSi_eq, kFor_eq, kRse2_eq, kRse_eq, evE_var, evE_con, evE_glb, evE_bin, evE_rep, evE_neg, evE_cmp, evE_chain, evE_and, evE_or, evE_not, evE_ite, evE_tup, evE_lst, evE_sub, evE_slc, evE_call, evE_blt, evE_lc, evO_no, evO_some, evTo_no, evTo_some, evT_val, evT_and, evT_or, evT_not, evEs_nil, evEs_cons, evI_e, evI_rng, evI_rng2, evS_asg, evS_app, evS_expr, evS_ret, evS_retN, evS_ite, evS_whl, evS_for, evS_brk, evS_cnt, evS_pass, evS_rse, evSs_nil, evSs_cons, asDs_nil, asDs_cons, sizeLine, turn_next, turn_cnt, turn_brk, turn_ret, turn_exn, test_t, test_f, bind_ok, bind_exn, bind_bad, so_ok, so_exn, so_bad, seq_next, seq_brk, seq_cnt, seq_ret, seq_exn, seq_bad, ofO_some, rofO_some, view_dat, view_lst, view_var, tree_dat, tree_lst, asD_dat, asD_lst, asD_var, get0, getS, set0, setS, getD0, getDS, add_ii, sub_ii, lt_ii, le_ii, gt_ii, ge_ii, eq_ii, ne_ii, len_l, len_t, int_i, int_b, abs_i, min_ii, max_ii, tru_b, neg_i, items_l, items_t, slc_l, slc_t, viewAll, ft_mk, fdiv_ii, mod_ii, mul_ii, and_self, true_and, and_true, or_true, true_or, Option.map_some, rf_next, rf_ret, rf_exn, Int.toNat_natCast, if_true, ite_true, decide_true, decide_false, reduceIte, List.length_cons, List.length_nil, Nat.zero_add, Nat.zero_le, List.map_cons, List.map_nil, Bool.not_true, Bool.not_false, Bool.false_eq_true, Nat.reducePow, Nat.reduceAdd, Nat.reduceLT, Nat.reduceLeDiff, Nat.reduceMul, Int.reduceLT, Int.reduceLE, Int.reduceNeg, Int.reducePow, Int.reduceAdd, Int.reduceSub, Int.reduceMul, Int.reduceToNat, Nat.reduceEqDiff, Int.reduceEq, el, ha2, hwp, hrun, h4b]
        refine whl_gen (Q := fun r => Turn _ _ (So.seq (So.seq r _) _)) (P := fun m Γ => ∃ e : Nat, Γ = [some (.dat (.list (iD xs))), some (.dat (.int (most : Int))), some (.dat (.int (w : Int))), some (.lst (iD acc)), some (.dat (.int (a : Int))), some (.dat (.int ((runL (xs.drop a) : Nat) : Int))), some (.dat (.int (e : Int)))] ∧ m = xs.length - e ∧ a + 1 ≤ e ∧ e ≤ xs.length ∧ e - a ≤ 32 ∧ pieceL 32 (xs.drop a) = (e - a) + pieceL (32 - (e - a)) (xs.drop e)) ?_ (xs.length - (a + 1)) _ ⟨a + 1, by simp, rfl, by omega, by omega, by omega, by rw [hp1, show a + 1 - a = 1 by omega]⟩
        have done : ∀ e : Nat, a + 1 ≤ e → e ≤ xs.length → pieceL 32 (xs.drop a) = e - a → ∀ (s : Ss), s = (Ss.cons (.asg (.one 3) (.bin .add (.bin .add (.var 3) (.call "_law_number" (.cons (.bin .add (.bin .mul (.con (.int 2)) (.bin .sub (.var 6) (.var 4))) (.con (.int 1))) .nil))) (.call "_law_pack" (.cons (.slc (.var 0) (.some (.var 4)) (.some (.var 6))) (.cons (.var 2) .nil))))) (.cons (.asg (.one 4) (.var 6)) .nil)) →
            ∃ (acc' : List Nat), evSs ⟨tab sub pr (n + 2), sub⟩ s [some (.dat (.list (iD xs))), some (.dat (.int (most : Int))), some (.dat (.int (w : Int))), some (.lst (iD acc)), some (.dat (.int (a : Int))), some (.dat (.int ((runL (xs.drop a) : Nat) : Int))), some (.dat (.int (e : Int)))] = .next [some (.dat (.list (iD xs))), some (.dat (.int (most : Int))), some (.dat (.int (w : Int))), some (.lst (iD acc')), some (.dat (.int (e : Int))), some (.dat (.int ((runL (xs.drop a) : Nat) : Int))), some (.dat (.int (e : Int)))] ∧ levF w xs.length xs = acc' ++ levF w f' (xs.drop e) := by
          rintro e he1 he2 hpe s rfl
          have n1 := number_ok (n + 1) (2 * (e - a) + 1) (by omega)
          unfold nD at n1
          have e2 : (((2 * (e - a) + 1 : Nat)) : Int) = 2 * ((e : Int) - (a : Int)) + 1 := by omega
          rw [e2] at n1
          have l1 := putN_shrink (2 * (e - a) + 1) (by omega)
          have hcut := cut_nat (xs := xs) (a := a) (b := e) (by omega) (by omega)
          have hm : (e - a) * w ≤ 32 * 29 := Nat.mul_le_mul (by omega) hwl
          have htl : ((xs.drop a).take (e - a)).length = e - a := by rw [List.length_take, List.length_drop]; omega
          have hpk := pack2_ok (n + 1) ((xs.drop a).take (e - a)) w (fun x hx => hxw x (List.mem_of_mem_drop (List.mem_of_mem_take hx))) (by rw [htl]; omega) (by omega)
          unfold nD at hpk
          have l3 := packN_len ((xs.drop a).take (e - a)) w
          rw [htl] at l3
          have a1 : binD .add (.list (iD acc)) (.list (iD (putN (2 * (e - a) + 1)))) = some (.lst (iD acc ++ iD (putN (2 * (e - a) + 1)))) := add_ll (by rw [iD_len, iD_len]; show _ ≤ 2 ^ 24; omega)
          have a2 : binD .add (.list (iD acc ++ iD (putN (2 * (e - a) + 1)))) (.list (iD (packN ((xs.drop a).take (e - a)) w))) = some (.lst (iD acc ++ iD (putN (2 * (e - a) + 1)) ++ iD (packN ((xs.drop a).take (e - a)) w))) := add_ll (by rw [List.length_append, iD_len, iD_len, iD_len]; show _ ≤ 2 ^ 24; omega)
          simp only [K2_eq, kBin_eq, kRep_eq, kNeg_eq, kBool_eq, kCmp_eq, kCh3_eq, kCh2_eq, kCh1_eq, kAnd_eq, kOr_eq, kNot_eq, kIte_eq, kTup2_eq, kTup_eq, kLst2_eq, kLst_eq, kSub_eq, kS3_eq, kS2_eq, kS1_eq, kCall2_eq, kCall_eq, kBlt_eq, kLc_eq, kO_eq, kTv_eq, kTand_eq, kTor_eq, kTnot_eq, kEs2_eq, kEs1_eq, kIe2_eq, kIe_eq, kR1_eq, kR22_eq, kR21_eq, kA2_eq, kA1_eq, kAsg2_eq, kAsg_eq, kApp2_eq, kApp_eq, kEx_eq, kRet2_eq, kRet_eq, kSi_eq, kFor_eq, kRse2_eq, kRse_eq, evE_var, evE_con, evE_glb, evE_bin, evE_rep, evE_neg, evE_cmp, evE_chain, evE_and, evE_or, evE_not, evE_ite, evE_tup, evE_lst, evE_sub, evE_slc, evE_call, evE_blt, evE_lc, evO_no, evO_some, evTo_no, evTo_some, evT_val, evT_and, evT_or, evT_not, evEs_nil, evEs_cons, evI_e, evI_rng, evI_rng2, evS_asg, evS_app, evS_expr, evS_ret, evS_retN, evS_ite, evS_whl, evS_for, evS_brk, evS_cnt, evS_pass, evS_rse, evSs_nil, evSs_cons, asDs_nil, asDs_cons, sizeLine, turn_next, turn_cnt, turn_brk, turn_ret, turn_exn, test_t, test_f, bind_ok, bind_exn, bind_bad, so_ok, so_exn, so_bad, seq_next, seq_brk, seq_cnt, seq_ret, seq_exn, seq_bad, ofO_some, rofO_some, view_dat, view_lst, view_var, tree_dat, tree_lst, asD_dat, asD_lst, asD_var, get0, getS, set0, setS, getD0, getDS, add_ii, sub_ii, lt_ii, le_ii, gt_ii, ge_ii, eq_ii, ne_ii, len_l, len_t, int_i, int_b, abs_i, min_ii, max_ii, tru_b, neg_i, items_l, items_t, slc_l, slc_t, viewAll, ft_mk, fdiv_ii, mod_ii, mul_ii, and_self, true_and, and_true, or_true, true_or, Option.map_some, rf_next, rf_ret, rf_exn, Int.toNat_natCast, if_true, ite_true, decide_true, decide_false, reduceIte, List.length_cons, List.length_nil, Nat.zero_add, Nat.zero_le, List.map_cons, List.map_nil, Bool.not_true, Bool.not_false, Bool.false_eq_true, Nat.reducePow, Nat.reduceAdd, Nat.reduceLT, Nat.reduceLeDiff, Nat.reduceMul, Int.reduceLT, Int.reduceLE, Int.reduceNeg, Int.reducePow, Int.reduceAdd, Int.reduceSub, Int.reduceMul, Int.reduceToNat, Nat.reduceEqDiff, Int.reduceEq, n1, hcut, hpk, a1, a2]
          refine ⟨acc ++ putN (2 * (e - a) + 1) ++ packN ((xs.drop a).take (e - a)) w, ?_, ?_⟩
          · rw [← iD_app, ← iD_app]
          · rw [h3, hpe, show a + (e - a) = e by omega]
            simp
        rintro m Γ ⟨e, rfl, rfl, g1, g2, g4, g3⟩
        have leave : pieceL 32 (xs.drop a) = e - a → Turn (fun r => rf (So.seq r (evSs ⟨tab sub pr (n + 2), sub⟩ (.cons (.ret (.var 3)) .nil))) = Rf.ok (.dat (.list (iD (levF w xs.length xs))))) (fun Γ => ∃ m', m' < xs.length - a ∧ ∃ (a f : Nat) (acc : List Nat) (o p : Option Ow), Γ = [some (.dat (.list (iD xs))), some (.dat (.int (most : Int))), some (.dat (.int (w : Int))), some (.lst (iD acc)), some (.dat (.int (a : Int))), o, p] ∧ m' = xs.length - a ∧ a ≤ xs.length ∧ xs.length - a ≤ f ∧ levF w xs.length xs = acc ++ levF w f (xs.drop a))
            (So.seq (So.seq (.next [some (.dat (.list (iD xs))), some (.dat (.int (most : Int))), some (.dat (.int (w : Int))), some (.lst (iD acc)), some (.dat (.int (a : Int))), some (.dat (.int ((runL (xs.drop a) : Nat) : Int))), some (.dat (.int (e : Int)))]) (evSs ⟨tab sub pr (n + 2), sub⟩ (Ss.cons (.asg (.one 3) (.bin .add (.bin .add (.var 3) (.call "_law_number" (.cons (.bin .add (.bin .mul (.con (.int 2)) (.bin .sub (.var 6) (.var 4))) (.con (.int 1))) .nil))) (.call "_law_pack" (.cons (.slc (.var 0) (.some (.var 4)) (.some (.var 6))) (.cons (.var 2) .nil))))) (.cons (.asg (.one 4) (.var 6)) .nil)))) (evSs ⟨tab sub pr (n + 2), sub⟩ .nil)) := by
          intro hpe
          obtain ⟨acc', he, hlev'⟩ := done e g1 g2 hpe _ rfl
          rw [seq_next, he]
          simp only [K2_eq, kBin_eq, kRep_eq, kNeg_eq, kBool_eq, kCmp_eq, kCh3_eq, kCh2_eq, kCh1_eq, kAnd_eq, kOr_eq, kNot_eq, kIte_eq, kTup2_eq, kTup_eq, kLst2_eq, kLst_eq, kSub_eq, kS3_eq, kS2_eq, kS1_eq, kCall2_eq, kCall_eq, kBlt_eq, kLc_eq, kO_eq, kTv_eq, kTand_eq, kTor_eq, kTnot_eq, kEs2_eq, kEs1_eq, kIe2_eq, kIe_eq, kR1_eq, kR22_eq, kR21_eq, kA2_eq, kA1_eq, kAsg2_eq, kAsg_eq, kApp2_eq, kApp_eq, kEx_eq, kRet2_eq, kRet_eq, kSi_eq, kFor_eq, kRse2_eq, kRse_eq, evE_var, evE_con, evE_glb, evE_bin, evE_rep, evE_neg, evE_cmp, evE_chain, evE_and, evE_or, evE_not, evE_ite, evE_tup, evE_lst, evE_sub, evE_slc, evE_call, evE_blt, evE_lc, evO_no, evO_some, evTo_no, evTo_some, evT_val, evT_and, evT_or, evT_not, evEs_nil, evEs_cons, evI_e, evI_rng, evI_rng2, evS_asg, evS_app, evS_expr, evS_ret, evS_retN, evS_ite, evS_whl, evS_for, evS_brk, evS_cnt, evS_pass, evS_rse, evSs_nil, evSs_cons, asDs_nil, asDs_cons, sizeLine, turn_next, turn_cnt, turn_brk, turn_ret, turn_exn, test_t, test_f, bind_ok, bind_exn, bind_bad, so_ok, so_exn, so_bad, seq_next, seq_brk, seq_cnt, seq_ret, seq_exn, seq_bad, ofO_some, rofO_some, view_dat, view_lst, view_var, tree_dat, tree_lst, asD_dat, asD_lst, asD_var, get0, getS, set0, setS, getD0, getDS, add_ii, sub_ii, lt_ii, le_ii, gt_ii, ge_ii, eq_ii, ne_ii, len_l, len_t, int_i, int_b, abs_i, min_ii, max_ii, tru_b, neg_i, items_l, items_t, slc_l, slc_t, viewAll, ft_mk, fdiv_ii, mod_ii, mul_ii, and_self, true_and, and_true, or_true, true_or, Option.map_some, rf_next, rf_ret, rf_exn, Int.toNat_natCast, if_true, ite_true, decide_true, decide_false, reduceIte, List.length_cons, List.length_nil, Nat.zero_add, Nat.zero_le, List.map_cons, List.map_nil, Bool.not_true, Bool.not_false, Bool.false_eq_true, Nat.reducePow, Nat.reduceAdd, Nat.reduceLT, Nat.reduceLeDiff, Nat.reduceMul, Int.reduceLT, Int.reduceLE, Int.reduceNeg, Int.reducePow, Int.reduceAdd, Int.reduceSub, Int.reduceMul, Int.reduceToNat, Nat.reduceEqDiff, Int.reduceEq]
          exact ⟨xs.length - e, by omega, e, f', acc', _, _, rfl, rfl, g2, by omega, hlev'⟩
        by_cases he : e < xs.length
        · have he2 : (e : Int) < (xs.length : Int) := by omega
          obtain ⟨z, hz⟩ : ∃ z, xs[e]? = some z := ⟨xs[e], List.getElem?_eq_getElem he⟩
          by_cases h32 : e - a < 32
          · have h32b : (e : Int) - (a : Int) < 32 := by omega
            have hrun2 := run2_ok (n + 1) xs e 4 (by omega) (by omega) (by omega)
            unfold nD at hrun2
            have e4 : ((4 : Nat) : Int) = 4 := rfl
            rw [e4] at hrun2
            obtain ⟨g, hg⟩ : ∃ g, 32 - (e - a) = g + 1 := ⟨31 - (e - a), by omega⟩
            rw [hg, drop_cons hz] at g3
            rw [drop_cons hz] at hrun2
            have h3q : pieceL (g + 1) (z :: xs.drop (e + 1)) = if runL (z :: xs.drop (e + 1)) < 4 then 1 + pieceL g (xs.drop (e + 1)) else 0 := rfl
            rw [h3q] at g3
            by_cases h4r : runL (z :: xs.drop (e + 1)) < 4
            · have h4c : ((min (runL (z :: xs.drop (e + 1))) 4 : Nat) : Int) < 4 := by omega
              rw [if_pos h4r] at g3
              simp only [K2_eq, kBin_eq, kRep_eq, kNeg_eq, kBool_eq, kCmp_eq, kCh3_eq, kCh2_eq, kCh1_eq, kAnd_eq, kOr_eq, kNot_eq, kIte_eq, kTup2_eq, kTup_eq, kLst2_eq, kLst_eq, kSub_eq, kS3_eq, kS2_eq, kS1_eq, kCall2_eq, kCall_eq, kBlt_eq, kLc_eq, kO_eq, kTv_eq, kTand_eq, kTor_eq, kTnot_eq, kEs2_eq, kEs1_eq, kIe2_eq, kIe_eq, kR1_eq, kR22_eq, kR21_eq, kA2_eq, kA1_eq, kAsg2_eq, kAsg_eq, kApp2_eq, kApp_eq, kEx_eq, kRet2_eq, kRet_eq, kSi_eq, kFor_eq, kRse2_eq, kRse_eq, evE_var, evE_con, evE_glb, evE_bin, evE_rep, evE_neg, evE_cmp, evE_chain, evE_and, evE_or, evE_not, evE_ite, evE_tup, evE_lst, evE_sub, evE_slc, evE_call, evE_blt, evE_lc, evO_no, evO_some, evTo_no, evTo_some, evT_val, evT_and, evT_or, evT_not, evEs_nil, evEs_cons, evI_e, evI_rng, evI_rng2, evS_asg, evS_app, evS_expr, evS_ret, evS_retN, evS_ite, evS_whl, evS_for, evS_brk, evS_cnt, evS_pass, evS_rse, evSs_nil, evSs_cons, asDs_nil, asDs_cons, sizeLine, turn_next, turn_cnt, turn_brk, turn_ret, turn_exn, test_t, test_f, bind_ok, bind_exn, bind_bad, so_ok, so_exn, so_bad, seq_next, seq_brk, seq_cnt, seq_ret, seq_exn, seq_bad, ofO_some, rofO_some, view_dat, view_lst, view_var, tree_dat, tree_lst, asD_dat, asD_lst, asD_var, get0, getS, set0, setS, getD0, getDS, add_ii, sub_ii, lt_ii, le_ii, gt_ii, ge_ii, eq_ii, ne_ii, len_l, len_t, int_i, int_b, abs_i, min_ii, max_ii, tru_b, neg_i, items_l, items_t, slc_l, slc_t, viewAll, ft_mk, fdiv_ii, mod_ii, mul_ii, and_self, true_and, and_true, or_true, true_or, Option.map_some, rf_next, rf_ret, rf_exn, Int.toNat_natCast, if_true, ite_true, decide_true, decide_false, reduceIte, List.length_cons, List.length_nil, Nat.zero_add, Nat.zero_le, List.map_cons, List.map_nil, Bool.not_true, Bool.not_false, Bool.false_eq_true, Nat.reducePow, Nat.reduceAdd, Nat.reduceLT, Nat.reduceLeDiff, Nat.reduceMul, Int.reduceLT, Int.reduceLE, Int.reduceNeg, Int.reducePow, Int.reduceAdd, Int.reduceSub, Int.reduceMul, Int.reduceToNat, Nat.reduceEqDiff, Int.reduceEq, el, he2, h32b, hrun2, h4c]
              refine ⟨xs.length - (e + 1), by omega, e + 1, ?_, rfl, by omega, by omega, by omega, ?_⟩
              · simp
              · rw [g3, show 32 - (e + 1 - a) = g by omega]
                omega
            · have h4c : ¬ ((min (runL (z :: xs.drop (e + 1))) 4 : Nat) : Int) < 4 := by omega
              rw [if_neg h4r] at g3
              have q := leave (by omega)
              simp only [evT_and, evT_val, evE_cmp, evE_var, evE_blt, evE_bin, evE_call, evE_con, evEs_cons, evEs_nil, get0, getS, bind_ok, kEs1_eq, kEs2_eq, kBlt_eq, viewAll, view_var, view_dat, tree_dat, len_l, rofO_some, ofO_some, K2_eq, kCmp_eq, lt_ii, kBool_eq, kTv_eq, tru_b, kTand_eq, el, he2, decide_true, kBin_eq, sub_ii, h32b, kCall_eq, asDs_cons, asDs_nil, asD_var, asD_dat, set0, setS, kA1_eq, kA2_eq, kCall2_eq, ft_mk, hrun2, h4c, decide_false, test_f]
              exact q
          · have h32b : ¬ (e : Int) - (a : Int) < 32 := by omega
            have e0 : 32 - (e - a) = 0 := by omega
            rw [e0] at g3
            have e00 : pieceL 0 (xs.drop e) = 0 := rfl
            rw [e00] at g3
            have q := leave (by omega)
            simp only [evT_and, evT_val, evE_cmp, evE_var, evE_blt, evE_bin, evE_call, evE_con, evEs_cons, evEs_nil, get0, getS, bind_ok, kEs1_eq, kEs2_eq, kBlt_eq, viewAll, view_var, view_dat, tree_dat, len_l, rofO_some, ofO_some, K2_eq, kCmp_eq, lt_ii, kBool_eq, kTv_eq, tru_b, kTand_eq, el, he2, decide_true, kBin_eq, sub_ii, h32b, decide_false, test_f]
            exact q
        · have he2 : ¬ (e : Int) < (xs.length : Int) := by omega
          rw [List.drop_eq_nil_of_le (show xs.length ≤ e by omega)] at g3
          have e00 : pieceL (32 - (e - a)) [] = 0 := by cases (32 - (e - a)) <;> rfl
          rw [e00] at g3
          have q := leave (by omega)
          simp only [evT_and, evT_val, evE_cmp, evE_var, evE_blt, evEs_cons, evEs_nil, get0, getS, bind_ok, kEs1_eq, kEs2_eq, kBlt_eq, viewAll, view_var, view_dat, tree_dat, len_l, rofO_some, ofO_some, K2_eq, kCmp_eq, lt_ii, kBool_eq, kTv_eq, tru_b, kTand_eq, el, he2, decide_false, test_f]
          exact q
    · have ha2 : ¬ (a : Int) < (xs.length : Int) := by omega
      have e0 : levF w f (xs.drop a) = [] := by
        rw [List.drop_eq_nil_of_le (by omega)]
        cases f <;> rfl
      simp only [K2_eq, kBin_eq, kRep_eq, kNeg_eq, kBool_eq, kCmp_eq, kCh3_eq, kCh2_eq, kCh1_eq, kAnd_eq, kOr_eq, kNot_eq, kIte_eq, kTup2_eq, kTup_eq, kLst2_eq, kLst_eq, kSub_eq, kS3_eq, kS2_eq, kS1_eq, kCall2_eq, kCall_eq, kBlt_eq, kLc_eq, kO_eq, kTv_eq, kTand_eq, kTor_eq, kTnot_eq, kEs2_eq, kEs1_eq, kIe2_eq, kIe_eq, kR1_eq, kR22_eq, kR21_eq, kA2_eq, kA1_eq, kAsg2_eq, kAsg_eq, kApp2_eq, kApp_eq, kEx_eq, kRet2_eq, kRet_eq, kSi_eq, kFor_eq, kRse2_eq, kRse_eq, evE_var, evE_con, evE_glb, evE_bin, evE_rep, evE_neg, evE_cmp, evE_chain, evE_and, evE_or, evE_not, evE_ite, evE_tup, evE_lst, evE_sub, evE_slc, evE_call, evE_blt, evE_lc, evO_no, evO_some, evTo_no, evTo_some, evT_val, evT_and, evT_or, evT_not, evEs_nil, evEs_cons, evI_e, evI_rng, evI_rng2, evS_asg, evS_app, evS_expr, evS_ret, evS_retN, evS_ite, evS_whl, evS_for, evS_brk, evS_cnt, evS_pass, evS_rse, evSs_nil, evSs_cons, asDs_nil, asDs_cons, sizeLine, turn_next, turn_cnt, turn_brk, turn_ret, turn_exn, test_t, test_f, bind_ok, bind_exn, bind_bad, so_ok, so_exn, so_bad, seq_next, seq_brk, seq_cnt, seq_ret, seq_exn, seq_bad, ofO_some, rofO_some, view_dat, view_lst, view_var, tree_dat, tree_lst, asD_dat, asD_lst, asD_var, get0, getS, set0, setS, getD0, getDS, add_ii, sub_ii, lt_ii, le_ii, gt_ii, ge_ii, eq_ii, ne_ii, len_l, len_t, int_i, int_b, abs_i, min_ii, max_ii, tru_b, neg_i, items_l, items_t, slc_l, slc_t, viewAll, ft_mk, fdiv_ii, mod_ii, mul_ii, and_self, true_and, and_true, or_true, true_or, Option.map_some, rf_next, rf_ret, rf_exn, Int.toNat_natCast, if_true, ite_true, decide_true, decide_false, reduceIte, List.length_cons, List.length_nil, Nat.zero_add, Nat.zero_le, List.map_cons, List.map_nil, Bool.not_true, Bool.not_false, Bool.false_eq_true, Nat.reducePow, Nat.reduceAdd, Nat.reduceLT, Nat.reduceLeDiff, Nat.reduceMul, Int.reduceLT, Int.reduceLE, Int.reduceNeg, Int.reducePow, Int.reduceAdd, Int.reduceSub, Int.reduceMul, Int.reduceToNat, Nat.reduceEqDiff, Int.reduceEq, el, ha2]
      rw [h3, e0, List.append_nil]
end L1
end

section
set_option linter.all false
set_option maxRecDepth 100000
set_option maxHeartbeats 4000000
namespace L1
open PySem Tv PF M1 C07
theorem sub_mk {ft : Ft} {s : Str → Str → Option Bool} : (Cz.mk ft s).sub = s := rfl
theorem shut_ret {ow : Ow} {Γ : Tv.Env} : (So.ret ow Γ).shut = .ret ow Γ := rfl
theorem hsub : sub "BadFile" "BadFile" = some true := by rfl
theorem refused_num (n : Nat) (data : List Nat) (h : takeN data 0 = none) : tab sub pr (n + 2) "_law_refused" [.int 0, .list (iD data), .int 0, .int 0] = .ok (.dat (.bool true)) := by
  rw [tab_def h__law_refused rfl]
  unfold c__law_refused
  show rf (evSs _ _ [some (.dat (.int 0)), some (.dat (.list (iD data))), some (.dat (.int 0)), some (.dat (.int 0))]) = _
  have e := take_number_ok (sub := sub) h_take_number n data 0
  rw [h] at e
  simp only [nD, takeR, badF] at e
  have e0 : ((0 : Nat) : Int) = 0 := rfl
  rw [e0] at e
  simp only [K2_eq, kBin_eq, kRep_eq, kNeg_eq, kBool_eq, kCmp_eq, kCh3_eq, kCh2_eq, kCh1_eq, kAnd_eq, kOr_eq, kNot_eq, kIte_eq, kTup2_eq, kTup_eq, kLst2_eq, kLst_eq, kSub_eq, kS3_eq, kS2_eq, kS1_eq, kCall2_eq, kCall_eq, kBlt_eq, kLc_eq, kO_eq, kTv_eq, kTand_eq, kTor_eq, kTnot_eq, kEs2_eq, kEs1_eq, kIe2_eq, kIe_eq, kR1_eq, kR22_eq, kR21_eq, kA2_eq, kA1_eq, kAsg2_eq, kAsg_eq, kApp2_eq, kApp_eq, kEx_eq, kRet2_eq, kRet_eq, kSi_eq, kFor_eq, kRse2_eq, kRse_eq, evE_var, evE_con, evE_glb, evE_bin, evE_rep, evE_neg, evE_cmp, evE_chain, evE_and, evE_or, evE_not, evE_ite, evE_tup, evE_lst, evE_sub, evE_slc, evE_call, evE_blt, evE_lc, evO_no, evO_some, evTo_no, evTo_some, evT_val, evT_and, evT_or, evT_not, evEs_nil, evEs_cons, evI_e, evI_rng, evI_rng2, evS_asg, evS_app, evS_expr, evS_ret, evS_retN, evS_ite, evS_whl, evS_for, evS_brk, evS_cnt, evS_pass, evS_rse, evSs_nil, evSs_cons, asDs_nil, asDs_cons, sizeLine, turn_next, turn_cnt, turn_brk, turn_ret, turn_exn, test_t, test_f, bind_ok, bind_exn, bind_bad, so_ok, so_exn, so_bad, seq_next, seq_brk, seq_cnt, seq_ret, seq_exn, seq_bad, ofO_some, rofO_some, view_dat, view_lst, view_var, tree_dat, tree_lst, asD_dat, asD_lst, asD_var, get0, getS, set0, setS, getD0, getDS, add_ii, sub_ii, lt_ii, le_ii, gt_ii, ge_ii, eq_ii, ne_ii, len_l, len_t, int_i, int_b, abs_i, min_ii, max_ii, tru_b, neg_i, items_l, items_t, slc_l, slc_t, viewAll, ft_mk, fdiv_ii, mod_ii, mul_ii, and_self, true_and, and_true, or_true, true_or, Option.map_some, rf_next, rf_ret, rf_exn, Int.toNat_natCast, if_true, ite_true, decide_true, decide_false, reduceIte, List.length_cons, List.length_nil, Nat.zero_add, Nat.zero_le, List.map_cons, List.map_nil, Bool.not_true, Bool.not_false, Bool.false_eq_true, Nat.reducePow, Nat.reduceAdd, Nat.reduceLT, Nat.reduceLeDiff, Nat.reduceMul, Int.reduceLT, Int.reduceLE, Int.reduceNeg, Int.reducePow, Int.reduceAdd, Int.reduceSub, Int.reduceMul, Int.reduceToNat, Nat.reduceEqDiff, Int.reduceEq, evS_tr, e, sub_mk, hsub, shut_ret]
theorem refused_word (n : Nat) (data : List Nat) (h : data.length < 4) : tab sub pr (n + 2) "_law_refused" [.int 3, .list (iD data), .int 0, .int 0] = .ok (.dat (.bool true)) := by
  rw [tab_def h__law_refused rfl]
  unfold c__law_refused
  show rf (evSs _ _ [some (.dat (.int 3)), some (.dat (.list (iD data))), some (.dat (.int 0)), some (.dat (.int 0))]) = _
  have e := take_word_bad (sub := sub) h_take_word n data 0 (by omega)
  simp only [nD, badF] at e
  have e0 : ((0 : Nat) : Int) = 0 := rfl
  rw [e0] at e
  simp only [K2_eq, kBin_eq, kRep_eq, kNeg_eq, kBool_eq, kCmp_eq, kCh3_eq, kCh2_eq, kCh1_eq, kAnd_eq, kOr_eq, kNot_eq, kIte_eq, kTup2_eq, kTup_eq, kLst2_eq, kLst_eq, kSub_eq, kS3_eq, kS2_eq, kS1_eq, kCall2_eq, kCall_eq, kBlt_eq, kLc_eq, kO_eq, kTv_eq, kTand_eq, kTor_eq, kTnot_eq, kEs2_eq, kEs1_eq, kIe2_eq, kIe_eq, kR1_eq, kR22_eq, kR21_eq, kA2_eq, kA1_eq, kAsg2_eq, kAsg_eq, kApp2_eq, kApp_eq, kEx_eq, kRet2_eq, kRet_eq, kSi_eq, kFor_eq, kRse2_eq, kRse_eq, evE_var, evE_con, evE_glb, evE_bin, evE_rep, evE_neg, evE_cmp, evE_chain, evE_and, evE_or, evE_not, evE_ite, evE_tup, evE_lst, evE_sub, evE_slc, evE_call, evE_blt, evE_lc, evO_no, evO_some, evTo_no, evTo_some, evT_val, evT_and, evT_or, evT_not, evEs_nil, evEs_cons, evI_e, evI_rng, evI_rng2, evS_asg, evS_app, evS_expr, evS_ret, evS_retN, evS_ite, evS_whl, evS_for, evS_brk, evS_cnt, evS_pass, evS_rse, evSs_nil, evSs_cons, asDs_nil, asDs_cons, sizeLine, turn_next, turn_cnt, turn_brk, turn_ret, turn_exn, test_t, test_f, bind_ok, bind_exn, bind_bad, so_ok, so_exn, so_bad, seq_next, seq_brk, seq_cnt, seq_ret, seq_exn, seq_bad, ofO_some, rofO_some, view_dat, view_lst, view_var, tree_dat, tree_lst, asD_dat, asD_lst, asD_var, get0, getS, set0, setS, getD0, getDS, add_ii, sub_ii, lt_ii, le_ii, gt_ii, ge_ii, eq_ii, ne_ii, len_l, len_t, int_i, int_b, abs_i, min_ii, max_ii, tru_b, neg_i, items_l, items_t, slc_l, slc_t, viewAll, ft_mk, fdiv_ii, mod_ii, mul_ii, and_self, true_and, and_true, or_true, true_or, Option.map_some, rf_next, rf_ret, rf_exn, Int.toNat_natCast, if_true, ite_true, decide_true, decide_false, reduceIte, List.length_cons, List.length_nil, Nat.zero_add, Nat.zero_le, List.map_cons, List.map_nil, Bool.not_true, Bool.not_false, Bool.false_eq_true, Nat.reducePow, Nat.reduceAdd, Nat.reduceLT, Nat.reduceLeDiff, Nat.reduceMul, Int.reduceLT, Int.reduceLE, Int.reduceNeg, Int.reducePow, Int.reduceAdd, Int.reduceSub, Int.reduceMul, Int.reduceToNat, Nat.reduceEqDiff, Int.reduceEq, evS_tr, e, sub_mk, hsub, shut_ret]
theorem refused_bits (n : Nat) (data : List Nat) (count w : Nat) (hc : count < 1000000) (hw : w < 30) (hs : count * w < 100000) (h : unpackO data 0 count w = none) : tab sub pr (n + 2) "_law_refused" [.int 2, .list (iD data), nD count, nD w] = .ok (.dat (.bool true)) := by
  rw [tab_def h__law_refused rfl]
  unfold c__law_refused
  show rf (evSs _ _ [some (.dat (.int 2)), some (.dat (.list (iD data))), some (.dat (nD count)), some (.dat (nD w))]) = _
  have e := unpack_ok (sub := sub) h_unpack n data 0 count w hc hw hs (by omega)
  rw [unpackR_none h] at e
  simp only [nD, badF] at e
  have e0 : ((0 : Nat) : Int) = 0 := rfl
  rw [e0] at e
  unfold nD
  simp only [K2_eq, kBin_eq, kRep_eq, kNeg_eq, kBool_eq, kCmp_eq, kCh3_eq, kCh2_eq, kCh1_eq, kAnd_eq, kOr_eq, kNot_eq, kIte_eq, kTup2_eq, kTup_eq, kLst2_eq, kLst_eq, kSub_eq, kS3_eq, kS2_eq, kS1_eq, kCall2_eq, kCall_eq, kBlt_eq, kLc_eq, kO_eq, kTv_eq, kTand_eq, kTor_eq, kTnot_eq, kEs2_eq, kEs1_eq, kIe2_eq, kIe_eq, kR1_eq, kR22_eq, kR21_eq, kA2_eq, kA1_eq, kAsg2_eq, kAsg_eq, kApp2_eq, kApp_eq, kEx_eq, kRet2_eq, kRet_eq, kSi_eq, kFor_eq, kRse2_eq, kRse_eq, evE_var, evE_con, evE_glb, evE_bin, evE_rep, evE_neg, evE_cmp, evE_chain, evE_and, evE_or, evE_not, evE_ite, evE_tup, evE_lst, evE_sub, evE_slc, evE_call, evE_blt, evE_lc, evO_no, evO_some, evTo_no, evTo_some, evT_val, evT_and, evT_or, evT_not, evEs_nil, evEs_cons, evI_e, evI_rng, evI_rng2, evS_asg, evS_app, evS_expr, evS_ret, evS_retN, evS_ite, evS_whl, evS_for, evS_brk, evS_cnt, evS_pass, evS_rse, evSs_nil, evSs_cons, asDs_nil, asDs_cons, sizeLine, turn_next, turn_cnt, turn_brk, turn_ret, turn_exn, test_t, test_f, bind_ok, bind_exn, bind_bad, so_ok, so_exn, so_bad, seq_next, seq_brk, seq_cnt, seq_ret, seq_exn, seq_bad, ofO_some, rofO_some, view_dat, view_lst, view_var, tree_dat, tree_lst, asD_dat, asD_lst, asD_var, get0, getS, set0, setS, getD0, getDS, add_ii, sub_ii, lt_ii, le_ii, gt_ii, ge_ii, eq_ii, ne_ii, len_l, len_t, int_i, int_b, abs_i, min_ii, max_ii, tru_b, neg_i, items_l, items_t, slc_l, slc_t, viewAll, ft_mk, fdiv_ii, mod_ii, mul_ii, and_self, true_and, and_true, or_true, true_or, Option.map_some, rf_next, rf_ret, rf_exn, Int.toNat_natCast, if_true, ite_true, decide_true, decide_false, reduceIte, List.length_cons, List.length_nil, Nat.zero_add, Nat.zero_le, List.map_cons, List.map_nil, Bool.not_true, Bool.not_false, Bool.false_eq_true, Nat.reducePow, Nat.reduceAdd, Nat.reduceLT, Nat.reduceLeDiff, Nat.reduceMul, Int.reduceLT, Int.reduceLE, Int.reduceNeg, Int.reducePow, Int.reduceAdd, Int.reduceSub, Int.reduceMul, Int.reduceToNat, Nat.reduceEqDiff, Int.reduceEq, evS_tr, e, sub_mk, hsub, shut_ret]
theorem refused_lev (n : Nat) (data : List Nat) (count most : Nat) (hd : data.length < 10000000) (hc : count ≤ 1000) (hm : most < 536870912) : tab sub pr (n + 3) "_law_refused" [.int 1, .list (iD data), nD count, nD most] = .ok (.dat (.bool (takeLv data 0 count most).isNone)) := by
  rw [tab_def h__law_refused rfl]
  unfold c__law_refused
  show rf (evSs _ _ [some (.dat (.int 1)), some (.dat (.list (iD data))), some (.dat (nD count)), some (.dat (nD most))]) = _
  have e := take_levels_ok (sub := sub) h_take_levels h_width_of h_take_number h_unpack n data 0 count most hd (by omega) hc hm
  have e0 : nD 0 = .int 0 := rfl
  rw [e0] at e
  unfold nD at e ⊢
  cases ht : takeLv data 0 count most with
  | none =>
    rw [ht] at e
    obtain ⟨s, e⟩ := e
    unfold badF at e
    simp only [K2_eq, kBin_eq, kRep_eq, kNeg_eq, kBool_eq, kCmp_eq, kCh3_eq, kCh2_eq, kCh1_eq, kAnd_eq, kOr_eq, kNot_eq, kIte_eq, kTup2_eq, kTup_eq, kLst2_eq, kLst_eq, kSub_eq, kS3_eq, kS2_eq, kS1_eq, kCall2_eq, kCall_eq, kBlt_eq, kLc_eq, kO_eq, kTv_eq, kTand_eq, kTor_eq, kTnot_eq, kEs2_eq, kEs1_eq, kIe2_eq, kIe_eq, kR1_eq, kR22_eq, kR21_eq, kA2_eq, kA1_eq, kAsg2_eq, kAsg_eq, kApp2_eq, kApp_eq, kEx_eq, kRet2_eq, kRet_eq, kSi_eq, kFor_eq, kRse2_eq, kRse_eq, evE_var, evE_con, evE_glb, evE_bin, evE_rep, evE_neg, evE_cmp, evE_chain, evE_and, evE_or, evE_not, evE_ite, evE_tup, evE_lst, evE_sub, evE_slc, evE_call, evE_blt, evE_lc, evO_no, evO_some, evTo_no, evTo_some, evT_val, evT_and, evT_or, evT_not, evEs_nil, evEs_cons, evI_e, evI_rng, evI_rng2, evS_asg, evS_app, evS_expr, evS_ret, evS_retN, evS_ite, evS_whl, evS_for, evS_brk, evS_cnt, evS_pass, evS_rse, evSs_nil, evSs_cons, asDs_nil, asDs_cons, sizeLine, turn_next, turn_cnt, turn_brk, turn_ret, turn_exn, test_t, test_f, bind_ok, bind_exn, bind_bad, so_ok, so_exn, so_bad, seq_next, seq_brk, seq_cnt, seq_ret, seq_exn, seq_bad, ofO_some, rofO_some, view_dat, view_lst, view_var, tree_dat, tree_lst, asD_dat, asD_lst, asD_var, get0, getS, set0, setS, getD0, getDS, add_ii, sub_ii, lt_ii, le_ii, gt_ii, ge_ii, eq_ii, ne_ii, len_l, len_t, int_i, int_b, abs_i, min_ii, max_ii, tru_b, neg_i, items_l, items_t, slc_l, slc_t, viewAll, ft_mk, fdiv_ii, mod_ii, mul_ii, and_self, true_and, and_true, or_true, true_or, Option.map_some, rf_next, rf_ret, rf_exn, Int.toNat_natCast, if_true, ite_true, decide_true, decide_false, reduceIte, List.length_cons, List.length_nil, Nat.zero_add, Nat.zero_le, List.map_cons, List.map_nil, Bool.not_true, Bool.not_false, Bool.false_eq_true, Nat.reducePow, Nat.reduceAdd, Nat.reduceLT, Nat.reduceLeDiff, Nat.reduceMul, Int.reduceLT, Int.reduceLE, Int.reduceNeg, Int.reducePow, Int.reduceAdd, Int.reduceSub, Int.reduceMul, Int.reduceToNat, Nat.reduceEqDiff, Int.reduceEq, evS_tr, e, sub_mk, hsub, shut_ret]
    rfl
  | some q =>
    obtain ⟨xs, p⟩ := q
    rw [ht] at e
    have e : tab sub pr (n + 2) "take_levels" _ = _ := e
    simp only [K2_eq, kBin_eq, kRep_eq, kNeg_eq, kBool_eq, kCmp_eq, kCh3_eq, kCh2_eq, kCh1_eq, kAnd_eq, kOr_eq, kNot_eq, kIte_eq, kTup2_eq, kTup_eq, kLst2_eq, kLst_eq, kSub_eq, kS3_eq, kS2_eq, kS1_eq, kCall2_eq, kCall_eq, kBlt_eq, kLc_eq, kO_eq, kTv_eq, kTand_eq, kTor_eq, kTnot_eq, kEs2_eq, kEs1_eq, kIe2_eq, kIe_eq, kR1_eq, kR22_eq, kR21_eq, kA2_eq, kA1_eq, kAsg2_eq, kAsg_eq, kApp2_eq, kApp_eq, kEx_eq, kRet2_eq, kRet_eq, kSi_eq, kFor_eq, kRse2_eq, kRse_eq, evE_var, evE_con, evE_glb, evE_bin, evE_rep, evE_neg, evE_cmp, evE_chain, evE_and, evE_or, evE_not, evE_ite, evE_tup, evE_lst, evE_sub, evE_slc, evE_call, evE_blt, evE_lc, evO_no, evO_some, evTo_no, evTo_some, evT_val, evT_and, evT_or, evT_not, evEs_nil, evEs_cons, evI_e, evI_rng, evI_rng2, evS_asg, evS_app, evS_expr, evS_ret, evS_retN, evS_ite, evS_whl, evS_for, evS_brk, evS_cnt, evS_pass, evS_rse, evSs_nil, evSs_cons, asDs_nil, asDs_cons, sizeLine, turn_next, turn_cnt, turn_brk, turn_ret, turn_exn, test_t, test_f, bind_ok, bind_exn, bind_bad, so_ok, so_exn, so_bad, seq_next, seq_brk, seq_cnt, seq_ret, seq_exn, seq_bad, ofO_some, rofO_some, view_dat, view_lst, view_var, tree_dat, tree_lst, asD_dat, asD_lst, asD_var, get0, getS, set0, setS, getD0, getDS, add_ii, sub_ii, lt_ii, le_ii, gt_ii, ge_ii, eq_ii, ne_ii, len_l, len_t, int_i, int_b, abs_i, min_ii, max_ii, tru_b, neg_i, items_l, items_t, slc_l, slc_t, viewAll, ft_mk, fdiv_ii, mod_ii, mul_ii, and_self, true_and, and_true, or_true, true_or, Option.map_some, rf_next, rf_ret, rf_exn, Int.toNat_natCast, if_true, ite_true, decide_true, decide_false, reduceIte, List.length_cons, List.length_nil, Nat.zero_add, Nat.zero_le, List.map_cons, List.map_nil, Bool.not_true, Bool.not_false, Bool.false_eq_true, Nat.reducePow, Nat.reduceAdd, Nat.reduceLT, Nat.reduceLeDiff, Nat.reduceMul, Int.reduceLT, Int.reduceLE, Int.reduceNeg, Int.reducePow, Int.reduceAdd, Int.reduceSub, Int.reduceMul, Int.reduceToNat, Nat.reduceEqDiff, Int.reduceEq, evS_tr, e, sub_mk, hsub, shut_ret]
    rfl
/-! ### rows -/
def RowR (most : Nat) (r : Rf) : Prop := ∃ xs : List Nat, Row xs most ∧ xs.length ≤ 216 ∧ r = .ok (.dat (.list (iD xs)))
theorem reps_ok (m : Nat) (h : m < 8) : ∃ v : Nat, v ≤ 9 ∧ subD (.list [PyData.int 1, .int 1, .int 2, .int 3, .int 4, .int 5, .int 9, .int 1]) (.int (m : Int)) = some (.dat (.int (v : Int))) := by
  have : m = 0 ∨ m = 1 ∨ m = 2 ∨ m = 3 ∨ m = 4 ∨ m = 5 ∨ m = 6 ∨ m = 7 := by omega
  rcases this with rfl | rfl | rfl | rfl | rfl | rfl | rfl | rfl
  · exact ⟨1, by omega, rfl⟩
  · exact ⟨1, by omega, rfl⟩
  · exact ⟨2, by omega, rfl⟩
  · exact ⟨3, by omega, rfl⟩
  · exact ⟨4, by omega, rfl⟩
  · exact ⟨5, by omega, rfl⟩
  · exact ⟨9, by omega, rfl⟩
  · exact ⟨1, by omega, rfl⟩
theorem row_ok (n : Nat) (x : Int) (most : Nat) (hm : most < 536870912) : RowR most (tab sub pr (n + 2) "_law_row" [.int x, nD most]) := by
  rw [tab_def h__law_row rfl]
  unfold c__law_row
  show RowR most (rf (evSs _ _ [some (.dat (.int x)), some (.dat (nD most)), none, none, none, none]))
  obtain ⟨ys, hyl, hy, e⟩ := numbers_ok n x 30 (by omega)
  have e30 : nD 30 = .int 30 := rfl
  rw [e30] at e
  unfold nD
  obtain ⟨y0, h0⟩ : ∃ y0, ys[0]? = some y0 := ⟨ys[0], List.getElem?_eq_getElem (by omega)⟩
  have s0 : subD (.list (iD ys)) (.int 0) = some (.dat (.int (y0 : Int))) := sub_nat (k := 0) h0
  have em : (y0 : Int) % 24 = ((y0 % 24 : Nat) : Int) := by omega
  have hk24 : y0 % 24 < 24 := Nat.mod_lt _ (by omega)
  generalize y0 % 24 = k at em hk24
  have bk : big62 (k : Int) = true := big_nat (by omega)
  simp only [K2_eq, kBin_eq, kRep_eq, kNeg_eq, kBool_eq, kCmp_eq, kCh3_eq, kCh2_eq, kCh1_eq, kAnd_eq, kOr_eq, kNot_eq, kIte_eq, kTup2_eq, kTup_eq, kLst2_eq, kLst_eq, kSub_eq, kS3_eq, kS2_eq, kS1_eq, kCall2_eq, kCall_eq, kBlt_eq, kLc_eq, kO_eq, kTv_eq, kTand_eq, kTor_eq, kTnot_eq, kEs2_eq, kEs1_eq, kIe2_eq, kIe_eq, kR1_eq, kR22_eq, kR21_eq, kA2_eq, kA1_eq, kAsg2_eq, kAsg_eq, kApp2_eq, kApp_eq, kEx_eq, kRet2_eq, kRet_eq, kSi_eq, kFor_eq, kRse2_eq, kRse_eq, evE_var, evE_con, evE_glb, evE_bin, evE_rep, evE_neg, evE_cmp, evE_chain, evE_and, evE_or, evE_not, evE_ite, evE_tup, evE_lst, evE_sub, evE_slc, evE_call, evE_blt, evE_lc, evO_no, evO_some, evTo_no, evTo_some, evT_val, evT_and, evT_or, evT_not, evEs_nil, evEs_cons, evI_e, evI_rng, evI_rng2, evS_asg, evS_app, evS_expr, evS_ret, evS_retN, evS_ite, evS_whl, evS_for, evS_brk, evS_cnt, evS_pass, evS_rse, evSs_nil, evSs_cons, asDs_nil, asDs_cons, sizeLine, turn_next, turn_cnt, turn_brk, turn_ret, turn_exn, test_t, test_f, bind_ok, bind_exn, bind_bad, so_ok, so_exn, so_bad, seq_next, seq_brk, seq_cnt, seq_ret, seq_exn, seq_bad, ofO_some, rofO_some, view_dat, view_lst, view_var, tree_dat, tree_lst, asD_dat, asD_lst, asD_var, get0, getS, set0, setS, getD0, getDS, add_ii, sub_ii, lt_ii, le_ii, gt_ii, ge_ii, eq_ii, ne_ii, len_l, len_t, int_i, int_b, abs_i, min_ii, max_ii, tru_b, neg_i, items_l, items_t, slc_l, slc_t, viewAll, ft_mk, fdiv_ii, mod_ii, mul_ii, and_self, true_and, and_true, or_true, true_or, Option.map_some, rf_next, rf_ret, rf_exn, Int.toNat_natCast, if_true, ite_true, decide_true, decide_false, reduceIte, List.length_cons, List.length_nil, Nat.zero_add, Nat.zero_le, List.map_cons, List.map_nil, Bool.not_true, Bool.not_false, Bool.false_eq_true, Nat.reducePow, Nat.reduceAdd, Nat.reduceLT, Nat.reduceLeDiff, Nat.reduceMul, Int.reduceLT, Int.reduceLE, Int.reduceNeg, Int.reducePow, Int.reduceAdd, Int.reduceSub, Int.reduceMul, Int.reduceToNat, Nat.reduceEqDiff, Int.reduceEq, e, s0, em, bk]
  refine for_gen (Q := fun r => RowR most (rf (So.seq r _))) (P := fun i Γ => i ≤ k ∧ ∃ (acc : List Nat) (o p : Option Ow), Γ = [some (.dat (.int x)), some (.dat (.int (most : Int))), some (.dat (.list (iD ys))), some (.lst (iD acc)), o, p] ∧ acc.length ≤ 9 * i ∧ ∀ v ∈ acc, v ≤ most) (rangeD 0 k) ?_ ?_ _ ⟨by omega, [], none, none, rfl, by simp, by simp⟩
  · rintro i d Γ hd ⟨_, acc, o, p, rfl, hl, hall⟩
    obtain ⟨hi, rfl⟩ := range_at hd
    refine ⟨_, rfl, ?_⟩
    obtain ⟨y, hyi⟩ : ∃ y, ys[1 + i]? = some y := ⟨ys[1 + i]'(by omega), List.getElem?_eq_getElem (by omega)⟩
    have s1 : subD (.list (iD ys)) (.int (1 + (i : Int))) = some (.dat (.int (y : Int))) := by
      rw [show 1 + (i : Int) = ((1 + i : Nat) : Int) by omega]
      exact sub_nat hyi
    have e1 : (y : Int) / 16 % ((most : Int) + 1) = ((y / 16 % (most + 1) : Nat) : Int) := by
      simp only [Int.natCast_emod, Int.natCast_add, Int.natCast_ediv]
      rfl
    have e2 : (y : Int) % 8 = ((y % 8 : Nat) : Int) := by omega
    have hv : y / 16 % (most + 1) ≤ most := by
      have := Nat.mod_lt (y / 16) (show 0 < most + 1 by omega)
      omega
    generalize y / 16 % (most + 1) = v at e1 hv
    obtain ⟨c, hc9, hsc⟩ := reps_ok (y % 8) (Nat.mod_lt _ (by omega))
    have hpos : (0 : Int) < (most : Int) + 1 := by omega
    have r1 := rep_nat (v := v) (k := c) (by omega)
    have a1 : binD .add (.list (iD acc)) (.list (iD (List.replicate c v))) = some (.lst (iD acc ++ iD (List.replicate c v))) := add_ll (by rw [iD_len, iD_len, List.length_replicate]; show _ ≤ 2 ^ 24; omega)
    simp only [K2_eq, kBin_eq, kRep_eq, kNeg_eq, kBool_eq, kCmp_eq, kCh3_eq, kCh2_eq, kCh1_eq, kAnd_eq, kOr_eq, kNot_eq, kIte_eq, kTup2_eq, kTup_eq, kLst2_eq, kLst_eq, kSub_eq, kS3_eq, kS2_eq, kS1_eq, kCall2_eq, kCall_eq, kBlt_eq, kLc_eq, kO_eq, kTv_eq, kTand_eq, kTor_eq, kTnot_eq, kEs2_eq, kEs1_eq, kIe2_eq, kIe_eq, kR1_eq, kR22_eq, kR21_eq, kA2_eq, kA1_eq, kAsg2_eq, kAsg_eq, kApp2_eq, kApp_eq, kEx_eq, kRet2_eq, kRet_eq, kSi_eq, kFor_eq, kRse2_eq, kRse_eq, evE_var, evE_con, evE_glb, evE_bin, evE_rep, evE_neg, evE_cmp, evE_chain, evE_and, evE_or, evE_not, evE_ite, evE_tup, evE_lst, evE_sub, evE_slc, evE_call, evE_blt, evE_lc, evO_no, evO_some, evTo_no, evTo_some, evT_val, evT_and, evT_or, evT_not, evEs_nil, evEs_cons, evI_e, evI_rng, evI_rng2, evS_asg, evS_app, evS_expr, evS_ret, evS_retN, evS_ite, evS_whl, evS_for, evS_brk, evS_cnt, evS_pass, evS_rse, evSs_nil, evSs_cons, asDs_nil, asDs_cons, sizeLine, turn_next, turn_cnt, turn_brk, turn_ret, turn_exn, test_t, test_f, bind_ok, bind_exn, bind_bad, so_ok, so_exn, so_bad, seq_next, seq_brk, seq_cnt, seq_ret, seq_exn, seq_bad, ofO_some, rofO_some, view_dat, view_lst, view_var, tree_dat, tree_lst, asD_dat, asD_lst, asD_var, get0, getS, set0, setS, getD0, getDS, add_ii, sub_ii, lt_ii, le_ii, gt_ii, ge_ii, eq_ii, ne_ii, len_l, len_t, int_i, int_b, abs_i, min_ii, max_ii, tru_b, neg_i, items_l, items_t, slc_l, slc_t, viewAll, ft_mk, fdiv_ii, mod_ii, mul_ii, and_self, true_and, and_true, or_true, true_or, Option.map_some, rf_next, rf_ret, rf_exn, Int.toNat_natCast, if_true, ite_true, decide_true, decide_false, reduceIte, List.length_cons, List.length_nil, Nat.zero_add, Nat.zero_le, List.map_cons, List.map_nil, Bool.not_true, Bool.not_false, Bool.false_eq_true, Nat.reducePow, Nat.reduceAdd, Nat.reduceLT, Nat.reduceLeDiff, Nat.reduceMul, Int.reduceLT, Int.reduceLE, Int.reduceNeg, Int.reducePow, Int.reduceAdd, Int.reduceSub, Int.reduceMul, Int.reduceToNat, Nat.reduceEqDiff, Int.reduceEq, s1, hpos, e1, e2, hsc, r1, a1]
    refine ⟨by omega, acc ++ List.replicate c v, _, _, by rw [← iD_app], ?_, ?_⟩
    · rw [List.length_append, List.length_replicate]
      omega
    · intro z hz
      rcases List.mem_append.mp hz with hz | hz
      · exact hall z hz
      · have := List.eq_of_mem_replicate hz
        omega
  · rintro Γ ⟨_, acc, o, p, rfl, hl, hall⟩
    rw [range_len] at hl
    simp only [K2_eq, kBin_eq, kRep_eq, kNeg_eq, kBool_eq, kCmp_eq, kCh3_eq, kCh2_eq, kCh1_eq, kAnd_eq, kOr_eq, kNot_eq, kIte_eq, kTup2_eq, kTup_eq, kLst2_eq, kLst_eq, kSub_eq, kS3_eq, kS2_eq, kS1_eq, kCall2_eq, kCall_eq, kBlt_eq, kLc_eq, kO_eq, kTv_eq, kTand_eq, kTor_eq, kTnot_eq, kEs2_eq, kEs1_eq, kIe2_eq, kIe_eq, kR1_eq, kR22_eq, kR21_eq, kA2_eq, kA1_eq, kAsg2_eq, kAsg_eq, kApp2_eq, kApp_eq, kEx_eq, kRet2_eq, kRet_eq, kSi_eq, kFor_eq, kRse2_eq, kRse_eq, evE_var, evE_con, evE_glb, evE_bin, evE_rep, evE_neg, evE_cmp, evE_chain, evE_and, evE_or, evE_not, evE_ite, evE_tup, evE_lst, evE_sub, evE_slc, evE_call, evE_blt, evE_lc, evO_no, evO_some, evTo_no, evTo_some, evT_val, evT_and, evT_or, evT_not, evEs_nil, evEs_cons, evI_e, evI_rng, evI_rng2, evS_asg, evS_app, evS_expr, evS_ret, evS_retN, evS_ite, evS_whl, evS_for, evS_brk, evS_cnt, evS_pass, evS_rse, evSs_nil, evSs_cons, asDs_nil, asDs_cons, sizeLine, turn_next, turn_cnt, turn_brk, turn_ret, turn_exn, test_t, test_f, bind_ok, bind_exn, bind_bad, so_ok, so_exn, so_bad, seq_next, seq_brk, seq_cnt, seq_ret, seq_exn, seq_bad, ofO_some, rofO_some, view_dat, view_lst, view_var, tree_dat, tree_lst, asD_dat, asD_lst, asD_var, get0, getS, set0, setS, getD0, getDS, add_ii, sub_ii, lt_ii, le_ii, gt_ii, ge_ii, eq_ii, ne_ii, len_l, len_t, int_i, int_b, abs_i, min_ii, max_ii, tru_b, neg_i, items_l, items_t, slc_l, slc_t, viewAll, ft_mk, fdiv_ii, mod_ii, mul_ii, and_self, true_and, and_true, or_true, true_or, Option.map_some, rf_next, rf_ret, rf_exn, Int.toNat_natCast, if_true, ite_true, decide_true, decide_false, reduceIte, List.length_cons, List.length_nil, Nat.zero_add, Nat.zero_le, List.map_cons, List.map_nil, Bool.not_true, Bool.not_false, Bool.false_eq_true, Nat.reducePow, Nat.reduceAdd, Nat.reduceLT, Nat.reduceLeDiff, Nat.reduceMul, Int.reduceLT, Int.reduceLE, Int.reduceNeg, Int.reducePow, Int.reduceAdd, Int.reduceSub, Int.reduceMul, Int.reduceToNat, Nat.reduceEqDiff, Int.reduceEq]
    exact ⟨acc, ⟨by omega, hall, hm⟩, by omega, rfl⟩
/-! ### what is equal -/
theorem can_iD : ∀ xs : List Nat, PyData.canLayAll0 (iD xs) = true
  | [] => rfl
  | x :: r => by
    show (PyData.canLay0 (nD x) && PyData.canLayAll0 (iD r)) = true
    rw [can_iD r]
    rfl
theorem dep_iD : ∀ xs : List Nat, PyData.depthAll (iD xs) = 0
  | [] => rfl
  | x :: r => by
    show max (PyData.depth (nD x)) (PyData.depthAll (iD r)) = 0
    rw [dep_iD r]
    rfl
theorem ne_same {d : D} (h : SeqAt.shaped d = true) : cmpD .ne d d = some false := by
  show (eqD d d).map (!·) = _
  unfold eqD
  rw [if_pos (by rw [h]; simp), SeqAt.eqv_refl d (SeqAt.canLay_of_shaped h)]
  rfl
theorem eq_same {d : D} (h : SeqAt.shaped d = true) : cmpD .eq d d = some true := by
  show eqD d d = _
  unfold eqD
  rw [if_pos (by rw [h]; simp), SeqAt.eqv_refl d (SeqAt.canLay_of_shaped h)]
theorem shaped_l (xs : List Nat) : SeqAt.shaped (.list (iD xs)) = true := by
  unfold SeqAt.shaped
  have e1 : PyData.canLay0 (.list (iD xs)) = PyData.canLayAll0 (iD xs) := by simp [PyData.canLay0]
  have e2 : PyData.depth (.list (iD xs)) = PyData.depthAll (iD xs) + 1 := by simp [PyData.depth]
  rw [e1, e2, can_iD, dep_iD]
  rfl
theorem shaped_li (xs : List Nat) (p : Int) : SeqAt.shaped (.tuple [.list (iD xs), .int p]) = true := by
  unfold SeqAt.shaped
  have e1 : PyData.canLay0 (.tuple [.list (iD xs), .int p]) = PyData.canLayAll0 (iD xs) := by simp [PyData.canLay0, PyData.canLayAll0]
  have e2 : PyData.depth (.tuple [.list (iD xs), .int p]) = PyData.depthAll (iD xs) + 2 := by simp [PyData.depth, PyData.depthAll]
  rw [e1, e2, can_iD, dep_iD]
  rfl
theorem shaped_ii (a b : Int) : SeqAt.shaped (.tuple [.int a, .int b]) = true := by
  unfold SeqAt.shaped
  simp [PyData.canLay0, PyData.canLayAll0, PyData.depth, PyData.depthAll]
end L1
end

section
set_option linter.all false
set_option maxRecDepth 100000
set_option maxHeartbeats 8000000
namespace L1
open PySem Tv PF M1 C07
theorem natAbs_mod (x : Int) (m : Nat) (hm : 0 < m) : ∃ k : Nat, (if x < 0 then -x else x) % (m : Int) = (k : Int) ∧ k < m := by
  refine ⟨((if x < 0 then -x else x) % (m : Int)).toNat, ?_, ?_⟩
  · have := Int.emod_nonneg (if x < 0 then -x else x) (show (m : Int) ≠ 0 by omega)
    omega
  · have h1 := Int.emod_nonneg (if x < 0 then -x else x) (show (m : Int) ≠ 0 by omega)
    have h2 := Int.emod_lt_of_pos (if x < 0 then -x else x) (show (0 : Int) < (m : Int) by omega)
    omega
theorem cut_last {P : List Nat} (h : P ≠ []) : cutD (iD P) none (some ((P.length : Int) - 1)) = iD P.dropLast := by
  have hp : 0 < P.length := List.length_pos_iff.mpr h
  have e : (P.length : Int) - 1 = ((P.length - 1 : Nat) : Int) := by omega
  rw [e]
  unfold cutD
  rw [HT.sIx_nat, HT.sIx_none, iD_len, Nat.min_eq_left (by omega), List.drop_zero, Nat.sub_zero]
  unfold iD
  rw [← List.map_take, List.dropLast_eq_take]
def wN (W : Nat) : List Nat := [W % 256, W / 256 % 256, W / 65536 % 256, W / 16777216]
theorem wordN_eq {x : Int} {W : Nat} (h : x % 4294967296 = (W : Int)) : wordN x = iD (wN W) := by
  unfold wordN
  rw [h]
  rfl
theorem widN_pow : ∀ w : Nat, widN (2 ^ w) = w + 1 ∧ widN (2 ^ w - 1) = w
  | 0 => by
    refine ⟨?_, ?_⟩
    · rw [show 2 ^ 0 = 1 from rfl, widN_pos (by omega), show 1 / 2 = 0 from rfl, widN_zero]
    · rw [show 2 ^ 0 - 1 = 0 from rfl, widN_zero]
  | w + 1 => by
    obtain ⟨h1, h2⟩ := widN_pow w
    have hp : 0 < 2 ^ w := Nat.pow_pos (by omega)
    refine ⟨?_, ?_⟩
    · rw [widN_pos (by rw [Nat.pow_succ]; omega), Nat.pow_succ, Nat.mul_div_cancel _ (by omega), h1]
      omega
    · rw [widN_pos (by rw [Nat.pow_succ]; omega), show (2 ^ (w + 1) - 1) / 2 = 2 ^ w - 1 by rw [Nat.pow_succ]; omega, h2]
      omega
theorem mosts_ok (m : Nat) (h : m < 7) : ∃ v : Nat, v ≤ 70000 ∧ subD (.list [PyData.int 0, .int 1, .int 2, .int 3, .int 7, .int 300, .int 70000]) (.int (m : Int)) = some (.dat (.int (v : Int))) := by
  have : m = 0 ∨ m = 1 ∨ m = 2 ∨ m = 3 ∨ m = 4 ∨ m = 5 ∨ m = 6 := by omega
  rcases this with rfl | rfl | rfl | rfl | rfl | rfl | rfl
  · exact ⟨0, by omega, rfl⟩
  · exact ⟨1, by omega, rfl⟩
  · exact ⟨2, by omega, rfl⟩
  · exact ⟨3, by omega, rfl⟩
  · exact ⟨7, by omega, rfl⟩
  · exact ⟨300, by omega, rfl⟩
  · exact ⟨70000, by omega, rfl⟩
theorem sgn (s : Int) : ∃ fo : Int, subD (.list [PyData.int (2 * s), .int (0 - 2 * s - 1)]) (.int (if decide (s < 0) = true then 1 else 0)) = some (.dat (.int fo)) ∧ tab sub pr 11 "fold_sign" [.int s] = .ok (.dat (.int fo)) ∧ tab sub pr 11 "unfold_sign" [.int fo] = .ok (.dat (.int s)) := by
  have f := fold_sign_ok (sub := sub) h_fold_sign 10 s
  by_cases hs : s < 0
  · refine ⟨0 - 2 * s - 1, ?_, ?_, ?_⟩
    · rw [if_pos (by simp [hs])]
      rfl
    · rw [f, if_pos hs]
      congr 3
      omega
    · rw [unfold_sign_ok (sub := sub) h_unfold_sign 10, if_pos (by omega)]
      congr 3
      omega
  · refine ⟨2 * s, ?_, ?_, ?_⟩
    · rw [if_neg (by simp [hs])]
      rfl
    · rw [f, if_neg hs]
    · rw [unfold_sign_ok (sub := sub) h_unfold_sign 10, if_neg (by omega)]
      congr 3
      omega
theorem app_l {xs ys : List Nat} (h : xs.length + ys.length ≤ 1000000) : binD .add (.list (iD xs)) (.list (iD ys)) = some (.lst (iD (xs ++ ys))) := by
  rw [add_ll (by rw [iD_len, iD_len]; show _ ≤ 2 ^ 24; omega), iD_app]
/-- the slots behind the first part -/
theorem lc_ok (c : Cz) (Γ0 : Tv.Env) (s : Nat) (hs : 0 < s) (ys : List Nat) (a0 a1 a2 a3 a4 a5 a6 a8 : Option Ow) (hΓ : Γ0 = [a0, a1, a2, a3, a4, a5, a6, some (.dat (.int (s : Int))), a8, none, none, none, none, none, none]) :
    ∃ Γ', lcL 14 (evTo c .no) (evE c (.bin .mod (.blt .int (.cons (.var 14) .nil)) (.var 7))) (iD ys) Γ0 = .ok (iD (ys.map (· % s))) Γ' ∧ Γ' = Γ0 := by
  subst hΓ
  have hs2 : (0 : Int) < (s : Int) := by omega
  obtain ⟨Γ', h1, h2⟩ := lc_gen (v := 14) (t := evTo c .no) (e := evE c (.bin .mod (.blt .int (.cons (.var 14) .nil)) (.var 7))) (P := fun Γ => Γ = [a0, a1, a2, a3, a4, a5, a6, some (.dat (.int (s : Int))), a8, none, none, none, none, none, none])
    (f := fun d => match d with
      | .int i => some (.int (i % (s : Int)))
      | _ => none) (iD ys) _ rfl (fun d Γ hd hP => by
        subst hP
        obtain ⟨x, hx, rfl⟩ := List.mem_map.mp hd
        let Γx : Tv.Env := [a0, a1, a2, a3, a4, a5, a6, some (.dat (.int (s : Int))), a8, none, none, none, none, none, some (.dat (.int (x : Int)))]
        refine ⟨Γx, Γx, Γx, .fre (.dat (.int ((x : Int) % (s : Int)))), rfl, ?_, rfl, rfl, rfl⟩
        show evE c _ [a0, a1, a2, a3, a4, a5, a6, some (.dat (.int (s : Int))), a8, none, none, none, none, none, some (.dat (.int (x : Int)))] = _
        simp only [K2_eq, kBin_eq, kRep_eq, kNeg_eq, kBool_eq, kCmp_eq, kCh3_eq, kCh2_eq, kCh1_eq, kAnd_eq, kOr_eq, kNot_eq, kIte_eq, kTup2_eq, kTup_eq, kLst2_eq, kLst_eq, kSub_eq, kS3_eq, kS2_eq, kS1_eq, kCall2_eq, kCall_eq, kBlt_eq, kLc_eq, kO_eq, kTv_eq, kTand_eq, kTor_eq, kTnot_eq, kEs2_eq, kEs1_eq, kIe2_eq, kIe_eq, kR1_eq, kR22_eq, kR21_eq, kA2_eq, kA1_eq, kAsg2_eq, kAsg_eq, kApp2_eq, kApp_eq, kEx_eq, kRet2_eq, kRet_eq, kSi_eq, kFor_eq, kRse2_eq, kRse_eq, evE_var, evE_con, evE_glb, evE_bin, evE_rep, evE_neg, evE_cmp, evE_chain, evE_and, evE_or, evE_not, evE_ite, evE_tup, evE_lst, evE_sub, evE_slc, evE_call, evE_blt, evE_lc, evO_no, evO_some, evTo_no, evTo_some, evT_val, evT_and, evT_or, evT_not, evEs_nil, evEs_cons, evI_e, evI_rng, evI_rng2, evS_asg, evS_app, evS_expr, evS_ret, evS_retN, evS_ite, evS_whl, evS_for, evS_brk, evS_cnt, evS_pass, evS_rse, evSs_nil, evSs_cons, asDs_nil, asDs_cons, sizeLine, turn_next, turn_cnt, turn_brk, turn_ret, turn_exn, test_t, test_f, bind_ok, bind_exn, bind_bad, so_ok, so_exn, so_bad, seq_next, seq_brk, seq_cnt, seq_ret, seq_exn, seq_bad, ofO_some, rofO_some, view_dat, view_lst, view_var, tree_dat, tree_lst, asD_dat, asD_lst, asD_var, get0, getS, set0, setS, getD0, getDS, add_ii, sub_ii, lt_ii, le_ii, gt_ii, ge_ii, eq_ii, ne_ii, len_l, len_t, int_i, int_b, abs_i, min_ii, max_ii, tru_b, neg_i, items_l, items_t, slc_l, slc_t, viewAll, ft_mk, fdiv_ii, mod_ii, mul_ii, and_self, true_and, and_true, or_true, true_or, Option.map_some, rf_next, rf_ret, rf_exn, Int.toNat_natCast, if_true, ite_true, decide_true, decide_false, reduceIte, List.length_cons, List.length_nil, Nat.zero_add, Nat.zero_le, List.map_cons, List.map_nil, Bool.not_true, Bool.not_false, Bool.false_eq_true, Nat.reducePow, Nat.reduceAdd, Nat.reduceLT, Nat.reduceLeDiff, Nat.reduceMul, Int.reduceLT, Int.reduceLE, Int.reduceNeg, Int.reducePow, Int.reduceAdd, Int.reduceSub, Int.reduceMul, Int.reduceToNat, Nat.reduceEqDiff, Int.reduceEq, hs2]
        rfl)
  refine ⟨Γ', ?_, h2⟩
  rw [h1]
  congr 1
  clear h1 h2
  induction ys with
  | nil => rfl
  | cons x r ih =>
    show PyData.int ((x : Int) % (s : Int)) :: (iD r).filterMap _ = nD (x % s) :: iD (r.map (· % s))
    rw [ih]
    unfold nD
    rw [Int.natCast_emod]
end L1
end

section
set_option linter.all false
set_option maxRecDepth 100000
set_option maxHeartbeats 16000000
namespace L1
open PySem Tv PF M1 C07
theorem takeLast : Res (takeLv [2, 1, 3, 2] 0 2 3) (tab sub pr 11 "take_levels" [.list (iD [2, 1, 3, 2]), .int 0, .int 2, .int 3]) := take_levels_ok (sub := sub) h_take_levels h_width_of h_take_number h_unpack 9 [2, 1, 3, 2] 0 2 3 (by decide) (by decide) (by decide) (by decide)
theorem takeLast2 : takeLv [2, 1, 3, 2] 0 2 3 = some ([1, 2], 4) := by
  have w3 : widN 3 = 2 := by
    rw [widN_pos (by decide), show 3 / 2 = 1 from rfl, widN_pos (by decide), show 1 / 2 = 0 from rfl, widN_zero]
  unfold takeLv
  rw [w3]
  rfl
/-- the rows -/
theorem turn_ok (ns : List Int) (most : Nat) (hm : most ≤ 70000) (k : Nat) :
    ∃ xs : List Nat, Row xs most ∧ xs.length ≤ 216 ∧ tab sub pr 11 "_law_row" [.int (cell ns k), .int (most : Int)] = .ok (.dat (.list (iD xs))) := by
  obtain ⟨xs, R, hl, e⟩ := row_ok 9 (cell ns k) most (by omega)
  exact ⟨xs, R, hl, e⟩
theorem law_ok (ns : List Int) (hns : ns.length ≤ 63) : tab sub pr 12 "law" [.list (ns.map PyData.int)] = .ok (.dat (.bool true)) := by
  rw [tab_def (n := 11) h_law rfl]
  unfold c_law
  show rf (evSs _ _ [some (.dat (.list (ns.map PyData.int))), none, none, none, none, none, none, none, none, none, none, none, none, none, none]) = _
  obtain ⟨ft, hft⟩ : ∃ ft, tab sub pr 11 = ft := ⟨_, rfl⟩
  rw [hft]
  -- the number
  obtain ⟨N0, eN, hN⟩ := natAbs_mod (cell ns 0) 34359738368 (by omega)
  have eN : (if cell ns 0 < 0 then -(cell ns 0) else cell ns 0) % 34359738368 = (N0 : Int) := eN
  have c0 : ft "_law_cell" [.list (ns.map PyData.int), .int 0] = .ok (.dat (.int (cell ns 0))) := by
    rw [← hft]
    exact cell_ok 10 ns 0
  have c1 : ft "_law_cell" [.list (ns.map PyData.int), .int 1] = .ok (.dat (.int (cell ns 1))) := by
    rw [← hft]
    exact cell_ok 10 ns 1
  have c2 : ft "_law_cell" [.list (ns.map PyData.int), .int 2] = .ok (.dat (.int (cell ns 2))) := by
    rw [← hft]
    exact cell_ok 10 ns 2
  have c3 : ft "_law_cell" [.list (ns.map PyData.int), .int 3] = .ok (.dat (.int (cell ns 3))) := by
    rw [← hft]
    exact cell_ok 10 ns 3
  have c4 : ft "_law_cell" [.list (ns.map PyData.int), .int 4] = .ok (.dat (.int (cell ns 4))) := by
    rw [← hft]
    exact cell_ok 10 ns 4
  have hPl := putN_shrink N0 hN
  have hPne := putN_ne N0
  have n1 : ft "_law_number" [.int (N0 : Int)] = .ok (.lst (iD (putN N0))) := by
    rw [← hft]
    exact number_ok 10 N0 hN
  have n2 : ft "put_number" [.int (N0 : Int)] = .ok (.dat (.list (iD (putN N0)))) := by
    rw [← hft]
    exact put_number_ok (sub := sub) h_put_number 10 N0 hPl
  have n3 : ft "take_number" [.list (iD ([9] ++ (putN N0 ++ [200, 3]))), .int 1] = .ok (.dat (.tuple [.int (N0 : Int), .int (1 + ((putN N0).length : Int))])) := by
    rw [← hft]
    have q := take_number_ok (sub := sub) h_take_number 10 ([9] ++ (putN N0 ++ [200, 3])) 1
    have q2 := takeN_put [9] [200, 3] hN
    have q2 : takeN ([9] ++ (putN N0 ++ [200, 3])) 1 = some (N0, 1 + (putN N0).length) := q2
    rw [q2] at q
    have e : tab sub pr 11 "take_number" [.list (iD ([9] ++ (putN N0 ++ [200, 3]))), .int 1] = .ok (.dat (.tuple [.int (N0 : Int), .int ((1 + (putN N0).length : Nat) : Int)])) := q
    rw [e]
    congr 5
  have r1 : ft "_law_refused" [.int 0, .list (iD (putN N0).dropLast), .int 0, .int 0] = .ok (.dat (.bool true)) := by
    rw [← hft]
    exact refused_num 9 _ (takeN_cut rfl)
  have r2 : ft "_law_refused" [.int 0, .list [.int 128, .int 0], .int 0, .int 0] = .ok (.dat (.bool true)) := by
    rw [← hft]
    exact refused_num 9 [128, 0] rfl
  have r3 : ft "_law_refused" [.int 0, .list (iD (List.replicate 6 255)), .int 0, .int 0] = .ok (.dat (.bool true)) := by
    rw [← hft]
    exact refused_num 9 _ rfl
  generalize hP : putN N0 = P at *
  have eP : ((iD P).length : Int) = (P.length : Int) := by rw [iD_len]
  have a1 : binD .add (.list [PyData.int 9]) (.list (iD P)) = some (.lst (iD ([9] ++ P))) := app_l (xs := [9]) (by simp; omega)
  have a2 : binD .add (.list (iD ([9] ++ P))) (.list [PyData.int 200, PyData.int 3]) = some (.lst (iD ([9] ++ (P ++ [200, 3])))) := by
    rw [← List.append_assoc]
    exact app_l (ys := [200, 3]) (by simp; omega)
  have s1 := cut_last hPne
  have p6 : repD [PyData.int 255] (.int 6) = some (.lst (iD (List.replicate 6 255))) := rep_nat (v := 255) (k := 6) (by omega)
  -- the word
  obtain ⟨W, eW⟩ : ∃ W : Nat, cell ns 1 % 4294967296 = (W : Int) := ⟨(cell ns 1 % 4294967296).toNat, by omega⟩
  have w1 : ft "_law_word" [.int (cell ns 1)] = .ok (.lst (iD (wN W))) := by
    rw [← hft]
    rw [← wordN_eq eW]
    exact word_ok 10 _
  have w2 : ft "put_word" [.int (cell ns 1)] = .ok (.lst (iD (wN W))) := by
    rw [← hft]
    rw [← wordN_eq eW]
    exact put_word_ok (sub := sub) h_put_word 10 _
  have a3 : binD .add (.list (iD (wN W))) (.list [PyData.int 1]) = some (.lst (iD (wN W ++ [1]))) := app_l (ys := [1]) (by simp [wN])
  have w3 : ft "take_word" [.list (iD (wN W ++ [1])), .int 0] = .ok (.dat (.tuple [.int (W : Int), .int 4])) := by
    rw [← hft]
    have q := take_word_ok (sub := sub) h_take_word 10 (wN W ++ [1]) 0 (W % 256) (W / 256 % 256) (W / 65536 % 256) (W / 16777216) rfl rfl rfl rfl
    have e : W % 256 + 256 * (W / 256 % 256) + 65536 * (W / 65536 % 256) + 16777216 * (W / 16777216) = W := by omega
    rw [e] at q
    exact q
  -- the sign
  generalize hsv : cell ns 1 % 8589934592 - 4294967296 = s
  obtain ⟨fo, f1, f2, f3⟩ := sgn s
  rw [hft] at f2 f3
  have r4 : ft "_law_refused" [.int 3, .list [.int 1, .int 2, .int 3], .int 0, .int 0] = .ok (.dat (.bool true)) := by
    rw [← hft]
    exact refused_word 9 [1, 2, 3] (by decide)
  -- the width
  obtain ⟨w, ew, hw⟩ := natAbs_mod (cell ns 2) 13 (by omega)
  have ew : (if cell ns 2 < 0 then -(cell ns 2) else cell ns 2) % 13 = (w : Int) := ew
  obtain ⟨m, em, hm⟩ := natAbs_mod (cell ns 2) 17 (by omega)
  have em : (if cell ns 2 < 0 then -(cell ns 2) else cell ns 2) % 17 = (m : Int) := em
  have bw : big62 (w : Int) = true := big_nat (by omega)
  simp only [K2_eq, kBin_eq, kRep_eq, kNeg_eq, kBool_eq, kCmp_eq, kCh3_eq, kCh2_eq, kCh1_eq, kAnd_eq, kOr_eq, kNot_eq, kIte_eq, kTup2_eq, kTup_eq, kLst2_eq, kLst_eq, kSub_eq, kS3_eq, kS2_eq, kS1_eq, kCall2_eq, kCall_eq, kBlt_eq, kLc_eq, kO_eq, kTv_eq, kTand_eq, kTor_eq, kTnot_eq, kEs2_eq, kEs1_eq, kIe2_eq, kIe_eq, kR1_eq, kR22_eq, kR21_eq, kA2_eq, kA1_eq, kAsg2_eq, kAsg_eq, kApp2_eq, kApp_eq, kEx_eq, kRet2_eq, kRet_eq, kSi_eq, kFor_eq, kRse2_eq, kRse_eq, evE_var, evE_con, evE_glb, evE_bin, evE_rep, evE_neg, evE_cmp, evE_chain, evE_and, evE_or, evE_not, evE_ite, evE_tup, evE_lst, evE_sub, evE_slc, evE_call, evE_blt, evE_lc, evO_no, evO_some, evTo_no, evTo_some, evT_val, evT_and, evT_or, evT_not, evEs_nil, evEs_cons, evI_e, evI_rng, evI_rng2, evS_asg, evS_app, evS_expr, evS_ret, evS_retN, evS_ite, evS_whl, evS_for, evS_brk, evS_cnt, evS_pass, evS_rse, evSs_nil, evSs_cons, asDs_nil, asDs_cons, sizeLine, turn_next, turn_cnt, turn_brk, turn_ret, turn_exn, test_t, test_f, bind_ok, bind_exn, bind_bad, so_ok, so_exn, so_bad, seq_next, seq_brk, seq_cnt, seq_ret, seq_exn, seq_bad, ofO_some, rofO_some, view_dat, view_lst, view_var, tree_dat, tree_lst, asD_dat, asD_lst, asD_var, get0, getS, set0, setS, getD0, getDS, add_ii, sub_ii, lt_ii, le_ii, gt_ii, ge_ii, eq_ii, ne_ii, len_l, len_t, int_i, int_b, abs_i, min_ii, max_ii, tru_b, neg_i, items_l, items_t, slc_l, slc_t, viewAll, ft_mk, fdiv_ii, mod_ii, mul_ii, and_self, true_and, and_true, or_true, true_or, Option.map_some, rf_next, rf_ret, rf_exn, Int.toNat_natCast, if_true, ite_true, decide_true, decide_false, reduceIte, List.length_cons, List.length_nil, Nat.zero_add, Nat.zero_le, List.map_cons, List.map_nil, Bool.not_true, Bool.not_false, Bool.false_eq_true, Nat.reducePow, Nat.reduceAdd, Nat.reduceLT, Nat.reduceLeDiff, Nat.reduceMul, Int.reduceLT, Int.reduceLE, Int.reduceNeg, Int.reducePow, Int.reduceAdd, Int.reduceSub, Int.reduceMul, Int.reduceToNat, Nat.reduceEqDiff, Int.reduceEq, c0, eN, n1, n2, ne_same (shaped_l P), a1, a2, n3, eP, ne_same (shaped_ii _ _), s1, r1, r2, p6, r3, c1, w1, w2, ne_same (shaped_l (wN W)), a3, w3, eW, hsv, f1, f2, f3, r4, c2, ew, bw, eq_self]
  refine for_gen (Q := fun r => rf (So.seq r _) = _) (P := fun i Γ => ∃ (z : Nat) (o : Option Ow), Γ = [some (.dat (.list (ns.map PyData.int))), some (.dat (.int (N0 : Int))), some (.lst (iD P)), some (.dat (.int (cell ns 1))), some (.dat (.int s)), some (.dat (.int fo)), some (.dat (.int (w : Int))), some (.dat (.int (z : Int))), o, none, none, none, none, none, none] ∧ z = 2 ^ i) (rangeD 0 w) ?_ ?_ _ ⟨1, none, rfl, rfl⟩
  · rintro j d Γ hd ⟨z, o, rfl, e⟩
    obtain ⟨hj, rfl⟩ := range_at hd
    refine ⟨_, rfl, ?_⟩
    simp only [K2_eq, kBin_eq, kRep_eq, kNeg_eq, kBool_eq, kCmp_eq, kCh3_eq, kCh2_eq, kCh1_eq, kAnd_eq, kOr_eq, kNot_eq, kIte_eq, kTup2_eq, kTup_eq, kLst2_eq, kLst_eq, kSub_eq, kS3_eq, kS2_eq, kS1_eq, kCall2_eq, kCall_eq, kBlt_eq, kLc_eq, kO_eq, kTv_eq, kTand_eq, kTor_eq, kTnot_eq, kEs2_eq, kEs1_eq, kIe2_eq, kIe_eq, kR1_eq, kR22_eq, kR21_eq, kA2_eq, kA1_eq, kAsg2_eq, kAsg_eq, kApp2_eq, kApp_eq, kEx_eq, kRet2_eq, kRet_eq, kSi_eq, kFor_eq, kRse2_eq, kRse_eq, evE_var, evE_con, evE_glb, evE_bin, evE_rep, evE_neg, evE_cmp, evE_chain, evE_and, evE_or, evE_not, evE_ite, evE_tup, evE_lst, evE_sub, evE_slc, evE_call, evE_blt, evE_lc, evO_no, evO_some, evTo_no, evTo_some, evT_val, evT_and, evT_or, evT_not, evEs_nil, evEs_cons, evI_e, evI_rng, evI_rng2, evS_asg, evS_app, evS_expr, evS_ret, evS_retN, evS_ite, evS_whl, evS_for, evS_brk, evS_cnt, evS_pass, evS_rse, evSs_nil, evSs_cons, asDs_nil, asDs_cons, sizeLine, turn_next, turn_cnt, turn_brk, turn_ret, turn_exn, test_t, test_f, bind_ok, bind_exn, bind_bad, so_ok, so_exn, so_bad, seq_next, seq_brk, seq_cnt, seq_ret, seq_exn, seq_bad, ofO_some, rofO_some, view_dat, view_lst, view_var, tree_dat, tree_lst, asD_dat, asD_lst, asD_var, get0, getS, set0, setS, getD0, getDS, add_ii, sub_ii, lt_ii, le_ii, gt_ii, ge_ii, eq_ii, ne_ii, len_l, len_t, int_i, int_b, abs_i, min_ii, max_ii, tru_b, neg_i, items_l, items_t, slc_l, slc_t, viewAll, ft_mk, fdiv_ii, mod_ii, mul_ii, and_self, true_and, and_true, or_true, true_or, Option.map_some, rf_next, rf_ret, rf_exn, Int.toNat_natCast, if_true, ite_true, decide_true, decide_false, reduceIte, List.length_cons, List.length_nil, Nat.zero_add, Nat.zero_le, List.map_cons, List.map_nil, Bool.not_true, Bool.not_false, Bool.false_eq_true, Nat.reducePow, Nat.reduceAdd, Nat.reduceLT, Nat.reduceLeDiff, Nat.reduceMul, Int.reduceLT, Int.reduceLE, Int.reduceNeg, Int.reducePow, Int.reduceAdd, Int.reduceSub, Int.reduceMul, Int.reduceToNat, Nat.reduceEqDiff, Int.reduceEq]
    refine ⟨z * 2, some (.dat (.int (j : Int))), ?_, by rw [e, Nat.pow_succ]⟩
    simp only [Int.natCast_mul]
    rfl
  rintro Γ ⟨z, o, rfl, ez⟩
  rw [range_len] at ez
  have hz1 : 0 < z := by rw [ez]; exact Nat.pow_pos (by omega)
  have hz2 : z ≤ 4096 := by
    have : 2 ^ w ≤ 2 ^ 12 := Nat.pow_le_pow_right (by omega) (by omega)
    omega
  -- the numbers
  obtain ⟨ys, hyl, hys, n4⟩ := numbers_ok 10 (cell ns 3) (1 + m) (by omega)
  have e1m : nD (1 + m) = .int (1 + (m : Int)) := by
    unfold nD
    congr 1
  rw [e1m] at n4
  have n4 : ft "_law_numbers" [.int (cell ns 3), .int (1 + (m : Int))] = .ok (.dat (.list (iD ys))) := by
    rw [← hft]
    exact n4
  have hcov : coverable [some (.dat (.list (ns.map PyData.int))), some (.dat (.int (N0 : Int))), some (.lst (iD P)), some (.dat (.int (cell ns 1))), some (.dat (.int s)), some (.dat (.int fo)), some (.dat (.int (w : Int))), some (.dat (.int (z : Int))), o, none, none, none, none, none, none] 14 = true := rfl
  have hyz : (iD ys).length < 16777216 := by rw [iD_len]; omega
  obtain ⟨Γ', hlc, hΓ'⟩ := lc_ok ⟨ft, sub⟩ _ z hz1 ys (some (.dat (.list (ns.map PyData.int)))) (some (.dat (.int (N0 : Int)))) (some (.lst (iD P))) (some (.dat (.int (cell ns 1)))) (some (.dat (.int s))) (some (.dat (.int fo))) (some (.dat (.int (w : Int)))) o rfl
  subst hΓ'
  have hxl : (ys.map (· % z)).length = 1 + m := by rw [List.length_map, hyl]
  have hx : ∀ x ∈ ys.map (· % z), x < 2 ^ w := by
    intro x hx
    obtain ⟨y, _, rfl⟩ := List.mem_map.mp hx
    rw [← ez]
    exact Nat.mod_lt _ hz1
  generalize ys.map (· % z) = xs at *
  have hmw : xs.length * w ≤ 17 * 12 := Nat.mul_le_mul (by omega) (by omega)
  have hK := packN_len xs w
  have hx9 : ∀ x ∈ xs, x < 1000000000 := fun x h => by
    have := hx x h
    rw [← ez] at this
    omega
  have p1 : ft "_law_pack" [.list (iD xs), .int (w : Int)] = .ok (.dat (.list (iD (packN xs w)))) := by
    rw [← hft]
    exact pack2_ok 10 xs w hx (by omega) (by omega)
  have p2 : ft "pack" [.list (iD xs), .int (w : Int)] = .ok (.dat (.list (iD (packN xs w)))) := by
    rw [← hft]
    exact pack_ok (sub := sub) h_pack 10 xs w hx9 (by omega) (by omega) (by omega)
  have q1 : ft "width_of" [.int ((z : Int) - 1)] = .ok (.dat (.int (w : Int))) := by
    rw [← hft]
    have q := width_of_ok (sub := sub) h_width_of 10 (z - 1)
    rw [ez, (widN_pow w).2, ← ez] at q
    unfold nD at q
    rw [show ((z - 1 : Nat) : Int) = (z : Int) - 1 by omega] at q
    exact q
  have q2 : ft "width_of" [.int (z : Int)] = .ok (.dat (.int ((w : Int) + 1))) := by
    rw [← hft]
    have q := width_of_ok (sub := sub) h_width_of 10 z
    rw [ez, (widN_pow w).1, ← ez] at q
    exact q
  have ex : ((iD xs).length : Int) = (xs.length : Int) := by rw [iD_len]
  have ux : ft "unpack" [.list (iD ([7] ++ (packN xs w ++ [1]))), .int 1, .int (xs.length : Int), .int (w : Int)] = .ok (.dat (.tuple [.list (iD xs), .int (1 + ((packN xs w).length : Int))])) := by
    rw [← hft]
    have q := unpack_ok (sub := sub) h_unpack 10 ([7] ++ (packN xs w ++ [1])) 1 xs.length w (by omega) (by omega) (by omega) (by omega)
    have q2 := unpackO_pack (data := [7] ++ (packN xs w ++ [1])) (a := 1) (w := w) (xs := xs) (post := [1]) rfl hx (by simp)
    rw [(unpackR_some q2).1] at q
    have e : tab sub pr 11 "unpack" [.list (iD ([7] ++ (packN xs w ++ [1]))), .int 1, .int (xs.length : Int), .int (w : Int)] = .ok (.dat (.tuple [.list (iD xs), .int ((1 + (packN xs w).length : Nat) : Int)])) := q
    rw [e]
    congr 5
  have rb1 : packN xs w ≠ [] → ft "_law_refused" [.int 2, .list (iD (packN xs w).dropLast), .int (xs.length : Int), .int (w : Int)] = .ok (.dat (.bool true)) := fun hne => by
    rw [← hft]
    exact refused_bits 9 _ xs.length w (by omega) (by omega) (by omega) (unpackO_short (by
      rw [List.length_dropLast, hK]
      have := List.length_pos_iff.mpr hne
      omega))
  have rb2 : packN xs w ≠ [] → 0 < xs.length * w % 8 → ft "_law_refused" [.int 2, .list (iD ((packN xs w).dropLast ++ [255])), .int (xs.length : Int), .int (w : Int)] = .ok (.dat (.bool true)) := fun hne h8 => by
    rw [← hft]
    exact refused_bits 9 _ xs.length w (by omega) (by omega) (by omega) (unpackO_over (by
      rw [List.length_dropLast, hK]
      have := List.length_pos_iff.mpr hne
      omega) h8)
  have hK2 : 0 < xs.length * w % 8 → packN xs w ≠ [] := fun h8 q => by
    rw [q] at hK
    simp at hK
    omega
  have hK3 : (packN xs w).length ≤ 100 := by omega
  have emw : ((xs.length : Int) * (w : Int)) % 8 = ((xs.length * w % 8 : Nat) : Int) := by
    simp only [Int.natCast_emod, Int.natCast_mul]
    rfl
  have k1 : (-18446744073709551616 : Int) < (xs.length : Int) := by omega
  have k2 : (xs.length : Int) < 18446744073709551616 := by omega
  generalize hPK : packN xs w = PK at *
  have ePK : ((iD PK).length : Int) = (PK.length : Int) := by rw [iD_len]
  have a4 : binD .add (.list [PyData.int 7]) (.list (iD PK)) = some (.lst (iD ([7] ++ PK))) := app_l (xs := [7]) (by simp; omega)
  have a5 : binD .add (.list (iD ([7] ++ PK))) (.list [PyData.int 1]) = some (.lst (iD ([7] ++ (PK ++ [1])))) := by
    rw [← List.append_assoc]
    exact app_l (ys := [1]) (by simp; omega)
  have a6 : binD .add (.list (iD PK.dropLast)) (.list [PyData.int 255]) = some (.lst (iD (PK.dropLast ++ [255]))) := app_l (ys := [255]) (by simp; omega)
  -- the greatest level
  obtain ⟨v7, e7, h7⟩ := natAbs_mod (cell ns 4) 7 (by omega)
  have e7 : (if cell ns 4 < 0 then -(cell ns 4) else cell ns 4) % 7 = (v7 : Int) := e7
  obtain ⟨most, hmost, smost⟩ := mosts_ok v7 h7
  have els : ((ns.map PyData.int).length : Int) = (ns.length : Int) := by rw [List.length_map]
  obtain ⟨top, htop⟩ : ∃ top : Nat, (if (10 : Int) < (ns.length : Int) then (10 : Int) else (ns.length : Int)) = (top : Int) ∧ top ≤ 63 := by
    by_cases hc : (10 : Int) < (ns.length : Int)
    · exact ⟨10, by rw [if_pos hc]; rfl, by omega⟩
    · exact ⟨ns.length, by rw [if_neg hc], hns⟩
  obtain ⟨htop, htop2⟩ := htop
  have b5 : (big62 5 && big62 (top : Int)) = true := by rw [big_ok (by omega), big_nat (by omega)]; rfl
  -- the rest of the run, from the rows on
  have rest : ∀ (o8 : Option Ow), rf (evSs ⟨ft, sub⟩ (.cons (.for_ (.one 8) (.rng2 (.con (.int 5)) (.blt .min (.cons (.blt .len (.cons (.var 0) .nil)) (.cons (.con (.int 10)) .nil)))) (.cons (.asg (.one 12) (.call "_law_row" (.cons (.call "_law_cell" (.cons (.var 0) (.cons (.var 8) .nil))) (.cons (.var 11) .nil)))) (.cons (.asg (.one 13) (.call "_law_levels" (.cons (.var 12) (.cons (.var 11) .nil)))) (.cons (.ite (.or_ (.val (.cmp .ne (.call "put_levels" (.cons (.var 12) (.cons (.var 11) .nil))) (.var 13))) (.val (.cmp .ne (.call "take_levels" (.cons (.bin .add (.bin .add (.lst (.cons (.con (.int 3)) .nil)) (.var 13)) (.lst (.cons (.con (.int 77)) .nil))) (.cons (.con (.int 1)) (.cons (.blt .len (.cons (.var 12) .nil)) (.cons (.var 11) .nil))))) (.tup (.cons (.var 12) (.cons (.bin .add (.con (.int 1)) (.blt .len (.cons (.var 13) .nil))) .nil)))))) (.cons (.ret (.con (.bool false))) .nil) .nil) (.cons (.ite (.and_ (.val (.cmp .gt (.blt .len (.cons (.var 13) .nil)) (.con (.int 0)))) (.not_ (.val (.call "_law_refused" (.cons (.con (.int 1)) (.cons (.slc (.var 13) .no (.some (.bin .sub (.blt .len (.cons (.var 13) .nil)) (.con (.int 1))))) (.cons (.blt .len (.cons (.var 12) .nil)) (.cons (.var 11) .nil)))))))) (.cons (.ret (.con (.bool false))) .nil) .nil) (.cons (.ite (.and_ (.val (.cmp .gt (.var 11) (.con (.int 0)))) (.and_ (.not_ (.val (.call "_law_refused" (.cons (.con (.int 1)) (.cons (.bin .add (.call "_law_number" (.cons (.bin .add (.bin .mul (.con (.int 2)) (.blt .len (.cons (.var 12) .nil))) (.con (.int 2))) .nil)) (.lst (.cons (.con (.int 0)) .nil))) (.cons (.blt .len (.cons (.var 12) .nil)) (.cons (.var 11) .nil))))))) (.val (.cmp .gt (.blt .len (.cons (.var 12) .nil)) (.con (.int 0)))))) (.cons (.ret (.con (.bool false))) .nil) .nil) .nil)))))) (.cons (.ret (.cmp .eq (.call "take_levels" (.cons (.lst (.cons (.con (.int 2)) (.cons (.con (.int 1)) (.cons (.con (.int 3)) (.cons (.con (.int 2)) .nil))))) (.cons (.con (.int 0)) (.cons (.con (.int 2)) (.cons (.con (.int 3)) .nil))))) (.tup (.cons (.lst (.cons (.con (.int 1)) (.cons (.con (.int 2)) .nil))) (.cons (.con (.int 4)) .nil))))) .nil))
      [some (.dat (.list (ns.map PyData.int))), some (.dat (.int (N0 : Int))), some (.lst (iD P)), some (.dat (.int (cell ns 1))), some (.dat (.int s)), some (.dat (.int fo)), some (.dat (.int (w : Int))), some (.dat (.int (z : Int))), o8, some (.dat (.list (iD xs))), some (.dat (.list (iD PK))), some (.dat (.int (most : Int))), none, none, none]) = .ok (.dat (.bool true)) := by
    intro o8
    have tl := takeLast
    rw [takeLast2] at tl
    have tl : ft "take_levels" [.list [.int 2, .int 1, .int 3, .int 2], .int 0, .int 2, .int 3] = .ok (.dat (.tuple [.list [.int 1, .int 2], .int 4])) := by
      rw [← hft]
      exact tl
    have esh : cmpD .eq (.tuple [.list [PyData.int 1, .int 2], .int 4]) (.tuple [.list [PyData.int 1, .int 2], .int 4]) = some true := eq_same (shaped_li [1, 2] 4)
    simp only [K2_eq, kBin_eq, kRep_eq, kNeg_eq, kBool_eq, kCmp_eq, kCh3_eq, kCh2_eq, kCh1_eq, kAnd_eq, kOr_eq, kNot_eq, kIte_eq, kTup2_eq, kTup_eq, kLst2_eq, kLst_eq, kSub_eq, kS3_eq, kS2_eq, kS1_eq, kCall2_eq, kCall_eq, kBlt_eq, kLc_eq, kO_eq, kTv_eq, kTand_eq, kTor_eq, kTnot_eq, kEs2_eq, kEs1_eq, kIe2_eq, kIe_eq, kR1_eq, kR22_eq, kR21_eq, kA2_eq, kA1_eq, kAsg2_eq, kAsg_eq, kApp2_eq, kApp_eq, kEx_eq, kRet2_eq, kRet_eq, kSi_eq, kFor_eq, kRse2_eq, kRse_eq, evE_var, evE_con, evE_glb, evE_bin, evE_rep, evE_neg, evE_cmp, evE_chain, evE_and, evE_or, evE_not, evE_ite, evE_tup, evE_lst, evE_sub, evE_slc, evE_call, evE_blt, evE_lc, evO_no, evO_some, evTo_no, evTo_some, evT_val, evT_and, evT_or, evT_not, evEs_nil, evEs_cons, evI_e, evI_rng, evI_rng2, evS_asg, evS_app, evS_expr, evS_ret, evS_retN, evS_ite, evS_whl, evS_for, evS_brk, evS_cnt, evS_pass, evS_rse, evSs_nil, evSs_cons, asDs_nil, asDs_cons, sizeLine, turn_next, turn_cnt, turn_brk, turn_ret, turn_exn, test_t, test_f, bind_ok, bind_exn, bind_bad, so_ok, so_exn, so_bad, seq_next, seq_brk, seq_cnt, seq_ret, seq_exn, seq_bad, ofO_some, rofO_some, view_dat, view_lst, view_var, tree_dat, tree_lst, asD_dat, asD_lst, asD_var, get0, getS, set0, setS, getD0, getDS, add_ii, sub_ii, lt_ii, le_ii, gt_ii, ge_ii, eq_ii, ne_ii, len_l, len_t, int_i, int_b, abs_i, min_ii, max_ii, tru_b, neg_i, items_l, items_t, slc_l, slc_t, viewAll, ft_mk, fdiv_ii, mod_ii, mul_ii, and_self, true_and, and_true, or_true, true_or, Option.map_some, rf_next, rf_ret, rf_exn, Int.toNat_natCast, if_true, ite_true, decide_true, decide_false, reduceIte, List.length_cons, List.length_nil, Nat.zero_add, Nat.zero_le, List.map_cons, List.map_nil, Bool.not_true, Bool.not_false, Bool.false_eq_true, Nat.reducePow, Nat.reduceAdd, Nat.reduceLT, Nat.reduceLeDiff, Nat.reduceMul, Int.reduceLT, Int.reduceLE, Int.reduceNeg, Int.reducePow, Int.reduceAdd, Int.reduceSub, Int.reduceMul, Int.reduceToNat, Nat.reduceEqDiff, Int.reduceEq, els, htop, b5]
    refine for_gen (Q := fun r => rf (So.seq r _) = _) (P := fun i Γ => ∃ (o8 o12 o13 : Option Ow), Γ = [some (.dat (.list (ns.map PyData.int))), some (.dat (.int (N0 : Int))), some (.lst (iD P)), some (.dat (.int (cell ns 1))), some (.dat (.int s)), some (.dat (.int fo)), some (.dat (.int (w : Int))), some (.dat (.int (z : Int))), o8, some (.dat (.list (iD xs))), some (.dat (.list (iD PK))), some (.dat (.int (most : Int))), o12, o13, none]) (rangeD 5 ((top : Int) - 5).toNat) ?_ ?_ _ ⟨o8, none, none, rfl⟩
    · rintro i d Γ hd ⟨o8, o12, o13, rfl⟩
      obtain ⟨hi, rfl⟩ := range2_at hd
      refine ⟨_, rfl, ?_⟩
      have ec : ft "_law_cell" [.list (ns.map PyData.int), .int (5 + (i : Int))] = .ok (.dat (.int (cell ns (5 + i)))) := by
        rw [← hft]
        have q := cell_ok 10 ns (5 + i)
        unfold nD at q
        rw [show ((5 + i : Nat) : Int) = 5 + (i : Int) by omega] at q
        exact q
      obtain ⟨rw_, R, hrl, er⟩ := turn_ok ns most hmost (5 + i)
      rw [hft] at er
      have l1 : ft "_law_levels" [.list (iD rw_), .int (most : Int)] = .ok (.dat (.list (iD (levN rw_ most)))) := by
        rw [← hft]
        exact levels2_ok 8 rw_ most R
      have l2 : ft "put_levels" [.list (iD rw_), .int (most : Int)] = .ok (.dat (.list (iD (levN rw_ most)))) := by
        rw [← hft]
        exact put_levels_ok (sub := sub) h_put_levels h_width_of h_run_length h_piece_length h_put_number h_pack 8 rw_ most R
      have hll : (levN rw_ most).length ≤ 200 * rw_.length := by
        unfold levN
        split
        · simp
        · exact levF_len _ (widN_le 29 most R.most) _ _ R.len fun x hx => Nat.lt_of_le_of_lt (R.le x hx) R.most
      have l3 : ft "take_levels" [.list (iD ([3] ++ (levN rw_ most ++ [77]))), .int 1, .int (rw_.length : Int), .int (most : Int)] = .ok (.dat (.tuple [.list (iD rw_), .int (1 + ((levN rw_ most).length : Int))])) := by
        rw [← hft]
        have q := take_levels_ok (sub := sub) h_take_levels h_width_of h_take_number h_unpack 9 ([3] ++ (levN rw_ most ++ [77])) 1 rw_.length most (by simp; omega) (by simp) (by omega) R.most
        have q2 : takeLv ([3] ++ (levN rw_ most ++ [77])) 1 rw_.length most = some (rw_, 1 + (levN rw_ most).length) := takeLv_lev (pre := [3]) R
        rw [q2] at q
        have e : tab sub pr 11 "take_levels" [.list (iD ([3] ++ (levN rw_ most ++ [77]))), .int 1, .int (rw_.length : Int), .int (most : Int)] = .ok (.dat (.tuple [.list (iD rw_), .int ((1 + (levN rw_ most).length : Nat) : Int)])) := q
        rw [e]
        congr 5
      have l4 : levN rw_ most ≠ [] → ft "_law_refused" [.int 1, .list (iD (levN rw_ most).dropLast), .int (rw_.length : Int), .int (most : Int)] = .ok (.dat (.bool true)) := fun hne => by
        rw [← hft]
        have q := refused_lev 8 (levN rw_ most).dropLast rw_.length most (by rw [List.length_dropLast]; omega) (by omega) R.most
        rw [takeLv_cut R hne] at q
        exact q
      have l5 : ft "_law_number" [.int (2 * (rw_.length : Int) + 2)] = .ok (.lst (iD (putN (2 * rw_.length + 2)))) := by
        rw [← hft]
        have q := number_ok 10 (2 * rw_.length + 2) (by omega)
        unfold nD at q
        rw [show ((2 * rw_.length + 2 : Nat) : Int) = 2 * (rw_.length : Int) + 2 by omega] at q
        exact q
      have hpl := putN_shrink (2 * rw_.length + 2) (by omega)
      have a9 : binD .add (.list (iD (putN (2 * rw_.length + 2)))) (.list [PyData.int 0]) = some (.lst (iD (putN (2 * rw_.length + 2) ++ [0]))) := app_l (ys := [0]) (by simp; omega)
      have l6 := refused_lev 8 (putN (2 * rw_.length + 2) ++ [0]) rw_.length most (by simp; omega) (by omega) R.most
      have l6 : ft "_law_refused" [.int 1, .list (iD (putN (2 * rw_.length + 2) ++ [0])), .int (rw_.length : Int), .int (most : Int)] = .ok (.dat (.bool (takeLv (putN (2 * rw_.length + 2) ++ [0]) 0 rw_.length most).isNone)) := by
        rw [← hft]
        exact l6
      have hlong : 0 < rw_.length → most ≠ 0 → (takeLv (putN (2 * rw_.length + 2) ++ [0]) 0 rw_.length most).isNone = true := fun h1 h2 => by rw [takeLv_long h1 (by omega) h2]; rfl
      generalize (takeLv (putN (2 * rw_.length + 2) ++ [0]) 0 rw_.length most).isNone = isn at *
      have erw : ((iD rw_).length : Int) = (rw_.length : Int) := by rw [iD_len]
      generalize hLV : levN rw_ most = LV at *
      have eLV : ((iD LV).length : Int) = (LV.length : Int) := by rw [iD_len]
      have a7 : binD .add (.list [PyData.int 3]) (.list (iD LV)) = some (.lst (iD ([3] ++ LV))) := app_l (xs := [3]) (by simp; omega)
      have a8 : binD .add (.list (iD ([3] ++ LV))) (.list [PyData.int 77]) = some (.lst (iD ([3] ++ (LV ++ [77])))) := by
        rw [← List.append_assoc]
        exact app_l (ys := [77]) (by simp; omega)
      have F1 := ne_same (shaped_l LV)
      have F2 := ne_same (shaped_li rw_ (1 + (LV.length : Int)))
      by_cases hne : LV = []
      · have z1 : ¬ (0 : Int) < (LV.length : Int) := by rw [hne]; simp
        by_cases hm0 : (0 : Int) < (most : Int)
        · by_cases hr0 : (0 : Int) < (rw_.length : Int)
          · have hi2 := hlong (by omega) (by omega)
            simp only [K2_eq, kBin_eq, kRep_eq, kNeg_eq, kBool_eq, kCmp_eq, kCh3_eq, kCh2_eq, kCh1_eq, kAnd_eq, kOr_eq, kNot_eq, kIte_eq, kTup2_eq, kTup_eq, kLst2_eq, kLst_eq, kSub_eq, kS3_eq, kS2_eq, kS1_eq, kCall2_eq, kCall_eq, kBlt_eq, kLc_eq, kO_eq, kTv_eq, kTand_eq, kTor_eq, kTnot_eq, kEs2_eq, kEs1_eq, kIe2_eq, kIe_eq, kR1_eq, kR22_eq, kR21_eq, kA2_eq, kA1_eq, kAsg2_eq, kAsg_eq, kApp2_eq, kApp_eq, kEx_eq, kRet2_eq, kRet_eq, kSi_eq, kFor_eq, kRse2_eq, kRse_eq, evE_var, evE_con, evE_glb, evE_bin, evE_rep, evE_neg, evE_cmp, evE_chain, evE_and, evE_or, evE_not, evE_ite, evE_tup, evE_lst, evE_sub, evE_slc, evE_call, evE_blt, evE_lc, evO_no, evO_some, evTo_no, evTo_some, evT_val, evT_and, evT_or, evT_not, evEs_nil, evEs_cons, evI_e, evI_rng, evI_rng2, evS_asg, evS_app, evS_expr, evS_ret, evS_retN, evS_ite, evS_whl, evS_for, evS_brk, evS_cnt, evS_pass, evS_rse, evSs_nil, evSs_cons, asDs_nil, asDs_cons, sizeLine, turn_next, turn_cnt, turn_brk, turn_ret, turn_exn, test_t, test_f, bind_ok, bind_exn, bind_bad, so_ok, so_exn, so_bad, seq_next, seq_brk, seq_cnt, seq_ret, seq_exn, seq_bad, ofO_some, rofO_some, view_dat, view_lst, view_var, tree_dat, tree_lst, asD_dat, asD_lst, asD_var, get0, getS, set0, setS, getD0, getDS, add_ii, sub_ii, lt_ii, le_ii, gt_ii, ge_ii, eq_ii, ne_ii, len_l, len_t, int_i, int_b, abs_i, min_ii, max_ii, tru_b, neg_i, items_l, items_t, slc_l, slc_t, viewAll, ft_mk, fdiv_ii, mod_ii, mul_ii, and_self, true_and, and_true, or_true, true_or, Option.map_some, rf_next, rf_ret, rf_exn, Int.toNat_natCast, if_true, ite_true, decide_true, decide_false, reduceIte, List.length_cons, List.length_nil, Nat.zero_add, Nat.zero_le, List.map_cons, List.map_nil, Bool.not_true, Bool.not_false, Bool.false_eq_true, Nat.reducePow, Nat.reduceAdd, Nat.reduceLT, Nat.reduceLeDiff, Nat.reduceMul, Int.reduceLT, Int.reduceLE, Int.reduceNeg, Int.reducePow, Int.reduceAdd, Int.reduceSub, Int.reduceMul, Int.reduceToNat, Nat.reduceEqDiff, Int.reduceEq, ec, er, l1, l2, F1, a7, a8, l3, erw, eLV, F2, z1, hm0, l5, a9, l6, hi2]
            exact ⟨_, _, _, rfl⟩
          · cases isn with
            | true =>
              simp only [K2_eq, kBin_eq, kRep_eq, kNeg_eq, kBool_eq, kCmp_eq, kCh3_eq, kCh2_eq, kCh1_eq, kAnd_eq, kOr_eq, kNot_eq, kIte_eq, kTup2_eq, kTup_eq, kLst2_eq, kLst_eq, kSub_eq, kS3_eq, kS2_eq, kS1_eq, kCall2_eq, kCall_eq, kBlt_eq, kLc_eq, kO_eq, kTv_eq, kTand_eq, kTor_eq, kTnot_eq, kEs2_eq, kEs1_eq, kIe2_eq, kIe_eq, kR1_eq, kR22_eq, kR21_eq, kA2_eq, kA1_eq, kAsg2_eq, kAsg_eq, kApp2_eq, kApp_eq, kEx_eq, kRet2_eq, kRet_eq, kSi_eq, kFor_eq, kRse2_eq, kRse_eq, evE_var, evE_con, evE_glb, evE_bin, evE_rep, evE_neg, evE_cmp, evE_chain, evE_and, evE_or, evE_not, evE_ite, evE_tup, evE_lst, evE_sub, evE_slc, evE_call, evE_blt, evE_lc, evO_no, evO_some, evTo_no, evTo_some, evT_val, evT_and, evT_or, evT_not, evEs_nil, evEs_cons, evI_e, evI_rng, evI_rng2, evS_asg, evS_app, evS_expr, evS_ret, evS_retN, evS_ite, evS_whl, evS_for, evS_brk, evS_cnt, evS_pass, evS_rse, evSs_nil, evSs_cons, asDs_nil, asDs_cons, sizeLine, turn_next, turn_cnt, turn_brk, turn_ret, turn_exn, test_t, test_f, bind_ok, bind_exn, bind_bad, so_ok, so_exn, so_bad, seq_next, seq_brk, seq_cnt, seq_ret, seq_exn, seq_bad, ofO_some, rofO_some, view_dat, view_lst, view_var, tree_dat, tree_lst, asD_dat, asD_lst, asD_var, get0, getS, set0, setS, getD0, getDS, add_ii, sub_ii, lt_ii, le_ii, gt_ii, ge_ii, eq_ii, ne_ii, len_l, len_t, int_i, int_b, abs_i, min_ii, max_ii, tru_b, neg_i, items_l, items_t, slc_l, slc_t, viewAll, ft_mk, fdiv_ii, mod_ii, mul_ii, and_self, true_and, and_true, or_true, true_or, Option.map_some, rf_next, rf_ret, rf_exn, Int.toNat_natCast, if_true, ite_true, decide_true, decide_false, reduceIte, List.length_cons, List.length_nil, Nat.zero_add, Nat.zero_le, List.map_cons, List.map_nil, Bool.not_true, Bool.not_false, Bool.false_eq_true, Nat.reducePow, Nat.reduceAdd, Nat.reduceLT, Nat.reduceLeDiff, Nat.reduceMul, Int.reduceLT, Int.reduceLE, Int.reduceNeg, Int.reducePow, Int.reduceAdd, Int.reduceSub, Int.reduceMul, Int.reduceToNat, Nat.reduceEqDiff, Int.reduceEq, ec, er, l1, l2, F1, a7, a8, l3, erw, eLV, F2, z1, hm0, l5, a9, l6]
              exact ⟨_, _, _, rfl⟩
            | false =>
              simp only [K2_eq, kBin_eq, kRep_eq, kNeg_eq, kBool_eq, kCmp_eq, kCh3_eq, kCh2_eq, kCh1_eq, kAnd_eq, kOr_eq, kNot_eq, kIte_eq, kTup2_eq, kTup_eq, kLst2_eq, kLst_eq, kSub_eq, kS3_eq, kS2_eq, kS1_eq, kCall2_eq, kCall_eq, kBlt_eq, kLc_eq, kO_eq, kTv_eq, kTand_eq, kTor_eq, kTnot_eq, kEs2_eq, kEs1_eq, kIe2_eq, kIe_eq, kR1_eq, kR22_eq, kR21_eq, kA2_eq, kA1_eq, kAsg2_eq, kAsg_eq, kApp2_eq, kApp_eq, kEx_eq, kRet2_eq, kRet_eq, kSi_eq, kFor_eq, kRse2_eq, kRse_eq, evE_var, evE_con, evE_glb, evE_bin, evE_rep, evE_neg, evE_cmp, evE_chain, evE_and, evE_or, evE_not, evE_ite, evE_tup, evE_lst, evE_sub, evE_slc, evE_call, evE_blt, evE_lc, evO_no, evO_some, evTo_no, evTo_some, evT_val, evT_and, evT_or, evT_not, evEs_nil, evEs_cons, evI_e, evI_rng, evI_rng2, evS_asg, evS_app, evS_expr, evS_ret, evS_retN, evS_ite, evS_whl, evS_for, evS_brk, evS_cnt, evS_pass, evS_rse, evSs_nil, evSs_cons, asDs_nil, asDs_cons, sizeLine, turn_next, turn_cnt, turn_brk, turn_ret, turn_exn, test_t, test_f, bind_ok, bind_exn, bind_bad, so_ok, so_exn, so_bad, seq_next, seq_brk, seq_cnt, seq_ret, seq_exn, seq_bad, ofO_some, rofO_some, view_dat, view_lst, view_var, tree_dat, tree_lst, asD_dat, asD_lst, asD_var, get0, getS, set0, setS, getD0, getDS, add_ii, sub_ii, lt_ii, le_ii, gt_ii, ge_ii, eq_ii, ne_ii, len_l, len_t, int_i, int_b, abs_i, min_ii, max_ii, tru_b, neg_i, items_l, items_t, slc_l, slc_t, viewAll, ft_mk, fdiv_ii, mod_ii, mul_ii, and_self, true_and, and_true, or_true, true_or, Option.map_some, rf_next, rf_ret, rf_exn, Int.toNat_natCast, if_true, ite_true, decide_true, decide_false, reduceIte, List.length_cons, List.length_nil, Nat.zero_add, Nat.zero_le, List.map_cons, List.map_nil, Bool.not_true, Bool.not_false, Bool.false_eq_true, Nat.reducePow, Nat.reduceAdd, Nat.reduceLT, Nat.reduceLeDiff, Nat.reduceMul, Int.reduceLT, Int.reduceLE, Int.reduceNeg, Int.reducePow, Int.reduceAdd, Int.reduceSub, Int.reduceMul, Int.reduceToNat, Nat.reduceEqDiff, Int.reduceEq, ec, er, l1, l2, F1, a7, a8, l3, erw, eLV, F2, z1, hm0, l5, a9, l6, hr0]
              exact ⟨_, _, _, rfl⟩
        · simp only [K2_eq, kBin_eq, kRep_eq, kNeg_eq, kBool_eq, kCmp_eq, kCh3_eq, kCh2_eq, kCh1_eq, kAnd_eq, kOr_eq, kNot_eq, kIte_eq, kTup2_eq, kTup_eq, kLst2_eq, kLst_eq, kSub_eq, kS3_eq, kS2_eq, kS1_eq, kCall2_eq, kCall_eq, kBlt_eq, kLc_eq, kO_eq, kTv_eq, kTand_eq, kTor_eq, kTnot_eq, kEs2_eq, kEs1_eq, kIe2_eq, kIe_eq, kR1_eq, kR22_eq, kR21_eq, kA2_eq, kA1_eq, kAsg2_eq, kAsg_eq, kApp2_eq, kApp_eq, kEx_eq, kRet2_eq, kRet_eq, kSi_eq, kFor_eq, kRse2_eq, kRse_eq, evE_var, evE_con, evE_glb, evE_bin, evE_rep, evE_neg, evE_cmp, evE_chain, evE_and, evE_or, evE_not, evE_ite, evE_tup, evE_lst, evE_sub, evE_slc, evE_call, evE_blt, evE_lc, evO_no, evO_some, evTo_no, evTo_some, evT_val, evT_and, evT_or, evT_not, evEs_nil, evEs_cons, evI_e, evI_rng, evI_rng2, evS_asg, evS_app, evS_expr, evS_ret, evS_retN, evS_ite, evS_whl, evS_for, evS_brk, evS_cnt, evS_pass, evS_rse, evSs_nil, evSs_cons, asDs_nil, asDs_cons, sizeLine, turn_next, turn_cnt, turn_brk, turn_ret, turn_exn, test_t, test_f, bind_ok, bind_exn, bind_bad, so_ok, so_exn, so_bad, seq_next, seq_brk, seq_cnt, seq_ret, seq_exn, seq_bad, ofO_some, rofO_some, view_dat, view_lst, view_var, tree_dat, tree_lst, asD_dat, asD_lst, asD_var, get0, getS, set0, setS, getD0, getDS, add_ii, sub_ii, lt_ii, le_ii, gt_ii, ge_ii, eq_ii, ne_ii, len_l, len_t, int_i, int_b, abs_i, min_ii, max_ii, tru_b, neg_i, items_l, items_t, slc_l, slc_t, viewAll, ft_mk, fdiv_ii, mod_ii, mul_ii, and_self, true_and, and_true, or_true, true_or, Option.map_some, rf_next, rf_ret, rf_exn, Int.toNat_natCast, if_true, ite_true, decide_true, decide_false, reduceIte, List.length_cons, List.length_nil, Nat.zero_add, Nat.zero_le, List.map_cons, List.map_nil, Bool.not_true, Bool.not_false, Bool.false_eq_true, Nat.reducePow, Nat.reduceAdd, Nat.reduceLT, Nat.reduceLeDiff, Nat.reduceMul, Int.reduceLT, Int.reduceLE, Int.reduceNeg, Int.reducePow, Int.reduceAdd, Int.reduceSub, Int.reduceMul, Int.reduceToNat, Nat.reduceEqDiff, Int.reduceEq, ec, er, l1, l2, F1, a7, a8, l3, erw, eLV, F2, z1, hm0]
          exact ⟨_, _, _, rfl⟩
      · have z1 : (0 : Int) < (LV.length : Int) := by
          have := List.length_pos_iff.mpr hne
          omega
        have l4 := l4 hne
        have s4 := cut_last hne
        by_cases hm0 : (0 : Int) < (most : Int)
        · by_cases hr0 : (0 : Int) < (rw_.length : Int)
          · have hi2 := hlong (by omega) (by omega)
            simp only [K2_eq, kBin_eq, kRep_eq, kNeg_eq, kBool_eq, kCmp_eq, kCh3_eq, kCh2_eq, kCh1_eq, kAnd_eq, kOr_eq, kNot_eq, kIte_eq, kTup2_eq, kTup_eq, kLst2_eq, kLst_eq, kSub_eq, kS3_eq, kS2_eq, kS1_eq, kCall2_eq, kCall_eq, kBlt_eq, kLc_eq, kO_eq, kTv_eq, kTand_eq, kTor_eq, kTnot_eq, kEs2_eq, kEs1_eq, kIe2_eq, kIe_eq, kR1_eq, kR22_eq, kR21_eq, kA2_eq, kA1_eq, kAsg2_eq, kAsg_eq, kApp2_eq, kApp_eq, kEx_eq, kRet2_eq, kRet_eq, kSi_eq, kFor_eq, kRse2_eq, kRse_eq, evE_var, evE_con, evE_glb, evE_bin, evE_rep, evE_neg, evE_cmp, evE_chain, evE_and, evE_or, evE_not, evE_ite, evE_tup, evE_lst, evE_sub, evE_slc, evE_call, evE_blt, evE_lc, evO_no, evO_some, evTo_no, evTo_some, evT_val, evT_and, evT_or, evT_not, evEs_nil, evEs_cons, evI_e, evI_rng, evI_rng2, evS_asg, evS_app, evS_expr, evS_ret, evS_retN, evS_ite, evS_whl, evS_for, evS_brk, evS_cnt, evS_pass, evS_rse, evSs_nil, evSs_cons, asDs_nil, asDs_cons, sizeLine, turn_next, turn_cnt, turn_brk, turn_ret, turn_exn, test_t, test_f, bind_ok, bind_exn, bind_bad, so_ok, so_exn, so_bad, seq_next, seq_brk, seq_cnt, seq_ret, seq_exn, seq_bad, ofO_some, rofO_some, view_dat, view_lst, view_var, tree_dat, tree_lst, asD_dat, asD_lst, asD_var, get0, getS, set0, setS, getD0, getDS, add_ii, sub_ii, lt_ii, le_ii, gt_ii, ge_ii, eq_ii, ne_ii, len_l, len_t, int_i, int_b, abs_i, min_ii, max_ii, tru_b, neg_i, items_l, items_t, slc_l, slc_t, viewAll, ft_mk, fdiv_ii, mod_ii, mul_ii, and_self, true_and, and_true, or_true, true_or, Option.map_some, rf_next, rf_ret, rf_exn, Int.toNat_natCast, if_true, ite_true, decide_true, decide_false, reduceIte, List.length_cons, List.length_nil, Nat.zero_add, Nat.zero_le, List.map_cons, List.map_nil, Bool.not_true, Bool.not_false, Bool.false_eq_true, Nat.reducePow, Nat.reduceAdd, Nat.reduceLT, Nat.reduceLeDiff, Nat.reduceMul, Int.reduceLT, Int.reduceLE, Int.reduceNeg, Int.reducePow, Int.reduceAdd, Int.reduceSub, Int.reduceMul, Int.reduceToNat, Nat.reduceEqDiff, Int.reduceEq, ec, er, l1, l2, F1, a7, a8, l3, erw, eLV, F2, z1, s4, l4, hm0, l5, a9, l6, hi2]
            exact ⟨_, _, _, rfl⟩
          · cases isn with
            | true =>
              simp only [K2_eq, kBin_eq, kRep_eq, kNeg_eq, kBool_eq, kCmp_eq, kCh3_eq, kCh2_eq, kCh1_eq, kAnd_eq, kOr_eq, kNot_eq, kIte_eq, kTup2_eq, kTup_eq, kLst2_eq, kLst_eq, kSub_eq, kS3_eq, kS2_eq, kS1_eq, kCall2_eq, kCall_eq, kBlt_eq, kLc_eq, kO_eq, kTv_eq, kTand_eq, kTor_eq, kTnot_eq, kEs2_eq, kEs1_eq, kIe2_eq, kIe_eq, kR1_eq, kR22_eq, kR21_eq, kA2_eq, kA1_eq, kAsg2_eq, kAsg_eq, kApp2_eq, kApp_eq, kEx_eq, kRet2_eq, kRet_eq, kSi_eq, kFor_eq, kRse2_eq, kRse_eq, evE_var, evE_con, evE_glb, evE_bin, evE_rep, evE_neg, evE_cmp, evE_chain, evE_and, evE_or, evE_not, evE_ite, evE_tup, evE_lst, evE_sub, evE_slc, evE_call, evE_blt, evE_lc, evO_no, evO_some, evTo_no, evTo_some, evT_val, evT_and, evT_or, evT_not, evEs_nil, evEs_cons, evI_e, evI_rng, evI_rng2, evS_asg, evS_app, evS_expr, evS_ret, evS_retN, evS_ite, evS_whl, evS_for, evS_brk, evS_cnt, evS_pass, evS_rse, evSs_nil, evSs_cons, asDs_nil, asDs_cons, sizeLine, turn_next, turn_cnt, turn_brk, turn_ret, turn_exn, test_t, test_f, bind_ok, bind_exn, bind_bad, so_ok, so_exn, so_bad, seq_next, seq_brk, seq_cnt, seq_ret, seq_exn, seq_bad, ofO_some, rofO_some, view_dat, view_lst, view_var, tree_dat, tree_lst, asD_dat, asD_lst, asD_var, get0, getS, set0, setS, getD0, getDS, add_ii, sub_ii, lt_ii, le_ii, gt_ii, ge_ii, eq_ii, ne_ii, len_l, len_t, int_i, int_b, abs_i, min_ii, max_ii, tru_b, neg_i, items_l, items_t, slc_l, slc_t, viewAll, ft_mk, fdiv_ii, mod_ii, mul_ii, and_self, true_and, and_true, or_true, true_or, Option.map_some, rf_next, rf_ret, rf_exn, Int.toNat_natCast, if_true, ite_true, decide_true, decide_false, reduceIte, List.length_cons, List.length_nil, Nat.zero_add, Nat.zero_le, List.map_cons, List.map_nil, Bool.not_true, Bool.not_false, Bool.false_eq_true, Nat.reducePow, Nat.reduceAdd, Nat.reduceLT, Nat.reduceLeDiff, Nat.reduceMul, Int.reduceLT, Int.reduceLE, Int.reduceNeg, Int.reducePow, Int.reduceAdd, Int.reduceSub, Int.reduceMul, Int.reduceToNat, Nat.reduceEqDiff, Int.reduceEq, ec, er, l1, l2, F1, a7, a8, l3, erw, eLV, F2, z1, s4, l4, hm0, l5, a9, l6]
              exact ⟨_, _, _, rfl⟩
            | false =>
              simp only [K2_eq, kBin_eq, kRep_eq, kNeg_eq, kBool_eq, kCmp_eq, kCh3_eq, kCh2_eq, kCh1_eq, kAnd_eq, kOr_eq, kNot_eq, kIte_eq, kTup2_eq, kTup_eq, kLst2_eq, kLst_eq, kSub_eq, kS3_eq, kS2_eq, kS1_eq, kCall2_eq, kCall_eq, kBlt_eq, kLc_eq, kO_eq, kTv_eq, kTand_eq, kTor_eq, kTnot_eq, kEs2_eq, kEs1_eq, kIe2_eq, kIe_eq, kR1_eq, kR22_eq, kR21_eq, kA2_eq, kA1_eq, kAsg2_eq, kAsg_eq, kApp2_eq, kApp_eq, kEx_eq, kRet2_eq, kRet_eq, kSi_eq, kFor_eq, kRse2_eq, kRse_eq, evE_var, evE_con, evE_glb, evE_bin, evE_rep, evE_neg, evE_cmp, evE_chain, evE_and, evE_or, evE_not, evE_ite, evE_tup, evE_lst, evE_sub, evE_slc, evE_call, evE_blt, evE_lc, evO_no, evO_some, evTo_no, evTo_some, evT_val, evT_and, evT_or, evT_not, evEs_nil, evEs_cons, evI_e, evI_rng, evI_rng2, evS_asg, evS_app, evS_expr, evS_ret, evS_retN, evS_ite, evS_whl, evS_for, evS_brk, evS_cnt, evS_pass, evS_rse, evSs_nil, evSs_cons, asDs_nil, asDs_cons, sizeLine, turn_next, turn_cnt, turn_brk, turn_ret, turn_exn, test_t, test_f, bind_ok, bind_exn, bind_bad, so_ok, so_exn, so_bad, seq_next, seq_brk, seq_cnt, seq_ret, seq_exn, seq_bad, ofO_some, rofO_some, view_dat, view_lst, view_var, tree_dat, tree_lst, asD_dat, asD_lst, asD_var, get0, getS, set0, setS, getD0, getDS, add_ii, sub_ii, lt_ii, le_ii, gt_ii, ge_ii, eq_ii, ne_ii, len_l, len_t, int_i, int_b, abs_i, min_ii, max_ii, tru_b, neg_i, items_l, items_t, slc_l, slc_t, viewAll, ft_mk, fdiv_ii, mod_ii, mul_ii, and_self, true_and, and_true, or_true, true_or, Option.map_some, rf_next, rf_ret, rf_exn, Int.toNat_natCast, if_true, ite_true, decide_true, decide_false, reduceIte, List.length_cons, List.length_nil, Nat.zero_add, Nat.zero_le, List.map_cons, List.map_nil, Bool.not_true, Bool.not_false, Bool.false_eq_true, Nat.reducePow, Nat.reduceAdd, Nat.reduceLT, Nat.reduceLeDiff, Nat.reduceMul, Int.reduceLT, Int.reduceLE, Int.reduceNeg, Int.reducePow, Int.reduceAdd, Int.reduceSub, Int.reduceMul, Int.reduceToNat, Nat.reduceEqDiff, Int.reduceEq, ec, er, l1, l2, F1, a7, a8, l3, erw, eLV, F2, z1, s4, l4, hm0, l5, a9, l6, hr0]
              exact ⟨_, _, _, rfl⟩
        · simp only [K2_eq, kBin_eq, kRep_eq, kNeg_eq, kBool_eq, kCmp_eq, kCh3_eq, kCh2_eq, kCh1_eq, kAnd_eq, kOr_eq, kNot_eq, kIte_eq, kTup2_eq, kTup_eq, kLst2_eq, kLst_eq, kSub_eq, kS3_eq, kS2_eq, kS1_eq, kCall2_eq, kCall_eq, kBlt_eq, kLc_eq, kO_eq, kTv_eq, kTand_eq, kTor_eq, kTnot_eq, kEs2_eq, kEs1_eq, kIe2_eq, kIe_eq, kR1_eq, kR22_eq, kR21_eq, kA2_eq, kA1_eq, kAsg2_eq, kAsg_eq, kApp2_eq, kApp_eq, kEx_eq, kRet2_eq, kRet_eq, kSi_eq, kFor_eq, kRse2_eq, kRse_eq, evE_var, evE_con, evE_glb, evE_bin, evE_rep, evE_neg, evE_cmp, evE_chain, evE_and, evE_or, evE_not, evE_ite, evE_tup, evE_lst, evE_sub, evE_slc, evE_call, evE_blt, evE_lc, evO_no, evO_some, evTo_no, evTo_some, evT_val, evT_and, evT_or, evT_not, evEs_nil, evEs_cons, evI_e, evI_rng, evI_rng2, evS_asg, evS_app, evS_expr, evS_ret, evS_retN, evS_ite, evS_whl, evS_for, evS_brk, evS_cnt, evS_pass, evS_rse, evSs_nil, evSs_cons, asDs_nil, asDs_cons, sizeLine, turn_next, turn_cnt, turn_brk, turn_ret, turn_exn, test_t, test_f, bind_ok, bind_exn, bind_bad, so_ok, so_exn, so_bad, seq_next, seq_brk, seq_cnt, seq_ret, seq_exn, seq_bad, ofO_some, rofO_some, view_dat, view_lst, view_var, tree_dat, tree_lst, asD_dat, asD_lst, asD_var, get0, getS, set0, setS, getD0, getDS, add_ii, sub_ii, lt_ii, le_ii, gt_ii, ge_ii, eq_ii, ne_ii, len_l, len_t, int_i, int_b, abs_i, min_ii, max_ii, tru_b, neg_i, items_l, items_t, slc_l, slc_t, viewAll, ft_mk, fdiv_ii, mod_ii, mul_ii, and_self, true_and, and_true, or_true, true_or, Option.map_some, rf_next, rf_ret, rf_exn, Int.toNat_natCast, if_true, ite_true, decide_true, decide_false, reduceIte, List.length_cons, List.length_nil, Nat.zero_add, Nat.zero_le, List.map_cons, List.map_nil, Bool.not_true, Bool.not_false, Bool.false_eq_true, Nat.reducePow, Nat.reduceAdd, Nat.reduceLT, Nat.reduceLeDiff, Nat.reduceMul, Int.reduceLT, Int.reduceLE, Int.reduceNeg, Int.reducePow, Int.reduceAdd, Int.reduceSub, Int.reduceMul, Int.reduceToNat, Nat.reduceEqDiff, Int.reduceEq, ec, er, l1, l2, F1, a7, a8, l3, erw, eLV, F2, z1, s4, l4, hm0]
          exact ⟨_, _, _, rfl⟩
    · rintro Γ ⟨o8, o12, o13, rfl⟩
      simp only [K2_eq, kBin_eq, kRep_eq, kNeg_eq, kBool_eq, kCmp_eq, kCh3_eq, kCh2_eq, kCh1_eq, kAnd_eq, kOr_eq, kNot_eq, kIte_eq, kTup2_eq, kTup_eq, kLst2_eq, kLst_eq, kSub_eq, kS3_eq, kS2_eq, kS1_eq, kCall2_eq, kCall_eq, kBlt_eq, kLc_eq, kO_eq, kTv_eq, kTand_eq, kTor_eq, kTnot_eq, kEs2_eq, kEs1_eq, kIe2_eq, kIe_eq, kR1_eq, kR22_eq, kR21_eq, kA2_eq, kA1_eq, kAsg2_eq, kAsg_eq, kApp2_eq, kApp_eq, kEx_eq, kRet2_eq, kRet_eq, kSi_eq, kFor_eq, kRse2_eq, kRse_eq, evE_var, evE_con, evE_glb, evE_bin, evE_rep, evE_neg, evE_cmp, evE_chain, evE_and, evE_or, evE_not, evE_ite, evE_tup, evE_lst, evE_sub, evE_slc, evE_call, evE_blt, evE_lc, evO_no, evO_some, evTo_no, evTo_some, evT_val, evT_and, evT_or, evT_not, evEs_nil, evEs_cons, evI_e, evI_rng, evI_rng2, evS_asg, evS_app, evS_expr, evS_ret, evS_retN, evS_ite, evS_whl, evS_for, evS_brk, evS_cnt, evS_pass, evS_rse, evSs_nil, evSs_cons, asDs_nil, asDs_cons, sizeLine, turn_next, turn_cnt, turn_brk, turn_ret, turn_exn, test_t, test_f, bind_ok, bind_exn, bind_bad, so_ok, so_exn, so_bad, seq_next, seq_brk, seq_cnt, seq_ret, seq_exn, seq_bad, ofO_some, rofO_some, view_dat, view_lst, view_var, tree_dat, tree_lst, asD_dat, asD_lst, asD_var, get0, getS, set0, setS, getD0, getDS, add_ii, sub_ii, lt_ii, le_ii, gt_ii, ge_ii, eq_ii, ne_ii, len_l, len_t, int_i, int_b, abs_i, min_ii, max_ii, tru_b, neg_i, items_l, items_t, slc_l, slc_t, viewAll, ft_mk, fdiv_ii, mod_ii, mul_ii, and_self, true_and, and_true, or_true, true_or, Option.map_some, rf_next, rf_ret, rf_exn, Int.toNat_natCast, if_true, ite_true, decide_true, decide_false, reduceIte, List.length_cons, List.length_nil, Nat.zero_add, Nat.zero_le, List.map_cons, List.map_nil, Bool.not_true, Bool.not_false, Bool.false_eq_true, Nat.reducePow, Nat.reduceAdd, Nat.reduceLT, Nat.reduceLeDiff, Nat.reduceMul, Int.reduceLT, Int.reduceLE, Int.reduceNeg, Int.reducePow, Int.reduceAdd, Int.reduceSub, Int.reduceMul, Int.reduceToNat, Nat.reduceEqDiff, Int.reduceEq, tl, esh]
  have q := rest o
  simp only [K2_eq, kBin_eq, kRep_eq, kNeg_eq, kBool_eq, kCmp_eq, kCh3_eq, kCh2_eq, kCh1_eq, kAnd_eq, kOr_eq, kNot_eq, kIte_eq, kTup2_eq, kTup_eq, kLst2_eq, kLst_eq, kSub_eq, kS3_eq, kS2_eq, kS1_eq, kCall2_eq, kCall_eq, kBlt_eq, kLc_eq, kO_eq, kTv_eq, kTand_eq, kTor_eq, kTnot_eq, kEs2_eq, kEs1_eq, kIe2_eq, kIe_eq, kR1_eq, kR22_eq, kR21_eq, kA2_eq, kA1_eq, kAsg2_eq, kAsg_eq, kApp2_eq, kApp_eq, kEx_eq, kRet2_eq, kRet_eq, kSi_eq, kFor_eq, kRse2_eq, kRse_eq, evE_var, evE_con, evE_glb, evE_bin, evE_rep, evE_neg, evE_cmp, evE_chain, evE_and, evE_or, evE_not, evE_ite, evE_tup, evE_lst, evE_sub, evE_slc, evE_call, evE_blt, evE_lc, evO_no, evO_some, evTo_no, evTo_some, evT_val, evT_and, evT_or, evT_not, evEs_nil, evEs_cons, evI_e, evI_rng, evI_rng2, evS_asg, evS_app, evS_expr, evS_ret, evS_retN, evS_ite, evS_whl, evS_for, evS_brk, evS_cnt, evS_pass, evS_rse, evSs_nil, evSs_cons, asDs_nil, asDs_cons, sizeLine, turn_next, turn_cnt, turn_brk, turn_ret, turn_exn, test_t, test_f, bind_ok, bind_exn, bind_bad, so_ok, so_exn, so_bad, seq_next, seq_brk, seq_cnt, seq_ret, seq_exn, seq_bad, ofO_some, rofO_some, view_dat, view_lst, view_var, tree_dat, tree_lst, asD_dat, asD_lst, asD_var, get0, getS, set0, setS, getD0, getDS, add_ii, sub_ii, lt_ii, le_ii, gt_ii, ge_ii, eq_ii, ne_ii, len_l, len_t, int_i, int_b, abs_i, min_ii, max_ii, tru_b, neg_i, items_l, items_t, slc_l, slc_t, viewAll, ft_mk, fdiv_ii, mod_ii, mul_ii, and_self, true_and, and_true, or_true, true_or, Option.map_some, rf_next, rf_ret, rf_exn, Int.toNat_natCast, if_true, ite_true, decide_true, decide_false, reduceIte, List.length_cons, List.length_nil, Nat.zero_add, Nat.zero_le, List.map_cons, List.map_nil, Bool.not_true, Bool.not_false, Bool.false_eq_true, Nat.reducePow, Nat.reduceAdd, Nat.reduceLT, Nat.reduceLeDiff, Nat.reduceMul, Int.reduceLT, Int.reduceLE, Int.reduceNeg, Int.reducePow, Int.reduceAdd, Int.reduceSub, Int.reduceMul, Int.reduceToNat, Nat.reduceEqDiff, Int.reduceEq, els, htop, b5] at q
  have F1 := ne_same (shaped_l PK)
  have F2 := ne_same (shaped_li xs (1 + (PK.length : Int)))
  by_cases h8 : 0 < xs.length * w % 8
  · have hne := hK2 h8
    have z1 : (0 : Int) < (PK.length : Int) := by
      have := List.length_pos_iff.mpr hne
      omega
    have z2 : (0 : Int) < ((xs.length * w % 8 : Nat) : Int) := by omega
    have rb2 := rb2 hne h8
    have rb1 := rb1 hne
    have s4 := cut_last hne
    simp only [K2_eq, kBin_eq, kRep_eq, kNeg_eq, kBool_eq, kCmp_eq, kCh3_eq, kCh2_eq, kCh1_eq, kAnd_eq, kOr_eq, kNot_eq, kIte_eq, kTup2_eq, kTup_eq, kLst2_eq, kLst_eq, kSub_eq, kS3_eq, kS2_eq, kS1_eq, kCall2_eq, kCall_eq, kBlt_eq, kLc_eq, kO_eq, kTv_eq, kTand_eq, kTor_eq, kTnot_eq, kEs2_eq, kEs1_eq, kIe2_eq, kIe_eq, kR1_eq, kR22_eq, kR21_eq, kA2_eq, kA1_eq, kAsg2_eq, kAsg_eq, kApp2_eq, kApp_eq, kEx_eq, kRet2_eq, kRet_eq, kSi_eq, kFor_eq, kRse2_eq, kRse_eq, evE_var, evE_con, evE_glb, evE_bin, evE_rep, evE_neg, evE_cmp, evE_chain, evE_and, evE_or, evE_not, evE_ite, evE_tup, evE_lst, evE_sub, evE_slc, evE_call, evE_blt, evE_lc, evO_no, evO_some, evTo_no, evTo_some, evT_val, evT_and, evT_or, evT_not, evEs_nil, evEs_cons, evI_e, evI_rng, evI_rng2, evS_asg, evS_app, evS_expr, evS_ret, evS_retN, evS_ite, evS_whl, evS_for, evS_brk, evS_cnt, evS_pass, evS_rse, evSs_nil, evSs_cons, asDs_nil, asDs_cons, sizeLine, turn_next, turn_cnt, turn_brk, turn_ret, turn_exn, test_t, test_f, bind_ok, bind_exn, bind_bad, so_ok, so_exn, so_bad, seq_next, seq_brk, seq_cnt, seq_ret, seq_exn, seq_bad, ofO_some, rofO_some, view_dat, view_lst, view_var, tree_dat, tree_lst, asD_dat, asD_lst, asD_var, get0, getS, set0, setS, getD0, getDS, add_ii, sub_ii, lt_ii, le_ii, gt_ii, ge_ii, eq_ii, ne_ii, len_l, len_t, int_i, int_b, abs_i, min_ii, max_ii, tru_b, neg_i, items_l, items_t, slc_l, slc_t, viewAll, ft_mk, fdiv_ii, mod_ii, mul_ii, and_self, true_and, and_true, or_true, true_or, Option.map_some, rf_next, rf_ret, rf_exn, Int.toNat_natCast, if_true, ite_true, decide_true, decide_false, reduceIte, List.length_cons, List.length_nil, Nat.zero_add, Nat.zero_le, List.map_cons, List.map_nil, Bool.not_true, Bool.not_false, Bool.false_eq_true, Nat.reducePow, Nat.reduceAdd, Nat.reduceLT, Nat.reduceLeDiff, Nat.reduceMul, Int.reduceLT, Int.reduceLE, Int.reduceNeg, Int.reducePow, Int.reduceAdd, Int.reduceSub, Int.reduceMul, Int.reduceToNat, Nat.reduceEqDiff, Int.reduceEq, c3, c2, em, n4, hcov, hyz, hlc, p1, q1, q2, p2, F1, a4, a5, ux, ex, ePK, F2, z1, s4, rb1, k1, k2, emw, z2, a6, rb2, c4, e7, smost, els, htop, b5, eq_self]
    exact q
  · have z2 : ¬ (0 : Int) < ((xs.length * w % 8 : Nat) : Int) := by omega
    by_cases hne : PK = []
    · have z1 : ¬ (0 : Int) < (PK.length : Int) := by rw [hne]; simp
      simp only [K2_eq, kBin_eq, kRep_eq, kNeg_eq, kBool_eq, kCmp_eq, kCh3_eq, kCh2_eq, kCh1_eq, kAnd_eq, kOr_eq, kNot_eq, kIte_eq, kTup2_eq, kTup_eq, kLst2_eq, kLst_eq, kSub_eq, kS3_eq, kS2_eq, kS1_eq, kCall2_eq, kCall_eq, kBlt_eq, kLc_eq, kO_eq, kTv_eq, kTand_eq, kTor_eq, kTnot_eq, kEs2_eq, kEs1_eq, kIe2_eq, kIe_eq, kR1_eq, kR22_eq, kR21_eq, kA2_eq, kA1_eq, kAsg2_eq, kAsg_eq, kApp2_eq, kApp_eq, kEx_eq, kRet2_eq, kRet_eq, kSi_eq, kFor_eq, kRse2_eq, kRse_eq, evE_var, evE_con, evE_glb, evE_bin, evE_rep, evE_neg, evE_cmp, evE_chain, evE_and, evE_or, evE_not, evE_ite, evE_tup, evE_lst, evE_sub, evE_slc, evE_call, evE_blt, evE_lc, evO_no, evO_some, evTo_no, evTo_some, evT_val, evT_and, evT_or, evT_not, evEs_nil, evEs_cons, evI_e, evI_rng, evI_rng2, evS_asg, evS_app, evS_expr, evS_ret, evS_retN, evS_ite, evS_whl, evS_for, evS_brk, evS_cnt, evS_pass, evS_rse, evSs_nil, evSs_cons, asDs_nil, asDs_cons, sizeLine, turn_next, turn_cnt, turn_brk, turn_ret, turn_exn, test_t, test_f, bind_ok, bind_exn, bind_bad, so_ok, so_exn, so_bad, seq_next, seq_brk, seq_cnt, seq_ret, seq_exn, seq_bad, ofO_some, rofO_some, view_dat, view_lst, view_var, tree_dat, tree_lst, asD_dat, asD_lst, asD_var, get0, getS, set0, setS, getD0, getDS, add_ii, sub_ii, lt_ii, le_ii, gt_ii, ge_ii, eq_ii, ne_ii, len_l, len_t, int_i, int_b, abs_i, min_ii, max_ii, tru_b, neg_i, items_l, items_t, slc_l, slc_t, viewAll, ft_mk, fdiv_ii, mod_ii, mul_ii, and_self, true_and, and_true, or_true, true_or, Option.map_some, rf_next, rf_ret, rf_exn, Int.toNat_natCast, if_true, ite_true, decide_true, decide_false, reduceIte, List.length_cons, List.length_nil, Nat.zero_add, Nat.zero_le, List.map_cons, List.map_nil, Bool.not_true, Bool.not_false, Bool.false_eq_true, Nat.reducePow, Nat.reduceAdd, Nat.reduceLT, Nat.reduceLeDiff, Nat.reduceMul, Int.reduceLT, Int.reduceLE, Int.reduceNeg, Int.reducePow, Int.reduceAdd, Int.reduceSub, Int.reduceMul, Int.reduceToNat, Nat.reduceEqDiff, Int.reduceEq, c3, c2, em, n4, hcov, hyz, hlc, p1, q1, q2, p2, F1, a4, a5, ux, ex, ePK, F2, z1, k1, k2, emw, z2, c4, e7, smost, els, htop, b5, eq_self]
      exact q
    · have z1 : (0 : Int) < (PK.length : Int) := by
        have := List.length_pos_iff.mpr hne
        omega
      have rb1 := rb1 hne
      have s4 := cut_last hne
      simp only [K2_eq, kBin_eq, kRep_eq, kNeg_eq, kBool_eq, kCmp_eq, kCh3_eq, kCh2_eq, kCh1_eq, kAnd_eq, kOr_eq, kNot_eq, kIte_eq, kTup2_eq, kTup_eq, kLst2_eq, kLst_eq, kSub_eq, kS3_eq, kS2_eq, kS1_eq, kCall2_eq, kCall_eq, kBlt_eq, kLc_eq, kO_eq, kTv_eq, kTand_eq, kTor_eq, kTnot_eq, kEs2_eq, kEs1_eq, kIe2_eq, kIe_eq, kR1_eq, kR22_eq, kR21_eq, kA2_eq, kA1_eq, kAsg2_eq, kAsg_eq, kApp2_eq, kApp_eq, kEx_eq, kRet2_eq, kRet_eq, kSi_eq, kFor_eq, kRse2_eq, kRse_eq, evE_var, evE_con, evE_glb, evE_bin, evE_rep, evE_neg, evE_cmp, evE_chain, evE_and, evE_or, evE_not, evE_ite, evE_tup, evE_lst, evE_sub, evE_slc, evE_call, evE_blt, evE_lc, evO_no, evO_some, evTo_no, evTo_some, evT_val, evT_and, evT_or, evT_not, evEs_nil, evEs_cons, evI_e, evI_rng, evI_rng2, evS_asg, evS_app, evS_expr, evS_ret, evS_retN, evS_ite, evS_whl, evS_for, evS_brk, evS_cnt, evS_pass, evS_rse, evSs_nil, evSs_cons, asDs_nil, asDs_cons, sizeLine, turn_next, turn_cnt, turn_brk, turn_ret, turn_exn, test_t, test_f, bind_ok, bind_exn, bind_bad, so_ok, so_exn, so_bad, seq_next, seq_brk, seq_cnt, seq_ret, seq_exn, seq_bad, ofO_some, rofO_some, view_dat, view_lst, view_var, tree_dat, tree_lst, asD_dat, asD_lst, asD_var, get0, getS, set0, setS, getD0, getDS, add_ii, sub_ii, lt_ii, le_ii, gt_ii, ge_ii, eq_ii, ne_ii, len_l, len_t, int_i, int_b, abs_i, min_ii, max_ii, tru_b, neg_i, items_l, items_t, slc_l, slc_t, viewAll, ft_mk, fdiv_ii, mod_ii, mul_ii, and_self, true_and, and_true, or_true, true_or, Option.map_some, rf_next, rf_ret, rf_exn, Int.toNat_natCast, if_true, ite_true, decide_true, decide_false, reduceIte, List.length_cons, List.length_nil, Nat.zero_add, Nat.zero_le, List.map_cons, List.map_nil, Bool.not_true, Bool.not_false, Bool.false_eq_true, Nat.reducePow, Nat.reduceAdd, Nat.reduceLT, Nat.reduceLeDiff, Nat.reduceMul, Int.reduceLT, Int.reduceLE, Int.reduceNeg, Int.reducePow, Int.reduceAdd, Int.reduceSub, Int.reduceMul, Int.reduceToNat, Nat.reduceEqDiff, Int.reduceEq, c3, c2, em, n4, hcov, hyz, hlc, p1, q1, q2, p2, F1, a4, a5, ux, ex, ePK, F2, z1, s4, rb1, k1, k2, emw, z2, c4, e7, smost, els, htop, b5, eq_self]
      exact q
end L1
end

section
set_option Elab.async false
set_option linter.all false
set_option maxRecDepth 100000
set_option maxHeartbeats 0
open PySem PySem.W PySem.Calls PyProof.Rows
theorem PySem.Challenge.cw_stripestack_k07_numbers_and_levels_holds : PySem.Challenge.rw_stripestack_k07_numbers_and_levels.Holds := by
  w_on; o_law
  refine HandSHeadRun.head_any (r := OpenLaw.row PySem.Challenge.rw_stripestack_k07_numbers_and_levels) (q := view (OpenLaw.row PySem.Challenge.rw_stripestack_k07_numbers_and_levels).prog [32]) (H := Tv.hookH C07.R.prog C07.hd) (ob := Tv.obT C07.R.prog C07.hd) (M := 4000) (loose := C07.loose) (d := HandSHeadRun.topDef (OpenLaw.row PySem.Challenge.rw_stripestack_k07_numbers_and_levels).prog 32) (kwd := []) (Tv.obT_eq _ _)
    (by kernel_rfl) (fun s => by kernel_rfl) C07.run (by kernel_rfl) (by kernel_rfl) (by kernel_rfl) (by rfl) (by first | assumption | decide +kernel) (by decide +kernel) ⟨rfl, rfl, rfl, rfl, rfl, by decide +kernel⟩ ?hw ?hc
  case hw => w_witness2
  case hc =>
    exact Tv.law_end (l := PySem.Challenge.rw_stripestack_k07_numbers_and_levels) (n := 63) (N := 12) (h := C07.hd) (dl := C07.d_law) (x := "_law_script") rfl (by decide) (by kernel_rfl) ⟨rfl, by decide, by decide⟩ (by repeat (first | exact List.mem_cons_self | apply List.mem_cons_of_mem)) (by kernel_rfl) rfl C07.sane C07.top C07.binds C07.xcs C07.chk.mem L1.law_ok
end
