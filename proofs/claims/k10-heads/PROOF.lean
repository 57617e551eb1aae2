import PyProof.Rows.All
import Wide.All
import OpenK.AllK
import Wide.FinOn
import HandS.ForMost
import HandS.Evl
import HandS.IsInst
import HandS.TupAny
import HandS.More
import PySem.Challenge.RW_wright_k10_heads_and_words
set_option Elab.async false
set_option linter.all false
set_option maxRecDepth 100000
/-! A small evaluator for the programs at hand over plain data, and its soundness over the hand layer. Part A: data and what bears them. -/
namespace DE
open PySem PySem.Spec L2

/-- plain data; m: the node may be changed by the one name that holds it -/
inductive D where
  | non
  | bl (b : Bool)
  | int (i : Int)
  | str (x : Str)
  | tup (ds : List D)
  | lst (m : Bool) (ds : List D)
  | dK (m : Bool) (ks : List Key) (vs : List D)
  /-- the script: read only -/
  | scr (ds : List D)

mutual
/-- nothing of it may be changed any more -/
def frz : D → D
  | .non => .non
  | .bl b => .bl b
  | .int i => .int i
  | .str x => .str x
  | .tup ds => .tup (frzL ds)
  | .lst _ ds => .lst false (frzL ds)
  | .dK _ ks vs => .dK false ks (frzL vs)
  | .scr ds => .scr (frzL ds)
def frzL : List D → List D
  | [] => []
  | d :: ds => frz d :: frzL ds
end
/-- the items frozen, the top as it is -/
def frzK : D → D
  | .lst m ds => .lst m (frzL ds)
  | .dK m ks vs => .dK m ks (frzL vs)
  | d => frz d
/-- no object at all -/
def D.sc : D → Bool
  | .non => true
  | .bl _ => true
  | .int _ => true
  | .str _ => true
  | _ => false

theorem frzL_map : ∀ ds : List D, frzL ds = ds.map frz
  | [] => rfl
  | d :: ds => by show frz d :: frzL ds = _; rw [frzL_map ds]; rfl
theorem frzL_length (ds : List D) : (frzL ds).length = ds.length := by rw [frzL_map, List.length_map]
mutual
theorem frz_frz : ∀ d : D, frz (frz d) = frz d
  | .non => rfl
  | .bl _ => rfl
  | .int _ => rfl
  | .str _ => rfl
  | .tup ds => by show D.tup (frzL (frzL ds)) = _; rw [frzL_frzL ds]; rfl
  | .lst _ ds => by show D.lst false (frzL (frzL ds)) = _; rw [frzL_frzL ds]; rfl
  | .dK _ ks vs => by show D.dK false ks (frzL (frzL vs)) = _; rw [frzL_frzL vs]; rfl
  | .scr ds => by show D.scr (frzL (frzL ds)) = _; rw [frzL_frzL ds]; rfl
theorem frzL_frzL : ∀ ds : List D, frzL (frzL ds) = frzL ds
  | [] => rfl
  | d :: ds => by show frz (frz d) :: frzL (frzL ds) = _; rw [frz_frz d, frzL_frzL ds]; rfl
end
theorem frz_sc {d : D} (e : d.sc = true) : frz d = d := by
  cases d <;> first | rfl | cases e

/-- a tuple, a list of the written part -/
def KT (K : PySem.W.Frag) (p : Addr) (vs : List V) : Prop := SqT K (fun _ => none) p vs
def KL (K : PySem.W.Frag) (p : Addr) (vs : List V) : Prop := SqL K (fun _ => none) p vs
theorem KT.to {K : PySem.W.Frag} {G : Hp} {p : Addr} {vs : List V} (h : KT K p vs) : SqT K G p vs := by
  rcases h with (h | ⟨o, h⟩) | h
  · cases h
  · cases h
  · exact .inr h
theorem KL.to {K : PySem.W.Frag} {G : Hp} {p : Addr} {vs : List V} (h : KL K p vs) : SqL K G p vs := by
  rcases h with (h | ⟨o, h⟩) | h
  · cases h
  · cases h
  · exact .inr h

mutual
/-- the value v bears d: S what never changes, F what is d's own -/
def Rp (K : PySem.W.Frag) (G : Hp) (S : Addr → Prop) : D → V → List Addr → Prop
  | .non, v, F => v = .non ∧ F = []
  | .bl b, v, F => v = .bl b ∧ F = []
  | .int i, v, F => v = .int i ∧ F = []
  | .str x, v, F => v = .str x ∧ F = []
  | .tup ds, v, F => ∃ p vs, v = .ref p ∧ ((S p ∧ G p = some (.tup vs)) ∨ KT K p vs) ∧ RpL K G S ds vs F
  | .lst false ds, v, F => F = [] ∧ ∃ p vs, v = .ref p ∧ S p ∧ G p = some (.lst vs) ∧ RpL K G S ds vs []
  | .lst true ds, v, F => ∃ p vs F', v = .ref p ∧ F = p :: F' ∧ G p = some (.lst vs) ∧ RpL K G S ds vs F'
  | .dK false ks ds, v, F => F = [] ∧ ∃ p vs, v = .ref p ∧ S p ∧ G p = some (.dK (ks.zip vs)) ∧ ks.length = vs.length ∧ RpL K G S ds vs []
  | .dK true ks ds, v, F => ∃ p vs F', v = .ref p ∧ F = p :: F' ∧ G p = some (.dK (ks.zip vs)) ∧ ks.length = vs.length ∧ RpL K G S ds vs F'
  | .scr ds, v, F => F = [] ∧ ∃ p vs, v = .ref p ∧ ((S p ∧ Rd G p (.lst vs)) ∨ KL K p vs) ∧ RpL K G S ds vs []
def RpL (K : PySem.W.Frag) (G : Hp) (S : Addr → Prop) : List D → List V → List Addr → Prop
  | [], vs, F => vs = [] ∧ F = []
  | d :: ds, vs, F => ∃ v vs' F1 F2, vs = v :: vs' ∧ F = F1 ++ F2 ∧ Rp K G S d v F1 ∧ RpL K G S ds vs' F2
end

section
variable {K : PySem.W.Frag} {G G' : Hp} {S S' : Addr → Prop}
theorem RpL.length : ∀ {ds : List D} {vs : List V} {F : List Addr}, RpL K G S ds vs F → ds.length = vs.length
  | [], _, _, h => by rw [h.1]; rfl
  | d :: ds, vs, F, ⟨v, vs', F1, F2, e, _, _, h⟩ => by rw [e, List.length_cons, List.length_cons, RpL.length h]

mutual
theorem Rp.mono : ∀ {d : D} {v : V} {F : List Addr}, Rp K G S d v F → (∀ p o, S p → G p = some o → G' p = some o) → (∀ p, p ∈ F → G' p = G p) → (∀ p, S p → S' p) → Rp K G' S' d v F
  | .non, _, _, h, _, _, _ => h
  | .bl _, _, _, h, _, _, _ => h
  | .int _, _, _, h, _, _, _ => h
  | .str _, _, _, h, _, _, _ => h
  | .tup ds, _, _, ⟨p, vs, e, h, r⟩, a, b, c => by
    refine ⟨p, vs, e, ?_, RpL.mono r a b c⟩
    rcases h with ⟨h1, h2⟩ | h
    · exact .inl ⟨c p h1, a p _ h1 h2⟩
    · exact .inr h
  | .scr ds, _, _, ⟨z, p, vs, e, h, r⟩, a, b, c => by
    refine ⟨z, p, vs, e, ?_, RpL.mono r a (fun p hp => by cases hp) c⟩
    rcases h with ⟨h1, h2⟩ | h
    · exact .inl ⟨c p h1, h2.imp (a p _ h1) fun ⟨o, q⟩ => ⟨o, a p _ h1 q⟩⟩
    · exact .inr h
  | .lst false ds, _, _, ⟨z, p, vs, e, h1, h2, r⟩, a, b, c => ⟨z, p, vs, e, c p h1, a p _ h1 h2, RpL.mono r a (fun p hp => by cases hp) c⟩
  | .lst true ds, _, _, ⟨p, vs, F', e, z, h, r⟩, a, b, c => by
    subst z
    exact ⟨p, vs, F', e, rfl, by rw [b p (List.mem_cons_self ..)]; exact h, RpL.mono r a (fun q hq => b q (List.mem_cons_of_mem _ hq)) c⟩
  | .dK false ks ds, _, _, ⟨z, p, vs, e, h1, h2, l, r⟩, a, b, c => ⟨z, p, vs, e, c p h1, a p _ h1 h2, l, RpL.mono r a (fun p hp => by cases hp) c⟩
  | .dK true ks ds, _, _, ⟨p, vs, F', e, z, h, l, r⟩, a, b, c => by
    subst z
    exact ⟨p, vs, F', e, rfl, by rw [b p (List.mem_cons_self ..)]; exact h, l, RpL.mono r a (fun q hq => b q (List.mem_cons_of_mem _ hq)) c⟩
theorem RpL.mono : ∀ {ds : List D} {vs : List V} {F : List Addr}, RpL K G S ds vs F → (∀ p o, S p → G p = some o → G' p = some o) → (∀ p, p ∈ F → G' p = G p) → (∀ p, S p → S' p) → RpL K G' S' ds vs F
  | [], _, _, h, _, _, _ => h
  | d :: ds, _, _, ⟨v, vs', F1, F2, e, z, h, r⟩, a, b, c => by
    subst z
    exact ⟨v, vs', F1, F2, e, rfl, Rp.mono h a (fun p hp => b p (List.mem_append_left _ hp)) c, RpL.mono r a (fun p hp => b p (List.mem_append_right _ hp)) c⟩
end

mutual
/-- what is its own stands in the heap -/
theorem Rp.dom : ∀ {d : D} {v : V} {F : List Addr}, Rp K G S d v F → ∀ p, p ∈ F → ∃ o, G p = some o
  | .non, _, _, h, p, hp => by rw [h.2] at hp; cases hp
  | .bl _, _, _, h, p, hp => by rw [h.2] at hp; cases hp
  | .int _, _, _, h, p, hp => by rw [h.2] at hp; cases hp
  | .str _, _, _, h, p, hp => by rw [h.2] at hp; cases hp
  | .tup ds, _, _, ⟨_, _, _, _, r⟩, p, hp => RpL.dom r p hp
  | .lst false ds, _, _, ⟨z, _⟩, p, hp => by rw [z] at hp; cases hp
  | .lst true ds, _, _, ⟨q, vs, F', e, z, h, r⟩, p, hp => by
    subst z
    rcases List.mem_cons.mp hp with rfl | hp
    · exact ⟨_, h⟩
    · exact RpL.dom r p hp
  | .dK false ks ds, _, _, ⟨z, _⟩, p, hp => by rw [z] at hp; cases hp
  | .dK true ks ds, _, _, ⟨q, vs, F', e, z, h, l, r⟩, p, hp => by
    subst z
    rcases List.mem_cons.mp hp with rfl | hp
    · exact ⟨_, h⟩
    · exact RpL.dom r p hp
  | .scr ds, _, _, ⟨z, _⟩, p, hp => by rw [z] at hp; cases hp
theorem RpL.dom : ∀ {ds : List D} {vs : List V} {F : List Addr}, RpL K G S ds vs F → ∀ p, p ∈ F → ∃ o, G p = some o
  | [], _, _, h, p, hp => by rw [h.2] at hp; cases hp
  | d :: ds, _, _, ⟨v, vs', F1, F2, e, z, h, r⟩, p, hp => by
    subst z
    rcases List.mem_append.mp hp with hp | hp
    · exact Rp.dom h p hp
    · exact RpL.dom r p hp
end

mutual
/-- all frozen -/
theorem Rp.frz : ∀ {d : D} {v : V} {F : List Addr}, Rp K G S d v F → (∀ p, S p → S' p) → (∀ p, p ∈ F → S' p) → Rp K G S' (frz d) v []
  | .non, _, _, h, _, _ => ⟨h.1, rfl⟩
  | .bl _, _, _, h, _, _ => ⟨h.1, rfl⟩
  | .int _, _, _, h, _, _ => ⟨h.1, rfl⟩
  | .str _, _, _, h, _, _ => ⟨h.1, rfl⟩
  | .tup ds, _, _, ⟨p, vs, e, h, r⟩, a, b => by
    refine ⟨p, vs, e, ?_, RpL.frz r a b⟩
    rcases h with ⟨h1, h2⟩ | h
    · exact .inl ⟨a p h1, h2⟩
    · exact .inr h
  | .lst false ds, _, _, ⟨z, p, vs, e, h1, h2, r⟩, a, b => ⟨rfl, p, vs, e, a p h1, h2, RpL.frz r a (fun p hp => by cases hp)⟩
  | .scr ds, _, _, ⟨z, p, vs, e, h, r⟩, a, b => ⟨rfl, p, vs, e, h.imp (fun q => ⟨a p q.1, q.2⟩) id, RpL.frz r a (fun p hp => by cases hp)⟩
  | .lst true ds, _, _, ⟨p, vs, F', e, z, h, r⟩, a, b => by
    subst z
    exact ⟨rfl, p, vs, e, b p (List.mem_cons_self ..), h, RpL.frz r a (fun q hq => b q (List.mem_cons_of_mem _ hq))⟩
  | .dK false ks ds, _, _, ⟨z, p, vs, e, h1, h2, l, r⟩, a, b => ⟨rfl, p, vs, e, a p h1, h2, l, RpL.frz r a (fun p hp => by cases hp)⟩
  | .dK true ks ds, _, _, ⟨p, vs, F', e, z, h, l, r⟩, a, b => by
    subst z
    exact ⟨rfl, p, vs, e, b p (List.mem_cons_self ..), h, l, RpL.frz r a (fun q hq => b q (List.mem_cons_of_mem _ hq))⟩
theorem RpL.frz : ∀ {ds : List D} {vs : List V} {F : List Addr}, RpL K G S ds vs F → (∀ p, S p → S' p) → (∀ p, p ∈ F → S' p) → RpL K G S' (frzL ds) vs []
  | [], _, _, h, _, _ => ⟨h.1, rfl⟩
  | d :: ds, _, _, ⟨v, vs', F1, F2, e, z, h, r⟩, a, b => by
    subst z
    exact ⟨v, vs', [], [], e, rfl, Rp.frz h a (fun p hp => b p (List.mem_append_left _ hp)), RpL.frz r a (fun p hp => b p (List.mem_append_right _ hp))⟩
end
mutual
theorem Rp.nil : ∀ {d : D} {v : V} {F : List Addr}, Rp K G S d v F → DE.frz d = d → F = []
  | .non, _, _, h, _ => h.2
  | .bl _, _, _, h, _ => h.2
  | .int _, _, _, h, _ => h.2
  | .str _, _, _, h, _ => h.2
  | .tup ds, _, _, ⟨_, _, _, _, r⟩, e => RpL.nil r (by injection e)
  | .lst false ds, _, _, h, _ => h.1
  | .lst true ds, _, _, _, e => by injection e with e _; cases e
  | .dK false ks ds, _, _, h, _ => h.1
  | .dK true ks ds, _, _, _, e => by injection e with e _ _; cases e
  | .scr ds, _, _, h, _ => h.1
theorem RpL.nil : ∀ {ds : List D} {vs : List V} {F : List Addr}, RpL K G S ds vs F → frzL ds = ds → F = []
  | [], _, _, h, _ => h.2
  | d :: ds, _, _, ⟨v, vs', F1, F2, _, z, h, r⟩, e => by
    injection e with e1 e2
    rw [z, Rp.nil h e1, RpL.nil r e2]; rfl
end
theorem Rp.sc_nil {d : D} {v : V} {F : List Addr} (h : Rp K G S d v F) (e : d.sc = true) : F = [] := h.nil (frz_sc e)
/-- a value without objects stands everywhere -/
theorem Rp.sc_any {d : D} {v : V} {F : List Addr} (h : Rp K G S d v F) (e : d.sc = true) : Rp K G' S' d v [] := by
  cases d with
  | non => exact ⟨h.1, rfl⟩
  | bl b => exact ⟨h.1, rfl⟩
  | int i => exact ⟨h.1, rfl⟩
  | str x => exact ⟨h.1, rfl⟩
  | tup _ => cases e
  | lst _ _ => cases e
  | dK _ _ _ => cases e
  | scr _ => cases e
/-- the items frozen: what stays its own -/
theorem Rp.frzK : ∀ {d : D} {v : V} {F : List Addr}, Rp K G S d v F → F.Nodup → ∃ F0, (∀ p, p ∈ F0 → p ∈ F) ∧ F0.Nodup ∧ ∀ S' : Addr → Prop, (∀ p, S p → S' p) → (∀ p, p ∈ F → p ∉ F0 → S' p) → Rp K G S' (frzK d) v F0
  | .non, _, _, h, _ => ⟨[], (fun p hp => by cases hp), .nil, fun S' a b => h.frz a (fun p hp => b p hp (by simp))⟩
  | .bl _, _, _, h, _ => ⟨[], (fun p hp => by cases hp), .nil, fun S' a b => h.frz a (fun p hp => b p hp (by simp))⟩
  | .int _, _, _, h, _ => ⟨[], (fun p hp => by cases hp), .nil, fun S' a b => h.frz a (fun p hp => b p hp (by simp))⟩
  | .str _, _, _, h, _ => ⟨[], (fun p hp => by cases hp), .nil, fun S' a b => h.frz a (fun p hp => b p hp (by simp))⟩
  | .tup ds, _, _, h, _ => ⟨[], (fun p hp => by cases hp), .nil, fun S' a b => h.frz a (fun p hp => b p hp (by simp))⟩
  | .lst false ds, _, _, h, _ => ⟨[], (fun p hp => by cases hp), .nil, fun S' a b => h.frz a (fun p hp => b p hp (by simp))⟩
  | .scr ds, _, _, h, _ => ⟨[], (fun p hp => by cases hp), .nil, fun S' a b => h.frz a (fun p hp => b p hp (by simp))⟩
  | .dK false ks ds, _, _, h, _ => ⟨[], (fun p hp => by cases hp), .nil, fun S' a b => h.frz a (fun p hp => b p hp (by simp))⟩
  | .lst true ds, _, _, ⟨p, vs, F', e, z, h, r⟩, nd => by
    subst z
    refine ⟨[p], (fun q hq => by rw [List.mem_singleton.mp hq]; exact List.mem_cons_self ..), List.nodup_cons.mpr ⟨by simp, .nil⟩, fun S' a b => ⟨p, vs, [], e, rfl, h, r.frz a fun q hq => ?_⟩⟩
    refine b q (List.mem_cons_of_mem _ hq) fun hq' => ?_
    rw [List.mem_singleton.mp hq'] at hq
    exact (List.nodup_cons.mp nd).1 hq
  | .dK true ks ds, _, _, ⟨p, vs, F', e, z, h, l, r⟩, nd => by
    subst z
    refine ⟨[p], (fun q hq => by rw [List.mem_singleton.mp hq]; exact List.mem_cons_self ..), List.nodup_cons.mpr ⟨by simp, .nil⟩, fun S' a b => ⟨p, vs, [], e, rfl, h, l, r.frz a fun q hq => ?_⟩⟩
    refine b q (List.mem_cons_of_mem _ hq) fun hq' => ?_
    rw [List.mem_singleton.mp hq'] at hq
    exact (List.nodup_cons.mp nd).1 hq
theorem RpL.append : ∀ {ds es : List D} {vs ws : List V} {F1 F2 : List Addr}, RpL K G S ds vs F1 → RpL K G S es ws F2 → RpL K G S (ds ++ es) (vs ++ ws) (F1 ++ F2) := by
  intro ds
  induction ds with
  | nil =>
    intro es vs ws F1 F2 h h2
    obtain ⟨e1, e2⟩ := h
    subst e1 e2
    exact h2
  | cons d ds ih =>
    intro es vs ws F1 F2 h h2
    obtain ⟨v, vs', A, B, e, z, h, r⟩ := h
    subst e z
    exact ⟨v, vs' ++ ws, A, B ++ F2, rfl, by rw [List.append_assoc], h, ih r h2⟩
theorem RpL.get : ∀ {ds : List D} {vs : List V} {i : Nat} {d : D}, RpL K G S ds vs [] → ds[i]? = some d → ∃ v, vs[i]? = some v ∧ Rp K G S d v [] := by
  intro ds
  induction ds with
  | nil =>
    intro vs i d h g
    simp at g
  | cons d0 ds ih =>
    intro vs i d h g
    obtain ⟨v, vs', A, B, e, z, h, r⟩ := h
    subst e
    have hz := List.append_eq_nil_iff.mp z.symm
    cases i with
    | zero =>
      simp at g
      subst g
      rw [hz.1] at h
      exact ⟨v, rfl, h⟩
    | succ i =>
      rw [hz.2] at r
      simp at g
      obtain ⟨u, hu, ru⟩ := ih r g
      exact ⟨u, by simpa using hu, ru⟩
end
end DE

/-! Part B: environments, steps, operands. -/
namespace DE
open PySem PySem.Spec L2

abbrev En := List (Option D)
def REnv (K : PySem.W.Frag) (G : Hp) (S : Addr → Prop) : En → St → List Addr → Prop
  | [], σ, F => σ = [] ∧ F = []
  | none :: E, σ, F => ∃ w σ', σ = w :: σ' ∧ REnv K G S E σ' F
  | some d :: E, σ, F => ∃ v σ' F1 F2, σ = some v :: σ' ∧ F = F1 ++ F2 ∧ Rp K G S d v F1 ∧ REnv K G S E σ' F2

section
variable {K : PySem.W.Frag} {G G' : Hp} {S S' : Addr → Prop}
theorem REnv.len : ∀ {E : En} {σ : St} {F : List Addr}, REnv K G S E σ F → E.length = σ.length := by
  intro E
  induction E with
  | nil => intro σ F h; rw [h.1]; rfl
  | cons e E ih =>
    intro σ F h
    cases e with
    | none => obtain ⟨w, σ', e, h⟩ := h; rw [e, List.length_cons, List.length_cons, ih h]
    | some d => obtain ⟨v, σ', F1, F2, e, _, _, h⟩ := h; rw [e, List.length_cons, List.length_cons, ih h]
theorem REnv.mono : ∀ {E : En} {σ : St} {F : List Addr}, REnv K G S E σ F → (∀ p o, S p → G p = some o → G' p = some o) → (∀ p, p ∈ F → G' p = G p) → (∀ p, S p → S' p) → REnv K G' S' E σ F := by
  intro E
  induction E with
  | nil => intro σ F h _ _ _; exact h
  | cons e E ih =>
    intro σ F h a b c
    cases e with
    | none => obtain ⟨w, σ', e, h⟩ := h; exact ⟨w, σ', e, ih h a b c⟩
    | some d =>
      obtain ⟨v, σ', F1, F2, e, z, r, h⟩ := h
      subst z
      exact ⟨v, σ', F1, F2, e, rfl, r.mono a (fun p hp => b p (List.mem_append_left _ hp)) c, ih h a (fun p hp => b p (List.mem_append_right _ hp)) c⟩
theorem REnv.dom : ∀ {E : En} {σ : St} {F : List Addr}, REnv K G S E σ F → ∀ p, p ∈ F → ∃ o, G p = some o := by
  intro E
  induction E with
  | nil => intro σ F h p hp; rw [h.2] at hp; cases hp
  | cons e E ih =>
    intro σ F h p hp
    cases e with
    | none => obtain ⟨w, σ', e, h⟩ := h; exact ih h p hp
    | some d =>
      obtain ⟨v, σ', F1, F2, e, z, r, h⟩ := h
      subst z
      rcases List.mem_append.mp hp with hp | hp
      · exact r.dom p hp
      · exact ih h p hp
theorem REnv.get : ∀ {E : En} {σ : St} {F : List Addr} {i : Nat} {d : D}, REnv K G S E σ F → E[i]? = some (some d) → ∃ v F1 Fr, σ[i]? = some (some v) ∧ Rp K G S d v F1 ∧ REnv K G S (E.set i none) σ Fr ∧ F.Perm (F1 ++ Fr) := by
  intro E
  induction E with
  | nil => intro σ F i d h e; simp at e
  | cons x E ih =>
    intro σ F i d h e
    cases i with
    | zero =>
      simp at e
      subst e
      obtain ⟨v, σ', F1, F2, e, z, r, h⟩ := h
      subst e z
      exact ⟨v, F1, F2, rfl, r, ⟨some v, σ', rfl, h⟩, .refl _⟩
    | succ i =>
      simp at e
      cases x with
      | none =>
        obtain ⟨w, σ', e1, h⟩ := h
        obtain ⟨v, F1, Fr, g1, g2, g3, g4⟩ := ih h e
        subst e1
        exact ⟨v, F1, Fr, by simpa using g1, g2, ⟨w, σ', rfl, g3⟩, g4⟩
      | some d0 =>
        obtain ⟨v0, σ', A, B, e1, z, r, h⟩ := h
        obtain ⟨v, F1, Fr, g1, g2, g3, g4⟩ := ih h e
        subst e1 z
        refine ⟨v, F1, A ++ Fr, by simpa using g1, g2, ⟨v0, σ', A, Fr, rfl, rfl, r, g3⟩, ?_⟩
        have q : (A ++ B).Perm (A ++ (F1 ++ Fr)) := List.Perm.append_left A g4
        have q2 : (A ++ (F1 ++ Fr)).Perm (F1 ++ (A ++ Fr)) := by
          rw [← List.append_assoc, ← List.append_assoc]
          exact List.Perm.append_right Fr List.perm_append_comm
        exact q.trans q2
theorem REnv.drop : ∀ {E : En} {σ : St} {F : List Addr} (i : Nat) (w : Option V), REnv K G S E σ F → ∃ F', REnv K G S (E.set i none) (σ.set i w) F' ∧ F'.Sublist F := by
  intro E
  induction E with
  | nil =>
    intro σ F i w h
    obtain ⟨e1, e2⟩ := h
    subst e1 e2
    exact ⟨[], ⟨rfl, rfl⟩, .refl _⟩
  | cons x E ih =>
    intro σ F i w h
    cases i with
    | zero =>
      cases x with
      | none =>
        obtain ⟨u, σ', e, h⟩ := h
        subst e
        exact ⟨F, ⟨w, σ', rfl, h⟩, .refl _⟩
      | some d =>
        obtain ⟨v, σ', A, B, e, z, r, h⟩ := h
        subst e z
        exact ⟨B, ⟨w, σ', rfl, h⟩, List.sublist_append_right A B⟩
    | succ i =>
      cases x with
      | none =>
        obtain ⟨u, σ', e, h⟩ := h
        subst e
        obtain ⟨F', h', s⟩ := ih i w h
        exact ⟨F', ⟨u, σ'.set i w, rfl, h'⟩, s⟩
      | some d =>
        obtain ⟨v, σ', A, B, e, z, r, h⟩ := h
        subst e z
        obtain ⟨F', h', s⟩ := ih i w h
        exact ⟨A ++ F', ⟨v, σ'.set i w, A, F', rfl, rfl, r, h'⟩, List.Sublist.append (.refl _) s⟩
theorem REnv.put : ∀ {E : En} {σ : St} {F : List Addr} {i : Nat} {d : D} {v : V} {F1 : List Addr}, REnv K G S E σ F → E[i]? = some none → Rp K G S d v F1 → ∃ F', REnv K G S (E.set i (some d)) (σ.set i (some v)) F' ∧ F'.Perm (F1 ++ F) := by
  intro E
  induction E with
  | nil => intro σ F i d v F1 h e; simp at e
  | cons x E ih =>
    intro σ F i d v F1 h e r
    cases i with
    | zero =>
      simp at e
      subst e
      obtain ⟨w, σ', e, h⟩ := h
      subst e
      exact ⟨F1 ++ F, ⟨v, σ', F1, F, rfl, rfl, r, h⟩, .refl _⟩
    | succ i =>
      simp at e
      cases x with
      | none =>
        obtain ⟨w, σ', e1, h⟩ := h
        subst e1
        obtain ⟨F', h', p⟩ := ih h e r
        exact ⟨F', ⟨w, _, rfl, h'⟩, p⟩
      | some d0 =>
        obtain ⟨v0, σ', A, B, e1, z, r0, h⟩ := h
        subst e1 z
        obtain ⟨F', h', p⟩ := ih h e r
        refine ⟨A ++ F', ⟨v0, _, A, F', rfl, rfl, r0, h'⟩, (List.Perm.append_left A p).trans ?_⟩
        rw [← List.append_assoc, ← List.append_assoc]
        exact List.Perm.append_right B List.perm_append_comm
end

/-- the state at hand -/
structure SR (K : PySem.W.Frag) (G : Hp) (S : Addr → Prop) (E : En) (σ : St) (F : List Addr) : Prop where
  rep : REnv K G S E σ F
  nd : F.Nodup
  ns : ∀ a, a ∈ F → ¬ S a
  sd : ∀ a, S a → ∃ o, G a = some o
/-- from one state to another -/
structure Stp (G : Hp) (S : Addr → Prop) (F : List Addr) (G' : Hp) (S' : Addr → Prop) (F' : List Addr) : Prop where
  keep : ∀ a o, G a = some o → a ∉ F → G' a = some o
  live : ∀ a o, G a = some o → ∃ o', G' a = some o'
  fs : ∀ a, a ∈ F' → a ∈ F ∨ G a = none
  ss : ∀ a, S a → S' a
  sn : ∀ a, S' a → S a ∨ a ∈ F ∨ G a = none
theorem Stp.refl {G : Hp} {S : Addr → Prop} {F : List Addr} : Stp G S F G S F := ⟨fun _ _ h _ => h, fun _ o h => ⟨o, h⟩, fun _ h => .inl h, fun _ h => h, fun _ h => .inl h⟩
theorem Stp.back {G G' : Hp} {S S' : Addr → Prop} {F F' : List Addr} (s : Stp G S F G' S' F') {a : Addr} (h : G' a = none) : G a = none := by
  cases q : G a with
  | none => rfl
  | some o =>
    obtain ⟨o', e⟩ := s.live a o q
    rw [h] at e; cases e
theorem Stp.trans {G G1 G2 : Hp} {S S1 S2 : Addr → Prop} {F F1 F2 : List Addr} (s : Stp G S F G1 S1 F1) (t : Stp G1 S1 F1 G2 S2 F2) : Stp G S F G2 S2 F2 where
  keep := fun a o h n => t.keep a o (s.keep a o h n) fun m => by
    rcases s.fs a m with m | m
    · exact n m
    · rw [h] at m; cases m
  live := fun a o h => by
    obtain ⟨o', e⟩ := s.live a o h
    exact t.live a o' e
  fs := fun a h => by
    rcases t.fs a h with h | h
    · exact s.fs a h
    · exact .inr (s.back h)
  ss := fun a h => t.ss a (s.ss a h)
  sn := fun a h => by
    rcases t.sn a h with h | h | h
    · exact s.sn a h
    · exact .inr (s.fs a h)
    · exact .inr (.inr (s.back h))
/-- fewer own ones behind -/
theorem Stp.less {G G' : Hp} {S S' : Addr → Prop} {F F' F2 : List Addr} (s : Stp G S F G' S' F') (h : ∀ a, a ∈ F2 → a ∈ F') : Stp G S F G' S' F2 := ⟨s.keep, s.live, fun a m => s.fs a (h a m), s.ss, s.sn⟩
theorem Stp.more {G G' : Hp} {S S' : Addr → Prop} {F F' F0 : List Addr} (s : Stp G S F G' S' F') (h : ∀ a, a ∈ F → a ∈ F0) : Stp G S F0 G' S' F' :=
  ⟨fun a o e n => s.keep a o e fun m => n (h a m), s.live, fun a m => (s.fs a m).imp (h a) id, s.ss, fun a m => (s.sn a m).imp id fun z => z.imp (h a) id⟩
/-- what stands beside -/
theorem Stp.frame {G G' : Hp} {S S' : Addr → Prop} {F F' R : List Addr} (s : Stp G S F G' S' F') : Stp G S (R ++ F) G' S' (R ++ F') :=
  ⟨fun a o e n => s.keep a o e fun m => n (List.mem_append_right _ m), s.live, fun a m => by
    rcases List.mem_append.mp m with m | m
    · exact .inl (List.mem_append_left _ m)
    · exact (s.fs a m).imp (List.mem_append_right _) id, s.ss, fun a m => (s.sn a m).imp id fun z => z.imp (List.mem_append_right _) id⟩
/-- what is read stays -/
theorem Stp.rd {G G' : Hp} {S S' : Addr → Prop} {F F' : List Addr} (s : Stp G S F G' S' F') (ns : ∀ a, a ∈ F → ¬ S a) : ∀ p o, S p → G p = some o → G' p = some o := fun p o h r => s.keep p o r fun m => ns p m h
/-- what stands apart bears what it bore -/
theorem Stp.rp {K : PySem.W.Frag} {G G' : Hp} {S S' : Addr → Prop} {F F' T : List Addr} {d : D} {v : V} (s : Stp G S F G' S' F') (ns : ∀ a, a ∈ F → ¬ S a) (r : Rp K G S d v T) (ap : ∀ a, a ∈ T → a ∉ F) : Rp K G' S' d v T :=
  r.mono (s.rd ns) (fun p hp => by
    obtain ⟨o, e⟩ := r.dom p hp
    rw [e, s.keep p o e (ap p hp)]) s.ss

/-- an operand: a name's slot, or a value at hand -/
inductive Opd where
  | slot (i : Nat)
  | temp (d : D)
def RpO (K : PySem.W.Frag) (σ : St) (G : Hp) (S : Addr → Prop) : Opd → V → List Addr → Prop
  | .slot i, v, T => σ[i]? = some (some v) ∧ T = []
  | .temp d, v, T => Rp K G S d v T
def RpOs (K : PySem.W.Frag) (σ : St) (G : Hp) (S : Addr → Prop) : List Opd → List V → List Addr → Prop
  | [], vs, T => vs = [] ∧ T = []
  | o :: os, vs, T => ∃ v vs' T1 T2, vs = v :: vs' ∧ T = T1 ++ T2 ∧ RpO K σ G S o v T1 ∧ RpOs K σ G S os vs' T2
section
variable {K : PySem.W.Frag} {σ : St} {G G' G1 G2 : Hp} {S S' S1 S2 : Addr → Prop} {F F' F1 F2 T T1 T2 : List Addr} {E E' E1 E2 : En} {os os' : List Opd} {vs vs' : List V}
theorem RpO.dom : ∀ {o : Opd} {v : V}, RpO K σ G S o v T → ∀ p, p ∈ T → ∃ u, G p = some u
  | .slot i, _, h, p, hp => by rw [h.2] at hp; cases hp
  | .temp d, _, h, p, hp => Rp.dom h p hp
theorem RpO.mono : ∀ {o : Opd} {v : V}, RpO K σ G S o v T → (∀ p o, S p → G p = some o → G' p = some o) → (∀ p, p ∈ T → G' p = G p) → (∀ p, S p → S' p) → RpO K σ G' S' o v T
  | .slot i, _, h, _, _, _ => h
  | .temp d, _, h, a, b, c => Rp.mono h a b c
theorem RpOs.dom : ∀ {os : List Opd} {vs : List V} {T : List Addr}, RpOs K σ G S os vs T → ∀ p, p ∈ T → ∃ u, G p = some u := by
  intro os
  induction os with
  | nil => intro vs T h p hp; rw [h.2] at hp; cases hp
  | cons o os ih =>
    intro vs T h p hp
    obtain ⟨v, vs', T1, T2, e, z, r, h⟩ := h
    subst z
    rcases List.mem_append.mp hp with hp | hp
    · exact r.dom p hp
    · exact ih h p hp
theorem RpOs.mono : ∀ {os : List Opd} {vs : List V} {T : List Addr}, RpOs K σ G S os vs T → (∀ p o, S p → G p = some o → G' p = some o) → (∀ p, p ∈ T → G' p = G p) → (∀ p, S p → S' p) → RpOs K σ G' S' os vs T := by
  intro os
  induction os with
  | nil => intro vs T h _ _ _; exact h
  | cons o os ih =>
    intro vs T h a b c
    obtain ⟨v, vs', T1, T2, e, z, r, h⟩ := h
    subst z
    exact ⟨v, vs', T1, T2, e, rfl, r.mono a (fun p hp => b p (List.mem_append_left _ hp)) c, ih h a (fun p hp => b p (List.mem_append_right _ hp)) c⟩
theorem RpOs.append : ∀ {os os' : List Opd} {vs vs' : List V} {T T' : List Addr}, RpOs K σ G S os vs T → RpOs K σ G S os' vs' T' → RpOs K σ G S (os ++ os') (vs ++ vs') (T ++ T') := by
  intro os
  induction os with
  | nil =>
    intro os' vs vs' T T' h h'
    obtain ⟨e, z⟩ := h
    subst e z
    exact h'
  | cons o os ih =>
    intro os' vs vs' T T' h h'
    obtain ⟨v, vs1, T1, T2, e, z, r, h⟩ := h
    subst e z
    exact ⟨v, vs1 ++ vs', T1, T2 ++ T', rfl, by rw [List.append_assoc], r, ih h h'⟩
theorem RpOs.one {o : Opd} {v : V} : RpOs K σ G S [o] [v] T → RpO K σ G S o v T := by
  rintro ⟨v', vs', T1, T2, e, z, r, h⟩
  obtain ⟨e2, z2⟩ := h
  subst z2 z
  injection e with e1 _
  subst e1
  simpa using r
theorem RpOs.of {o : Opd} {v : V} (h : RpO K σ G S o v T) : RpOs K σ G S [o] [v] T := ⟨v, [], T, [], rfl, by simp, h, rfl, rfl⟩

/-- operands at hand, behind G S F -/
structure RO (K : PySem.W.Frag) (σ : St) (G : Hp) (S : Addr → Prop) (F : List Addr) (E' : En) (os : List Opd) (vs : List V) (G' : Hp) (S' : Addr → Prop) (T F' : List Addr) : Prop where
  sr : SR K G' S' E' σ F'
  ro : RpOs K σ G' S' os vs T
  nd : (T ++ F').Nodup
  ns : ∀ a, a ∈ T → ¬ S' a
  stp : Stp G S F G' S' (T ++ F')
theorem RO.nil (h : SR K G S E σ F) : RO K σ G S F E [] [] G S [] F := ⟨h, ⟨rfl, rfl⟩, h.nd, (fun _ m => by cases m), .refl⟩
theorem nd_app {A B : List Addr} : (A ++ B).Nodup ↔ A.Nodup ∧ B.Nodup ∧ ∀ a, a ∈ A → a ∉ B := by
  rw [List.nodup_append]
  constructor
  · rintro ⟨h1, h2, h3⟩
    exact ⟨h1, h2, fun a ha hb => h3 a ha a hb rfl⟩
  · rintro ⟨h1, h2, h3⟩
    refine ⟨h1, h2, fun a ha b hb e => ?_⟩
    subst e
    exact h3 a ha hb
theorem RO.app (h1 : RO K σ G S F E1 os vs G1 S1 T1 F1) (h2 : RO K σ G1 S1 F1 E2 os' vs' G2 S2 T2 F2) : RO K σ G S F E2 (os ++ os') (vs ++ vs') G2 S2 (T1 ++ T2) F2 := by
  obtain ⟨n1, n2, n3⟩ := nd_app.mp h1.nd
  have ap : ∀ a, a ∈ T1 → a ∉ T2 ++ F2 := fun a ha hb => by
    obtain ⟨o, e⟩ := h1.ro.dom a ha
    rcases h2.stp.fs a hb with m | m
    · exact n3 a ha m
    · rw [e] at m; cases m
  refine ⟨h2.sr, RpOs.append (h1.ro.mono (h2.stp.rd h1.sr.ns) (fun p hp => ?_) h2.stp.ss) h2.ro, ?_, fun a ha hs => ?_, ?_⟩
  · obtain ⟨o, e⟩ := h1.ro.dom p hp
    rw [e, h2.stp.keep p o e (n3 p hp)]
  · rw [List.append_assoc]
    exact nd_app.mpr ⟨n1, h2.nd, ap⟩
  · rcases List.mem_append.mp ha with ha | ha
    · rcases h2.stp.sn a hs with m | m | m
      · exact h1.ns a ha m
      · exact n3 a ha m
      · obtain ⟨o, e⟩ := h1.ro.dom a ha
        rw [e] at m; cases m
    · exact h2.ns a ha hs
  · rw [List.append_assoc]
    exact h1.stp.trans h2.stp.frame
end

/-- an operand looked at: its items are frozen, its top stays as it is -/
def look : Opd → En → Option (D × En)
  | .temp d, E => some (frzK d, E)
  | .slot i, E => match E[i]? with
    | some (some d) => some (frzK d, E.set i (some (frzK d)))
    | _ => none
def looks : List Opd → En → Option (List D × En)
  | [], E => some ([], E)
  | o :: os, E => match look o E with
    | some (d, E1) => match looks os E1 with
      | some (ds, E2) => some (d :: ds, E2)
      | none => none
    | none => none
/-- each of the values bears its datum -/
def RpE (K : PySem.W.Frag) (G : Hp) (S : Addr → Prop) : List D → List V → Prop
  | [], vs => vs = []
  | d :: ds, vs => ∃ v vs', vs = v :: vs' ∧ (∃ T, Rp K G S d v T) ∧ frzK d = d ∧ RpE K G S ds vs'
theorem frzK_frzK (d : D) : frzK (frzK d) = frzK d := by
  cases d <;> first
    | rfl
    | (show D.tup (frzL (frzL _)) = _; rw [frzL_frzL]; rfl)
    | (show D.lst _ (frzL (frzL _)) = _; rw [frzL_frzL]; rfl)
    | (show D.dK _ _ (frzL (frzL _)) = _; rw [frzL_frzL]; rfl)
    | (show D.scr (frzL (frzL _)) = _; rw [frzL_frzL]; rfl)
section
variable {K : PySem.W.Frag} {σ : St} {G G' : Hp} {S S' : Addr → Prop}
theorem RpE.mono : ∀ {ds : List D} {vs : List V}, RpE K G S ds vs → (∀ p, S p → S' p) → RpE K G S' ds vs := by
  intro ds
  induction ds with
  | nil => intro vs h _; exact h
  | cons d ds ih =>
    intro vs h a
    obtain ⟨v, vs', e, ⟨T, r⟩, q, h⟩ := h
    exact ⟨v, vs', e, ⟨T, r.mono (fun _ _ _ z => z) (fun _ _ => rfl) a⟩, q, ih h a⟩
theorem look_ok {o : Opd} {v : V} {T F : List Addr} {E E' : En} {d : D} (sr : SR K G S E σ F) (r : RpO K σ G S o v T) (nd : (T ++ F).Nodup) (nt : ∀ a, a ∈ T → ¬ S a) (h : look o E = some (d, E')) :
    ∃ S' F', SR K G S' E' σ F' ∧ (∃ T', Rp K G S' d v T') ∧ frzK d = d ∧ (∀ a, S a → S' a) ∧ (∀ a, S' a → S a ∨ a ∈ T ++ F) ∧ (∀ a, a ∈ F' → a ∈ F) ∧ (∀ a, a ∈ F → S' a → a ∉ F') ∧ (∀ a, a ∉ T → a ∉ F → S' a → S a) := by
  obtain ⟨n1, n2, n3⟩ := nd_app.mp nd
  cases o with
  | temp d0 =>
    injection h with h
    injection h with h1 h2
    subst h1 h2
    have r : Rp K G S d0 v T := r
    obtain ⟨F0, s0, nd0, f0⟩ := Rp.frzK r n1
    refine ⟨fun a => S a ∨ (a ∈ T ∧ a ∉ F0), F, ⟨sr.rep.mono (fun _ _ _ z => z) (fun _ _ => rfl) fun _ z => .inl z, n2, fun a ha hs => ?_, fun a hs => ?_⟩, ⟨F0, f0 _ (fun _ z => .inl z) fun p h1 h2 => .inr ⟨h1, h2⟩⟩, frzK_frzK d0, fun _ z => .inl z, fun a hs => ?_, fun _ z => z, fun a ha hs => ?_, fun a h1 h2 hs => ?_⟩
    · rcases hs with hs | ⟨hs, _⟩
      · exact sr.ns a ha hs
      · exact n3 a hs ha
    · rcases hs with hs | ⟨hs, _⟩
      · exact sr.sd a hs
      · exact r.dom a hs
    · rcases hs with hs | ⟨hs, _⟩
      · exact .inl hs
      · exact .inr (List.mem_append_left _ hs)
    · rcases hs with hs | ⟨hs, _⟩
      · exact absurd hs (sr.ns a ha)
      · exact absurd ha (n3 a hs)
    · rcases hs with hs | ⟨hs, _⟩
      · exact hs
      · exact absurd hs h1
  | slot i =>
    simp only [look] at h
    split at h
    · rename_i d0 hi
      injection h with h
      injection h with h1 h2
      subst h1 h2
      obtain ⟨hv, _⟩ := r
      obtain ⟨v', F1, Fr, g1, g2, g3, g4⟩ := sr.rep.get hi
      rw [hv] at g1
      injection g1 with g1
      injection g1 with g1
      subst g1
      have ndp : (F1 ++ Fr).Nodup := g4.nodup_iff.mp n2
      obtain ⟨p1, p2, p3⟩ := nd_app.mp ndp
      obtain ⟨F0, s0, nd0, f0⟩ := Rp.frzK g2 p1
      have mF : ∀ a, a ∈ F ↔ a ∈ F1 ++ Fr := fun a => g4.mem_iff
      have hl : i < E.length := (List.getElem?_eq_some_iff.mp hi).1
      obtain ⟨F', h', pp⟩ := REnv.put (i := i) (d := DE.frzK d0) (v := v) (S := fun a => S a ∨ (a ∈ F1 ∧ a ∉ F0)) (g3.mono (fun _ _ _ z => z) (fun _ _ => rfl) fun _ z => .inl z) (by rw [List.getElem?_set_self hl]) (f0 _ (fun _ z => .inl z) fun p h1 h2 => .inr ⟨h1, h2⟩)
      have hσ : σ.set i (some v) = σ := by
        apply List.ext_getElem?
        intro j
        by_cases e : j = i
        · subst e
          have hl' : j < σ.length := (List.getElem?_eq_some_iff.mp hv).1
          rw [List.getElem?_set_self hl', hv]
        · rw [List.getElem?_set_ne (Ne.symm e)]
      rw [List.set_set, hσ] at h'
      have mF' : ∀ a, a ∈ F' ↔ a ∈ F0 ++ Fr := fun a => pp.mem_iff
      have sub : ∀ a, a ∈ F' → a ∈ F := fun a ha => by
        rw [mF]
        rcases List.mem_append.mp ((mF' a).mp ha) with m | m
        · exact List.mem_append_left _ (s0 a m)
        · exact List.mem_append_right _ m
      have cut : ∀ a, a ∈ F1 → a ∉ F0 → a ∉ F' := fun a h1 h2 h3 => by
        rcases List.mem_append.mp ((mF' a).mp h3) with m | m
        · exact h2 m
        · exact p3 a h1 m
      refine ⟨_, F', ⟨h', pp.nodup_iff.mpr (nd_app.mpr ⟨nd0, p2, fun a ha => p3 a (s0 a ha)⟩), fun a ha hs => ?_, fun a hs => ?_⟩, ⟨F0, f0 _ (fun _ z => .inl z) fun p h1 h2 => .inr ⟨h1, h2⟩⟩, frzK_frzK d0, fun _ z => .inl z, fun a hs => ?_, sub, fun a ha hs => ?_, fun a h1 h2 hs => ?_⟩
      · rcases hs with hs | ⟨h1, h2⟩
        · exact sr.ns a (sub a ha) hs
        · exact cut a h1 h2 ha
      · rcases hs with hs | ⟨hs, _⟩
        · exact sr.sd a hs
        · exact g2.dom a hs
      · rcases hs with hs | ⟨hs, _⟩
        · exact .inl hs
        · exact .inr (List.mem_append_right _ ((mF a).mpr (List.mem_append_left _ hs)))
      · rcases hs with hs | ⟨h1, h2⟩
        · exact absurd hs (sr.ns a ha)
        · exact cut a h1 h2
      · rcases hs with hs | ⟨h1', _⟩
        · exact hs
        · exact absurd ((mF a).mpr (List.mem_append_left _ h1')) h2
    · cases h
theorem looks_ok : ∀ {os : List Opd} {vs : List V} {T F : List Addr} {E E' : En} {ds : List D} {S : Addr → Prop}, SR K G S E σ F → RpOs K σ G S os vs T → (T ++ F).Nodup → (∀ a, a ∈ T → ¬ S a) → looks os E = some (ds, E') →
    ∃ S' F', SR K G S' E' σ F' ∧ RpE K G S' ds vs ∧ (∀ a, S a → S' a) ∧ (∀ a, S' a → S a ∨ a ∈ T ++ F) ∧ (∀ a, a ∈ F' → a ∈ F) := by
  intro os
  induction os with
  | nil =>
    intro vs T F E E' ds S sr r nd nt h
    injection h with h
    injection h with h1 h2
    subst h1 h2
    exact ⟨S, F, sr, r.1, fun _ z => z, fun _ z => .inl z, fun _ z => z⟩
  | cons o os ih =>
    intro vs T F E E' ds S sr r nd nt h
    obtain ⟨v, vs', T1, T2, e, z, ro, r⟩ := r
    subst e z
    unfold looks at h
    split at h
    · rename_i d E1 h1
      split at h
      · rename_i ds2 E2 h2
        injection h with h
        injection h with e1 e2
        subst e1 e2
        rw [List.append_assoc] at nd
        obtain ⟨n1, n2, n3⟩ := nd_app.mp nd
        obtain ⟨n4, n5, n6⟩ := nd_app.mp n2
        have nd1 : (T1 ++ F).Nodup := nd_app.mpr ⟨n1, n5, fun a ha hb => n3 a ha (List.mem_append_right _ hb)⟩
        obtain ⟨S1, F1, sr1, ⟨T', rp1⟩, q1, s1, s2, f1, f2, f3⟩ := look_ok sr ro nd1 (fun a ha => nt a (List.mem_append_left _ ha)) h1
        have out : ∀ a, a ∈ T2 → ¬ S1 a := fun a ha hs => nt a (List.mem_append_right _ ha) (f3 a (fun m => n3 a m (List.mem_append_left _ ha)) (n6 a ha) hs)
        obtain ⟨S2, F2, sr2, rp2, t1, t2, g1⟩ := ih sr1 (r.mono (fun _ _ _ z => z) (fun _ _ => rfl) s1) (nd_app.mpr ⟨n4, sr1.nd, fun a ha hb => n6 a ha (f1 a hb)⟩) out h2
        refine ⟨S2, F2, sr2, ⟨v, vs', rfl, ⟨T', rp1.mono (fun _ _ _ z => z) (fun _ _ => rfl) t1⟩, q1, rp2⟩, fun a ha => t1 a (s1 a ha), fun a ha => ?_, fun a ha => f1 a (g1 a ha)⟩
        rcases t2 a ha with m | m
        · rcases s2 a m with m | m
          · exact .inl m
          · rcases List.mem_append.mp m with m | m
            · exact .inr (List.mem_append_left _ (List.mem_append_left _ m))
            · exact .inr (List.mem_append_right _ m)
        · rcases List.mem_append.mp m with m | m
          · exact .inr (List.mem_append_left _ (List.mem_append_right _ m))
          · exact .inr (List.mem_append_right _ (f1 a m))
      · cases h
    · cases h

/-- a value made of what stands: nothing that stood is changed -/
structure NewR (K : PySem.W.Frag) (G : Hp) (S : Addr → Prop) (z : D) (x : V) (G' : Hp) (S' : Addr → Prop) (Z : List Addr) : Prop where
  keep : ∀ a o, G a = some o → G' a = some o
  ss : ∀ a, S a → S' a
  sn : ∀ a, S' a → S a ∨ (G a = none ∧ ∃ o, G' a = some o)
  nd : Z.Nodup
  fr : ∀ a, a ∈ Z → G a = none
  ns : ∀ a, a ∈ Z → ¬ S' a
  rp : Rp K G' S' z x Z
theorem NewR.old {z : D} {x : V} (h : Rp K G S z x []) : NewR K G S z x G S [] := ⟨fun _ _ h => h, fun _ h => h, fun _ h => .inl h, .nil, (fun _ m => by cases m), (fun _ m => by cases m), h⟩
theorem NewR.lst {ds : List D} {vs : List V} {p : Addr} (sd : ∀ a, S a → ∃ o, G a = some o) (h : RpL K G S ds vs []) (hp : G p = none) : NewR K G S (.lst true ds) (.ref p) (upd G p (.lst vs)) S [p] := by
  have kp : ∀ a o, G a = some o → upd G p (.lst vs) a = some o := fun a o e => by rw [upd_ne (ne_of_none e hp)]; exact e
  refine ⟨kp, fun _ h => h, fun _ h => .inl h, by simp, fun a m => by rw [List.mem_singleton.mp m]; exact hp, fun a m hs => ?_, ⟨p, vs, [], rfl, rfl, upd_same, h.mono (fun q o hs r => kp _ _ r) (fun _ m => by cases m) fun _ z => z⟩⟩
  rw [List.mem_singleton.mp m] at hs
  obtain ⟨o, e⟩ := sd p hs
  rw [hp] at e; cases e
theorem NewR.tup {ds : List D} {vs : List V} {p : Addr} (h : RpL K G S ds vs []) (hp : G p = none) : NewR K G S (.tup ds) (.ref p) (upd G p (.tup vs)) (fun a => S a ∨ a = p) [] := by
  have kp : ∀ a o, G a = some o → upd G p (.tup vs) a = some o := fun a o e => by rw [upd_ne (ne_of_none e hp)]; exact e
  refine ⟨kp, fun _ h => .inl h, fun a h => ?_, .nil, (fun _ m => by cases m), (fun _ m => by cases m), ⟨p, vs, rfl, .inl ⟨.inr rfl, upd_same⟩, h.mono (fun q o hs r => kp _ _ r) (fun _ m => by cases m) fun _ z => .inl z⟩⟩
  rcases h with h | h
  · exact .inl h
  · subst h
    exact .inr ⟨hp, _, upd_same⟩
end
end DE

/-! Part C: what is done with values, without a change of what stands. -/
namespace DE
open PySem PySem.Spec L2

abbrev lim : Nat := 1000000
theorem lim_le {n : Nat} (h : n ≤ lim) : n ≤ sizeLine := Nat.le_trans h (by decide)

/-- what is wanted of a value that is made -/
def Good (K : PySem.W.Frag) (G : Hp) (S : Addr → Prop) (z : D) (Q : VK) : Prop := ∀ x G' S' Z, NewR K G S z x G' S' Z → Q x G'
section
variable {K : PySem.W.Frag} {G : Hp} {S : Addr → Prop} {Q : VK} {d e z : D} {v w : V} {ds es : List D} {T : List Addr}
theorem Good.old (h : Good K G S z Q) (r : Rp K G S z v []) : Q v G := h v G S [] (.old r)
theorem Good.int {i : Int} (h : Good K G S (.int i) Q) : Q (.int i) G := h.old ⟨rfl, rfl⟩
theorem Good.bl {b : Bool} (h : Good K G S (.bl b) Q) : Q (.bl b) G := h.old ⟨rfl, rfl⟩
theorem Good.str {x : Str} (h : Good K G S (.str x) Q) : Q (.str x) G := h.old ⟨rfl, rfl⟩
theorem Good.non (h : Good K G S .non Q) : Q .non G := h.old ⟨rfl, rfl⟩
theorem Good.lst {vs : List V} (sd : ∀ a, S a → ∃ o, G a = some o) (h : Good K G S (.lst true ds) Q) (r : RpL K G S ds vs []) : ∀ p, G p = none → Q (.ref p) (upd G p (.lst vs)) := fun p hp => h _ _ _ _ (.lst sd r hp)
theorem Good.tup {vs : List V} (h : Good K G S (.tup ds) Q) (r : RpL K G S ds vs []) : ∀ p, G p = none → Q (.ref p) (upd G p (.tup vs)) := fun p hp => h _ _ _ _ (.tup r hp)

theorem RpE.one (h : RpE K G S [d] [v]) : (∃ T, Rp K G S d v T) ∧ frzK d = d := by
  obtain ⟨v', vs', e, r, q, _⟩ := h
  injection e with e _
  subst e
  exact ⟨r, q⟩
theorem RpE.two (h : RpE K G S [d, e] [v, w]) : (∃ T, Rp K G S d v T) ∧ frzK d = d ∧ (∃ T, Rp K G S e w T) ∧ frzK e = e := by
  obtain ⟨v', vs', e1, r, q, h⟩ := h
  injection e1 with e1 e2
  subst e1 e2
  exact ⟨r, q, h.one⟩
theorem RpE.tail {vs : List V} (h : RpE K G S (d :: ds) (v :: vs)) : (∃ T, Rp K G S d v T) ∧ frzK d = d ∧ RpE K G S ds vs := by
  obtain ⟨v', vs', e1, r, q, h⟩ := h
  injection e1 with e1 e2
  subst e1 e2
  exact ⟨r, q, h⟩
theorem RpE.len : ∀ {ds : List D} {vs : List V}, RpE K G S ds vs → ds.length = vs.length := by
  intro ds
  induction ds with
  | nil =>
    intro vs h
    have h : vs = [] := h
    rw [h]
    rfl
  | cons d ds ih =>
    intro vs h
    obtain ⟨v', vs', e1, r, q, h⟩ := h
    rw [e1, List.length_cons, List.length_cons, ih h]

theorem rp_int {i : Int} (h : Rp K G S (.int i) v T) : v = .int i := h.1
theorem rp_bl {i : Bool} (h : Rp K G S (.bl i) v T) : v = .bl i := h.1
theorem rp_str {i : Str} (h : Rp K G S (.str i) v T) : v = .str i := h.1
theorem rp_non (h : Rp K G S .non v T) : v = .non := h.1
theorem rp_lst {m : Bool} (h : Rp K G S (.lst m ds) v T) (q : frzK (.lst m ds) = .lst m ds) : ∃ p vs, v = .ref p ∧ G p = some (.lst vs) ∧ RpL K G S ds vs [] ∧ frzL ds = ds := by
  have hq : frzL ds = ds := by injection q
  cases m with
  | true =>
    obtain ⟨p, vs, F', e, z, hp, r⟩ := h
    have := r.nil hq
    subst this
    exact ⟨p, vs, e, hp, r, hq⟩
  | false =>
    obtain ⟨_, p, vs, e, _, hp, r⟩ := h
    exact ⟨p, vs, e, hp, r, hq⟩
theorem rp_tup (h : Rp K G S (.tup ds) v T) (q : frzK (.tup ds) = .tup ds) : ∃ p vs, v = .ref p ∧ SqT K G p vs ∧ RpL K G S ds vs [] ∧ frzL ds = ds := by
  have hq : frzL ds = ds := by injection q
  obtain ⟨p, vs, e, hp, r⟩ := h
  have := r.nil hq
  subst this
  refine ⟨p, vs, e, ?_, r, hq⟩
  rcases hp with ⟨_, hp⟩ | hp
  · exact SqT.of hp
  · exact hp.to
theorem rp_scr (h : Rp K G S (.scr ds) v T) : ∃ p vs, v = .ref p ∧ SqL K G p vs ∧ RpL K G S ds vs [] := by
  obtain ⟨_, p, vs, e, hp, r⟩ := h
  refine ⟨p, vs, e, ?_, r⟩
  rcases hp with ⟨_, hp⟩ | hp
  · exact .inl hp
  · exact hp.to
def seqOf : D → Option (List D)
  | .lst _ ds => some ds
  | .tup ds => some ds
  | .scr ds => some ds
  | _ => none
theorem rp_seq (h : Rp K G S d v T) (q : frzK d = d) (hs : seqOf d = some ds) : ∃ p vs, v = .ref p ∧ (SqL K G p vs ∨ SqT K G p vs) ∧ RpL K G S ds vs [] := by
  cases d <;> simp only [seqOf, Option.some.injEq, reduceCtorEq] at hs
  · subst hs
    obtain ⟨p, vs, e, hp, r, _⟩ := rp_tup h q
    exact ⟨p, vs, e, .inr hp, r⟩
  · subst hs
    obtain ⟨p, vs, e, hp, r, _⟩ := rp_lst h q
    exact ⟨p, vs, e, .inl (SqL.of hp), r⟩
  · subst hs
    obtain ⟨p, vs, e, hp, r⟩ := rp_scr h
    exact ⟨p, vs, e, .inl hp, r⟩

theorem RpL.drop : ∀ {ds : List D} {vs : List V} (n : Nat), RpL K G S ds vs [] → RpL K G S (ds.drop n) (vs.drop n) [] := by
  intro ds
  induction ds with
  | nil =>
    intro vs n h
    obtain ⟨h, _⟩ := h
    subst h
    rw [List.drop_nil, List.drop_nil]
    exact ⟨rfl, rfl⟩
  | cons d ds ih =>
    intro vs n h
    cases n with
    | zero => exact h
    | succ n =>
      obtain ⟨v, vs', A, B, e, z, h, r⟩ := h
      subst e
      have hz := List.append_eq_nil_iff.mp z.symm
      rw [hz.2] at r
      exact ih n r
theorem RpL.take : ∀ {ds : List D} {vs : List V} (n : Nat), RpL K G S ds vs [] → RpL K G S (ds.take n) (vs.take n) [] := by
  intro ds
  induction ds with
  | nil =>
    intro vs n h
    obtain ⟨h, _⟩ := h
    subst h
    rw [List.take_nil, List.take_nil]
    exact ⟨rfl, rfl⟩
  | cons d ds ih =>
    intro vs n h
    cases n with
    | zero => exact ⟨rfl, rfl⟩
    | succ n =>
      obtain ⟨v, vs', A, B, e, z, h, r⟩ := h
      subst e
      have hz := List.append_eq_nil_iff.mp z.symm
      rw [hz.2] at r
      rw [hz.1] at h
      exact ⟨v, vs'.take n, [], [], rfl, rfl, h, ih n r⟩
end

/-! ### operators -/
def pAdd : D → D → Option D
  | .int i, .int j => some (.int (i + j))
  | .str a, .str b => if a.length + b.length ≤ lim then some (.str (a ++ b)) else none
  | .lst _ xs, .lst _ ys => if xs.length + ys.length ≤ lim then some (.lst true (xs ++ ys)) else none
  | .tup xs, .tup ys => if xs.length + ys.length ≤ lim then some (.tup (xs ++ ys)) else none
  | _, _ => none
def rAddU (K : PySem.W.Frag) : R2 := fun x y H Q => rI0 (fun i j => .int (i + j)) x y H Q ∨ (∃ i j, x = .str i ∧ y = .str j ∧ i.length + j.length ≤ sizeLine ∧ Q (.str (i ++ j)) H) ∨ rCat x y H Q ∨ rCatA K x y H Q
theorem OpR.or {X : Cx} {f : Value → Value → Sem Value} {r r' : R2} (h : OpR X f r) (h' : OpR X f r') : OpR X f (fun x y H Q => r x y H Q ∨ r' x y H Q) := by
  intro pins s σ H x y v u Q I rx ry q
  rcases q with q | q
  · exact h pins s σ H x y v u Q I rx ry q
  · exact h' pins s σ H x y v u Q I rx ry q
theorem op_addU {X : Cx} : OpR X (binaryOp .Add) (rAddU X.K) := OpR.or op_add (OpR.or op_add_str (OpR.or op_cat op_catA))

def pSub : D → D → Option D
  | .int i, .int j => some (.int (i - j))
  | _, _ => none
def cMul (i j : Int) : Bool := (decide (-18446744073709551616 < i) && decide (i < 18446744073709551616)) || (decide (-18446744073709551616 < j) && decide (j < 18446744073709551616))
def repS (x : Str) (n : Int) : Str := ⟨(List.replicate n.toNat x.cps).foldl (· ++ ·) #[]⟩
def pMul : D → D → Option D
  | .int i, .int j => if cMul i j then some (.int (i * j)) else none
  | .lst _ xs, .int k => if 0 ≤ k ∧ k ≤ 1000 ∧ xs.length * k.toNat ≤ lim then some (.lst true (List.replicate k.toNat xs).flatten) else none
  | .str x, .int n => if 2 ≤ n ∧ n ≤ 1000 ∧ x.length ≠ 0 ∧ x.length * n.toNat ≤ lim ∧ (repS x n).length ≤ lim then some (.str (repS x n)) else none
  | _, _ => none
def pDiv : D → D → Option D
  | .int i, .int j => if 0 < j ∧ j < 1073741824 then some (.int (i / j)) else none
  | _, _ => none
def pMod : D → D → Option D
  | .int i, .int j => if 0 < j then some (.int (i % j)) else none
  | _, _ => none
def pPow : D → D → Option D
  | .int i, .int j => if 0 ≤ j ∧ j ≤ 1000000 ∧ i.natAbs < 18446744073709551616 then some (.int (i ^ j.toNat)) else none
  | _, _ => none
def pNeg : D → Option D
  | .int i => some (.int (-i))
  | _ => none
def pAbs : D → Option D
  | .int i => some (.int (if i < 0 then -i else i))
  | _ => none
def pMin : D → D → Option D
  | .int i, .int j => some (.int (if j < i then j else i))
  | _, _ => none
def pMax : D → D → Option D
  | .int i, .int j => some (.int (if j > i then j else i))
  | _, _ => none
def pLt : D → D → Option D
  | .int i, .int j => some (.bl (decide (i < j)))
  | .str i, .str j => some (.bl (decide (i.cps.toList < j.cps.toList)))
  | _, _ => none
def pLe : D → D → Option D
  | .int i, .int j => some (.bl (decide (i ≤ j)))
  | .str i, .str j => some (.bl (!decide (j.cps.toList < i.cps.toList)))
  | _, _ => none
def pGt : D → D → Option D
  | .int i, .int j => some (.bl (decide (j < i)))
  | _, _ => none
def pGe : D → D → Option D
  | .int i, .int j => some (.bl (decide (j ≤ i)))
  | _, _ => none

/-! ### equal data -/
mutual
def py : D → PyData
  | .non => .none
  | .bl b => .bool b
  | .int i => .int i
  | .str x => .str x
  | .tup ds => .tuple (pyL ds)
  | .lst _ ds => .list (pyL ds)
  | .scr ds => .list (pyL ds)
  | .dK _ _ _ => .dict []
def pyL : List D → List PyData
  | [] => []
  | d :: ds => py d :: pyL ds
end
mutual
/-- no dict within -/
def noD : D → Bool
  | .tup ds => noDL ds
  | .lst _ ds => noDL ds
  | .scr ds => noDL ds
  | .dK _ _ _ => false
  | _ => true
def noDL : List D → Bool
  | [] => true
  | d :: ds => noD d && noDL ds
end
mutual
theorem Rp.dp {K : PySem.W.Frag} {G : Hp} {S : Addr → Prop} : ∀ {d : D} {v : V} {T : List Addr}, Rp K G S d v T → noD d = true → Dp K G v (py d)
  | .non, _, _, h, _ => by rw [h.1]; exact .non
  | .bl b, _, _, h, _ => by rw [h.1]; exact .bl b
  | .int i, _, _, h, _ => by rw [h.1]; exact .int i
  | .str x, _, _, h, _ => by rw [h.1]; exact .str x
  | .tup ds, _, _, ⟨p, vs, e, h, r⟩, n => by
    subst e
    refine .tup ?_ (RpL.dp r n)
    rcases h with ⟨_, h⟩ | h
    · exact SqT.of h
    · exact h.to
  | .lst false ds, _, _, ⟨_, p, vs, e, _, h, r⟩, n => by
    subst e
    exact .lst (SqL.of h) (RpL.dp r n)
  | .lst true ds, _, _, ⟨p, vs, F', e, _, h, r⟩, n => by
    subst e
    exact .lst (SqL.of h) (RpL.dp r n)
  | .scr ds, _, _, ⟨_, p, vs, e, h, r⟩, n => by
    subst e
    refine .lst ?_ (RpL.dp r n)
    rcases h with ⟨_, h⟩ | h
    · exact .inl h
    · exact h.to
  | .dK _ _ _, _, _, _, n => by cases n
theorem RpL.dp {K : PySem.W.Frag} {G : Hp} {S : Addr → Prop} : ∀ {ds : List D} {vs : List V} {T : List Addr}, RpL K G S ds vs T → noDL ds = true → DpAll K G vs (pyL ds)
  | [], _, _, h, _ => by rw [h.1]; exact .nil
  | d :: ds, _, _, ⟨v, vs', A, B, e, _, h, r⟩, n => by
    subst e
    have n' := (Bool.and_eq_true _ _).mp n
    exact .cons (Rp.dp h n'.1) (RpL.dp r n'.2)
end
def scV : D → Option V
  | .non => some .non
  | .bl b => some (.bl b)
  | .int i => some (.int i)
  | .str x => some (.str x)
  | _ => none
theorem scV_rp {K : PySem.W.Frag} {G : Hp} {S : Addr → Prop} {d : D} {v x : V} {T : List Addr} (h : Rp K G S d v T) (e : scV d = some x) : v = x := by
  cases d <;> first
    | (cases e; exact h.1)
    | cases e
def pyOk (d : D) : Bool := noD d && SeqAt.shaped (py d)
def pEq (d e : D) : Option Bool := match scV d, scV e with
  | some x, some y => if scal x y = true then some (decide (x = y)) else none
  | _, _ => if pyOk d && pyOk e then some (PyData.eqv (py d) (py e)) else none
def rEqU (K : PySem.W.Frag) : R2 := fun x y H Q => rEq x y H Q ∨ rEqD K x y H Q
def rNeU (K : PySem.W.Frag) : R2 := fun x y H Q => rNe x y H Q ∨ rNeD K x y H Q

/-! ### in -/
def vals : List D → Option (List V)
  | [] => some []
  | d :: ds => match scV d, vals ds with
    | some v, some vs => some (v :: vs)
    | _, _ => none
theorem vals_rp {K : PySem.W.Frag} {G : Hp} {S : Addr → Prop} : ∀ {ds : List D} {vs ws : List V} {T : List Addr}, RpL K G S ds vs T → vals ds = some ws → vs = ws := by
  intro ds
  induction ds with
  | nil =>
    intro vs ws T h e
    cases e
    exact h.1
  | cons d ds ih =>
    intro vs ws T h e
    obtain ⟨v, vs', A, B, e1, _, r, h⟩ := h
    subst e1
    unfold vals at e
    split at e
    · rename_i x xs h1 h2
      cases e
      rw [scV_rp r h1, ih h h2]
    · cases e
theorem vals_flat : ∀ {ds : List D} {ws : List V}, vals ds = some ws → ws.all flatV = true := by
  intro ds
  induction ds with
  | nil => intro ws e; cases e; rfl
  | cons d ds ih =>
    intro ws e
    unfold vals at e
    split at e
    · rename_i x xs h1 h2
      cases e
      rw [List.all_cons, ih h2, Bool.and_true]
      cases d <;> first
        | (cases h1; rfl)
        | cases h1
    · cases e
theorem scV_flat {d : D} {x : V} (e : scV d = some x) : flatV x = true := by
  cases d <;> first
    | (cases e; rfl)
    | cases e
def keyOf : D → Option Key
  | .int i => some (.inl i)
  | .str x => some (.inr x)
  | _ => none
def lookK (k : Key) : List Key → List D → Option D
  | k' :: ks, d :: ds => if k' = k then some d else lookK k ks ds
  | _, _ => none
def pIn : D → D → Option Bool
  | .str a, .str b => some (!(Builtin.Str.occurrences b a 0 b.length 1).isEmpty)
  | x, .dK _ ks ds => match keyOf x with
    | some k => some (lookK k ks ds).isSome
    | none => none
  | x, y => match scV x, seqOf y with
    | some v, some ds => match vals ds with
      | some vs => some (inV v vs)
      | none => none
    | _, _ => none

/-! ### items, slices -/
def pIdx : D → D → Option D
  | .str x, .int i => if x.length ≤ lim then (atI x.cps.toList i).map fun c => .str ⟨#[c]⟩ else none
  | .dK _ ks ds, k => match keyOf k with
    | some k => lookK k ks ds
    | none => none
  | y, .int i => match seqOf y with
    | some ds => atI ds i
    | none => none
  | _, _ => none
def cutD (xs : List D) (lo hi : Option Int) : List D := (xs.drop (HT.sIx xs.length 0 lo)).take (HT.sIx xs.length xs.length hi - HT.sIx xs.length 0 lo)
def pSl : D → Option Int → Option Int → Option D
  | .str x, lo, hi => if x.length ≤ lim then some (.str (cutS x lo hi)) else none
  | .lst _ ds, lo, hi => some (.lst true (cutD ds lo hi))
  | .scr ds, lo, hi => some (.lst true (cutD ds lo hi))
  | .tup ds, lo, hi => some (.tup (cutD ds lo hi))
  | _, _, _ => none
theorem RpL.cut {K : PySem.W.Frag} {G : Hp} {S : Addr → Prop} {ds : List D} {vs : List V} (h : RpL K G S ds vs []) (lo hi : Option Int) : RpL K G S (cutD ds lo hi) (cutV vs lo hi) [] := by
  unfold cutD cutV
  rw [h.length]
  exact (h.drop _).take _
theorem RpL.at {K : PySem.W.Frag} {G : Hp} {S : Addr → Prop} {ds : List D} {vs : List V} {i : Int} {d : D} (h : RpL K G S ds vs []) (e : atI ds i = some d) : ∃ v, atI vs i = some v ∧ Rp K G S d v [] := by
  unfold atI at e ⊢
  rw [h.length] at e
  cases q : ixN vs.length i with
  | none => rw [q] at e; cases e
  | some j =>
    rw [q] at e
    exact h.get (show ds[j]? = some d from e)

/-! ### built-in functions -/
def pLen : D → Option D
  | .str x => if x.length ≤ lim then some (.int x.length) else none
  | .dK _ ks _ => some (.int ks.length)
  | y => (seqOf y).map fun ds => .int ds.length
def pList (y : D) : Option D := (seqOf y).map fun ds => .lst true ds
def pTuple (y : D) : Option D := (seqOf y).map fun ds => .tup ds
def bls : List D → Option (List Bool)
  | [] => some []
  | .bl b :: ds => (bls ds).map (b :: ·)
  | _ :: _ => none
theorem bls_rp {K : PySem.W.Frag} {G : Hp} {S : Addr → Prop} : ∀ {ds : List D} {vs : List V} {bs : List Bool} {T : List Addr}, RpL K G S ds vs T → bls ds = some bs → vs = bs.map V.bl := by
  intro ds
  induction ds with
  | nil =>
    intro vs bs T h e
    cases e
    exact h.1
  | cons d ds ih =>
    intro vs bs T h e
    obtain ⟨v, vs', A, B, e1, _, r, h⟩ := h
    subst e1
    cases d <;> simp only [bls, Option.map_eq_some_iff, reduceCtorEq] at e
    obtain ⟨bs', e1, e2⟩ := e
    subst e2
    rw [ih h e1, r.1]
    rfl
def pAll : D → Option D
  | .lst _ ds => (bls ds).map fun bs => .bl (bs.all id)
  | _ => none
def pAny : D → Option D
  | .lst _ ds => (bls ds).map fun bs => .bl (bs.any id)
  | _ => none
def sts : List D → Option (List Str)
  | [] => some []
  | .str b :: ds => (sts ds).map (b :: ·)
  | _ :: _ => none
theorem sts_rp {K : PySem.W.Frag} {G : Hp} {S : Addr → Prop} : ∀ {ds : List D} {vs : List V} {bs : List Str} {T : List Addr}, RpL K G S ds vs T → sts ds = some bs → vs = bs.map V.str := by
  intro ds
  induction ds with
  | nil =>
    intro vs bs T h e
    cases e
    exact h.1
  | cons d ds ih =>
    intro vs bs T h e
    obtain ⟨v, vs', A, B, e1, _, r, h⟩ := h
    subst e1
    cases d <;> simp only [sts, Option.map_eq_some_iff, reduceCtorEq] at e
    obtain ⟨bs', e1, e2⟩ := e
    subst e2
    rw [ih h e1, r.1]
    rfl
def pJoin : D → D → Option D
  | .str a, y => match seqOf y with
    | some ds => match sts ds with
      | some ys => if (ys.map (·.length)).sum + ys.length * a.length ≤ 16777216 then some (.str (Txt.join a ys)) else none
      | none => none
    | none => none
  | _, _ => none
/-- the types that are asked -/
inductive Ty where
  | int | bool | str | list | tuple | dict
def Ty.name : Ty → String
  | .int => "int"
  | .bool => "bool"
  | .str => "str"
  | .list => "list"
  | .tuple => "tuple"
  | .dict => "dict"
def tyD : D → String
  | .non => "NoneType"
  | .bl _ => "bool"
  | .int _ => "int"
  | .str _ => "str"
  | .tup _ => "tuple"
  | .lst _ _ => "list"
  | .scr _ => "list"
  | .dK _ _ _ => "dict"
def isiD : D → Ty → Bool
  | .bl _, .int => true
  | .bl _, .bool => true
  | .int _, .int => true
  | .str _, .str => true
  | .tup _, .tuple => true
  | .lst _ _, .list => true
  | .scr _, .list => true
  | .dK _ _ _, .dict => true
  | _, _ => false

section
variable {K : PySem.W.Frag} {G : Hp} {S : Addr → Prop} {Q : VK} {d e z : D} {v w : V}
theorem add_ok (h : RpE K G S [d, e] [v, w]) (sd : ∀ a, S a → ∃ o, G a = some o) (f : pAdd d e = some z) (q : Good K G S z Q) : rAddU K v w G Q := by
  obtain ⟨⟨T, r⟩, f1, ⟨U, u⟩, f2⟩ := h.two
  cases d <;> cases e <;> simp only [pAdd, reduceCtorEq] at f
  · cases f
    rw [rp_int r, rp_int u]
    exact .inl ⟨_, _, rfl, rfl, q.int⟩
  · split at f
    · rename_i hl
      cases f
      rw [rp_str r, rp_str u]
      exact .inr (.inl ⟨_, _, rfl, rfl, lim_le hl, q.str⟩)
    · cases f
  · split at f
    · rename_i hl
      cases f
      obtain ⟨p, vs, e1, hp, r1, _⟩ := rp_tup r f1
      obtain ⟨p2, ws, e2, hp2, r2, _⟩ := rp_tup u f2
      subst e1 e2
      refine .inr (.inr (.inr ⟨p, p2, vs, ws, rfl, rfl, hp, hp2, by rw [← r1.length, ← r2.length]; exact lim_le hl, fun ez => ?_, fun _ ez => ?_, fun _ _ => q.tup (r1.append r2)⟩))
      · subst ez
        have := r1.length
        rw [List.length_nil] at this
        have := List.eq_nil_of_length_eq_zero this
        subst this
        exact q.old (by rw [u.nil f2] at u; exact u)
      · subst ez
        have := r2.length
        rw [List.length_nil] at this
        have := List.eq_nil_of_length_eq_zero this
        subst this
        rw [List.append_nil] at q
        exact q.old (by rw [r.nil f1] at r; exact r)
    · cases f
  · split at f
    · rename_i hl
      cases f
      obtain ⟨p, vs, e1, hp, r1, _⟩ := rp_lst r f1
      obtain ⟨p2, ws, e2, hp2, r2, _⟩ := rp_lst u f2
      subst e1 e2
      exact .inr (.inr (.inl ⟨p, p2, vs, ws, rfl, rfl, hp, hp2, by rw [← r1.length, ← r2.length]; exact lim_le hl, q.lst sd (r1.append r2)⟩))
    · cases f

/-- a two-place rule on values, a function on data -/
def S2 (K : PySem.W.Frag) (r : R2) (f : D → D → Option D) : Prop := ∀ (G : Hp) (S : Addr → Prop) (Q : VK) (d e z : D) (v w : V), RpE K G S [d, e] [v, w] → (∀ a, S a → ∃ o, G a = some o) → f d e = some z → Good K G S z Q → r v w G Q
theorem s2_add : S2 K (rAddU K) pAdd := fun _ _ _ _ _ _ _ _ h sd f q => add_ok h sd f q
theorem s2_int {C : Int → Int → Prop} {g : Int → Int → V} {f : D → D → Option D} (hf : ∀ d e z, f d e = some z → ∃ i j, d = .int i ∧ e = .int j ∧ C i j ∧ ∃ x, g i j = x ∧ ((∃ n, x = .int n ∧ z = .int n) ∨ ∃ b, x = .bl b ∧ z = .bl b)) : S2 K (rI C g) f := by
  intro G S Q d e z v w h sd e1 q
  obtain ⟨i, j, rfl, rfl, hc, x, hx, hz⟩ := hf d e z e1
  obtain ⟨⟨T, r⟩, _, ⟨U, u⟩, _⟩ := h.two
  rw [rp_int r, rp_int u]
  refine ⟨i, j, rfl, rfl, hc, ?_⟩
  rcases hz with ⟨n, e2, e3⟩ | ⟨b, e2, e3⟩
  · subst e3
    rw [hx, e2]
    exact q.int
  · subst e3
    rw [hx, e2]
    exact q.bl
theorem s2_int0 {g : Int → Int → V} {f : D → D → Option D} (hf : ∀ d e z, f d e = some z → ∃ i j, d = .int i ∧ e = .int j ∧ ∃ x, g i j = x ∧ ((∃ n, x = .int n ∧ z = .int n) ∨ ∃ b, x = .bl b ∧ z = .bl b)) : S2 K (rI0 g) f := by
  intro G S Q d e z v w h sd e1 q
  obtain ⟨i, j, rfl, rfl, x, hx, hz⟩ := hf d e z e1
  obtain ⟨⟨T, r⟩, _, ⟨U, u⟩, _⟩ := h.two
  rw [rp_int r, rp_int u]
  refine ⟨i, j, rfl, rfl, ?_⟩
  rcases hz with ⟨n, e2, e3⟩ | ⟨b, e2, e3⟩
  · subst e3
    rw [hx, e2]
    exact q.int
  · subst e3
    rw [hx, e2]
    exact q.bl
theorem s2_sub : S2 K (rI0 fun i j => .int (i - j)) pSub := s2_int0 fun d e z f => by
  cases d <;> cases e <;> simp only [pSub, reduceCtorEq, Option.some.injEq] at f
  exact ⟨_, _, rfl, rfl, _, rfl, .inl ⟨_, rfl, f.symm⟩⟩
theorem s2_div : S2 K (rI CDiv fun i j => .int (i / j)) pDiv := s2_int fun d e z f => by
  cases d <;> cases e <;> simp only [pDiv, reduceCtorEq] at f
  split at f
  · rename_i h
    exact ⟨_, _, rfl, rfl, h, _, rfl, .inl ⟨_, rfl, (Option.some.inj f).symm⟩⟩
  · cases f
theorem s2_mod : S2 K (rI (fun _ j => 0 < j) fun i j => .int (i % j)) pMod := s2_int fun d e z f => by
  cases d <;> cases e <;> simp only [pMod, reduceCtorEq] at f
  split at f
  · rename_i h
    exact ⟨_, _, rfl, rfl, h, _, rfl, .inl ⟨_, rfl, (Option.some.inj f).symm⟩⟩
  · cases f
theorem s2_pow : S2 K (rI CPow fun i j => .int (i ^ j.toNat)) pPow := s2_int fun d e z f => by
  cases d <;> cases e <;> simp only [pPow, reduceCtorEq] at f
  split at f
  · rename_i h
    exact ⟨_, _, rfl, rfl, ⟨h.1, h.2.1, h.2.2⟩, _, rfl, .inl ⟨_, rfl, (Option.some.inj f).symm⟩⟩
  · cases f
def rMulS : R2 := fun x y H Q => ∃ z n, x = .str z ∧ y = .int n ∧ (2 ≤ n ∧ n ≤ 1000 ∧ z.length ≠ 0 ∧ z.length * n.toNat ≤ lim ∧ (repS z n).length ≤ lim) ∧ Q (.str (repS z n)) H
theorem op_mulS {X : Cx} : OpR X (binaryOp .Mult) rMulS := by
  rintro pins s σ H x y v u Q I rx ry ⟨z, n, e1, e2, ⟨h1, h2, h3, h4, h5⟩, q⟩
  subst e1 e2
  obtain ⟨t, rfl⟩ := rx
  obtain ⟨t', rfl⟩ := ry
  have b1 : (decide (n < -(2 ^ 63 : Int)) || decide (n ≥ 2 ^ 63)) = false := by
    rw [decide_eq_false (by omega), decide_eq_false (by omega)]; rfl
  have b2 : (n == 1 || z.length == 0) = false := by
    simp only [Bool.or_eq_false_iff, beq_eq_false_iff_ne]
    exact ⟨by omega, h3⟩
  have b3 : Builtin.Str.tooLong (z.length * n.toNat) = false := by
    unfold Builtin.Str.tooLong
    exact decide_eq_false (by have := lim_le h4; omega)
  refine PySem.P.mul_str b1 (fun _ _ => ?_) (fun _ _ => b3) ?_
  · have h5 : (z.length : Int) ≤ 1000000 := by
      have h4 : z.length * n.toNat ≤ 1000000 := h4
      have : z.length ≤ z.length * n.toNat := Nat.le_mul_of_pos_right _ (by omega)
      omega
    have h6 : (9007199254740992 : Int) ≤ (2 ^ 63 - 1) / n := by
      refine Int.le_ediv_of_mul_le (by omega) ?_
      have : (9007199254740992 : Int) * n ≤ 9007199254740992 * 1000 := Int.mul_le_mul_of_nonneg_left h2 (by decide)
      omega
    omega
  · rw [if_neg (by omega), if_neg (by rw [b2]; exact Bool.false_ne_true)]
    exact ⟨lim_le h5, .str (repS z n), H, I.tok _, ⟨_, rfl⟩, q⟩
def rMulU : R2 := fun x y H Q => rI CMul (fun i j => .int (i * j)) x y H Q ∨ rRep x y H Q ∨ rMulS x y H Q
theorem op_mulU {X : Cx} : OpR X (binaryOp .Mult) rMulU := OpR.or op_mul (OpR.or op_rep op_mulS)
theorem s2_mul : S2 K rMulU pMul := by
  intro G S Q d e z v w h sd f q
  obtain ⟨⟨T, r⟩, f1, ⟨U, u⟩, f2⟩ := h.two
  cases d <;> cases e <;> simp only [pMul, reduceCtorEq] at f
  · split at f
    · rename_i hc
      cases f
      rw [rp_int r, rp_int u]
      refine .inl ⟨_, _, rfl, rfl, ?_, q.int⟩
      unfold cMul at hc
      simp only [Bool.or_eq_true, Bool.and_eq_true, decide_eq_true_eq] at hc
      exact hc
    · cases f
  · split at f
    · rename_i hc
      cases f
      rw [rp_str r, rp_int u]
      exact .inr (.inr ⟨_, _, rfl, rfl, hc, q.str⟩)
    · cases f
  · split at f
    · rename_i hc
      cases f
      obtain ⟨p, vs, e1, hp, r1, _⟩ := rp_lst r f1
      rw [e1, rp_int u]
      have rr : ∀ n : Nat, RpL K G S (List.replicate n _).flatten (List.replicate n vs).flatten [] := fun n => by
        induction n with
        | zero => exact ⟨rfl, rfl⟩
        | succ n ih =>
          rw [List.replicate_succ, List.replicate_succ, List.flatten_cons, List.flatten_cons]
          exact r1.append ih
      exact .inr (.inl ⟨p, _, vs, rfl, rfl, hp, by omega, by omega, by rw [← r1.length]; exact lim_le hc.2.2, q.lst sd (rr _)⟩)
    · cases f
def rLtU : R2 := fun x y H Q => rI0 (fun i j => .bl (decide (i < j))) x y H Q ∨ (∃ i j, x = .str i ∧ y = .str j ∧ Q (.bl (decide (i.cps.toList < j.cps.toList))) H)
theorem op_ltU {X : Cx} : OpR X (compareOp .Lt) rLtU := OpR.or op_lt op_lt_str
theorem s2_lt : S2 K rLtU pLt := by
  intro G S Q d e z v w h sd f q
  obtain ⟨⟨T, r⟩, f1, ⟨U, u⟩, f2⟩ := h.two
  cases d <;> cases e <;> simp only [pLt, reduceCtorEq, Option.some.injEq] at f
  · subst f
    rw [rp_int r, rp_int u]
    exact .inl ⟨_, _, rfl, rfl, q.bl⟩
  · subst f
    rw [rp_str r, rp_str u]
    exact .inr ⟨_, _, rfl, rfl, q.bl⟩
def rLeU : R2 := fun x y H Q => rI0 (fun i j => .bl (decide (i ≤ j))) x y H Q ∨ (∃ i j, x = .str i ∧ y = .str j ∧ Q (.bl (!decide (j.cps.toList < i.cps.toList))) H)
theorem op_leU {X : Cx} : OpR X (compareOp .LtE) rLeU := OpR.or op_le op_le_str
theorem s2_le : S2 K rLeU pLe := by
  intro G S Q d e z v w h sd f q
  obtain ⟨⟨T, r⟩, f1, ⟨U, u⟩, f2⟩ := h.two
  cases d <;> cases e <;> simp only [pLe, reduceCtorEq, Option.some.injEq] at f
  · subst f
    rw [rp_int r, rp_int u]
    exact .inl ⟨_, _, rfl, rfl, q.bl⟩
  · subst f
    rw [rp_str r, rp_str u]
    exact .inr ⟨_, _, rfl, rfl, q.bl⟩
theorem s2_gt : S2 K (rI0 fun i j => .bl (decide (j < i))) pGt := s2_int0 fun d e z f => by
  cases d <;> cases e <;> simp only [pGt, reduceCtorEq, Option.some.injEq] at f
  exact ⟨_, _, rfl, rfl, _, rfl, .inr ⟨_, rfl, f.symm⟩⟩
theorem s2_ge : S2 K (rI0 fun i j => .bl (decide (j ≤ i))) pGe := s2_int0 fun d e z f => by
  cases d <;> cases e <;> simp only [pGe, reduceCtorEq, Option.some.injEq] at f
  exact ⟨_, _, rfl, rfl, _, rfl, .inr ⟨_, rfl, f.symm⟩⟩

/-! equal -/
theorem op_eqU {X : Cx} (hu : X.A.units + 64 < cLine) : OpR X (compareOp .Eq) (rEqU X.K) := OpR.or op_eq (op_eqD hu)
theorem op_neU {X : Cx} (hu : X.A.units + 64 < cLine) : OpR X (compareOp .NotEq) (rNeU X.K) := OpR.or op_ne (op_neD hu)
theorem eq_cases {T U : List Addr} {b : Bool} (r : Rp K G S d v T) (u : Rp K G S e w U) (h : pEq d e = some b) : (scal v w = true ∧ b = decide (v = w)) ∨ ∃ x y, Dp K G v x ∧ Dp K G w y ∧ SeqAt.shaped x = true ∧ SeqAt.shaped y = true ∧ b = PyData.eqv x y := by
  unfold pEq at h
  split at h
  · rename_i x y h1 h2
    split at h
    · rename_i hs
      cases h
      rw [scV_rp r h1, scV_rp u h2]
      exact .inl ⟨hs, rfl⟩
    · cases h
  · split at h
    · rename_i hk
      cases h
      simp only [pyOk, Bool.and_eq_true] at hk
      exact .inr ⟨_, _, r.dp hk.1.1, u.dp hk.2.1, hk.1.2, hk.2.2, rfl⟩
    · cases h
def pEqD (d e : D) : Option D := (pEq d e).map .bl
theorem s2_eq : S2 K (rEqU K) pEqD := by
  intro G S Q d e z v w h sd f q
  unfold pEqD at f
  obtain ⟨⟨T, r⟩, f1, ⟨U, u⟩, f2⟩ := h.two
  cases hb : pEq d e with
  | none => rw [hb] at f; cases f
  | some b =>
    rw [hb] at f
    cases f
    rcases eq_cases r u hb with ⟨h1, h2⟩ | ⟨x, y, h1, h2, h3, h4, h5⟩
    · rw [h2] at q
      exact .inl ⟨h1, q.bl⟩
    · rw [h5] at q
      exact .inr ⟨x, y, h1, h2, h3, h4, q.bl⟩
def pNeD (d e : D) : Option D := (pEq d e).map fun b => .bl (!b)
theorem s2_ne : S2 K (rNeU K) pNeD := by
  intro G S Q d e z v w h sd f q
  unfold pNeD at f
  obtain ⟨⟨T, r⟩, f1, ⟨U, u⟩, f2⟩ := h.two
  cases hb : pEq d e with
  | none => rw [hb] at f; cases f
  | some b =>
    rw [hb] at f
    cases f
    rcases eq_cases r u hb with ⟨h1, h2⟩ | ⟨x, y, h1, h2, h3, h4, h5⟩
    · rw [h2] at q
      exact .inl ⟨h1, q.bl⟩
    · rw [h5] at q
      exact .inr ⟨x, y, h1, h2, h3, h4, q.bl⟩

/-! in -/
theorem look_val {k : Key} : ∀ {ks : List Key} {ds : List D} {vs : List V}, ks.length = vs.length → RpL K G S ds vs [] →
    (∀ z, lookK k ks ds = some z → ∃ x, valV (ks.zip vs) k = some x ∧ Rp K G S z x []) ∧ (lookK k ks ds = none → valV (ks.zip vs) k = none) := by
  intro ks
  induction ks with
  | nil => intro ds vs l h; exact ⟨fun z e => (by cases e), fun _ => rfl⟩
  | cons k' ks ih =>
    intro ds vs l h
    cases ds with
    | nil =>
      obtain ⟨h, _⟩ := h
      subst h
      cases l
    | cons d ds =>
      obtain ⟨v, vs', A, B, e, z, h, r⟩ := h
      subst e
      have hz := List.append_eq_nil_iff.mp z.symm
      rw [hz.1] at h
      rw [hz.2] at r
      have l' : ks.length = vs'.length := by simpa using l
      by_cases hk : k' = k
      · refine ⟨fun z e => ?_, fun e => ?_⟩
        · unfold lookK at e
          rw [if_pos hk] at e
          cases e
          exact ⟨v, valV_pos (p := (k', v)) hk, h⟩
        · unfold lookK at e
          rw [if_pos hk] at e
          cases e
      · have q := ih l' r
        refine ⟨fun z e => ?_, fun e => ?_⟩
        · unfold lookK at e
          rw [if_neg hk] at e
          obtain ⟨x, h1, h2⟩ := q.1 z e
          exact ⟨x, (valV_neg (p := (k', v)) hk).trans h1, h2⟩
        · unfold lookK at e
          rw [if_neg hk] at e
          exact (valV_neg (p := (k', v)) hk).trans (q.2 e)
theorem rp_dK {m : Bool} {ks : List Key} {ds : List D} {T : List Addr} (h : Rp K G S (.dK m ks ds) v T) (q : frzK (.dK m ks ds) = .dK m ks ds) : ∃ p vs, v = .ref p ∧ G p = some (.dK (ks.zip vs)) ∧ ks.length = vs.length ∧ RpL K G S ds vs [] := by
  have hq : frzL ds = ds := by injection q
  cases m with
  | true =>
    obtain ⟨p, vs, F', e, z, hp, l, r⟩ := h
    have := r.nil hq
    subst this
    exact ⟨p, vs, e, hp, l, r⟩
  | false =>
    obtain ⟨_, p, vs, e, _, hp, l, r⟩ := h
    exact ⟨p, vs, e, hp, l, r⟩
theorem key_rp {T : List Addr} {k : Key} (h : Rp K G S d v T) (e : keyOf d = some k) : v = kV k := by
  cases d <;> first
    | (cases e; exact h.1)
    | cases e
def rInD' (neg : Bool) : R2 := fun x y H Q => ∃ a o, y = .ref a ∧ DGet H a x o ∧ Q (.bl (if neg then !o.isSome else o.isSome)) H
theorem op_inD' {X : Cx} (hu : X.A.units + 1 < cLine) : OpR X (compareOp .In) (rInD' false) := by
  rintro pins s σ H x y v u Q I rx ry ⟨a, o, e, g, q⟩
  subst e
  obtain rfl : u = Value.ref a := ry
  exact d_in hu I g rx fun s3 I3 => ⟨.bl o.isSome, H, I3, rfl, q⟩
theorem op_ninD' {X : Cx} (hu : X.A.units + 1 < cLine) : OpR X (compareOp .NotIn) (rInD' true) := by
  rintro pins s σ H x y v u Q I rx ry ⟨a, o, e, g, q⟩
  subst e
  obtain rfl : u = Value.ref a := ry
  exact d_notIn hu I g rx fun s3 I3 => ⟨.bl (!o.isSome), H, I3, rfl, q⟩
def rInS' (neg : Bool) : R2 := fun x y H Q => ∃ i j, x = .str i ∧ y = .str j ∧ Q (.bl (if neg then !(!(Builtin.Str.occurrences j i 0 j.length 1).isEmpty) else !(Builtin.Str.occurrences j i 0 j.length 1).isEmpty)) H
def rInU (K : PySem.W.Frag) (neg : Bool) : R2 := fun x y H Q => rIn K neg x y H Q ∨ rInD' neg x y H Q ∨ rInS' neg x y H Q
theorem op_inU {X : Cx} (hu : X.A.units + 1 < cLine) : OpR X (compareOp .In) (rInU X.K false) := OpR.or op_in_seq (OpR.or (op_inD' hu) op_in_str)
theorem op_ninU {X : Cx} (hu : X.A.units + 1 < cLine) : OpR X (compareOp .NotIn) (rInU X.K true) := OpR.or op_notIn_seq (OpR.or (op_ninD' hu) op_notin_str)
theorem in_ok {b neg : Bool} (h : RpE K G S [d, e] [v, w]) (f : pIn d e = some b) (q : Q (.bl (if neg then !b else b)) G) : rInU K neg v w G Q := by
  obtain ⟨⟨T, r⟩, f1, ⟨U, u⟩, f2⟩ := h.two
  unfold pIn at f
  split at f
  · rename_i x y
    cases f
    rw [rp_str r, rp_str u]
    exact .inr (.inr ⟨_, _, rfl, rfl, q⟩)
  · rename_i m ks ds
    split at f
    · rename_i k hk
      cases f
      obtain ⟨p, vs, e1, hp, l, r1⟩ := rp_dK u f2
      subst e1
      have hv := key_rp r hk
      subst hv
      have g := look_val (k := k) l r1
      refine .inr (.inl ⟨p, valV (ks.zip vs) k, rfl, DGet.k hp, ?_⟩)
      have e1 : (valV (ks.zip vs) k).isSome = (lookK k ks ds).isSome := by
        cases hl : lookK k ks ds with
        | none => rw [g.2 hl]; rfl
        | some z =>
          obtain ⟨x, h1, _⟩ := g.1 z hl
          rw [h1]
          rfl
      rw [e1]
      exact q
    · cases f
  · split at f
    · rename_i x ds h1 h2
      split at f
      · rename_i vs h3
        cases f
        obtain ⟨p, ws, e1, hp, r1⟩ := rp_seq u f2 h2
        subst e1
        have ev := scV_rp r h1
        have ew := vals_rp r1 h3
        subst ev ew
        exact .inl ⟨p, ws, rfl, hp, scV_flat h1, vals_flat h3, q⟩
      · cases f
    · cases f
def pInD (d e : D) : Option D := (pIn d e).map .bl
theorem s2_in : S2 K (rInU K false) pInD := by
  intro G S Q d e z v w h sd f q
  unfold pInD at f
  cases hb : pIn d e with
  | none => rw [hb] at f; cases f
  | some b =>
    rw [hb] at f
    cases f
    exact in_ok h hb q.bl
def pNinD (d e : D) : Option D := (pIn d e).map fun b => .bl (!b)
theorem s2_nin : S2 K (rInU K true) pNinD := by
  intro G S Q d e z v w h sd f q
  unfold pNinD at f
  cases hb : pIn d e with
  | none => rw [hb] at f; cases f
  | some b =>
    rw [hb] at f
    cases f
    exact in_ok h hb q.bl
/-! is None -/
def pIsN : D → D → Option Bool
  | d, .non => some (match d with | .non => true | _ => false)
  | _, _ => none
theorem isn_ok {b : Bool} (h : RpE K G S [d, e] [v, w]) (f : pIsN d e = some b) : w = .non ∧ b = decide (v = .non) := by
  obtain ⟨⟨T, r⟩, f1, ⟨U, u⟩, f2⟩ := h.two
  cases e <;> simp only [pIsN, reduceCtorEq, Option.some.injEq] at f
  refine ⟨rp_non u, ?_⟩
  subst f
  cases d with
  | non => rw [rp_non r]; rfl
  | bl _ => rw [rp_bl r]; rfl
  | int _ => rw [rp_int r]; rfl
  | str _ => rw [rp_str r]; rfl
  | tup _ => obtain ⟨p, _, e, _⟩ := r; rw [e]; rfl
  | lst m _ =>
    cases m
    · obtain ⟨_, p, _, e, _⟩ := r; rw [e]; rfl
    · obtain ⟨p, _, _, e, _⟩ := r; rw [e]; rfl
  | dK m _ _ =>
    cases m
    · obtain ⟨_, p, _, e, _⟩ := r; rw [e]; rfl
    · obtain ⟨p, _, _, e, _⟩ := r; rw [e]; rfl
  | scr _ => obtain ⟨_, p, _, e, _⟩ := r; rw [e]; rfl
def rIsNU : R2 := fun x y H Q => y = .non ∧ Q (.bl (decide (x = .non))) H
def rNotNU : R2 := fun x y H Q => y = .non ∧ Q (.bl (!decide (x = .non))) H
def pIsND (d e : D) : Option D := (pIsN d e).map .bl
theorem s2_isn : S2 K rIsNU pIsND := by
  intro G S Q d e z v w h sd f q
  unfold pIsND at f
  cases hb : pIsN d e with
  | none => rw [hb] at f; cases f
  | some b =>
    rw [hb] at f
    cases f
    obtain ⟨h1, h2⟩ := isn_ok h hb
    rw [h2] at q
    exact ⟨h1, q.bl⟩
def pNotND (d e : D) : Option D := (pIsN d e).map fun b => .bl (!b)
theorem s2_notn : S2 K rNotNU pNotND := by
  intro G S Q d e z v w h sd f q
  unfold pNotND at f
  cases hb : pIsN d e with
  | none => rw [hb] at f; cases f
  | some b =>
    rw [hb] at f
    cases f
    obtain ⟨h1, h2⟩ := isn_ok h hb
    rw [h2] at q
    exact ⟨h1, q.bl⟩

/-! items -/
def rIxD : R2 := fun x y H Q => ∃ a v, x = .ref a ∧ DGet H a y (some v) ∧ Q v H
theorem ix_dict {X : Cx} (hu : X.A.units + 1 < cLine) : IxR X rIxD := by
  rintro value slice pins s σ H x y v u Q I rx ry ⟨a, w, e, g, q⟩ hs
  subst e
  obtain rfl : v = Value.ref a := rx
  unfold PyProof.Rows.subscriptTail
  refine wpAny_bind ?_
  rw [getitemInPython_of_ne (dict_typeIs I g).not_modules]
  refine wpAny_bind (wpAny_specialOf (dict_typeIs I g) PySem.F.slot_dict_getitem.lookup ?_)
  have fin : wpAny (model X.prog X.w) X.A (subscripted slice false (.ref a) u) (fun r s3 => wpAny (model X.prog X.w) X.A (letTemporaryGo value (.ref a) r >>= fun _ => pure r) (EP X pins σ Q) X.xe s3) X.xe s := by
    rw [hs]
    exact wpAny_operating (d_getItem hu I g ry fun w' s3 I3 rw' => wpAny_bind (wpAny_letTemporaryGo (wpAny_pure ⟨w, H, I3, rw', q⟩)))
  first
    | exact wpAny_pure (wpAny_bind fin)
    | exact wpAny_bind (wpAny_pure (wpAny_bind fin))
    | exact wpAny_bind fin
def rIxU (K : PySem.W.Frag) : R2 := fun x y H Q => rIxL K x y H Q ∨ rIxT K x y H Q ∨ rIxS x y H Q ∨ rIxD x y H Q
theorem ix_U {X : Cx} (hu : X.A.units + 1 < cLine) : IxR X (rIxU X.K) := ix_list.or (ix_tup.or (ix_str.or (ix_dict hu)))
theorem s2_idx : S2 K (rIxU K) pIdx := by
  intro G S Q d e z v w h sd f q
  obtain ⟨⟨T, r⟩, f1, ⟨U, u⟩, f2⟩ := h.two
  unfold pIdx at f
  split at f
  · split at f
    · rename_i hl
      cases hc : atI (_ : List Nat) _ with
      | none => rw [hc] at f; cases f
      | some c =>
        rw [hc] at f
        cases f
        rw [rp_str r, rp_int u]
        exact .inr (.inr (.inl ⟨_, _, c, rfl, rfl, lim_le hl, hc, q.str⟩))
    · cases f
  · split at f
    · rename_i m ks ds k k' hk
      obtain ⟨p, vs, e1, hp, l, r1⟩ := rp_dK r f1
      subst e1
      have hv := key_rp u hk
      subst hv
      obtain ⟨x, h1, h2⟩ := (look_val (k := k') l r1).1 _ f
      exact .inr (.inr (.inr ⟨p, x, rfl, h1 ▸ DGet.k hp, q.old h2⟩))
    · cases f
  · split at f
    · rename_i ds hs
      obtain ⟨p, vs, e1, hp, r1⟩ := rp_seq r f1 hs
      subst e1
      rw [rp_int u]
      obtain ⟨x, h1, h2⟩ := r1.at f
      rcases hp with hp | hp
      · exact .inl ⟨p, vs, _, x, rfl, rfl, hp, h1, q.old h2⟩
      · exact .inr (.inl ⟨p, vs, _, x, rfl, rfl, hp, h1, q.old h2⟩)
    · cases f
  · cases f
/-! slices -/
def rSlU (K : PySem.W.Frag) : V → Option Int → Option Int → Hp → VK → Prop := fun x lo hi H Q => rSlL K x lo hi H Q ∨ rSlA K x lo hi H Q ∨ rSlS x lo hi H Q
theorem sl_U {X : Cx} : SlR X (rSlU X.K) := SlR.or sl_list (SlR.or sl_tupA sl_str)
theorem sl_ok {lo hi : Option Int} (h : RpE K G S [d] [v]) (sd : ∀ a, S a → ∃ o, G a = some o) (f : pSl d lo hi = some z) (q : Good K G S z Q) : rSlU K v lo hi G Q := by
  obtain ⟨⟨T, r⟩, f1⟩ := h.one
  cases d <;> simp only [pSl, reduceCtorEq, Option.some.injEq] at f
  · split at f
    · rename_i hl
      cases f
      rw [rp_str r]
      exact .inr (.inr ⟨_, rfl, lim_le hl, q.str⟩)
    · cases f
  · rename_i ds
    subst f
    obtain ⟨p, vs, e1, hp, r1, _⟩ := rp_tup r f1
    subst e1
    refine .inr (.inl ⟨p, vs, rfl, hp, fun hw => ?_, fun _ => q.tup (r1.cut _ _)⟩)
    have ec : cutD ds lo hi = ds := by
      unfold cutD
      rw [r1.length, hw.1, hw.2, List.drop_zero, Nat.sub_zero, ← r1.length, List.take_length]
    rw [ec] at q
    rw [r.nil f1] at r
    exact q.old r
  · subst f
    obtain ⟨p, vs, e1, hp, r1, _⟩ := rp_lst r f1
    subst e1
    exact .inl ⟨p, vs, rfl, SqL.of hp, q.lst sd (r1.cut _ _)⟩
  · subst f
    obtain ⟨p, vs, e1, hp, r1⟩ := rp_scr r
    subst e1
    exact .inl ⟨p, vs, rfl, hp, q.lst sd (r1.cut _ _)⟩

/-! built-in functions -/
def SN (K : PySem.W.Frag) (r : List V → Hp → VK → Prop) (f : List D → Option D) : Prop := ∀ (G : Hp) (S : Addr → Prop) (Q : VK) (ds : List D) (z : D) (vs : List V), RpE K G S ds vs → (∀ a, S a → ∃ o, G a = some o) → f ds = some z → Good K G S z Q → r vs G Q
def f1 (f : D → Option D) : List D → Option D
  | [d] => f d
  | _ => none
def f2 (f : D → D → Option D) : List D → Option D
  | [d, e] => f d e
  | _ => none
theorem sn_1 {r : List V → Hp → VK → Prop} {f : D → Option D} (h : ∀ (G : Hp) (S : Addr → Prop) (Q : VK) (d z : D) (v : V) (T : List Addr), Rp K G S d v T → frzK d = d → (∀ a, S a → ∃ o, G a = some o) → f d = some z → Good K G S z Q → r [v] G Q) : SN K r (f1 f) := by
  intro G S Q ds z vs hr sd f q
  match ds, f with
  | [d], f =>
    match vs, hr with
    | [], hr => exact absurd hr.len (by simp)
    | [v], hr =>
      obtain ⟨⟨T, r⟩, e⟩ := hr.one
      exact h G S Q d z v T r e sd f q
    | _ :: _ :: _, hr => exact absurd hr.len (by simp)
theorem sn_2 {r : List V → Hp → VK → Prop} {f : D → D → Option D} (h : ∀ (G : Hp) (S : Addr → Prop) (Q : VK) (d e z : D) (v w : V), RpE K G S [d, e] [v, w] → (∀ a, S a → ∃ o, G a = some o) → f d e = some z → Good K G S z Q → r [v, w] G Q) : SN K r (f2 f) := by
  intro G S Q ds z vs hr sd f q
  match ds, f with
  | [d, e], f =>
    match vs, hr with
    | [], hr => exact absurd hr.len (by simp)
    | [v], hr => exact absurd hr.len (by simp)
    | [v, w], hr => exact h G S Q d e z v w hr sd f q
    | _ :: _ :: _ :: _, hr => exact absurd hr.len (by simp)
theorem CallR.or {X : Cx} {f : Value} {r r' : List V → Hp → VK → Prop} (h : CallR X f r) (h' : CallR X f r') : CallR X f (fun x H Q => r x H Q ∨ r' x H Q) := by
  intro pins s σ H xs us Q I rx q
  rcases q with q | q
  · exact h pins s σ H xs us Q I rx q
  · exact h' pins s σ H xs us Q I rx q
def rLenU (K : PySem.W.Frag) : List V → Hp → VK → Prop := fun xs H Q => (∃ p ys, xs = [.ref p] ∧ (SqL K H p ys ∨ SqT K H p ys) ∧ Q (.int ys.length) H) ∨ (∃ z, xs = [.str z] ∧ z.length ≤ sizeLine ∧ Q (.int z.length) H) ∨ (∃ a kvs, xs = [V.ref a] ∧ H a = some (.dK kvs) ∧ Q (.int kvs.length) H)
theorem call_lenU {X : Cx} : CallR X (.builtin "len") (rLenU X.K) := CallR.or call_len_seq (CallR.or call_len_str call_lenD)
theorem sn_len : SN K (rLenU K) (f1 pLen) := sn_1 fun G S Q d z v T r e sd f q => by
  have seq : ∀ ds, seqOf d = some ds → z = .int ds.length → rLenU K [v] G Q := fun ds hs hz => by
    subst hz
    obtain ⟨p, vs, e1, hp, r1⟩ := rp_seq r e hs
    subst e1
    rw [r1.length] at q
    exact .inl ⟨p, vs, rfl, hp, q.int⟩
  cases d <;> simp only [pLen, seqOf, Option.map_some, Option.map_none, reduceCtorEq, Option.some.injEq] at f
  · split at f
    · rename_i hl
      cases f
      rw [rp_str r]
      exact .inr (.inl ⟨_, rfl, lim_le hl, q.int⟩)
    · cases f
  · exact seq _ rfl f.symm
  · exact seq _ rfl f.symm
  · rename_i m ks xs
    subst f
    obtain ⟨p, vs, e1, hp, l, r1⟩ := rp_dK r e
    subst e1
    have e2 : (ks.zip vs).length = ks.length := by rw [List.length_zip, ← l, Nat.min_self]
    exact .inr (.inr ⟨p, _, rfl, hp, by rw [e2]; exact q.int⟩)
  · exact seq _ rfl f.symm
def rListU (K : PySem.W.Frag) : List V → Hp → VK → Prop := fun xs H Q => ∃ p ys, xs = [.ref p] ∧ (SqL K H p ys ∨ SqT K H p ys) ∧ ∀ l, H l = none → Q (.ref l) (upd H l (.lst ys))
theorem sn_list : SN K (rListU K) (f1 pList) := sn_1 fun G S Q d z v T r e sd f q => by
  unfold pList at f
  cases hs : seqOf d with
  | none => rw [hs] at f; cases f
  | some ds =>
    rw [hs] at f
    cases f
    obtain ⟨p, vs, e1, hp, r1⟩ := rp_seq r e hs
    subst e1
    exact ⟨p, vs, rfl, hp, q.lst sd r1⟩
def rTupU (K : PySem.W.Frag) : List V → Hp → VK → Prop := fun xs H Q => ∃ p ys, xs = [.ref p] ∧ ((SqL K H p ys ∧ ∀ l, H l = none → Q (.ref l) (upd H l (.tup ys))) ∨ (SqT K H p ys ∧ Q (.ref p) H))
theorem sn_tup : SN K (rTupU K) (f1 pTuple) := sn_1 fun G S Q d z v T r e sd f q => by
  cases d <;> simp only [pTuple, seqOf, Option.map_some, Option.map_none, reduceCtorEq, Option.some.injEq] at f
  · subst f
    obtain ⟨p, vs, e1, hp, r1, _⟩ := rp_tup r e
    subst e1
    rw [r.nil e] at r
    exact ⟨p, vs, rfl, .inr ⟨hp, q.old r⟩⟩
  · subst f
    obtain ⟨p, vs, e1, hp, r1, _⟩ := rp_lst r e
    subst e1
    exact ⟨p, vs, rfl, .inl ⟨SqL.of hp, q.tup r1⟩⟩
  · subst f
    obtain ⟨p, vs, e1, hp, r1⟩ := rp_scr r
    subst e1
    exact ⟨p, vs, rfl, .inl ⟨hp, q.tup r1⟩⟩
theorem sn_all : SN K (rAll K) (f1 pAll) := sn_1 fun G S Q d z v T r e sd f q => by
  cases d <;> simp only [pAll, reduceCtorEq, Option.map_eq_some_iff] at f
  obtain ⟨bs, h1, h2⟩ := f
  subst h2
  obtain ⟨p, vs, e1, hp, r1, _⟩ := rp_lst r e
  subst e1
  rw [bls_rp r1 h1] at hp
  exact ⟨p, bs, rfl, SqL.of hp, q.bl⟩
theorem sn_any : SN K (rAny K) (f1 pAny) := sn_1 fun G S Q d z v T r e sd f q => by
  cases d <;> simp only [pAny, reduceCtorEq, Option.map_eq_some_iff] at f
  obtain ⟨bs, h1, h2⟩ := f
  subst h2
  obtain ⟨p, vs, e1, hp, r1, _⟩ := rp_lst r e
  subst e1
  rw [bls_rp r1 h1] at hp
  exact ⟨p, bs, rfl, SqL.of hp, q.bl⟩
theorem sn_abs : SN K (fun xs H Q => ∃ i, xs = [.int i] ∧ Q (.int (if i < 0 then -i else i)) H) (f1 pAbs) := sn_1 fun G S Q d z v T r e sd f q => by
  cases d <;> simp only [pAbs, reduceCtorEq, Option.some.injEq] at f
  subst f
  rw [rp_int r]
  exact ⟨_, rfl, q.int⟩
theorem sn_min : SN K (fun xs H Q => ∃ i j, xs = [.int i, .int j] ∧ Q (.int (if j < i then j else i)) H) (f2 pMin) := sn_2 fun G S Q d e z v w h sd f q => by
  obtain ⟨⟨T, r⟩, _, ⟨U, u⟩, _⟩ := h.two
  cases d <;> cases e <;> simp only [pMin, reduceCtorEq, Option.some.injEq] at f
  subst f
  rw [rp_int r, rp_int u]
  exact ⟨_, _, rfl, q.int⟩
theorem sn_max : SN K (fun xs H Q => ∃ i j, xs = [.int i, .int j] ∧ Q (.int (if j > i then j else i)) H) (f2 pMax) := sn_2 fun G S Q d e z v w h sd f q => by
  obtain ⟨⟨T, r⟩, _, ⟨U, u⟩, _⟩ := h.two
  cases d <;> cases e <;> simp only [pMax, reduceCtorEq, Option.some.injEq] at f
  subst f
  rw [rp_int r, rp_int u]
  exact ⟨_, _, rfl, q.int⟩
theorem kit_all (d : D) (t : Ty) : kitB (tyD d) t.name = some (isiD d t) := by
  cases d <;> cases t <;> (simp only [tyD, Ty.name, isiD]; decide +kernel)
theorem ty_rp {T : List Addr} (r : Rp K G S d v T) : TyX K G v (.type (tyD d)) := by
  cases d with
  | non => rw [rp_non r]; exact .base .non
  | bl _ => rw [rp_bl r]; exact .base (.bl _)
  | int _ => rw [rp_int r]; exact .base (.int _)
  | str _ => rw [rp_str r]; exact .base (.str _)
  | tup ds =>
    obtain ⟨p, vs, e, h, _⟩ := r
    subst e
    rcases h with ⟨_, h⟩ | h
    · exact .base (.tup h)
    · rcases h with (h | ⟨o, h⟩) | ⟨o, its, n, h1, h2, _⟩
      · cases h
      · cases h
      · exact .kTuple h1 h2
  | lst m ds =>
    cases m
    · obtain ⟨_, p, vs, e, _, h, _⟩ := r
      subst e
      exact .base (.lst h)
    · obtain ⟨p, vs, _, e, _, h, _⟩ := r
      subst e
      exact .base (.lst h)
  | dK m ks ds =>
    cases m
    · obtain ⟨_, p, vs, e, _, h, _⟩ := r
      subst e
      exact .base (.dK h)
    · obtain ⟨p, vs, _, e, _, h, _⟩ := r
      subst e
      exact .base (.dK h)
  | scr ds =>
    obtain ⟨_, p, vs, e, h, _⟩ := r
    subst e
    rcases h with ⟨_, h | ⟨o, h⟩⟩ | h
    · exact .base (.lst h)
    · exact .base (.frz h)
    · rcases h with (h | ⟨o, h⟩) | ⟨o, its, n, h1, h2, _⟩
      · cases h
      · cases h
      · exact .kList h1 h2
theorem isi_ok {t : Ty} (h : RpE K G S [d] [v]) (q : Good K G S (.bl (isiD d t)) Q) : rIsi K [v, .ty t.name] G Q := by
  obtain ⟨⟨T, r⟩, _⟩ := h.one
  exact ⟨v, .ty t.name, _, _, _, rfl, .ty _, ty_rp r, kit_ty (kit_all d t), q.bl⟩
end
end DE

/-! Part D: readings from evaluators. -/
namespace DE
open PySem PySem.Spec L2

abbrev EvO := En → Option (Opd × En)
abbrev EvOs := En → Option (List Opd × En)
def tO (K : PySem.W.Frag) (ev : EvO) : TE := fun σ G Q => ∃ S F E o E', SR K G S E σ F ∧ ev E = some (o, E') ∧ ∀ v G' S' T F', RO K σ G S F E' [o] [v] G' S' T F' → Q v G'
def tOs (K : PySem.W.Frag) (ev : EvOs) : TA := fun σ G Q => ∃ S F E os E', SR K G S E σ F ∧ ev E = some (os, E') ∧ ∀ vs G' S' T F', RO K σ G S F E' os vs G' S' T F' → Q vs G'

theorem _root_.L2.PE.weak {X : Cx} {e : Expr} {t t' : TE} (h : PE X e t) (w : ∀ σ G Q, t' σ G Q → t σ G Q) : PE X e t' := ⟨fun pins s σ H Q I hq => h.run pins s σ H Q I (w σ H Q hq)⟩
theorem _root_.L2.PT.weak {X : Cx} {e : Expr} {t t' : TT} (h : PT X e t) (w : ∀ σ G Q, t' σ G Q → t σ G Q) : PT X e t' := ⟨fun pins s σ H Q I hq => h.run pins s σ H Q I (w σ H Q hq)⟩
theorem _root_.L2.PW.weak {X : Cx} {e : Expr} {t t' : TT} (h : PW X e t) (w : ∀ σ G Q, t' σ G Q → t σ G Q) : PW X e t' := ⟨fun wh pins s σ H Q I hq => h.run wh pins s σ H Q I (w σ H Q hq)⟩
theorem _root_.L2.PA.weak {X : Cx} {e : List Expr} {t t' : TA} (h : PA X e t) (w : ∀ σ G Q, t' σ G Q → t σ G Q) : PA X e t' := ⟨fun pos pins s σ H Q I hq => h.run pos pins s σ H Q I (w σ H Q hq)⟩
theorem _root_.L2.PS.weak {X : Cx} {e : Stmt} {t t' : TS} (h : PS X e t) (w : ∀ D σ G, t' D σ G → t D σ G) : PS X e t' := ⟨fun pins s σ H D I hq => h.run pins s σ H D I (w D σ H hq)⟩
theorem _root_.L2.PSs.weak {X : Cx} {e : List Stmt} {t t' : TS} (h : PSs X e t) (w : ∀ D σ G, t' D σ G → t D σ G) : PSs X e t' := ⟨fun pins s σ H D I hq => h.run pins s σ H D I (w D σ H hq)⟩

section
variable {K : PySem.W.Frag} {σ : St} {G G1 : Hp} {S S1 : Addr → Prop} {F F1 T T1 : List Addr} {E E1 E2 E3 : En} {Q : VK} {os : List Opd} {vs : List V}

/-! names, constants -/
def evVar (i : Nat) : EvO := fun E => match E[i]? with
  | some (some _) => some (.slot i, E)
  | _ => none
theorem t_var {i : Nat} (h : tO K (evVar i) σ G Q) : tVar i σ G Q := by
  obtain ⟨S, F, E, o, E', sr, he, q⟩ := h
  unfold evVar at he
  split at he
  · rename_i d hd
    cases he
    obtain ⟨v, F1, Fr, g1, _⟩ := sr.rep.get hd
    refine ⟨v, g1, q v G S [] F ⟨sr, .of ⟨g1, rfl⟩, sr.nd, (fun _ m => by cases m), .refl⟩⟩
  · cases he
/-- a name that is read for the last time -/
def evMv (i : Nat) : EvO := fun E => match E[i]? with
  | some (some d) => some (.temp d, E.set i none)
  | _ => none
theorem t_mv {i : Nat} (h : tO K (evMv i) σ G Q) : tVar i σ G Q := by
  obtain ⟨S, F, E, o, E', sr, he, q⟩ := h
  unfold evMv at he
  split at he
  · rename_i d hd
    cases he
    obtain ⟨v, F1, Fr, g1, g2, g3, g4⟩ := sr.rep.get hd
    have nd : (F1 ++ Fr).Nodup := g4.nodup_iff.mp sr.nd
    obtain ⟨n1, n2, n3⟩ := nd_app.mp nd
    refine ⟨v, g1, q v G S F1 Fr ⟨⟨g3, n2, fun a ha => sr.ns a (g4.mem_iff.mpr (List.mem_append_right _ ha)), sr.sd⟩, .of g2, nd, fun a ha => sr.ns a (g4.mem_iff.mpr (List.mem_append_left _ ha)), Stp.refl.less fun a ha => g4.mem_iff.mpr ha⟩⟩
  · cases he
def evCon (d : D) : EvO := fun E => some (.temp d, E)
theorem t_con {d : D} {v : V} (hd : ∀ G S, Rp K G S d v []) (h : tO K (evCon d) σ G Q) : tC v σ G Q := by
  obtain ⟨S, F, E, o, E', sr, he, q⟩ := h
  cases he
  exact q v G S [] F ⟨sr, .of (hd G S), sr.nd, (fun _ m => by cases m), .refl⟩

/-! what is made of operands -/
def prim (f : List D → Option D) (os : List Opd) (E : En) : Option (Opd × En) := match looks os E with
  | some (ds, E2) => match f ds with
    | some z => some (.temp z, if z.sc = true then E else E2)
    | none => none
  | none => none
theorem prim_go {f : List D → Option D} {o : Opd} (ro : RO K σ G S F E2 os vs G1 S1 T F1) (h : prim f os E2 = some (o, E3)) (q : ∀ v G' S' T F', RO K σ G S F E3 [o] [v] G' S' T F' → Q v G') :
    ∃ S2 ds z, RpE K G1 S2 ds vs ∧ (∀ a, S2 a → ∃ o, G1 a = some o) ∧ f ds = some z ∧ Good K G1 S2 z Q := by
  unfold prim at h
  split at h
  · rename_i ds E4 hl
    split at h
    · rename_i z hz
      obtain ⟨S2, F2, sr2, rp, s1, s2, f1⟩ := looks_ok ro.sr ro.ro ro.nd ro.ns hl
      cases h
      refine ⟨S2, ds, z, rp, sr2.sd, hz, fun x G' S' Z nr => ?_⟩
      have live : ∀ a o, G a = some o → ∃ o', G' a = some o' := fun a o e => by
        obtain ⟨o', e'⟩ := ro.stp.live a o e
        exact ⟨o', nr.keep a o' e'⟩
      by_cases hs : z.sc = true
      · rw [if_pos hs] at q
        refine q x G' S1 [] F1 ⟨⟨ro.sr.rep.mono (fun p o _ e => nr.keep p o e) (fun p hp => ?_) fun _ z => z, ro.sr.nd, ro.sr.ns, fun a ha => ?_⟩, .of (nr.rp.sc_any hs), ro.sr.nd, (fun _ m => by cases m), ?_⟩
        · obtain ⟨o, e⟩ := ro.sr.rep.dom p hp
          rw [e, nr.keep p o e]
        · obtain ⟨o, e⟩ := ro.sr.sd a ha
          exact ⟨o, nr.keep a o e⟩
        · exact ⟨fun a o e n => nr.keep a o (ro.stp.keep a o e n), live, fun a ha => ro.stp.fs a (List.mem_append_right _ ha), ro.stp.ss, ro.stp.sn⟩
      · rw [if_neg hs] at q
        have nf : ∀ a, a ∈ F2 → a ∉ Z := fun a ha hz => by
          obtain ⟨o, e⟩ := sr2.rep.dom a ha
          rw [nr.fr a hz] at e; cases e
        refine q x G' S' Z F2 ⟨⟨sr2.rep.mono (fun p o _ e => nr.keep p o e) (fun p hp => ?_) nr.ss, sr2.nd, fun a ha hs' => ?_, fun a ha => ?_⟩, .of nr.rp, nd_app.mpr ⟨nr.nd, sr2.nd, fun a ha hb => nf a hb ha⟩, nr.ns, ?_⟩
        · obtain ⟨o, e⟩ := sr2.rep.dom p hp
          rw [e, nr.keep p o e]
        · rcases nr.sn a hs' with m | ⟨m, _⟩
          · exact sr2.ns a ha m
          · obtain ⟨o, e⟩ := sr2.rep.dom a ha
            rw [m] at e; cases e
        · rcases nr.sn a ha with m | ⟨_, m⟩
          · obtain ⟨o, e⟩ := sr2.sd a m
            exact ⟨o, nr.keep a o e⟩
          · exact m
        · refine ⟨fun a o e n => nr.keep a o (ro.stp.keep a o e n), live, fun a ha => ?_, fun a ha => nr.ss a (s1 a (ro.stp.ss a ha)), fun a ha => ?_⟩
          · rcases List.mem_append.mp ha with m | m
            · exact .inr (ro.stp.back (nr.fr a m))
            · exact ro.stp.fs a (List.mem_append_right _ (f1 a m))
          · rcases nr.sn a ha with m | ⟨m, _⟩
            · rcases s2 a m with m | m
              · exact ro.stp.sn a m
              · exact .inr (ro.stp.fs a m)
            · exact .inr (.inr (ro.stp.back m))
    · cases h
  · cases h

/-- a function of one, of two operands -/
def ev1 (f : D → Option D) (ea : EvO) : EvO := fun E => match ea E with
  | some (x, E1) => prim (f1 f) [x] E1
  | none => none
def ev2 (f : D → D → Option D) (ea eb : EvO) : EvO := fun E => match ea E with
  | some (x, E1) => match eb E1 with
    | some (y, E2) => prim (f2 f) [x, y] E2
    | none => none
  | none => none
def evN (f : List D → Option D) (es : EvOs) : EvO := fun E => match es E with
  | some (os, E1) => prim f os E1
  | none => none
theorem f2_two {f : D → D → Option D} {ds : List D} {z : D} (h : f2 f ds = some z) : ∃ d e, ds = [d, e] ∧ f d e = some z := by
  match ds, h with
  | [d, e], h => exact ⟨d, e, rfl, h⟩
theorem f1_one {f : D → Option D} {ds : List D} {z : D} (h : f1 f ds = some z) : ∃ d, ds = [d] ∧ f d = some z := by
  match ds, h with
  | [d], h => exact ⟨d, rfl, h⟩
theorem t_op {r : R2} {f : D → D → Option D} {ea eb : EvO} (hr : S2 K r f) (h : tO K (ev2 f ea eb) σ G Q) : tOp r (tO K ea) (tO K eb) σ G Q := by
  obtain ⟨S, F, E, o, E', sr, he, q⟩ := h
  unfold ev2 at he
  split at he
  · rename_i x E1 h1
    split at he
    · rename_i y E2 h2
      refine ⟨S, F, E, x, E1, sr, h1, fun v G1 S1 T1 F1 ro1 => ⟨S1, F1, E1, y, E2, ro1.sr, h2, fun w G2 S2 T2 F2 ro2 => ?_⟩⟩
      obtain ⟨S3, ds, z, rp, sd, hf, g⟩ := prim_go (ro1.app ro2) he q
      obtain ⟨d, e, rfl, hf⟩ := f2_two hf
      exact hr G2 S3 Q d e z v w rp sd hf g
    · cases he
  · cases he
theorem t_un {r : V → Hp → VK → Prop} {f : D → Option D} {ea : EvO} (hr : ∀ (G : Hp) (S : Addr → Prop) (Q : VK) (d z : D) (v : V), RpE K G S [d] [v] → (∀ a, S a → ∃ o, G a = some o) → f d = some z → Good K G S z Q → r v G Q) (h : tO K (ev1 f ea) σ G Q) : tUn r (tO K ea) σ G Q := by
  obtain ⟨S, F, E, o, E', sr, he, q⟩ := h
  unfold ev1 at he
  split at he
  · rename_i x E1 h1
    refine ⟨S, F, E, x, E1, sr, h1, fun v G1 S1 T1 F1 ro1 => ?_⟩
    obtain ⟨S3, ds, z, rp, sd, hf, g⟩ := prim_go ro1 he q
    obtain ⟨d, rfl, hf⟩ := f1_one hf
    exact hr G1 S3 Q d z v rp sd hf g
  · cases he
theorem t_cb {r : List V → Hp → VK → Prop} {f : List D → Option D} {es : EvOs} (hr : SN K r f) (h : tO K (evN f es) σ G Q) : tCB r (tOs K es) σ G Q := by
  obtain ⟨S, F, E, o, E', sr, he, q⟩ := h
  unfold evN at he
  split at he
  · rename_i os E1 h1
    refine ⟨S, F, E, os, E1, sr, h1, fun vs G1 S1 T1 F1 ro1 => ?_⟩
    obtain ⟨S3, ds, z, rp, sd, hf, g⟩ := prim_go ro1 he q
    exact hr G1 S3 Q ds z vs rp sd hf g
  · cases he

/-! lists of operands -/
def evNil : EvOs := fun E => some ([], E)
def evCons (ea : EvO) (es : EvOs) : EvOs := fun E => match ea E with
  | some (x, E1) => match es E1 with
    | some (os, E2) => some (x :: os, E2)
    | none => none
  | none => none
theorem ta_nil {Q : List V → Hp → Prop} (h : tOs K evNil σ G Q) : tNil σ G Q := by
  obtain ⟨S, F, E, o, E', sr, he, q⟩ := h
  cases he
  exact q [] G S [] F (.nil sr)
theorem ta_cons {Q : List V → Hp → Prop} {ea : EvO} {es : EvOs} (h : tOs K (evCons ea es) σ G Q) : tCons (tO K ea) (tOs K es) σ G Q := by
  obtain ⟨S, F, E, o, E', sr, he, q⟩ := h
  unfold evCons at he
  split at he
  · rename_i x E1 h1
    split at he
    · rename_i os E2 h2
      cases he
      refine ⟨S, F, E, x, E1, sr, h1, fun v G1 S1 T1 F1 ro1 => ⟨S1, F1, E1, os, E', ro1.sr, h2, fun vs G2 S2 T2 F2 ro2 => ?_⟩⟩
      exact q (v :: vs) G2 S2 (T1 ++ T2) F2 (ro1.app ro2)
    · cases he
  · cases he

/-! taken whole: a name's thing is frozen -/
def tk : Opd → En → Option (D × En)
  | .temp d, E => some (d, E)
  | .slot i, E => match E[i]? with
    | some (some d) => some (frz d, E.set i (some (frz d)))
    | _ => none
def tks : List Opd → En → Option (List D × En)
  | [], E => some ([], E)
  | o :: os, E => match tk o E with
    | some (d, E1) => match tks os E1 with
      | some (ds, E2) => some (d :: ds, E2)
      | none => none
    | none => none
/-- σ with the value that it has -/
theorem set_same {σ : St} {i : Nat} {v : V} (hv : σ[i]? = some (some v)) : σ.set i (some v) = σ := by
  apply List.ext_getElem?
  intro j
  by_cases e : j = i
  · subst e
    have hl' : j < σ.length := (List.getElem?_eq_some_iff.mp hv).1
    rw [List.getElem?_set_self hl', hv]
  · rw [List.getElem?_set_ne (Ne.symm e)]
theorem tk_ok {o : Opd} {v : V} {d : D} {E' : En} (sr : SR K G S E σ F) (r : RpO K σ G S o v T) (nd : (T ++ F).Nodup) (nt : ∀ a, a ∈ T → ¬ S a) (h : tk o E = some (d, E')) :
    ∃ S' F' T', SR K G S' E' σ F' ∧ Rp K G S' d v T' ∧ (∀ a, S a → S' a) ∧ (∀ a, S' a → S a ∨ a ∈ F) ∧ (∀ a, a ∈ F' → a ∈ F) ∧ (∀ a, a ∈ T' → a ∈ T) ∧ T'.Nodup ∧ (∀ a, a ∈ F → S' a → a ∉ F') := by
  obtain ⟨n1, n2, n3⟩ := nd_app.mp nd
  cases o with
  | temp d0 =>
    cases h
    exact ⟨S, F, T, sr, r, fun _ z => z, fun _ z => .inl z, fun _ z => z, fun _ z => z, n1, fun a ha hs => absurd hs (sr.ns a ha)⟩
  | slot i =>
    simp only [tk] at h
    split at h
    · rename_i d0 hi
      cases h
      obtain ⟨hv, _⟩ := r
      obtain ⟨v', F1, Fr, g1, g2, g3, g4⟩ := sr.rep.get hi
      rw [hv] at g1
      cases g1
      have ndp : (F1 ++ Fr).Nodup := g4.nodup_iff.mp n2
      obtain ⟨p1, p2, p3⟩ := nd_app.mp ndp
      have mF : ∀ a, a ∈ F ↔ a ∈ F1 ++ Fr := fun a => g4.mem_iff
      have hl : i < E.length := (List.getElem?_eq_some_iff.mp hi).1
      have rf : Rp K G (fun a => S a ∨ a ∈ F1) (DE.frz d0) v [] := g2.frz (fun _ z => .inl z) fun _ z => .inr z
      obtain ⟨F', h', pp⟩ := REnv.put (i := i) (S := fun a => S a ∨ a ∈ F1) (g3.mono (fun _ _ _ z => z) (fun _ _ => rfl) fun _ z => .inl z) (by rw [List.getElem?_set_self hl]) rf
      rw [List.set_set, set_same hv] at h'
      have mF' : ∀ a, a ∈ F' ↔ a ∈ Fr := fun a => pp.mem_iff
      have cut : ∀ a, a ∈ F1 → a ∉ F' := fun a h1 h3 => p3 a h1 ((mF' a).mp h3)
      refine ⟨_, F', [], ⟨h', pp.nodup_iff.mpr p2, fun a ha hs => ?_, fun a hs => ?_⟩, rf, fun _ z => .inl z, fun a hs => ?_, fun a ha => (mF a).mpr (List.mem_append_right _ ((mF' a).mp ha)), (fun _ m => by cases m), .nil, fun a ha hs => ?_⟩
      · rcases hs with hs | h1
        · exact sr.ns a ((mF a).mpr (List.mem_append_right _ ((mF' a).mp ha))) hs
        · exact cut a h1 ha
      · rcases hs with hs | hs
        · exact sr.sd a hs
        · exact g2.dom a hs
      · rcases hs with hs | hs
        · exact .inl hs
        · exact .inr ((mF a).mpr (List.mem_append_left _ hs))
      · rcases hs with hs | h1
        · exact absurd hs (sr.ns a ha)
        · exact cut a h1
    · cases h
theorem tks_ok : ∀ {os : List Opd} {vs : List V} {T F : List Addr} {E E' : En} {ds : List D} {S : Addr → Prop}, SR K G S E σ F → RpOs K σ G S os vs T → (T ++ F).Nodup → (∀ a, a ∈ T → ¬ S a) → tks os E = some (ds, E') →
    ∃ S' F' T', SR K G S' E' σ F' ∧ RpL K G S' ds vs T' ∧ (∀ a, S a → S' a) ∧ (∀ a, S' a → S a ∨ a ∈ F) ∧ (∀ a, a ∈ F' → a ∈ F) ∧ (∀ a, a ∈ T' → a ∈ T) ∧ T'.Nodup := by
  intro os
  induction os with
  | nil =>
    intro vs T F E E' ds S sr r nd nt h
    cases h
    exact ⟨S, F, [], sr, ⟨r.1, rfl⟩, fun _ z => z, fun _ z => .inl z, fun _ z => z, (fun _ m => by cases m), .nil⟩
  | cons o os ih =>
    intro vs T F E E' ds S sr r nd nt h
    obtain ⟨v, vs', T1, T2, e, z, ro, r⟩ := r
    subst e z
    unfold tks at h
    split at h
    · rename_i d E1 h1
      split at h
      · rename_i ds2 E2 h2
        cases h
        rw [List.append_assoc] at nd
        obtain ⟨n1, n2, n3⟩ := nd_app.mp nd
        obtain ⟨n4, n5, n6⟩ := nd_app.mp n2
        have nd1 : (T1 ++ F).Nodup := nd_app.mpr ⟨n1, n5, fun a ha hb => n3 a ha (List.mem_append_right _ hb)⟩
        obtain ⟨S1, F1, T1', sr1, rp1, s1, s2, f1, t1, nt1, f2⟩ := tk_ok sr ro nd1 (fun a ha => nt a (List.mem_append_left _ ha)) h1
        have out : ∀ a, a ∈ T2 → ¬ S1 a := fun a ha hs => by
          rcases s2 a hs with m | m
          · exact nt a (List.mem_append_right _ ha) m
          · exact n6 a ha m
        obtain ⟨S2, F2, T2', sr2, rp2, u1, u2, g1, t2, nt2⟩ := ih sr1 (r.mono (fun _ _ _ z => z) (fun _ _ => rfl) s1) (nd_app.mpr ⟨n4, sr1.nd, fun a ha hb => n6 a ha (f1 a hb)⟩) out h2
        refine ⟨S2, F2, T1' ++ T2', sr2, ⟨v, vs', T1', T2', rfl, rfl, rp1.mono (fun _ _ _ z => z) (fun _ _ => rfl) u1, rp2⟩, fun a ha => u1 a (s1 a ha), fun a ha => ?_, fun a ha => f1 a (g1 a ha), fun a ha => ?_, nd_app.mpr ⟨nt1, nt2, fun a ha hb => n3 a (t1 a ha) (List.mem_append_left _ (t2 a hb))⟩⟩
        · rcases u2 a ha with m | m
          · exact s2 a m
          · exact .inr (f1 a m)
        · rcases List.mem_append.mp ha with m | m
          · exact List.mem_append_left _ (t1 a m)
          · exact List.mem_append_right _ (t2 a m)
      · cases h
    · cases h

/-- behind operands that are taken whole -/
theorem RO.taken {ds : List D} {E' : En} (ro : RO K σ G S F E2 os vs G1 S1 T F1) (h : tks os E2 = some (ds, E')) :
    ∃ S2 F2 T2, SR K G1 S2 E' σ F2 ∧ RpL K G1 S2 ds vs T2 ∧ (T2 ++ F2).Nodup ∧ (∀ a, a ∈ T2 → ¬ S2 a) ∧ Stp G S F G1 S2 (T2 ++ F2) := by
  obtain ⟨S2, F2, T2, sr, rp, s1, s2, f1, t1, nt⟩ := tks_ok ro.sr ro.ro ro.nd ro.ns h
  obtain ⟨n1, n2, n3⟩ := nd_app.mp ro.nd
  refine ⟨S2, F2, T2, sr, rp, nd_app.mpr ⟨nt, sr.nd, fun a ha hb => n3 a (t1 a ha) (f1 a hb)⟩, fun a ha hs => ?_, ro.stp.keep, ro.stp.live, fun a ha => ?_, fun a ha => s1 a (ro.stp.ss a ha), fun a ha => ?_⟩
  · rcases s2 a hs with m | m
    · exact ro.ns a (t1 a ha) m
    · exact n3 a (t1 a ha) m
  · rcases List.mem_append.mp ha with m | m
    · exact ro.stp.fs a (List.mem_append_left _ (t1 a m))
    · exact ro.stp.fs a (List.mem_append_right _ (f1 a m))
  · rcases s2 a ha with m | m
    · exact ro.stp.sn a m
    · exact .inr (ro.stp.fs a (List.mem_append_right _ m))

/-! tuples, lists as they are written -/
def evTup (es : EvOs) : EvO := fun E => match es E with
  | some (os, E1) => match tks os E1 with
    | some (ds, E2) => if ds.length ≤ lim then some (.temp (.tup ds), E2) else none
    | none => none
  | none => none
def evLst (es : EvOs) : EvO := fun E => match es E with
  | some (os, E1) => match tks os E1 with
    | some (ds, E2) => if ds.length ≤ lim then some (.temp (.lst true ds), E2) else none
    | none => none
  | none => none
theorem up_keep {G : Hp} {p : Addr} {u : HO} (hp : G p = none) : ∀ a o, G a = some o → upd G p u a = some o := fun a o e => by rw [upd_ne (ne_of_none e hp)]; exact e
theorem Stp.new {S' : Addr → Prop} {T : List Addr} {p : Addr} {u : HO} (s : Stp G S F G1 S1 T) (hp : G1 p = none) (h1 : ∀ a, S1 a → S' a) (h2 : ∀ a, S' a → S1 a ∨ a = p) {T' : List Addr} (h3 : ∀ a, a ∈ T' → a ∈ T ∨ a = p) : Stp G S F (upd G1 p u) S' T' := by
  refine ⟨fun a o e n => up_keep hp a o (s.keep a o e n), fun a o e => ?_, fun a ha => ?_, fun a ha => h1 a (s.ss a ha), fun a ha => ?_⟩
  · obtain ⟨o', e'⟩ := s.live a o e
    exact ⟨o', up_keep hp a o' e'⟩
  · rcases h3 a ha with m | m
    · exact s.fs a m
    · subst m
      exact .inr (s.back hp)
  · rcases h2 a ha with m | m
    · exact s.sn a m
    · subst m
      exact .inr (.inr (s.back hp))
theorem t_tup {es : EvOs} (h : tO K (evTup es) σ G Q) : tTup (tOs K es) σ G Q := by
  obtain ⟨S, F, E, o, E', sr, he, q⟩ := h
  unfold evTup at he
  split at he
  · rename_i os E1 h1
    split at he
    · rename_i ds E2 h2
      split at he
      · rename_i hl
        cases he
        refine ⟨S, F, E, os, E1, sr, h1, fun vs G1 S1 T1 F1 ro => ?_⟩
        obtain ⟨S2, F2, T2, sr2, rp, nd, ns, stp⟩ := ro.taken h2
        refine ⟨by rw [← rp.length]; exact lim_le hl, fun p hp => ?_⟩
        have kp := up_keep (u := .tup vs) hp
        obtain ⟨n1, n2, n3⟩ := nd_app.mp nd
        have pn : ∀ a, a ∈ T2 ++ F2 → a ≠ p := fun a ha e => by
          subst e
          rcases List.mem_append.mp ha with m | m
          · obtain ⟨o, e⟩ := rp.dom a m
            rw [hp] at e; cases e
          · obtain ⟨o, e⟩ := sr2.rep.dom a m
            rw [hp] at e; cases e
        refine q (.ref p) _ (fun a => S2 a ∨ a = p) T2 F2 ⟨⟨sr2.rep.mono (fun a o _ e => kp a o e) (fun a ha => by rw [upd_ne (pn a (List.mem_append_right _ ha))]) fun _ z => .inl z, sr2.nd, fun a ha hs => ?_, fun a ha => ?_⟩,
          .of ⟨p, vs, rfl, .inl ⟨.inr rfl, upd_same⟩, rp.mono (fun a o _ e => kp a o e) (fun a ha => by rw [upd_ne (pn a (List.mem_append_left _ ha))]) fun _ z => .inl z⟩, nd, fun a ha hs => ?_, stp.new hp (fun _ z => .inl z) (fun _ z => z) fun _ z => .inl z⟩
        · rcases hs with hs | hs
          · exact sr2.ns a ha hs
          · exact pn a (List.mem_append_right _ ha) hs
        · rcases ha with ha | ha
          · obtain ⟨o, e⟩ := sr2.sd a ha
            exact ⟨o, kp a o e⟩
          · subst ha
            exact ⟨_, upd_same⟩
        · rcases hs with hs | hs
          · exact ns a ha hs
          · exact pn a (List.mem_append_left _ ha) hs
      · cases he
    · cases he
  · cases he
theorem t_lst {es : EvOs} (h : tO K (evLst es) σ G Q) : tLst (tOs K es) σ G Q := by
  obtain ⟨S, F, E, o, E', sr, he, q⟩ := h
  unfold evLst at he
  split at he
  · rename_i os E1 h1
    split at he
    · rename_i ds E2 h2
      split at he
      · rename_i hl
        cases he
        refine ⟨S, F, E, os, E1, sr, h1, fun vs G1 S1 T1 F1 ro => ?_⟩
        obtain ⟨S2, F2, T2, sr2, rp, nd, ns, stp⟩ := ro.taken h2
        refine ⟨by rw [← rp.length]; exact lim_le hl, fun p hp => ?_⟩
        have kp := up_keep (u := .lst vs) hp
        obtain ⟨n1, n2, n3⟩ := nd_app.mp nd
        have pn : ∀ a, a ∈ T2 ++ F2 → a ≠ p := fun a ha e => by
          subst e
          rcases List.mem_append.mp ha with m | m
          · obtain ⟨o, e⟩ := rp.dom a m
            rw [hp] at e; cases e
          · obtain ⟨o, e⟩ := sr2.rep.dom a m
            rw [hp] at e; cases e
        refine q (.ref p) _ S2 (p :: T2) F2 ⟨⟨sr2.rep.mono (fun a o _ e => kp a o e) (fun a ha => by rw [upd_ne (pn a (List.mem_append_right _ ha))]) fun _ z => z, sr2.nd, sr2.ns, fun a ha => ?_⟩,
          .of ⟨p, vs, T2, rfl, rfl, upd_same, rp.mono (fun a o _ e => kp a o e) (fun a ha => by rw [upd_ne (pn a (List.mem_append_left _ ha))]) fun _ z => z⟩, List.nodup_cons.mpr ⟨fun m => pn p m rfl, nd⟩, fun a ha hs => ?_, stp.new hp (fun _ z => z) (fun _ z => .inl z) fun a ha => ?_⟩
        · obtain ⟨o, e⟩ := sr2.sd a ha
          exact ⟨o, kp a o e⟩
        · rcases List.mem_cons.mp ha with m | m
          · subst m
            obtain ⟨o, e⟩ := sr2.sd a hs
            rw [hp] at e; cases e
          · exact ns a m hs
        · rcases List.mem_cons.mp ha with m | m
          · exact .inr m
          · exact .inl m
      · cases he
    · cases he
  · cases he
end
end DE

/-! Part E: tests, calls of own functions, methods of lists. -/
namespace DE
open PySem PySem.Spec L2

section
variable {K : PySem.W.Frag} {σ : St} {G G1 G2 : Hp} {S S1 : Addr → Prop} {F F1 T T1 : List Addr} {E E1 E2 E3 : En} {Q : VK} {os : List Opd} {vs : List V}

/-! ### tests -/
abbrev EvT := En → Option (Bool × En)
def tT (K : PySem.W.Frag) (ev : EvT) : TT := fun σ G Q => ∃ S F E b E', SR K G S E σ F ∧ ev E = some (b, E') ∧ ∀ G' S' F', RO K σ G S F E' [] [] G' S' [] F' → Q b G'
theorem RO.dropAll (ro : RO K σ G S F E2 os vs G1 S1 T F1) : RO K σ G S F E2 [] [] G1 S1 [] F1 :=
  ⟨ro.sr, ⟨rfl, rfl⟩, ro.sr.nd, (fun _ m => by cases m), ro.stp.less fun a ha => List.mem_append_right _ ha⟩
/-- the truth of an operand that is a truth -/
def asB : Opd → En → Option Bool
  | .temp (.bl b), _ => some b
  | .slot i, E => match E[i]? with
    | some (some (.bl b)) => some b
    | _ => none
  | _, _ => none
theorem asB_rp {o : Opd} {v : V} {b : Bool} (sr : SR K G S E σ F) (r : RpO K σ G S o v T) (h : asB o E = some b) : v = .bl b := by
  cases o with
  | temp d =>
    cases d <;> simp only [asB, reduceCtorEq, Option.some.injEq] at h
    subst h
    exact r.1
  | slot i =>
    simp only [asB] at h
    split at h
    · rename_i b' hb
      cases h
      obtain ⟨v', F1, Fr, g1, g2, _⟩ := sr.rep.get hb
      rw [r.1] at g1
      cases g1
      exact g2.1
    · cases h
def evB (ea : EvO) : EvT := fun E => match ea E with
  | some (o, E1) => match asB o E1 with
    | some b => some (b, E1)
    | none => none
  | none => none
theorem t_B {Q : Bool → Hp → Prop} {ea : EvO} (h : tT K (evB ea) σ G Q) : tB (tO K ea) σ G Q := by
  obtain ⟨S, F, E, b, E', sr, he, q⟩ := h
  unfold evB at he
  split at he
  · rename_i o E1 h1
    split at he
    · rename_i b' h2
      cases he
      exact ⟨S, F, E, o, E', sr, h1, fun v G1 S1 T1 F1 ro => ⟨b, asB_rp ro.sr ro.ro.one h2, q G1 S1 F1 ro.dropAll⟩⟩
    · cases he
  · cases he
theorem t_test {Q : Bool → Hp → Prop} {ea : EvO} (h : tT K (evB ea) σ G Q) : tTest (tO K ea) σ G Q := t_B h
def evAndT (a b : EvT) : EvT := fun E => match a E with
  | some (true, E1) => b E1
  | some (false, E1) => some (false, E1)
  | none => none
def evOrT (a b : EvT) : EvT := fun E => match a E with
  | some (true, E1) => some (true, E1)
  | some (false, E1) => b E1
  | none => none
def evNotT (a : EvT) : EvT := fun E => match a E with
  | some (b, E1) => some (!b, E1)
  | none => none
theorem t_andT {Q : Bool → Hp → Prop} {a b : EvT} (h : tT K (evAndT a b) σ G Q) : tAnd (tT K a) (tT K b) σ G Q := by
  obtain ⟨S, F, E, c, E', sr, he, q⟩ := h
  unfold evAndT at he
  split at he
  · rename_i E1 h1
    exact ⟨S, F, E, true, E1, sr, h1, fun G1 S1 F1 ro => iteT ⟨S1, F1, E1, c, E', ro.sr, he, fun G2 S2 F2 ro2 => q G2 S2 F2 (ro.app ro2)⟩⟩
  · rename_i E1 h1
    cases he
    exact ⟨S, F, E, false, E', sr, h1, fun G1 S1 F1 ro => iteF (q G1 S1 F1 ro)⟩
  · cases he
theorem t_orT {Q : Bool → Hp → Prop} {a b : EvT} (h : tT K (evOrT a b) σ G Q) : tOr (tT K a) (tT K b) σ G Q := by
  obtain ⟨S, F, E, c, E', sr, he, q⟩ := h
  unfold evOrT at he
  split at he
  · rename_i E1 h1
    cases he
    exact ⟨S, F, E, true, E', sr, h1, fun G1 S1 F1 ro => iteT (q G1 S1 F1 ro)⟩
  · rename_i E1 h1
    exact ⟨S, F, E, false, E1, sr, h1, fun G1 S1 F1 ro => iteF ⟨S1, F1, E1, c, E', ro.sr, he, fun G2 S2 F2 ro2 => q G2 S2 F2 (ro.app ro2)⟩⟩
  · cases he
theorem t_notT {Q : Bool → Hp → Prop} {a : EvT} (h : tT K (evNotT a) σ G Q) : tNot (tT K a) σ G Q := by
  obtain ⟨S, F, E, c, E', sr, he, q⟩ := h
  unfold evNotT at he
  split at he
  · rename_i b E1 h1
    cases he
    exact ⟨S, F, E, b, E', sr, h1, fun G1 S1 F1 ro => q G1 S1 F1 ro⟩
  · cases he
/-! the same as values -/
def evAnd (a b : EvO) : EvO := fun E => match evB a E with
  | some (true, E1) => b E1
  | some (false, E1) => some (.temp (.bl false), E1)
  | none => none
def evOr (a b : EvO) : EvO := fun E => match evB a E with
  | some (true, E1) => some (.temp (.bl true), E1)
  | some (false, E1) => b E1
  | none => none
def evNot (a : EvO) : EvO := fun E => match evB a E with
  | some (b, E1) => some (.temp (.bl (!b)), E1)
  | none => none
def evIte (c : EvT) (a b : EvO) : EvO := fun E => match c E with
  | some (true, E1) => a E1
  | some (false, E1) => b E1
  | none => none
theorem RO.temp {d : D} {v : V} (ro : RO K σ G S F E2 [] [] G1 S1 [] F1) (h : Rp K G1 S1 d v []) : RO K σ G S F E2 [.temp d] [v] G1 S1 [] F1 := ⟨ro.sr, .of h, ro.nd, ro.ns, ro.stp⟩
theorem evB_t {P : Bool → Hp → Prop} {a : EvO} {b : Bool} (sr : SR K G S E σ F) (h : evB a E = some (b, E1)) (q : ∀ G1 S1 F1, RO K σ G S F E1 [] [] G1 S1 [] F1 → P b G1) : tO K a σ G fun x H1 => ∃ c, x = .bl c ∧ P c H1 := by
  exact t_B (Q := P) ⟨S, F, E, b, E1, sr, h, q⟩
theorem t_and {a b : EvO} (h : tO K (evAnd a b) σ G Q) : tAndV (tO K a) (tO K b) σ G Q := by
  obtain ⟨S, F, E, o, E', sr, he, q⟩ := h
  unfold evAnd at he
  split at he
  · rename_i E1 h1
    exact evB_t (P := fun c H1 => if c = true then tO K b σ H1 Q else Q (.bl false) H1) sr h1 fun G1 S1 F1 ro => iteT ⟨S1, F1, E1, o, E', ro.sr, he, fun v G2 S2 T2 F2 ro2 => q v G2 S2 T2 F2 (ro.app ro2)⟩
  · rename_i E1 h1
    cases he
    exact evB_t (P := fun c H1 => if c = true then tO K b σ H1 Q else Q (.bl false) H1) sr h1 fun G1 S1 F1 ro => iteF (q _ G1 S1 [] F1 (ro.temp ⟨rfl, rfl⟩))
  · cases he
theorem t_or {a b : EvO} (h : tO K (evOr a b) σ G Q) : tOrV (tO K a) (tO K b) σ G Q := by
  obtain ⟨S, F, E, o, E', sr, he, q⟩ := h
  unfold evOr at he
  split at he
  · rename_i E1 h1
    cases he
    exact evB_t (P := fun c H1 => if c = true then Q (.bl true) H1 else tO K b σ H1 Q) sr h1 fun G1 S1 F1 ro => iteT (q _ G1 S1 [] F1 (ro.temp ⟨rfl, rfl⟩))
  · rename_i E1 h1
    exact evB_t (P := fun c H1 => if c = true then Q (.bl true) H1 else tO K b σ H1 Q) sr h1 fun G1 S1 F1 ro => iteF ⟨S1, F1, E1, o, E', ro.sr, he, fun v G2 S2 T2 F2 ro2 => q v G2 S2 T2 F2 (ro.app ro2)⟩
  · cases he
theorem t_not {a : EvO} (h : tO K (evNot a) σ G Q) : tNotV (tO K a) σ G Q := by
  obtain ⟨S, F, E, o, E', sr, he, q⟩ := h
  unfold evNot at he
  split at he
  · rename_i b E1 h1
    cases he
    exact evB_t (P := fun c H1 => Q (.bl (!c)) H1) sr h1 fun G1 S1 F1 ro => q _ G1 S1 [] F1 (ro.temp ⟨rfl, rfl⟩)
  · cases he
theorem t_ite {c : EvT} {a b : EvO} (h : tO K (evIte c a b) σ G Q) : tIf (tT K c) (tO K a) (tO K b) σ G Q := by
  obtain ⟨S, F, E, o, E', sr, he, q⟩ := h
  unfold evIte at he
  split at he
  · rename_i E1 h1
    exact ⟨S, F, E, true, E1, sr, h1, fun G1 S1 F1 ro => iteT ⟨S1, F1, E1, o, E', ro.sr, he, fun v G2 S2 T2 F2 ro2 => q v G2 S2 T2 F2 (ro.app ro2)⟩⟩
  · rename_i E1 h1
    exact ⟨S, F, E, false, E1, sr, h1, fun G1 S1 F1 ro => iteF ⟨S1, F1, E1, o, E', ro.sr, he, fun v G2 S2 T2 F2 ro2 => q v G2 S2 T2 F2 (ro.app ro2)⟩⟩
  · cases he
/-! a chain of two comparisons -/
def evChain (f g : D → D → Option D) (a b c : EvO) : EvO := fun E => match a E with
  | some (x, E1) => match b E1 with
    | some (y, E2) => match prim (f2 f) [x, y] E2 with
      | some (.temp (.bl true), E3) => match c E3 with
        | some (z, E4) => prim (f2 g) [y, z] E4
        | none => none
      | some (.temp (.bl false), E3) => some (.temp (.bl false), E3)
      | _ => none
    | none => none
  | none => none
theorem RO.ext {G' : Hp} (ro : RO K σ G S F E2 os vs G1 S1 T F1) (h : ∀ a o, G1 a = some o → G' a = some o) : RO K σ G S F E2 os vs G' S1 T F1 := by
  have k : ∀ a, (∃ o, G1 a = some o) → G' a = G1 a := fun a ⟨o, e⟩ => by rw [e, h a o e]
  refine ⟨⟨ro.sr.rep.mono (fun p o _ e => h p o e) (fun p hp => k p (ro.sr.rep.dom p hp)) fun _ z => z, ro.sr.nd, ro.sr.ns, fun a ha => ?_⟩, ro.ro.mono (fun p o _ e => h p o e) (fun p hp => k p (ro.ro.dom p hp)) fun _ z => z, ro.nd, ro.ns, ?_⟩
  · obtain ⟨o, e⟩ := ro.sr.sd a ha
    exact ⟨o, h a o e⟩
  · exact ⟨fun a o e n => h a o (ro.stp.keep a o e n), fun a o e => let ⟨o', e'⟩ := ro.stp.live a o e; ⟨o', h a o' e'⟩, ro.stp.fs, ro.stp.ss, ro.stp.sn⟩
theorem prim_bl {f : List D → Option D} {b : Bool} {r : VK → Prop} (ro : RO K σ G S F E2 os vs G1 S1 T F1) (h : prim f os E2 = some (.temp (.bl b), E3)) (hr : ∀ S2 ds z Q, RpE K G1 S2 ds vs → (∀ a, S2 a → ∃ o, G1 a = some o) → f ds = some z → Good K G1 S2 z Q → r Q)
    (q : ∀ G', RO K σ G S F E3 os vs G' S1 T F1 → Q (.bl b) G') : r Q := by
  unfold prim at h
  split at h
  · rename_i ds E4 hl
    split at h
    · rename_i z hz
      obtain ⟨S2, F2, sr2, rp, s1, s2, f1⟩ := looks_ok ro.sr ro.ro ro.nd ro.ns hl
      injection h with h
      injection h with e1 e2
      injection e1 with e1
      subst e1
      have e2 : E2 = E3 := e2
      subst e2
      refine hr S2 ds (.bl b) Q rp sr2.sd hz fun x G' S' Z nr => ?_
      rw [rp_bl nr.rp]
      exact q G' (ro.ext nr.keep)
    · cases h
  · cases h
theorem RO.cut {o : Opd} {v : V} {os : List Opd} {vs : List V} (ro : RO K σ G S F E2 (o :: os) (v :: vs) G1 S1 T F1) : ∃ T1, RO K σ G S F E2 os vs G1 S1 T1 F1 := by
  obtain ⟨v', vs', A, B, e, z, r, h⟩ := ro.ro
  injection e with _ e
  subst e z
  have nd := ro.nd
  rw [List.append_assoc] at nd
  obtain ⟨n1, n2, n3⟩ := nd_app.mp nd
  exact ⟨B, ro.sr, h, n2, fun a ha => ro.ns a (List.mem_append_right _ ha), ro.stp.less fun a ha => by rw [List.append_assoc]; exact List.mem_append_right _ ha⟩
theorem t_chain {r r' : R2} {f g : D → D → Option D} {a b c : EvO} (hr : S2 K r f) (hr' : S2 K r' g) (h : tO K (evChain f g a b c) σ G Q) : tChain r r' (tO K a) (tO K b) (tO K c) σ G Q := by
  obtain ⟨S, F, E, o, E', sr, he, q⟩ := h
  unfold evChain at he
  split at he
  · rename_i x E1 h1
    split at he
    · rename_i y E2 h2
      refine ⟨S, F, E, x, E1, sr, h1, fun v G1 S1 T1 F1 ro1 => ⟨S1, F1, E1, y, E2, ro1.sr, h2, fun w G2 S2 T2 F2 ro2 => ?_⟩⟩
      have ro := ro1.app ro2
      have go : ∀ Q', ∀ S2 ds z, RpE K G2 S2 ds ([v] ++ [w]) → (∀ a, S2 a → ∃ o, G2 a = some o) → f2 f ds = some z → Good K G2 S2 z Q' → r v w G2 Q' := fun Q' S2 ds z rp sd hf g => by
        obtain ⟨d, e, rfl, hf⟩ := f2_two hf
        exact hr G2 S2 Q' d e z v w rp sd hf g
      split at he
      · rename_i E3 h3
        refine prim_bl (r := fun Q' => r v w G2 Q') ro h3 (fun S2 ds z Q' a b c d => go Q' S2 ds z a b c d) fun G3 ro3 => ⟨true, rfl, iteT ?_⟩
        split at he
        · rename_i z E4 h4
          obtain ⟨T4, ro4⟩ := RO.cut (os := [y]) (vs := [w]) ro3
          refine ⟨_, _, E3, z, E4, ro3.sr, h4, fun u G5 S5 T5 F5 ro5 => ?_⟩
          obtain ⟨S6, ds, z', rp, sd, hf, gd⟩ := prim_go (ro4.app ro5) he q
          obtain ⟨d, e, rfl, hf⟩ := f2_two hf
          exact hr' G5 S6 Q d e z' w u rp sd hf gd
        · cases he
      · rename_i E3 h3
        cases he
        exact prim_bl (r := fun Q' => r v w G2 Q') ro h3 (fun S2 ds z Q' a b c d => go Q' S2 ds z a b c d) fun G3 ro3 => ⟨false, rfl, iteF (q _ G3 _ [] _ (ro3.dropAll.temp ⟨rfl, rfl⟩))⟩
      · cases he
    · cases he
  · cases he

/-! ### own functions -/
mutual
def isF : D → Bool
  | .tup ds => isFL ds
  | .lst false ds => isFL ds
  | .lst true _ => false
  | .dK false _ vs => isFL vs
  | .dK true _ _ => false
  | .scr ds => isFL ds
  | _ => true
def isFL : List D → Bool
  | [] => true
  | d :: ds => isF d && isFL ds
end
mutual
theorem isF_frz : ∀ d : D, isF d = true → frz d = d
  | .non, _ => rfl
  | .bl _, _ => rfl
  | .int _, _ => rfl
  | .str _, _ => rfl
  | .tup ds, h => by show D.tup (frzL ds) = _; rw [isFL_frz ds h]
  | .lst false ds, h => by show D.lst false (frzL ds) = _; rw [isFL_frz ds h]
  | .lst true _, h => by cases h
  | .dK false ks vs, h => by show D.dK false ks (frzL vs) = _; rw [isFL_frz vs h]
  | .dK true _ _, h => by cases h
  | .scr ds, h => by show D.scr (frzL ds) = _; rw [isFL_frz ds h]
theorem isFL_frz : ∀ ds : List D, isFL ds = true → frzL ds = ds
  | [], _ => rfl
  | d :: ds, h => by
    have h' := (Bool.and_eq_true _ _).mp h
    show frz d :: frzL ds = _
    rw [isF_frz d h'.1, isFL_frz ds h'.2]
end
/-- what is handed in: a name's own thing goes along, and comes back -/
def pull : Opd → En → Option (D × En)
  | .temp d, E => some (d, E)
  | .slot i, E => match E[i]? with
    | some (some d) => if isF d = true then some (d, E) else some (d, E.set i none)
    | _ => none
def pulls : List Opd → En → Option (List D × En)
  | [], E => some ([], E)
  | o :: os, E => match pull o E with
    | some (d, E1) => match pulls os E1 with
      | some (ds, E2) => some (d :: ds, E2)
      | none => none
    | none => none
def push : Opd → D → En → En
  | .temp _, _, E => E
  | .slot i, d, E => match E[i]? with
    | some none => E.set i (some d)
    | _ => E
def pushes : List Opd → List D → En → En
  | o :: os, d :: ds, E => pushes os ds (push o d E)
  | _, _, E => E
theorem pulls_ok : ∀ {os : List Opd} {vs : List V} {T F : List Addr} {E E' : En} {ds : List D}, SR K G S E σ F → RpOs K σ G S os vs T → (T ++ F).Nodup → (∀ a, a ∈ T → ¬ S a) → pulls os E = some (ds, E') →
    ∃ Fa Fr, SR K G S E' σ Fr ∧ RpL K G S ds vs Fa ∧ (Fa ++ Fr).Nodup ∧ (∀ a, a ∈ Fa ++ Fr → a ∈ T ++ F) ∧ ∀ a, a ∈ Fa → ¬ S a := by
  intro os
  induction os with
  | nil =>
    intro vs T F E E' ds sr r nd nt h
    cases h
    exact ⟨[], F, sr, ⟨r.1, rfl⟩, sr.nd, fun a ha => List.mem_append_right _ ha, (fun _ m => by cases m)⟩
  | cons o os ih =>
    intro vs T F E E' ds sr r nd nt h
    obtain ⟨v, vs', T1, T2, e, z, ro, r⟩ := r
    subst e z
    rw [List.append_assoc] at nd
    obtain ⟨n1, n2, n3⟩ := nd_app.mp nd
    obtain ⟨n4, n5, n6⟩ := nd_app.mp n2
    have key : ∀ d E1, pull o E = some (d, E1) → ∃ A F1, SR K G S E1 σ F1 ∧ Rp K G S d v A ∧ (A ++ F1).Nodup ∧ (∀ a, a ∈ A ++ F1 → a ∈ T1 ++ F) ∧ (∀ a, a ∈ A → ¬ S a) ∧ (∀ a, a ∈ F1 → a ∈ F) := fun d E1 hp => by
      cases o with
      | temp d0 =>
        cases hp
        exact ⟨T1, F, sr, ro, nd_app.mpr ⟨n1, n5, fun a ha hb => n3 a ha (List.mem_append_right _ hb)⟩, fun _ z => z, fun a ha => nt a (List.mem_append_left _ ha), fun _ z => z⟩
      | slot i =>
        simp only [pull] at hp
        split at hp
        · rename_i d0 hi
          obtain ⟨hv, ht⟩ := ro
          obtain ⟨v', A, Fr, g1, g2, g3, g4⟩ := sr.rep.get hi
          rw [hv] at g1
          cases g1
          split at hp
          · rename_i hf
            cases hp
            have := g2.nil (isF_frz d hf)
            subst this
            exact ⟨[], F, sr, g2, sr.nd, fun a ha => List.mem_append_right _ ha, (fun _ m => by cases m), fun _ z => z⟩
          · cases hp
            have ndp : (A ++ Fr).Nodup := g4.nodup_iff.mp sr.nd
            exact ⟨A, Fr, ⟨g3, (nd_app.mp ndp).2.1, fun a ha => sr.ns a (g4.mem_iff.mpr (List.mem_append_right _ ha)), sr.sd⟩, g2, ndp, fun a ha => List.mem_append_right _ (g4.mem_iff.mpr ha), fun a ha => sr.ns a (g4.mem_iff.mpr (List.mem_append_left _ ha)), fun a ha => g4.mem_iff.mpr (List.mem_append_right _ ha)⟩
        · cases hp
    unfold pulls at h
    split at h
    · rename_i d E1 h1
      split at h
      · rename_i ds2 E2 h2
        cases h
        obtain ⟨A, F1, sr1, rp1, nd1, m1, ns1, f1⟩ := key d E1 h1
        obtain ⟨p1, p2, p3⟩ := nd_app.mp nd1
        obtain ⟨Fa, Fr, sr2, rp2, nd2, m2, ns2⟩ := ih sr1 r (nd_app.mpr ⟨n4, p2, fun a ha hb => n6 a ha (f1 a hb)⟩) (fun a ha => nt a (List.mem_append_right _ ha)) h2
        obtain ⟨q1, q2, q3⟩ := nd_app.mp nd2
        have out : ∀ a, a ∈ A → a ∉ Fa ++ Fr := fun a ha hb => by
          rcases List.mem_append.mp (m2 a hb) with m | m
          · rcases List.mem_append.mp (m1 a (List.mem_append_left _ ha)) with k | k
            · exact n3 a k (List.mem_append_left _ m)
            · exact n6 a m k
          · exact p3 a ha m
        refine ⟨A ++ Fa, Fr, sr2, ⟨v, vs', A, Fa, rfl, rfl, rp1, rp2⟩, ?_, fun a ha => ?_, fun a ha => ?_⟩
        · rw [List.append_assoc]
          exact nd_app.mpr ⟨p1, nd2, out⟩
        · rw [List.append_assoc] at ha
          rcases List.mem_append.mp ha with m | m
          · rcases List.mem_append.mp (m1 a (List.mem_append_left _ m)) with k | k
            · exact List.mem_append_left _ (List.mem_append_left _ k)
            · exact List.mem_append_right _ k
          · rcases List.mem_append.mp (m2 a m) with k | k
            · exact List.mem_append_left _ (List.mem_append_right _ k)
            · exact List.mem_append_right _ (f1 a k)
        · rcases List.mem_append.mp ha with m | m
          · exact ns1 a m
          · exact ns2 a m
      · cases h
    · cases h
/-- where the operands' values stand -/
def Slots (σ : St) : List Opd → List V → Prop
  | [], _ => True
  | .temp _ :: os, vs => Slots σ os vs.tail
  | .slot i :: os, vs => (∃ v, vs.head? = some v ∧ σ[i]? = some (some v)) ∧ Slots σ os vs.tail
theorem RpOs.slots : ∀ {os : List Opd} {vs : List V} {T : List Addr}, RpOs K σ G S os vs T → Slots σ os vs := by
  intro os
  induction os with
  | nil => intro vs T h; trivial
  | cons o os ih =>
    intro vs T h
    obtain ⟨v, vs', T1, T2, e, z, ro, r⟩ := h
    subst e z
    cases o with
    | temp d => exact ih r
    | slot i => exact ⟨⟨v, rfl, ro.1⟩, ih r⟩
theorem pushes_ok : ∀ {os : List Opd} {vs : List V} {Fa Fr : List Addr} {E : En} {ds : List D}, SR K G S E σ Fr → RpL K G S ds vs Fa → (Fa ++ Fr).Nodup → (∀ a, a ∈ Fa → ¬ S a) → Slots σ os vs →
    ∃ F', SR K G S (pushes os ds E) σ F' ∧ ∀ a, a ∈ F' → a ∈ Fa ++ Fr := by
  intro os
  induction os with
  | nil => intro vs Fa Fr E ds sr r nd ns sl; exact ⟨Fr, sr, fun a ha => List.mem_append_right _ ha⟩
  | cons o os ih =>
    intro vs Fa Fr E ds sr r nd ns sl
    cases ds with
    | nil => exact ⟨Fr, sr, fun a ha => List.mem_append_right _ ha⟩
    | cons d ds =>
      obtain ⟨v, vs', A, B, e, z, r1, r2⟩ := r
      subst e z
      rw [List.append_assoc] at nd
      obtain ⟨n1, n2, n3⟩ := nd_app.mp nd
      obtain ⟨n4, n5, n6⟩ := nd_app.mp n2
      have key : ∃ F1, SR K G S (push o d E) σ F1 ∧ (∀ a, a ∈ F1 → a ∈ A ++ Fr) ∧ Slots σ os vs' := by
        cases o with
        | temp d0 => exact ⟨Fr, sr, fun a ha => List.mem_append_right _ ha, sl⟩
        | slot i =>
          obtain ⟨⟨v', e1, hv⟩, sl⟩ := sl
          cases e1
          simp only [push]
          split
          · rename_i hi
            obtain ⟨F', h', pp⟩ := REnv.put sr.rep hi r1
            rw [set_same hv] at h'
            refine ⟨F', ⟨h', pp.nodup_iff.mpr (nd_app.mpr ⟨n1, n5, fun a ha hb => n3 a ha (List.mem_append_right _ hb)⟩), fun a ha => ?_, sr.sd⟩, fun a ha => pp.mem_iff.mp ha, sl⟩
            rcases List.mem_append.mp (pp.mem_iff.mp ha) with m | m
            · exact ns a (List.mem_append_left _ m)
            · exact sr.ns a m
          · exact ⟨Fr, sr, fun a ha => List.mem_append_right _ ha, sl⟩
      obtain ⟨F1, sr1, f1, sl1⟩ := key
      obtain ⟨F', sr', f'⟩ := ih sr1 r2 (nd_app.mpr ⟨n4, sr1.nd, fun a ha hb => by
        rcases List.mem_append.mp (f1 a hb) with m | m
        · exact n3 a m (List.mem_append_left _ ha)
        · exact n6 a ha m⟩) (fun a ha => ns a (List.mem_append_right _ ha)) sl1
      refine ⟨F', sr', fun a ha => ?_⟩
      rcases List.mem_append.mp (f' a ha) with m | m
      · exact List.mem_append_left _ (List.mem_append_right _ m)
      · rcases List.mem_append.mp (f1 a m) with k | k
        · exact List.mem_append_left _ (List.mem_append_left _ k)
        · exact List.mem_append_right _ k
/-- what a function has done with its arguments -/
structure Fin (K : PySem.W.Frag) (G : Hp) (S : Addr → Prop) (F : List Addr) (vs : List V) (r : D) (ds : List D) (v : V) (G' : Hp) (S' : Addr → Prop) (T F' : List Addr) : Prop where
  rl : RpL K G' S' ds vs F'
  rp : Rp K G' S' r v T
  nd : (T ++ F').Nodup
  ns : ∀ a, a ∈ T ++ F' → ¬ S' a
  sd : ∀ a, S' a → ∃ o, G' a = some o
  stp : Stp G S F G' S' (T ++ F')
/-- a function on data: what it hands back, and its arguments behind -/
abbrev Fd := List D → Option (D × List D)
def spF (K : PySem.W.Frag) (n : Nat) (f : Fd) : Sp := fun vs G Q _ => ∃ S F ds r ds', vs.length = n ∧ RpL K G S ds vs F ∧ F.Nodup ∧ (∀ a, a ∈ F → ¬ S a) ∧ (∀ a, S a → ∃ o, G a = some o) ∧ f ds = some (r, ds') ∧
  ∀ v G' S' T F', Fin K G S F vs r ds' v G' S' T F' → Q v G'
def evCall (n : Nat) (f : Fd) (es : EvOs) : EvO := fun E => match es E with
  | some (os, E1) => if os.length = n then match pulls os E1 with
    | some (ds, E2) => match f ds with
      | some (r, ds') => some (.temp r, pushes os ds' E2)
      | none => none
    | none => none else none
  | none => none
theorem RpOs.len : ∀ {os : List Opd} {vs : List V} {T : List Addr}, RpOs K σ G S os vs T → os.length = vs.length := by
  intro os
  induction os with
  | nil => intro vs T h; rw [h.1]; rfl
  | cons o os ih =>
    intro vs T h
    obtain ⟨v, vs', T1, T2, e, z, ro, r⟩ := h
    rw [e, List.length_cons, List.length_cons, ih r]
theorem t_call {n : Nat} {f : Fd} {es : EvOs} (h : tO K (evCall n f es) σ G Q) : tCall (spF K n f) [] E0 (tOs K es) σ G Q := by
  obtain ⟨S, F, E, o, E', sr, he, q⟩ := h
  unfold evCall at he
  split at he
  · rename_i os E1 h1
    split at he
    · rename_i hn
      split at he
      · rename_i ds E2 h2
        split at he
        · rename_i r ds' h3
          cases he
          refine ⟨S, F, E, os, E1, sr, h1, fun vs G1 S1 T1 F1 ro => ?_⟩
          obtain ⟨Fa, Fr, sr2, rp, nd, m2, ns2⟩ := pulls_ok ro.sr ro.ro ro.nd ro.ns h2
          obtain ⟨n1, n2, n3⟩ := nd_app.mp nd
          show spF K n f (vs ++ []) G1 Q E0
          rw [List.append_nil]
          refine ⟨S1, Fa, ds, r, ds', by rw [← ro.ro.len, hn], rp, n1, ns2, ro.sr.sd, h3, fun v G' S' T F' fin => ?_⟩
          obtain ⟨k1, k2, k3⟩ := nd_app.mp fin.nd
          have apart : ∀ a, a ∈ Fr → a ∉ Fa := fun a ha hb => n3 a hb ha
          have out : ∀ a, a ∈ Fr → a ∉ T ++ F' := fun a ha hb => by
            rcases fin.stp.fs a hb with m | m
            · exact n3 a m ha
            · obtain ⟨o, e⟩ := sr2.rep.dom a ha
              rw [e] at m; cases m
          have sr3 : SR K G' S' E2 σ Fr := ⟨sr2.rep.mono (fun p o hs e => fin.stp.keep p o e fun m => ns2 p m hs) (fun p hp => by
            obtain ⟨o, e⟩ := sr2.rep.dom p hp
            rw [e, fin.stp.keep p o e (apart p hp)]) fin.stp.ss, n2, (fun a ha hs => by
              rcases fin.stp.sn a hs with m | m | m
              · exact sr2.ns a ha m
              · exact apart a ha m
              · obtain ⟨o, e⟩ := sr2.rep.dom a ha
                rw [e] at m; cases m), fin.sd⟩
          obtain ⟨F'', sr4, f4⟩ := pushes_ok sr3 fin.rl (nd_app.mpr ⟨k2, n2, fun a ha hb => out a hb (List.mem_append_right _ ha)⟩) (fun a ha => fin.ns a (List.mem_append_right _ ha)) ro.ro.slots
          have t4 : ∀ a, a ∈ T → a ∉ F'' := fun a ha hb => by
            rcases List.mem_append.mp (f4 a hb) with m | m
            · exact k3 a ha m
            · exact out a m (List.mem_append_left _ ha)
          refine q v G' S' T F'' ⟨sr4, .of fin.rp, nd_app.mpr ⟨k1, sr4.nd, t4⟩, fun a ha => fin.ns a (List.mem_append_left _ ha), ?_⟩
          have big : Stp G1 S1 (T1 ++ F1) G' S' (Fr ++ (T ++ F')) := (fin.stp.frame (R := Fr)).more fun a ha => by
            rcases List.mem_append.mp ha with m | m
            · exact m2 a (List.mem_append_right _ m)
            · exact m2 a (List.mem_append_left _ m)
          exact (ro.stp.trans big).less fun a ha => by
            rcases List.mem_append.mp ha with m | m
            · exact List.mem_append_right _ (List.mem_append_left _ m)
            · rcases List.mem_append.mp (f4 a m) with k | k
              · exact List.mem_append_right _ (List.mem_append_right _ k)
              · exact List.mem_append_left _ k
        · cases he
      · cases he
    · cases he
  · cases he
end
end DE

/-! Part F: methods that change a list, statements. -/
namespace DE
open PySem PySem.Spec L2

section
variable {K : PySem.W.Frag} {σ σ' : St} {G G' G1 G2 : Hp} {S S' S1 : Addr → Prop} {F F' F1 T T1 : List Addr} {E E' E1 E2 E3 : En} {Q : VK} {os : List Opd} {vs : List V}

/-! ### methods of a name's own list -/
abbrev Mf := List D → List D → Option (D × List D)
def evMut (m : Mf) (i : Nat) (es : EvOs) : EvO := fun E => match E[i]? with
  | some (some (.lst _ _)) => match es E with
    | some (os, E1) => match tks os E1 with
      | some (as, E2) => match E2[i]? with
        | some (some (.lst true ds)) => match m as ds with
          | some (r, ds') => some (.temp r, E2.set i (some (.lst true ds')))
          | none => none
        | _ => none
      | none => none
    | none => none
  | _ => none
def MS (K : PySem.W.Frag) (r : V → List V → Hp → VK → Prop) (m : Mf) : Prop := ∀ (G : Hp) (S : Addr → Prop) (p : Addr) (vs ws : List V) (ds as : List D) (Fk Ta : List Addr) (res : D) (ds' : List D) (Q : VK), G p = some (.lst vs) → RpL K G S ds vs Fk → RpL K G S as ws Ta → (Ta ++ Fk).Nodup →
  m as ds = some (res, ds') → (∀ x vs' Fk' T', RpL K G S ds' vs' Fk' → Rp K G S res x T' → (T' ++ Fk').Nodup → (∀ a, a ∈ T' ++ Fk' → a ∈ Ta ++ Fk) → Q x (upd G p (.lst vs'))) → r (.ref p) ws G Q
theorem lst_any {b : Bool} {ds : List D} {v : V} (h : Rp K G S (.lst b ds) v T) : ∃ p vs, v = .ref p ∧ G p = some (.lst vs) := by
  cases b with
  | true =>
    obtain ⟨p, vs, F', e, z, hp, r⟩ := h
    exact ⟨p, vs, e, hp⟩
  | false =>
    obtain ⟨_, p, vs, e, _, hp, r⟩ := h
    exact ⟨p, vs, e, hp⟩
/-- one thing of a name is changed -/
theorem changed {i : Nat} {p : Addr} {u : HO} {d' x : D} {v : V} {Fk Fk' Fr Ta T' F2 : List Addr} (sr : SR K G1 S1 E2 σ F2) (nd : (Ta ++ F2).Nodup) (ns : ∀ a, a ∈ Ta → ¬ S1 a) (stp : Stp G S F G1 S1 (Ta ++ F2))
    (hv : σ[i]? = some (some (.ref p))) (g3 : REnv K G1 S1 (E2.set i none) σ Fr) (g4 : F2.Perm ((p :: Fk) ++ Fr)) (hi : i < E2.length) (hG : ∃ o, G1 p = some o)
    (r' : (∀ a o, a ≠ p → G1 a = some o → upd G1 p u a = some o) → Rp K (upd G1 p u) S1 d' (.ref p) (p :: Fk')) (rx : Rp K G1 S1 x v T') (nd' : (T' ++ Fk').Nodup) (sub : ∀ a, a ∈ T' ++ Fk' → a ∈ Ta ++ Fk) :
    ∃ F', SR K (upd G1 p u) S1 (E2.set i (some d')) σ F' ∧ Rp K (upd G1 p u) S1 x v T' ∧ (T' ++ F').Nodup ∧ (∀ a, a ∈ T' → ¬ S1 a) ∧ Stp G S F (upd G1 p u) S1 (T' ++ F') := by
  obtain ⟨n1, n2, n3⟩ := nd_app.mp nd
  have ndp : ((p :: Fk) ++ Fr).Nodup := g4.nodup_iff.mp n2
  obtain ⟨p1, p2, p3⟩ := nd_app.mp ndp
  have pFk : p ∉ Fk := (List.nodup_cons.mp p1).1
  have mF : ∀ a, a ∈ F2 ↔ a ∈ (p :: Fk) ++ Fr := fun a => g4.mem_iff
  have pF2 : p ∈ F2 := (mF p).mpr (List.mem_append_left _ (List.mem_cons_self ..))
  have pS : ¬ S1 p := sr.ns p pF2
  have pTa : p ∉ Ta := fun h => n3 p h pF2
  obtain ⟨m1, m2, m3⟩ := nd_app.mp nd'
  have pT : p ∉ T' := fun h => by
    rcases List.mem_append.mp (sub p (List.mem_append_left _ h)) with m | m
    · exact pTa m
    · exact pFk m
  have pFk' : p ∉ Fk' := fun h => by
    rcases List.mem_append.mp (sub p (List.mem_append_right _ h)) with m | m
    · exact pTa m
    · exact pFk m
  have pFr : p ∉ Fr := fun h => p3 p (List.mem_cons_self ..) h
  have kp : ∀ a o, a ≠ p → G1 a = some o → upd G1 p u a = some o := fun a o n e => by rw [upd_ne n]; exact e
  have g3' : REnv K (upd G1 p u) S1 (E2.set i none) σ Fr := g3.mono (fun a o hs e => kp a o (fun z => pS (z ▸ hs)) e) (fun a ha => upd_ne fun z => pFr (z ▸ ha)) fun _ z => z
  obtain ⟨F', h', pp⟩ := REnv.put (i := i) g3' (by rw [List.getElem?_set_self hi]) (r' kp)
  rw [List.set_set, set_same hv] at h'
  have rx' : Rp K (upd G1 p u) S1 x v T' := rx.mono (fun a o hs e => kp a o (fun z => pS (z ▸ hs)) e) (fun a ha => upd_ne fun z => pT (z ▸ ha)) fun _ z => z
  have outFr : ∀ a, a ∈ T' ++ Fk' → a ∉ Fr := fun a ha hb => by
    rcases List.mem_append.mp (sub a ha) with m | m
    · exact n3 a m ((mF a).mpr (List.mem_append_right _ hb))
    · exact p3 a (List.mem_cons_of_mem _ m) hb
  have ndF : ((p :: Fk') ++ Fr).Nodup := nd_app.mpr ⟨List.nodup_cons.mpr ⟨pFk', m2⟩, p2, fun a ha hb => by
    rcases List.mem_cons.mp ha with m | m
    · exact pFr (m ▸ hb)
    · exact outFr a (List.mem_append_right _ m) hb⟩
  have mF' : ∀ a, a ∈ F' → a = p ∨ a ∈ Fk' ∨ a ∈ Fr := fun a ha => by
    rcases List.mem_append.mp (pp.mem_iff.mp ha) with m | m
    · rcases List.mem_cons.mp m with m | m
      · exact .inl m
      · exact .inr (.inl m)
    · exact .inr (.inr m)
  have back : ∀ a, a ∈ T' ++ F' → a ∈ Ta ++ F2 := fun a ha => by
    have q : ∀ a, a ∈ T' ++ Fk' → a ∈ Ta ++ F2 := fun a ha => by
      rcases List.mem_append.mp (sub a ha) with m | m
      · exact List.mem_append_left _ m
      · exact List.mem_append_right _ ((mF a).mpr (List.mem_append_left _ (List.mem_cons_of_mem _ m)))
    rcases List.mem_append.mp ha with m | m
    · exact q a (List.mem_append_left _ m)
    · rcases mF' a m with k | k | k
      · exact List.mem_append_right _ (k ▸ pF2)
      · exact q a (List.mem_append_right _ k)
      · exact List.mem_append_right _ ((mF a).mpr (List.mem_append_right _ k))
  have nsAll : ∀ a, a ∈ Ta ++ F2 → ¬ S1 a := fun a ha => by
    rcases List.mem_append.mp ha with m | m
    · exact ns a m
    · exact sr.ns a m
  refine ⟨F', ⟨h', pp.nodup_iff.mpr ndF, fun a ha => nsAll a (back a (List.mem_append_right _ ha)), fun a ha => ?_⟩, rx', nd_app.mpr ⟨m1, pp.nodup_iff.mpr ndF, fun a ha hb => ?_⟩, fun a ha => nsAll a (back a (List.mem_append_left _ ha)), ?_⟩
  · obtain ⟨o, e⟩ := sr.sd a ha
    exact ⟨o, kp a o (fun z => pS (z ▸ ha)) e⟩
  · rcases mF' a hb with k | k | k
    · exact pT (k ▸ ha)
    · exact m3 a ha k
    · exact outFr a (List.mem_append_left _ ha) k
  · refine ⟨fun a o e n => kp a o (fun z => ?_) (stp.keep a o e n), fun a o e => ?_, fun a ha => stp.fs a (back a ha), stp.ss, stp.sn⟩
    · subst z
      rcases stp.fs a (List.mem_append_right _ pF2) with m | m
      · exact n m
      · rw [e] at m; cases m
    · by_cases z : a = p
      · subst z
        exact ⟨u, upd_same⟩
      · obtain ⟨o', e'⟩ := stp.live a o e
        exact ⟨o', kp a o' z e'⟩
theorem mut_go {m : Mf} {i : Nat} {r : V → List V → Hp → VK → Prop} {o : Opd} {as : List D} {p : Addr} (hr : MS K r m) (ro : RO K σ G S F E1 os vs G1 S1 T F1) (h2 : tks os E1 = some (as, E2)) (hv : σ[i]? = some (some (.ref p)))
    (h3 : (match E2[i]? with
        | some (some (.lst true ds)) => match m as ds with
          | some (r, ds') => some (Opd.temp r, E2.set i (some (.lst true ds')))
          | none => none
        | _ => none) = some (o, E3)) (q : ∀ v G' S' T F', RO K σ G S F E3 [o] [v] G' S' T F' → Q v G') : r (.ref p) vs G1 Q := by
  obtain ⟨S2, F2, Ta, sr2, ra, nd, ns, stp⟩ := ro.taken h2
  split at h3
  · rename_i ds hi
    split at h3
    · rename_i res ds' hm
      cases h3
      obtain ⟨v', A, Fr, g1, g2, g3, g4⟩ := sr2.rep.get hi
      rw [hv] at g1
      cases g1
      obtain ⟨p', vs', Fk, e1, z, hp, rk⟩ := g2
      cases e1
      subst z
      obtain ⟨n1, n2, n3⟩ := nd_app.mp nd
      have ndp : ((p :: Fk) ++ Fr).Nodup := g4.nodup_iff.mp n2
      have inF2 : ∀ a, a ∈ Fk → a ∈ F2 := fun a ha => g4.mem_iff.mpr (List.mem_append_left _ (List.mem_cons_of_mem _ ha))
      refine hr G1 S2 p vs' vs ds as Fk Ta res ds' Q hp rk ra (nd_app.mpr ⟨n1, (List.nodup_cons.mp (nd_app.mp ndp).1).2, fun a ha hb => n3 a ha (inF2 a hb)⟩) hm fun x ws Fk' T' rk' rx nd' sub => ?_
      have pS : ¬ S2 p := sr2.ns p (g4.mem_iff.mpr (List.mem_append_left _ (List.mem_cons_self ..)))
      have pFk' : p ∉ Fk' := fun h => by
        rcases List.mem_append.mp (sub p (List.mem_append_right _ h)) with k | k
        · exact n3 p k (g4.mem_iff.mpr (List.mem_append_left _ (List.mem_cons_self ..)))
        · exact (List.nodup_cons.mp (nd_app.mp ndp).1).1 k
      obtain ⟨F', sr', rx', nd2, ns2, stp2⟩ := changed (u := .lst ws) (d' := .lst true ds') (x := res) (v := x) sr2 nd ns stp hv g3 g4 (List.getElem?_eq_some_iff.mp hi).1 ⟨_, hp⟩
        (fun kp => ⟨p, ws, Fk', rfl, rfl, upd_same, rk'.mono (fun a o hs e => kp a o (fun z => pS (z ▸ hs)) e) (fun a ha => upd_ne fun z => pFk' (z ▸ ha)) fun _ z => z⟩) rx nd' sub
      exact q x _ S2 T' F' ⟨sr', .of rx', nd2, ns2, stp2⟩
    · cases h3
  · cases h3
theorem t_mut {m : Mf} {i : Nat} {r : V → List V → Hp → VK → Prop} {es : EvOs} (hr : MS K r m) (h : tO K (evMut m i es) σ G Q) : tBM K "list" r (tVar i) (tOs K es) σ G Q := by
  obtain ⟨S, F, E, o, E', sr, he, q⟩ := h
  unfold evMut at he
  split at he
  · rename_i b0 l0 hi
    obtain ⟨v, A, Fr, g1, g2, g3, g4⟩ := sr.rep.get hi
    obtain ⟨p, ws, e, hp⟩ := lst_any g2
    subst e
    split at he
    · rename_i os E1 h1
      split at he
      · rename_i as E2 h2
        exact ⟨.ref p, g1, .inl ⟨rfl, ws, SqL.of hp⟩, S, F, E, os, E1, sr, h1, fun vs G1 S1 T1 F1 ro => mut_go hr ro h2 g1 he q⟩
      · cases he
    · cases he
  · cases he
theorem t_mut0 {m : Mf} {i : Nat} {r : V → List V → Hp → VK → Prop} (hr : MS K r m) (h : tO K (evMut m i evNil) σ G Q) : tBM0 K "list" r (tVar i) σ G Q := by
  obtain ⟨S, F, E, o, E', sr, he, q⟩ := h
  unfold evMut at he
  split at he
  · rename_i b0 l0 hi
    obtain ⟨v, A, Fr, g1, g2, g3, g4⟩ := sr.rep.get hi
    obtain ⟨p, ws, e, hp⟩ := lst_any g2
    subst e
    exact ⟨.ref p, g1, .inl ⟨rfl, ws, SqL.of hp⟩, mut_go (os := []) (vs := []) hr (.nil sr) rfl g1 he q⟩
  · cases he

def mApp : Mf
  | [d], ds => if ds.length < lim then some (.non, ds ++ [d]) else none
  | _, _ => none
def mExt : Mf
  | [.lst _ xs], ds => if ds.length + xs.length ≤ lim then some (.non, ds ++ xs) else none
  | _, _ => none
def mPop : Mf
  | [], ds => match ds[ds.length - 1]? with
    | some d => some (d, ds.dropLast)
    | none => none
  | _, _ => none
def mIns : Mf
  | [.int i, d], ds => if 0 ≤ i ∧ i ≤ 1000000 ∧ ds.length < lim then some (.non, ds.take i.toNat ++ [d] ++ ds.drop i.toNat) else none
  | _, _ => none
def mClr : Mf
  | [], _ => some (.non, [])
  | _, _ => none
theorem RpL.one {d : D} {v : V} (h : RpL K G S [d] vs T) : ∃ v, vs = [v] ∧ Rp K G S d v T := by
  obtain ⟨v, vs', A, B, e, z, r, r2⟩ := h
  obtain ⟨e2, z2⟩ := r2
  subst e2 z2 e z
  exact ⟨v, rfl, by rw [List.append_nil]; exact r⟩
theorem RpL.sing {d : D} {v : V} (h : Rp K G S d v T) : RpL K G S [d] [v] T := ⟨v, [], T, [], rfl, by simp, h, rfl, rfl⟩
/-- cut in two -/
theorem RpL.split : ∀ {ds : List D} {vs : List V} {T : List Addr} (n : Nat), RpL K G S ds vs T → ∃ A B, T = A ++ B ∧ RpL K G S (ds.take n) (vs.take n) A ∧ RpL K G S (ds.drop n) (vs.drop n) B := by
  intro ds
  induction ds with
  | nil =>
    intro vs T n h
    obtain ⟨e, z⟩ := h
    subst e z
    exact ⟨[], [], rfl, by rw [List.take_nil, List.take_nil]; exact ⟨rfl, rfl⟩, by rw [List.drop_nil, List.drop_nil]; exact ⟨rfl, rfl⟩⟩
  | cons d ds ih =>
    intro vs T n h
    obtain ⟨v, vs', A, B, e, z, r, h⟩ := h
    subst e z
    cases n with
    | zero => exact ⟨[], A ++ B, rfl, ⟨rfl, rfl⟩, v, vs', A, B, rfl, rfl, r, h⟩
    | succ n =>
      obtain ⟨A', B', z, h1, h2⟩ := ih n h
      subst z
      exact ⟨A ++ A', B', by rw [List.append_assoc], ⟨v, vs'.take n, A, A', rfl, rfl, r, h1⟩, h2⟩
theorem ms_app : MS K rAppend mApp := by
  intro G S p vs ws ds as Fk Ta res ds' Q hp rk ra nd h q
  match as, ra, h with
  | [d], ra, h =>
    obtain ⟨v, e, rd⟩ := RpL.one (v := .non) ra
    subst e
    simp only [mApp] at h
    split at h
    · rename_i hl
      cases h
      obtain ⟨n1, n2, n3⟩ := nd_app.mp nd
      refine ⟨p, vs, v, rfl, rfl, hp, by rw [← rk.length]; exact Nat.lt_of_lt_of_le hl (by decide), q .non (vs ++ [v]) (Fk ++ Ta) [] (rk.append (.sing rd)) ⟨rfl, rfl⟩ (show (Fk ++ Ta).Nodup from nd_app.mpr ⟨n2, n1, fun a ha hb => n3 a hb ha⟩) fun a ha => ?_⟩
      rcases List.mem_append.mp (show a ∈ Fk ++ Ta from ha) with m | m
      · exact List.mem_append_right _ m
      · exact List.mem_append_left _ m
    · cases h
theorem ms_ext : MS K rExtend mExt := by
  intro G S p vs ws ds as Fk Ta res ds' Q hp rk ra nd h q
  have h0 : ∃ b xs, as = [.lst b xs] := by
    cases as with
    | nil => simp only [mExt, reduceCtorEq] at h
    | cons a rest =>
      cases rest with
      | cons _ _ => cases a <;> simp only [mExt, reduceCtorEq] at h
      | nil =>
        cases a with
        | lst b xs => exact ⟨b, xs, rfl⟩
        | _ => simp only [mExt, reduceCtorEq] at h
  obtain ⟨b, xs, e0⟩ := h0
  subst e0
  · obtain ⟨v, e, rd⟩ := RpL.one (v := .non) ra
    subst e
    simp only [mExt] at h
    split at h
    · rename_i hl
      cases h
      obtain ⟨n1, n2, n3⟩ := nd_app.mp nd
      have key : ∃ p2 us Tx, v = .ref p2 ∧ G p2 = some (.lst us) ∧ RpL K G S xs us Tx ∧ (∀ a, a ∈ Tx → a ∈ Ta) ∧ Tx.Nodup := by
        cases b with
        | true =>
          obtain ⟨p2, us, F', e, z, h2, r⟩ := rd
          subst z
          exact ⟨p2, us, F', e, h2, r, fun a ha => List.mem_cons_of_mem _ ha, (List.nodup_cons.mp n1).2⟩
        | false =>
          obtain ⟨z, p2, us, e, _, h2, r⟩ := rd
          exact ⟨p2, us, [], e, h2, r, (fun _ m => by cases m), .nil⟩
      obtain ⟨p2, us, Tx, e, h2, r2, sub, ndx⟩ := key
      subst e
      refine ⟨p, p2, vs, us, rfl, rfl, hp, h2, by rw [← rk.length, ← r2.length]; exact lim_le hl, q .non (vs ++ us) (Fk ++ Tx) [] (rk.append r2) ⟨rfl, rfl⟩ (show (Fk ++ Tx).Nodup from nd_app.mpr ⟨n2, ndx, fun a ha hb => n3 a (sub a hb) ha⟩) fun a ha => ?_⟩
      rcases List.mem_append.mp (show a ∈ Fk ++ Tx from ha) with m | m
      · exact List.mem_append_right _ m
      · exact List.mem_append_left _ (sub a m)
    · cases h
theorem RpL.last {ds : List D} {d : D} (h : RpL K G S ds vs T) (e : ds[ds.length - 1]? = some d) : ∃ v A B, vs[vs.length - 1]? = some v ∧ T = A ++ B ∧ RpL K G S ds.dropLast vs.dropLast A ∧ Rp K G S d v B := by
  have hl : 0 < ds.length := by
    have := (List.getElem?_eq_some_iff.mp e).1
    omega
  obtain ⟨A, B, z, h1, h2⟩ := h.split (ds.length - 1)
  have e1 : ds.drop (ds.length - 1) = [d] := by
    have hd := (List.getElem?_eq_some_iff.mp e)
    rw [List.drop_eq_getElem_cons hd.1, hd.2]
    have : ds.length - 1 + 1 = ds.length := by omega
    rw [this, List.drop_length]
  rw [e1] at h2
  obtain ⟨v, e2, r⟩ := RpL.one (v := .non) h2
  have len := h.length
  refine ⟨v, A, B, ?_, z, ?_, r⟩
  · have : (vs.drop (ds.length - 1))[0]? = some v := by rw [e2]; rfl
    rw [List.getElem?_drop] at this
    rw [← len]
    simpa using this
  · rw [List.dropLast_eq_take, List.dropLast_eq_take, ← len]
    exact h1
theorem ms_pop : MS K rPop mPop := by
  intro G S p vs ws ds as Fk Ta res ds' Q hp rk ra nd h q
  match as, ra, h with
  | [], ra, h =>
    obtain ⟨e, z⟩ := ra
    subst e z
    simp only [mPop] at h
    split at h
    · rename_i d hd
      cases h
      obtain ⟨v, A, B, hv, z, r1, r2⟩ := rk.last hd
      subst z
      obtain ⟨n1, n2, n3⟩ := nd_app.mp (show (A ++ B).Nodup from nd)
      refine ⟨p, vs, v, rfl, rfl, hp, hv, q v vs.dropLast A B r1 r2 (nd_app.mpr ⟨n2, n1, fun a ha hb => n3 a hb ha⟩) fun a ha => ?_⟩
      rcases List.mem_append.mp ha with m | m
      · exact List.mem_append_right A m
      · exact List.mem_append_left B m
    · cases h
theorem ms_clr : MS K rClear mClr := by
  intro G S p vs ws ds as Fk Ta res ds' Q hp rk ra nd h q
  match as, ra, h with
  | [], ra, h =>
    obtain ⟨e, z⟩ := ra
    subst e z
    simp only [mClr] at h
    cases h
    exact ⟨p, vs, rfl, rfl, hp, q .non [] [] [] ⟨rfl, rfl⟩ ⟨rfl, rfl⟩ .nil (fun a ha => by cases ha)⟩
def rInsert : V → List V → Hp → VK → Prop := fun x vs H Q => ∃ (l : Addr) (xs : List V) (i : Int) (y : V), x = .ref l ∧ vs = [.int i, y] ∧ H l = some (.lst xs) ∧ xs.length < sizeLine ∧ 0 ≤ i ∧ i < 2 ^ 63 ∧ Q .non (upd H l (.lst (xs.take i.toNat ++ [y] ++ xs.drop i.toNat)))
theorem ms_ins : MS K rInsert mIns := by
  intro G S p vs ws ds as Fk Ta res ds' Q hp rk ra nd h q
  have h0 : ∃ i d, as = [.int i, d] := by
    cases as with
    | nil => simp only [mIns, reduceCtorEq] at h
    | cons a rest =>
      cases rest with
      | nil => cases a <;> simp only [mIns, reduceCtorEq] at h
      | cons d rest =>
        cases rest with
        | cons _ _ => cases a <;> simp only [mIns, reduceCtorEq] at h
        | nil =>
          cases a with
          | int i => exact ⟨i, d, rfl⟩
          | _ => simp only [mIns, reduceCtorEq] at h
  obtain ⟨i, d, e0⟩ := h0
  subst e0
  · obtain ⟨v0, ws', A, B, e, z, r0, r1⟩ := ra
    obtain ⟨e0, z0⟩ := r0
    subst e0 z0 e z
    obtain ⟨v, e, rd⟩ := RpL.one (v := .non) r1
    subst e
    simp only [mIns] at h
    split at h
    · rename_i hl
      cases h
      obtain ⟨n1, n2, n3⟩ := nd_app.mp (show (Ta ++ Fk).Nodup from nd)
      obtain ⟨A', B', z, h1, h2⟩ := rk.split i.toNat
      subst z
      obtain ⟨m1, m2, m3⟩ := nd_app.mp n2
      refine ⟨p, vs, i, v, rfl, rfl, hp, by rw [← rk.length]; exact Nat.lt_of_lt_of_le hl.2.2 (by decide), hl.1, by omega, q .non _ (A' ++ Ta ++ B') [] ((h1.append (.sing rd)).append h2) ⟨rfl, rfl⟩ ?_ fun a ha => ?_⟩
      · refine (show (A' ++ Ta ++ B').Nodup from nd_app.mpr ⟨nd_app.mpr ⟨m1, n1, fun a ha hb => n3 a hb (List.mem_append_left _ ha)⟩, m2, fun a ha hb => ?_⟩)
        rcases List.mem_append.mp ha with m | m
        · exact m3 a m hb
        · exact n3 a m (List.mem_append_right _ hb)
      · rcases List.mem_append.mp (show a ∈ A' ++ Ta ++ B' from ha) with m | m
        · rcases List.mem_append.mp m with m | m
          · exact List.mem_append_right _ (List.mem_append_left _ m)
          · exact List.mem_append_left _ m
        · exact List.mem_append_right _ (List.mem_append_right _ m)
    · cases h

/-! ### statements -/
inductive Out where
  | nx (E : En)
  | rt (d : D) (E : En)
  | bk (E : En)
  | ct (E : En)
/-- the slots behind: but those of as they hold what they held -/
def SO (as : List Nat) (σ σ' : St) : Prop := ∀ k, k ∉ as → σ'[k]? = σ[k]?
theorem SO.refl {as : List Nat} : SO as σ σ := fun _ _ => rfl
theorem SO.trans {as : List Nat} {σ2 : St} (a : SO as σ σ') (b : SO as σ' σ2) : SO as σ σ2 := fun k n => (b k n).trans (a k n)
theorem SO.more {as bs : List Nat} (a : SO as σ σ') (h : ∀ k, k ∈ as → k ∈ bs) : SO bs σ σ' := fun k n => a k fun m => n (h k m)
/-- a state behind -/
structure Be (K : PySem.W.Frag) (as : List Nat) (σ : St) (G : Hp) (S : Addr → Prop) (F : List Addr) (E' : En) (σ' : St) (G' : Hp) (S' : Addr → Prop) (F' : List Addr) : Prop where
  so : SO as σ σ'
  sr : SR K G' S' E' σ' F'
  stp : Stp G S F G' S' F'
/-- what is handed back -/
structure Rt (K : PySem.W.Frag) (as : List Nat) (σ : St) (G : Hp) (S : Addr → Prop) (F : List Addr) (E' : En) (d : D) (v : V) (σ' : St) (G' : Hp) (S' : Addr → Prop) (T F' : List Addr) : Prop where
  so : SO as σ σ'
  sr : SR K G' S' E' σ' F'
  rp : Rp K G' S' d v T
  nd : (T ++ F').Nodup
  ns : ∀ a, a ∈ T → ¬ S' a
  stp : Stp G S F G' S' (T ++ F')
theorem Be.refl {as : List Nat} (sr : SR K G S E σ F) : Be K as σ G S F E σ G S F := ⟨.refl, sr, .refl⟩
theorem Be.trans {as : List Nat} {σ2 : St} {G2 : Hp} {S2 : Addr → Prop} {F2 : List Addr} (a : Be K as σ G S F E1 σ' G' S' F') (b : Be K as σ' G' S' F' E2 σ2 G2 S2 F2) : Be K as σ G S F E2 σ2 G2 S2 F2 := ⟨a.so.trans b.so, b.sr, a.stp.trans b.stp⟩
theorem Be.rt {as : List Nat} {σ2 : St} {G2 : Hp} {S2 : Addr → Prop} {F2 : List Addr} {d : D} {v : V} (a : Be K as σ G S F E1 σ' G' S' F') (b : Rt K as σ' G' S' F' E2 d v σ2 G2 S2 T F2) : Rt K as σ G S F E2 d v σ2 G2 S2 T F2 :=
  ⟨a.so.trans b.so, b.sr, b.rp, b.nd, b.ns, a.stp.trans b.stp⟩
theorem Be.more {as bs : List Nat} (a : Be K as σ G S F E1 σ' G' S' F') (h : ∀ k, k ∈ as → k ∈ bs) : Be K bs σ G S F E1 σ' G' S' F' := ⟨a.so.more h, a.sr, a.stp⟩
theorem Rt.more {as bs : List Nat} {d : D} {v : V} (a : Rt K as σ G S F E1 d v σ' G' S' T F') (h : ∀ k, k ∈ as → k ∈ bs) : Rt K bs σ G S F E1 d v σ' G' S' T F' := ⟨a.so.more h, a.sr, a.rp, a.nd, a.ns, a.stp⟩
theorem RO.be {as : List Nat} (ro : RO K σ G S F E2 os vs G1 S1 T F1) : Be K as σ G S F E2 σ G1 S1 F1 := ⟨.refl, ro.sr, ro.dropAll.stp⟩
abbrev EvS := En → Option Out
/-- what an outcome wants -/
def Wants (K : PySem.W.Frag) (as : List Nat) (D : Ends) (σ : St) (G : Hp) (S : Addr → Prop) (F : List Addr) : Out → Prop
  | .nx E' => ∀ σ' G' S' F', Be K as σ G S F E' σ' G' S' F' → D.nx σ' G'
  | .bk E' => ∀ σ' G' S' F', Be K as σ G S F E' σ' G' S' F' → D.bk σ' G'
  | .ct E' => ∀ σ' G' S' F', Be K as σ G S F E' σ' G' S' F' → D.ct σ' G'
  | .rt d E' => ∀ v σ' G' S' T F', Rt K as σ G S F E' d v σ' G' S' T F' → D.rt v G'
theorem Wants.be {as : List Nat} {D : Ends} {o : Out} (h : Wants K as D σ G S F o) (b : Be K as σ G S F E1 σ' G' S' F') : Wants K as D σ' G' S' F' o := by
  cases o with
  | nx E' => exact fun σ2 G2 S2 F2 c => h σ2 G2 S2 F2 (b.trans c)
  | bk E' => exact fun σ2 G2 S2 F2 c => h σ2 G2 S2 F2 (b.trans c)
  | ct E' => exact fun σ2 G2 S2 F2 c => h σ2 G2 S2 F2 (b.trans c)
  | rt d E' => exact fun v σ2 G2 S2 T F2 c => h v σ2 G2 S2 T F2 (b.rt c)
theorem Wants.less {as bs : List Nat} {D : Ends} {o : Out} (h : Wants K bs D σ G S F o) (m : ∀ k, k ∈ as → k ∈ bs) : Wants K as D σ G S F o := by
  cases o with
  | nx E' => exact fun σ2 G2 S2 F2 c => h σ2 G2 S2 F2 (c.more m)
  | bk E' => exact fun σ2 G2 S2 F2 c => h σ2 G2 S2 F2 (c.more m)
  | ct E' => exact fun σ2 G2 S2 F2 c => h σ2 G2 S2 F2 (c.more m)
  | rt d E' => exact fun v σ2 G2 S2 T F2 c => h v σ2 G2 S2 T F2 (c.more m)
def tS (K : PySem.W.Frag) (as : List Nat) (ev : EvS) : TS := fun D σ G => ∃ S F E o, SR K G S E σ F ∧ ev E = some o ∧ Wants K as D σ G S F o
theorem t_more {as bs : List Nat} {ev : EvS} {D : Ends} (h : tS K bs ev D σ G) (m : ∀ k, k ∈ as → k ∈ bs) : tS K as ev D σ G := by
  obtain ⟨S, F, E, o, sr, he, w⟩ := h
  exact ⟨S, F, E, o, sr, he, w.less m⟩

def evNx : EvS := fun E => some (.nx E)
theorem t_nx {as : List Nat} {D : Ends} (h : tS K as evNx D σ G) : tNext D σ G := by
  obtain ⟨S, F, E, o, sr, he, w⟩ := h
  cases he
  exact w σ G S F (.refl sr)
def evBk : EvS := fun E => some (.bk E)
theorem t_bk {as : List Nat} {D : Ends} (h : tS K as evBk D σ G) : tBreak D σ G := by
  obtain ⟨S, F, E, o, sr, he, w⟩ := h
  cases he
  exact w σ G S F (.refl sr)
def evCt : EvS := fun E => some (.ct E)
theorem t_ct {as : List Nat} {D : Ends} (h : tS K as evCt D σ G) : tCont D σ G := by
  obtain ⟨S, F, E, o, sr, he, w⟩ := h
  cases he
  exact w σ G S F (.refl sr)
def evSeq (a b : EvS) : EvS := fun E => match a E with
  | some (.nx E1) => b E1
  | o => o
theorem t_seq {as : List Nat} {a b : EvS} {D : Ends} (h : tS K as (evSeq a b) D σ G) : tSeq (tS K as a) (tS K as b) D σ G := by
  obtain ⟨S, F, E, o, sr, he, w⟩ := h
  unfold evSeq at he
  cases ha : a E with
  | none => rw [ha] at he; cases he
  | some oa =>
    rw [ha] at he
    cases oa with
    | nx E1 => exact ⟨S, F, E, .nx E1, sr, ha, fun σ1 G1 S1 F1 b1 => ⟨S1, F1, E1, o, b1.sr, he, w.be b1⟩⟩
    | rt d E1 => cases he; exact ⟨S, F, E, _, sr, ha, w⟩
    | bk E1 => cases he; exact ⟨S, F, E, _, sr, ha, w⟩
    | ct E1 => cases he; exact ⟨S, F, E, _, sr, ha, w⟩
def evIf (c : EvT) (a b : EvS) : EvS := fun E => match c E with
  | some (true, E1) => a E1
  | some (false, E1) => b E1
  | none => none
theorem t_if {as : List Nat} {c : EvT} {a b : EvS} {D : Ends} (h : tS K as (evIf c a b) D σ G) : tIfS (tT K c) (tS K as a) (tS K as b) D σ G := by
  obtain ⟨S, F, E, o, sr, he, w⟩ := h
  unfold evIf at he
  split at he
  · rename_i E1 h1
    exact ⟨S, F, E, true, E1, sr, h1, fun G1 S1 F1 ro => iteT ⟨S1, F1, E1, o, ro.sr, he, w.be (ro.be (as := as))⟩⟩
  · rename_i E1 h1
    exact ⟨S, F, E, false, E1, sr, h1, fun G1 S1 F1 ro => iteF ⟨S1, F1, E1, o, ro.sr, he, w.be (ro.be (as := as))⟩⟩
  · cases he
/-- an expression for what it does -/
def evEx (ea : EvO) : EvS := fun E => match ea E with
  | some (_, E1) => some (.nx E1)
  | none => none
theorem t_ex {as : List Nat} {ea : EvO} {D : Ends} (h : tS K as (evEx ea) D σ G) : tDrop (tO K ea) D σ G := by
  obtain ⟨S, F, E, o, sr, he, w⟩ := h
  unfold evEx at he
  split at he
  · rename_i x E1 h1
    cases he
    exact ⟨S, F, E, x, E1, sr, h1, fun v G1 S1 T1 F1 ro => w σ G1 S1 F1 (ro.be (as := as))⟩
  · cases he
def evRet (ea : EvO) : EvS := fun E => match ea E with
  | some (o, E1) => match tks [o] E1 with
    | some ([d], E2) => some (.rt d E2)
    | _ => none
  | none => none
theorem t_ret {as : List Nat} {ea : EvO} {D : Ends} (h : tS K as (evRet ea) D σ G) : tRet (tO K ea) D σ G := by
  obtain ⟨S, F, E, o, sr, he, w⟩ := h
  unfold evRet at he
  split at he
  · rename_i x E1 h1
    split at he
    · rename_i d E2 h2
      cases he
      refine ⟨S, F, E, x, E1, sr, h1, fun v G1 S1 T1 F1 ro => ?_⟩
      obtain ⟨S2, F2, T2, sr2, rp, nd, ns, stp⟩ := ro.taken h2
      obtain ⟨v', e, r⟩ := RpL.one (v := v) rp
      cases e
      exact w v σ G1 S2 T2 F2 ⟨.refl, sr2, r, nd, ns, stp⟩
    · cases he
  · cases he
def evRetN : EvS := fun E => some (.rt .non E)
theorem t_retN {as : List Nat} {D : Ends} (h : tS K as evRetN D σ G) : tRetN D σ G := by
  obtain ⟨S, F, E, o, sr, he, w⟩ := h
  cases he
  exact w .non σ G S [] F ⟨.refl, sr, ⟨rfl, rfl⟩, sr.nd, (fun _ m => by cases m), .refl⟩
end
end DE

/-! Part G: targets, stores, while. -/
namespace DE
open PySem PySem.Spec L2

section
variable {K : PySem.W.Frag} {σ σ' : St} {G G' G1 G2 : Hp} {S S' S1 : Addr → Prop} {F F' F1 T T1 : List Addr} {E E' E1 E2 E3 : En} {Q : VK} {os : List Opd} {vs : List V}

/-! ### targets -/
abbrev St1 := D → En → Option En
abbrev StN := List D → En → Option En
/-- behind a store -/
structure Gt (K : PySem.W.Frag) (as : List Nat) (σ : St) (G : Hp) (S : Addr → Prop) (F : List Addr) (E' : En) (σ' : St) (G' : Hp) (S' : Addr → Prop) (F' : List Addr) : Prop where
  be : Be K as σ G S F E' σ' G' S' F'
  len : σ'.length = σ.length
def gT (K : PySem.W.Frag) (as : List Nat) (st : St1) : TG := fun v σ G Q => ∃ S F E d T E', SR K G S E σ F ∧ Rp K G S d v T ∧ (T ++ F).Nodup ∧ (∀ a, a ∈ T → ¬ S a) ∧ st d E = some E' ∧ ∀ σ' G' S' F', Gt K as σ G S (T ++ F) E' σ' G' S' F' → Q σ' G'
def gTs (K : PySem.W.Frag) (as : List Nat) (st : StN) : TGs := fun vs σ G Q => ∃ S F E ds T E', SR K G S E σ F ∧ RpL K G S ds vs T ∧ (T ++ F).Nodup ∧ (∀ a, a ∈ T → ¬ S a) ∧ st ds E = some E' ∧ ∀ σ' G' S' F', Gt K as σ G S (T ++ F) E' σ' G' S' F' → Q σ' G'
theorem _root_.L2.PG.weak {X : Cx} {e : Expr} {t t' : TG} (h : PG X e t) (w : ∀ v σ G Q, t' v σ G Q → t v σ G Q) : PG X e t' := ⟨fun pins s σ H v u Q I r hq => h.run pins s σ H v u Q I r (w v σ H Q hq)⟩
theorem _root_.L2.PGs.weak {X : Cx} {e : List Expr} {t t' : TGs} (h : PGs X e t) (w : ∀ v σ G Q, t' v σ G Q → t v σ G Q) : PGs X e t' := ⟨fun pins s σ H v u Q I r hq => h.run pins s σ H v u Q I r (w v σ H Q hq)⟩
def stNm (i : Nat) : St1 := fun d E => if i < E.length then some (E.set i (some d)) else none
theorem sr_set {i : Nat} {d : D} {v : V} (sr : SR K G S E σ F) (r : Rp K G S d v T) (nd : (T ++ F).Nodup) (ns : ∀ a, a ∈ T → ¬ S a) (hi : i < E.length) :
    ∃ F', SR K G S (E.set i (some d)) (σ.set i (some v)) F' ∧ ∀ a, a ∈ F' → a ∈ T ++ F := by
  obtain ⟨n1, n2, n3⟩ := nd_app.mp nd
  obtain ⟨F2, h2, sub⟩ := sr.rep.drop i (some v)
  obtain ⟨F', h', pp⟩ := REnv.put (i := i) (d := d) h2 (by rw [List.getElem?_set_self hi]) r
  rw [List.set_set, List.set_set] at h'
  have m : ∀ a, a ∈ F' → a ∈ T ++ F := fun a ha => by
    rcases List.mem_append.mp (pp.mem_iff.mp ha) with k | k
    · exact List.mem_append_left _ k
    · exact List.mem_append_right _ (sub.subset k)
  refine ⟨F', ⟨h', pp.nodup_iff.mpr (nd_app.mpr ⟨n1, sub.nodup n2, fun a ha hb => n3 a ha (sub.subset hb)⟩), fun a ha => ?_, sr.sd⟩, m⟩
  rcases List.mem_append.mp (m a ha) with k | k
  · exact ns a k
  · exact sr.ns a k
theorem so_set {i : Nat} {w : Option V} : SO [i] σ (σ.set i w) := fun k n => by
  have : i ≠ k := fun e => n (by rw [e]; exact List.mem_cons_self ..)
  rw [List.getElem?_set_ne this]
theorem g_nm {i : Nat} {v : V} {Q : St → Hp → Prop} (h : gT K [i] (stNm i) v σ G Q) : gName i v σ G Q := by
  obtain ⟨S, F, E, d, T, E', sr, r, nd, ns, he, q⟩ := h
  unfold stNm at he
  split at he
  · rename_i hi
    cases he
    obtain ⟨F', sr', m⟩ := sr_set sr r nd ns hi
    exact q _ G S F' ⟨⟨so_set, sr', Stp.refl.less m⟩, by rw [List.length_set]⟩
  · cases he
def stNil : StN := fun ds E => match ds with
  | [] => some E
  | _ => none
def stCons (a : St1) (b : StN) : StN := fun ds E => match ds with
  | d :: ds => match a d E with
    | some E1 => b ds E1
    | none => none
  | [] => none
def stTup (b : StN) : St1 := fun d E => match d with
  | .tup ds => b ds E
  | _ => none
theorem g_nil {Q : St → Hp → Prop} (h : gTs K [] stNil vs σ G Q) : gNil vs σ G Q := by
  obtain ⟨S, F, E, ds, T, E', sr, r, nd, ns, he, q⟩ := h
  unfold stNil at he
  split at he
  · cases he
    obtain ⟨e, z⟩ := r
    subst e z
    exact ⟨rfl, q σ G S F ⟨.refl sr, rfl⟩⟩
  · cases he
theorem g_cons {as bs : List Nat} {a : St1} {b : StN} {Q : St → Hp → Prop} (h : gTs K (as ++ bs) (stCons a b) vs σ G Q) : gCons (gT K as a) (gTs K bs b) vs σ G Q := by
  obtain ⟨S, F, E, ds, T, E', sr, r, nd, ns, he, q⟩ := h
  unfold stCons at he
  split at he
  · rename_i d ds
    split at he
    · rename_i E1 h1
      obtain ⟨v, vs', A, B, e, z, r1, r2⟩ := r
      subst e z
      rw [List.append_assoc] at nd
      obtain ⟨n1, n2, n3⟩ := nd_app.mp nd
      obtain ⟨n4, n5, n6⟩ := nd_app.mp n2
      refine ⟨v, vs', rfl, S, F, E, d, A, E1, sr, r1, nd_app.mpr ⟨n1, n5, fun x hx hy => n3 x hx (List.mem_append_right _ hy)⟩, fun x hx => ns x (List.mem_append_left _ hx), h1, fun σ1 G1 S1 F1 g1 => ?_⟩
      have apart : ∀ x, x ∈ B → x ∉ A ++ F := fun x hx hy => by
        rcases List.mem_append.mp hy with k | k
        · exact n3 x k (List.mem_append_left _ hx)
        · exact n6 x hx k
      have nsAF : ∀ x, x ∈ A ++ F → ¬ S x := fun x hx => by
        rcases List.mem_append.mp hx with k | k
        · exact ns x (List.mem_append_left _ k)
        · exact sr.ns x k
      have r2' : RpL K G1 S1 ds vs' B := r2.mono (fun p o hs e => g1.be.stp.keep p o e fun m => nsAF p m hs) (fun p hp => by
        obtain ⟨o, e⟩ := r2.dom p hp
        rw [e, g1.be.stp.keep p o e (apart p hp)]) g1.be.stp.ss
      have ap1 : ∀ x, x ∈ B → x ∉ F1 := fun x hx hy => by
        rcases g1.be.stp.fs x hy with k | k
        · exact apart x hx k
        · obtain ⟨o, e⟩ := r2.dom x hx
          rw [e] at k; cases k
      refine ⟨S1, F1, E1, ds, B, E', g1.be.sr, r2', nd_app.mpr ⟨n4, g1.be.sr.nd, ap1⟩, fun x hx hs => ?_, he, fun σ2 G2 S2 F2 g2 => ?_⟩
      · rcases g1.be.stp.sn x hs with k | k | k
        · exact ns x (List.mem_append_right _ hx) k
        · exact apart x hx k
        · obtain ⟨o, e⟩ := r2.dom x hx
          rw [e] at k; cases k
      · refine q σ2 G2 S2 F2 ⟨⟨(g1.be.so.more fun k m => List.mem_append_left _ m).trans (g2.be.so.more fun k m => List.mem_append_right _ m), g2.be.sr, ?_⟩, g2.len.trans g1.len⟩
        have big : Stp G S (B ++ (A ++ F)) G1 S1 (B ++ F1) := g1.be.stp.frame
        exact (big.more (F0 := A ++ B ++ F) fun x hx => by
          rcases List.mem_append.mp hx with k | k
          · exact List.mem_append_left _ (List.mem_append_right _ k)
          · rcases List.mem_append.mp k with k | k
            · exact List.mem_append_left _ (List.mem_append_left _ k)
            · exact List.mem_append_right _ k).trans g2.be.stp
    · cases he
  · cases he
theorem g_tup {as : List Nat} {b : StN} {n : Nat} {v : V} {Q : St → Hp → Prop} (hn : ∀ ds E E', b ds E = some E' → ds.length = n) (h : gT K as (stTup b) v σ G Q) : gTup K n (gTs K as b) v σ G Q := by
  obtain ⟨S, F, E, d, T, E', sr, r, nd, ns, he, q⟩ := h
  unfold stTup at he
  split at he
  · rename_i ds
    obtain ⟨p, vs, e, hp, r⟩ := r
    refine ⟨p, vs, e, ?_, by rw [← r.length, hn _ _ _ he], S, F, E, ds, T, E', sr, r, nd, ns, he, q⟩
    rcases hp with ⟨_, hp⟩ | hp
    · exact SqT.of hp
    · exact hp.to
  · cases he

/-! ### stores -/
def evAsg (ea : EvO) (st : St1) : EvS := fun E => match ea E with
  | some (o, E1) => match tks [o] E1 with
    | some ([d], E2) => match st d E2 with
      | some E3 => some (.nx E3)
      | none => none
    | _ => none
  | none => none
theorem t_asg {as : List Nat} {ea : EvO} {st : St1} {D : Ends} (h : tS K as (evAsg ea st) D σ G) : tAsg (tO K ea) (gT K as st) D σ G := by
  obtain ⟨S, F, E, o, sr, he, w⟩ := h
  unfold evAsg at he
  split at he
  · rename_i x E1 h1
    split at he
    · rename_i d E2 h2
      split at he
      · rename_i E3 h3
        cases he
        refine ⟨S, F, E, x, E1, sr, h1, fun v G1 S1 T1 F1 ro => ?_⟩
        obtain ⟨S2, F2, T2, sr2, rp, nd, ns, stp⟩ := ro.taken h2
        obtain ⟨v', e, r⟩ := RpL.one (v := v) rp
        cases e
        exact ⟨S2, F2, E2, d, T2, E3, sr2, r, nd, ns, h3, fun σ' G' S' F' g => w σ' G' S' F' ⟨g.be.so, g.be.sr, stp.trans g.be.stp⟩⟩
      · cases he
    · cases he
  · cases he
/-! ### while -/
def evWh (c : EvT) (b : EvS) : Nat → EvS
  | 0 => fun _ => none
  | n + 1 => fun E => match c E with
    | some (false, E1) => some (.nx E1)
    | some (true, E1) => match b E1 with
      | some (.nx E2) => evWh c b n E2
      | some (.ct E2) => evWh c b n E2
      | some (.bk E2) => some (.nx E2)
      | some (.rt d E2) => some (.rt d E2)
      | none => none
    | none => none
theorem t_wh {as : List Nat} {c : EvT} {b : EvS} {n : Nat} {D : Ends} (h : tS K as (evWh c b n) D σ G) : tWhile (tT K c) (tS K as b) D σ G := by
  refine ⟨fun m σ G => tS K as (evWh c b m) D σ G, ⟨n, h⟩, fun m σ G h => ?_⟩
  obtain ⟨S, F, E, o, sr, he, w⟩ := h
  cases m with
  | zero => cases he
  | succ m =>
    unfold evWh at he
    split at he
    · rename_i E1 h1
      cases he
      exact ⟨S, F, E, false, E1, sr, h1, fun G1 S1 F1 ro => iteF (w σ G1 S1 F1 (ro.be (as := as)))⟩
    · rename_i E1 h1
      refine ⟨S, F, E, true, E1, sr, h1, fun G1 S1 F1 ro => iteT ⟨fun σ G => tS K as (evWh c b m) D σ G, fun σ' H' h => ⟨m, Nat.lt_succ_self m, h⟩, ?_⟩⟩
      have w1 := w.be (ro.be (as := as))
      cases hb : b E1 with
      | none => rw [hb] at he; cases he
      | some ob =>
        rw [hb] at he
        refine ⟨S1, F1, E1, ob, ro.sr, hb, ?_⟩
        cases ob with
        | nx E2 => exact fun σ2 G2 S2 F2 b2 => ⟨S2, F2, E2, o, b2.sr, he, w1.be b2⟩
        | ct E2 => exact fun σ2 G2 S2 F2 b2 => ⟨S2, F2, E2, o, b2.sr, he, w1.be b2⟩
        | bk E2 => cases he; exact w1
        | rt d E2 => cases he; exact w1
    · cases he
end
end DE

/-! Part H: what is walked; for; comprehensions; functions. -/
namespace DE
open PySem PySem.Spec L2

section
variable {K : PySem.W.Frag} {σ σ' : St} {G G' G1 G2 : Hp} {S S' S1 : Addr → Prop} {F F' F1 T T1 : List Addr} {E E' E1 E2 E3 : En} {Q : VK} {os : List Opd} {vs : List V}

/-! ### what is walked -/
inductive Src where
  /-- items that stand still -/
  | it (ds : List D)
  /-- the list of a name, as it stands at each turn -/
  | own (i : Nat)
def FeedsI (K : PySem.W.Frag) (G : Hp) (S : Addr → Prop) (ds : List D) (J : It) : Prop := ∀ (H : Hp) (S1 : Addr → Prop), (∀ a o, S a → G a = some o → H a = some o) → (∀ a, S a → S1 a) → (∀ a, S1 a → ∃ o, H a = some o) →
  (∀ k d, ds[k]? = some d → J.go k H ∧ ∀ x H', J.yld k H x H' → ∃ S2, NewR K H S1 d x H' S2 []) ∧ ∀ k, ds.length ≤ k → J.stop k H
def Feeds (K : PySem.W.Frag) (σ : St) (G : Hp) (S : Addr → Prop) (s : Src) (J : It) : Prop := match s with
  | .it ds => FeedsI K G S ds J
  | .own i => ∃ p, σ[i]? = some (some (.ref p)) ∧ J = Itl K p
abbrev EvI := En → Option (Src × En)
def tI (K : PySem.W.Frag) (ev : EvI) : TI := fun σ G R => ∃ S F E s E', SR K G S E σ F ∧ ev E = some (s, E') ∧ ∀ J G' S' F', RO K σ G S F E' [] [] G' S' [] F' → Feeds K σ G' S' s J → R J G'
theorem _root_.L2.PI.weak {X : Cx} {tg e : Expr} {t t' : TI} (h : PI X tg e t) (w : ∀ σ G R, t' σ G R → t σ G R) : PI X tg e t' := ⟨fun pins s σ H R I hq => h.run pins s σ H R I (w σ H R hq)⟩

/-- a list, a tuple, a text -/
def iAny (K : PySem.W.Frag) (tl : TE) : TI := fun σ H R => tl σ H fun x H1 => (∃ a, x = .ref a ∧ (∃ xs, SqL K H1 a xs) ∧ R (Itl K a) H1) ∨ (∃ a, x = .ref a ∧ (∃ xs, SqT K H1 a xs) ∧ R (Itt K a) H1) ∨ ∃ z, x = .str z ∧ R (Its z) H1
theorem pi_any {X : Cx} {tg e : Expr} {tl : TE} (he : PE X e tl) : PI X tg e (iAny X.K tl) := by
  refine ⟨fun pins s σ H R I h => wpAny_mono (he.run pins s σ H _ I h) ?_ fun _ _ z => z⟩
  rintro v s1 ⟨x, H1, I1, r1, ⟨a, ex, ⟨xs, hx⟩, q⟩ | ⟨a, ex, ⟨xs, hx⟩, q⟩ | ⟨z, ex, q⟩⟩ <;> subst ex
  · cases r1
    obtain ⟨its, _, p, _⟩ := I1.list hx
    exact wpAny_pyIter_list p.isList (pi_one (tk := s1.toks) I1 _ (turn_list a _) ⟨_, Heap.get?_push_size _ rfl, rfl, rfl⟩ q)
  · cases r1
    obtain ⟨its, _, p, _⟩ := I1.tuple hx
    exact wpAny_pyIter_tuple (show s1.heap.IsTuple a its.toArray from p) (pi_one (tk := s1.toks) I1 _ (turn_tuple a _) ⟨_, Heap.get?_push_size _ rfl, rfl, rfl⟩ q)
  · obtain ⟨t, rfl⟩ := r1
    by_cases ha : z.cps.all (· < 128) = true
    · exact wpAny_pyIter_ascii ha (pi_one (tk := s1.toks) I1 _ (turn_str _ z t "str_ascii_iterator" (.inl rfl)) ⟨_, Heap.get?_push_size _ rfl, rfl, rfl⟩ q)
    · exact wpAny_pyIter_wide (by simpa using ha) (pi_one (tk := s1.toks) I1 _ (turn_str _ z t "str_iterator" (.inr rfl)) ⟨_, Heap.get?_push_size _ rfl, rfl, rfl⟩ q)
def signs (x : Str) : List D := x.cps.toList.map fun c => .str ⟨#[c]⟩
def kidsOf : D → Option (List D)
  | .lst _ ds => some ds
  | .tup ds => some ds
  | .scr ds => some ds
  | .str x => some (signs x)
  | _ => none
theorem NewR.same {d : D} {v : V} (h : Rp K G S d v []) : ∃ S2, NewR K G S d v G S2 [] := ⟨S, .old h⟩
theorem fe_lst {p : Addr} {ds : List D} (hp : SqL K G p vs) (st : ∀ H : Hp, (∀ a o, S a → G a = some o → H a = some o) → SqL K H p vs) (r : RpL K G S ds vs []) : FeedsI K G S ds (Itl K p) := by
  intro H S1 k1 k2 k3
  have hq := st H k1
  have r' : RpL K H S1 ds vs [] := r.mono k1 (fun _ m => by cases m) k2
  refine ⟨fun k d hd => ?_, fun k hk => ⟨vs, hq, by rw [← r.length]; exact hk⟩⟩
  obtain ⟨v, hv, rv⟩ := r'.get hd
  refine ⟨⟨vs, v, hq, hv⟩, fun x H' hy => ?_⟩
  obtain ⟨e, hy⟩ := hy
  subst e
  have := hy vs hq
  rw [hv] at this
  cases this
  exact NewR.same rv
theorem fe_tup {p : Addr} {ds : List D} (st : ∀ H : Hp, (∀ a o, S a → G a = some o → H a = some o) → SqT K H p vs) (r : RpL K G S ds vs []) : FeedsI K G S ds (Itt K p) := by
  intro H S1 k1 k2 k3
  have hq := st H k1
  have r' : RpL K H S1 ds vs [] := r.mono k1 (fun _ m => by cases m) k2
  refine ⟨fun k d hd => ?_, fun k hk => ⟨vs, hq, by rw [← r.length]; exact hk⟩⟩
  obtain ⟨v, hv, rv⟩ := r'.get hd
  refine ⟨⟨vs, v, hq, hv⟩, fun x H' hy => ?_⟩
  obtain ⟨e, hy⟩ := hy
  subst e
  have := hy vs hq
  rw [hv] at this
  cases this
  exact NewR.same rv
theorem fe_str {x : Str} : FeedsI K G S (signs x) (Its x) := by
  intro H S1 k1 k2 k3
  have hl : (signs x).length = x.cps.size := by unfold signs; rw [List.length_map, Array.length_toList]
  refine ⟨fun k d hd => ?_, fun k hk => (show x.cps.size ≤ k by rw [← hl]; exact hk)⟩
  have hk : k < (signs x).length := (List.getElem?_eq_some_iff.mp hd).1
  refine ⟨(show k < x.cps.size by rw [← hl]; exact hk), fun v H' hy => ?_⟩
  obtain ⟨e, c, hc, ev⟩ := hy
  subst e ev
  unfold signs at hd
  rw [List.getElem?_map, Array.getElem?_toList, hc] at hd
  cases hd
  exact NewR.same ⟨rfl, rfl⟩
/-- a thing that never changes is walked -/
theorem fe_any {d : D} {v : V} {ds : List D} (r : Rp K G S d v []) (hf : frz d = d) (hk : kidsOf d = some ds) :
    (∃ a, v = .ref a ∧ (∃ xs, SqL K G a xs) ∧ FeedsI K G S ds (Itl K a)) ∨ (∃ a, v = .ref a ∧ (∃ xs, SqT K G a xs) ∧ FeedsI K G S ds (Itt K a)) ∨ ∃ z, v = .str z ∧ FeedsI K G S ds (Its z) := by
  cases d <;> simp only [kidsOf, Option.some.injEq, reduceCtorEq] at hk
  · subst hk
    exact .inr (.inr ⟨_, r.1, fe_str⟩)
  · subst hk
    obtain ⟨p, vs, e, hp, r⟩ := r
    refine .inr (.inl ⟨p, e, ⟨vs, ?_⟩, fe_tup (fun H k => ?_) r⟩)
    · rcases hp with ⟨_, hp⟩ | hp
      · exact SqT.of hp
      · exact hp.to
    · rcases hp with ⟨h1, hp⟩ | hp
      · exact SqT.of (k _ _ h1 hp)
      · exact hp.to
  · subst hk
    rename_i m ds
    cases m with
    | true => injection hf with hf; cases hf
    | false =>
      obtain ⟨_, p, vs, e, h1, hp, r⟩ := r
      exact .inl ⟨p, e, ⟨vs, SqL.of hp⟩, fe_lst (SqL.of hp) (fun H k => SqL.of (k _ _ h1 hp)) r⟩
  · subst hk
    obtain ⟨_, p, vs, e, hp, r⟩ := r
    rcases hp with ⟨h1, hp⟩ | hp
    · exact .inl ⟨p, e, ⟨vs, .inl hp⟩, fe_lst (.inl hp) (fun H k => .inl (hp.imp (k _ _ h1) fun ⟨o, q⟩ => ⟨o, k _ _ h1 q⟩)) r⟩
    · exact .inl ⟨p, e, ⟨vs, hp.to⟩, fe_lst hp.to (fun H k => hp.to) r⟩
/-- for x in e -/
def evSq (ea : EvO) : EvI := fun E => match ea E with
  | some (.slot i, E1) => match E1[i]? with
    | some (some d) => if isF d = true then (match kidsOf d with
      | some ds => some (.it ds, E1)
      | none => none) else (match d with
      | .lst true _ => some (.own i, E1)
      | _ => none)
    | _ => none
  | some (.temp d, E1) => match kidsOf (frz d) with
    | some ds => some (.it ds, E1)
    | none => none
  | none => none
theorem t_sq {ea : EvO} {R : It → Hp → Prop} (h : tI K (evSq ea) σ G R) : iAny K (tO K ea) σ G R := by
  obtain ⟨S, F, E, s, E', sr, he, q⟩ := h
  unfold evSq at he
  split at he
  · rename_i i E1 h1
    refine ⟨S, F, E, .slot i, E1, sr, h1, fun v G1 S1 T1 F1 ro => ?_⟩
    obtain ⟨hv, _⟩ := ro.ro.one
    split at he
    · rename_i d hd
      obtain ⟨v', A, Fr, g1, g2, _⟩ := ro.sr.rep.get hd
      rw [hv] at g1
      cases g1
      split at he
      · rename_i hf
        split at he
        · rename_i ds hk
          cases he
          have hz := isF_frz d hf
          have := g2.nil hz
          subst this
          rcases fe_any g2 hz hk with ⟨a, e, h2, f⟩ | ⟨a, e, h2, f⟩ | ⟨z, e, f⟩
          · exact .inl ⟨a, e, h2, q _ G1 S1 F1 ro.dropAll f⟩
          · exact .inr (.inl ⟨a, e, h2, q _ G1 S1 F1 ro.dropAll f⟩)
          · exact .inr (.inr ⟨z, e, q _ G1 S1 F1 ro.dropAll f⟩)
        · cases he
      · split at he
        · cases he
          obtain ⟨p, ws, e, hp⟩ := lst_any g2
          subst e
          exact .inl ⟨p, rfl, ⟨ws, SqL.of hp⟩, q _ G1 S1 F1 ro.dropAll ⟨p, hv, rfl⟩⟩
        · cases he
    · cases he
  · rename_i d E1 h1
    refine ⟨S, F, E, .temp d, E1, sr, h1, fun v G1 S1 T1 F1 ro => ?_⟩
    split at he
    · rename_i ds hk
      cases he
      have r : Rp K G1 S1 d v T1 := ro.ro.one
      have rf : Rp K G1 (fun a => S1 a ∨ a ∈ T1) (DE.frz d) v [] := r.frz (fun _ z => .inl z) fun _ z => .inr z
      obtain ⟨n1, n2, n3⟩ := nd_app.mp ro.nd
      have ro' : RO K σ G S F E' [] [] G1 (fun a => S1 a ∨ a ∈ T1) [] F1 := ⟨⟨ro.sr.rep.mono (fun _ _ _ z => z) (fun _ _ => rfl) fun _ z => .inl z, n2, (fun a ha hs => by
        rcases hs with hs | hs
        · exact ro.sr.ns a ha hs
        · exact n3 a hs ha), fun a ha => by
        rcases ha with ha | ha
        · exact ro.sr.sd a ha
        · exact r.dom a ha⟩, ⟨rfl, rfl⟩, n2, (fun _ m => by cases m), ro.stp.keep, ro.stp.live, fun a ha => ro.stp.fs a (List.mem_append_right _ ha), fun a ha => .inl (ro.stp.ss a ha), fun a ha => by
        rcases ha with ha | ha
        · exact ro.stp.sn a ha
        · exact .inr (ro.stp.fs a (List.mem_append_left _ ha))⟩
      rcases fe_any rf (frz_frz d) hk with ⟨a, e, h2, f⟩ | ⟨a, e, h2, f⟩ | ⟨z, e, f⟩
      · exact .inl ⟨a, e, h2, q _ G1 _ F1 ro' f⟩
      · exact .inr (.inl ⟨a, e, h2, q _ G1 _ F1 ro' f⟩)
      · exact .inr (.inr ⟨z, e, q _ G1 _ F1 ro' f⟩)
    · cases he
  · cases he
/-! ranges -/
def rngD (lo : Int) (n : Nat) : List D := (List.range n).map fun (k : Nat) => .int (lo + (k : Int))
theorem fe_rng {lo : Int} {n : Nat} : FeedsI K G S (rngD lo n) (Itr lo n) := by
  intro H S1 k1 k2 k3
  have hl : (rngD lo n).length = n := by unfold rngD; rw [List.length_map, List.length_range]
  refine ⟨fun k d hd => ?_, fun k hk => by rw [hl] at hk; exact hk⟩
  have hk : k < (rngD lo n).length := (List.getElem?_eq_some_iff.mp hd).1
  rw [hl] at hk
  refine ⟨hk, fun v H' hy => ?_⟩
  obtain ⟨e, ev⟩ := hy
  subst e ev
  unfold rngD at hd
  rw [List.getElem?_map, List.getElem?_range hk] at hd
  cases hd
  exact NewR.same ⟨rfl, rfl⟩
/-- operands that are whole numbers -/
def asI : Opd → En → Option Int
  | .temp (.int b), _ => some b
  | .slot i, E => match E[i]? with
    | some (some (.int b)) => some b
    | _ => none
  | _, _ => none
theorem asI_rp {o : Opd} {v : V} {b : Int} (sr : SR K G S E σ F) (r : RpO K σ G S o v T) (h : asI o E = some b) : v = .int b := by
  cases o with
  | temp d =>
    cases d <;> simp only [asI, reduceCtorEq, Option.some.injEq] at h
    subst h
    exact r.1
  | slot i =>
    simp only [asI] at h
    split at h
    · rename_i b' hb
      cases h
      obtain ⟨v', F1, Fr, g1, g2, _⟩ := sr.rep.get hb
      rw [r.1] at g1
      cases g1
      exact g2.1
    · cases h
def evR1 (es : EvOs) : EvI := fun E => match es E with
  | some ([o], E1) => match asI o E1 with
    | some j => if (-j).toNat ≤ lim ∧ j.toNat ≤ lim then some (.it (rngD 0 j.toNat), E1) else none
    | none => none
  | _ => none
def evR2 (es : EvOs) : EvI := fun E => match es E with
  | some ([o, o2], E1) => match asI o E1, asI o2 E1 with
    | some i, some j => if ((-i).toNat ≤ lim ∧ i.toNat ≤ lim) ∧ (-j).toNat ≤ lim ∧ j.toNat ≤ lim then some (.it (rngD i (j - i).toNat), E1) else none
    | _, _ => none
  | _ => none
theorem big_of {j : Int} (h : (-j).toNat ≤ lim ∧ j.toNat ≤ lim) : -4611686018427387904 ≤ j ∧ j < 4611686018427387904 := by
  unfold lim at h
  omega
theorem t_r1 {es : EvOs} {R : It → Hp → Prop} (h : tI K (evR1 es) σ G R) : iRng1 (tOs K es) σ G R := by
  obtain ⟨S, F, E, s, E', sr, he, q⟩ := h
  unfold evR1 at he
  split at he
  · rename_i o E1 h1
    split at he
    · rename_i j h2
      split at he
      · rename_i hb
        cases he
        refine ⟨S, F, E, [o], E', sr, h1, fun vs G1 S1 T1 F1 ro => ?_⟩
        obtain ⟨v, vs', A, B, e, z, r, h⟩ := ro.ro
        obtain ⟨e2, _⟩ := h
        subst e2 e
        exact ⟨j, by rw [asI_rp ro.sr r h2], (big_of hb).1, (big_of hb).2, q _ G1 S1 F1 ro.dropAll fe_rng⟩
      · cases he
    · cases he
  · cases he
theorem t_r2 {es : EvOs} {R : It → Hp → Prop} (h : tI K (evR2 es) σ G R) : iRng2 (tOs K es) σ G R := by
  obtain ⟨S, F, E, s, E', sr, he, q⟩ := h
  unfold evR2 at he
  split at he
  · rename_i o o2 E1 h1
    split at he
    · rename_i i j h2 h3
      split at he
      · rename_i hb
        cases he
        refine ⟨S, F, E, [o, o2], E', sr, h1, fun vs G1 S1 T1 F1 ro => ?_⟩
        obtain ⟨v, vs', A, B, e, z, r, v2, vs2, A2, B2, e', z', r2, h⟩ := ro.ro
        obtain ⟨e2, _⟩ := h
        subst e2 e' e
        exact ⟨i, j, by rw [asI_rp ro.sr r h2, asI_rp ro.sr r2 h3], ⟨(big_of hb.1).1, (big_of hb.1).2, (big_of hb.2).1, (big_of hb.2).2⟩, q _ G1 S1 F1 ro.dropAll fe_rng⟩
      · cases he
    · cases he
  · cases he

/-! ### for -/
def turn (st : St1) (b : EvS) (d : D) (E : En) (k : EvS) : Option Out := match st d E with
  | some E1 => match b E1 with
    | some (.nx E2) => k E2
    | some (.ct E2) => k E2
    | some (.bk E2) => some (.nx E2)
    | some (.rt d E2) => some (.rt d E2)
    | none => none
  | none => none
def forIt (st : St1) (b : EvS) : List D → EvS
  | [] => fun E => some (.nx E)
  | d :: ds => fun E => turn st b d E (forIt st b ds)
/-- over a name's own list: n turns more at most, this is turn k -/
def forOwn (i : Nat) (st : St1) (b : EvS) : Nat → Nat → EvS
  | 0, _ => fun _ => none
  | n + 1, k => fun E => match E[i]? with
    | some (some (.lst true ds)) => match ds[k]? with
      | some d => turn st b (frz d) (E.set i (some (.lst true (frzL ds)))) (forOwn i st b n (k + 1))
      | none => some (.nx E)
    | some (some (.lst false ds)) => match ds[k]? with
      | some d => turn st b (frz d) (E.set i (some (.lst false (frzL ds)))) (forOwn i st b n (k + 1))
      | none => some (.nx E)
    | _ => none
def evFor (as : List Nat) (N : Nat) (src : EvI) (st : St1) (b : EvS) : EvS := fun E => match src E with
  | some (.it ds, E1) => forIt st b ds E1
  | some (.own i, E1) => if as.contains i = true then none else forOwn i st b N 0 E1
  | none => none
theorem turn_ok {as : List Nat} {st : St1} {b : EvS} {k : EvS} {d : D} {x : V} {o : Out} {D : Ends} {W : St → Hp → Prop} {S2 : Addr → Prop} {H' : Hp} (sr : SR K G S E σ F) (nr : NewR K G S d x H' S2 []) (h : turn st b d E k = some o) (w : Wants K as D σ G S F o)
    (hk : ∀ σ' G' S' F' E', Be K as σ G S F E' σ' G' S' F' → k E' = some o → W σ' G') : gT K as st x σ H' fun σ2 H2 => tS K as b { D with nx := W, ct := W, bk := D.nx } σ2 H2 := by
  unfold turn at h
  split at h
  · rename_i E1 h1
    have sr' : SR K H' S2 E σ F := ⟨sr.rep.mono (fun p o _ e => nr.keep p o e) (fun p hp => by
      obtain ⟨o, e⟩ := sr.rep.dom p hp
      rw [e, nr.keep p o e]) nr.ss, sr.nd, (fun a ha hs => by
        rcases nr.sn a hs with m | ⟨m, _⟩
        · exact sr.ns a ha m
        · obtain ⟨o, e⟩ := sr.rep.dom a ha
          rw [e] at m; cases m), fun a ha => by
        rcases nr.sn a ha with m | ⟨_, m⟩
        · obtain ⟨o, e⟩ := sr.sd a m
          exact ⟨o, nr.keep a o e⟩
        · exact m⟩
    have stp0 : Stp G S F H' S2 F := ⟨fun a o e _ => nr.keep a o e, fun a o e => ⟨o, nr.keep a o e⟩, fun a ha => .inl ha, nr.ss, fun a ha => (nr.sn a ha).imp id fun z => .inr z.1⟩
    refine ⟨S2, F, E, d, [], E1, sr', nr.rp, sr.nd, (fun _ m => by cases m), h1, fun σ1 G1 S1 F1 g => ?_⟩
    have b0 : Be K as σ G S F E1 σ1 G1 S1 F1 := ⟨g.be.so, g.be.sr, stp0.trans g.be.stp⟩
    cases hb : b E1 with
    | none => rw [hb] at h; cases h
    | some ob =>
      rw [hb] at h
      have w1 := w.be b0
      refine ⟨S1, F1, E1, ob, g.be.sr, hb, ?_⟩
      cases ob with
      | nx E2 => exact fun σ2 G2 S2 F2 c => hk σ2 G2 S2 F2 E2 (b0.trans c) h
      | ct E2 => exact fun σ2 G2 S2 F2 c => hk σ2 G2 S2 F2 E2 (b0.trans c) h
      | bk E2 => cases h; exact w1
      | rt d E2 => cases h; exact w1
  · cases h
theorem t_for {as : List Nat} {N : Nat} {src : EvI} {st : St1} {b : EvS} {D : Ends} (h : tS K as (evFor as N src st b) D σ G) : tFor (tI K src) (gT K as st) (tS K as b) D σ G := by
  obtain ⟨S, F, E, o, sr, he, w⟩ := h
  unfold evFor at he
  split at he
  · rename_i ds E1 h1
    refine ⟨S, F, E, .it ds, E1, sr, h1, fun J G1 S1 F1 ro fe => ?_⟩
    have fe : FeedsI K G1 S1 ds J := fe
    have w0 := w.be (ro.be (as := as))
    refine ⟨fun i m σ2 H => ∃ S2 F2 E2, Be K as σ G1 S1 F1 E2 σ2 H S2 F2 ∧ forIt st b (ds.drop i) E2 = some o ∧ m = ds.length - i, ⟨_, S1, F1, E1, .refl ro.sr, he, rfl⟩, fun i m σ2 H hW => ?_⟩
    obtain ⟨S2, F2, E2, be, hf, em⟩ := hW
    have keepS : ∀ a o, S1 a → G1 a = some o → H a = some o := fun a o hs e => be.stp.keep a o e fun m => ro.sr.ns a m hs
    obtain ⟨f1, f2⟩ := fe H S2 keepS be.stp.ss be.sr.sd
    by_cases hi : i < ds.length
    · right
      have hd : ds[i]? = some ds[i] := List.getElem?_eq_getElem hi
      obtain ⟨g1, g2⟩ := f1 i _ hd
      refine ⟨g1, fun σ3 H3 => ∃ S3 F3 E3, Be K as σ G1 S1 F1 E3 σ3 H3 S3 F3 ∧ forIt st b (ds.drop (i + 1)) E3 = some o, fun σ3 H3 h3 => ?_, fun x H' hy => ?_⟩
      · obtain ⟨S3, F3, E3, b3, h4⟩ := h3
        exact ⟨ds.length - (i + 1), by omega, S3, F3, E3, b3, h4, rfl⟩
      · obtain ⟨S4, nr⟩ := g2 x H' hy
        rw [List.drop_eq_getElem_cons hi] at hf
        exact turn_ok be.sr nr hf (w0.be be) fun σ3 H3 S3 F3 E3 b3 h4 => ⟨S3, F3, E3, be.trans b3, h4⟩
    · left
      rw [List.drop_eq_nil_of_le (by omega)] at hf
      cases hf
      exact ⟨f2 i (by omega), w0 σ2 H S2 F2 be⟩
  · rename_i i0 E1 h1
    split at he
    · cases he
    · rename_i hni
      have hni : i0 ∉ as := fun m => hni (by simpa using m)
      refine ⟨S, F, E, .own i0, E1, sr, h1, fun J G1 S1 F1 ro fe => ?_⟩
      obtain ⟨p, hp, e⟩ := fe
      subst e
      have w0 := w.be (ro.be (as := as))
      refine ⟨fun k m σ2 H => ∃ S2 F2 E2, Be K as σ G1 S1 F1 E2 σ2 H S2 F2 ∧ forOwn i0 st b m k E2 = some o, ⟨N, S1, F1, E1, .refl ro.sr, he⟩, fun k m σ2 H hW => ?_⟩
      obtain ⟨S2, F2, E2, be, hf⟩ := hW
      have hp2 : σ2[i0]? = some (some (.ref p)) := by rw [be.so i0 hni]; exact hp
      cases m with
      | zero => cases hf
      | succ m =>
        -- an item is read, the others stay
        have item : ∀ (c : Bool) (ds : List DE.D), E2[i0]? = some (some (.lst c ds)) → ∃ vs, H p = some (.lst vs) ∧ ds.length = vs.length ∧ ∀ d, ds[k]? = some d → ∃ x S3 F3, vs[k]? = some x ∧ SR K H S3 (E2.set i0 (some (.lst c (frzL ds)))) σ2 F3 ∧ Rp K H S3 (DE.frz d) x [] ∧ Stp H S2 F2 H S3 F3 := fun c ds hE => by
          have hl : look (.slot i0) E2 = some (.lst c (frzL ds), E2.set i0 (some (.lst c (frzL ds)))) := by
            simp only [look, hE, DE.frzK]
          obtain ⟨v0, A, Fr, g1, g2, _⟩ := be.sr.rep.get hE
          rw [hp2] at g1
          cases g1
          obtain ⟨S3, F3, sr3, ⟨T3, r3⟩, q3, s1, s2, f1, _, _⟩ := look_ok (T := []) be.sr (show RpO K σ2 H S2 (.slot i0) (.ref p) [] from ⟨hp2, rfl⟩) be.sr.nd (fun _ m => by cases m) hl
          obtain ⟨p', vs, e, hG, rl, _⟩ := rp_lst r3 q3
          cases e
          refine ⟨vs, hG, by rw [← rl.length, frzL_length], fun d hd => ?_⟩
          have hd' : (frzL ds)[k]? = some (DE.frz d) := by rw [frzL_map, List.getElem?_map, hd]; rfl
          obtain ⟨x, hx, rx⟩ := rl.get hd'
          exact ⟨x, S3, F3, hx, sr3, rx, ⟨fun _ _ e _ => e, fun _ o e => ⟨o, e⟩, fun a ha => .inl (f1 a ha), s1, fun a ha => (s2 a ha).imp id .inl⟩⟩
        have both : ∀ (c : Bool) (ds : List DE.D), E2[i0]? = some (some (.lst c ds)) → (match ds[k]? with
            | some d => turn st b (DE.frz d) (E2.set i0 (some (.lst c (frzL ds)))) (forOwn i0 st b m (k + 1))
            | none => some (.nx E2)) = some o → (Itl K p).stop k H ∧ D.nx σ2 H ∨ (Itl K p).go k H ∧ ∃ N, (∀ σ' H', N σ' H' → ∃ m', m' < m + 1 ∧ ∃ S2 F2 E2, Be K as σ G1 S1 F1 E2 σ' H' S2 F2 ∧ forOwn i0 st b m' (k + 1) E2 = some o) ∧ ∀ x H', (Itl K p).yld k H x H' → gT K as st x σ2 H' fun σ2 H2 => tS K as b { D with nx := N, ct := N, bk := D.nx } σ2 H2 := fun c ds hE hf => by
          obtain ⟨vs, hG, hl, it⟩ := item c ds hE
          split at hf
          · rename_i d hd
            obtain ⟨x, S3, F3, hx, sr3, rx, stp3⟩ := it d hd
            right
            refine ⟨⟨vs, x, SqL.of hG, hx⟩, fun σ3 H3 => ∃ S3 F3 E3, Be K as σ G1 S1 F1 E3 σ3 H3 S3 F3 ∧ forOwn i0 st b m (k + 1) E3 = some o, fun σ3 H3 ⟨S4, F4, E4, b4, h4⟩ => ⟨m, Nat.lt_succ_self m, S4, F4, E4, b4, h4⟩, fun y H' hy => ?_⟩
            obtain ⟨e, hy⟩ := hy
            subst e
            have := hy vs (SqL.of hG)
            rw [hx] at this
            cases this
            have be3 : Be K as σ G1 S1 F1 _ σ2 H' S3 F3 := ⟨be.so, sr3, be.stp.trans stp3⟩
            exact turn_ok sr3 (.old rx) hf (w0.be be3) fun σ4 H4 S4 F4 E4 b4 h4 => ⟨S4, F4, E4, be3.trans b4, h4⟩
          · rename_i hd
            cases hf
            left
            exact ⟨⟨vs, SqL.of hG, by rw [← hl]; exact List.getElem?_eq_none_iff.mp hd⟩, w0 σ2 H S2 F2 be⟩
        unfold forOwn at hf
        split at hf
        · rename_i ds hE
          exact both true ds hE hf
        · rename_i ds hE
          exact both false ds hE hf
        · cases hf
  · cases he
end
end DE

/-! Part I: comprehensions, functions. -/
namespace DE
open PySem PySem.Spec L2

section
variable {K : PySem.W.Frag} {σ σ' : St} {G G' G1 G2 H : Hp} {S S' S1 S2 : Addr → Prop} {F F' F1 F2 T T1 : List Addr} {E E' E1 E2 E3 : En} {Q : VK} {os : List Opd} {vs : List V}

/-! ### comprehensions -/
def wipeE (E : En) : List Nat → En
  | [] => E
  | v :: vs => (wipeE E vs).set v none
def unwE (E0 : En) : List Nat → En → En
  | [], E => E
  | v :: vs, E => unwE E0 vs (match E0[v]? with
    | some w => E.set v w
    | none => E)
theorem wipe_sr : ∀ (own : List Nat) {E : En} {σ : St} {F : List Addr}, SR K G S E σ F → ∃ F', SR K G S (wipeE E own) (wipe σ own) F' ∧ ∀ a, a ∈ F' → a ∈ F := by
  intro own
  induction own with
  | nil => intro E σ F sr; exact ⟨F, sr, fun _ z => z⟩
  | cons v vs ih =>
    intro E σ F sr
    obtain ⟨F1, sr1, m1⟩ := ih sr
    obtain ⟨F2, h2, sub⟩ := sr1.rep.drop v none
    exact ⟨F2, ⟨h2, sub.nodup sr1.nd, fun a ha => sr1.ns a (sub.subset ha), sr1.sd⟩, fun a ha => m1 a (sub.subset ha)⟩
theorem wipe_at {σ : St} {v : Nat} : ∀ {vs : List Nat}, v ∉ vs → (wipe σ vs)[v]? = σ[v]?
  | [], _ => rfl
  | w :: vs, h => by
    show ((wipe σ vs).set w none)[v]? = σ[v]?
    have hw : w ≠ v := fun e => h (by rw [e]; exact List.mem_cons_self ..)
    rw [List.getElem?_set_ne hw]
    exact wipe_at fun m => h (List.mem_cons_of_mem _ m)
theorem set_at {σ : St} {i : Nat} {w : Option V} (h : σ[i]? = some w) (u : Option V) : (σ.set i u).set i w = σ := by
  rw [List.set_set]
  apply List.ext_getElem?
  intro j
  by_cases e : j = i
  · subst e
    have hl' : j < σ.length := (List.getElem?_eq_some_iff.mp h).1
    rw [List.getElem?_set_self hl', h]
  · rw [List.getElem?_set_ne (Ne.symm e)]
theorem unw_ok {E0 : En} : ∀ {own : List Nat} {E : En} {F : List Addr}, own.Nodup → SR K G S E (wipe σ own) F → (∀ v, v ∈ own → ∀ d, E0[v]? = some (some d) → ∃ x, σ[v]? = some (some x) ∧ Rp K G S d x []) → E0.length = σ.length →
    ∃ F', SR K G S (unwE E0 own E) σ F' ∧ ∀ a, a ∈ F' → a ∈ F := by
  intro own
  induction own with
  | nil => intro E F nd sr _ _; exact ⟨F, sr, fun _ z => z⟩
  | cons v vs ih =>
    intro E F nd sr hv hl
    obtain ⟨n1, n2⟩ := List.nodup_cons.mp nd
    have rest : ∀ w, w ∈ vs → ∀ d, E0[w]? = some (some d) → ∃ x, σ[w]? = some (some x) ∧ Rp K G S d x [] := fun w m => hv w (List.mem_cons_of_mem _ m)
    have lw : (wipe σ vs).length = σ.length := wipe_length σ vs
    have sr : SR K G S E ((wipe σ vs).set v none) F := sr
    have lE : E.length = σ.length := by rw [sr.rep.len, List.length_set, lw]
    unfold unwE
    cases h0 : E0[v]? with
    | none =>
      have hge : σ.length ≤ v := by rw [← hl]; exact List.getElem?_eq_none_iff.mp h0
      have e1 : (wipe σ vs).set v none = wipe σ vs := List.set_eq_of_length_le (by rw [lw]; exact hge)
      rw [e1] at sr
      exact ih n2 sr rest hl
    | some w =>
      have hlt : v < σ.length := by rw [← hl]; exact (List.getElem?_eq_some_iff.mp h0).1
      cases w with
      | none =>
        have hx : (wipe σ vs)[v]? = some ((wipe σ vs)[v]'(by rw [lw]; exact hlt)) := List.getElem?_eq_getElem _
        obtain ⟨F2, h2, sub⟩ := sr.rep.drop v ((wipe σ vs)[v]'(by rw [lw]; exact hlt))
        rw [set_at hx] at h2
        obtain ⟨F3, sr3, m3⟩ := ih n2 ⟨h2, sub.nodup sr.nd, fun a ha => sr.ns a (sub.subset ha), sr.sd⟩ rest hl
        exact ⟨F3, sr3, fun a ha => sub.subset (m3 a ha)⟩
      | some d =>
        obtain ⟨x, hx, rx⟩ := hv v (List.mem_cons_self ..) d h0
        have hx' : (wipe σ vs)[v]? = some (some x) := by rw [wipe_at n1]; exact hx
        obtain ⟨F2, sr2, m2⟩ := sr_set (i := v) sr rx sr.nd (fun _ m => by cases m) (by rw [lE]; exact hlt)
        rw [set_at hx'] at sr2
        obtain ⟨F3, sr3, m3⟩ := ih n2 sr2 rest hl
        exact ⟨F3, sr3, fun a ha => m2 a (m3 a ha)⟩
theorem wipe_get {own : List Nat} {k : Nat} (h : k ∈ own) (hk : k < σ.length) : (wipe σ own)[k]? = some none := by
  induction own with
  | nil => cases h
  | cons v vs ih =>
    show ((wipe σ vs).set v none)[k]? = some none
    by_cases e : v = k
    · subst e
      rw [List.getElem?_set_self (by rw [wipe_length]; exact hk)]
    · rw [List.getElem?_set_ne e]
      rcases List.mem_cons.mp h with m | m
      · exact absurd m.symm e
      · exact ih m
theorem wipe_so {own : List Nat} (so : SO own (wipe σ own) σ') (hl : σ'.length = (wipe σ own).length) : wipe σ' own = wipe σ own := by
  rw [wipe_length] at hl
  apply List.ext_getElem?
  intro k
  by_cases hk : k < σ.length
  · by_cases m : k ∈ own
    · rw [wipe_get m hk, wipe_get m (by rw [hl]; exact hk)]
    · rw [wipe_at m, so k m]
  · rw [List.getElem?_eq_none_iff.mpr (by rw [wipe_length]; omega), List.getElem?_eq_none_iff.mpr (by rw [wipe_length]; omega)]

abbrev KLc := List D → En → Option (List D × En)
def lcTurn (own : List Nat) (st : St1) (ifs : EvT) (elt : EvO) (d : D) (acc : List D) (E : En) (k : KLc) : Option (List D × En) := match st d E with
  | some E1 => match ifs E1 with
    | some (true, E2) => match elt E2 with
      | some (o, E3) => match tks [.temp (.lst true acc), o] E3 with
        | some ([_, z], E4) => if acc.length < lim then k (acc ++ [z]) (wipeE E4 own) else none
        | _ => none
      | none => none
    | some (false, E2) => k acc (wipeE E2 own)
    | none => none
  | none => none
def lcIt (own : List Nat) (st : St1) (ifs : EvT) (elt : EvO) : List D → KLc
  | [] => fun acc E => some (acc, E)
  | d :: ds => fun acc E => lcTurn own st ifs elt d acc E (lcIt own st ifs elt ds)
def lcOwn (i : Nat) (own : List Nat) (st : St1) (ifs : EvT) (elt : EvO) : Nat → Nat → KLc
  | 0, _ => fun _ _ => none
  | n + 1, k => fun acc E => match E[i]? with
    | some (some (.lst true ds)) => match ds[k]? with
      | some d => lcTurn own st ifs elt (frz d) acc (E.set i (some (.lst true (frzL ds)))) (lcOwn i own st ifs elt n (k + 1))
      | none => some (acc, E)
    | some (some (.lst false ds)) => match ds[k]? with
      | some d => lcTurn own st ifs elt (frz d) acc (E.set i (some (.lst false (frzL ds)))) (lcOwn i own st ifs elt n (k + 1))
      | none => some (acc, E)
    | _ => none
def ownOk (E : En) (own : List Nat) : Bool := own.all fun v => match E[v]? with
  | some (some d) => isF d
  | _ => true
def evLc (N : Nat) (own : List Nat) (src : EvI) (st : St1) (ifs : EvT) (elt : EvO) : EvO := fun E => match src E with
  | some (.it ds, E1) => if ownOk E1 own = true then match lcIt own st ifs elt ds [] (wipeE E1 own) with
    | some (acc, E2) => some (.temp (.lst true acc), unwE E1 own E2)
    | none => none else none
  | some (.own i, E1) => if ownOk E1 own = true ∧ own.contains i = false then match lcOwn i own st ifs elt N 0 [] (wipeE E1 own) with
    | some (acc, E2) => some (.temp (.lst true acc), unwE E1 own E2)
    | none => none else none
  | none => none

/-- a thing at hand stays while the names go on -/
theorem RO.step {as : List Nat} {L : D} {v : V} {σ2 : St} (ro : RO K σ G S F E [.temp L] [v] G1 S1 T F1) (b : Be K as σ G1 S1 F1 E' σ2 G2 S2 F2) : RO K σ2 G S F E' [.temp L] [v] G2 S2 T F2 := by
  obtain ⟨n1, n2, n3⟩ := nd_app.mp ro.nd
  have r : Rp K G1 S1 L v T := ro.ro.one
  have r' : Rp K G2 S2 L v T := b.stp.rp ro.sr.ns r fun a ha hb => n3 a ha hb
  have ap : ∀ a, a ∈ T → a ∉ F2 := fun a ha hb => by
    rcases b.stp.fs a hb with m | m
    · exact n3 a ha m
    · obtain ⟨o, e⟩ := r.dom a ha
      rw [e] at m; cases m
  refine ⟨b.sr, .of r', nd_app.mpr ⟨n1, b.sr.nd, ap⟩, fun a ha hs => ?_, ro.stp.trans b.stp.frame⟩
  rcases b.stp.sn a hs with m | m | m
  · exact ro.ns a ha m
  · exact n3 a ha m
  · obtain ⟨o, e⟩ := r.dom a ha
    rw [e] at m; cases m
theorem lcTurn_ok {own : List Nat} {st : St1} {ifs : EvT} {elt : EvO} {d : D} {acc : List D} {k : KLc} {x : V} {p : Addr} {res : List D × En} {Nx : Hp → Prop} {S3 : Addr → Prop} {H' : Hp}
    (ro : RO K (wipe σ own) G S F E [.temp (.lst true acc)] [.ref p] H S2 T F2) (nr : NewR K H S2 d x H' S3 []) (h : lcTurn own st ifs elt d acc E k = some res)
    (hk : ∀ H4 S4 F4 E4 acc' T4, RO K (wipe σ own) G S F E4 [.temp (.lst true acc')] [.ref p] H4 S4 T4 F4 → k acc' E4 = some res → Nx H4) :
    gT K own st x (wipe σ own) H' fun σ2 H2 => wipe σ2 own = wipe σ own ∧ tT K ifs σ2 H2 fun b H3 =>
      if b = true then tO K elt σ2 H3 fun y H4 => ∃ acc, H4 p = some (.lst acc) ∧ acc.length < sizeLine ∧ Nx (upd H4 p (.lst (acc ++ [y]))) else Nx H3 := by
  unfold lcTurn at h
  split at h
  · rename_i E1 h1
    have sr' : SR K H' S3 E (wipe σ own) F2 := ⟨ro.sr.rep.mono (fun p o _ e => nr.keep p o e) (fun p hp => by
      obtain ⟨o, e⟩ := ro.sr.rep.dom p hp
      rw [e, nr.keep p o e]) nr.ss, ro.sr.nd, (fun a ha hs => by
        rcases nr.sn a hs with m | ⟨m, _⟩
        · exact ro.sr.ns a ha m
        · obtain ⟨o, e⟩ := ro.sr.rep.dom a ha
          rw [e] at m; cases m), fun a ha => by
        rcases nr.sn a ha with m | ⟨_, m⟩
        · obtain ⟨o, e⟩ := ro.sr.sd a m
          exact ⟨o, nr.keep a o e⟩
        · exact m⟩
    have stp0 : Stp H S2 F2 H' S3 F2 := ⟨fun a o e _ => nr.keep a o e, fun a o e => ⟨o, nr.keep a o e⟩, fun a ha => .inl ha, nr.ss, fun a ha => (nr.sn a ha).imp id fun z => .inr z.1⟩
    have ro1 := ro.step (as := own) ⟨.refl, sr', stp0⟩
    refine ⟨S3, F2, E, d, [], E1, sr', nr.rp, sr'.nd, (fun _ m => by cases m), h1, fun σ2 G2 S4 F4 g => ⟨wipe_so g.be.so g.len, ?_⟩⟩
    have ws := wipe_so g.be.so g.len
    have ro2 := ro1.step g.be
    split at h
    · rename_i E2 h2
      split at h
      · rename_i o E3 h3
        split at h
        · rename_i L z E4 h4
          split at h
          · rename_i hl
            refine ⟨S4, F4, E1, true, E2, ro2.sr, h2, fun G5 S5 F5 ro5 => iteT ⟨S5, F5, E2, o, E3, ro5.sr, h3, fun y G6 S6 T6 F6 ro6 => ?_⟩⟩
            have all := (ro2.app ro5).app ro6
            obtain ⟨S7, F7, T7, sr7, rp7, nd7, ns7, stp7⟩ := RO.taken (os := [.temp (.lst true acc), o]) (vs := [.ref p, y]) all h4
            obtain ⟨v1, vs1, A, B, e1, z1, r1, r2⟩ := rp7
            subst z1
            cases e1
            have r2 : RpL K G6 S7 [z] [y] B := r2
            have eL : L = .lst true acc := by
              simp only [tks, tk] at h4
              split at h4
              · rename_i ds2 E5 h5
                cases h4
                rfl
              · cases h4
            subst eL
            obtain ⟨p', ws', Fk, e3, z3, hp, rk⟩ := r1
            cases e3
            subst z3
            refine ⟨ws', hp, by rw [← rk.length]; exact Nat.lt_of_lt_of_le hl (by decide), ?_⟩
            obtain ⟨F8, sr8, m8⟩ := wipe_sr own sr7
            rw [ws] at sr8
            obtain ⟨q1, q2, q3⟩ := nd_app.mp nd7
            have q1' : (p :: (Fk ++ B)).Nodup := q1
            obtain ⟨u1, u2⟩ := List.nodup_cons.mp q1'
            have pF8 : p ∉ F8 := fun m => q3 p (List.mem_append_left _ (List.mem_cons_self ..)) (m8 p m)
            have pS : ¬ S7 p := ns7 p (List.mem_append_left _ (List.mem_cons_self ..))
            have kp : ∀ a o, a ≠ p → G6 a = some o → upd G6 p (.lst (ws' ++ [y])) a = some o := fun a o n e => by rw [upd_ne n]; exact e
            refine hk _ S7 F8 _ _ (p :: (Fk ++ B)) ⟨⟨sr8.rep.mono (fun a o hs e => kp a o (fun z => pS (z ▸ hs)) e) (fun a ha => upd_ne fun z => pF8 (z ▸ ha)) fun _ z => z, sr8.nd, sr8.ns, fun a ha => ?_⟩, .of ⟨p, ws' ++ [y], Fk ++ B, rfl, rfl, upd_same, ?_⟩, nd_app.mpr ⟨q1', sr8.nd, fun a ha hb => q3 a ha (m8 a hb)⟩, ns7, ?_⟩ h
            · obtain ⟨o, e⟩ := sr8.sd a ha
              exact ⟨o, kp a o (fun z => pS (z ▸ ha)) e⟩
            · exact (rk.append r2).mono (fun a o hs e => kp a o (fun z => pS (z ▸ hs)) e) (fun a ha => upd_ne fun z => u1 (z ▸ ha)) fun _ z => z
            · refine ⟨fun a o e n => kp a o (fun z => ?_) (stp7.keep a o e n), fun a o e => ?_, fun a ha => stp7.fs a ?_, stp7.ss, stp7.sn⟩
              · subst z
                rcases stp7.fs a (List.mem_append_left _ (List.mem_append_left _ (List.mem_cons_self ..))) with m | m
                · exact n m
                · rw [e] at m; cases m
              · by_cases z : a = p
                · subst z
                  exact ⟨_, upd_same⟩
                · obtain ⟨o', e'⟩ := stp7.live a o e
                  exact ⟨o', kp a o' z e'⟩
              · rcases List.mem_append.mp ha with m | m
                · exact List.mem_append_left _ m
                · exact List.mem_append_right _ (m8 a m)
          · cases h
        · cases h
      · cases h
    · rename_i E2 h2
      refine ⟨S4, F4, E1, false, E2, ro2.sr, h2, fun G5 S5 F5 ro5 => iteF ?_⟩
      have all := ro2.app ro5
      obtain ⟨F8, sr8, m8⟩ := wipe_sr own all.sr
      rw [ws] at sr8
      obtain ⟨q1, q2, q3⟩ := nd_app.mp all.nd
      refine hk G5 S5 F8 _ acc _ ⟨sr8, ?_, nd_app.mpr ⟨q1, sr8.nd, fun a ha hb => q3 a ha (m8 a hb)⟩, all.ns, all.stp.less fun a ha => ?_⟩ h
      · exact all.ro
      · rcases List.mem_append.mp ha with m | m
        · exact List.mem_append_left _ m
        · exact List.mem_append_right _ (m8 a m)
    · cases h
  · cases h
theorem t_lc {N : Nat} {own : List Nat} {src : EvI} {st : St1} {ifs : EvT} {elt : EvO} (hn : own.Nodup) (h : tO K (evLc N own src st ifs elt) σ G Q) : tLc (tI K src) (gT K own st) (tT K ifs) (tO K elt) own σ G Q := by
  obtain ⟨S, F, E, o, E', sr, he, q⟩ := h
  have begin_ : ∀ {E1 : En} {G1 : Hp} {S1 : Addr → Prop} {F1 : List Addr} {p : Addr}, RO K σ G S F E1 [] [] G1 S1 [] F1 → G1 p = none → ∃ Fw, RO K (wipe σ own) G1 S1 F1 (wipeE E1 own) [.temp (.lst true [])] [.ref p] (upd G1 p (.lst [])) S1 [p] Fw := fun {E1 G1 S1 F1 p} ro hp => by
    obtain ⟨Fw, srw, mw⟩ := wipe_sr own ro.sr
    have kp := up_keep (u := .lst []) hp
    have pF : p ∉ Fw := fun m => by
      obtain ⟨o, e⟩ := srw.rep.dom p m
      rw [hp] at e; cases e
    refine ⟨Fw, ⟨srw.rep.mono (fun a o _ e => kp a o e) (fun a ha => upd_ne fun z => pF (z ▸ ha)) fun _ z => z, srw.nd, srw.ns, fun a ha => ?_⟩, .of ⟨p, [], [], rfl, rfl, upd_same, rfl, rfl⟩, List.nodup_cons.mpr ⟨pF, srw.nd⟩, fun a ha hs => ?_, ?_⟩
    · obtain ⟨o, e⟩ := srw.sd a ha
      exact ⟨o, kp a o e⟩
    · rw [List.mem_singleton.mp ha] at hs
      obtain ⟨o, e⟩ := srw.sd p hs
      rw [hp] at e; cases e
    · refine (Stp.refl.less mw).new hp (fun _ z => z) (fun _ z => .inl z) fun a ha => ?_
      rcases List.mem_cons.mp ha with m | m
      · exact .inr m
      · exact .inl m
  have end_ : ∀ {E1 E2 : En} {G1 H : Hp} {S1 S2 : Addr → Prop} {F1 T F2 : List Addr} {p : Addr} {acc : List D}, RO K σ G S F E1 [] [] G1 S1 [] F1 → ownOk E1 own = true → RO K (wipe σ own) G1 S1 F1 E2 [.temp (.lst true acc)] [.ref p] H S2 T F2 →
      (∀ v G' S' T F', RO K σ G S F (unwE E1 own E2) [.temp (.lst true acc)] [v] G' S' T F' → Q v G') → Q (.ref p) H := fun {E1 E2 G1 H S1 S2 F1 T F2 p acc} ro hok rl q => by
    have hb : ∀ v, v ∈ own → ∀ d, E1[v]? = some (some d) → ∃ x, σ[v]? = some (some x) ∧ Rp K H S2 d x [] := fun v hv d hd => by
      obtain ⟨x, A, Fr, g1, g2, _⟩ := ro.sr.rep.get hd
      have hf : isF d = true := by
        have := List.all_eq_true.mp hok v hv
        rw [hd] at this
        exact this
      rw [g2.nil (isF_frz d hf)] at g2
      exact ⟨x, g1, g2.mono (fun a o hs e => rl.stp.keep a o e fun m => ro.sr.ns a m hs) (fun _ m => by cases m) rl.stp.ss⟩
    obtain ⟨F3, sr3, m3⟩ := unw_ok hn rl.sr hb ro.sr.rep.len
    obtain ⟨q1, q2, q3⟩ := nd_app.mp rl.nd
    refine q (.ref p) H S2 T F3 ⟨sr3, .of rl.ro.one, nd_app.mpr ⟨q1, sr3.nd, fun a ha hb => q3 a ha (m3 a hb)⟩, rl.ns, (ro.stp.trans rl.stp).less fun a ha => ?_⟩
    rcases List.mem_append.mp ha with m | m
    · exact List.mem_append_left _ m
    · exact List.mem_append_right _ (m3 a m)
  unfold evLc at he
  split at he
  · rename_i ds E1 h1
    split at he
    · rename_i hok
      split at he
      · rename_i acc E2 h2
        cases he
        refine ⟨S, F, E, .it ds, E1, sr, h1, fun J G1 S1 F1 ro fe p hp => ?_⟩
        have fe : FeedsI K G1 S1 ds J := fe
        obtain ⟨Fw, ro0⟩ := begin_ ro hp
        refine ⟨fun i m H => ∃ S2 F2 E3 acc3 T3, RO K (wipe σ own) G1 S1 F1 E3 [.temp (.lst true acc3)] [.ref p] H S2 T3 F2 ∧ lcIt own st ifs elt (ds.drop i) acc3 E3 = some (acc, E2) ∧ m = ds.length - i, ⟨_, S1, Fw, _, [], [p], ro0, h2, rfl⟩, fun i m H hW => ?_⟩
        obtain ⟨S2, F2, E3, acc3, T3, rl, hf, em⟩ := hW
        have keepS : ∀ a o, S1 a → G1 a = some o → H a = some o := fun a o hs e => rl.stp.keep a o e fun m => ro.sr.ns a m hs
        obtain ⟨f1, f2⟩ := fe H S2 keepS rl.stp.ss rl.sr.sd
        by_cases hi : i < ds.length
        · right
          have hd : ds[i]? = some ds[i] := List.getElem?_eq_getElem hi
          obtain ⟨g1, g2⟩ := f1 i _ hd
          refine ⟨g1, fun H3 => ∃ S3 F3 E4 acc4 T4, RO K (wipe σ own) G1 S1 F1 E4 [.temp (.lst true acc4)] [.ref p] H3 S3 T4 F3 ∧ lcIt own st ifs elt (ds.drop (i + 1)) acc4 E4 = some (acc, E2), fun H3 h3 => ?_, fun x H' hy => ?_⟩
          · obtain ⟨S3, F3, E4, acc4, T4, r4, h4⟩ := h3
            exact ⟨ds.length - (i + 1), by omega, S3, F3, E4, acc4, T4, r4, h4, rfl⟩
          · obtain ⟨S4, nr⟩ := g2 x H' hy
            rw [List.drop_eq_getElem_cons hi] at hf
            exact lcTurn_ok rl nr hf fun H4 S4 F4 E4 acc4 T4 r4 h4 => ⟨S4, F4, E4, acc4, T4, r4, h4⟩
        · left
          rw [List.drop_eq_nil_of_le (by omega)] at hf
          cases hf
          exact ⟨f2 i (by omega), end_ ro hok rl q⟩
      · cases he
    · cases he
  · rename_i i0 E1 h1
    split at he
    · rename_i hok
      obtain ⟨hok, hni⟩ := hok
      have hni : i0 ∉ own := fun m => by
        have : own.contains i0 = true := by simpa using m
        rw [hni] at this; cases this
      split at he
      · rename_i acc E2 h2
        cases he
        refine ⟨S, F, E, .own i0, E1, sr, h1, fun J G1 S1 F1 ro fe p hp => ?_⟩
        obtain ⟨pa, hpa, e⟩ := fe
        subst e
        obtain ⟨Fw, ro0⟩ := begin_ ro hp
        refine ⟨fun k m H => ∃ S2 F2 E3 acc3 T3, RO K (wipe σ own) G1 S1 F1 E3 [.temp (.lst true acc3)] [.ref p] H S2 T3 F2 ∧ lcOwn i0 own st ifs elt m k acc3 E3 = some (acc, E2), ⟨N, S1, Fw, _, [], [p], ro0, h2⟩, fun k m H hW => ?_⟩
        obtain ⟨S2, F2, E3, acc3, T3, rl, hf⟩ := hW
        have hp2 : (wipe σ own)[i0]? = some (some (.ref pa)) := by rw [wipe_at hni]; exact hpa
        cases m with
        | zero => cases hf
        | succ m =>
          have both : ∀ (c : Bool) (ds : List DE.D), E3[i0]? = some (some (.lst c ds)) → (match ds[k]? with
              | some d => lcTurn own st ifs elt (DE.frz d) acc3 (E3.set i0 (some (.lst c (frzL ds)))) (lcOwn i0 own st ifs elt m (k + 1))
              | none => some (acc3, E3)) = some (acc, E2) → (Itl K pa).stop k H ∧ Q (.ref p) H ∨ (Itl K pa).go k H ∧ ∃ Nx : Hp → Prop, (∀ H', Nx H' → ∃ m', m' < m + 1 ∧ ∃ S2 F2 E3 acc3 T3, RO K (wipe σ own) G1 S1 F1 E3 [.temp (.lst true acc3)] [.ref p] H' S2 T3 F2 ∧ lcOwn i0 own st ifs elt m' (k + 1) acc3 E3 = some (acc, E2)) ∧
              ∀ x H', (Itl K pa).yld k H x H' → gT K own st x (wipe σ own) H' fun σ2 H2 => wipe σ2 own = wipe σ own ∧ tT K ifs σ2 H2 fun b H3 => if b = true then tO K elt σ2 H3 fun y H4 => ∃ acc, H4 p = some (.lst acc) ∧ acc.length < sizeLine ∧ Nx (upd H4 p (.lst (acc ++ [y]))) else Nx H3 := fun c ds hE hf => by
            have hl : look (.slot i0) E3 = some (.lst c (frzL ds), E3.set i0 (some (.lst c (frzL ds)))) := by
              simp only [look, hE, DE.frzK]
            obtain ⟨v0, A, Fr, g1, g2, _⟩ := rl.sr.rep.get hE
            rw [hp2] at g1
            cases g1
            obtain ⟨S3, F3, sr3, ⟨T3', r3⟩, q3, s1, s2, f1, _, _⟩ := look_ok (T := []) rl.sr (show RpO K (wipe σ own) H S2 (.slot i0) (.ref pa) [] from ⟨hp2, rfl⟩) rl.sr.nd (fun _ m => by cases m) hl
            obtain ⟨p', vs, e, hG, rk, _⟩ := rp_lst r3 q3
            cases e
            have hlen : ds.length = vs.length := by rw [← rk.length, frzL_length]
            have stp3 : Stp H S2 F2 H S3 F3 := ⟨fun _ _ e _ => e, fun _ o e => ⟨o, e⟩, fun a ha => .inl (f1 a ha), s1, fun a ha => (s2 a ha).imp id .inl⟩
            have rl3 := rl.step (as := []) ⟨.refl, sr3, stp3⟩
            split at hf
            · rename_i d hd
              have hd' : (frzL ds)[k]? = some (DE.frz d) := by rw [frzL_map, List.getElem?_map, hd]; rfl
              obtain ⟨x, hx, rx⟩ := rk.get hd'
              right
              refine ⟨⟨vs, x, SqL.of hG, hx⟩, fun H3 => ∃ S3 F3 E4 acc4 T4, RO K (wipe σ own) G1 S1 F1 E4 [.temp (.lst true acc4)] [.ref p] H3 S3 T4 F3 ∧ lcOwn i0 own st ifs elt m (k + 1) acc4 E4 = some (acc, E2), fun H3 ⟨S4, F4, E4, acc4, T4, r4, h4⟩ => ⟨m, Nat.lt_succ_self m, S4, F4, E4, acc4, T4, r4, h4⟩, fun y H' hy => ?_⟩
              obtain ⟨e, hy⟩ := hy
              subst e
              have := hy vs (SqL.of hG)
              rw [hx] at this
              cases this
              exact lcTurn_ok rl3 (.old rx) hf fun H4 S4 F4 E4 acc4 T4 r4 h4 => ⟨S4, F4, E4, acc4, T4, r4, h4⟩
            · rename_i hd
              cases hf
              left
              exact ⟨⟨vs, SqL.of hG, by rw [← hlen]; exact List.getElem?_eq_none_iff.mp hd⟩, end_ ro hok rl q⟩
          unfold lcOwn at hf
          split at hf
          · rename_i ds hE
            exact both true ds hE hf
          · rename_i ds hE
            exact both false ds hE hf
          · cases hf
      · cases he
    · cases he
  · cases he

/-! ### a function by its body -/
/-- those that the body stores to are frozen -/
def frzAt (as : List Nat) : Nat → List D → List D
  | _, [] => []
  | k, d :: ds => (if as.contains k = true then frz d else d) :: frzAt as (k + 1) ds
/-- the arguments behind -/
def argsOf : List D → En → Option (List D)
  | [], _ => some []
  | d :: ds, e :: E => if isF d = true then (argsOf ds E).map (d :: ·) else match e with
    | some d' => (argsOf ds E).map (d' :: ·)
    | none => none
  | _ :: _, [] => none
def fnD (n m : Nat) (as : List Nat) (body : EvS) : Fd := fun ds => if ds.length = n then
  match body ((frzAt as 0 ds).map some ++ List.replicate (m - n) none) with
  | some (.rt r E) => (argsOf (frzAt as 0 ds) E).map fun ds' => (r, ds')
  | some (.nx E) => (argsOf (frzAt as 0 ds) E).map fun ds' => (.non, ds')
  | _ => none
  else none
mutual
theorem isF_of_frz : ∀ d : D, isF (frz d) = true
  | .non => rfl
  | .bl _ => rfl
  | .int _ => rfl
  | .str _ => rfl
  | .tup ds => isFL_of_frz ds
  | .lst _ ds => isFL_of_frz ds
  | .dK _ _ vs => isFL_of_frz vs
  | .scr ds => isFL_of_frz ds
theorem isFL_of_frz : ∀ ds : List D, isFL (frzL ds) = true
  | [] => rfl
  | d :: ds => by
    show (isF (frz d) && isFL (frzL ds)) = true
    rw [isF_of_frz d, isFL_of_frz ds]; rfl
end
theorem RpL.pick : ∀ {ds : List D} {vs : List V} {F : List Addr} {i : Nat} {d : D} {v : V}, RpL K G S ds vs F → ds[i]? = some d → vs[i]? = some v → ∃ A, Rp K G S d v A := by
  intro ds
  induction ds with
  | nil => intro vs F i d v r h; simp at h
  | cons d0 ds ih =>
    intro vs F i d v r h h2
    obtain ⟨v0, vs', A, B, e, z, r1, r2⟩ := r
    subst e
    cases i with
    | zero =>
      simp at h h2
      subst h h2
      exact ⟨A, r1⟩
    | succ i => exact ih (i := i) r2 (by simpa using h) (by simpa using h2)
theorem frzAt_rp {as : List Nat} : ∀ {ds : List D} {k : Nat} {vs : List V} {F : List Addr} {S : Addr → Prop}, RpL K G S ds vs F → F.Nodup → (∀ a, a ∈ F → ¬ S a) → ∃ S' F', RpL K G S' (frzAt as k ds) vs F' ∧ F'.Nodup ∧ (∀ a, a ∈ F' → a ∈ F) ∧ (∀ a, a ∈ F' → ¬ S' a) ∧ (∀ a, S a → S' a) ∧ ∀ a, S' a → S a ∨ a ∈ F := by
  intro ds
  induction ds with
  | nil => intro k vs F S r nd ns; exact ⟨S, F, r, nd, fun _ z => z, ns, fun _ z => z, fun _ z => .inl z⟩
  | cons d ds ih =>
    intro k vs F S r nd ns
    obtain ⟨v, vs', A, B, e, z, r1, r2⟩ := r
    subst e z
    obtain ⟨n1, n2, n3⟩ := nd_app.mp nd
    obtain ⟨S', F', r', nd', m', ns', s1, s2⟩ := ih (k := k + 1) r2 n2 fun a ha => ns a (List.mem_append_right _ ha)
    have hA : ∀ a, a ∈ A → ¬ S' a := fun a ha hs => by
      rcases s2 a hs with m | m
      · exact ns a (List.mem_append_left _ ha) m
      · exact n3 a ha m
    unfold frzAt
    split
    · refine ⟨fun a => S' a ∨ a ∈ A, F', ⟨v, vs', [], F', rfl, rfl, r1.frz (fun a h => .inl (s1 a h)) fun _ h => .inr h, r'.mono (fun _ _ _ z => z) (fun _ _ => rfl) fun _ z => .inl z⟩, nd', fun a ha => List.mem_append_right _ (m' a ha), fun a ha hs => ?_, fun a h => .inl (s1 a h), fun a hs => ?_⟩
      · rcases hs with hs | hs
        · exact ns' a ha hs
        · exact n3 a hs (m' a ha)
      · rcases hs with hs | hs
        · exact (s2 a hs).imp id (List.mem_append_right _)
        · exact .inr (List.mem_append_left _ hs)
    · refine ⟨S', A ++ F', ⟨v, vs', A, F', rfl, rfl, r1.mono (fun _ _ _ z => z) (fun _ _ => rfl) s1, r'⟩, nd_app.mpr ⟨n1, nd', fun a ha hb => n3 a ha (m' a hb)⟩, fun a ha => ?_, fun a ha => ?_, s1, fun a hs => (s2 a hs).imp id (List.mem_append_right _)⟩
      · rcases List.mem_append.mp ha with m | m
        · exact List.mem_append_left _ m
        · exact List.mem_append_right _ (m' a m)
      · rcases List.mem_append.mp ha with m | m
        · exact hA a m
        · exact ns' a m
theorem frzAt_len {as : List Nat} : ∀ {ds : List D} {k : Nat}, (frzAt as k ds).length = ds.length
  | [], _ => rfl
  | d :: ds, k => by
    show (frzAt as (k + 1) ds).length + 1 = ds.length + 1
    rw [frzAt_len]
theorem en_start : ∀ {ds : List D} {vs : List V} {F : List Addr} (n : Nat), RpL K G S ds vs F → REnv K G S (ds.map some ++ List.replicate n none) (vs.map some ++ List.replicate n none) F := by
  intro ds
  induction ds with
  | nil =>
    intro vs F n r
    obtain ⟨e, z⟩ := r
    subst e z
    induction n with
    | zero => exact ⟨rfl, rfl⟩
    | succ n ih => exact ⟨none, _, rfl, ih⟩
  | cons d ds ih =>
    intro vs F n r
    obtain ⟨v, vs', A, B, e, z, r1, r2⟩ := r
    subst e z
    exact ⟨v, _, A, B, rfl, rfl, r1, ih n r2⟩
/-- what the arguments are behind -/
theorem args_ok {as : List Nat} : ∀ {ds : List D} {k : Nat} {vs : List V} {E : En} {σ : St} {F : List Addr} {ds' : List D}, REnv K G S E σ F → F.Nodup → argsOf (frzAt as k ds) E = some ds' →
    (∀ i, i < ds.length → isF ((frzAt as k ds).getD i .non) = false → σ[i]? = some (vs[i]?)) → (∀ (i : Nat) (d : D) (v : V), (frzAt as k ds)[i]? = some d → isF d = true → vs[i]? = some v → Rp K G S d v []) → vs.length = ds.length →
    ∃ F', RpL K G S ds' vs F' ∧ F'.Nodup ∧ ∀ a, a ∈ F' → a ∈ F := by
  intro ds
  induction ds with
  | nil =>
    intro k vs E σ F ds' r nd h hσ hf hl
    have : vs = [] := List.eq_nil_of_length_eq_zero hl
    subst this
    unfold frzAt argsOf at h
    cases h
    exact ⟨[], ⟨rfl, rfl⟩, .nil, (fun _ m => by cases m)⟩
  | cons d ds ih =>
    intro k vs E σ F ds' r nd h hσ hf hl
    cases vs with
    | nil => cases hl
    | cons v vs =>
      have hl' : vs.length = ds.length := by simpa using hl
      cases E with
      | nil => simp only [frzAt, argsOf, reduceCtorEq] at h
      | cons e E =>
        have rest : ∃ σ' B, REnv K G S E σ' B ∧ (∀ a, a ∈ B → a ∈ F) ∧ B.Nodup ∧ (∃ w, σ = w :: σ') ∧ (∀ d', e = some d' → ∃ x A, σ[0]? = some (some x) ∧ Rp K G S d' x A ∧ F = A ++ B) := by
          cases e with
          | none =>
            obtain ⟨w, σ', e, h⟩ := r
            exact ⟨σ', F, h, fun _ z => z, nd, ⟨w, e⟩, (fun _ z => by cases z)⟩
          | some d' =>
            obtain ⟨x, σ', A, B, e, z, r1, h⟩ := r
            subst z
            exact ⟨σ', B, h, fun a ha => List.mem_append_right _ ha, (nd_app.mp nd).2.1, ⟨_, e⟩, fun d2 e2 => by
              cases e2
              exact ⟨x, A, by rw [e]; rfl, r1, rfl⟩⟩
        obtain ⟨σ', B, rB, subB, ndB, ⟨w, eσ⟩, hd⟩ := rest
        have hσ' : ∀ i, i < ds.length → isF ((frzAt as (k + 1) ds).getD i .non) = false → σ'[i]? = some (vs[i]?) := fun i hi hq => by
          have := hσ (i + 1) (by simpa using hi) (by simpa [frzAt] using hq)
          rw [eσ] at this
          simpa using this
        have hf' : ∀ (i : Nat) (d : D) (v : V), (frzAt as (k + 1) ds)[i]? = some d → isF d = true → vs[i]? = some v → Rp K G S d v [] := fun i d0 v0 h1 h2 h3 => hf (i + 1) d0 v0 (by simpa [frzAt] using h1) h2 (by simpa using h3)
        have e1 : frzAt as k (d :: ds) = (if as.contains k = true then DE.frz d else d) :: frzAt as (k + 1) ds := rfl
        have hf0 := hf 0
        have hσ0 := hσ 0 (by simp)
        rw [e1] at h hf0 hσ0
        generalize (if as.contains k = true then DE.frz d else d) = d1 at h hf0 hσ0
        simp only [argsOf] at h
        split at h
        · rename_i hq
          obtain ⟨ds2, h2, e2⟩ := Option.map_eq_some_iff.mp h
          subst e2
          obtain ⟨F', r', nd', sub'⟩ := ih rB ndB h2 hσ' hf' hl'
          exact ⟨F', ⟨v, vs, [], F', rfl, rfl, hf0 _ v rfl hq rfl, r'⟩, nd', fun a ha => subB a (sub' a ha)⟩
        · rename_i hq
          split at h
          · rename_i d'
            obtain ⟨ds2, h2, e2⟩ := Option.map_eq_some_iff.mp h
            subst e2
            obtain ⟨F', r', nd', sub'⟩ := ih rB ndB h2 hσ' hf' hl'
            obtain ⟨x, A, hx, rA, eF⟩ := hd d' rfl
            have := hσ0 (by simpa using hq)
            rw [hx] at this
            have ev : x = v := by simpa using this
            subst ev
            subst eF
            obtain ⟨n1, n2, n3⟩ := nd_app.mp nd
            refine ⟨A ++ F', ⟨x, vs, A, F', rfl, rfl, rA, r'⟩, nd_app.mpr ⟨n1, nd', fun a ha hb => n3 a ha (sub' a hb)⟩, fun a ha => ?_⟩
            rcases List.mem_append.mp ha with m | m
            · exact List.mem_append_left _ m
            · exact List.mem_append_right _ (sub' a m)
          · cases h
/-- THE WALK of a def: its body's evaluator gives the promise -/
theorem fn_ok {P : Program} {w : World} {K : PySem.W.Frag} {mg : Str → Option Value} {base : Heap} {x qual : Str} {st : Stmt} {f : Addr} {fd : FuncData} {N ps : List Str} {k : Nat} {as : List Nat} {body : EvS} (Fu : Fun K x qual st f fd) (S : FnScope N ps (defScope st)) (hps : ps.length ≤ N.length)
    (hbody : ∀ (X : Cx), X.prog = P → X.w = w → X.K = K → X.mg = mg → X.base = base → X.N = N → X.env.scope = defScope st → X.calm = true → (∀ y, X.fn y = true) → X.xe = (fun _ _ => False) → Room k X.A → PSs X (defBody st) (tS K as body)) :
    FnOk P w K mg base CX0 (k + 1) f fd ps (spF K ps.length (fnD ps.length N.length as body)) := by
  refine Fu.ok S (fun vs H Q E h => ?_) (fun cdv A outer s H vs Q E hr h => ?_)
  · obtain ⟨_, _, _, _, _, hl, _⟩ := h
    exact hl
  · obtain ⟨S0, F0, ds, r, ds', hl, rl, nd, ns, sd, hf, q⟩ := h
    refine ⟨_, hbody _ rfl rfl rfl rfl rfl rfl rfl rfl (fun _ => rfl) rfl hr, ?_⟩
    unfold fnD at hf
    split at hf
    · rename_i hdl
      obtain ⟨S1, F1, r1, nd1, m1, ns1, s1, s2⟩ := frzAt_rp (as := as) (k := 0) rl nd ns
      have sd1 : ∀ a, S1 a → ∃ o, H a = some o := fun a ha => by
        rcases s2 a ha with m | m
        · exact sd a m
        · exact rl.dom a m
      have hst : L2.start N vs = vs.map some ++ List.replicate (N.length - ps.length) none := by
        unfold L2.start
        rw [hl]
      have sr1 : SR K H S1 ((frzAt as 0 ds).map some ++ List.replicate (N.length - ps.length) none) (L2.start N vs) F1 := by
        rw [hst]
        exact ⟨en_start _ r1, nd1, ns1, sd1⟩
      have stp1 : Stp H S0 F0 H S1 F1 := ⟨fun _ _ e _ => e, fun _ o e => ⟨o, e⟩, fun a ha => .inl (m1 a ha), s1, fun a ha => (s2 a ha).imp id .inl⟩
      have slots : ∀ i, i < vs.length → (L2.start N vs)[i]? = some (vs[i]?) := fun i hi => by
        rw [hst, List.getElem?_append_left (by rw [List.length_map]; exact hi), List.getElem?_map, List.getElem?_eq_getElem hi]
        rfl
      have frozen : ∀ (i : Nat) (d : D), (frzAt as 0 ds)[i]? = some d → isF d = false → i ∉ as := fun i d hd hq hm => by
        have gen : ∀ (ds : List D) (k i : Nat) (d : D), (frzAt as k ds)[i]? = some d → k + i ∈ as → ∃ d0, d = DE.frz d0 := fun ds => by
          induction ds with
          | nil => intro k i d h _; simp [frzAt] at h
          | cons d0 ds ih =>
            intro k i d h hm
            cases i with
            | zero =>
              have h' : (if as.contains k = true then DE.frz d0 else d0) = d := by simpa [frzAt] using h
              have hm' : k ∈ as := hm
              rw [if_pos (show as.contains k = true by simpa using hm')] at h'
              exact ⟨d0, h'.symm⟩
            | succ i =>
              have h' : (frzAt as (k + 1) ds)[i]? = some d := by simpa [frzAt] using h
              exact ih (k + 1) i d h' (by rw [Nat.add_assoc, Nat.add_comm 1 i]; exact hm)
        obtain ⟨d0, e⟩ := gen ds 0 i d hd (by rw [Nat.zero_add]; exact hm)
        rw [e, isF_of_frz] at hq
        cases hq
      have fin : ∀ (E' : En) (σ' : St) (G' : Hp) (S' : Addr → Prop) (F' : List Addr) (ds' : List D), SO as (L2.start N vs) σ' → SR K G' S' E' σ' F' → (∀ a o, S1 a → H a = some o → G' a = some o) → (∀ a, S1 a → S' a) → argsOf (frzAt as 0 ds) E' = some ds' →
          ∃ F'', RpL K G' S' ds' vs F'' ∧ F''.Nodup ∧ ∀ a, a ∈ F'' → a ∈ F' := fun E' σ' G' S' F' ds' so sr ks ss ha => by
        refine args_ok (ds := ds) (k := 0) sr.rep sr.nd ha (fun i hi hq => ?_) (fun i d v h1 h2 h3 => ?_) (by rw [hl, hdl])
        · have hd : (frzAt as 0 ds)[i]? = some ((frzAt as 0 ds).getD i .non) := by
            rw [List.getD_eq_getElem?_getD, List.getElem?_eq_getElem (by rw [frzAt_len]; exact hi)]
            rfl
          rw [so i (frozen i _ hd hq)]
          exact slots i (by rw [hl, ← hdl]; exact hi)
        · obtain ⟨A, r0⟩ := r1.pick h1 h3
          have r0' := r0
          rw [r0.nil (isF_frz d h2)] at r0'
          exact r0'.mono ks (fun _ m => by cases m) ss
      cases hb : body ((frzAt as 0 ds).map some ++ List.replicate (N.length - ps.length) none) with
      | none => rw [hb] at hf; cases hf
      | some ob =>
        rw [hb] at hf
        refine ⟨S1, F1, _, ob, sr1, hb, ?_⟩
        cases ob with
        | bk E' => cases hf
        | ct E' => cases hf
        | nx E' =>
          obtain ⟨ds2, h2, e2⟩ := Option.map_eq_some_iff.mp hf
          cases e2
          refine fun σ' G' S' F' b => ?_
          obtain ⟨F'', r2, nd2, m2⟩ := fin E' σ' G' S' F' _ b.so b.sr (fun a o hs e => b.stp.keep a o e fun m => ns1 a m hs) b.stp.ss h2
          exact q .non G' S' [] F'' ⟨r2, ⟨rfl, rfl⟩, nd2, fun a ha => b.sr.ns a (m2 a ha), b.sr.sd, (stp1.trans b.stp).less m2⟩
        | rt d E' =>
          obtain ⟨ds2, h2, e2⟩ := Option.map_eq_some_iff.mp hf
          cases e2
          refine fun v σ' G' S' T F' b => ?_
          obtain ⟨k1, k2, k3⟩ := nd_app.mp b.nd
          have ns' : ∀ a, a ∈ F1 → ¬ S1 a := ns1
          obtain ⟨F'', r2, nd2, m2⟩ := fin E' σ' G' S' F' _ b.so b.sr (fun a o hs e => b.stp.keep a o e fun m => ns1 a m hs) b.stp.ss h2
          refine q v G' S' T F'' ⟨r2, b.rp, nd_app.mpr ⟨k1, nd2, fun a ha hb => k3 a ha (m2 a hb)⟩, fun a ha => ?_, b.sr.sd, (stp1.trans b.stp).less fun a ha => ?_⟩
          · rcases List.mem_append.mp ha with m | m
            · exact b.ns a m
            · exact b.sr.ns a (m2 a m)
          · rcases List.mem_append.mp ha with m | m
            · exact List.mem_append_left _ m
            · exact List.mem_append_right _ (m2 a m)
    · cases hf
end
end DE

/-! Part J: from the text to the evaluator. -/
namespace DE
open PySem PySem.Spec L2

/-- what is known of a def (of a comprehension's block) -/
structure Cf where
  N : List Str
  sc : Scope
  fn : Str → Bool
  np : Nat
  blt : List Str
  fns : List (Str × Nat × Fd)
  con : List (Str × D)
  W : Nat
structure Fits (c : Cf) (X : Cx) : Prop where
  N : X.N = c.N
  nd : X.N.Nodup
  sc : X.env.scope = c.sc
  fn : ∀ x, c.fn x = true → X.fn x = true
  calm : X.calm = true
  xe : X.xe = fun _ _ => False
  hu : X.A.units + 64 < cLine
  blt : ∀ x, x ∈ c.blt → X.mg x = none
  fns : ∀ p, p ∈ c.fns → ∃ f fd k ps, FnOk X.prog X.w X.K X.mg X.base CX0 k f fd ps (spF X.K p.2.1 p.2.2) ∧ Room k X.A ∧ X.mg p.1 = some (.ref f) ∧ PySem.W.keepIn X.K (.ref f) = true ∧ Binds X.K fd ps []
  con : ∀ p, p ∈ c.con → ∃ v u, X.mg p.1 = some u ∧ RelV v u ∧ ∀ G S, Rp X.K G S p.2 v []
theorem Fits.hu1 {c : Cf} {X : Cx} (h : Fits c X) : X.A.units + 1 < cLine := by
  have := h.hu
  omega

/-! ### names -/
def ixOf (x : Str) : List Str → Option Nat
  | [] => none
  | y :: ys => if y = x then some 0 else (ixOf x ys).map (· + 1)
theorem ixOf_ok {x : Str} : ∀ {N : List Str} {i : Nat}, ixOf x N = some i → N[i]? = some x := by
  intro N
  induction N with
  | nil => intro i h; cases h
  | cons y ys ih =>
    intro i h
    unfold ixOf at h
    split at h
    · rename_i e
      cases h
      rw [e]
      rfl
    · obtain ⟨j, h1, h2⟩ := Option.map_eq_some_iff.mp h
      subst h2
      exact ih h1
def visB (c : Cf) (x : Str) : Bool := match c.sc.names.lookup x with
  | some .local => true
  | some .cell => true
  | some .free => true
  | _ => false
def glB (c : Cf) (x : Str) : Bool := match c.sc.names.lookup x with
  | some .globalImplicit => true
  | _ => false
def locB (c : Cf) (x : Str) : Bool := match c.sc.names.lookup x with
  | some .local => true
  | some .cell => c.fn x
  | _ => false
def oddB (x : Str) : Bool := (x == ("__debug__" : Str)) || (x == ("__classdict__" : Str)) || decide (x = ("__name__" : Str))
def slot (c : Cf) (x : Str) : Option Nat := if visB c x && !oddB x then ixOf x c.N else none
theorem slot_ok {c : Cf} {X : Cx} {x : Str} {i : Nat} {p : Pos} (f : Fits c X) (h : slot c x = some i) : PE X (.Name x p) (tVar i) := by
  unfold slot at h
  split at h
  · rename_i hv
    simp only [Bool.and_eq_true, Bool.not_eq_true', oddB, Bool.or_eq_false_iff] at hv
    obtain ⟨hv, ⟨hd, hc⟩, _⟩ := hv
    refine pe_var (by rw [f.N]; exact ixOf_ok h) ?_ hd hc
    unfold visB at hv
    unfold Vis
    rw [f.sc]
    split at hv <;> first
      | (rename_i e; exact .inl e)
      | (rename_i e; exact .inr (.inl e))
      | (rename_i e; exact .inr (.inr e))
      | cases hv
  · cases h
theorem gl_ok {c : Cf} {X : Cx} {x : Str} (f : Fits c X) (h : glB c x = true) : Gl X x := by
  show X.env.scope.names.lookup x = some .globalImplicit
  rw [f.sc]
  unfold glB at h
  split at h
  · rename_i e
    exact e
  · cases h
def bltB (c : Cf) (x : Str) : Bool := glB c x && c.blt.contains x && !oddB x
theorem odd_ok {x : Str} (h : oddB x = false) : (x == ("__debug__" : Str)) = false ∧ x ≠ "__name__" := by
  simp only [oddB, Bool.or_eq_false_iff, decide_eq_false_iff_not] at h
  exact ⟨h.1.1, h.2⟩
theorem blt_ok {c : Cf} {X : Cx} {x : Str} (f : Fits c X) (h : bltB c x = true) : Gl X x ∧ X.mg x = none ∧ (x == ("__debug__" : Str)) = false ∧ x ≠ "__name__" := by
  simp only [bltB, Bool.and_eq_true, Bool.not_eq_true'] at h
  obtain ⟨⟨h1, h2⟩, h3⟩ := h
  exact ⟨gl_ok f h1, f.blt x (by simpa using h2), odd_ok h3⟩
def cName (c : Cf) (x : Str) : Option EvO := match slot c x with
  | some i => some (evVar i)
  | none => if glB c x && !oddB x then (c.con.lookup x).map evCon else none
theorem lookup_mem {α β : Type} [BEq α] [LawfulBEq α] {x : α} {b : β} : ∀ {l : List (α × β)}, l.lookup x = some b → (x, b) ∈ l
  | (y, c) :: l, h => by
    rw [List.lookup_cons] at h
    cases e : x == y with
    | true =>
      rw [e] at h
      cases h
      have := eq_of_beq e
      subst this
      exact List.mem_cons_self ..
    | false =>
      rw [e] at h
      exact List.mem_cons_of_mem _ (lookup_mem h)
theorem cName_ok {c : Cf} {X : Cx} {x : Str} {ev : EvO} {p : Pos} (f : Fits c X) (h : cName c x = some ev) : PE X (.Name x p) (tO X.K ev) := by
  unfold cName at h
  split at h
  · rename_i i hi
    cases h
    exact (slot_ok f hi).weak fun σ G Q q => t_var q
  · split at h
    · rename_i hg
      simp only [Bool.and_eq_true, Bool.not_eq_true'] at hg
      obtain ⟨d, h1, h2⟩ := Option.map_eq_some_iff.mp h
      subst h2
      obtain ⟨v, u, hm, r, hr⟩ := f.con _ (lookup_mem h1)
      exact (pe_glob (gl_ok f hg.1) hm r (odd_ok hg.2).1).weak fun σ G Q q => t_con hr q
    · cases h
def cConst : Const → Option EvO
  | .none => some (evCon .non)
  | .bool b => some (evCon (.bl b))
  | .int i => some (evCon (.int i))
  | .str x => some (evCon (.str x))
  | _ => none
theorem cConst_ok {X : Cx} {k : Const} {n : Nat} {p : Pos} {ev : EvO} (h : cConst k = some ev) : PE X (.Constant k n p) (tO X.K ev) := by
  cases k <;> simp only [cConst, reduceCtorEq, Option.some.injEq] at h <;> subst h
  · exact pe_non.weak fun σ G Q q => t_con (d := .non) (fun _ _ => ⟨rfl, rfl⟩) q
  · exact pe_bl.weak fun σ G Q q => t_con (d := .bl _) (fun _ _ => ⟨rfl, rfl⟩) q
  · exact pe_int.weak fun σ G Q q => t_con (d := .int _) (fun _ _ => ⟨rfl, rfl⟩) q
  · exact pe_str.weak fun σ G Q q => t_con (d := .str _) (fun _ _ => ⟨rfl, rfl⟩) q

/-! ### operators -/
def cBin : Operator → Option (D → D → Option D)
  | .Add => some pAdd
  | .Sub => some pSub
  | .Mult => some pMul
  | .FloorDiv => some pDiv
  | .Mod => some pMod
  | .Pow => some pPow
  | _ => none
theorem cBin_ok {X : Cx} {op : Operator} {f : D → D → Option D} (h : cBin op = some f) : ∃ r, OpR X (binaryOp op) r ∧ S2 X.K r f := by
  cases op <;> simp only [cBin, reduceCtorEq, Option.some.injEq] at h <;> subst h
  · exact ⟨_, op_addU, s2_add⟩
  · exact ⟨_, op_sub, s2_sub⟩
  · exact ⟨_, op_mulU, s2_mul⟩
  · exact ⟨_, op_mod, s2_mod⟩
  · exact ⟨_, op_pow, s2_pow⟩
  · exact ⟨_, op_fdiv, s2_div⟩
def cCmp : CmpOp → Option (D → D → Option D)
  | .Eq => some pEqD
  | .NotEq => some pNeD
  | .Lt => some pLt
  | .LtE => some pLe
  | .Gt => some pGt
  | .GtE => some pGe
  | .Is => some pIsND
  | .IsNot => some pNotND
  | .In => some pInD
  | .NotIn => some pNinD
theorem cCmp_ok {c : Cf} {X : Cx} (ft : Fits c X) {op : CmpOp} {f : D → D → Option D} (h : cCmp op = some f) : ∃ r, OpR X (compareOp op) r ∧ S2 X.K r f := by
  cases op <;> simp only [cCmp, reduceCtorEq, Option.some.injEq] at h <;> subst h
  · exact ⟨_, op_eqU ft.hu, s2_eq⟩
  · exact ⟨_, op_neU ft.hu, s2_ne⟩
  · exact ⟨_, op_ltU, s2_lt⟩
  · exact ⟨_, op_leU, s2_le⟩
  · exact ⟨_, op_gt, s2_gt⟩
  · exact ⟨_, op_ge, s2_ge⟩
  · exact ⟨rIsNU, op_isN, s2_isn⟩
  · exact ⟨rNotNU, op_notN, s2_notn⟩
  · exact ⟨_, op_inU ft.hu1, s2_in⟩
  · exact ⟨_, op_ninU ft.hu1, s2_nin⟩
/-! ### arguments -/
def starB : Expr → Bool
  | .Starred _ _ => true
  | _ => false
theorem star_ok {e : Expr} {es : List Expr} {env : Env} (h : starB e = false) : starEach (e :: es) env = (false, eval e env) :: starEach es env := by
  cases e <;> first
    | rfl
    | cases h
def seqA (f : Expr → Option EvO) : List Expr → Option EvOs
  | [] => some evNil
  | e :: es => if starB e then none else match f e, seqA f es with
    | some x, some xs => some (evCons x xs)
    | _, _ => none
theorem seqA_ok {X : Cx} {f : Expr → Option EvO} (hf : ∀ e ev, f e = some ev → PE X e (tO X.K ev)) : ∀ {es : List Expr} {evs : EvOs}, seqA f es = some evs → PA X es (tOs X.K evs) ∧ ∀ e, e ∈ es → starB e = false := by
  intro es
  induction es with
  | nil =>
    intro evs h
    cases h
    exact ⟨pa_nil.weak fun σ G Q q => ta_nil q, (fun _ m => by cases m)⟩
  | cons e es ih =>
    intro evs h
    unfold seqA at h
    split at h
    · cases h
    · rename_i hs
      have hs : starB e = false := by simpa using hs
      split at h
      · rename_i x xs h1 h2
        cases h
        obtain ⟨i1, i2⟩ := ih h2
        refine ⟨(pa_cons (hf e x h1) i1 (star_ok hs)).weak fun σ G Q q => ta_cons q, fun e' m => ?_⟩
        rcases List.mem_cons.mp m with m | m
        · rw [m]; exact hs
        · exact i2 e' m
      · cases h
theorem star_any {es : List Expr} {env : Env} {pos : Pos} (h : ∀ e, e ∈ es → starB e = false) : (backTo pos (starEach es env)).any (·.1) = false := by
  induction es with
  | nil => rfl
  | cons e es ih =>
    rw [star_ok (h e (List.mem_cons_self ..))]
    have := ih fun e m => h e (List.mem_cons_of_mem _ m)
    unfold backTo at this ⊢
    rw [List.map_cons, List.any_cons, this]
    rfl
/-! ### built-in functions -/
def cBlt (x : Str) : Option (List D → Option D) :=
  if x = "len" then some (f1 pLen)
  else if x = "list" then some (f1 pList)
  else if x = "tuple" then some (f1 pTuple)
  else if x = "all" then some (f1 pAll)
  else if x = "any" then some (f1 pAny)
  else if x = "abs" then some (f1 pAbs)
  else none
theorem cBlt_ok {c : Cf} {X : Cx} {x : Str} {f : List D → Option D} {e : Expr} {es : List Expr} {t : TA} {p pos : Pos} (ft : Fits c X) (hb : bltB c x = true) (h : cBlt x = some f) (ha : PA X (e :: es) t) (hs : ∀ a, a ∈ e :: es → starB a = false) :
    ∃ r, PE X (.Call (.Name x p) (e :: es) [] pos) (tCB r t) ∧ SN X.K r f := by
  obtain ⟨hg, hm, hd, hn⟩ := blt_ok ft hb
  have h1 : starEach (e :: es) X.env = (false, eval e X.env) :: starEach es X.env := star_ok (hs e (List.mem_cons_self ..))
  have h2 : (backTo pos (starEach es X.env)).any (·.1) = false := star_any fun a m => hs a (List.mem_cons_of_mem _ m)
  unfold cBlt at h
  split at h
  · rename_i e1
    subst e1
    cases h
    exact ⟨_, pe_callB call_lenU hg hm boot_len ha hn hd h1 h2, sn_len⟩
  split at h
  · rename_i e1
    subst e1
    cases h
    exact ⟨rListU X.K, pe_callTy call_list_of hg hm PyProof.Rows.boot_list ha hn hd h1 h2, sn_list⟩
  split at h
  · rename_i e1
    subst e1
    cases h
    exact ⟨rTupU X.K, pe_callTy call_tuple_of hg hm PyProof.Rows.boot_tuple ha hn hd h1 h2, sn_tup⟩
  split at h
  · rename_i e1
    subst e1
    cases h
    exact ⟨_, pe_callB (cr_all ft.calm) hg hm PyProof.Rows.boot_all ha hn hd h1 h2, sn_all⟩
  split at h
  · rename_i e1
    subst e1
    cases h
    exact ⟨_, pe_callB (cr_any ft.calm) hg hm PyProof.Rows.boot_any ha hn hd h1 h2, sn_any⟩
  split at h
  · rename_i e1
    subst e1
    cases h
    exact ⟨_, pe_callB call_abs hg hm PyProof.Rows.boot_abs ha hn hd h1 h2, sn_abs⟩
  · cases h
def cTy (x : Str) : Option Ty :=
  if x = "int" then some .int
  else if x = "bool" then some .bool
  else if x = "str" then some .str
  else if x = "list" then some .list
  else if x = "tuple" then some .tuple
  else if x = "dict" then some .dict
  else none
theorem cTy_ok {x : Str} {t : Ty} (h : cTy x = some t) : bootBuiltins x = some (.type t.name) := by
  unfold cTy at h
  split at h
  · rename_i e; subst e; cases h; decide +kernel
  split at h
  · rename_i e; subst e; cases h; decide +kernel
  split at h
  · rename_i e; subst e; cases h; decide +kernel
  split at h
  · rename_i e; subst e; cases h; decide +kernel
  split at h
  · rename_i e; subst e; cases h; decide +kernel
  split at h
  · rename_i e; subst e; cases h; decide +kernel
  · cases h
def evIsi (t : Ty) (ea : EvO) : EvO := ev1 (fun d => some (.bl (isiD d t))) ea
theorem t_isi {K : PySem.W.Frag} {σ : St} {G : Hp} {Q : VK} {t : Ty} {ea : EvO} (h : tO K (evIsi t ea) σ G Q) : tCB (rIsi K) (tCons (tO K ea) (tCons (tC (.ty t.name)) tNil)) σ G Q := by
  obtain ⟨S, F, E, o, E', sr, he, q⟩ := h
  unfold evIsi ev1 at he
  split at he
  · rename_i x E1 h1
    refine ⟨S, F, E, x, E1, sr, h1, fun v G1 S1 T1 F1 ro1 => ?_⟩
    obtain ⟨S3, ds, z, rp, sd, hf, g⟩ := prim_go ro1 he q
    obtain ⟨d, rfl, hf⟩ := f1_one hf
    cases hf
    exact isi_ok rp g
  · cases he
/-! ### methods -/
def cMut (m : Str) : Option Mf :=
  if m = "append" then some mApp
  else if m = "extend" then some mExt
  else if m = "insert" then some mIns
  else none
def cMut0 (m : Str) : Option Mf :=
  if m = "pop" then some mPop
  else if m = "clear" then some mClr
  else none
theorem base_ok {o : Expr} {m : Str} {env : Env} {w : Sem Value} (h : ∀ x p q, o ≠ .Call (.Name x p) [] [] q) : attributeBase o m env w = w := by
  unfold attributeBase
  split
  · rename_i x p q
    exact absurd rfl (h x p q)
  · rfl
theorem few_ok {X : Cx} {es : List Expr} {cpos : Pos} (hs : ∀ a, a ∈ es → starB a = false) (hl : es.length < 29) :
    ((backTo cpos (starEach es X.env)).all (fun x => !x.1) && (backToKw cpos (keywordEach [] X.env)).all (fun x => x.1.isSome)
      && decide (es.length + ([] : List Keyword).length + (if ([] : List Keyword).isEmpty then 0 else 1) < 30)) = true := by
  have h1 := star_any (env := X.env) (pos := cpos) hs
  have h2 : (backTo cpos (starEach es X.env)).all (fun x => !x.1) = true := by
    rw [List.all_eq_not_any_not]
    simp only [Bool.not_not]
    rw [h1]
    rfl
  rw [h2]
  have h3 : decide (es.length + ([] : List Keyword).length + (if ([] : List Keyword).isEmpty then 0 else 1) < 30) = true := decide_eq_true (by simp; omega)
  rw [h3]
  rfl
theorem cMut_ok {c : Cf} {X : Cx} {x m : Str} {i : Nat} {f : Mf} {e : Expr} {es : List Expr} {evs : EvOs} {p apos cpos : Pos} (ft : Fits c X) (h : cMut m = some f) (hi : slot c x = some i) (ha : PA X (e :: es) (tOs X.K evs)) (hs : ∀ a, a ∈ e :: es → starB a = false) (hl : (e :: es).length < 29)
    (hline : (apos.endLine == cpos.line) = true) : PE X (.Call (.Attribute (.Name x p) m apos) (e :: es) [] cpos) (tO X.K (evMut f i evs)) := by
  have h1 : starEach (e :: es) X.env = (false, eval e X.env) :: starEach es X.env := star_ok (hs e (List.mem_cons_self ..))
  have h2 : (backTo cpos (starEach es X.env)).any (·.1) = false := star_any fun a m => hs a (List.mem_cons_of_mem _ m)
  unfold cMut at h
  split at h
  · rename_i e1
    subst e1
    cases h
    exact (pe_bm PySem.F.plainAttrs_list PySem.F.slot_list_append PySem.F.type_list_append mt_append (slot_ok ft hi) ha (base_ok (by intros; exact fun z => nomatch z)) (few_ok hs hl) hline h1 h2).weak fun σ G Q q => t_mut ms_app q
  split at h
  · rename_i e1
    subst e1
    cases h
    exact (pe_bm PySem.F.plainAttrs_list PySem.F.slot_list_extend PySem.F.type_list_extend mt_extend (slot_ok ft hi) ha (base_ok (by intros; exact fun z => nomatch z)) (few_ok hs hl) hline h1 h2).weak fun σ G Q q => t_mut ms_ext q
  split at h
  · rename_i e1
    subst e1
    cases h
    exact (pe_bm (r := rInsert) PySem.F.plainAttrs_list PySem.F.slot_list_insert PySem.F.type_list_insert mt_insert (slot_ok ft hi) ha (base_ok (by intros; exact fun z => nomatch z)) (few_ok hs hl) hline h1 h2).weak fun σ G Q q => t_mut ms_ins q
  · cases h
theorem cMut0_ok {c : Cf} {X : Cx} {x m : Str} {i : Nat} {f : Mf} {p apos cpos : Pos} (ft : Fits c X) (h : cMut0 m = some f) (hi : slot c x = some i)
    (hline : (apos.endLine == cpos.line) = true) : PE X (.Call (.Attribute (.Name x p) m apos) [] [] cpos) (tO X.K (evMut f i evNil)) := by
  unfold cMut0 at h
  split at h
  · rename_i e1
    subst e1
    cases h
    exact (pe_bm0 PySem.F.plainAttrs_list PySem.F.slot_list_pop PySem.F.type_list_pop mt_pop (slot_ok ft hi) (base_ok (by intros; exact fun z => nomatch z)) hline).weak fun σ G Q q => t_mut0 ms_pop q
  split at h
  · rename_i e1
    subst e1
    cases h
    exact (pe_bm0 PySem.F.plainAttrs_list PySem.F.slot_list_clear PySem.F.type_list_clear mt_clear (slot_ok ft hi) (base_ok (by intros; exact fun z => nomatch z)) hline).weak fun σ G Q q => t_mut0 ms_clr q
  · cases h
/-- a method of a text -/
def isS : Opd → En → Bool
  | .temp (.str _), _ => true
  | .slot i, E => match E[i]? with
    | some (some (.str _)) => true
    | _ => false
  | _, _ => false
def evMs (f : List D → Option D) (ea : EvO) (es : EvOs) : EvO := fun E => match ea E with
  | some (o, E1) => if isS o E1 = true then match es E1 with
    | some (os, E2) => prim f (o :: os) E2
    | none => none else none
  | none => none
def SMt (K : PySem.W.Frag) (r : V → List V → Hp → VK → Prop) (f : List D → Option D) : Prop := ∀ (G : Hp) (S : Addr → Prop) (Q : VK) (ds : List D) (z : D) (v : V) (vs : List V), RpE K G S ds (v :: vs) → (∀ a, S a → ∃ o, G a = some o) → f ds = some z → Good K G S z Q → r v vs G Q
theorem t_ms {K : PySem.W.Frag} {σ : St} {G : Hp} {Q : VK} {r : V → List V → Hp → VK → Prop} {f : List D → Option D} {ea : EvO} {es : EvOs} (hr : SMt K r f) (h : tO K (evMs f ea es) σ G Q) : tBM K "str" r (tO K ea) (tOs K es) σ G Q := by
  obtain ⟨S, F, E, o, E', sr, he, q⟩ := h
  unfold evMs at he
  split at he
  · rename_i o1 E1 h1
    split at he
    · rename_i hs
      split at he
      · rename_i os E2 h2
        refine ⟨S, F, E, o1, E1, sr, h1, fun v G1 S1 T1 F1 ro1 => ⟨?_, S1, F1, E1, os, E2, ro1.sr, h2, fun vs G2 S2 T2 F2 ro2 => ?_⟩⟩
        · have hv : ∃ z, v = .str z := by
            have ro := ro1.ro.one
            cases o1 with
            | temp d =>
              cases d <;> simp only [isS, reduceCtorEq, Bool.false_eq_true] at hs
              exact ⟨_, ro.1⟩
            | slot i =>
              simp only [isS] at hs
              split at hs
              · rename_i z hz
                obtain ⟨v', A, Fr, g1, g2, _⟩ := ro1.sr.rep.get hz
                rw [ro.1] at g1
                cases g1
                exact ⟨_, g2.1⟩
              · cases hs
          obtain ⟨z, e⟩ := hv
          subst e
          rfl
        · obtain ⟨S3, ds, z, rp, sd, hf, g⟩ := prim_go (ro1.app ro2) he q
          exact hr G2 S3 Q ds z v vs rp sd hf g
      · cases he
    · cases he
  · cases he
theorem smt_join {K : PySem.W.Frag} : SMt K (fun x xs H Q => ∃ a p, ∃ ys : List Str, x = .str a ∧ xs = [.ref p] ∧ (SqL K H p (ys.map V.str) ∨ SqT K H p (ys.map V.str)) ∧ (ys.map (·.length)).sum + ys.length * a.length ≤ 16777216 ∧ Q (.str (Txt.join a ys)) H) (f2 pJoin) := by
  intro G S Q ds z v vs rp sd h0 g
  obtain ⟨d, e, e0, hf⟩ := f2_two h0
  subst e0
  have hl := rp.len
  cases vs with
  | nil => exact absurd hl (by simp)
  | cons w vs =>
    cases vs with
    | cons _ _ => exact absurd hl (by simp)
    | nil =>
      obtain ⟨⟨T, r⟩, _, ⟨U, u⟩, f2⟩ := rp.two
      cases d with
      | str a =>
        unfold pJoin at hf
        simp only at hf
        split at hf
        · rename_i ds hs
          split at hf
          · rename_i ys hy
            split at hf
            · rename_i hb
              cases hf
              obtain ⟨p, ws, e1, hp, r1⟩ := rp_seq u f2 hs
              subst e1
              have := sts_rp r1 hy
              subst this
              exact ⟨_, p, ys, rp_str r, rfl, hp, hb, g.str⟩
            · cases hf
          · cases hf
        · cases hf
      | _ => cases hf
end DE

/-! Part K: expressions. -/
namespace DE
open PySem PySem.Spec L2

/-! ### targets -/
def seqG (f : Expr → Option (St1 × List Nat)) : List Expr → Option (StN × List Nat)
  | [] => some (stNil, [])
  | e :: es => if starB e then none else match f e, seqG f es with
    | some (a, as), some (b, bs) => some (stCons a b, as ++ bs)
    | _, _ => none
def cTg : Nat → Cf → Expr → Option (St1 × List Nat)
  | 0, _, _ => none
  | n + 1, c, e => match e with
    | .Name x _ => if locB c x then (ixOf x c.N).map fun i => (stNm i, [i]) else none
    | .Tuple es _ _ => (seqG (cTg n c) es).map fun p => (stTup p.1, p.2)
    | _ => none
theorem astar_ok {e : Expr} {es : List Expr} {env : Env} (h : starB e = false) : assignEach (e :: es) env = (false, assign e env) :: assignEach es env := by
  cases e <;> first
    | rfl
    | cases h
theorem seqG_ok {X : Cx} {f : Expr → Option (St1 × List Nat)} (hf : ∀ e a as, f e = some (a, as) → PG X e (gT X.K as a)) : ∀ {es : List Expr} {b : StN} {bs : List Nat}, seqG f es = some (b, bs) →
    PGs X es (gTs X.K bs b) ∧ (assignEach es X.env).length = es.length ∧ (assignEach es X.env).findIdx? (·.1) = none ∧ ∀ ds E E', b ds E = some E' → ds.length = es.length := by
  intro es
  induction es with
  | nil =>
    intro b bs h
    cases h
    refine ⟨pgs_nil.weak fun v σ G Q q => g_nil q, rfl, rfl, fun ds E E' h => ?_⟩
    unfold stNil at h
    split at h
    · rfl
    · cases h
  | cons e es ih =>
    intro b bs h
    unfold seqG at h
    split at h
    · cases h
    · rename_i hs
      have hs : starB e = false := by simpa using hs
      split at h
      · rename_i a as b' bs' h1 h2
        cases h
        obtain ⟨i1, i2, i3, i4⟩ := ih h2
        have ea := astar_ok (es := es) (env := X.env) hs
        refine ⟨(pgs_cons (hf e a as h1) i1 (by rw [ea]; rfl)).weak fun v σ G Q q => g_cons q, by rw [ea, List.length_cons, i2, List.length_cons], by rw [ea, List.findIdx?_cons, i3]; rfl, fun ds E E' h => ?_⟩
        unfold stCons at h
        split at h
        · split at h
          · rw [List.length_cons, i4 _ _ _ h, List.length_cons]
          · cases h
        · cases h
      · cases h
theorem cTg_ok {c : Cf} {X : Cx} (f : Fits c X) : ∀ {n : Nat} {e : Expr} {a : St1} {as : List Nat}, cTg n c e = some (a, as) → PG X e (gT X.K as a) := by
  intro n
  induction n with
  | zero => intro e a as h; cases h
  | succ n ih =>
    intro e a as h
    cases e <;> simp only [cTg, reduceCtorEq] at h
    · rename_i y _
      split at h
      · rename_i hl
        obtain ⟨i, h1, h2⟩ := Option.map_eq_some_iff.mp h
        cases h2
        have hx : L2.Loc X.env.scope y ∧ (X.fn y = true ∨ X.env.scope.names.lookup y = some .local) := by
          unfold L2.Loc
          rw [f.sc]
          unfold locB at hl
          split at hl
          · rename_i e1
            exact ⟨.inl e1, .inr e1⟩
          · rename_i e1
            exact ⟨.inr e1, .inl (f.fn _ hl)⟩
          · cases hl
        exact (pg_name f.nd (by rw [f.N]; exact ixOf_ok h1) hx.1 hx.2).weak fun v σ G Q q => g_nm q
      · cases h
    · obtain ⟨p, h1, h2⟩ := Option.map_eq_some_iff.mp h
      cases h2
      obtain ⟨i1, i2, i3, i4⟩ := seqG_ok (X := X) (fun e a as h => ih h) (show seqG (cTg n c) _ = some (p.1, p.2) from h1)
      exact (pg_tup f.calm i1 i2 i3).weak fun v σ G Q q => g_tup i4 q

/-! ### expressions -/
def boolA (f : Expr → Option EvO) (g : EvO → EvO → EvO) : List Expr → Option EvO
  | [] => none
  | [a] => f a
  | a :: b :: rest => match f a, boolA f g (b :: rest) with
    | some x, some y => some (g x y)
    | _, _ => none
def boolT (f : Expr → Option EvT) (g : EvT → EvT → EvT) : List Expr → Option EvT
  | [] => none
  | [a] => f a
  | a :: b :: rest => match f a, boolT f g (b :: rest) with
    | some x, some y => some (g x y)
    | _, _ => none
def setB : Expr → Bool
  | .Set _ _ _ => true
  | _ => false
def slcB : Expr → Bool
  | .Slice _ _ _ _ => true
  | _ => false
/-- an index is part of a slice -/
def evSl0 (ea : EvO) : EvO := ev1 (fun d => pSl d none none) ea
def slL (d i : D) : Option D := match i with
  | .int i => pSl d (some i) none
  | _ => none
def slH (d i : D) : Option D := match i with
  | .int i => pSl d none (some i)
  | _ => none
def slB (ds : List D) : Option D := match ds with
  | [d, .int i, .int j] => pSl d (some i) (some j)
  | _ => none
def evSlB (ea eb ec : EvO) : EvO := fun E => match ea E with
  | some (x, E1) => match eb E1 with
    | some (y, E2) => match asI y E2 with
      | some _ => match ec E2 with
        | some (z, E3) => prim slB [x, y, z] E3
        | none => none
      | none => none
    | none => none
  | none => none
section
variable {K : PySem.W.Frag} {σ : St} {G : Hp} {Q : VK}
theorem t_sl0 {ea : EvO} (h : tO K (evSl0 ea) σ G Q) : tSl (rSlU K) (tO K ea) tNoPart tNoPart σ G Q := by
  obtain ⟨S, F, E, o, E', sr, he, q⟩ := h
  unfold evSl0 ev1 at he
  split at he
  · rename_i x E1 h1
    refine ⟨S, F, E, x, E1, sr, h1, fun v G1 S1 T1 F1 ro1 => ?_⟩
    obtain ⟨S3, ds, z, rp, sd, hf, g⟩ := prim_go ro1 he q
    obtain ⟨d, rfl, hf⟩ := f1_one hf
    exact sl_ok rp sd hf g
  · cases he
theorem part_go {P : Option Int → Hp → Prop} {S : Addr → Prop} {F : List Addr} {E E1 : En} {ea : EvO} {o : Opd} (sr : SR K G S E σ F) (h : ea E = some (o, E1)) (q : ∀ v G1 S1 T1 F1, RO K σ G S F E1 [o] [v] G1 S1 T1 F1 → ∃ i, v = .int i ∧ P (some i) G1) : tPart (tO K ea) σ G P :=
  ⟨S, F, E, o, E1, sr, h, q⟩
theorem int_of {G1 : Hp} {S1 : Addr → Prop} {d : D} {v : V} (h : (∃ T, Rp K G1 S1 d v T) ∧ frzK d = d) {i : Int} (e : d = .int i) : v = .int i := by
  subst e
  obtain ⟨⟨T, r⟩, _⟩ := h
  exact r.1
theorem t_slL {ea eb : EvO} (h : tO K (ev2 slL ea eb) σ G Q) : tSl (rSlU K) (tO K ea) (tPart (tO K eb)) tNoPart σ G Q := by
  obtain ⟨S, F, E, o, E', sr, he, q⟩ := h
  unfold ev2 at he
  split at he
  · rename_i x E1 h1
    split at he
    · rename_i y E2 h2
      refine ⟨S, F, E, x, E1, sr, h1, fun v G1 S1 T1 F1 ro1 => part_go ro1.sr h2 fun w G2 S2 T2 F2 ro2 => ?_⟩
      obtain ⟨S3, ds, z, rp, sd, hf, g⟩ := prim_go (ro1.app ro2) he q
      obtain ⟨d, e, e0, hf2⟩ := f2_two hf
      subst e0
      unfold slL at hf2
      split at hf2
      · rename_i i
        obtain ⟨a, b, c, f⟩ := rp.two
        exact ⟨i, int_of ⟨c, f⟩ rfl, sl_ok (d := d) ⟨v, [], rfl, a, b, rfl⟩ sd hf2 g⟩
      · cases hf2
    · cases he
  · cases he
theorem t_slH {ea eb : EvO} (h : tO K (ev2 slH ea eb) σ G Q) : tSl (rSlU K) (tO K ea) tNoPart (tPart (tO K eb)) σ G Q := by
  obtain ⟨S, F, E, o, E', sr, he, q⟩ := h
  unfold ev2 at he
  split at he
  · rename_i x E1 h1
    split at he
    · rename_i y E2 h2
      refine ⟨S, F, E, x, E1, sr, h1, fun v G1 S1 T1 F1 ro1 => (show tPart (tO K eb) σ G1 (fun u H3 => rSlU K v none u H3 Q) from part_go ro1.sr h2 fun w G2 S2 T2 F2 ro2 => ?_)⟩
      obtain ⟨S3, ds, z, rp, sd, hf, g⟩ := prim_go (ro1.app ro2) he q
      obtain ⟨d, e, e0, hf2⟩ := f2_two hf
      subst e0
      unfold slH at hf2
      split at hf2
      · rename_i i
        obtain ⟨a, b, c, f⟩ := rp.two
        exact ⟨i, int_of ⟨c, f⟩ rfl, sl_ok (d := d) ⟨v, [], rfl, a, b, rfl⟩ sd hf2 g⟩
      · cases hf2
    · cases he
  · cases he
theorem t_slB {ea eb ec : EvO} (h : tO K (evSlB ea eb ec) σ G Q) : tSl (rSlU K) (tO K ea) (tPart (tO K eb)) (tPart (tO K ec)) σ G Q := by
  obtain ⟨S, F, E, o, E', sr, he, q⟩ := h
  unfold evSlB at he
  split at he
  · rename_i x E1 h1
    split at he
    · rename_i y E2 h2
      split at he
      · rename_i i0 hi0
        split at he
        · rename_i z E3 h3
          refine ⟨S, F, E, x, E1, sr, h1, fun v G1 S1 T1 F1 ro1 => part_go ro1.sr h2 fun w G2 S2 T2 F2 ro2 => ?_⟩
          have ew := asI_rp ro2.sr ro2.ro.one hi0
          refine ⟨i0, ew, part_go ro2.sr h3 fun u G3 S3 T3 F3 ro3 => ?_⟩
          obtain ⟨S4, ds, z', rp, sd, hf, g⟩ := prim_go ((ro1.app ro2).app ro3) he q
          unfold slB at hf
          split at hf
          · rename_i d i j
            obtain ⟨v', vs', e1, a, b, rp2⟩ := rp
            cases e1
            obtain ⟨c1, c2, c3, c4⟩ := rp2.two
            have e2 : w = .int i := int_of ⟨c1, c2⟩ rfl
            rw [ew] at e2
            cases e2
            exact ⟨j, int_of ⟨c3, c4⟩ rfl, sl_ok (d := d) ⟨v, [], rfl, a, b, rfl⟩ sd hf g⟩
          · cases hf
        · cases he
      · cases he
    · cases he
  · cases he
end

/-! ### comprehensions, calls -/
def relS (scope sc : Scope) : Scope := { scope with names := scope.names.map fun (n, k) => if (k == .free && sc.kind == .function && sc.names.lookup n == some .cell) then (n, .cell) else (n, k) }
theorem relS_ok (scope : Scope) (env : PySem.Env) : relabel scope env = relS scope env.scope := rfl
def ownOf (c : Cf) (scope : Scope) : List (Str × Nat) := scope.names.filterMap fun y => match y.2 with
  | .local => (ixOf y.1 c.N).map fun i => (y.1, i)
  | .cell => (ixOf y.1 c.N).map fun i => (y.1, i)
  | _ => none
def blkCf (c : Cf) (scope : Scope) : Cf := { c with sc := relS scope c.sc, fn := fun x => scope.names.lookup x == some .cell }
theorem fits_blk {c : Cf} {X : Cx} (f : Fits c X) (scope : Scope) (s : Shared) (H : Hp) (C : Addr) (cl : List (Str × Addr)) (fp : List Addr) : Fits (blkCf c scope) (X.blk s H scope (compEnvC scope cl C X.env) fp) where
  N := f.N
  nd := f.nd
  sc := by
    show relabel scope X.env = relS scope c.sc
    rw [relS_ok, f.sc]
  fn := fun x h => h
  calm := f.calm
  xe := rfl
  hu := f.hu
  blt := f.blt
  fns := f.fns
  con := f.con

def cCall (g : Expr → Option EvO) (c : Cf) (x : Str) (args : List Expr) : Option EvO := match args with
  | [] => none
  | e :: es => if glB c x && !oddB x then match c.fns.lookup x with
    | some (n, f) => (seqA g (e :: es)).map fun evs => evCall n f evs
    | none => if bltB c x then (if x = "isinstance" then (match es with
        | [.Name t _] => if bltB c t && !starB e then match cTy t, g e with
          | some ty, some ea => some (evIsi ty ea)
          | _, _ => none else none
        | _ => none) else match cBlt x, seqA g (e :: es) with
        | some f, some evs => some (evN f evs)
        | _, _ => none) else none else none
theorem cCall_ok {c : Cf} {X : Cx} (ft : Fits c X) {g : Expr → Option EvO} (hg : ∀ e ev, g e = some ev → PE X e (tO X.K ev)) {x : Str} {args : List Expr} {ev : EvO} {p pos : Pos} (h : cCall g c x args = some ev) : PE X (.Call (.Name x p) args [] pos) (tO X.K ev) := by
  unfold cCall at h
  split at h
  · cases h
  · rename_i e es
    split at h
    · rename_i hx
      simp only [Bool.and_eq_true, Bool.not_eq_true'] at hx
      split at h
      · rename_i n f hf
        obtain ⟨evs, h1, h2⟩ := Option.map_eq_some_iff.mp h
        subst h2
        obtain ⟨fa, fd, k, ps, ok, hr, hm, kp, hb⟩ := ft.fns _ (lookup_mem hf)
        obtain ⟨pa, hs⟩ := seqA_ok hg h1
        exact (pe_call ok hr (gl_ok ft hx.1) hm kp hb .nil pass0 pa (odd_ok hx.2).1 (star_ok (hs e (List.mem_cons_self ..))) (star_any fun a m => hs a (List.mem_cons_of_mem _ m))).weak fun σ G Q q => t_call q
      · split at h
        · rename_i hb
          split at h
          · rename_i ex
            subst ex
            split at h
            · rename_i t tp
              split at h
              · rename_i ht
                simp only [Bool.and_eq_true, Bool.not_eq_true'] at ht
                split at h
                · rename_i ty ea h1 h2
                  cases h
                  obtain ⟨hgx, hmx, hdx, hnx⟩ := blt_ok ft hb
                  obtain ⟨hgt, hmt, hdt, hnt⟩ := blt_ok ft ht.1
                  exact (pe_callB call_isi hgx hmx PyProof.Rows.boot_isinstance (pa_cons (hg e ea h2) (pa_cons (pe_bltn (v := .ty ty.name) hgt hmt (cTy_ok h1) rfl hnt hdt) pa_nil) (star_ok ht.2)) hnx hdx (star_ok ht.2) rfl).weak fun σ G Q q => t_isi q
                · cases h
              · cases h
            · cases h
          · split at h
            · rename_i f evs h1 h2
              cases h
              obtain ⟨pa, hs⟩ := seqA_ok hg h2
              obtain ⟨r, h3, h4⟩ := cBlt_ok (pos := pos) (p := p) ft hb h1 pa hs
              exact h3.weak fun σ G Q q => t_cb h4 q
            · cases h
        · cases h
    · cases h
def cMeth (g : Expr → Option EvO) (c : Cf) (o : Expr) (m : Str) (args : List Expr) : Option EvO := match o, args with
  | .Name x _, [] => match cMut0 m, slot c x with
    | some f, some i => some (evMut f i evNil)
    | _, _ => none
  | .Name x _, e :: es => match cMut m with
    | some f => match slot c x, seqA g (e :: es) with
      | some i, some evs => if es.length < 28 then some (evMut f i evs) else none
      | _, _ => none
    | none => if m = "join" then match cName c x, seqA g (e :: es) with
      | some eo, some evs => if es.length < 28 then some (evMs (f2 pJoin) eo evs) else none
      | _, _ => none else none
  | .Constant k _ _, e :: es => if m = "join" then match cConst k, seqA g (e :: es) with
      | some eo, some evs => if es.length < 28 then some (evMs (f2 pJoin) eo evs) else none
      | _, _ => none else none
  | _, _ => none
theorem join_ok {c : Cf} {X : Cx} {o : Expr} {eo : EvO} {e : Expr} {es : List Expr} {evs : EvOs} {apos cpos : Pos} (ho : PE X o (tO X.K eo)) (hc : ∀ x p q, o ≠ .Call (.Name x p) [] [] q) (pa : PA X (e :: es) (tOs X.K evs)) (hs : ∀ a, a ∈ e :: es → starB a = false) (hl : es.length < 28)
    (hline : (apos.endLine == cpos.line) = true) : PE X (.Call (.Attribute o "join" apos) (e :: es) [] cpos) (tO X.K (evMs (f2 pJoin) eo evs)) :=
  (pe_bm PySem.F.plainAttrs_str PySem.F.slot_str_join PySem.F.type_str_join mt_join ho pa (base_ok hc) (few_ok hs (by rw [List.length_cons]; omega)) hline (star_ok (hs e (List.mem_cons_self ..))) (star_any fun a m => hs a (List.mem_cons_of_mem _ m))).weak fun σ G Q q => t_ms smt_join q
theorem cMeth_ok {c : Cf} {X : Cx} (ft : Fits c X) {g : Expr → Option EvO} (hg : ∀ e ev, g e = some ev → PE X e (tO X.K ev)) {o : Expr} {m : Str} {args : List Expr} {ev : EvO} {apos cpos : Pos} (hline : (apos.endLine == cpos.line) = true) (h : cMeth g c o m args = some ev) :
    PE X (.Call (.Attribute o m apos) args [] cpos) (tO X.K ev) := by
  unfold cMeth at h
  split at h
  · rename_i x p
    split at h
    · rename_i f i h1 h2
      cases h
      exact cMut0_ok ft h1 h2 hline
    · cases h
  · rename_i x p e es
    split at h
    · rename_i f h1
      split at h
      · rename_i i evs h2 h3
        split at h
        · rename_i hl
          cases h
          obtain ⟨pa, hs⟩ := seqA_ok hg h3
          exact cMut_ok ft h1 h2 pa hs (by rw [List.length_cons]; omega) hline
        · cases h
      · cases h
    · split at h
      · rename_i hm
        subst hm
        split at h
        · rename_i eo evs h2 h3
          split at h
          · rename_i hl
            cases h
            obtain ⟨pa, hs⟩ := seqA_ok hg h3
            exact join_ok (c := c) (cName_ok ft h2) (by intros; exact fun z => nomatch z) pa hs hl hline
          · cases h
        · cases h
      · cases h
  · split at h
    · rename_i hm
      subst hm
      split at h
      · rename_i eo evs h2 h3
        split at h
        · rename_i hl
          cases h
          obtain ⟨pa, hs⟩ := seqA_ok hg h3
          exact join_ok (c := c) (cConst_ok h2) (by intros; exact fun z => nomatch z) pa hs hl hline
        · cases h
      · cases h
    · cases h
  · cases h
/-- what is walked -/
def cIt (g : Expr → Option EvO) (c : Cf) (iter : Expr) : Option EvI := match iter with
  | .Call (.Name x _) [a] [] _ => if x = "range" then (if bltB c x then (seqA g [a]).map evR1 else none) else (g iter).map evSq
  | .Call (.Name x _) [a, b] [] _ => if x = "range" then (if bltB c x then (seqA g [a, b]).map evR2 else none) else (g iter).map evSq
  | e => if setB e then none else (g e).map evSq
theorem cIt_ok {c : Cf} {X : Cx} (ft : Fits c X) {g : Expr → Option EvO} (hg : ∀ e ev, g e = some ev → PE X e (tO X.K ev)) {tg iter : Expr} {ev : EvI} (h : cIt g c iter = some ev) : PI X tg iter (tI X.K ev) ∧ setB iter = false := by
  have gen : ∀ {e : Expr} {ev : EvI}, (g e).map evSq = some ev → PI X tg e (tI X.K ev) := fun {e ev} h => by
    obtain ⟨ea, h1, h2⟩ := Option.map_eq_some_iff.mp h
    subst h2
    exact (pi_any (hg e ea h1)).weak fun σ G R q => t_sq q
  unfold cIt at h
  split at h
  · rename_i x p a pos
    split at h
    · rename_i hx
      subst hx
      split at h
      · rename_i hb
        obtain ⟨evs, h1, h2⟩ := Option.map_eq_some_iff.mp h
        subst h2
        obtain ⟨pa, hs⟩ := seqA_ok hg h1
        obtain ⟨h3, h4, _, _⟩ := blt_ok ft hb
        exact ⟨(pi_range1 h3 h4 pa (star_ok (hs a (List.mem_cons_self ..)))).weak fun σ G R q => t_r1 q, rfl⟩
      · cases h
    · exact ⟨gen h, rfl⟩
  · rename_i x p a b pos
    split at h
    · rename_i hx
      subst hx
      split at h
      · rename_i hb
        obtain ⟨evs, h1, h2⟩ := Option.map_eq_some_iff.mp h
        subst h2
        obtain ⟨pa, hs⟩ := seqA_ok hg h1
        obtain ⟨h3, h4, _, _⟩ := blt_ok ft hb
        have e2 : starEach [b] X.env = [(false, eval b X.env)] := star_ok (hs b (List.mem_cons_of_mem _ (List.mem_cons_self ..)))
        exact ⟨(pi_range2 h3 h4 pa (by rw [star_ok (hs a (List.mem_cons_self ..)), e2]) e2).weak fun σ G R q => t_r2 q, rfl⟩
      · cases h
    · exact ⟨gen h, rfl⟩
  · split at h
    · cases h
    · rename_i hs
      exact ⟨gen h, by simpa using hs⟩
theorem folded_ok {iter : Expr} {env : PySem.Env} (h : setB iter = false) : ∀ x, foldedSetIterable iter env x = pure x := by
  intro x
  cases iter <;> first
    | rfl
    | cases h
end DE

/-! Part L: all expressions, statements. -/
namespace DE
open PySem PySem.Spec L2

def cUn (g : Expr → Option EvO) (op : UnaryOp) (a : Expr) : Option EvO := match op with
  | .USub => (g a).map (ev1 pNeg)
  | .Not => (g a).map evNot
  | _ => none
def cCp (g : Expr → Option EvO) (a : Expr) (ops : List CmpOp) (cs : List Expr) : Option EvO := match ops, cs with
  | [op], [b] => if setB b then none else match cCmp op, g a, g b with
    | some f, some x, some y => some (ev2 f x y)
    | _, _, _ => none
  | [op, op'], [b, d] => if setB d then none else match cCmp op, cCmp op', g a with
    | some f, some f', some x => match g b, g d with
      | some y, some z => some (evChain f f' x y z)
      | _, _ => none
    | _, _, _ => none
  | _, _ => none
def cSub (g : Expr → Option EvO) (v s : Expr) : Option EvO := match s with
  | .Slice none none none _ => (g v).map evSl0
  | .Slice (some l) none none _ => match g v, g l with
    | some x, some y => some (ev2 slL x y)
    | _, _ => none
  | .Slice none (some l) none _ => match g v, g l with
    | some x, some y => some (ev2 slH x y)
    | _, _ => none
  | .Slice (some l) (some h) none _ => match g v, g l, g h with
    | some x, some y, some z => some (evSlB x y z)
    | _, _, _ => none
  | i => if slcB i then none else match g v, g i with
    | some x, some y => some (ev2 pIdx x y)
    | _, _ => none
def evYes : EvT := fun E => some (true, E)
def cIfs (g : Expr → Option EvT) : List Expr → Option EvT
  | [] => some evYes
  | [t] => g t
  | _ => none
structure LcP where
  own : List (Str × Nat)
  src : EvI
  st : St1
  ifs : EvT
  elt : EvO
def LcP.ev (W : Nat) (p : LcP) : EvO := evLc W (p.own.map (·.2)) p.src p.st p.ifs p.elt
def cLc (ge : Cf → Expr → Option EvO) (gt : Cf → Expr → Option EvT) (c : Cf) (elt : Expr) (gens : List Comprehension) (scope : Scope) : Option LcP := match gens with
  | [⟨tg, iter, ifs, a⟩] => if a = 0 ∧ blkC c.N c.sc scope (ownOf c scope) = true ∧ ((ownOf c scope).map (·.2)).Nodup then
      match cIt (ge c) c iter, cTg 3 (blkCf c scope) tg, cIfs (gt (blkCf c scope)) ifs, ge (blkCf c scope) elt with
      | some src, some (st, as), some t, some x => if as.all (((ownOf c scope).map (·.2)).contains ·) then some ⟨ownOf c scope, src, st, t, x⟩ else none
      | _, _, _, _ => none
    else none
  | _ => none
/-- a display of a dict with written keys -/
def keyC : Option Expr → Option Key
  | some (.Constant (.str x) _ _) => some (.inr x)
  | some (.Constant (.int i) _ _) => some (.inl i)
  | _ => none
def keysC : List (Option Expr) → Option (List Key)
  | [] => some []
  | k :: ks => match keyC k, keysC ks with
    | some x, some xs => some (x :: xs)
    | _, _ => none
def seqL (f : Expr → Option EvO) : List Expr → Option (List EvO)
  | [] => some []
  | e :: es => match f e, seqL f es with
    | some x, some xs => some (x :: xs)
    | _, _ => none
def evDis (ks : List Key) (es : EvOs) : EvO := fun E => match es E with
  | some (os, E1) => match tks os E1 with
    | some (ds, E2) => if ds.length = ks.length then some (.temp (.dK true ks ds), E2) else none
    | none => none
  | none => none

mutual
def cE : Nat → Cf → Expr → Option EvO
  | 0, _, _ => none
  | n + 1, c, e => match e with
    | .Name x _ => cName c x
    | .Constant k _ _ => cConst k
    | .BinOp a op b _ => match cBin op, cE n c a, cE n c b with
      | some f, some x, some y => some (ev2 f x y)
      | _, _, _ => none
    | .UnaryOp op a _ => cUn (cE n c) op a
    | .BoolOp op vs _ => match op with
      | .And => boolA (cE n c) evAnd vs
      | .Or => boolA (cE n c) evOr vs
    | .Compare a ops cs _ => cCp (cE n c) a ops cs
    | .IfExp t a b _ => match cT n c t, cE n c a, cE n c b with
      | some x, some y, some z => some (evIte x y z)
      | _, _, _ => none
    | .Tuple es _ _ => (seqA (cE n c) es).map evTup
    | .List es _ => (seqA (cE n c) es).map evLst
    | .Call f args kws pos => match f, kws with
      | .Name x _, [] => cCall (cE n c) c x args
      | .Attribute o m apos, [] => if (apos.endLine == pos.line) = true then cMeth (cE n c) c o m args else none
      | _, _ => none
    | .Subscript v s _ => cSub (cE n c) v s
    | .ListComp elt gens scope _ => (cLc (cE n) (cT n) c elt gens scope).map (LcP.ev c.W)
    | .Dict ks vs _ => match keysC ks, seqL (cE n c) vs with
      | some xs, some evs => if xs.Nodup ∧ xs.length ≤ 15 ∧ xs ≠ [] ∧ xs.length = evs.length then some (evDis xs (evs.foldr evCons evNil)) else none
      | _, _ => none
    | _ => none
def cT : Nat → Cf → Expr → Option EvT
  | 0, _, _ => none
  | n + 1, c, e => match e with
    | .UnaryOp op a _ => match op with
      | .Not => (cT n c a).map evNotT
      | _ => none
    | .BoolOp op vs _ => match op with
      | .And => boolT (cT n c) evAndT vs
      | .Or => boolT (cT n c) evOrT vs
    | .Compare a ops cs _ => (cCp (cE n c) a ops cs).map evB
    | .Name x p => (cE n c (.Name x p)).map evB
    | .Call f as ks p => (cE n c (.Call f as ks p)).map evB
    | .Constant k m p => (cE n c (.Constant k m p)).map evB
    | .Subscript v s p => (cE n c (.Subscript v s p)).map evB
    | _ => none
end

section
variable {K : PySem.W.Frag} {σ : St} {G : Hp} {Q : VK}
theorem t_neg {ea : EvO} (h : tO K (ev1 pNeg ea) σ G Q) : tUn (rU fun i => .int (-i)) (tO K ea) σ G Q := t_un (fun G S Q d z v rp sd hf g => by
  obtain ⟨⟨T, r⟩, _⟩ := rp.one
  cases d <;> simp only [pNeg, reduceCtorEq, Option.some.injEq] at hf
  subst hf
  exact ⟨_, rp_int r, g.int⟩) h
theorem t_yes {Q : Bool → Hp → Prop} (h : tT K evYes σ G Q) : tYes σ G Q := by
  obtain ⟨S, F, E, b, E', sr, he, q⟩ := h
  cases he
  exact q G S F (.nil sr)
theorem g_more {as bs : List Nat} {st : St1} {v : V} {Q : St → Hp → Prop} (h : gT K bs st v σ G Q) (m : ∀ k, k ∈ as → k ∈ bs) : gT K as st v σ G Q := by
  obtain ⟨S, F, E, d, T, E', sr, r, nd, ns, he, q⟩ := h
  exact ⟨S, F, E, d, T, E', sr, r, nd, ns, he, fun σ' G' S' F' g => q σ' G' S' F' ⟨g.be.more m, g.len⟩⟩
theorem merge_id : ∀ {kvs acc : List (Key × V)}, ((acc ++ kvs).map (·.1)).Nodup → mergeK acc kvs = acc ++ kvs := by
  intro kvs
  induction kvs with
  | nil => intro acc _; rw [List.append_nil]; rfl
  | cons p kvs ih =>
    intro acc nd
    have hp : (acc.any fun kv => decide (kv.1 = p.1)) = false := by
      rw [List.any_eq_false]
      intro q hq
      simp only [decide_eq_true_eq]
      intro e
      rw [List.map_append, List.nodup_append] at nd
      exact nd.2.2 q.1 (List.mem_map_of_mem hq) p.1 (List.mem_map_of_mem (List.mem_cons_self ..)) e
    show mergeK (putK acc p.1 p.2) kvs = _
    have e1 : putK acc p.1 p.2 = acc ++ [p] := by
      unfold putK
      rw [hp]
      rfl
    rw [e1, ih (by rw [List.append_assoc]; exact nd), List.append_assoc]
    rfl
theorem t_pairs : ∀ {ks : List Key} {evs : List EvO} {σ : St} {G : Hp} {Q : List (V × V) → Hp → Prop}, ks.length = evs.length → tOs K (evs.foldr evCons evNil) σ G (fun ws G' => Q ((ks.map kV).zip ws) G') → tPairs ((ks.map fun k => tC (kV k)).zip (evs.map (tO K))) σ G Q := by
  intro ks
  induction ks with
  | nil =>
    intro evs σ G Q hl h
    cases evs with
    | nil => exact ta_nil h
    | cons _ _ => cases hl
  | cons k ks ih =>
    intro evs σ G Q hl h
    cases evs with
    | nil => cases hl
    | cons ev evs =>
      have h2 := ta_cons h
      show tO K ev σ G fun y H2 => tPairs _ σ H2 fun ps H3 => Q ((kV k, y) :: ps) H3
      obtain ⟨S, F, E, o, E', sr, he, q⟩ := h2
      exact ⟨S, F, E, o, E', sr, he, fun v G' S' T F' ro => ih (by simpa using hl) (q v G' S' T F' ro)⟩
theorem zip_kv : ∀ (ks : List Key) (ws : List V), (ks.map kV).zip ws = (ks.zip ws).map fun kv => (kV kv.1, kv.2)
  | [], _ => rfl
  | _ :: _, [] => rfl
  | k :: ks, w :: ws => by
    show (kV k, w) :: (ks.map kV).zip ws = (kV k, w) :: (ks.zip ws).map _
    rw [zip_kv ks ws]
theorem t_dis {ks : List Key} {evs : List EvO} (nd : ks.Nodup) (h15 : ks.length ≤ 15) (hl : ks.length = evs.length) (h : tO K (evDis ks (evs.foldr evCons evNil)) σ G Q) : tDisp ((ks.map fun k => tC (kV k)).zip (evs.map (tO K))) σ G Q := by
  obtain ⟨S, F, E, o, E', sr, he, q⟩ := h
  unfold evDis at he
  split at he
  · rename_i os E1 h1
    split at he
    · rename_i ds E2 h2
      split at he
      · rename_i hd
        cases he
        intro p hp
        have kp := up_keep (u := .dK []) hp
        have pF : p ∉ F := fun m => by
          obtain ⟨o, e⟩ := sr.rep.dom p m
          rw [hp] at e; cases e
        have sr0 : SR K (upd G p (.dK [])) S E σ F := ⟨sr.rep.mono (fun a o _ e => kp a o e) (fun a ha => upd_ne fun z => pF (z ▸ ha)) fun _ z => z, sr.nd, sr.ns, fun a ha => by
          obtain ⟨o, e⟩ := sr.sd a ha
          exact ⟨o, kp a o e⟩⟩
        refine t_pairs hl ⟨S, F, E, os, E1, sr0, h1, fun ws G' S' T F' ro => ?_⟩
        obtain ⟨S2, F2, T2, sr2, rl, nd2, ns2, stp⟩ := ro.taken h2
        have hG' : G' p = some (.dK []) := stp.keep p _ upd_same pF
        have lw : ks.length = ws.length := by rw [← rl.length, hd]
        obtain ⟨n1, n2, n3⟩ := nd_app.mp nd2
        have old : ∀ a, a ∈ T2 ++ F2 → a ≠ p := fun a ha e => by
          subst e
          rcases stp.fs a ha with m | m
          · exact pF m
          · rw [upd_same] at m; cases m
        have pS : ¬ S2 p := fun hs => by
          rcases stp.sn p hs with m | m | m
          · obtain ⟨o, e⟩ := sr.sd p m
            rw [hp] at e; cases e
          · exact pF m
          · rw [upd_same] at m; cases m
        refine ⟨hG', ks.zip ws, ?_, ?_, ?_⟩
        · exact zip_kv ks ws
        · rw [List.length_zip, ← lw, Nat.min_self]; exact h15
        · have em : mergeK [] (ks.zip ws) = ks.zip ws := by
            rw [merge_id (acc := []) (by
              rw [List.nil_append, List.map_fst_zip (by rw [lw]; exact Nat.le_refl _)]
              exact nd), List.nil_append]
          rw [em]
          have kp2 : ∀ a o, a ≠ p → G' a = some o → upd G' p (.dK (ks.zip ws)) a = some o := fun a o n e => by rw [upd_ne n]; exact e
          refine q (.ref p) _ S2 (p :: T2) F2 ⟨⟨sr2.rep.mono (fun a o hs e => kp2 a o (fun z => pS (z ▸ hs)) e) (fun a ha => upd_ne (old a (List.mem_append_right _ ha))) fun _ z => z, sr2.nd, sr2.ns, fun a ha => ?_⟩,
            .of ⟨p, ws, T2, rfl, rfl, upd_same, lw, rl.mono (fun a o hs e => kp2 a o (fun z => pS (z ▸ hs)) e) (fun a ha => upd_ne (old a (List.mem_append_left _ ha))) fun _ z => z⟩,
            List.nodup_cons.mpr ⟨fun m => old p m rfl, nd2⟩, fun a ha hs => ?_, ?_⟩
          · obtain ⟨o, e⟩ := sr2.sd a ha
            exact ⟨o, kp2 a o (fun z => pS (z ▸ ha)) e⟩
          · rcases List.mem_cons.mp ha with m | m
            · exact pS (m ▸ hs)
            · exact ns2 a m hs
          · refine ⟨fun a o e n => kp2 a o (fun z => ?_) (stp.keep a o (kp a o e) n), fun a o e => ?_, fun a ha => ?_, stp.ss, fun a ha => ?_⟩
            · subst z
              rw [hp] at e; cases e
            · by_cases z : a = p
              · subst z
                exact ⟨_, upd_same⟩
              · obtain ⟨o', e'⟩ := stp.live a o (kp a o e)
                exact ⟨o', kp2 a o' z e'⟩
            · rcases List.mem_cons.mp ha with m | m
              · subst m
                exact .inr hp
              · rcases stp.fs a m with k | k
                · exact .inl k
                · refine .inr ?_
                  rw [upd_ne (old a m)] at k
                  exact k
            · rcases stp.sn a ha with k | k | k
              · exact .inl k
              · exact .inr (.inl k)
              · refine .inr (.inr ?_)
                rw [upd_ne (show a ≠ p from fun z => pS (by rw [← z]; exact ha))] at k
                exact k
      · cases he
    · cases he
  · cases he
end

theorem pps_ok {X : Cx} {f : Expr → Option EvO} {pos : Pos} (hf : ∀ e ev, f e = some ev → PE X e (tO X.K ev)) : ∀ {ks : List (Option Expr)} {vs : List Expr} {xs : List Key} {evs : List EvO}, keysC ks = some xs → seqL f vs = some evs → xs.length = evs.length →
    PPs X pos ks vs ((xs.map fun k => tC (kV k)).zip (evs.map (tO X.K))) ∧ ks.length = xs.length ∧ vs.length = evs.length ∧ (ks.all fun x => x.isSome) = true := by
  intro ks
  induction ks with
  | nil =>
    intro vs xs evs h1 h2 hl
    cases h1
    cases vs with
    | nil => cases h2; exact ⟨pps_nil, rfl, rfl, rfl⟩
    | cons v vs =>
      unfold seqL at h2
      split at h2
      · cases h2; cases hl
      · cases h2
  | cons k ks ih =>
    intro vs xs evs h1 h2 hl
    unfold keysC at h1
    split at h1
    · rename_i x xs' hx hxs
      cases h1
      cases vs with
      | nil => cases h2; cases hl
      | cons v vs =>
        unfold seqL at h2
        split at h2
        · rename_i ev evs' hv hvs
          cases h2
          obtain ⟨i1, i2, i3, i4⟩ := ih hxs hvs (by simpa using hl)
          have hk : ∃ e, k = some e ∧ PE X e (tC (kV x)) := by
            unfold keyC at hx
            split at hx
            · cases hx; exact ⟨_, rfl, pe_str⟩
            · cases hx; exact ⟨_, rfl, pe_int⟩
            · cases hx
          obtain ⟨e, e1, hk⟩ := hk
          subst e1
          refine ⟨pps_cons hk (hf v ev hv) i1, by rw [List.length_cons, i2, List.length_cons], by rw [List.length_cons, i3, List.length_cons], ?_⟩
          rw [List.all_cons, i4]
          rfl
        · cases h2
    · cases h1
theorem cUn_ok {X : Cx} {g : Expr → Option EvO} (hg : ∀ e ev, g e = some ev → PE X e (tO X.K ev)) {op : UnaryOp} {a : Expr} {ev : EvO} {p : Pos} (h : cUn g op a = some ev) : PE X (.UnaryOp op a p) (tO X.K ev) := by
  cases op <;> simp only [cUn, reduceCtorEq, Option.map_eq_some_iff] at h
  · obtain ⟨x, h1, h2⟩ := h
    subst h2
    exact (pe_not (hg a x h1)).weak fun σ G Q q => t_not q
  · obtain ⟨x, h1, h2⟩ := h
    subst h2
    exact (pe_un un_neg (hg a x h1)).weak fun σ G Q q => t_neg q
theorem setB_ok {op : CmpOp} {b : Expr} (h : setB b = false) : behindInMarks op b = false := by
  cases b <;> first
    | rfl
    | cases h
theorem cCp_ok {c : Cf} {X : Cx} (ft : Fits c X) {g : Expr → Option EvO} (hg : ∀ e ev, g e = some ev → PE X e (tO X.K ev)) {a : Expr} {ops : List CmpOp} {cs : List Expr} {ev : EvO} {p : Pos} (h : cCp g a ops cs = some ev) :
    PE X (.Compare a ops cs p) (tO X.K ev) ∧ PT X (.Compare a ops cs p) (tT X.K (evB ev)) := by
  unfold cCp at h
  split at h
  · rename_i op b
    split at h
    · cases h
    · rename_i hs
      have hs : setB b = false := by simpa using hs
      split at h
      · rename_i f x y h1 h2 h3
        cases h
        obtain ⟨r, ho, hr⟩ := cCmp_ok ft h1
        exact ⟨(pe_cmpR ho (hg a x h2) (hg b y h3) (setB_ok hs)).weak fun σ G Q q => t_op hr q, (pt_cmpR ho (hg a x h2) (hg b y h3) (setB_ok hs)).weak fun σ G Q q => t_op hr (t_test q)⟩
      · cases h
  · rename_i op op' b d
    split at h
    · cases h
    · rename_i hs
      have hs : setB d = false := by simpa using hs
      split at h
      · rename_i f f' x h1 h2 h3
        split at h
        · rename_i y z h4 h5
          cases h
          obtain ⟨r, ho, hr⟩ := cCmp_ok ft h1
          obtain ⟨r', ho', hr'⟩ := cCmp_ok ft h2
          exact ⟨(pe_chain ho ho' (hg a x h3) (hg b y h4) (hg d z h5) (setB_ok hs)).weak fun σ G Q q => t_chain hr hr' q, (pt_chain ho ho' (hg a x h3) (hg b y h4) (hg d z h5) (setB_ok hs)).weak fun σ G Q q => t_chain hr hr' (t_test q)⟩
        · cases h
      · cases h
  · cases h
theorem slc_ok {i : Expr} (h : slcB i = false) : PlainIx i := fun o v => by
  cases i <;> first
    | rfl
    | cases h
theorem cSub_ok {c : Cf} {X : Cx} (ft : Fits c X) {g : Expr → Option EvO} (hg : ∀ e ev, g e = some ev → PE X e (tO X.K ev)) {v s : Expr} {ev : EvO} {p : Pos} (h : cSub g v s = some ev) : PE X (.Subscript v s p) (tO X.K ev) := by
  unfold cSub at h
  split at h
  · obtain ⟨x, h1, h2⟩ := Option.map_eq_some_iff.mp h
    subst h2
    exact (pe_slice sl_U (hg v x h1) po_none po_none).weak fun σ G Q q => t_sl0 q
  · split at h
    · rename_i x y h1 h2
      cases h
      exact (pe_slice sl_U (hg v x h1) (po_some (hg _ y h2)) po_none).weak fun σ G Q q => t_slL q
    · cases h
  · split at h
    · rename_i x y h1 h2
      cases h
      exact (pe_slice sl_U (hg v x h1) po_none (po_some (hg _ y h2))).weak fun σ G Q q => t_slH q
    · cases h
  · split at h
    · rename_i x y z h1 h2 h3
      cases h
      exact (pe_slice sl_U (hg v x h1) (po_some (hg _ y h2)) (po_some (hg _ z h3))).weak fun σ G Q q => t_slB q
    · cases h
  · split at h
    · cases h
    · rename_i hs
      split at h
      · rename_i x y h1 h2
        cases h
        exact (pe_ix (ix_U ft.hu1) (hg v x h1) (hg s y h2) (slc_ok (by simpa using hs))).weak fun σ G Q q => t_op s2_idx q
      · cases h
theorem boolA_and {X : Cx} {f : Expr → Option EvO} {p : Pos} (hf : ∀ e ev, f e = some ev → PE X e (tO X.K ev)) : ∀ {vs : List Expr} {ev : EvO}, boolA f evAnd vs = some ev → PE X (.BoolOp .And vs p) (tO X.K ev)
  | [], _, h => by cases h
  | [a], ev, h => pe_one (hf a ev h)
  | a :: b :: rest, ev, h => by
    unfold boolA at h
    split at h
    · rename_i x y h1 h2
      cases h
      exact (pe_and (hf a x h1) (boolA_and hf h2)).weak fun σ G Q q => t_and q
    · cases h
theorem boolA_or {X : Cx} {f : Expr → Option EvO} {p : Pos} (hf : ∀ e ev, f e = some ev → PE X e (tO X.K ev)) : ∀ {vs : List Expr} {ev : EvO}, boolA f evOr vs = some ev → PE X (.BoolOp .Or vs p) (tO X.K ev)
  | [], _, h => by cases h
  | [a], ev, h => pe_one (hf a ev h)
  | a :: b :: rest, ev, h => by
    unfold boolA at h
    split at h
    · rename_i x y h1 h2
      cases h
      exact (pe_or (hf a x h1) (boolA_or hf h2)).weak fun σ G Q q => t_or q
    · cases h
theorem boolT_and {X : Cx} {f : Expr → Option EvT} {p : Pos} (hf : ∀ e ev, f e = some ev → PT X e (tT X.K ev)) : ∀ {vs : List Expr} {ev : EvT}, boolT f evAndT vs = some ev → PW X (.BoolOp .And vs p) (tT X.K ev)
  | [], _, h => by cases h
  | [a], ev, h => pw_and1 (hf a ev h)
  | a :: b :: rest, ev, h => by
    unfold boolT at h
    split at h
    · rename_i x y h1 h2
      cases h
      exact (pw_and (hf a x h1) (boolT_and hf h2)).weak fun σ G Q q => t_andT q
    · cases h
theorem boolT_or {X : Cx} {f : Expr → Option EvT} {p : Pos} (hf : ∀ e ev, f e = some ev → PT X e (tT X.K ev)) : ∀ {vs : List Expr} {ev : EvT}, boolT f evOrT vs = some ev → PW X (.BoolOp .Or vs p) (tT X.K ev)
  | [], _, h => by cases h
  | [a], ev, h => pw_or1 (hf a ev h)
  | a :: b :: rest, ev, h => by
    unfold boolT at h
    split at h
    · rename_i x y h1 h2
      cases h
      exact (pw_or (hf a x h1) (boolT_or hf h2)).weak fun σ G Q q => t_orT q
    · cases h
/-- the parts of a comprehension -/
theorem cLc_ok {c : Cf} {X : Cx} (ft : Fits c X) {ge : Cf → Expr → Option EvO} {gt : Cf → Expr → Option EvT} (he : ∀ c X, Fits c X → ∀ e ev, ge c e = some ev → PE X e (tO X.K ev)) (ht : ∀ c X, Fits c X → ∀ e ev, gt c e = some ev → PT X e (tT X.K ev))
    {elt : Expr} {gens : List Comprehension} {scope : Scope} {p : LcP} (h : cLc ge gt c elt gens scope = some p) : ∃ tg iter ifs tt, gens = [⟨tg, iter, ifs, 0⟩] ∧ PI X tg iter (tI X.K p.src) ∧ BlkOk X.N X.env.scope scope p.own ∧ (p.own.map (·.2)).Nodup ∧ (∀ x, foldedSetIterable iter X.env x = pure x) ∧
      (∀ (s : Shared) (H : Hp) (C : Addr) (cl : List (Str × Addr)) (fp : List Addr), PG (X.blk s H scope (compEnvC scope cl C X.env) fp) tg (gT X.K (p.own.map (·.2)) p.st)) ∧
      (∀ (s : Shared) (H : Hp) (C : Addr) (cl : List (Str × Addr)) (fp : List Addr), PTs (X.blk s H scope (compEnvC scope cl C X.env) fp) ifs tt) ∧ (∀ σ G Q, tT X.K p.ifs σ G Q → tt σ G Q) ∧
      (∀ (s : Shared) (H : Hp) (C : Addr) (cl : List (Str × Addr)) (fp : List Addr), PE (X.blk s H scope (compEnvC scope cl C X.env) fp) elt (tO X.K p.elt)) := by
  unfold cLc at h
  split at h
  · rename_i tg iter ifs a
    split at h
    · rename_i ho
      obtain ⟨ha, hb, hn⟩ := ho
      subst ha
      split at h
      · rename_i src st as t x h1 h2 h3 h4
        split at h
        · rename_i hsub
          cases h
          obtain ⟨p1, p2⟩ := cIt_ok ft (he c X ft) (tg := tg) h1
          have sub : ∀ k, k ∈ as → k ∈ (ownOf c scope).map (·.2) := fun k hk => by
            have := List.all_eq_true.mp hsub k hk
            simpa using this
          have ifsOk : ∃ tt, (∀ (s : Shared) (H : Hp) (C : Addr) (cl : List (Str × Addr)) (fp : List Addr), PTs (X.blk s H scope (compEnvC scope cl C X.env) fp) ifs tt) ∧ ∀ σ G Q, tT X.K t σ G Q → tt σ G Q := by
            match ifs, h3 with
            | [], h3 => cases h3; exact ⟨tYes, fun _ _ _ _ _ => pts_nil, fun σ G Q q => t_yes q⟩
            | [e], h3 => exact ⟨tT X.K t, fun s H C cl fp => pts_one (ht _ _ (fits_blk ft scope s H C cl fp) e t h3), fun σ G Q q => q⟩
          obtain ⟨tt, q1, q2⟩ := ifsOk
          refine ⟨tg, iter, ifs, tt, rfl, p1, ?_, hn, folded_ok p2, fun s H C cl fp => ?_, q1, q2, fun s H C cl fp => he _ _ (fits_blk ft scope s H C cl fp) elt x h4⟩
          · rw [ft.N, ft.sc]
            exact blkOk_by hb
          · exact (cTg_ok (fits_blk ft scope s H C cl fp) h2).weak fun v σ G Q q => g_more q sub
        · cases h
      · cases h
    · cases h
  · cases h
theorem t_lcw {N : Nat} {K : PySem.W.Frag} {σ : St} {G : Hp} {Q : VK} {p : LcP} {tt : TT} (hn : (p.own.map (·.2)).Nodup) (htt : ∀ σ G Q, tT K p.ifs σ G Q → tt σ G Q) (h : tO K (p.ev N) σ G Q) : tLc (tI K p.src) (gT K (p.own.map (·.2)) p.st) tt (tO K p.elt) (p.own.map (·.2)) σ G Q := by
  have h := t_lc hn h
  obtain ⟨S, F, E, s, E', sr, he, q⟩ := h
  refine ⟨S, F, E, s, E', sr, he, fun J G1 S1 F1 ro fe p hp => ?_⟩
  obtain ⟨W, w0, w1⟩ := q J G1 S1 F1 ro fe p hp
  refine ⟨W, w0, fun i m H hW => ?_⟩
  rcases w1 i m H hW with z | ⟨go, Nx, n1, n2⟩
  · exact .inl z
  · refine .inr ⟨go, Nx, n1, fun x H' hy => ?_⟩
    obtain ⟨S, F, E, d, T, E', sr, r, nd, ns, he, q⟩ := n2 x H' hy
    exact ⟨S, F, E, d, T, E', sr, r, nd, ns, he, fun σ' G' S' F' g => ⟨(q σ' G' S' F' g).1, htt _ _ _ (q σ' G' S' F' g).2⟩⟩
mutual
theorem cE_ok : ∀ (n : Nat) (c : Cf) (X : Cx), Fits c X → ∀ (e : Expr) (ev : EvO), cE n c e = some ev → PE X e (tO X.K ev)
  | 0, _, _, _, _, _, h => by cases h
  | n + 1, c, X, ft, e, ev, h => by
    have ih : ∀ e ev, cE n c e = some ev → PE X e (tO X.K ev) := cE_ok n c X ft
    cases e <;> simp only [cE, reduceCtorEq] at h
    case Name => exact cName_ok ft h
    case Constant => exact cConst_ok h
    case BinOp a op b p =>
      split at h
      · rename_i f x y h1 h2 h3
        cases h
        obtain ⟨r, ho, hr⟩ := cBin_ok (X := X) h1
        exact (pe_op ho (ih a x h2) (ih b y h3)).weak fun σ G Q q => t_op hr q
      · cases h
    case UnaryOp => exact cUn_ok ih h
    case BoolOp op vs p =>
      cases op
      · exact boolA_and ih h
      · exact boolA_or ih h
    case Compare => exact (cCp_ok ft ih h).1
    case IfExp t a b p =>
      split at h
      · rename_i x y z h1 h2 h3
        cases h
        exact (pe_ifExp (cT_ok n c X ft t x h1) (ih a y h2) (ih b z h3)).weak fun σ G Q q => t_ite q
      · cases h
    case Tuple es k p =>
      obtain ⟨evs, h1, h2⟩ := Option.map_eq_some_iff.mp h
      subst h2
      exact (pe_tup (seqA_ok ih h1).1).weak fun σ G Q q => t_tup q
    case List es p =>
      obtain ⟨evs, h1, h2⟩ := Option.map_eq_some_iff.mp h
      subst h2
      exact (pe_lst (seqA_ok ih h1).1).weak fun σ G Q q => t_lst q
    case Call f args kws pos =>
      split at h
      · exact cCall_ok ft ih h
      · split at h
        · rename_i hl
          exact cMeth_ok ft ih hl h
        · cases h
      · cases h
    case Subscript => exact cSub_ok ft ih h
    case ListComp elt gens scope p =>
      obtain ⟨q, h1, h2⟩ := Option.map_eq_some_iff.mp h
      subst h2
      obtain ⟨tg, iter, ifs, tt, e1, a1, a2, a3, a4, a5, a6, a7, a8⟩ := cLc_ok ft (fun c X ft => cE_ok n c X ft) (fun c X ft => cT_ok n c X ft) h1
      subst e1
      exact (pe_lc ft.calm ft.nd a1 a2 a5 a6 a8 a4).weak fun σ G Q q => t_lcw a3 a7 q
    case Dict ks vs p =>
      split at h
      · rename_i xs evs h1 h2
        split at h
        · rename_i hc
          cases h
          obtain ⟨c1, c2, c3, c4⟩ := hc
          obtain ⟨b1, b2, b3, b4⟩ := pps_ok (pos := p) ih h1 h2 c4
          exact (pe_disp b1 b4 (by rw [b2, b3, c4]) (fun z => c3 (List.eq_nil_of_length_eq_zero (by rw [← b2, z]; rfl))) (by rw [b2]; exact c2)).weak fun σ G Q q => t_dis c1 c2 c4 q
        · cases h
      · cases h
theorem cT_ok : ∀ (n : Nat) (c : Cf) (X : Cx), Fits c X → ∀ (e : Expr) (ev : EvT), cT n c e = some ev → PT X e (tT X.K ev)
  | 0, _, _, _, _, _, h => by cases h
  | n + 1, c, X, ft, e, ev, h => by
    have ih : ∀ e ev, cE n c e = some ev → PE X e (tO X.K ev) := cE_ok n c X ft
    have it : ∀ e ev, cT n c e = some ev → PT X e (tT X.K ev) := cT_ok n c X ft
    cases e <;> simp only [cT, reduceCtorEq] at h
    case UnaryOp op a p =>
      cases op <;> simp only [reduceCtorEq] at h
      obtain ⟨x, h1, h2⟩ := Option.map_eq_some_iff.mp h
      subst h2
      exact (pt_not (it a x h1)).weak fun σ G Q q => t_notT q
    case BoolOp op vs p =>
      cases op
      · exact (boolT_and it h).pt
      · exact (boolT_or it h).pt
    case Compare =>
      obtain ⟨x, h1, h2⟩ := Option.map_eq_some_iff.mp h
      subst h2
      exact (cCp_ok ft ih h1).2
    case Name =>
      obtain ⟨x, h1, h2⟩ := Option.map_eq_some_iff.mp h
      subst h2
      exact (pt_val (ih _ x h1)).weak fun σ G Q q => t_B q
    case Call =>
      obtain ⟨x, h1, h2⟩ := Option.map_eq_some_iff.mp h
      subst h2
      exact (pt_val (ih _ x h1)).weak fun σ G Q q => t_B q
    case Constant =>
      obtain ⟨x, h1, h2⟩ := Option.map_eq_some_iff.mp h
      subst h2
      exact (pt_val (ih _ x h1)).weak fun σ G Q q => t_B q
    case Subscript =>
      obtain ⟨x, h1, h2⟩ := Option.map_eq_some_iff.mp h
      subst h2
      exact (pt_val (ih _ x h1)).weak fun σ G Q q => t_B q
end
end DE

/-! Part M: statements. -/
namespace DE
open PySem PySem.Spec L2

section
variable {K : PySem.W.Frag} {σ : St} {G : Hp} {S : Addr → Prop} {Q : VK}
/-! ### x[k] = e -/
theorem RpL.set : ∀ {ds : List D} {vs : List V} {F T : List Addr} {j : Nat} {d : D} {v : V}, RpL K G S ds vs F → Rp K G S d v T → (F ++ T).Nodup → j < ds.length → ∃ F', RpL K G S (ds.set j d) (vs.set j v) F' ∧ F'.Nodup ∧ ∀ a, a ∈ F' → a ∈ F ++ T := by
  intro ds
  induction ds with
  | nil => intro vs F T j d v _ _ _ hj; exact absurd hj (Nat.not_lt_zero _)
  | cons d0 ds ih =>
    intro vs F T j d v r rd nd hj
    obtain ⟨v0, vs', A, B, e, z, r1, r2⟩ := r
    subst e z
    rw [List.append_assoc] at nd
    obtain ⟨n1, n2, n3⟩ := nd_app.mp nd
    obtain ⟨n4, n5, n6⟩ := nd_app.mp n2
    cases j with
    | zero =>
      refine ⟨T ++ B, ⟨v, vs', T, B, rfl, rfl, rd, r2⟩, nd_app.mpr ⟨n5, n4, fun a ha hb => n6 a hb ha⟩, fun a ha => ?_⟩
      rcases List.mem_append.mp ha with m | m
      · exact List.mem_append_right _ m
      · exact List.mem_append_left _ (List.mem_append_right _ m)
    | succ j =>
      obtain ⟨F', r', nd', m'⟩ := ih (j := j) r2 rd n2 (by simpa using hj)
      refine ⟨A ++ F', ⟨v0, _, A, F', rfl, rfl, r1, r'⟩, nd_app.mpr ⟨n1, nd', fun a ha hb => n3 a ha (m' a hb)⟩, fun a ha => ?_⟩
      rcases List.mem_append.mp ha with m | m
      · exact List.mem_append_left _ (List.mem_append_left _ m)
      · rcases List.mem_append.mp (m' a m) with k | k
        · exact List.mem_append_left _ (List.mem_append_right _ k)
        · exact List.mem_append_right _ k
def rSetU : TSet := fun o i v H Q => (∃ p xs k j, o = .ref p ∧ i = .int k ∧ H p = some (.lst xs) ∧ ixN xs.length k = some j ∧ Q (upd H p (.lst (xs.set j v)))) ∨ ∃ a H', o = .ref a ∧ DPut H a i v H' ∧ Q H'
theorem set_U {X : Cx} (hu : X.A.units + 1 < cLine) : PSet X rSetU := by
  rintro pins s σ H o i v ov iv u Q I ro ri rv (h | ⟨a, H', e, g, q⟩)
  · exact set_list pins s σ H o i v ov iv u Q I ro ri rv h
  · subst e
    obtain rfl : ov = Value.ref a := ro
    exact d_setItem hu I g ri rv fun s4 I4 => ⟨H', I4, q⟩
/-- operands without objects -/
def asK : Opd → En → Option D
  | .temp d, _ => if d.sc = true then some d else none
  | .slot i, E => match E[i]? with
    | some (some d) => if d.sc = true then some d else none
    | _ => none
theorem asK_rp {E : En} {F T : List Addr} {o : Opd} {v : V} {d : D} (sr : SR K G S E σ F) (r : RpO K σ G S o v T) (h : asK o E = some d) : Rp K G S d v [] := by
  cases o with
  | temp d0 =>
    simp only [asK] at h
    split at h
    · rename_i hs
      cases h
      exact (show Rp K G S d v T from r).sc_any hs
    · cases h
  | slot i =>
    simp only [asK] at h
    split at h
    · rename_i d0 hb
      split at h
      · rename_i hs
        cases h
        obtain ⟨v', F1, Fr, g1, g2, _⟩ := sr.rep.get hb
        rw [r.1] at g1
        cases g1
        exact g2.sc_any hs
      · cases h
    · cases h
def evSet (i : Nat) (ek ev : EvO) : EvS := fun E => match ev E with
  | some (o, E1) => match E1[i]? with
    | some (some _) => match ek E1 with
      | some (ok, E2) => match asK ok E2 with
        | some (.int k) => match tks [o] E2 with
          | some ([d], E3) => match E3[i]? with
            | some (some (.lst true ds)) => match ixN ds.length k with
              | some j => if j < ds.length then some (.nx (E3.set i (some (.lst true (ds.set j d))))) else none
              | none => none
            | _ => none
          | _ => none
        | _ => none
      | none => none
    | _ => none
  | none => none
theorem t_set {as : List Nat} {i : Nat} {ek ev : EvO} {D : Ends} (h : tS K as (evSet i ek ev) D σ G) : tAsg (tO K ev) (gSub (tVar i) (tO K ek) rSetU) D σ G := by
  obtain ⟨S, F, E, o, sr, he, w⟩ := h
  unfold evSet at he
  split at he
  · rename_i ov E1 h1
    split at he
    · rename_i d0 hi0
      split at he
      · rename_i ok E2 h2
        split at he
        · rename_i k hk
          split at he
          · rename_i d E3 h3
            split at he
            · rename_i ds hi
              split at he
              · rename_i j hj
                split at he
                · rename_i hjl
                  cases he
                  refine ⟨S, F, E, ov, E1, sr, h1, fun v G1 S1 T1 F1 ro1 => ?_⟩
                  obtain ⟨p0, A0, Fr0, hv, _, _, _⟩ := ro1.sr.rep.get hi0
                  refine ⟨p0, hv, S1, F1, E1, ok, E2, ro1.sr, h2, fun kv G2 S2 T2 F2 ro2 => ?_⟩
                  have ekv : kv = .int k := (asK_rp ro2.sr ro2.ro.one hk).1
                  subst ekv
                  have ro := ro1.app ro2
                  obtain ⟨B, ro'⟩ : ∃ B, RO K σ G S F E2 [ov] [v] G2 S2 B F2 := by
                    obtain ⟨v', vs', A, B, e, z, r1, r2⟩ := ro.ro
                    cases e
                    have nd := ro.nd
                    rw [z, List.append_assoc] at nd
                    obtain ⟨n1, n2, n3⟩ := nd_app.mp nd
                    exact ⟨A, ro.sr, .of r1, nd_app.mpr ⟨n1, (nd_app.mp n2).2.1, fun a ha hb => n3 a ha (List.mem_append_right _ hb)⟩, fun a ha => ro.ns a (by rw [z]; exact List.mem_append_left _ ha), ro.stp.less fun a ha => by
                      rw [z, List.append_assoc]
                      rcases List.mem_append.mp ha with m | m
                      · exact List.mem_append_left _ m
                      · exact List.mem_append_right _ (List.mem_append_right _ m)⟩
                  obtain ⟨S3, F3, Ta, sr3, ra, nd, ns, stp⟩ := ro'.taken h3
                  obtain ⟨v', ev', rd⟩ := RpL.one (v := v) ra
                  cases ev'
                  obtain ⟨p', A, Fr, g1, g2, g3, g4⟩ := sr3.rep.get hi
                  rw [hv] at g1
                  cases g1
                  obtain ⟨p, ws, Fk, e1, z, hp, rk⟩ := g2
                  subst e1 z
                  obtain ⟨n1, n2, n3⟩ := nd_app.mp nd
                  have ndp : ((p :: Fk) ++ Fr).Nodup := g4.nodup_iff.mp n2
                  have inF : ∀ a, a ∈ p :: Fk → a ∈ F3 := fun a ha => g4.mem_iff.mpr (List.mem_append_left _ ha)
                  have pS : ¬ S3 p := sr3.ns p (inF p (List.mem_cons_self ..))
                  obtain ⟨c1, c2⟩ := List.nodup_cons.mp (nd_app.mp ndp).1
                  obtain ⟨Fk', rk', nd', sub'⟩ := rk.set rd (nd_app.mpr ⟨c2, n1, fun a ha hb => n3 a hb (inF a (List.mem_cons_of_mem _ ha))⟩) hjl
                  have pFk' : p ∉ Fk' := fun m => by
                    rcases List.mem_append.mp (sub' p m) with k | k
                    · exact c1 k
                    · exact n3 p k (inF p (List.mem_cons_self ..))
                  obtain ⟨F', sr', _, _, _, stp2⟩ := changed (u := .lst (ws.set j v)) (d' := .lst true (ds.set j d)) (x := .non) (v := .non) (T' := []) (Fk' := Fk') sr3 nd ns stp hv g3 g4 (List.getElem?_eq_some_iff.mp hi).1 ⟨_, hp⟩
                    (fun kp => ⟨p, _, Fk', rfl, rfl, upd_same, rk'.mono (fun a o hs e => kp a o (fun z => pS (z ▸ hs)) e) (fun a ha => upd_ne fun z => pFk' (z ▸ ha)) fun _ z => z⟩) ⟨rfl, rfl⟩ nd' (fun a ha => by
                      rcases List.mem_append.mp (sub' a ha) with k | k
                      · exact List.mem_append_right _ k
                      · exact List.mem_append_left _ k)
                  exact .inl ⟨p, ws, k, j, rfl, rfl, hp, by rw [← rk.length]; exact hj, w σ _ S3 F' ⟨.refl, sr', stp2⟩⟩
                · cases he
              · cases he
            · cases he
          · cases he
        · cases he
      · cases he
    · cases he
  · cases he
end

/-! ### statements compiled -/
def mvOr (g : Expr → Option EvO) (c : Cf) (e : Expr) : Option EvO := match e with
  | .Name x _ => match slot c x with
    | some i => if c.np ≤ i then some (evMv i) else some (evVar i)
    | none => cName c x
  | e => g e
theorem mvOr_ok {c : Cf} {X : Cx} (ft : Fits c X) {g : Expr → Option EvO} (hg : ∀ e ev, g e = some ev → PE X e (tO X.K ev)) {e : Expr} {ev : EvO} (h : mvOr g c e = some ev) : PE X e (tO X.K ev) := by
  unfold mvOr at h
  split at h
  · split at h
    · rename_i i hi
      split at h
      · cases h
        exact (slot_ok ft hi).weak fun σ G Q q => t_mv q
      · cases h
        exact (slot_ok ft hi).weak fun σ G Q q => t_var q
    · exact cName_ok ft h
  · exact hg _ _ h
def allNm : List Expr → Option (List Str)
  | [] => some []
  | .Name x _ :: es => (allNm es).map (x :: ·)
  | _ :: _ => none
def cRet (g : Expr → Option EvO) (c : Cf) (e : Expr) : Option EvO := match e with
  | .Name x p => mvOr g c (.Name x p)
  | .Tuple es k p => match allNm es with
    | some xs => if xs.Nodup then (seqA (mvOr g c) es).map evTup else g (.Tuple es k p)
    | none => g (.Tuple es k p)
  | e => g e
theorem cRet_ok {c : Cf} {X : Cx} (ft : Fits c X) {g : Expr → Option EvO} (hg : ∀ e ev, g e = some ev → PE X e (tO X.K ev)) {e : Expr} {ev : EvO} (h : cRet g c e = some ev) : PE X e (tO X.K ev) := by
  unfold cRet at h
  split at h
  · exact mvOr_ok ft hg h
  · split at h
    · split at h
      · obtain ⟨evs, h1, h2⟩ := Option.map_eq_some_iff.mp h
        subst h2
        exact (pe_tup (seqA_ok (fun e ev h => mvOr_ok ft hg h) h1).1).weak fun σ G Q q => t_tup q
      · exact hg _ _ h
    · exact hg _ _ h
  · exact hg _ _ h
theorem sw_eq {elt : Expr} {gs : List Comprehension} {scope : Scope} {pos py : Pos} {y : Str} {l : Nat} {env : PySem.Env} (hk : env.scope.kind = .function) :
    swapsWith (.ListComp elt gs scope pos) (some (.Name y py)) l env = pure (env.kindOf y == some .local && py.line == pos.line && !(scope.names.any fun (n, k) => n == y && (k == .local || k == .cell))) := by
  have hb : env.blockKind = .function := by unfold PySem.Env.blockKind; rw [hk]; rfl
  unfold swapsWith
  simp only [hb, Expr.pos]
  rfl
def compB : Expr → Bool
  | .ListComp _ _ _ _ => true
  | .SetComp _ _ _ _ => true
  | .DictComp _ _ _ _ _ => true
  | _ => false
theorem sw_no {e : Expr} {t : Option Expr} {l : Nat} {env : PySem.Env} (h : compB e = false) : swapsWith e t l env = pure false := by
  cases e <;> first
    | rfl
    | cases h
theorem sws_no {tg e : Expr} {l : Nat} {env : PySem.Env} (h : compB e = false) : swapsWithSole [tg] e l env = pure false := by
  show swapsWith e (some tg) l env = pure false
  exact sw_no h
theorem sub_no {o i : Expr} {p : Pos} {env : PySem.Env} (h : slcB i = false) : ∀ v, assign (.Subscript o i p) env v = (do
    let ov ← holding [v] (eval o env)
    let iv ← holding [v, ov] (eval i env)
    standAt p
    holding [v, ov, iv] (setItem ov iv v)
    release [v, ov, iv] []) := by
  intro v
  cases i <;> first
    | rfl
    | cases h
def kindB (sc : Scope) : Bool := match sc.kind with
  | .function => true
  | _ => false
theorem kind_ok {sc : Scope} (h : kindB sc = true) : sc.kind = .function := by
  unfold kindB at h
  revert h
  cases sc.kind <;> simp
def tupB : Expr → Bool
  | .Tuple _ _ _ => true
  | _ => false
theorem swp_no {tg e : Expr} {env : PySem.Env} (h : tupB e = false) : swappedStores [tg] e env = pure none := by
  cases tg <;> cases e <;> first
    | rfl
    | cases h
theorem swp_no2 {x : Str} {p : Pos} {e : Expr} {env : PySem.Env} : swappedStores [.Name x p] e env = pure none := by
  cases e <;> rfl
theorem swp_no3 {o i : Expr} {p : Pos} {e : Expr} {env : PySem.Env} : swappedStores [.Subscript o i p] e env = pure none := by
  cases e <;> rfl
abbrev SA := EvS × List Nat
def cAsg (n : Nat) (c : Cf) (tg e : Expr) : Option SA := match tg with
  | .Subscript o i _ => match o with
    | .Name x _ => if compB e || slcB i then none else match slot c x, cE n c i, cE n c e with
      | some j, some k, some v => some (evSet j k v, [])
      | _, _, _ => none
    | _ => none
  | .Name y py => match e with
    | .ListComp elt gens scope lp => match cLc (cE n) (cT n) c elt gens scope with
      | some q => if kindB c.sc = true ∧ locB c y = true then (match ixOf y c.N with
        | some i => some (evAsg (q.ev c.W) (stNm i), [i])
        | none => none) else none
      | none => none
    | e => if compB e then none else match cE n c e, cTg 3 c (.Name y py) with
      | some x, some (st, as) => some (evAsg x st, as)
      | _, _ => none
  | .Tuple ts k p => if compB e || tupB e then none else match cE n c e, cTg 3 c (.Tuple ts k p) with
    | some x, some (st, as) => some (evAsg x st, as)
    | _, _ => none
  | _ => none
def seqS (f : Stmt → Option SA) : List Stmt → Option SA
  | [] => some (evNx, [])
  | s :: ss => match f s, seqS f ss with
    | some (a, as), some (b, bs) => some (evSeq a b, as ++ bs)
    | _, _ => none
def cS : Nat → Cf → Stmt → Option SA
  | 0, _, _ => none
  | n + 1, c, st => match st with
    | .Pass _ => some (evNx, [])
    | .Break _ => some (evBk, [])
    | .Continue _ => some (evCt, [])
    | .Return e _ => match e with
      | none => some (evRetN, [])
      | some e => (cRet (cE n c) c e).map fun x => (evRet x, [])
    | .Expr e _ => if compB e then none else (cE n c e).map fun x => (evEx x, [])
    | .If t a b _ => match cT n c t, seqS (cS n c) a, seqS (cS n c) b with
      | some x, some (y, as), some (z, bs) => some (evIf x y z, as ++ bs)
      | _, _, _ => none
    | .While t a b _ => match b with
      | [] => match cT n c t, seqS (cS n c) a with
        | some x, some (y, as) => some (evWh x y c.W, as)
        | _, _ => none
      | _ => none
    | .For tg it a b _ => match b with
      | [] => match cIt (cE n c) c it, cTg 3 c tg, seqS (cS n c) a with
        | some src, some (st, as), some (y, bs) => some (evFor (as ++ bs) c.W src st y, as ++ bs)
        | _, _, _ => none
      | _ => none
    | .Assign tgs e _ => match tgs with
      | [tg] => cAsg n c tg e
      | _ => none
    | _ => none

theorem _root_.L2.PS.as {X : Cx} {s : Stmt} {as bs : List Nat} {a : EvS} (h : PS X s (tS X.K as a)) (m : ∀ k, k ∈ as → k ∈ bs) : PS X s (tS X.K bs a) := h.weak fun D σ G q => t_more q m
theorem _root_.L2.PSs.as {X : Cx} {s : List Stmt} {as bs : List Nat} {a : EvS} (h : PSs X s (tS X.K as a)) (m : ∀ k, k ∈ as → k ∈ bs) : PSs X s (tS X.K bs a) := h.weak fun D σ G q => t_more q m
theorem seqS_ok {X : Cx} {f : Stmt → Option SA} (hf : ∀ s a as, f s = some (a, as) → PS X s (tS X.K as a)) : ∀ {ss : List Stmt} {b : EvS} {bs : List Nat}, seqS f ss = some (b, bs) → PSs X ss (tS X.K bs b) := by
  intro ss
  induction ss with
  | nil =>
    intro b bs h
    cases h
    exact pss_nil.weak fun D σ G q => t_nx q
  | cons s ss ih =>
    intro b bs h
    unfold seqS at h
    split at h
    · rename_i a as b' bs' h1 h2
      cases h
      exact (pss_cons ((hf s a as h1).as fun k m => List.mem_append_left _ m) ((ih h2).as fun k m => List.mem_append_right _ m)).weak fun D σ G q => t_seq q
    · cases h
theorem loc_ok {c : Cf} {X : Cx} (f : Fits c X) {y : Str} (hl : locB c y = true) : L2.Loc X.env.scope y ∧ (X.fn y = true ∨ X.env.scope.names.lookup y = some .local) := by
  unfold L2.Loc
  rw [f.sc]
  unfold locB at hl
  split at hl
  · rename_i e1
    exact ⟨.inl e1, .inr e1⟩
  · rename_i e1
    exact ⟨.inr e1, .inl (f.fn _ hl)⟩
  · cases hl
theorem one_assign {X : Cx} {tg : Expr} (h : starB tg = false) : (assignEach [tg] X.env).map (·.2) = [assign tg X.env] := by
  rw [astar_ok h]
  rfl
theorem cAsg_ok {n : Nat} {c : Cf} {X : Cx} (ft : Fits c X) {tg e : Expr} {p : Pos} {a : EvS} {as : List Nat} (h : cAsg n c tg e = some (a, as)) : PS X (.Assign [tg] e p) (tS X.K as a) := by
  have ih : ∀ e ev, cE n c e = some ev → PE X e (tO X.K ev) := cE_ok n c X ft
  unfold cAsg at h
  split at h
  · rename_i o i q
    split at h
    · rename_i x q2
      split at h
      · cases h
      · rename_i hc
        have hc : compB e = false ∧ slcB i = false := by simpa [Bool.or_eq_false_iff] using hc
        split at h
        · rename_i j k v h1 h2 h3
          cases h
          exact (ps_asg (ih e v h3) (pg_sub (slot_ok ft h1) (ih i k h2) (set_U ft.hu1) (sub_no hc.2)) (sws_no hc.1) swp_no3 (one_assign rfl)).weak fun D σ G q => t_set q
        · cases h
    · cases h
  · rename_i y py
    split at h
    · rename_i elt gens scope lp
      split at h
      · rename_i q hq
        split at h
        · rename_i hk
          obtain ⟨hk, hl⟩ := hk
          have hk' : X.env.scope.kind = .function := by
            rw [ft.sc]
            exact kind_ok hk
          split at h
          · rename_i i hi
            cases h
            obtain ⟨tg, iter, ifs, tt, e1, a1, a2, a3, a4, a5, a6, a7, a8⟩ := cLc_ok ft (fun c X ft => cE_ok n c X ft) (fun c X ft => cT_ok n c X ft) hq
            subst e1
            obtain ⟨l1, l2⟩ := loc_ok ft hl
            have hN : X.N[i]? = some y := by rw [ft.N]; exact ixOf_ok hi
            have fin : ∀ D σ G, tS X.K [i] (evAsg (q.ev c.W) (stNm i)) D σ G → tAsg (tLc (tI X.K q.src) (gT X.K (q.own.map (·.2)) q.st) tt (tO X.K q.elt) (q.own.map (·.2))) (gName i) D σ G := fun D σ G h => by
              have h1 := t_asg h
              have h2 : tO X.K (q.ev c.W) σ G fun x H1 => gName i x σ H1 D.nx := by
                obtain ⟨S, F, E, o, E', sr, he, qq⟩ := h1
                exact ⟨S, F, E, o, E', sr, he, fun v G' S' T F' ro => g_nm (qq v G' S' T F' ro)⟩
              exact t_lcw a3 a7 h2
            cases hs : (X.env.kindOf y == some .local && py.line == lp.line && !(scope.names.any fun (n, k) => n == y && (k == .local || k == .cell))) with
            | true =>
              have hs' := hs
              simp only [Bool.and_eq_true] at hs'
              have hyl : X.env.scope.names.lookup y = some .local := eq_of_beq hs'.1.1
              exact (ps_setLc ft.calm ft.nd hN hyl (by rw [sw_eq hk', hs]) a1 a2 a5 a6 a8 a4).weak fin
            | false =>
              exact (ps_set ft.nd hN l1 (pe_lc ft.calm ft.nd a1 a2 a5 a6 a8 a4) (by rw [sw_eq hk', hs]) l2).weak fin
          · cases h
        · cases h
      · cases h
    · split at h
      · cases h
      · rename_i hc
        have hc : compB e = false := by simpa using hc
        split at h
        · rename_i x st as h1 h2
          cases h
          exact (ps_asg (ih e x h1) (cTg_ok ft h2) (sws_no hc) swp_no2 (one_assign rfl)).weak fun D σ G q => t_asg q
        · cases h
  · rename_i ts k q
    split at h
    · cases h
    · rename_i hc
      have hc : compB e = false ∧ tupB e = false := by simpa [Bool.or_eq_false_iff] using hc
      split at h
      · rename_i x st as h1 h2
        cases h
        exact (ps_asg (ih e x h1) (cTg_ok ft h2) (sws_no hc.1) (swp_no hc.2) (one_assign rfl)).weak fun D σ G q => t_asg q
      · cases h
  · cases h
theorem cS_ok : ∀ (n : Nat) (c : Cf) (X : Cx), Fits c X → ∀ (s : Stmt) (a : EvS) (as : List Nat), cS n c s = some (a, as) → PS X s (tS X.K as a) := by
  intro n
  induction n with
  | zero => intro c X ft s a as h; cases h
  | succ n ih =>
    intro c X ft s a as h
    have ie : ∀ e ev, cE n c e = some ev → PE X e (tO X.K ev) := cE_ok n c X ft
    have hp : PassesOwn (model X.prog X.w) X.A X.env X.xe := by rw [ft.xe]; exact PassesOwn.never
    cases s <;> simp only [cS, reduceCtorEq] at h
    case Pass => cases h; exact ps_pass.weak fun D σ G q => t_nx q
    case Break => cases h; exact ps_break.weak fun D σ G q => t_bk q
    case Continue => cases h; exact ps_continue.weak fun D σ G q => t_ct q
    case Return e p =>
      split at h
      · cases h; exact ps_retN.weak fun D σ G q => t_retN q
      · obtain ⟨x, h1, h2⟩ := Option.map_eq_some_iff.mp h
        cases h2
        exact (ps_ret (cRet_ok ft ie h1)).weak fun D σ G q => t_ret q
    case Expr e p =>
      split at h
      · cases h
      · rename_i hc
        have hc : compB e = false := by simpa using hc
        obtain ⟨x, h1, h2⟩ := Option.map_eq_some_iff.mp h
        cases h2
        exact (ps_expr (ie e x h1) (sw_no hc)).weak fun D σ G q => t_ex q
    case If t x y p =>
      split at h
      · rename_i ct a as b bs h1 h2 h3
        cases h
        exact (ps_if (cT_ok n c X ft t ct h1) ((seqS_ok (ih c X ft) h2).as fun k m => List.mem_append_left _ m) ((seqS_ok (ih c X ft) h3).as fun k m => List.mem_append_right _ m)).weak fun D σ G q => t_if q
      · cases h
    case While t x y p =>
      split at h
      · split at h
        · rename_i ct a as h1 h2
          cases h
          exact (ps_while hp (cT_ok n c X ft t ct h1) (seqS_ok (ih c X ft) h2)).weak fun D σ G q => t_wh q
        · cases h
      · cases h
    case For tg it x y p =>
      split at h
      · split at h
        · rename_i src st as b bs h1 h2 h3
          cases h
          obtain ⟨pi, hs⟩ := cIt_ok ft ie (tg := tg) h1
          exact (ps_for hp ft.calm pi ((cTg_ok ft h2).weak fun v σ G Q q => g_more q fun k m => List.mem_append_left _ m) ((seqS_ok (ih c X ft) h3).as fun k m => List.mem_append_right _ m) (folded_ok hs)).weak fun D σ G q => t_for q
        · cases h
      · cases h
    case Assign tgs e p =>
      split at h
      · exact cAsg_ok ft h
      · cases h
end DE

/-! Part N: a whole text. -/
namespace DE
open PySem PySem.Spec L2

/-- a def of the text; body: its evaluator, by what the functions do -/
structure Df where
  name : Str
  qual : Str
  st : Stmt
  N : List Str
  ps : List Str
  as : List Nat
  body : (Nat → Fd) → EvS
/-- what the functions do, calls at most n deep -/
def sem (ds : List Df) : Nat → Nat → Fd
  | 0, _ => fun _ => none
  | n + 1, i => match ds[i]? with
    | some d => fnD d.ps.length d.N.length d.as (d.body (sem ds n))
    | none => fun _ => none
def tbl : List Df → Nat → (Nat → Fd) → List (Str × Nat × Fd)
  | [], _, _ => []
  | d :: ds, k, s => (d.name, d.ps.length, s k) :: tbl ds (k + 1) s
def cfOf (ds : List Df) (blt : List Str) (con : List (Str × D)) (W : Nat) (d : Df) (s : Nat → Fd) : Cf := ⟨d.N, defScope d.st, fun _ => true, d.ps.length, blt, tbl ds 0 s, con, W⟩
theorem tbl_mem : ∀ {ds : List Df} {k : Nat} {s : Nat → Fd} {p : Str × Nat × Fd}, p ∈ tbl ds k s → ∃ j d, ds[j]? = some d ∧ p = (d.name, d.ps.length, s (k + j)) := by
  intro ds
  induction ds with
  | nil => intro k s p h; cases h
  | cons d ds ih =>
    intro k s p h
    rcases List.mem_cons.mp h with m | m
    · exact ⟨0, d, rfl, m⟩
    · obtain ⟨j, d', h1, h2⟩ := ih m
      refine ⟨j + 1, d', h1, ?_⟩
      rw [h2, Nat.add_assoc, Nat.add_comm 1 j]
structure Fact (K : PySem.W.Frag) (mg : Str → Option Value) (d : Df) : Prop where
  ex : ∃ f fd, Fun K d.name d.qual d.st f fd ∧ Binds K fd d.ps [] ∧ mg d.name = some (.ref f)
/-- what the compiler says of a def -/
structure Good1 (ds : List Df) (blt : List Str) (con : List (Str × D)) (W : Nat) (d : Df) : Prop where
  sc : FnScope d.N d.ps (defScope d.st)
  le : d.ps.length ≤ d.N.length
  ok : (fun s => seqS (cS 40 (cfOf ds blt con W d s)) (defBody d.st)) = fun s => some (d.body s, d.as)
theorem prog_ok {P : Program} {w : World} {K : PySem.W.Frag} {mg : Str → Option Value} {base : Heap} {ds : List Df} {blt : List Str} {con : List (Str × D)} {W : Nat} (fa : ∀ d, d ∈ ds → Fact K mg d) (gd : ∀ d, d ∈ ds → Good1 ds blt con W d)
    (hb : ∀ x, x ∈ blt → mg x = none) (hc : ∀ p, p ∈ con → ∃ v u, mg p.1 = some u ∧ RelV v u ∧ ∀ G S, Rp K G S p.2 v []) :
    ∀ (n i : Nat) (d : Df), ds[i]? = some d → ∀ f fd, Fun K d.name d.qual d.st f fd → FnOk P w K mg base CX0 n f fd d.ps (spF K d.ps.length (sem ds n i)) := by
  intro n
  induction n with
  | zero =>
    intro i d hi f fd Fu
    have no : ∀ vs H Q E, spF K d.ps.length (sem ds 0 i) vs H Q E → False := fun vs H Q E h => by
      obtain ⟨_, _, _, _, _, _, _, _, _, _, h, _⟩ := h
      cases h
    exact ⟨fun vs H Q E h => (no vs H Q E h).elim, fun A outer s H args us vs Q E _ _ _ _ h => (no vs H Q E h).elim⟩
  | succ n ih =>
    intro i d hi f fd Fu
    have hd : d ∈ ds := List.mem_of_getElem? hi
    have g := gd d hd
    have e : sem ds (n + 1) i = fnD d.ps.length d.N.length d.as (d.body (sem ds n)) := by
      simp only [sem, hi]
    rw [e]
    refine fn_ok Fu g.sc g.le fun X hP hw hK hmg hbase hN hsc hcalm hfn hxe hr => ?_
    subst hP hw hK hmg hbase
    have ft : Fits (cfOf ds blt con W d (sem ds n)) X := {
      N := hN
      nd := by rw [hN]; exact g.sc.nd
      sc := hsc
      fn := fun x _ => hfn x
      calm := hcalm
      xe := hxe
      hu := by
        have := hr.un
        omega
      blt := hb
      fns := fun p hp => by
        obtain ⟨j, d', h1, h2⟩ := tbl_mem hp
        subst h2
        obtain ⟨f', fd', F', b', m'⟩ := (fa d' (List.mem_of_getElem? h1)).ex
        rw [Nat.zero_add]
        exact ⟨f', fd', n, d'.ps, ih j d' h1 f' fd' F', hr, m', F'.kp, b'⟩
      con := hc }
    have ok := congrFun g.ok (sem ds n)
    exact seqS_ok (cS_ok 40 _ X ft) ok
/-- the law's promise -/
def spLaw (K : PySem.W.Frag) : Sp := fun vs H Q _ => ∃ (a : Addr) (ns : List Int), vs = [.ref a] ∧ SqL K H a (ns.map V.int) ∧ ns.length ≤ 63 ∧ ∀ H', Q (.bl true) H'
theorem ints_rp {K : PySem.W.Frag} {G : Hp} {S : Addr → Prop} : ∀ ns : List Int, RpL K G S (ns.map D.int) (ns.map V.int) []
  | [] => ⟨rfl, rfl⟩
  | n :: ns => ⟨.int n, ns.map V.int, [], [], rfl, rfl, ⟨rfl, rfl⟩, ints_rp ns⟩
theorem law_ok {P : Program} {w : World} {K : PySem.W.Frag} {mg : Str → Option Value} {base : Heap} {n : Nat} {f : Addr} {fd : FuncData} {x : Str} {g : Fd} (F : FnOk P w K mg base CX0 n f fd [x] (spF K 1 g)) (h : ∀ ns : List Int, ns.length ≤ 63 → ∃ ds, g [.scr (ns.map D.int)] = some (.bl true, ds)) :
    FnOk P w K mg base CX0 n f fd [x] (spLaw K) := by
  have to : ∀ vs H Q E, spLaw K vs H Q E → spF K 1 g vs H Q E := fun vs H Q E hl => by
    obtain ⟨a, ns, e, hs, hn, q⟩ := hl
    subst e
    obtain ⟨ds, hd⟩ := h ns hn
    refine ⟨fun b => b = a ∧ ∃ o, H b = some o, [], [.scr (ns.map D.int)], .bl true, ds, rfl, ⟨.ref a, [], [], [], rfl, rfl, ⟨rfl, a, ns.map V.int, rfl, ?_, ints_rp ns⟩, rfl, rfl⟩, .nil, (fun _ m => by cases m), fun a ha => ha.2, hd, fun v G' S' T F' fin => ?_⟩
    · rcases hs with hs | hs
      · refine .inl ⟨⟨rfl, ?_⟩, hs⟩
        rcases hs with hs | ⟨o, hs⟩
        · exact ⟨_, hs⟩
        · exact ⟨_, hs⟩
      · exact .inr (.inr hs)
    · have ev : v = .bl true := fin.rp.1
      subst ev
      exact q G'
  exact ⟨fun vs H Q E hl => F.len vs H Q E (to vs H Q E hl), fun A outer s H args us vs Q E a b c d hl => F.run A outer s H args us vs Q E a b c d (to vs H Q E hl)⟩
end DE

/-! Part P: reckoning with the evaluators. -/
namespace DE
open PySem PySem.Spec L2

local macro_rules | `(tactic| walk_at "ev") => `(tactic| simp only [fnD, evSeq, evAsg, evRet, evRetN, evIf, evB, evEx, evVar, evMv, evCon, ev1, ev2, evN, evIsi, evCons, evNil, evTup, evLst, evDis, evCall, evMut, evMs, evAnd, evOr, evNot, evAndT, evOrT, evNotT, evIte, evChain, evSl0, evSlB, evYes, evNx, evBk, evCt, evSet,
  prim, look, looks, tk, tks, pull, pulls, push, pushes, asB, asI, asK, isS, f1, f2, slL, slH, slB, stNm, stTup, stCons, stNil, turn, frzAt, argsOf, D.sc, scV, scal, pLen, pAdd, pSub, pDiv, pMod, pLt, pLe, pGt, pGe, pNeg, pAbs, pMin, pMax, pEqD, pNeD, pEq, pIdx, seqOf, keyOf, pSl, pList, pTuple, mApp, mExt, mPop, mClr, mIns, isiD, tyD,
  frz, frzL, frzK, isF, isFL, kidsOf, List.map_cons, List.map_nil, List.length_cons, List.length_nil, List.getElem?_cons_zero, List.getElem?_cons_succ, List.getElem?_nil, List.set_cons_zero, List.set_cons_succ, List.replicate, List.append_eq, List.nil_append, List.cons_append, List.contains_nil, List.contains_cons, Bool.or_false, Bool.false_or, Bool.or_true, Bool.true_or, Bool.and_true, Bool.true_and, Bool.and_false, Bool.false_and, Bool.not_true, Bool.not_false,
  if_true, if_false, ite_true, ite_false, reduceIte, reduceCtorEq, Option.map_some, Option.map_none, Nat.reduceAdd, Nat.reduceSub, Nat.reduceLT, Nat.reduceEqDiff, Nat.reduceLeDiff, Nat.zero_add, Nat.lt_add_left_iff_pos, Nat.reduceBEq, Bool.false_eq_true, beq_self_eq_true])
theorem atI_nn {α : Type} {l : List α} {i : Int} (h0 : 0 ≤ i) : atI l i = l[i.toNat]? := by
  unfold atI ixN
  rw [if_pos h0]
  by_cases h : i < (l.length : Int)
  · rw [if_pos h]; rfl
  · rw [if_neg h, List.getElem?_eq_none (by omega)]; rfl
theorem atI_d {α : Type} {l : List α} {i : Int} (h0 : 0 ≤ i) (h1 : i < (l.length : Int)) (d : α) : atI l i = some (l.getD i.toNat d) := by
  rw [atI_nn h0, List.getD_eq_getElem?_getD, List.getElem?_eq_getElem (by omega)]
  rfl

theorem frzL_of {α : Type} {enc : α → D} (h : ∀ x, frz (enc x) = enc x) (l : List α) : frzL (l.map enc) = l.map enc := by
  rw [frzL_map, List.map_map]
  exact List.map_congr_left fun x _ => h x
theorem isFL_of {α : Type} {enc : α → D} (h : ∀ x, frz (enc x) = enc x) (l : List α) : isFL (l.map enc) = true := by
  rw [← frzL_of h]
  exact isFL_of_frz _
theorem isF_of {d : D} (h : frz d = d) : isF d = true := by
  rw [← h]
  exact isF_of_frz d
theorem at_map {α β : Type} {l : List α} {f : α → β} {i : Int} (h0 : 0 ≤ i) (h1 : i < (l.length : Int)) (d : α) : atI (l.map f) i = some (f (l.getD i.toNat d)) := by
  rw [atI_nn h0, List.getElem?_map, List.getD_eq_getElem?_getD, List.getElem?_eq_getElem (by omega)]
  rfl
/-- a loop whose turns go on, by what holds behind each beginning -/
theorem forIt_nx {α : Type} {st : St1} {b : EvS} {enc : α → D} {items : List α} (P : List α → En) (h : ∀ pre x post, items = pre ++ x :: post → ∃ E1 E2, st (enc x) (P pre) = some E1 ∧ (b E1 = some (.nx E2) ∨ b E1 = some (.ct E2)) ∧ E2 = P (pre ++ [x])) :
    forIt st b (items.map enc) (P []) = some (.nx (P items)) := by
  have gen : ∀ post pre, items = pre ++ post → forIt st b (post.map enc) (P pre) = some (.nx (P items)) := by
    intro post
    induction post with
    | nil =>
      intro pre e
      rw [List.append_nil] at e
      subst e
      rfl
    | cons x post ih =>
      intro pre e
      obtain ⟨E1, E2, h1, h2, h3⟩ := h pre x post e
      subst h3
      have := ih (pre ++ [x]) (by rw [e, List.append_assoc]; rfl)
      show turn st b (enc x) (P pre) (forIt st b (post.map enc)) = _
      unfold turn
      rw [h1]
      rcases h2 with h2 | h2
      · simp only [h2]
        exact this
      · simp only [h2]
        exact this
  exact gen items [] rfl
/-- a loop that hands back at some item, else goes through -/
theorem forIt_find {α : Type} {st : St1} {b : EvS} {enc : α → D} {items : List α} (P : List α → En) (r : List α → α → Option Out) (h : ∀ pre x post, items = pre ++ x :: post → ∃ E1, st (enc x) (P pre) = some E1 ∧ match r pre x with
      | none => b E1 = some (.nx (P (pre ++ [x]))) ∨ b E1 = some (.ct (P (pre ++ [x])))
      | some o => ∃ d E2, o = .rt d E2 ∧ b E1 = some (.rt d E2)) {pre0 : List α} {x0 : α} {post0 : List α} (e0 : items = pre0 ++ x0 :: post0) (hn : ∀ pre x post, pre0 = pre ++ x :: post → r pre x = none) {o : Out} (ho : r pre0 x0 = some o) :
    forIt st b (items.map enc) (P []) = some o := by
  have gen : ∀ post pre, pre0 = pre ++ post → forIt st b ((post ++ x0 :: post0).map enc) (P pre) = some o := by
    intro post
    induction post with
    | nil =>
      intro pre e
      rw [List.append_nil] at e
      subst e
      obtain ⟨E1, h1, h2⟩ := h pre0 x0 post0 e0
      rw [ho] at h2
      obtain ⟨d, E2, e1, h2⟩ := h2
      subst e1
      show turn st b (enc x0) (P pre0) (forIt st b (post0.map enc)) = _
      unfold turn
      simp only [h1, h2]
    | cons x post ih =>
      intro pre e
      obtain ⟨E1, h1, h2⟩ := h pre x (post ++ x0 :: post0) (by rw [e0, e, List.append_assoc]; rfl)
      rw [hn pre x post e] at h2
      have := ih (pre ++ [x]) (by rw [e, List.append_assoc]; rfl)
      show turn st b (enc x) (P pre) (forIt st b ((post ++ x0 :: post0).map enc)) = _
      unfold turn
      rw [h1]
      rcases h2 with h2 | h2
      · simp only [h2]
        exact this
      · simp only [h2]
        exact this
  rw [e0]
  exact gen pre0 [] rfl
/-- a comprehension -/
theorem lcIt_fm {α : Type} {own : List Nat} {st : St1} {ifs : EvT} {elt : EvO} {enc f : α → D} {p : α → Bool} {E : En} : ∀ {items : List α} {acc : List D}, (∀ x, x ∈ items → ∃ E1 E2, st (enc x) E = some E1 ∧ ifs E1 = some (p x, E2) ∧ (p x = false → wipeE E2 own = E) ∧ (p x = true → ∃ o E3 E4, elt E2 = some (o, E3) ∧ tks [o] E3 = some ([f x], E4) ∧ wipeE E4 own = E)) →
    acc.length + items.length ≤ lim → lcIt own st ifs elt (items.map enc) acc E = some (acc ++ (items.filter p).map f, E) := by
  intro items
  induction items with
  | nil =>
    intro acc h hl
    show some (acc, E) = _
    rw [List.filter_nil, List.map_nil, List.append_nil]
  | cons x items ih =>
    intro acc h hl
    obtain ⟨E1, E2, h1, h2, h3, h4⟩ := h x (List.mem_cons_self ..)
    have hr : ∀ y, y ∈ items → _ := fun y hy => h y (List.mem_cons_of_mem _ hy)
    rw [List.length_cons] at hl
    show lcTurn own st ifs elt (enc x) acc E (lcIt own st ifs elt (items.map enc)) = _
    unfold lcTurn
    simp only [h1]
    cases hp : p x with
    | false =>
      rw [hp] at h2
      simp only [h2, h3 hp]
      rw [ih hr (by omega), List.filter_cons_of_neg (by rw [hp]; exact Bool.false_ne_true)]
    | true =>
      rw [hp] at h2
      obtain ⟨o, E3, E4, h5, h6, h7⟩ := h4 hp
      have h8 : tks [.temp (.lst true acc), o] E3 = some ([D.lst true acc, f x], E4) := by
        show (match tks [o] E3 with | some (ds, E2) => some (D.lst true acc :: ds, E2) | none => none) = _
        rw [h6]
      simp only [h2, h5, h8]
      rw [if_pos (show acc.length < lim by omega), h7, ih hr (by rw [List.length_append, List.length_singleton]; omega), List.filter_cons_of_pos hp, List.map_cons, List.append_assoc]
      rfl
theorem lcIt_all {α : Type} {own : List Nat} {st : St1} {elt : EvO} {enc f : α → D} {E : En} {items : List α} (h : ∀ x, x ∈ items → ∃ E1 o E3 E4, st (enc x) E = some E1 ∧ elt E1 = some (o, E3) ∧ tks [o] E3 = some ([f x], E4) ∧ wipeE E4 own = E) (hl : items.length ≤ lim) :
    lcIt own st evYes elt (items.map enc) [] E = some (items.map f, E) := by
  have := lcIt_fm (own := own) (st := st) (ifs := evYes) (elt := elt) (enc := enc) (f := f) (p := fun _ => true) (E := E) (items := items) (acc := []) (fun x hx => by
    obtain ⟨E1, o, E3, E4, h1, h2, h3, h4⟩ := h x hx
    exact ⟨E1, E1, h1, rfl, (fun z => by cases z), fun _ => ⟨o, E3, E4, h2, h3, h4⟩⟩) (by simpa using hl)
  rw [this, List.nil_append, List.filter_eq_self.mpr (fun _ _ => rfl)]
end DE

/-! Part Q: more for reckoning. -/
namespace DE
open PySem PySem.Spec L2
theorem at0 {α : Type} {x0 : α} {l : List α} : atI (x0 :: l) 0 = some x0 := by rw [atI_nn (by decide)]; rfl
theorem at1 {α : Type} {x0 x1 : α} {l : List α} : atI (x0 :: x1 :: l) 1 = some x1 := by rw [atI_nn (by decide)]; rfl
theorem at2 {α : Type} {x0 x1 x2 : α} {l : List α} : atI (x0 :: x1 :: x2 :: l) 2 = some x2 := by rw [atI_nn (by decide)]; rfl
theorem at3 {α : Type} {x0 x1 x2 x3 : α} {l : List α} : atI (x0 :: x1 :: x2 :: x3 :: l) 3 = some x3 := by rw [atI_nn (by decide)]; rfl
theorem at4 {α : Type} {x0 x1 x2 x3 x4 : α} {l : List α} : atI (x0 :: x1 :: x2 :: x3 :: x4 :: l) 4 = some x4 := by rw [atI_nn (by decide)]; rfl
theorem at5 {α : Type} {x0 x1 x2 x3 x4 x5 : α} {l : List α} : atI (x0 :: x1 :: x2 :: x3 :: x4 :: x5 :: l) 5 = some x5 := by rw [atI_nn (by decide)]; rfl
theorem frzL_ints (ns : List Int) : frzL (ns.map D.int) = ns.map D.int := by
  rw [frzL_map, List.map_map]; rfl
theorem isFL_ints (ns : List Int) : isFL (ns.map D.int) = true := by
  rw [← frzL_ints]; exact isFL_of_frz _
theorem set_alike {α : Type} : ∀ {l : List α} {i : Nat} {x : α}, l[i]? = some x → l.set i x = l := by
  intro l
  induction l with
  | nil => intro i x h; rfl
  | cons y l ih =>
    intro i x h
    cases i with
    | zero => simp at h; subst h; rfl
    | succ i => simp at h; rw [List.set_cons_succ, ih h]
/-- a name's own list gone through, no turn touching it -/
theorem forOwn_nx {α : Type} {st : St1} {b : EvS} {enc : α → D} (he : ∀ x, frz (enc x) = enc x) {items : List α} {i N : Nat} {m : Bool} (P : List α → En) (hi : ∀ pre, (P pre)[i]? = some (some (.lst m (items.map enc)))) (hN : items.length < N)
    (h : ∀ pre x post, items = pre ++ x :: post → ∃ E1 E2, st (enc x) (P pre) = some E1 ∧ (b E1 = some (.nx E2) ∨ b E1 = some (.ct E2)) ∧ E2 = P (pre ++ [x])) :
    forOwn i st b N 0 (P []) = some (.nx (P items)) := by
  have gen : ∀ post pre N', items = pre ++ post → post.length < N' → forOwn i st b N' pre.length (P pre) = some (.nx (P items)) := by
    intro post
    induction post with
    | nil =>
      intro pre N' e hN'
      rw [List.append_nil] at e
      subst e
      cases N' with
      | zero => exact absurd hN' (Nat.not_lt_zero _)
      | succ n =>
        unfold forOwn
        have hg : (items.map enc)[items.length]? = none := List.getElem?_eq_none (by rw [List.length_map]; exact Nat.le_refl _)
        cases m <;> simp only [hi, hg]
    | cons x post ih =>
      intro pre N' e hN'
      cases N' with
      | zero => exact absurd hN' (Nat.not_lt_zero _)
      | succ n =>
        obtain ⟨E1, E2, h1, h2, h3⟩ := h pre x post e
        subst h3
        have := ih (pre ++ [x]) n (by rw [e, List.append_assoc]; rfl) (by simpa using hN')
        rw [List.length_append, List.length_singleton] at this
        have hg : (items.map enc)[pre.length]? = some (enc x) := by
          rw [e, List.map_append, List.getElem?_append_right (by rw [List.length_map]; exact Nat.le_refl _), List.length_map, Nat.sub_self]
          rfl
        have hs := set_alike (hi pre)
        unfold forOwn
        cases m <;>
        · simp only [hi, hg, frzL_of he, he, hs]
          unfold turn
          rw [h1]
          rcases h2 with h2 | h2
          · simp only [h2]
            exact this
          · simp only [h2]
            exact this
  exact gen items [] N rfl hN
mutual
def fine : Nat → D → Bool
  | _, .str x => PyData.strOk x
  | n, .tup ds => decide (0 < n) && fineL (n - 1) ds
  | n, .lst _ ds => decide (0 < n) && fineL (n - 1) ds
  | n, .scr ds => decide (0 < n) && fineL (n - 1) ds
  | _, .dK _ _ _ => false
  | _, _ => true
def fineL : Nat → List D → Bool
  | _, [] => true
  | n, d :: ds => fine n d && fineL n ds
end
mutual
theorem fine_ok : ∀ (d : D) (n : Nat), fine n d = true → noD d = true ∧ (py d).canLay0 = true ∧ (py d).depth ≤ n
  | .non, n, h => ⟨rfl, rfl, Nat.zero_le _⟩
  | .bl _, n, h => ⟨rfl, rfl, Nat.zero_le _⟩
  | .int _, n, h => ⟨rfl, rfl, Nat.zero_le _⟩
  | .str x, n, h => ⟨rfl, h, Nat.zero_le _⟩
  | .tup ds, n, h => by
    have h' := (Bool.and_eq_true _ _).mp h
    have hn := of_decide_eq_true h'.1
    obtain ⟨a, b, c⟩ := fineL_ok ds (n - 1) h'.2
    exact ⟨a, b, by show PyData.depthAll (pyL ds) + 1 ≤ n; omega⟩
  | .lst _ ds, n, h => by
    have h' := (Bool.and_eq_true _ _).mp h
    have hn := of_decide_eq_true h'.1
    obtain ⟨a, b, c⟩ := fineL_ok ds (n - 1) h'.2
    exact ⟨a, b, by show PyData.depthAll (pyL ds) + 1 ≤ n; omega⟩
  | .scr ds, n, h => by
    have h' := (Bool.and_eq_true _ _).mp h
    have hn := of_decide_eq_true h'.1
    obtain ⟨a, b, c⟩ := fineL_ok ds (n - 1) h'.2
    exact ⟨a, b, by show PyData.depthAll (pyL ds) + 1 ≤ n; omega⟩
  | .dK _ _ _, n, h => by cases h
theorem fineL_ok : ∀ (ds : List D) (n : Nat), fineL n ds = true → noDL ds = true ∧ PyData.canLayAll0 (pyL ds) = true ∧ PyData.depthAll (pyL ds) ≤ n
  | [], n, _ => ⟨rfl, rfl, Nat.zero_le _⟩
  | d :: ds, n, h => by
    have h' := (Bool.and_eq_true _ _).mp h
    obtain ⟨a, b, c⟩ := fine_ok d n h'.1
    obtain ⟨a2, b2, c2⟩ := fineL_ok ds n h'.2
    refine ⟨(Bool.and_eq_true _ _).mpr ⟨a, a2⟩, (Bool.and_eq_true _ _).mpr ⟨b, b2⟩, ?_⟩
    show max (py d).depth (PyData.depthAll (pyL ds)) ≤ n
    omega
end
theorem fine_py {d : D} (h : fine 64 d = true) : pyOk d = true := by
  obtain ⟨a, b, c⟩ := fine_ok d 64 h
  unfold pyOk SeqAt.shaped
  rw [a, b, decide_eq_true c]
  rfl
theorem fine_refl {d : D} (h : fine 64 d = true) : PyData.eqv (py d) (py d) = true := SeqAt.eqv_refl _ (fine_ok d 64 h).2.1
theorem fineL_map {α : Type} {enc : α → D} {n : Nat} {l : List α} (h : ∀ x, x ∈ l → fine n (enc x) = true) : fineL n (l.map enc) = true := by
  induction l with
  | nil => rfl
  | cons x l ih => exact (Bool.and_eq_true _ _).mpr ⟨h x (List.mem_cons_self ..), ih fun y hy => h y (List.mem_cons_of_mem _ hy)⟩
theorem all_getD {p : Str → Bool} {l : List Str} {d : Str} (i : Nat) (h : l.all p = true) (hd : p d = true) : p (l.getD i d) = true := by
  rw [List.getD_eq_getElem?_getD]
  by_cases hi : i < l.length
  · rw [List.getElem?_eq_getElem hi]
    exact List.all_eq_true.mp h _ (List.getElem_mem hi)
  · rw [List.getElem?_eq_none (by omega)]
    exact hd
theorem cutD_map {α : Type} {f : α → D} (l : List α) (lo hi : Option Int) : ∃ cs : List α, cutD (l.map f) lo hi = cs.map f ∧ cs.length ≤ l.length ∧ ∀ x, x ∈ cs → x ∈ l := by
  unfold cutD
  refine ⟨_, by rw [← List.map_drop, ← List.map_take], ?_, fun x hx => List.mem_of_mem_drop (List.mem_of_mem_take hx)⟩
  rw [List.length_take, List.length_drop]
  omega

/-- a loop, by what holds behind each beginning -/
theorem forIt_inv {α : Type} {st : St1} {b : EvS} {enc : α → D} {items : List α} (I : List α → En → Prop)
    (h : ∀ pre x post E, items = pre ++ x :: post → I pre E → ∃ E1 E2, st (enc x) E = some E1 ∧ (b E1 = some (.nx E2) ∨ b E1 = some (.ct E2)) ∧ I (pre ++ [x]) E2) {E : En} (h0 : I [] E) :
    ∃ E', forIt st b (items.map enc) E = some (.nx E') ∧ I items E' := by
  have gen : ∀ post pre E, items = pre ++ post → I pre E → ∃ E', forIt st b (post.map enc) E = some (.nx E') ∧ I items E' := by
    intro post
    induction post with
    | nil =>
      intro pre E e hi
      rw [List.append_nil] at e
      subst e
      exact ⟨E, rfl, hi⟩
    | cons x post ih =>
      intro pre E e hi
      obtain ⟨E1, E2, h1, h2, h3⟩ := h pre x post E e hi
      obtain ⟨E', h4, h5⟩ := ih (pre ++ [x]) E2 (by rw [e, List.append_assoc]; rfl) h3
      refine ⟨E', ?_, h5⟩
      show turn st b (enc x) E (forIt st b (post.map enc)) = _
      unfold turn
      rw [h1]
      rcases h2 with h2 | h2
      · simp only [h2]
        exact h4
      · simp only [h2]
        exact h4
  exact gen items [] E rfl h0
theorem forOwn_inv {α : Type} {st : St1} {b : EvS} {enc : α → D} (he : ∀ x, frz (enc x) = enc x) {items : List α} {i N : Nat} {m : Bool} (I : List α → En → Prop) (hi : ∀ pre E, I pre E → E[i]? = some (some (.lst m (items.map enc)))) (hN : items.length < N)
    (h : ∀ pre x post E, items = pre ++ x :: post → I pre E → ∃ E1 E2, st (enc x) E = some E1 ∧ (b E1 = some (.nx E2) ∨ b E1 = some (.ct E2)) ∧ I (pre ++ [x]) E2) {E : En} (h0 : I [] E) :
    ∃ E', forOwn i st b N 0 E = some (.nx E') ∧ I items E' := by
  have gen : ∀ post pre N' E, items = pre ++ post → post.length < N' → I pre E → ∃ E', forOwn i st b N' pre.length E = some (.nx E') ∧ I items E' := by
    intro post
    induction post with
    | nil =>
      intro pre N' E e hN' hI
      rw [List.append_nil] at e
      subst e
      cases N' with
      | zero => exact absurd hN' (Nat.not_lt_zero _)
      | succ n =>
        refine ⟨E, ?_, hI⟩
        unfold forOwn
        have hg : (items.map enc)[items.length]? = none := List.getElem?_eq_none (by rw [List.length_map]; exact Nat.le_refl _)
        cases m <;> simp only [hi _ _ hI, hg]
    | cons x post ih =>
      intro pre N' E e hN' hI
      cases N' with
      | zero => exact absurd hN' (Nat.not_lt_zero _)
      | succ n =>
        obtain ⟨E1, E2, h1, h2, h3⟩ := h pre x post E e hI
        obtain ⟨E', h4, h5⟩ := ih (pre ++ [x]) n E2 (by rw [e, List.append_assoc]; rfl) (by simpa using hN') h3
        refine ⟨E', ?_, h5⟩
        rw [List.length_append, List.length_singleton] at h4
        have hg : (items.map enc)[pre.length]? = some (enc x) := by
          rw [e, List.map_append, List.getElem?_append_right (by rw [List.length_map]; exact Nat.le_refl _), List.length_map, Nat.sub_self]
          rfl
        have hs := set_alike (hi _ _ hI)
        unfold forOwn
        cases m <;>
        · simp only [hi _ _ hI, hg, frzL_of he, he, hs]
          unfold turn
          rw [h1]
          rcases h2 with h2 | h2
          · simp only [h2]
            exact h4
          · simp only [h2]
            exact h4
  exact gen items [] N E rfl hN h0
/-- a comprehension whose items are only known to be good -/
theorem lcIt_ex {α β : Type} {own : List Nat} {st : St1} {elt : EvO} {enc : α → D} {enc2 : β → D} {E : En} (Q : β → Prop) : ∀ {items : List α} {acc : List D}, (∀ x, x ∈ items → ∃ y E1 o E3 E4, Q y ∧ st (enc x) E = some E1 ∧ elt E1 = some (o, E3) ∧ tks [o] E3 = some ([enc2 y], E4) ∧ wipeE E4 own = E) → acc.length + items.length ≤ lim →
    ∃ ys : List β, ys.length = items.length ∧ (∀ y, y ∈ ys → Q y) ∧ lcIt own st evYes elt (items.map enc) acc E = some (acc ++ ys.map enc2, E) := by
  intro items
  induction items with
  | nil =>
    intro acc h hl
    exact ⟨[], rfl, (fun _ z => by cases z), by rw [List.map_nil, List.map_nil, List.append_nil]; rfl⟩
  | cons x items ih =>
    intro acc h hl
    obtain ⟨y, E1, o, E3, E4, hy, h1, h2, h3, h4⟩ := h x (List.mem_cons_self ..)
    rw [List.length_cons] at hl
    obtain ⟨ys, g1, g2, g3⟩ := ih (acc := acc ++ [enc2 y]) (fun z hz => h z (List.mem_cons_of_mem _ hz)) (by rw [List.length_append, List.length_singleton]; omega)
    refine ⟨y :: ys, by rw [List.length_cons, List.length_cons, g1], fun z hz => (List.mem_cons.mp hz).elim (fun e => e ▸ hy) (g2 z), ?_⟩
    have h8 : tks [.temp (.lst true acc), o] E3 = some ([D.lst true acc, enc2 y], E4) := by
      show (match tks [o] E3 with | some (ds, E2) => some (D.lst true acc :: ds, E2) | none => none) = _
      rw [h3]
    show lcTurn own st evYes elt (enc x) acc E (lcIt own st evYes elt (items.map enc)) = _
    unfold lcTurn
    simp only [h1, evYes, h2, h8]
    rw [if_pos (show acc.length < lim by omega), h4]
    rw [g3, List.append_assoc]
    rfl
/-! texts -/
/-- a text of at most n signs, all such as can stand in one -/
def okS (n : Nat) (x : Str) : Prop := x.length ≤ n ∧ PyData.strOk x = true
theorem strOk_iff {x : Str} : PyData.strOk x = true ↔ ∀ c, c ∈ x.cps.toList → c < 0x110000 := by
  unfold PyData.strOk
  rw [Array.all_eq_true_iff_forall_mem]
  constructor
  · intro h c hc
    exact of_decide_eq_true (h c (by simpa using hc))
  · intro h c hc
    exact decide_eq_true (h c (by simpa using hc))
theorem okS.mono {n m : Nat} {x : Str} (h : okS n x) (l : n ≤ m) : okS m x := ⟨Nat.le_trans h.1 l, h.2⟩
theorem okS_append {n m : Nat} {x y : Str} (h : okS n x) (g : okS m y) : okS (n + m) (x ++ y) := by
  refine ⟨?_, ?_⟩
  · show (x.cps ++ y.cps).size ≤ _
    rw [Array.size_append]
    exact Nat.add_le_add h.1 g.1
  · rw [strOk_iff] at *
    intro c hc
    have hc : c ∈ (x.cps ++ y.cps).toList := hc
    rw [Array.toList_append] at hc
    rcases List.mem_append.mp hc with hc | hc
    · exact strOk_iff.mp h.2 c hc
    · exact strOk_iff.mp g.2 c hc
theorem okS_cut {n : Nat} {x : Str} (h : okS n x) (lo hi : Option Int) : okS n (cutS x lo hi) := by
  refine ⟨?_, ?_⟩
  · show (List.toArray _).size ≤ n
    rw [List.size_toArray, List.length_take, List.length_drop]
    have : x.cps.toList.length ≤ n := h.1
    omega
  · rw [strOk_iff]
    intro c hc
    exact strOk_iff.mp h.2 c (List.mem_of_mem_drop (List.mem_of_mem_take hc))
theorem okS_one {n c : Nat} {x : Str} (h : okS n x) (hc : c ∈ x.cps.toList) : okS 1 ⟨#[c]⟩ := by
  refine ⟨Nat.le_refl _, ?_⟩
  rw [strOk_iff]
  intro d hd
  have : d = c := by simpa using hd
  subst this
  exact strOk_iff.mp h.2 d hc
theorem inV_strs (x : Str) (ss : List Str) : inV (.str x) (ss.map V.str) = decide (x ∈ ss) := by
  unfold inV
  induction ss with
  | nil => rfl
  | cons y ss ih =>
    rw [List.map_cons, List.any_cons, ih]
    by_cases h : y = x
    · subst h
      have : eqV (.str y) (.str y) = true := by unfold eqV; simp
      rw [this, Bool.true_or]
      exact (decide_eq_true (List.mem_cons_self ..)).symm
    · have : eqV (.str y) (.str x) = false := by unfold eqV; simpa using h
      rw [this, Bool.false_or]
      exact decide_eq_decide.mpr ⟨fun q => List.mem_cons_of_mem _ q, fun q => (List.mem_cons.mp q).elim (fun e => absurd e.symm h) id⟩
theorem vals_strs (ss : List Str) : vals (ss.map D.str) = some (ss.map V.str) := by
  induction ss with
  | nil => rfl
  | cons x ss ih =>
    show (match scV (.str x), vals (ss.map D.str) with | some v, some vs => some (v :: vs) | _, _ => none) = _
    rw [ih]
    rfl
theorem pIn_strs (x : Str) (m : Bool) (ss : List Str) : pIn (.str x) (.lst m (ss.map D.str)) = some (decide (x ∈ ss)) := by
  show (match vals (ss.map D.str) with | some vs => some (inV (.str x) vs) | none => none) = _
  rw [vals_strs]
  exact congrArg some (inV_strs x ss)
theorem sts_strs (ss : List Str) : sts (ss.map D.str) = some ss := by
  induction ss with
  | nil => rfl
  | cons x ss ih =>
    show (sts (ss.map D.str)).map (x :: ·) = _
    rw [ih]
    rfl
theorem frzL_strs (ss : List Str) : frzL (ss.map D.str) = ss.map D.str := frzL_of (fun _ => rfl) ss
theorem isFL_strs (ss : List Str) : isFL (ss.map D.str) = true := isFL_of (fun _ => rfl) ss
theorem fineL_strs {n : Nat} {ss : List Str} (h : ∀ x, x ∈ ss → PyData.strOk x = true) : fineL n (ss.map D.str) = true := fineL_map h
theorem fineL_ints {n : Nat} {ss : List Int} : fineL n (ss.map D.int) = true := fineL_map fun _ _ => rfl
end DE

namespace Lw
open PySem PySem.Spec L2 DE
def topS (i : Nat) : Stmt := PySem.Challenge.pw_wright_k10_heads_and_words.main.body.getD i (.Pass ⟨0, 0, 0, 0⟩)
abbrev st_0 : Stmt := topS 1
/- heads_of(rules); slots: 0:rules 1:heads 2:head 3:parts -/
def L0_0 (s : Nat → Fd) : EvS :=
 evSeq (evIf (evB (ev2 pNinD (evVar 2) (evVar 1))) (evSeq (evEx (evMut mApp 1 (evCons (evVar 2) (evNil))))
 (evNx))
 (evNx))
 (evNx)
def F0_1 (s : Nat → Fd) : EvS :=
 evFor [2, 3] 100000 (evSq (evVar 0)) (stTup (stCons (stNm 2) (stCons (stNm 3) (stNil))))
 (L0_0 s)
def b_0 (s : Nat → Fd) : EvS :=
 evSeq (evAsg (evLst (evNil)) (stNm 1))
 (evSeq (F0_1 s)
 (evSeq (evRet (evMv 1))
 (evNx)))
def d_0 : Df := ⟨"heads_of", "heads_of", st_0, ["rules", "heads", "head", "parts"], ["rules"], [1, 2, 3], b_0⟩
abbrev st_1 : Stmt := topS 2
/- words_in(rules); slots: 0:rules 1:heads 2:words 3:head 4:parts 5:part -/
def L1_0 (s : Nat → Fd) : EvS :=
 evSeq (evIf (evAndT (evB (ev2 pNinD (evVar 5) (evVar 1))) (evB (ev2 pNinD (evVar 5) (evVar 2)))) (evSeq (evEx (evMut mApp 2 (evCons (evVar 5) (evNil))))
 (evNx))
 (evNx))
 (evNx)
def F1_1 (s : Nat → Fd) : EvS :=
 evFor [5] 100000 (evSq (evVar 4)) (stNm 5)
 (L1_0 s)
def L1_2 (s : Nat → Fd) : EvS :=
 evSeq (F1_1 s)
 (evNx)
def F1_3 (s : Nat → Fd) : EvS :=
 evFor [3, 4, 5] 100000 (evSq (evVar 0)) (stTup (stCons (stNm 3) (stCons (stNm 4) (stNil))))
 (L1_2 s)
def b_1 (s : Nat → Fd) : EvS :=
 evSeq (evAsg (evCall 1 (s 0) (evCons (evVar 0) (evNil))) (stNm 1))
 (evSeq (evAsg (evLst (evNil)) (stNm 2))
 (evSeq (F1_3 s)
 (evSeq (evRet (evMv 2))
 (evNx))))
def d_1 : Df := ⟨"words_in", "words_in", st_1, ["rules", "heads", "words", "head", "parts", "part"], ["rules"], [1, 2, 3, 4, 5], b_1⟩
abbrev st_2 : Stmt := topS 3
/- numbers_of(rules, name); slots: 0:rules 1:name 2:number -/
def T2_0 (s : Nat → Fd) : EvT :=
 evB (ev2 pEqD (ev2 pIdx (ev2 pIdx (evVar 0) (evVar 2)) (evCon (.int 0))) (evVar 1))
def M2_1 (s : Nat → Fd) : EvO :=
 evVar 2
def C2_2 (s : Nat → Fd) : EvO :=
 evLc 100000 [2] (evR1 (evCons (evN (f1 pLen) (evCons (evVar 0) (evNil))) (evNil))) (stNm 2) (T2_0 s) (M2_1 s)
def b_2 (s : Nat → Fd) : EvS :=
 evSeq (evRet (C2_2 s))
 (evNx)
def d_2 : Df := ⟨"numbers_of", "numbers_of", st_2, ["rules", "name", "number"], ["rules", "name"], [], b_2⟩
abbrev st_3 : Stmt := topS 5
/- _law_cell_at(_law_script, _law_k); slots: 0:_law_script 1:_law_k -/
def b_3 (s : Nat → Fd) : EvS :=
 evSeq (evIf (evB (ev2 pLt (evVar 1) (evN (f1 pLen) (evCons (evVar 0) (evNil))))) (evSeq (evRet (ev2 pIdx (evVar 0) (evVar 1)))
 (evNx))
 (evNx))
 (evSeq (evRet (evCon (.int 0)))
 (evNx))
def d_3 : Df := ⟨"_law_cell_at", "_law_cell_at", st_3, ["_law_script", "_law_k"], ["_law_script", "_law_k"], [], b_3⟩
abbrev st_4 : Stmt := topS 6
/- _law_stream(_law_cell, _law_many); slots: 0:_law_cell 1:_law_many 2:_law_found 3:_law_number 4:_law_k -/
def L4_0 (s : Nat → Fd) : EvS :=
 evSeq (evAsg (ev2 pMod (ev2 pAdd (ev2 pAdd (ev2 pMul (evVar 3) (evVar 3)) (ev2 pMul (evCon (.int 69621)) (evVar 3))) (evVar 4)) (evCon (.int 4294967311))) (stNm 3))
 (evSeq (evEx (evMut mApp 2 (evCons (evVar 3) (evNil))))
 (evNx))
def F4_1 (s : Nat → Fd) : EvS :=
 evFor [4, 3] 100000 (evR1 (evCons (ev2 pAdd (evVar 1) (evCon (.int 1))) (evNil))) (stNm 4)
 (L4_0 s)
def b_4 (s : Nat → Fd) : EvS :=
 evSeq (evAsg (evLst (evNil)) (stNm 2))
 (evSeq (evAsg (ev2 pAdd (ev2 pMod (evVar 0) (evCon (.int 4294967311))) (evCon (.int 48271))) (stNm 3))
 (evSeq (F4_1 s)
 (evSeq (evRet (ev2 slL (evVar 2) (evCon (.int 1))))
 (evNx))))
def d_4 : Df := ⟨"_law_stream", "_law_stream", st_4, ["_law_cell", "_law_many", "_law_found", "_law_number", "_law_k"], ["_law_cell", "_law_many"], [2, 3, 4, 3], b_4⟩
abbrev st_5 : Stmt := topS 7
/- _law_pool(_law_cell, _law_many); slots: 0:_law_cell 1:_law_many 2:_law_signs 3:_law_draws 4:_law_size 5:_law_at 6:_law_base 7:_law_found 8:_law_k 9:_law_sign 10:_law_end 11:_law_draw -/
def M5_0 (s : Nat → Fd) : EvO :=
 ev2 pIdx (evVar 2) (ev2 pMod (evVar 11) (evCon (.int 93)))
def C5_1 (s : Nat → Fd) : EvO :=
 evLc 100000 [11] (evSq (evSlB (evVar 3) (evCon (.int 2)) (ev2 pAdd (evCon (.int 2)) (evVar 4)))) (stNm 11) (evYes) (M5_0 s)
def L5_2 (s : Nat → Fd) : EvS :=
 evSeq (evAsg (ev2 pIdx (evVar 2) (ev2 pMod (ev2 pAdd (ev2 pIdx (evVar 3) (ev2 pAdd (evCon (.int 2)) (evVar 5))) (ev2 pMul (evCon (.int 5)) (evVar 8))) (evCon (.int 93)))) (stNm 9))
 (evSeq (evAsg (ev2 pAdd (ev2 pAdd (evVar 5) (evCon (.int 1))) (ev2 pMod (ev2 pDiv (ev2 pIdx (evVar 3) (evCon (.int 1))) (ev2 pAdd (evVar 8) (evCon (.int 2)))) (evCon (.int 15)))) (stNm 10))
 (evSeq (evEx (evMut mApp 7 (evCons (ev2 pAdd (ev2 pAdd (ev2 slH (evVar 6) (evVar 5)) (evVar 9)) (evSlB (evVar 6) (ev2 pAdd (evVar 5) (evCon (.int 1))) (evVar 10))) (evNil))))
 (evNx)))
def F5_3 (s : Nat → Fd) : EvS :=
 evFor [8, 9, 10] 100000 (evR1 (evCons (evVar 1) (evNil))) (stNm 8)
 (L5_2 s)
def b_5 (s : Nat → Fd) : EvS :=
 evSeq (evAsg (evCon (.str "!\"#$&'()*+,-./0123456789:;<=>?@ABCDEFGHIJKLMNOPQRSTUVWXYZ[\\]^_`abcdefghijklmnopqrstuvwxyz{|}~")) (stNm 2))
 (evSeq (evAsg (evCall 2 (s 4) (evCons (evVar 0) (evCons (evCon (.int 16)) (evNil)))) (stNm 3))
 (evSeq (evAsg (ev2 pAdd (evCon (.int 1)) (ev2 pMod (ev2 pIdx (evVar 3) (evCon (.int 0))) (evCon (.int 14)))) (stNm 4))
 (evSeq (evAsg (ev2 pMod (ev2 pIdx (evVar 3) (evCon (.int 1))) (evVar 4)) (stNm 5))
 (evSeq (evAsg (evMs (f2 pJoin) (evCon (.str "")) (evCons (C5_1 s) (evNil))) (stNm 6))
 (evSeq (evAsg (evLst (evNil)) (stNm 7))
 (evSeq (F5_3 s)
 (evSeq (evRet (evMv 7))
 (evNx))))))))
def d_5 : Df := ⟨"_law_pool", "_law_pool", st_5, ["_law_cell", "_law_many", "_law_signs", "_law_draws", "_law_size", "_law_at", "_law_base", "_law_found", "_law_k", "_law_sign", "_law_end", "_law_draw"], ["_law_cell", "_law_many"], [2, 3, 4, 5, 6, 7, 8, 9, 10], b_5⟩
abbrev st_6 : Stmt := topS 8
/- _law_rule(_law_cell, _law_pool_here); slots: 0:_law_cell 1:_law_pool_here 2:_law_digits 3:_law_k 4:_law_digit -/
def L6_0 (s : Nat → Fd) : EvS :=
 evSeq (evSet 2 (evVar 3) (ev2 pMod (ev2 pDiv (ev2 pIdx (evVar 2) (evVar 3)) (evCon (.int 16))) (evCon (.int 16))))
 (evSeq (evIf (evB (ev2 pGt (evVar 0) (evCon (.int 0)))) (evSeq (evSet 2 (evVar 3) (ev2 pMod (ev2 pSub (evVar 0) (evCon (.int 1))) (evCon (.int 16))))
 (evSeq (evAsg (ev2 pDiv (ev2 pSub (evVar 0) (evCon (.int 1))) (evCon (.int 16))) (stNm 0))
 (evNx)))
 (evNx))
 (evNx))
def F6_1 (s : Nat → Fd) : EvS :=
 evFor [3, 0] 100000 (evR1 (evCons (evCon (.int 8)) (evNil))) (stNm 3)
 (L6_0 s)
def M6_2 (s : Nat → Fd) : EvO :=
 ev2 pIdx (evVar 1) (ev2 pMod (evVar 4) (evCon (.int 6)))
def C6_3 (s : Nat → Fd) : EvO :=
 evLc 100000 [4] (evSq (evSlB (evVar 2) (evCon (.int 2)) (ev2 pAdd (evCon (.int 2)) (ev2 pMod (ev2 pIdx (evVar 2) (evCon (.int 1))) (evCon (.int 7)))))) (stNm 4) (evYes) (M6_2 s)
def b_6 (s : Nat → Fd) : EvS :=
 evSeq (evAsg (evCall 2 (s 4) (evCons (evVar 0) (evCons (evCon (.int 8)) (evNil)))) (stNm 2))
 (evSeq (F6_1 s)
 (evSeq (evRet (evTup (evCons (ev2 pIdx (evVar 1) (ev2 pMod (ev2 pIdx (evVar 2) (evCon (.int 0))) (evCon (.int 6)))) (evCons (evN (f1 pTuple) (evCons (C6_3 s) (evNil))) (evNil)))))
 (evNx)))
def d_6 : Df := ⟨"_law_rule", "_law_rule", st_6, ["_law_cell", "_law_pool_here", "_law_digits", "_law_k", "_law_digit"], ["_law_cell", "_law_pool_here"], [2, 3, 0], b_6⟩
abbrev st_7 : Stmt := topS 9
/- _law_texts(_law_found, _law_due); slots: 0:_law_found 1:_law_due 2:_law_one -/
def M7_0 (s : Nat → Fd) : EvO :=
 evIsi .str (evVar 2)
def C7_1 (s : Nat → Fd) : EvO :=
 evLc 100000 [2] (evSq (evVar 0)) (stNm 2) (evYes) (M7_0 s)
def b_7 (s : Nat → Fd) : EvS :=
 evSeq (evRet (evAnd (evIsi .list (evVar 0)) (evAnd (ev2 pEqD (evVar 0) (evVar 1)) (evN (f1 pAll) (evCons (C7_1 s) (evNil))))))
 (evNx)
def d_7 : Df := ⟨"_law_texts", "_law_texts", st_7, ["_law_found", "_law_due", "_law_one"], ["_law_found", "_law_due"], [], b_7⟩
abbrev st_8 : Stmt := topS 10
/- _law_numbers(_law_found, _law_due); slots: 0:_law_found 1:_law_due 2:_law_one -/
def M8_0 (s : Nat → Fd) : EvO :=
 evAnd (evIsi .int (evVar 2)) (evNot (evIsi .bool (evVar 2)))
def C8_1 (s : Nat → Fd) : EvO :=
 evLc 100000 [2] (evSq (evVar 0)) (stNm 2) (evYes) (M8_0 s)
def b_8 (s : Nat → Fd) : EvS :=
 evSeq (evIf (evOrT (evNotT (evB (evIsi .list (evVar 0)))) (evB (ev2 pNeD (evVar 0) (evVar 1)))) (evSeq (evRet (evCon (.bl false)))
 (evNx))
 (evNx))
 (evSeq (evRet (evN (f1 pAll) (evCons (C8_1 s) (evNil))))
 (evNx))
def d_8 : Df := ⟨"_law_numbers", "_law_numbers", st_8, ["_law_found", "_law_due", "_law_one"], ["_law_found", "_law_due"], [], b_8⟩
abbrev st_9 : Stmt := topS 11
/- law(_law_script); slots: 0:_law_script 1:_law_pool_here 2:_law_rules 3:_law_heads 4:_law_words 5:_law_handed 6:_law_again 7:_law_head 8:_law_parts 9:_law_part 10:_law_found 11:_law_others 12:_law_name 13:_law_cell 14:_law_k -/
def M9_0 (s : Nat → Fd) : EvO :=
 evCall 2 (s 6) (evCons (evVar 13) (evCons (evVar 1) (evNil)))
def C9_1 (s : Nat → Fd) : EvO :=
 evLc 100000 [13] (evSq (evSlB (evVar 0) (evCon (.int 1)) (evCon (.int 25)))) (stNm 13) (evYes) (M9_0 s)
def L9_2 (s : Nat → Fd) : EvS :=
 evSeq (evIf (evB (ev2 pNinD (evVar 7) (evVar 3))) (evSeq (evEx (evMut mApp 3 (evCons (evVar 7) (evNil))))
 (evNx))
 (evNx))
 (evNx)
def F9_3 (s : Nat → Fd) : EvS :=
 evFor [7, 8] 100000 (evSq (evVar 2)) (stTup (stCons (stNm 7) (stCons (stNm 8) (stNil))))
 (L9_2 s)
def L9_4 (s : Nat → Fd) : EvS :=
 evSeq (evIf (evAndT (evB (ev2 pNinD (evVar 9) (evVar 3))) (evB (ev2 pNinD (evVar 9) (evVar 4)))) (evSeq (evEx (evMut mApp 4 (evCons (evVar 9) (evNil))))
 (evNx))
 (evNx))
 (evNx)
def F9_5 (s : Nat → Fd) : EvS :=
 evFor [9] 100000 (evSq (evVar 8)) (stNm 9)
 (L9_4 s)
def L9_6 (s : Nat → Fd) : EvS :=
 evSeq (F9_5 s)
 (evNx)
def F9_7 (s : Nat → Fd) : EvS :=
 evFor [7, 8, 9] 100000 (evSq (evVar 2)) (stTup (stCons (stNm 7) (stCons (stNm 8) (stNil))))
 (L9_6 s)
def T9_8 (s : Nat → Fd) : EvT :=
 evB (ev2 pEqD (ev2 pIdx (ev2 pIdx (evVar 2) (evVar 14)) (evCon (.int 0))) (evVar 12))
def M9_9 (s : Nat → Fd) : EvO :=
 evVar 14
def C9_10 (s : Nat → Fd) : EvO :=
 evLc 100000 [14] (evR1 (evCons (evN (f1 pLen) (evCons (evVar 2) (evNil))) (evNil))) (stNm 14) (T9_8 s) (M9_9 s)
def L9_11 (s : Nat → Fd) : EvS :=
 evSeq (evAsg (evCall 2 (s 2) (evCons (evVar 5) (evCons (evVar 12) (evNil)))) (stNm 10))
 (evSeq (evIf (evNotT (evB (evCall 2 (s 8) (evCons (evVar 10) (evCons (C9_10 s) (evNil)))))) (evSeq (evRet (evCon (.bl false)))
 (evNx))
 (evNx))
 (evSeq (evEx (evMut mClr 10 evNil))
 (evNx)))
def F9_12 (s : Nat → Fd) : EvS :=
 evFor [12, 10] 100000 (evSq (evVar 1)) (stNm 12)
 (L9_11 s)
def L9_13 (s : Nat → Fd) : EvS :=
 evSeq (evAsg (evCall 1 (s 0) (evCons (evVar 5) (evNil))) (stNm 10))
 (evSeq (evAsg (evCall 1 (s 1) (evCons (evVar 5) (evNil))) (stNm 11))
 (evSeq (evIf (evOrT (evNotT (evB (evCall 2 (s 7) (evCons (evVar 10) (evCons (evVar 3) (evNil)))))) (evOrT (evNotT (evB (evCall 2 (s 7) (evCons (evVar 11) (evCons (evVar 4) (evNil)))))) (evB (ev2 pNeD (evVar 5) (evVar 2))))) (evSeq (evRet (evCon (.bl false)))
 (evNx))
 (evNx))
 (evSeq (evEx (evMut mClr 10 evNil))
 (evSeq (evEx (evMut mClr 11 evNil))
 (evSeq (F9_12 s)
 (evNx))))))
def F9_14 (s : Nat → Fd) : EvS :=
 evFor [6, 10, 11, 12, 10] 100000 (evR1 (evCons (evCon (.int 2)) (evNil))) (stNm 6)
 (L9_13 s)
def b_9 (s : Nat → Fd) : EvS :=
 evSeq (evAsg (evCall 2 (s 5) (evCons (evCall 2 (s 3) (evCons (evVar 0) (evCons (evCon (.int 0)) (evNil)))) (evCons (evCon (.int 6)) (evNil)))) (stNm 1))
 (evSeq (evAsg (C9_1 s) (stNm 2))
 (evSeq (evAsg (evLst (evNil)) (stNm 3))
 (evSeq (F9_3 s)
 (evSeq (evAsg (evLst (evNil)) (stNm 4))
 (evSeq (F9_7 s)
 (evSeq (evAsg (evN (f1 pList) (evCons (evVar 2) (evNil))) (stNm 5))
 (evSeq (F9_14 s)
 (evSeq (evRet (ev2 pEqD (evVar 5) (evVar 2)))
 (evNx)))))))))
def d_9 : Df := ⟨"law", "law", st_9, ["_law_script", "_law_pool_here", "_law_rules", "_law_heads", "_law_words", "_law_handed", "_law_again", "_law_head", "_law_parts", "_law_part", "_law_found", "_law_others", "_law_name", "_law_cell", "_law_k"], ["_law_script"], [1, 2, 3, 7, 8, 4, 7, 8, 9, 5, 6, 10, 11, 12, 10], b_9⟩
def defs : List Df := [d_0, d_1, d_2, d_3, d_4, d_5, d_6, d_7, d_8, d_9]
def blt : List Str := ["range", "len", "tuple", "all", "isinstance", "str", "list", "bool", "int"]
def con : List (Str × D) := []
theorem sc_0 : FnScope d_0.N d_0.ps (defScope d_0.st) := ⟨rfl, rfl, rfl, by decide +kernel, rfl, by decide +kernel, by decide +kernel⟩
theorem ok_0 : (fun s => seqS (cS 40 (cfOf defs blt con 100000 d_0 s)) (defBody d_0.st)) = fun s => some (d_0.body s, d_0.as) := by kernel_rfl
theorem sc_1 : FnScope d_1.N d_1.ps (defScope d_1.st) := ⟨rfl, rfl, rfl, by decide +kernel, rfl, by decide +kernel, by decide +kernel⟩
theorem ok_1 : (fun s => seqS (cS 40 (cfOf defs blt con 100000 d_1 s)) (defBody d_1.st)) = fun s => some (d_1.body s, d_1.as) := by kernel_rfl
theorem sc_2 : FnScope d_2.N d_2.ps (defScope d_2.st) := ⟨rfl, rfl, rfl, by decide +kernel, rfl, by decide +kernel, by decide +kernel⟩
theorem ok_2 : (fun s => seqS (cS 40 (cfOf defs blt con 100000 d_2 s)) (defBody d_2.st)) = fun s => some (d_2.body s, d_2.as) := by kernel_rfl
theorem sc_3 : FnScope d_3.N d_3.ps (defScope d_3.st) := ⟨rfl, rfl, rfl, by decide +kernel, rfl, by decide +kernel, by decide +kernel⟩
theorem ok_3 : (fun s => seqS (cS 40 (cfOf defs blt con 100000 d_3 s)) (defBody d_3.st)) = fun s => some (d_3.body s, d_3.as) := by kernel_rfl
theorem sc_4 : FnScope d_4.N d_4.ps (defScope d_4.st) := ⟨rfl, rfl, rfl, by decide +kernel, rfl, by decide +kernel, by decide +kernel⟩
theorem ok_4 : (fun s => seqS (cS 40 (cfOf defs blt con 100000 d_4 s)) (defBody d_4.st)) = fun s => some (d_4.body s, d_4.as) := by kernel_rfl
theorem sc_5 : FnScope d_5.N d_5.ps (defScope d_5.st) := ⟨rfl, rfl, rfl, by decide +kernel, rfl, by decide +kernel, by decide +kernel⟩
theorem ok_5 : (fun s => seqS (cS 40 (cfOf defs blt con 100000 d_5 s)) (defBody d_5.st)) = fun s => some (d_5.body s, d_5.as) := by kernel_rfl
theorem sc_6 : FnScope d_6.N d_6.ps (defScope d_6.st) := ⟨rfl, rfl, rfl, by decide +kernel, rfl, by decide +kernel, by decide +kernel⟩
theorem ok_6 : (fun s => seqS (cS 40 (cfOf defs blt con 100000 d_6 s)) (defBody d_6.st)) = fun s => some (d_6.body s, d_6.as) := by kernel_rfl
theorem sc_7 : FnScope d_7.N d_7.ps (defScope d_7.st) := ⟨rfl, rfl, rfl, by decide +kernel, rfl, by decide +kernel, by decide +kernel⟩
theorem ok_7 : (fun s => seqS (cS 40 (cfOf defs blt con 100000 d_7 s)) (defBody d_7.st)) = fun s => some (d_7.body s, d_7.as) := by kernel_rfl
theorem sc_8 : FnScope d_8.N d_8.ps (defScope d_8.st) := ⟨rfl, rfl, rfl, by decide +kernel, rfl, by decide +kernel, by decide +kernel⟩
theorem ok_8 : (fun s => seqS (cS 40 (cfOf defs blt con 100000 d_8 s)) (defBody d_8.st)) = fun s => some (d_8.body s, d_8.as) := by kernel_rfl
theorem sc_9 : FnScope d_9.N d_9.ps (defScope d_9.st) := ⟨rfl, rfl, rfl, by decide +kernel, rfl, by decide +kernel, by decide +kernel⟩
theorem ok_9 : (fun s => seqS (cS 40 (cfOf defs blt con 100000 d_9 s)) (defBody d_9.st)) = fun s => some (d_9.body s, d_9.as) := by kernel_rfl
theorem e_0 (n : Nat) (x : List D) : sem defs (n + 1) 0 x = fnD 1 4 [1, 2, 3] (b_0 (sem defs n)) x := rfl
theorem e_1 (n : Nat) (x : List D) : sem defs (n + 1) 1 x = fnD 1 6 [1, 2, 3, 4, 5] (b_1 (sem defs n)) x := rfl
theorem e_2 (n : Nat) (x : List D) : sem defs (n + 1) 2 x = fnD 2 3 [] (b_2 (sem defs n)) x := rfl
theorem e_3 (n : Nat) (x : List D) : sem defs (n + 1) 3 x = fnD 2 2 [] (b_3 (sem defs n)) x := rfl
theorem e_4 (n : Nat) (x : List D) : sem defs (n + 1) 4 x = fnD 2 5 [2, 3, 4, 3] (b_4 (sem defs n)) x := rfl
theorem e_5 (n : Nat) (x : List D) : sem defs (n + 1) 5 x = fnD 2 12 [2, 3, 4, 5, 6, 7, 8, 9, 10] (b_5 (sem defs n)) x := rfl
theorem e_6 (n : Nat) (x : List D) : sem defs (n + 1) 6 x = fnD 2 5 [2, 3, 0] (b_6 (sem defs n)) x := rfl
theorem e_7 (n : Nat) (x : List D) : sem defs (n + 1) 7 x = fnD 2 3 [] (b_7 (sem defs n)) x := rfl
theorem e_8 (n : Nat) (x : List D) : sem defs (n + 1) 8 x = fnD 2 3 [] (b_8 (sem defs n)) x := rfl
theorem e_9 (n : Nat) (x : List D) : sem defs (n + 1) 9 x = fnD 1 15 [1, 2, 3, 7, 8, 4, 7, 8, 9, 5, 6, 10, 11, 12, 10] (b_9 (sem defs n)) x := rfl
theorem goods : ∀ d, d ∈ defs → Good1 defs blt con 100000 d := by
  intro d hd
  simp only [defs, List.mem_cons, List.not_mem_nil, or_false] at hd
  rcases hd with rfl | rfl | rfl | rfl | rfl | rfl | rfl | rfl | rfl | rfl
  · exact ⟨sc_0, by decide, ok_0⟩
  · exact ⟨sc_1, by decide, ok_1⟩
  · exact ⟨sc_2, by decide, ok_2⟩
  · exact ⟨sc_3, by decide, ok_3⟩
  · exact ⟨sc_4, by decide, ok_4⟩
  · exact ⟨sc_5, by decide, ok_5⟩
  · exact ⟨sc_6, by decide, ok_6⟩
  · exact ⟨sc_7, by decide, ok_7⟩
  · exact ⟨sc_8, by decide, ok_8⟩
  · exact ⟨sc_9, by decide, ok_9⟩

end Lw
namespace Lw
open PySem PySem.Spec L2 DE
local macro_rules | `(tactic| walk_at "ev") => `(tactic| simp only [fnD, evSeq, evAsg, evRet, evRetN, evIf, evB, evEx, evVar, evMv, evCon, ev1, ev2, evN, evIsi, evCons, evNil, evTup, evLst, evDis, evCall, evMut, evMs, evAnd, evOr, evNot, evAndT, evOrT, evNotT, evIte, evChain, evSl0, evSlB, evYes, evNx, evBk, evCt, evSet,
  prim, look, looks, tk, tks, pull, pulls, push, pushes, asB, asI, asK, isS, f1, f2, slL, slH, slB, stNm, stTup, stCons, stNil, turn, frzAt, argsOf, D.sc, scV, scal, pLen, pAdd, pSub, pDiv, pMod, pLt, pLe, pGt, pGe, pNeg, pAbs, pMin, pMax, pEqD, pNeD, pEq, pIdx, seqOf, keyOf, pSl, pList, pTuple, mApp, mExt, mPop, mClr, mIns, isiD, tyD,
  frz, frzL, frzK, isF, isFL, kidsOf, List.map_cons, List.map_nil, List.length_cons, List.length_nil, List.getElem?_cons_zero, List.getElem?_cons_succ, List.getElem?_nil, List.set_cons_zero, List.set_cons_succ, List.replicate, List.append_eq, List.nil_append, List.cons_append, List.contains_nil, List.contains_cons, Bool.or_false, Bool.false_or, Bool.or_true, Bool.true_or, Bool.and_true, Bool.true_and, Bool.and_false, Bool.false_and, Bool.not_true, Bool.not_false,
  if_true, if_false, ite_true, ite_false, reduceIte, reduceCtorEq, Option.map_some, Option.map_none, Nat.reduceAdd, Nat.reduceSub, Nat.reduceLT, Nat.reduceEqDiff, Nat.reduceLeDiff, Nat.zero_add, Nat.lt_add_left_iff_pos, Nat.reduceBEq, Bool.false_eq_true, beq_self_eq_true, lim, cMul, keyOf, Int.reduceLT, Int.reduceLE, Int.reduceNeg, Int.reduceAdd, Int.reduceSub, Int.reduceToNat, Int.reducePow, Int.reduceMul, Int.reduceDiv, Int.reduceMod, Int.reduceEq, evR1, evR2, evFor, evSq, evLc, Nat.reducePow, Nat.reduceMul, and_self, and_true, true_and, and_false, false_and, or_true, true_or, or_false, false_or, not_true, not_false_eq_true, decide_true, decide_false, at0, at1, at2, at3, at4, at5, Option.isSome_some, Option.isSome_none, V.int.injEq, V.str.injEq, V.bl.injEq])
theorem cutD_ij {α : Type} {f : α → D} {l : List α} {i j : Nat} (h1 : i ≤ j) (h2 : j ≤ l.length) : cutD (l.map f) (some (i : Int)) (some (j : Int)) = ((l.drop i).take (j - i)).map f := by
  unfold cutD
  rw [HT.sIx_nat, HT.sIx_nat, List.length_map, Nat.min_eq_left h2, Nat.min_eq_left (by omega), List.map_take, List.map_drop]
theorem cutD_i {α : Type} {f : α → D} {l : List α} {i : Nat} (h : i ≤ l.length) : cutD (l.map f) (some (i : Int)) none = (l.drop i).map f := by
  unfold cutD
  rw [HT.sIx_nat, HT.sIx_none, List.length_map, Nat.min_eq_left h, List.map_drop, List.take_of_length_le]
  rw [List.length_drop, List.length_map]
  exact Nat.le_refl _
theorem join_ok {xs : List Str} : (∀ x, x ∈ xs → okS 1 x) → okS xs.length (Txt.join "" xs) := by
  intro h
  rw [show Txt.join "" xs = Str.join "" xs from StrLaws.glued_eq_join _ _]
  induction xs with
  | nil => exact ⟨Nat.le_refl _, by decide +kernel⟩
  | cons x xs ih =>
    cases xs with
    | nil => exact h x (List.mem_cons_self ..)
    | cons y r =>
      have h1 := h x (List.mem_cons_self ..)
      have h2 := ih fun z hz => h z (List.mem_cons_of_mem _ hz)
      have h3 : okS 0 ("" : Str) := ⟨by decide, by decide +kernel⟩
      have := okS_append (okS_append h1 h3) h2
      exact this.mono (by simp only [List.length_cons]; omega)
theorem atI_mem {α : Type} {l : List α} {i : Int} (h0 : 0 ≤ i) (h1 : i < (l.length : Int)) : ∃ c, c ∈ l ∧ atI l i = some c := by
  have h : i.toNat < l.length := by omega
  exact ⟨l[i.toNat], List.getElem_mem h, by rw [atI_nn h0, List.getElem?_eq_getElem h]⟩
/-! a stream of numbers -/
def mm : Int := 4294967311
def nextN (a k : Int) : Int := (a * a + 69621 * a + k) % 4294967311
theorem stream_t (s : Nat → Fd) (c m a k : Int) (l : List Int) (hl : l.length < 1000000) (h0 : -18446744073709551616 < a) (h1 : a < 18446744073709551616) :
    L4_0 s [some (.int c), some (.int m), some (.lst true (l.map D.int)), some (.int a), some (.int k)] = some (.nx [some (.int c), some (.int m), some (.lst true ((l ++ [nextN a k]).map D.int)), some (.int (nextN a k)), some (.int k)]) := by
  unfold L4_0
  rw [List.map_append]
  have e : (a * a + 69621 * a + k) % 4294967311 = nextN a k := rfl
  have hf := frzL_ints l
  repeat (first | (walk_at "ev") | (simp only [h0, h1, hf, e, pMul, List.length_map, hl]))
theorem stream_loop (s : Nat → Fd) (c : Int) (m : Int) (hm0 : 0 ≤ m) (hm : m ≤ 1000) : ∃ (l : List Int) (a : Int) (k : Option D), forIt (stNm 4) (L4_0 s) (rngD 0 (m + 1).toNat) [some (.int c), some (.int m), some (.lst true []), some (.int (c % 4294967311 + 48271)), none] = some (.nx [some (.int c), some (.int m), some (.lst true (l.map D.int)), some (.int a), k]) ∧ l.length = m.toNat + 1 ∧ ∀ x, x ∈ l → 0 ≤ x ∧ x < 4294967311 := by
  unfold rngD
  generalize hN : (m + 1).toNat = N
  have hN' : N = m.toNat + 1 := by omega
  clear hN
  obtain ⟨E', h1, l, a, k, h2, h3, h4, h5, h6⟩ := forIt_inv (st := stNm 4) (b := L4_0 s) (enc := fun (k : Nat) => D.int (0 + (k : Int))) (items := List.range N) (fun pre E => ∃ (l : List Int) (a : Int) (k : Option D), E = [some (.int c), some (.int m), some (.lst true (l.map D.int)), some (.int a), k] ∧ l.length = pre.length ∧ 0 ≤ a ∧ a < 18446744073709551616 ∧ ∀ x, x ∈ l → 0 ≤ x ∧ x < 4294967311) (fun pre x post E e hI => by
      obtain ⟨l, a, k, rfl, h1, h2, h3, h4⟩ := hI
      have hlen := congrArg List.length e
      rw [List.length_range, List.length_append, List.length_cons] at hlen
      have hr : 0 ≤ nextN a (0 + (x : Int)) ∧ nextN a (0 + (x : Int)) < 4294967311 := by unfold nextN; omega
      refine ⟨_, _, rfl, .inl (stream_t s c m a (0 + (x : Int)) l (by omega) (by omega) h3), ?_⟩
      refine ⟨_, _, _, rfl, by rw [List.length_append, List.length_append, h1]; rfl, hr.1, by omega, ?_⟩
      intro y hy
      rcases List.mem_append.mp hy with hy | hy
      · exact h4 y hy
      · rw [List.mem_singleton.mp hy]; exact hr) (E := [some (.int c), some (.int m), some (.lst true []), some (.int (c % 4294967311 + 48271)), none]) ⟨[], _, _, rfl, rfl, by omega, by omega, fun _ z => by cases z⟩
  rw [List.length_range] at h3
  exact ⟨l, a, k, by rw [h1, h2], by omega, h6⟩
theorem stream_for (s : Nat → Fd) (c : Int) (m : Int) (hm0 : 0 ≤ m) (hm : m ≤ 1000) : ∃ (l : List Int) (a : Int) (k : Option D), F4_1 s [some (.int c), some (.int m), some (.lst true []), some (.int (c % 4294967311 + 48271)), none] = some (.nx [some (.int c), some (.int m), some (.lst true (l.map D.int)), some (.int a), k]) ∧ l.length = m.toNat + 1 ∧ ∀ x, x ∈ l → 0 ≤ x ∧ x < 4294967311 := by
  obtain ⟨l, a, k, h1, h3, h5⟩ := stream_loop s c m hm0 hm
  refine ⟨l, a, k, ?_, h3, h5⟩
  have hb1 : (-(m + 1)).toNat ≤ 1000000 := by omega
  have hb2 : (m + 1).toNat ≤ 1000000 := by omega
  unfold F4_1
  repeat (first | (walk_at "ev") | (simp only [evFor, evR1, hb1, hb2, h1]))
theorem stream (n : Nat) (c : Int) (m : Int) (hm0 : 0 ≤ m) (hm : m ≤ 1000) : ∃ l : List Int, l.length = m.toNat ∧ (∀ x, x ∈ l → 0 ≤ x ∧ x < 4294967311) ∧ sem defs (n + 1) 4 [.int c, .int m] = some (.lst true (l.map D.int), [.int c, .int m]) := by
  obtain ⟨l, a, k, h1, h3, h5⟩ := stream_for (sem defs n) c m hm0 hm
  refine ⟨l.drop 1, by rw [List.length_drop]; omega, fun x hx => h5 x (List.mem_of_mem_drop hx), ?_⟩
  rw [e_4]
  unfold b_4
  generalize F4_1 (sem defs n) = F at h1
  have hf := frzL_ints l
  have hcut := cutD_i (f := D.int) (l := l) (i := 1) (by omega)
  have hcut : cutD (l.map D.int) (some 1) none = (l.drop 1).map D.int := hcut
  repeat (first | (walk_at "ev") | (simp only [h1, hf, hcut]))
end Lw

namespace Lw
open PySem PySem.Spec L2 DE
local macro_rules | `(tactic| walk_at "ev") => `(tactic| simp only [fnD, evSeq, evAsg, evRet, evRetN, evIf, evB, evEx, evVar, evMv, evCon, ev1, ev2, evN, evIsi, evCons, evNil, evTup, evLst, evDis, evCall, evMut, evMs, evAnd, evOr, evNot, evAndT, evOrT, evNotT, evIte, evChain, evSl0, evSlB, evYes, evNx, evBk, evCt, evSet,
  prim, look, looks, tk, tks, pull, pulls, push, pushes, asB, asI, asK, isS, f1, f2, slL, slH, slB, stNm, stTup, stCons, stNil, turn, frzAt, argsOf, D.sc, scV, scal, pLen, pAdd, pSub, pDiv, pMod, pLt, pLe, pGt, pGe, pNeg, pAbs, pMin, pMax, pEqD, pNeD, pEq, pIdx, seqOf, keyOf, pSl, pList, pTuple, mApp, mExt, mPop, mClr, mIns, isiD, tyD,
  frz, frzL, frzK, isF, isFL, kidsOf, List.map_cons, List.map_nil, List.length_cons, List.length_nil, List.getElem?_cons_zero, List.getElem?_cons_succ, List.getElem?_nil, List.set_cons_zero, List.set_cons_succ, List.replicate, List.append_eq, List.nil_append, List.cons_append, List.contains_nil, List.contains_cons, Bool.or_false, Bool.false_or, Bool.or_true, Bool.true_or, Bool.and_true, Bool.true_and, Bool.and_false, Bool.false_and, Bool.not_true, Bool.not_false,
  if_true, if_false, ite_true, ite_false, reduceIte, reduceCtorEq, Option.map_some, Option.map_none, Nat.reduceAdd, Nat.reduceSub, Nat.reduceLT, Nat.reduceEqDiff, Nat.reduceLeDiff, Nat.zero_add, Nat.lt_add_left_iff_pos, Nat.reduceBEq, Bool.false_eq_true, beq_self_eq_true, lim, cMul, keyOf, Int.reduceLT, Int.reduceLE, Int.reduceNeg, Int.reduceAdd, Int.reduceSub, Int.reduceToNat, Int.reducePow, Int.reduceMul, Int.reduceDiv, Int.reduceMod, Int.reduceEq, evR1, evR2, evFor, evSq, evLc, Nat.reducePow, Nat.reduceMul, and_self, and_true, true_and, and_false, false_and, or_true, true_or, or_false, false_or, not_true, not_false_eq_true, decide_true, decide_false, at0, at1, at2, at3, at4, at5, Option.isSome_some, Option.isSome_none, V.int.injEq, V.str.injEq, V.bl.injEq])
/-! a pool of texts -/
theorem pool_c (s : Nat → Fd) (c m size at' : Int) (S : Str) (hS : S.cps.toList.length = 93) (okS1 : okS 93 S) (dr : List Int) (hs : size ≤ 14) (hd : dr.length = 16) : ∃ xs : List Str, xs.length ≤ 16 ∧ (∀ x, x ∈ xs → okS 1 x) ∧
    C5_1 s [some (.int c), some (.int m), some (.str S), some (.lst true (dr.map D.int)), some (.int size), some (.int at'), none, none, none, none, none, none] = some (.temp (.lst true (xs.map D.str)), [some (.int c), some (.int m), some (.str S), some (.lst true (dr.map D.int)), some (.int size), some (.int at'), none, none, none, none, none, none]) := by
  obtain ⟨cs, hc, hl, _⟩ := cutD_map (f := D.int) dr (some 2) (some (2 + size))
  have hSl : S.length ≤ 1000000 := Nat.le_trans okS1.1 (by decide)
  obtain ⟨xs, h1, h2, h3⟩ := lcIt_ex (own := [11]) (st := stNm 11) (elt := M5_0 s) (enc := D.int) (enc2 := D.str) (E := [some (.int c), some (.int m), some (.str S), some (.lst true (dr.map D.int)), some (.int size), some (.int at'), none, none, none, none, none, none]) (okS 1) (items := cs) (acc := []) (fun d hd => by
    obtain ⟨ch, hch, ha⟩ := atI_mem (l := S.cps.toList) (i := d % 93) (by omega) (by omega)
    refine ⟨⟨#[ch]⟩, _, .temp (.str ⟨#[ch]⟩), [some (.int c), some (.int m), some (.str S), some (.lst true (dr.map D.int)), some (.int size), some (.int at'), none, none, none, none, none, some (.int d)], _, okS_one okS1 hch, rfl, ?_, rfl, ?_⟩
    · unfold M5_0
      repeat (first | (walk_at "ev") | (simp only [hSl, ha]))
    · rfl) (by rw [List.length_nil, hd] at *; unfold lim; omega)
  refine ⟨xs, by omega, h2, ?_⟩
  unfold C5_1
  have hf := frzL_ints dr
  have hf2 := frzL_ints cs
  generalize M5_0 s = M at h3
  have ho : ownOk [some (.int c), some (.int m), some (.str S), some (.lst true (dr.map D.int)), some (.int size), some (.int at'), none, none, none, none, none, none] [11] = true := rfl
  have hwi : wipeE [some (.int c), some (.int m), some (.str S), some (.lst true (dr.map D.int)), some (.int size), some (.int at'), none, none, none, none, none, none] [11] = [some (.int c), some (.int m), some (.str S), some (.lst true (dr.map D.int)), some (.int size), some (.int at'), none, none, none, none, none, none] := rfl
  have hun : unwE [some (.int c), some (.int m), some (.str S), some (.lst true (dr.map D.int)), some (.int size), some (.int at'), none, none, none, none, none, none] [11] [some (.int c), some (.int m), some (.str S), some (.lst true (dr.map D.int)), some (.int size), some (.int at'), none, none, none, none, none, none] = [some (.int c), some (.int m), some (.str S), some (.lst true (dr.map D.int)), some (.int size), some (.int at'), none, none, none, none, none, none] := rfl
  repeat (first | (walk_at "ev") | (simp only [evLc, evSq, hf, hf2, hc, ho, hwi, hun, h3]))
theorem pool_t (s : Nat → Fd) (c m size at' k : Int) (S base : Str) (hS : S.cps.toList.length = 93) (okS1 : okS 93 S) (okB : okS 16 base) (dr : List Int) (hd : dr.length = 16) (ha : 0 ≤ at') (hb : at' < 14) (hk : 0 ≤ k) (hk2 : k < 100) (ss : List Str) (hss : ss.length < 100) (w9 w10 : Option D) :
    ∃ (x : Str) (u9 u10 : Option D), okS 40 x ∧ L5_2 s [some (.int c), some (.int m), some (.str S), some (.lst true (dr.map D.int)), some (.int size), some (.int at'), some (.str base), some (.lst true (ss.map D.str)), some (.int k), w9, w10, none] = some (.nx [some (.int c), some (.int m), some (.str S), some (.lst true (dr.map D.int)), some (.int size), some (.int at'), some (.str base), some (.lst true ((ss ++ [x]).map D.str)), some (.int k), u9, u10, none]) := by
  have hSl : S.length ≤ 1000000 := Nat.le_trans okS1.1 (by decide)
  have hBl : base.length ≤ 1000000 := Nat.le_trans okB.1 (by decide)
  have e1 : atI (dr.map D.int) (2 + at') = some (.int (dr.getD (2 + at').toNat 0)) := at_map (f := D.int) (by omega) (by omega) 0
  have e2 : atI (dr.map D.int) 1 = some (.int (dr.getD 1 0)) := at_map (f := D.int) (by omega) (by omega) 0
  obtain ⟨ch, hch, e3⟩ := atI_mem (l := S.cps.toList) (i := (dr.getD (2 + at').toNat 0 + 5 * k) % 93) (by omega) (by omega)
  have k1 : okS 1 (⟨#[ch]⟩ : Str) := okS_one okS1 hch
  have k2 : okS 16 (cutS base none (some at')) := okS_cut okB _ _
  have k3 : okS 16 (cutS base (some (at' + 1)) (some (at' + 1 + dr.getD 1 0 / (k + 2) % 15))) := okS_cut okB _ _
  have k4 := okS_append k2 k1
  have k5 := okS_append k4 k3
  refine ⟨_, some (.str ⟨#[ch]⟩), some (.int (at' + 1 + dr.getD 1 0 / (k + 2) % 15)), k5.mono (by omega), ?_⟩
  generalize hA : cutS base none (some at') = A at *
  generalize hB : cutS base (some (at' + 1)) (some (at' + 1 + dr.getD 1 0 / (k + 2) % 15)) = B at *
  have l1 : A.length + (⟨#[ch]⟩ : Str).length ≤ 1000000 := Nat.le_trans (Nat.add_le_add k2.1 k1.1) (by decide)
  have l2 : (A ++ (⟨#[ch]⟩ : Str)).length + B.length ≤ 1000000 := Nat.le_trans (Nat.add_le_add k4.1 k3.1) (by decide)
  have q1 : 0 < k + 2 := by omega
  have q2 : k + 2 < 1073741824 := by omega
  have q3 : -18446744073709551616 < k := by omega
  have q4 : k < 18446744073709551616 := by omega
  have l3 : ss.length < 1000000 := by omega
  have hf := frzL_ints dr
  have hf2 := frzL_strs ss
  rw [List.map_append]
  unfold L5_2
  repeat (first | (walk_at "ev") | (simp only [hSl, hBl, e1, e2, e3, hA, hB, l1, l2, q1, q2, q3, q4, l3, hf, hf2, pMul, List.length_map]))
end Lw

namespace Lw
open PySem PySem.Spec L2 DE
local macro_rules | `(tactic| walk_at "ev") => `(tactic| simp only [fnD, evSeq, evAsg, evRet, evRetN, evIf, evB, evEx, evVar, evMv, evCon, ev1, ev2, evN, evIsi, evCons, evNil, evTup, evLst, evDis, evCall, evMut, evMs, evAnd, evOr, evNot, evAndT, evOrT, evNotT, evIte, evChain, evSl0, evSlB, evYes, evNx, evBk, evCt, evSet,
  prim, look, looks, tk, tks, pull, pulls, push, pushes, asB, asI, asK, isS, f1, f2, slL, slH, slB, stNm, stTup, stCons, stNil, turn, frzAt, argsOf, D.sc, scV, scal, pLen, pAdd, pSub, pDiv, pMod, pLt, pLe, pGt, pGe, pNeg, pAbs, pMin, pMax, pEqD, pNeD, pEq, pIdx, seqOf, keyOf, pSl, pList, pTuple, mApp, mExt, mPop, mClr, mIns, isiD, tyD,
  frz, frzL, frzK, isF, isFL, kidsOf, List.map_cons, List.map_nil, List.length_cons, List.length_nil, List.getElem?_cons_zero, List.getElem?_cons_succ, List.getElem?_nil, List.set_cons_zero, List.set_cons_succ, List.replicate, List.append_eq, List.nil_append, List.cons_append, List.contains_nil, List.contains_cons, Bool.or_false, Bool.false_or, Bool.or_true, Bool.true_or, Bool.and_true, Bool.true_and, Bool.and_false, Bool.false_and, Bool.not_true, Bool.not_false,
  if_true, if_false, ite_true, ite_false, reduceIte, reduceCtorEq, Option.map_some, Option.map_none, Nat.reduceAdd, Nat.reduceSub, Nat.reduceLT, Nat.reduceEqDiff, Nat.reduceLeDiff, Nat.zero_add, Nat.lt_add_left_iff_pos, Nat.reduceBEq, Bool.false_eq_true, beq_self_eq_true, lim, cMul, keyOf, Int.reduceLT, Int.reduceLE, Int.reduceNeg, Int.reduceAdd, Int.reduceSub, Int.reduceToNat, Int.reducePow, Int.reduceMul, Int.reduceDiv, Int.reduceMod, Int.reduceEq, evR1, evR2, evFor, evSq, evLc, Nat.reducePow, Nat.reduceMul, and_self, and_true, true_and, and_false, false_and, or_true, true_or, or_false, false_or, not_true, not_false_eq_true, decide_true, decide_false, at0, at1, at2, at3, at4, at5, Option.isSome_some, Option.isSome_none, V.int.injEq, V.str.injEq, V.bl.injEq])

theorem pool_for (s : Nat → Fd) (c size at' : Int) (S base : Str) (hS : S.cps.toList.length = 93) (okS1 : okS 93 S) (okB : okS 16 base) (dr : List Int) (hd : dr.length = 16) (ha : 0 ≤ at') (hb : at' < 14) :
    ∃ (ss : List Str) (u8 u9 u10 : Option D), ss.length = 6 ∧ (∀ x, x ∈ ss → okS 40 x) ∧ F5_3 s [some (.int c), some (.int 6), some (.str S), some (.lst true (dr.map D.int)), some (.int size), some (.int at'), some (.str base), some (.lst true []), none, none, none, none] = some (.nx [some (.int c), some (.int 6), some (.str S), some (.lst true (dr.map D.int)), some (.int size), some (.int at'), some (.str base), some (.lst true (ss.map D.str)), u8, u9, u10, none]) := by
  obtain ⟨E', h1, ss, u8, u9, u10, h2, h3, h4⟩ := forIt_inv (st := stNm 8) (b := L5_2 s) (enc := fun (k : Nat) => D.int (0 + (k : Int))) (items := List.range 6) (fun pre E => ∃ (ss : List Str) (u8 u9 u10 : Option D), E = [some (.int c), some (.int 6), some (.str S), some (.lst true (dr.map D.int)), some (.int size), some (.int at'), some (.str base), some (.lst true (ss.map D.str)), u8, u9, u10, none] ∧ ss.length = pre.length ∧ (∀ x, x ∈ ss → okS 40 x)) (fun pre x post E e hI => by
    obtain ⟨ss, u8, u9, u10, rfl, h1, h2⟩ := hI
    have hlen := congrArg List.length e
    rw [List.length_range, List.length_append, List.length_cons] at hlen
    have hx : x < 6 := List.mem_range.mp (e ▸ List.mem_append_right _ (List.mem_cons_self ..))
    obtain ⟨z, v9, v10, hz, ht⟩ := pool_t s c 6 size at' (0 + (x : Int)) S base hS okS1 okB dr hd ha hb (by omega) (by omega) ss (by omega) u9 u10
    refine ⟨_, _, rfl, .inl ht, ss ++ [z], _, _, _, rfl, by rw [List.length_append, List.length_append, h1]; rfl, ?_⟩
    intro y hy
    rcases List.mem_append.mp hy with hy | hy
    · exact h2 y hy
    · rw [List.mem_singleton.mp hy]; exact hz) (E := [some (.int c), some (.int 6), some (.str S), some (.lst true (dr.map D.int)), some (.int size), some (.int at'), some (.str base), some (.lst true []), none, none, none, none]) ⟨[], _, _, _, rfl, rfl, fun _ z => by cases z⟩
  refine ⟨ss, u8, u9, u10, by rw [h3]; rfl, h4, ?_⟩
  have h1 : forIt (stNm 8) (L5_2 s) (rngD 0 6) _ = _ := h1
  rw [h2] at h1
  have z6 : (6 : Int).toNat = 6 := rfl
  unfold F5_3
  generalize L5_2 s = L at h1
  repeat (first | (walk_at "ev") | (simp only [evFor, evR1, h1, z6]))
def sg : Str := "!\"#$&'()*+,-./0123456789:;<=>?@ABCDEFGHIJKLMNOPQRSTUVWXYZ[\\]^_`abcdefghijklmnopqrstuvwxyz{|}~"
theorem sg_len : sg.cps.toList.length = 93 := by decide +kernel
theorem sg_ok : okS 93 sg := ⟨by decide +kernel, by decide +kernel⟩
theorem sum_ones : ∀ {xs : List Str}, (∀ x, x ∈ xs → okS 1 x) → (xs.map Str.length).sum ≤ xs.length := by
  intro xs
  induction xs with
  | nil => intro _; exact Nat.le_refl _
  | cons x xs ih =>
    intro h
    have h1 := (h x (List.mem_cons_self ..)).1
    have h2 := ih fun z hz => h z (List.mem_cons_of_mem _ hz)
    simp only [List.map_cons, List.sum_cons, List.length_cons]
    omega
theorem join_d {xs : List Str} (h : ∀ x, x ∈ xs → okS 1 x) (hl : xs.length ≤ 1000) : pJoin (.str "") (.lst true (xs.map D.str)) = some (.str (Txt.join "" xs)) := by
  show (match sts (xs.map D.str) with | some ys => if (ys.map Str.length).sum + ys.length * (Str.ofString "").length ≤ 16777216 then some (D.str (Txt.join "" ys)) else none | none => none) = _
  rw [sts_strs]
  have h1 := sum_ones h
  have h2 : (Str.ofString "").length = 0 := by decide +kernel
  simp only [h2]
  rw [if_pos (by omega)]
theorem pool (n : Nat) (c : Int) : ∃ ss : List Str, ss.length = 6 ∧ (∀ x, x ∈ ss → okS 40 x) ∧ sem defs (n + 2) 5 [.int c, .int 6] = some (.lst true (ss.map D.str), [.int c, .int 6]) := by
  obtain ⟨dr, hd, hb, hs⟩ := stream n c 16 (by decide) (by decide)
  have hd : dr.length = 16 := hd
  have e0 : atI (dr.map D.int) 0 = some (.int (dr.getD 0 0)) := at_map (f := D.int) (by omega) (by omega) 0
  have e1 : atI (dr.map D.int) 1 = some (.int (dr.getD 1 0)) := at_map (f := D.int) (by omega) (by omega) 0
  generalize hz : 1 + dr.getD 0 0 % 14 = size
  have hz1 : 0 < size := by omega
  have hz2 : size ≤ 14 := by omega
  generalize ha : dr.getD 1 0 % size = at'
  have ha1 : 0 ≤ at' := by rw [← ha]; exact Int.emod_nonneg _ (by omega)
  have ha2 : at' < size := by rw [← ha]; exact Int.emod_lt_of_pos _ hz1
  obtain ⟨xs, hx1, hx2, hx3⟩ := pool_c (sem defs (n + 1)) c 6 size at' sg sg_len sg_ok dr hz2 hd
  have hj := join_d hx2 (by omega)
  have okB : okS 16 (Txt.join "" xs) := (join_ok hx2).mono hx1
  obtain ⟨ss, u8, u9, u10, h1, h2, h3⟩ := pool_for (sem defs (n + 1)) c size at' sg (Txt.join "" xs) sg_len sg_ok okB dr hd ha1 (by omega)
  refine ⟨ss, h1, h2, ?_⟩
  rw [e_5]
  unfold b_5
  have hS : (Str.ofString "!\"#$&'()*+,-./0123456789:;<=>?@ABCDEFGHIJKLMNOPQRSTUVWXYZ[\\]^_`abcdefghijklmnopqrstuvwxyz{|}~") = sg := rfl
  rw [hS]
  generalize F5_3 (sem defs (n + 1)) = F at h3
  generalize C5_1 (sem defs (n + 1)) = C at hx3
  generalize Txt.join "" xs = base at *
  generalize sg = S at *
  have hf := frzL_ints dr
  have hf2 := frzL_strs xs
  repeat (first | (walk_at "ev") | (simp only [hs, hf, hf2, e0, e1, hz, hz1, ha, hx3, hj, h3]))
end Lw

namespace Lw
open PySem PySem.Spec L2 DE
local macro_rules | `(tactic| walk_at "ev") => `(tactic| simp only [fnD, evSeq, evAsg, evRet, evRetN, evIf, evB, evEx, evVar, evMv, evCon, ev1, ev2, evN, evIsi, evCons, evNil, evTup, evLst, evDis, evCall, evMut, evMs, evAnd, evOr, evNot, evAndT, evOrT, evNotT, evIte, evChain, evSl0, evSlB, evYes, evNx, evBk, evCt, evSet,
  prim, look, looks, tk, tks, pull, pulls, push, pushes, asB, asI, asK, isS, f1, f2, slL, slH, slB, stNm, stTup, stCons, stNil, turn, frzAt, argsOf, D.sc, scV, scal, pLen, pAdd, pSub, pDiv, pMod, pLt, pLe, pGt, pGe, pNeg, pAbs, pMin, pMax, pEqD, pNeD, pEq, pIdx, seqOf, keyOf, pSl, pList, pTuple, mApp, mExt, mPop, mClr, mIns, isiD, tyD,
  frz, frzL, frzK, isF, isFL, kidsOf, List.map_cons, List.map_nil, List.length_cons, List.length_nil, List.getElem?_cons_zero, List.getElem?_cons_succ, List.getElem?_nil, List.set_cons_zero, List.set_cons_succ, List.replicate, List.append_eq, List.nil_append, List.cons_append, List.contains_nil, List.contains_cons, Bool.or_false, Bool.false_or, Bool.or_true, Bool.true_or, Bool.and_true, Bool.true_and, Bool.and_false, Bool.false_and, Bool.not_true, Bool.not_false,
  if_true, if_false, ite_true, ite_false, reduceIte, reduceCtorEq, Option.map_some, Option.map_none, Nat.reduceAdd, Nat.reduceSub, Nat.reduceLT, Nat.reduceEqDiff, Nat.reduceLeDiff, Nat.zero_add, Nat.lt_add_left_iff_pos, Nat.reduceBEq, Bool.false_eq_true, beq_self_eq_true, lim, cMul, keyOf, Int.reduceLT, Int.reduceLE, Int.reduceNeg, Int.reduceAdd, Int.reduceSub, Int.reduceToNat, Int.reducePow, Int.reduceMul, Int.reduceDiv, Int.reduceMod, Int.reduceEq, evR1, evR2, evFor, evSq, evLc, Nat.reducePow, Nat.reduceMul, and_self, and_true, true_and, and_false, false_and, or_true, true_or, or_false, false_or, not_true, not_false_eq_true, decide_true, decide_false, at0, at1, at2, at3, at4, at5, Option.isSome_some, Option.isSome_none, V.int.injEq, V.str.injEq, V.bl.injEq])
theorem mem_set_nn {l : List Int} {i : Nat} {v : Int} (h : ∀ x, x ∈ l → 0 ≤ x) (hv : 0 ≤ v) : ∀ x, x ∈ l.set i v → 0 ≤ x := fun x hx => (List.mem_or_eq_of_mem_set hx).elim (h x) fun e => e ▸ hv
theorem setM (l : List Int) (i : Nat) (v : Int) : (l.map D.int).set i (.int v) = (l.set i v).map D.int := List.map_set.symm
theorem rule_t (s : Nat → Fd) (c k : Int) (P : D) (dg : List Int) (hd : dg.length = 8) (h0 : ∀ x, x ∈ dg → 0 ≤ x) (hk : 0 ≤ k) (hk2 : k < 8) (w : Option D) : ∃ (c2 : Int) (dg2 : List Int), dg2.length = 8 ∧ (∀ x, x ∈ dg2 → 0 ≤ x) ∧
    L6_0 s [some (.int c), some P, some (.lst true (dg.map D.int)), some (.int k), w] = some (.nx [some (.int c2), some P, some (.lst true (dg2.map D.int)), some (.int k), w]) := by
  have hix : ixN 8 k = some k.toNat := by
    unfold ixN
    rw [if_pos hk, if_pos (by omega)]
  have hkt : k.toNat < 8 := by omega
  obtain ⟨v, hv, e⟩ := atI_mem (l := dg) (i := k) hk (by omega)
  have e : atI (dg.map D.int) k = some (.int v) := by
    rw [atI_nn hk] at e ⊢
    rw [List.getElem?_map, e]
    rfl
  have hv := h0 v hv
  by_cases h : 0 < c
  · refine ⟨(c - 1) / 16, (dg.set k.toNat (v / 16 % 16)).set k.toNat ((c - 1) % 16), by rw [List.length_set, List.length_set, hd], mem_set_nn (mem_set_nn h0 (by omega)) (by omega), ?_⟩
    have hf := frzL_ints dg
    unfold L6_0
    repeat (first | (walk_at "ev") | (simp only [hf, e, h, List.length_map, List.length_set, hd, hix, hkt, setM]))
  · refine ⟨c, dg.set k.toNat (v / 16 % 16), by rw [List.length_set, hd], mem_set_nn h0 (by omega), ?_⟩
    have hf := frzL_ints dg
    unfold L6_0
    repeat (first | (walk_at "ev") | (simp only [hf, e, h, List.length_map, List.length_set, hd, hix, hkt, setM]))
theorem rule_for (s : Nat → Fd) (c : Int) (P : D) (dg : List Int) (hd : dg.length = 8) (h0 : ∀ x, x ∈ dg → 0 ≤ x) : ∃ (c2 : Int) (dg2 : List Int) (u : Option D), dg2.length = 8 ∧ (∀ x, x ∈ dg2 → 0 ≤ x) ∧
    F6_1 s [some (.int c), some P, some (.lst true (dg.map D.int)), none, none] = some (.nx [some (.int c2), some P, some (.lst true (dg2.map D.int)), u, none]) := by
  obtain ⟨E', h1, c2, dg2, u, h2, h3, h4⟩ := forIt_inv (st := stNm 3) (b := L6_0 s) (enc := fun (k : Nat) => D.int (0 + (k : Int))) (items := List.range 8) (fun pre E => ∃ (c2 : Int) (dg2 : List Int) (u : Option D), E = [some (.int c2), some P, some (.lst true (dg2.map D.int)), u, none] ∧ dg2.length = 8 ∧ (∀ x, x ∈ dg2 → 0 ≤ x)) (fun pre x post E e hI => by
    obtain ⟨c2, dg2, u, rfl, h1, h2⟩ := hI
    have hx : x < 8 := List.mem_range.mp (e ▸ List.mem_append_right _ (List.mem_cons_self ..))
    obtain ⟨c3, dg3, h3, h4, ht⟩ := rule_t s c2 (0 + (x : Int)) P dg2 h1 h2 (by omega) (by omega) none
    exact ⟨_, _, rfl, .inl ht, c3, dg3, _, rfl, h3, h4⟩) (E := [some (.int c), some P, some (.lst true (dg.map D.int)), none, none]) ⟨c, dg, none, rfl, hd, h0⟩
  refine ⟨c2, dg2, u, h3, h4, ?_⟩
  have h1 : forIt (stNm 3) (L6_0 s) (rngD 0 8) _ = _ := h1
  rw [h2] at h1
  have z8 : (8 : Int).toNat = 8 := rfl
  unfold F6_1
  generalize L6_0 s = L at h1
  repeat (first | (walk_at "ev") | (simp only [evFor, evR1, h1, z8]))
theorem at_strs {ss : List Str} {i : Int} (h0 : 0 ≤ i) (h1 : i < (ss.length : Int)) : ∃ x, x ∈ ss ∧ atI (ss.map D.str) i = some (.str x) := by
  obtain ⟨x, hx, e⟩ := atI_mem (l := ss) h0 h1
  refine ⟨x, hx, ?_⟩
  rw [atI_nn h0] at e ⊢
  rw [List.getElem?_map, e]
  rfl
theorem at_ints {ss : List Int} {i : Int} (h0 : 0 ≤ i) (h1 : i < (ss.length : Int)) : ∃ x, x ∈ ss ∧ atI (ss.map D.int) i = some (.int x) := by
  obtain ⟨x, hx, e⟩ := atI_mem (l := ss) h0 h1
  refine ⟨x, hx, ?_⟩
  rw [atI_nn h0] at e ⊢
  rw [List.getElem?_map, e]
  rfl
theorem rule_c (s : Nat → Fd) (c : Int) (ss : List Str) (hs : ss.length = 6) (dg : List Int) (hd : dg.length = 8) (u : Option D) : ∃ xs : List Str, xs.length ≤ 8 ∧ (∀ x, x ∈ xs → x ∈ ss) ∧
    C6_3 s [some (.int c), some (.lst true (ss.map D.str)), some (.lst true (dg.map D.int)), u, none] = some (.temp (.lst true (xs.map D.str)), [some (.int c), some (.lst true (ss.map D.str)), some (.lst true (dg.map D.int)), u, none]) := by
  obtain ⟨v, hv, e⟩ := at_ints (ss := dg) (i := 1) (by omega) (by omega)
  obtain ⟨cs, hc, hl, _⟩ := cutD_map (f := D.int) dg (some 2) (some (2 + v % 7))
  have hf := frzL_ints dg
  have hf1 := frzL_ints cs
  have hf2 := frzL_strs ss
  obtain ⟨xs, h1, h2, h3⟩ := lcIt_ex (own := [4]) (st := stNm 4) (elt := M6_2 s) (enc := D.int) (enc2 := D.str) (E := [some (.int c), some (.lst true (ss.map D.str)), some (.lst true (dg.map D.int)), u, none]) (· ∈ ss) (items := cs) (acc := []) (fun d hd => by
    obtain ⟨x, hx, ha⟩ := at_strs (ss := ss) (i := d % 6) (by omega) (by omega)
    refine ⟨x, _, .temp (.str x), [some (.int c), some (.lst true (ss.map D.str)), some (.lst true (dg.map D.int)), u, some (.int d)], _, hx, rfl, ?_, rfl, rfl⟩
    unfold M6_2
    repeat (first | (walk_at "ev") | (simp only [hf2, ha]))) (by rw [List.length_nil]; unfold lim; omega)
  refine ⟨xs, by omega, h2, ?_⟩
  unfold C6_3
  generalize M6_2 s = M at h3
  have ho : ownOk [some (.int c), some (.lst true (ss.map D.str)), some (.lst true (dg.map D.int)), u, none] [4] = true := rfl
  have hwi : wipeE [some (.int c), some (.lst true (ss.map D.str)), some (.lst true (dg.map D.int)), u, none] [4] = [some (.int c), some (.lst true (ss.map D.str)), some (.lst true (dg.map D.int)), u, none] := rfl
  have hun : unwE [some (.int c), some (.lst true (ss.map D.str)), some (.lst true (dg.map D.int)), u, none] [4] [some (.int c), some (.lst true (ss.map D.str)), some (.lst true (dg.map D.int)), u, none] = [some (.int c), some (.lst true (ss.map D.str)), some (.lst true (dg.map D.int)), u, none] := rfl
  repeat (first | (walk_at "ev") | (simp only [evLc, evSq, hf, hf1, e, hc, ho, hwi, hun, h3]))
abbrev Ru := Str × List Str
def encR (r : Ru) : D := .tup [.str r.1, .tup (r.2.map D.str)]
theorem encR_frz (r : Ru) : frz (encR r) = encR r := by
  show D.tup [.str r.1, .tup (frzL (r.2.map D.str))] = _
  rw [frzL_strs]
  rfl
theorem rule (n : Nat) (c : Int) (ss : List Str) (hs : ss.length = 6) : ∃ r : Ru, r.1 ∈ ss ∧ (∀ x, x ∈ r.2 → x ∈ ss) ∧ r.2.length ≤ 8 ∧ sem defs (n + 2) 6 [.int c, .lst true (ss.map D.str)] = some (encR r, [.int c, .lst true (ss.map D.str)]) := by
  obtain ⟨dr, hd, hb, hs1⟩ := stream n c 8 (by decide) (by decide)
  have hd : dr.length = 8 := hd
  obtain ⟨c2, dg, u, hd2, h0, h1⟩ := rule_for (sem defs (n + 1)) c (.lst true (ss.map D.str)) dr hd fun x hx => (hb x hx).1
  obtain ⟨v, hv, e⟩ := at_ints (ss := dg) (i := 0) (by omega) (by omega)
  obtain ⟨x, hx, e2⟩ := at_strs (ss := ss) (i := v % 6) (by omega) (by omega)
  obtain ⟨xs, hx1, hx2, hx3⟩ := rule_c (sem defs (n + 1)) c2 ss hs dg hd2 u
  refine ⟨(x, xs), hx, hx2, hx1, ?_⟩
  rw [e_6]
  unfold b_6 encR
  generalize F6_1 (sem defs (n + 1)) = F at h1
  generalize C6_3 (sem defs (n + 1)) = C at hx3
  have hf := frzL_ints dr
  have hf1 := frzL_ints dg
  have hf2 := frzL_strs ss
  have hf3 := frzL_strs xs
  repeat (first | (walk_at "ev") | (simp only [hs1, hf, hf1, hf2, hf3, h1, e, e2, hx3]))
end Lw

namespace Lw
open PySem PySem.Spec L2 DE
local macro_rules | `(tactic| walk_at "ev") => `(tactic| simp only [fnD, evSeq, evAsg, evRet, evRetN, evIf, evB, evEx, evVar, evMv, evCon, ev1, ev2, evN, evIsi, evCons, evNil, evTup, evLst, evDis, evCall, evMut, evMs, evAnd, evOr, evNot, evAndT, evOrT, evNotT, evIte, evChain, evSl0, evSlB, evYes, evNx, evBk, evCt, evSet,
  prim, look, looks, tk, tks, pull, pulls, push, pushes, asB, asI, asK, isS, f1, f2, slL, slH, slB, stNm, stTup, stCons, stNil, turn, frzAt, argsOf, D.sc, scV, scal, pLen, pAdd, pSub, pDiv, pMod, pLt, pLe, pGt, pGe, pNeg, pAbs, pMin, pMax, pEqD, pNeD, pEq, pIdx, seqOf, keyOf, pSl, pList, pTuple, mApp, mExt, mPop, mClr, mIns, isiD, tyD,
  frz, frzL, frzK, isF, isFL, kidsOf, List.map_cons, List.map_nil, List.length_cons, List.length_nil, List.getElem?_cons_zero, List.getElem?_cons_succ, List.getElem?_nil, List.set_cons_zero, List.set_cons_succ, List.replicate, List.append_eq, List.nil_append, List.cons_append, List.contains_nil, List.contains_cons, Bool.or_false, Bool.false_or, Bool.or_true, Bool.true_or, Bool.and_true, Bool.true_and, Bool.and_false, Bool.false_and, Bool.not_true, Bool.not_false,
  if_true, if_false, ite_true, ite_false, reduceIte, reduceCtorEq, Option.map_some, Option.map_none, Nat.reduceAdd, Nat.reduceSub, Nat.reduceLT, Nat.reduceEqDiff, Nat.reduceLeDiff, Nat.zero_add, Nat.lt_add_left_iff_pos, Nat.reduceBEq, Bool.false_eq_true, beq_self_eq_true, lim, cMul, keyOf, Int.reduceLT, Int.reduceLE, Int.reduceNeg, Int.reduceAdd, Int.reduceSub, Int.reduceToNat, Int.reducePow, Int.reduceMul, Int.reduceDiv, Int.reduceMod, Int.reduceEq, evR1, evR2, evFor, evSq, evLc, Nat.reducePow, Nat.reduceMul, and_self, and_true, true_and, and_false, false_and, or_true, true_or, or_false, false_or, not_true, not_false_eq_true, decide_true, decide_false, at0, at1, at2, at3, at4, at5, Option.isSome_some, Option.isSome_none, V.int.injEq, V.str.injEq, V.bl.injEq])
/-! heads and words -/
def stepH (hs : List Str) (r : Ru) : List Str := if r.1 ∈ hs then hs else hs ++ [r.1]
def headsOf (rs : List Ru) : List Str := rs.foldl stepH []
theorem headsOf_snoc (rs : List Ru) (r : Ru) : headsOf (rs ++ [r]) = stepH (headsOf rs) r := by unfold headsOf; rw [List.foldl_append]; rfl
theorem stepH_len (hs : List Str) (r : Ru) : (stepH hs r).length ≤ hs.length + 1 := by
  unfold stepH
  split
  · omega
  · rw [List.length_append]; exact Nat.le_refl _
theorem heads_len (rs : List Ru) : (headsOf rs).length ≤ rs.length := by
  have g : ∀ (rs : List Ru) (hs : List Str), (rs.foldl stepH hs).length ≤ hs.length + rs.length := by
    intro rs
    induction rs with
    | nil => intro hs; exact Nat.le_refl _
    | cons r rs ih =>
      intro hs
      have := ih (stepH hs r)
      have h2 := stepH_len hs r
      rw [List.foldl_cons, List.length_cons]
      omega
  have := g rs []
  rw [List.length_nil, Nat.zero_add] at this
  exact this
def stepW (hs ws : List Str) (p : Str) : List Str := if p ∈ hs then ws else if p ∈ ws then ws else ws ++ [p]
theorem stepW_len (hs ws : List Str) (p : Str) : (stepW hs ws p).length ≤ ws.length + 1 := by
  unfold stepW
  split
  · omega
  · split
    · omega
    · rw [List.length_append]; exact Nat.le_refl _
theorem stepW_lens (hs : List Str) : ∀ (ps ws : List Str), (ps.foldl (stepW hs) ws).length ≤ ws.length + ps.length := by
  intro ps
  induction ps with
  | nil => intro hs; exact Nat.le_refl _
  | cons r rs ih =>
    intro ws
    have := ih (stepW hs ws r)
    have h2 := stepW_len hs ws r
    rw [List.foldl_cons, List.length_cons]
    omega
def stepR (hs ws : List Str) (r : Ru) : List Str := r.2.foldl (stepW hs) ws
def wordsOf (hs : List Str) (rs : List Ru) : List Str := rs.foldl (stepR hs) []
theorem wordsOf_snoc (hs : List Str) (rs : List Ru) (r : Ru) : wordsOf hs (rs ++ [r]) = stepR hs (wordsOf hs rs) r := by unfold wordsOf; rw [List.foldl_append]; rfl
theorem words_len (hs : List Str) (rs : List Ru) (h : ∀ r, r ∈ rs → r.2.length ≤ 8) : (wordsOf hs rs).length ≤ 8 * rs.length := by
  have g : ∀ (rs : List Ru) (ws : List Str), (∀ r, r ∈ rs → r.2.length ≤ 8) → (rs.foldl (stepR hs) ws).length ≤ ws.length + 8 * rs.length := by
    intro rs
    induction rs with
    | nil => intro hs _; exact Nat.le_refl _
    | cons r rs ih =>
      intro ws h
      have := ih (stepR hs ws r) fun z hz => h z (List.mem_cons_of_mem _ hz)
      have h2 := stepW_lens hs r.2 ws
      have h3 := h r (List.mem_cons_self ..)
      have h4 : (stepR hs ws r).length = (r.2.foldl (stepW hs) ws).length := rfl
      rw [List.foldl_cons, List.length_cons]
      omega
  have := g rs [] h
  rw [List.length_nil, Nat.zero_add] at this
  exact this
theorem heads_t (s : Nat → Fd) (L v : D) (hs : List Str) (x : Str) (ps : List Str) (hl : hs.length < 1000000) : L0_0 s [some L, some (.lst true (hs.map D.str)), some (.str x), some v] = some (.nx [some L, some (.lst true ((stepH hs (x, ps)).map D.str)), some (.str x), some v]) := by
  have hf := frzL_strs hs
  by_cases h : x ∈ hs
  · have e : stepH hs (x, ps) = hs := if_pos h
    have hd : decide (x ∈ hs) = true := decide_eq_true h
    unfold L0_0
    repeat (first | (walk_at "ev") | (simp only [hf, pNinD, pIn_strs, hd, e]))
  · have e : stepH hs (x, ps) = hs ++ [x] := if_neg h
    have hd : decide (x ∈ hs) = false := decide_eq_false h
    rw [e, List.map_append]
    unfold L0_0
    repeat (first | (walk_at "ev") | (simp only [hf, pNinD, pIn_strs, hd, List.length_map, hl]))
theorem heads_for (s : Nat → Fd) (rs : List Ru) (hl : rs.length < 100000) : ∃ u v : Option D, F0_1 s [some (.lst true (rs.map encR)), some (.lst true []), none, none] = some (.nx [some (.lst true (rs.map encR)), some (.lst true ((headsOf rs).map D.str)), u, v]) := by
  obtain ⟨E', h1, u, v, h2⟩ := forOwn_inv (st := stTup (stCons (stNm 2) (stCons (stNm 3) (stNil)))) (b := L0_0 s) (enc := encR) encR_frz (items := rs) (i := 0) (N := 100000) (m := true) (fun pre E => ∃ u v : Option D, E = [some (.lst true (rs.map encR)), some (.lst true ((headsOf pre).map D.str)), u, v]) (fun pre E ⟨u, v, e⟩ => by rw [e]; rfl) hl (fun pre x post E e hI => by
    obtain ⟨u, v, rfl⟩ := hI
    have hl2 := heads_len pre
    have hl3 : pre.length ≤ rs.length := by rw [e, List.length_append]; omega
    exact ⟨_, _, rfl, .inl (heads_t s _ _ (headsOf pre) x.1 x.2 (by omega)), _, _, by rw [headsOf_snoc]⟩) (E := [some (.lst true (rs.map encR)), some (.lst true []), none, none]) ⟨none, none, rfl⟩
  refine ⟨u, v, ?_⟩
  rw [h2] at h1
  unfold F0_1
  generalize L0_0 s = L at h1
  have hf := frzL_of encR_frz rs
  repeat (first | (walk_at "ev") | (simp only [evFor, evSq, hf, h1]))
theorem heads (n : Nat) (rs : List Ru) (hl : rs.length < 100000) : sem defs (n + 1) 0 [.lst true (rs.map encR)] = some (.lst true ((headsOf rs).map D.str), [.lst true (rs.map encR)]) := by
  obtain ⟨u, v, h1⟩ := heads_for (sem defs n) rs hl
  rw [e_0]
  unfold b_0
  generalize F0_1 (sem defs n) = F at h1
  have hf := frzL_of encR_frz rs
  repeat (first | (walk_at "ev") | (simp only [hf, h1]))
theorem words_t (s : Nat → Fd) (L v u : D) (hs ws : List Str) (x : Str) (hl : ws.length < 1000000) : L1_0 s [some L, some (.lst true (hs.map D.str)), some (.lst true (ws.map D.str)), some u, some v, some (.str x)] = some (.nx [some L, some (.lst true (hs.map D.str)), some (.lst true ((stepW hs ws x).map D.str)), some u, some v, some (.str x)]) := by
  have hf := frzL_strs hs
  have hf2 := frzL_strs ws
  by_cases h : x ∈ hs
  · have e : stepW hs ws x = ws := if_pos h
    have hd : decide (x ∈ hs) = true := decide_eq_true h
    unfold L1_0
    repeat (first | (walk_at "ev") | (simp only [hf, hf2, pNinD, pIn_strs, hd, e]))
  · have hd : decide (x ∈ hs) = false := decide_eq_false h
    by_cases h2 : x ∈ ws
    · have e : stepW hs ws x = ws := by unfold stepW; rw [if_neg h, if_pos h2]
      have hd2 : decide (x ∈ ws) = true := decide_eq_true h2
      unfold L1_0
      repeat (first | (walk_at "ev") | (simp only [hf, hf2, pNinD, pIn_strs, hd, hd2, e]))
    · have e : stepW hs ws x = ws ++ [x] := by unfold stepW; rw [if_neg h, if_neg h2]
      have hd2 : decide (x ∈ ws) = false := decide_eq_false h2
      rw [e, List.map_append]
      unfold L1_0
      repeat (first | (walk_at "ev") | (simp only [hf, hf2, pNinD, pIn_strs, hd, hd2, List.length_map, hl]))
theorem words_in1 (s : Nat → Fd) (L u : D) (hs ws : List Str) (ps : List Str) (w : Option D) (hl : ws.length + ps.length < 1000000) : ∃ w2 : Option D, F1_1 s [some L, some (.lst true (hs.map D.str)), some (.lst true (ws.map D.str)), some u, some (.tup (ps.map D.str)), w] = some (.nx [some L, some (.lst true (hs.map D.str)), some (.lst true ((ps.foldl (stepW hs) ws).map D.str)), some u, some (.tup (ps.map D.str)), w2]) := by
  obtain ⟨E', h1, w2, h2⟩ := forIt_inv (st := stNm 5) (b := L1_0 s) (enc := D.str) (items := ps) (fun pre E => ∃ w : Option D, E = [some L, some (.lst true (hs.map D.str)), some (.lst true ((pre.foldl (stepW hs) ws).map D.str)), some u, some (.tup (ps.map D.str)), w]) (fun pre x post E e hI => by
    obtain ⟨w, rfl⟩ := hI
    have h2 := stepW_lens hs pre ws
    have h3 : pre.length ≤ ps.length := by rw [e, List.length_append]; omega
    exact ⟨_, _, rfl, .inl (words_t s L _ u hs _ x (by omega)), _, by rw [List.foldl_append]; rfl⟩) (E := [some L, some (.lst true (hs.map D.str)), some (.lst true (ws.map D.str)), some u, some (.tup (ps.map D.str)), w]) ⟨w, rfl⟩
  refine ⟨w2, ?_⟩
  rw [h2] at h1
  unfold F1_1
  generalize L1_0 s = L' at h1
  have hf := isFL_strs ps
  repeat (first | (walk_at "ev") | (simp only [evFor, evSq, hf, h1]))
theorem words_for (s : Nat → Fd) (hs : List Str) (rs : List Ru) (hl : rs.length < 100000) (h8 : ∀ r, r ∈ rs → r.2.length ≤ 8) : ∃ u v w : Option D, F1_3 s [some (.lst true (rs.map encR)), some (.lst true (hs.map D.str)), some (.lst true []), none, none, none] = some (.nx [some (.lst true (rs.map encR)), some (.lst true (hs.map D.str)), some (.lst true ((wordsOf hs rs).map D.str)), u, v, w]) := by
  obtain ⟨E', h1, u, v, w, h2⟩ := forOwn_inv (st := stTup (stCons (stNm 3) (stCons (stNm 4) (stNil)))) (b := L1_2 s) (enc := encR) encR_frz (items := rs) (i := 0) (N := 100000) (m := true) (fun pre E => ∃ u v w : Option D, E = [some (.lst true (rs.map encR)), some (.lst true (hs.map D.str)), some (.lst true ((wordsOf hs pre).map D.str)), u, v, w]) (fun pre E ⟨u, v, w, e⟩ => by rw [e]; rfl) hl (fun pre x post E e hI => by
    obtain ⟨u, v, w, rfl⟩ := hI
    have hl2 := words_len hs pre fun r hr => h8 r (e ▸ List.mem_append_left _ hr)
    have h9 := h8 x (e ▸ List.mem_append_right _ (List.mem_cons_self ..))
    have hl3 : pre.length ≤ rs.length := by rw [e, List.length_append]; omega
    obtain ⟨w2, ht⟩ := words_in1 s (.lst true (rs.map encR)) (.str x.1) hs (wordsOf hs pre) x.2 w (by omega)
    have hb : L1_2 s [some (.lst true (rs.map encR)), some (.lst true (hs.map D.str)), some (.lst true ((wordsOf hs pre).map D.str)), some (.str x.1), some (.tup (x.2.map D.str)), w] = some (.nx [some (.lst true (rs.map encR)), some (.lst true (hs.map D.str)), some (.lst true ((stepR hs (wordsOf hs pre) x).map D.str)), some (.str x.1), some (.tup (x.2.map D.str)), w2]) := by
      unfold L1_2 evSeq
      rw [ht]
      rfl
    exact ⟨_, _, rfl, .inl hb, _, _, w2, by rw [wordsOf_snoc]⟩) (E := [some (.lst true (rs.map encR)), some (.lst true (hs.map D.str)), some (.lst true []), none, none, none]) ⟨none, none, none, rfl⟩
  refine ⟨u, v, w, ?_⟩
  rw [h2] at h1
  unfold F1_3
  generalize L1_2 s = L at h1
  have hf := frzL_of encR_frz rs
  repeat (first | (walk_at "ev") | (simp only [evFor, evSq, hf, h1]))
theorem words (n : Nat) (rs : List Ru) (hl : rs.length < 100000) (h8 : ∀ r, r ∈ rs → r.2.length ≤ 8) : sem defs (n + 2) 1 [.lst true (rs.map encR)] = some (.lst true ((wordsOf (headsOf rs) rs).map D.str), [.lst true (rs.map encR)]) := by
  have h0 := heads n rs hl
  obtain ⟨u, v, w, h1⟩ := words_for (sem defs (n + 1)) (headsOf rs) rs hl h8
  rw [e_1]
  unfold b_1
  generalize F1_3 (sem defs (n + 1)) = F at h1
  have hf := frzL_of encR_frz rs
  have hf2 := frzL_strs (headsOf rs)
  repeat (first | (walk_at "ev") | (simp only [hf, hf2, h0, h1]))
end Lw

namespace Lw
open PySem PySem.Spec L2 DE
local macro_rules | `(tactic| walk_at "ev") => `(tactic| simp only [fnD, evSeq, evAsg, evRet, evRetN, evIf, evB, evEx, evVar, evMv, evCon, ev1, ev2, evN, evIsi, evCons, evNil, evTup, evLst, evDis, evCall, evMut, evMs, evAnd, evOr, evNot, evAndT, evOrT, evNotT, evIte, evChain, evSl0, evSlB, evYes, evNx, evBk, evCt, evSet,
  prim, look, looks, tk, tks, pull, pulls, push, pushes, asB, asI, asK, isS, f1, f2, slL, slH, slB, stNm, stTup, stCons, stNil, turn, frzAt, argsOf, D.sc, scV, scal, pLen, pAdd, pSub, pDiv, pMod, pLt, pLe, pGt, pGe, pNeg, pAbs, pMin, pMax, pEqD, pNeD, pEq, pIdx, seqOf, keyOf, pSl, pList, pTuple, mApp, mExt, mPop, mClr, mIns, isiD, tyD,
  frz, frzL, frzK, isF, isFL, kidsOf, List.map_cons, List.map_nil, List.length_cons, List.length_nil, List.getElem?_cons_zero, List.getElem?_cons_succ, List.getElem?_nil, List.set_cons_zero, List.set_cons_succ, List.replicate, List.append_eq, List.nil_append, List.cons_append, List.contains_nil, List.contains_cons, Bool.or_false, Bool.false_or, Bool.or_true, Bool.true_or, Bool.and_true, Bool.true_and, Bool.and_false, Bool.false_and, Bool.not_true, Bool.not_false,
  if_true, if_false, ite_true, ite_false, reduceIte, reduceCtorEq, Option.map_some, Option.map_none, Nat.reduceAdd, Nat.reduceSub, Nat.reduceLT, Nat.reduceEqDiff, Nat.reduceLeDiff, Nat.zero_add, Nat.lt_add_left_iff_pos, Nat.reduceBEq, Bool.false_eq_true, beq_self_eq_true, lim, cMul, keyOf, Int.reduceLT, Int.reduceLE, Int.reduceNeg, Int.reduceAdd, Int.reduceSub, Int.reduceToNat, Int.reducePow, Int.reduceMul, Int.reduceDiv, Int.reduceMod, Int.reduceEq, evR1, evR2, evFor, evSq, evLc, Nat.reducePow, Nat.reduceMul, and_self, and_true, true_and, and_false, false_and, or_true, true_or, or_false, false_or, not_true, not_false_eq_true, decide_true, decide_false, at0, at1, at2, at3, at4, at5, Option.isSome_some, Option.isSome_none, V.int.injEq, V.str.injEq, V.bl.injEq])
theorem lcOwn_all {α : Type} {own : List Nat} {st : St1} {elt : EvO} {enc f : α → D} (he : ∀ x, frz (enc x) = enc x) {E : En} {i N : Nat} {m : Bool} {items : List α} (hi : E[i]? = some (some (.lst m (items.map enc)))) (h : ∀ x, x ∈ items → ∃ E1 o E3 E4, st (enc x) E = some E1 ∧ elt E1 = some (o, E3) ∧ tks [o] E3 = some ([f x], E4) ∧ wipeE E4 own = E) (hN : items.length < N) (hl : items.length ≤ lim) :
    lcOwn i own st evYes elt N 0 [] E = some (items.map f, E) := by
  have gen : ∀ post pre N', items = pre ++ post → post.length < N' → lcOwn i own st evYes elt N' pre.length (pre.map f) E = some (items.map f, E) := by
    intro post
    induction post with
    | nil =>
      intro pre N' e hN'
      rw [List.append_nil] at e
      subst e
      cases N' with
      | zero => exact absurd hN' (Nat.not_lt_zero _)
      | succ n =>
        unfold lcOwn
        have hg : (items.map enc)[items.length]? = none := List.getElem?_eq_none (by rw [List.length_map]; exact Nat.le_refl _)
        cases m <;> simp only [hi, hg]
    | cons x post ih =>
      intro pre N' e hN'
      cases N' with
      | zero => exact absurd hN' (Nat.not_lt_zero _)
      | succ n =>
        obtain ⟨E1, o, E3, E4, h1, h2, h3, h4⟩ := h x (e ▸ List.mem_append_right _ (List.mem_cons_self ..))
        have h5 := ih (pre ++ [x]) n (by rw [e, List.append_assoc]; rfl) (by simpa using hN')
        rw [List.length_append, List.length_singleton, List.map_append] at h5
        have hlen := congrArg List.length e
        rw [List.length_append, List.length_cons] at hlen
        have hg : (items.map enc)[pre.length]? = some (enc x) := by
          rw [e, List.map_append, List.getElem?_append_right (by rw [List.length_map]; exact Nat.le_refl _), List.length_map, Nat.sub_self]
          rfl
        have hs := set_alike hi
        have h8 : tks [.temp (.lst true (pre.map f)), o] E3 = some ([D.lst true (pre.map f), f x], E4) := by
          show (match tks [o] E3 with | some (ds, E2) => some (D.lst true (pre.map f) :: ds, E2) | none => none) = _
          rw [h3]
        unfold lcOwn
        cases m <;>
        · simp only [hi, hg, frzL_of he, he, hs]
          unfold lcTurn
          simp only [h1, evYes, h2, h8]
          rw [if_pos (show (pre.map f).length < lim by rw [List.length_map]; omega), h4]
          exact h5
  exact gen items [] N rfl hN
/-! numbers -/
def nameAt (rs : List Ru) (k : Nat) : Str := (rs.getD k ("", [])).1
def numsOf (rs : List Ru) (x : Str) : List Nat := (List.range rs.length).filter fun k => decide (nameAt rs k = x)
def fK (k : Nat) : D := .int (0 + (k : Int))
theorem at_rule (rs : List Ru) (k : Int) (h0 : 0 ≤ k) (h1 : k.toNat < rs.length) : ∃ ps : List Str, atI (rs.map encR) k = some (.tup [.str (nameAt rs k.toNat), .tup (ps.map D.str)]) := by
  refine ⟨(rs.getD k.toNat ("", [])).2, ?_⟩
  have := at_map (f := encR) (l := rs) (i := k) h0 (by omega) ("", [])
  exact this
theorem num_t (s : Nat → Fd) (rs : List Ru) (x : Str) (k : Int) (h0 : 0 ≤ k) (h1 : k.toNat < rs.length) : T2_0 s [some (.lst true (rs.map encR)), some (.str x), some (.int k)] = some (decide (nameAt rs k.toNat = x), [some (.lst true (rs.map encR)), some (.str x), some (.int k)]) := by
  obtain ⟨ps, e⟩ := at_rule rs k h0 h1
  have hf := frzL_of encR_frz rs
  have hf2 := frzL_strs ps
  unfold T2_0
  repeat (first | (walk_at "ev") | (simp only [hf, hf2, e]))
theorem nums_lc (s : Nat → Fd) (rs : List Ru) (x : Str) (hl : rs.length < 100000) : C2_2 s [some (.lst true (rs.map encR)), some (.str x), none] = some (.temp (.lst true ((numsOf rs x).map fK)), [some (.lst true (rs.map encR)), some (.str x), none]) := by
  have h1 := lcIt_fm (own := [2]) (st := stNm 2) (ifs := T2_0 s) (elt := M2_1 s) (enc := fK) (f := fK) (p := fun k => decide (nameAt rs k = x)) (E := [some (.lst true (rs.map encR)), some (.str x), none]) (items := List.range rs.length) (acc := []) (fun k hk => by
    have hk := List.mem_range.mp hk
    have ht := num_t s rs x (0 + (k : Int)) (by omega) (by omega)
    have z : (0 + (k : Int)).toNat = k := by omega
    rw [z] at ht
    exact ⟨_, _, rfl, ht, fun _ => rfl, fun _ => ⟨.slot 2, _, _, rfl, rfl, rfl⟩⟩) (by rw [List.length_nil, List.length_range]; unfold lim; omega)
  have h1 : lcIt [2] (stNm 2) (T2_0 s) (M2_1 s) (rngD 0 rs.length) [] _ = some ((numsOf rs x).map fK, _) := h1
  have hg' : f1 pLen [D.lst true (rs.map encR)] = some (.int (rs.length : Int)) := by
    show some (D.int ((rs.map encR).length : Int)) = _
    rw [List.length_map]
  have hn : (rs.length : Int).toNat = rs.length := by omega
  have hb2 : rs.length ≤ 1000000 := by omega
  have hb1 : (-(rs.length : Int)).toNat ≤ 1000000 := by omega
  have ho : ownOk [some (.lst true (rs.map encR)), some (.str x), none] [2] = true := rfl
  have hwi : wipeE [some (.lst true (rs.map encR)), some (.str x), none] [2] = [some (.lst true (rs.map encR)), some (.str x), none] := rfl
  have hun : unwE [some (.lst true (rs.map encR)), some (.str x), none] [2] [some (.lst true (rs.map encR)), some (.str x), none] = [some (.lst true (rs.map encR)), some (.str x), none] := rfl
  have hf := frzL_of encR_frz rs
  unfold C2_2
  generalize f1 pLen = g at *
  generalize M2_1 s = M at h1
  generalize T2_0 s = T at h1
  generalize (rs.length : Int) = N at *
  generalize (numsOf rs x).map fK = Z at *
  repeat (first | (walk_at "ev") | (simp only [evLc, evR1, hf, hg', hn, hb1, hb2, ho, hwi, hun, h1]))
theorem nums (n : Nat) (rs : List Ru) (x : Str) (hl : rs.length < 100000) : sem defs (n + 1) 2 [.lst true (rs.map encR), .str x] = some (.lst true ((numsOf rs x).map fK), [.lst true (rs.map encR), .str x]) := by
  have h1 := nums_lc (sem defs n) rs x hl
  rw [e_2]
  unfold b_2
  generalize C2_2 (sem defs n) = F at h1
  have hf := frzL_of encR_frz rs
  generalize (numsOf rs x).map fK = Z at *
  repeat (first | (walk_at "ev") | (simp only [hf, h1]))
/-! the two checks -/
theorem eq_same {d : D} (h : fine 64 d = true) (hs : scV d = none) : pEq d d = some true := by
  unfold pEq
  rw [hs]
  show (if (pyOk d && pyOk d) = true then some (PyData.eqv (py d) (py d)) else none) = _
  rw [fine_py h, fine_refl h]
  rfl
theorem bls_true {α : Type} (l : List α) : bls (l.map fun _ => D.bl true) = some (l.map fun _ => true) := by
  induction l with
  | nil => rfl
  | cons x l ih =>
    show (bls (l.map fun _ => D.bl true)).map (true :: ·) = _
    rw [ih]
    rfl
theorem all_true {α : Type} (l : List α) : pAll (.lst true (l.map fun _ => D.bl true)) = some (.bl true) := by
  show (bls _).map _ = _
  rw [bls_true]
  show some (D.bl ((l.map fun _ => true).all id)) = _
  rw [List.all_eq_true.mpr (fun x hx => by obtain ⟨_, _, e⟩ := List.mem_map.mp hx; subst e; rfl)]
theorem texts (n : Nat) (ss : List Str) (hl : ss.length < 100000) (ho : ∀ x, x ∈ ss → PyData.strOk x = true) : sem defs (n + 1) 7 [.lst true (ss.map D.str), .lst true (ss.map D.str)] = some (.bl true, [.lst true (ss.map D.str), .lst true (ss.map D.str)]) := by
  have h1 : lcOwn 0 [2] (stNm 2) evYes (M7_0 (sem defs n)) 100000 0 [] [some (.lst true (ss.map D.str)), some (.lst true (ss.map D.str)), none] = some (ss.map (fun _ => D.bl true), [some (.lst true (ss.map D.str)), some (.lst true (ss.map D.str)), none]) :=
    lcOwn_all (own := [2]) (st := stNm 2) (elt := M7_0 (sem defs n)) (enc := D.str) (f := fun _ => D.bl true) (fun _ => rfl) (E := [some (.lst true (ss.map D.str)), some (.lst true (ss.map D.str)), none]) (i := 0) (m := true) rfl (fun x _ => ⟨_, .temp (.bl true), [some (.lst true (ss.map D.str)), some (.lst true (ss.map D.str)), some (.str x)], _, rfl, by unfold M7_0; walk_at "ev", rfl, rfl⟩) hl (by unfold lim; omega)
  have hok : ownOk [some (.lst true (ss.map D.str)), some (.lst true (ss.map D.str)), none] [2] = true := rfl
  have hwi : wipeE [some (.lst true (ss.map D.str)), some (.lst true (ss.map D.str)), none] [2] = [some (.lst true (ss.map D.str)), some (.lst true (ss.map D.str)), none] := rfl
  have hun : unwE [some (.lst true (ss.map D.str)), some (.lst true (ss.map D.str)), none] [2] [some (.lst true (ss.map D.str)), some (.lst true (ss.map D.str)), none] = [some (.lst true (ss.map D.str)), some (.lst true (ss.map D.str)), none] := rfl
  have hf := frzL_strs ss
  have hc : C7_1 (sem defs n) [some (.lst true (ss.map D.str)), some (.lst true (ss.map D.str)), none] = some (.temp (.lst true (ss.map fun _ => D.bl true)), [some (.lst true (ss.map D.str)), some (.lst true (ss.map D.str)), none]) := by
    unfold C7_1
    generalize M7_0 (sem defs n) = M at h1
    repeat (first | (walk_at "ev") | (simp only [evLc, evSq, hf, hok, hwi, hun, h1]))
  have he : pEqD (.lst true (ss.map D.str)) (.lst true (ss.map D.str)) = some (.bl true) := by
    unfold pEqD
    rw [eq_same (show fine 64 (.lst true (ss.map D.str)) = true by show (true && fineL 63 (ss.map D.str)) = true; rw [fineL_strs ho]; rfl) rfl]
    rfl
  have ha := all_true ss
  have hbb : frzL (ss.map fun _ => D.bl true) = ss.map fun _ => D.bl true := frzL_of (enc := fun (_ : Str) => D.bl true) (fun _ => rfl) ss
  rw [e_7]
  unfold b_7
  generalize C7_1 (sem defs n) = F at hc
  generalize pEqD = eq at *
  generalize ss.map (fun _ => D.bl true) = B at *
  repeat (first | (walk_at "ev") | (simp only [hf, hc, he, ha, hbb]))
theorem numbers (n : Nat) (ks : List Nat) (hl : ks.length < 100000) : sem defs (n + 1) 8 [.lst true (ks.map fK), .lst true (ks.map fK)] = some (.bl true, [.lst true (ks.map fK), .lst true (ks.map fK)]) := by
  have hfk : ∀ k, frz (fK k) = fK k := fun _ => rfl
  have h1 : lcOwn 0 [2] (stNm 2) evYes (M8_0 (sem defs n)) 100000 0 [] [some (.lst true (ks.map fK)), some (.lst true (ks.map fK)), none] = some (ks.map (fun _ => D.bl true), [some (.lst true (ks.map fK)), some (.lst true (ks.map fK)), none]) :=
    lcOwn_all (own := [2]) (st := stNm 2) (elt := M8_0 (sem defs n)) (enc := fK) (f := fun _ => D.bl true) hfk (E := [some (.lst true (ks.map fK)), some (.lst true (ks.map fK)), none]) (i := 0) (m := true) rfl (fun x _ => ⟨_, .temp (.bl true), [some (.lst true (ks.map fK)), some (.lst true (ks.map fK)), some (fK x)], _, rfl, by
      unfold M8_0 fK
      generalize ks.map _ = Z
      generalize 0 + (x : Int) = y
      walk_at "ev", rfl, rfl⟩) hl (by unfold lim; omega)
  have hf := frzL_of hfk ks
  have ha := all_true ks
  have hbb : frzL (ks.map fun _ => D.bl true) = ks.map fun _ => D.bl true := frzL_of (enc := fun (_ : Nat) => D.bl true) (fun _ => rfl) ks
  have he : pNeD (.lst true (ks.map fK)) (.lst true (ks.map fK)) = some (.bl false) := by
    unfold pNeD
    rw [eq_same (show fine 64 (.lst true (ks.map fK)) = true by show (true && fineL 63 (ks.map fK)) = true; rw [fineL_map (fun _ _ => rfl)]; rfl) rfl]
    rfl
  rw [e_8]
  generalize hB : ks.map (fun _ => D.bl true) = B at *
  generalize ks.map fK = Z at *
  have hok : ownOk [some (.lst true Z), some (.lst true Z), none] [2] = true := rfl
  have hwi : wipeE [some (.lst true Z), some (.lst true Z), none] [2] = [some (.lst true Z), some (.lst true Z), none] := rfl
  have hun : unwE [some (.lst true Z), some (.lst true Z), none] [2] [some (.lst true Z), some (.lst true Z), none] = [some (.lst true Z), some (.lst true Z), none] := rfl
  have hc : C8_1 (sem defs n) [some (.lst true Z), some (.lst true Z), none] = some (.temp (.lst true B), [some (.lst true Z), some (.lst true Z), none]) := by
    unfold C8_1
    generalize M8_0 (sem defs n) = M at h1
    repeat (first | (walk_at "ev") | (simp only [evLc, evSq, hf, hok, hwi, hun, h1]))
  unfold b_8
  generalize C8_1 (sem defs n) = F at hc
  generalize pNeD = eq at *
  repeat (first | (walk_at "ev") | (simp only [hf, hc, he, ha, hbb]))
end Lw

namespace Lw
open PySem PySem.Spec L2 DE
local macro_rules | `(tactic| walk_at "ev") => `(tactic| simp only [fnD, evSeq, evAsg, evRet, evRetN, evIf, evB, evEx, evVar, evMv, evCon, ev1, ev2, evN, evIsi, evCons, evNil, evTup, evLst, evDis, evCall, evMut, evMs, evAnd, evOr, evNot, evAndT, evOrT, evNotT, evIte, evChain, evSl0, evSlB, evYes, evNx, evBk, evCt, evSet,
  prim, look, looks, tk, tks, pull, pulls, push, pushes, asB, asI, asK, isS, f1, f2, slL, slH, slB, stNm, stTup, stCons, stNil, turn, frzAt, argsOf, D.sc, scV, scal, pLen, pAdd, pSub, pDiv, pMod, pLt, pLe, pGt, pGe, pNeg, pAbs, pMin, pMax, pEqD, pNeD, pEq, pIdx, seqOf, keyOf, pSl, pList, pTuple, mApp, mExt, mPop, mClr, mIns, isiD, tyD,
  frz, frzL, frzK, isF, isFL, kidsOf, List.map_cons, List.map_nil, List.length_cons, List.length_nil, List.getElem?_cons_zero, List.getElem?_cons_succ, List.getElem?_nil, List.set_cons_zero, List.set_cons_succ, List.replicate, List.append_eq, List.nil_append, List.cons_append, List.contains_nil, List.contains_cons, Bool.or_false, Bool.false_or, Bool.or_true, Bool.true_or, Bool.and_true, Bool.true_and, Bool.and_false, Bool.false_and, Bool.not_true, Bool.not_false,
  if_true, if_false, ite_true, ite_false, reduceIte, reduceCtorEq, Option.map_some, Option.map_none, Nat.reduceAdd, Nat.reduceSub, Nat.reduceLT, Nat.reduceEqDiff, Nat.reduceLeDiff, Nat.zero_add, Nat.lt_add_left_iff_pos, Nat.reduceBEq, Bool.false_eq_true, beq_self_eq_true, lim, cMul, keyOf, Int.reduceLT, Int.reduceLE, Int.reduceNeg, Int.reduceAdd, Int.reduceSub, Int.reduceToNat, Int.reducePow, Int.reduceMul, Int.reduceDiv, Int.reduceMod, Int.reduceEq, evR1, evR2, evFor, evSq, evLc, Nat.reducePow, Nat.reduceMul, and_self, and_true, true_and, and_false, false_and, or_true, true_or, or_false, false_or, not_true, not_false_eq_true, decide_true, decide_false, at0, at1, at2, at3, at4, at5, Option.isSome_some, Option.isSome_none, V.int.injEq, V.str.injEq, V.bl.injEq])
theorem lheads_t (s : Nat → Fd) (a0 a1 a2 a4 a5 a6 a9 a10 a11 a12 a13 a14 : Option D) (v : D) (hs : List Str) (x : Str) (ps : List Str) (hl : hs.length < 1000000) : L9_2 s [a0, a1, a2, some (.lst true (hs.map D.str)), a4, a5, a6, some (.str x), some v, a9, a10, a11, a12, a13, a14] = some (.nx [a0, a1, a2, some (.lst true ((stepH hs (x, ps)).map D.str)), a4, a5, a6, some (.str x), some v, a9, a10, a11, a12, a13, a14]) := by
  have hf := frzL_strs hs
  by_cases h : x ∈ hs
  · have e : stepH hs (x, ps) = hs := if_pos h
    have hd : decide (x ∈ hs) = true := decide_eq_true h
    unfold L9_2
    repeat (first | (walk_at "ev") | (simp only [hf, pNinD, pIn_strs, hd, e]))
  · have e : stepH hs (x, ps) = hs ++ [x] := if_neg h
    have hd : decide (x ∈ hs) = false := decide_eq_false h
    rw [e, List.map_append]
    unfold L9_2
    repeat (first | (walk_at "ev") | (simp only [hf, pNinD, pIn_strs, hd, List.length_map, hl]))
theorem lheads_for (s : Nat → Fd) (a0 a1 a4 a5 a6 a7 a8 a9 a10 a11 a12 a13 a14 : Option D) (rs : List Ru) (hl : rs.length < 100000) : ∃ u v : Option D, F9_3 s [a0, a1, some (.lst true (rs.map encR)), some (.lst true []), a4, a5, a6, a7, a8, a9, a10, a11, a12, a13, a14] = some (.nx [a0, a1, some (.lst true (rs.map encR)), some (.lst true ((headsOf rs).map D.str)), a4, a5, a6, u, v, a9, a10, a11, a12, a13, a14]) := by
  obtain ⟨E', h1, u, v, h2⟩ := forOwn_inv (st := stTup (stCons (stNm 7) (stCons (stNm 8) (stNil)))) (b := L9_2 s) (enc := encR) encR_frz (items := rs) (i := 2) (N := 100000) (m := true) (fun pre E => ∃ u v : Option D, E = [a0, a1, some (.lst true (rs.map encR)), some (.lst true ((headsOf pre).map D.str)), a4, a5, a6, u, v, a9, a10, a11, a12, a13, a14]) (fun pre E ⟨u, v, e⟩ => by rw [e]; rfl) hl (fun pre x post E e hI => by
    obtain ⟨u, v, rfl⟩ := hI
    have hl2 := heads_len pre
    have hl3 : pre.length ≤ rs.length := by rw [e, List.length_append]; omega
    exact ⟨_, _, rfl, .inl (lheads_t s a0 a1 (some (.lst true (rs.map encR))) a4 a5 a6 a9 a10 a11 a12 a13 a14 _ (headsOf pre) x.1 x.2 (by omega)), _, _, by rw [headsOf_snoc]⟩) (E := [a0, a1, some (.lst true (rs.map encR)), some (.lst true []), a4, a5, a6, a7, a8, a9, a10, a11, a12, a13, a14]) ⟨a7, a8, rfl⟩
  refine ⟨u, v, ?_⟩
  rw [h2] at h1
  unfold F9_3
  generalize L9_2 s = L at h1
  have hf := frzL_of encR_frz rs
  repeat (first | (walk_at "ev") | (simp only [hf, h1]))
theorem lwords_t (s : Nat → Fd) (a0 a1 a2 a5 a6 a7 a8 a10 a11 a12 a13 a14 : Option D) (hs ws : List Str) (x : Str) (hl : ws.length < 1000000) : L9_4 s [a0, a1, a2, some (.lst true (hs.map D.str)), some (.lst true (ws.map D.str)), a5, a6, a7, a8, some (.str x), a10, a11, a12, a13, a14] = some (.nx [a0, a1, a2, some (.lst true (hs.map D.str)), some (.lst true ((stepW hs ws x).map D.str)), a5, a6, a7, a8, some (.str x), a10, a11, a12, a13, a14]) := by
  have hf := frzL_strs hs
  have hf2 := frzL_strs ws
  by_cases h : x ∈ hs
  · have e : stepW hs ws x = ws := if_pos h
    have hd : decide (x ∈ hs) = true := decide_eq_true h
    unfold L9_4
    repeat (first | (walk_at "ev") | (simp only [hf, hf2, pNinD, pIn_strs, hd, e]))
  · have hd : decide (x ∈ hs) = false := decide_eq_false h
    by_cases h2 : x ∈ ws
    · have e : stepW hs ws x = ws := by unfold stepW; rw [if_neg h, if_pos h2]
      have hd2 : decide (x ∈ ws) = true := decide_eq_true h2
      unfold L9_4
      repeat (first | (walk_at "ev") | (simp only [hf, hf2, pNinD, pIn_strs, hd, hd2, e]))
    · have e : stepW hs ws x = ws ++ [x] := by unfold stepW; rw [if_neg h, if_neg h2]
      have hd2 : decide (x ∈ ws) = false := decide_eq_false h2
      rw [e, List.map_append]
      unfold L9_4
      repeat (first | (walk_at "ev") | (simp only [hf, hf2, pNinD, pIn_strs, hd, hd2, List.length_map, hl]))
theorem lwords_in1 (s : Nat → Fd) (a0 a1 a2 a5 a6 a7 a9 a10 a11 a12 a13 a14 : Option D) (hs ws ps : List Str) (hl : ws.length + ps.length < 1000000) : ∃ w2 : Option D, F9_5 s [a0, a1, a2, some (.lst true (hs.map D.str)), some (.lst true (ws.map D.str)), a5, a6, a7, some (.tup (ps.map D.str)), a9, a10, a11, a12, a13, a14] = some (.nx [a0, a1, a2, some (.lst true (hs.map D.str)), some (.lst true ((ps.foldl (stepW hs) ws).map D.str)), a5, a6, a7, some (.tup (ps.map D.str)), w2, a10, a11, a12, a13, a14]) := by
  obtain ⟨E', h1, w2, h2⟩ := forIt_inv (st := stNm 9) (b := L9_4 s) (enc := D.str) (items := ps) (fun pre E => ∃ w : Option D, E = [a0, a1, a2, some (.lst true (hs.map D.str)), some (.lst true ((pre.foldl (stepW hs) ws).map D.str)), a5, a6, a7, some (.tup (ps.map D.str)), w, a10, a11, a12, a13, a14]) (fun pre x post E e hI => by
    obtain ⟨w, rfl⟩ := hI
    have h2 := stepW_lens hs pre ws
    have h3 : pre.length ≤ ps.length := by rw [e, List.length_append]; omega
    exact ⟨_, _, rfl, .inl (lwords_t s a0 a1 a2 a5 a6 a7 (some (.tup (ps.map D.str))) a10 a11 a12 a13 a14 hs _ x (by omega)), _, by rw [List.foldl_append]; rfl⟩) (E := [a0, a1, a2, some (.lst true (hs.map D.str)), some (.lst true (ws.map D.str)), a5, a6, a7, some (.tup (ps.map D.str)), a9, a10, a11, a12, a13, a14]) ⟨a9, rfl⟩
  refine ⟨w2, ?_⟩
  rw [h2] at h1
  unfold F9_5
  generalize L9_4 s = L' at h1
  have hf := isFL_strs ps
  repeat (first | (walk_at "ev") | (simp only [hf, h1]))
theorem lwords_for (s : Nat → Fd) (a0 a1 a5 a6 a7 a8 a9 a10 a11 a12 a13 a14 : Option D) (hs : List Str) (rs : List Ru) (hl : rs.length < 100000) (h8 : ∀ r, r ∈ rs → r.2.length ≤ 8) : ∃ u v w : Option D, F9_7 s [a0, a1, some (.lst true (rs.map encR)), some (.lst true (hs.map D.str)), some (.lst true []), a5, a6, a7, a8, a9, a10, a11, a12, a13, a14] = some (.nx [a0, a1, some (.lst true (rs.map encR)), some (.lst true (hs.map D.str)), some (.lst true ((wordsOf hs rs).map D.str)), a5, a6, u, v, w, a10, a11, a12, a13, a14]) := by
  obtain ⟨E', h1, u, v, w, h2⟩ := forOwn_inv (st := stTup (stCons (stNm 7) (stCons (stNm 8) (stNil)))) (b := L9_6 s) (enc := encR) encR_frz (items := rs) (i := 2) (N := 100000) (m := true) (fun pre E => ∃ u v w : Option D, E = [a0, a1, some (.lst true (rs.map encR)), some (.lst true (hs.map D.str)), some (.lst true ((wordsOf hs pre).map D.str)), a5, a6, u, v, w, a10, a11, a12, a13, a14]) (fun pre E ⟨u, v, w, e⟩ => by rw [e]; rfl) hl (fun pre x post E e hI => by
    obtain ⟨u, v, w, rfl⟩ := hI
    have hl2 := words_len hs pre fun r hr => h8 r (e ▸ List.mem_append_left _ hr)
    have h9 := h8 x (e ▸ List.mem_append_right _ (List.mem_cons_self ..))
    have hl3 : pre.length ≤ rs.length := by rw [e, List.length_append]; omega
    obtain ⟨w2, ht⟩ := lwords_in1 s a0 a1 (some (.lst true (rs.map encR))) a5 a6 (some (.str x.1)) w a10 a11 a12 a13 a14 hs (wordsOf hs pre) x.2 (by omega)
    have hb : L9_6 s [a0, a1, some (.lst true (rs.map encR)), some (.lst true (hs.map D.str)), some (.lst true ((wordsOf hs pre).map D.str)), a5, a6, some (.str x.1), some (.tup (x.2.map D.str)), w, a10, a11, a12, a13, a14] = some (.nx [a0, a1, some (.lst true (rs.map encR)), some (.lst true (hs.map D.str)), some (.lst true ((stepR hs (wordsOf hs pre) x).map D.str)), a5, a6, some (.str x.1), some (.tup (x.2.map D.str)), w2, a10, a11, a12, a13, a14]) := by
      unfold L9_6 evSeq
      rw [ht]
      rfl
    exact ⟨_, _, rfl, .inl hb, _, _, w2, by rw [wordsOf_snoc]⟩) (E := [a0, a1, some (.lst true (rs.map encR)), some (.lst true (hs.map D.str)), some (.lst true []), a5, a6, a7, a8, a9, a10, a11, a12, a13, a14]) ⟨a7, a8, a9, rfl⟩
  refine ⟨u, v, w, ?_⟩
  rw [h2] at h1
  unfold F9_7
  generalize L9_6 s = L at h1
  have hf := frzL_of encR_frz rs
  repeat (first | (walk_at "ev") | (simp only [hf, h1]))
theorem lnum_t (s : Nat → Fd) (a0 a1 a3 a4 a5 a6 a7 a8 a9 a10 a11 a13 : Option D) (rs : List Ru) (x : Str) (k : Int) (h0 : 0 ≤ k) (h1 : k.toNat < rs.length) : T9_8 s [a0, a1, some (.lst true (rs.map encR)), a3, a4, a5, a6, a7, a8, a9, a10, a11, some (.str x), a13, some (.int k)] = some (decide (nameAt rs k.toNat = x), [a0, a1, some (.lst true (rs.map encR)), a3, a4, a5, a6, a7, a8, a9, a10, a11, some (.str x), a13, some (.int k)]) := by
  obtain ⟨ps, e⟩ := at_rule rs k h0 h1
  have hf := frzL_of encR_frz rs
  have hf2 := frzL_strs ps
  unfold T9_8
  repeat (first | (walk_at "ev") | (simp only [hf, hf2, e]))
theorem lnums_lc (s : Nat → Fd) (a0 a1 a3 a4 a5 a6 a7 a8 a9 a10 a11 a13 : Option D) (rs : List Ru) (x : Str) (hl : rs.length < 100000) : C9_10 s [a0, a1, some (.lst true (rs.map encR)), a3, a4, a5, a6, a7, a8, a9, a10, a11, some (.str x), a13, none] = some (.temp (.lst true ((numsOf rs x).map fK)), [a0, a1, some (.lst true (rs.map encR)), a3, a4, a5, a6, a7, a8, a9, a10, a11, some (.str x), a13, none]) := by
  have h1 := lcIt_fm (own := [14]) (st := stNm 14) (ifs := T9_8 s) (elt := M9_9 s) (enc := fK) (f := fK) (p := fun k => decide (nameAt rs k = x)) (E := [a0, a1, some (.lst true (rs.map encR)), a3, a4, a5, a6, a7, a8, a9, a10, a11, some (.str x), a13, none]) (items := List.range rs.length) (acc := []) (fun k hk => by
    have hk := List.mem_range.mp hk
    have ht := lnum_t s a0 a1 a3 a4 a5 a6 a7 a8 a9 a10 a11 a13 rs x (0 + (k : Int)) (by omega) (by omega)
    have z : (0 + (k : Int)).toNat = k := by omega
    rw [z] at ht
    exact ⟨_, _, rfl, ht, fun _ => rfl, fun _ => ⟨.slot 14, _, _, rfl, rfl, rfl⟩⟩) (by rw [List.length_nil, List.length_range]; unfold lim; omega)
  have h1 : lcIt [14] (stNm 14) (T9_8 s) (M9_9 s) (rngD 0 rs.length) [] _ = some ((numsOf rs x).map fK, _) := h1
  have hgq : f1 pLen [D.lst true (rs.map encR)] = some (.int (rs.length : Int)) := by
    show some (D.int ((rs.map encR).length : Int)) = _
    rw [List.length_map]
  have hn : (rs.length : Int).toNat = rs.length := by omega
  have hb2 : rs.length ≤ 1000000 := by omega
  have hb1 : (-(rs.length : Int)).toNat ≤ 1000000 := by omega
  have ho : ownOk [a0, a1, some (.lst true (rs.map encR)), a3, a4, a5, a6, a7, a8, a9, a10, a11, some (.str x), a13, none] [14] = true := rfl
  have hwi : wipeE [a0, a1, some (.lst true (rs.map encR)), a3, a4, a5, a6, a7, a8, a9, a10, a11, some (.str x), a13, none] [14] = [a0, a1, some (.lst true (rs.map encR)), a3, a4, a5, a6, a7, a8, a9, a10, a11, some (.str x), a13, none] := rfl
  have hun : unwE [a0, a1, some (.lst true (rs.map encR)), a3, a4, a5, a6, a7, a8, a9, a10, a11, some (.str x), a13, none] [14] [a0, a1, some (.lst true (rs.map encR)), a3, a4, a5, a6, a7, a8, a9, a10, a11, some (.str x), a13, none] = [a0, a1, some (.lst true (rs.map encR)), a3, a4, a5, a6, a7, a8, a9, a10, a11, some (.str x), a13, none] := rfl
  have hf := frzL_of encR_frz rs
  unfold C9_10
  generalize f1 pLen = g at *
  generalize M9_9 s = M at h1
  generalize T9_8 s = T at h1
  generalize (rs.length : Int) = N at *
  generalize (numsOf rs x).map fK = Z at *
  repeat (first | (walk_at "ev") | (simp only [hf, hgq, hn, hb1, hb2, ho, hwi, hun, h1]))
theorem lname_t (n : Nat) (a0 a1 a3 a4 a6 a7 a8 a9 a11 a13 : Option D) (w10 : Option D) (rs : List Ru) (x : Str) (hl : rs.length < 100000) : L9_11 (sem defs (n + 1)) [a0, a1, some (.lst true (rs.map encR)), a3, a4, some (.lst true (rs.map encR)), a6, a7, a8, a9, w10, a11, some (.str x), a13, none] = some (.nx [a0, a1, some (.lst true (rs.map encR)), a3, a4, some (.lst true (rs.map encR)), a6, a7, a8, a9, some (.lst true []), a11, some (.str x), a13, none]) := by
  have h1 := nums n rs x hl
  have h2 := lnums_lc (sem defs (n + 1)) a0 a1 a3 a4 (some (.lst true (rs.map encR))) a6 a7 a8 a9 (some (.lst true ((numsOf rs x).map fK))) a11 a13 rs x hl
  have h3 := numbers n (numsOf rs x) (by
    have := List.length_filter_le (fun k => decide (nameAt rs k = x)) (List.range rs.length)
    rw [List.length_range] at this
    exact Nat.lt_of_le_of_lt this hl)
  have hfk : frzL ((numsOf rs x).map fK) = (numsOf rs x).map fK := frzL_of (fun _ => rfl) _
  have hf := frzL_of encR_frz rs
  unfold L9_11
  generalize (numsOf rs x).map fK = Z at *
  generalize C9_10 (sem defs (n + 1)) = C at *
  repeat (first | (walk_at "ev") | (simp only [hf, h1, h2, h3, hfk]))
theorem lname_for (n : Nat) (a0 a3 a4 a6 a7 a8 a9 a11 a13 : Option D) (w10 w12 : Option D) (rs : List Ru) (ss : List Str) (hl : rs.length < 100000) (hs : ss.length < 100000) : ∃ u v : Option D, F9_12 (sem defs (n + 1)) [a0, some (.lst true (ss.map D.str)), some (.lst true (rs.map encR)), a3, a4, some (.lst true (rs.map encR)), a6, a7, a8, a9, w10, a11, w12, a13, none] = some (.nx [a0, some (.lst true (ss.map D.str)), some (.lst true (rs.map encR)), a3, a4, some (.lst true (rs.map encR)), a6, a7, a8, a9, u, a11, v, a13, none]) := by
  obtain ⟨E', h1, u, v, h2⟩ := forOwn_inv (st := stNm 12) (b := L9_11 (sem defs (n + 1))) (enc := D.str) (fun _ => rfl) (items := ss) (i := 1) (N := 100000) (m := true) (fun pre E => ∃ u v : Option D, E = [a0, some (.lst true (ss.map D.str)), some (.lst true (rs.map encR)), a3, a4, some (.lst true (rs.map encR)), a6, a7, a8, a9, u, a11, v, a13, none]) (fun pre E ⟨u, v, e⟩ => by rw [e]; rfl) hs (fun pre x post E e hI => by
    obtain ⟨u, v, rfl⟩ := hI
    exact ⟨_, _, rfl, .inl (lname_t n a0 (some (.lst true (ss.map D.str))) a3 a4 a6 a7 a8 a9 a11 a13 u rs x hl), _, _, rfl⟩) (E := [a0, some (.lst true (ss.map D.str)), some (.lst true (rs.map encR)), a3, a4, some (.lst true (rs.map encR)), a6, a7, a8, a9, w10, a11, w12, a13, none]) ⟨w10, w12, rfl⟩
  refine ⟨u, v, ?_⟩
  rw [h2] at h1
  unfold F9_12
  generalize L9_11 (sem defs (n + 1)) = L at h1
  have hf := frzL_strs ss
  repeat (first | (walk_at "ev") | (simp only [hf, h1]))
theorem lagain_t (n : Nat) (a0 a7 a8 a9 a13 : Option D) (w6 : D) (w10 w11 w12 : Option D) (rs : List Ru) (ss : List Str) (hl : rs.length < 1000) (hs : ss.length < 100000) (h8 : ∀ r, r ∈ rs → r.2.length ≤ 8) (hok : ∀ x, x ∈ headsOf rs → PyData.strOk x = true) (wok : ∀ x, x ∈ wordsOf (headsOf rs) rs → PyData.strOk x = true) (rok : fineL 63 (rs.map encR) = true) :
    ∃ u10 u11 u12 : Option D, L9_13 (sem defs (n + 2)) [a0, some (.lst true (ss.map D.str)), some (.lst true (rs.map encR)), some (.lst true ((headsOf rs).map D.str)), some (.lst true ((wordsOf (headsOf rs) rs).map D.str)), some (.lst true (rs.map encR)), some w6, a7, a8, a9, w10, w11, w12, a13, none] = some (.nx [a0, some (.lst true (ss.map D.str)), some (.lst true (rs.map encR)), some (.lst true ((headsOf rs).map D.str)), some (.lst true ((wordsOf (headsOf rs) rs).map D.str)), some (.lst true (rs.map encR)), some w6, a7, a8, a9, u10, u11, u12, a13, none]) := by
  have h1 := heads (n + 1) rs (by omega)
  have h2 := words n rs (by omega) h8
  have l1 := heads_len rs
  have l2 := words_len (headsOf rs) rs h8
  have h3 := texts (n + 1) (headsOf rs) (by omega) hok
  have h4 := texts (n + 1) (wordsOf (headsOf rs) rs) (by omega) wok
  have he : pNeD (.lst true (rs.map encR)) (.lst true (rs.map encR)) = some (.bl false) := by
    unfold pNeD
    rw [eq_same (show fine 64 (.lst true (rs.map encR)) = true by show (true && fineL 63 (rs.map encR)) = true; rw [rok]; rfl) rfl]
    rfl
  obtain ⟨u, v, h5⟩ := lname_for (n + 1) a0 (some (.lst true ((headsOf rs).map D.str))) (some (.lst true ((wordsOf (headsOf rs) rs).map D.str))) (some w6) a7 a8 a9 (some (.lst true [])) a13 (some (.lst true [])) w12 rs ss (by omega) hs
  refine ⟨u, some (.lst true []), v, ?_⟩
  have hf := frzL_of encR_frz rs
  have hf1 := frzL_strs (headsOf rs)
  have hf2 := frzL_strs (wordsOf (headsOf rs) rs)
  unfold L9_13
  generalize F9_12 (sem defs (n + 2)) = F at *
  generalize pNeD = eq at *
  repeat (first | (walk_at "ev") | (simp only [hf, hf1, hf2, h1, h2, h3, h4, he, h5]))
end Lw

namespace Lw
open PySem PySem.Spec L2 DE
local macro_rules | `(tactic| walk_at "ev") => `(tactic| simp only [fnD, evSeq, evAsg, evRet, evRetN, evIf, evB, evEx, evVar, evMv, evCon, ev1, ev2, evN, evIsi, evCons, evNil, evTup, evLst, evDis, evCall, evMut, evMs, evAnd, evOr, evNot, evAndT, evOrT, evNotT, evIte, evChain, evSl0, evSlB, evYes, evNx, evBk, evCt, evSet,
  prim, look, looks, tk, tks, pull, pulls, push, pushes, asB, asI, asK, isS, f1, f2, slL, slH, slB, stNm, stTup, stCons, stNil, turn, frzAt, argsOf, D.sc, scV, scal, pLen, pAdd, pSub, pDiv, pMod, pLt, pLe, pGt, pGe, pNeg, pAbs, pMin, pMax, pEqD, pNeD, pEq, pIdx, seqOf, keyOf, pSl, pList, pTuple, mApp, mExt, mPop, mClr, mIns, isiD, tyD,
  frz, frzL, frzK, isF, isFL, kidsOf, List.map_cons, List.map_nil, List.length_cons, List.length_nil, List.getElem?_cons_zero, List.getElem?_cons_succ, List.getElem?_nil, List.set_cons_zero, List.set_cons_succ, List.replicate, List.append_eq, List.nil_append, List.cons_append, List.contains_nil, List.contains_cons, Bool.or_false, Bool.false_or, Bool.or_true, Bool.true_or, Bool.and_true, Bool.true_and, Bool.and_false, Bool.false_and, Bool.not_true, Bool.not_false,
  if_true, if_false, ite_true, ite_false, reduceIte, reduceCtorEq, Option.map_some, Option.map_none, Nat.reduceAdd, Nat.reduceSub, Nat.reduceLT, Nat.reduceEqDiff, Nat.reduceLeDiff, Nat.zero_add, Nat.lt_add_left_iff_pos, Nat.reduceBEq, Bool.false_eq_true, beq_self_eq_true, lim, cMul, keyOf, Int.reduceLT, Int.reduceLE, Int.reduceNeg, Int.reduceAdd, Int.reduceSub, Int.reduceToNat, Int.reducePow, Int.reduceMul, Int.reduceDiv, Int.reduceMod, Int.reduceEq, evR1, evR2, evFor, evSq, evLc, Nat.reducePow, Nat.reduceMul, and_self, and_true, true_and, and_false, false_and, or_true, true_or, or_false, false_or, not_true, not_false_eq_true, decide_true, decide_false, at0, at1, at2, at3, at4, at5, Option.isSome_some, Option.isSome_none, V.int.injEq, V.str.injEq, V.bl.injEq])
theorem cell_at (n : Nat) (ns : List Int) (k : Int) (hk : 0 ≤ k) : sem defs (n + 1) 3 [.scr (ns.map D.int), .int k] = some (.int (ns.getD k.toNat 0), [.scr (ns.map D.int), .int k]) := by
  rw [e_3]
  unfold b_3
  have hf := frzL_ints ns
  have hi := isFL_ints ns
  by_cases h : k < (ns.length : Int)
  · have e : atI (ns.map D.int) k = some (.int (ns.getD k.toNat 0)) := at_map hk h 0
    repeat (first | (walk_at "ev") | (simp only [hf, hi, List.length_map, h, e]))
  · have e : ns.getD k.toNat 0 = 0 := by
      rw [List.getD_eq_getElem?_getD, List.getElem?_eq_none (by omega)]
      rfl
    repeat (first | (walk_at "ev") | (simp only [hf, hi, List.length_map, h, e]))
theorem mem_heads (rs : List Ru) (x : Str) (h : x ∈ headsOf rs) : ∃ r, r ∈ rs ∧ r.1 = x := by
  have g : ∀ (rs : List Ru) (hs : List Str), x ∈ rs.foldl stepH hs → x ∈ hs ∨ ∃ r, r ∈ rs ∧ r.1 = x := by
    intro rs
    induction rs with
    | nil => intro hs h; exact .inl h
    | cons r rs ih =>
      intro hs h
      rcases ih _ h with h | ⟨q, h1, h2⟩
      · unfold stepH at h
        split at h
        · exact .inl h
        · rcases List.mem_append.mp h with h | h
          · exact .inl h
          · exact .inr ⟨r, List.mem_cons_self .., (List.mem_singleton.mp h).symm⟩
      · exact .inr ⟨q, List.mem_cons_of_mem _ h1, h2⟩
  rcases g rs [] h with h | h
  · cases h
  · exact h
theorem mem_words (hs : List Str) (rs : List Ru) (x : Str) (h : x ∈ wordsOf hs rs) : ∃ r, r ∈ rs ∧ x ∈ r.2 := by
  have g1 : ∀ (ps ws : List Str), x ∈ ps.foldl (stepW hs) ws → x ∈ ws ∨ x ∈ ps := by
    intro ps
    induction ps with
    | nil => intro ws h; exact .inl h
    | cons p ps ih =>
      intro ws h
      rcases ih _ h with h | h
      · unfold stepW at h
        split at h
        · exact .inl h
        · split at h
          · exact .inl h
          · rcases List.mem_append.mp h with h | h
            · exact .inl h
            · exact .inr (List.mem_singleton.mp h ▸ List.mem_cons_self ..)
      · exact .inr (List.mem_cons_of_mem _ h)
  have g : ∀ (rs : List Ru) (ws : List Str), x ∈ rs.foldl (stepR hs) ws → x ∈ ws ∨ ∃ r, r ∈ rs ∧ x ∈ r.2 := by
    intro rs
    induction rs with
    | nil => intro hs h; exact .inl h
    | cons r rs ih =>
      intro ws h
      rcases ih _ h with h | ⟨q, h1, h2⟩
      · rcases g1 _ _ h with h | h
        · exact .inl h
        · exact .inr ⟨r, List.mem_cons_self .., h⟩
      · exact .inr ⟨q, List.mem_cons_of_mem _ h1, h2⟩
  rcases g rs [] h with h | h
  · cases h
  · exact h
theorem rules_c (n : Nat) (ns : List Int) (ss : List Str) (hs : ss.length = 6) (hn : ns.length ≤ 63) : ∃ rs : List Ru, rs.length ≤ 63 ∧ (∀ r, r ∈ rs → r.1 ∈ ss ∧ (∀ x, x ∈ r.2 → x ∈ ss) ∧ r.2.length ≤ 8) ∧
    C9_1 (sem defs (n + 2)) [some (.scr (ns.map D.int)), some (.lst true (ss.map D.str)), none, none, none, none, none, none, none, none, none, none, none, none, none] = some (.temp (.lst true (rs.map encR)), [some (.scr (ns.map D.int)), some (.lst true (ss.map D.str)), none, none, none, none, none, none, none, none, none, none, none, none, none]) := by
  obtain ⟨cs, hc, hl, _⟩ := cutD_map (f := D.int) ns (some 1) (some 25)
  obtain ⟨rs, h1, h2, h3⟩ := lcIt_ex (own := [13]) (st := stNm 13) (elt := M9_0 (sem defs (n + 2))) (enc := D.int) (enc2 := encR) (E := [some (.scr (ns.map D.int)), some (.lst true (ss.map D.str)), none, none, none, none, none, none, none, none, none, none, none, none, none]) (fun r : Ru => r.1 ∈ ss ∧ (∀ x, x ∈ r.2 → x ∈ ss) ∧ r.2.length ≤ 8) (items := cs) (acc := []) (fun c hc => by
    obtain ⟨r, g1, g2, g3, g4⟩ := rule n c ss hs
    refine ⟨r, _, .temp (encR r), [some (.scr (ns.map D.int)), some (.lst true (ss.map D.str)), none, none, none, none, none, none, none, none, none, none, none, some (.int c), none], _, ⟨g1, g2, g3⟩, rfl, ?_, rfl, rfl⟩
    unfold M9_0
    have hf := frzL_strs ss
    generalize encR r = R at *
    repeat (first | (walk_at "ev") | (simp only [hf, g4]))) (by rw [List.length_nil]; unfold lim; omega)
  refine ⟨rs, by omega, h2, ?_⟩
  have hf := frzL_ints ns
  have hf2 := frzL_ints cs
  have ho : ownOk [some (.scr (ns.map D.int)), some (.lst true (ss.map D.str)), none, none, none, none, none, none, none, none, none, none, none, none, none] [13] = true := rfl
  have hwi : wipeE [some (.scr (ns.map D.int)), some (.lst true (ss.map D.str)), none, none, none, none, none, none, none, none, none, none, none, none, none] [13] = [some (.scr (ns.map D.int)), some (.lst true (ss.map D.str)), none, none, none, none, none, none, none, none, none, none, none, none, none] := rfl
  have hun : unwE [some (.scr (ns.map D.int)), some (.lst true (ss.map D.str)), none, none, none, none, none, none, none, none, none, none, none, none, none] [13] [some (.scr (ns.map D.int)), some (.lst true (ss.map D.str)), none, none, none, none, none, none, none, none, none, none, none, none, none] = [some (.scr (ns.map D.int)), some (.lst true (ss.map D.str)), none, none, none, none, none, none, none, none, none, none, none, none, none] := rfl
  unfold C9_1
  generalize M9_0 (sem defs (n + 2)) = M at h3
  repeat (first | (walk_at "ev") | (simp only [hf, hf2, hc, ho, hwi, hun, h3]))
theorem again_for (n : Nat) (a0 a7 a8 a9 a13 : Option D) (rs : List Ru) (ss : List Str) (hl : rs.length < 1000) (hs : ss.length < 100000) (h8 : ∀ r, r ∈ rs → r.2.length ≤ 8) (hok : ∀ x, x ∈ headsOf rs → PyData.strOk x = true) (wok : ∀ x, x ∈ wordsOf (headsOf rs) rs → PyData.strOk x = true) (rok : fineL 63 (rs.map encR) = true) :
    ∃ u6 u10 u11 u12 : Option D, F9_14 (sem defs (n + 2)) [a0, some (.lst true (ss.map D.str)), some (.lst true (rs.map encR)), some (.lst true ((headsOf rs).map D.str)), some (.lst true ((wordsOf (headsOf rs) rs).map D.str)), some (.lst true (rs.map encR)), none, a7, a8, a9, none, none, none, a13, none] = some (.nx [a0, some (.lst true (ss.map D.str)), some (.lst true (rs.map encR)), some (.lst true ((headsOf rs).map D.str)), some (.lst true ((wordsOf (headsOf rs) rs).map D.str)), some (.lst true (rs.map encR)), u6, a7, a8, a9, u10, u11, u12, a13, none]) := by
  obtain ⟨E', h1, u6, u10, u11, u12, h2⟩ := forIt_inv (st := stNm 6) (b := L9_13 (sem defs (n + 2))) (enc := fun (k : Nat) => D.int (0 + (k : Int))) (items := List.range 2) (fun pre E => ∃ u6 u10 u11 u12 : Option D, E = [a0, some (.lst true (ss.map D.str)), some (.lst true (rs.map encR)), some (.lst true ((headsOf rs).map D.str)), some (.lst true ((wordsOf (headsOf rs) rs).map D.str)), some (.lst true (rs.map encR)), u6, a7, a8, a9, u10, u11, u12, a13, none]) (fun pre x post E e hI => by
    obtain ⟨u6, u10, u11, u12, rfl⟩ := hI
    obtain ⟨v10, v11, v12, ht⟩ := lagain_t n a0 a7 a8 a9 a13 (.int (0 + (x : Int))) u10 u11 u12 rs ss hl hs h8 hok wok rok
    exact ⟨_, _, rfl, .inl ht, _, v10, v11, v12, rfl⟩) (E := [a0, some (.lst true (ss.map D.str)), some (.lst true (rs.map encR)), some (.lst true ((headsOf rs).map D.str)), some (.lst true ((wordsOf (headsOf rs) rs).map D.str)), some (.lst true (rs.map encR)), none, a7, a8, a9, none, none, none, a13, none]) ⟨none, none, none, none, rfl⟩
  refine ⟨u6, u10, u11, u12, ?_⟩
  have h1 : forIt (stNm 6) (L9_13 (sem defs (n + 2))) (rngD 0 2) _ = _ := h1
  rw [h2] at h1
  have z2 : (2 : Int).toNat = 2 := rfl
  unfold F9_14
  generalize L9_13 (sem defs (n + 2)) = L at h1
  repeat (first | (walk_at "ev") | (simp only [h1, z2]))
theorem law_true : ∀ ns : List Int, ns.length ≤ 63 → ∃ ds, sem defs 3 9 [.scr (ns.map D.int)] = some (.bl true, ds) := by
  intro ns hn
  refine ⟨[.scr (ns.map D.int)], ?_⟩
  have h1 := cell_at 1 ns 0 (by decide)
  generalize ns.getD (0 : Int).toNat 0 = c at h1
  obtain ⟨ss, hs, ho, h2⟩ := pool 0 c
  obtain ⟨rs, hl, hr, h3⟩ := rules_c 0 ns ss hs hn
  obtain ⟨u7, u8, h4⟩ := lheads_for (sem defs 2) (some (.scr (ns.map D.int))) (some (.lst true (ss.map D.str))) none none none none none none none none none none none rs (by omega)
  have h8 : ∀ r, r ∈ rs → r.2.length ≤ 8 := fun r hr' => (hr r hr').2.2
  obtain ⟨v7, v8, v9, h5⟩ := lwords_for (sem defs 2) (some (.scr (ns.map D.int))) (some (.lst true (ss.map D.str))) none none u7 u8 none none none none none none (headsOf rs) rs (by omega) h8
  have hok : ∀ x, x ∈ headsOf rs → PyData.strOk x = true := fun x hx => by
    obtain ⟨r, q1, q2⟩ := mem_heads rs x hx
    exact (ho x (q2 ▸ (hr r q1).1)).2
  have wok : ∀ x, x ∈ wordsOf (headsOf rs) rs → PyData.strOk x = true := fun x hx => by
    obtain ⟨r, q1, q2⟩ := mem_words _ rs x hx
    exact (ho x ((hr r q1).2.1 x q2)).2
  have rok : fineL 63 (rs.map encR) = true := fineL_map fun r hr' => by
    show (true && (PyData.strOk r.1 && ((true && fineL 61 (r.2.map D.str)) && true))) = true
    rw [(ho _ (hr r hr').1).2, fineL_strs fun x hx => (ho x ((hr r hr').2.1 x hx)).2]
    rfl
  obtain ⟨w6, w10, w11, w12, h6⟩ := again_for 0 (some (.scr (ns.map D.int))) v7 v8 v9 none rs ss (by omega) (by omega) h8 hok wok rok
  have he : pEqD (.lst true (rs.map encR)) (.lst true (rs.map encR)) = some (.bl true) := by
    unfold pEqD
    rw [eq_same (show fine 64 (.lst true (rs.map encR)) = true by show (true && fineL 63 (rs.map encR)) = true; rw [rok]; rfl) rfl]
    rfl
  have hf := frzL_of encR_frz rs
  have hf2 := frzL_ints ns
  have hi2 := isFL_ints ns
  have hf3 := frzL_strs ss
  have hf4 := frzL_strs (headsOf rs)
  have hf5 := frzL_strs (wordsOf (headsOf rs) rs)
  rw [e_9]
  unfold b_9
  generalize C9_1 (sem defs 2) = C at *
  generalize F9_3 (sem defs 2) = F1 at *
  generalize F9_7 (sem defs 2) = F2 at *
  generalize F9_14 (sem defs 2) = F3 at *
  generalize pEqD = eq at *
  repeat (first | (walk_at "ev") | (simp only [hf, hf2, hi2, hf3, hf4, hf5, h1, h2, h3, h4, h5, h6, he]))
end Lw

namespace Lw
open PySem PySem.Spec L2 DE
theorem all_mk {l : PySem.W.OpenLaw} {w : World} {K : PySem.W.Frag} {h : Heap} {mg : Str → Option Value} {fa f0 f1 f2 f3 f4 f5 f6 f7 f8 f9 : Addr} (X : K.In h) (G : h.Ns mainGlobals mg) (hfa : mg "law" = some (.ref fa))
    {od0 an0 : Option Addr} {sl0 : Array (Option Value)} {oc0 kV0 dc0 pm0 cd0 ct0 : Value}
    {od1 an1 : Option Addr} {sl1 : Array (Option Value)} {oc1 kV1 dc1 pm1 cd1 ct1 : Value}
    {od2 an2 : Option Addr} {sl2 : Array (Option Value)} {oc2 kV2 dc2 pm2 cd2 ct2 : Value}
    {od3 an3 : Option Addr} {sl3 : Array (Option Value)} {oc3 kV3 dc3 pm3 cd3 ct3 : Value}
    {od4 an4 : Option Addr} {sl4 : Array (Option Value)} {oc4 kV4 dc4 pm4 cd4 ct4 : Value}
    {od5 an5 : Option Addr} {sl5 : Array (Option Value)} {oc5 kV5 dc5 pm5 cd5 ct5 : Value}
    {od6 an6 : Option Addr} {sl6 : Array (Option Value)} {oc6 kV6 dc6 pm6 cd6 ct6 : Value}
    {od7 an7 : Option Addr} {sl7 : Array (Option Value)} {oc7 kV7 dc7 pm7 cd7 ct7 : Value}
    {od8 an8 : Option Addr} {sl8 : Array (Option Value)} {oc8 kV8 dc8 pm8 cd8 ct8 : Value}
    {od9 an9 : Option Addr} {sl9 : Array (Option Value)} {oc9 kV9 dc9 pm9 cd9 ct9 : Value}
    (a0 : PySem.W.nsIn K mainGlobals "heads_of" = some (some (.ref f0))) (l0 : K.lookup f0 = some ⟨oc0, od0, .func (PySem.W.fnOf "heads_of" "heads_of" (defArgs st_0) (defBody st_0) (defScope st_0) .none kV0 dc0 pm0 an0 cd0 ct0), sl0⟩) (c0 : PySem.W.codeIn K cd0 "heads_of" = true) (k0 : PySem.W.keepIn K (.ref f0) = true)
    (a1 : PySem.W.nsIn K mainGlobals "words_in" = some (some (.ref f1))) (l1 : K.lookup f1 = some ⟨oc1, od1, .func (PySem.W.fnOf "words_in" "words_in" (defArgs st_1) (defBody st_1) (defScope st_1) .none kV1 dc1 pm1 an1 cd1 ct1), sl1⟩) (c1 : PySem.W.codeIn K cd1 "words_in" = true) (k1 : PySem.W.keepIn K (.ref f1) = true)
    (a2 : PySem.W.nsIn K mainGlobals "numbers_of" = some (some (.ref f2))) (l2 : K.lookup f2 = some ⟨oc2, od2, .func (PySem.W.fnOf "numbers_of" "numbers_of" (defArgs st_2) (defBody st_2) (defScope st_2) .none kV2 dc2 pm2 an2 cd2 ct2), sl2⟩) (c2 : PySem.W.codeIn K cd2 "numbers_of" = true) (k2 : PySem.W.keepIn K (.ref f2) = true)
    (a3 : PySem.W.nsIn K mainGlobals "_law_cell_at" = some (some (.ref f3))) (l3 : K.lookup f3 = some ⟨oc3, od3, .func (PySem.W.fnOf "_law_cell_at" "_law_cell_at" (defArgs st_3) (defBody st_3) (defScope st_3) .none kV3 dc3 pm3 an3 cd3 ct3), sl3⟩) (c3 : PySem.W.codeIn K cd3 "_law_cell_at" = true) (k3 : PySem.W.keepIn K (.ref f3) = true)
    (a4 : PySem.W.nsIn K mainGlobals "_law_stream" = some (some (.ref f4))) (l4 : K.lookup f4 = some ⟨oc4, od4, .func (PySem.W.fnOf "_law_stream" "_law_stream" (defArgs st_4) (defBody st_4) (defScope st_4) .none kV4 dc4 pm4 an4 cd4 ct4), sl4⟩) (c4 : PySem.W.codeIn K cd4 "_law_stream" = true) (k4 : PySem.W.keepIn K (.ref f4) = true)
    (a5 : PySem.W.nsIn K mainGlobals "_law_pool" = some (some (.ref f5))) (l5 : K.lookup f5 = some ⟨oc5, od5, .func (PySem.W.fnOf "_law_pool" "_law_pool" (defArgs st_5) (defBody st_5) (defScope st_5) .none kV5 dc5 pm5 an5 cd5 ct5), sl5⟩) (c5 : PySem.W.codeIn K cd5 "_law_pool" = true) (k5 : PySem.W.keepIn K (.ref f5) = true)
    (a6 : PySem.W.nsIn K mainGlobals "_law_rule" = some (some (.ref f6))) (l6 : K.lookup f6 = some ⟨oc6, od6, .func (PySem.W.fnOf "_law_rule" "_law_rule" (defArgs st_6) (defBody st_6) (defScope st_6) .none kV6 dc6 pm6 an6 cd6 ct6), sl6⟩) (c6 : PySem.W.codeIn K cd6 "_law_rule" = true) (k6 : PySem.W.keepIn K (.ref f6) = true)
    (a7 : PySem.W.nsIn K mainGlobals "_law_texts" = some (some (.ref f7))) (l7 : K.lookup f7 = some ⟨oc7, od7, .func (PySem.W.fnOf "_law_texts" "_law_texts" (defArgs st_7) (defBody st_7) (defScope st_7) .none kV7 dc7 pm7 an7 cd7 ct7), sl7⟩) (c7 : PySem.W.codeIn K cd7 "_law_texts" = true) (k7 : PySem.W.keepIn K (.ref f7) = true)
    (a8 : PySem.W.nsIn K mainGlobals "_law_numbers" = some (some (.ref f8))) (l8 : K.lookup f8 = some ⟨oc8, od8, .func (PySem.W.fnOf "_law_numbers" "_law_numbers" (defArgs st_8) (defBody st_8) (defScope st_8) .none kV8 dc8 pm8 an8 cd8 ct8), sl8⟩) (c8 : PySem.W.codeIn K cd8 "_law_numbers" = true) (k8 : PySem.W.keepIn K (.ref f8) = true)
    (a9 : PySem.W.nsIn K mainGlobals "law" = some (some (.ref f9))) (l9 : K.lookup f9 = some ⟨oc9, od9, .func (PySem.W.fnOf "law" "law" (defArgs st_9) (defBody st_9) (defScope st_9) .none kV9 dc9 pm9 an9 cd9 ct9), sl9⟩) (c9 : PySem.W.codeIn K cd9 "law" = true) (k9 : PySem.W.keepIn K (.ref f9) = true)
    (z0 : PySem.W.nsIn K mainGlobals "range" = some none)
    (z1 : PySem.W.nsIn K mainGlobals "len" = some none)
    (z2 : PySem.W.nsIn K mainGlobals "tuple" = some none)
    (z3 : PySem.W.nsIn K mainGlobals "all" = some none)
    (z4 : PySem.W.nsIn K mainGlobals "isinstance" = some none)
    (z5 : PySem.W.nsIn K mainGlobals "str" = some none)
    (z6 : PySem.W.nsIn K mainGlobals "list" = some none)
    (z7 : PySem.W.nsIn K mainGlobals "bool" = some none)
    (z8 : PySem.W.nsIn K mainGlobals "int" = some none)
    : ∃ fd : FuncData, (∀ (s : Shared) (v : Value), BindsTo s fd ⟨[v], []⟩ [("_law_script", v)]) ∧ ∀ base : Heap, K.In base → base.Ns mainGlobals mg → FnOk l.prog w K mg base CX0 3 fa fd ["_law_script"] (DE.spLaw K) := by
  have e := hfa.symm.trans (PySem.W.mg_of X G a9)
  cases e
  have F0 := fun_mk (st := st_0) l0 c0 k0
  have b0 := F0.binds (ps := ["rules"]) fun _ _ _ _ _ _ us hl => match us, hl with | [_], _ => rfl
  have F1 := fun_mk (st := st_1) l1 c1 k1
  have b1 := F1.binds (ps := ["rules"]) fun _ _ _ _ _ _ us hl => match us, hl with | [_], _ => rfl
  have F2 := fun_mk (st := st_2) l2 c2 k2
  have b2 := F2.binds (ps := ["rules", "name"]) fun _ _ _ _ _ _ us hl => match us, hl with | [_, _], _ => rfl
  have F3 := fun_mk (st := st_3) l3 c3 k3
  have b3 := F3.binds (ps := ["_law_script", "_law_k"]) fun _ _ _ _ _ _ us hl => match us, hl with | [_, _], _ => rfl
  have F4 := fun_mk (st := st_4) l4 c4 k4
  have b4 := F4.binds (ps := ["_law_cell", "_law_many"]) fun _ _ _ _ _ _ us hl => match us, hl with | [_, _], _ => rfl
  have F5 := fun_mk (st := st_5) l5 c5 k5
  have b5 := F5.binds (ps := ["_law_cell", "_law_many"]) fun _ _ _ _ _ _ us hl => match us, hl with | [_, _], _ => rfl
  have F6 := fun_mk (st := st_6) l6 c6 k6
  have b6 := F6.binds (ps := ["_law_cell", "_law_pool_here"]) fun _ _ _ _ _ _ us hl => match us, hl with | [_, _], _ => rfl
  have F7 := fun_mk (st := st_7) l7 c7 k7
  have b7 := F7.binds (ps := ["_law_found", "_law_due"]) fun _ _ _ _ _ _ us hl => match us, hl with | [_, _], _ => rfl
  have F8 := fun_mk (st := st_8) l8 c8 k8
  have b8 := F8.binds (ps := ["_law_found", "_law_due"]) fun _ _ _ _ _ _ us hl => match us, hl with | [_, _], _ => rfl
  have F9 := fun_mk (st := st_9) l9 c9 k9
  have b9 := F9.binds (ps := ["_law_script"]) fun _ _ _ _ _ _ us hl => match us, hl with | [_], _ => rfl
  have fa : ∀ d, d ∈ defs → Fact K mg d := by
    intro d hd
    simp only [defs, List.mem_cons, List.not_mem_nil, or_false] at hd
    rcases hd with rfl | rfl | rfl | rfl | rfl | rfl | rfl | rfl | rfl | rfl
    · exact ⟨_, _, F0, b0, PySem.W.mg_of X G a0⟩
    · exact ⟨_, _, F1, b1, PySem.W.mg_of X G a1⟩
    · exact ⟨_, _, F2, b2, PySem.W.mg_of X G a2⟩
    · exact ⟨_, _, F3, b3, PySem.W.mg_of X G a3⟩
    · exact ⟨_, _, F4, b4, PySem.W.mg_of X G a4⟩
    · exact ⟨_, _, F5, b5, PySem.W.mg_of X G a5⟩
    · exact ⟨_, _, F6, b6, PySem.W.mg_of X G a6⟩
    · exact ⟨_, _, F7, b7, PySem.W.mg_of X G a7⟩
    · exact ⟨_, _, F8, b8, PySem.W.mg_of X G a8⟩
    · exact ⟨_, _, F9, b9, PySem.W.mg_of X G a9⟩
  have hb : ∀ x, x ∈ blt → mg x = none := by
    intro x hx
    simp only [blt, List.mem_cons, List.not_mem_nil, or_false] at hx
    rcases hx with rfl | rfl | rfl | rfl | rfl | rfl | rfl | rfl | rfl
    · exact PySem.W.mg_none_of X G z0
    · exact PySem.W.mg_none_of X G z1
    · exact PySem.W.mg_none_of X G z2
    · exact PySem.W.mg_none_of X G z3
    · exact PySem.W.mg_none_of X G z4
    · exact PySem.W.mg_none_of X G z5
    · exact PySem.W.mg_none_of X G z6
    · exact PySem.W.mg_none_of X G z7
    · exact PySem.W.mg_none_of X G z8
  have hc : ∀ p, p ∈ con → ∃ v u, mg p.1 = some u ∧ RelV v u ∧ ∀ G S, Rp K G S p.2 v [] := by
    intro p hp
    cases hp
  exact ⟨_, fun s v => .of_eq rfl, fun base _ _ => law_ok (prog_ok fa goods hb hc 3 9 d_9 rfl _ _ F9) law_true⟩
theorem walk {l : PySem.W.OpenLaw} {q : Program} {loose : List Str} {XP : (Str → Option Value) → Heap → Prop} {YP : World → Heap → Prop} {d : DefRec} {K : Params → PySem.W.Frag} (hn : l.most = some 63) (hdf : d.params.defaults = [])
    (hY : ∀ (w : World) (h : Heap), YP w h → (K w.params).In h)
    (F : ∀ (w : World) (mg : Str → Option Value) (fa : Addr) (h : Heap), (K w.params).In h → h.Ns mainGlobals mg → mg d.name = some (.ref fa) →
      ∃ fd : FuncData, (∀ (s : Shared) (u : Value), BindsTo s fd ⟨[u], []⟩ [("_law_script", u)]) ∧ ∀ base : Heap, (K w.params).In base → base.Ns mainGlobals mg → FnOk l.prog w (K w.params) mg base CX0 3 fa fd ["_law_script"] (DE.spLaw (K w.params))) :
    PySem.W.WalkO q loose XP YP l.row.toRowW d [] (fun f vs => PySem.call f vs) :=
  L2.walk_of (n := 63) (k := 3) (x := "_law_script") (CX := fun _ => CX0) (sp := fun w => DE.spLaw (K w.params)) hn (by decide) hdf ⟨rfl, by decide, by decide⟩ hY F (fun _ _ a ns hl _ hS => ⟨a, ns, rfl, hS, hl, fun _ => rfl⟩) fun _ _ _ _ _ z => z
end Lw

open PySem PySem.W PyProof.Rows in
set_option maxRecDepth 100000 in
set_option maxHeartbeats 0 in
theorem PySem.Challenge.cw_wright_k10_heads_and_words_holds : PySem.Challenge.rw_wright_k10_heads_and_words.Holds := by
  w_on; o_law; k_head; (case hw => w_witness2)
  k_fill
  refine Lw.walk (l := PySem.Challenge.rw_wright_k10_heads_and_words) rfl rfl (fun w h Y => PySem.W.kIn_of Y) ?F
  case F =>
    intro w mg fa h KX G hmg
    refine' Lw.all_mk KX G hmg ?a0 ?l0 ?c0 ?k0 ?a1 ?l1 ?c1 ?k1 ?a2 ?l2 ?c2 ?k2 ?a3 ?l3 ?c3 ?k3 ?a4 ?l4 ?c4 ?k4 ?a5 ?l5 ?c5 ?k5 ?a6 ?l6 ?c6 ?k6 ?a7 ?l7 ?c7 ?k7 ?a8 ?l8 ?c8 ?k8 ?a9 ?l9 ?c9 ?k9 ?z0 ?z1 ?z2 ?z3 ?z4 ?z5 ?z6 ?z7 ?z8
    (case a0 => k_is)
    (case l0 => k_is)
    (case c0 => k_is)
    (case k0 => k_is)
    (case a1 => k_is)
    (case l1 => k_is)
    (case c1 => k_is)
    (case k1 => k_is)
    (case a2 => k_is)
    (case l2 => k_is)
    (case c2 => k_is)
    (case k2 => k_is)
    (case a3 => k_is)
    (case l3 => k_is)
    (case c3 => k_is)
    (case k3 => k_is)
    (case a4 => k_is)
    (case l4 => k_is)
    (case c4 => k_is)
    (case k4 => k_is)
    (case a5 => k_is)
    (case l5 => k_is)
    (case c5 => k_is)
    (case k5 => k_is)
    (case a6 => k_is)
    (case l6 => k_is)
    (case c6 => k_is)
    (case k6 => k_is)
    (case a7 => k_is)
    (case l7 => k_is)
    (case c7 => k_is)
    (case k7 => k_is)
    (case a8 => k_is)
    (case l8 => k_is)
    (case c8 => k_is)
    (case k8 => k_is)
    (case a9 => k_is)
    (case l9 => k_is)
    (case c9 => k_is)
    (case k9 => k_is)
    (case z0 => k_is)
    (case z1 => k_is)
    (case z2 => k_is)
    (case z3 => k_is)
    (case z4 => k_is)
    (case z5 => k_is)
    (case z6 => k_is)
    (case z7 => k_is)
    (case z8 => k_is)
