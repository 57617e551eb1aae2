import PyProof.Rows.All
import Wide.All
import OpenK.AllK
import Wide.FinOn
import HandS.ForMost
import HandS.Evl
import HandS.IsInst
import HandS.TupAny
import HandS.More
import HandS.Zip
import HandS.Rev
import KE.KDictZip
import PySem.Challenge.RW_wright_k29_trees_by_anybody
set_option Elab.async false
set_option linter.all false
set_option maxRecDepth 100000
namespace DE
open PySem PySem.Spec L2
inductive D where
  | non
  | bl (b : Bool)
  | int (i : Int)
  | str (x : Str)
  | tup (ds : List D)
  | lst (m : Bool) (ds : List D)
  | dK (m : Bool) (ks : List Key) (vs : List D)
  | scr (ds : List D)
mutual
def frz : D → D
  | .non => .non
  | .bl b => .bl b
  | .int i => .int i
  | .str x => .str x
  | .tup ds => .tup (frzL ds)
  | .lst _ ds => .lst false (frzL ds)
  | .dK _ ks vs => .dK false ks (frzL vs)
  | .scr ds => .scr (frzL ds)
def frzL : List D → List D
  | [] => []
  | d :: ds => frz d :: frzL ds
end
def frzK : D → D
  | .lst m ds => .lst m (frzL ds)
  | .dK m ks vs => .dK m ks (frzL vs)
  | d => frz d
def D.sc : D → Bool
  | .non => true
  | .bl _ => true
  | .int _ => true
  | .str _ => true
  | _ => false
theorem frzL_map : ∀ ds : List D, frzL ds = ds.map frz
  | [] => rfl
  | d :: ds => by show frz d :: frzL ds = _; rw [frzL_map ds]; rfl
theorem frzL_length (ds : List D) : (frzL ds).length = ds.length := by rw [frzL_map, List.length_map]
mutual
theorem frz_frz : ∀ d : D, frz (frz d) = frz d
  | .non => rfl
  | .bl _ => rfl
  | .int _ => rfl
  | .str _ => rfl
  | .tup ds => by show D.tup (frzL (frzL ds)) = _; rw [frzL_frzL ds]; rfl
  | .lst _ ds => by show D.lst false (frzL (frzL ds)) = _; rw [frzL_frzL ds]; rfl
  | .dK _ ks vs => by show D.dK false ks (frzL (frzL vs)) = _; rw [frzL_frzL vs]; rfl
  | .scr ds => by show D.scr (frzL (frzL ds)) = _; rw [frzL_frzL ds]; rfl
theorem frzL_frzL : ∀ ds : List D, frzL (frzL ds) = frzL ds
  | [] => rfl
  | d :: ds => by show frz (frz d) :: frzL (frzL ds) = _; rw [frz_frz d, frzL_frzL ds]; rfl
end
theorem frz_sc {d : D} (e : d.sc = true) : frz d = d := by
  cases d <;> first | rfl | cases e
def KT (K : PySem.W.Frag) (p : Addr) (vs : List V) : Prop := SqT K (fun _ => none) p vs
def KL (K : PySem.W.Frag) (p : Addr) (vs : List V) : Prop := SqL K (fun _ => none) p vs
theorem KT.to {K : PySem.W.Frag} {G : Hp} {p : Addr} {vs : List V} (h : KT K p vs) : SqT K G p vs := by
  rcases h with (h | ⟨o, h⟩) | h
  · cases h
  · cases h
  · exact .inr h
theorem KL.to {K : PySem.W.Frag} {G : Hp} {p : Addr} {vs : List V} (h : KL K p vs) : SqL K G p vs := by
  rcases h with (h | ⟨o, h⟩) | h
  · cases h
  · cases h
  · exact .inr h
mutual
def Rp (K : PySem.W.Frag) (G : Hp) (S : Addr → Prop) : D → V → List Addr → Prop
  | .non, v, F => v = .non ∧ F = []
  | .bl b, v, F => v = .bl b ∧ F = []
  | .int i, v, F => v = .int i ∧ F = []
  | .str x, v, F => v = .str x ∧ F = []
  | .tup ds, v, F => ∃ p vs, v = .ref p ∧ ((S p ∧ G p = some (.tup vs)) ∨ KT K p vs) ∧ RpL K G S ds vs F
  | .lst false ds, v, F => F = [] ∧ ∃ p vs, v = .ref p ∧ S p ∧ G p = some (.lst vs) ∧ RpL K G S ds vs []
  | .lst true ds, v, F => ∃ p vs F', v = .ref p ∧ F = p :: F' ∧ G p = some (.lst vs) ∧ RpL K G S ds vs F'
  | .dK false ks ds, v, F => F = [] ∧ ∃ p vs, v = .ref p ∧ S p ∧ G p = some (.dK (ks.zip vs)) ∧ ks.length = vs.length ∧ RpL K G S ds vs []
  | .dK true ks ds, v, F => ∃ p vs F', v = .ref p ∧ F = p :: F' ∧ G p = some (.dK (ks.zip vs)) ∧ ks.length = vs.length ∧ RpL K G S ds vs F'
  | .scr ds, v, F => F = [] ∧ ∃ p vs, v = .ref p ∧ ((S p ∧ Rd G p (.lst vs)) ∨ KL K p vs) ∧ RpL K G S ds vs []
def RpL (K : PySem.W.Frag) (G : Hp) (S : Addr → Prop) : List D → List V → List Addr → Prop
  | [], vs, F => vs = [] ∧ F = []
  | d :: ds, vs, F => ∃ v vs' F1 F2, vs = v :: vs' ∧ F = F1 ++ F2 ∧ Rp K G S d v F1 ∧ RpL K G S ds vs' F2
end
section
variable {K : PySem.W.Frag} {G G' : Hp} {S S' : Addr → Prop}
theorem RpL.length : ∀ {ds : List D} {vs : List V} {F : List Addr}, RpL K G S ds vs F → ds.length = vs.length
  | [], _, _, h => by rw [h.1]; rfl
  | d :: ds, vs, F, ⟨v, vs', F1, F2, e, _, _, h⟩ => by rw [e, List.length_cons, List.length_cons, RpL.length h]
mutual
theorem Rp.mono : ∀ {d : D} {v : V} {F : List Addr}, Rp K G S d v F → (∀ p o, S p → G p = some o → G' p = some o) → (∀ p, p ∈ F → G' p = G p) → (∀ p, S p → S' p) → Rp K G' S' d v F
  | .non, _, _, h, _, _, _ => h
  | .bl _, _, _, h, _, _, _ => h
  | .int _, _, _, h, _, _, _ => h
  | .str _, _, _, h, _, _, _ => h
  | .tup ds, _, _, ⟨p, vs, e, h, r⟩, a, b, c => by
    refine ⟨p, vs, e, ?_, RpL.mono r a b c⟩
    rcases h with ⟨h1, h2⟩ | h
    · exact .inl ⟨c p h1, a p _ h1 h2⟩
    · exact .inr h
  | .scr ds, _, _, ⟨z, p, vs, e, h, r⟩, a, b, c => by
    refine ⟨z, p, vs, e, ?_, RpL.mono r a (fun p hp => by cases hp) c⟩
    rcases h with ⟨h1, h2⟩ | h
    · exact .inl ⟨c p h1, h2.imp (a p _ h1) fun ⟨o, q⟩ => ⟨o, a p _ h1 q⟩⟩
    · exact .inr h
  | .lst false ds, _, _, ⟨z, p, vs, e, h1, h2, r⟩, a, b, c => ⟨z, p, vs, e, c p h1, a p _ h1 h2, RpL.mono r a (fun p hp => by cases hp) c⟩
  | .lst true ds, _, _, ⟨p, vs, F', e, z, h, r⟩, a, b, c => by
    subst z
    exact ⟨p, vs, F', e, rfl, by rw [b p (List.mem_cons_self ..)]; exact h, RpL.mono r a (fun q hq => b q (List.mem_cons_of_mem _ hq)) c⟩
  | .dK false ks ds, _, _, ⟨z, p, vs, e, h1, h2, l, r⟩, a, b, c => ⟨z, p, vs, e, c p h1, a p _ h1 h2, l, RpL.mono r a (fun p hp => by cases hp) c⟩
  | .dK true ks ds, _, _, ⟨p, vs, F', e, z, h, l, r⟩, a, b, c => by
    subst z
    exact ⟨p, vs, F', e, rfl, by rw [b p (List.mem_cons_self ..)]; exact h, l, RpL.mono r a (fun q hq => b q (List.mem_cons_of_mem _ hq)) c⟩
theorem RpL.mono : ∀ {ds : List D} {vs : List V} {F : List Addr}, RpL K G S ds vs F → (∀ p o, S p → G p = some o → G' p = some o) → (∀ p, p ∈ F → G' p = G p) → (∀ p, S p → S' p) → RpL K G' S' ds vs F
  | [], _, _, h, _, _, _ => h
  | d :: ds, _, _, ⟨v, vs', F1, F2, e, z, h, r⟩, a, b, c => by
    subst z
    exact ⟨v, vs', F1, F2, e, rfl, Rp.mono h a (fun p hp => b p (List.mem_append_left _ hp)) c, RpL.mono r a (fun p hp => b p (List.mem_append_right _ hp)) c⟩
end
mutual
theorem Rp.dom : ∀ {d : D} {v : V} {F : List Addr}, Rp K G S d v F → ∀ p, p ∈ F → ∃ o, G p = some o
  | .non, _, _, h, p, hp => by rw [h.2] at hp; cases hp
  | .bl _, _, _, h, p, hp => by rw [h.2] at hp; cases hp
  | .int _, _, _, h, p, hp => by rw [h.2] at hp; cases hp
  | .str _, _, _, h, p, hp => by rw [h.2] at hp; cases hp
  | .tup ds, _, _, ⟨_, _, _, _, r⟩, p, hp => RpL.dom r p hp
  | .lst false ds, _, _, ⟨z, _⟩, p, hp => by rw [z] at hp; cases hp
  | .lst true ds, _, _, ⟨q, vs, F', e, z, h, r⟩, p, hp => by
    subst z
    rcases List.mem_cons.mp hp with rfl | hp
    · exact ⟨_, h⟩
    · exact RpL.dom r p hp
  | .dK false ks ds, _, _, ⟨z, _⟩, p, hp => by rw [z] at hp; cases hp
  | .dK true ks ds, _, _, ⟨q, vs, F', e, z, h, l, r⟩, p, hp => by
    subst z
    rcases List.mem_cons.mp hp with rfl | hp
    · exact ⟨_, h⟩
    · exact RpL.dom r p hp
  | .scr ds, _, _, ⟨z, _⟩, p, hp => by rw [z] at hp; cases hp
theorem RpL.dom : ∀ {ds : List D} {vs : List V} {F : List Addr}, RpL K G S ds vs F → ∀ p, p ∈ F → ∃ o, G p = some o
  | [], _, _, h, p, hp => by rw [h.2] at hp; cases hp
  | d :: ds, _, _, ⟨v, vs', F1, F2, e, z, h, r⟩, p, hp => by
    subst z
    rcases List.mem_append.mp hp with hp | hp
    · exact Rp.dom h p hp
    · exact RpL.dom r p hp
end
mutual
theorem Rp.frz : ∀ {d : D} {v : V} {F : List Addr}, Rp K G S d v F → (∀ p, S p → S' p) → (∀ p, p ∈ F → S' p) → Rp K G S' (frz d) v []
  | .non, _, _, h, _, _ => ⟨h.1, rfl⟩
  | .bl _, _, _, h, _, _ => ⟨h.1, rfl⟩
  | .int _, _, _, h, _, _ => ⟨h.1, rfl⟩
  | .str _, _, _, h, _, _ => ⟨h.1, rfl⟩
  | .tup ds, _, _, ⟨p, vs, e, h, r⟩, a, b => by
    refine ⟨p, vs, e, ?_, RpL.frz r a b⟩
    rcases h with ⟨h1, h2⟩ | h
    · exact .inl ⟨a p h1, h2⟩
    · exact .inr h
  | .lst false ds, _, _, ⟨z, p, vs, e, h1, h2, r⟩, a, b => ⟨rfl, p, vs, e, a p h1, h2, RpL.frz r a (fun p hp => by cases hp)⟩
  | .scr ds, _, _, ⟨z, p, vs, e, h, r⟩, a, b => ⟨rfl, p, vs, e, h.imp (fun q => ⟨a p q.1, q.2⟩) id, RpL.frz r a (fun p hp => by cases hp)⟩
  | .lst true ds, _, _, ⟨p, vs, F', e, z, h, r⟩, a, b => by
    subst z
    exact ⟨rfl, p, vs, e, b p (List.mem_cons_self ..), h, RpL.frz r a (fun q hq => b q (List.mem_cons_of_mem _ hq))⟩
  | .dK false ks ds, _, _, ⟨z, p, vs, e, h1, h2, l, r⟩, a, b => ⟨rfl, p, vs, e, a p h1, h2, l, RpL.frz r a (fun p hp => by cases hp)⟩
  | .dK true ks ds, _, _, ⟨p, vs, F', e, z, h, l, r⟩, a, b => by
    subst z
    exact ⟨rfl, p, vs, e, b p (List.mem_cons_self ..), h, l, RpL.frz r a (fun q hq => b q (List.mem_cons_of_mem _ hq))⟩
theorem RpL.frz : ∀ {ds : List D} {vs : List V} {F : List Addr}, RpL K G S ds vs F → (∀ p, S p → S' p) → (∀ p, p ∈ F → S' p) → RpL K G S' (frzL ds) vs []
  | [], _, _, h, _, _ => ⟨h.1, rfl⟩
  | d :: ds, _, _, ⟨v, vs', F1, F2, e, z, h, r⟩, a, b => by
    subst z
    exact ⟨v, vs', [], [], e, rfl, Rp.frz h a (fun p hp => b p (List.mem_append_left _ hp)), RpL.frz r a (fun p hp => b p (List.mem_append_right _ hp))⟩
end
mutual
theorem Rp.nil : ∀ {d : D} {v : V} {F : List Addr}, Rp K G S d v F → DE.frz d = d → F = []
  | .non, _, _, h, _ => h.2
  | .bl _, _, _, h, _ => h.2
  | .int _, _, _, h, _ => h.2
  | .str _, _, _, h, _ => h.2
  | .tup ds, _, _, ⟨_, _, _, _, r⟩, e => RpL.nil r (by injection e)
  | .lst false ds, _, _, h, _ => h.1
  | .lst true ds, _, _, _, e => by injection e with e _; cases e
  | .dK false ks ds, _, _, h, _ => h.1
  | .dK true ks ds, _, _, _, e => by injection e with e _ _; cases e
  | .scr ds, _, _, h, _ => h.1
theorem RpL.nil : ∀ {ds : List D} {vs : List V} {F : List Addr}, RpL K G S ds vs F → frzL ds = ds → F = []
  | [], _, _, h, _ => h.2
  | d :: ds, _, _, ⟨v, vs', F1, F2, _, z, h, r⟩, e => by
    injection e with e1 e2
    rw [z, Rp.nil h e1, RpL.nil r e2]; rfl
end
theorem Rp.sc_nil {d : D} {v : V} {F : List Addr} (h : Rp K G S d v F) (e : d.sc = true) : F = [] := h.nil (frz_sc e)
theorem Rp.sc_any {d : D} {v : V} {F : List Addr} (h : Rp K G S d v F) (e : d.sc = true) : Rp K G' S' d v [] := by
  cases d with
  | non => exact ⟨h.1, rfl⟩
  | bl b => exact ⟨h.1, rfl⟩
  | int i => exact ⟨h.1, rfl⟩
  | str x => exact ⟨h.1, rfl⟩
  | tup _ => cases e
  | lst _ _ => cases e
  | dK _ _ _ => cases e
  | scr _ => cases e
theorem Rp.frzK : ∀ {d : D} {v : V} {F : List Addr}, Rp K G S d v F → F.Nodup → ∃ F0, (∀ p, p ∈ F0 → p ∈ F) ∧ F0.Nodup ∧ ∀ S' : Addr → Prop, (∀ p, S p → S' p) → (∀ p, p ∈ F → p ∉ F0 → S' p) → Rp K G S' (frzK d) v F0
  | .non, _, _, h, _ => ⟨[], (fun p hp => by cases hp), .nil, fun S' a b => h.frz a (fun p hp => b p hp (by simp))⟩
  | .bl _, _, _, h, _ => ⟨[], (fun p hp => by cases hp), .nil, fun S' a b => h.frz a (fun p hp => b p hp (by simp))⟩
  | .int _, _, _, h, _ => ⟨[], (fun p hp => by cases hp), .nil, fun S' a b => h.frz a (fun p hp => b p hp (by simp))⟩
  | .str _, _, _, h, _ => ⟨[], (fun p hp => by cases hp), .nil, fun S' a b => h.frz a (fun p hp => b p hp (by simp))⟩
  | .tup ds, _, _, h, _ => ⟨[], (fun p hp => by cases hp), .nil, fun S' a b => h.frz a (fun p hp => b p hp (by simp))⟩
  | .lst false ds, _, _, h, _ => ⟨[], (fun p hp => by cases hp), .nil, fun S' a b => h.frz a (fun p hp => b p hp (by simp))⟩
  | .scr ds, _, _, h, _ => ⟨[], (fun p hp => by cases hp), .nil, fun S' a b => h.frz a (fun p hp => b p hp (by simp))⟩
  | .dK false ks ds, _, _, h, _ => ⟨[], (fun p hp => by cases hp), .nil, fun S' a b => h.frz a (fun p hp => b p hp (by simp))⟩
  | .lst true ds, _, _, ⟨p, vs, F', e, z, h, r⟩, nd => by
    subst z
    refine ⟨[p], (fun q hq => by rw [List.mem_singleton.mp hq]; exact List.mem_cons_self ..), List.nodup_cons.mpr ⟨by simp, .nil⟩, fun S' a b => ⟨p, vs, [], e, rfl, h, r.frz a fun q hq => ?_⟩⟩
    refine b q (List.mem_cons_of_mem _ hq) fun hq' => ?_
    rw [List.mem_singleton.mp hq'] at hq
    exact (List.nodup_cons.mp nd).1 hq
  | .dK true ks ds, _, _, ⟨p, vs, F', e, z, h, l, r⟩, nd => by
    subst z
    refine ⟨[p], (fun q hq => by rw [List.mem_singleton.mp hq]; exact List.mem_cons_self ..), List.nodup_cons.mpr ⟨by simp, .nil⟩, fun S' a b => ⟨p, vs, [], e, rfl, h, l, r.frz a fun q hq => ?_⟩⟩
    refine b q (List.mem_cons_of_mem _ hq) fun hq' => ?_
    rw [List.mem_singleton.mp hq'] at hq
    exact (List.nodup_cons.mp nd).1 hq
theorem RpL.append : ∀ {ds es : List D} {vs ws : List V} {F1 F2 : List Addr}, RpL K G S ds vs F1 → RpL K G S es ws F2 → RpL K G S (ds ++ es) (vs ++ ws) (F1 ++ F2) := by
  intro ds
  induction ds with
  | nil =>
    intro es vs ws F1 F2 h h2
    obtain ⟨e1, e2⟩ := h
    subst e1 e2
    exact h2
  | cons d ds ih =>
    intro es vs ws F1 F2 h h2
    obtain ⟨v, vs', A, B, e, z, h, r⟩ := h
    subst e z
    exact ⟨v, vs' ++ ws, A, B ++ F2, rfl, by rw [List.append_assoc], h, ih r h2⟩
theorem RpL.get : ∀ {ds : List D} {vs : List V} {i : Nat} {d : D}, RpL K G S ds vs [] → ds[i]? = some d → ∃ v, vs[i]? = some v ∧ Rp K G S d v [] := by
  intro ds
  induction ds with
  | nil =>
    intro vs i d h g
    simp at g
  | cons d0 ds ih =>
    intro vs i d h g
    obtain ⟨v, vs', A, B, e, z, h, r⟩ := h
    subst e
    have hz := List.append_eq_nil_iff.mp z.symm
    cases i with
    | zero =>
      simp at g
      subst g
      rw [hz.1] at h
      exact ⟨v, rfl, h⟩
    | succ i =>
      rw [hz.2] at r
      simp at g
      obtain ⟨u, hu, ru⟩ := ih r g
      exact ⟨u, by simpa using hu, ru⟩
end
end DE
namespace DE
open PySem PySem.Spec L2
abbrev En := List (Option D)
def REnv (K : PySem.W.Frag) (G : Hp) (S : Addr → Prop) : En → St → List Addr → Prop
  | [], σ, F => σ = [] ∧ F = []
  | none :: E, σ, F => ∃ w σ', σ = w :: σ' ∧ REnv K G S E σ' F
  | some d :: E, σ, F => ∃ v σ' F1 F2, σ = some v :: σ' ∧ F = F1 ++ F2 ∧ Rp K G S d v F1 ∧ REnv K G S E σ' F2
section
variable {K : PySem.W.Frag} {G G' : Hp} {S S' : Addr → Prop}
theorem REnv.len : ∀ {E : En} {σ : St} {F : List Addr}, REnv K G S E σ F → E.length = σ.length := by
  intro E
  induction E with
  | nil => intro σ F h; rw [h.1]; rfl
  | cons e E ih =>
    intro σ F h
    cases e with
    | none => obtain ⟨w, σ', e, h⟩ := h; rw [e, List.length_cons, List.length_cons, ih h]
    | some d => obtain ⟨v, σ', F1, F2, e, _, _, h⟩ := h; rw [e, List.length_cons, List.length_cons, ih h]
theorem REnv.mono : ∀ {E : En} {σ : St} {F : List Addr}, REnv K G S E σ F → (∀ p o, S p → G p = some o → G' p = some o) → (∀ p, p ∈ F → G' p = G p) → (∀ p, S p → S' p) → REnv K G' S' E σ F := by
  intro E
  induction E with
  | nil => intro σ F h _ _ _; exact h
  | cons e E ih =>
    intro σ F h a b c
    cases e with
    | none => obtain ⟨w, σ', e, h⟩ := h; exact ⟨w, σ', e, ih h a b c⟩
    | some d =>
      obtain ⟨v, σ', F1, F2, e, z, r, h⟩ := h
      subst z
      exact ⟨v, σ', F1, F2, e, rfl, r.mono a (fun p hp => b p (List.mem_append_left _ hp)) c, ih h a (fun p hp => b p (List.mem_append_right _ hp)) c⟩
theorem REnv.dom : ∀ {E : En} {σ : St} {F : List Addr}, REnv K G S E σ F → ∀ p, p ∈ F → ∃ o, G p = some o := by
  intro E
  induction E with
  | nil => intro σ F h p hp; rw [h.2] at hp; cases hp
  | cons e E ih =>
    intro σ F h p hp
    cases e with
    | none => obtain ⟨w, σ', e, h⟩ := h; exact ih h p hp
    | some d =>
      obtain ⟨v, σ', F1, F2, e, z, r, h⟩ := h
      subst z
      rcases List.mem_append.mp hp with hp | hp
      · exact r.dom p hp
      · exact ih h p hp
theorem REnv.get : ∀ {E : En} {σ : St} {F : List Addr} {i : Nat} {d : D}, REnv K G S E σ F → E[i]? = some (some d) → ∃ v F1 Fr, σ[i]? = some (some v) ∧ Rp K G S d v F1 ∧ REnv K G S (E.set i none) σ Fr ∧ F.Perm (F1 ++ Fr) := by
  intro E
  induction E with
  | nil => intro σ F i d h e; simp at e
  | cons x E ih =>
    intro σ F i d h e
    cases i with
    | zero =>
      simp at e
      subst e
      obtain ⟨v, σ', F1, F2, e, z, r, h⟩ := h
      subst e z
      exact ⟨v, F1, F2, rfl, r, ⟨some v, σ', rfl, h⟩, .refl _⟩
    | succ i =>
      simp at e
      cases x with
      | none =>
        obtain ⟨w, σ', e1, h⟩ := h
        obtain ⟨v, F1, Fr, g1, g2, g3, g4⟩ := ih h e
        subst e1
        exact ⟨v, F1, Fr, by simpa using g1, g2, ⟨w, σ', rfl, g3⟩, g4⟩
      | some d0 =>
        obtain ⟨v0, σ', A, B, e1, z, r, h⟩ := h
        obtain ⟨v, F1, Fr, g1, g2, g3, g4⟩ := ih h e
        subst e1 z
        refine ⟨v, F1, A ++ Fr, by simpa using g1, g2, ⟨v0, σ', A, Fr, rfl, rfl, r, g3⟩, ?_⟩
        have q : (A ++ B).Perm (A ++ (F1 ++ Fr)) := List.Perm.append_left A g4
        have q2 : (A ++ (F1 ++ Fr)).Perm (F1 ++ (A ++ Fr)) := by
          rw [← List.append_assoc, ← List.append_assoc]
          exact List.Perm.append_right Fr List.perm_append_comm
        exact q.trans q2
theorem REnv.drop : ∀ {E : En} {σ : St} {F : List Addr} (i : Nat) (w : Option V), REnv K G S E σ F → ∃ F', REnv K G S (E.set i none) (σ.set i w) F' ∧ F'.Sublist F := by
  intro E
  induction E with
  | nil =>
    intro σ F i w h
    obtain ⟨e1, e2⟩ := h
    subst e1 e2
    exact ⟨[], ⟨rfl, rfl⟩, .refl _⟩
  | cons x E ih =>
    intro σ F i w h
    cases i with
    | zero =>
      cases x with
      | none =>
        obtain ⟨u, σ', e, h⟩ := h
        subst e
        exact ⟨F, ⟨w, σ', rfl, h⟩, .refl _⟩
      | some d =>
        obtain ⟨v, σ', A, B, e, z, r, h⟩ := h
        subst e z
        exact ⟨B, ⟨w, σ', rfl, h⟩, List.sublist_append_right A B⟩
    | succ i =>
      cases x with
      | none =>
        obtain ⟨u, σ', e, h⟩ := h
        subst e
        obtain ⟨F', h', s⟩ := ih i w h
        exact ⟨F', ⟨u, σ'.set i w, rfl, h'⟩, s⟩
      | some d =>
        obtain ⟨v, σ', A, B, e, z, r, h⟩ := h
        subst e z
        obtain ⟨F', h', s⟩ := ih i w h
        exact ⟨A ++ F', ⟨v, σ'.set i w, A, F', rfl, rfl, r, h'⟩, List.Sublist.append (.refl _) s⟩
theorem REnv.put : ∀ {E : En} {σ : St} {F : List Addr} {i : Nat} {d : D} {v : V} {F1 : List Addr}, REnv K G S E σ F → E[i]? = some none → Rp K G S d v F1 → ∃ F', REnv K G S (E.set i (some d)) (σ.set i (some v)) F' ∧ F'.Perm (F1 ++ F) := by
  intro E
  induction E with
  | nil => intro σ F i d v F1 h e; simp at e
  | cons x E ih =>
    intro σ F i d v F1 h e r
    cases i with
    | zero =>
      simp at e
      subst e
      obtain ⟨w, σ', e, h⟩ := h
      subst e
      exact ⟨F1 ++ F, ⟨v, σ', F1, F, rfl, rfl, r, h⟩, .refl _⟩
    | succ i =>
      simp at e
      cases x with
      | none =>
        obtain ⟨w, σ', e1, h⟩ := h
        subst e1
        obtain ⟨F', h', p⟩ := ih h e r
        exact ⟨F', ⟨w, _, rfl, h'⟩, p⟩
      | some d0 =>
        obtain ⟨v0, σ', A, B, e1, z, r0, h⟩ := h
        subst e1 z
        obtain ⟨F', h', p⟩ := ih h e r
        refine ⟨A ++ F', ⟨v0, _, A, F', rfl, rfl, r0, h'⟩, (List.Perm.append_left A p).trans ?_⟩
        rw [← List.append_assoc, ← List.append_assoc]
        exact List.Perm.append_right B List.perm_append_comm
end
structure SR (K : PySem.W.Frag) (G : Hp) (S : Addr → Prop) (E : En) (σ : St) (F : List Addr) : Prop where
  rep : REnv K G S E σ F
  nd : F.Nodup
  ns : ∀ a, a ∈ F → ¬ S a
  sd : ∀ a, S a → ∃ o, G a = some o
structure Stp (G : Hp) (S : Addr → Prop) (F : List Addr) (G' : Hp) (S' : Addr → Prop) (F' : List Addr) : Prop where
  keep : ∀ a o, G a = some o → a ∉ F → G' a = some o
  live : ∀ a o, G a = some o → ∃ o', G' a = some o'
  fs : ∀ a, a ∈ F' → a ∈ F ∨ G a = none
  ss : ∀ a, S a → S' a
  sn : ∀ a, S' a → S a ∨ a ∈ F ∨ G a = none
theorem Stp.refl {G : Hp} {S : Addr → Prop} {F : List Addr} : Stp G S F G S F := ⟨fun _ _ h _ => h, fun _ o h => ⟨o, h⟩, fun _ h => .inl h, fun _ h => h, fun _ h => .inl h⟩
theorem Stp.back {G G' : Hp} {S S' : Addr → Prop} {F F' : List Addr} (s : Stp G S F G' S' F') {a : Addr} (h : G' a = none) : G a = none := by
  cases q : G a with
  | none => rfl
  | some o =>
    obtain ⟨o', e⟩ := s.live a o q
    rw [h] at e; cases e
theorem Stp.trans {G G1 G2 : Hp} {S S1 S2 : Addr → Prop} {F F1 F2 : List Addr} (s : Stp G S F G1 S1 F1) (t : Stp G1 S1 F1 G2 S2 F2) : Stp G S F G2 S2 F2 where
  keep := fun a o h n => t.keep a o (s.keep a o h n) fun m => by
    rcases s.fs a m with m | m
    · exact n m
    · rw [h] at m; cases m
  live := fun a o h => by
    obtain ⟨o', e⟩ := s.live a o h
    exact t.live a o' e
  fs := fun a h => by
    rcases t.fs a h with h | h
    · exact s.fs a h
    · exact .inr (s.back h)
  ss := fun a h => t.ss a (s.ss a h)
  sn := fun a h => by
    rcases t.sn a h with h | h | h
    · exact s.sn a h
    · exact .inr (s.fs a h)
    · exact .inr (.inr (s.back h))
theorem Stp.less {G G' : Hp} {S S' : Addr → Prop} {F F' F2 : List Addr} (s : Stp G S F G' S' F') (h : ∀ a, a ∈ F2 → a ∈ F') : Stp G S F G' S' F2 := ⟨s.keep, s.live, fun a m => s.fs a (h a m), s.ss, s.sn⟩
theorem Stp.more {G G' : Hp} {S S' : Addr → Prop} {F F' F0 : List Addr} (s : Stp G S F G' S' F') (h : ∀ a, a ∈ F → a ∈ F0) : Stp G S F0 G' S' F' :=
  ⟨fun a o e n => s.keep a o e fun m => n (h a m), s.live, fun a m => (s.fs a m).imp (h a) id, s.ss, fun a m => (s.sn a m).imp id fun z => z.imp (h a) id⟩
theorem Stp.frame {G G' : Hp} {S S' : Addr → Prop} {F F' R : List Addr} (s : Stp G S F G' S' F') : Stp G S (R ++ F) G' S' (R ++ F') :=
  ⟨fun a o e n => s.keep a o e fun m => n (List.mem_append_right _ m), s.live, fun a m => by
    rcases List.mem_append.mp m with m | m
    · exact .inl (List.mem_append_left _ m)
    · exact (s.fs a m).imp (List.mem_append_right _) id, s.ss, fun a m => (s.sn a m).imp id fun z => z.imp (List.mem_append_right _) id⟩
theorem Stp.rd {G G' : Hp} {S S' : Addr → Prop} {F F' : List Addr} (s : Stp G S F G' S' F') (ns : ∀ a, a ∈ F → ¬ S a) : ∀ p o, S p → G p = some o → G' p = some o := fun p o h r => s.keep p o r fun m => ns p m h
theorem Stp.rp {K : PySem.W.Frag} {G G' : Hp} {S S' : Addr → Prop} {F F' T : List Addr} {d : D} {v : V} (s : Stp G S F G' S' F') (ns : ∀ a, a ∈ F → ¬ S a) (r : Rp K G S d v T) (ap : ∀ a, a ∈ T → a ∉ F) : Rp K G' S' d v T :=
  r.mono (s.rd ns) (fun p hp => by
    obtain ⟨o, e⟩ := r.dom p hp
    rw [e, s.keep p o e (ap p hp)]) s.ss
inductive Opd where
  | slot (i : Nat)
  | temp (d : D)
def RpO (K : PySem.W.Frag) (σ : St) (G : Hp) (S : Addr → Prop) : Opd → V → List Addr → Prop
  | .slot i, v, T => σ[i]? = some (some v) ∧ T = []
  | .temp d, v, T => Rp K G S d v T
def RpOs (K : PySem.W.Frag) (σ : St) (G : Hp) (S : Addr → Prop) : List Opd → List V → List Addr → Prop
  | [], vs, T => vs = [] ∧ T = []
  | o :: os, vs, T => ∃ v vs' T1 T2, vs = v :: vs' ∧ T = T1 ++ T2 ∧ RpO K σ G S o v T1 ∧ RpOs K σ G S os vs' T2
section
variable {K : PySem.W.Frag} {σ : St} {G G' G1 G2 : Hp} {S S' S1 S2 : Addr → Prop} {F F' F1 F2 T T1 T2 : List Addr} {E E' E1 E2 : En} {os os' : List Opd} {vs vs' : List V}
theorem RpO.dom : ∀ {o : Opd} {v : V}, RpO K σ G S o v T → ∀ p, p ∈ T → ∃ u, G p = some u
  | .slot i, _, h, p, hp => by rw [h.2] at hp; cases hp
  | .temp d, _, h, p, hp => Rp.dom h p hp
theorem RpO.mono : ∀ {o : Opd} {v : V}, RpO K σ G S o v T → (∀ p o, S p → G p = some o → G' p = some o) → (∀ p, p ∈ T → G' p = G p) → (∀ p, S p → S' p) → RpO K σ G' S' o v T
  | .slot i, _, h, _, _, _ => h
  | .temp d, _, h, a, b, c => Rp.mono h a b c
theorem RpOs.dom : ∀ {os : List Opd} {vs : List V} {T : List Addr}, RpOs K σ G S os vs T → ∀ p, p ∈ T → ∃ u, G p = some u := by
  intro os
  induction os with
  | nil => intro vs T h p hp; rw [h.2] at hp; cases hp
  | cons o os ih =>
    intro vs T h p hp
    obtain ⟨v, vs', T1, T2, e, z, r, h⟩ := h
    subst z
    rcases List.mem_append.mp hp with hp | hp
    · exact r.dom p hp
    · exact ih h p hp
theorem RpOs.mono : ∀ {os : List Opd} {vs : List V} {T : List Addr}, RpOs K σ G S os vs T → (∀ p o, S p → G p = some o → G' p = some o) → (∀ p, p ∈ T → G' p = G p) → (∀ p, S p → S' p) → RpOs K σ G' S' os vs T := by
  intro os
  induction os with
  | nil => intro vs T h _ _ _; exact h
  | cons o os ih =>
    intro vs T h a b c
    obtain ⟨v, vs', T1, T2, e, z, r, h⟩ := h
    subst z
    exact ⟨v, vs', T1, T2, e, rfl, r.mono a (fun p hp => b p (List.mem_append_left _ hp)) c, ih h a (fun p hp => b p (List.mem_append_right _ hp)) c⟩
theorem RpOs.append : ∀ {os os' : List Opd} {vs vs' : List V} {T T' : List Addr}, RpOs K σ G S os vs T → RpOs K σ G S os' vs' T' → RpOs K σ G S (os ++ os') (vs ++ vs') (T ++ T') := by
  intro os
  induction os with
  | nil =>
    intro os' vs vs' T T' h h'
    obtain ⟨e, z⟩ := h
    subst e z
    exact h'
  | cons o os ih =>
    intro os' vs vs' T T' h h'
    obtain ⟨v, vs1, T1, T2, e, z, r, h⟩ := h
    subst e z
    exact ⟨v, vs1 ++ vs', T1, T2 ++ T', rfl, by rw [List.append_assoc], r, ih h h'⟩
theorem RpOs.one {o : Opd} {v : V} : RpOs K σ G S [o] [v] T → RpO K σ G S o v T := by
  rintro ⟨v', vs', T1, T2, e, z, r, h⟩
  obtain ⟨e2, z2⟩ := h
  subst z2 z
  injection e with e1 _
  subst e1
  simpa using r
theorem RpOs.of {o : Opd} {v : V} (h : RpO K σ G S o v T) : RpOs K σ G S [o] [v] T := ⟨v, [], T, [], rfl, by simp, h, rfl, rfl⟩
structure RO (K : PySem.W.Frag) (σ : St) (G : Hp) (S : Addr → Prop) (F : List Addr) (E' : En) (os : List Opd) (vs : List V) (G' : Hp) (S' : Addr → Prop) (T F' : List Addr) : Prop where
  sr : SR K G' S' E' σ F'
  ro : RpOs K σ G' S' os vs T
  nd : (T ++ F').Nodup
  ns : ∀ a, a ∈ T → ¬ S' a
  stp : Stp G S F G' S' (T ++ F')
theorem RO.nil (h : SR K G S E σ F) : RO K σ G S F E [] [] G S [] F := ⟨h, ⟨rfl, rfl⟩, h.nd, (fun _ m => by cases m), .refl⟩
theorem nd_app {A B : List Addr} : (A ++ B).Nodup ↔ A.Nodup ∧ B.Nodup ∧ ∀ a, a ∈ A → a ∉ B := by
  rw [List.nodup_append]
  constructor
  · rintro ⟨h1, h2, h3⟩
    exact ⟨h1, h2, fun a ha hb => h3 a ha a hb rfl⟩
  · rintro ⟨h1, h2, h3⟩
    refine ⟨h1, h2, fun a ha b hb e => ?_⟩
    subst e
    exact h3 a ha hb
theorem RO.app (h1 : RO K σ G S F E1 os vs G1 S1 T1 F1) (h2 : RO K σ G1 S1 F1 E2 os' vs' G2 S2 T2 F2) : RO K σ G S F E2 (os ++ os') (vs ++ vs') G2 S2 (T1 ++ T2) F2 := by
  obtain ⟨n1, n2, n3⟩ := nd_app.mp h1.nd
  have ap : ∀ a, a ∈ T1 → a ∉ T2 ++ F2 := fun a ha hb => by
    obtain ⟨o, e⟩ := h1.ro.dom a ha
    rcases h2.stp.fs a hb with m | m
    · exact n3 a ha m
    · rw [e] at m; cases m
  refine ⟨h2.sr, RpOs.append (h1.ro.mono (h2.stp.rd h1.sr.ns) (fun p hp => ?_) h2.stp.ss) h2.ro, ?_, fun a ha hs => ?_, ?_⟩
  · obtain ⟨o, e⟩ := h1.ro.dom p hp
    rw [e, h2.stp.keep p o e (n3 p hp)]
  · rw [List.append_assoc]
    exact nd_app.mpr ⟨n1, h2.nd, ap⟩
  · rcases List.mem_append.mp ha with ha | ha
    · rcases h2.stp.sn a hs with m | m | m
      · exact h1.ns a ha m
      · exact n3 a ha m
      · obtain ⟨o, e⟩ := h1.ro.dom a ha
        rw [e] at m; cases m
    · exact h2.ns a ha hs
  · rw [List.append_assoc]
    exact h1.stp.trans h2.stp.frame
end
def look : Opd → En → Option (D × En)
  | .temp d, E => some (frzK d, E)
  | .slot i, E => match E[i]? with
    | some (some d) => some (frzK d, E.set i (some (frzK d)))
    | _ => none
def looks : List Opd → En → Option (List D × En)
  | [], E => some ([], E)
  | o :: os, E => match look o E with
    | some (d, E1) => match looks os E1 with
      | some (ds, E2) => some (d :: ds, E2)
      | none => none
    | none => none
def RpE (K : PySem.W.Frag) (G : Hp) (S : Addr → Prop) : List D → List V → Prop
  | [], vs => vs = []
  | d :: ds, vs => ∃ v vs', vs = v :: vs' ∧ (∃ T, Rp K G S d v T) ∧ frzK d = d ∧ RpE K G S ds vs'
theorem frzK_frzK (d : D) : frzK (frzK d) = frzK d := by
  cases d <;> first
    | rfl
    | (show D.tup (frzL (frzL _)) = _; rw [frzL_frzL]; rfl)
    | (show D.lst _ (frzL (frzL _)) = _; rw [frzL_frzL]; rfl)
    | (show D.dK _ _ (frzL (frzL _)) = _; rw [frzL_frzL]; rfl)
    | (show D.scr (frzL (frzL _)) = _; rw [frzL_frzL]; rfl)
section
variable {K : PySem.W.Frag} {σ : St} {G G' : Hp} {S S' : Addr → Prop}
theorem RpE.mono : ∀ {ds : List D} {vs : List V}, RpE K G S ds vs → (∀ p, S p → S' p) → RpE K G S' ds vs := by
  intro ds
  induction ds with
  | nil => intro vs h _; exact h
  | cons d ds ih =>
    intro vs h a
    obtain ⟨v, vs', e, ⟨T, r⟩, q, h⟩ := h
    exact ⟨v, vs', e, ⟨T, r.mono (fun _ _ _ z => z) (fun _ _ => rfl) a⟩, q, ih h a⟩
theorem look_ok {o : Opd} {v : V} {T F : List Addr} {E E' : En} {d : D} (sr : SR K G S E σ F) (r : RpO K σ G S o v T) (nd : (T ++ F).Nodup) (nt : ∀ a, a ∈ T → ¬ S a) (h : look o E = some (d, E')) :
    ∃ S' F', SR K G S' E' σ F' ∧ (∃ T', Rp K G S' d v T') ∧ frzK d = d ∧ (∀ a, S a → S' a) ∧ (∀ a, S' a → S a ∨ a ∈ T ++ F) ∧ (∀ a, a ∈ F' → a ∈ F) ∧ (∀ a, a ∈ F → S' a → a ∉ F') ∧ (∀ a, a ∉ T → a ∉ F → S' a → S a) := by
  obtain ⟨n1, n2, n3⟩ := nd_app.mp nd
  cases o with
  | temp d0 =>
    injection h with h
    injection h with h1 h2
    subst h1 h2
    have r : Rp K G S d0 v T := r
    obtain ⟨F0, s0, nd0, f0⟩ := Rp.frzK r n1
    refine ⟨fun a => S a ∨ (a ∈ T ∧ a ∉ F0), F, ⟨sr.rep.mono (fun _ _ _ z => z) (fun _ _ => rfl) fun _ z => .inl z, n2, fun a ha hs => ?_, fun a hs => ?_⟩, ⟨F0, f0 _ (fun _ z => .inl z) fun p h1 h2 => .inr ⟨h1, h2⟩⟩, frzK_frzK d0, fun _ z => .inl z, fun a hs => ?_, fun _ z => z, fun a ha hs => ?_, fun a h1 h2 hs => ?_⟩
    · rcases hs with hs | ⟨hs, _⟩
      · exact sr.ns a ha hs
      · exact n3 a hs ha
    · rcases hs with hs | ⟨hs, _⟩
      · exact sr.sd a hs
      · exact r.dom a hs
    · rcases hs with hs | ⟨hs, _⟩
      · exact .inl hs
      · exact .inr (List.mem_append_left _ hs)
    · rcases hs with hs | ⟨hs, _⟩
      · exact absurd hs (sr.ns a ha)
      · exact absurd ha (n3 a hs)
    · rcases hs with hs | ⟨hs, _⟩
      · exact hs
      · exact absurd hs h1
  | slot i =>
    simp only [look] at h
    split at h
    · rename_i d0 hi
      injection h with h
      injection h with h1 h2
      subst h1 h2
      obtain ⟨hv, _⟩ := r
      obtain ⟨v', F1, Fr, g1, g2, g3, g4⟩ := sr.rep.get hi
      rw [hv] at g1
      injection g1 with g1
      injection g1 with g1
      subst g1
      have ndp : (F1 ++ Fr).Nodup := g4.nodup_iff.mp n2
      obtain ⟨p1, p2, p3⟩ := nd_app.mp ndp
      obtain ⟨F0, s0, nd0, f0⟩ := Rp.frzK g2 p1
      have mF : ∀ a, a ∈ F ↔ a ∈ F1 ++ Fr := fun a => g4.mem_iff
      have hl : i < E.length := (List.getElem?_eq_some_iff.mp hi).1
      obtain ⟨F', h', pp⟩ := REnv.put (i := i) (d := DE.frzK d0) (v := v) (S := fun a => S a ∨ (a ∈ F1 ∧ a ∉ F0)) (g3.mono (fun _ _ _ z => z) (fun _ _ => rfl) fun _ z => .inl z) (by rw [List.getElem?_set_self hl]) (f0 _ (fun _ z => .inl z) fun p h1 h2 => .inr ⟨h1, h2⟩)
      have hσ : σ.set i (some v) = σ := by
        apply List.ext_getElem?
        intro j
        by_cases e : j = i
        · subst e
          have hl' : j < σ.length := (List.getElem?_eq_some_iff.mp hv).1
          rw [List.getElem?_set_self hl', hv]
        · rw [List.getElem?_set_ne (Ne.symm e)]
      rw [List.set_set, hσ] at h'
      have mF' : ∀ a, a ∈ F' ↔ a ∈ F0 ++ Fr := fun a => pp.mem_iff
      have sub : ∀ a, a ∈ F' → a ∈ F := fun a ha => by
        rw [mF]
        rcases List.mem_append.mp ((mF' a).mp ha) with m | m
        · exact List.mem_append_left _ (s0 a m)
        · exact List.mem_append_right _ m
      have cut : ∀ a, a ∈ F1 → a ∉ F0 → a ∉ F' := fun a h1 h2 h3 => by
        rcases List.mem_append.mp ((mF' a).mp h3) with m | m
        · exact h2 m
        · exact p3 a h1 m
      refine ⟨_, F', ⟨h', pp.nodup_iff.mpr (nd_app.mpr ⟨nd0, p2, fun a ha => p3 a (s0 a ha)⟩), fun a ha hs => ?_, fun a hs => ?_⟩, ⟨F0, f0 _ (fun _ z => .inl z) fun p h1 h2 => .inr ⟨h1, h2⟩⟩, frzK_frzK d0, fun _ z => .inl z, fun a hs => ?_, sub, fun a ha hs => ?_, fun a h1 h2 hs => ?_⟩
      · rcases hs with hs | ⟨h1, h2⟩
        · exact sr.ns a (sub a ha) hs
        · exact cut a h1 h2 ha
      · rcases hs with hs | ⟨hs, _⟩
        · exact sr.sd a hs
        · exact g2.dom a hs
      · rcases hs with hs | ⟨hs, _⟩
        · exact .inl hs
        · exact .inr (List.mem_append_right _ ((mF a).mpr (List.mem_append_left _ hs)))
      · rcases hs with hs | ⟨h1, h2⟩
        · exact absurd hs (sr.ns a ha)
        · exact cut a h1 h2
      · rcases hs with hs | ⟨h1', _⟩
        · exact hs
        · exact absurd ((mF a).mpr (List.mem_append_left _ h1')) h2
    · cases h
theorem looks_ok : ∀ {os : List Opd} {vs : List V} {T F : List Addr} {E E' : En} {ds : List D} {S : Addr → Prop}, SR K G S E σ F → RpOs K σ G S os vs T → (T ++ F).Nodup → (∀ a, a ∈ T → ¬ S a) → looks os E = some (ds, E') →
    ∃ S' F', SR K G S' E' σ F' ∧ RpE K G S' ds vs ∧ (∀ a, S a → S' a) ∧ (∀ a, S' a → S a ∨ a ∈ T ++ F) ∧ (∀ a, a ∈ F' → a ∈ F) := by
  intro os
  induction os with
  | nil =>
    intro vs T F E E' ds S sr r nd nt h
    injection h with h
    injection h with h1 h2
    subst h1 h2
    exact ⟨S, F, sr, r.1, fun _ z => z, fun _ z => .inl z, fun _ z => z⟩
  | cons o os ih =>
    intro vs T F E E' ds S sr r nd nt h
    obtain ⟨v, vs', T1, T2, e, z, ro, r⟩ := r
    subst e z
    unfold looks at h
    split at h
    · rename_i d E1 h1
      split at h
      · rename_i ds2 E2 h2
        injection h with h
        injection h with e1 e2
        subst e1 e2
        rw [List.append_assoc] at nd
        obtain ⟨n1, n2, n3⟩ := nd_app.mp nd
        obtain ⟨n4, n5, n6⟩ := nd_app.mp n2
        have nd1 : (T1 ++ F).Nodup := nd_app.mpr ⟨n1, n5, fun a ha hb => n3 a ha (List.mem_append_right _ hb)⟩
        obtain ⟨S1, F1, sr1, ⟨T', rp1⟩, q1, s1, s2, f1, f2, f3⟩ := look_ok sr ro nd1 (fun a ha => nt a (List.mem_append_left _ ha)) h1
        have out : ∀ a, a ∈ T2 → ¬ S1 a := fun a ha hs => nt a (List.mem_append_right _ ha) (f3 a (fun m => n3 a m (List.mem_append_left _ ha)) (n6 a ha) hs)
        obtain ⟨S2, F2, sr2, rp2, t1, t2, g1⟩ := ih sr1 (r.mono (fun _ _ _ z => z) (fun _ _ => rfl) s1) (nd_app.mpr ⟨n4, sr1.nd, fun a ha hb => n6 a ha (f1 a hb)⟩) out h2
        refine ⟨S2, F2, sr2, ⟨v, vs', rfl, ⟨T', rp1.mono (fun _ _ _ z => z) (fun _ _ => rfl) t1⟩, q1, rp2⟩, fun a ha => t1 a (s1 a ha), fun a ha => ?_, fun a ha => f1 a (g1 a ha)⟩
        rcases t2 a ha with m | m
        · rcases s2 a m with m | m
          · exact .inl m
          · rcases List.mem_append.mp m with m | m
            · exact .inr (List.mem_append_left _ (List.mem_append_left _ m))
            · exact .inr (List.mem_append_right _ m)
        · rcases List.mem_append.mp m with m | m
          · exact .inr (List.mem_append_left _ (List.mem_append_right _ m))
          · exact .inr (List.mem_append_right _ (f1 a m))
      · cases h
    · cases h
structure NewR (K : PySem.W.Frag) (G : Hp) (S : Addr → Prop) (z : D) (x : V) (G' : Hp) (S' : Addr → Prop) (Z : List Addr) : Prop where
  keep : ∀ a o, G a = some o → G' a = some o
  ss : ∀ a, S a → S' a
  sn : ∀ a, S' a → S a ∨ (G a = none ∧ ∃ o, G' a = some o)
  nd : Z.Nodup
  fr : ∀ a, a ∈ Z → G a = none
  ns : ∀ a, a ∈ Z → ¬ S' a
  rp : Rp K G' S' z x Z
theorem NewR.old {z : D} {x : V} (h : Rp K G S z x []) : NewR K G S z x G S [] := ⟨fun _ _ h => h, fun _ h => h, fun _ h => .inl h, .nil, (fun _ m => by cases m), (fun _ m => by cases m), h⟩
theorem NewR.lst {ds : List D} {vs : List V} {p : Addr} (sd : ∀ a, S a → ∃ o, G a = some o) (h : RpL K G S ds vs []) (hp : G p = none) : NewR K G S (.lst true ds) (.ref p) (upd G p (.lst vs)) S [p] := by
  have kp : ∀ a o, G a = some o → upd G p (.lst vs) a = some o := fun a o e => by rw [upd_ne (ne_of_none e hp)]; exact e
  refine ⟨kp, fun _ h => h, fun _ h => .inl h, by simp, fun a m => by rw [List.mem_singleton.mp m]; exact hp, fun a m hs => ?_, ⟨p, vs, [], rfl, rfl, upd_same, h.mono (fun q o hs r => kp _ _ r) (fun _ m => by cases m) fun _ z => z⟩⟩
  rw [List.mem_singleton.mp m] at hs
  obtain ⟨o, e⟩ := sd p hs
  rw [hp] at e; cases e
theorem NewR.tup {ds : List D} {vs : List V} {p : Addr} (h : RpL K G S ds vs []) (hp : G p = none) : NewR K G S (.tup ds) (.ref p) (upd G p (.tup vs)) (fun a => S a ∨ a = p) [] := by
  have kp : ∀ a o, G a = some o → upd G p (.tup vs) a = some o := fun a o e => by rw [upd_ne (ne_of_none e hp)]; exact e
  refine ⟨kp, fun _ h => .inl h, fun a h => ?_, .nil, (fun _ m => by cases m), (fun _ m => by cases m), ⟨p, vs, rfl, .inl ⟨.inr rfl, upd_same⟩, h.mono (fun q o hs r => kp _ _ r) (fun _ m => by cases m) fun _ z => .inl z⟩⟩
  rcases h with h | h
  · exact .inl h
  · subst h
    exact .inr ⟨hp, _, upd_same⟩
end
end DE
namespace DE
open PySem PySem.Spec L2
abbrev lim : Nat := 1000000
theorem lim_le {n : Nat} (h : n ≤ lim) : n ≤ sizeLine := Nat.le_trans h (by decide)
def Good (K : PySem.W.Frag) (G : Hp) (S : Addr → Prop) (z : D) (Q : VK) : Prop := ∀ x G' S' Z, NewR K G S z x G' S' Z → Q x G'
section
variable {K : PySem.W.Frag} {G : Hp} {S : Addr → Prop} {Q : VK} {d e z : D} {v w : V} {ds es : List D} {T : List Addr}
theorem Good.old (h : Good K G S z Q) (r : Rp K G S z v []) : Q v G := h v G S [] (.old r)
theorem Good.int {i : Int} (h : Good K G S (.int i) Q) : Q (.int i) G := h.old ⟨rfl, rfl⟩
theorem Good.bl {b : Bool} (h : Good K G S (.bl b) Q) : Q (.bl b) G := h.old ⟨rfl, rfl⟩
theorem Good.str {x : Str} (h : Good K G S (.str x) Q) : Q (.str x) G := h.old ⟨rfl, rfl⟩
theorem Good.non (h : Good K G S .non Q) : Q .non G := h.old ⟨rfl, rfl⟩
theorem Good.lst {vs : List V} (sd : ∀ a, S a → ∃ o, G a = some o) (h : Good K G S (.lst true ds) Q) (r : RpL K G S ds vs []) : ∀ p, G p = none → Q (.ref p) (upd G p (.lst vs)) := fun p hp => h _ _ _ _ (.lst sd r hp)
theorem Good.tup {vs : List V} (h : Good K G S (.tup ds) Q) (r : RpL K G S ds vs []) : ∀ p, G p = none → Q (.ref p) (upd G p (.tup vs)) := fun p hp => h _ _ _ _ (.tup r hp)
theorem RpE.one (h : RpE K G S [d] [v]) : (∃ T, Rp K G S d v T) ∧ frzK d = d := by
  obtain ⟨v', vs', e, r, q, _⟩ := h
  injection e with e _
  subst e
  exact ⟨r, q⟩
theorem RpE.two (h : RpE K G S [d, e] [v, w]) : (∃ T, Rp K G S d v T) ∧ frzK d = d ∧ (∃ T, Rp K G S e w T) ∧ frzK e = e := by
  obtain ⟨v', vs', e1, r, q, h⟩ := h
  injection e1 with e1 e2
  subst e1 e2
  exact ⟨r, q, h.one⟩
theorem RpE.tail {vs : List V} (h : RpE K G S (d :: ds) (v :: vs)) : (∃ T, Rp K G S d v T) ∧ frzK d = d ∧ RpE K G S ds vs := by
  obtain ⟨v', vs', e1, r, q, h⟩ := h
  injection e1 with e1 e2
  subst e1 e2
  exact ⟨r, q, h⟩
theorem RpE.len : ∀ {ds : List D} {vs : List V}, RpE K G S ds vs → ds.length = vs.length := by
  intro ds
  induction ds with
  | nil =>
    intro vs h
    have h : vs = [] := h
    rw [h]
    rfl
  | cons d ds ih =>
    intro vs h
    obtain ⟨v', vs', e1, r, q, h⟩ := h
    rw [e1, List.length_cons, List.length_cons, ih h]
theorem rp_int {i : Int} (h : Rp K G S (.int i) v T) : v = .int i := h.1
theorem rp_bl {i : Bool} (h : Rp K G S (.bl i) v T) : v = .bl i := h.1
theorem rp_str {i : Str} (h : Rp K G S (.str i) v T) : v = .str i := h.1
theorem rp_non (h : Rp K G S .non v T) : v = .non := h.1
theorem rp_lst {m : Bool} (h : Rp K G S (.lst m ds) v T) (q : frzK (.lst m ds) = .lst m ds) : ∃ p vs, v = .ref p ∧ G p = some (.lst vs) ∧ RpL K G S ds vs [] ∧ frzL ds = ds := by
  have hq : frzL ds = ds := by injection q
  cases m with
  | true =>
    obtain ⟨p, vs, F', e, z, hp, r⟩ := h
    have := r.nil hq
    subst this
    exact ⟨p, vs, e, hp, r, hq⟩
  | false =>
    obtain ⟨_, p, vs, e, _, hp, r⟩ := h
    exact ⟨p, vs, e, hp, r, hq⟩
theorem rp_tup (h : Rp K G S (.tup ds) v T) (q : frzK (.tup ds) = .tup ds) : ∃ p vs, v = .ref p ∧ SqT K G p vs ∧ RpL K G S ds vs [] ∧ frzL ds = ds := by
  have hq : frzL ds = ds := by injection q
  obtain ⟨p, vs, e, hp, r⟩ := h
  have := r.nil hq
  subst this
  refine ⟨p, vs, e, ?_, r, hq⟩
  rcases hp with ⟨_, hp⟩ | hp
  · exact SqT.of hp
  · exact hp.to
theorem rp_scr (h : Rp K G S (.scr ds) v T) : ∃ p vs, v = .ref p ∧ SqL K G p vs ∧ RpL K G S ds vs [] := by
  obtain ⟨_, p, vs, e, hp, r⟩ := h
  refine ⟨p, vs, e, ?_, r⟩
  rcases hp with ⟨_, hp⟩ | hp
  · exact .inl hp
  · exact hp.to
def seqOf : D → Option (List D)
  | .lst _ ds => some ds
  | .tup ds => some ds
  | .scr ds => some ds
  | _ => none
theorem rp_seq (h : Rp K G S d v T) (q : frzK d = d) (hs : seqOf d = some ds) : ∃ p vs, v = .ref p ∧ (SqL K G p vs ∨ SqT K G p vs) ∧ RpL K G S ds vs [] := by
  cases d <;> simp only [seqOf, Option.some.injEq, reduceCtorEq] at hs
  · subst hs
    obtain ⟨p, vs, e, hp, r, _⟩ := rp_tup h q
    exact ⟨p, vs, e, .inr hp, r⟩
  · subst hs
    obtain ⟨p, vs, e, hp, r, _⟩ := rp_lst h q
    exact ⟨p, vs, e, .inl (SqL.of hp), r⟩
  · subst hs
    obtain ⟨p, vs, e, hp, r⟩ := rp_scr h
    exact ⟨p, vs, e, .inl hp, r⟩
theorem RpL.drop : ∀ {ds : List D} {vs : List V} (n : Nat), RpL K G S ds vs [] → RpL K G S (ds.drop n) (vs.drop n) [] := by
  intro ds
  induction ds with
  | nil =>
    intro vs n h
    obtain ⟨h, _⟩ := h
    subst h
    rw [List.drop_nil, List.drop_nil]
    exact ⟨rfl, rfl⟩
  | cons d ds ih =>
    intro vs n h
    cases n with
    | zero => exact h
    | succ n =>
      obtain ⟨v, vs', A, B, e, z, h, r⟩ := h
      subst e
      have hz := List.append_eq_nil_iff.mp z.symm
      rw [hz.2] at r
      exact ih n r
theorem RpL.take : ∀ {ds : List D} {vs : List V} (n : Nat), RpL K G S ds vs [] → RpL K G S (ds.take n) (vs.take n) [] := by
  intro ds
  induction ds with
  | nil =>
    intro vs n h
    obtain ⟨h, _⟩ := h
    subst h
    rw [List.take_nil, List.take_nil]
    exact ⟨rfl, rfl⟩
  | cons d ds ih =>
    intro vs n h
    cases n with
    | zero => exact ⟨rfl, rfl⟩
    | succ n =>
      obtain ⟨v, vs', A, B, e, z, h, r⟩ := h
      subst e
      have hz := List.append_eq_nil_iff.mp z.symm
      rw [hz.2] at r
      rw [hz.1] at h
      exact ⟨v, vs'.take n, [], [], rfl, rfl, h, ih n r⟩
end
def pAdd : D → D → Option D
  | .int i, .int j => some (.int (i + j))
  | .str a, .str b => if a.length + b.length ≤ lim then some (.str (a ++ b)) else none
  | .lst _ xs, .lst _ ys => if xs.length + ys.length ≤ lim then some (.lst true (xs ++ ys)) else none
  | .tup xs, .tup ys => if xs.length + ys.length ≤ lim then some (.tup (xs ++ ys)) else none
  | _, _ => none
def rAddU (K : PySem.W.Frag) : R2 := fun x y H Q => rI0 (fun i j => .int (i + j)) x y H Q ∨ (∃ i j, x = .str i ∧ y = .str j ∧ i.length + j.length ≤ sizeLine ∧ Q (.str (i ++ j)) H) ∨ rCat x y H Q ∨ rCatA K x y H Q
theorem OpR.or {X : Cx} {f : Value → Value → Sem Value} {r r' : R2} (h : OpR X f r) (h' : OpR X f r') : OpR X f (fun x y H Q => r x y H Q ∨ r' x y H Q) := by
  intro pins s σ H x y v u Q I rx ry q
  rcases q with q | q
  · exact h pins s σ H x y v u Q I rx ry q
  · exact h' pins s σ H x y v u Q I rx ry q
theorem op_addU {X : Cx} : OpR X (binaryOp .Add) (rAddU X.K) := OpR.or op_add (OpR.or op_add_str (OpR.or op_cat op_catA))
def pSub : D → D → Option D
  | .int i, .int j => some (.int (i - j))
  | _, _ => none
def cMul (i j : Int) : Bool := (decide (-18446744073709551616 < i) && decide (i < 18446744073709551616)) || (decide (-18446744073709551616 < j) && decide (j < 18446744073709551616))
def repS (x : Str) (n : Int) : Str := ⟨(List.replicate n.toNat x.cps).foldl (· ++ ·) #[]⟩
def pMul : D → D → Option D
  | .int i, .int j => if cMul i j then some (.int (i * j)) else none
  | .lst _ xs, .int k => if 0 ≤ k ∧ k ≤ 1000 ∧ xs.length * k.toNat ≤ lim then some (.lst true (List.replicate k.toNat xs).flatten) else none
  | .str x, .int n => if 2 ≤ n ∧ n ≤ 1000 ∧ x.length ≠ 0 ∧ x.length * n.toNat ≤ lim ∧ (repS x n).length ≤ lim then some (.str (repS x n)) else none
  | _, _ => none
def pDiv : D → D → Option D
  | .int i, .int j => if 0 < j ∧ j < 1073741824 then some (.int (i / j)) else none
  | _, _ => none
def pMod : D → D → Option D
  | .int i, .int j => if 0 < j then some (.int (i % j)) else none
  | _, _ => none
def pPow : D → D → Option D
  | .int i, .int j => if 0 ≤ j ∧ j ≤ 1000000 ∧ i.natAbs < 18446744073709551616 then some (.int (i ^ j.toNat)) else none
  | _, _ => none
def pNeg : D → Option D
  | .int i => some (.int (-i))
  | _ => none
def pAbs : D → Option D
  | .int i => some (.int (if i < 0 then -i else i))
  | _ => none
def pMin : D → D → Option D
  | .int i, .int j => some (.int (if j < i then j else i))
  | _, _ => none
def pMax : D → D → Option D
  | .int i, .int j => some (.int (if j > i then j else i))
  | _, _ => none
def pLt : D → D → Option D
  | .int i, .int j => some (.bl (decide (i < j)))
  | .str i, .str j => some (.bl (decide (i.cps.toList < j.cps.toList)))
  | _, _ => none
def pLe : D → D → Option D
  | .int i, .int j => some (.bl (decide (i ≤ j)))
  | .str i, .str j => some (.bl (!decide (j.cps.toList < i.cps.toList)))
  | _, _ => none
def pGt : D → D → Option D
  | .int i, .int j => some (.bl (decide (j < i)))
  | _, _ => none
def pGe : D → D → Option D
  | .int i, .int j => some (.bl (decide (j ≤ i)))
  | _, _ => none
mutual
def py : D → PyData
  | .non => .none
  | .bl b => .bool b
  | .int i => .int i
  | .str x => .str x
  | .tup ds => .tuple (pyL ds)
  | .lst _ ds => .list (pyL ds)
  | .scr ds => .list (pyL ds)
  | .dK _ _ _ => .dict []
def pyL : List D → List PyData
  | [] => []
  | d :: ds => py d :: pyL ds
end
mutual
def noD : D → Bool
  | .tup ds => noDL ds
  | .lst _ ds => noDL ds
  | .scr ds => noDL ds
  | .dK _ _ _ => false
  | _ => true
def noDL : List D → Bool
  | [] => true
  | d :: ds => noD d && noDL ds
end
mutual
theorem Rp.dp {K : PySem.W.Frag} {G : Hp} {S : Addr → Prop} : ∀ {d : D} {v : V} {T : List Addr}, Rp K G S d v T → noD d = true → Dp K G v (py d)
  | .non, _, _, h, _ => by rw [h.1]; exact .non
  | .bl b, _, _, h, _ => by rw [h.1]; exact .bl b
  | .int i, _, _, h, _ => by rw [h.1]; exact .int i
  | .str x, _, _, h, _ => by rw [h.1]; exact .str x
  | .tup ds, _, _, ⟨p, vs, e, h, r⟩, n => by
    subst e
    refine .tup ?_ (RpL.dp r n)
    rcases h with ⟨_, h⟩ | h
    · exact SqT.of h
    · exact h.to
  | .lst false ds, _, _, ⟨_, p, vs, e, _, h, r⟩, n => by
    subst e
    exact .lst (SqL.of h) (RpL.dp r n)
  | .lst true ds, _, _, ⟨p, vs, F', e, _, h, r⟩, n => by
    subst e
    exact .lst (SqL.of h) (RpL.dp r n)
  | .scr ds, _, _, ⟨_, p, vs, e, h, r⟩, n => by
    subst e
    refine .lst ?_ (RpL.dp r n)
    rcases h with ⟨_, h⟩ | h
    · exact .inl h
    · exact h.to
  | .dK _ _ _, _, _, _, n => by cases n
theorem RpL.dp {K : PySem.W.Frag} {G : Hp} {S : Addr → Prop} : ∀ {ds : List D} {vs : List V} {T : List Addr}, RpL K G S ds vs T → noDL ds = true → DpAll K G vs (pyL ds)
  | [], _, _, h, _ => by rw [h.1]; exact .nil
  | d :: ds, _, _, ⟨v, vs', A, B, e, _, h, r⟩, n => by
    subst e
    have n' := (Bool.and_eq_true _ _).mp n
    exact .cons (Rp.dp h n'.1) (RpL.dp r n'.2)
end
def scV : D → Option V
  | .non => some .non
  | .bl b => some (.bl b)
  | .int i => some (.int i)
  | .str x => some (.str x)
  | _ => none
theorem scV_rp {K : PySem.W.Frag} {G : Hp} {S : Addr → Prop} {d : D} {v x : V} {T : List Addr} (h : Rp K G S d v T) (e : scV d = some x) : v = x := by
  cases d <;> first
    | (cases e; exact h.1)
    | cases e
def pyOk (d : D) : Bool := noD d && SeqAt.shaped (py d)
def pEq (d e : D) : Option Bool := match scV d, scV e with
  | some x, some y => if scal x y = true then some (decide (x = y)) else none
  | _, _ => if pyOk d && pyOk e then some (PyData.eqv (py d) (py e)) else none
def rEqU (K : PySem.W.Frag) : R2 := fun x y H Q => rEq x y H Q ∨ rEqD K x y H Q
def rNeU (K : PySem.W.Frag) : R2 := fun x y H Q => rNe x y H Q ∨ rNeD K x y H Q
def vals : List D → Option (List V)
  | [] => some []
  | d :: ds => match scV d, vals ds with
    | some v, some vs => some (v :: vs)
    | _, _ => none
theorem vals_rp {K : PySem.W.Frag} {G : Hp} {S : Addr → Prop} : ∀ {ds : List D} {vs ws : List V} {T : List Addr}, RpL K G S ds vs T → vals ds = some ws → vs = ws := by
  intro ds
  induction ds with
  | nil =>
    intro vs ws T h e
    cases e
    exact h.1
  | cons d ds ih =>
    intro vs ws T h e
    obtain ⟨v, vs', A, B, e1, _, r, h⟩ := h
    subst e1
    unfold vals at e
    split at e
    · rename_i x xs h1 h2
      cases e
      rw [scV_rp r h1, ih h h2]
    · cases e
theorem vals_flat : ∀ {ds : List D} {ws : List V}, vals ds = some ws → ws.all flatV = true := by
  intro ds
  induction ds with
  | nil => intro ws e; cases e; rfl
  | cons d ds ih =>
    intro ws e
    unfold vals at e
    split at e
    · rename_i x xs h1 h2
      cases e
      rw [List.all_cons, ih h2, Bool.and_true]
      cases d <;> first
        | (cases h1; rfl)
        | cases h1
    · cases e
theorem scV_flat {d : D} {x : V} (e : scV d = some x) : flatV x = true := by
  cases d <;> first
    | (cases e; rfl)
    | cases e
def keyOf : D → Option Key
  | .int i => some (.inl i)
  | .str x => some (.inr x)
  | _ => none
def lookK (k : Key) : List Key → List D → Option D
  | k' :: ks, d :: ds => if k' = k then some d else lookK k ks ds
  | _, _ => none
def pIn : D → D → Option Bool
  | .str a, .str b => some (!(Builtin.Str.occurrences b a 0 b.length 1).isEmpty)
  | x, .dK _ ks ds => match keyOf x with
    | some k => some (lookK k ks ds).isSome
    | none => none
  | x, y => match scV x, seqOf y with
    | some v, some ds => match vals ds with
      | some vs => some (inV v vs)
      | none => none
    | _, _ => none
def pIdx : D → D → Option D
  | .str x, .int i => if x.length ≤ lim then (atI x.cps.toList i).map fun c => .str ⟨#[c]⟩ else none
  | .dK _ ks ds, k => match keyOf k with
    | some k => lookK k ks ds
    | none => none
  | y, .int i => match seqOf y with
    | some ds => atI ds i
    | none => none
  | _, _ => none
def cutD (xs : List D) (lo hi : Option Int) : List D := (xs.drop (HT.sIx xs.length 0 lo)).take (HT.sIx xs.length xs.length hi - HT.sIx xs.length 0 lo)
def pSl : D → Option Int → Option Int → Option D
  | .str x, lo, hi => if x.length ≤ lim then some (.str (cutS x lo hi)) else none
  | .lst _ ds, lo, hi => some (.lst true (cutD ds lo hi))
  | .scr ds, lo, hi => some (.lst true (cutD ds lo hi))
  | .tup ds, lo, hi => some (.tup (cutD ds lo hi))
  | _, _, _ => none
theorem RpL.cut {K : PySem.W.Frag} {G : Hp} {S : Addr → Prop} {ds : List D} {vs : List V} (h : RpL K G S ds vs []) (lo hi : Option Int) : RpL K G S (cutD ds lo hi) (cutV vs lo hi) [] := by
  unfold cutD cutV
  rw [h.length]
  exact (h.drop _).take _
theorem RpL.at {K : PySem.W.Frag} {G : Hp} {S : Addr → Prop} {ds : List D} {vs : List V} {i : Int} {d : D} (h : RpL K G S ds vs []) (e : atI ds i = some d) : ∃ v, atI vs i = some v ∧ Rp K G S d v [] := by
  unfold atI at e ⊢
  rw [h.length] at e
  cases q : ixN vs.length i with
  | none => rw [q] at e; cases e
  | some j =>
    rw [q] at e
    exact h.get (show ds[j]? = some d from e)
def pLen : D → Option D
  | .str x => if x.length ≤ lim then some (.int x.length) else none
  | .dK _ ks _ => some (.int ks.length)
  | y => (seqOf y).map fun ds => .int ds.length
def pList (y : D) : Option D := (seqOf y).map fun ds => .lst true ds
def pTuple (y : D) : Option D := (seqOf y).map fun ds => .tup ds
def bls : List D → Option (List Bool)
  | [] => some []
  | .bl b :: ds => (bls ds).map (b :: ·)
  | _ :: _ => none
theorem bls_rp {K : PySem.W.Frag} {G : Hp} {S : Addr → Prop} : ∀ {ds : List D} {vs : List V} {bs : List Bool} {T : List Addr}, RpL K G S ds vs T → bls ds = some bs → vs = bs.map V.bl := by
  intro ds
  induction ds with
  | nil =>
    intro vs bs T h e
    cases e
    exact h.1
  | cons d ds ih =>
    intro vs bs T h e
    obtain ⟨v, vs', A, B, e1, _, r, h⟩ := h
    subst e1
    cases d <;> simp only [bls, Option.map_eq_some_iff, reduceCtorEq] at e
    obtain ⟨bs', e1, e2⟩ := e
    subst e2
    rw [ih h e1, r.1]
    rfl
def pAll : D → Option D
  | .lst _ ds => (bls ds).map fun bs => .bl (bs.all id)
  | _ => none
def pAny : D → Option D
  | .lst _ ds => (bls ds).map fun bs => .bl (bs.any id)
  | _ => none
def sts : List D → Option (List Str)
  | [] => some []
  | .str b :: ds => (sts ds).map (b :: ·)
  | _ :: _ => none
theorem sts_rp {K : PySem.W.Frag} {G : Hp} {S : Addr → Prop} : ∀ {ds : List D} {vs : List V} {bs : List Str} {T : List Addr}, RpL K G S ds vs T → sts ds = some bs → vs = bs.map V.str := by
  intro ds
  induction ds with
  | nil =>
    intro vs bs T h e
    cases e
    exact h.1
  | cons d ds ih =>
    intro vs bs T h e
    obtain ⟨v, vs', A, B, e1, _, r, h⟩ := h
    subst e1
    cases d <;> simp only [sts, Option.map_eq_some_iff, reduceCtorEq] at e
    obtain ⟨bs', e1, e2⟩ := e
    subst e2
    rw [ih h e1, r.1]
    rfl
def pJoin : D → D → Option D
  | .str a, y => match seqOf y with
    | some ds => match sts ds with
      | some ys => if (ys.map (·.length)).sum + ys.length * a.length ≤ 16777216 then some (.str (Txt.join a ys)) else none
      | none => none
    | none => none
  | _, _ => none
inductive Ty where
  | int | bool | str | list | tuple | dict
def Ty.name : Ty → String
  | .int => "int"
  | .bool => "bool"
  | .str => "str"
  | .list => "list"
  | .tuple => "tuple"
  | .dict => "dict"
def tyD : D → String
  | .non => "NoneType"
  | .bl _ => "bool"
  | .int _ => "int"
  | .str _ => "str"
  | .tup _ => "tuple"
  | .lst _ _ => "list"
  | .scr _ => "list"
  | .dK _ _ _ => "dict"
def isiD : D → Ty → Bool
  | .bl _, .int => true
  | .bl _, .bool => true
  | .int _, .int => true
  | .str _, .str => true
  | .tup _, .tuple => true
  | .lst _ _, .list => true
  | .scr _, .list => true
  | .dK _ _ _, .dict => true
  | _, _ => false
section
variable {K : PySem.W.Frag} {G : Hp} {S : Addr → Prop} {Q : VK} {d e z : D} {v w : V}
theorem add_ok (h : RpE K G S [d, e] [v, w]) (sd : ∀ a, S a → ∃ o, G a = some o) (f : pAdd d e = some z) (q : Good K G S z Q) : rAddU K v w G Q := by
  obtain ⟨⟨T, r⟩, f1, ⟨U, u⟩, f2⟩ := h.two
  cases d <;> cases e <;> simp only [pAdd, reduceCtorEq] at f
  · cases f
    rw [rp_int r, rp_int u]
    exact .inl ⟨_, _, rfl, rfl, q.int⟩
  · split at f
    · rename_i hl
      cases f
      rw [rp_str r, rp_str u]
      exact .inr (.inl ⟨_, _, rfl, rfl, lim_le hl, q.str⟩)
    · cases f
  · split at f
    · rename_i hl
      cases f
      obtain ⟨p, vs, e1, hp, r1, _⟩ := rp_tup r f1
      obtain ⟨p2, ws, e2, hp2, r2, _⟩ := rp_tup u f2
      subst e1 e2
      refine .inr (.inr (.inr ⟨p, p2, vs, ws, rfl, rfl, hp, hp2, by rw [← r1.length, ← r2.length]; exact lim_le hl, fun ez => ?_, fun _ ez => ?_, fun _ _ => q.tup (r1.append r2)⟩))
      · subst ez
        have := r1.length
        rw [List.length_nil] at this
        have := List.eq_nil_of_length_eq_zero this
        subst this
        exact q.old (by rw [u.nil f2] at u; exact u)
      · subst ez
        have := r2.length
        rw [List.length_nil] at this
        have := List.eq_nil_of_length_eq_zero this
        subst this
        rw [List.append_nil] at q
        exact q.old (by rw [r.nil f1] at r; exact r)
    · cases f
  · split at f
    · rename_i hl
      cases f
      obtain ⟨p, vs, e1, hp, r1, _⟩ := rp_lst r f1
      obtain ⟨p2, ws, e2, hp2, r2, _⟩ := rp_lst u f2
      subst e1 e2
      exact .inr (.inr (.inl ⟨p, p2, vs, ws, rfl, rfl, hp, hp2, by rw [← r1.length, ← r2.length]; exact lim_le hl, q.lst sd (r1.append r2)⟩))
    · cases f
def S2 (K : PySem.W.Frag) (r : R2) (f : D → D → Option D) : Prop := ∀ (G : Hp) (S : Addr → Prop) (Q : VK) (d e z : D) (v w : V), RpE K G S [d, e] [v, w] → (∀ a, S a → ∃ o, G a = some o) → f d e = some z → Good K G S z Q → r v w G Q
theorem s2_add : S2 K (rAddU K) pAdd := fun _ _ _ _ _ _ _ _ h sd f q => add_ok h sd f q
theorem s2_int {C : Int → Int → Prop} {g : Int → Int → V} {f : D → D → Option D} (hf : ∀ d e z, f d e = some z → ∃ i j, d = .int i ∧ e = .int j ∧ C i j ∧ ∃ x, g i j = x ∧ ((∃ n, x = .int n ∧ z = .int n) ∨ ∃ b, x = .bl b ∧ z = .bl b)) : S2 K (rI C g) f := by
  intro G S Q d e z v w h sd e1 q
  obtain ⟨i, j, rfl, rfl, hc, x, hx, hz⟩ := hf d e z e1
  obtain ⟨⟨T, r⟩, _, ⟨U, u⟩, _⟩ := h.two
  rw [rp_int r, rp_int u]
  refine ⟨i, j, rfl, rfl, hc, ?_⟩
  rcases hz with ⟨n, e2, e3⟩ | ⟨b, e2, e3⟩
  · subst e3
    rw [hx, e2]
    exact q.int
  · subst e3
    rw [hx, e2]
    exact q.bl
theorem s2_int0 {g : Int → Int → V} {f : D → D → Option D} (hf : ∀ d e z, f d e = some z → ∃ i j, d = .int i ∧ e = .int j ∧ ∃ x, g i j = x ∧ ((∃ n, x = .int n ∧ z = .int n) ∨ ∃ b, x = .bl b ∧ z = .bl b)) : S2 K (rI0 g) f := by
  intro G S Q d e z v w h sd e1 q
  obtain ⟨i, j, rfl, rfl, x, hx, hz⟩ := hf d e z e1
  obtain ⟨⟨T, r⟩, _, ⟨U, u⟩, _⟩ := h.two
  rw [rp_int r, rp_int u]
  refine ⟨i, j, rfl, rfl, ?_⟩
  rcases hz with ⟨n, e2, e3⟩ | ⟨b, e2, e3⟩
  · subst e3
    rw [hx, e2]
    exact q.int
  · subst e3
    rw [hx, e2]
    exact q.bl
theorem s2_sub : S2 K (rI0 fun i j => .int (i - j)) pSub := s2_int0 fun d e z f => by
  cases d <;> cases e <;> simp only [pSub, reduceCtorEq, Option.some.injEq] at f
  exact ⟨_, _, rfl, rfl, _, rfl, .inl ⟨_, rfl, f.symm⟩⟩
theorem s2_div : S2 K (rI CDiv fun i j => .int (i / j)) pDiv := s2_int fun d e z f => by
  cases d <;> cases e <;> simp only [pDiv, reduceCtorEq] at f
  split at f
  · rename_i h
    exact ⟨_, _, rfl, rfl, h, _, rfl, .inl ⟨_, rfl, (Option.some.inj f).symm⟩⟩
  · cases f
theorem s2_mod : S2 K (rI (fun _ j => 0 < j) fun i j => .int (i % j)) pMod := s2_int fun d e z f => by
  cases d <;> cases e <;> simp only [pMod, reduceCtorEq] at f
  split at f
  · rename_i h
    exact ⟨_, _, rfl, rfl, h, _, rfl, .inl ⟨_, rfl, (Option.some.inj f).symm⟩⟩
  · cases f
theorem s2_pow : S2 K (rI CPow fun i j => .int (i ^ j.toNat)) pPow := s2_int fun d e z f => by
  cases d <;> cases e <;> simp only [pPow, reduceCtorEq] at f
  split at f
  · rename_i h
    exact ⟨_, _, rfl, rfl, ⟨h.1, h.2.1, h.2.2⟩, _, rfl, .inl ⟨_, rfl, (Option.some.inj f).symm⟩⟩
  · cases f
def rMulS : R2 := fun x y H Q => ∃ z n, x = .str z ∧ y = .int n ∧ (2 ≤ n ∧ n ≤ 1000 ∧ z.length ≠ 0 ∧ z.length * n.toNat ≤ lim ∧ (repS z n).length ≤ lim) ∧ Q (.str (repS z n)) H
theorem op_mulS {X : Cx} : OpR X (binaryOp .Mult) rMulS := by
  rintro pins s σ H x y v u Q I rx ry ⟨z, n, e1, e2, ⟨h1, h2, h3, h4, h5⟩, q⟩
  subst e1 e2
  obtain ⟨t, rfl⟩ := rx
  obtain ⟨t', rfl⟩ := ry
  have b1 : (decide (n < -(2 ^ 63 : Int)) || decide (n ≥ 2 ^ 63)) = false := by
    rw [decide_eq_false (by omega), decide_eq_false (by omega)]; rfl
  have b2 : (n == 1 || z.length == 0) = false := by
    simp only [Bool.or_eq_false_iff, beq_eq_false_iff_ne]
    exact ⟨by omega, h3⟩
  have b3 : Builtin.Str.tooLong (z.length * n.toNat) = false := by
    unfold Builtin.Str.tooLong
    exact decide_eq_false (by have := lim_le h4; omega)
  refine PySem.P.mul_str b1 (fun _ _ => ?_) (fun _ _ => b3) ?_
  · have h5 : (z.length : Int) ≤ 1000000 := by
      have h4 : z.length * n.toNat ≤ 1000000 := h4
      have : z.length ≤ z.length * n.toNat := Nat.le_mul_of_pos_right _ (by omega)
      omega
    have h6 : (9007199254740992 : Int) ≤ (2 ^ 63 - 1) / n := by
      refine Int.le_ediv_of_mul_le (by omega) ?_
      have : (9007199254740992 : Int) * n ≤ 9007199254740992 * 1000 := Int.mul_le_mul_of_nonneg_left h2 (by decide)
      omega
    omega
  · rw [if_neg (by omega), if_neg (by rw [b2]; exact Bool.false_ne_true)]
    exact ⟨lim_le h5, .str (repS z n), H, I.tok _, ⟨_, rfl⟩, q⟩
def rMulU : R2 := fun x y H Q => rI CMul (fun i j => .int (i * j)) x y H Q ∨ rRep x y H Q ∨ rMulS x y H Q
theorem op_mulU {X : Cx} : OpR X (binaryOp .Mult) rMulU := OpR.or op_mul (OpR.or op_rep op_mulS)
theorem s2_mul : S2 K rMulU pMul := by
  intro G S Q d e z v w h sd f q
  obtain ⟨⟨T, r⟩, f1, ⟨U, u⟩, f2⟩ := h.two
  cases d <;> cases e <;> simp only [pMul, reduceCtorEq] at f
  · split at f
    · rename_i hc
      cases f
      rw [rp_int r, rp_int u]
      refine .inl ⟨_, _, rfl, rfl, ?_, q.int⟩
      unfold cMul at hc
      simp only [Bool.or_eq_true, Bool.and_eq_true, decide_eq_true_eq] at hc
      exact hc
    · cases f
  · split at f
    · rename_i hc
      cases f
      rw [rp_str r, rp_int u]
      exact .inr (.inr ⟨_, _, rfl, rfl, hc, q.str⟩)
    · cases f
  · split at f
    · rename_i hc
      cases f
      obtain ⟨p, vs, e1, hp, r1, _⟩ := rp_lst r f1
      rw [e1, rp_int u]
      have rr : ∀ n : Nat, RpL K G S (List.replicate n _).flatten (List.replicate n vs).flatten [] := fun n => by
        induction n with
        | zero => exact ⟨rfl, rfl⟩
        | succ n ih =>
          rw [List.replicate_succ, List.replicate_succ, List.flatten_cons, List.flatten_cons]
          exact r1.append ih
      exact .inr (.inl ⟨p, _, vs, rfl, rfl, hp, by omega, by omega, by rw [← r1.length]; exact lim_le hc.2.2, q.lst sd (rr _)⟩)
    · cases f
def rLtU : R2 := fun x y H Q => rI0 (fun i j => .bl (decide (i < j))) x y H Q ∨ (∃ i j, x = .str i ∧ y = .str j ∧ Q (.bl (decide (i.cps.toList < j.cps.toList))) H)
theorem op_ltU {X : Cx} : OpR X (compareOp .Lt) rLtU := OpR.or op_lt op_lt_str
theorem s2_lt : S2 K rLtU pLt := by
  intro G S Q d e z v w h sd f q
  obtain ⟨⟨T, r⟩, f1, ⟨U, u⟩, f2⟩ := h.two
  cases d <;> cases e <;> simp only [pLt, reduceCtorEq, Option.some.injEq] at f
  · subst f
    rw [rp_int r, rp_int u]
    exact .inl ⟨_, _, rfl, rfl, q.bl⟩
  · subst f
    rw [rp_str r, rp_str u]
    exact .inr ⟨_, _, rfl, rfl, q.bl⟩
def rLeU : R2 := fun x y H Q => rI0 (fun i j => .bl (decide (i ≤ j))) x y H Q ∨ (∃ i j, x = .str i ∧ y = .str j ∧ Q (.bl (!decide (j.cps.toList < i.cps.toList))) H)
theorem op_leU {X : Cx} : OpR X (compareOp .LtE) rLeU := OpR.or op_le op_le_str
theorem s2_le : S2 K rLeU pLe := by
  intro G S Q d e z v w h sd f q
  obtain ⟨⟨T, r⟩, f1, ⟨U, u⟩, f2⟩ := h.two
  cases d <;> cases e <;> simp only [pLe, reduceCtorEq, Option.some.injEq] at f
  · subst f
    rw [rp_int r, rp_int u]
    exact .inl ⟨_, _, rfl, rfl, q.bl⟩
  · subst f
    rw [rp_str r, rp_str u]
    exact .inr ⟨_, _, rfl, rfl, q.bl⟩
theorem s2_gt : S2 K (rI0 fun i j => .bl (decide (j < i))) pGt := s2_int0 fun d e z f => by
  cases d <;> cases e <;> simp only [pGt, reduceCtorEq, Option.some.injEq] at f
  exact ⟨_, _, rfl, rfl, _, rfl, .inr ⟨_, rfl, f.symm⟩⟩
theorem s2_ge : S2 K (rI0 fun i j => .bl (decide (j ≤ i))) pGe := s2_int0 fun d e z f => by
  cases d <;> cases e <;> simp only [pGe, reduceCtorEq, Option.some.injEq] at f
  exact ⟨_, _, rfl, rfl, _, rfl, .inr ⟨_, rfl, f.symm⟩⟩
theorem op_eqU {X : Cx} (hu : X.A.units + 64 < cLine) : OpR X (compareOp .Eq) (rEqU X.K) := OpR.or op_eq (op_eqD hu)
theorem op_neU {X : Cx} (hu : X.A.units + 64 < cLine) : OpR X (compareOp .NotEq) (rNeU X.K) := OpR.or op_ne (op_neD hu)
theorem eq_cases {T U : List Addr} {b : Bool} (r : Rp K G S d v T) (u : Rp K G S e w U) (h : pEq d e = some b) : (scal v w = true ∧ b = decide (v = w)) ∨ ∃ x y, Dp K G v x ∧ Dp K G w y ∧ SeqAt.shaped x = true ∧ SeqAt.shaped y = true ∧ b = PyData.eqv x y := by
  unfold pEq at h
  split at h
  · rename_i x y h1 h2
    split at h
    · rename_i hs
      cases h
      rw [scV_rp r h1, scV_rp u h2]
      exact .inl ⟨hs, rfl⟩
    · cases h
  · split at h
    · rename_i hk
      cases h
      simp only [pyOk, Bool.and_eq_true] at hk
      exact .inr ⟨_, _, r.dp hk.1.1, u.dp hk.2.1, hk.1.2, hk.2.2, rfl⟩
    · cases h
def pEqD (d e : D) : Option D := (pEq d e).map .bl
theorem s2_eq : S2 K (rEqU K) pEqD := by
  intro G S Q d e z v w h sd f q
  unfold pEqD at f
  obtain ⟨⟨T, r⟩, f1, ⟨U, u⟩, f2⟩ := h.two
  cases hb : pEq d e with
  | none => rw [hb] at f; cases f
  | some b =>
    rw [hb] at f
    cases f
    rcases eq_cases r u hb with ⟨h1, h2⟩ | ⟨x, y, h1, h2, h3, h4, h5⟩
    · rw [h2] at q
      exact .inl ⟨h1, q.bl⟩
    · rw [h5] at q
      exact .inr ⟨x, y, h1, h2, h3, h4, q.bl⟩
def pNeD (d e : D) : Option D := (pEq d e).map fun b => .bl (!b)
theorem s2_ne : S2 K (rNeU K) pNeD := by
  intro G S Q d e z v w h sd f q
  unfold pNeD at f
  obtain ⟨⟨T, r⟩, f1, ⟨U, u⟩, f2⟩ := h.two
  cases hb : pEq d e with
  | none => rw [hb] at f; cases f
  | some b =>
    rw [hb] at f
    cases f
    rcases eq_cases r u hb with ⟨h1, h2⟩ | ⟨x, y, h1, h2, h3, h4, h5⟩
    · rw [h2] at q
      exact .inl ⟨h1, q.bl⟩
    · rw [h5] at q
      exact .inr ⟨x, y, h1, h2, h3, h4, q.bl⟩
theorem look_val {k : Key} : ∀ {ks : List Key} {ds : List D} {vs : List V}, ks.length = vs.length → RpL K G S ds vs [] →
    (∀ z, lookK k ks ds = some z → ∃ x, valV (ks.zip vs) k = some x ∧ Rp K G S z x []) ∧ (lookK k ks ds = none → valV (ks.zip vs) k = none) := by
  intro ks
  induction ks with
  | nil => intro ds vs l h; exact ⟨fun z e => (by cases e), fun _ => rfl⟩
  | cons k' ks ih =>
    intro ds vs l h
    cases ds with
    | nil =>
      obtain ⟨h, _⟩ := h
      subst h
      cases l
    | cons d ds =>
      obtain ⟨v, vs', A, B, e, z, h, r⟩ := h
      subst e
      have hz := List.append_eq_nil_iff.mp z.symm
      rw [hz.1] at h
      rw [hz.2] at r
      have l' : ks.length = vs'.length := by simpa using l
      by_cases hk : k' = k
      · refine ⟨fun z e => ?_, fun e => ?_⟩
        · unfold lookK at e
          rw [if_pos hk] at e
          cases e
          exact ⟨v, valV_pos (p := (k', v)) hk, h⟩
        · unfold lookK at e
          rw [if_pos hk] at e
          cases e
      · have q := ih l' r
        refine ⟨fun z e => ?_, fun e => ?_⟩
        · unfold lookK at e
          rw [if_neg hk] at e
          obtain ⟨x, h1, h2⟩ := q.1 z e
          exact ⟨x, (valV_neg (p := (k', v)) hk).trans h1, h2⟩
        · unfold lookK at e
          rw [if_neg hk] at e
          exact (valV_neg (p := (k', v)) hk).trans (q.2 e)
theorem rp_dK {m : Bool} {ks : List Key} {ds : List D} {T : List Addr} (h : Rp K G S (.dK m ks ds) v T) (q : frzK (.dK m ks ds) = .dK m ks ds) : ∃ p vs, v = .ref p ∧ G p = some (.dK (ks.zip vs)) ∧ ks.length = vs.length ∧ RpL K G S ds vs [] := by
  have hq : frzL ds = ds := by injection q
  cases m with
  | true =>
    obtain ⟨p, vs, F', e, z, hp, l, r⟩ := h
    have := r.nil hq
    subst this
    exact ⟨p, vs, e, hp, l, r⟩
  | false =>
    obtain ⟨_, p, vs, e, _, hp, l, r⟩ := h
    exact ⟨p, vs, e, hp, l, r⟩
theorem key_rp {T : List Addr} {k : Key} (h : Rp K G S d v T) (e : keyOf d = some k) : v = kV k := by
  cases d <;> first
    | (cases e; exact h.1)
    | cases e
def rInD' (neg : Bool) : R2 := fun x y H Q => ∃ a o, y = .ref a ∧ DGet H a x o ∧ Q (.bl (if neg then !o.isSome else o.isSome)) H
theorem op_inD' {X : Cx} (hu : X.A.units + 1 < cLine) : OpR X (compareOp .In) (rInD' false) := by
  rintro pins s σ H x y v u Q I rx ry ⟨a, o, e, g, q⟩
  subst e
  obtain rfl : u = Value.ref a := ry
  exact d_in hu I g rx fun s3 I3 => ⟨.bl o.isSome, H, I3, rfl, q⟩
theorem op_ninD' {X : Cx} (hu : X.A.units + 1 < cLine) : OpR X (compareOp .NotIn) (rInD' true) := by
  rintro pins s σ H x y v u Q I rx ry ⟨a, o, e, g, q⟩
  subst e
  obtain rfl : u = Value.ref a := ry
  exact d_notIn hu I g rx fun s3 I3 => ⟨.bl (!o.isSome), H, I3, rfl, q⟩
def rInS' (neg : Bool) : R2 := fun x y H Q => ∃ i j, x = .str i ∧ y = .str j ∧ Q (.bl (if neg then !(!(Builtin.Str.occurrences j i 0 j.length 1).isEmpty) else !(Builtin.Str.occurrences j i 0 j.length 1).isEmpty)) H
def rInU (K : PySem.W.Frag) (neg : Bool) : R2 := fun x y H Q => rIn K neg x y H Q ∨ rInD' neg x y H Q ∨ rInS' neg x y H Q
theorem op_inU {X : Cx} (hu : X.A.units + 1 < cLine) : OpR X (compareOp .In) (rInU X.K false) := OpR.or op_in_seq (OpR.or (op_inD' hu) op_in_str)
theorem op_ninU {X : Cx} (hu : X.A.units + 1 < cLine) : OpR X (compareOp .NotIn) (rInU X.K true) := OpR.or op_notIn_seq (OpR.or (op_ninD' hu) op_notin_str)
theorem in_ok {b neg : Bool} (h : RpE K G S [d, e] [v, w]) (f : pIn d e = some b) (q : Q (.bl (if neg then !b else b)) G) : rInU K neg v w G Q := by
  obtain ⟨⟨T, r⟩, f1, ⟨U, u⟩, f2⟩ := h.two
  unfold pIn at f
  split at f
  · rename_i x y
    cases f
    rw [rp_str r, rp_str u]
    exact .inr (.inr ⟨_, _, rfl, rfl, q⟩)
  · rename_i m ks ds
    split at f
    · rename_i k hk
      cases f
      obtain ⟨p, vs, e1, hp, l, r1⟩ := rp_dK u f2
      subst e1
      have hv := key_rp r hk
      subst hv
      have g := look_val (k := k) l r1
      refine .inr (.inl ⟨p, valV (ks.zip vs) k, rfl, DGet.k hp, ?_⟩)
      have e1 : (valV (ks.zip vs) k).isSome = (lookK k ks ds).isSome := by
        cases hl : lookK k ks ds with
        | none => rw [g.2 hl]; rfl
        | some z =>
          obtain ⟨x, h1, _⟩ := g.1 z hl
          rw [h1]
          rfl
      rw [e1]
      exact q
    · cases f
  · split at f
    · rename_i x ds h1 h2
      split at f
      · rename_i vs h3
        cases f
        obtain ⟨p, ws, e1, hp, r1⟩ := rp_seq u f2 h2
        subst e1
        have ev := scV_rp r h1
        have ew := vals_rp r1 h3
        subst ev ew
        exact .inl ⟨p, ws, rfl, hp, scV_flat h1, vals_flat h3, q⟩
      · cases f
    · cases f
def pInD (d e : D) : Option D := (pIn d e).map .bl
theorem s2_in : S2 K (rInU K false) pInD := by
  intro G S Q d e z v w h sd f q
  unfold pInD at f
  cases hb : pIn d e with
  | none => rw [hb] at f; cases f
  | some b =>
    rw [hb] at f
    cases f
    exact in_ok h hb q.bl
def pNinD (d e : D) : Option D := (pIn d e).map fun b => .bl (!b)
theorem s2_nin : S2 K (rInU K true) pNinD := by
  intro G S Q d e z v w h sd f q
  unfold pNinD at f
  cases hb : pIn d e with
  | none => rw [hb] at f; cases f
  | some b =>
    rw [hb] at f
    cases f
    exact in_ok h hb q.bl
def pIsN : D → D → Option Bool
  | d, .non => some (match d with | .non => true | _ => false)
  | _, _ => none
theorem isn_ok {b : Bool} (h : RpE K G S [d, e] [v, w]) (f : pIsN d e = some b) : w = .non ∧ b = decide (v = .non) := by
  obtain ⟨⟨T, r⟩, f1, ⟨U, u⟩, f2⟩ := h.two
  cases e <;> simp only [pIsN, reduceCtorEq, Option.some.injEq] at f
  refine ⟨rp_non u, ?_⟩
  subst f
  cases d with
  | non => rw [rp_non r]; rfl
  | bl _ => rw [rp_bl r]; rfl
  | int _ => rw [rp_int r]; rfl
  | str _ => rw [rp_str r]; rfl
  | tup _ => obtain ⟨p, _, e, _⟩ := r; rw [e]; rfl
  | lst m _ =>
    cases m
    · obtain ⟨_, p, _, e, _⟩ := r; rw [e]; rfl
    · obtain ⟨p, _, _, e, _⟩ := r; rw [e]; rfl
  | dK m _ _ =>
    cases m
    · obtain ⟨_, p, _, e, _⟩ := r; rw [e]; rfl
    · obtain ⟨p, _, _, e, _⟩ := r; rw [e]; rfl
  | scr _ => obtain ⟨_, p, _, e, _⟩ := r; rw [e]; rfl
def rIsNU : R2 := fun x y H Q => y = .non ∧ Q (.bl (decide (x = .non))) H
def rNotNU : R2 := fun x y H Q => y = .non ∧ Q (.bl (!decide (x = .non))) H
def pIsND (d e : D) : Option D := (pIsN d e).map .bl
theorem s2_isn : S2 K rIsNU pIsND := by
  intro G S Q d e z v w h sd f q
  unfold pIsND at f
  cases hb : pIsN d e with
  | none => rw [hb] at f; cases f
  | some b =>
    rw [hb] at f
    cases f
    obtain ⟨h1, h2⟩ := isn_ok h hb
    rw [h2] at q
    exact ⟨h1, q.bl⟩
def pNotND (d e : D) : Option D := (pIsN d e).map fun b => .bl (!b)
theorem s2_notn : S2 K rNotNU pNotND := by
  intro G S Q d e z v w h sd f q
  unfold pNotND at f
  cases hb : pIsN d e with
  | none => rw [hb] at f; cases f
  | some b =>
    rw [hb] at f
    cases f
    obtain ⟨h1, h2⟩ := isn_ok h hb
    rw [h2] at q
    exact ⟨h1, q.bl⟩
def rIxD : R2 := fun x y H Q => ∃ a v, x = .ref a ∧ DGet H a y (some v) ∧ Q v H
theorem ix_dict {X : Cx} (hu : X.A.units + 1 < cLine) : IxR X rIxD := by
  rintro value slice pins s σ H x y v u Q I rx ry ⟨a, w, e, g, q⟩ hs
  subst e
  obtain rfl : v = Value.ref a := rx
  unfold PyProof.Rows.subscriptTail
  refine wpAny_bind ?_
  rw [getitemInPython_of_ne (dict_typeIs I g).not_modules]
  refine wpAny_bind (wpAny_specialOf (dict_typeIs I g) PySem.F.slot_dict_getitem.lookup ?_)
  have fin : wpAny (model X.prog X.w) X.A (subscripted slice false (.ref a) u) (fun r s3 => wpAny (model X.prog X.w) X.A (letTemporaryGo value (.ref a) r >>= fun _ => pure r) (EP X pins σ Q) X.xe s3) X.xe s := by
    rw [hs]
    exact wpAny_operating (d_getItem hu I g ry fun w' s3 I3 rw' => wpAny_bind (wpAny_letTemporaryGo (wpAny_pure ⟨w, H, I3, rw', q⟩)))
  first
    | exact wpAny_pure (wpAny_bind fin)
    | exact wpAny_bind (wpAny_pure (wpAny_bind fin))
    | exact wpAny_bind fin
def rIxU (K : PySem.W.Frag) : R2 := fun x y H Q => rIxL K x y H Q ∨ rIxT K x y H Q ∨ rIxS x y H Q ∨ rIxD x y H Q
theorem ix_U {X : Cx} (hu : X.A.units + 1 < cLine) : IxR X (rIxU X.K) := ix_list.or (ix_tup.or (ix_str.or (ix_dict hu)))
theorem s2_idx : S2 K (rIxU K) pIdx := by
  intro G S Q d e z v w h sd f q
  obtain ⟨⟨T, r⟩, f1, ⟨U, u⟩, f2⟩ := h.two
  unfold pIdx at f
  split at f
  · split at f
    · rename_i hl
      cases hc : atI (_ : List Nat) _ with
      | none => rw [hc] at f; cases f
      | some c =>
        rw [hc] at f
        cases f
        rw [rp_str r, rp_int u]
        exact .inr (.inr (.inl ⟨_, _, c, rfl, rfl, lim_le hl, hc, q.str⟩))
    · cases f
  · split at f
    · rename_i m ks ds k k' hk
      obtain ⟨p, vs, e1, hp, l, r1⟩ := rp_dK r f1
      subst e1
      have hv := key_rp u hk
      subst hv
      obtain ⟨x, h1, h2⟩ := (look_val (k := k') l r1).1 _ f
      exact .inr (.inr (.inr ⟨p, x, rfl, h1 ▸ DGet.k hp, q.old h2⟩))
    · cases f
  · split at f
    · rename_i ds hs
      obtain ⟨p, vs, e1, hp, r1⟩ := rp_seq r f1 hs
      subst e1
      rw [rp_int u]
      obtain ⟨x, h1, h2⟩ := r1.at f
      rcases hp with hp | hp
      · exact .inl ⟨p, vs, _, x, rfl, rfl, hp, h1, q.old h2⟩
      · exact .inr (.inl ⟨p, vs, _, x, rfl, rfl, hp, h1, q.old h2⟩)
    · cases f
  · cases f
def rSlU (K : PySem.W.Frag) : V → Option Int → Option Int → Hp → VK → Prop := fun x lo hi H Q => rSlL K x lo hi H Q ∨ rSlA K x lo hi H Q ∨ rSlS x lo hi H Q
theorem sl_U {X : Cx} : SlR X (rSlU X.K) := SlR.or sl_list (SlR.or sl_tupA sl_str)
theorem sl_ok {lo hi : Option Int} (h : RpE K G S [d] [v]) (sd : ∀ a, S a → ∃ o, G a = some o) (f : pSl d lo hi = some z) (q : Good K G S z Q) : rSlU K v lo hi G Q := by
  obtain ⟨⟨T, r⟩, f1⟩ := h.one
  cases d <;> simp only [pSl, reduceCtorEq, Option.some.injEq] at f
  · split at f
    · rename_i hl
      cases f
      rw [rp_str r]
      exact .inr (.inr ⟨_, rfl, lim_le hl, q.str⟩)
    · cases f
  · rename_i ds
    subst f
    obtain ⟨p, vs, e1, hp, r1, _⟩ := rp_tup r f1
    subst e1
    refine .inr (.inl ⟨p, vs, rfl, hp, fun hw => ?_, fun _ => q.tup (r1.cut _ _)⟩)
    have ec : cutD ds lo hi = ds := by
      unfold cutD
      rw [r1.length, hw.1, hw.2, List.drop_zero, Nat.sub_zero, ← r1.length, List.take_length]
    rw [ec] at q
    rw [r.nil f1] at r
    exact q.old r
  · subst f
    obtain ⟨p, vs, e1, hp, r1, _⟩ := rp_lst r f1
    subst e1
    exact .inl ⟨p, vs, rfl, SqL.of hp, q.lst sd (r1.cut _ _)⟩
  · subst f
    obtain ⟨p, vs, e1, hp, r1⟩ := rp_scr r
    subst e1
    exact .inl ⟨p, vs, rfl, hp, q.lst sd (r1.cut _ _)⟩
def SN (K : PySem.W.Frag) (r : List V → Hp → VK → Prop) (f : List D → Option D) : Prop := ∀ (G : Hp) (S : Addr → Prop) (Q : VK) (ds : List D) (z : D) (vs : List V), RpE K G S ds vs → (∀ a, S a → ∃ o, G a = some o) → f ds = some z → Good K G S z Q → r vs G Q
def f1 (f : D → Option D) : List D → Option D
  | [d] => f d
  | _ => none
def f2 (f : D → D → Option D) : List D → Option D
  | [d, e] => f d e
  | _ => none
theorem sn_1 {r : List V → Hp → VK → Prop} {f : D → Option D} (h : ∀ (G : Hp) (S : Addr → Prop) (Q : VK) (d z : D) (v : V) (T : List Addr), Rp K G S d v T → frzK d = d → (∀ a, S a → ∃ o, G a = some o) → f d = some z → Good K G S z Q → r [v] G Q) : SN K r (f1 f) := by
  intro G S Q ds z vs hr sd f q
  match ds, f with
  | [d], f =>
    match vs, hr with
    | [], hr => exact absurd hr.len (by simp)
    | [v], hr =>
      obtain ⟨⟨T, r⟩, e⟩ := hr.one
      exact h G S Q d z v T r e sd f q
    | _ :: _ :: _, hr => exact absurd hr.len (by simp)
theorem sn_2 {r : List V → Hp → VK → Prop} {f : D → D → Option D} (h : ∀ (G : Hp) (S : Addr → Prop) (Q : VK) (d e z : D) (v w : V), RpE K G S [d, e] [v, w] → (∀ a, S a → ∃ o, G a = some o) → f d e = some z → Good K G S z Q → r [v, w] G Q) : SN K r (f2 f) := by
  intro G S Q ds z vs hr sd f q
  match ds, f with
  | [d, e], f =>
    match vs, hr with
    | [], hr => exact absurd hr.len (by simp)
    | [v], hr => exact absurd hr.len (by simp)
    | [v, w], hr => exact h G S Q d e z v w hr sd f q
    | _ :: _ :: _ :: _, hr => exact absurd hr.len (by simp)
theorem CallR.or {X : Cx} {f : Value} {r r' : List V → Hp → VK → Prop} (h : CallR X f r) (h' : CallR X f r') : CallR X f (fun x H Q => r x H Q ∨ r' x H Q) := by
  intro pins s σ H xs us Q I rx q
  rcases q with q | q
  · exact h pins s σ H xs us Q I rx q
  · exact h' pins s σ H xs us Q I rx q
def rLenU (K : PySem.W.Frag) : List V → Hp → VK → Prop := fun xs H Q => (∃ p ys, xs = [.ref p] ∧ (SqL K H p ys ∨ SqT K H p ys) ∧ Q (.int ys.length) H) ∨ (∃ z, xs = [.str z] ∧ z.length ≤ sizeLine ∧ Q (.int z.length) H) ∨ (∃ a kvs, xs = [V.ref a] ∧ H a = some (.dK kvs) ∧ Q (.int kvs.length) H)
theorem call_lenU {X : Cx} : CallR X (.builtin "len") (rLenU X.K) := CallR.or call_len_seq (CallR.or call_len_str call_lenD)
theorem sn_len : SN K (rLenU K) (f1 pLen) := sn_1 fun G S Q d z v T r e sd f q => by
  have seq : ∀ ds, seqOf d = some ds → z = .int ds.length → rLenU K [v] G Q := fun ds hs hz => by
    subst hz
    obtain ⟨p, vs, e1, hp, r1⟩ := rp_seq r e hs
    subst e1
    rw [r1.length] at q
    exact .inl ⟨p, vs, rfl, hp, q.int⟩
  cases d <;> simp only [pLen, seqOf, Option.map_some, Option.map_none, reduceCtorEq, Option.some.injEq] at f
  · split at f
    · rename_i hl
      cases f
      rw [rp_str r]
      exact .inr (.inl ⟨_, rfl, lim_le hl, q.int⟩)
    · cases f
  · exact seq _ rfl f.symm
  · exact seq _ rfl f.symm
  · rename_i m ks xs
    subst f
    obtain ⟨p, vs, e1, hp, l, r1⟩ := rp_dK r e
    subst e1
    have e2 : (ks.zip vs).length = ks.length := by rw [List.length_zip, ← l, Nat.min_self]
    exact .inr (.inr ⟨p, _, rfl, hp, by rw [e2]; exact q.int⟩)
  · exact seq _ rfl f.symm
def rListU (K : PySem.W.Frag) : List V → Hp → VK → Prop := fun xs H Q => ∃ p ys, xs = [.ref p] ∧ (SqL K H p ys ∨ SqT K H p ys) ∧ ∀ l, H l = none → Q (.ref l) (upd H l (.lst ys))
theorem sn_list : SN K (rListU K) (f1 pList) := sn_1 fun G S Q d z v T r e sd f q => by
  unfold pList at f
  cases hs : seqOf d with
  | none => rw [hs] at f; cases f
  | some ds =>
    rw [hs] at f
    cases f
    obtain ⟨p, vs, e1, hp, r1⟩ := rp_seq r e hs
    subst e1
    exact ⟨p, vs, rfl, hp, q.lst sd r1⟩
def rTupU (K : PySem.W.Frag) : List V → Hp → VK → Prop := fun xs H Q => ∃ p ys, xs = [.ref p] ∧ ((SqL K H p ys ∧ ∀ l, H l = none → Q (.ref l) (upd H l (.tup ys))) ∨ (SqT K H p ys ∧ Q (.ref p) H))
theorem sn_tup : SN K (rTupU K) (f1 pTuple) := sn_1 fun G S Q d z v T r e sd f q => by
  cases d <;> simp only [pTuple, seqOf, Option.map_some, Option.map_none, reduceCtorEq, Option.some.injEq] at f
  · subst f
    obtain ⟨p, vs, e1, hp, r1, _⟩ := rp_tup r e
    subst e1
    rw [r.nil e] at r
    exact ⟨p, vs, rfl, .inr ⟨hp, q.old r⟩⟩
  · subst f
    obtain ⟨p, vs, e1, hp, r1, _⟩ := rp_lst r e
    subst e1
    exact ⟨p, vs, rfl, .inl ⟨SqL.of hp, q.tup r1⟩⟩
  · subst f
    obtain ⟨p, vs, e1, hp, r1⟩ := rp_scr r
    subst e1
    exact ⟨p, vs, rfl, .inl ⟨hp, q.tup r1⟩⟩
theorem sn_all : SN K (rAll K) (f1 pAll) := sn_1 fun G S Q d z v T r e sd f q => by
  cases d <;> simp only [pAll, reduceCtorEq, Option.map_eq_some_iff] at f
  obtain ⟨bs, h1, h2⟩ := f
  subst h2
  obtain ⟨p, vs, e1, hp, r1, _⟩ := rp_lst r e
  subst e1
  rw [bls_rp r1 h1] at hp
  exact ⟨p, bs, rfl, SqL.of hp, q.bl⟩
theorem sn_any : SN K (rAny K) (f1 pAny) := sn_1 fun G S Q d z v T r e sd f q => by
  cases d <;> simp only [pAny, reduceCtorEq, Option.map_eq_some_iff] at f
  obtain ⟨bs, h1, h2⟩ := f
  subst h2
  obtain ⟨p, vs, e1, hp, r1, _⟩ := rp_lst r e
  subst e1
  rw [bls_rp r1 h1] at hp
  exact ⟨p, bs, rfl, SqL.of hp, q.bl⟩
theorem sn_abs : SN K (fun xs H Q => ∃ i, xs = [.int i] ∧ Q (.int (if i < 0 then -i else i)) H) (f1 pAbs) := sn_1 fun G S Q d z v T r e sd f q => by
  cases d <;> simp only [pAbs, reduceCtorEq, Option.some.injEq] at f
  subst f
  rw [rp_int r]
  exact ⟨_, rfl, q.int⟩
theorem sn_min : SN K (fun xs H Q => ∃ i j, xs = [.int i, .int j] ∧ Q (.int (if j < i then j else i)) H) (f2 pMin) := sn_2 fun G S Q d e z v w h sd f q => by
  obtain ⟨⟨T, r⟩, _, ⟨U, u⟩, _⟩ := h.two
  cases d <;> cases e <;> simp only [pMin, reduceCtorEq, Option.some.injEq] at f
  subst f
  rw [rp_int r, rp_int u]
  exact ⟨_, _, rfl, q.int⟩
theorem sn_max : SN K (fun xs H Q => ∃ i j, xs = [.int i, .int j] ∧ Q (.int (if j > i then j else i)) H) (f2 pMax) := sn_2 fun G S Q d e z v w h sd f q => by
  obtain ⟨⟨T, r⟩, _, ⟨U, u⟩, _⟩ := h.two
  cases d <;> cases e <;> simp only [pMax, reduceCtorEq, Option.some.injEq] at f
  subst f
  rw [rp_int r, rp_int u]
  exact ⟨_, _, rfl, q.int⟩
theorem kit_all (d : D) (t : Ty) : kitB (tyD d) t.name = some (isiD d t) := by
  cases d <;> cases t <;> (simp only [tyD, Ty.name, isiD]; decide +kernel)
theorem ty_rp {T : List Addr} (r : Rp K G S d v T) : TyX K G v (.type (tyD d)) := by
  cases d with
  | non => rw [rp_non r]; exact .base .non
  | bl _ => rw [rp_bl r]; exact .base (.bl _)
  | int _ => rw [rp_int r]; exact .base (.int _)
  | str _ => rw [rp_str r]; exact .base (.str _)
  | tup ds =>
    obtain ⟨p, vs, e, h, _⟩ := r
    subst e
    rcases h with ⟨_, h⟩ | h
    · exact .base (.tup h)
    · rcases h with (h | ⟨o, h⟩) | ⟨o, its, n, h1, h2, _⟩
      · cases h
      · cases h
      · exact .kTuple h1 h2
  | lst m ds =>
    cases m
    · obtain ⟨_, p, vs, e, _, h, _⟩ := r
      subst e
      exact .base (.lst h)
    · obtain ⟨p, vs, _, e, _, h, _⟩ := r
      subst e
      exact .base (.lst h)
  | dK m ks ds =>
    cases m
    · obtain ⟨_, p, vs, e, _, h, _⟩ := r
      subst e
      exact .base (.dK h)
    · obtain ⟨p, vs, _, e, _, h, _⟩ := r
      subst e
      exact .base (.dK h)
  | scr ds =>
    obtain ⟨_, p, vs, e, h, _⟩ := r
    subst e
    rcases h with ⟨_, h | ⟨o, h⟩⟩ | h
    · exact .base (.lst h)
    · exact .base (.frz h)
    · rcases h with (h | ⟨o, h⟩) | ⟨o, its, n, h1, h2, _⟩
      · cases h
      · cases h
      · exact .kList h1 h2
theorem isi_ok {t : Ty} (h : RpE K G S [d] [v]) (q : Good K G S (.bl (isiD d t)) Q) : rIsi K [v, .ty t.name] G Q := by
  obtain ⟨⟨T, r⟩, _⟩ := h.one
  exact ⟨v, .ty t.name, _, _, _, rfl, .ty _, ty_rp r, kit_ty (kit_all d t), q.bl⟩
end
end DE
namespace DE
open PySem PySem.Spec L2
abbrev EvO := En → Option (Opd × En)
abbrev EvOs := En → Option (List Opd × En)
def tO (K : PySem.W.Frag) (ev : EvO) : TE := fun σ G Q => ∃ S F E o E', SR K G S E σ F ∧ ev E = some (o, E') ∧ ∀ v G' S' T F', RO K σ G S F E' [o] [v] G' S' T F' → Q v G'
def tOs (K : PySem.W.Frag) (ev : EvOs) : TA := fun σ G Q => ∃ S F E os E', SR K G S E σ F ∧ ev E = some (os, E') ∧ ∀ vs G' S' T F', RO K σ G S F E' os vs G' S' T F' → Q vs G'
theorem _root_.L2.PE.weak {X : Cx} {e : Expr} {t t' : TE} (h : PE X e t) (w : ∀ σ G Q, t' σ G Q → t σ G Q) : PE X e t' := ⟨fun pins s σ H Q I hq => h.run pins s σ H Q I (w σ H Q hq)⟩
theorem _root_.L2.PT.weak {X : Cx} {e : Expr} {t t' : TT} (h : PT X e t) (w : ∀ σ G Q, t' σ G Q → t σ G Q) : PT X e t' := ⟨fun pins s σ H Q I hq => h.run pins s σ H Q I (w σ H Q hq)⟩
theorem _root_.L2.PW.weak {X : Cx} {e : Expr} {t t' : TT} (h : PW X e t) (w : ∀ σ G Q, t' σ G Q → t σ G Q) : PW X e t' := ⟨fun wh pins s σ H Q I hq => h.run wh pins s σ H Q I (w σ H Q hq)⟩
theorem _root_.L2.PA.weak {X : Cx} {e : List Expr} {t t' : TA} (h : PA X e t) (w : ∀ σ G Q, t' σ G Q → t σ G Q) : PA X e t' := ⟨fun pos pins s σ H Q I hq => h.run pos pins s σ H Q I (w σ H Q hq)⟩
theorem _root_.L2.PS.weak {X : Cx} {e : Stmt} {t t' : TS} (h : PS X e t) (w : ∀ D σ G, t' D σ G → t D σ G) : PS X e t' := ⟨fun pins s σ H D I hq => h.run pins s σ H D I (w D σ H hq)⟩
theorem _root_.L2.PSs.weak {X : Cx} {e : List Stmt} {t t' : TS} (h : PSs X e t) (w : ∀ D σ G, t' D σ G → t D σ G) : PSs X e t' := ⟨fun pins s σ H D I hq => h.run pins s σ H D I (w D σ H hq)⟩
section
variable {K : PySem.W.Frag} {σ : St} {G G1 : Hp} {S S1 : Addr → Prop} {F F1 T T1 : List Addr} {E E1 E2 E3 : En} {Q : VK} {os : List Opd} {vs : List V}
def evVar (i : Nat) : EvO := fun E => match E[i]? with
  | some (some _) => some (.slot i, E)
  | _ => none
theorem t_var {i : Nat} (h : tO K (evVar i) σ G Q) : tVar i σ G Q := by
  obtain ⟨S, F, E, o, E', sr, he, q⟩ := h
  unfold evVar at he
  split at he
  · rename_i d hd
    cases he
    obtain ⟨v, F1, Fr, g1, _⟩ := sr.rep.get hd
    refine ⟨v, g1, q v G S [] F ⟨sr, .of ⟨g1, rfl⟩, sr.nd, (fun _ m => by cases m), .refl⟩⟩
  · cases he
def evMv (i : Nat) : EvO := fun E => match E[i]? with
  | some (some d) => some (.temp d, E.set i none)
  | _ => none
theorem t_mv {i : Nat} (h : tO K (evMv i) σ G Q) : tVar i σ G Q := by
  obtain ⟨S, F, E, o, E', sr, he, q⟩ := h
  unfold evMv at he
  split at he
  · rename_i d hd
    cases he
    obtain ⟨v, F1, Fr, g1, g2, g3, g4⟩ := sr.rep.get hd
    have nd : (F1 ++ Fr).Nodup := g4.nodup_iff.mp sr.nd
    obtain ⟨n1, n2, n3⟩ := nd_app.mp nd
    refine ⟨v, g1, q v G S F1 Fr ⟨⟨g3, n2, fun a ha => sr.ns a (g4.mem_iff.mpr (List.mem_append_right _ ha)), sr.sd⟩, .of g2, nd, fun a ha => sr.ns a (g4.mem_iff.mpr (List.mem_append_left _ ha)), Stp.refl.less fun a ha => g4.mem_iff.mpr ha⟩⟩
  · cases he
def evCon (d : D) : EvO := fun E => some (.temp d, E)
theorem t_con {d : D} {v : V} (hd : ∀ G S, Rp K G S d v []) (h : tO K (evCon d) σ G Q) : tC v σ G Q := by
  obtain ⟨S, F, E, o, E', sr, he, q⟩ := h
  cases he
  exact q v G S [] F ⟨sr, .of (hd G S), sr.nd, (fun _ m => by cases m), .refl⟩
def prim (f : List D → Option D) (os : List Opd) (E : En) : Option (Opd × En) := match looks os E with
  | some (ds, E2) => match f ds with
    | some z => some (.temp z, if z.sc = true then E else E2)
    | none => none
  | none => none
theorem prim_go {f : List D → Option D} {o : Opd} (ro : RO K σ G S F E2 os vs G1 S1 T F1) (h : prim f os E2 = some (o, E3)) (q : ∀ v G' S' T F', RO K σ G S F E3 [o] [v] G' S' T F' → Q v G') :
    ∃ S2 ds z, RpE K G1 S2 ds vs ∧ (∀ a, S2 a → ∃ o, G1 a = some o) ∧ f ds = some z ∧ Good K G1 S2 z Q := by
  unfold prim at h
  split at h
  · rename_i ds E4 hl
    split at h
    · rename_i z hz
      obtain ⟨S2, F2, sr2, rp, s1, s2, f1⟩ := looks_ok ro.sr ro.ro ro.nd ro.ns hl
      cases h
      refine ⟨S2, ds, z, rp, sr2.sd, hz, fun x G' S' Z nr => ?_⟩
      have live : ∀ a o, G a = some o → ∃ o', G' a = some o' := fun a o e => by
        obtain ⟨o', e'⟩ := ro.stp.live a o e
        exact ⟨o', nr.keep a o' e'⟩
      by_cases hs : z.sc = true
      · rw [if_pos hs] at q
        refine q x G' S1 [] F1 ⟨⟨ro.sr.rep.mono (fun p o _ e => nr.keep p o e) (fun p hp => ?_) fun _ z => z, ro.sr.nd, ro.sr.ns, fun a ha => ?_⟩, .of (nr.rp.sc_any hs), ro.sr.nd, (fun _ m => by cases m), ?_⟩
        · obtain ⟨o, e⟩ := ro.sr.rep.dom p hp
          rw [e, nr.keep p o e]
        · obtain ⟨o, e⟩ := ro.sr.sd a ha
          exact ⟨o, nr.keep a o e⟩
        · exact ⟨fun a o e n => nr.keep a o (ro.stp.keep a o e n), live, fun a ha => ro.stp.fs a (List.mem_append_right _ ha), ro.stp.ss, ro.stp.sn⟩
      · rw [if_neg hs] at q
        have nf : ∀ a, a ∈ F2 → a ∉ Z := fun a ha hz => by
          obtain ⟨o, e⟩ := sr2.rep.dom a ha
          rw [nr.fr a hz] at e; cases e
        refine q x G' S' Z F2 ⟨⟨sr2.rep.mono (fun p o _ e => nr.keep p o e) (fun p hp => ?_) nr.ss, sr2.nd, fun a ha hs' => ?_, fun a ha => ?_⟩, .of nr.rp, nd_app.mpr ⟨nr.nd, sr2.nd, fun a ha hb => nf a hb ha⟩, nr.ns, ?_⟩
        · obtain ⟨o, e⟩ := sr2.rep.dom p hp
          rw [e, nr.keep p o e]
        · rcases nr.sn a hs' with m | ⟨m, _⟩
          · exact sr2.ns a ha m
          · obtain ⟨o, e⟩ := sr2.rep.dom a ha
            rw [m] at e; cases e
        · rcases nr.sn a ha with m | ⟨_, m⟩
          · obtain ⟨o, e⟩ := sr2.sd a m
            exact ⟨o, nr.keep a o e⟩
          · exact m
        · refine ⟨fun a o e n => nr.keep a o (ro.stp.keep a o e n), live, fun a ha => ?_, fun a ha => nr.ss a (s1 a (ro.stp.ss a ha)), fun a ha => ?_⟩
          · rcases List.mem_append.mp ha with m | m
            · exact .inr (ro.stp.back (nr.fr a m))
            · exact ro.stp.fs a (List.mem_append_right _ (f1 a m))
          · rcases nr.sn a ha with m | ⟨m, _⟩
            · rcases s2 a m with m | m
              · exact ro.stp.sn a m
              · exact .inr (ro.stp.fs a m)
            · exact .inr (.inr (ro.stp.back m))
    · cases h
  · cases h
def ev1 (f : D → Option D) (ea : EvO) : EvO := fun E => match ea E with
  | some (x, E1) => prim (f1 f) [x] E1
  | none => none
def ev2 (f : D → D → Option D) (ea eb : EvO) : EvO := fun E => match ea E with
  | some (x, E1) => match eb E1 with
    | some (y, E2) => prim (f2 f) [x, y] E2
    | none => none
  | none => none
def evN (f : List D → Option D) (es : EvOs) : EvO := fun E => match es E with
  | some (os, E1) => prim f os E1
  | none => none
theorem f2_two {f : D → D → Option D} {ds : List D} {z : D} (h : f2 f ds = some z) : ∃ d e, ds = [d, e] ∧ f d e = some z := by
  match ds, h with
  | [d, e], h => exact ⟨d, e, rfl, h⟩
theorem f1_one {f : D → Option D} {ds : List D} {z : D} (h : f1 f ds = some z) : ∃ d, ds = [d] ∧ f d = some z := by
  match ds, h with
  | [d], h => exact ⟨d, rfl, h⟩
theorem t_op {r : R2} {f : D → D → Option D} {ea eb : EvO} (hr : S2 K r f) (h : tO K (ev2 f ea eb) σ G Q) : tOp r (tO K ea) (tO K eb) σ G Q := by
  obtain ⟨S, F, E, o, E', sr, he, q⟩ := h
  unfold ev2 at he
  split at he
  · rename_i x E1 h1
    split at he
    · rename_i y E2 h2
      refine ⟨S, F, E, x, E1, sr, h1, fun v G1 S1 T1 F1 ro1 => ⟨S1, F1, E1, y, E2, ro1.sr, h2, fun w G2 S2 T2 F2 ro2 => ?_⟩⟩
      obtain ⟨S3, ds, z, rp, sd, hf, g⟩ := prim_go (ro1.app ro2) he q
      obtain ⟨d, e, rfl, hf⟩ := f2_two hf
      exact hr G2 S3 Q d e z v w rp sd hf g
    · cases he
  · cases he
theorem t_un {r : V → Hp → VK → Prop} {f : D → Option D} {ea : EvO} (hr : ∀ (G : Hp) (S : Addr → Prop) (Q : VK) (d z : D) (v : V), RpE K G S [d] [v] → (∀ a, S a → ∃ o, G a = some o) → f d = some z → Good K G S z Q → r v G Q) (h : tO K (ev1 f ea) σ G Q) : tUn r (tO K ea) σ G Q := by
  obtain ⟨S, F, E, o, E', sr, he, q⟩ := h
  unfold ev1 at he
  split at he
  · rename_i x E1 h1
    refine ⟨S, F, E, x, E1, sr, h1, fun v G1 S1 T1 F1 ro1 => ?_⟩
    obtain ⟨S3, ds, z, rp, sd, hf, g⟩ := prim_go ro1 he q
    obtain ⟨d, rfl, hf⟩ := f1_one hf
    exact hr G1 S3 Q d z v rp sd hf g
  · cases he
theorem t_cb {r : List V → Hp → VK → Prop} {f : List D → Option D} {es : EvOs} (hr : SN K r f) (h : tO K (evN f es) σ G Q) : tCB r (tOs K es) σ G Q := by
  obtain ⟨S, F, E, o, E', sr, he, q⟩ := h
  unfold evN at he
  split at he
  · rename_i os E1 h1
    refine ⟨S, F, E, os, E1, sr, h1, fun vs G1 S1 T1 F1 ro1 => ?_⟩
    obtain ⟨S3, ds, z, rp, sd, hf, g⟩ := prim_go ro1 he q
    exact hr G1 S3 Q ds z vs rp sd hf g
  · cases he
def evNil : EvOs := fun E => some ([], E)
def evCons (ea : EvO) (es : EvOs) : EvOs := fun E => match ea E with
  | some (x, E1) => match es E1 with
    | some (os, E2) => some (x :: os, E2)
    | none => none
  | none => none
theorem ta_nil {Q : List V → Hp → Prop} (h : tOs K evNil σ G Q) : tNil σ G Q := by
  obtain ⟨S, F, E, o, E', sr, he, q⟩ := h
  cases he
  exact q [] G S [] F (.nil sr)
theorem ta_cons {Q : List V → Hp → Prop} {ea : EvO} {es : EvOs} (h : tOs K (evCons ea es) σ G Q) : tCons (tO K ea) (tOs K es) σ G Q := by
  obtain ⟨S, F, E, o, E', sr, he, q⟩ := h
  unfold evCons at he
  split at he
  · rename_i x E1 h1
    split at he
    · rename_i os E2 h2
      cases he
      refine ⟨S, F, E, x, E1, sr, h1, fun v G1 S1 T1 F1 ro1 => ⟨S1, F1, E1, os, E', ro1.sr, h2, fun vs G2 S2 T2 F2 ro2 => ?_⟩⟩
      exact q (v :: vs) G2 S2 (T1 ++ T2) F2 (ro1.app ro2)
    · cases he
  · cases he
def tk : Opd → En → Option (D × En)
  | .temp d, E => some (d, E)
  | .slot i, E => match E[i]? with
    | some (some d) => some (frz d, E.set i (some (frz d)))
    | _ => none
def tks : List Opd → En → Option (List D × En)
  | [], E => some ([], E)
  | o :: os, E => match tk o E with
    | some (d, E1) => match tks os E1 with
      | some (ds, E2) => some (d :: ds, E2)
      | none => none
    | none => none
theorem set_same {σ : St} {i : Nat} {v : V} (hv : σ[i]? = some (some v)) : σ.set i (some v) = σ := by
  apply List.ext_getElem?
  intro j
  by_cases e : j = i
  · subst e
    have hl' : j < σ.length := (List.getElem?_eq_some_iff.mp hv).1
    rw [List.getElem?_set_self hl', hv]
  · rw [List.getElem?_set_ne (Ne.symm e)]
theorem tk_ok {o : Opd} {v : V} {d : D} {E' : En} (sr : SR K G S E σ F) (r : RpO K σ G S o v T) (nd : (T ++ F).Nodup) (nt : ∀ a, a ∈ T → ¬ S a) (h : tk o E = some (d, E')) :
    ∃ S' F' T', SR K G S' E' σ F' ∧ Rp K G S' d v T' ∧ (∀ a, S a → S' a) ∧ (∀ a, S' a → S a ∨ a ∈ F) ∧ (∀ a, a ∈ F' → a ∈ F) ∧ (∀ a, a ∈ T' → a ∈ T) ∧ T'.Nodup ∧ (∀ a, a ∈ F → S' a → a ∉ F') := by
  obtain ⟨n1, n2, n3⟩ := nd_app.mp nd
  cases o with
  | temp d0 =>
    cases h
    exact ⟨S, F, T, sr, r, fun _ z => z, fun _ z => .inl z, fun _ z => z, fun _ z => z, n1, fun a ha hs => absurd hs (sr.ns a ha)⟩
  | slot i =>
    simp only [tk] at h
    split at h
    · rename_i d0 hi
      cases h
      obtain ⟨hv, _⟩ := r
      obtain ⟨v', F1, Fr, g1, g2, g3, g4⟩ := sr.rep.get hi
      rw [hv] at g1
      cases g1
      have ndp : (F1 ++ Fr).Nodup := g4.nodup_iff.mp n2
      obtain ⟨p1, p2, p3⟩ := nd_app.mp ndp
      have mF : ∀ a, a ∈ F ↔ a ∈ F1 ++ Fr := fun a => g4.mem_iff
      have hl : i < E.length := (List.getElem?_eq_some_iff.mp hi).1
      have rf : Rp K G (fun a => S a ∨ a ∈ F1) (DE.frz d0) v [] := g2.frz (fun _ z => .inl z) fun _ z => .inr z
      obtain ⟨F', h', pp⟩ := REnv.put (i := i) (S := fun a => S a ∨ a ∈ F1) (g3.mono (fun _ _ _ z => z) (fun _ _ => rfl) fun _ z => .inl z) (by rw [List.getElem?_set_self hl]) rf
      rw [List.set_set, set_same hv] at h'
      have mF' : ∀ a, a ∈ F' ↔ a ∈ Fr := fun a => pp.mem_iff
      have cut : ∀ a, a ∈ F1 → a ∉ F' := fun a h1 h3 => p3 a h1 ((mF' a).mp h3)
      refine ⟨_, F', [], ⟨h', pp.nodup_iff.mpr p2, fun a ha hs => ?_, fun a hs => ?_⟩, rf, fun _ z => .inl z, fun a hs => ?_, fun a ha => (mF a).mpr (List.mem_append_right _ ((mF' a).mp ha)), (fun _ m => by cases m), .nil, fun a ha hs => ?_⟩
      · rcases hs with hs | h1
        · exact sr.ns a ((mF a).mpr (List.mem_append_right _ ((mF' a).mp ha))) hs
        · exact cut a h1 ha
      · rcases hs with hs | hs
        · exact sr.sd a hs
        · exact g2.dom a hs
      · rcases hs with hs | hs
        · exact .inl hs
        · exact .inr ((mF a).mpr (List.mem_append_left _ hs))
      · rcases hs with hs | h1
        · exact absurd hs (sr.ns a ha)
        · exact cut a h1
    · cases h
theorem tks_ok : ∀ {os : List Opd} {vs : List V} {T F : List Addr} {E E' : En} {ds : List D} {S : Addr → Prop}, SR K G S E σ F → RpOs K σ G S os vs T → (T ++ F).Nodup → (∀ a, a ∈ T → ¬ S a) → tks os E = some (ds, E') →
    ∃ S' F' T', SR K G S' E' σ F' ∧ RpL K G S' ds vs T' ∧ (∀ a, S a → S' a) ∧ (∀ a, S' a → S a ∨ a ∈ F) ∧ (∀ a, a ∈ F' → a ∈ F) ∧ (∀ a, a ∈ T' → a ∈ T) ∧ T'.Nodup := by
  intro os
  induction os with
  | nil =>
    intro vs T F E E' ds S sr r nd nt h
    cases h
    exact ⟨S, F, [], sr, ⟨r.1, rfl⟩, fun _ z => z, fun _ z => .inl z, fun _ z => z, (fun _ m => by cases m), .nil⟩
  | cons o os ih =>
    intro vs T F E E' ds S sr r nd nt h
    obtain ⟨v, vs', T1, T2, e, z, ro, r⟩ := r
    subst e z
    unfold tks at h
    split at h
    · rename_i d E1 h1
      split at h
      · rename_i ds2 E2 h2
        cases h
        rw [List.append_assoc] at nd
        obtain ⟨n1, n2, n3⟩ := nd_app.mp nd
        obtain ⟨n4, n5, n6⟩ := nd_app.mp n2
        have nd1 : (T1 ++ F).Nodup := nd_app.mpr ⟨n1, n5, fun a ha hb => n3 a ha (List.mem_append_right _ hb)⟩
        obtain ⟨S1, F1, T1', sr1, rp1, s1, s2, f1, t1, nt1, f2⟩ := tk_ok sr ro nd1 (fun a ha => nt a (List.mem_append_left _ ha)) h1
        have out : ∀ a, a ∈ T2 → ¬ S1 a := fun a ha hs => by
          rcases s2 a hs with m | m
          · exact nt a (List.mem_append_right _ ha) m
          · exact n6 a ha m
        obtain ⟨S2, F2, T2', sr2, rp2, u1, u2, g1, t2, nt2⟩ := ih sr1 (r.mono (fun _ _ _ z => z) (fun _ _ => rfl) s1) (nd_app.mpr ⟨n4, sr1.nd, fun a ha hb => n6 a ha (f1 a hb)⟩) out h2
        refine ⟨S2, F2, T1' ++ T2', sr2, ⟨v, vs', T1', T2', rfl, rfl, rp1.mono (fun _ _ _ z => z) (fun _ _ => rfl) u1, rp2⟩, fun a ha => u1 a (s1 a ha), fun a ha => ?_, fun a ha => f1 a (g1 a ha), fun a ha => ?_, nd_app.mpr ⟨nt1, nt2, fun a ha hb => n3 a (t1 a ha) (List.mem_append_left _ (t2 a hb))⟩⟩
        · rcases u2 a ha with m | m
          · exact s2 a m
          · exact .inr (f1 a m)
        · rcases List.mem_append.mp ha with m | m
          · exact List.mem_append_left _ (t1 a m)
          · exact List.mem_append_right _ (t2 a m)
      · cases h
    · cases h
theorem RO.taken {ds : List D} {E' : En} (ro : RO K σ G S F E2 os vs G1 S1 T F1) (h : tks os E2 = some (ds, E')) :
    ∃ S2 F2 T2, SR K G1 S2 E' σ F2 ∧ RpL K G1 S2 ds vs T2 ∧ (T2 ++ F2).Nodup ∧ (∀ a, a ∈ T2 → ¬ S2 a) ∧ Stp G S F G1 S2 (T2 ++ F2) := by
  obtain ⟨S2, F2, T2, sr, rp, s1, s2, f1, t1, nt⟩ := tks_ok ro.sr ro.ro ro.nd ro.ns h
  obtain ⟨n1, n2, n3⟩ := nd_app.mp ro.nd
  refine ⟨S2, F2, T2, sr, rp, nd_app.mpr ⟨nt, sr.nd, fun a ha hb => n3 a (t1 a ha) (f1 a hb)⟩, fun a ha hs => ?_, ro.stp.keep, ro.stp.live, fun a ha => ?_, fun a ha => s1 a (ro.stp.ss a ha), fun a ha => ?_⟩
  · rcases s2 a hs with m | m
    · exact ro.ns a (t1 a ha) m
    · exact n3 a (t1 a ha) m
  · rcases List.mem_append.mp ha with m | m
    · exact ro.stp.fs a (List.mem_append_left _ (t1 a m))
    · exact ro.stp.fs a (List.mem_append_right _ (f1 a m))
  · rcases s2 a ha with m | m
    · exact ro.stp.sn a m
    · exact .inr (ro.stp.fs a (List.mem_append_right _ m))
def evTup (es : EvOs) : EvO := fun E => match es E with
  | some (os, E1) => match tks os E1 with
    | some (ds, E2) => if ds.length ≤ lim then some (.temp (.tup ds), E2) else none
    | none => none
  | none => none
def evLst (es : EvOs) : EvO := fun E => match es E with
  | some (os, E1) => match tks os E1 with
    | some (ds, E2) => if ds.length ≤ lim then some (.temp (.lst true ds), E2) else none
    | none => none
  | none => none
theorem up_keep {G : Hp} {p : Addr} {u : HO} (hp : G p = none) : ∀ a o, G a = some o → upd G p u a = some o := fun a o e => by rw [upd_ne (ne_of_none e hp)]; exact e
theorem Stp.new {S' : Addr → Prop} {T : List Addr} {p : Addr} {u : HO} (s : Stp G S F G1 S1 T) (hp : G1 p = none) (h1 : ∀ a, S1 a → S' a) (h2 : ∀ a, S' a → S1 a ∨ a = p) {T' : List Addr} (h3 : ∀ a, a ∈ T' → a ∈ T ∨ a = p) : Stp G S F (upd G1 p u) S' T' := by
  refine ⟨fun a o e n => up_keep hp a o (s.keep a o e n), fun a o e => ?_, fun a ha => ?_, fun a ha => h1 a (s.ss a ha), fun a ha => ?_⟩
  · obtain ⟨o', e'⟩ := s.live a o e
    exact ⟨o', up_keep hp a o' e'⟩
  · rcases h3 a ha with m | m
    · exact s.fs a m
    · subst m
      exact .inr (s.back hp)
  · rcases h2 a ha with m | m
    · exact s.sn a m
    · subst m
      exact .inr (.inr (s.back hp))
theorem t_tup {es : EvOs} (h : tO K (evTup es) σ G Q) : tTup (tOs K es) σ G Q := by
  obtain ⟨S, F, E, o, E', sr, he, q⟩ := h
  unfold evTup at he
  split at he
  · rename_i os E1 h1
    split at he
    · rename_i ds E2 h2
      split at he
      · rename_i hl
        cases he
        refine ⟨S, F, E, os, E1, sr, h1, fun vs G1 S1 T1 F1 ro => ?_⟩
        obtain ⟨S2, F2, T2, sr2, rp, nd, ns, stp⟩ := ro.taken h2
        refine ⟨by rw [← rp.length]; exact lim_le hl, fun p hp => ?_⟩
        have kp := up_keep (u := .tup vs) hp
        obtain ⟨n1, n2, n3⟩ := nd_app.mp nd
        have pn : ∀ a, a ∈ T2 ++ F2 → a ≠ p := fun a ha e => by
          subst e
          rcases List.mem_append.mp ha with m | m
          · obtain ⟨o, e⟩ := rp.dom a m
            rw [hp] at e; cases e
          · obtain ⟨o, e⟩ := sr2.rep.dom a m
            rw [hp] at e; cases e
        refine q (.ref p) _ (fun a => S2 a ∨ a = p) T2 F2 ⟨⟨sr2.rep.mono (fun a o _ e => kp a o e) (fun a ha => by rw [upd_ne (pn a (List.mem_append_right _ ha))]) fun _ z => .inl z, sr2.nd, fun a ha hs => ?_, fun a ha => ?_⟩,
          .of ⟨p, vs, rfl, .inl ⟨.inr rfl, upd_same⟩, rp.mono (fun a o _ e => kp a o e) (fun a ha => by rw [upd_ne (pn a (List.mem_append_left _ ha))]) fun _ z => .inl z⟩, nd, fun a ha hs => ?_, stp.new hp (fun _ z => .inl z) (fun _ z => z) fun _ z => .inl z⟩
        · rcases hs with hs | hs
          · exact sr2.ns a ha hs
          · exact pn a (List.mem_append_right _ ha) hs
        · rcases ha with ha | ha
          · obtain ⟨o, e⟩ := sr2.sd a ha
            exact ⟨o, kp a o e⟩
          · subst ha
            exact ⟨_, upd_same⟩
        · rcases hs with hs | hs
          · exact ns a ha hs
          · exact pn a (List.mem_append_left _ ha) hs
      · cases he
    · cases he
  · cases he
theorem t_lst {es : EvOs} (h : tO K (evLst es) σ G Q) : tLst (tOs K es) σ G Q := by
  obtain ⟨S, F, E, o, E', sr, he, q⟩ := h
  unfold evLst at he
  split at he
  · rename_i os E1 h1
    split at he
    · rename_i ds E2 h2
      split at he
      · rename_i hl
        cases he
        refine ⟨S, F, E, os, E1, sr, h1, fun vs G1 S1 T1 F1 ro => ?_⟩
        obtain ⟨S2, F2, T2, sr2, rp, nd, ns, stp⟩ := ro.taken h2
        refine ⟨by rw [← rp.length]; exact lim_le hl, fun p hp => ?_⟩
        have kp := up_keep (u := .lst vs) hp
        obtain ⟨n1, n2, n3⟩ := nd_app.mp nd
        have pn : ∀ a, a ∈ T2 ++ F2 → a ≠ p := fun a ha e => by
          subst e
          rcases List.mem_append.mp ha with m | m
          · obtain ⟨o, e⟩ := rp.dom a m
            rw [hp] at e; cases e
          · obtain ⟨o, e⟩ := sr2.rep.dom a m
            rw [hp] at e; cases e
        refine q (.ref p) _ S2 (p :: T2) F2 ⟨⟨sr2.rep.mono (fun a o _ e => kp a o e) (fun a ha => by rw [upd_ne (pn a (List.mem_append_right _ ha))]) fun _ z => z, sr2.nd, sr2.ns, fun a ha => ?_⟩,
          .of ⟨p, vs, T2, rfl, rfl, upd_same, rp.mono (fun a o _ e => kp a o e) (fun a ha => by rw [upd_ne (pn a (List.mem_append_left _ ha))]) fun _ z => z⟩, List.nodup_cons.mpr ⟨fun m => pn p m rfl, nd⟩, fun a ha hs => ?_, stp.new hp (fun _ z => z) (fun _ z => .inl z) fun a ha => ?_⟩
        · obtain ⟨o, e⟩ := sr2.sd a ha
          exact ⟨o, kp a o e⟩
        · rcases List.mem_cons.mp ha with m | m
          · subst m
            obtain ⟨o, e⟩ := sr2.sd a hs
            rw [hp] at e; cases e
          · exact ns a m hs
        · rcases List.mem_cons.mp ha with m | m
          · exact .inr m
          · exact .inl m
      · cases he
    · cases he
  · cases he
end
end DE
namespace DE
open PySem PySem.Spec L2
section
variable {K : PySem.W.Frag} {σ : St} {G G1 G2 : Hp} {S S1 : Addr → Prop} {F F1 T T1 : List Addr} {E E1 E2 E3 : En} {Q : VK} {os : List Opd} {vs : List V}
abbrev EvT := En → Option (Bool × En)
def tT (K : PySem.W.Frag) (ev : EvT) : TT := fun σ G Q => ∃ S F E b E', SR K G S E σ F ∧ ev E = some (b, E') ∧ ∀ G' S' F', RO K σ G S F E' [] [] G' S' [] F' → Q b G'
theorem RO.dropAll (ro : RO K σ G S F E2 os vs G1 S1 T F1) : RO K σ G S F E2 [] [] G1 S1 [] F1 :=
  ⟨ro.sr, ⟨rfl, rfl⟩, ro.sr.nd, (fun _ m => by cases m), ro.stp.less fun a ha => List.mem_append_right _ ha⟩
def asB : Opd → En → Option Bool
  | .temp (.bl b), _ => some b
  | .slot i, E => match E[i]? with
    | some (some (.bl b)) => some b
    | _ => none
  | _, _ => none
theorem asB_rp {o : Opd} {v : V} {b : Bool} (sr : SR K G S E σ F) (r : RpO K σ G S o v T) (h : asB o E = some b) : v = .bl b := by
  cases o with
  | temp d =>
    cases d <;> simp only [asB, reduceCtorEq, Option.some.injEq] at h
    subst h
    exact r.1
  | slot i =>
    simp only [asB] at h
    split at h
    · rename_i b' hb
      cases h
      obtain ⟨v', F1, Fr, g1, g2, _⟩ := sr.rep.get hb
      rw [r.1] at g1
      cases g1
      exact g2.1
    · cases h
def evB (ea : EvO) : EvT := fun E => match ea E with
  | some (o, E1) => match asB o E1 with
    | some b => some (b, E1)
    | none => none
  | none => none
theorem t_B {Q : Bool → Hp → Prop} {ea : EvO} (h : tT K (evB ea) σ G Q) : tB (tO K ea) σ G Q := by
  obtain ⟨S, F, E, b, E', sr, he, q⟩ := h
  unfold evB at he
  split at he
  · rename_i o E1 h1
    split at he
    · rename_i b' h2
      cases he
      exact ⟨S, F, E, o, E', sr, h1, fun v G1 S1 T1 F1 ro => ⟨b, asB_rp ro.sr ro.ro.one h2, q G1 S1 F1 ro.dropAll⟩⟩
    · cases he
  · cases he
theorem t_test {Q : Bool → Hp → Prop} {ea : EvO} (h : tT K (evB ea) σ G Q) : tTest (tO K ea) σ G Q := t_B h
def evAndT (a b : EvT) : EvT := fun E => match a E with
  | some (true, E1) => b E1
  | some (false, E1) => some (false, E1)
  | none => none
def evOrT (a b : EvT) : EvT := fun E => match a E with
  | some (true, E1) => some (true, E1)
  | some (false, E1) => b E1
  | none => none
def evNotT (a : EvT) : EvT := fun E => match a E with
  | some (b, E1) => some (!b, E1)
  | none => none
theorem t_andT {Q : Bool → Hp → Prop} {a b : EvT} (h : tT K (evAndT a b) σ G Q) : tAnd (tT K a) (tT K b) σ G Q := by
  obtain ⟨S, F, E, c, E', sr, he, q⟩ := h
  unfold evAndT at he
  split at he
  · rename_i E1 h1
    exact ⟨S, F, E, true, E1, sr, h1, fun G1 S1 F1 ro => iteT ⟨S1, F1, E1, c, E', ro.sr, he, fun G2 S2 F2 ro2 => q G2 S2 F2 (ro.app ro2)⟩⟩
  · rename_i E1 h1
    cases he
    exact ⟨S, F, E, false, E', sr, h1, fun G1 S1 F1 ro => iteF (q G1 S1 F1 ro)⟩
  · cases he
theorem t_orT {Q : Bool → Hp → Prop} {a b : EvT} (h : tT K (evOrT a b) σ G Q) : tOr (tT K a) (tT K b) σ G Q := by
  obtain ⟨S, F, E, c, E', sr, he, q⟩ := h
  unfold evOrT at he
  split at he
  · rename_i E1 h1
    cases he
    exact ⟨S, F, E, true, E', sr, h1, fun G1 S1 F1 ro => iteT (q G1 S1 F1 ro)⟩
  · rename_i E1 h1
    exact ⟨S, F, E, false, E1, sr, h1, fun G1 S1 F1 ro => iteF ⟨S1, F1, E1, c, E', ro.sr, he, fun G2 S2 F2 ro2 => q G2 S2 F2 (ro.app ro2)⟩⟩
  · cases he
theorem t_notT {Q : Bool → Hp → Prop} {a : EvT} (h : tT K (evNotT a) σ G Q) : tNot (tT K a) σ G Q := by
  obtain ⟨S, F, E, c, E', sr, he, q⟩ := h
  unfold evNotT at he
  split at he
  · rename_i b E1 h1
    cases he
    exact ⟨S, F, E, b, E', sr, h1, fun G1 S1 F1 ro => q G1 S1 F1 ro⟩
  · cases he
def evAnd (a b : EvO) : EvO := fun E => match evB a E with
  | some (true, E1) => b E1
  | some (false, E1) => some (.temp (.bl false), E1)
  | none => none
def evOr (a b : EvO) : EvO := fun E => match evB a E with
  | some (true, E1) => some (.temp (.bl true), E1)
  | some (false, E1) => b E1
  | none => none
def evNot (a : EvO) : EvO := fun E => match evB a E with
  | some (b, E1) => some (.temp (.bl (!b)), E1)
  | none => none
def evIte (c : EvT) (a b : EvO) : EvO := fun E => match c E with
  | some (true, E1) => a E1
  | some (false, E1) => b E1
  | none => none
theorem RO.temp {d : D} {v : V} (ro : RO K σ G S F E2 [] [] G1 S1 [] F1) (h : Rp K G1 S1 d v []) : RO K σ G S F E2 [.temp d] [v] G1 S1 [] F1 := ⟨ro.sr, .of h, ro.nd, ro.ns, ro.stp⟩
theorem evB_t {P : Bool → Hp → Prop} {a : EvO} {b : Bool} (sr : SR K G S E σ F) (h : evB a E = some (b, E1)) (q : ∀ G1 S1 F1, RO K σ G S F E1 [] [] G1 S1 [] F1 → P b G1) : tO K a σ G fun x H1 => ∃ c, x = .bl c ∧ P c H1 := by
  exact t_B (Q := P) ⟨S, F, E, b, E1, sr, h, q⟩
theorem t_and {a b : EvO} (h : tO K (evAnd a b) σ G Q) : tAndV (tO K a) (tO K b) σ G Q := by
  obtain ⟨S, F, E, o, E', sr, he, q⟩ := h
  unfold evAnd at he
  split at he
  · rename_i E1 h1
    exact evB_t (P := fun c H1 => if c = true then tO K b σ H1 Q else Q (.bl false) H1) sr h1 fun G1 S1 F1 ro => iteT ⟨S1, F1, E1, o, E', ro.sr, he, fun v G2 S2 T2 F2 ro2 => q v G2 S2 T2 F2 (ro.app ro2)⟩
  · rename_i E1 h1
    cases he
    exact evB_t (P := fun c H1 => if c = true then tO K b σ H1 Q else Q (.bl false) H1) sr h1 fun G1 S1 F1 ro => iteF (q _ G1 S1 [] F1 (ro.temp ⟨rfl, rfl⟩))
  · cases he
theorem t_or {a b : EvO} (h : tO K (evOr a b) σ G Q) : tOrV (tO K a) (tO K b) σ G Q := by
  obtain ⟨S, F, E, o, E', sr, he, q⟩ := h
  unfold evOr at he
  split at he
  · rename_i E1 h1
    cases he
    exact evB_t (P := fun c H1 => if c = true then Q (.bl true) H1 else tO K b σ H1 Q) sr h1 fun G1 S1 F1 ro => iteT (q _ G1 S1 [] F1 (ro.temp ⟨rfl, rfl⟩))
  · rename_i E1 h1
    exact evB_t (P := fun c H1 => if c = true then Q (.bl true) H1 else tO K b σ H1 Q) sr h1 fun G1 S1 F1 ro => iteF ⟨S1, F1, E1, o, E', ro.sr, he, fun v G2 S2 T2 F2 ro2 => q v G2 S2 T2 F2 (ro.app ro2)⟩
  · cases he
theorem t_not {a : EvO} (h : tO K (evNot a) σ G Q) : tNotV (tO K a) σ G Q := by
  obtain ⟨S, F, E, o, E', sr, he, q⟩ := h
  unfold evNot at he
  split at he
  · rename_i b E1 h1
    cases he
    exact evB_t (P := fun c H1 => Q (.bl (!c)) H1) sr h1 fun G1 S1 F1 ro => q _ G1 S1 [] F1 (ro.temp ⟨rfl, rfl⟩)
  · cases he
theorem t_ite {c : EvT} {a b : EvO} (h : tO K (evIte c a b) σ G Q) : tIf (tT K c) (tO K a) (tO K b) σ G Q := by
  obtain ⟨S, F, E, o, E', sr, he, q⟩ := h
  unfold evIte at he
  split at he
  · rename_i E1 h1
    exact ⟨S, F, E, true, E1, sr, h1, fun G1 S1 F1 ro => iteT ⟨S1, F1, E1, o, E', ro.sr, he, fun v G2 S2 T2 F2 ro2 => q v G2 S2 T2 F2 (ro.app ro2)⟩⟩
  · rename_i E1 h1
    exact ⟨S, F, E, false, E1, sr, h1, fun G1 S1 F1 ro => iteF ⟨S1, F1, E1, o, E', ro.sr, he, fun v G2 S2 T2 F2 ro2 => q v G2 S2 T2 F2 (ro.app ro2)⟩⟩
  · cases he
def evChain (f g : D → D → Option D) (a b c : EvO) : EvO := fun E => match a E with
  | some (x, E1) => match b E1 with
    | some (y, E2) => match prim (f2 f) [x, y] E2 with
      | some (.temp (.bl true), E3) => match c E3 with
        | some (z, E4) => prim (f2 g) [y, z] E4
        | none => none
      | some (.temp (.bl false), E3) => some (.temp (.bl false), E3)
      | _ => none
    | none => none
  | none => none
theorem RO.ext {G' : Hp} (ro : RO K σ G S F E2 os vs G1 S1 T F1) (h : ∀ a o, G1 a = some o → G' a = some o) : RO K σ G S F E2 os vs G' S1 T F1 := by
  have k : ∀ a, (∃ o, G1 a = some o) → G' a = G1 a := fun a ⟨o, e⟩ => by rw [e, h a o e]
  refine ⟨⟨ro.sr.rep.mono (fun p o _ e => h p o e) (fun p hp => k p (ro.sr.rep.dom p hp)) fun _ z => z, ro.sr.nd, ro.sr.ns, fun a ha => ?_⟩, ro.ro.mono (fun p o _ e => h p o e) (fun p hp => k p (ro.ro.dom p hp)) fun _ z => z, ro.nd, ro.ns, ?_⟩
  · obtain ⟨o, e⟩ := ro.sr.sd a ha
    exact ⟨o, h a o e⟩
  · exact ⟨fun a o e n => h a o (ro.stp.keep a o e n), fun a o e => let ⟨o', e'⟩ := ro.stp.live a o e; ⟨o', h a o' e'⟩, ro.stp.fs, ro.stp.ss, ro.stp.sn⟩
theorem prim_bl {f : List D → Option D} {b : Bool} {r : VK → Prop} (ro : RO K σ G S F E2 os vs G1 S1 T F1) (h : prim f os E2 = some (.temp (.bl b), E3)) (hr : ∀ S2 ds z Q, RpE K G1 S2 ds vs → (∀ a, S2 a → ∃ o, G1 a = some o) → f ds = some z → Good K G1 S2 z Q → r Q)
    (q : ∀ G', RO K σ G S F E3 os vs G' S1 T F1 → Q (.bl b) G') : r Q := by
  unfold prim at h
  split at h
  · rename_i ds E4 hl
    split at h
    · rename_i z hz
      obtain ⟨S2, F2, sr2, rp, s1, s2, f1⟩ := looks_ok ro.sr ro.ro ro.nd ro.ns hl
      injection h with h
      injection h with e1 e2
      injection e1 with e1
      subst e1
      have e2 : E2 = E3 := e2
      subst e2
      refine hr S2 ds (.bl b) Q rp sr2.sd hz fun x G' S' Z nr => ?_
      rw [rp_bl nr.rp]
      exact q G' (ro.ext nr.keep)
    · cases h
  · cases h
theorem RO.cut {o : Opd} {v : V} {os : List Opd} {vs : List V} (ro : RO K σ G S F E2 (o :: os) (v :: vs) G1 S1 T F1) : ∃ T1, RO K σ G S F E2 os vs G1 S1 T1 F1 := by
  obtain ⟨v', vs', A, B, e, z, r, h⟩ := ro.ro
  injection e with _ e
  subst e z
  have nd := ro.nd
  rw [List.append_assoc] at nd
  obtain ⟨n1, n2, n3⟩ := nd_app.mp nd
  exact ⟨B, ro.sr, h, n2, fun a ha => ro.ns a (List.mem_append_right _ ha), ro.stp.less fun a ha => by rw [List.append_assoc]; exact List.mem_append_right _ ha⟩
theorem t_chain {r r' : R2} {f g : D → D → Option D} {a b c : EvO} (hr : S2 K r f) (hr' : S2 K r' g) (h : tO K (evChain f g a b c) σ G Q) : tChain r r' (tO K a) (tO K b) (tO K c) σ G Q := by
  obtain ⟨S, F, E, o, E', sr, he, q⟩ := h
  unfold evChain at he
  split at he
  · rename_i x E1 h1
    split at he
    · rename_i y E2 h2
      refine ⟨S, F, E, x, E1, sr, h1, fun v G1 S1 T1 F1 ro1 => ⟨S1, F1, E1, y, E2, ro1.sr, h2, fun w G2 S2 T2 F2 ro2 => ?_⟩⟩
      have ro := ro1.app ro2
      have go : ∀ Q', ∀ S2 ds z, RpE K G2 S2 ds ([v] ++ [w]) → (∀ a, S2 a → ∃ o, G2 a = some o) → f2 f ds = some z → Good K G2 S2 z Q' → r v w G2 Q' := fun Q' S2 ds z rp sd hf g => by
        obtain ⟨d, e, rfl, hf⟩ := f2_two hf
        exact hr G2 S2 Q' d e z v w rp sd hf g
      split at he
      · rename_i E3 h3
        refine prim_bl (r := fun Q' => r v w G2 Q') ro h3 (fun S2 ds z Q' a b c d => go Q' S2 ds z a b c d) fun G3 ro3 => ⟨true, rfl, iteT ?_⟩
        split at he
        · rename_i z E4 h4
          obtain ⟨T4, ro4⟩ := RO.cut (os := [y]) (vs := [w]) ro3
          refine ⟨_, _, E3, z, E4, ro3.sr, h4, fun u G5 S5 T5 F5 ro5 => ?_⟩
          obtain ⟨S6, ds, z', rp, sd, hf, gd⟩ := prim_go (ro4.app ro5) he q
          obtain ⟨d, e, rfl, hf⟩ := f2_two hf
          exact hr' G5 S6 Q d e z' w u rp sd hf gd
        · cases he
      · rename_i E3 h3
        cases he
        exact prim_bl (r := fun Q' => r v w G2 Q') ro h3 (fun S2 ds z Q' a b c d => go Q' S2 ds z a b c d) fun G3 ro3 => ⟨false, rfl, iteF (q _ G3 _ [] _ (ro3.dropAll.temp ⟨rfl, rfl⟩))⟩
      · cases he
    · cases he
  · cases he
mutual
def isF : D → Bool
  | .tup ds => isFL ds
  | .lst false ds => isFL ds
  | .lst true _ => false
  | .dK false _ vs => isFL vs
  | .dK true _ _ => false
  | .scr ds => isFL ds
  | _ => true
def isFL : List D → Bool
  | [] => true
  | d :: ds => isF d && isFL ds
end
mutual
theorem isF_frz : ∀ d : D, isF d = true → frz d = d
  | .non, _ => rfl
  | .bl _, _ => rfl
  | .int _, _ => rfl
  | .str _, _ => rfl
  | .tup ds, h => by show D.tup (frzL ds) = _; rw [isFL_frz ds h]
  | .lst false ds, h => by show D.lst false (frzL ds) = _; rw [isFL_frz ds h]
  | .lst true _, h => by cases h
  | .dK false ks vs, h => by show D.dK false ks (frzL vs) = _; rw [isFL_frz vs h]
  | .dK true _ _, h => by cases h
  | .scr ds, h => by show D.scr (frzL ds) = _; rw [isFL_frz ds h]
theorem isFL_frz : ∀ ds : List D, isFL ds = true → frzL ds = ds
  | [], _ => rfl
  | d :: ds, h => by
    have h' := (Bool.and_eq_true _ _).mp h
    show frz d :: frzL ds = _
    rw [isF_frz d h'.1, isFL_frz ds h'.2]
end
def pull : Opd → En → Option (D × En)
  | .temp d, E => some (d, E)
  | .slot i, E => match E[i]? with
    | some (some d) => if isF d = true then some (d, E) else some (d, E.set i none)
    | _ => none
def pulls : List Opd → En → Option (List D × En)
  | [], E => some ([], E)
  | o :: os, E => match pull o E with
    | some (d, E1) => match pulls os E1 with
      | some (ds, E2) => some (d :: ds, E2)
      | none => none
    | none => none
def push : Opd → D → En → En
  | .temp _, _, E => E
  | .slot i, d, E => match E[i]? with
    | some none => E.set i (some d)
    | _ => E
def pushes : List Opd → List D → En → En
  | o :: os, d :: ds, E => pushes os ds (push o d E)
  | _, _, E => E
theorem pulls_ok : ∀ {os : List Opd} {vs : List V} {T F : List Addr} {E E' : En} {ds : List D}, SR K G S E σ F → RpOs K σ G S os vs T → (T ++ F).Nodup → (∀ a, a ∈ T → ¬ S a) → pulls os E = some (ds, E') →
    ∃ Fa Fr, SR K G S E' σ Fr ∧ RpL K G S ds vs Fa ∧ (Fa ++ Fr).Nodup ∧ (∀ a, a ∈ Fa ++ Fr → a ∈ T ++ F) ∧ ∀ a, a ∈ Fa → ¬ S a := by
  intro os
  induction os with
  | nil =>
    intro vs T F E E' ds sr r nd nt h
    cases h
    exact ⟨[], F, sr, ⟨r.1, rfl⟩, sr.nd, fun a ha => List.mem_append_right _ ha, (fun _ m => by cases m)⟩
  | cons o os ih =>
    intro vs T F E E' ds sr r nd nt h
    obtain ⟨v, vs', T1, T2, e, z, ro, r⟩ := r
    subst e z
    rw [List.append_assoc] at nd
    obtain ⟨n1, n2, n3⟩ := nd_app.mp nd
    obtain ⟨n4, n5, n6⟩ := nd_app.mp n2
    have key : ∀ d E1, pull o E = some (d, E1) → ∃ A F1, SR K G S E1 σ F1 ∧ Rp K G S d v A ∧ (A ++ F1).Nodup ∧ (∀ a, a ∈ A ++ F1 → a ∈ T1 ++ F) ∧ (∀ a, a ∈ A → ¬ S a) ∧ (∀ a, a ∈ F1 → a ∈ F) := fun d E1 hp => by
      cases o with
      | temp d0 =>
        cases hp
        exact ⟨T1, F, sr, ro, nd_app.mpr ⟨n1, n5, fun a ha hb => n3 a ha (List.mem_append_right _ hb)⟩, fun _ z => z, fun a ha => nt a (List.mem_append_left _ ha), fun _ z => z⟩
      | slot i =>
        simp only [pull] at hp
        split at hp
        · rename_i d0 hi
          obtain ⟨hv, ht⟩ := ro
          obtain ⟨v', A, Fr, g1, g2, g3, g4⟩ := sr.rep.get hi
          rw [hv] at g1
          cases g1
          split at hp
          · rename_i hf
            cases hp
            have := g2.nil (isF_frz d hf)
            subst this
            exact ⟨[], F, sr, g2, sr.nd, fun a ha => List.mem_append_right _ ha, (fun _ m => by cases m), fun _ z => z⟩
          · cases hp
            have ndp : (A ++ Fr).Nodup := g4.nodup_iff.mp sr.nd
            exact ⟨A, Fr, ⟨g3, (nd_app.mp ndp).2.1, fun a ha => sr.ns a (g4.mem_iff.mpr (List.mem_append_right _ ha)), sr.sd⟩, g2, ndp, fun a ha => List.mem_append_right _ (g4.mem_iff.mpr ha), fun a ha => sr.ns a (g4.mem_iff.mpr (List.mem_append_left _ ha)), fun a ha => g4.mem_iff.mpr (List.mem_append_right _ ha)⟩
        · cases hp
    unfold pulls at h
    split at h
    · rename_i d E1 h1
      split at h
      · rename_i ds2 E2 h2
        cases h
        obtain ⟨A, F1, sr1, rp1, nd1, m1, ns1, f1⟩ := key d E1 h1
        obtain ⟨p1, p2, p3⟩ := nd_app.mp nd1
        obtain ⟨Fa, Fr, sr2, rp2, nd2, m2, ns2⟩ := ih sr1 r (nd_app.mpr ⟨n4, p2, fun a ha hb => n6 a ha (f1 a hb)⟩) (fun a ha => nt a (List.mem_append_right _ ha)) h2
        obtain ⟨q1, q2, q3⟩ := nd_app.mp nd2
        have out : ∀ a, a ∈ A → a ∉ Fa ++ Fr := fun a ha hb => by
          rcases List.mem_append.mp (m2 a hb) with m | m
          · rcases List.mem_append.mp (m1 a (List.mem_append_left _ ha)) with k | k
            · exact n3 a k (List.mem_append_left _ m)
            · exact n6 a m k
          · exact p3 a ha m
        refine ⟨A ++ Fa, Fr, sr2, ⟨v, vs', A, Fa, rfl, rfl, rp1, rp2⟩, ?_, fun a ha => ?_, fun a ha => ?_⟩
        · rw [List.append_assoc]
          exact nd_app.mpr ⟨p1, nd2, out⟩
        · rw [List.append_assoc] at ha
          rcases List.mem_append.mp ha with m | m
          · rcases List.mem_append.mp (m1 a (List.mem_append_left _ m)) with k | k
            · exact List.mem_append_left _ (List.mem_append_left _ k)
            · exact List.mem_append_right _ k
          · rcases List.mem_append.mp (m2 a m) with k | k
            · exact List.mem_append_left _ (List.mem_append_right _ k)
            · exact List.mem_append_right _ (f1 a k)
        · rcases List.mem_append.mp ha with m | m
          · exact ns1 a m
          · exact ns2 a m
      · cases h
    · cases h
def Slots (σ : St) : List Opd → List V → Prop
  | [], _ => True
  | .temp _ :: os, vs => Slots σ os vs.tail
  | .slot i :: os, vs => (∃ v, vs.head? = some v ∧ σ[i]? = some (some v)) ∧ Slots σ os vs.tail
theorem RpOs.slots : ∀ {os : List Opd} {vs : List V} {T : List Addr}, RpOs K σ G S os vs T → Slots σ os vs := by
  intro os
  induction os with
  | nil => intro vs T h; trivial
  | cons o os ih =>
    intro vs T h
    obtain ⟨v, vs', T1, T2, e, z, ro, r⟩ := h
    subst e z
    cases o with
    | temp d => exact ih r
    | slot i => exact ⟨⟨v, rfl, ro.1⟩, ih r⟩
theorem pushes_ok : ∀ {os : List Opd} {vs : List V} {Fa Fr : List Addr} {E : En} {ds : List D}, SR K G S E σ Fr → RpL K G S ds vs Fa → (Fa ++ Fr).Nodup → (∀ a, a ∈ Fa → ¬ S a) → Slots σ os vs →
    ∃ F', SR K G S (pushes os ds E) σ F' ∧ ∀ a, a ∈ F' → a ∈ Fa ++ Fr := by
  intro os
  induction os with
  | nil => intro vs Fa Fr E ds sr r nd ns sl; exact ⟨Fr, sr, fun a ha => List.mem_append_right _ ha⟩
  | cons o os ih =>
    intro vs Fa Fr E ds sr r nd ns sl
    cases ds with
    | nil => exact ⟨Fr, sr, fun a ha => List.mem_append_right _ ha⟩
    | cons d ds =>
      obtain ⟨v, vs', A, B, e, z, r1, r2⟩ := r
      subst e z
      rw [List.append_assoc] at nd
      obtain ⟨n1, n2, n3⟩ := nd_app.mp nd
      obtain ⟨n4, n5, n6⟩ := nd_app.mp n2
      have key : ∃ F1, SR K G S (push o d E) σ F1 ∧ (∀ a, a ∈ F1 → a ∈ A ++ Fr) ∧ Slots σ os vs' := by
        cases o with
        | temp d0 => exact ⟨Fr, sr, fun a ha => List.mem_append_right _ ha, sl⟩
        | slot i =>
          obtain ⟨⟨v', e1, hv⟩, sl⟩ := sl
          cases e1
          simp only [push]
          split
          · rename_i hi
            obtain ⟨F', h', pp⟩ := REnv.put sr.rep hi r1
            rw [set_same hv] at h'
            refine ⟨F', ⟨h', pp.nodup_iff.mpr (nd_app.mpr ⟨n1, n5, fun a ha hb => n3 a ha (List.mem_append_right _ hb)⟩), fun a ha => ?_, sr.sd⟩, fun a ha => pp.mem_iff.mp ha, sl⟩
            rcases List.mem_append.mp (pp.mem_iff.mp ha) with m | m
            · exact ns a (List.mem_append_left _ m)
            · exact sr.ns a m
          · exact ⟨Fr, sr, fun a ha => List.mem_append_right _ ha, sl⟩
      obtain ⟨F1, sr1, f1, sl1⟩ := key
      obtain ⟨F', sr', f'⟩ := ih sr1 r2 (nd_app.mpr ⟨n4, sr1.nd, fun a ha hb => by
        rcases List.mem_append.mp (f1 a hb) with m | m
        · exact n3 a m (List.mem_append_left _ ha)
        · exact n6 a ha m⟩) (fun a ha => ns a (List.mem_append_right _ ha)) sl1
      refine ⟨F', sr', fun a ha => ?_⟩
      rcases List.mem_append.mp (f' a ha) with m | m
      · exact List.mem_append_left _ (List.mem_append_right _ m)
      · rcases List.mem_append.mp (f1 a m) with k | k
        · exact List.mem_append_left _ (List.mem_append_left _ k)
        · exact List.mem_append_right _ k
structure Fin (K : PySem.W.Frag) (G : Hp) (S : Addr → Prop) (F : List Addr) (vs : List V) (r : D) (ds : List D) (v : V) (G' : Hp) (S' : Addr → Prop) (T F' : List Addr) : Prop where
  rl : RpL K G' S' ds vs F'
  rp : Rp K G' S' r v T
  nd : (T ++ F').Nodup
  ns : ∀ a, a ∈ T ++ F' → ¬ S' a
  sd : ∀ a, S' a → ∃ o, G' a = some o
  stp : Stp G S F G' S' (T ++ F')
abbrev Fd := List D → Option (D × List D)
def spF (K : PySem.W.Frag) (n : Nat) (f : Fd) : Sp := fun vs G Q _ => ∃ S F ds r ds', vs.length = n ∧ RpL K G S ds vs F ∧ F.Nodup ∧ (∀ a, a ∈ F → ¬ S a) ∧ (∀ a, S a → ∃ o, G a = some o) ∧ f ds = some (r, ds') ∧
  ∀ v G' S' T F', Fin K G S F vs r ds' v G' S' T F' → Q v G'
def evCall (n : Nat) (f : Fd) (es : EvOs) : EvO := fun E => match es E with
  | some (os, E1) => if os.length = n then match pulls os E1 with
    | some (ds, E2) => match f ds with
      | some (r, ds') => some (.temp r, pushes os ds' E2)
      | none => none
    | none => none else none
  | none => none
theorem RpOs.len : ∀ {os : List Opd} {vs : List V} {T : List Addr}, RpOs K σ G S os vs T → os.length = vs.length := by
  intro os
  induction os with
  | nil => intro vs T h; rw [h.1]; rfl
  | cons o os ih =>
    intro vs T h
    obtain ⟨v, vs', T1, T2, e, z, ro, r⟩ := h
    rw [e, List.length_cons, List.length_cons, ih r]
theorem t_call {n : Nat} {f : Fd} {es : EvOs} (h : tO K (evCall n f es) σ G Q) : tCall (spF K n f) [] E0 (tOs K es) σ G Q := by
  obtain ⟨S, F, E, o, E', sr, he, q⟩ := h
  unfold evCall at he
  split at he
  · rename_i os E1 h1
    split at he
    · rename_i hn
      split at he
      · rename_i ds E2 h2
        split at he
        · rename_i r ds' h3
          cases he
          refine ⟨S, F, E, os, E1, sr, h1, fun vs G1 S1 T1 F1 ro => ?_⟩
          obtain ⟨Fa, Fr, sr2, rp, nd, m2, ns2⟩ := pulls_ok ro.sr ro.ro ro.nd ro.ns h2
          obtain ⟨n1, n2, n3⟩ := nd_app.mp nd
          show spF K n f (vs ++ []) G1 Q E0
          rw [List.append_nil]
          refine ⟨S1, Fa, ds, r, ds', by rw [← ro.ro.len, hn], rp, n1, ns2, ro.sr.sd, h3, fun v G' S' T F' fin => ?_⟩
          obtain ⟨k1, k2, k3⟩ := nd_app.mp fin.nd
          have apart : ∀ a, a ∈ Fr → a ∉ Fa := fun a ha hb => n3 a hb ha
          have out : ∀ a, a ∈ Fr → a ∉ T ++ F' := fun a ha hb => by
            rcases fin.stp.fs a hb with m | m
            · exact n3 a m ha
            · obtain ⟨o, e⟩ := sr2.rep.dom a ha
              rw [e] at m; cases m
          have sr3 : SR K G' S' E2 σ Fr := ⟨sr2.rep.mono (fun p o hs e => fin.stp.keep p o e fun m => ns2 p m hs) (fun p hp => by
            obtain ⟨o, e⟩ := sr2.rep.dom p hp
            rw [e, fin.stp.keep p o e (apart p hp)]) fin.stp.ss, n2, (fun a ha hs => by
              rcases fin.stp.sn a hs with m | m | m
              · exact sr2.ns a ha m
              · exact apart a ha m
              · obtain ⟨o, e⟩ := sr2.rep.dom a ha
                rw [e] at m; cases m), fin.sd⟩
          obtain ⟨F'', sr4, f4⟩ := pushes_ok sr3 fin.rl (nd_app.mpr ⟨k2, n2, fun a ha hb => out a hb (List.mem_append_right _ ha)⟩) (fun a ha => fin.ns a (List.mem_append_right _ ha)) ro.ro.slots
          have t4 : ∀ a, a ∈ T → a ∉ F'' := fun a ha hb => by
            rcases List.mem_append.mp (f4 a hb) with m | m
            · exact k3 a ha m
            · exact out a m (List.mem_append_left _ ha)
          refine q v G' S' T F'' ⟨sr4, .of fin.rp, nd_app.mpr ⟨k1, sr4.nd, t4⟩, fun a ha => fin.ns a (List.mem_append_left _ ha), ?_⟩
          have big : Stp G1 S1 (T1 ++ F1) G' S' (Fr ++ (T ++ F')) := (fin.stp.frame (R := Fr)).more fun a ha => by
            rcases List.mem_append.mp ha with m | m
            · exact m2 a (List.mem_append_right _ m)
            · exact m2 a (List.mem_append_left _ m)
          exact (ro.stp.trans big).less fun a ha => by
            rcases List.mem_append.mp ha with m | m
            · exact List.mem_append_right _ (List.mem_append_left _ m)
            · rcases List.mem_append.mp (f4 a m) with k | k
              · exact List.mem_append_right _ (List.mem_append_right _ k)
              · exact List.mem_append_left _ k
        · cases he
      · cases he
    · cases he
  · cases he
end
end DE
namespace DE
open PySem PySem.Spec L2
section
variable {K : PySem.W.Frag} {σ σ' : St} {G G' G1 G2 : Hp} {S S' S1 : Addr → Prop} {F F' F1 T T1 : List Addr} {E E' E1 E2 E3 : En} {Q : VK} {os : List Opd} {vs : List V}
abbrev Mf := List D → List D → Option (D × List D)
def evMut (m : Mf) (i : Nat) (es : EvOs) : EvO := fun E => match E[i]? with
  | some (some (.lst _ _)) => match es E with
    | some (os, E1) => match tks os E1 with
      | some (as, E2) => match E2[i]? with
        | some (some (.lst true ds)) => match m as ds with
          | some (r, ds') => some (.temp r, E2.set i (some (.lst true ds')))
          | none => none
        | _ => none
      | none => none
    | none => none
  | _ => none
def MS (K : PySem.W.Frag) (r : V → List V → Hp → VK → Prop) (m : Mf) : Prop := ∀ (G : Hp) (S : Addr → Prop) (p : Addr) (vs ws : List V) (ds as : List D) (Fk Ta : List Addr) (res : D) (ds' : List D) (Q : VK), G p = some (.lst vs) → RpL K G S ds vs Fk → RpL K G S as ws Ta → (Ta ++ Fk).Nodup →
  m as ds = some (res, ds') → (∀ x vs' Fk' T', RpL K G S ds' vs' Fk' → Rp K G S res x T' → (T' ++ Fk').Nodup → (∀ a, a ∈ T' ++ Fk' → a ∈ Ta ++ Fk) → Q x (upd G p (.lst vs'))) → r (.ref p) ws G Q
theorem lst_any {b : Bool} {ds : List D} {v : V} (h : Rp K G S (.lst b ds) v T) : ∃ p vs, v = .ref p ∧ G p = some (.lst vs) := by
  cases b with
  | true =>
    obtain ⟨p, vs, F', e, z, hp, r⟩ := h
    exact ⟨p, vs, e, hp⟩
  | false =>
    obtain ⟨_, p, vs, e, _, hp, r⟩ := h
    exact ⟨p, vs, e, hp⟩
theorem changed {i : Nat} {p : Addr} {u : HO} {d' x : D} {v : V} {Fk Fk' Fr Ta T' F2 : List Addr} (sr : SR K G1 S1 E2 σ F2) (nd : (Ta ++ F2).Nodup) (ns : ∀ a, a ∈ Ta → ¬ S1 a) (stp : Stp G S F G1 S1 (Ta ++ F2))
    (hv : σ[i]? = some (some (.ref p))) (g3 : REnv K G1 S1 (E2.set i none) σ Fr) (g4 : F2.Perm ((p :: Fk) ++ Fr)) (hi : i < E2.length) (hG : ∃ o, G1 p = some o)
    (r' : (∀ a o, a ≠ p → G1 a = some o → upd G1 p u a = some o) → Rp K (upd G1 p u) S1 d' (.ref p) (p :: Fk')) (rx : Rp K G1 S1 x v T') (nd' : (T' ++ Fk').Nodup) (sub : ∀ a, a ∈ T' ++ Fk' → a ∈ Ta ++ Fk) :
    ∃ F', SR K (upd G1 p u) S1 (E2.set i (some d')) σ F' ∧ Rp K (upd G1 p u) S1 x v T' ∧ (T' ++ F').Nodup ∧ (∀ a, a ∈ T' → ¬ S1 a) ∧ Stp G S F (upd G1 p u) S1 (T' ++ F') := by
  obtain ⟨n1, n2, n3⟩ := nd_app.mp nd
  have ndp : ((p :: Fk) ++ Fr).Nodup := g4.nodup_iff.mp n2
  obtain ⟨p1, p2, p3⟩ := nd_app.mp ndp
  have pFk : p ∉ Fk := (List.nodup_cons.mp p1).1
  have mF : ∀ a, a ∈ F2 ↔ a ∈ (p :: Fk) ++ Fr := fun a => g4.mem_iff
  have pF2 : p ∈ F2 := (mF p).mpr (List.mem_append_left _ (List.mem_cons_self ..))
  have pS : ¬ S1 p := sr.ns p pF2
  have pTa : p ∉ Ta := fun h => n3 p h pF2
  obtain ⟨m1, m2, m3⟩ := nd_app.mp nd'
  have pT : p ∉ T' := fun h => by
    rcases List.mem_append.mp (sub p (List.mem_append_left _ h)) with m | m
    · exact pTa m
    · exact pFk m
  have pFk' : p ∉ Fk' := fun h => by
    rcases List.mem_append.mp (sub p (List.mem_append_right _ h)) with m | m
    · exact pTa m
    · exact pFk m
  have pFr : p ∉ Fr := fun h => p3 p (List.mem_cons_self ..) h
  have kp : ∀ a o, a ≠ p → G1 a = some o → upd G1 p u a = some o := fun a o n e => by rw [upd_ne n]; exact e
  have g3' : REnv K (upd G1 p u) S1 (E2.set i none) σ Fr := g3.mono (fun a o hs e => kp a o (fun z => pS (z ▸ hs)) e) (fun a ha => upd_ne fun z => pFr (z ▸ ha)) fun _ z => z
  obtain ⟨F', h', pp⟩ := REnv.put (i := i) g3' (by rw [List.getElem?_set_self hi]) (r' kp)
  rw [List.set_set, set_same hv] at h'
  have rx' : Rp K (upd G1 p u) S1 x v T' := rx.mono (fun a o hs e => kp a o (fun z => pS (z ▸ hs)) e) (fun a ha => upd_ne fun z => pT (z ▸ ha)) fun _ z => z
  have outFr : ∀ a, a ∈ T' ++ Fk' → a ∉ Fr := fun a ha hb => by
    rcases List.mem_append.mp (sub a ha) with m | m
    · exact n3 a m ((mF a).mpr (List.mem_append_right _ hb))
    · exact p3 a (List.mem_cons_of_mem _ m) hb
  have ndF : ((p :: Fk') ++ Fr).Nodup := nd_app.mpr ⟨List.nodup_cons.mpr ⟨pFk', m2⟩, p2, fun a ha hb => by
    rcases List.mem_cons.mp ha with m | m
    · exact pFr (m ▸ hb)
    · exact outFr a (List.mem_append_right _ m) hb⟩
  have mF' : ∀ a, a ∈ F' → a = p ∨ a ∈ Fk' ∨ a ∈ Fr := fun a ha => by
    rcases List.mem_append.mp (pp.mem_iff.mp ha) with m | m
    · rcases List.mem_cons.mp m with m | m
      · exact .inl m
      · exact .inr (.inl m)
    · exact .inr (.inr m)
  have back : ∀ a, a ∈ T' ++ F' → a ∈ Ta ++ F2 := fun a ha => by
    have q : ∀ a, a ∈ T' ++ Fk' → a ∈ Ta ++ F2 := fun a ha => by
      rcases List.mem_append.mp (sub a ha) with m | m
      · exact List.mem_append_left _ m
      · exact List.mem_append_right _ ((mF a).mpr (List.mem_append_left _ (List.mem_cons_of_mem _ m)))
    rcases List.mem_append.mp ha with m | m
    · exact q a (List.mem_append_left _ m)
    · rcases mF' a m with k | k | k
      · exact List.mem_append_right _ (k ▸ pF2)
      · exact q a (List.mem_append_right _ k)
      · exact List.mem_append_right _ ((mF a).mpr (List.mem_append_right _ k))
  have nsAll : ∀ a, a ∈ Ta ++ F2 → ¬ S1 a := fun a ha => by
    rcases List.mem_append.mp ha with m | m
    · exact ns a m
    · exact sr.ns a m
  refine ⟨F', ⟨h', pp.nodup_iff.mpr ndF, fun a ha => nsAll a (back a (List.mem_append_right _ ha)), fun a ha => ?_⟩, rx', nd_app.mpr ⟨m1, pp.nodup_iff.mpr ndF, fun a ha hb => ?_⟩, fun a ha => nsAll a (back a (List.mem_append_left _ ha)), ?_⟩
  · obtain ⟨o, e⟩ := sr.sd a ha
    exact ⟨o, kp a o (fun z => pS (z ▸ ha)) e⟩
  · rcases mF' a hb with k | k | k
    · exact pT (k ▸ ha)
    · exact m3 a ha k
    · exact outFr a (List.mem_append_left _ ha) k
  · refine ⟨fun a o e n => kp a o (fun z => ?_) (stp.keep a o e n), fun a o e => ?_, fun a ha => stp.fs a (back a ha), stp.ss, stp.sn⟩
    · subst z
      rcases stp.fs a (List.mem_append_right _ pF2) with m | m
      · exact n m
      · rw [e] at m; cases m
    · by_cases z : a = p
      · subst z
        exact ⟨u, upd_same⟩
      · obtain ⟨o', e'⟩ := stp.live a o e
        exact ⟨o', kp a o' z e'⟩
theorem mut_go {m : Mf} {i : Nat} {r : V → List V → Hp → VK → Prop} {o : Opd} {as : List D} {p : Addr} (hr : MS K r m) (ro : RO K σ G S F E1 os vs G1 S1 T F1) (h2 : tks os E1 = some (as, E2)) (hv : σ[i]? = some (some (.ref p)))
    (h3 : (match E2[i]? with
        | some (some (.lst true ds)) => match m as ds with
          | some (r, ds') => some (Opd.temp r, E2.set i (some (.lst true ds')))
          | none => none
        | _ => none) = some (o, E3)) (q : ∀ v G' S' T F', RO K σ G S F E3 [o] [v] G' S' T F' → Q v G') : r (.ref p) vs G1 Q := by
  obtain ⟨S2, F2, Ta, sr2, ra, nd, ns, stp⟩ := ro.taken h2
  split at h3
  · rename_i ds hi
    split at h3
    · rename_i res ds' hm
      cases h3
      obtain ⟨v', A, Fr, g1, g2, g3, g4⟩ := sr2.rep.get hi
      rw [hv] at g1
      cases g1
      obtain ⟨p', vs', Fk, e1, z, hp, rk⟩ := g2
      cases e1
      subst z
      obtain ⟨n1, n2, n3⟩ := nd_app.mp nd
      have ndp : ((p :: Fk) ++ Fr).Nodup := g4.nodup_iff.mp n2
      have inF2 : ∀ a, a ∈ Fk → a ∈ F2 := fun a ha => g4.mem_iff.mpr (List.mem_append_left _ (List.mem_cons_of_mem _ ha))
      refine hr G1 S2 p vs' vs ds as Fk Ta res ds' Q hp rk ra (nd_app.mpr ⟨n1, (List.nodup_cons.mp (nd_app.mp ndp).1).2, fun a ha hb => n3 a ha (inF2 a hb)⟩) hm fun x ws Fk' T' rk' rx nd' sub => ?_
      have pS : ¬ S2 p := sr2.ns p (g4.mem_iff.mpr (List.mem_append_left _ (List.mem_cons_self ..)))
      have pFk' : p ∉ Fk' := fun h => by
        rcases List.mem_append.mp (sub p (List.mem_append_right _ h)) with k | k
        · exact n3 p k (g4.mem_iff.mpr (List.mem_append_left _ (List.mem_cons_self ..)))
        · exact (List.nodup_cons.mp (nd_app.mp ndp).1).1 k
      obtain ⟨F', sr', rx', nd2, ns2, stp2⟩ := changed (u := .lst ws) (d' := .lst true ds') (x := res) (v := x) sr2 nd ns stp hv g3 g4 (List.getElem?_eq_some_iff.mp hi).1 ⟨_, hp⟩
        (fun kp => ⟨p, ws, Fk', rfl, rfl, upd_same, rk'.mono (fun a o hs e => kp a o (fun z => pS (z ▸ hs)) e) (fun a ha => upd_ne fun z => pFk' (z ▸ ha)) fun _ z => z⟩) rx nd' sub
      exact q x _ S2 T' F' ⟨sr', .of rx', nd2, ns2, stp2⟩
    · cases h3
  · cases h3
theorem t_mut {m : Mf} {i : Nat} {r : V → List V → Hp → VK → Prop} {es : EvOs} (hr : MS K r m) (h : tO K (evMut m i es) σ G Q) : tBM K "list" r (tVar i) (tOs K es) σ G Q := by
  obtain ⟨S, F, E, o, E', sr, he, q⟩ := h
  unfold evMut at he
  split at he
  · rename_i b0 l0 hi
    obtain ⟨v, A, Fr, g1, g2, g3, g4⟩ := sr.rep.get hi
    obtain ⟨p, ws, e, hp⟩ := lst_any g2
    subst e
    split at he
    · rename_i os E1 h1
      split at he
      · rename_i as E2 h2
        exact ⟨.ref p, g1, .inl ⟨rfl, ws, SqL.of hp⟩, S, F, E, os, E1, sr, h1, fun vs G1 S1 T1 F1 ro => mut_go hr ro h2 g1 he q⟩
      · cases he
    · cases he
  · cases he
theorem t_mut0 {m : Mf} {i : Nat} {r : V → List V → Hp → VK → Prop} (hr : MS K r m) (h : tO K (evMut m i evNil) σ G Q) : tBM0 K "list" r (tVar i) σ G Q := by
  obtain ⟨S, F, E, o, E', sr, he, q⟩ := h
  unfold evMut at he
  split at he
  · rename_i b0 l0 hi
    obtain ⟨v, A, Fr, g1, g2, g3, g4⟩ := sr.rep.get hi
    obtain ⟨p, ws, e, hp⟩ := lst_any g2
    subst e
    exact ⟨.ref p, g1, .inl ⟨rfl, ws, SqL.of hp⟩, mut_go (os := []) (vs := []) hr (.nil sr) rfl g1 he q⟩
  · cases he
def mApp : Mf
  | [d], ds => if ds.length < lim then some (.non, ds ++ [d]) else none
  | _, _ => none
def mExt : Mf
  | [.lst _ xs], ds => if ds.length + xs.length ≤ lim then some (.non, ds ++ xs) else none
  | _, _ => none
def mPop : Mf
  | [], ds => match ds[ds.length - 1]? with
    | some d => some (d, ds.dropLast)
    | none => none
  | _, _ => none
def mIns : Mf
  | [.int i, d], ds => if 0 ≤ i ∧ i ≤ 1000000 ∧ ds.length < lim then some (.non, ds.take i.toNat ++ [d] ++ ds.drop i.toNat) else none
  | _, _ => none
def mClr : Mf
  | [], _ => some (.non, [])
  | _, _ => none
theorem RpL.one {d : D} {v : V} (h : RpL K G S [d] vs T) : ∃ v, vs = [v] ∧ Rp K G S d v T := by
  obtain ⟨v, vs', A, B, e, z, r, r2⟩ := h
  obtain ⟨e2, z2⟩ := r2
  subst e2 z2 e z
  exact ⟨v, rfl, by rw [List.append_nil]; exact r⟩
theorem RpL.sing {d : D} {v : V} (h : Rp K G S d v T) : RpL K G S [d] [v] T := ⟨v, [], T, [], rfl, by simp, h, rfl, rfl⟩
theorem RpL.split : ∀ {ds : List D} {vs : List V} {T : List Addr} (n : Nat), RpL K G S ds vs T → ∃ A B, T = A ++ B ∧ RpL K G S (ds.take n) (vs.take n) A ∧ RpL K G S (ds.drop n) (vs.drop n) B := by
  intro ds
  induction ds with
  | nil =>
    intro vs T n h
    obtain ⟨e, z⟩ := h
    subst e z
    exact ⟨[], [], rfl, by rw [List.take_nil, List.take_nil]; exact ⟨rfl, rfl⟩, by rw [List.drop_nil, List.drop_nil]; exact ⟨rfl, rfl⟩⟩
  | cons d ds ih =>
    intro vs T n h
    obtain ⟨v, vs', A, B, e, z, r, h⟩ := h
    subst e z
    cases n with
    | zero => exact ⟨[], A ++ B, rfl, ⟨rfl, rfl⟩, v, vs', A, B, rfl, rfl, r, h⟩
    | succ n =>
      obtain ⟨A', B', z, h1, h2⟩ := ih n h
      subst z
      exact ⟨A ++ A', B', by rw [List.append_assoc], ⟨v, vs'.take n, A, A', rfl, rfl, r, h1⟩, h2⟩
theorem ms_app : MS K rAppend mApp := by
  intro G S p vs ws ds as Fk Ta res ds' Q hp rk ra nd h q
  match as, ra, h with
  | [d], ra, h =>
    obtain ⟨v, e, rd⟩ := RpL.one (v := .non) ra
    subst e
    simp only [mApp] at h
    split at h
    · rename_i hl
      cases h
      obtain ⟨n1, n2, n3⟩ := nd_app.mp nd
      refine ⟨p, vs, v, rfl, rfl, hp, by rw [← rk.length]; exact Nat.lt_of_lt_of_le hl (by decide), q .non (vs ++ [v]) (Fk ++ Ta) [] (rk.append (.sing rd)) ⟨rfl, rfl⟩ (show (Fk ++ Ta).Nodup from nd_app.mpr ⟨n2, n1, fun a ha hb => n3 a hb ha⟩) fun a ha => ?_⟩
      rcases List.mem_append.mp (show a ∈ Fk ++ Ta from ha) with m | m
      · exact List.mem_append_right _ m
      · exact List.mem_append_left _ m
    · cases h
theorem ms_ext : MS K rExtend mExt := by
  intro G S p vs ws ds as Fk Ta res ds' Q hp rk ra nd h q
  have h0 : ∃ b xs, as = [.lst b xs] := by
    cases as with
    | nil => simp only [mExt, reduceCtorEq] at h
    | cons a rest =>
      cases rest with
      | cons _ _ => cases a <;> simp only [mExt, reduceCtorEq] at h
      | nil =>
        cases a with
        | lst b xs => exact ⟨b, xs, rfl⟩
        | _ => simp only [mExt, reduceCtorEq] at h
  obtain ⟨b, xs, e0⟩ := h0
  subst e0
  · obtain ⟨v, e, rd⟩ := RpL.one (v := .non) ra
    subst e
    simp only [mExt] at h
    split at h
    · rename_i hl
      cases h
      obtain ⟨n1, n2, n3⟩ := nd_app.mp nd
      have key : ∃ p2 us Tx, v = .ref p2 ∧ G p2 = some (.lst us) ∧ RpL K G S xs us Tx ∧ (∀ a, a ∈ Tx → a ∈ Ta) ∧ Tx.Nodup := by
        cases b with
        | true =>
          obtain ⟨p2, us, F', e, z, h2, r⟩ := rd
          subst z
          exact ⟨p2, us, F', e, h2, r, fun a ha => List.mem_cons_of_mem _ ha, (List.nodup_cons.mp n1).2⟩
        | false =>
          obtain ⟨z, p2, us, e, _, h2, r⟩ := rd
          exact ⟨p2, us, [], e, h2, r, (fun _ m => by cases m), .nil⟩
      obtain ⟨p2, us, Tx, e, h2, r2, sub, ndx⟩ := key
      subst e
      refine ⟨p, p2, vs, us, rfl, rfl, hp, h2, by rw [← rk.length, ← r2.length]; exact lim_le hl, q .non (vs ++ us) (Fk ++ Tx) [] (rk.append r2) ⟨rfl, rfl⟩ (show (Fk ++ Tx).Nodup from nd_app.mpr ⟨n2, ndx, fun a ha hb => n3 a (sub a hb) ha⟩) fun a ha => ?_⟩
      rcases List.mem_append.mp (show a ∈ Fk ++ Tx from ha) with m | m
      · exact List.mem_append_right _ m
      · exact List.mem_append_left _ (sub a m)
    · cases h
theorem RpL.last {ds : List D} {d : D} (h : RpL K G S ds vs T) (e : ds[ds.length - 1]? = some d) : ∃ v A B, vs[vs.length - 1]? = some v ∧ T = A ++ B ∧ RpL K G S ds.dropLast vs.dropLast A ∧ Rp K G S d v B := by
  have hl : 0 < ds.length := by
    have := (List.getElem?_eq_some_iff.mp e).1
    omega
  obtain ⟨A, B, z, h1, h2⟩ := h.split (ds.length - 1)
  have e1 : ds.drop (ds.length - 1) = [d] := by
    have hd := (List.getElem?_eq_some_iff.mp e)
    rw [List.drop_eq_getElem_cons hd.1, hd.2]
    have : ds.length - 1 + 1 = ds.length := by omega
    rw [this, List.drop_length]
  rw [e1] at h2
  obtain ⟨v, e2, r⟩ := RpL.one (v := .non) h2
  have len := h.length
  refine ⟨v, A, B, ?_, z, ?_, r⟩
  · have : (vs.drop (ds.length - 1))[0]? = some v := by rw [e2]; rfl
    rw [List.getElem?_drop] at this
    rw [← len]
    simpa using this
  · rw [List.dropLast_eq_take, List.dropLast_eq_take, ← len]
    exact h1
theorem ms_pop : MS K rPop mPop := by
  intro G S p vs ws ds as Fk Ta res ds' Q hp rk ra nd h q
  match as, ra, h with
  | [], ra, h =>
    obtain ⟨e, z⟩ := ra
    subst e z
    simp only [mPop] at h
    split at h
    · rename_i d hd
      cases h
      obtain ⟨v, A, B, hv, z, r1, r2⟩ := rk.last hd
      subst z
      obtain ⟨n1, n2, n3⟩ := nd_app.mp (show (A ++ B).Nodup from nd)
      refine ⟨p, vs, v, rfl, rfl, hp, hv, q v vs.dropLast A B r1 r2 (nd_app.mpr ⟨n2, n1, fun a ha hb => n3 a hb ha⟩) fun a ha => ?_⟩
      rcases List.mem_append.mp ha with m | m
      · exact List.mem_append_right A m
      · exact List.mem_append_left B m
    · cases h
theorem ms_clr : MS K rClear mClr := by
  intro G S p vs ws ds as Fk Ta res ds' Q hp rk ra nd h q
  match as, ra, h with
  | [], ra, h =>
    obtain ⟨e, z⟩ := ra
    subst e z
    simp only [mClr] at h
    cases h
    exact ⟨p, vs, rfl, rfl, hp, q .non [] [] [] ⟨rfl, rfl⟩ ⟨rfl, rfl⟩ .nil (fun a ha => by cases ha)⟩
def rInsert : V → List V → Hp → VK → Prop := fun x vs H Q => ∃ (l : Addr) (xs : List V) (i : Int) (y : V), x = .ref l ∧ vs = [.int i, y] ∧ H l = some (.lst xs) ∧ xs.length < sizeLine ∧ 0 ≤ i ∧ i < 2 ^ 63 ∧ Q .non (upd H l (.lst (xs.take i.toNat ++ [y] ++ xs.drop i.toNat)))
theorem ms_ins : MS K rInsert mIns := by
  intro G S p vs ws ds as Fk Ta res ds' Q hp rk ra nd h q
  have h0 : ∃ i d, as = [.int i, d] := by
    cases as with
    | nil => simp only [mIns, reduceCtorEq] at h
    | cons a rest =>
      cases rest with
      | nil => cases a <;> simp only [mIns, reduceCtorEq] at h
      | cons d rest =>
        cases rest with
        | cons _ _ => cases a <;> simp only [mIns, reduceCtorEq] at h
        | nil =>
          cases a with
          | int i => exact ⟨i, d, rfl⟩
          | _ => simp only [mIns, reduceCtorEq] at h
  obtain ⟨i, d, e0⟩ := h0
  subst e0
  · obtain ⟨v0, ws', A, B, e, z, r0, r1⟩ := ra
    obtain ⟨e0, z0⟩ := r0
    subst e0 z0 e z
    obtain ⟨v, e, rd⟩ := RpL.one (v := .non) r1
    subst e
    simp only [mIns] at h
    split at h
    · rename_i hl
      cases h
      obtain ⟨n1, n2, n3⟩ := nd_app.mp (show (Ta ++ Fk).Nodup from nd)
      obtain ⟨A', B', z, h1, h2⟩ := rk.split i.toNat
      subst z
      obtain ⟨m1, m2, m3⟩ := nd_app.mp n2
      refine ⟨p, vs, i, v, rfl, rfl, hp, by rw [← rk.length]; exact Nat.lt_of_lt_of_le hl.2.2 (by decide), hl.1, by omega, q .non _ (A' ++ Ta ++ B') [] ((h1.append (.sing rd)).append h2) ⟨rfl, rfl⟩ ?_ fun a ha => ?_⟩
      · refine (show (A' ++ Ta ++ B').Nodup from nd_app.mpr ⟨nd_app.mpr ⟨m1, n1, fun a ha hb => n3 a hb (List.mem_append_left _ ha)⟩, m2, fun a ha hb => ?_⟩)
        rcases List.mem_append.mp ha with m | m
        · exact m3 a m hb
        · exact n3 a m (List.mem_append_right _ hb)
      · rcases List.mem_append.mp (show a ∈ A' ++ Ta ++ B' from ha) with m | m
        · rcases List.mem_append.mp m with m | m
          · exact List.mem_append_right _ (List.mem_append_left _ m)
          · exact List.mem_append_left _ m
        · exact List.mem_append_right _ (List.mem_append_right _ m)
    · cases h
inductive Out where
  | nx (E : En)
  | rt (d : D) (E : En)
  | bk (E : En)
  | ct (E : En)
def SO (as : List Nat) (σ σ' : St) : Prop := ∀ k, k ∉ as → σ'[k]? = σ[k]?
theorem SO.refl {as : List Nat} : SO as σ σ := fun _ _ => rfl
theorem SO.trans {as : List Nat} {σ2 : St} (a : SO as σ σ') (b : SO as σ' σ2) : SO as σ σ2 := fun k n => (b k n).trans (a k n)
theorem SO.more {as bs : List Nat} (a : SO as σ σ') (h : ∀ k, k ∈ as → k ∈ bs) : SO bs σ σ' := fun k n => a k fun m => n (h k m)
structure Be (K : PySem.W.Frag) (as : List Nat) (σ : St) (G : Hp) (S : Addr → Prop) (F : List Addr) (E' : En) (σ' : St) (G' : Hp) (S' : Addr → Prop) (F' : List Addr) : Prop where
  so : SO as σ σ'
  sr : SR K G' S' E' σ' F'
  stp : Stp G S F G' S' F'
structure Rt (K : PySem.W.Frag) (as : List Nat) (σ : St) (G : Hp) (S : Addr → Prop) (F : List Addr) (E' : En) (d : D) (v : V) (σ' : St) (G' : Hp) (S' : Addr → Prop) (T F' : List Addr) : Prop where
  so : SO as σ σ'
  sr : SR K G' S' E' σ' F'
  rp : Rp K G' S' d v T
  nd : (T ++ F').Nodup
  ns : ∀ a, a ∈ T → ¬ S' a
  stp : Stp G S F G' S' (T ++ F')
theorem Be.refl {as : List Nat} (sr : SR K G S E σ F) : Be K as σ G S F E σ G S F := ⟨.refl, sr, .refl⟩
theorem Be.trans {as : List Nat} {σ2 : St} {G2 : Hp} {S2 : Addr → Prop} {F2 : List Addr} (a : Be K as σ G S F E1 σ' G' S' F') (b : Be K as σ' G' S' F' E2 σ2 G2 S2 F2) : Be K as σ G S F E2 σ2 G2 S2 F2 := ⟨a.so.trans b.so, b.sr, a.stp.trans b.stp⟩
theorem Be.rt {as : List Nat} {σ2 : St} {G2 : Hp} {S2 : Addr → Prop} {F2 : List Addr} {d : D} {v : V} (a : Be K as σ G S F E1 σ' G' S' F') (b : Rt K as σ' G' S' F' E2 d v σ2 G2 S2 T F2) : Rt K as σ G S F E2 d v σ2 G2 S2 T F2 :=
  ⟨a.so.trans b.so, b.sr, b.rp, b.nd, b.ns, a.stp.trans b.stp⟩
theorem Be.more {as bs : List Nat} (a : Be K as σ G S F E1 σ' G' S' F') (h : ∀ k, k ∈ as → k ∈ bs) : Be K bs σ G S F E1 σ' G' S' F' := ⟨a.so.more h, a.sr, a.stp⟩
theorem Rt.more {as bs : List Nat} {d : D} {v : V} (a : Rt K as σ G S F E1 d v σ' G' S' T F') (h : ∀ k, k ∈ as → k ∈ bs) : Rt K bs σ G S F E1 d v σ' G' S' T F' := ⟨a.so.more h, a.sr, a.rp, a.nd, a.ns, a.stp⟩
theorem RO.be {as : List Nat} (ro : RO K σ G S F E2 os vs G1 S1 T F1) : Be K as σ G S F E2 σ G1 S1 F1 := ⟨.refl, ro.sr, ro.dropAll.stp⟩
abbrev EvS := En → Option Out
def Wants (K : PySem.W.Frag) (as : List Nat) (D : Ends) (σ : St) (G : Hp) (S : Addr → Prop) (F : List Addr) : Out → Prop
  | .nx E' => ∀ σ' G' S' F', Be K as σ G S F E' σ' G' S' F' → D.nx σ' G'
  | .bk E' => ∀ σ' G' S' F', Be K as σ G S F E' σ' G' S' F' → D.bk σ' G'
  | .ct E' => ∀ σ' G' S' F', Be K as σ G S F E' σ' G' S' F' → D.ct σ' G'
  | .rt d E' => ∀ v σ' G' S' T F', Rt K as σ G S F E' d v σ' G' S' T F' → D.rt v G'
theorem Wants.be {as : List Nat} {D : Ends} {o : Out} (h : Wants K as D σ G S F o) (b : Be K as σ G S F E1 σ' G' S' F') : Wants K as D σ' G' S' F' o := by
  cases o with
  | nx E' => exact fun σ2 G2 S2 F2 c => h σ2 G2 S2 F2 (b.trans c)
  | bk E' => exact fun σ2 G2 S2 F2 c => h σ2 G2 S2 F2 (b.trans c)
  | ct E' => exact fun σ2 G2 S2 F2 c => h σ2 G2 S2 F2 (b.trans c)
  | rt d E' => exact fun v σ2 G2 S2 T F2 c => h v σ2 G2 S2 T F2 (b.rt c)
theorem Wants.less {as bs : List Nat} {D : Ends} {o : Out} (h : Wants K bs D σ G S F o) (m : ∀ k, k ∈ as → k ∈ bs) : Wants K as D σ G S F o := by
  cases o with
  | nx E' => exact fun σ2 G2 S2 F2 c => h σ2 G2 S2 F2 (c.more m)
  | bk E' => exact fun σ2 G2 S2 F2 c => h σ2 G2 S2 F2 (c.more m)
  | ct E' => exact fun σ2 G2 S2 F2 c => h σ2 G2 S2 F2 (c.more m)
  | rt d E' => exact fun v σ2 G2 S2 T F2 c => h v σ2 G2 S2 T F2 (c.more m)
def tS (K : PySem.W.Frag) (as : List Nat) (ev : EvS) : TS := fun D σ G => ∃ S F E o, SR K G S E σ F ∧ ev E = some o ∧ Wants K as D σ G S F o
theorem t_more {as bs : List Nat} {ev : EvS} {D : Ends} (h : tS K bs ev D σ G) (m : ∀ k, k ∈ as → k ∈ bs) : tS K as ev D σ G := by
  obtain ⟨S, F, E, o, sr, he, w⟩ := h
  exact ⟨S, F, E, o, sr, he, w.less m⟩
def evNx : EvS := fun E => some (.nx E)
theorem t_nx {as : List Nat} {D : Ends} (h : tS K as evNx D σ G) : tNext D σ G := by
  obtain ⟨S, F, E, o, sr, he, w⟩ := h
  cases he
  exact w σ G S F (.refl sr)
def evBk : EvS := fun E => some (.bk E)
theorem t_bk {as : List Nat} {D : Ends} (h : tS K as evBk D σ G) : tBreak D σ G := by
  obtain ⟨S, F, E, o, sr, he, w⟩ := h
  cases he
  exact w σ G S F (.refl sr)
def evCt : EvS := fun E => some (.ct E)
theorem t_ct {as : List Nat} {D : Ends} (h : tS K as evCt D σ G) : tCont D σ G := by
  obtain ⟨S, F, E, o, sr, he, w⟩ := h
  cases he
  exact w σ G S F (.refl sr)
def evSeq (a b : EvS) : EvS := fun E => match a E with
  | some (.nx E1) => b E1
  | o => o
theorem t_seq {as : List Nat} {a b : EvS} {D : Ends} (h : tS K as (evSeq a b) D σ G) : tSeq (tS K as a) (tS K as b) D σ G := by
  obtain ⟨S, F, E, o, sr, he, w⟩ := h
  unfold evSeq at he
  cases ha : a E with
  | none => rw [ha] at he; cases he
  | some oa =>
    rw [ha] at he
    cases oa with
    | nx E1 => exact ⟨S, F, E, .nx E1, sr, ha, fun σ1 G1 S1 F1 b1 => ⟨S1, F1, E1, o, b1.sr, he, w.be b1⟩⟩
    | rt d E1 => cases he; exact ⟨S, F, E, _, sr, ha, w⟩
    | bk E1 => cases he; exact ⟨S, F, E, _, sr, ha, w⟩
    | ct E1 => cases he; exact ⟨S, F, E, _, sr, ha, w⟩
def evIf (c : EvT) (a b : EvS) : EvS := fun E => match c E with
  | some (true, E1) => a E1
  | some (false, E1) => b E1
  | none => none
theorem t_if {as : List Nat} {c : EvT} {a b : EvS} {D : Ends} (h : tS K as (evIf c a b) D σ G) : tIfS (tT K c) (tS K as a) (tS K as b) D σ G := by
  obtain ⟨S, F, E, o, sr, he, w⟩ := h
  unfold evIf at he
  split at he
  · rename_i E1 h1
    exact ⟨S, F, E, true, E1, sr, h1, fun G1 S1 F1 ro => iteT ⟨S1, F1, E1, o, ro.sr, he, w.be (ro.be (as := as))⟩⟩
  · rename_i E1 h1
    exact ⟨S, F, E, false, E1, sr, h1, fun G1 S1 F1 ro => iteF ⟨S1, F1, E1, o, ro.sr, he, w.be (ro.be (as := as))⟩⟩
  · cases he
def evEx (ea : EvO) : EvS := fun E => match ea E with
  | some (_, E1) => some (.nx E1)
  | none => none
theorem t_ex {as : List Nat} {ea : EvO} {D : Ends} (h : tS K as (evEx ea) D σ G) : tDrop (tO K ea) D σ G := by
  obtain ⟨S, F, E, o, sr, he, w⟩ := h
  unfold evEx at he
  split at he
  · rename_i x E1 h1
    cases he
    exact ⟨S, F, E, x, E1, sr, h1, fun v G1 S1 T1 F1 ro => w σ G1 S1 F1 (ro.be (as := as))⟩
  · cases he
def evRet (ea : EvO) : EvS := fun E => match ea E with
  | some (o, E1) => match tks [o] E1 with
    | some ([d], E2) => some (.rt d E2)
    | _ => none
  | none => none
theorem t_ret {as : List Nat} {ea : EvO} {D : Ends} (h : tS K as (evRet ea) D σ G) : tRet (tO K ea) D σ G := by
  obtain ⟨S, F, E, o, sr, he, w⟩ := h
  unfold evRet at he
  split at he
  · rename_i x E1 h1
    split at he
    · rename_i d E2 h2
      cases he
      refine ⟨S, F, E, x, E1, sr, h1, fun v G1 S1 T1 F1 ro => ?_⟩
      obtain ⟨S2, F2, T2, sr2, rp, nd, ns, stp⟩ := ro.taken h2
      obtain ⟨v', e, r⟩ := RpL.one (v := v) rp
      cases e
      exact w v σ G1 S2 T2 F2 ⟨.refl, sr2, r, nd, ns, stp⟩
    · cases he
  · cases he
def evRetN : EvS := fun E => some (.rt .non E)
theorem t_retN {as : List Nat} {D : Ends} (h : tS K as evRetN D σ G) : tRetN D σ G := by
  obtain ⟨S, F, E, o, sr, he, w⟩ := h
  cases he
  exact w .non σ G S [] F ⟨.refl, sr, ⟨rfl, rfl⟩, sr.nd, (fun _ m => by cases m), .refl⟩
end
end DE
namespace DE
open PySem PySem.Spec L2
section
variable {K : PySem.W.Frag} {σ σ' : St} {G G' G1 G2 : Hp} {S S' S1 : Addr → Prop} {F F' F1 T T1 : List Addr} {E E' E1 E2 E3 : En} {Q : VK} {os : List Opd} {vs : List V}
abbrev St1 := D → En → Option En
abbrev StN := List D → En → Option En
structure Gt (K : PySem.W.Frag) (as : List Nat) (σ : St) (G : Hp) (S : Addr → Prop) (F : List Addr) (E' : En) (σ' : St) (G' : Hp) (S' : Addr → Prop) (F' : List Addr) : Prop where
  be : Be K as σ G S F E' σ' G' S' F'
  len : σ'.length = σ.length
def gT (K : PySem.W.Frag) (as : List Nat) (st : St1) : TG := fun v σ G Q => ∃ S F E d T E', SR K G S E σ F ∧ Rp K G S d v T ∧ (T ++ F).Nodup ∧ (∀ a, a ∈ T → ¬ S a) ∧ st d E = some E' ∧ ∀ σ' G' S' F', Gt K as σ G S (T ++ F) E' σ' G' S' F' → Q σ' G'
def gTs (K : PySem.W.Frag) (as : List Nat) (st : StN) : TGs := fun vs σ G Q => ∃ S F E ds T E', SR K G S E σ F ∧ RpL K G S ds vs T ∧ (T ++ F).Nodup ∧ (∀ a, a ∈ T → ¬ S a) ∧ st ds E = some E' ∧ ∀ σ' G' S' F', Gt K as σ G S (T ++ F) E' σ' G' S' F' → Q σ' G'
theorem _root_.L2.PG.weak {X : Cx} {e : Expr} {t t' : TG} (h : PG X e t) (w : ∀ v σ G Q, t' v σ G Q → t v σ G Q) : PG X e t' := ⟨fun pins s σ H v u Q I r hq => h.run pins s σ H v u Q I r (w v σ H Q hq)⟩
theorem _root_.L2.PGs.weak {X : Cx} {e : List Expr} {t t' : TGs} (h : PGs X e t) (w : ∀ v σ G Q, t' v σ G Q → t v σ G Q) : PGs X e t' := ⟨fun pins s σ H v u Q I r hq => h.run pins s σ H v u Q I r (w v σ H Q hq)⟩
def stNm (i : Nat) : St1 := fun d E => if i < E.length then some (E.set i (some d)) else none
theorem sr_set {i : Nat} {d : D} {v : V} (sr : SR K G S E σ F) (r : Rp K G S d v T) (nd : (T ++ F).Nodup) (ns : ∀ a, a ∈ T → ¬ S a) (hi : i < E.length) :
    ∃ F', SR K G S (E.set i (some d)) (σ.set i (some v)) F' ∧ ∀ a, a ∈ F' → a ∈ T ++ F := by
  obtain ⟨n1, n2, n3⟩ := nd_app.mp nd
  obtain ⟨F2, h2, sub⟩ := sr.rep.drop i (some v)
  obtain ⟨F', h', pp⟩ := REnv.put (i := i) (d := d) h2 (by rw [List.getElem?_set_self hi]) r
  rw [List.set_set, List.set_set] at h'
  have m : ∀ a, a ∈ F' → a ∈ T ++ F := fun a ha => by
    rcases List.mem_append.mp (pp.mem_iff.mp ha) with k | k
    · exact List.mem_append_left _ k
    · exact List.mem_append_right _ (sub.subset k)
  refine ⟨F', ⟨h', pp.nodup_iff.mpr (nd_app.mpr ⟨n1, sub.nodup n2, fun a ha hb => n3 a ha (sub.subset hb)⟩), fun a ha => ?_, sr.sd⟩, m⟩
  rcases List.mem_append.mp (m a ha) with k | k
  · exact ns a k
  · exact sr.ns a k
theorem so_set {i : Nat} {w : Option V} : SO [i] σ (σ.set i w) := fun k n => by
  have : i ≠ k := fun e => n (by rw [e]; exact List.mem_cons_self ..)
  rw [List.getElem?_set_ne this]
theorem g_nm {i : Nat} {v : V} {Q : St → Hp → Prop} (h : gT K [i] (stNm i) v σ G Q) : gName i v σ G Q := by
  obtain ⟨S, F, E, d, T, E', sr, r, nd, ns, he, q⟩ := h
  unfold stNm at he
  split at he
  · rename_i hi
    cases he
    obtain ⟨F', sr', m⟩ := sr_set sr r nd ns hi
    exact q _ G S F' ⟨⟨so_set, sr', Stp.refl.less m⟩, by rw [List.length_set]⟩
  · cases he
def stNil : StN := fun ds E => match ds with
  | [] => some E
  | _ => none
def stCons (a : St1) (b : StN) : StN := fun ds E => match ds with
  | d :: ds => match a d E with
    | some E1 => b ds E1
    | none => none
  | [] => none
def stTup (b : StN) : St1 := fun d E => match d with
  | .tup ds => b ds E
  | _ => none
theorem g_nil {Q : St → Hp → Prop} (h : gTs K [] stNil vs σ G Q) : gNil vs σ G Q := by
  obtain ⟨S, F, E, ds, T, E', sr, r, nd, ns, he, q⟩ := h
  unfold stNil at he
  split at he
  · cases he
    obtain ⟨e, z⟩ := r
    subst e z
    exact ⟨rfl, q σ G S F ⟨.refl sr, rfl⟩⟩
  · cases he
theorem g_cons {as bs : List Nat} {a : St1} {b : StN} {Q : St → Hp → Prop} (h : gTs K (as ++ bs) (stCons a b) vs σ G Q) : gCons (gT K as a) (gTs K bs b) vs σ G Q := by
  obtain ⟨S, F, E, ds, T, E', sr, r, nd, ns, he, q⟩ := h
  unfold stCons at he
  split at he
  · rename_i d ds
    split at he
    · rename_i E1 h1
      obtain ⟨v, vs', A, B, e, z, r1, r2⟩ := r
      subst e z
      rw [List.append_assoc] at nd
      obtain ⟨n1, n2, n3⟩ := nd_app.mp nd
      obtain ⟨n4, n5, n6⟩ := nd_app.mp n2
      refine ⟨v, vs', rfl, S, F, E, d, A, E1, sr, r1, nd_app.mpr ⟨n1, n5, fun x hx hy => n3 x hx (List.mem_append_right _ hy)⟩, fun x hx => ns x (List.mem_append_left _ hx), h1, fun σ1 G1 S1 F1 g1 => ?_⟩
      have apart : ∀ x, x ∈ B → x ∉ A ++ F := fun x hx hy => by
        rcases List.mem_append.mp hy with k | k
        · exact n3 x k (List.mem_append_left _ hx)
        · exact n6 x hx k
      have nsAF : ∀ x, x ∈ A ++ F → ¬ S x := fun x hx => by
        rcases List.mem_append.mp hx with k | k
        · exact ns x (List.mem_append_left _ k)
        · exact sr.ns x k
      have r2' : RpL K G1 S1 ds vs' B := r2.mono (fun p o hs e => g1.be.stp.keep p o e fun m => nsAF p m hs) (fun p hp => by
        obtain ⟨o, e⟩ := r2.dom p hp
        rw [e, g1.be.stp.keep p o e (apart p hp)]) g1.be.stp.ss
      have ap1 : ∀ x, x ∈ B → x ∉ F1 := fun x hx hy => by
        rcases g1.be.stp.fs x hy with k | k
        · exact apart x hx k
        · obtain ⟨o, e⟩ := r2.dom x hx
          rw [e] at k; cases k
      refine ⟨S1, F1, E1, ds, B, E', g1.be.sr, r2', nd_app.mpr ⟨n4, g1.be.sr.nd, ap1⟩, fun x hx hs => ?_, he, fun σ2 G2 S2 F2 g2 => ?_⟩
      · rcases g1.be.stp.sn x hs with k | k | k
        · exact ns x (List.mem_append_right _ hx) k
        · exact apart x hx k
        · obtain ⟨o, e⟩ := r2.dom x hx
          rw [e] at k; cases k
      · refine q σ2 G2 S2 F2 ⟨⟨(g1.be.so.more fun k m => List.mem_append_left _ m).trans (g2.be.so.more fun k m => List.mem_append_right _ m), g2.be.sr, ?_⟩, g2.len.trans g1.len⟩
        have big : Stp G S (B ++ (A ++ F)) G1 S1 (B ++ F1) := g1.be.stp.frame
        exact (big.more (F0 := A ++ B ++ F) fun x hx => by
          rcases List.mem_append.mp hx with k | k
          · exact List.mem_append_left _ (List.mem_append_right _ k)
          · rcases List.mem_append.mp k with k | k
            · exact List.mem_append_left _ (List.mem_append_left _ k)
            · exact List.mem_append_right _ k).trans g2.be.stp
    · cases he
  · cases he
theorem g_tup {as : List Nat} {b : StN} {n : Nat} {v : V} {Q : St → Hp → Prop} (hn : ∀ ds E E', b ds E = some E' → ds.length = n) (h : gT K as (stTup b) v σ G Q) : gTup K n (gTs K as b) v σ G Q := by
  obtain ⟨S, F, E, d, T, E', sr, r, nd, ns, he, q⟩ := h
  unfold stTup at he
  split at he
  · rename_i ds
    obtain ⟨p, vs, e, hp, r⟩ := r
    refine ⟨p, vs, e, ?_, by rw [← r.length, hn _ _ _ he], S, F, E, ds, T, E', sr, r, nd, ns, he, q⟩
    rcases hp with ⟨_, hp⟩ | hp
    · exact SqT.of hp
    · exact hp.to
  · cases he
def evAsg (ea : EvO) (st : St1) : EvS := fun E => match ea E with
  | some (o, E1) => match tks [o] E1 with
    | some ([d], E2) => match st d E2 with
      | some E3 => some (.nx E3)
      | none => none
    | _ => none
  | none => none
theorem t_asg {as : List Nat} {ea : EvO} {st : St1} {D : Ends} (h : tS K as (evAsg ea st) D σ G) : tAsg (tO K ea) (gT K as st) D σ G := by
  obtain ⟨S, F, E, o, sr, he, w⟩ := h
  unfold evAsg at he
  split at he
  · rename_i x E1 h1
    split at he
    · rename_i d E2 h2
      split at he
      · rename_i E3 h3
        cases he
        refine ⟨S, F, E, x, E1, sr, h1, fun v G1 S1 T1 F1 ro => ?_⟩
        obtain ⟨S2, F2, T2, sr2, rp, nd, ns, stp⟩ := ro.taken h2
        obtain ⟨v', e, r⟩ := RpL.one (v := v) rp
        cases e
        exact ⟨S2, F2, E2, d, T2, E3, sr2, r, nd, ns, h3, fun σ' G' S' F' g => w σ' G' S' F' ⟨g.be.so, g.be.sr, stp.trans g.be.stp⟩⟩
      · cases he
    · cases he
  · cases he
def evWh (c : EvT) (b : EvS) : Nat → EvS
  | 0 => fun _ => none
  | n + 1 => fun E => match c E with
    | some (false, E1) => some (.nx E1)
    | some (true, E1) => match b E1 with
      | some (.nx E2) => evWh c b n E2
      | some (.ct E2) => evWh c b n E2
      | some (.bk E2) => some (.nx E2)
      | some (.rt d E2) => some (.rt d E2)
      | none => none
    | none => none
theorem t_wh {as : List Nat} {c : EvT} {b : EvS} {n : Nat} {D : Ends} (h : tS K as (evWh c b n) D σ G) : tWhile (tT K c) (tS K as b) D σ G := by
  refine ⟨fun m σ G => tS K as (evWh c b m) D σ G, ⟨n, h⟩, fun m σ G h => ?_⟩
  obtain ⟨S, F, E, o, sr, he, w⟩ := h
  cases m with
  | zero => cases he
  | succ m =>
    unfold evWh at he
    split at he
    · rename_i E1 h1
      cases he
      exact ⟨S, F, E, false, E1, sr, h1, fun G1 S1 F1 ro => iteF (w σ G1 S1 F1 (ro.be (as := as)))⟩
    · rename_i E1 h1
      refine ⟨S, F, E, true, E1, sr, h1, fun G1 S1 F1 ro => iteT ⟨fun σ G => tS K as (evWh c b m) D σ G, fun σ' H' h => ⟨m, Nat.lt_succ_self m, h⟩, ?_⟩⟩
      have w1 := w.be (ro.be (as := as))
      cases hb : b E1 with
      | none => rw [hb] at he; cases he
      | some ob =>
        rw [hb] at he
        refine ⟨S1, F1, E1, ob, ro.sr, hb, ?_⟩
        cases ob with
        | nx E2 => exact fun σ2 G2 S2 F2 b2 => ⟨S2, F2, E2, o, b2.sr, he, w1.be b2⟩
        | ct E2 => exact fun σ2 G2 S2 F2 b2 => ⟨S2, F2, E2, o, b2.sr, he, w1.be b2⟩
        | bk E2 => cases he; exact w1
        | rt d E2 => cases he; exact w1
    · cases he
end
end DE
namespace DE
open PySem PySem.Spec L2
section
variable {K : PySem.W.Frag} {σ σ' : St} {G G' G1 G2 : Hp} {S S' S1 : Addr → Prop} {F F' F1 T T1 : List Addr} {E E' E1 E2 E3 : En} {Q : VK} {os : List Opd} {vs : List V}
inductive Src where
  | it (ds : List D)
  | own (i : Nat)
def FeedsI (K : PySem.W.Frag) (G : Hp) (S : Addr → Prop) (ds : List D) (J : It) : Prop := ∀ (H : Hp) (S1 : Addr → Prop), (∀ a o, S a → G a = some o → H a = some o) → (∀ a, S a → S1 a) → (∀ a, S1 a → ∃ o, H a = some o) →
  (∀ k d, ds[k]? = some d → J.go k H ∧ ∀ x H', J.yld k H x H' → ∃ S2, NewR K H S1 d x H' S2 []) ∧ ∀ k, ds.length ≤ k → J.stop k H
def Feeds (K : PySem.W.Frag) (σ : St) (G : Hp) (S : Addr → Prop) (s : Src) (J : It) : Prop := match s with
  | .it ds => FeedsI K G S ds J
  | .own i => ∃ p, σ[i]? = some (some (.ref p)) ∧ J = Itl K p
abbrev EvI := En → Option (Src × En)
def tI (K : PySem.W.Frag) (ev : EvI) : TI := fun σ G R => ∃ S F E s E', SR K G S E σ F ∧ ev E = some (s, E') ∧ ∀ J G' S' F', RO K σ G S F E' [] [] G' S' [] F' → Feeds K σ G' S' s J → R J G'
theorem _root_.L2.PI.weak {X : Cx} {tg e : Expr} {t t' : TI} (h : PI X tg e t) (w : ∀ σ G R, t' σ G R → t σ G R) : PI X tg e t' := ⟨fun pins s σ H R I hq => h.run pins s σ H R I (w σ H R hq)⟩
def iAny (K : PySem.W.Frag) (tl : TE) : TI := fun σ H R => tl σ H fun x H1 => (∃ a, x = .ref a ∧ (∃ xs, SqL K H1 a xs) ∧ R (Itl K a) H1) ∨ (∃ a, x = .ref a ∧ (∃ xs, SqT K H1 a xs) ∧ R (Itt K a) H1) ∨ ∃ z, x = .str z ∧ R (Its z) H1
theorem pi_any {X : Cx} {tg e : Expr} {tl : TE} (he : PE X e tl) : PI X tg e (iAny X.K tl) := by
  refine ⟨fun pins s σ H R I h => wpAny_mono (he.run pins s σ H _ I h) ?_ fun _ _ z => z⟩
  rintro v s1 ⟨x, H1, I1, r1, ⟨a, ex, ⟨xs, hx⟩, q⟩ | ⟨a, ex, ⟨xs, hx⟩, q⟩ | ⟨z, ex, q⟩⟩ <;> subst ex
  · cases r1
    obtain ⟨its, _, p, _⟩ := I1.list hx
    exact wpAny_pyIter_list p.isList (pi_one (tk := s1.toks) I1 _ (turn_list a _) ⟨_, Heap.get?_push_size _ rfl, rfl, rfl⟩ q)
  · cases r1
    obtain ⟨its, _, p, _⟩ := I1.tuple hx
    exact wpAny_pyIter_tuple (show s1.heap.IsTuple a its.toArray from p) (pi_one (tk := s1.toks) I1 _ (turn_tuple a _) ⟨_, Heap.get?_push_size _ rfl, rfl, rfl⟩ q)
  · obtain ⟨t, rfl⟩ := r1
    by_cases ha : z.cps.all (· < 128) = true
    · exact wpAny_pyIter_ascii ha (pi_one (tk := s1.toks) I1 _ (turn_str _ z t "str_ascii_iterator" (.inl rfl)) ⟨_, Heap.get?_push_size _ rfl, rfl, rfl⟩ q)
    · exact wpAny_pyIter_wide (by simpa using ha) (pi_one (tk := s1.toks) I1 _ (turn_str _ z t "str_iterator" (.inr rfl)) ⟨_, Heap.get?_push_size _ rfl, rfl, rfl⟩ q)
def signs (x : Str) : List D := x.cps.toList.map fun c => .str ⟨#[c]⟩
def kidsOf : D → Option (List D)
  | .lst _ ds => some ds
  | .tup ds => some ds
  | .scr ds => some ds
  | .str x => some (signs x)
  | _ => none
theorem NewR.same {d : D} {v : V} (h : Rp K G S d v []) : ∃ S2, NewR K G S d v G S2 [] := ⟨S, .old h⟩
theorem fe_lst {p : Addr} {ds : List D} (hp : SqL K G p vs) (st : ∀ H : Hp, (∀ a o, S a → G a = some o → H a = some o) → SqL K H p vs) (r : RpL K G S ds vs []) : FeedsI K G S ds (Itl K p) := by
  intro H S1 k1 k2 k3
  have hq := st H k1
  have r' : RpL K H S1 ds vs [] := r.mono k1 (fun _ m => by cases m) k2
  refine ⟨fun k d hd => ?_, fun k hk => ⟨vs, hq, by rw [← r.length]; exact hk⟩⟩
  obtain ⟨v, hv, rv⟩ := r'.get hd
  refine ⟨⟨vs, v, hq, hv⟩, fun x H' hy => ?_⟩
  obtain ⟨e, hy⟩ := hy
  subst e
  have := hy vs hq
  rw [hv] at this
  cases this
  exact NewR.same rv
theorem fe_tup {p : Addr} {ds : List D} (st : ∀ H : Hp, (∀ a o, S a → G a = some o → H a = some o) → SqT K H p vs) (r : RpL K G S ds vs []) : FeedsI K G S ds (Itt K p) := by
  intro H S1 k1 k2 k3
  have hq := st H k1
  have r' : RpL K H S1 ds vs [] := r.mono k1 (fun _ m => by cases m) k2
  refine ⟨fun k d hd => ?_, fun k hk => ⟨vs, hq, by rw [← r.length]; exact hk⟩⟩
  obtain ⟨v, hv, rv⟩ := r'.get hd
  refine ⟨⟨vs, v, hq, hv⟩, fun x H' hy => ?_⟩
  obtain ⟨e, hy⟩ := hy
  subst e
  have := hy vs hq
  rw [hv] at this
  cases this
  exact NewR.same rv
theorem fe_str {x : Str} : FeedsI K G S (signs x) (Its x) := by
  intro H S1 k1 k2 k3
  have hl : (signs x).length = x.cps.size := by unfold signs; rw [List.length_map, Array.length_toList]
  refine ⟨fun k d hd => ?_, fun k hk => (show x.cps.size ≤ k by rw [← hl]; exact hk)⟩
  have hk : k < (signs x).length := (List.getElem?_eq_some_iff.mp hd).1
  refine ⟨(show k < x.cps.size by rw [← hl]; exact hk), fun v H' hy => ?_⟩
  obtain ⟨e, c, hc, ev⟩ := hy
  subst e ev
  unfold signs at hd
  rw [List.getElem?_map, Array.getElem?_toList, hc] at hd
  cases hd
  exact NewR.same ⟨rfl, rfl⟩
theorem fe_any {d : D} {v : V} {ds : List D} (r : Rp K G S d v []) (hf : frz d = d) (hk : kidsOf d = some ds) :
    (∃ a, v = .ref a ∧ (∃ xs, SqL K G a xs) ∧ FeedsI K G S ds (Itl K a)) ∨ (∃ a, v = .ref a ∧ (∃ xs, SqT K G a xs) ∧ FeedsI K G S ds (Itt K a)) ∨ ∃ z, v = .str z ∧ FeedsI K G S ds (Its z) := by
  cases d <;> simp only [kidsOf, Option.some.injEq, reduceCtorEq] at hk
  · subst hk
    exact .inr (.inr ⟨_, r.1, fe_str⟩)
  · subst hk
    obtain ⟨p, vs, e, hp, r⟩ := r
    refine .inr (.inl ⟨p, e, ⟨vs, ?_⟩, fe_tup (fun H k => ?_) r⟩)
    · rcases hp with ⟨_, hp⟩ | hp
      · exact SqT.of hp
      · exact hp.to
    · rcases hp with ⟨h1, hp⟩ | hp
      · exact SqT.of (k _ _ h1 hp)
      · exact hp.to
  · subst hk
    rename_i m ds
    cases m with
    | true => injection hf with hf; cases hf
    | false =>
      obtain ⟨_, p, vs, e, h1, hp, r⟩ := r
      exact .inl ⟨p, e, ⟨vs, SqL.of hp⟩, fe_lst (SqL.of hp) (fun H k => SqL.of (k _ _ h1 hp)) r⟩
  · subst hk
    obtain ⟨_, p, vs, e, hp, r⟩ := r
    rcases hp with ⟨h1, hp⟩ | hp
    · exact .inl ⟨p, e, ⟨vs, .inl hp⟩, fe_lst (.inl hp) (fun H k => .inl (hp.imp (k _ _ h1) fun ⟨o, q⟩ => ⟨o, k _ _ h1 q⟩)) r⟩
    · exact .inl ⟨p, e, ⟨vs, hp.to⟩, fe_lst hp.to (fun H k => hp.to) r⟩
def evSq (ea : EvO) : EvI := fun E => match ea E with
  | some (.slot i, E1) => match E1[i]? with
    | some (some d) => if isF d = true then (match kidsOf d with
      | some ds => some (.it ds, E1)
      | none => none) else (match d with
      | .lst true _ => some (.own i, E1)
      | _ => none)
    | _ => none
  | some (.temp d, E1) => match kidsOf (frz d) with
    | some ds => some (.it ds, E1)
    | none => none
  | none => none
theorem t_sq {ea : EvO} {R : It → Hp → Prop} (h : tI K (evSq ea) σ G R) : iAny K (tO K ea) σ G R := by
  obtain ⟨S, F, E, s, E', sr, he, q⟩ := h
  unfold evSq at he
  split at he
  · rename_i i E1 h1
    refine ⟨S, F, E, .slot i, E1, sr, h1, fun v G1 S1 T1 F1 ro => ?_⟩
    obtain ⟨hv, _⟩ := ro.ro.one
    split at he
    · rename_i d hd
      obtain ⟨v', A, Fr, g1, g2, _⟩ := ro.sr.rep.get hd
      rw [hv] at g1
      cases g1
      split at he
      · rename_i hf
        split at he
        · rename_i ds hk
          cases he
          have hz := isF_frz d hf
          have := g2.nil hz
          subst this
          rcases fe_any g2 hz hk with ⟨a, e, h2, f⟩ | ⟨a, e, h2, f⟩ | ⟨z, e, f⟩
          · exact .inl ⟨a, e, h2, q _ G1 S1 F1 ro.dropAll f⟩
          · exact .inr (.inl ⟨a, e, h2, q _ G1 S1 F1 ro.dropAll f⟩)
          · exact .inr (.inr ⟨z, e, q _ G1 S1 F1 ro.dropAll f⟩)
        · cases he
      · split at he
        · cases he
          obtain ⟨p, ws, e, hp⟩ := lst_any g2
          subst e
          exact .inl ⟨p, rfl, ⟨ws, SqL.of hp⟩, q _ G1 S1 F1 ro.dropAll ⟨p, hv, rfl⟩⟩
        · cases he
    · cases he
  · rename_i d E1 h1
    refine ⟨S, F, E, .temp d, E1, sr, h1, fun v G1 S1 T1 F1 ro => ?_⟩
    split at he
    · rename_i ds hk
      cases he
      have r : Rp K G1 S1 d v T1 := ro.ro.one
      have rf : Rp K G1 (fun a => S1 a ∨ a ∈ T1) (DE.frz d) v [] := r.frz (fun _ z => .inl z) fun _ z => .inr z
      obtain ⟨n1, n2, n3⟩ := nd_app.mp ro.nd
      have ro' : RO K σ G S F E' [] [] G1 (fun a => S1 a ∨ a ∈ T1) [] F1 := ⟨⟨ro.sr.rep.mono (fun _ _ _ z => z) (fun _ _ => rfl) fun _ z => .inl z, n2, (fun a ha hs => by
        rcases hs with hs | hs
        · exact ro.sr.ns a ha hs
        · exact n3 a hs ha), fun a ha => by
        rcases ha with ha | ha
        · exact ro.sr.sd a ha
        · exact r.dom a ha⟩, ⟨rfl, rfl⟩, n2, (fun _ m => by cases m), ro.stp.keep, ro.stp.live, fun a ha => ro.stp.fs a (List.mem_append_right _ ha), fun a ha => .inl (ro.stp.ss a ha), fun a ha => by
        rcases ha with ha | ha
        · exact ro.stp.sn a ha
        · exact .inr (ro.stp.fs a (List.mem_append_left _ ha))⟩
      rcases fe_any rf (frz_frz d) hk with ⟨a, e, h2, f⟩ | ⟨a, e, h2, f⟩ | ⟨z, e, f⟩
      · exact .inl ⟨a, e, h2, q _ G1 _ F1 ro' f⟩
      · exact .inr (.inl ⟨a, e, h2, q _ G1 _ F1 ro' f⟩)
      · exact .inr (.inr ⟨z, e, q _ G1 _ F1 ro' f⟩)
    · cases he
  · cases he
def rngD (lo : Int) (n : Nat) : List D := (List.range n).map fun (k : Nat) => .int (lo + (k : Int))
theorem fe_rng {lo : Int} {n : Nat} : FeedsI K G S (rngD lo n) (Itr lo n) := by
  intro H S1 k1 k2 k3
  have hl : (rngD lo n).length = n := by unfold rngD; rw [List.length_map, List.length_range]
  refine ⟨fun k d hd => ?_, fun k hk => by rw [hl] at hk; exact hk⟩
  have hk : k < (rngD lo n).length := (List.getElem?_eq_some_iff.mp hd).1
  rw [hl] at hk
  refine ⟨hk, fun v H' hy => ?_⟩
  obtain ⟨e, ev⟩ := hy
  subst e ev
  unfold rngD at hd
  rw [List.getElem?_map, List.getElem?_range hk] at hd
  cases hd
  exact NewR.same ⟨rfl, rfl⟩
def asI : Opd → En → Option Int
  | .temp (.int b), _ => some b
  | .slot i, E => match E[i]? with
    | some (some (.int b)) => some b
    | _ => none
  | _, _ => none
theorem asI_rp {o : Opd} {v : V} {b : Int} (sr : SR K G S E σ F) (r : RpO K σ G S o v T) (h : asI o E = some b) : v = .int b := by
  cases o with
  | temp d =>
    cases d <;> simp only [asI, reduceCtorEq, Option.some.injEq] at h
    subst h
    exact r.1
  | slot i =>
    simp only [asI] at h
    split at h
    · rename_i b' hb
      cases h
      obtain ⟨v', F1, Fr, g1, g2, _⟩ := sr.rep.get hb
      rw [r.1] at g1
      cases g1
      exact g2.1
    · cases h
def evR1 (es : EvOs) : EvI := fun E => match es E with
  | some ([o], E1) => match asI o E1 with
    | some j => if (-j).toNat ≤ lim ∧ j.toNat ≤ lim then some (.it (rngD 0 j.toNat), E1) else none
    | none => none
  | _ => none
def evR2 (es : EvOs) : EvI := fun E => match es E with
  | some ([o, o2], E1) => match asI o E1, asI o2 E1 with
    | some i, some j => if ((-i).toNat ≤ lim ∧ i.toNat ≤ lim) ∧ (-j).toNat ≤ lim ∧ j.toNat ≤ lim then some (.it (rngD i (j - i).toNat), E1) else none
    | _, _ => none
  | _ => none
theorem big_of {j : Int} (h : (-j).toNat ≤ lim ∧ j.toNat ≤ lim) : -4611686018427387904 ≤ j ∧ j < 4611686018427387904 := by
  unfold lim at h
  omega
theorem t_r1 {es : EvOs} {R : It → Hp → Prop} (h : tI K (evR1 es) σ G R) : iRng1 (tOs K es) σ G R := by
  obtain ⟨S, F, E, s, E', sr, he, q⟩ := h
  unfold evR1 at he
  split at he
  · rename_i o E1 h1
    split at he
    · rename_i j h2
      split at he
      · rename_i hb
        cases he
        refine ⟨S, F, E, [o], E', sr, h1, fun vs G1 S1 T1 F1 ro => ?_⟩
        obtain ⟨v, vs', A, B, e, z, r, h⟩ := ro.ro
        obtain ⟨e2, _⟩ := h
        subst e2 e
        exact ⟨j, by rw [asI_rp ro.sr r h2], (big_of hb).1, (big_of hb).2, q _ G1 S1 F1 ro.dropAll fe_rng⟩
      · cases he
    · cases he
  · cases he
theorem t_r2 {es : EvOs} {R : It → Hp → Prop} (h : tI K (evR2 es) σ G R) : iRng2 (tOs K es) σ G R := by
  obtain ⟨S, F, E, s, E', sr, he, q⟩ := h
  unfold evR2 at he
  split at he
  · rename_i o o2 E1 h1
    split at he
    · rename_i i j h2 h3
      split at he
      · rename_i hb
        cases he
        refine ⟨S, F, E, [o, o2], E', sr, h1, fun vs G1 S1 T1 F1 ro => ?_⟩
        obtain ⟨v, vs', A, B, e, z, r, v2, vs2, A2, B2, e', z', r2, h⟩ := ro.ro
        obtain ⟨e2, _⟩ := h
        subst e2 e' e
        exact ⟨i, j, by rw [asI_rp ro.sr r h2, asI_rp ro.sr r2 h3], ⟨(big_of hb.1).1, (big_of hb.1).2, (big_of hb.2).1, (big_of hb.2).2⟩, q _ G1 S1 F1 ro.dropAll fe_rng⟩
      · cases he
    · cases he
  · cases he
def turn (st : St1) (b : EvS) (d : D) (E : En) (k : EvS) : Option Out := match st d E with
  | some E1 => match b E1 with
    | some (.nx E2) => k E2
    | some (.ct E2) => k E2
    | some (.bk E2) => some (.nx E2)
    | some (.rt d E2) => some (.rt d E2)
    | none => none
  | none => none
def forIt (st : St1) (b : EvS) : List D → EvS
  | [] => fun E => some (.nx E)
  | d :: ds => fun E => turn st b d E (forIt st b ds)
def forOwn (i : Nat) (st : St1) (b : EvS) : Nat → Nat → EvS
  | 0, _ => fun _ => none
  | n + 1, k => fun E => match E[i]? with
    | some (some (.lst true ds)) => match ds[k]? with
      | some d => turn st b (frz d) (E.set i (some (.lst true (frzL ds)))) (forOwn i st b n (k + 1))
      | none => some (.nx E)
    | some (some (.lst false ds)) => match ds[k]? with
      | some d => turn st b (frz d) (E.set i (some (.lst false (frzL ds)))) (forOwn i st b n (k + 1))
      | none => some (.nx E)
    | _ => none
def evFor (as : List Nat) (N : Nat) (src : EvI) (st : St1) (b : EvS) : EvS := fun E => match src E with
  | some (.it ds, E1) => forIt st b ds E1
  | some (.own i, E1) => if as.contains i = true then none else forOwn i st b N 0 E1
  | none => none
theorem turn_ok {as : List Nat} {st : St1} {b : EvS} {k : EvS} {d : D} {x : V} {o : Out} {D : Ends} {W : St → Hp → Prop} {S2 : Addr → Prop} {H' : Hp} (sr : SR K G S E σ F) (nr : NewR K G S d x H' S2 []) (h : turn st b d E k = some o) (w : Wants K as D σ G S F o)
    (hk : ∀ σ' G' S' F' E', Be K as σ G S F E' σ' G' S' F' → k E' = some o → W σ' G') : gT K as st x σ H' fun σ2 H2 => tS K as b { D with nx := W, ct := W, bk := D.nx } σ2 H2 := by
  unfold turn at h
  split at h
  · rename_i E1 h1
    have sr' : SR K H' S2 E σ F := ⟨sr.rep.mono (fun p o _ e => nr.keep p o e) (fun p hp => by
      obtain ⟨o, e⟩ := sr.rep.dom p hp
      rw [e, nr.keep p o e]) nr.ss, sr.nd, (fun a ha hs => by
        rcases nr.sn a hs with m | ⟨m, _⟩
        · exact sr.ns a ha m
        · obtain ⟨o, e⟩ := sr.rep.dom a ha
          rw [e] at m; cases m), fun a ha => by
        rcases nr.sn a ha with m | ⟨_, m⟩
        · obtain ⟨o, e⟩ := sr.sd a m
          exact ⟨o, nr.keep a o e⟩
        · exact m⟩
    have stp0 : Stp G S F H' S2 F := ⟨fun a o e _ => nr.keep a o e, fun a o e => ⟨o, nr.keep a o e⟩, fun a ha => .inl ha, nr.ss, fun a ha => (nr.sn a ha).imp id fun z => .inr z.1⟩
    refine ⟨S2, F, E, d, [], E1, sr', nr.rp, sr.nd, (fun _ m => by cases m), h1, fun σ1 G1 S1 F1 g => ?_⟩
    have b0 : Be K as σ G S F E1 σ1 G1 S1 F1 := ⟨g.be.so, g.be.sr, stp0.trans g.be.stp⟩
    cases hb : b E1 with
    | none => rw [hb] at h; cases h
    | some ob =>
      rw [hb] at h
      have w1 := w.be b0
      refine ⟨S1, F1, E1, ob, g.be.sr, hb, ?_⟩
      cases ob with
      | nx E2 => exact fun σ2 G2 S2 F2 c => hk σ2 G2 S2 F2 E2 (b0.trans c) h
      | ct E2 => exact fun σ2 G2 S2 F2 c => hk σ2 G2 S2 F2 E2 (b0.trans c) h
      | bk E2 => cases h; exact w1
      | rt d E2 => cases h; exact w1
  · cases h
theorem t_for {as : List Nat} {N : Nat} {src : EvI} {st : St1} {b : EvS} {D : Ends} (h : tS K as (evFor as N src st b) D σ G) : tFor (tI K src) (gT K as st) (tS K as b) D σ G := by
  obtain ⟨S, F, E, o, sr, he, w⟩ := h
  unfold evFor at he
  split at he
  · rename_i ds E1 h1
    refine ⟨S, F, E, .it ds, E1, sr, h1, fun J G1 S1 F1 ro fe => ?_⟩
    have fe : FeedsI K G1 S1 ds J := fe
    have w0 := w.be (ro.be (as := as))
    refine ⟨fun i m σ2 H => ∃ S2 F2 E2, Be K as σ G1 S1 F1 E2 σ2 H S2 F2 ∧ forIt st b (ds.drop i) E2 = some o ∧ m = ds.length - i, ⟨_, S1, F1, E1, .refl ro.sr, he, rfl⟩, fun i m σ2 H hW => ?_⟩
    obtain ⟨S2, F2, E2, be, hf, em⟩ := hW
    have keepS : ∀ a o, S1 a → G1 a = some o → H a = some o := fun a o hs e => be.stp.keep a o e fun m => ro.sr.ns a m hs
    obtain ⟨f1, f2⟩ := fe H S2 keepS be.stp.ss be.sr.sd
    by_cases hi : i < ds.length
    · right
      have hd : ds[i]? = some ds[i] := List.getElem?_eq_getElem hi
      obtain ⟨g1, g2⟩ := f1 i _ hd
      refine ⟨g1, fun σ3 H3 => ∃ S3 F3 E3, Be K as σ G1 S1 F1 E3 σ3 H3 S3 F3 ∧ forIt st b (ds.drop (i + 1)) E3 = some o, fun σ3 H3 h3 => ?_, fun x H' hy => ?_⟩
      · obtain ⟨S3, F3, E3, b3, h4⟩ := h3
        exact ⟨ds.length - (i + 1), by omega, S3, F3, E3, b3, h4, rfl⟩
      · obtain ⟨S4, nr⟩ := g2 x H' hy
        rw [List.drop_eq_getElem_cons hi] at hf
        exact turn_ok be.sr nr hf (w0.be be) fun σ3 H3 S3 F3 E3 b3 h4 => ⟨S3, F3, E3, be.trans b3, h4⟩
    · left
      rw [List.drop_eq_nil_of_le (by omega)] at hf
      cases hf
      exact ⟨f2 i (by omega), w0 σ2 H S2 F2 be⟩
  · rename_i i0 E1 h1
    split at he
    · cases he
    · rename_i hni
      have hni : i0 ∉ as := fun m => hni (by simpa using m)
      refine ⟨S, F, E, .own i0, E1, sr, h1, fun J G1 S1 F1 ro fe => ?_⟩
      obtain ⟨p, hp, e⟩ := fe
      subst e
      have w0 := w.be (ro.be (as := as))
      refine ⟨fun k m σ2 H => ∃ S2 F2 E2, Be K as σ G1 S1 F1 E2 σ2 H S2 F2 ∧ forOwn i0 st b m k E2 = some o, ⟨N, S1, F1, E1, .refl ro.sr, he⟩, fun k m σ2 H hW => ?_⟩
      obtain ⟨S2, F2, E2, be, hf⟩ := hW
      have hp2 : σ2[i0]? = some (some (.ref p)) := by rw [be.so i0 hni]; exact hp
      cases m with
      | zero => cases hf
      | succ m =>
        -- an item is read, the others stay
        have item : ∀ (c : Bool) (ds : List DE.D), E2[i0]? = some (some (.lst c ds)) → ∃ vs, H p = some (.lst vs) ∧ ds.length = vs.length ∧ ∀ d, ds[k]? = some d → ∃ x S3 F3, vs[k]? = some x ∧ SR K H S3 (E2.set i0 (some (.lst c (frzL ds)))) σ2 F3 ∧ Rp K H S3 (DE.frz d) x [] ∧ Stp H S2 F2 H S3 F3 := fun c ds hE => by
          have hl : look (.slot i0) E2 = some (.lst c (frzL ds), E2.set i0 (some (.lst c (frzL ds)))) := by
            simp only [look, hE, DE.frzK]
          obtain ⟨v0, A, Fr, g1, g2, _⟩ := be.sr.rep.get hE
          rw [hp2] at g1
          cases g1
          obtain ⟨S3, F3, sr3, ⟨T3, r3⟩, q3, s1, s2, f1, _, _⟩ := look_ok (T := []) be.sr (show RpO K σ2 H S2 (.slot i0) (.ref p) [] from ⟨hp2, rfl⟩) be.sr.nd (fun _ m => by cases m) hl
          obtain ⟨p', vs, e, hG, rl, _⟩ := rp_lst r3 q3
          cases e
          refine ⟨vs, hG, by rw [← rl.length, frzL_length], fun d hd => ?_⟩
          have hd' : (frzL ds)[k]? = some (DE.frz d) := by rw [frzL_map, List.getElem?_map, hd]; rfl
          obtain ⟨x, hx, rx⟩ := rl.get hd'
          exact ⟨x, S3, F3, hx, sr3, rx, ⟨fun _ _ e _ => e, fun _ o e => ⟨o, e⟩, fun a ha => .inl (f1 a ha), s1, fun a ha => (s2 a ha).imp id .inl⟩⟩
        have both : ∀ (c : Bool) (ds : List DE.D), E2[i0]? = some (some (.lst c ds)) → (match ds[k]? with
            | some d => turn st b (DE.frz d) (E2.set i0 (some (.lst c (frzL ds)))) (forOwn i0 st b m (k + 1))
            | none => some (.nx E2)) = some o → (Itl K p).stop k H ∧ D.nx σ2 H ∨ (Itl K p).go k H ∧ ∃ N, (∀ σ' H', N σ' H' → ∃ m', m' < m + 1 ∧ ∃ S2 F2 E2, Be K as σ G1 S1 F1 E2 σ' H' S2 F2 ∧ forOwn i0 st b m' (k + 1) E2 = some o) ∧ ∀ x H', (Itl K p).yld k H x H' → gT K as st x σ2 H' fun σ2 H2 => tS K as b { D with nx := N, ct := N, bk := D.nx } σ2 H2 := fun c ds hE hf => by
          obtain ⟨vs, hG, hl, it⟩ := item c ds hE
          split at hf
          · rename_i d hd
            obtain ⟨x, S3, F3, hx, sr3, rx, stp3⟩ := it d hd
            right
            refine ⟨⟨vs, x, SqL.of hG, hx⟩, fun σ3 H3 => ∃ S3 F3 E3, Be K as σ G1 S1 F1 E3 σ3 H3 S3 F3 ∧ forOwn i0 st b m (k + 1) E3 = some o, fun σ3 H3 ⟨S4, F4, E4, b4, h4⟩ => ⟨m, Nat.lt_succ_self m, S4, F4, E4, b4, h4⟩, fun y H' hy => ?_⟩
            obtain ⟨e, hy⟩ := hy
            subst e
            have := hy vs (SqL.of hG)
            rw [hx] at this
            cases this
            have be3 : Be K as σ G1 S1 F1 _ σ2 H' S3 F3 := ⟨be.so, sr3, be.stp.trans stp3⟩
            exact turn_ok sr3 (.old rx) hf (w0.be be3) fun σ4 H4 S4 F4 E4 b4 h4 => ⟨S4, F4, E4, be3.trans b4, h4⟩
          · rename_i hd
            cases hf
            left
            exact ⟨⟨vs, SqL.of hG, by rw [← hl]; exact List.getElem?_eq_none_iff.mp hd⟩, w0 σ2 H S2 F2 be⟩
        unfold forOwn at hf
        split at hf
        · rename_i ds hE
          exact both true ds hE hf
        · rename_i ds hE
          exact both false ds hE hf
        · cases hf
  · cases he
end
end DE
namespace DE
open PySem PySem.Spec L2
section
variable {K : PySem.W.Frag} {σ σ' : St} {G G' G1 G2 H : Hp} {S S' S1 S2 : Addr → Prop} {F F' F1 F2 T T1 : List Addr} {E E' E1 E2 E3 : En} {Q : VK} {os : List Opd} {vs : List V}
def wipeE (E : En) : List Nat → En
  | [] => E
  | v :: vs => (wipeE E vs).set v none
def unwE (E0 : En) : List Nat → En → En
  | [], E => E
  | v :: vs, E => unwE E0 vs (match E0[v]? with
    | some w => E.set v w
    | none => E)
theorem wipe_sr : ∀ (own : List Nat) {E : En} {σ : St} {F : List Addr}, SR K G S E σ F → ∃ F', SR K G S (wipeE E own) (wipe σ own) F' ∧ ∀ a, a ∈ F' → a ∈ F := by
  intro own
  induction own with
  | nil => intro E σ F sr; exact ⟨F, sr, fun _ z => z⟩
  | cons v vs ih =>
    intro E σ F sr
    obtain ⟨F1, sr1, m1⟩ := ih sr
    obtain ⟨F2, h2, sub⟩ := sr1.rep.drop v none
    exact ⟨F2, ⟨h2, sub.nodup sr1.nd, fun a ha => sr1.ns a (sub.subset ha), sr1.sd⟩, fun a ha => m1 a (sub.subset ha)⟩
theorem wipe_at {σ : St} {v : Nat} : ∀ {vs : List Nat}, v ∉ vs → (wipe σ vs)[v]? = σ[v]?
  | [], _ => rfl
  | w :: vs, h => by
    show ((wipe σ vs).set w none)[v]? = σ[v]?
    have hw : w ≠ v := fun e => h (by rw [e]; exact List.mem_cons_self ..)
    rw [List.getElem?_set_ne hw]
    exact wipe_at fun m => h (List.mem_cons_of_mem _ m)
theorem set_at {σ : St} {i : Nat} {w : Option V} (h : σ[i]? = some w) (u : Option V) : (σ.set i u).set i w = σ := by
  rw [List.set_set]
  apply List.ext_getElem?
  intro j
  by_cases e : j = i
  · subst e
    have hl' : j < σ.length := (List.getElem?_eq_some_iff.mp h).1
    rw [List.getElem?_set_self hl', h]
  · rw [List.getElem?_set_ne (Ne.symm e)]
theorem unw_ok {E0 : En} : ∀ {own : List Nat} {E : En} {F : List Addr}, own.Nodup → SR K G S E (wipe σ own) F → (∀ v, v ∈ own → ∀ d, E0[v]? = some (some d) → ∃ x, σ[v]? = some (some x) ∧ Rp K G S d x []) → E0.length = σ.length →
    ∃ F', SR K G S (unwE E0 own E) σ F' ∧ ∀ a, a ∈ F' → a ∈ F := by
  intro own
  induction own with
  | nil => intro E F nd sr _ _; exact ⟨F, sr, fun _ z => z⟩
  | cons v vs ih =>
    intro E F nd sr hv hl
    obtain ⟨n1, n2⟩ := List.nodup_cons.mp nd
    have rest : ∀ w, w ∈ vs → ∀ d, E0[w]? = some (some d) → ∃ x, σ[w]? = some (some x) ∧ Rp K G S d x [] := fun w m => hv w (List.mem_cons_of_mem _ m)
    have lw : (wipe σ vs).length = σ.length := wipe_length σ vs
    have sr : SR K G S E ((wipe σ vs).set v none) F := sr
    have lE : E.length = σ.length := by rw [sr.rep.len, List.length_set, lw]
    unfold unwE
    cases h0 : E0[v]? with
    | none =>
      have hge : σ.length ≤ v := by rw [← hl]; exact List.getElem?_eq_none_iff.mp h0
      have e1 : (wipe σ vs).set v none = wipe σ vs := List.set_eq_of_length_le (by rw [lw]; exact hge)
      rw [e1] at sr
      exact ih n2 sr rest hl
    | some w =>
      have hlt : v < σ.length := by rw [← hl]; exact (List.getElem?_eq_some_iff.mp h0).1
      cases w with
      | none =>
        have hx : (wipe σ vs)[v]? = some ((wipe σ vs)[v]'(by rw [lw]; exact hlt)) := List.getElem?_eq_getElem _
        obtain ⟨F2, h2, sub⟩ := sr.rep.drop v ((wipe σ vs)[v]'(by rw [lw]; exact hlt))
        rw [set_at hx] at h2
        obtain ⟨F3, sr3, m3⟩ := ih n2 ⟨h2, sub.nodup sr.nd, fun a ha => sr.ns a (sub.subset ha), sr.sd⟩ rest hl
        exact ⟨F3, sr3, fun a ha => sub.subset (m3 a ha)⟩
      | some d =>
        obtain ⟨x, hx, rx⟩ := hv v (List.mem_cons_self ..) d h0
        have hx' : (wipe σ vs)[v]? = some (some x) := by rw [wipe_at n1]; exact hx
        obtain ⟨F2, sr2, m2⟩ := sr_set (i := v) sr rx sr.nd (fun _ m => by cases m) (by rw [lE]; exact hlt)
        rw [set_at hx'] at sr2
        obtain ⟨F3, sr3, m3⟩ := ih n2 sr2 rest hl
        exact ⟨F3, sr3, fun a ha => m2 a (m3 a ha)⟩
theorem wipe_get {own : List Nat} {k : Nat} (h : k ∈ own) (hk : k < σ.length) : (wipe σ own)[k]? = some none := by
  induction own with
  | nil => cases h
  | cons v vs ih =>
    show ((wipe σ vs).set v none)[k]? = some none
    by_cases e : v = k
    · subst e
      rw [List.getElem?_set_self (by rw [wipe_length]; exact hk)]
    · rw [List.getElem?_set_ne e]
      rcases List.mem_cons.mp h with m | m
      · exact absurd m.symm e
      · exact ih m
theorem wipe_so {own : List Nat} (so : SO own (wipe σ own) σ') (hl : σ'.length = (wipe σ own).length) : wipe σ' own = wipe σ own := by
  rw [wipe_length] at hl
  apply List.ext_getElem?
  intro k
  by_cases hk : k < σ.length
  · by_cases m : k ∈ own
    · rw [wipe_get m hk, wipe_get m (by rw [hl]; exact hk)]
    · rw [wipe_at m, so k m]
  · rw [List.getElem?_eq_none_iff.mpr (by rw [wipe_length]; omega), List.getElem?_eq_none_iff.mpr (by rw [wipe_length]; omega)]
abbrev KLc := List D → En → Option (List D × En)
def lcTurn (own : List Nat) (st : St1) (ifs : EvT) (elt : EvO) (d : D) (acc : List D) (E : En) (k : KLc) : Option (List D × En) := match st d E with
  | some E1 => match ifs E1 with
    | some (true, E2) => match elt E2 with
      | some (o, E3) => match tks [.temp (.lst true acc), o] E3 with
        | some ([_, z], E4) => if acc.length < lim then k (acc ++ [z]) (wipeE E4 own) else none
        | _ => none
      | none => none
    | some (false, E2) => k acc (wipeE E2 own)
    | none => none
  | none => none
def lcIt (own : List Nat) (st : St1) (ifs : EvT) (elt : EvO) : List D → KLc
  | [] => fun acc E => some (acc, E)
  | d :: ds => fun acc E => lcTurn own st ifs elt d acc E (lcIt own st ifs elt ds)
def lcOwn (i : Nat) (own : List Nat) (st : St1) (ifs : EvT) (elt : EvO) : Nat → Nat → KLc
  | 0, _ => fun _ _ => none
  | n + 1, k => fun acc E => match E[i]? with
    | some (some (.lst true ds)) => match ds[k]? with
      | some d => lcTurn own st ifs elt (frz d) acc (E.set i (some (.lst true (frzL ds)))) (lcOwn i own st ifs elt n (k + 1))
      | none => some (acc, E)
    | some (some (.lst false ds)) => match ds[k]? with
      | some d => lcTurn own st ifs elt (frz d) acc (E.set i (some (.lst false (frzL ds)))) (lcOwn i own st ifs elt n (k + 1))
      | none => some (acc, E)
    | _ => none
def ownB : Option (Option D) → Bool
  | some (some d) => isF d
  | _ => true
def ownOk (E : En) (own : List Nat) : Bool := own.all fun v => ownB E[v]?
def evLc (N : Nat) (own : List Nat) (src : EvI) (st : St1) (ifs : EvT) (elt : EvO) : EvO := fun E => match src E with
  | some (.it ds, E1) => if ownOk E1 own = true then match lcIt own st ifs elt ds [] (wipeE E1 own) with
    | some (acc, E2) => some (.temp (.lst true acc), unwE E1 own E2)
    | none => none else none
  | some (.own i, E1) => if ownOk E1 own = true ∧ own.contains i = false then match lcOwn i own st ifs elt N 0 [] (wipeE E1 own) with
    | some (acc, E2) => some (.temp (.lst true acc), unwE E1 own E2)
    | none => none else none
  | none => none
theorem RO.step {as : List Nat} {L : D} {v : V} {σ2 : St} (ro : RO K σ G S F E [.temp L] [v] G1 S1 T F1) (b : Be K as σ G1 S1 F1 E' σ2 G2 S2 F2) : RO K σ2 G S F E' [.temp L] [v] G2 S2 T F2 := by
  obtain ⟨n1, n2, n3⟩ := nd_app.mp ro.nd
  have r : Rp K G1 S1 L v T := ro.ro.one
  have r' : Rp K G2 S2 L v T := b.stp.rp ro.sr.ns r fun a ha hb => n3 a ha hb
  have ap : ∀ a, a ∈ T → a ∉ F2 := fun a ha hb => by
    rcases b.stp.fs a hb with m | m
    · exact n3 a ha m
    · obtain ⟨o, e⟩ := r.dom a ha
      rw [e] at m; cases m
  refine ⟨b.sr, .of r', nd_app.mpr ⟨n1, b.sr.nd, ap⟩, fun a ha hs => ?_, ro.stp.trans b.stp.frame⟩
  rcases b.stp.sn a hs with m | m | m
  · exact ro.ns a ha m
  · exact n3 a ha m
  · obtain ⟨o, e⟩ := r.dom a ha
    rw [e] at m; cases m
theorem lcTurn_ok {own : List Nat} {st : St1} {ifs : EvT} {elt : EvO} {d : D} {acc : List D} {k : KLc} {x : V} {p : Addr} {res : List D × En} {Nx : Hp → Prop} {S3 : Addr → Prop} {H' : Hp}
    (ro : RO K (wipe σ own) G S F E [.temp (.lst true acc)] [.ref p] H S2 T F2) (nr : NewR K H S2 d x H' S3 []) (h : lcTurn own st ifs elt d acc E k = some res)
    (hk : ∀ H4 S4 F4 E4 acc' T4, RO K (wipe σ own) G S F E4 [.temp (.lst true acc')] [.ref p] H4 S4 T4 F4 → k acc' E4 = some res → Nx H4) :
    gT K own st x (wipe σ own) H' fun σ2 H2 => wipe σ2 own = wipe σ own ∧ tT K ifs σ2 H2 fun b H3 =>
      if b = true then tO K elt σ2 H3 fun y H4 => ∃ acc, H4 p = some (.lst acc) ∧ acc.length < sizeLine ∧ Nx (upd H4 p (.lst (acc ++ [y]))) else Nx H3 := by
  unfold lcTurn at h
  split at h
  · rename_i E1 h1
    have sr' : SR K H' S3 E (wipe σ own) F2 := ⟨ro.sr.rep.mono (fun p o _ e => nr.keep p o e) (fun p hp => by
      obtain ⟨o, e⟩ := ro.sr.rep.dom p hp
      rw [e, nr.keep p o e]) nr.ss, ro.sr.nd, (fun a ha hs => by
        rcases nr.sn a hs with m | ⟨m, _⟩
        · exact ro.sr.ns a ha m
        · obtain ⟨o, e⟩ := ro.sr.rep.dom a ha
          rw [e] at m; cases m), fun a ha => by
        rcases nr.sn a ha with m | ⟨_, m⟩
        · obtain ⟨o, e⟩ := ro.sr.sd a m
          exact ⟨o, nr.keep a o e⟩
        · exact m⟩
    have stp0 : Stp H S2 F2 H' S3 F2 := ⟨fun a o e _ => nr.keep a o e, fun a o e => ⟨o, nr.keep a o e⟩, fun a ha => .inl ha, nr.ss, fun a ha => (nr.sn a ha).imp id fun z => .inr z.1⟩
    have ro1 := ro.step (as := own) ⟨.refl, sr', stp0⟩
    refine ⟨S3, F2, E, d, [], E1, sr', nr.rp, sr'.nd, (fun _ m => by cases m), h1, fun σ2 G2 S4 F4 g => ⟨wipe_so g.be.so g.len, ?_⟩⟩
    have ws := wipe_so g.be.so g.len
    have ro2 := ro1.step g.be
    split at h
    · rename_i E2 h2
      split at h
      · rename_i o E3 h3
        split at h
        · rename_i L z E4 h4
          split at h
          · rename_i hl
            refine ⟨S4, F4, E1, true, E2, ro2.sr, h2, fun G5 S5 F5 ro5 => iteT ⟨S5, F5, E2, o, E3, ro5.sr, h3, fun y G6 S6 T6 F6 ro6 => ?_⟩⟩
            have all := (ro2.app ro5).app ro6
            obtain ⟨S7, F7, T7, sr7, rp7, nd7, ns7, stp7⟩ := RO.taken (os := [.temp (.lst true acc), o]) (vs := [.ref p, y]) all h4
            obtain ⟨v1, vs1, A, B, e1, z1, r1, r2⟩ := rp7
            subst z1
            cases e1
            have r2 : RpL K G6 S7 [z] [y] B := r2
            have eL : L = .lst true acc := by
              simp only [tks, tk] at h4
              split at h4
              · rename_i ds2 E5 h5
                cases h4
                rfl
              · cases h4
            subst eL
            obtain ⟨p', ws', Fk, e3, z3, hp, rk⟩ := r1
            cases e3
            subst z3
            refine ⟨ws', hp, by rw [← rk.length]; exact Nat.lt_of_lt_of_le hl (by decide), ?_⟩
            obtain ⟨F8, sr8, m8⟩ := wipe_sr own sr7
            rw [ws] at sr8
            obtain ⟨q1, q2, q3⟩ := nd_app.mp nd7
            have q1' : (p :: (Fk ++ B)).Nodup := q1
            obtain ⟨u1, u2⟩ := List.nodup_cons.mp q1'
            have pF8 : p ∉ F8 := fun m => q3 p (List.mem_append_left _ (List.mem_cons_self ..)) (m8 p m)
            have pS : ¬ S7 p := ns7 p (List.mem_append_left _ (List.mem_cons_self ..))
            have kp : ∀ a o, a ≠ p → G6 a = some o → upd G6 p (.lst (ws' ++ [y])) a = some o := fun a o n e => by rw [upd_ne n]; exact e
            refine hk _ S7 F8 _ _ (p :: (Fk ++ B)) ⟨⟨sr8.rep.mono (fun a o hs e => kp a o (fun z => pS (z ▸ hs)) e) (fun a ha => upd_ne fun z => pF8 (z ▸ ha)) fun _ z => z, sr8.nd, sr8.ns, fun a ha => ?_⟩, .of ⟨p, ws' ++ [y], Fk ++ B, rfl, rfl, upd_same, ?_⟩, nd_app.mpr ⟨q1', sr8.nd, fun a ha hb => q3 a ha (m8 a hb)⟩, ns7, ?_⟩ h
            · obtain ⟨o, e⟩ := sr8.sd a ha
              exact ⟨o, kp a o (fun z => pS (z ▸ ha)) e⟩
            · exact (rk.append r2).mono (fun a o hs e => kp a o (fun z => pS (z ▸ hs)) e) (fun a ha => upd_ne fun z => u1 (z ▸ ha)) fun _ z => z
            · refine ⟨fun a o e n => kp a o (fun z => ?_) (stp7.keep a o e n), fun a o e => ?_, fun a ha => stp7.fs a ?_, stp7.ss, stp7.sn⟩
              · subst z
                rcases stp7.fs a (List.mem_append_left _ (List.mem_append_left _ (List.mem_cons_self ..))) with m | m
                · exact n m
                · rw [e] at m; cases m
              · by_cases z : a = p
                · subst z
                  exact ⟨_, upd_same⟩
                · obtain ⟨o', e'⟩ := stp7.live a o e
                  exact ⟨o', kp a o' z e'⟩
              · rcases List.mem_append.mp ha with m | m
                · exact List.mem_append_left _ m
                · exact List.mem_append_right _ (m8 a m)
          · cases h
        · cases h
      · cases h
    · rename_i E2 h2
      refine ⟨S4, F4, E1, false, E2, ro2.sr, h2, fun G5 S5 F5 ro5 => iteF ?_⟩
      have all := ro2.app ro5
      obtain ⟨F8, sr8, m8⟩ := wipe_sr own all.sr
      rw [ws] at sr8
      obtain ⟨q1, q2, q3⟩ := nd_app.mp all.nd
      refine hk G5 S5 F8 _ acc _ ⟨sr8, ?_, nd_app.mpr ⟨q1, sr8.nd, fun a ha hb => q3 a ha (m8 a hb)⟩, all.ns, all.stp.less fun a ha => ?_⟩ h
      · exact all.ro
      · rcases List.mem_append.mp ha with m | m
        · exact List.mem_append_left _ m
        · exact List.mem_append_right _ (m8 a m)
    · cases h
  · cases h
theorem t_lc {N : Nat} {own : List Nat} {src : EvI} {st : St1} {ifs : EvT} {elt : EvO} (hn : own.Nodup) (h : tO K (evLc N own src st ifs elt) σ G Q) : tLc (tI K src) (gT K own st) (tT K ifs) (tO K elt) own σ G Q := by
  obtain ⟨S, F, E, o, E', sr, he, q⟩ := h
  have begin_ : ∀ {E1 : En} {G1 : Hp} {S1 : Addr → Prop} {F1 : List Addr} {p : Addr}, RO K σ G S F E1 [] [] G1 S1 [] F1 → G1 p = none → ∃ Fw, RO K (wipe σ own) G1 S1 F1 (wipeE E1 own) [.temp (.lst true [])] [.ref p] (upd G1 p (.lst [])) S1 [p] Fw := fun {E1 G1 S1 F1 p} ro hp => by
    obtain ⟨Fw, srw, mw⟩ := wipe_sr own ro.sr
    have kp := up_keep (u := .lst []) hp
    have pF : p ∉ Fw := fun m => by
      obtain ⟨o, e⟩ := srw.rep.dom p m
      rw [hp] at e; cases e
    refine ⟨Fw, ⟨srw.rep.mono (fun a o _ e => kp a o e) (fun a ha => upd_ne fun z => pF (z ▸ ha)) fun _ z => z, srw.nd, srw.ns, fun a ha => ?_⟩, .of ⟨p, [], [], rfl, rfl, upd_same, rfl, rfl⟩, List.nodup_cons.mpr ⟨pF, srw.nd⟩, fun a ha hs => ?_, ?_⟩
    · obtain ⟨o, e⟩ := srw.sd a ha
      exact ⟨o, kp a o e⟩
    · rw [List.mem_singleton.mp ha] at hs
      obtain ⟨o, e⟩ := srw.sd p hs
      rw [hp] at e; cases e
    · refine (Stp.refl.less mw).new hp (fun _ z => z) (fun _ z => .inl z) fun a ha => ?_
      rcases List.mem_cons.mp ha with m | m
      · exact .inr m
      · exact .inl m
  have end_ : ∀ {E1 E2 : En} {G1 H : Hp} {S1 S2 : Addr → Prop} {F1 T F2 : List Addr} {p : Addr} {acc : List D}, RO K σ G S F E1 [] [] G1 S1 [] F1 → ownOk E1 own = true → RO K (wipe σ own) G1 S1 F1 E2 [.temp (.lst true acc)] [.ref p] H S2 T F2 →
      (∀ v G' S' T F', RO K σ G S F (unwE E1 own E2) [.temp (.lst true acc)] [v] G' S' T F' → Q v G') → Q (.ref p) H := fun {E1 E2 G1 H S1 S2 F1 T F2 p acc} ro hok rl q => by
    have hb : ∀ v, v ∈ own → ∀ d, E1[v]? = some (some d) → ∃ x, σ[v]? = some (some x) ∧ Rp K H S2 d x [] := fun v hv d hd => by
      obtain ⟨x, A, Fr, g1, g2, _⟩ := ro.sr.rep.get hd
      have hf : isF d = true := by
        have := List.all_eq_true.mp hok v hv
        rw [hd] at this
        exact this
      rw [g2.nil (isF_frz d hf)] at g2
      exact ⟨x, g1, g2.mono (fun a o hs e => rl.stp.keep a o e fun m => ro.sr.ns a m hs) (fun _ m => by cases m) rl.stp.ss⟩
    obtain ⟨F3, sr3, m3⟩ := unw_ok hn rl.sr hb ro.sr.rep.len
    obtain ⟨q1, q2, q3⟩ := nd_app.mp rl.nd
    refine q (.ref p) H S2 T F3 ⟨sr3, .of rl.ro.one, nd_app.mpr ⟨q1, sr3.nd, fun a ha hb => q3 a ha (m3 a hb)⟩, rl.ns, (ro.stp.trans rl.stp).less fun a ha => ?_⟩
    rcases List.mem_append.mp ha with m | m
    · exact List.mem_append_left _ m
    · exact List.mem_append_right _ (m3 a m)
  unfold evLc at he
  split at he
  · rename_i ds E1 h1
    split at he
    · rename_i hok
      split at he
      · rename_i acc E2 h2
        cases he
        refine ⟨S, F, E, .it ds, E1, sr, h1, fun J G1 S1 F1 ro fe p hp => ?_⟩
        have fe : FeedsI K G1 S1 ds J := fe
        obtain ⟨Fw, ro0⟩ := begin_ ro hp
        refine ⟨fun i m H => ∃ S2 F2 E3 acc3 T3, RO K (wipe σ own) G1 S1 F1 E3 [.temp (.lst true acc3)] [.ref p] H S2 T3 F2 ∧ lcIt own st ifs elt (ds.drop i) acc3 E3 = some (acc, E2) ∧ m = ds.length - i, ⟨_, S1, Fw, _, [], [p], ro0, h2, rfl⟩, fun i m H hW => ?_⟩
        obtain ⟨S2, F2, E3, acc3, T3, rl, hf, em⟩ := hW
        have keepS : ∀ a o, S1 a → G1 a = some o → H a = some o := fun a o hs e => rl.stp.keep a o e fun m => ro.sr.ns a m hs
        obtain ⟨f1, f2⟩ := fe H S2 keepS rl.stp.ss rl.sr.sd
        by_cases hi : i < ds.length
        · right
          have hd : ds[i]? = some ds[i] := List.getElem?_eq_getElem hi
          obtain ⟨g1, g2⟩ := f1 i _ hd
          refine ⟨g1, fun H3 => ∃ S3 F3 E4 acc4 T4, RO K (wipe σ own) G1 S1 F1 E4 [.temp (.lst true acc4)] [.ref p] H3 S3 T4 F3 ∧ lcIt own st ifs elt (ds.drop (i + 1)) acc4 E4 = some (acc, E2), fun H3 h3 => ?_, fun x H' hy => ?_⟩
          · obtain ⟨S3, F3, E4, acc4, T4, r4, h4⟩ := h3
            exact ⟨ds.length - (i + 1), by omega, S3, F3, E4, acc4, T4, r4, h4, rfl⟩
          · obtain ⟨S4, nr⟩ := g2 x H' hy
            rw [List.drop_eq_getElem_cons hi] at hf
            exact lcTurn_ok rl nr hf fun H4 S4 F4 E4 acc4 T4 r4 h4 => ⟨S4, F4, E4, acc4, T4, r4, h4⟩
        · left
          rw [List.drop_eq_nil_of_le (by omega)] at hf
          cases hf
          exact ⟨f2 i (by omega), end_ ro hok rl q⟩
      · cases he
    · cases he
  · rename_i i0 E1 h1
    split at he
    · rename_i hok
      obtain ⟨hok, hni⟩ := hok
      have hni : i0 ∉ own := fun m => by
        have : own.contains i0 = true := by simpa using m
        rw [hni] at this; cases this
      split at he
      · rename_i acc E2 h2
        cases he
        refine ⟨S, F, E, .own i0, E1, sr, h1, fun J G1 S1 F1 ro fe p hp => ?_⟩
        obtain ⟨pa, hpa, e⟩ := fe
        subst e
        obtain ⟨Fw, ro0⟩ := begin_ ro hp
        refine ⟨fun k m H => ∃ S2 F2 E3 acc3 T3, RO K (wipe σ own) G1 S1 F1 E3 [.temp (.lst true acc3)] [.ref p] H S2 T3 F2 ∧ lcOwn i0 own st ifs elt m k acc3 E3 = some (acc, E2), ⟨N, S1, Fw, _, [], [p], ro0, h2⟩, fun k m H hW => ?_⟩
        obtain ⟨S2, F2, E3, acc3, T3, rl, hf⟩ := hW
        have hp2 : (wipe σ own)[i0]? = some (some (.ref pa)) := by rw [wipe_at hni]; exact hpa
        cases m with
        | zero => cases hf
        | succ m =>
          have both : ∀ (c : Bool) (ds : List DE.D), E3[i0]? = some (some (.lst c ds)) → (match ds[k]? with
              | some d => lcTurn own st ifs elt (DE.frz d) acc3 (E3.set i0 (some (.lst c (frzL ds)))) (lcOwn i0 own st ifs elt m (k + 1))
              | none => some (acc3, E3)) = some (acc, E2) → (Itl K pa).stop k H ∧ Q (.ref p) H ∨ (Itl K pa).go k H ∧ ∃ Nx : Hp → Prop, (∀ H', Nx H' → ∃ m', m' < m + 1 ∧ ∃ S2 F2 E3 acc3 T3, RO K (wipe σ own) G1 S1 F1 E3 [.temp (.lst true acc3)] [.ref p] H' S2 T3 F2 ∧ lcOwn i0 own st ifs elt m' (k + 1) acc3 E3 = some (acc, E2)) ∧
              ∀ x H', (Itl K pa).yld k H x H' → gT K own st x (wipe σ own) H' fun σ2 H2 => wipe σ2 own = wipe σ own ∧ tT K ifs σ2 H2 fun b H3 => if b = true then tO K elt σ2 H3 fun y H4 => ∃ acc, H4 p = some (.lst acc) ∧ acc.length < sizeLine ∧ Nx (upd H4 p (.lst (acc ++ [y]))) else Nx H3 := fun c ds hE hf => by
            have hl : look (.slot i0) E3 = some (.lst c (frzL ds), E3.set i0 (some (.lst c (frzL ds)))) := by
              simp only [look, hE, DE.frzK]
            obtain ⟨v0, A, Fr, g1, g2, _⟩ := rl.sr.rep.get hE
            rw [hp2] at g1
            cases g1
            obtain ⟨S3, F3, sr3, ⟨T3', r3⟩, q3, s1, s2, f1, _, _⟩ := look_ok (T := []) rl.sr (show RpO K (wipe σ own) H S2 (.slot i0) (.ref pa) [] from ⟨hp2, rfl⟩) rl.sr.nd (fun _ m => by cases m) hl
            obtain ⟨p', vs, e, hG, rk, _⟩ := rp_lst r3 q3
            cases e
            have hlen : ds.length = vs.length := by rw [← rk.length, frzL_length]
            have stp3 : Stp H S2 F2 H S3 F3 := ⟨fun _ _ e _ => e, fun _ o e => ⟨o, e⟩, fun a ha => .inl (f1 a ha), s1, fun a ha => (s2 a ha).imp id .inl⟩
            have rl3 := rl.step (as := []) ⟨.refl, sr3, stp3⟩
            split at hf
            · rename_i d hd
              have hd' : (frzL ds)[k]? = some (DE.frz d) := by rw [frzL_map, List.getElem?_map, hd]; rfl
              obtain ⟨x, hx, rx⟩ := rk.get hd'
              right
              refine ⟨⟨vs, x, SqL.of hG, hx⟩, fun H3 => ∃ S3 F3 E4 acc4 T4, RO K (wipe σ own) G1 S1 F1 E4 [.temp (.lst true acc4)] [.ref p] H3 S3 T4 F3 ∧ lcOwn i0 own st ifs elt m (k + 1) acc4 E4 = some (acc, E2), fun H3 ⟨S4, F4, E4, acc4, T4, r4, h4⟩ => ⟨m, Nat.lt_succ_self m, S4, F4, E4, acc4, T4, r4, h4⟩, fun y H' hy => ?_⟩
              obtain ⟨e, hy⟩ := hy
              subst e
              have := hy vs (SqL.of hG)
              rw [hx] at this
              cases this
              exact lcTurn_ok rl3 (.old rx) hf fun H4 S4 F4 E4 acc4 T4 r4 h4 => ⟨S4, F4, E4, acc4, T4, r4, h4⟩
            · rename_i hd
              cases hf
              left
              exact ⟨⟨vs, SqL.of hG, by rw [← hlen]; exact List.getElem?_eq_none_iff.mp hd⟩, end_ ro hok rl q⟩
          unfold lcOwn at hf
          split at hf
          · rename_i ds hE
            exact both true ds hE hf
          · rename_i ds hE
            exact both false ds hE hf
          · cases hf
      · cases he
    · cases he
  · cases he
def frzAt (as : List Nat) : Nat → List D → List D
  | _, [] => []
  | k, d :: ds => (if as.contains k = true then frz d else d) :: frzAt as (k + 1) ds
def argsOf : List D → En → Option (List D)
  | [], _ => some []
  | d :: ds, e :: E => if isF d = true then (argsOf ds E).map (d :: ·) else match e with
    | some d' => (argsOf ds E).map (d' :: ·)
    | none => none
  | _ :: _, [] => none
def fnD (n m : Nat) (as : List Nat) (body : EvS) : Fd := fun ds => if ds.length = n then
  match body ((frzAt as 0 ds).map some ++ List.replicate (m - n) none) with
  | some (.rt r E) => (argsOf (frzAt as 0 ds) E).map fun ds' => (r, ds')
  | some (.nx E) => (argsOf (frzAt as 0 ds) E).map fun ds' => (.non, ds')
  | _ => none
  else none
mutual
theorem isF_of_frz : ∀ d : D, isF (frz d) = true
  | .non => rfl
  | .bl _ => rfl
  | .int _ => rfl
  | .str _ => rfl
  | .tup ds => isFL_of_frz ds
  | .lst _ ds => isFL_of_frz ds
  | .dK _ _ vs => isFL_of_frz vs
  | .scr ds => isFL_of_frz ds
theorem isFL_of_frz : ∀ ds : List D, isFL (frzL ds) = true
  | [] => rfl
  | d :: ds => by
    show (isF (frz d) && isFL (frzL ds)) = true
    rw [isF_of_frz d, isFL_of_frz ds]; rfl
end
theorem RpL.pick : ∀ {ds : List D} {vs : List V} {F : List Addr} {i : Nat} {d : D} {v : V}, RpL K G S ds vs F → ds[i]? = some d → vs[i]? = some v → ∃ A, Rp K G S d v A := by
  intro ds
  induction ds with
  | nil => intro vs F i d v r h; simp at h
  | cons d0 ds ih =>
    intro vs F i d v r h h2
    obtain ⟨v0, vs', A, B, e, z, r1, r2⟩ := r
    subst e
    cases i with
    | zero =>
      simp at h h2
      subst h h2
      exact ⟨A, r1⟩
    | succ i => exact ih (i := i) r2 (by simpa using h) (by simpa using h2)
theorem frzAt_rp {as : List Nat} : ∀ {ds : List D} {k : Nat} {vs : List V} {F : List Addr} {S : Addr → Prop}, RpL K G S ds vs F → F.Nodup → (∀ a, a ∈ F → ¬ S a) → ∃ S' F', RpL K G S' (frzAt as k ds) vs F' ∧ F'.Nodup ∧ (∀ a, a ∈ F' → a ∈ F) ∧ (∀ a, a ∈ F' → ¬ S' a) ∧ (∀ a, S a → S' a) ∧ ∀ a, S' a → S a ∨ a ∈ F := by
  intro ds
  induction ds with
  | nil => intro k vs F S r nd ns; exact ⟨S, F, r, nd, fun _ z => z, ns, fun _ z => z, fun _ z => .inl z⟩
  | cons d ds ih =>
    intro k vs F S r nd ns
    obtain ⟨v, vs', A, B, e, z, r1, r2⟩ := r
    subst e z
    obtain ⟨n1, n2, n3⟩ := nd_app.mp nd
    obtain ⟨S', F', r', nd', m', ns', s1, s2⟩ := ih (k := k + 1) r2 n2 fun a ha => ns a (List.mem_append_right _ ha)
    have hA : ∀ a, a ∈ A → ¬ S' a := fun a ha hs => by
      rcases s2 a hs with m | m
      · exact ns a (List.mem_append_left _ ha) m
      · exact n3 a ha m
    unfold frzAt
    split
    · refine ⟨fun a => S' a ∨ a ∈ A, F', ⟨v, vs', [], F', rfl, rfl, r1.frz (fun a h => .inl (s1 a h)) fun _ h => .inr h, r'.mono (fun _ _ _ z => z) (fun _ _ => rfl) fun _ z => .inl z⟩, nd', fun a ha => List.mem_append_right _ (m' a ha), fun a ha hs => ?_, fun a h => .inl (s1 a h), fun a hs => ?_⟩
      · rcases hs with hs | hs
        · exact ns' a ha hs
        · exact n3 a hs (m' a ha)
      · rcases hs with hs | hs
        · exact (s2 a hs).imp id (List.mem_append_right _)
        · exact .inr (List.mem_append_left _ hs)
    · refine ⟨S', A ++ F', ⟨v, vs', A, F', rfl, rfl, r1.mono (fun _ _ _ z => z) (fun _ _ => rfl) s1, r'⟩, nd_app.mpr ⟨n1, nd', fun a ha hb => n3 a ha (m' a hb)⟩, fun a ha => ?_, fun a ha => ?_, s1, fun a hs => (s2 a hs).imp id (List.mem_append_right _)⟩
      · rcases List.mem_append.mp ha with m | m
        · exact List.mem_append_left _ m
        · exact List.mem_append_right _ (m' a m)
      · rcases List.mem_append.mp ha with m | m
        · exact hA a m
        · exact ns' a m
theorem frzAt_len {as : List Nat} : ∀ {ds : List D} {k : Nat}, (frzAt as k ds).length = ds.length
  | [], _ => rfl
  | d :: ds, k => by
    show (frzAt as (k + 1) ds).length + 1 = ds.length + 1
    rw [frzAt_len]
theorem en_start : ∀ {ds : List D} {vs : List V} {F : List Addr} (n : Nat), RpL K G S ds vs F → REnv K G S (ds.map some ++ List.replicate n none) (vs.map some ++ List.replicate n none) F := by
  intro ds
  induction ds with
  | nil =>
    intro vs F n r
    obtain ⟨e, z⟩ := r
    subst e z
    induction n with
    | zero => exact ⟨rfl, rfl⟩
    | succ n ih => exact ⟨none, _, rfl, ih⟩
  | cons d ds ih =>
    intro vs F n r
    obtain ⟨v, vs', A, B, e, z, r1, r2⟩ := r
    subst e z
    exact ⟨v, _, A, B, rfl, rfl, r1, ih n r2⟩
theorem args_ok {as : List Nat} : ∀ {ds : List D} {k : Nat} {vs : List V} {E : En} {σ : St} {F : List Addr} {ds' : List D}, REnv K G S E σ F → F.Nodup → argsOf (frzAt as k ds) E = some ds' →
    (∀ i, i < ds.length → isF ((frzAt as k ds).getD i .non) = false → σ[i]? = some (vs[i]?)) → (∀ (i : Nat) (d : D) (v : V), (frzAt as k ds)[i]? = some d → isF d = true → vs[i]? = some v → Rp K G S d v []) → vs.length = ds.length →
    ∃ F', RpL K G S ds' vs F' ∧ F'.Nodup ∧ ∀ a, a ∈ F' → a ∈ F := by
  intro ds
  induction ds with
  | nil =>
    intro k vs E σ F ds' r nd h hσ hf hl
    have : vs = [] := List.eq_nil_of_length_eq_zero hl
    subst this
    unfold frzAt argsOf at h
    cases h
    exact ⟨[], ⟨rfl, rfl⟩, .nil, (fun _ m => by cases m)⟩
  | cons d ds ih =>
    intro k vs E σ F ds' r nd h hσ hf hl
    cases vs with
    | nil => cases hl
    | cons v vs =>
      have hl' : vs.length = ds.length := by simpa using hl
      cases E with
      | nil => simp only [frzAt, argsOf, reduceCtorEq] at h
      | cons e E =>
        have rest : ∃ σ' B, REnv K G S E σ' B ∧ (∀ a, a ∈ B → a ∈ F) ∧ B.Nodup ∧ (∃ w, σ = w :: σ') ∧ (∀ d', e = some d' → ∃ x A, σ[0]? = some (some x) ∧ Rp K G S d' x A ∧ F = A ++ B) := by
          cases e with
          | none =>
            obtain ⟨w, σ', e, h⟩ := r
            exact ⟨σ', F, h, fun _ z => z, nd, ⟨w, e⟩, (fun _ z => by cases z)⟩
          | some d' =>
            obtain ⟨x, σ', A, B, e, z, r1, h⟩ := r
            subst z
            exact ⟨σ', B, h, fun a ha => List.mem_append_right _ ha, (nd_app.mp nd).2.1, ⟨_, e⟩, fun d2 e2 => by
              cases e2
              exact ⟨x, A, by rw [e]; rfl, r1, rfl⟩⟩
        obtain ⟨σ', B, rB, subB, ndB, ⟨w, eσ⟩, hd⟩ := rest
        have hσ' : ∀ i, i < ds.length → isF ((frzAt as (k + 1) ds).getD i .non) = false → σ'[i]? = some (vs[i]?) := fun i hi hq => by
          have := hσ (i + 1) (by simpa using hi) (by simpa [frzAt] using hq)
          rw [eσ] at this
          simpa using this
        have hf' : ∀ (i : Nat) (d : D) (v : V), (frzAt as (k + 1) ds)[i]? = some d → isF d = true → vs[i]? = some v → Rp K G S d v [] := fun i d0 v0 h1 h2 h3 => hf (i + 1) d0 v0 (by simpa [frzAt] using h1) h2 (by simpa using h3)
        have e1 : frzAt as k (d :: ds) = (if as.contains k = true then DE.frz d else d) :: frzAt as (k + 1) ds := rfl
        have hf0 := hf 0
        have hσ0 := hσ 0 (by simp)
        rw [e1] at h hf0 hσ0
        generalize (if as.contains k = true then DE.frz d else d) = d1 at h hf0 hσ0
        simp only [argsOf] at h
        split at h
        · rename_i hq
          obtain ⟨ds2, h2, e2⟩ := Option.map_eq_some_iff.mp h
          subst e2
          obtain ⟨F', r', nd', sub'⟩ := ih rB ndB h2 hσ' hf' hl'
          exact ⟨F', ⟨v, vs, [], F', rfl, rfl, hf0 _ v rfl hq rfl, r'⟩, nd', fun a ha => subB a (sub' a ha)⟩
        · rename_i hq
          split at h
          · rename_i d'
            obtain ⟨ds2, h2, e2⟩ := Option.map_eq_some_iff.mp h
            subst e2
            obtain ⟨F', r', nd', sub'⟩ := ih rB ndB h2 hσ' hf' hl'
            obtain ⟨x, A, hx, rA, eF⟩ := hd d' rfl
            have := hσ0 (by simpa using hq)
            rw [hx] at this
            have ev : x = v := by simpa using this
            subst ev
            subst eF
            obtain ⟨n1, n2, n3⟩ := nd_app.mp nd
            refine ⟨A ++ F', ⟨x, vs, A, F', rfl, rfl, rA, r'⟩, nd_app.mpr ⟨n1, nd', fun a ha hb => n3 a ha (sub' a hb)⟩, fun a ha => ?_⟩
            rcases List.mem_append.mp ha with m | m
            · exact List.mem_append_left _ m
            · exact List.mem_append_right _ (sub' a m)
          · cases h
theorem fn_ok {P : Program} {w : World} {K : PySem.W.Frag} {mg : Str → Option Value} {base : Heap} {x qual : Str} {st : Stmt} {f : Addr} {fd : FuncData} {N ps : List Str} {k : Nat} {as : List Nat} {body : EvS} (Fu : Fun K x qual st f fd) (S : FnScope N ps (defScope st)) (hps : ps.length ≤ N.length)
    (hbody : ∀ (X : Cx), X.prog = P → X.w = w → X.K = K → X.mg = mg → X.base = base → X.N = N → X.env.scope = defScope st → X.calm = true → (∀ y, X.fn y = true) → X.xe = (fun _ _ => False) → Room k X.A → PSs X (defBody st) (tS K as body)) :
    FnOk P w K mg base CX0 (k + 1) f fd ps (spF K ps.length (fnD ps.length N.length as body)) := by
  refine Fu.ok S (fun vs H Q E h => ?_) (fun cdv A outer s H vs Q E hr h => ?_)
  · obtain ⟨_, _, _, _, _, hl, _⟩ := h
    exact hl
  · obtain ⟨S0, F0, ds, r, ds', hl, rl, nd, ns, sd, hf, q⟩ := h
    refine ⟨_, hbody _ rfl rfl rfl rfl rfl rfl rfl rfl (fun _ => rfl) rfl hr, ?_⟩
    unfold fnD at hf
    split at hf
    · rename_i hdl
      obtain ⟨S1, F1, r1, nd1, m1, ns1, s1, s2⟩ := frzAt_rp (as := as) (k := 0) rl nd ns
      have sd1 : ∀ a, S1 a → ∃ o, H a = some o := fun a ha => by
        rcases s2 a ha with m | m
        · exact sd a m
        · exact rl.dom a m
      have hst : L2.start N vs = vs.map some ++ List.replicate (N.length - ps.length) none := by
        unfold L2.start
        rw [hl]
      have sr1 : SR K H S1 ((frzAt as 0 ds).map some ++ List.replicate (N.length - ps.length) none) (L2.start N vs) F1 := by
        rw [hst]
        exact ⟨en_start _ r1, nd1, ns1, sd1⟩
      have stp1 : Stp H S0 F0 H S1 F1 := ⟨fun _ _ e _ => e, fun _ o e => ⟨o, e⟩, fun a ha => .inl (m1 a ha), s1, fun a ha => (s2 a ha).imp id .inl⟩
      have slots : ∀ i, i < vs.length → (L2.start N vs)[i]? = some (vs[i]?) := fun i hi => by
        rw [hst, List.getElem?_append_left (by rw [List.length_map]; exact hi), List.getElem?_map, List.getElem?_eq_getElem hi]
        rfl
      have frozen : ∀ (i : Nat) (d : D), (frzAt as 0 ds)[i]? = some d → isF d = false → i ∉ as := fun i d hd hq hm => by
        have gen : ∀ (ds : List D) (k i : Nat) (d : D), (frzAt as k ds)[i]? = some d → k + i ∈ as → ∃ d0, d = DE.frz d0 := fun ds => by
          induction ds with
          | nil => intro k i d h _; simp [frzAt] at h
          | cons d0 ds ih =>
            intro k i d h hm
            cases i with
            | zero =>
              have h' : (if as.contains k = true then DE.frz d0 else d0) = d := by simpa [frzAt] using h
              have hm' : k ∈ as := hm
              rw [if_pos (show as.contains k = true by simpa using hm')] at h'
              exact ⟨d0, h'.symm⟩
            | succ i =>
              have h' : (frzAt as (k + 1) ds)[i]? = some d := by simpa [frzAt] using h
              exact ih (k + 1) i d h' (by rw [Nat.add_assoc, Nat.add_comm 1 i]; exact hm)
        obtain ⟨d0, e⟩ := gen ds 0 i d hd (by rw [Nat.zero_add]; exact hm)
        rw [e, isF_of_frz] at hq
        cases hq
      have fin : ∀ (E' : En) (σ' : St) (G' : Hp) (S' : Addr → Prop) (F' : List Addr) (ds' : List D), SO as (L2.start N vs) σ' → SR K G' S' E' σ' F' → (∀ a o, S1 a → H a = some o → G' a = some o) → (∀ a, S1 a → S' a) → argsOf (frzAt as 0 ds) E' = some ds' →
          ∃ F'', RpL K G' S' ds' vs F'' ∧ F''.Nodup ∧ ∀ a, a ∈ F'' → a ∈ F' := fun E' σ' G' S' F' ds' so sr ks ss ha => by
        refine args_ok (ds := ds) (k := 0) sr.rep sr.nd ha (fun i hi hq => ?_) (fun i d v h1 h2 h3 => ?_) (by rw [hl, hdl])
        · have hd : (frzAt as 0 ds)[i]? = some ((frzAt as 0 ds).getD i .non) := by
            rw [List.getD_eq_getElem?_getD, List.getElem?_eq_getElem (by rw [frzAt_len]; exact hi)]
            rfl
          rw [so i (frozen i _ hd hq)]
          exact slots i (by rw [hl, ← hdl]; exact hi)
        · obtain ⟨A, r0⟩ := r1.pick h1 h3
          have r0' := r0
          rw [r0.nil (isF_frz d h2)] at r0'
          exact r0'.mono ks (fun _ m => by cases m) ss
      cases hb : body ((frzAt as 0 ds).map some ++ List.replicate (N.length - ps.length) none) with
      | none => rw [hb] at hf; cases hf
      | some ob =>
        rw [hb] at hf
        refine ⟨S1, F1, _, ob, sr1, hb, ?_⟩
        cases ob with
        | bk E' => cases hf
        | ct E' => cases hf
        | nx E' =>
          obtain ⟨ds2, h2, e2⟩ := Option.map_eq_some_iff.mp hf
          cases e2
          refine fun σ' G' S' F' b => ?_
          obtain ⟨F'', r2, nd2, m2⟩ := fin E' σ' G' S' F' _ b.so b.sr (fun a o hs e => b.stp.keep a o e fun m => ns1 a m hs) b.stp.ss h2
          exact q .non G' S' [] F'' ⟨r2, ⟨rfl, rfl⟩, nd2, fun a ha => b.sr.ns a (m2 a ha), b.sr.sd, (stp1.trans b.stp).less m2⟩
        | rt d E' =>
          obtain ⟨ds2, h2, e2⟩ := Option.map_eq_some_iff.mp hf
          cases e2
          refine fun v σ' G' S' T F' b => ?_
          obtain ⟨k1, k2, k3⟩ := nd_app.mp b.nd
          have ns' : ∀ a, a ∈ F1 → ¬ S1 a := ns1
          obtain ⟨F'', r2, nd2, m2⟩ := fin E' σ' G' S' F' _ b.so b.sr (fun a o hs e => b.stp.keep a o e fun m => ns1 a m hs) b.stp.ss h2
          refine q v G' S' T F'' ⟨r2, b.rp, nd_app.mpr ⟨k1, nd2, fun a ha hb => k3 a ha (m2 a hb)⟩, fun a ha => ?_, b.sr.sd, (stp1.trans b.stp).less fun a ha => ?_⟩
          · rcases List.mem_append.mp ha with m | m
            · exact b.ns a m
            · exact b.sr.ns a (m2 a m)
          · rcases List.mem_append.mp ha with m | m
            · exact List.mem_append_left _ m
            · exact List.mem_append_right _ (m2 a m)
    · cases hf
end
end DE
namespace DE
open PySem PySem.Spec L2
section
variable {K : PySem.W.Frag} {σ : St} {G G1 : Hp} {S S1 : Addr → Prop} {F F1 T : List Addr} {E E2 E' : En} {os : List Opd} {vs : List V} {d : D} {ds es : List D} {v : V}
theorem RO.frozen (ro : RO K σ G S F E2 os vs G1 S1 T F1) (h : tks os E2 = some (ds, E')) : ∃ S3 F3, RO K σ G S F E' [] [] G1 S3 [] F3 ∧ RpL K G1 S3 (frzL ds) vs [] := by
  obtain ⟨S2, F2, T2, sr, rp, nd, ns, stp⟩ := ro.taken h
  obtain ⟨n1, n2, n3⟩ := nd_app.mp nd
  have rf : RpL K G1 (fun a => S2 a ∨ a ∈ T2) (frzL ds) vs [] := rp.frz (fun _ z => .inl z) fun _ z => .inr z
  refine ⟨fun a => S2 a ∨ a ∈ T2, F2, ⟨⟨sr.rep.mono (fun _ _ _ z => z) (fun _ _ => rfl) fun _ z => .inl z, sr.nd, fun a ha hs => ?_, fun a hs => ?_⟩, ⟨rfl, rfl⟩, sr.nd, (fun _ m => by cases m), ?_⟩, rf⟩
  · rcases hs with hs | hs
    · exact sr.ns a ha hs
    · exact n3 a hs ha
  · rcases hs with hs | hs
    · exact sr.sd a hs
    · exact rp.dom a hs
  · exact ⟨stp.keep, stp.live, fun a ha => stp.fs a (List.mem_append_right _ ha), fun a ha => .inl (stp.ss a ha), fun a ha => by
      rcases ha with ha | ha
      · exact stp.sn a ha
      · exact .inr (stp.fs a (List.mem_append_left _ ha))⟩
theorem still (r : Rp K G S d v []) (hf : frz d = d) (hk : seqOf d = some ds) : ∃ p vs, v = .ref p ∧ RpL K G S ds vs [] ∧
    ((∀ H : Hp, (∀ a o, S a → G a = some o → H a = some o) → SqL K H p vs) ∨ ∀ H : Hp, (∀ a o, S a → G a = some o → H a = some o) → SqT K H p vs) := by
  cases d <;> simp only [seqOf, Option.some.injEq, reduceCtorEq] at hk
  · subst hk
    obtain ⟨p, vs, e, hp, r⟩ := r
    refine ⟨p, vs, e, r, .inr fun H k => ?_⟩
    rcases hp with ⟨h1, hp⟩ | hp
    · exact SqT.of (k _ _ h1 hp)
    · exact hp.to
  · subst hk
    rename_i m ds
    cases m with
    | true => injection hf with hf; cases hf
    | false =>
      obtain ⟨_, p, vs, e, h1, hp, r⟩ := r
      exact ⟨p, vs, e, r, .inl fun H k => SqL.of (k _ _ h1 hp)⟩
  · subst hk
    obtain ⟨_, p, vs, e, hp, r⟩ := r
    refine ⟨p, vs, e, r, .inl fun H k => ?_⟩
    rcases hp with ⟨h1, hp⟩ | hp
    · exact .inl (hp.imp (k _ _ h1) fun ⟨o, q⟩ => ⟨o, k _ _ h1 q⟩)
    · exact hp.to
theorem rev_at {α : Type} {l : List α} {k : Nat} {x : α} (h : l.reverse[k]? = some x) : k < l.length ∧ l[l.length - 1 - k]? = some x := by
  have hk : k < l.reverse.length := (List.getElem?_eq_some_iff.mp h).1
  rw [List.length_reverse] at hk
  exact ⟨hk, by rw [← h, List.getElem?_reverse hk]⟩
theorem fe_rev {p : Addr} {vs : List V} (st : ∀ H : Hp, (∀ a o, S a → G a = some o → H a = some o) → SqL K H p vs) (r : RpL K G S ds vs []) : FeedsI K G S ds.reverse (Itv K p vs.length) := by
  intro H S1 k1 k2 k3
  have hq := st H k1
  have r' : RpL K H S1 ds vs [] := r.mono k1 (fun _ m => by cases m) k2
  have hl := r.length
  refine ⟨fun k d hd => ?_, fun k hk => by rw [List.length_reverse] at hk; exact hl ▸ hk⟩
  obtain ⟨h1, h2⟩ := rev_at hd
  obtain ⟨v, hv, rv⟩ := r'.get h2
  rw [hl] at h1 hv
  refine ⟨⟨h1, vs, v, hq, hv⟩, fun x H' hy => ?_⟩
  obtain ⟨e, hy⟩ := hy
  subst e
  have := hy vs hq
  rw [hv] at this
  cases this
  exact NewR.same rv
theorem fe_revT {p : Addr} {vs : List V} (st : ∀ H : Hp, (∀ a o, S a → G a = some o → H a = some o) → SqT K H p vs) (r : RpL K G S ds vs []) : FeedsI K G S ds.reverse (RT.ItvT K p vs.length) := by
  intro H S1 k1 k2 k3
  have hq := st H k1
  have r' : RpL K H S1 ds vs [] := r.mono k1 (fun _ m => by cases m) k2
  have hl := r.length
  refine ⟨fun k d hd => ?_, fun k hk => by rw [List.length_reverse] at hk; exact hl ▸ hk⟩
  obtain ⟨h1, h2⟩ := rev_at hd
  obtain ⟨v, hv, rv⟩ := r'.get h2
  rw [hl] at h1 hv
  refine ⟨⟨h1, vs, v, hq, hv⟩, fun x H' hy => ?_⟩
  obtain ⟨e, hy⟩ := hy
  subst e
  have := hy vs hq
  rw [hv] at this
  cases this
  exact NewR.same rv
def enD : Nat → List D → List D
  | _, [] => []
  | k, d :: ds => .tup [.int (k : Int), d] :: enD (k + 1) ds
theorem enD_len : ∀ (ds : List D) (k : Nat), (enD k ds).length = ds.length
  | [], _ => rfl
  | d :: ds, k => by rw [enD, List.length_cons, List.length_cons, enD_len ds]
theorem enD_at : ∀ {ds : List D} {j k : Nat} {e : D}, (enD j ds)[k]? = some e → ∃ d, ds[k]? = some d ∧ e = .tup [.int ((j + k : Nat) : Int), d]
  | [], _, _, _, h => by simp [enD] at h
  | d :: ds, j, 0, e, h => by
    simp [enD] at h
    exact ⟨d, rfl, h.symm⟩
  | d :: ds, j, k + 1, e, h => by
    have h : (enD (j + 1) ds)[k]? = some e := h
    obtain ⟨d', h1, h2⟩ := enD_at h
    exact ⟨d', h1, by rw [h2, Nat.add_right_comm]; rfl⟩
theorem fe_en {p : Addr} {vs : List V} (st : ∀ H : Hp, (∀ a o, S a → G a = some o → H a = some o) → SqL K H p vs) (r : RpL K G S ds vs []) : FeedsI K G S (enD 0 ds) (Ite K p) := by
  intro H S1 k1 k2 k3
  have hq := st H k1
  have r' : RpL K H S1 ds vs [] := r.mono k1 (fun _ m => by cases m) k2
  refine ⟨fun k e he => ?_, fun k hk => ⟨vs, hq, by rw [enD_len] at hk; rw [← r.length]; exact hk⟩⟩
  obtain ⟨d, hd, e1⟩ := enD_at he
  subst e1
  obtain ⟨v, hv, rv⟩ := r'.get hd
  refine ⟨⟨vs, v, hq, hv⟩, fun x H' hy => ?_⟩
  obtain ⟨q, y, ex, hq0, eh, hy⟩ := hy
  subst ex eh
  have := hy vs hq
  rw [hv] at this
  cases this
  rw [Nat.zero_add]
  exact ⟨_, NewR.tup ⟨.int (k : Int), [v], [], [], rfl, rfl, ⟨rfl, rfl⟩, ⟨v, [], [], [], rfl, rfl, rv, ⟨rfl, rfl⟩⟩⟩ hq0⟩
def zipD : List D → List D → List D
  | d :: ds, e :: es => .tup [d, e] :: zipD ds es
  | _, _ => []
theorem zipD_at : ∀ {ds es : List D} {k : Nat} {z : D}, (zipD ds es)[k]? = some z → ∃ d e, ds[k]? = some d ∧ es[k]? = some e ∧ z = .tup [d, e]
  | [], _, _, _, h => by simp [zipD] at h
  | _ :: _, [], _, _, h => by simp [zipD] at h
  | d :: ds, e :: es, 0, z, h => by
    simp [zipD] at h
    exact ⟨d, e, rfl, rfl, h.symm⟩
  | d :: ds, e :: es, k + 1, z, h => by
    obtain ⟨d', e', h1, h2, h3⟩ := zipD_at (ds := ds) (es := es) (k := k) h
    exact ⟨d', e', h1, h2, h3⟩
theorem zipD_end : ∀ {ds es : List D} {k : Nat}, (zipD ds es).length ≤ k → ds.length ≤ k ∨ es.length ≤ k
  | [], _, _, _ => .inl (Nat.zero_le _)
  | _ :: _, [], _, _ => .inr (Nat.zero_le _)
  | d :: ds, e :: es, 0, h => by simp [zipD] at h
  | d :: ds, e :: es, k + 1, h => by
    have h : (zipD ds es).length + 1 ≤ k + 1 := h
    rcases zipD_end (Nat.le_of_succ_le_succ h) with q | q
    · exact .inl (Nat.succ_le_succ q)
    · exact .inr (Nat.succ_le_succ q)
theorem fe_zip {p q : Addr} {vs ws : List V} (st : ∀ H : Hp, (∀ a o, S a → G a = some o → H a = some o) → SqL K H p vs) (r : RpL K G S ds vs []) (st2 : ∀ H : Hp, (∀ a o, S a → G a = some o → H a = some o) → SqL K H q ws) (r2 : RpL K G S es ws []) : FeedsI K G S (zipD ds es) (Itz K p q) := by
  intro H S1 k1 k2 k3
  have hq := st H k1
  have hq2 := st2 H k1
  have r' : RpL K H S1 ds vs [] := r.mono k1 (fun _ m => by cases m) k2
  have r2' : RpL K H S1 es ws [] := r2.mono k1 (fun _ m => by cases m) k2
  refine ⟨fun k e he => ?_, fun k hk => ⟨vs, ws, hq, hq2, by rw [← r.length, ← r2.length]; exact zipD_end hk⟩⟩
  obtain ⟨d, e0, hd, h0, e1⟩ := zipD_at he
  subst e1
  obtain ⟨v, hv, rv⟩ := r'.get hd
  obtain ⟨w, hw, rw'⟩ := r2'.get h0
  refine ⟨⟨vs, ws, v, w, hq, hq2, hv, hw⟩, fun x H' hy => ?_⟩
  obtain ⟨t, y, z, ex, ht, eh, hy, hz⟩ := hy
  subst ex eh
  have h1 := hy vs hq
  have h2 := hz ws hq2
  rw [hv] at h1
  rw [hw] at h2
  cases h1
  cases h2
  exact ⟨_, NewR.tup ⟨v, [w], [], [], rfl, rfl, rv, ⟨w, [], [], [], rfl, rfl, rw', ⟨rfl, rfl⟩⟩⟩ ht⟩
theorem fe_zipT {p q : Addr} {vs ws : List V} (st : ∀ H : Hp, (∀ a o, S a → G a = some o → H a = some o) → SqT K H p vs) (r : RpL K G S ds vs []) (st2 : ∀ H : Hp, (∀ a o, S a → G a = some o → H a = some o) → SqT K H q ws) (r2 : RpL K G S es ws []) : FeedsI K G S (zipD ds es) (RZ.ItzT K p q) := by
  intro H S1 k1 k2 k3
  have hq := st H k1
  have hq2 := st2 H k1
  have r' : RpL K H S1 ds vs [] := r.mono k1 (fun _ m => by cases m) k2
  have r2' : RpL K H S1 es ws [] := r2.mono k1 (fun _ m => by cases m) k2
  refine ⟨fun k e he => ?_, fun k hk => ⟨vs, ws, hq, hq2, by rw [← r.length, ← r2.length]; exact zipD_end hk⟩⟩
  obtain ⟨d, e0, hd, h0, e1⟩ := zipD_at he
  subst e1
  obtain ⟨v, hv, rv⟩ := r'.get hd
  obtain ⟨w, hw, rw'⟩ := r2'.get h0
  refine ⟨⟨vs, ws, v, w, hq, hq2, hv, hw⟩, fun x H' hy => ?_⟩
  obtain ⟨t, y, z, ex, ht, eh, hy, hz⟩ := hy
  subst ex eh
  have h1 := hy vs hq
  have h2 := hz ws hq2
  rw [hv] at h1
  rw [hw] at h2
  cases h1
  cases h2
  exact ⟨_, NewR.tup ⟨v, [w], [], [], rfl, rfl, rv, ⟨w, [], [], [], rfl, rfl, rw', ⟨rfl, rfl⟩⟩⟩ ht⟩
def isT : D → Bool
  | .tup _ => true
  | _ => false
theorem still_l (r : Rp K G S d v []) (hf : frz d = d) (hk : seqOf d = some ds) (ht : isT d = false) : ∃ p vs, v = .ref p ∧ RpL K G S ds vs [] ∧ ∀ H : Hp, (∀ a o, S a → G a = some o → H a = some o) → SqL K H p vs := by
  cases d <;> simp only [seqOf, Option.some.injEq, reduceCtorEq] at hk
  · cases ht
  · subst hk
    rename_i m ds
    cases m with
    | true => injection hf with hf; cases hf
    | false =>
      obtain ⟨_, p, vs, e, h1, hp, r⟩ := r
      exact ⟨p, vs, e, r, fun H k => SqL.of (k _ _ h1 hp)⟩
  · subst hk
    obtain ⟨_, p, vs, e, hp, r⟩ := r
    refine ⟨p, vs, e, r, fun H k => ?_⟩
    rcases hp with ⟨h1, hp⟩ | hp
    · exact .inl (hp.imp (k _ _ h1) fun ⟨o, q⟩ => ⟨o, k _ _ h1 q⟩)
    · exact hp.to
theorem still_t (r : Rp K G S d v []) (hk : seqOf d = some ds) (ht : isT d = true) : ∃ p vs, v = .ref p ∧ RpL K G S ds vs [] ∧ ∀ H : Hp, (∀ a o, S a → G a = some o → H a = some o) → SqT K H p vs := by
  cases d <;> simp only [seqOf, Option.some.injEq, reduceCtorEq] at hk
  · subst hk
    obtain ⟨p, vs, e, hp, r⟩ := r
    refine ⟨p, vs, e, r, fun H k => ?_⟩
    rcases hp with ⟨h1, hp⟩ | hp
    · exact SqT.of (k _ _ h1 hp)
    · exact hp.to
  · cases ht
  · cases ht
def evRev (ea : EvO) : EvI := fun E => match ea E with
  | some (o, E1) => match tks [o] E1 with
    | some ([d], E2) => match seqOf (frz d) with
      | some ds => some (.it ds.reverse, E2)
      | none => none
    | _ => none
  | none => none
theorem t_rev {ea : EvO} {R : It → Hp → Prop} (h : tI K (evRev ea) σ G R) : RT.iRevA K (tO K ea) σ G R := by
  obtain ⟨S, F, E, s, E', sr, he, q⟩ := h
  unfold evRev at he
  split at he
  · rename_i o E1 h1
    refine ⟨S, F, E, o, E1, sr, h1, fun v G1 S1 T1 F1 ro => ?_⟩
    split at he
    · rename_i d E2 h2
      split at he
      · rename_i ds hk
        cases he
        obtain ⟨S3, F3, ro3, r3⟩ := ro.frozen h2
        obtain ⟨u, us, A, B, e1, e2, r, r4⟩ := r3
        obtain ⟨e3, e4⟩ := r4
        subst e3
        cases e1
        subst e4
        have hA : A = [] := (List.append_eq_nil_iff.mp e2.symm).1
        subst hA
        cases ht : isT (frz d) with
        | false =>
          obtain ⟨p, ws, ev, rl, stl⟩ := still_l r (frz_frz d) hk ht
          exact ⟨p, ws, ev, .inl ⟨stl _ fun _ _ _ z => z, q _ G1 S3 F3 ro3 (fe_rev stl rl)⟩⟩
        | true =>
          obtain ⟨p, ws, ev, rl, stl⟩ := still_t r hk ht
          exact ⟨p, ws, ev, .inr ⟨stl _ fun _ _ _ z => z, q _ G1 S3 F3 ro3 (fe_revT stl rl)⟩⟩
      · cases he
    · cases he
  · cases he
def evEn (es : EvOs) : EvI := fun E => match es E with
  | some ([o], E1) => match tks [o] E1 with
    | some ([d], E2) => match seqOf (frz d) with
      | some ds => if isT (frz d) = false then some (.it (enD 0 ds), E2) else none
      | none => none
    | _ => none
  | _ => none
theorem t_en {es : EvOs} {R : It → Hp → Prop} (h : tI K (evEn es) σ G R) : iEnum K (tOs K es) σ G R := by
  obtain ⟨S, F, E, s, E', sr, he, q⟩ := h
  unfold evEn at he
  split at he
  · rename_i o E1 h1
    refine ⟨S, F, E, [o], E1, sr, h1, fun v G1 S1 T1 F1 ro => ?_⟩
    split at he
    · rename_i d E2 h2
      split at he
      · rename_i ds hk
        split at he
        · rename_i ht
          cases he
          obtain ⟨S3, F3, ro3, r3⟩ := ro.frozen h2
          obtain ⟨u, us, A, B, e1, e2, r, r4⟩ := r3
          obtain ⟨e3, e4⟩ := r4
          subst e3
          subst e1 e4
          have hA : A = [] := (List.append_eq_nil_iff.mp e2.symm).1
          subst hA
          obtain ⟨p, ws, ev, rl, stl⟩ := still_l r (frz_frz d) hk ht
          subst ev
          exact ⟨p, ws, rfl, stl _ fun _ _ _ z => z, q _ G1 S3 F3 ro3 (fe_en stl rl)⟩
        · cases he
      · cases he
    · cases he
  · cases he
def evZip (es : EvOs) : EvI := fun E => match es E with
  | some ([o, o2], E1) => match tks [o, o2] E1 with
    | some ([d, e], E2) => match seqOf (frz d), seqOf (frz e) with
      | some ds, some es => if isT (frz d) = isT (frz e) then some (.it (zipD ds es), E2) else none
      | _, _ => none
    | _ => none
  | _ => none
theorem t_zip {es : EvOs} {R : It → Hp → Prop} (h : tI K (evZip es) σ G R) : RZ.iZipA K (tOs K es) σ G R := by
  obtain ⟨S, F, E, s, E', sr, he, q⟩ := h
  unfold evZip at he
  split at he
  · rename_i o o2 E1 h1
    refine ⟨S, F, E, [o, o2], E1, sr, h1, fun v G1 S1 T1 F1 ro => ?_⟩
    split at he
    · rename_i d e E2 h2
      split at he
      · rename_i ds es hk hk2
        split at he
        · rename_i ht
          cases he
          obtain ⟨S3, F3, ro3, r3⟩ := ro.frozen h2
          obtain ⟨u, us, A, B, e1, e2, r, u2, us2, A2, B2, e3, e4, r2, r4⟩ := r3
          obtain ⟨e5, e6⟩ := r4
          subst e5 e6 e3 e1
          obtain ⟨hA, hB⟩ := List.append_eq_nil_iff.mp e2.symm
          subst hA
          have hA2 : A2 = [] := (List.append_eq_nil_iff.mp (e4.symm.trans hB)).1
          subst hA2
          cases hd : isT (frz d) with
          | false =>
            rw [hd] at ht
            obtain ⟨p, ws, ev, rl, stl⟩ := still_l r (frz_frz d) hk hd
            obtain ⟨p2, ws2, ev2, rl2, stl2⟩ := still_l r2 (frz_frz e) hk2 ht.symm
            subst ev ev2
            exact ⟨p, p2, ws, ws2, rfl, .inl ⟨stl _ fun _ _ _ z => z, stl2 _ fun _ _ _ z => z, q _ G1 S3 F3 ro3 (fe_zip stl rl stl2 rl2)⟩⟩
          | true =>
            rw [hd] at ht
            obtain ⟨p, ws, ev, rl, stl⟩ := still_t r hk hd
            obtain ⟨p2, ws2, ev2, rl2, stl2⟩ := still_t r2 hk2 ht.symm
            subst ev ev2
            exact ⟨p, p2, ws, ws2, rfl, .inr ⟨stl _ fun _ _ _ z => z, stl2 _ fun _ _ _ z => z, q _ G1 S3 F3 ro3 (fe_zipT stl rl stl2 rl2)⟩⟩
        · cases he
      · cases he
    · cases he
  · cases he
end
end DE
namespace DE
open PySem PySem.Spec PyProof.Rows L2
section
variable {prog : Program} {w : World} {A : Around} {E : Value → Shared → Prop} {s : Shared}
theorem walks_rt (hh : A.handled = none) (it t : Addr) (hne : t ≠ it) (items : Array Value) (hz : items.size ≤ sizeLine) :
    Walks prog w A it [it, t] [it] items.size (fun i v => items[items.size - 1 - i]? = some v) (fun i h => i ≤ items.size ∧ RT.IsRt h it t ((items.size : Int) - 1 - (i : Int)) ∧ IsTup h t items) where
  sub := fun b hb => by simp at hb ⊢; exact .inl hb
  frame := fun i h h' hst hk => ⟨hst.1, hst.2.1.at fun o e => hk it (by simp) o e, let ⟨o, e, r⟩ := hst.2.2; ⟨o, hk t (by simp) _ e, r⟩⟩
  item := fun i s Q E hi hst hQ => by
    obtain ⟨h1, h2, h3⟩ := hst
    have hlt : items.size - 1 - i < items.size := by omega
    have e : (items.size : Int) - 1 - (i : Int) = ((items.size - 1 - i : Nat) : Int) := by omega
    rw [e] at h2
    have hx : items[items.size - 1 - i]? = some items[items.size - 1 - i] := Array.getElem?_eq_getElem hlt
    refine RT.next_rt_item h2 h3 hx hz fun h' h4 sb => hQ _ h' _ hx ⟨hi, ?_, ?_⟩ fun b o hb q => ?_
    · have e2 : (items.size : Int) - 1 - ((i + 1 : Nat) : Int) = ((items.size - 1 - i : Nat) : Int) - 1 := by omega
      rw [e2]
      exact h4
    · obtain ⟨o, e, r⟩ := h3
      exact ⟨o, (sb.2 t hne).trans e, r⟩
    · exact (sb.2 b (fun z => hb (by simp [z]))).trans q
  done := fun s Q E hst hQ => by
    obtain ⟨h1, h2, h3⟩ := hst
    have e : (items.size : Int) - 1 - ((items.size : Nat) : Int) = -1 := by omega
    rw [e] at h2
    exact RT.next_rt_end hh h2 fun h' eb => hQ h' s.toks fun b o hb q => eb b o (fun z => hb (by simp [z])) q
  self := fun i s Q E hst hQ => RT.iter_rt hst.2.1 hQ
theorem len0_rt : typeLookup (.type "reversed") "__len__" = pure none := by rw [typeLookup_type, builtinLookup_eq_fast]; kernel_rfl
theorem hint0_rt : typeLookup (.type "reversed") "__length_hint__" = pure (some (.builtin "reversed.__length_hint__")) := by rw [typeLookup_type, builtinLookup_eq_fast]; kernel_rfl
theorem slot_rth : Slot "reversed" "__length_hint__" "reversed.__length_hint__" :=
  .of (owner := "reversed") (n := "__length_hint__") hint0_rt (by decide +kernel) (by decide +kernel) (by decide +kernel) (.inr (by decide +kernel)) (by rw [isSubtype_type]; kernel_rfl)
theorem entry_rth : entryFor table "reversed.__length_hint__" = some Builtin.«reversed.__length_hint__» := entryFor_of_tree (by kernel_rfl)
theorem args_rth (v : Value) : argsOk "reversed.__length_hint__" ⟨[v], []⟩ := by
  unfold argsOk
  rw [signature?_of (id := "reversed.__length_hint__") (n := "__length_hint__".toList.reverse) (o := "reversed".toList.reverse) (by kernel_rfl) RT.owner_rt]
  kernel_rfl
theorem hint_rt {it t : Addr} {items : Array Value} {Q : Bool → Shared → Prop} (hit : RT.IsRt s.heap it t ((items.size : Int) - 1)) (ht : IsTup s.heap t items) (hz : items.size ≤ sizeLine) (h : ∀ b tk, Q b { s with toks := tk }) :
    wpAny (model prog w) A (Builtin.List.listLengthHint (.ref it)) Q E s := by
  obtain ⟨o, ho, hc, hd⟩ := id hit
  have hT := hit.typeIs
  unfold Builtin.List.listLengthHint
  refine wpAny_bind (wpAny_specialOf hT len0_rt ?_)
  show wpAny _ A (specialOf (Value.ref it) (Str.ofString "__length_hint__") >>= _) _ _ _
  refine wpAny_bind (wpAny_specialOf hT hint0_rt ?_)
  generalize e : ("reversed.__length_hint__" : String) = x
  wp_delta
  rw [show splitId x = some ("reversed", "__length_hint__") by subst e; decide +kernel]
  subst e
  refine wpAny_bind (wpAny_isInstance (b := true) hT (by rw [isSubtype_type]; kernel_rfl) ?_)
  rw [if_neg (by decide), if_neg (by decide +kernel)]
  refine wpAny_bind (wpAny_rule ?_)
  refine wpAny_bind (wpAny_of_eq (slot_rth.bind _) ?_)
  refine wpAny_bind (wpAny_attempt (wpAny_call_entry slot_rth hT entry_rth ?_ (args_rth _)))
  unfold Builtin.«reversed.__length_hint__»
  refine wpAny_bind (wpAny_of_eq (a := Value.ref it) rfl ?_)
  refine wpAny_bind (wpAny_field ho hd (x := .ref t) rfl ?_)
  rw [if_neg (show ¬(Value.ref t == Value.none) = true from Bool.false_ne_true)]
  refine wpAny_bind (len_tuple ht (by rw [sizeLine_eq] at hz; omega) ?_)
  refine wpAny_bind (wpAny_of_eq (a := some ((items.size : Nat) : Int)) rfl ?_)
  refine wpAny_bind (wpAny_field (s := { s with toks := s.toks + 1 + 1 }) ho hd (x := rawInt ((items.size : Int) - 1)) rfl ?_)
  show wpAny _ _ (if (items.size : Int) < (items.size : Int) - 1 + 1 then _ else _) _ _ _
  rw [if_neg (by omega)]
  unfold retInt
  refine wpAny_bind (wpAny_mkInt ?_)
  refine wpAny_pure ⟨_, rfl, ?_⟩
  dsimp only
  refine wpAny_bind (wpAny_of_eq (a := some ((items.size : Int) - 1 + 1)) rfl ?_)
  have e : (items.size : Int) - 1 + 1 = (items.size : Int) := by omega
  rw [e]
  dsimp only
  have f1 : Builtin.List.listFitsIndex (items.size : Int) = true := by
    rw [sizeLine_eq] at hz
    unfold Builtin.List.listFitsIndex
    rw [decide_eq_true (show -(2 ^ 63 : Int) ≤ (items.size : Int) by omega), decide_eq_true (show (items.size : Int) < 2 ^ 63 by omega)]
    rfl
  have f2 : Builtin.List.listTooLong (items.size : Int).toNat = false := by
    unfold Builtin.List.listTooLong
    exact decide_eq_false (by omega)
  rw [f1, f2, if_neg (by decide), if_neg (by omega), if_neg Bool.false_ne_true]
  exact wpAny_pure (h _ _)
theorem list_of {I : Addr} {fp wr : List Addr} {n : Nat} {P : Nat → Value → Prop} {St : Nat → Heap → Prop} {T : String} {Q : Value → Shared → Prop} (W : Walks prog w A.in1.in1 I fp wr n P St)
    (ty : ∀ s : Shared, St 0 s.heap → s.TypeIs (.ref I) T) (nl : (Value.type T == Value.type "list" || Value.type T == Value.type "tuple") = false)
    (hint : ∀ (s : Shared) (Q : Bool → Shared → Prop) (E : Value → Shared → Prop), St 0 s.heap → (∀ b tk, Q b { s with toks := tk }) → wpAny (model prog w) A.in1.in1 (Builtin.List.listLengthHint (.ref I)) Q E s)
    (st : St 0 s.heap) (lo : ∀ b, b ∈ fp → b < s.heap.objs.size) (hI : I ∈ fp) (hn : n ≤ sizeLine)
    (done : ∀ h' tk acc c, (∀ b o, b ∉ wr → s.heap.get? b = some o → h'.get? b = some o) → h'.get? s.heap.objs.size = some { cls := .type "list", dict := none, data := .seq acc c, slots := #[] } → ItemsOf P acc n → Q (.ref s.heap.objs.size) { s with heap := h', toks := tk }) :
    wpAny (model prog w) A (call (.type "list") [.ref I]) Q E s := by
  have off : s.heap.objs.size ∉ fp := fun m => Nat.lt_irrefl _ (lo _ m)
  have ne : s.heap.objs.size ≠ I := fun e => off (e ▸ hI)
  refine callType_codes (Q₁ := fun v s1 => v = .ref s.heap.objs.size ∧ s1 = { s with heap := s.heap.push { cls := .type "list", data := .seq #[] } }) F.called_list (F.typeCall_list_1 _) F.entry_list_init
    (code_list_new _ ⟨rfl, rfl⟩) fun v s1 h1 => ?_
  obtain ⟨e1, e2⟩ := h1
  subst e1 e2
  have at0 : (s.heap.push { cls := .type "list", data := .seq #[] }).get? s.heap.objs.size = some { cls := .type "list", data := .seq #[] } := Heap.get?_push_size _ rfl
  refine ⟨⟨_, at0, rfl⟩, F.args_list_init_2 _ _, ?_⟩
  generalize hS : s.heap.objs.size = S at *
  show wpAny _ A.in1.in1 (Builtin.List.listItems (.ref S) >>= fun old => Builtin.List.listUpdate (.ref S) (fun _ => #[]) >>= fun _ => letGo old.toList.reverse >>= fun _ => Builtin.List.listExtendWith (.ref S) (.ref I) .none) _ _ _
  unfold Builtin.List.listItems
  refine wpAny_bind (wpAny_bind (wpAny_seqItems at0 rfl (wpAny_pure ?_)))
  unfold Builtin.List.listUpdate
  refine wpAny_bind (wpAny_updateSeq at0 rfl ?_)
  have at1 := Heap.get?_update_self (Obj.mapSeq (fun _ => (#[] : Array Value))) at0 rfl
  refine wpAny_bind (wpAny_letGo ?_)
  have st1 : St 0 ((s.heap.push { cls := .type "list", data := .seq #[] }).update S (Obj.mapSeq fun _ => #[])) := W.frame 0 _ _ st fun b hb o e => by
    rw [Heap.get?_update_other _ _ (fun e' : S = b => off (e' ▸ hb))]
    exact Heap.get?_push_of_some _ e
  have t1 := ty { s with heap := (s.heap.push { cls := .type "list", data := .seq #[] }).update S (Obj.mapSeq fun _ => #[]) } st1
  unfold Builtin.List.listExtendWith
  refine wpAny_bind (wpAny_typeOf t1 ?_)
  have nr : Builtin.List.listSameRef (.ref S) (.ref I) = false := by unfold Builtin.List.listSameRef; simp [ne]
  rw [nr, Bool.false_or, nl, if_neg Bool.false_ne_true]
  refine wpAny_bind (W.self 0 _ _ _ st1 ?_)
  refine wpAny_bind (wpAny_holding ?_)
  refine hint _ _ _ st1 fun b tk => ?_
  have fin : ∀ (h1 : Heap) (c : Nat), St 0 h1 → h1.get? S = some { cls := .type "list", dict := none, data := .seq #[] c, slots := #[] } → (∀ b o, b ≠ S → s.heap.get? b = some o → h1.get? b = some o) →
      codeAny (model prog w) A.in1 (.builtin "list.extend.loop" ⟨[.ref S, .ref I, .none], []⟩) (wants (fun r s₂ => r = Value.none ∧ Q (Value.ref S) s₂) E) { s with heap := h1, toks := tk } := by
    intro h1 c st2 at2 kp
    refine codeAny_extend_loopS W.toS hn S off .none n 0 _ #[] c rfl (Nat.zero_le _) st2 at2 (ItemsOf.nil _) fun s3 acc c3 mv at3 ia => ⟨rfl, ?_⟩
    rw [Moved.eq_with mv]
    refine done s3.heap s3.toks acc c3 (fun b o hb e => ?_) at3 ia
    have hbS : b ≠ S := fun e' => by
      have := Heap.lt_size e
      rw [hS, e'] at this
      exact Nat.lt_irrefl _ this
    exact mv.heap b o (fun m => (List.mem_cons.mp m).elim hbS hb) (kp b o hbS e)
  have kp1 : ∀ b o, b ≠ S → s.heap.get? b = some o → ((s.heap.push { cls := .type "list", data := .seq #[] }).update S (Obj.mapSeq fun _ => #[])).get? b = some o := fun b o hb e => by
    rw [Heap.get?_update_other _ _ (Ne.symm hb)]
    exact Heap.get?_push_of_some _ e
  have quiet := plainId_quiet F.plain_extend_loop ⟨[.ref S, .ref I, .none], []⟩
  have oth : ∀ (h : Heap) (f : Obj → Obj) b o, b ≠ S → h.get? b = some o → (h.update S f).get? b = some o := fun h f b o hb e => (Heap.get?_update_other _ _ (Ne.symm hb)).trans e
  dsimp only
  generalize (s.heap.push { cls := .type "list", data := .seq #[] }).update S (Obj.mapSeq fun _ => #[]) = g1 at *
  split
  · refine wpAny_bind (wpAny_rule ?_)
    unfold Builtin.List.listTouch Builtin.List.listUpdate
    refine wpAny_bind (wpAny_bind (wpAny_updateSeq at1 rfl ?_))
    have at2 := Heap.get?_update_self (Obj.mapSeq (·.push Value.none)) at1 rfl
    refine wpAny_updateSeq (hz := by seq_fits) at2 rfl ?_
    have at3 := Heap.get?_update_self (Obj.mapSeq (·.pop)) at2 rfl
    have st3 : St 0 ((g1.update S (Obj.mapSeq (·.push Value.none))).update S (Obj.mapSeq (·.pop))) := W.frame 0 _ _ st1 fun b hb o e => oth _ _ b o (fun e' => off (e' ▸ hb)) (oth _ _ b o (fun e' => off (e' ▸ hb)) e)
    have kp3 : ∀ b o, b ≠ S → s.heap.get? b = some o → ((g1.update S (Obj.mapSeq (·.push Value.none))).update S (Obj.mapSeq (·.pop))).get? b = some o := fun b o hb e => oth _ _ b o hb (oth _ _ b o hb (kp1 b o hb e))
    exact wpAny_pure ⟨quiet, fin _ _ st3 at3 kp3⟩
  · exact wpAny_pure ⟨quiet, fin _ _ st1 at1 kp1⟩
end
def tLstRev (K : PySem.W.Frag) (te : TE) : TE := fun σ H Q => te σ H fun v H1 => ∃ (a : Addr) (xs : List V), v = .ref a ∧ SqT K H1 a xs ∧ ∀ q, H1 q = none → Q (.ref q) (upd H1 q (.lst xs.reverse))
theorem pe_lstRev {X : Cx} {e : Expr} {te : TE} {p p2 pos pos2 : Pos} (hc : X.calm = true) (hg : Gl X "list") (hm : X.mg "list" = none) (hg2 : Gl X "reversed") (hm2 : X.mg "reversed" = none) (he : PE X e te)
    (h1 : starEach [e] X.env = (false, eval e X.env) :: starEach [] X.env)
    (h2 : starEach [.Call (.Name "reversed" p2) [e] [] pos2] X.env = (false, eval (.Call (.Name "reversed" p2) [e] [] pos2) X.env) :: starEach [] X.env) :
    PE X (.Call (.Name "list" p) [.Call (.Name "reversed" p2) [e] [] pos2] [] pos) (tLstRev X.K te) := by
  refine ⟨fun pins s σ H Q I h => ?_⟩
  refine Call_ (ld_blt I hg hm PyProof.Rows.boot_list (PyProof.Rows.callWith_type1 (args_cons ?_ h2) h2 rfl))
  refine Call_ (ld_blt I hg2 hm2 PyProof.Rows.boot_reversed (PyProof.Rows.callWith_type1 (args_cons ?_ h1) h1 rfl))
  refine thn (he.run pins s σ H _ I h) fun u s1 ⟨v, H1, I1, r1, a, xs, ev, hq, q⟩ => args_nil ?_
  subst ev
  obtain rfl : u = Value.ref a := r1
  obtain ⟨its, rv, ht, hz⟩ := I1.tuple hq
  have hl := rv.length
  have hz' : its.toArray.size ≤ sizeLine := by rw [List.size_toArray]; omega
  refine RT.call_reversed_tup ht (fun A E Q k => len_tuple ht (by have := line63; omega) k) (args_nil ?_)
  have lt : a < s1.heap.objs.size := let ⟨_, e, _⟩ := ht; Heap.lt_size e
  have hx := I1.ok.hd hc
  have ht2 : IsTup (s1.heap.push (RT.rtObj a ((its.toArray.size : Int) - 1))) a its.toArray := let ⟨o, e, r⟩ := ht; ⟨o, Heap.get?_push_of_some _ e, r⟩
  refine list_of (T := "reversed") (s := { s1 with heap := s1.heap.push (RT.rtObj a ((its.toArray.size : Int) - 1)), toks := s1.toks + 1 + 1 }) (walks_rt (A := X.A.in1.in1) hx s1.heap.objs.size a (Nat.ne_of_lt lt) its.toArray hz') (fun s2 st => st.2.1.typeIs) (by decide)
    (fun s2 Q E st k => ?_) ⟨Nat.zero_le _, ⟨_, Heap.get?_push_size _ rfl, rfl, ?_⟩, ht2⟩ (fun b hb => ?_) (by simp) hz' fun h' tk acc c kp hat ia => ?_
  · obtain ⟨_, st1, st2⟩ := st
    have e0 : (its.toArray.size : Int) - 1 - ((0 : Nat) : Int) = (its.toArray.size : Int) - 1 := by omega
    rw [e0] at st1
    exact hint_rt st1 st2 hz' k
  · have e0 : (its.toArray.size : Int) - 1 - ((0 : Nat) : Int) = (its.toArray.size : Int) - 1 := by omega
    rw [e0]
    rfl
  · have hs : (s1.heap.push (RT.rtObj a ((its.toArray.size : Int) - 1))).objs.size = s1.heap.objs.size + 1 := by simp [Heap.push]
    rw [hs]
    have m : b = s1.heap.objs.size ∨ b = a := by simpa using hb
    rcases m with r | r
    · rw [r]
      exact Nat.lt_succ_self _
    · rw [r]
      exact Nat.lt_succ_of_lt lt
  · have hs : (s1.heap.push (RT.rtObj a ((its.toArray.size : Int) - 1))).objs.size = s1.heap.objs.size + 1 := by simp [Heap.push]
    have le : s1.heap.objs.size ≤ (s1.heap.push (RT.rtObj a ((its.toArray.size : Int) - 1))).objs.size := by rw [hs]; exact Nat.le_succ _
    refine ⟨.ref _, upd H1 _ (.lst xs.reverse), I1.laid (t' := tk) (fun b o e => kp b o (fun m => ?_) (Heap.get?_push_of_some _ e)) le (show ObjOk X.prog X.w _ _ _ (.lst xs.reverse) from ⟨by rw [List.length_reverse]; exact hz, acc.toList, c, RT.vals_rev rv ia, ?_⟩), rfl, q _ (I1.hok.fresh le)⟩
    · rw [List.mem_singleton.mp m] at e
      exact Nat.lt_irrefl _ (Heap.lt_size e)
    · rw [Array.toArray_toList]
      exact hat
def pRevT : D → Option D
  | .tup ds => some (.lst true ds.reverse)
  | _ => none
section
variable {K : PySem.W.Frag} {σ : L2.St} {G : Hp} {S : Addr → Prop} {Q : VK}
theorem RpL.rev : ∀ {ds : List D} {vs : List V}, RpL K G S ds vs [] → RpL K G S ds.reverse vs.reverse []
  | [], vs, h => by
    rw [h.1]
    exact ⟨rfl, rfl⟩
  | d :: ds, _, ⟨v, vs, A, B, e, z, r, h⟩ => by
    obtain ⟨hA, hB⟩ := List.append_eq_nil_iff.mp z.symm
    subst hA hB e
    rw [List.reverse_cons, List.reverse_cons]
    exact RpL.append (RpL.rev h) ⟨v, [], [], [], rfl, rfl, r, ⟨rfl, rfl⟩⟩
theorem t_lstRev {ea : EvO} (h : tO K (ev1 pRevT ea) σ G Q) : tLstRev K (tO K ea) σ G Q := by
  obtain ⟨S, F, E, o, E', sr, he, q⟩ := h
  unfold ev1 at he
  split at he
  · rename_i x E1 h1
    refine ⟨S, F, E, x, E1, sr, h1, fun v G1 S1 T1 F1 ro => ?_⟩
    obtain ⟨S2, ds, z, rp, sd, hf, g⟩ := prim_go ro he q
    obtain ⟨d, e, hf2⟩ := f1_one hf
    subst e
    obtain ⟨⟨T, r⟩, fz⟩ := rp.one
    cases d <;> simp only [pRevT, Option.some.injEq, reduceCtorEq] at hf2
    subst hf2
    obtain ⟨p, ws, ev, hs, rl, _⟩ := rp_tup r fz
    exact ⟨p, ws, ev, hs, g.lst sd (RpL.rev rl)⟩
  · cases he
end
end DE
namespace DE
open PySem PySem.Spec PyProof.Rows L2
section
variable {prog : Program} {w : World} {A : Around} {E : Value → Shared → Prop} {s : Shared}
theorem zipH_item {z ti tO fst j1 j2 t1 t2 : Addr} {f : Bool} {ob : Obj} {n1 n2 : Nat} {us vs : Array Value} {u v : Value} {Q : Value → Shared → Prop} (D : ZipApart z ti tO j1 j2 t1 t2)
    (g0 : IsZipHeld s.heap z ti tO fst f) (g1 : s.heap.get? fst = some ob) (g2 : IsPair s.heap ti (.ref j1) (.ref j2)) (g3 : s.heap.IsTupleIter j1 t1 n1) (g4 : s.heap.IsTupleIter j2 t2 n2)
    (g5 : s.heap.IsTuple t1 us) (g6 : s.heap.IsTuple t2 vs) (e1 : us[n1]? = some u) (e2 : vs[n2]? = some v)
    (k : ∀ h', IsZipHeld h' z ti tO fst true → h'.IsTupleIter j1 t1 (n1 + 1) → h'.IsTupleIter j2 t2 (n2 + 1) → IsPair h' s.heap.objs.size u v → h'.objs.size = s.heap.objs.size + 1 → (∀ c o, c ≠ z → c ≠ j1 → c ≠ j2 → s.heap.get? c = some o → h'.get? c = some o) → Q (.ref s.heap.objs.size) { s with heap := h' }) :
    wpAny (model prog w) A (Builtin.«zip.__next__» ⟨[.ref z], []⟩) (fun r s' => ∃ x, r = .done (.ret x) ∧ Q x s') E s := by
  show wpAny _ _ (field (.ref z) 2 >>= _) _ _ _
  refine wpAny_bind (wpAny_field g0 rfl (x := .bool false) rfl ?_)
  show wpAny _ _ (field (.ref z) 3 >>= _) _ _ _
  refine wpAny_bind (wpAny_field g0 rfl (x := .ref ti) rfl (wpAny_bind (wpAny_seqItems g2 rfl ?_)))
  show wpAny _ _ (Builtin.SmallTypes.ownedTupleIsFree (.ref z) >>= _) _ _ _
  refine wpAny_bind (wpAny_tupleHeld_zip g0 g1 fun a za sa => ?_)
  rw [if_neg Bool.false_ne_true]
  refine wpAny_bind ?_
  rw [← Array.forIn_toList]
  simp only [List.forIn_nil, List.forIn_cons]
  refine wpAny_bind (wpAny_bind (wpAny_holding ?_))
  have i1a := g3.extBut sa.extBut D.i1z
  have t1a := g5.extBut sa.extBut D.l1z
  show wpAny _ _ (Builtin.SmallTypes.nextOf (.ref j1) >>= _) _ _ _
  refine wpAny_bind (RZ.nextOf_tuple_item (s := { s with heap := a }) i1a t1a e1 fun b i1b sb => wpAny_pure (wpAny_pure ?_))
  have i2b := (g4.extBut sa.extBut D.i2z).extBut sb.extBut D.i12.symm
  have t2b := (g6.extBut sa.extBut D.l2z).extBut sb.extBut D.l2i1
  refine wpAny_bind (wpAny_bind (wpAny_holding ?_))
  show wpAny _ _ (Builtin.SmallTypes.nextOf (.ref j2) >>= _) _ _ _
  refine wpAny_bind (RZ.nextOf_tuple_item (s := { s with heap := b }) i2b t2b e2 fun c i2c sc => wpAny_pure (wpAny_pure (wpAny_pure ?_)))
  show wpAny _ _ (newTuple [u, v] >>= _) _ _ _
  have sz : c.objs.size = s.heap.objs.size := by rw [sc.1, sb.1, sa.1]
  have zc : IsZipHeld c z ti tO fst true := sc.extBut _ _ D.i2z.symm (sb.extBut _ _ D.i1z.symm za)
  have kc : ∀ q o, q ≠ z → q ≠ j1 → q ≠ j2 → s.heap.get? q = some o → c.get? q = some o := fun q o n0 n1 n2 e => sc.extBut _ _ n2 (sb.extBut _ _ n1 (sa.extBut _ _ n0 e))
  have i1c := i1b.extBut sc.extBut D.i12
  refine wpAny_bind (wpAny_newTuple (wpAny_pure ⟨_, rfl, ?_⟩))
  show Q (.ref c.objs.size) _
  have new : IsPair (c.push { cls := .type "tuple", data := .seq #[u, v] }) c.objs.size u v := Heap.get?_push_size _ rfl
  have nsz : (c.push { cls := .type "tuple", data := .seq #[u, v] }).objs.size = c.objs.size + 1 := Heap.size_push ..
  rw [sz] at new nsz ⊢
  have pu : ∀ q o, c.get? q = some o → (c.push { cls := .type "tuple", data := .seq #[u, v] }).get? q = some o := fun q o e => Heap.get?_push_of_some _ e
  exact k _ (pu _ _ zc) (i1c.at fun o e => pu _ o e) (i2c.at fun o e => pu _ o e) new nsz fun q o n0 n1 n2 e => pu _ _ (kc q o n0 n1 n2 e)
theorem zipH_end {z ti tO fst j1 j2 t1 t2 : Addr} {f : Bool} {ob : Obj} {n1 n2 : Nat} {us vs : Array Value} {Q : PySem.Fin → Shared → Prop} (hx : A.handled = none) (D : ZipApart z ti tO j1 j2 t1 t2)
    (g0 : IsZipHeld s.heap z ti tO fst f) (g1 : s.heap.get? fst = some ob) (g2 : IsPair s.heap ti (.ref j1) (.ref j2)) (g3 : s.heap.IsTupleIter j1 t1 n1) (g4 : s.heap.IsTupleIter j2 t2 n2)
    (g5 : s.heap.IsTuple t1 us) (g6 : s.heap.IsTuple t2 vs) (e12 : us[n1]? = none ∨ vs[n2]? = none)
    (k : ∀ h' e, (∀ c o, c ≠ z → c ≠ j1 → c ≠ j2 → s.heap.get? c = some o → h'.get? c = some o) → (∃ o, h'.get? e = some o ∧ o.cls = .type "StopIteration") → E (.ref e) { s with heap := h' }) :
    wpAny (model prog w) A (Builtin.«zip.__next__» ⟨[.ref z], []⟩) Q E s := by
  show wpAny _ _ (field (.ref z) 2 >>= _) _ _ _
  refine wpAny_bind (wpAny_field g0 rfl (x := .bool false) rfl ?_)
  show wpAny _ _ (field (.ref z) 3 >>= _) _ _ _
  refine wpAny_bind (wpAny_field g0 rfl (x := .ref ti) rfl (wpAny_bind (wpAny_seqItems g2 rfl ?_)))
  show wpAny _ _ (Builtin.SmallTypes.ownedTupleIsFree (.ref z) >>= _) _ _ _
  refine wpAny_bind (wpAny_tupleHeld_zip g0 g1 fun a za sa => ?_)
  rw [if_neg Bool.false_ne_true]
  refine wpAny_bind ?_
  rw [← Array.forIn_toList]
  simp only [List.forIn_nil, List.forIn_cons]
  refine wpAny_bind (wpAny_bind (wpAny_holding ?_))
  have i1a := g3.extBut sa.extBut D.i1z
  have t1a := g5.extBut sa.extBut D.l1z
  show wpAny _ _ (Builtin.SmallTypes.nextOf (.ref j1) >>= _) _ _ _
  cases h1 : us[n1]? with
  | none => exact wpAny_bind (RZ.nextOf_tuple_end (s := { s with heap := a }) hx i1a t1a h1 fun b e xb he => k b e (fun q o n0 n1 _ y => xb _ _ n1 (sa.extBut _ _ n0 y)) he)
  | some u =>
    have h2 : vs[n2]? = none := e12.elim (fun y => by rw [h1] at y; cases y) id
    refine wpAny_bind (RZ.nextOf_tuple_item (s := { s with heap := a }) i1a t1a h1 fun b i1b sb => wpAny_pure (wpAny_pure ?_))
    have i2b := (g4.extBut sa.extBut D.i2z).extBut sb.extBut D.i12.symm
    have t2b := (g6.extBut sa.extBut D.l2z).extBut sb.extBut D.l2i1
    refine wpAny_bind (wpAny_bind (wpAny_holding ?_))
    show wpAny _ _ (Builtin.SmallTypes.nextOf (.ref j2) >>= _) _ _ _
    exact wpAny_bind (RZ.nextOf_tuple_end (s := { s with heap := b }) hx i2b t2b h2 fun c e xc he => k c e (fun q o n0 n1 n2 y => xc _ _ n2 (sb.extBut _ _ n1 (sa.extBut _ _ n0 y))) he)
theorem nextH_item {z ti tO fst j1 j2 t1 t2 : Addr} {f : Bool} {ob : Obj} {n1 n2 : Nat} {us vs : Array Value} {u v : Value} {Q : Option Value → Shared → Prop} (D : ZipApart z ti tO j1 j2 t1 t2)
    (g0 : IsZipHeld s.heap z ti tO fst f) (g1 : s.heap.get? fst = some ob) (g2 : IsPair s.heap ti (.ref j1) (.ref j2)) (g3 : s.heap.IsTupleIter j1 t1 n1) (g4 : s.heap.IsTupleIter j2 t2 n2)
    (g5 : s.heap.IsTuple t1 us) (g6 : s.heap.IsTuple t2 vs) (e1 : us[n1]? = some u) (e2 : vs[n2]? = some v)
    (k : ∀ h', IsZipHeld h' z ti tO fst true → h'.IsTupleIter j1 t1 (n1 + 1) → h'.IsTupleIter j2 t2 (n2 + 1) → IsPair h' s.heap.objs.size u v → h'.objs.size = s.heap.objs.size + 1 → (∀ c o, c ≠ z → c ≠ j1 → c ≠ j2 → s.heap.get? c = some o → h'.get? c = some o) → Q (some (.ref s.heap.objs.size)) { s with heap := h' }) :
    wpAny (model prog w) A (pyNext (.ref z)) Q E s := by
  have ty : s.TypeIs (.ref z) "zip" := ⟨_, g0, rfl⟩
  unfold pyNext
  refine wpAny_bind (wpAny_attempt (wpAny_callSpecial?_slot (name := Str.ofString "__next__") ty F.slot_zip_next ?_))
  exact wpAny_call_entry F.slot_zip_next ty F.entry_zip_next (zipH_item D g0 g1 g2 g3 g4 g5 g6 e1 e2 fun h' a b c d e f => wpAny_pure (k h' a b c d e f)) (F.args_zip_next_1 _)
theorem nextH_end {z ti tO fst j1 j2 t1 t2 : Addr} {f : Bool} {ob : Obj} {n1 n2 : Nat} {us vs : Array Value} {Q : Option Value → Shared → Prop} (hx : A.handled = none) (D : ZipApart z ti tO j1 j2 t1 t2)
    (g0 : IsZipHeld s.heap z ti tO fst f) (g1 : s.heap.get? fst = some ob) (g2 : IsPair s.heap ti (.ref j1) (.ref j2)) (g3 : s.heap.IsTupleIter j1 t1 n1) (g4 : s.heap.IsTupleIter j2 t2 n2)
    (g5 : s.heap.IsTuple t1 us) (g6 : s.heap.IsTuple t2 vs) (e12 : us[n1]? = none ∨ vs[n2]? = none)
    (k : ∀ h', (∀ c o, c ≠ z → c ≠ j1 → c ≠ j2 → s.heap.get? c = some o → h'.get? c = some o) → Q none { s with heap := h' }) :
    wpAny (model prog w) A (pyNext (.ref z)) Q E s := by
  have ty : s.TypeIs (.ref z) "zip" := ⟨_, g0, rfl⟩
  unfold pyNext
  refine wpAny_bind (wpAny_attempt (wpAny_callSpecial?_slot (name := Str.ofString "__next__") ty F.slot_zip_next ?_))
  refine wpAny_call_entry F.slot_zip_next ty F.entry_zip_next (zipH_end hx D g0 g1 g2 g3 g4 g5 g6 e12 fun h' e kp he => ?_) (F.args_zip_next_1 _)
  obtain ⟨o, ho, hc⟩ := he
  exact wpAny_bind (wpAny_isInstance (T := "StopIteration") (b := true) ⟨o, ho, hc⟩ isSubtype_stop (wpAny_pure (k _ kp)))
def refs (b n : Nat) : List Value := (List.range n).map fun j => .ref (b + j)
theorem refs_succ (b n : Nat) : refs b (n + 1) = .ref b :: refs (b + 1) n := by
  unfold refs
  rw [List.range_succ_eq_map, List.map_cons, List.map_map]
  congr 1
  refine List.map_congr_left fun j _ => ?_
  show Value.ref (b + (j + 1)) = Value.ref (b + 1 + j)
  rw [Nat.add_right_comm, Nat.add_assoc]
theorem zip_loop {R : Result → Shared → Prop} {z ti tO fst j1 j2 t1 t2 S : Addr} {us vs : Array Value} (hx : A.handled = none) (D : ZipApart z ti tO j1 j2 t1 t2) (hS : S ∉ [z, ti, j1, j2, t1, t2, fst]) (hF : fst ≠ z ∧ fst ≠ j1 ∧ fst ≠ j2) (hn : us.size = vs.size) (hz : us.size ≤ sizeLine) :
    ∀ (m i : Nat) (f : Bool) (ob : Obj) (s : Shared) (acc : List Value) (c : Nat), us.size - i = m → i ≤ us.size → acc.length = i → IsZipHeld s.heap z ti tO fst f → s.heap.get? fst = some ob → IsPair s.heap ti (.ref j1) (.ref j2) → s.heap.IsTupleIter j1 t1 i → s.heap.IsTupleIter j2 t2 i → s.heap.IsTuple t1 us → s.heap.IsTuple t2 vs →
      s.heap.get? S = some { cls := .type "list", dict := none, data := .seq acc.toArray c, slots := #[] } →
      (∀ h' c', (∀ q o, q ∉ [z, j1, j2, S] → s.heap.get? q = some o → h'.get? q = some o) → h'.get? S = some { cls := .type "list", dict := none, data := .seq (acc ++ refs s.heap.objs.size m).toArray c', slots := #[] } → (∀ j u v, us[i + j]? = some u → vs[i + j]? = some v → IsPair h' (s.heap.objs.size + j) u v) → R (.ok (.ret .none)) { s with heap := h' }) →
      codeAny (model prog w) A (.builtin "list.extend.loop" ⟨[.ref S, .ref z, .none], []⟩) R s := by
  have n1 : S ≠ z := fun e => hS (by simp [e])
  have n2 : S ≠ ti := fun e => hS (by simp [e])
  have n3 : S ≠ j1 := fun e => hS (by simp [e])
  have n4 : S ≠ j2 := fun e => hS (by simp [e])
  have n5 : S ≠ t1 := fun e => hS (by simp [e])
  have n6 : S ≠ t2 := fun e => hS (by simp [e])
  have n7 : S ≠ fst := fun e => hS (by simp [e])
  intro m
  induction m with
  | zero =>
    intro i f ob s acc c hm hi ha g0 g1 g2 g3 g4 g5 g6 at0 k
    have hi' : i = us.size := by omega
    refine codeAny_builtin F.entry_extend_loop ?_
    rw [Around.under_plainId F.plain_extend_loop _]
    show wpAny _ A.in1 (pyNext (.ref z) >>= _) _ _ s
    refine wpAny_bind (nextH_end (A := A.in1) hx D g0 g1 g2 g3 g4 g5 g6 (.inl (Array.getElem?_eq_none (by omega))) fun h' kp => wpAny_pure ?_)
    refine k h' c (fun q o hq e => kp q o (fun y => hq (by simp [y])) (fun y => hq (by simp [y])) (fun y => hq (by simp [y])) e) ?_ fun j u v e1 _ => ?_
    · rw [show refs s.heap.objs.size 0 = [] from rfl, List.append_nil]
      exact kp S _ n1 n3 n4 at0
    · rw [Array.getElem?_eq_none (by omega)] at e1
      cases e1
  | succ m ih =>
    intro i f ob s acc c hm hi ha g0 g1 g2 g3 g4 g5 g6 at0 k
    have lt : i < us.size := by omega
    refine codeAny_builtin F.entry_extend_loop ?_
    rw [Around.under_plainId F.plain_extend_loop _]
    show wpAny _ A.in1 (pyNext (.ref z) >>= _) _ _ s
    refine wpAny_bind (nextH_item D g0 g1 g2 g3 g4 g5 g6 (Array.getElem?_eq_getElem lt) (Array.getElem?_eq_getElem (by omega : i < vs.size)) fun h1 a0 a3 a4 ap az kp => ?_)
    have at1 := kp S _ n1 n3 n4 at0
    show wpAny _ A.in1 (updateSeq S (·.push (.ref s.heap.objs.size)) >>= _) _ _ _
    refine wpAny_bind (wpAny_updateSeq at1 rfl (wpAny_pure ⟨plainId_quiet F.plain_extend_loop _, ?_⟩) ?_ ?_)
    · obtain ⟨c2, at2⟩ : ∃ c2, (h1.update S (Obj.mapSeq (·.push (.ref s.heap.objs.size)))).get? S = some { cls := .type "list", dict := none, data := .seq (acc.toArray.push (.ref s.heap.objs.size)) c2, slots := #[] } := ⟨_, Heap.get?_update_self _ at1 rfl⟩
      have up := kp
      have xb : Heap.ExtBut S h1 (h1.update S (Obj.mapSeq (·.push (.ref s.heap.objs.size)))) := fun q o hq e => (Heap.get?_update_other _ _ (Ne.symm hq)).trans e
      have sz2 : (h1.update S (Obj.mapSeq (·.push (.ref s.heap.objs.size)))).objs.size = s.heap.objs.size + 1 := by rw [← az]; exact Heap.size_update ..
      have tt1 : h1.IsTuple t1 us := by
        obtain ⟨o, e, r⟩ := g5
        exact ⟨o, kp _ _ D.l1z D.l1i1 D.l1i2 e, r⟩
      have tt2 : h1.IsTuple t2 vs := by
        obtain ⟨o, e, r⟩ := g6
        exact ⟨o, kp _ _ D.l2z D.l2i1 D.l2i2 e, r⟩
      have gti : IsPair h1 ti (.ref j1) (.ref j2) := kp _ _ D.TIz D.TIi1 D.TIi2 g2
      have gf := kp _ _ hF.1 hF.2.1 hF.2.2 g1
      generalize h1.update S (Obj.mapSeq (·.push (.ref s.heap.objs.size))) = h2 at *
      refine ih (i + 1) true ob { s with heap := h2 } (acc ++ [.ref s.heap.objs.size]) c2 (by omega) lt (by rw [List.length_append, ha]; rfl) (xb _ _ n1.symm a0) (xb _ _ n7.symm gf) (xb _ _ n2.symm gti) (a3.extBut xb n3.symm) (a4.extBut xb n4.symm) (tt1.extBut xb n5.symm) (tt2.extBut xb n6.symm) ?_ fun h' c' kp' at' pr => ?_
      · rw [at2, List.push_toArray]
      · have ns : ∀ q o, s.heap.get? q = some o → q ≠ s.heap.objs.size := fun q o e => Nat.ne_of_lt (Heap.lt_size e)
        refine k h' c' (fun q o hq e => ?_) ?_ fun j u v e1 e2 => ?_
        · have q1 : q ≠ z := fun y => hq (by simp [y])
          have q2 : q ≠ j1 := fun y => hq (by simp [y])
          have q3 : q ≠ j2 := fun y => hq (by simp [y])
          have q4 : q ≠ S := fun y => hq (by simp [y])
          exact kp' q o hq (xb _ _ q4 (kp q o q1 q2 q3 e))
        · rw [at']
          show some _ = some _
          rw [sz2, refs_succ, List.append_assoc]
          rfl
        · cases j with
          | zero =>
            have lz : z < s.heap.objs.size := Heap.lt_size g0
            have l1 : j1 < s.heap.objs.size := let ⟨_, e, _⟩ := g3; Heap.lt_size e
            have l2 : j2 < s.heap.objs.size := let ⟨_, e, _⟩ := g4; Heap.lt_size e
            have lS : S < s.heap.objs.size := Heap.lt_size at0
            rw [Nat.add_zero, Array.getElem?_eq_getElem lt] at e1
            rw [Nat.add_zero, Array.getElem?_eq_getElem (show i < vs.size by omega)] at e2
            cases e1
            cases e2
            refine kp' _ _ (fun y => ?_) (xb _ _ (Nat.ne_of_gt lS) ap)
            have y : s.heap.objs.size = z ∨ s.heap.objs.size = j1 ∨ s.heap.objs.size = j2 ∨ s.heap.objs.size = S := by simpa using y
            rcases y with y | y | y | y
            · exact Nat.ne_of_gt lz y
            · exact Nat.ne_of_gt l1 y
            · exact Nat.ne_of_gt l2 y
            · exact Nat.ne_of_gt lS y
          | succ j =>
            have := pr j u v (by rw [Nat.add_right_comm]; exact e1) (by rw [Nat.add_right_comm]; exact e2)
            have this : IsPair h' (h2.objs.size + j) u v := this
            rw [sz2] at this
            rw [show s.heap.objs.size + (j + 1) = s.heap.objs.size + 1 + j from by omega]
            exact this
    · rw [List.size_toArray]
      omega
    · show (acc.toArray.push _).size ≤ sizeLine + 1
      rw [Array.size_push, List.size_toArray]
      omega
theorem zip_start {R : Result → Shared → Prop} {z ti tO j1 j2 t1 t2 S : Addr} {us vs : Array Value} {p q : Value} {c : Nat} (hx : A.handled = none) (D : ZipApart z ti tO j1 j2 t1 t2) (hS : S ∉ [z, ti, tO, j1, j2, t1, t2]) (hn : us.size = vs.size) (hz : us.size ≤ sizeLine)
    (g0 : IsZip s.heap z ti tO .none) (gO : IsPair s.heap tO p q) (g2 : IsPair s.heap ti (.ref j1) (.ref j2)) (g3 : s.heap.IsTupleIter j1 t1 0) (g4 : s.heap.IsTupleIter j2 t2 0) (g5 : s.heap.IsTuple t1 us) (g6 : s.heap.IsTuple t2 vs)
    (at0 : s.heap.get? S = some { cls := .type "list", dict := none, data := .seq #[] c, slots := #[] })
    (k : ∀ h' c', (∀ q o, q ∉ [z, tO, j1, j2, S] → s.heap.get? q = some o → h'.get? q = some o) → h'.get? S = some { cls := .type "list", dict := none, data := .seq (refs s.heap.objs.size us.size).toArray c', slots := #[] } → (∀ j u v, us[j]? = some u → vs[j]? = some v → IsPair h' (s.heap.objs.size + j) u v) → R (.ok (.ret .none)) { s with heap := h' }) :
    codeAny (model prog w) A (.builtin "list.extend.loop" ⟨[.ref S, .ref z, .none], []⟩) R s := by
  have n1 : S ≠ z := fun e => hS (by simp [e])
  have n2 : S ≠ ti := fun e => hS (by simp [e])
  have n0 : S ≠ tO := fun e => hS (by simp [e])
  have n3 : S ≠ j1 := fun e => hS (by simp [e])
  have n4 : S ≠ j2 := fun e => hS (by simp [e])
  have n5 : S ≠ t1 := fun e => hS (by simp [e])
  have n6 : S ≠ t2 := fun e => hS (by simp [e])
  have lz : z < s.heap.objs.size := Heap.lt_size g0
  have l1 : j1 < s.heap.objs.size := let ⟨_, e, _⟩ := g3; Heap.lt_size e
  have l2 : j2 < s.heap.objs.size := let ⟨_, e, _⟩ := g4; Heap.lt_size e
  have lS : S < s.heap.objs.size := Heap.lt_size at0
  refine codeAny_builtin F.entry_extend_loop ?_
  rw [Around.under_plainId F.plain_extend_loop _]
  show wpAny _ A.in1 (pyNext (.ref z) >>= _) _ _ s
  by_cases h0 : us.size = 0
  · refine wpAny_bind (RZ.pyNext_zipT_end (A := A.in1) hx D g0 g2 gO g3 g4 g5 g6 (.inl (Array.getElem?_eq_none (by omega))) fun h' kp => wpAny_pure ?_)
    refine k h' c (fun q o hq e => kp q o (fun y => hq (by simp [y])) (fun y => hq (by simp [y])) (fun y => hq (by simp [y])) (fun y => hq (by simp [y])) e) ?_ fun j u v e1 _ => ?_
    · rw [h0]
      exact kp S _ n1 n0 n3 n4 at0
    · rw [Array.getElem?_eq_none (by omega)] at e1
      cases e1
  · have lt : 0 < us.size := by omega
    refine wpAny_bind (RZ.pyNext_zipT_item D g0 g2 gO g3 g4 g5 g6 (Array.getElem?_eq_getElem lt) (Array.getElem?_eq_getElem (by omega : 0 < vs.size)) fun h1 a0 aO a3 a4 ap az kp => ?_)
    have at1 := kp S _ n1 n0 n3 n4 at0
    show wpAny _ A.in1 (updateSeq S (·.push (.ref s.heap.objs.size)) >>= _) _ _ _
    refine wpAny_bind (wpAny_updateSeq at1 rfl (wpAny_pure ⟨plainId_quiet F.plain_extend_loop _, ?_⟩) (by show 0 ≤ _; exact Nat.zero_le _) ?_)
    · obtain ⟨c2, at2⟩ : ∃ c2, (h1.update S (Obj.mapSeq (·.push (.ref s.heap.objs.size)))).get? S = some { cls := .type "list", dict := none, data := .seq [Value.ref s.heap.objs.size].toArray c2, slots := #[] } := ⟨_, Heap.get?_update_self _ at1 rfl⟩
      have xb : Heap.ExtBut S h1 (h1.update S (Obj.mapSeq (·.push (.ref s.heap.objs.size)))) := fun q o hq e => (Heap.get?_update_other _ _ (Ne.symm hq)).trans e
      have sz2 : (h1.update S (Obj.mapSeq (·.push (.ref s.heap.objs.size)))).objs.size = s.heap.objs.size + 1 := by rw [← az]; exact Heap.size_update ..
      have tt1 : h1.IsTuple t1 us := by
        obtain ⟨o, e, r⟩ := g5
        exact ⟨o, kp _ _ D.l1z D.l1TO D.l1i1 D.l1i2 e, r⟩
      have tt2 : h1.IsTuple t2 vs := by
        obtain ⟨o, e, r⟩ := g6
        exact ⟨o, kp _ _ D.l2z D.l2TO D.l2i1 D.l2i2 e, r⟩
      have gti : IsPair h1 ti (.ref j1) (.ref j2) := kp _ _ D.TIz D.TITO D.TIi1 D.TIi2 g2
      generalize h1.update S (Obj.mapSeq (·.push (.ref s.heap.objs.size))) = h2 at *
      have hS2 : S ∉ [z, ti, j1, j2, t1, t2, s.heap.objs.size] := by
        intro y
        simp only [List.mem_cons, List.not_mem_nil, or_false] at y
        rcases y with y | y | y | y | y | y | y
        · exact n1 y
        · exact n2 y
        · exact n3 y
        · exact n4 y
        · exact n5 y
        · exact n6 y
        · exact Nat.ne_of_lt lS y
      refine zip_loop hx D hS2 ⟨Nat.ne_of_gt lz, Nat.ne_of_gt l1, Nat.ne_of_gt l2⟩ hn hz (us.size - 1) 1 false _ { s with heap := h2 } [.ref s.heap.objs.size] c2 rfl lt rfl (xb _ _ n1.symm a0) (xb _ _ (Nat.ne_of_gt lS) ap) (xb _ _ n2.symm gti) (a3.extBut xb n3.symm) (a4.extBut xb n4.symm) (tt1.extBut xb n5.symm) (tt2.extBut xb n6.symm) at2 fun h' c' kp' at' pr => ?_
      refine k h' c' (fun q o hq e => ?_) ?_ fun j u v e1 e2 => ?_
      · have q1 : q ≠ z := fun y => hq (by simp [y])
        have q0 : q ≠ tO := fun y => hq (by simp [y])
        have q2 : q ≠ j1 := fun y => hq (by simp [y])
        have q3 : q ≠ j2 := fun y => hq (by simp [y])
        have q4 : q ≠ S := fun y => hq (by simp [y])
        exact kp' q o (fun y => by
          have y : q = z ∨ q = j1 ∨ q = j2 ∨ q = S := by simpa using y
          rcases y with y | y | y | y
          · exact q1 y
          · exact q2 y
          · exact q3 y
          · exact q4 y) (xb _ _ q4 (kp q o q1 q0 q2 q3 e))
      · rw [at']
        show some _ = some _
        rw [show us.size = us.size - 1 + 1 from by omega, refs_succ, sz2]
        rfl
      · cases j with
        | zero =>
          rw [Array.getElem?_eq_getElem lt] at e1
          rw [Array.getElem?_eq_getElem (show 0 < vs.size by omega)] at e2
          cases e1
          cases e2
          refine kp' _ _ (fun y => ?_) (xb _ _ (Nat.ne_of_gt lS) ap)
          have y : s.heap.objs.size = z ∨ s.heap.objs.size = j1 ∨ s.heap.objs.size = j2 ∨ s.heap.objs.size = S := by simpa using y
          rcases y with y | y | y | y
          · exact Nat.ne_of_gt lz y
          · exact Nat.ne_of_gt l1 y
          · exact Nat.ne_of_gt l2 y
          · exact Nat.ne_of_gt lS y
        | succ j =>
          have := pr j u v (by rw [Nat.add_comm]; exact e1) (by rw [Nat.add_comm]; exact e2)
          have this : IsPair h' (h2.objs.size + j) u v := this
          rw [sz2] at this
          rw [show s.heap.objs.size + (j + 1) = s.heap.objs.size + 1 + j from by omega]
          exact this
    · show (#[].push _).size ≤ sizeLine + 1
      exact Nat.le_add_left _ _
def Kp (s s' : Shared) : Prop := (∀ b o, s.heap.get? b = some o → s'.heap.get? b = some o) ∧ s'.heap.objs.size = s.heap.objs.size + 1
theorem list_call {I : Addr} {T : String} {Q : Value → Shared → Prop} (hI : I ≠ s.heap.objs.size)
    (ty : ∀ s' : Shared, Kp s s' → s'.TypeIs (.ref I) T) (nl : (Value.type T == Value.type "list" || Value.type T == Value.type "tuple") = false)
    (self : ∀ (s' : Shared) (Q : Value → Shared → Prop) (E : Value → Shared → Prop), Kp s s' → Q (.ref I) s' → wpAny (model prog w) A.in1.in1 (pyIter (.ref I)) Q E s')
    (hint : ∀ (s' : Shared) (Q : Bool → Shared → Prop) (E : Value → Shared → Prop), Kp s s' → (∀ b tk, Q b { s' with toks := tk }) → wpAny (model prog w) A.in1.in1 (Builtin.List.listLengthHint (.ref I)) Q E s')
    (loop : ∀ (h1 : Heap) (c tk : Nat), Kp s { s with heap := h1 } → h1.get? s.heap.objs.size = some { cls := .type "list", dict := none, data := .seq #[] c, slots := #[] } →
      codeAny (model prog w) A.in1 (.builtin "list.extend.loop" ⟨[.ref s.heap.objs.size, .ref I, .none], []⟩) (wants (fun r s₂ => r = Value.none ∧ Q (Value.ref s.heap.objs.size) s₂) E) { s with heap := h1, toks := tk }) :
    wpAny (model prog w) A (call (.type "list") [.ref I]) Q E s := by
  refine callType_codes (Q₁ := fun v s1 => v = .ref s.heap.objs.size ∧ s1 = { s with heap := s.heap.push { cls := .type "list", data := .seq #[] } }) F.called_list (F.typeCall_list_1 _) F.entry_list_init
    (code_list_new _ ⟨rfl, rfl⟩) fun v s1 h1 => ?_
  obtain ⟨e1, e2⟩ := h1
  subst e1 e2
  have at0 : (s.heap.push { cls := .type "list", data := .seq #[] }).get? s.heap.objs.size = some { cls := .type "list", data := .seq #[] } := Heap.get?_push_size _ rfl
  have kp0 : ∀ b o, s.heap.get? b = some o → (s.heap.push { cls := .type "list", data := .seq #[] }).get? b = some o := fun b o e => Heap.get?_push_of_some _ e
  have sz0 : (s.heap.push { cls := .type "list", data := .seq #[] }).objs.size = s.heap.objs.size + 1 := Heap.size_push ..
  refine ⟨⟨_, at0, rfl⟩, F.args_list_init_2 _ _, ?_⟩
  have old : ∀ b o, s.heap.get? b = some o → b ≠ s.heap.objs.size := fun b o e => Nat.ne_of_lt (Heap.lt_size e)
  generalize hs : s.heap.objs.size = S at *
  generalize s.heap.push { cls := .type "list", data := .seq #[] } = g0 at *
  have oth : ∀ (h : Heap) (f : Obj → Obj), (∀ b o, s.heap.get? b = some o → h.get? b = some o) → ∀ b o, s.heap.get? b = some o → (h.update S f).get? b = some o := fun h f k b o e => (Heap.get?_update_other _ _ (Ne.symm (old b o e))).trans (k b o e)
  show wpAny _ A.in1.in1 (Builtin.List.listItems (.ref S) >>= fun old => Builtin.List.listUpdate (.ref S) (fun _ => #[]) >>= fun _ => letGo old.toList.reverse >>= fun _ => Builtin.List.listExtendWith (.ref S) (.ref I) .none) _ _ _
  unfold Builtin.List.listItems
  refine wpAny_bind (wpAny_bind (wpAny_seqItems at0 rfl (wpAny_pure ?_)))
  unfold Builtin.List.listUpdate
  refine wpAny_bind (wpAny_updateSeq at0 rfl ?_)
  have at1 := Heap.get?_update_self (Obj.mapSeq (fun _ => (#[] : Array Value))) at0 rfl
  have kp1 := oth g0 (Obj.mapSeq (fun _ => (#[] : Array Value))) kp0
  have sz1 : (g0.update S (Obj.mapSeq (fun _ => (#[] : Array Value)))).objs.size = S + 1 := by rw [← sz0]; exact Heap.size_update ..
  refine wpAny_bind (wpAny_letGo ?_)
  generalize g0.update S (Obj.mapSeq (fun _ => (#[] : Array Value))) = g1 at *
  have k1 : Kp s { s with heap := g1 } := ⟨kp1, sz1.trans (by rw [hs])⟩
  unfold Builtin.List.listExtendWith
  refine wpAny_bind (wpAny_typeOf (ty { s with heap := g1 } k1) ?_)
  have nr : Builtin.List.listSameRef (.ref S) (.ref I) = false := by unfold Builtin.List.listSameRef; simp [Ne.symm hI]
  rw [nr, Bool.false_or, nl, if_neg Bool.false_ne_true]
  refine wpAny_bind (self { s with heap := g1 } _ _ k1 ?_)
  refine wpAny_bind (wpAny_holding ?_)
  refine hint { s with heap := g1 } _ _ k1 fun b tk => ?_
  have quiet := plainId_quiet F.plain_extend_loop ⟨[.ref S, .ref I, .none], []⟩
  dsimp only
  split
  · refine wpAny_bind (wpAny_rule ?_)
    unfold Builtin.List.listTouch Builtin.List.listUpdate
    refine wpAny_bind (wpAny_bind (wpAny_updateSeq at1 rfl ?_))
    have at2 := Heap.get?_update_self (Obj.mapSeq (·.push Value.none)) at1 rfl
    have kp2 := oth g1 (Obj.mapSeq (·.push Value.none)) kp1
    have sz2 : (g1.update S (Obj.mapSeq (·.push Value.none))).objs.size = S + 1 := by rw [← sz1]; exact Heap.size_update ..
    refine wpAny_updateSeq (hz := by seq_fits) at2 rfl ?_
    have at3 := Heap.get?_update_self (Obj.mapSeq (·.pop)) at2 rfl
    have kp3 := oth (g1.update S (Obj.mapSeq (·.push Value.none))) (Obj.mapSeq (·.pop)) kp2
    have sz3 : ((g1.update S (Obj.mapSeq (·.push Value.none))).update S (Obj.mapSeq (·.pop))).objs.size = S + 1 := by rw [← sz2]; exact Heap.size_update ..
    exact wpAny_pure ⟨quiet, loop _ _ tk ⟨kp3, sz3.trans (by rw [hs])⟩ at3⟩
  · exact wpAny_pure ⟨quiet, loop _ _ tk k1 at1⟩
theorem len0_zip : typeLookup (.type "zip") "__len__" = pure none := by rw [typeLookup_type, builtinLookup_eq_fast]; kernel_rfl
theorem hint0_zip : typeLookup (.type "zip") "__length_hint__" = pure none := by rw [typeLookup_type, builtinLookup_eq_fast]; kernel_rfl
theorem hint_zip {z : Addr} {Q : Bool → Shared → Prop} (ty : s.TypeIs (.ref z) "zip") (h : ∀ b tk, Q b { s with toks := tk }) : wpAny (model prog w) A (Builtin.List.listLengthHint (.ref z)) Q E s := by
  unfold Builtin.List.listLengthHint
  refine wpAny_bind (wpAny_specialOf ty len0_zip ?_)
  show wpAny _ A (specialOf (Value.ref z) (Str.ofString "__length_hint__") >>= _) _ _ _
  exact wpAny_bind (wpAny_specialOf ty hint0_zip (wpAny_pure (h true s.toks)))
theorem list_zip {z ti tO j1 j2 t1 t2 : Addr} {us vs : Array Value} {p q : Value} {Q : Value → Shared → Prop} (hx : A.handled = none) (D : ZipApart z ti tO j1 j2 t1 t2) (hn : us.size = vs.size) (hz : us.size ≤ sizeLine)
    (g0 : IsZip s.heap z ti tO .none) (gO : IsPair s.heap tO p q) (g2 : IsPair s.heap ti (.ref j1) (.ref j2)) (g3 : s.heap.IsTupleIter j1 t1 0) (g4 : s.heap.IsTupleIter j2 t2 0) (g5 : s.heap.IsTuple t1 us) (g6 : s.heap.IsTuple t2 vs)
    (k : ∀ h' tk c', (∀ b o, b ∉ [z, tO, j1, j2] → s.heap.get? b = some o → h'.get? b = some o) → h'.get? s.heap.objs.size = some { cls := .type "list", dict := none, data := .seq (refs (s.heap.objs.size + 1) us.size).toArray c', slots := #[] } →
      (∀ j u v, us[j]? = some u → vs[j]? = some v → IsPair h' (s.heap.objs.size + 1 + j) u v) → Q (.ref s.heap.objs.size) { s with heap := h', toks := tk }) :
    wpAny (model prog w) A (call (.type "list") [.ref z]) Q E s := by
  have lo : ∀ {b : Addr} {o : Obj}, s.heap.get? b = some o → s.heap.objs.size ≠ b := fun e => Nat.ne_of_gt (Heap.lt_size e)
  have lz := lo g0
  refine list_call (T := "zip") lz.symm (fun s' kp => ⟨_, kp.1 _ _ g0, rfl⟩) (by decide) (fun s' Q E kp h => wpAny_pyIter_zip (kp.1 _ _ g0) h) (fun s' Q E kp h => hint_zip ⟨_, kp.1 _ _ g0, rfl⟩ h) fun h1 c tk kp at0 => ?_
  have l3 : s.heap.objs.size ≠ j1 := let ⟨_, e, _⟩ := g3; lo e
  have l4 : s.heap.objs.size ≠ j2 := let ⟨_, e, _⟩ := g4; lo e
  have l5 : s.heap.objs.size ≠ t1 := let ⟨_, e, _⟩ := g5; lo e
  have l6 : s.heap.objs.size ≠ t2 := let ⟨_, e, _⟩ := g6; lo e
  have l2 := lo g2
  have l0 := lo gO
  refine zip_start (s := { s with heap := h1, toks := tk }) hx D ?_ hn hz (kp.1 _ _ g0) (kp.1 _ _ gO) (kp.1 _ _ g2) (g3.at fun o e => kp.1 _ o e) (g4.at fun o e => kp.1 _ o e) ?_ ?_ at0 fun h' c' kp' at' pr => ⟨rfl, ?_⟩
  · intro y
    simp only [List.mem_cons, List.not_mem_nil, or_false] at y
    rcases y with y | y | y | y | y | y | y
    · exact lz y
    · exact l2 y
    · exact l0 y
    · exact l3 y
    · exact l4 y
    · exact l5 y
    · exact l6 y
  · obtain ⟨o, e, r⟩ := g5
    exact ⟨o, kp.1 _ _ e, r⟩
  · obtain ⟨o, e, r⟩ := g6
    exact ⟨o, kp.1 _ _ e, r⟩
  · have sz : h1.objs.size = s.heap.objs.size + 1 := kp.2
    have at' : h'.get? s.heap.objs.size = some { cls := .type "list", dict := none, data := .seq (refs h1.objs.size us.size).toArray c', slots := #[] } := at'
    have pr : ∀ j u v, us[j]? = some u → vs[j]? = some v → IsPair h' (h1.objs.size + j) u v := pr
    rw [sz] at at' pr
    refine k h' tk c' (fun b o hb e => kp' b o (fun y => ?_) (kp.1 b o e)) at' pr
    simp only [List.mem_cons, List.not_mem_nil, or_false] at y hb
    rcases y with y | y | y | y | y
    · exact hb (.inl y)
    · exact hb (.inr (.inl y))
    · exact hb (.inr (.inr (.inl y)))
    · exact hb (.inr (.inr (.inr y)))
    · exact lo e y.symm
end
def refsV (b n : Nat) : List V := (List.range n).map fun j => .ref (b + j)
theorem refs_vals : ∀ (n b : Nat), Vals (refsV b n) (refs b n) := by
  have g : ∀ (l : List Nat) (b : Nat), Vals (l.map fun j => V.ref (b + j)) (l.map fun j => Value.ref (b + j)) := by
    intro l b
    induction l with
    | nil => exact .nil
    | cons x l ih => exact .cons rfl ih
  exact fun n b => g _ b
def newH (H : Hp) (q b : Addr) (xs ys : List V) : Hp := fun a => if a = q then some (.lst (refsV b xs.length)) else if b ≤ a ∧ a < b + xs.length then (match xs[a - b]?, ys[a - b]? with
  | some x, some y => some (.tup [x, y])
  | _, _ => H a) else H a
def tLstZip (K : PySem.W.Frag) (ta : TA) : TE := fun σ H Q => ta σ H fun vs H1 => ∃ a b xs ys, vs = [.ref a, .ref b] ∧ SqT K H1 a xs ∧ SqT K H1 b ys ∧ xs.length = ys.length ∧ ∀ q c : Addr, q < c → (∀ d, q ≤ d → H1 d = none) → Q (.ref q) (newH H1 q c xs ys)
theorem newH_old {H : Hp} {q b a : Addr} {xs ys : List V} (h1 : a < q) (h2 : q < b) : newH H q b xs ys a = H a := by
  unfold newH
  rw [if_neg (Nat.ne_of_lt h1), if_neg (fun z => Nat.lt_irrefl _ (Nat.lt_of_lt_of_le (Nat.lt_trans h1 h2) z.1))]
theorem pe_lstZip {X : Cx} {e e2 : Expr} {ta : TA} {p p2 pos pos2 : Pos} (hc : X.calm = true) (hg : Gl X "list") (hm : X.mg "list" = none) (hg2 : Gl X "zip") (hm2 : X.mg "zip" = none) (ha : PA X [e, e2] ta)
    (h1 : starEach [e, e2] X.env = (false, eval e X.env) :: starEach [e2] X.env) (hpl : (backTo pos2 (starEach [e2] X.env)).any (·.1) = false)
    (h2 : starEach [.Call (.Name "zip" p2) [e, e2] [] pos2] X.env = (false, eval (.Call (.Name "zip" p2) [e, e2] [] pos2) X.env) :: starEach [] X.env) :
    PE X (.Call (.Name "list" p) [.Call (.Name "zip" p2) [e, e2] [] pos2] [] pos) (tLstZip X.K ta) := by
  refine ⟨fun pins s σ H Q I h => ?_⟩
  refine Call_ (ld_blt I hg hm PyProof.Rows.boot_list (PyProof.Rows.callWith_type1 (args_cons ?_ h2) h2 rfl))
  refine Call_ (ld_blt I hg2 hm2 PyProof.Rows.boot_zip (PyProof.Rows.callWith_type1 ?_ h1 hpl))
  refine thn (ha.run pos2 pins s σ H _ I h) fun us s1 ⟨vs, H1, I1, r1, a, b, xs, ys, ev, hqx, hqy, hl, q⟩ => ?_
  subst ev
  cases r1 with
  | cons ra rr =>
    cases rr with
    | cons rb rr =>
      cases rr
      cases ra
      cases rb
      obtain ⟨its, rv, px, zx⟩ := I1.tuple hqx
      obtain ⟨jts, rw', py, _⟩ := I1.tuple hqy
      have lx := rv.length
      have ly := rw'.length
      obtain ⟨o1, f1, _⟩ := id px
      obtain ⟨o2, f2, _⟩ := id py
      refine RZ.call_zipT (show s1.heap.IsTuple a its.toArray from px) (show s1.heap.IsTuple b jts.toArray from py) fun g hz hTI hTO i1 i2 hsz hk => args_nil ?_
      have e1 : its.toArray.size = jts.toArray.size := by rw [List.size_toArray, List.size_toArray]; omega
      have e2 : its.toArray.size ≤ sizeLine := by rw [List.size_toArray]; omega
      refine list_zip (s := { s1 with heap := g }) (us := its.toArray) (vs := jts.toArray) (I1.ok.hd hc) (PySem.W.ktu_apart s1.heap.objs.size a b (Heap.lt_size f1) (Heap.lt_size f2)) e1 e2 hz hTO hTI i1 i2 ?_ ?_ fun h' tk c' kp at' pr => ?_
      · obtain ⟨o, e, r⟩ := px
        exact ⟨o, hk _ _ e, r⟩
      · obtain ⟨o, e, r⟩ := py
        exact ⟨o, hk _ _ e, r⟩
      · have old : ∀ d o, s1.heap.get? d = some o → h'.get? d = some o := fun d o e => kp d o (fun y => by
          have lt := Heap.lt_size e
          simp only [List.mem_cons, List.not_mem_nil, or_false] at y
          rcases y with y | y | y | y <;> rw [y] at lt
          · exact absurd lt (Nat.not_lt.mpr (Nat.le_add_right _ _))
          · exact absurd lt (Nat.not_lt.mpr (Nat.le_add_right _ _))
          · exact absurd lt (Nat.lt_irrefl _)
          · exact absurd lt (Nat.not_lt.mpr (Nat.le_add_right _ _))) (hk d o e)
        have hsz' : s1.heap.objs.size < g.objs.size := by rw [hsz]; exact Nat.lt_add_of_pos_right (by decide)
        have at' : h'.get? g.objs.size = some { cls := .type "list", dict := none, data := .seq (refs (g.objs.size + 1) its.toArray.size).toArray c', slots := #[] } := at'
        have pr : ∀ j u v, its.toArray[j]? = some u → jts.toArray[j]? = some v → IsPair h' (g.objs.size + 1 + j) u v := pr
        generalize g.objs.size = N at *
        have no : ∀ d, d < s1.heap.objs.size → newH H1 N (N + 1) xs ys d = H1 d := fun d hd => newH_old (Nat.lt_trans hd hsz') (Nat.lt_succ_self _)
        have lt : ∀ d o, H1 d = some o → d < s1.heap.objs.size := fun d o e => (I1.hok d o e).lt
        have kpH : ∀ d o, H1 d = some o → newH H1 N (N + 1) xs ys d = some o := fun d o e => (no d (lt d o e)).trans e
        have un : Un (frs X.stack) [] H1 (newH H1 N (N + 1) xs ys) s1.heap h' := {
          keep := fun d o e _ _ _ => old d o e
          slot := fun d o e _ _ _ => ⟨o.slots, old d o e⟩
          free := fun d o e n _ => (no d (Heap.lt_size e)).trans n
          there := fun d o e _ => ⟨o, old d o e⟩
          tups := fun d _ e => kpH d _ e
          frzs := fun d _ _ e => kpH d _ e
          tbls := fun d ps e => ⟨#[], by rw [kpH d _ e]; simp⟩ }
        have ok : HOk X.prog X.w (newH H1 N (N + 1) xs ys) h' := fun d o e => by
          have e0 := e
          unfold newH at e
          split at e
          · rename_i hd
            cases e
            rw [hd]
            refine ⟨?_, refs (N + 1) its.toArray.size, c', ?_, at'⟩
            · show ((List.range xs.length).map _).length ≤ sizeLine
              rw [List.length_map, List.length_range]
              exact zx
            · rw [List.size_toArray, ← lx]
              exact refs_vals _ _
          · split at e
            · rename_i hr
              split at e
              · rename_i x y hx hy
                cases e
                obtain ⟨u, hu, ru⟩ := rv.get hx
                obtain ⟨v, hv, rv2⟩ := rw'.get hy
                have := pr (d - (N + 1)) u v (by simpa using hu) (by simpa using hv)
                rw [Nat.add_sub_cancel' hr.1] at this
                exact ⟨by show 2 ≤ sizeLine; decide, [u, v], .cons ru (.cons rv2 .nil), ⟨_, this, rfl, _, rfl⟩⟩
              · exact (I1.hok d o e).stay (fun b u _ y => old b u y) (fun b y => kpH b _ y) fun b _ y => kpH b _ y
            · exact (I1.hok d o e).stay (fun b u _ y => old b u y) (fun b y => kpH b _ y) fun b _ y => kpH b _ y
        exact ⟨.ref N, newH H1 N (N + 1) xs ys, I1.call' (ch := []) rfl un ok I1.bare (fun b m => by cases m), rfl, q _ _ (Nat.lt_succ_self _) fun d hd => I1.hok.fresh (Nat.le_trans (Nat.le_of_lt hsz') hd)⟩
theorem refsV_succ (b n : Nat) : refsV b (n + 1) = .ref b :: refsV (b + 1) n := by
  unfold refsV
  rw [List.range_succ_eq_map, List.map_cons, List.map_map]
  congr 1
  refine List.map_congr_left fun j _ => ?_
  show V.ref (b + (j + 1)) = V.ref (b + 1 + j)
  rw [Nat.add_right_comm, Nat.add_assoc]
def pZipT : D → D → Option D
  | .tup ds, .tup es => if ds.length = es.length then some (.lst true (zipD ds es)) else none
  | _, _ => none
section
variable {K : PySem.W.Frag} {σ : L2.St} {G H : Hp} {S S' : Addr → Prop} {Q : VK}
theorem zip_rp : ∀ {ds es : List D} {xs ys : List V} {c : Nat}, RpL K H S' ds xs [] → RpL K H S' es ys [] → ds.length = es.length → (∀ j x y, xs[j]? = some x → ys[j]? = some y → H (c + j) = some (.tup [x, y]) ∧ S' (c + j)) → RpL K H S' (zipD ds es) (refsV c xs.length) []
  | [], [], xs, ys, c, h, g, hl, k => by
    rw [h.1]
    exact ⟨rfl, rfl⟩
  | [], _ :: _, _, _, _, _, _, hl, _ => by cases hl
  | _ :: _, [], _, _, _, _, _, hl, _ => by cases hl
  | d :: ds, e :: es, _, _, c, ⟨x, xs, A, B, e1, z1, r1, h⟩, ⟨y, ys, A2, B2, e2, z2, r2, g⟩, hl, k => by
    obtain ⟨hA, hB⟩ := List.append_eq_nil_iff.mp z1.symm
    obtain ⟨hA2, hB2⟩ := List.append_eq_nil_iff.mp z2.symm
    subst hA hB hA2 hB2 e1 e2
    rw [List.length_cons, refsV_succ]
    obtain ⟨k1, k2⟩ := k 0 x y rfl rfl
    refine ⟨.ref c, _, [], [], rfl, rfl, ⟨c, [x, y], rfl, .inl ⟨k2, k1⟩, ⟨x, [y], [], [], rfl, rfl, r1, ⟨y, [], [], [], rfl, rfl, r2, ⟨rfl, rfl⟩⟩⟩⟩, zip_rp h g (Nat.succ.inj hl) fun j u v hu hv => ?_⟩
    have := k (j + 1) u v hu hv
    rw [show c + (j + 1) = c + 1 + j from by omega] at this
    exact this
theorem t_lstZip {es : EvOs} (h : tO K (evN (f2 pZipT) es) σ G Q) : tLstZip K (tOs K es) σ G Q := by
  obtain ⟨S, F, E, o, E', sr, he, q⟩ := h
  unfold evN at he
  split at he
  · rename_i os E1 h1
    refine ⟨S, F, E, os, E1, sr, h1, fun vs G1 S1 T1 F1 ro => ?_⟩
    obtain ⟨S2, ds, z, rp, sd, hf, g⟩ := prim_go ro he q
    obtain ⟨d, e, e1, hf2⟩ := f2_two hf
    subst e1
    obtain ⟨v, vs1, e2, ⟨T2, r⟩, fz, w, vs2, e3, ⟨T3, r2⟩, fz2, e4⟩ := rp
    have e4 : vs2 = [] := e4
    subst e2 e3 e4
    cases d <;> try (cases hf2; done)
    cases e <;> try (cases hf2; done)
    rename_i ds es
    simp only [pZipT] at hf2
    split at hf2
    · rename_i hl
      cases hf2
      obtain ⟨a, xs, ev, hs, rl, _⟩ := rp_tup r fz
      obtain ⟨b, ys, ev2, hs2, rl2, _⟩ := rp_tup r2 fz2
      subst ev ev2
      have lx := rl.length
      have ly := rl2.length
      refine ⟨a, b, xs, ys, rfl, hs, hs2, by omega, fun q c hqc fr => ?_⟩
      have old : ∀ x o, G1 x = some o → x < q := fun x o e => Nat.lt_of_not_le fun z => by rw [fr x z] at e; cases e
      have kp : ∀ x o, G1 x = some o → newH G1 q c xs ys x = some o := fun x o e => (newH_old (old x o e) hqc).trans e
      have at1 : ∀ j x y, xs[j]? = some x → ys[j]? = some y → newH G1 q c xs ys (c + j) = some (.tup [x, y]) := fun j x y hx hy => by
        have hj : j < xs.length := (List.getElem?_eq_some_iff.mp hx).1
        unfold newH
        rw [if_neg (Nat.ne_of_gt (Nat.lt_of_lt_of_le hqc (Nat.le_add_right _ _))), if_pos ⟨Nat.le_add_right _ _, Nat.add_lt_add_left hj c⟩]
        simp only [Nat.add_sub_cancel_left, hx, hy]
      refine g _ _ (fun x => S2 x ∨ (c ≤ x ∧ x < c + xs.length)) [q] ⟨kp, fun _ z => .inl z, fun x hx => ?_, by simp, fun x m => ?_, fun x m hx => ?_, ?_⟩
      · rcases hx with hx | hx
        · exact .inl hx
        · refine .inr ⟨fr x (Nat.le_trans (Nat.le_of_lt hqc) hx.1), ?_⟩
          have hj : x - c < xs.length := (Nat.sub_lt_iff_lt_add hx.1).mpr (by rw [Nat.add_comm]; exact hx.2)
          have := at1 (x - c) _ _ (List.getElem?_eq_getElem hj) (List.getElem?_eq_getElem (show x - c < ys.length by rw [← ly, ← hl, lx]; exact hj))
          rw [Nat.add_sub_cancel' hx.1] at this
          exact ⟨_, this⟩
      · rw [List.mem_singleton.mp m]
        exact fr q (Nat.le_refl _)
      · rw [List.mem_singleton.mp m] at hx
        rcases hx with hx | hx
        · obtain ⟨o, e⟩ := sd q hx
          rw [fr q (Nat.le_refl _)] at e
          cases e
        · exact Nat.lt_irrefl _ (Nat.lt_of_lt_of_le hqc hx.1)
      · refine ⟨q, refsV c xs.length, [], rfl, rfl, ?_, ?_⟩
        · unfold newH
          rw [if_pos rfl]
        · have m1 : RpL K (newH G1 q c xs ys) (fun x => S2 x ∨ (c ≤ x ∧ x < c + xs.length)) ds xs [] := rl.mono (fun x o _ e => kp x o e) (fun _ m => by cases m) fun _ z => .inl z
          have m2 : RpL K (newH G1 q c xs ys) (fun x => S2 x ∨ (c ≤ x ∧ x < c + xs.length)) es ys [] := rl2.mono (fun x o _ e => kp x o e) (fun _ m => by cases m) fun _ z => .inl z
          exact zip_rp m1 m2 hl fun j x y hx hy => ⟨at1 j x y hx hy, .inr ⟨Nat.le_add_right _ _, Nat.add_lt_add_left (List.getElem?_eq_some_iff.mp hx).1 c⟩⟩
    · cases hf2
  · cases he
end
end DE
namespace DE
open PySem PySem.Spec L2
structure Cf where
  N : List Str
  sc : Scope
  fn : Str → Bool
  np : Nat
  blt : List Str
  fns : List (Str × Nat × Fd)
  con : List (Str × D)
  W : Nat
structure Fits (c : Cf) (X : Cx) : Prop where
  N : X.N = c.N
  nd : X.N.Nodup
  sc : X.env.scope = c.sc
  fn : ∀ x, c.fn x = true → X.fn x = true
  calm : X.calm = true
  xe : X.xe = fun _ _ => False
  hu : X.A.units + 64 < cLine
  blt : ∀ x, x ∈ c.blt → X.mg x = none
  fns : ∀ p, p ∈ c.fns → ∃ f fd k ps, FnOk X.prog X.w X.K X.mg X.base CX0 k f fd ps (spF X.K p.2.1 p.2.2) ∧ Room k X.A ∧ X.mg p.1 = some (.ref f) ∧ PySem.W.keepIn X.K (.ref f) = true ∧ Binds X.K fd ps []
  con : ∀ p, p ∈ c.con → ∃ v u, X.mg p.1 = some u ∧ RelV v u ∧ ∀ G S, Rp X.K G S p.2 v []
theorem Fits.hu1 {c : Cf} {X : Cx} (h : Fits c X) : X.A.units + 1 < cLine := by
  have := h.hu
  omega
def ixOf (x : Str) : List Str → Option Nat
  | [] => none
  | y :: ys => if y = x then some 0 else (ixOf x ys).map (· + 1)
theorem ixOf_ok {x : Str} : ∀ {N : List Str} {i : Nat}, ixOf x N = some i → N[i]? = some x := by
  intro N
  induction N with
  | nil => intro i h; cases h
  | cons y ys ih =>
    intro i h
    unfold ixOf at h
    split at h
    · rename_i e
      cases h
      rw [e]
      rfl
    · obtain ⟨j, h1, h2⟩ := Option.map_eq_some_iff.mp h
      subst h2
      exact ih h1
def visB (c : Cf) (x : Str) : Bool := match c.sc.names.lookup x with
  | some .local => true
  | some .cell => true
  | some .free => true
  | _ => false
def glB (c : Cf) (x : Str) : Bool := match c.sc.names.lookup x with
  | some .globalImplicit => true
  | _ => false
def locB (c : Cf) (x : Str) : Bool := match c.sc.names.lookup x with
  | some .local => true
  | some .cell => c.fn x
  | _ => false
def oddB (x : Str) : Bool := (x == ("__debug__" : Str)) || (x == ("__classdict__" : Str)) || decide (x = ("__name__" : Str))
def slot (c : Cf) (x : Str) : Option Nat := if visB c x && !oddB x then ixOf x c.N else none
theorem slot_ok {c : Cf} {X : Cx} {x : Str} {i : Nat} {p : Pos} (f : Fits c X) (h : slot c x = some i) : PE X (.Name x p) (tVar i) := by
  unfold slot at h
  split at h
  · rename_i hv
    simp only [Bool.and_eq_true, Bool.not_eq_true', oddB, Bool.or_eq_false_iff] at hv
    obtain ⟨hv, ⟨hd, hc⟩, _⟩ := hv
    refine pe_var (by rw [f.N]; exact ixOf_ok h) ?_ hd hc
    unfold visB at hv
    unfold Vis
    rw [f.sc]
    split at hv <;> first
      | (rename_i e; exact .inl e)
      | (rename_i e; exact .inr (.inl e))
      | (rename_i e; exact .inr (.inr e))
      | cases hv
  · cases h
theorem gl_ok {c : Cf} {X : Cx} {x : Str} (f : Fits c X) (h : glB c x = true) : Gl X x := by
  show X.env.scope.names.lookup x = some .globalImplicit
  rw [f.sc]
  unfold glB at h
  split at h
  · rename_i e
    exact e
  · cases h
def bltB (c : Cf) (x : Str) : Bool := glB c x && c.blt.contains x && !oddB x
theorem odd_ok {x : Str} (h : oddB x = false) : (x == ("__debug__" : Str)) = false ∧ x ≠ "__name__" := by
  simp only [oddB, Bool.or_eq_false_iff, decide_eq_false_iff_not] at h
  exact ⟨h.1.1, h.2⟩
theorem blt_ok {c : Cf} {X : Cx} {x : Str} (f : Fits c X) (h : bltB c x = true) : Gl X x ∧ X.mg x = none ∧ (x == ("__debug__" : Str)) = false ∧ x ≠ "__name__" := by
  simp only [bltB, Bool.and_eq_true, Bool.not_eq_true'] at h
  obtain ⟨⟨h1, h2⟩, h3⟩ := h
  exact ⟨gl_ok f h1, f.blt x (by simpa using h2), odd_ok h3⟩
def cName (c : Cf) (x : Str) : Option EvO := match slot c x with
  | some i => some (evVar i)
  | none => if glB c x && !oddB x then (c.con.lookup x).map evCon else none
theorem lookup_mem {α β : Type} [BEq α] [LawfulBEq α] {x : α} {b : β} : ∀ {l : List (α × β)}, l.lookup x = some b → (x, b) ∈ l
  | (y, c) :: l, h => by
    rw [List.lookup_cons] at h
    cases e : x == y with
    | true =>
      rw [e] at h
      cases h
      have := eq_of_beq e
      subst this
      exact List.mem_cons_self ..
    | false =>
      rw [e] at h
      exact List.mem_cons_of_mem _ (lookup_mem h)
theorem cName_ok {c : Cf} {X : Cx} {x : Str} {ev : EvO} {p : Pos} (f : Fits c X) (h : cName c x = some ev) : PE X (.Name x p) (tO X.K ev) := by
  unfold cName at h
  split at h
  · rename_i i hi
    cases h
    exact (slot_ok f hi).weak fun σ G Q q => t_var q
  · split at h
    · rename_i hg
      simp only [Bool.and_eq_true, Bool.not_eq_true'] at hg
      obtain ⟨d, h1, h2⟩ := Option.map_eq_some_iff.mp h
      subst h2
      obtain ⟨v, u, hm, r, hr⟩ := f.con _ (lookup_mem h1)
      exact (pe_glob (gl_ok f hg.1) hm r (odd_ok hg.2).1).weak fun σ G Q q => t_con hr q
    · cases h
def cConst : Const → Option EvO
  | .none => some (evCon .non)
  | .bool b => some (evCon (.bl b))
  | .int i => some (evCon (.int i))
  | .str x => some (evCon (.str x))
  | _ => none
theorem cConst_ok {X : Cx} {k : Const} {n : Nat} {p : Pos} {ev : EvO} (h : cConst k = some ev) : PE X (.Constant k n p) (tO X.K ev) := by
  cases k <;> simp only [cConst, reduceCtorEq, Option.some.injEq] at h <;> subst h
  · exact pe_non.weak fun σ G Q q => t_con (d := .non) (fun _ _ => ⟨rfl, rfl⟩) q
  · exact pe_bl.weak fun σ G Q q => t_con (d := .bl _) (fun _ _ => ⟨rfl, rfl⟩) q
  · exact pe_int.weak fun σ G Q q => t_con (d := .int _) (fun _ _ => ⟨rfl, rfl⟩) q
  · exact pe_str.weak fun σ G Q q => t_con (d := .str _) (fun _ _ => ⟨rfl, rfl⟩) q
def cBin : Operator → Option (D → D → Option D)
  | .Add => some pAdd
  | .Sub => some pSub
  | .Mult => some pMul
  | .FloorDiv => some pDiv
  | .Mod => some pMod
  | .Pow => some pPow
  | _ => none
theorem cBin_ok {X : Cx} {op : Operator} {f : D → D → Option D} (h : cBin op = some f) : ∃ r, OpR X (binaryOp op) r ∧ S2 X.K r f := by
  cases op <;> simp only [cBin, reduceCtorEq, Option.some.injEq] at h <;> subst h
  · exact ⟨_, op_addU, s2_add⟩
  · exact ⟨_, op_sub, s2_sub⟩
  · exact ⟨_, op_mulU, s2_mul⟩
  · exact ⟨_, op_mod, s2_mod⟩
  · exact ⟨_, op_pow, s2_pow⟩
  · exact ⟨_, op_fdiv, s2_div⟩
def cCmp : CmpOp → Option (D → D → Option D)
  | .Eq => some pEqD
  | .NotEq => some pNeD
  | .Lt => some pLt
  | .LtE => some pLe
  | .Gt => some pGt
  | .GtE => some pGe
  | .Is => some pIsND
  | .IsNot => some pNotND
  | .In => some pInD
  | .NotIn => some pNinD
theorem cCmp_ok {c : Cf} {X : Cx} (ft : Fits c X) {op : CmpOp} {f : D → D → Option D} (h : cCmp op = some f) : ∃ r, OpR X (compareOp op) r ∧ S2 X.K r f := by
  cases op <;> simp only [cCmp, reduceCtorEq, Option.some.injEq] at h <;> subst h
  · exact ⟨_, op_eqU ft.hu, s2_eq⟩
  · exact ⟨_, op_neU ft.hu, s2_ne⟩
  · exact ⟨_, op_ltU, s2_lt⟩
  · exact ⟨_, op_leU, s2_le⟩
  · exact ⟨_, op_gt, s2_gt⟩
  · exact ⟨_, op_ge, s2_ge⟩
  · exact ⟨rIsNU, op_isN, s2_isn⟩
  · exact ⟨rNotNU, op_notN, s2_notn⟩
  · exact ⟨_, op_inU ft.hu1, s2_in⟩
  · exact ⟨_, op_ninU ft.hu1, s2_nin⟩
def starB : Expr → Bool
  | .Starred _ _ => true
  | _ => false
theorem star_ok {e : Expr} {es : List Expr} {env : Env} (h : starB e = false) : starEach (e :: es) env = (false, eval e env) :: starEach es env := by
  cases e <;> first
    | rfl
    | cases h
def seqA (f : Expr → Option EvO) : List Expr → Option EvOs
  | [] => some evNil
  | e :: es => if starB e then none else match f e, seqA f es with
    | some x, some xs => some (evCons x xs)
    | _, _ => none
theorem seqA_ok {X : Cx} {f : Expr → Option EvO} (hf : ∀ e ev, f e = some ev → PE X e (tO X.K ev)) : ∀ {es : List Expr} {evs : EvOs}, seqA f es = some evs → PA X es (tOs X.K evs) ∧ ∀ e, e ∈ es → starB e = false := by
  intro es
  induction es with
  | nil =>
    intro evs h
    cases h
    exact ⟨pa_nil.weak fun σ G Q q => ta_nil q, (fun _ m => by cases m)⟩
  | cons e es ih =>
    intro evs h
    unfold seqA at h
    split at h
    · cases h
    · rename_i hs
      have hs : starB e = false := by simpa using hs
      split at h
      · rename_i x xs h1 h2
        cases h
        obtain ⟨i1, i2⟩ := ih h2
        refine ⟨(pa_cons (hf e x h1) i1 (star_ok hs)).weak fun σ G Q q => ta_cons q, fun e' m => ?_⟩
        rcases List.mem_cons.mp m with m | m
        · rw [m]; exact hs
        · exact i2 e' m
      · cases h
theorem star_any {es : List Expr} {env : Env} {pos : Pos} (h : ∀ e, e ∈ es → starB e = false) : (backTo pos (starEach es env)).any (·.1) = false := by
  induction es with
  | nil => rfl
  | cons e es ih =>
    rw [star_ok (h e (List.mem_cons_self ..))]
    have := ih fun e m => h e (List.mem_cons_of_mem _ m)
    unfold backTo at this ⊢
    rw [List.map_cons, List.any_cons, this]
    rfl
def cBlt (x : Str) : Option (List D → Option D) :=
  if x = "len" then some (f1 pLen)
  else if x = "list" then some (f1 pList)
  else if x = "tuple" then some (f1 pTuple)
  else if x = "all" then some (f1 pAll)
  else if x = "any" then some (f1 pAny)
  else if x = "abs" then some (f1 pAbs)
  else if x = "min" then some (f2 pMin)
  else if x = "max" then some (f2 pMax)
  else none
theorem cBlt_ok {c : Cf} {X : Cx} {x : Str} {f : List D → Option D} {e : Expr} {es : List Expr} {t : TA} {p pos : Pos} (ft : Fits c X) (hb : bltB c x = true) (h : cBlt x = some f) (ha : PA X (e :: es) t) (hs : ∀ a, a ∈ e :: es → starB a = false) :
    ∃ r, PE X (.Call (.Name x p) (e :: es) [] pos) (tCB r t) ∧ SN X.K r f := by
  obtain ⟨hg, hm, hd, hn⟩ := blt_ok ft hb
  have h1 : starEach (e :: es) X.env = (false, eval e X.env) :: starEach es X.env := star_ok (hs e (List.mem_cons_self ..))
  have h2 : (backTo pos (starEach es X.env)).any (·.1) = false := star_any fun a m => hs a (List.mem_cons_of_mem _ m)
  unfold cBlt at h
  split at h
  · rename_i e1
    subst e1
    cases h
    exact ⟨_, pe_callB call_lenU hg hm boot_len ha hn hd h1 h2, sn_len⟩
  split at h
  · rename_i e1
    subst e1
    cases h
    exact ⟨rListU X.K, pe_callTy call_list_of hg hm PyProof.Rows.boot_list ha hn hd h1 h2, sn_list⟩
  split at h
  · rename_i e1
    subst e1
    cases h
    exact ⟨rTupU X.K, pe_callTy call_tuple_of hg hm PyProof.Rows.boot_tuple ha hn hd h1 h2, sn_tup⟩
  split at h
  · rename_i e1
    subst e1
    cases h
    exact ⟨_, pe_callB (cr_all ft.calm) hg hm PyProof.Rows.boot_all ha hn hd h1 h2, sn_all⟩
  split at h
  · rename_i e1
    subst e1
    cases h
    exact ⟨_, pe_callB (cr_any ft.calm) hg hm PyProof.Rows.boot_any ha hn hd h1 h2, sn_any⟩
  split at h
  · rename_i e1
    subst e1
    cases h
    exact ⟨_, pe_callB call_abs hg hm PyProof.Rows.boot_abs ha hn hd h1 h2, sn_abs⟩
  split at h
  · rename_i e1
    subst e1
    cases h
    exact ⟨_, pe_callB (call_min2 ft.calm) hg hm PyProof.Rows.boot_min ha hn hd h1 h2, sn_min⟩
  split at h
  · rename_i e1
    subst e1
    cases h
    exact ⟨_, pe_callB (call_max2 ft.calm) hg hm PyProof.Rows.boot_max ha hn hd h1 h2, sn_max⟩
  · cases h
def cTy (x : Str) : Option Ty :=
  if x = "int" then some .int
  else if x = "bool" then some .bool
  else if x = "str" then some .str
  else if x = "list" then some .list
  else if x = "tuple" then some .tuple
  else if x = "dict" then some .dict
  else none
theorem cTy_ok {x : Str} {t : Ty} (h : cTy x = some t) : bootBuiltins x = some (.type t.name) := by
  unfold cTy at h
  split at h
  · rename_i e; subst e; cases h; decide +kernel
  split at h
  · rename_i e; subst e; cases h; decide +kernel
  split at h
  · rename_i e; subst e; cases h; decide +kernel
  split at h
  · rename_i e; subst e; cases h; decide +kernel
  split at h
  · rename_i e; subst e; cases h; decide +kernel
  split at h
  · rename_i e; subst e; cases h; decide +kernel
  · cases h
def evIsi (t : Ty) (ea : EvO) : EvO := ev1 (fun d => some (.bl (isiD d t))) ea
theorem t_isi {K : PySem.W.Frag} {σ : St} {G : Hp} {Q : VK} {t : Ty} {ea : EvO} (h : tO K (evIsi t ea) σ G Q) : tCB (rIsi K) (tCons (tO K ea) (tCons (tC (.ty t.name)) tNil)) σ G Q := by
  obtain ⟨S, F, E, o, E', sr, he, q⟩ := h
  unfold evIsi ev1 at he
  split at he
  · rename_i x E1 h1
    refine ⟨S, F, E, x, E1, sr, h1, fun v G1 S1 T1 F1 ro1 => ?_⟩
    obtain ⟨S3, ds, z, rp, sd, hf, g⟩ := prim_go ro1 he q
    obtain ⟨d, rfl, hf⟩ := f1_one hf
    cases hf
    exact isi_ok rp g
  · cases he
def cMut (m : Str) : Option Mf :=
  if m = "append" then some mApp
  else if m = "extend" then some mExt
  else if m = "insert" then some mIns
  else none
def cMut0 (m : Str) : Option Mf :=
  if m = "pop" then some mPop
  else if m = "clear" then some mClr
  else none
theorem base_ok {o : Expr} {m : Str} {env : Env} {w : Sem Value} (h : ∀ x p q, o ≠ .Call (.Name x p) [] [] q) : attributeBase o m env w = w := by
  unfold attributeBase
  split
  · rename_i x p q
    exact absurd rfl (h x p q)
  · rfl
theorem few_ok {X : Cx} {es : List Expr} {cpos : Pos} (hs : ∀ a, a ∈ es → starB a = false) (hl : es.length < 29) :
    ((backTo cpos (starEach es X.env)).all (fun x => !x.1) && (backToKw cpos (keywordEach [] X.env)).all (fun x => x.1.isSome)
      && decide (es.length + ([] : List Keyword).length + (if ([] : List Keyword).isEmpty then 0 else 1) < 30)) = true := by
  have h1 := star_any (env := X.env) (pos := cpos) hs
  have h2 : (backTo cpos (starEach es X.env)).all (fun x => !x.1) = true := by
    rw [List.all_eq_not_any_not]
    simp only [Bool.not_not]
    rw [h1]
    rfl
  rw [h2]
  have h3 : decide (es.length + ([] : List Keyword).length + (if ([] : List Keyword).isEmpty then 0 else 1) < 30) = true := decide_eq_true (by simp; omega)
  rw [h3]
  rfl
theorem cMut_ok {c : Cf} {X : Cx} {x m : Str} {i : Nat} {f : Mf} {e : Expr} {es : List Expr} {evs : EvOs} {p apos cpos : Pos} (ft : Fits c X) (h : cMut m = some f) (hi : slot c x = some i) (ha : PA X (e :: es) (tOs X.K evs)) (hs : ∀ a, a ∈ e :: es → starB a = false) (hl : (e :: es).length < 29)
    (hline : (apos.endLine == cpos.line) = true) : PE X (.Call (.Attribute (.Name x p) m apos) (e :: es) [] cpos) (tO X.K (evMut f i evs)) := by
  have h1 : starEach (e :: es) X.env = (false, eval e X.env) :: starEach es X.env := star_ok (hs e (List.mem_cons_self ..))
  have h2 : (backTo cpos (starEach es X.env)).any (·.1) = false := star_any fun a m => hs a (List.mem_cons_of_mem _ m)
  unfold cMut at h
  split at h
  · rename_i e1
    subst e1
    cases h
    exact (pe_bm PySem.F.plainAttrs_list PySem.F.slot_list_append PySem.F.type_list_append mt_append (slot_ok ft hi) ha (base_ok (by intros; exact fun z => nomatch z)) (few_ok hs hl) hline h1 h2).weak fun σ G Q q => t_mut ms_app q
  split at h
  · rename_i e1
    subst e1
    cases h
    exact (pe_bm PySem.F.plainAttrs_list PySem.F.slot_list_extend PySem.F.type_list_extend mt_extend (slot_ok ft hi) ha (base_ok (by intros; exact fun z => nomatch z)) (few_ok hs hl) hline h1 h2).weak fun σ G Q q => t_mut ms_ext q
  split at h
  · rename_i e1
    subst e1
    cases h
    exact (pe_bm (r := rInsert) PySem.F.plainAttrs_list PySem.F.slot_list_insert PySem.F.type_list_insert mt_insert (slot_ok ft hi) ha (base_ok (by intros; exact fun z => nomatch z)) (few_ok hs hl) hline h1 h2).weak fun σ G Q q => t_mut ms_ins q
  · cases h
theorem cMut0_ok {c : Cf} {X : Cx} {x m : Str} {i : Nat} {f : Mf} {p apos cpos : Pos} (ft : Fits c X) (h : cMut0 m = some f) (hi : slot c x = some i)
    (hline : (apos.endLine == cpos.line) = true) : PE X (.Call (.Attribute (.Name x p) m apos) [] [] cpos) (tO X.K (evMut f i evNil)) := by
  unfold cMut0 at h
  split at h
  · rename_i e1
    subst e1
    cases h
    exact (pe_bm0 PySem.F.plainAttrs_list PySem.F.slot_list_pop PySem.F.type_list_pop mt_pop (slot_ok ft hi) (base_ok (by intros; exact fun z => nomatch z)) hline).weak fun σ G Q q => t_mut0 ms_pop q
  split at h
  · rename_i e1
    subst e1
    cases h
    exact (pe_bm0 PySem.F.plainAttrs_list PySem.F.slot_list_clear PySem.F.type_list_clear mt_clear (slot_ok ft hi) (base_ok (by intros; exact fun z => nomatch z)) hline).weak fun σ G Q q => t_mut0 ms_clr q
  · cases h
def isS : Opd → En → Bool
  | .temp (.str _), _ => true
  | .slot i, E => match E[i]? with
    | some (some (.str _)) => true
    | _ => false
  | _, _ => false
def evMs (f : List D → Option D) (ea : EvO) (es : EvOs) : EvO := fun E => match ea E with
  | some (o, E1) => if isS o E1 = true then match es E1 with
    | some (os, E2) => prim f (o :: os) E2
    | none => none else none
  | none => none
def SMt (K : PySem.W.Frag) (r : V → List V → Hp → VK → Prop) (f : List D → Option D) : Prop := ∀ (G : Hp) (S : Addr → Prop) (Q : VK) (ds : List D) (z : D) (v : V) (vs : List V), RpE K G S ds (v :: vs) → (∀ a, S a → ∃ o, G a = some o) → f ds = some z → Good K G S z Q → r v vs G Q
theorem t_ms {K : PySem.W.Frag} {σ : St} {G : Hp} {Q : VK} {r : V → List V → Hp → VK → Prop} {f : List D → Option D} {ea : EvO} {es : EvOs} (hr : SMt K r f) (h : tO K (evMs f ea es) σ G Q) : tBM K "str" r (tO K ea) (tOs K es) σ G Q := by
  obtain ⟨S, F, E, o, E', sr, he, q⟩ := h
  unfold evMs at he
  split at he
  · rename_i o1 E1 h1
    split at he
    · rename_i hs
      split at he
      · rename_i os E2 h2
        refine ⟨S, F, E, o1, E1, sr, h1, fun v G1 S1 T1 F1 ro1 => ⟨?_, S1, F1, E1, os, E2, ro1.sr, h2, fun vs G2 S2 T2 F2 ro2 => ?_⟩⟩
        · have hv : ∃ z, v = .str z := by
            have ro := ro1.ro.one
            cases o1 with
            | temp d =>
              cases d <;> simp only [isS, reduceCtorEq, Bool.false_eq_true] at hs
              exact ⟨_, ro.1⟩
            | slot i =>
              simp only [isS] at hs
              split at hs
              · rename_i z hz
                obtain ⟨v', A, Fr, g1, g2, _⟩ := ro1.sr.rep.get hz
                rw [ro.1] at g1
                cases g1
                exact ⟨_, g2.1⟩
              · cases hs
          obtain ⟨z, e⟩ := hv
          subst e
          rfl
        · obtain ⟨S3, ds, z, rp, sd, hf, g⟩ := prim_go (ro1.app ro2) he q
          exact hr G2 S3 Q ds z v vs rp sd hf g
      · cases he
    · cases he
  · cases he
theorem smt_join {K : PySem.W.Frag} : SMt K (fun x xs H Q => ∃ a p, ∃ ys : List Str, x = .str a ∧ xs = [.ref p] ∧ (SqL K H p (ys.map V.str) ∨ SqT K H p (ys.map V.str)) ∧ (ys.map (·.length)).sum + ys.length * a.length ≤ 16777216 ∧ Q (.str (Txt.join a ys)) H) (f2 pJoin) := by
  intro G S Q ds z v vs rp sd h0 g
  obtain ⟨d, e, e0, hf⟩ := f2_two h0
  subst e0
  have hl := rp.len
  cases vs with
  | nil => exact absurd hl (by simp)
  | cons w vs =>
    cases vs with
    | cons _ _ => exact absurd hl (by simp)
    | nil =>
      obtain ⟨⟨T, r⟩, _, ⟨U, u⟩, f2⟩ := rp.two
      cases d with
      | str a =>
        unfold pJoin at hf
        simp only at hf
        split at hf
        · rename_i ds hs
          split at hf
          · rename_i ys hy
            split at hf
            · rename_i hb
              cases hf
              obtain ⟨p, ws, e1, hp, r1⟩ := rp_seq u f2 hs
              subst e1
              have := sts_rp r1 hy
              subst this
              exact ⟨_, p, ys, rp_str r, rfl, hp, hb, g.str⟩
            · cases hf
          · cases hf
        · cases hf
      | _ => cases hf
end DE
namespace DE
open PySem PySem.Spec L2
def seqG (f : Expr → Option (St1 × List Nat)) : List Expr → Option (StN × List Nat)
  | [] => some (stNil, [])
  | e :: es => if starB e then none else match f e, seqG f es with
    | some (a, as), some (b, bs) => some (stCons a b, as ++ bs)
    | _, _ => none
def cTg : Nat → Cf → Expr → Option (St1 × List Nat)
  | 0, _, _ => none
  | n + 1, c, e => match e with
    | .Name x _ => if locB c x then (ixOf x c.N).map fun i => (stNm i, [i]) else none
    | .Tuple es _ _ => (seqG (cTg n c) es).map fun p => (stTup p.1, p.2)
    | _ => none
theorem astar_ok {e : Expr} {es : List Expr} {env : Env} (h : starB e = false) : assignEach (e :: es) env = (false, assign e env) :: assignEach es env := by
  cases e <;> first
    | rfl
    | cases h
theorem seqG_ok {X : Cx} {f : Expr → Option (St1 × List Nat)} (hf : ∀ e a as, f e = some (a, as) → PG X e (gT X.K as a)) : ∀ {es : List Expr} {b : StN} {bs : List Nat}, seqG f es = some (b, bs) →
    PGs X es (gTs X.K bs b) ∧ (assignEach es X.env).length = es.length ∧ (assignEach es X.env).findIdx? (·.1) = none ∧ ∀ ds E E', b ds E = some E' → ds.length = es.length := by
  intro es
  induction es with
  | nil =>
    intro b bs h
    cases h
    refine ⟨pgs_nil.weak fun v σ G Q q => g_nil q, rfl, rfl, fun ds E E' h => ?_⟩
    unfold stNil at h
    split at h
    · rfl
    · cases h
  | cons e es ih =>
    intro b bs h
    unfold seqG at h
    split at h
    · cases h
    · rename_i hs
      have hs : starB e = false := by simpa using hs
      split at h
      · rename_i a as b' bs' h1 h2
        cases h
        obtain ⟨i1, i2, i3, i4⟩ := ih h2
        have ea := astar_ok (es := es) (env := X.env) hs
        refine ⟨(pgs_cons (hf e a as h1) i1 (by rw [ea]; rfl)).weak fun v σ G Q q => g_cons q, by rw [ea, List.length_cons, i2, List.length_cons], by rw [ea, List.findIdx?_cons, i3]; rfl, fun ds E E' h => ?_⟩
        unfold stCons at h
        split at h
        · split at h
          · rw [List.length_cons, i4 _ _ _ h, List.length_cons]
          · cases h
        · cases h
      · cases h
theorem cTg_ok {c : Cf} {X : Cx} (f : Fits c X) : ∀ {n : Nat} {e : Expr} {a : St1} {as : List Nat}, cTg n c e = some (a, as) → PG X e (gT X.K as a) := by
  intro n
  induction n with
  | zero => intro e a as h; cases h
  | succ n ih =>
    intro e a as h
    cases e <;> simp only [cTg, reduceCtorEq] at h
    · rename_i y _
      split at h
      · rename_i hl
        obtain ⟨i, h1, h2⟩ := Option.map_eq_some_iff.mp h
        cases h2
        have hx : L2.Loc X.env.scope y ∧ (X.fn y = true ∨ X.env.scope.names.lookup y = some .local) := by
          unfold L2.Loc
          rw [f.sc]
          unfold locB at hl
          split at hl
          · rename_i e1
            exact ⟨.inl e1, .inr e1⟩
          · rename_i e1
            exact ⟨.inr e1, .inl (f.fn _ hl)⟩
          · cases hl
        exact (pg_name f.nd (by rw [f.N]; exact ixOf_ok h1) hx.1 hx.2).weak fun v σ G Q q => g_nm q
      · cases h
    · obtain ⟨p, h1, h2⟩ := Option.map_eq_some_iff.mp h
      cases h2
      obtain ⟨i1, i2, i3, i4⟩ := seqG_ok (X := X) (fun e a as h => ih h) (show seqG (cTg n c) _ = some (p.1, p.2) from h1)
      exact (pg_tup f.calm i1 i2 i3).weak fun v σ G Q q => g_tup i4 q
def boolA (f : Expr → Option EvO) (g : EvO → EvO → EvO) : List Expr → Option EvO
  | [] => none
  | [a] => f a
  | a :: b :: rest => match f a, boolA f g (b :: rest) with
    | some x, some y => some (g x y)
    | _, _ => none
def boolT (f : Expr → Option EvT) (g : EvT → EvT → EvT) : List Expr → Option EvT
  | [] => none
  | [a] => f a
  | a :: b :: rest => match f a, boolT f g (b :: rest) with
    | some x, some y => some (g x y)
    | _, _ => none
def setB : Expr → Bool
  | .Set _ _ _ => true
  | _ => false
def slcB : Expr → Bool
  | .Slice _ _ _ _ => true
  | _ => false
def evSl0 (ea : EvO) : EvO := ev1 (fun d => pSl d none none) ea
def slL (d i : D) : Option D := match i with
  | .int i => pSl d (some i) none
  | _ => none
def slH (d i : D) : Option D := match i with
  | .int i => pSl d none (some i)
  | _ => none
def slB (ds : List D) : Option D := match ds with
  | [d, .int i, .int j] => pSl d (some i) (some j)
  | _ => none
def evSlB (ea eb ec : EvO) : EvO := fun E => match ea E with
  | some (x, E1) => match eb E1 with
    | some (y, E2) => match asI y E2 with
      | some _ => match ec E2 with
        | some (z, E3) => prim slB [x, y, z] E3
        | none => none
      | none => none
    | none => none
  | none => none
section
variable {K : PySem.W.Frag} {σ : St} {G : Hp} {Q : VK}
theorem t_sl0 {ea : EvO} (h : tO K (evSl0 ea) σ G Q) : tSl (rSlU K) (tO K ea) tNoPart tNoPart σ G Q := by
  obtain ⟨S, F, E, o, E', sr, he, q⟩ := h
  unfold evSl0 ev1 at he
  split at he
  · rename_i x E1 h1
    refine ⟨S, F, E, x, E1, sr, h1, fun v G1 S1 T1 F1 ro1 => ?_⟩
    obtain ⟨S3, ds, z, rp, sd, hf, g⟩ := prim_go ro1 he q
    obtain ⟨d, rfl, hf⟩ := f1_one hf
    exact sl_ok rp sd hf g
  · cases he
theorem part_go {P : Option Int → Hp → Prop} {S : Addr → Prop} {F : List Addr} {E E1 : En} {ea : EvO} {o : Opd} (sr : SR K G S E σ F) (h : ea E = some (o, E1)) (q : ∀ v G1 S1 T1 F1, RO K σ G S F E1 [o] [v] G1 S1 T1 F1 → ∃ i, v = .int i ∧ P (some i) G1) : tPart (tO K ea) σ G P :=
  ⟨S, F, E, o, E1, sr, h, q⟩
theorem int_of {G1 : Hp} {S1 : Addr → Prop} {d : D} {v : V} (h : (∃ T, Rp K G1 S1 d v T) ∧ frzK d = d) {i : Int} (e : d = .int i) : v = .int i := by
  subst e
  obtain ⟨⟨T, r⟩, _⟩ := h
  exact r.1
theorem t_slL {ea eb : EvO} (h : tO K (ev2 slL ea eb) σ G Q) : tSl (rSlU K) (tO K ea) (tPart (tO K eb)) tNoPart σ G Q := by
  obtain ⟨S, F, E, o, E', sr, he, q⟩ := h
  unfold ev2 at he
  split at he
  · rename_i x E1 h1
    split at he
    · rename_i y E2 h2
      refine ⟨S, F, E, x, E1, sr, h1, fun v G1 S1 T1 F1 ro1 => part_go ro1.sr h2 fun w G2 S2 T2 F2 ro2 => ?_⟩
      obtain ⟨S3, ds, z, rp, sd, hf, g⟩ := prim_go (ro1.app ro2) he q
      obtain ⟨d, e, e0, hf2⟩ := f2_two hf
      subst e0
      unfold slL at hf2
      split at hf2
      · rename_i i
        obtain ⟨a, b, c, f⟩ := rp.two
        exact ⟨i, int_of ⟨c, f⟩ rfl, sl_ok (d := d) ⟨v, [], rfl, a, b, rfl⟩ sd hf2 g⟩
      · cases hf2
    · cases he
  · cases he
theorem t_slH {ea eb : EvO} (h : tO K (ev2 slH ea eb) σ G Q) : tSl (rSlU K) (tO K ea) tNoPart (tPart (tO K eb)) σ G Q := by
  obtain ⟨S, F, E, o, E', sr, he, q⟩ := h
  unfold ev2 at he
  split at he
  · rename_i x E1 h1
    split at he
    · rename_i y E2 h2
      refine ⟨S, F, E, x, E1, sr, h1, fun v G1 S1 T1 F1 ro1 => (show tPart (tO K eb) σ G1 (fun u H3 => rSlU K v none u H3 Q) from part_go ro1.sr h2 fun w G2 S2 T2 F2 ro2 => ?_)⟩
      obtain ⟨S3, ds, z, rp, sd, hf, g⟩ := prim_go (ro1.app ro2) he q
      obtain ⟨d, e, e0, hf2⟩ := f2_two hf
      subst e0
      unfold slH at hf2
      split at hf2
      · rename_i i
        obtain ⟨a, b, c, f⟩ := rp.two
        exact ⟨i, int_of ⟨c, f⟩ rfl, sl_ok (d := d) ⟨v, [], rfl, a, b, rfl⟩ sd hf2 g⟩
      · cases hf2
    · cases he
  · cases he
theorem t_slB {ea eb ec : EvO} (h : tO K (evSlB ea eb ec) σ G Q) : tSl (rSlU K) (tO K ea) (tPart (tO K eb)) (tPart (tO K ec)) σ G Q := by
  obtain ⟨S, F, E, o, E', sr, he, q⟩ := h
  unfold evSlB at he
  split at he
  · rename_i x E1 h1
    split at he
    · rename_i y E2 h2
      split at he
      · rename_i i0 hi0
        split at he
        · rename_i z E3 h3
          refine ⟨S, F, E, x, E1, sr, h1, fun v G1 S1 T1 F1 ro1 => part_go ro1.sr h2 fun w G2 S2 T2 F2 ro2 => ?_⟩
          have ew := asI_rp ro2.sr ro2.ro.one hi0
          refine ⟨i0, ew, part_go ro2.sr h3 fun u G3 S3 T3 F3 ro3 => ?_⟩
          obtain ⟨S4, ds, z', rp, sd, hf, g⟩ := prim_go ((ro1.app ro2).app ro3) he q
          unfold slB at hf
          split at hf
          · rename_i d i j
            obtain ⟨v', vs', e1, a, b, rp2⟩ := rp
            cases e1
            obtain ⟨c1, c2, c3, c4⟩ := rp2.two
            have e2 : w = .int i := int_of ⟨c1, c2⟩ rfl
            rw [ew] at e2
            cases e2
            exact ⟨j, int_of ⟨c3, c4⟩ rfl, sl_ok (d := d) ⟨v, [], rfl, a, b, rfl⟩ sd hf g⟩
          · cases hf
        · cases he
      · cases he
    · cases he
  · cases he
end
def relS (scope sc : Scope) : Scope := { scope with names := scope.names.map fun (n, k) => if (k == .free && sc.kind == .function && sc.names.lookup n == some .cell) then (n, .cell) else (n, k) }
theorem relS_ok (scope : Scope) (env : PySem.Env) : relabel scope env = relS scope env.scope := rfl
def ownOf (c : Cf) (scope : Scope) : List (Str × Nat) := scope.names.filterMap fun y => match y.2 with
  | .local => (ixOf y.1 c.N).map fun i => (y.1, i)
  | .cell => (ixOf y.1 c.N).map fun i => (y.1, i)
  | _ => none
def blkCf (c : Cf) (scope : Scope) : Cf := { c with sc := relS scope c.sc, fn := fun x => scope.names.lookup x == some .cell }
theorem fits_blk {c : Cf} {X : Cx} (f : Fits c X) (scope : Scope) (s : Shared) (H : Hp) (C : Addr) (cl : List (Str × Addr)) (fp : List Addr) : Fits (blkCf c scope) (X.blk s H scope (compEnvC scope cl C X.env) fp) where
  N := f.N
  nd := f.nd
  sc := by
    show relabel scope X.env = relS scope c.sc
    rw [relS_ok, f.sc]
  fn := fun x h => h
  calm := f.calm
  xe := rfl
  hu := f.hu
  blt := f.blt
  fns := f.fns
  con := f.con
def cCall0 (g : Expr → Option EvO) (c : Cf) (x : Str) (args : List Expr) : Option EvO := match args with
  | [] => none
  | e :: es => if glB c x && !oddB x then match c.fns.lookup x with
    | some (n, f) => (seqA g (e :: es)).map fun evs => evCall n f evs
    | none => if bltB c x then (if x = "isinstance" then (match es with
        | [.Name t _] => if bltB c t && !starB e then match cTy t, g e with
          | some ty, some ea => some (evIsi ty ea)
          | _, _ => none else none
        | _ => none) else match cBlt x, seqA g (e :: es) with
        | some f, some evs => some (evN f evs)
        | _, _ => none) else none else none
theorem cCall0_ok {c : Cf} {X : Cx} (ft : Fits c X) {g : Expr → Option EvO} (hg : ∀ e ev, g e = some ev → PE X e (tO X.K ev)) {x : Str} {args : List Expr} {ev : EvO} {p pos : Pos} (h : cCall0 g c x args = some ev) : PE X (.Call (.Name x p) args [] pos) (tO X.K ev) := by
  unfold cCall0 at h
  split at h
  · cases h
  · rename_i e es
    split at h
    · rename_i hx
      simp only [Bool.and_eq_true, Bool.not_eq_true'] at hx
      split at h
      · rename_i n f hf
        obtain ⟨evs, h1, h2⟩ := Option.map_eq_some_iff.mp h
        subst h2
        obtain ⟨fa, fd, k, ps, ok, hr, hm, kp, hb⟩ := ft.fns _ (lookup_mem hf)
        obtain ⟨pa, hs⟩ := seqA_ok hg h1
        exact (pe_call ok hr (gl_ok ft hx.1) hm kp hb .nil pass0 pa (odd_ok hx.2).1 (star_ok (hs e (List.mem_cons_self ..))) (star_any fun a m => hs a (List.mem_cons_of_mem _ m))).weak fun σ G Q q => t_call q
      · split at h
        · rename_i hb
          split at h
          · rename_i ex
            subst ex
            split at h
            · rename_i t tp
              split at h
              · rename_i ht
                simp only [Bool.and_eq_true, Bool.not_eq_true'] at ht
                split at h
                · rename_i ty ea h1 h2
                  cases h
                  obtain ⟨hgx, hmx, hdx, hnx⟩ := blt_ok ft hb
                  obtain ⟨hgt, hmt, hdt, hnt⟩ := blt_ok ft ht.1
                  exact (pe_callB call_isi hgx hmx PyProof.Rows.boot_isinstance (pa_cons (hg e ea h2) (pa_cons (pe_bltn (v := .ty ty.name) hgt hmt (cTy_ok h1) rfl hnt hdt) pa_nil) (star_ok ht.2)) hnx hdx (star_ok ht.2) rfl).weak fun σ G Q q => t_isi q
                · cases h
              · cases h
            · cases h
          · split at h
            · rename_i f evs h1 h2
              cases h
              obtain ⟨pa, hs⟩ := seqA_ok hg h2
              obtain ⟨r, h3, h4⟩ := cBlt_ok (pos := pos) (p := p) ft hb h1 pa hs
              exact h3.weak fun σ G Q q => t_cb h4 q
            · cases h
        · cases h
    · cases h
def cMeth (g : Expr → Option EvO) (c : Cf) (o : Expr) (m : Str) (args : List Expr) : Option EvO := match o, args with
  | .Name x _, [] => match cMut0 m, slot c x with
    | some f, some i => some (evMut f i evNil)
    | _, _ => none
  | .Name x _, e :: es => match cMut m with
    | some f => match slot c x, seqA g (e :: es) with
      | some i, some evs => if es.length < 28 then some (evMut f i evs) else none
      | _, _ => none
    | none => if m = "join" then match cName c x, seqA g (e :: es) with
      | some eo, some evs => if es.length < 28 then some (evMs (f2 pJoin) eo evs) else none
      | _, _ => none else none
  | .Constant k _ _, e :: es => if m = "join" then match cConst k, seqA g (e :: es) with
      | some eo, some evs => if es.length < 28 then some (evMs (f2 pJoin) eo evs) else none
      | _, _ => none else none
  | _, _ => none
theorem join_ok {c : Cf} {X : Cx} {o : Expr} {eo : EvO} {e : Expr} {es : List Expr} {evs : EvOs} {apos cpos : Pos} (ho : PE X o (tO X.K eo)) (hc : ∀ x p q, o ≠ .Call (.Name x p) [] [] q) (pa : PA X (e :: es) (tOs X.K evs)) (hs : ∀ a, a ∈ e :: es → starB a = false) (hl : es.length < 28)
    (hline : (apos.endLine == cpos.line) = true) : PE X (.Call (.Attribute o "join" apos) (e :: es) [] cpos) (tO X.K (evMs (f2 pJoin) eo evs)) :=
  (pe_bm PySem.F.plainAttrs_str PySem.F.slot_str_join PySem.F.type_str_join mt_join ho pa (base_ok hc) (few_ok hs (by rw [List.length_cons]; omega)) hline (star_ok (hs e (List.mem_cons_self ..))) (star_any fun a m => hs a (List.mem_cons_of_mem _ m))).weak fun σ G Q q => t_ms smt_join q
theorem cMeth_ok {c : Cf} {X : Cx} (ft : Fits c X) {g : Expr → Option EvO} (hg : ∀ e ev, g e = some ev → PE X e (tO X.K ev)) {o : Expr} {m : Str} {args : List Expr} {ev : EvO} {apos cpos : Pos} (hline : (apos.endLine == cpos.line) = true) (h : cMeth g c o m args = some ev) :
    PE X (.Call (.Attribute o m apos) args [] cpos) (tO X.K ev) := by
  unfold cMeth at h
  split at h
  · rename_i x p
    split at h
    · rename_i f i h1 h2
      cases h
      exact cMut0_ok ft h1 h2 hline
    · cases h
  · rename_i x p e es
    split at h
    · rename_i f h1
      split at h
      · rename_i i evs h2 h3
        split at h
        · rename_i hl
          cases h
          obtain ⟨pa, hs⟩ := seqA_ok hg h3
          exact cMut_ok ft h1 h2 pa hs (by rw [List.length_cons]; omega) hline
        · cases h
      · cases h
    · split at h
      · rename_i hm
        subst hm
        split at h
        · rename_i eo evs h2 h3
          split at h
          · rename_i hl
            cases h
            obtain ⟨pa, hs⟩ := seqA_ok hg h3
            exact join_ok (c := c) (cName_ok ft h2) (by intros; exact fun z => nomatch z) pa hs hl hline
          · cases h
        · cases h
      · cases h
  · split at h
    · rename_i hm
      subst hm
      split at h
      · rename_i eo evs h2 h3
        split at h
        · rename_i hl
          cases h
          obtain ⟨pa, hs⟩ := seqA_ok hg h3
          exact join_ok (c := c) (cConst_ok h2) (by intros; exact fun z => nomatch z) pa hs hl hline
        · cases h
      · cases h
    · cases h
  · cases h
def cNest (g : Expr → Option EvO) (c : Cf) (x : Str) (args : List Expr) : Option EvO := match args with
  | [.Call (.Name y _) [a] [] _] => if x = "list" ∧ y = "reversed" ∧ bltB c x = true ∧ bltB c y = true ∧ starB a = false then (g a).map (ev1 pRevT) else none
  | [.Call (.Name y _) [a, b] [] _] => if x = "list" ∧ y = "zip" ∧ bltB c x = true ∧ bltB c y = true then (seqA g [a, b]).map (evN (f2 pZipT)) else none
  | _ => none
def cCall (g : Expr → Option EvO) (c : Cf) (x : Str) (args : List Expr) : Option EvO := match cNest g c x args with
  | some ev => some ev
  | none => cCall0 g c x args
theorem cCall_ok {c : Cf} {X : Cx} (ft : Fits c X) {g : Expr → Option EvO} (hg : ∀ e ev, g e = some ev → PE X e (tO X.K ev)) {x : Str} {args : List Expr} {ev : EvO} {p pos : Pos} (h : cCall g c x args = some ev) : PE X (.Call (.Name x p) args [] pos) (tO X.K ev) := by
  unfold cCall at h
  split at h
  · rename_i ev' hn
    cases h
    unfold cNest at hn
    split at hn
    · split at hn
      · rename_i hb
        obtain ⟨e1, e2, b1, b2, st⟩ := hb
        subst e1 e2
        obtain ⟨ea, h1, h2⟩ := Option.map_eq_some_iff.mp hn
        subst h2
        obtain ⟨h3, h4, _, _⟩ := blt_ok ft b1
        obtain ⟨h5, h6, _, _⟩ := blt_ok ft b2
        exact (pe_lstRev ft.calm h3 h4 h5 h6 (hg _ ea h1) (star_ok st) rfl).weak fun σ G Q q => t_lstRev q
      · cases hn
    · split at hn
      · rename_i a b _ hb
        obtain ⟨e1, e2, b1, b2⟩ := hb
        subst e1 e2
        obtain ⟨evs, h1, h2⟩ := Option.map_eq_some_iff.mp hn
        subst h2
        obtain ⟨h3, h4, _, _⟩ := blt_ok ft b1
        obtain ⟨h5, h6, _, _⟩ := blt_ok ft b2
        obtain ⟨pa, hs⟩ := seqA_ok hg h1
        have e2 : starEach [b] X.env = [(false, eval b X.env)] := star_ok (hs b (List.mem_cons_of_mem _ (List.mem_cons_self ..)))
        exact (pe_lstZip ft.calm h3 h4 h5 h6 pa (by rw [star_ok (hs a (List.mem_cons_self ..)), e2]) (by rw [e2]; rfl) rfl).weak fun σ G Q q => t_lstZip q
      · cases hn
    · cases hn
  · exact cCall0_ok ft hg h
def isTg : Expr → Bool
  | .Tuple _ _ _ => true
  | _ => false
def cIt1 (g : Expr → Option EvO) (c : Cf) (tg : Expr) (x : Str) (a : Expr) : Option EvI :=
  if x = "range" then (if bltB c x then (seqA g [a]).map evR1 else none) else
  if x = "reversed" then (if bltB c x && !starB a then (g a).map evRev else none) else
  if x = "enumerate" then (if bltB c x && isTg tg then (seqA g [a]).map evEn else none) else none
def cIt2 (g : Expr → Option EvO) (c : Cf) (tg : Expr) (x : Str) (a b : Expr) : Option EvI :=
  if x = "range" then (if bltB c x then (seqA g [a, b]).map evR2 else none) else
  if x = "zip" then (if bltB c x && isTg tg then (seqA g [a, b]).map evZip else none) else none
def cIt (g : Expr → Option EvO) (c : Cf) (tg iter : Expr) : Option EvI := match iter with
  | .Call (.Name x _) [a] [] _ => match cIt1 g c tg x a with
    | some ev => some ev
    | none => (g iter).map evSq
  | .Call (.Name x _) [a, b] [] _ => match cIt2 g c tg x a b with
    | some ev => some ev
    | none => (g iter).map evSq
  | e => if setB e then none else (g e).map evSq
theorem cIt1_ok {c : Cf} {X : Cx} (ft : Fits c X) {g : Expr → Option EvO} (hg : ∀ e ev, g e = some ev → PE X e (tO X.K ev)) {tg a : Expr} {x : Str} {p pos : Pos} {ev : EvI} (h : cIt1 g c tg x a = some ev) : PI X tg (.Call (.Name x p) [a] [] pos) (tI X.K ev) := by
  unfold cIt1 at h
  split at h
  · rename_i hx
    subst hx
    split at h
    · rename_i hb
      obtain ⟨evs, h1, h2⟩ := Option.map_eq_some_iff.mp h
      subst h2
      obtain ⟨pa, hs⟩ := seqA_ok hg h1
      obtain ⟨h3, h4, _, _⟩ := blt_ok ft hb
      exact (pi_range1 h3 h4 pa (star_ok (hs a (List.mem_cons_self ..)))).weak fun σ G R q => t_r1 q
    · cases h
  · split at h
    · rename_i hx
      subst hx
      split at h
      · rename_i hb
        obtain ⟨hb, hst⟩ := (Bool.and_eq_true _ _).mp hb
        obtain ⟨ea, h1, h2⟩ := Option.map_eq_some_iff.mp h
        subst h2
        obtain ⟨h3, h4, _, _⟩ := blt_ok ft hb
        exact (RT.pi_revA h3 h4 (hg a ea h1) (star_ok (by simpa using hst))).weak fun σ G R q => t_rev q
      · cases h
    · split at h
      · rename_i hx
        subst hx
        split at h
        · rename_i hb
          obtain ⟨hb, ht⟩ := (Bool.and_eq_true _ _).mp hb
          obtain ⟨evs, h1, h2⟩ := Option.map_eq_some_iff.mp h
          subst h2
          obtain ⟨pa, hs⟩ := seqA_ok hg h1
          obtain ⟨h3, h4, _, _⟩ := blt_ok ft hb
          cases tg <;> first
            | (cases ht; done)
            | exact (pi_enum h3 h4 pa (star_ok (hs a (List.mem_cons_self ..)))).weak fun σ G R q => t_en q
        · cases h
      · cases h
theorem cIt2_ok {c : Cf} {X : Cx} (ft : Fits c X) {g : Expr → Option EvO} (hg : ∀ e ev, g e = some ev → PE X e (tO X.K ev)) {tg a b : Expr} {x : Str} {p pos : Pos} {ev : EvI} (h : cIt2 g c tg x a b = some ev) : PI X tg (.Call (.Name x p) [a, b] [] pos) (tI X.K ev) := by
  unfold cIt2 at h
  split at h
  · rename_i hx
    subst hx
    split at h
    · rename_i hb
      obtain ⟨evs, h1, h2⟩ := Option.map_eq_some_iff.mp h
      subst h2
      obtain ⟨pa, hs⟩ := seqA_ok hg h1
      obtain ⟨h3, h4, _, _⟩ := blt_ok ft hb
      have e2 : starEach [b] X.env = [(false, eval b X.env)] := star_ok (hs b (List.mem_cons_of_mem _ (List.mem_cons_self ..)))
      exact (pi_range2 h3 h4 pa (by rw [star_ok (hs a (List.mem_cons_self ..)), e2]) e2).weak fun σ G R q => t_r2 q
    · cases h
  · split at h
    · rename_i hx
      subst hx
      split at h
      · rename_i hb
        obtain ⟨hb, ht⟩ := (Bool.and_eq_true _ _).mp hb
        obtain ⟨evs, h1, h2⟩ := Option.map_eq_some_iff.mp h
        subst h2
        obtain ⟨pa, hs⟩ := seqA_ok hg h1
        obtain ⟨h3, h4, _, _⟩ := blt_ok ft hb
        have e2 : starEach [b] X.env = [(false, eval b X.env)] := star_ok (hs b (List.mem_cons_of_mem _ (List.mem_cons_self ..)))
        cases tg <;> first
          | (cases ht; done)
          | exact (RZ.pi_zipA h3 h4 pa (by rw [star_ok (hs a (List.mem_cons_self ..)), e2]) (by rw [e2]; rfl)).weak fun σ G R q => t_zip q
      · cases h
    · cases h
theorem cIt_ok {c : Cf} {X : Cx} (ft : Fits c X) {g : Expr → Option EvO} (hg : ∀ e ev, g e = some ev → PE X e (tO X.K ev)) {tg iter : Expr} {ev : EvI} (h : cIt g c tg iter = some ev) : PI X tg iter (tI X.K ev) ∧ setB iter = false := by
  have gen : ∀ {e : Expr} {ev : EvI}, (g e).map evSq = some ev → PI X tg e (tI X.K ev) := fun {e ev} h => by
    obtain ⟨ea, h1, h2⟩ := Option.map_eq_some_iff.mp h
    subst h2
    exact (pi_any (hg e ea h1)).weak fun σ G R q => t_sq q
  unfold cIt at h
  split at h
  · rename_i x p a pos
    split at h
    · rename_i ev' h1
      cases h
      exact ⟨cIt1_ok ft hg h1, rfl⟩
    · exact ⟨gen h, rfl⟩
  · rename_i x p a b pos
    split at h
    · rename_i ev' h1
      cases h
      exact ⟨cIt2_ok ft hg h1, rfl⟩
    · exact ⟨gen h, rfl⟩
  · split at h
    · cases h
    · rename_i hs
      exact ⟨gen h, by simpa using hs⟩
theorem folded_ok {iter : Expr} {env : PySem.Env} (h : setB iter = false) : ∀ x, foldedSetIterable iter env x = pure x := by
  intro x
  cases iter <;> first
    | rfl
    | cases h
end DE
namespace DE
open PySem PySem.Spec L2
def cUn (g : Expr → Option EvO) (op : UnaryOp) (a : Expr) : Option EvO := match op with
  | .USub => (g a).map (ev1 pNeg)
  | .Not => (g a).map evNot
  | _ => none
def cCp (g : Expr → Option EvO) (a : Expr) (ops : List CmpOp) (cs : List Expr) : Option EvO := match ops, cs with
  | [op], [b] => if setB b then none else match cCmp op, g a, g b with
    | some f, some x, some y => some (ev2 f x y)
    | _, _, _ => none
  | [op, op'], [b, d] => if setB d then none else match cCmp op, cCmp op', g a with
    | some f, some f', some x => match g b, g d with
      | some y, some z => some (evChain f f' x y z)
      | _, _ => none
    | _, _, _ => none
  | _, _ => none
def cSub (g : Expr → Option EvO) (v s : Expr) : Option EvO := match s with
  | .Slice none none none _ => (g v).map evSl0
  | .Slice (some l) none none _ => match g v, g l with
    | some x, some y => some (ev2 slL x y)
    | _, _ => none
  | .Slice none (some l) none _ => match g v, g l with
    | some x, some y => some (ev2 slH x y)
    | _, _ => none
  | .Slice (some l) (some h) none _ => match g v, g l, g h with
    | some x, some y, some z => some (evSlB x y z)
    | _, _, _ => none
  | i => if slcB i then none else match g v, g i with
    | some x, some y => some (ev2 pIdx x y)
    | _, _ => none
def evYes : EvT := fun E => some (true, E)
def cIfs (g : Expr → Option EvT) : List Expr → Option EvT
  | [] => some evYes
  | [t] => g t
  | _ => none
structure LcP where
  own : List (Str × Nat)
  src : EvI
  st : St1
  ifs : EvT
  elt : EvO
def LcP.ev (W : Nat) (p : LcP) : EvO := evLc W (p.own.map (·.2)) p.src p.st p.ifs p.elt
def cLc (ge : Cf → Expr → Option EvO) (gt : Cf → Expr → Option EvT) (c : Cf) (elt : Expr) (gens : List Comprehension) (scope : Scope) : Option LcP := match gens with
  | [⟨tg, iter, ifs, a⟩] => if a = 0 ∧ blkC c.N c.sc scope (ownOf c scope) = true ∧ ((ownOf c scope).map (·.2)).Nodup then
      match cIt (ge c) c tg iter, cTg 3 (blkCf c scope) tg, cIfs (gt (blkCf c scope)) ifs, ge (blkCf c scope) elt with
      | some src, some (st, as), some t, some x => if as.all (((ownOf c scope).map (·.2)).contains ·) then some ⟨ownOf c scope, src, st, t, x⟩ else none
      | _, _, _, _ => none
    else none
  | _ => none
def keyC : Option Expr → Option Key
  | some (.Constant (.str x) _ _) => some (.inr x)
  | some (.Constant (.int i) _ _) => some (.inl i)
  | _ => none
def keysC : List (Option Expr) → Option (List Key)
  | [] => some []
  | k :: ks => match keyC k, keysC ks with
    | some x, some xs => some (x :: xs)
    | _, _ => none
def seqL (f : Expr → Option EvO) : List Expr → Option (List EvO)
  | [] => some []
  | e :: es => match f e, seqL f es with
    | some x, some xs => some (x :: xs)
    | _, _ => none
def evDis (ks : List Key) (es : EvOs) : EvO := fun E => match es E with
  | some (os, E1) => match tks os E1 with
    | some (ds, E2) => if ds.length = ks.length then some (.temp (.dK true ks ds), E2) else none
    | none => none
  | none => none
mutual
def cE : Nat → Cf → Expr → Option EvO
  | 0, _, _ => none
  | n + 1, c, e => match e with
    | .Name x _ => cName c x
    | .Constant k _ _ => cConst k
    | .BinOp a op b _ => match cBin op, cE n c a, cE n c b with
      | some f, some x, some y => some (ev2 f x y)
      | _, _, _ => none
    | .UnaryOp op a _ => cUn (cE n c) op a
    | .BoolOp op vs _ => match op with
      | .And => boolA (cE n c) evAnd vs
      | .Or => boolA (cE n c) evOr vs
    | .Compare a ops cs _ => cCp (cE n c) a ops cs
    | .IfExp t a b _ => match cT n c t, cE n c a, cE n c b with
      | some x, some y, some z => some (evIte x y z)
      | _, _, _ => none
    | .Tuple es _ _ => (seqA (cE n c) es).map evTup
    | .List es _ => (seqA (cE n c) es).map evLst
    | .Call f args kws pos => match f, kws with
      | .Name x _, [] => cCall (cE n c) c x args
      | .Attribute o m apos, [] => if (apos.endLine == pos.line) = true then cMeth (cE n c) c o m args else none
      | _, _ => none
    | .Subscript v s _ => cSub (cE n c) v s
    | .ListComp elt gens scope _ => (cLc (cE n) (cT n) c elt gens scope).map (LcP.ev c.W)
    | .Dict ks vs _ => match keysC ks, seqL (cE n c) vs with
      | some xs, some evs => if xs.Nodup ∧ xs.length ≤ 15 ∧ xs ≠ [] ∧ xs.length = evs.length then some (evDis xs (evs.foldr evCons evNil)) else none
      | _, _ => none
    | _ => none
def cT : Nat → Cf → Expr → Option EvT
  | 0, _, _ => none
  | n + 1, c, e => match e with
    | .UnaryOp op a _ => match op with
      | .Not => (cT n c a).map evNotT
      | _ => none
    | .BoolOp op vs _ => match op with
      | .And => boolT (cT n c) evAndT vs
      | .Or => boolT (cT n c) evOrT vs
    | .Compare a ops cs _ => (cCp (cE n c) a ops cs).map evB
    | .Name x p => (cE n c (.Name x p)).map evB
    | .Call f as ks p => (cE n c (.Call f as ks p)).map evB
    | .Constant k m p => (cE n c (.Constant k m p)).map evB
    | .Subscript v s p => (cE n c (.Subscript v s p)).map evB
    | _ => none
end
section
variable {K : PySem.W.Frag} {σ : St} {G : Hp} {Q : VK}
theorem t_neg {ea : EvO} (h : tO K (ev1 pNeg ea) σ G Q) : tUn (rU fun i => .int (-i)) (tO K ea) σ G Q := t_un (fun G S Q d z v rp sd hf g => by
  obtain ⟨⟨T, r⟩, _⟩ := rp.one
  cases d <;> simp only [pNeg, reduceCtorEq, Option.some.injEq] at hf
  subst hf
  exact ⟨_, rp_int r, g.int⟩) h
theorem t_yes {Q : Bool → Hp → Prop} (h : tT K evYes σ G Q) : tYes σ G Q := by
  obtain ⟨S, F, E, b, E', sr, he, q⟩ := h
  cases he
  exact q G S F (.nil sr)
theorem g_more {as bs : List Nat} {st : St1} {v : V} {Q : St → Hp → Prop} (h : gT K bs st v σ G Q) (m : ∀ k, k ∈ as → k ∈ bs) : gT K as st v σ G Q := by
  obtain ⟨S, F, E, d, T, E', sr, r, nd, ns, he, q⟩ := h
  exact ⟨S, F, E, d, T, E', sr, r, nd, ns, he, fun σ' G' S' F' g => q σ' G' S' F' ⟨g.be.more m, g.len⟩⟩
theorem merge_id : ∀ {kvs acc : List (Key × V)}, ((acc ++ kvs).map (·.1)).Nodup → mergeK acc kvs = acc ++ kvs := by
  intro kvs
  induction kvs with
  | nil => intro acc _; rw [List.append_nil]; rfl
  | cons p kvs ih =>
    intro acc nd
    have hp : (acc.any fun kv => decide (kv.1 = p.1)) = false := by
      rw [List.any_eq_false]
      intro q hq
      simp only [decide_eq_true_eq]
      intro e
      rw [List.map_append, List.nodup_append] at nd
      exact nd.2.2 q.1 (List.mem_map_of_mem hq) p.1 (List.mem_map_of_mem (List.mem_cons_self ..)) e
    show mergeK (putK acc p.1 p.2) kvs = _
    have e1 : putK acc p.1 p.2 = acc ++ [p] := by
      unfold putK
      rw [hp]
      rfl
    rw [e1, ih (by rw [List.append_assoc]; exact nd), List.append_assoc]
    rfl
theorem t_pairs : ∀ {ks : List Key} {evs : List EvO} {σ : St} {G : Hp} {Q : List (V × V) → Hp → Prop}, ks.length = evs.length → tOs K (evs.foldr evCons evNil) σ G (fun ws G' => Q ((ks.map kV).zip ws) G') → tPairs ((ks.map fun k => tC (kV k)).zip (evs.map (tO K))) σ G Q := by
  intro ks
  induction ks with
  | nil =>
    intro evs σ G Q hl h
    cases evs with
    | nil => exact ta_nil h
    | cons _ _ => cases hl
  | cons k ks ih =>
    intro evs σ G Q hl h
    cases evs with
    | nil => cases hl
    | cons ev evs =>
      have h2 := ta_cons h
      show tO K ev σ G fun y H2 => tPairs _ σ H2 fun ps H3 => Q ((kV k, y) :: ps) H3
      obtain ⟨S, F, E, o, E', sr, he, q⟩ := h2
      exact ⟨S, F, E, o, E', sr, he, fun v G' S' T F' ro => ih (by simpa using hl) (q v G' S' T F' ro)⟩
theorem zip_kv : ∀ (ks : List Key) (ws : List V), (ks.map kV).zip ws = (ks.zip ws).map fun kv => (kV kv.1, kv.2)
  | [], _ => rfl
  | _ :: _, [] => rfl
  | k :: ks, w :: ws => by
    show (kV k, w) :: (ks.map kV).zip ws = (kV k, w) :: (ks.zip ws).map _
    rw [zip_kv ks ws]
theorem t_dis {ks : List Key} {evs : List EvO} (nd : ks.Nodup) (h15 : ks.length ≤ 15) (hl : ks.length = evs.length) (h : tO K (evDis ks (evs.foldr evCons evNil)) σ G Q) : tDisp ((ks.map fun k => tC (kV k)).zip (evs.map (tO K))) σ G Q := by
  obtain ⟨S, F, E, o, E', sr, he, q⟩ := h
  unfold evDis at he
  split at he
  · rename_i os E1 h1
    split at he
    · rename_i ds E2 h2
      split at he
      · rename_i hd
        cases he
        intro p hp
        have kp := up_keep (u := .dK []) hp
        have pF : p ∉ F := fun m => by
          obtain ⟨o, e⟩ := sr.rep.dom p m
          rw [hp] at e; cases e
        have sr0 : SR K (upd G p (.dK [])) S E σ F := ⟨sr.rep.mono (fun a o _ e => kp a o e) (fun a ha => upd_ne fun z => pF (z ▸ ha)) fun _ z => z, sr.nd, sr.ns, fun a ha => by
          obtain ⟨o, e⟩ := sr.sd a ha
          exact ⟨o, kp a o e⟩⟩
        refine t_pairs hl ⟨S, F, E, os, E1, sr0, h1, fun ws G' S' T F' ro => ?_⟩
        obtain ⟨S2, F2, T2, sr2, rl, nd2, ns2, stp⟩ := ro.taken h2
        have hG' : G' p = some (.dK []) := stp.keep p _ upd_same pF
        have lw : ks.length = ws.length := by rw [← rl.length, hd]
        obtain ⟨n1, n2, n3⟩ := nd_app.mp nd2
        have old : ∀ a, a ∈ T2 ++ F2 → a ≠ p := fun a ha e => by
          subst e
          rcases stp.fs a ha with m | m
          · exact pF m
          · rw [upd_same] at m; cases m
        have pS : ¬ S2 p := fun hs => by
          rcases stp.sn p hs with m | m | m
          · obtain ⟨o, e⟩ := sr.sd p m
            rw [hp] at e; cases e
          · exact pF m
          · rw [upd_same] at m; cases m
        refine ⟨hG', ks.zip ws, ?_, ?_, ?_⟩
        · exact zip_kv ks ws
        · rw [List.length_zip, ← lw, Nat.min_self]; exact h15
        · have em : mergeK [] (ks.zip ws) = ks.zip ws := by
            rw [merge_id (acc := []) (by
              rw [List.nil_append, List.map_fst_zip (by rw [lw]; exact Nat.le_refl _)]
              exact nd), List.nil_append]
          rw [em]
          have kp2 : ∀ a o, a ≠ p → G' a = some o → upd G' p (.dK (ks.zip ws)) a = some o := fun a o n e => by rw [upd_ne n]; exact e
          refine q (.ref p) _ S2 (p :: T2) F2 ⟨⟨sr2.rep.mono (fun a o hs e => kp2 a o (fun z => pS (z ▸ hs)) e) (fun a ha => upd_ne (old a (List.mem_append_right _ ha))) fun _ z => z, sr2.nd, sr2.ns, fun a ha => ?_⟩,
            .of ⟨p, ws, T2, rfl, rfl, upd_same, lw, rl.mono (fun a o hs e => kp2 a o (fun z => pS (z ▸ hs)) e) (fun a ha => upd_ne (old a (List.mem_append_left _ ha))) fun _ z => z⟩,
            List.nodup_cons.mpr ⟨fun m => old p m rfl, nd2⟩, fun a ha hs => ?_, ?_⟩
          · obtain ⟨o, e⟩ := sr2.sd a ha
            exact ⟨o, kp2 a o (fun z => pS (z ▸ ha)) e⟩
          · rcases List.mem_cons.mp ha with m | m
            · exact pS (m ▸ hs)
            · exact ns2 a m hs
          · refine ⟨fun a o e n => kp2 a o (fun z => ?_) (stp.keep a o (kp a o e) n), fun a o e => ?_, fun a ha => ?_, stp.ss, fun a ha => ?_⟩
            · subst z
              rw [hp] at e; cases e
            · by_cases z : a = p
              · subst z
                exact ⟨_, upd_same⟩
              · obtain ⟨o', e'⟩ := stp.live a o (kp a o e)
                exact ⟨o', kp2 a o' z e'⟩
            · rcases List.mem_cons.mp ha with m | m
              · subst m
                exact .inr hp
              · rcases stp.fs a m with k | k
                · exact .inl k
                · refine .inr ?_
                  rw [upd_ne (old a m)] at k
                  exact k
            · rcases stp.sn a ha with k | k | k
              · exact .inl k
              · exact .inr (.inl k)
              · refine .inr (.inr ?_)
                rw [upd_ne (show a ≠ p from fun z => pS (by rw [← z]; exact ha))] at k
                exact k
      · cases he
    · cases he
  · cases he
end
theorem pps_ok {X : Cx} {f : Expr → Option EvO} {pos : Pos} (hf : ∀ e ev, f e = some ev → PE X e (tO X.K ev)) : ∀ {ks : List (Option Expr)} {vs : List Expr} {xs : List Key} {evs : List EvO}, keysC ks = some xs → seqL f vs = some evs → xs.length = evs.length →
    PPs X pos ks vs ((xs.map fun k => tC (kV k)).zip (evs.map (tO X.K))) ∧ ks.length = xs.length ∧ vs.length = evs.length ∧ (ks.all fun x => x.isSome) = true := by
  intro ks
  induction ks with
  | nil =>
    intro vs xs evs h1 h2 hl
    cases h1
    cases vs with
    | nil => cases h2; exact ⟨pps_nil, rfl, rfl, rfl⟩
    | cons v vs =>
      unfold seqL at h2
      split at h2
      · cases h2; cases hl
      · cases h2
  | cons k ks ih =>
    intro vs xs evs h1 h2 hl
    unfold keysC at h1
    split at h1
    · rename_i x xs' hx hxs
      cases h1
      cases vs with
      | nil => cases h2; cases hl
      | cons v vs =>
        unfold seqL at h2
        split at h2
        · rename_i ev evs' hv hvs
          cases h2
          obtain ⟨i1, i2, i3, i4⟩ := ih hxs hvs (by simpa using hl)
          have hk : ∃ e, k = some e ∧ PE X e (tC (kV x)) := by
            unfold keyC at hx
            split at hx
            · cases hx; exact ⟨_, rfl, pe_str⟩
            · cases hx; exact ⟨_, rfl, pe_int⟩
            · cases hx
          obtain ⟨e, e1, hk⟩ := hk
          subst e1
          refine ⟨pps_cons hk (hf v ev hv) i1, by rw [List.length_cons, i2, List.length_cons], by rw [List.length_cons, i3, List.length_cons], ?_⟩
          rw [List.all_cons, i4]
          rfl
        · cases h2
    · cases h1
theorem cUn_ok {X : Cx} {g : Expr → Option EvO} (hg : ∀ e ev, g e = some ev → PE X e (tO X.K ev)) {op : UnaryOp} {a : Expr} {ev : EvO} {p : Pos} (h : cUn g op a = some ev) : PE X (.UnaryOp op a p) (tO X.K ev) := by
  cases op <;> simp only [cUn, reduceCtorEq, Option.map_eq_some_iff] at h
  · obtain ⟨x, h1, h2⟩ := h
    subst h2
    exact (pe_not (hg a x h1)).weak fun σ G Q q => t_not q
  · obtain ⟨x, h1, h2⟩ := h
    subst h2
    exact (pe_un un_neg (hg a x h1)).weak fun σ G Q q => t_neg q
theorem setB_ok {op : CmpOp} {b : Expr} (h : setB b = false) : behindInMarks op b = false := by
  cases b <;> first
    | rfl
    | cases h
theorem cCp_ok {c : Cf} {X : Cx} (ft : Fits c X) {g : Expr → Option EvO} (hg : ∀ e ev, g e = some ev → PE X e (tO X.K ev)) {a : Expr} {ops : List CmpOp} {cs : List Expr} {ev : EvO} {p : Pos} (h : cCp g a ops cs = some ev) :
    PE X (.Compare a ops cs p) (tO X.K ev) ∧ PT X (.Compare a ops cs p) (tT X.K (evB ev)) := by
  unfold cCp at h
  split at h
  · rename_i op b
    split at h
    · cases h
    · rename_i hs
      have hs : setB b = false := by simpa using hs
      split at h
      · rename_i f x y h1 h2 h3
        cases h
        obtain ⟨r, ho, hr⟩ := cCmp_ok ft h1
        exact ⟨(pe_cmpR ho (hg a x h2) (hg b y h3) (setB_ok hs)).weak fun σ G Q q => t_op hr q, (pt_cmpR ho (hg a x h2) (hg b y h3) (setB_ok hs)).weak fun σ G Q q => t_op hr (t_test q)⟩
      · cases h
  · rename_i op op' b d
    split at h
    · cases h
    · rename_i hs
      have hs : setB d = false := by simpa using hs
      split at h
      · rename_i f f' x h1 h2 h3
        split at h
        · rename_i y z h4 h5
          cases h
          obtain ⟨r, ho, hr⟩ := cCmp_ok ft h1
          obtain ⟨r', ho', hr'⟩ := cCmp_ok ft h2
          exact ⟨(pe_chain ho ho' (hg a x h3) (hg b y h4) (hg d z h5) (setB_ok hs)).weak fun σ G Q q => t_chain hr hr' q, (pt_chain ho ho' (hg a x h3) (hg b y h4) (hg d z h5) (setB_ok hs)).weak fun σ G Q q => t_chain hr hr' (t_test q)⟩
        · cases h
      · cases h
  · cases h
theorem slc_ok {i : Expr} (h : slcB i = false) : PlainIx i := fun o v => by
  cases i <;> first
    | rfl
    | cases h
theorem cSub_ok {c : Cf} {X : Cx} (ft : Fits c X) {g : Expr → Option EvO} (hg : ∀ e ev, g e = some ev → PE X e (tO X.K ev)) {v s : Expr} {ev : EvO} {p : Pos} (h : cSub g v s = some ev) : PE X (.Subscript v s p) (tO X.K ev) := by
  unfold cSub at h
  split at h
  · obtain ⟨x, h1, h2⟩ := Option.map_eq_some_iff.mp h
    subst h2
    exact (pe_slice sl_U (hg v x h1) po_none po_none).weak fun σ G Q q => t_sl0 q
  · split at h
    · rename_i x y h1 h2
      cases h
      exact (pe_slice sl_U (hg v x h1) (po_some (hg _ y h2)) po_none).weak fun σ G Q q => t_slL q
    · cases h
  · split at h
    · rename_i x y h1 h2
      cases h
      exact (pe_slice sl_U (hg v x h1) po_none (po_some (hg _ y h2))).weak fun σ G Q q => t_slH q
    · cases h
  · split at h
    · rename_i x y z h1 h2 h3
      cases h
      exact (pe_slice sl_U (hg v x h1) (po_some (hg _ y h2)) (po_some (hg _ z h3))).weak fun σ G Q q => t_slB q
    · cases h
  · split at h
    · cases h
    · rename_i hs
      split at h
      · rename_i x y h1 h2
        cases h
        exact (pe_ix (ix_U ft.hu1) (hg v x h1) (hg s y h2) (slc_ok (by simpa using hs))).weak fun σ G Q q => t_op s2_idx q
      · cases h
theorem boolA_and {X : Cx} {f : Expr → Option EvO} {p : Pos} (hf : ∀ e ev, f e = some ev → PE X e (tO X.K ev)) : ∀ {vs : List Expr} {ev : EvO}, boolA f evAnd vs = some ev → PE X (.BoolOp .And vs p) (tO X.K ev)
  | [], _, h => by cases h
  | [a], ev, h => pe_one (hf a ev h)
  | a :: b :: rest, ev, h => by
    unfold boolA at h
    split at h
    · rename_i x y h1 h2
      cases h
      exact (pe_and (hf a x h1) (boolA_and hf h2)).weak fun σ G Q q => t_and q
    · cases h
theorem boolA_or {X : Cx} {f : Expr → Option EvO} {p : Pos} (hf : ∀ e ev, f e = some ev → PE X e (tO X.K ev)) : ∀ {vs : List Expr} {ev : EvO}, boolA f evOr vs = some ev → PE X (.BoolOp .Or vs p) (tO X.K ev)
  | [], _, h => by cases h
  | [a], ev, h => pe_one (hf a ev h)
  | a :: b :: rest, ev, h => by
    unfold boolA at h
    split at h
    · rename_i x y h1 h2
      cases h
      exact (pe_or (hf a x h1) (boolA_or hf h2)).weak fun σ G Q q => t_or q
    · cases h
theorem boolT_and {X : Cx} {f : Expr → Option EvT} {p : Pos} (hf : ∀ e ev, f e = some ev → PT X e (tT X.K ev)) : ∀ {vs : List Expr} {ev : EvT}, boolT f evAndT vs = some ev → PW X (.BoolOp .And vs p) (tT X.K ev)
  | [], _, h => by cases h
  | [a], ev, h => pw_and1 (hf a ev h)
  | a :: b :: rest, ev, h => by
    unfold boolT at h
    split at h
    · rename_i x y h1 h2
      cases h
      exact (pw_and (hf a x h1) (boolT_and hf h2)).weak fun σ G Q q => t_andT q
    · cases h
theorem boolT_or {X : Cx} {f : Expr → Option EvT} {p : Pos} (hf : ∀ e ev, f e = some ev → PT X e (tT X.K ev)) : ∀ {vs : List Expr} {ev : EvT}, boolT f evOrT vs = some ev → PW X (.BoolOp .Or vs p) (tT X.K ev)
  | [], _, h => by cases h
  | [a], ev, h => pw_or1 (hf a ev h)
  | a :: b :: rest, ev, h => by
    unfold boolT at h
    split at h
    · rename_i x y h1 h2
      cases h
      exact (pw_or (hf a x h1) (boolT_or hf h2)).weak fun σ G Q q => t_orT q
    · cases h
theorem cLc_ok {c : Cf} {X : Cx} (ft : Fits c X) {ge : Cf → Expr → Option EvO} {gt : Cf → Expr → Option EvT} (he : ∀ c X, Fits c X → ∀ e ev, ge c e = some ev → PE X e (tO X.K ev)) (ht : ∀ c X, Fits c X → ∀ e ev, gt c e = some ev → PT X e (tT X.K ev))
    {elt : Expr} {gens : List Comprehension} {scope : Scope} {p : LcP} (h : cLc ge gt c elt gens scope = some p) : ∃ tg iter ifs tt, gens = [⟨tg, iter, ifs, 0⟩] ∧ PI X tg iter (tI X.K p.src) ∧ BlkOk X.N X.env.scope scope p.own ∧ (p.own.map (·.2)).Nodup ∧ (∀ x, foldedSetIterable iter X.env x = pure x) ∧
      (∀ (s : Shared) (H : Hp) (C : Addr) (cl : List (Str × Addr)) (fp : List Addr), PG (X.blk s H scope (compEnvC scope cl C X.env) fp) tg (gT X.K (p.own.map (·.2)) p.st)) ∧
      (∀ (s : Shared) (H : Hp) (C : Addr) (cl : List (Str × Addr)) (fp : List Addr), PTs (X.blk s H scope (compEnvC scope cl C X.env) fp) ifs tt) ∧ (∀ σ G Q, tT X.K p.ifs σ G Q → tt σ G Q) ∧
      (∀ (s : Shared) (H : Hp) (C : Addr) (cl : List (Str × Addr)) (fp : List Addr), PE (X.blk s H scope (compEnvC scope cl C X.env) fp) elt (tO X.K p.elt)) := by
  unfold cLc at h
  split at h
  · rename_i tg iter ifs a
    split at h
    · rename_i ho
      obtain ⟨ha, hb, hn⟩ := ho
      subst ha
      split at h
      · rename_i src st as t x h1 h2 h3 h4
        split at h
        · rename_i hsub
          cases h
          obtain ⟨p1, p2⟩ := cIt_ok ft (he c X ft) (tg := tg) h1
          have sub : ∀ k, k ∈ as → k ∈ (ownOf c scope).map (·.2) := fun k hk => by
            have := List.all_eq_true.mp hsub k hk
            simpa using this
          have ifsOk : ∃ tt, (∀ (s : Shared) (H : Hp) (C : Addr) (cl : List (Str × Addr)) (fp : List Addr), PTs (X.blk s H scope (compEnvC scope cl C X.env) fp) ifs tt) ∧ ∀ σ G Q, tT X.K t σ G Q → tt σ G Q := by
            match ifs, h3 with
            | [], h3 => cases h3; exact ⟨tYes, fun _ _ _ _ _ => pts_nil, fun σ G Q q => t_yes q⟩
            | [e], h3 => exact ⟨tT X.K t, fun s H C cl fp => pts_one (ht _ _ (fits_blk ft scope s H C cl fp) e t h3), fun σ G Q q => q⟩
          obtain ⟨tt, q1, q2⟩ := ifsOk
          refine ⟨tg, iter, ifs, tt, rfl, p1, ?_, hn, folded_ok p2, fun s H C cl fp => ?_, q1, q2, fun s H C cl fp => he _ _ (fits_blk ft scope s H C cl fp) elt x h4⟩
          · rw [ft.N, ft.sc]
            exact blkOk_by hb
          · exact (cTg_ok (fits_blk ft scope s H C cl fp) h2).weak fun v σ G Q q => g_more q sub
        · cases h
      · cases h
    · cases h
  · cases h
theorem t_lcw {N : Nat} {K : PySem.W.Frag} {σ : St} {G : Hp} {Q : VK} {p : LcP} {tt : TT} (hn : (p.own.map (·.2)).Nodup) (htt : ∀ σ G Q, tT K p.ifs σ G Q → tt σ G Q) (h : tO K (p.ev N) σ G Q) : tLc (tI K p.src) (gT K (p.own.map (·.2)) p.st) tt (tO K p.elt) (p.own.map (·.2)) σ G Q := by
  have h := t_lc hn h
  obtain ⟨S, F, E, s, E', sr, he, q⟩ := h
  refine ⟨S, F, E, s, E', sr, he, fun J G1 S1 F1 ro fe p hp => ?_⟩
  obtain ⟨W, w0, w1⟩ := q J G1 S1 F1 ro fe p hp
  refine ⟨W, w0, fun i m H hW => ?_⟩
  rcases w1 i m H hW with z | ⟨go, Nx, n1, n2⟩
  · exact .inl z
  · refine .inr ⟨go, Nx, n1, fun x H' hy => ?_⟩
    obtain ⟨S, F, E, d, T, E', sr, r, nd, ns, he, q⟩ := n2 x H' hy
    exact ⟨S, F, E, d, T, E', sr, r, nd, ns, he, fun σ' G' S' F' g => ⟨(q σ' G' S' F' g).1, htt _ _ _ (q σ' G' S' F' g).2⟩⟩
mutual
theorem cE_ok : ∀ (n : Nat) (c : Cf) (X : Cx), Fits c X → ∀ (e : Expr) (ev : EvO), cE n c e = some ev → PE X e (tO X.K ev)
  | 0, _, _, _, _, _, h => by cases h
  | n + 1, c, X, ft, e, ev, h => by
    have ih : ∀ e ev, cE n c e = some ev → PE X e (tO X.K ev) := cE_ok n c X ft
    cases e <;> simp only [cE, reduceCtorEq] at h
    case Name => exact cName_ok ft h
    case Constant => exact cConst_ok h
    case BinOp a op b p =>
      split at h
      · rename_i f x y h1 h2 h3
        cases h
        obtain ⟨r, ho, hr⟩ := cBin_ok (X := X) h1
        exact (pe_op ho (ih a x h2) (ih b y h3)).weak fun σ G Q q => t_op hr q
      · cases h
    case UnaryOp => exact cUn_ok ih h
    case BoolOp op vs p =>
      cases op
      · exact boolA_and ih h
      · exact boolA_or ih h
    case Compare => exact (cCp_ok ft ih h).1
    case IfExp t a b p =>
      split at h
      · rename_i x y z h1 h2 h3
        cases h
        exact (pe_ifExp (cT_ok n c X ft t x h1) (ih a y h2) (ih b z h3)).weak fun σ G Q q => t_ite q
      · cases h
    case Tuple es k p =>
      obtain ⟨evs, h1, h2⟩ := Option.map_eq_some_iff.mp h
      subst h2
      exact (pe_tup (seqA_ok ih h1).1).weak fun σ G Q q => t_tup q
    case List es p =>
      obtain ⟨evs, h1, h2⟩ := Option.map_eq_some_iff.mp h
      subst h2
      exact (pe_lst (seqA_ok ih h1).1).weak fun σ G Q q => t_lst q
    case Call f args kws pos =>
      split at h
      · exact cCall_ok ft ih h
      · split at h
        · rename_i hl
          exact cMeth_ok ft ih hl h
        · cases h
      · cases h
    case Subscript => exact cSub_ok ft ih h
    case ListComp elt gens scope p =>
      obtain ⟨q, h1, h2⟩ := Option.map_eq_some_iff.mp h
      subst h2
      obtain ⟨tg, iter, ifs, tt, e1, a1, a2, a3, a4, a5, a6, a7, a8⟩ := cLc_ok ft (fun c X ft => cE_ok n c X ft) (fun c X ft => cT_ok n c X ft) h1
      subst e1
      exact (pe_lc ft.calm ft.nd a1 a2 a5 a6 a8 a4).weak fun σ G Q q => t_lcw a3 a7 q
    case Dict ks vs p =>
      split at h
      · rename_i xs evs h1 h2
        split at h
        · rename_i hc
          cases h
          obtain ⟨c1, c2, c3, c4⟩ := hc
          obtain ⟨b1, b2, b3, b4⟩ := pps_ok (pos := p) ih h1 h2 c4
          exact (pe_disp b1 b4 (by rw [b2, b3, c4]) (fun z => c3 (List.eq_nil_of_length_eq_zero (by rw [← b2, z]; rfl))) (by rw [b2]; exact c2)).weak fun σ G Q q => t_dis c1 c2 c4 q
        · cases h
      · cases h
theorem cT_ok : ∀ (n : Nat) (c : Cf) (X : Cx), Fits c X → ∀ (e : Expr) (ev : EvT), cT n c e = some ev → PT X e (tT X.K ev)
  | 0, _, _, _, _, _, h => by cases h
  | n + 1, c, X, ft, e, ev, h => by
    have ih : ∀ e ev, cE n c e = some ev → PE X e (tO X.K ev) := cE_ok n c X ft
    have it : ∀ e ev, cT n c e = some ev → PT X e (tT X.K ev) := cT_ok n c X ft
    cases e <;> simp only [cT, reduceCtorEq] at h
    case UnaryOp op a p =>
      cases op <;> simp only [reduceCtorEq] at h
      obtain ⟨x, h1, h2⟩ := Option.map_eq_some_iff.mp h
      subst h2
      exact (pt_not (it a x h1)).weak fun σ G Q q => t_notT q
    case BoolOp op vs p =>
      cases op
      · exact (boolT_and it h).pt
      · exact (boolT_or it h).pt
    case Compare =>
      obtain ⟨x, h1, h2⟩ := Option.map_eq_some_iff.mp h
      subst h2
      exact (cCp_ok ft ih h1).2
    case Name =>
      obtain ⟨x, h1, h2⟩ := Option.map_eq_some_iff.mp h
      subst h2
      exact (pt_val (ih _ x h1)).weak fun σ G Q q => t_B q
    case Call =>
      obtain ⟨x, h1, h2⟩ := Option.map_eq_some_iff.mp h
      subst h2
      exact (pt_val (ih _ x h1)).weak fun σ G Q q => t_B q
    case Constant =>
      obtain ⟨x, h1, h2⟩ := Option.map_eq_some_iff.mp h
      subst h2
      exact (pt_val (ih _ x h1)).weak fun σ G Q q => t_B q
    case Subscript =>
      obtain ⟨x, h1, h2⟩ := Option.map_eq_some_iff.mp h
      subst h2
      exact (pt_val (ih _ x h1)).weak fun σ G Q q => t_B q
end
end DE
namespace DE
open PySem PySem.Spec L2
section
variable {K : PySem.W.Frag} {σ : St} {G : Hp} {S : Addr → Prop} {Q : VK}
theorem RpL.set : ∀ {ds : List D} {vs : List V} {F T : List Addr} {j : Nat} {d : D} {v : V}, RpL K G S ds vs F → Rp K G S d v T → (F ++ T).Nodup → j < ds.length → ∃ F', RpL K G S (ds.set j d) (vs.set j v) F' ∧ F'.Nodup ∧ ∀ a, a ∈ F' → a ∈ F ++ T := by
  intro ds
  induction ds with
  | nil => intro vs F T j d v _ _ _ hj; exact absurd hj (Nat.not_lt_zero _)
  | cons d0 ds ih =>
    intro vs F T j d v r rd nd hj
    obtain ⟨v0, vs', A, B, e, z, r1, r2⟩ := r
    subst e z
    rw [List.append_assoc] at nd
    obtain ⟨n1, n2, n3⟩ := nd_app.mp nd
    obtain ⟨n4, n5, n6⟩ := nd_app.mp n2
    cases j with
    | zero =>
      refine ⟨T ++ B, ⟨v, vs', T, B, rfl, rfl, rd, r2⟩, nd_app.mpr ⟨n5, n4, fun a ha hb => n6 a hb ha⟩, fun a ha => ?_⟩
      rcases List.mem_append.mp ha with m | m
      · exact List.mem_append_right _ m
      · exact List.mem_append_left _ (List.mem_append_right _ m)
    | succ j =>
      obtain ⟨F', r', nd', m'⟩ := ih (j := j) r2 rd n2 (by simpa using hj)
      refine ⟨A ++ F', ⟨v0, _, A, F', rfl, rfl, r1, r'⟩, nd_app.mpr ⟨n1, nd', fun a ha hb => n3 a ha (m' a hb)⟩, fun a ha => ?_⟩
      rcases List.mem_append.mp ha with m | m
      · exact List.mem_append_left _ (List.mem_append_left _ m)
      · rcases List.mem_append.mp (m' a m) with k | k
        · exact List.mem_append_left _ (List.mem_append_right _ k)
        · exact List.mem_append_right _ k
def rSetU : TSet := fun o i v H Q => (∃ p xs k j, o = .ref p ∧ i = .int k ∧ H p = some (.lst xs) ∧ ixN xs.length k = some j ∧ Q (upd H p (.lst (xs.set j v)))) ∨ ∃ a H', o = .ref a ∧ DPut H a i v H' ∧ Q H'
theorem set_U {X : Cx} (hu : X.A.units + 1 < cLine) : PSet X rSetU := by
  rintro pins s σ H o i v ov iv u Q I ro ri rv (h | ⟨a, H', e, g, q⟩)
  · exact set_list pins s σ H o i v ov iv u Q I ro ri rv h
  · subst e
    obtain rfl : ov = Value.ref a := ro
    exact d_setItem hu I g ri rv fun s4 I4 => ⟨H', I4, q⟩
def asK : Opd → En → Option D
  | .temp d, _ => if d.sc = true then some d else none
  | .slot i, E => match E[i]? with
    | some (some d) => if d.sc = true then some d else none
    | _ => none
theorem asK_rp {E : En} {F T : List Addr} {o : Opd} {v : V} {d : D} (sr : SR K G S E σ F) (r : RpO K σ G S o v T) (h : asK o E = some d) : Rp K G S d v [] := by
  cases o with
  | temp d0 =>
    simp only [asK] at h
    split at h
    · rename_i hs
      cases h
      exact (show Rp K G S d v T from r).sc_any hs
    · cases h
  | slot i =>
    simp only [asK] at h
    split at h
    · rename_i d0 hb
      split at h
      · rename_i hs
        cases h
        obtain ⟨v', F1, Fr, g1, g2, _⟩ := sr.rep.get hb
        rw [r.1] at g1
        cases g1
        exact g2.sc_any hs
      · cases h
    · cases h
def evSet (i : Nat) (ek ev : EvO) : EvS := fun E => match ev E with
  | some (o, E1) => match E1[i]? with
    | some (some _) => match ek E1 with
      | some (ok, E2) => match asK ok E2 with
        | some (.int k) => match tks [o] E2 with
          | some ([d], E3) => match E3[i]? with
            | some (some (.lst true ds)) => match ixN ds.length k with
              | some j => if j < ds.length then some (.nx (E3.set i (some (.lst true (ds.set j d))))) else none
              | none => none
            | _ => none
          | _ => none
        | _ => none
      | none => none
    | _ => none
  | none => none
theorem t_set {as : List Nat} {i : Nat} {ek ev : EvO} {D : Ends} (h : tS K as (evSet i ek ev) D σ G) : tAsg (tO K ev) (gSub (tVar i) (tO K ek) rSetU) D σ G := by
  obtain ⟨S, F, E, o, sr, he, w⟩ := h
  unfold evSet at he
  split at he
  · rename_i ov E1 h1
    split at he
    · rename_i d0 hi0
      split at he
      · rename_i ok E2 h2
        split at he
        · rename_i k hk
          split at he
          · rename_i d E3 h3
            split at he
            · rename_i ds hi
              split at he
              · rename_i j hj
                split at he
                · rename_i hjl
                  cases he
                  refine ⟨S, F, E, ov, E1, sr, h1, fun v G1 S1 T1 F1 ro1 => ?_⟩
                  obtain ⟨p0, A0, Fr0, hv, _, _, _⟩ := ro1.sr.rep.get hi0
                  refine ⟨p0, hv, S1, F1, E1, ok, E2, ro1.sr, h2, fun kv G2 S2 T2 F2 ro2 => ?_⟩
                  have ekv : kv = .int k := (asK_rp ro2.sr ro2.ro.one hk).1
                  subst ekv
                  have ro := ro1.app ro2
                  obtain ⟨B, ro'⟩ : ∃ B, RO K σ G S F E2 [ov] [v] G2 S2 B F2 := by
                    obtain ⟨v', vs', A, B, e, z, r1, r2⟩ := ro.ro
                    cases e
                    have nd := ro.nd
                    rw [z, List.append_assoc] at nd
                    obtain ⟨n1, n2, n3⟩ := nd_app.mp nd
                    exact ⟨A, ro.sr, .of r1, nd_app.mpr ⟨n1, (nd_app.mp n2).2.1, fun a ha hb => n3 a ha (List.mem_append_right _ hb)⟩, fun a ha => ro.ns a (by rw [z]; exact List.mem_append_left _ ha), ro.stp.less fun a ha => by
                      rw [z, List.append_assoc]
                      rcases List.mem_append.mp ha with m | m
                      · exact List.mem_append_left _ m
                      · exact List.mem_append_right _ (List.mem_append_right _ m)⟩
                  obtain ⟨S3, F3, Ta, sr3, ra, nd, ns, stp⟩ := ro'.taken h3
                  obtain ⟨v', ev', rd⟩ := RpL.one (v := v) ra
                  cases ev'
                  obtain ⟨p', A, Fr, g1, g2, g3, g4⟩ := sr3.rep.get hi
                  rw [hv] at g1
                  cases g1
                  obtain ⟨p, ws, Fk, e1, z, hp, rk⟩ := g2
                  subst e1 z
                  obtain ⟨n1, n2, n3⟩ := nd_app.mp nd
                  have ndp : ((p :: Fk) ++ Fr).Nodup := g4.nodup_iff.mp n2
                  have inF : ∀ a, a ∈ p :: Fk → a ∈ F3 := fun a ha => g4.mem_iff.mpr (List.mem_append_left _ ha)
                  have pS : ¬ S3 p := sr3.ns p (inF p (List.mem_cons_self ..))
                  obtain ⟨c1, c2⟩ := List.nodup_cons.mp (nd_app.mp ndp).1
                  obtain ⟨Fk', rk', nd', sub'⟩ := rk.set rd (nd_app.mpr ⟨c2, n1, fun a ha hb => n3 a hb (inF a (List.mem_cons_of_mem _ ha))⟩) hjl
                  have pFk' : p ∉ Fk' := fun m => by
                    rcases List.mem_append.mp (sub' p m) with k | k
                    · exact c1 k
                    · exact n3 p k (inF p (List.mem_cons_self ..))
                  obtain ⟨F', sr', _, _, _, stp2⟩ := changed (u := .lst (ws.set j v)) (d' := .lst true (ds.set j d)) (x := .non) (v := .non) (T' := []) (Fk' := Fk') sr3 nd ns stp hv g3 g4 (List.getElem?_eq_some_iff.mp hi).1 ⟨_, hp⟩
                    (fun kp => ⟨p, _, Fk', rfl, rfl, upd_same, rk'.mono (fun a o hs e => kp a o (fun z => pS (z ▸ hs)) e) (fun a ha => upd_ne fun z => pFk' (z ▸ ha)) fun _ z => z⟩) ⟨rfl, rfl⟩ nd' (fun a ha => by
                      rcases List.mem_append.mp (sub' a ha) with k | k
                      · exact List.mem_append_right _ k
                      · exact List.mem_append_left _ k)
                  exact .inl ⟨p, ws, k, j, rfl, rfl, hp, by rw [← rk.length]; exact hj, w σ _ S3 F' ⟨.refl, sr', stp2⟩⟩
                · cases he
              · cases he
            · cases he
          · cases he
        · cases he
      · cases he
    · cases he
  · cases he
end
def mvOr (g : Expr → Option EvO) (c : Cf) (e : Expr) : Option EvO := match e with
  | .Name x _ => match slot c x with
    | some i => if c.np ≤ i then some (evMv i) else some (evVar i)
    | none => cName c x
  | e => g e
theorem mvOr_ok {c : Cf} {X : Cx} (ft : Fits c X) {g : Expr → Option EvO} (hg : ∀ e ev, g e = some ev → PE X e (tO X.K ev)) {e : Expr} {ev : EvO} (h : mvOr g c e = some ev) : PE X e (tO X.K ev) := by
  unfold mvOr at h
  split at h
  · split at h
    · rename_i i hi
      split at h
      · cases h
        exact (slot_ok ft hi).weak fun σ G Q q => t_mv q
      · cases h
        exact (slot_ok ft hi).weak fun σ G Q q => t_var q
    · exact cName_ok ft h
  · exact hg _ _ h
def allNm : List Expr → Option (List Str)
  | [] => some []
  | .Name x _ :: es => (allNm es).map (x :: ·)
  | _ :: _ => none
def cRet (g : Expr → Option EvO) (c : Cf) (e : Expr) : Option EvO := match e with
  | .Name x p => mvOr g c (.Name x p)
  | .Tuple es k p => match allNm es with
    | some xs => if xs.Nodup then (seqA (mvOr g c) es).map evTup else g (.Tuple es k p)
    | none => g (.Tuple es k p)
  | e => g e
theorem cRet_ok {c : Cf} {X : Cx} (ft : Fits c X) {g : Expr → Option EvO} (hg : ∀ e ev, g e = some ev → PE X e (tO X.K ev)) {e : Expr} {ev : EvO} (h : cRet g c e = some ev) : PE X e (tO X.K ev) := by
  unfold cRet at h
  split at h
  · exact mvOr_ok ft hg h
  · split at h
    · split at h
      · obtain ⟨evs, h1, h2⟩ := Option.map_eq_some_iff.mp h
        subst h2
        exact (pe_tup (seqA_ok (fun e ev h => mvOr_ok ft hg h) h1).1).weak fun σ G Q q => t_tup q
      · exact hg _ _ h
    · exact hg _ _ h
  · exact hg _ _ h
theorem sw_eq {elt : Expr} {gs : List Comprehension} {scope : Scope} {pos py : Pos} {y : Str} {l : Nat} {env : PySem.Env} (hk : env.scope.kind = .function) :
    swapsWith (.ListComp elt gs scope pos) (some (.Name y py)) l env = pure (env.kindOf y == some .local && py.line == pos.line && !(scope.names.any fun (n, k) => n == y && (k == .local || k == .cell))) := by
  have hb : env.blockKind = .function := by unfold PySem.Env.blockKind; rw [hk]; rfl
  unfold swapsWith
  simp only [hb, Expr.pos]
  rfl
def compB : Expr → Bool
  | .ListComp _ _ _ _ => true
  | .SetComp _ _ _ _ => true
  | .DictComp _ _ _ _ _ => true
  | _ => false
theorem sw_no {e : Expr} {t : Option Expr} {l : Nat} {env : PySem.Env} (h : compB e = false) : swapsWith e t l env = pure false := by
  cases e <;> first
    | rfl
    | cases h
theorem sws_no {tg e : Expr} {l : Nat} {env : PySem.Env} (h : compB e = false) : swapsWithSole [tg] e l env = pure false := by
  show swapsWith e (some tg) l env = pure false
  exact sw_no h
theorem sub_no {o i : Expr} {p : Pos} {env : PySem.Env} (h : slcB i = false) : ∀ v, assign (.Subscript o i p) env v = (do
    let ov ← holding [v] (eval o env)
    let iv ← holding [v, ov] (eval i env)
    standAt p
    holding [v, ov, iv] (setItem ov iv v)
    release [v, ov, iv] []) := by
  intro v
  cases i <;> first
    | rfl
    | cases h
def kindB (sc : Scope) : Bool := match sc.kind with
  | .function => true
  | _ => false
theorem kind_ok {sc : Scope} (h : kindB sc = true) : sc.kind = .function := by
  unfold kindB at h
  revert h
  cases sc.kind <;> simp
def tupB : Expr → Bool
  | .Tuple _ _ _ => true
  | _ => false
theorem swp_no {tg e : Expr} {env : PySem.Env} (h : tupB e = false) : swappedStores [tg] e env = pure none := by
  cases tg <;> cases e <;> first
    | rfl
    | cases h
theorem swp_no2 {x : Str} {p : Pos} {e : Expr} {env : PySem.Env} : swappedStores [.Name x p] e env = pure none := by
  cases e <;> rfl
theorem swp_no3 {o i : Expr} {p : Pos} {e : Expr} {env : PySem.Env} : swappedStores [.Subscript o i p] e env = pure none := by
  cases e <;> rfl
abbrev SA := EvS × List Nat
def cAsg (n : Nat) (c : Cf) (tg e : Expr) : Option SA := match tg with
  | .Subscript o i _ => match o with
    | .Name x _ => if compB e || slcB i then none else match slot c x, cE n c i, cE n c e with
      | some j, some k, some v => some (evSet j k v, [])
      | _, _, _ => none
    | _ => none
  | .Name y py => match e with
    | .ListComp elt gens scope lp => match cLc (cE n) (cT n) c elt gens scope with
      | some q => if kindB c.sc = true ∧ locB c y = true then (match ixOf y c.N with
        | some i => some (evAsg (q.ev c.W) (stNm i), [i])
        | none => none) else none
      | none => none
    | e => if compB e then none else match cE n c e, cTg 3 c (.Name y py) with
      | some x, some (st, as) => some (evAsg x st, as)
      | _, _ => none
  | .Tuple ts k p => if compB e || tupB e then none else match cE n c e, cTg 3 c (.Tuple ts k p) with
    | some x, some (st, as) => some (evAsg x st, as)
    | _, _ => none
  | _ => none
def seqS (f : Stmt → Option SA) : List Stmt → Option SA
  | [] => some (evNx, [])
  | s :: ss => match f s, seqS f ss with
    | some (a, as), some (b, bs) => some (evSeq a b, as ++ bs)
    | _, _ => none
def cS : Nat → Cf → Stmt → Option SA
  | 0, _, _ => none
  | n + 1, c, st => match st with
    | .Pass _ => some (evNx, [])
    | .Break _ => some (evBk, [])
    | .Continue _ => some (evCt, [])
    | .Return e _ => match e with
      | none => some (evRetN, [])
      | some e => (cRet (cE n c) c e).map fun x => (evRet x, [])
    | .Expr e _ => if compB e then none else (cE n c e).map fun x => (evEx x, [])
    | .If t a b _ => match cT n c t, seqS (cS n c) a, seqS (cS n c) b with
      | some x, some (y, as), some (z, bs) => some (evIf x y z, as ++ bs)
      | _, _, _ => none
    | .While t a b _ => match b with
      | [] => match cT n c t, seqS (cS n c) a with
        | some x, some (y, as) => some (evWh x y c.W, as)
        | _, _ => none
      | _ => none
    | .For tg it a b _ => match b with
      | [] => match cIt (cE n c) c tg it, cTg 3 c tg, seqS (cS n c) a with
        | some src, some (st, as), some (y, bs) => some (evFor (as ++ bs) c.W src st y, as ++ bs)
        | _, _, _ => none
      | _ => none
    | .Assign tgs e _ => match tgs with
      | [tg] => cAsg n c tg e
      | _ => none
    | _ => none
theorem _root_.L2.PS.as {X : Cx} {s : Stmt} {as bs : List Nat} {a : EvS} (h : PS X s (tS X.K as a)) (m : ∀ k, k ∈ as → k ∈ bs) : PS X s (tS X.K bs a) := h.weak fun D σ G q => t_more q m
theorem _root_.L2.PSs.as {X : Cx} {s : List Stmt} {as bs : List Nat} {a : EvS} (h : PSs X s (tS X.K as a)) (m : ∀ k, k ∈ as → k ∈ bs) : PSs X s (tS X.K bs a) := h.weak fun D σ G q => t_more q m
theorem seqS_ok {X : Cx} {f : Stmt → Option SA} (hf : ∀ s a as, f s = some (a, as) → PS X s (tS X.K as a)) : ∀ {ss : List Stmt} {b : EvS} {bs : List Nat}, seqS f ss = some (b, bs) → PSs X ss (tS X.K bs b) := by
  intro ss
  induction ss with
  | nil =>
    intro b bs h
    cases h
    exact pss_nil.weak fun D σ G q => t_nx q
  | cons s ss ih =>
    intro b bs h
    unfold seqS at h
    split at h
    · rename_i a as b' bs' h1 h2
      cases h
      exact (pss_cons ((hf s a as h1).as fun k m => List.mem_append_left _ m) ((ih h2).as fun k m => List.mem_append_right _ m)).weak fun D σ G q => t_seq q
    · cases h
theorem loc_ok {c : Cf} {X : Cx} (f : Fits c X) {y : Str} (hl : locB c y = true) : L2.Loc X.env.scope y ∧ (X.fn y = true ∨ X.env.scope.names.lookup y = some .local) := by
  unfold L2.Loc
  rw [f.sc]
  unfold locB at hl
  split at hl
  · rename_i e1
    exact ⟨.inl e1, .inr e1⟩
  · rename_i e1
    exact ⟨.inr e1, .inl (f.fn _ hl)⟩
  · cases hl
theorem one_assign {X : Cx} {tg : Expr} (h : starB tg = false) : (assignEach [tg] X.env).map (·.2) = [assign tg X.env] := by
  rw [astar_ok h]
  rfl
theorem cAsg_ok {n : Nat} {c : Cf} {X : Cx} (ft : Fits c X) {tg e : Expr} {p : Pos} {a : EvS} {as : List Nat} (h : cAsg n c tg e = some (a, as)) : PS X (.Assign [tg] e p) (tS X.K as a) := by
  have ih : ∀ e ev, cE n c e = some ev → PE X e (tO X.K ev) := cE_ok n c X ft
  unfold cAsg at h
  split at h
  · rename_i o i q
    split at h
    · rename_i x q2
      split at h
      · cases h
      · rename_i hc
        have hc : compB e = false ∧ slcB i = false := by simpa [Bool.or_eq_false_iff] using hc
        split at h
        · rename_i j k v h1 h2 h3
          cases h
          exact (ps_asg (ih e v h3) (pg_sub (slot_ok ft h1) (ih i k h2) (set_U ft.hu1) (sub_no hc.2)) (sws_no hc.1) swp_no3 (one_assign rfl)).weak fun D σ G q => t_set q
        · cases h
    · cases h
  · rename_i y py
    split at h
    · rename_i elt gens scope lp
      split at h
      · rename_i q hq
        split at h
        · rename_i hk
          obtain ⟨hk, hl⟩ := hk
          have hk' : X.env.scope.kind = .function := by
            rw [ft.sc]
            exact kind_ok hk
          split at h
          · rename_i i hi
            cases h
            obtain ⟨tg, iter, ifs, tt, e1, a1, a2, a3, a4, a5, a6, a7, a8⟩ := cLc_ok ft (fun c X ft => cE_ok n c X ft) (fun c X ft => cT_ok n c X ft) hq
            subst e1
            obtain ⟨l1, l2⟩ := loc_ok ft hl
            have hN : X.N[i]? = some y := by rw [ft.N]; exact ixOf_ok hi
            have fin : ∀ D σ G, tS X.K [i] (evAsg (q.ev c.W) (stNm i)) D σ G → tAsg (tLc (tI X.K q.src) (gT X.K (q.own.map (·.2)) q.st) tt (tO X.K q.elt) (q.own.map (·.2))) (gName i) D σ G := fun D σ G h => by
              have h1 := t_asg h
              have h2 : tO X.K (q.ev c.W) σ G fun x H1 => gName i x σ H1 D.nx := by
                obtain ⟨S, F, E, o, E', sr, he, qq⟩ := h1
                exact ⟨S, F, E, o, E', sr, he, fun v G' S' T F' ro => g_nm (qq v G' S' T F' ro)⟩
              exact t_lcw a3 a7 h2
            cases hs : (X.env.kindOf y == some .local && py.line == lp.line && !(scope.names.any fun (n, k) => n == y && (k == .local || k == .cell))) with
            | true =>
              have hs' := hs
              simp only [Bool.and_eq_true] at hs'
              have hyl : X.env.scope.names.lookup y = some .local := eq_of_beq hs'.1.1
              exact (ps_setLc ft.calm ft.nd hN hyl (by rw [sw_eq hk', hs]) a1 a2 a5 a6 a8 a4).weak fin
            | false =>
              exact (ps_set ft.nd hN l1 (pe_lc ft.calm ft.nd a1 a2 a5 a6 a8 a4) (by rw [sw_eq hk', hs]) l2).weak fin
          · cases h
        · cases h
      · cases h
    · split at h
      · cases h
      · rename_i hc
        have hc : compB e = false := by simpa using hc
        split at h
        · rename_i x st as h1 h2
          cases h
          exact (ps_asg (ih e x h1) (cTg_ok ft h2) (sws_no hc) swp_no2 (one_assign rfl)).weak fun D σ G q => t_asg q
        · cases h
  · rename_i ts k q
    split at h
    · cases h
    · rename_i hc
      have hc : compB e = false ∧ tupB e = false := by simpa [Bool.or_eq_false_iff] using hc
      split at h
      · rename_i x st as h1 h2
        cases h
        exact (ps_asg (ih e x h1) (cTg_ok ft h2) (sws_no hc.1) (swp_no hc.2) (one_assign rfl)).weak fun D σ G q => t_asg q
      · cases h
  · cases h
theorem cS_ok : ∀ (n : Nat) (c : Cf) (X : Cx), Fits c X → ∀ (s : Stmt) (a : EvS) (as : List Nat), cS n c s = some (a, as) → PS X s (tS X.K as a) := by
  intro n
  induction n with
  | zero => intro c X ft s a as h; cases h
  | succ n ih =>
    intro c X ft s a as h
    have ie : ∀ e ev, cE n c e = some ev → PE X e (tO X.K ev) := cE_ok n c X ft
    have hp : PassesOwn (model X.prog X.w) X.A X.env X.xe := by rw [ft.xe]; exact PassesOwn.never
    cases s <;> simp only [cS, reduceCtorEq] at h
    case Pass => cases h; exact ps_pass.weak fun D σ G q => t_nx q
    case Break => cases h; exact ps_break.weak fun D σ G q => t_bk q
    case Continue => cases h; exact ps_continue.weak fun D σ G q => t_ct q
    case Return e p =>
      split at h
      · cases h; exact ps_retN.weak fun D σ G q => t_retN q
      · obtain ⟨x, h1, h2⟩ := Option.map_eq_some_iff.mp h
        cases h2
        exact (ps_ret (cRet_ok ft ie h1)).weak fun D σ G q => t_ret q
    case Expr e p =>
      split at h
      · cases h
      · rename_i hc
        have hc : compB e = false := by simpa using hc
        obtain ⟨x, h1, h2⟩ := Option.map_eq_some_iff.mp h
        cases h2
        exact (ps_expr (ie e x h1) (sw_no hc)).weak fun D σ G q => t_ex q
    case If t x y p =>
      split at h
      · rename_i ct a as b bs h1 h2 h3
        cases h
        exact (ps_if (cT_ok n c X ft t ct h1) ((seqS_ok (ih c X ft) h2).as fun k m => List.mem_append_left _ m) ((seqS_ok (ih c X ft) h3).as fun k m => List.mem_append_right _ m)).weak fun D σ G q => t_if q
      · cases h
    case While t x y p =>
      split at h
      · split at h
        · rename_i ct a as h1 h2
          cases h
          exact (ps_while hp (cT_ok n c X ft t ct h1) (seqS_ok (ih c X ft) h2)).weak fun D σ G q => t_wh q
        · cases h
      · cases h
    case For tg it x y p =>
      split at h
      · split at h
        · rename_i src st as b bs h1 h2 h3
          cases h
          obtain ⟨pi, hs⟩ := cIt_ok ft ie (tg := tg) h1
          exact (ps_for hp ft.calm pi ((cTg_ok ft h2).weak fun v σ G Q q => g_more q fun k m => List.mem_append_left _ m) ((seqS_ok (ih c X ft) h3).as fun k m => List.mem_append_right _ m) (folded_ok hs)).weak fun D σ G q => t_for q
        · cases h
      · cases h
    case Assign tgs e p =>
      split at h
      · exact cAsg_ok ft h
      · cases h
end DE
namespace DE
open PySem PySem.Spec L2
structure Df where
  id : Nat
  name : Str
  qual : Str
  st : Stmt
  N : List Str
  ps : List Str
  as : List Nat
  body : (Nat → Fd) → EvS
def fnd (ds : List Df) (i : Nat) : Option Df := ds.find? fun d => d.id == i
def sem (ds : List Df) : Nat → Nat → Fd
  | 0, _ => fun _ => none
  | n + 1, i => match fnd ds i with
    | some d => fnD d.ps.length d.N.length d.as (d.body (sem ds n))
    | none => fun _ => none
def tbl (ds : List Df) (s : Nat → Fd) : List (Str × Nat × Fd) := ds.map fun d => (d.name, d.ps.length, s d.id)
def cfOf (ds : List Df) (blt : List Str) (con : List (Str × D)) (W : Nat) (d : Df) (s : Nat → Fd) : Cf := ⟨d.N, defScope d.st, fun _ => true, d.ps.length, blt, tbl ds s, con, W⟩
structure Fact (K : PySem.W.Frag) (mg : Str → Option Value) (d : Df) : Prop where
  ex : ∃ f fd, Fun K d.name d.qual d.st f fd ∧ Binds K fd d.ps [] ∧ mg d.name = some (.ref f)
structure Good1 (ds : List Df) (blt : List Str) (con : List (Str × D)) (W : Nat) (d : Df) : Prop where
  sc : FnScope d.N d.ps (defScope d.st)
  le : d.ps.length ≤ d.N.length
  ok : (fun s => seqS (cS 40 (cfOf ds blt con W d s)) (defBody d.st)) = fun s => some (d.body s, d.as)
theorem prog_ok {P : Program} {w : World} {K : PySem.W.Frag} {mg : Str → Option Value} {base : Heap} {ds : List Df} {blt : List Str} {con : List (Str × D)} {W : Nat} (fa : ∀ d, d ∈ ds → Fact K mg d) (gd : ∀ d, d ∈ ds → Good1 ds blt con W d)
    (fi : ∀ d, d ∈ ds → fnd ds d.id = some d) (hb : ∀ x, x ∈ blt → mg x = none) (hc : ∀ p, p ∈ con → ∃ v u, mg p.1 = some u ∧ RelV v u ∧ ∀ G S, Rp K G S p.2 v []) :
    ∀ (n : Nat) (d : Df), d ∈ ds → ∀ f fd, Fun K d.name d.qual d.st f fd → FnOk P w K mg base CX0 n f fd d.ps (spF K d.ps.length (sem ds n d.id)) := by
  intro n
  induction n with
  | zero =>
    intro d hd f fd Fu
    have no : ∀ vs H Q E, spF K d.ps.length (sem ds 0 d.id) vs H Q E → False := fun vs H Q E h => by
      obtain ⟨_, _, _, _, _, _, _, _, _, _, h, _⟩ := h
      cases h
    exact ⟨fun vs H Q E h => (no vs H Q E h).elim, fun A outer s H args us vs Q E _ _ _ _ h => (no vs H Q E h).elim⟩
  | succ n ih =>
    intro d hd f fd Fu
    have g := gd d hd
    have e : sem ds (n + 1) d.id = fnD d.ps.length d.N.length d.as (d.body (sem ds n)) := by
      simp only [sem, fi d hd]
    rw [e]
    refine fn_ok Fu g.sc g.le fun X hP hw hK hmg hbase hN hsc hcalm hfn hxe hr => ?_
    subst hP hw hK hmg hbase
    have ft : Fits (cfOf ds blt con W d (sem ds n)) X := {
      N := hN
      nd := by rw [hN]; exact g.sc.nd
      sc := hsc
      fn := fun x _ => hfn x
      calm := hcalm
      xe := hxe
      hu := by
        have := hr.un
        omega
      blt := hb
      fns := fun p hp => by
        obtain ⟨d', h1, h2⟩ := List.mem_map.mp hp
        subst h2
        obtain ⟨f', fd', F', b', m'⟩ := (fa d' h1).ex
        exact ⟨f', fd', n, d'.ps, ih d' h1 f' fd' F', hr, m', F'.kp, b'⟩
      con := hc }
    have ok := congrFun g.ok (sem ds n)
    exact seqS_ok (cS_ok 40 _ X ft) ok
def spLaw (K : PySem.W.Frag) : Sp := fun vs H Q _ => ∃ (a : Addr) (ns : List Int), vs = [.ref a] ∧ SqL K H a (ns.map V.int) ∧ ns.length ≤ 63 ∧ ∀ H', Q (.bl true) H'
theorem ints_rp {K : PySem.W.Frag} {G : Hp} {S : Addr → Prop} : ∀ ns : List Int, RpL K G S (ns.map D.int) (ns.map V.int) []
  | [] => ⟨rfl, rfl⟩
  | n :: ns => ⟨.int n, ns.map V.int, [], [], rfl, rfl, ⟨rfl, rfl⟩, ints_rp ns⟩
theorem law_ok {P : Program} {w : World} {K : PySem.W.Frag} {mg : Str → Option Value} {base : Heap} {n : Nat} {f : Addr} {fd : FuncData} {x : Str} {g : Fd} (F : FnOk P w K mg base CX0 n f fd [x] (spF K 1 g)) (h : ∀ ns : List Int, ns.length ≤ 63 → ∃ ds, g [.scr (ns.map D.int)] = some (.bl true, ds)) :
    FnOk P w K mg base CX0 n f fd [x] (spLaw K) := by
  have to : ∀ vs H Q E, spLaw K vs H Q E → spF K 1 g vs H Q E := fun vs H Q E hl => by
    obtain ⟨a, ns, e, hs, hn, q⟩ := hl
    subst e
    obtain ⟨ds, hd⟩ := h ns hn
    refine ⟨fun b => b = a ∧ ∃ o, H b = some o, [], [.scr (ns.map D.int)], .bl true, ds, rfl, ⟨.ref a, [], [], [], rfl, rfl, ⟨rfl, a, ns.map V.int, rfl, ?_, ints_rp ns⟩, rfl, rfl⟩, .nil, (fun _ m => by cases m), fun a ha => ha.2, hd, fun v G' S' T F' fin => ?_⟩
    · rcases hs with hs | hs
      · refine .inl ⟨⟨rfl, ?_⟩, hs⟩
        rcases hs with hs | ⟨o, hs⟩
        · exact ⟨_, hs⟩
        · exact ⟨_, hs⟩
      · exact .inr (.inr hs)
    · have ev : v = .bl true := fin.rp.1
      subst ev
      exact q G'
  exact ⟨fun vs H Q E hl => F.len vs H Q E (to vs H Q E hl), fun A outer s H args us vs Q E a b c d hl => F.run A outer s H args us vs Q E a b c d (to vs H Q E hl)⟩
end DE
namespace DE
open PySem PySem.Spec L2
local macro_rules | `(tactic| walk_at "ev") => `(tactic| simp only [fnD, evSeq, evAsg, evRet, evRetN, evIf, evB, evEx, evVar, evMv, evCon, ev1, ev2, evN, evIsi, evCons, evNil, evTup, evLst, evDis, evCall, evMut, evMs, evAnd, evOr, evNot, evAndT, evOrT, evNotT, evIte, evChain, evSl0, evSlB, evYes, evNx, evBk, evCt, evSet,
  prim, look, looks, tk, tks, pull, pulls, push, pushes, asB, asI, asK, isS, f1, f2, slL, slH, slB, stNm, stTup, stCons, stNil, turn, frzAt, argsOf, D.sc, scV, scal, pLen, pAdd, pSub, pDiv, pMod, pLt, pLe, pGt, pGe, pNeg, pAbs, pMin, pMax, pEqD, pNeD, pEq, pIdx, seqOf, keyOf, pSl, pList, pTuple, mApp, mExt, mPop, mClr, mIns, isiD, tyD,
  frz, frzL, frzK, isF, isFL, kidsOf, List.map_cons, List.map_nil, List.length_cons, List.length_nil, List.getElem?_cons_zero, List.getElem?_cons_succ, List.getElem?_nil, List.set_cons_zero, List.set_cons_succ, List.replicate, List.append_eq, List.nil_append, List.cons_append, List.contains_nil, List.contains_cons, Bool.or_false, Bool.false_or, Bool.or_true, Bool.true_or, Bool.and_true, Bool.true_and, Bool.and_false, Bool.false_and, Bool.not_true, Bool.not_false,
  if_true, if_false, ite_true, ite_false, reduceIte, reduceCtorEq, Option.map_some, Option.map_none, Nat.reduceAdd, Nat.reduceSub, Nat.reduceLT, Nat.reduceEqDiff, Nat.reduceLeDiff, Nat.zero_add, Nat.lt_add_left_iff_pos, Nat.reduceBEq, Bool.false_eq_true, beq_self_eq_true])
theorem atI_nn {α : Type} {l : List α} {i : Int} (h0 : 0 ≤ i) : atI l i = l[i.toNat]? := by
  unfold atI ixN
  rw [if_pos h0]
  by_cases h : i < (l.length : Int)
  · rw [if_pos h]; rfl
  · rw [if_neg h, List.getElem?_eq_none (by omega)]; rfl
theorem atI_d {α : Type} {l : List α} {i : Int} (h0 : 0 ≤ i) (h1 : i < (l.length : Int)) (d : α) : atI l i = some (l.getD i.toNat d) := by
  rw [atI_nn h0, List.getD_eq_getElem?_getD, List.getElem?_eq_getElem (by omega)]
  rfl
theorem frzL_of {α : Type} {enc : α → D} (h : ∀ x, frz (enc x) = enc x) (l : List α) : frzL (l.map enc) = l.map enc := by
  rw [frzL_map, List.map_map]
  exact List.map_congr_left fun x _ => h x
theorem isFL_of {α : Type} {enc : α → D} (h : ∀ x, frz (enc x) = enc x) (l : List α) : isFL (l.map enc) = true := by
  rw [← frzL_of h]
  exact isFL_of_frz _
theorem isF_of {d : D} (h : frz d = d) : isF d = true := by
  rw [← h]
  exact isF_of_frz d
theorem at_map {α β : Type} {l : List α} {f : α → β} {i : Int} (h0 : 0 ≤ i) (h1 : i < (l.length : Int)) (d : α) : atI (l.map f) i = some (f (l.getD i.toNat d)) := by
  rw [atI_nn h0, List.getElem?_map, List.getD_eq_getElem?_getD, List.getElem?_eq_getElem (by omega)]
  rfl
theorem forIt_nx {α : Type} {st : St1} {b : EvS} {enc : α → D} {items : List α} (P : List α → En) (h : ∀ pre x post, items = pre ++ x :: post → ∃ E1 E2, st (enc x) (P pre) = some E1 ∧ (b E1 = some (.nx E2) ∨ b E1 = some (.ct E2)) ∧ E2 = P (pre ++ [x])) :
    forIt st b (items.map enc) (P []) = some (.nx (P items)) := by
  have gen : ∀ post pre, items = pre ++ post → forIt st b (post.map enc) (P pre) = some (.nx (P items)) := by
    intro post
    induction post with
    | nil =>
      intro pre e
      rw [List.append_nil] at e
      subst e
      rfl
    | cons x post ih =>
      intro pre e
      obtain ⟨E1, E2, h1, h2, h3⟩ := h pre x post e
      subst h3
      have := ih (pre ++ [x]) (by rw [e, List.append_assoc]; rfl)
      show turn st b (enc x) (P pre) (forIt st b (post.map enc)) = _
      unfold turn
      rw [h1]
      rcases h2 with h2 | h2
      · simp only [h2]
        exact this
      · simp only [h2]
        exact this
  exact gen items [] rfl
theorem forIt_find {α : Type} {st : St1} {b : EvS} {enc : α → D} {items : List α} (P : List α → En) (r : List α → α → Option Out) (h : ∀ pre x post, items = pre ++ x :: post → ∃ E1, st (enc x) (P pre) = some E1 ∧ match r pre x with
      | none => b E1 = some (.nx (P (pre ++ [x]))) ∨ b E1 = some (.ct (P (pre ++ [x])))
      | some o => ∃ d E2, o = .rt d E2 ∧ b E1 = some (.rt d E2)) {pre0 : List α} {x0 : α} {post0 : List α} (e0 : items = pre0 ++ x0 :: post0) (hn : ∀ pre x post, pre0 = pre ++ x :: post → r pre x = none) {o : Out} (ho : r pre0 x0 = some o) :
    forIt st b (items.map enc) (P []) = some o := by
  have gen : ∀ post pre, pre0 = pre ++ post → forIt st b ((post ++ x0 :: post0).map enc) (P pre) = some o := by
    intro post
    induction post with
    | nil =>
      intro pre e
      rw [List.append_nil] at e
      subst e
      obtain ⟨E1, h1, h2⟩ := h pre0 x0 post0 e0
      rw [ho] at h2
      obtain ⟨d, E2, e1, h2⟩ := h2
      subst e1
      show turn st b (enc x0) (P pre0) (forIt st b (post0.map enc)) = _
      unfold turn
      simp only [h1, h2]
    | cons x post ih =>
      intro pre e
      obtain ⟨E1, h1, h2⟩ := h pre x (post ++ x0 :: post0) (by rw [e0, e, List.append_assoc]; rfl)
      rw [hn pre x post e] at h2
      have := ih (pre ++ [x]) (by rw [e, List.append_assoc]; rfl)
      show turn st b (enc x) (P pre) (forIt st b ((post ++ x0 :: post0).map enc)) = _
      unfold turn
      rw [h1]
      rcases h2 with h2 | h2
      · simp only [h2]
        exact this
      · simp only [h2]
        exact this
  rw [e0]
  exact gen pre0 [] rfl
theorem lcIt_fm {α : Type} {own : List Nat} {st : St1} {ifs : EvT} {elt : EvO} {enc f : α → D} {p : α → Bool} {E : En} : ∀ {items : List α} {acc : List D}, (∀ x, x ∈ items → ∃ E1 E2, st (enc x) E = some E1 ∧ ifs E1 = some (p x, E2) ∧ (p x = false → wipeE E2 own = E) ∧ (p x = true → ∃ o E3 E4, elt E2 = some (o, E3) ∧ tks [o] E3 = some ([f x], E4) ∧ wipeE E4 own = E)) →
    acc.length + items.length ≤ lim → lcIt own st ifs elt (items.map enc) acc E = some (acc ++ (items.filter p).map f, E) := by
  intro items
  induction items with
  | nil =>
    intro acc h hl
    show some (acc, E) = _
    rw [List.filter_nil, List.map_nil, List.append_nil]
  | cons x items ih =>
    intro acc h hl
    obtain ⟨E1, E2, h1, h2, h3, h4⟩ := h x (List.mem_cons_self ..)
    have hr : ∀ y, y ∈ items → _ := fun y hy => h y (List.mem_cons_of_mem _ hy)
    rw [List.length_cons] at hl
    show lcTurn own st ifs elt (enc x) acc E (lcIt own st ifs elt (items.map enc)) = _
    unfold lcTurn
    simp only [h1]
    cases hp : p x with
    | false =>
      rw [hp] at h2
      simp only [h2, h3 hp]
      rw [ih hr (by omega), List.filter_cons_of_neg (by rw [hp]; exact Bool.false_ne_true)]
    | true =>
      rw [hp] at h2
      obtain ⟨o, E3, E4, h5, h6, h7⟩ := h4 hp
      have h8 : tks [.temp (.lst true acc), o] E3 = some ([D.lst true acc, f x], E4) := by
        show (match tks [o] E3 with | some (ds, E2) => some (D.lst true acc :: ds, E2) | none => none) = _
        rw [h6]
      simp only [h2, h5, h8]
      rw [if_pos (show acc.length < lim by omega), h7, ih hr (by rw [List.length_append, List.length_singleton]; omega), List.filter_cons_of_pos hp, List.map_cons, List.append_assoc]
      rfl
theorem lcIt_all {α : Type} {own : List Nat} {st : St1} {elt : EvO} {enc f : α → D} {E : En} {items : List α} (h : ∀ x, x ∈ items → ∃ E1 o E3 E4, st (enc x) E = some E1 ∧ elt E1 = some (o, E3) ∧ tks [o] E3 = some ([f x], E4) ∧ wipeE E4 own = E) (hl : items.length ≤ lim) :
    lcIt own st evYes elt (items.map enc) [] E = some (items.map f, E) := by
  have := lcIt_fm (own := own) (st := st) (ifs := evYes) (elt := elt) (enc := enc) (f := f) (p := fun _ => true) (E := E) (items := items) (acc := []) (fun x hx => by
    obtain ⟨E1, o, E3, E4, h1, h2, h3, h4⟩ := h x hx
    exact ⟨E1, E1, h1, rfl, (fun z => by cases z), fun _ => ⟨o, E3, E4, h2, h3, h4⟩⟩) (by simpa using hl)
  rw [this, List.nil_append, List.filter_eq_self.mpr (fun _ _ => rfl)]
end DE
namespace DE
open PySem PySem.Spec L2
theorem at0 {α : Type} {x0 : α} {l : List α} : atI (x0 :: l) 0 = some x0 := by rw [atI_nn (by decide)]; rfl
theorem at1 {α : Type} {x0 x1 : α} {l : List α} : atI (x0 :: x1 :: l) 1 = some x1 := by rw [atI_nn (by decide)]; rfl
theorem at2 {α : Type} {x0 x1 x2 : α} {l : List α} : atI (x0 :: x1 :: x2 :: l) 2 = some x2 := by rw [atI_nn (by decide)]; rfl
theorem at3 {α : Type} {x0 x1 x2 x3 : α} {l : List α} : atI (x0 :: x1 :: x2 :: x3 :: l) 3 = some x3 := by rw [atI_nn (by decide)]; rfl
theorem at4 {α : Type} {x0 x1 x2 x3 x4 : α} {l : List α} : atI (x0 :: x1 :: x2 :: x3 :: x4 :: l) 4 = some x4 := by rw [atI_nn (by decide)]; rfl
theorem at5 {α : Type} {x0 x1 x2 x3 x4 x5 : α} {l : List α} : atI (x0 :: x1 :: x2 :: x3 :: x4 :: x5 :: l) 5 = some x5 := by rw [atI_nn (by decide)]; rfl
theorem frzL_ints (ns : List Int) : frzL (ns.map D.int) = ns.map D.int := by
  rw [frzL_map, List.map_map]; rfl
theorem isFL_ints (ns : List Int) : isFL (ns.map D.int) = true := by
  rw [← frzL_ints]; exact isFL_of_frz _
theorem set_alike {α : Type} : ∀ {l : List α} {i : Nat} {x : α}, l[i]? = some x → l.set i x = l := by
  intro l
  induction l with
  | nil => intro i x h; rfl
  | cons y l ih =>
    intro i x h
    cases i with
    | zero => simp at h; subst h; rfl
    | succ i => simp at h; rw [List.set_cons_succ, ih h]
theorem forOwn_nx {α : Type} {st : St1} {b : EvS} {enc : α → D} (he : ∀ x, frz (enc x) = enc x) {items : List α} {i N : Nat} {m : Bool} (P : List α → En) (hi : ∀ pre, (P pre)[i]? = some (some (.lst m (items.map enc)))) (hN : items.length < N)
    (h : ∀ pre x post, items = pre ++ x :: post → ∃ E1 E2, st (enc x) (P pre) = some E1 ∧ (b E1 = some (.nx E2) ∨ b E1 = some (.ct E2)) ∧ E2 = P (pre ++ [x])) :
    forOwn i st b N 0 (P []) = some (.nx (P items)) := by
  have gen : ∀ post pre N', items = pre ++ post → post.length < N' → forOwn i st b N' pre.length (P pre) = some (.nx (P items)) := by
    intro post
    induction post with
    | nil =>
      intro pre N' e hN'
      rw [List.append_nil] at e
      subst e
      cases N' with
      | zero => exact absurd hN' (Nat.not_lt_zero _)
      | succ n =>
        unfold forOwn
        have hg : (items.map enc)[items.length]? = none := List.getElem?_eq_none (by rw [List.length_map]; exact Nat.le_refl _)
        cases m <;> simp only [hi, hg]
    | cons x post ih =>
      intro pre N' e hN'
      cases N' with
      | zero => exact absurd hN' (Nat.not_lt_zero _)
      | succ n =>
        obtain ⟨E1, E2, h1, h2, h3⟩ := h pre x post e
        subst h3
        have := ih (pre ++ [x]) n (by rw [e, List.append_assoc]; rfl) (by simpa using hN')
        rw [List.length_append, List.length_singleton] at this
        have hg : (items.map enc)[pre.length]? = some (enc x) := by
          rw [e, List.map_append, List.getElem?_append_right (by rw [List.length_map]; exact Nat.le_refl _), List.length_map, Nat.sub_self]
          rfl
        have hs := set_alike (hi pre)
        unfold forOwn
        cases m <;>
        · simp only [hi, hg, frzL_of he, he, hs]
          unfold turn
          rw [h1]
          rcases h2 with h2 | h2
          · simp only [h2]
            exact this
          · simp only [h2]
            exact this
  exact gen items [] N rfl hN
mutual
def fine : Nat → D → Bool
  | _, .str x => PyData.strOk x
  | n, .tup ds => decide (0 < n) && fineL (n - 1) ds
  | n, .lst _ ds => decide (0 < n) && fineL (n - 1) ds
  | n, .scr ds => decide (0 < n) && fineL (n - 1) ds
  | _, .dK _ _ _ => false
  | _, _ => true
def fineL : Nat → List D → Bool
  | _, [] => true
  | n, d :: ds => fine n d && fineL n ds
end
mutual
theorem fine_ok : ∀ (d : D) (n : Nat), fine n d = true → noD d = true ∧ (py d).canLay0 = true ∧ (py d).depth ≤ n
  | .non, n, h => ⟨rfl, rfl, Nat.zero_le _⟩
  | .bl _, n, h => ⟨rfl, rfl, Nat.zero_le _⟩
  | .int _, n, h => ⟨rfl, rfl, Nat.zero_le _⟩
  | .str x, n, h => ⟨rfl, h, Nat.zero_le _⟩
  | .tup ds, n, h => by
    have h' := (Bool.and_eq_true _ _).mp h
    have hn := of_decide_eq_true h'.1
    obtain ⟨a, b, c⟩ := fineL_ok ds (n - 1) h'.2
    exact ⟨a, b, by show PyData.depthAll (pyL ds) + 1 ≤ n; omega⟩
  | .lst _ ds, n, h => by
    have h' := (Bool.and_eq_true _ _).mp h
    have hn := of_decide_eq_true h'.1
    obtain ⟨a, b, c⟩ := fineL_ok ds (n - 1) h'.2
    exact ⟨a, b, by show PyData.depthAll (pyL ds) + 1 ≤ n; omega⟩
  | .scr ds, n, h => by
    have h' := (Bool.and_eq_true _ _).mp h
    have hn := of_decide_eq_true h'.1
    obtain ⟨a, b, c⟩ := fineL_ok ds (n - 1) h'.2
    exact ⟨a, b, by show PyData.depthAll (pyL ds) + 1 ≤ n; omega⟩
  | .dK _ _ _, n, h => by cases h
theorem fineL_ok : ∀ (ds : List D) (n : Nat), fineL n ds = true → noDL ds = true ∧ PyData.canLayAll0 (pyL ds) = true ∧ PyData.depthAll (pyL ds) ≤ n
  | [], n, _ => ⟨rfl, rfl, Nat.zero_le _⟩
  | d :: ds, n, h => by
    have h' := (Bool.and_eq_true _ _).mp h
    obtain ⟨a, b, c⟩ := fine_ok d n h'.1
    obtain ⟨a2, b2, c2⟩ := fineL_ok ds n h'.2
    refine ⟨(Bool.and_eq_true _ _).mpr ⟨a, a2⟩, (Bool.and_eq_true _ _).mpr ⟨b, b2⟩, ?_⟩
    show max (py d).depth (PyData.depthAll (pyL ds)) ≤ n
    omega
end
theorem fine_py {d : D} (h : fine 64 d = true) : pyOk d = true := by
  obtain ⟨a, b, c⟩ := fine_ok d 64 h
  unfold pyOk SeqAt.shaped
  rw [a, b, decide_eq_true c]
  rfl
theorem fine_refl {d : D} (h : fine 64 d = true) : PyData.eqv (py d) (py d) = true := SeqAt.eqv_refl _ (fine_ok d 64 h).2.1
theorem fineL_map {α : Type} {enc : α → D} {n : Nat} {l : List α} (h : ∀ x, x ∈ l → fine n (enc x) = true) : fineL n (l.map enc) = true := by
  induction l with
  | nil => rfl
  | cons x l ih => exact (Bool.and_eq_true _ _).mpr ⟨h x (List.mem_cons_self ..), ih fun y hy => h y (List.mem_cons_of_mem _ hy)⟩
theorem all_getD {p : Str → Bool} {l : List Str} {d : Str} (i : Nat) (h : l.all p = true) (hd : p d = true) : p (l.getD i d) = true := by
  rw [List.getD_eq_getElem?_getD]
  by_cases hi : i < l.length
  · rw [List.getElem?_eq_getElem hi]
    exact List.all_eq_true.mp h _ (List.getElem_mem hi)
  · rw [List.getElem?_eq_none (by omega)]
    exact hd
theorem cutD_map {α : Type} {f : α → D} (l : List α) (lo hi : Option Int) : ∃ cs : List α, cutD (l.map f) lo hi = cs.map f ∧ cs.length ≤ l.length ∧ ∀ x, x ∈ cs → x ∈ l := by
  unfold cutD
  refine ⟨_, by rw [← List.map_drop, ← List.map_take], ?_, fun x hx => List.mem_of_mem_drop (List.mem_of_mem_take hx)⟩
  rw [List.length_take, List.length_drop]
  omega
theorem forIt_inv {α : Type} {st : St1} {b : EvS} {enc : α → D} {items : List α} (I : List α → En → Prop)
    (h : ∀ pre x post E, items = pre ++ x :: post → I pre E → ∃ E1 E2, st (enc x) E = some E1 ∧ (b E1 = some (.nx E2) ∨ b E1 = some (.ct E2)) ∧ I (pre ++ [x]) E2) {E : En} (h0 : I [] E) :
    ∃ E', forIt st b (items.map enc) E = some (.nx E') ∧ I items E' := by
  have gen : ∀ post pre E, items = pre ++ post → I pre E → ∃ E', forIt st b (post.map enc) E = some (.nx E') ∧ I items E' := by
    intro post
    induction post with
    | nil =>
      intro pre E e hi
      rw [List.append_nil] at e
      subst e
      exact ⟨E, rfl, hi⟩
    | cons x post ih =>
      intro pre E e hi
      obtain ⟨E1, E2, h1, h2, h3⟩ := h pre x post E e hi
      obtain ⟨E', h4, h5⟩ := ih (pre ++ [x]) E2 (by rw [e, List.append_assoc]; rfl) h3
      refine ⟨E', ?_, h5⟩
      show turn st b (enc x) E (forIt st b (post.map enc)) = _
      unfold turn
      rw [h1]
      rcases h2 with h2 | h2
      · simp only [h2]
        exact h4
      · simp only [h2]
        exact h4
  exact gen items [] E rfl h0
theorem forOwn_inv {α : Type} {st : St1} {b : EvS} {enc : α → D} (he : ∀ x, frz (enc x) = enc x) {items : List α} {i N : Nat} {m : Bool} (I : List α → En → Prop) (hi : ∀ pre E, I pre E → E[i]? = some (some (.lst m (items.map enc)))) (hN : items.length < N)
    (h : ∀ pre x post E, items = pre ++ x :: post → I pre E → ∃ E1 E2, st (enc x) E = some E1 ∧ (b E1 = some (.nx E2) ∨ b E1 = some (.ct E2)) ∧ I (pre ++ [x]) E2) {E : En} (h0 : I [] E) :
    ∃ E', forOwn i st b N 0 E = some (.nx E') ∧ I items E' := by
  have gen : ∀ post pre N' E, items = pre ++ post → post.length < N' → I pre E → ∃ E', forOwn i st b N' pre.length E = some (.nx E') ∧ I items E' := by
    intro post
    induction post with
    | nil =>
      intro pre N' E e hN' hI
      rw [List.append_nil] at e
      subst e
      cases N' with
      | zero => exact absurd hN' (Nat.not_lt_zero _)
      | succ n =>
        refine ⟨E, ?_, hI⟩
        unfold forOwn
        have hg : (items.map enc)[items.length]? = none := List.getElem?_eq_none (by rw [List.length_map]; exact Nat.le_refl _)
        cases m <;> simp only [hi _ _ hI, hg]
    | cons x post ih =>
      intro pre N' E e hN' hI
      cases N' with
      | zero => exact absurd hN' (Nat.not_lt_zero _)
      | succ n =>
        obtain ⟨E1, E2, h1, h2, h3⟩ := h pre x post E e hI
        obtain ⟨E', h4, h5⟩ := ih (pre ++ [x]) n E2 (by rw [e, List.append_assoc]; rfl) (by simpa using hN') h3
        refine ⟨E', ?_, h5⟩
        rw [List.length_append, List.length_singleton] at h4
        have hg : (items.map enc)[pre.length]? = some (enc x) := by
          rw [e, List.map_append, List.getElem?_append_right (by rw [List.length_map]; exact Nat.le_refl _), List.length_map, Nat.sub_self]
          rfl
        have hs := set_alike (hi _ _ hI)
        unfold forOwn
        cases m <;>
        · simp only [hi _ _ hI, hg, frzL_of he, he, hs]
          unfold turn
          rw [h1]
          rcases h2 with h2 | h2
          · simp only [h2]
            exact h4
          · simp only [h2]
            exact h4
  exact gen items [] N E rfl hN h0
theorem lcIt_ex {α β : Type} {own : List Nat} {st : St1} {elt : EvO} {enc : α → D} {enc2 : β → D} {E : En} (Q : β → Prop) : ∀ {items : List α} {acc : List D}, (∀ x, x ∈ items → ∃ y E1 o E3 E4, Q y ∧ st (enc x) E = some E1 ∧ elt E1 = some (o, E3) ∧ tks [o] E3 = some ([enc2 y], E4) ∧ wipeE E4 own = E) → acc.length + items.length ≤ lim →
    ∃ ys : List β, ys.length = items.length ∧ (∀ y, y ∈ ys → Q y) ∧ lcIt own st evYes elt (items.map enc) acc E = some (acc ++ ys.map enc2, E) := by
  intro items
  induction items with
  | nil =>
    intro acc h hl
    exact ⟨[], rfl, (fun _ z => by cases z), by rw [List.map_nil, List.map_nil, List.append_nil]; rfl⟩
  | cons x items ih =>
    intro acc h hl
    obtain ⟨y, E1, o, E3, E4, hy, h1, h2, h3, h4⟩ := h x (List.mem_cons_self ..)
    rw [List.length_cons] at hl
    obtain ⟨ys, g1, g2, g3⟩ := ih (acc := acc ++ [enc2 y]) (fun z hz => h z (List.mem_cons_of_mem _ hz)) (by rw [List.length_append, List.length_singleton]; omega)
    refine ⟨y :: ys, by rw [List.length_cons, List.length_cons, g1], fun z hz => (List.mem_cons.mp hz).elim (fun e => e ▸ hy) (g2 z), ?_⟩
    have h8 : tks [.temp (.lst true acc), o] E3 = some ([D.lst true acc, enc2 y], E4) := by
      show (match tks [o] E3 with | some (ds, E2) => some (D.lst true acc :: ds, E2) | none => none) = _
      rw [h3]
    show lcTurn own st evYes elt (enc x) acc E (lcIt own st evYes elt (items.map enc)) = _
    unfold lcTurn
    simp only [h1, evYes, h2, h8]
    rw [if_pos (show acc.length < lim by omega), h4]
    rw [g3, List.append_assoc]
    rfl
def okS (n : Nat) (x : Str) : Prop := x.length ≤ n ∧ PyData.strOk x = true
theorem strOk_iff {x : Str} : PyData.strOk x = true ↔ ∀ c, c ∈ x.cps.toList → c < 0x110000 := by
  unfold PyData.strOk
  rw [Array.all_eq_true_iff_forall_mem]
  constructor
  · intro h c hc
    exact of_decide_eq_true (h c (by simpa using hc))
  · intro h c hc
    exact decide_eq_true (h c (by simpa using hc))
theorem okS.mono {n m : Nat} {x : Str} (h : okS n x) (l : n ≤ m) : okS m x := ⟨Nat.le_trans h.1 l, h.2⟩
theorem okS_append {n m : Nat} {x y : Str} (h : okS n x) (g : okS m y) : okS (n + m) (x ++ y) := by
  refine ⟨?_, ?_⟩
  · show (x.cps ++ y.cps).size ≤ _
    rw [Array.size_append]
    exact Nat.add_le_add h.1 g.1
  · rw [strOk_iff] at *
    intro c hc
    have hc : c ∈ (x.cps ++ y.cps).toList := hc
    rw [Array.toList_append] at hc
    rcases List.mem_append.mp hc with hc | hc
    · exact strOk_iff.mp h.2 c hc
    · exact strOk_iff.mp g.2 c hc
theorem okS_cut {n : Nat} {x : Str} (h : okS n x) (lo hi : Option Int) : okS n (cutS x lo hi) := by
  refine ⟨?_, ?_⟩
  · show (List.toArray _).size ≤ n
    rw [List.size_toArray, List.length_take, List.length_drop]
    have : x.cps.toList.length ≤ n := h.1
    omega
  · rw [strOk_iff]
    intro c hc
    exact strOk_iff.mp h.2 c (List.mem_of_mem_drop (List.mem_of_mem_take hc))
theorem okS_one {n c : Nat} {x : Str} (h : okS n x) (hc : c ∈ x.cps.toList) : okS 1 ⟨#[c]⟩ := by
  refine ⟨Nat.le_refl _, ?_⟩
  rw [strOk_iff]
  intro d hd
  have : d = c := by simpa using hd
  subst this
  exact strOk_iff.mp h.2 d hc
theorem inV_strs (x : Str) (ss : List Str) : inV (.str x) (ss.map V.str) = decide (x ∈ ss) := by
  unfold inV
  induction ss with
  | nil => rfl
  | cons y ss ih =>
    rw [List.map_cons, List.any_cons, ih]
    by_cases h : y = x
    · subst h
      have : eqV (.str y) (.str y) = true := by unfold eqV; simp
      rw [this, Bool.true_or]
      exact (decide_eq_true (List.mem_cons_self ..)).symm
    · have : eqV (.str y) (.str x) = false := by unfold eqV; simpa using h
      rw [this, Bool.false_or]
      exact decide_eq_decide.mpr ⟨fun q => List.mem_cons_of_mem _ q, fun q => (List.mem_cons.mp q).elim (fun e => absurd e.symm h) id⟩
theorem vals_strs (ss : List Str) : vals (ss.map D.str) = some (ss.map V.str) := by
  induction ss with
  | nil => rfl
  | cons x ss ih =>
    show (match scV (.str x), vals (ss.map D.str) with | some v, some vs => some (v :: vs) | _, _ => none) = _
    rw [ih]
    rfl
theorem pIn_strs (x : Str) (m : Bool) (ss : List Str) : pIn (.str x) (.lst m (ss.map D.str)) = some (decide (x ∈ ss)) := by
  show (match vals (ss.map D.str) with | some vs => some (inV (.str x) vs) | none => none) = _
  rw [vals_strs]
  exact congrArg some (inV_strs x ss)
theorem sts_strs (ss : List Str) : sts (ss.map D.str) = some ss := by
  induction ss with
  | nil => rfl
  | cons x ss ih =>
    show (sts (ss.map D.str)).map (x :: ·) = _
    rw [ih]
    rfl
theorem frzL_strs (ss : List Str) : frzL (ss.map D.str) = ss.map D.str := frzL_of (fun _ => rfl) ss
theorem isFL_strs (ss : List Str) : isFL (ss.map D.str) = true := isFL_of (fun _ => rfl) ss
theorem fineL_strs {n : Nat} {ss : List Str} (h : ∀ x, x ∈ ss → PyData.strOk x = true) : fineL n (ss.map D.str) = true := fineL_map h
theorem fineL_ints {n : Nat} {ss : List Int} : fineL n (ss.map D.int) = true := fineL_map fun _ _ => rfl
end DE
namespace DE
open PySem PySem.Spec L2
abbrev Ch := _root_.Fin 1114112
abbrev Tx := List Ch
def toS (t : Tx) : Str := ⟨(t.map _root_.Fin.val).toArray⟩
def eTx (t : Tx) : D := .str (toS t)
def txc (c : Nat) : Ch := if h : c < 1114112 then ⟨c, h⟩ else ⟨0, by decide⟩
def txL (l : List Nat) : Tx := l.map txc
theorem map_val_inj : ∀ {a b : Tx}, a.map _root_.Fin.val = b.map _root_.Fin.val → a = b := by
  intro a
  induction a with
  | nil => intro b h; cases b with
    | nil => rfl
    | cons _ _ => cases h
  | cons x a ih => intro b h; cases b with
    | nil => cases h
    | cons y b =>
      rw [List.map_cons, List.map_cons] at h
      injection h with h1 h2
      rw [_root_.Fin.ext h1, ih h2]
theorem toS_inj {a b : Tx} (h : toS a = toS b) : a = b := by
  unfold toS at h
  injection h with h
  exact map_val_inj (by simpa using congrArg Array.toList h)
theorem toS_len (t : Tx) : (toS t).length = t.length := by
  show ((t.map _root_.Fin.val).toArray).size = _
  rw [List.size_toArray, List.length_map]
theorem toS_list (t : Tx) : (toS t).cps.toList = t.map _root_.Fin.val := rfl
theorem toS_ok (t : Tx) : PyData.strOk (toS t) = true := by
  rw [strOk_iff]
  intro c hc
  rw [toS_list, List.mem_map] at hc
  obtain ⟨x, _, e⟩ := hc
  rw [← e]
  exact x.isLt
def eL {α : Type} (e : α → D) (xs : List α) : D := .lst false (xs.map e)
def eQ {α : Type} (e : α → D) (xs : List α) : D := .tup (xs.map e)
def eP {α β : Type} (e : α → D) (f : β → D) (p : α × β) : D := .tup [e p.1, f p.2]
def eP3 {α β γ : Type} (e : α → D) (f : β → D) (g : γ → D) (p : α × β × γ) : D := .tup [e p.1, f p.2.1, g p.2.2]
def eO {α : Type} (e : α → D) : Option α → D
  | none => .non
  | some x => e x
class Fz {α : Type} (e : α → D) : Prop where
  fz : ∀ x, frz (e x) = e x
instance : Fz D.int := ⟨fun _ => rfl⟩
instance : Fz D.bl := ⟨fun _ => rfl⟩
instance : Fz eTx := ⟨fun _ => rfl⟩
theorem frzL_e {α : Type} (e : α → D) [h : Fz e] (xs : List α) : frzL (xs.map e) = xs.map e := frzL_of h.fz xs
theorem isFL_e {α : Type} (e : α → D) [h : Fz e] (xs : List α) : isFL (xs.map e) = true := isFL_of h.fz xs
instance {α : Type} (e : α → D) [Fz e] : Fz (eL e) := ⟨fun xs => by show D.lst false (frzL _) = _; rw [frzL_e]; rfl⟩
instance {α : Type} (e : α → D) [Fz e] : Fz (eQ e) := ⟨fun xs => by show D.tup (frzL _) = _; rw [frzL_e]; rfl⟩
instance {α β : Type} (e : α → D) (f : β → D) [Fz e] [Fz f] : Fz (eP e f) := ⟨fun p => by show D.tup [frz (e p.1), frz (f p.2)] = _; rw [Fz.fz, Fz.fz]; rfl⟩
instance {α β γ : Type} (e : α → D) (f : β → D) (g : γ → D) [Fz e] [Fz f] [Fz g] : Fz (eP3 e f g) := ⟨fun p => by show D.tup [frz (e p.1), frz (f p.2.1), frz (g p.2.2)] = _; rw [Fz.fz, Fz.fz, Fz.fz]; rfl⟩
instance {α : Type} (e : α → D) [Fz e] : Fz (eO e) := ⟨fun x => by cases x with
  | none => rfl
  | some x => exact Fz.fz (e := e) x⟩
theorem isF_e {α : Type} (e : α → D) [h : Fz e] (x : α) : isF (e x) = true := isF_of (h.fz x)
theorem frzK_F {d : D} (h : frz d = d) : frzK d = d := by
  cases d with
  | lst m ds => injection h with h1 h2; show D.lst m (frzL ds) = _; rw [h2]
  | dK m ks vs => injection h with h1 h2 h3; show D.dK m ks (frzL vs) = _; rw [h3]
  | _ => exact h
theorem frzK_e {α : Type} (e : α → D) [h : Fz e] (x : α) : frzK (e x) = e x := frzK_F (h.fz x)
class Eo {α : Type} (e : α → D) (n : outParam Nat) : Prop where
  fine : ∀ x, fine n (e x) = true
  inj : ∀ x y, PyData.eqv (py (e x)) (py (e y)) = true → x = y
instance : Eo D.int 0 := ⟨fun _ => rfl, fun x y h => by simpa [py, PyData.eqv] using h⟩
instance : Eo D.bl 0 := ⟨fun _ => rfl, fun x y h => by simpa [py, PyData.eqv] using h⟩
instance : Eo eTx 0 := ⟨fun t => toS_ok t, fun x y h => toS_inj (by simpa [eTx, py, PyData.eqv] using h)⟩
theorem eqvAll_inj {α : Type} {e : α → D} (h : ∀ x y, PyData.eqv (py (e x)) (py (e y)) = true → x = y) : ∀ {xs ys : List α}, PyData.eqvAll (pyL (xs.map e)) (pyL (ys.map e)) = true → xs = ys
  | [], [], _ => rfl
  | [], _ :: _, z => by cases z
  | _ :: _, [], z => by cases z
  | x :: xs, y :: ys, z => by
    have z' := (Bool.and_eq_true _ _).mp (show (PyData.eqv (py (e x)) (py (e y)) && PyData.eqvAll (pyL (xs.map e)) (pyL (ys.map e))) = true from z)
    rw [h x y z'.1, eqvAll_inj h z'.2]
instance {α : Type} (e : α → D) (n : Nat) [h : Eo e n] : Eo (eL e) (n + 1) := ⟨fun xs => by
    show (decide (0 < n + 1) && fineL n (xs.map e)) = true
    rw [decide_eq_true (Nat.succ_pos n), fineL_map fun x _ => h.fine x]; rfl, fun xs ys z => eqvAll_inj h.inj z⟩
instance {α : Type} (e : α → D) (n : Nat) [h : Eo e n] : Eo (eQ e) (n + 1) := ⟨fun xs => by
    show (decide (0 < n + 1) && fineL n (xs.map e)) = true
    rw [decide_eq_true (Nat.succ_pos n), fineL_map fun x _ => h.fine x]; rfl, fun xs ys z => eqvAll_inj h.inj z⟩
mutual
theorem fine_mono : ∀ (d : D) {n m : Nat}, n ≤ m → fine n d = true → fine m d = true
  | .non, _, _, _, _ => rfl
  | .bl _, _, _, _, _ => rfl
  | .int _, _, _, _, _ => rfl
  | .str x, _, _, _, h => h
  | .tup ds, n, m, l, h => by
    have h' := (Bool.and_eq_true _ _).mp h
    have hn := of_decide_eq_true h'.1
    exact (Bool.and_eq_true _ _).mpr ⟨decide_eq_true (by omega), fineL_mono ds (by omega) h'.2⟩
  | .lst _ ds, n, m, l, h => by
    have h' := (Bool.and_eq_true _ _).mp h
    have hn := of_decide_eq_true h'.1
    exact (Bool.and_eq_true _ _).mpr ⟨decide_eq_true (by omega), fineL_mono ds (by omega) h'.2⟩
  | .scr ds, n, m, l, h => by
    have h' := (Bool.and_eq_true _ _).mp h
    have hn := of_decide_eq_true h'.1
    exact (Bool.and_eq_true _ _).mpr ⟨decide_eq_true (by omega), fineL_mono ds (by omega) h'.2⟩
  | .dK _ _ _, _, _, _, h => by cases h
theorem fineL_mono : ∀ (ds : List D) {n m : Nat}, n ≤ m → fineL n ds = true → fineL m ds = true
  | [], _, _, _, _ => rfl
  | d :: ds, n, m, l, h => by
    have h' := (Bool.and_eq_true _ _).mp h
    exact (Bool.and_eq_true _ _).mpr ⟨fine_mono d l h'.1, fineL_mono ds l h'.2⟩
end
instance {α β : Type} (e : α → D) (f : β → D) (n m : Nat) [h : Eo e n] [g : Eo f m] : Eo (eP e f) (max n m + 1) := ⟨fun p => by
    show (decide (0 < max n m + 1) && (fine (max n m) (e p.1) && (fine (max n m) (f p.2) && true))) = true
    rw [fine_mono _ (Nat.le_max_left ..) (h.fine _), fine_mono _ (Nat.le_max_right ..) (g.fine _), decide_eq_true (Nat.succ_pos _)]; rfl, fun p q z => by
    have z' := (Bool.and_eq_true _ _).mp (show (PyData.eqv (py (e p.1)) (py (e q.1)) && (PyData.eqv (py (f p.2)) (py (f q.2)) && true)) = true from z)
    have z2 := (Bool.and_eq_true _ _).mp z'.2
    exact Prod.ext (h.inj _ _ z'.1) (g.inj _ _ z2.1)⟩
instance {α β γ : Type} (e : α → D) (f : β → D) (u : γ → D) (n m k : Nat) [h : Eo e n] [g : Eo f m] [i : Eo u k] : Eo (eP3 e f u) (max n (max m k) + 1) := ⟨fun p => by
    show (decide (0 < max n (max m k) + 1) && (fine (max n (max m k)) (e p.1) && (fine (max n (max m k)) (f p.2.1) && (fine (max n (max m k)) (u p.2.2) && true)))) = true
    rw [fine_mono _ (by omega) (h.fine _), fine_mono _ (by omega) (g.fine _), fine_mono _ (by omega) (i.fine _), decide_eq_true (Nat.succ_pos _)]; rfl, fun p q z => by
    have z' := (Bool.and_eq_true _ _).mp (show (PyData.eqv (py (e p.1)) (py (e q.1)) && (PyData.eqv (py (f p.2.1)) (py (f q.2.1)) && (PyData.eqv (py (u p.2.2)) (py (u q.2.2)) && true))) = true from z)
    have z2 := (Bool.and_eq_true _ _).mp z'.2
    have z3 := (Bool.and_eq_true _ _).mp z2.2
    exact Prod.ext (h.inj _ _ z'.1) (Prod.ext (g.inj _ _ z2.1) (i.inj _ _ z3.1))⟩
theorem eqv_dec {α : Type} [DecidableEq α] (e : α → D) (n : Nat) [h : Eo e n] (hn : n ≤ 64) (x y : α) : PyData.eqv (py (e x)) (py (e y)) = decide (x = y) := by
  by_cases q : x = y
  · subst q
    rw [decide_eq_true rfl]
    exact fine_refl (fine_mono _ hn (h.fine x))
  · rw [decide_eq_false q]
    cases z : PyData.eqv (py (e x)) (py (e y)) with
    | false => rfl
    | true => exact absurd (h.inj x y z) q
theorem eqvAll_dec {α : Type} [DecidableEq α] (e : α → D) (n : Nat) [h : Eo e n] (hn : n ≤ 63) (xs ys : List α) : PyData.eqvAll (pyL (xs.map e)) (pyL (ys.map e)) = decide (xs = ys) := eqv_dec (eL e) (n + 1) (by omega) xs ys
theorem py_ok {α : Type} (e : α → D) (n : Nat) [h : Eo e n] (hn : n ≤ 64) (x : α) : pyOk (e x) = true := fine_py (fine_mono _ hn (h.fine x))
theorem pEq_lst {α : Type} [DecidableEq α] (e : α → D) (n : Nat) [h : Eo e n] (hn : n ≤ 63 := by decide) (m k : Bool) (xs ys : List α) : pEq (.lst m (xs.map e)) (.lst k (ys.map e)) = some (decide (xs = ys)) := by
  have a : pyOk (.lst m (xs.map e)) = true := py_ok (eL e) (n + 1) (by omega) xs
  have b : pyOk (.lst k (ys.map e)) = true := py_ok (eL e) (n + 1) (by omega) ys
  show (if (pyOk (.lst m (xs.map e)) && pyOk (.lst k (ys.map e))) = true then some (PyData.eqvAll (pyL (xs.map e)) (pyL (ys.map e))) else none) = _
  rw [a, b, eqvAll_dec e n hn]; rfl
theorem pEq_tup {α : Type} [DecidableEq α] (e : α → D) (n : Nat) [h : Eo e n] (hn : n ≤ 63 := by decide) (xs ys : List α) : pEq (.tup (xs.map e)) (.tup (ys.map e)) = some (decide (xs = ys)) := by
  have a : pyOk (.tup (xs.map e)) = true := py_ok (eL e) (n + 1) (by omega) xs
  have b : pyOk (.tup (ys.map e)) = true := py_ok (eL e) (n + 1) (by omega) ys
  show (if (pyOk (.tup (xs.map e)) && pyOk (.tup (ys.map e))) = true then some (PyData.eqvAll (pyL (xs.map e)) (pyL (ys.map e))) else none) = _
  rw [a, b, eqvAll_dec e n hn]; rfl
theorem pEq_tx (x y : Tx) : pEq (eTx x) (eTx y) = some (decide (x = y)) := by
  show some (decide (V.str (toS x) = V.str (toS y))) = _
  by_cases q : x = y
  · subst q; rw [decide_eq_true rfl, decide_eq_true rfl]
  · rw [decide_eq_false q, decide_eq_false]
    intro z; injection z with z; exact q (toS_inj z)
theorem pEq_int (x y : Int) : pEq (.int x) (.int y) = some (decide (x = y)) := by
  show some (decide (V.int x = V.int y)) = _
  by_cases q : x = y
  · subst q; rw [decide_eq_true rfl, decide_eq_true rfl]
  · rw [decide_eq_false q, decide_eq_false]
    intro z; injection z with z; exact q z
theorem pEq_bl (x y : Bool) : pEq (.bl x) (.bl y) = some (decide (x = y)) := by
  show some (decide (V.bl x = V.bl y)) = _
  by_cases q : x = y
  · subst q; rw [decide_eq_true rfl, decide_eq_true rfl]
  · rw [decide_eq_false q, decide_eq_false]
    intro z; injection z with z; exact q z
theorem valsM {α : Type} (e : α → D) (v : α → V) (h : ∀ x, scV (e x) = some (v x)) (xs : List α) : vals (xs.map e) = some (xs.map v) := by
  induction xs with
  | nil => rfl
  | cons x xs ih =>
    show (match scV (e x), vals (xs.map e) with | some v, some vs => some (v :: vs) | _, _ => none) = _
    rw [h x, ih]; rfl
theorem pIn_tx (x : Tx) {y : D} {xs : List Tx} (hy : seqOf y = some (xs.map eTx)) : pIn (eTx x) y = some (decide (x ∈ xs)) := by
  have hv := valsM eTx (fun t => V.str (toS t)) (fun _ => rfl) xs
  have hi : inV (.str (toS x)) (xs.map fun t => V.str (toS t)) = decide (x ∈ xs) := by
    rw [show (xs.map fun t => V.str (toS t)) = (xs.map toS).map V.str from by rw [List.map_map]; rfl, inV_strs]
    by_cases q : x ∈ xs
    · rw [decide_eq_true q, decide_eq_true (List.mem_map_of_mem q)]
    · rw [decide_eq_false q, decide_eq_false]
      intro z
      obtain ⟨w, hw, e⟩ := List.mem_map.mp z
      exact q (toS_inj e ▸ hw)
  cases y <;> first
    | (cases hy; done)
    | (cases hy
       show (match vals (xs.map eTx) with | some vs => some (inV (.str (toS x)) vs) | none => none) = _
       rw [hv]
       exact congrArg some hi)
theorem pIn_txL (x : Tx) (m : Bool) (xs : List Tx) : pIn (eTx x) (.lst m (xs.map eTx)) = some (decide (x ∈ xs)) := pIn_tx x rfl
theorem pIn_txT (x : Tx) (xs : List Tx) : pIn (eTx x) (.tup (xs.map eTx)) = some (decide (x ∈ xs)) := pIn_tx x rfl
theorem atI_map {α β : Type} (f : α → β) (l : List α) (i : Int) : atI (l.map f) i = (atI l i).map f := by
  unfold atI
  rw [List.length_map]
  cases ixN l.length i with
  | none => rfl
  | some k => simp
def cutA {α : Type} (xs : List α) (lo hi : Option Int) : List α := (xs.drop (HT.sIx xs.length 0 lo)).take (HT.sIx xs.length xs.length hi - HT.sIx xs.length 0 lo)
theorem cutD_A {α : Type} (f : α → D) (xs : List α) (lo hi : Option Int) : cutD (xs.map f) lo hi = (cutA xs lo hi).map f := by
  unfold cutD cutA
  rw [List.length_map, List.map_take, List.map_drop]
def appP {α : Type} (xs : List α) (x : α) : Option (List α) := if xs.length < 1000000 then some (xs ++ [x]) else none
def catP {α : Type} (xs ys : List α) : Option (List α) := if xs.length + ys.length ≤ 1000000 then some (xs ++ ys) else none
def popP {α : Type} (xs : List α) : Option (α × List α) := match xs[xs.length - 1]? with
  | some x => some (x, xs.dropLast)
  | none => none
def insP {α : Type} (xs : List α) (i : Int) (x : α) : Option (List α) := if 0 ≤ i ∧ i ≤ 1000000 ∧ xs.length < 1000000 then some (xs.take i.toNat ++ [x] ++ xs.drop i.toNat) else none
def setP {α : Type} (xs : List α) (i : Int) (x : α) : Option (List α) := match ixN xs.length i with
  | some j => if j < xs.length then some (xs.set j x) else none
  | none => none
def mulP (i j : Int) : Option Int := if cMul i j = true then some (i * j) else none
def divP (i j : Int) : Option Int := if 0 < j ∧ j < 1073741824 then some (i / j) else none
def modP (i j : Int) : Option Int := if 0 < j then some (i % j) else none
def txAt (x : Tx) (i : Int) : Option Tx := if x.length ≤ 1000000 then (atI x i).map fun c => [c] else none
def txCut (x : Tx) (lo hi : Option Int) : Option Tx := if x.length ≤ 1000000 then some (cutA x lo hi) else none
def txLen (x : Tx) : Option Int := if x.length ≤ 1000000 then some (x.length : Int) else none
def txJoin (a : Tx) (xs : List Tx) : Option Tx := if (xs.map (·.length)).sum + xs.length * a.length ≤ 16777216 then some (a.intercalate xs) else none
def rngP (n : Int) : Option (List Int) := if (-n).toNat ≤ 1000000 ∧ n.toNat ≤ 1000000 then some ((List.range n.toNat).map fun (k : Nat) => (0 + (k : Int))) else none
def rng2P (i j : Int) : Option (List Int) := if ((-i).toNat ≤ 1000000 ∧ i.toNat ≤ 1000000) ∧ (-j).toNat ≤ 1000000 ∧ j.toNat ≤ 1000000 then some ((List.range (j - i).toNat).map fun (k : Nat) => (i + (k : Int))) else none
def okP (b : Bool) : Option Unit := if b = true then some () else none
end DE
namespace DE
open PySem PySem.Spec L2
inductive Fl (σ ρ : Type) where
  | nx (s : σ)
  | rt (r : ρ)
inductive Fb (σ ρ : Type) where
  | nx (s : σ)
  | bk (s : σ)
  | rt (r : ρ)
def Fl.go {σ ρ β : Type} (x : Fl σ ρ) (f : σ → Option β) (g : ρ → Option β) : Option β := match x with
  | .nx s => f s
  | .rt r => g r
def pFold {σ α : Type} (f : σ → α → Option σ) : List α → σ → Option σ
  | [], s => some s
  | x :: xs, s => match f s x with
    | some s' => pFold f xs s'
    | none => none
def pFor {σ α ρ : Type} (f : σ → α → Option (Fl σ ρ)) : List α → σ → Option (Fl σ ρ)
  | [], s => some (.nx s)
  | x :: xs, s => match f s x with
    | some (.nx s') => pFor f xs s'
    | some (.rt r) => some (.rt r)
    | none => none
def pForB {σ α ρ : Type} (f : σ → α → Option (Fb σ ρ)) : List α → σ → Option (Fl σ ρ)
  | [], s => some (.nx s)
  | x :: xs, s => match f s x with
    | some (.nx s') => pForB f xs s'
    | some (.bk s') => some (.nx s')
    | some (.rt r) => some (.rt r)
    | none => none
def pWh {σ : Type} (c : σ → Option Bool) (f : σ → Option σ) : Nat → σ → Option σ
  | 0, _ => none
  | n + 1, s => match c s with
    | some true => match f s with
      | some s' => pWh c f n s'
      | none => none
    | some false => some s
    | none => none
def pWhF {σ ρ : Type} (c : σ → Option Bool) (f : σ → Option (Fl σ ρ)) : Nat → σ → Option (Fl σ ρ)
  | 0, _ => none
  | n + 1, s => match c s with
    | some true => match f s with
      | some (.nx s') => pWhF c f n s'
      | some (.rt r) => some (.rt r)
      | none => none
    | some false => some (.nx s)
    | none => none
def pLc {α β : Type} (f : α → Option (Option β)) : List α → List β → Option (List β)
  | [], acc => some acc
  | x :: xs, acc => match f x with
    | some none => pLc f xs acc
    | some (some y) => if acc.length < 1000000 then pLc f xs (acc ++ [y]) else none
    | none => none
section
variable {σ α ρ κ : Type} {st : St1} {b : EvS} {enc : α → D} {P : σ → κ → En} {Q : ρ → Option Out → Prop}
def Nx (o : Option Out) (E : En) : Prop := o = some (.nx E) ∨ o = some (.ct E)
def FlS (P : σ → κ → En) (Q : ρ → Option Out → Prop) : Fl σ ρ → Option Out → Prop
  | .nx s, o => ∃ j, Nx o (P s j)
  | .rt r, o => Q r o
def FlE (P : σ → κ → En) (Q : ρ → Option Out → Prop) : Fl σ ρ → Option Out → Prop
  | .nx s, o => ∃ j, o = some (.nx (P s j))
  | .rt r, o => Q r o
theorem turn_nx {d : D} {E E1 E2 : En} {k : EvS} (h1 : st d E = some E1) (h2 : Nx (b E1) E2) : turn st b d E k = k E2 := by
  unfold turn
  rw [h1]
  rcases h2 with h2 | h2 <;> simp only [h2]
theorem turn_rt {d r : D} {E E1 E2 : En} {k : EvS} (h1 : st d E = some E1) (h2 : b E1 = some (.rt r E2)) : turn st b d E k = some (.rt r E2) := by
  unfold turn
  rw [h1]
  simp only [h2]
theorem forIt_fold {f : σ → α → Option σ} (h : ∀ s j x s', f s x = some s' → ∃ E1 j', st (enc x) (P s j) = some E1 ∧ Nx (b E1) (P s' j')) :
    ∀ {items : List α} {s s' : σ} (j : κ), pFold f items s = some s' → ∃ j', forIt st b (items.map enc) (P s j) = some (.nx (P s' j')) := by
  intro items
  induction items with
  | nil => intro s s' j e; cases e; exact ⟨j, rfl⟩
  | cons x xs ih =>
    intro s s' j e
    unfold pFold at e
    split at e
    · rename_i s1 h1
      obtain ⟨E1, j1, h2, h3⟩ := h s j x s1 h1
      obtain ⟨j', h4⟩ := ih j1 e
      exact ⟨j', (turn_nx h2 h3).trans h4⟩
    · cases e
def Rts (Q : ρ → Option Out → Prop) : Prop := ∀ r o, Q r o → ∃ d E, o = some (.rt d E)
theorem forIt_for {f : σ → α → Option (Fl σ ρ)} (hQ : Rts Q) (h : ∀ s j x r, f s x = some r → ∃ E1, st (enc x) (P s j) = some E1 ∧ FlS P Q r (b E1)) :
    ∀ {items : List α} {s : σ} {r : Fl σ ρ} (j : κ), pFor f items s = some r → FlE P Q r (forIt st b (items.map enc) (P s j)) := by
  intro items
  induction items with
  | nil => intro s r j e; cases e; exact ⟨j, rfl⟩
  | cons x xs ih =>
    intro s r j e
    unfold pFor at e
    split at e
    · rename_i s1 h1
      obtain ⟨E1, h2, j1, h3⟩ := h s j x _ h1
      have := ih j1 e
      rw [show forIt st b ((x :: xs).map enc) (P s j) = forIt st b (xs.map enc) (P s1 j1) from turn_nx h2 h3]
      exact this
    · rename_i r1 h1
      cases e
      obtain ⟨E1, h2, h3⟩ := h s j x _ h1
      obtain ⟨d, E2, h4⟩ := hQ _ _ h3
      rw [show forIt st b ((x :: xs).map enc) (P s j) = some (.rt d E2) from turn_rt h2 h4]
      rw [h4] at h3
      exact h3
    · cases e
section
variable {i : Nat} {m : Bool}
theorem forOwn_fold {f : σ → α → Option σ} [Fz enc] {all : List α} (hi : ∀ s j, (P s j)[i]? = some (some (.lst m (all.map enc)))) (h : ∀ s j x s', f s x = some s' → ∃ E1 j', st (enc x) (P s j) = some E1 ∧ Nx (b E1) (P s' j')) :
    ∀ {post pre : List α} {s s' : σ} {N : Nat} (j : κ), all = pre ++ post → post.length < N → pFold f post s = some s' → ∃ j', forOwn i st b N pre.length (P s j) = some (.nx (P s' j')) := by
  intro post
  induction post with
  | nil =>
    intro pre s s' N j e hN hp
    cases hp
    rw [List.append_nil] at e
    subst e
    cases N with
    | zero => exact absurd hN (Nat.not_lt_zero _)
    | succ N =>
      refine ⟨j, ?_⟩
      have hg : (all.map enc)[all.length]? = none := List.getElem?_eq_none (by rw [List.length_map]; exact Nat.le_refl _)
      unfold forOwn
      cases m <;> simp only [hi, hg]
  | cons x xs ih =>
    intro pre s s' N j e hN hp
    cases N with
    | zero => exact absurd hN (Nat.not_lt_zero _)
    | succ N =>
      unfold pFold at hp
      split at hp
      · rename_i s1 h1
        obtain ⟨E1, j1, h2, h3⟩ := h s j x s1 h1
        obtain ⟨j', h4⟩ := ih (pre := pre ++ [x]) (N := N) j1 (by rw [e, List.append_assoc]; rfl) (by simpa using hN) hp
        refine ⟨j', ?_⟩
        rw [List.length_append, List.length_singleton] at h4
        have hg : (all.map enc)[pre.length]? = some (enc x) := by
          rw [e, List.map_append, List.getElem?_append_right (by rw [List.length_map]; exact Nat.le_refl _), List.length_map, Nat.sub_self]
          rfl
        have hs := set_alike (hi s j)
        unfold forOwn
        cases m <;>
        · simp only [hi, hg, frzL_e, Fz.fz, hs]
          rw [turn_nx h2 h3]
          exact h4
      · cases hp
theorem forOwn_for {f : σ → α → Option (Fl σ ρ)} [Fz enc] (hQ : Rts Q) {all : List α} (hi : ∀ s j, (P s j)[i]? = some (some (.lst m (all.map enc)))) (h : ∀ s j x r, f s x = some r → ∃ E1, st (enc x) (P s j) = some E1 ∧ FlS P Q r (b E1)) :
    ∀ {post pre : List α} {s : σ} {r : Fl σ ρ} {N : Nat} (j : κ), all = pre ++ post → post.length < N → pFor f post s = some r → FlE P Q r (forOwn i st b N pre.length (P s j)) := by
  intro post
  induction post with
  | nil =>
    intro pre s r N j e hN hp
    cases hp
    rw [List.append_nil] at e
    subst e
    cases N with
    | zero => exact absurd hN (Nat.not_lt_zero _)
    | succ N =>
      refine ⟨j, ?_⟩
      have hg : (all.map enc)[all.length]? = none := List.getElem?_eq_none (by rw [List.length_map]; exact Nat.le_refl _)
      unfold forOwn
      cases m <;> simp only [hi, hg]
  | cons x xs ih =>
    intro pre s r N j e hN hp
    cases N with
    | zero => exact absurd hN (Nat.not_lt_zero _)
    | succ N =>
      have hg : (all.map enc)[pre.length]? = some (enc x) := by
        rw [e, List.map_append, List.getElem?_append_right (by rw [List.length_map]; exact Nat.le_refl _), List.length_map, Nat.sub_self]
        rfl
      have hs := set_alike (hi s j)
      have ht : forOwn i st b (N + 1) pre.length (P s j) = turn st b (enc x) (P s j) (forOwn i st b N (pre.length + 1)) := by
        rw [forOwn]
        cases m <;> simp only [hi, hg, frzL_e, Fz.fz, hs]
      unfold pFor at hp
      split at hp
      · rename_i s1 h1
        obtain ⟨E1, h2, j1, h3⟩ := h s j x _ h1
        have h4 := ih (pre := pre ++ [x]) (N := N) j1 (by rw [e, List.append_assoc]; rfl) (by simpa using hN) hp
        rw [List.length_append, List.length_singleton] at h4
        rw [ht, turn_nx h2 h3]
        exact h4
      · rename_i r1 h1
        cases hp
        obtain ⟨E1, h2, h3⟩ := h s j x _ h1
        obtain ⟨d, E2, h4⟩ := hQ _ _ h3
        rw [ht, turn_rt h2 h4]
        rw [h4] at h3
        exact h3
      · cases hp
end
variable {c : σ → Option Bool} {ct : EvT}
theorem evWh_wh {f : σ → Option σ} (hc : ∀ s j x, c s = some x → ct (P s j) = some (x, P s j)) (h : ∀ s j s', c s = some true → f s = some s' → ∃ j', Nx (b (P s j)) (P s' j')) :
    ∀ {N : Nat} {s s' : σ} (j : κ), pWh c f N s = some s' → ∃ j', evWh ct b N (P s j) = some (.nx (P s' j')) := by
  intro N
  induction N with
  | zero => intro s s' j e; cases e
  | succ N ih =>
    intro s s' j e
    unfold pWh at e
    split at e
    · rename_i h0
      split at e
      · rename_i s1 h1
        obtain ⟨j1, h2⟩ := h s j s1 h0 h1
        obtain ⟨j', h3⟩ := ih j1 e
        refine ⟨j', ?_⟩
        unfold evWh
        simp only [hc s j _ h0]
        rcases h2 with h2 | h2
        · simp only [h2]; exact h3
        · simp only [h2]; exact h3
      · cases e
    · rename_i h0
      cases e
      refine ⟨j, ?_⟩
      unfold evWh
      simp only [hc s j _ h0]
    · cases e
theorem evWh_whF {f : σ → Option (Fl σ ρ)} (hQ : Rts Q) (hc : ∀ s j x, c s = some x → ct (P s j) = some (x, P s j)) (h : ∀ s j r, c s = some true → f s = some r → FlS P Q r (b (P s j))) :
    ∀ {N : Nat} {s : σ} {r : Fl σ ρ} (j : κ), pWhF c f N s = some r → FlE P Q r (evWh ct b N (P s j)) := by
  intro N
  induction N with
  | zero => intro s s' j e; cases e
  | succ N ih =>
    intro s r j e
    unfold pWhF at e
    split at e
    · rename_i h0
      split at e
      · rename_i s1 h1
        obtain ⟨j1, h2⟩ := h s j _ h0 h1
        have h3 := ih j1 e
        unfold evWh
        simp only [hc s j _ h0]
        rcases h2 with h2 | h2
        · simp only [h2]; exact h3
        · simp only [h2]; exact h3
      · rename_i r1 h1
        cases e
        have h3 := h s j _ h0 h1
        obtain ⟨d, E2, h4⟩ := hQ _ _ h3
        rw [h4] at h3
        unfold evWh
        simp only [hc s j _ h0, h4]
        exact h3
      · cases e
    · rename_i h0
      cases e
      refine ⟨j, ?_⟩
      unfold evWh
      simp only [hc s j _ h0]
    · cases e
variable {β : Type} {enc2 : β → D} {own : List Nat} {ifs : EvT} {elt : EvO} {E : En}
def LcS (st : St1) (ifs : EvT) (elt : EvO) (own : List Nat) (E : En) (d : D) (enc2 : β → D) : Option β → Prop
  | none => ∃ E1 E2, st d E = some E1 ∧ ifs E1 = some (false, E2) ∧ wipeE E2 own = E
  | some y => ∃ E1 E2 o E3 E4, st d E = some E1 ∧ ifs E1 = some (true, E2) ∧ elt E2 = some (o, E3) ∧ tks [o] E3 = some ([enc2 y], E4) ∧ wipeE E4 own = E
theorem lcTurn_no {d : D} {acc : List D} {k : KLc} (h : LcS st ifs elt own E d enc2 none) : lcTurn own st ifs elt d acc E k = k acc E := by
  obtain ⟨E1, E2, h1, h2, h3⟩ := h
  unfold lcTurn
  simp only [h1, h2, h3]
theorem lcTurn_yes {d : D} {acc : List D} {k : KLc} {y : β} (h : LcS st ifs elt own E d enc2 (some y)) (hl : acc.length < 1000000) : lcTurn own st ifs elt d acc E k = k (acc ++ [enc2 y]) E := by
  obtain ⟨E1, E2, o, E3, E4, h1, h2, h3, h4, h5⟩ := h
  have h6 : tks [.temp (.lst true acc), o] E3 = some ([D.lst true acc, enc2 y], E4) := by
    show (match tks [o] E3 with | some (ds, E2) => some (D.lst true acc :: ds, E2) | none => none) = _
    rw [h4]
  unfold lcTurn
  simp only [h1, h2, h3, h6]
  rw [if_pos (show acc.length < lim from hl), h5]
theorem lcIt_lc {f : α → Option (Option β)} (h : ∀ x r, f x = some r → LcS st ifs elt own E (enc x) enc2 r) :
    ∀ {items : List α} {acc ys : List β}, pLc f items acc = some ys → lcIt own st ifs elt (items.map enc) (acc.map enc2) E = some (ys.map enc2, E) := by
  intro items
  induction items with
  | nil => intro acc ys e; cases e; rfl
  | cons x xs ih =>
    intro acc ys e
    unfold pLc at e
    split at e
    · rename_i h1
      exact (lcTurn_no (h x _ h1)).trans (ih e)
    · rename_i y h1
      split at e
      · rename_i hl
        refine (lcTurn_yes (h x _ h1) (by rw [List.length_map]; exact hl)).trans ?_
        have := ih e
        rw [List.map_append] at this
        exact this
      · cases e
    · cases e
theorem lcOwn_lc {i : Nat} {m : Bool} {f : α → Option (Option β)} [Fz enc] {all : List α} (hi : E[i]? = some (some (.lst m (all.map enc)))) (h : ∀ x r, f x = some r → LcS st ifs elt own E (enc x) enc2 r) :
    ∀ {post pre : List α} {acc ys : List β} {N : Nat}, all = pre ++ post → post.length < N → pLc f post acc = some ys → lcOwn i own st ifs elt N pre.length (acc.map enc2) E = some (ys.map enc2, E) := by
  intro post
  induction post with
  | nil =>
    intro pre acc ys N e hN hp
    cases hp
    rw [List.append_nil] at e
    subst e
    cases N with
    | zero => exact absurd hN (Nat.not_lt_zero _)
    | succ N =>
      have hg : (all.map enc)[all.length]? = none := List.getElem?_eq_none (by rw [List.length_map]; exact Nat.le_refl _)
      unfold lcOwn
      cases m <;> simp only [hi, hg]
  | cons x xs ih =>
    intro pre acc ys N e hN hp
    cases N with
    | zero => exact absurd hN (Nat.not_lt_zero _)
    | succ N =>
      have hg : (all.map enc)[pre.length]? = some (enc x) := by
        rw [e, List.map_append, List.getElem?_append_right (by rw [List.length_map]; exact Nat.le_refl _), List.length_map, Nat.sub_self]
        rfl
      have hs := set_alike hi
      have ht : ∀ a, lcOwn i own st ifs elt (N + 1) pre.length a E = lcTurn own st ifs elt (enc x) a E (lcOwn i own st ifs elt N (pre.length + 1)) := by
        intro a
        rw [lcOwn]
        cases m <;> simp only [hi, hg, frzL_e, Fz.fz, hs]
      unfold pLc at hp
      split at hp
      · rename_i h1
        have h4 := ih (pre := pre ++ [x]) (N := N) (by rw [e, List.append_assoc]; rfl) (by simpa using hN) hp
        rw [List.length_append, List.length_singleton] at h4
        rw [ht, lcTurn_no (h x _ h1)]
        exact h4
      · rename_i y h1
        split at hp
        · rename_i hl
          have h4 := ih (pre := pre ++ [x]) (N := N) (by rw [e, List.append_assoc]; rfl) (by simpa using hN) hp
          rw [List.length_append, List.length_singleton, List.map_append] at h4
          rw [ht, lcTurn_yes (h x _ h1) (by rw [List.length_map]; exact hl)]
          exact h4
        · cases hp
      · cases hp
end
def ArgP : List D → Nat → En → List D → Prop
  | [], _, _, outs => outs = []
  | d :: ds, i, E, outs => ∃ o os, outs = o :: os ∧ ((isF d = true ∧ o = d ∧ i < E.length) ∨ (E[i]? = some (some o) ∧ (isF d = true → o = d))) ∧ ArgP ds (i + 1) E os
theorem argsOf_gen : ∀ {ds : List D} {i : Nat} {E0 E : En} {outs : List D}, E0.length = i → ArgP ds i (E0 ++ E) outs → argsOf ds E = some outs := by
  intro ds
  induction ds with
  | nil => intro i E0 E outs _ h; cases h; rfl
  | cons d ds ih =>
    intro i E0 E outs hl h
    obtain ⟨o, os, e, h1, h2⟩ := h
    subst e
    cases E with
    | nil =>
      rw [List.append_nil] at h1
      rcases h1 with ⟨_, _, h1⟩ | ⟨h1, _⟩
      · omega
      · rw [List.getElem?_eq_none (by omega)] at h1; cases h1
    | cons x E =>
      have h3 := ih (E0 := E0 ++ [x]) (i := i + 1) (E := E) (by rw [List.length_append]; simp [hl]) (by rw [List.append_assoc]; exact h2)
      unfold argsOf
      rcases h1 with ⟨h1, h4, _⟩ | ⟨h1, h4⟩
      · subst h4
        rw [if_pos h1, h3]; rfl
      · rw [List.getElem?_append_right (by omega), hl, Nat.sub_self] at h1
        simp only [List.getElem?_cons_zero, Option.some.injEq] at h1
        subst h1
        by_cases hf : isF d = true
        · rw [if_pos hf, h3, h4 hf]; rfl
        · rw [if_neg hf, h3]; rfl
theorem argsOf_P {ds : List D} {E : En} {outs : List D} (h : ArgP ds 0 E outs) : argsOf ds E = some outs := argsOf_gen (E0 := []) rfl h
end DE
namespace DE
open PySem PySem.Spec L2
inductive Tre where
  | w (x : Tx)
  | n (i : Int) (cs : List Tre)
mutual
def eTree : Tre → D
  | .w x => eTx x
  | .n i cs => .tup [.int i, .tup (eTreeL cs)]
def eTreeL : List Tre → List D
  | [] => []
  | t :: ts => eTree t :: eTreeL ts
end
theorem eTreeL_map : ∀ ts : List Tre, eTreeL ts = ts.map eTree
  | [] => rfl
  | t :: ts => by show eTree t :: eTreeL ts = _; rw [eTreeL_map ts]; rfl
theorem eTree_n (i : Int) (cs : List Tre) : eTree (.n i cs) = .tup [.int i, .tup (cs.map eTree)] := by
  show D.tup [.int i, .tup (eTreeL cs)] = _
  rw [eTreeL_map]
mutual
theorem frz_tree : ∀ t : Tre, frz (eTree t) = eTree t
  | .w _ => rfl
  | .n i cs => by show D.tup [.int i, .tup (frzL (eTreeL cs))] = _; rw [frz_treeL cs]; rfl
theorem frz_treeL : ∀ ts : List Tre, frzL (eTreeL ts) = eTreeL ts
  | [] => rfl
  | t :: ts => by show frz (eTree t) :: frzL (eTreeL ts) = _; rw [frz_tree t, frz_treeL ts]; rfl
end
instance : Fz eTree := ⟨frz_tree⟩
def Tre.isW : Tre → Bool
  | .w _ => true
  | .n _ _ => false
def Tre.txt : Tre → Option Tx
  | .w x => some x
  | .n _ _ => none
def Tre.num : Tre → Option Int
  | .w _ => none
  | .n i _ => some i
def Tre.kids : Tre → Option (List Tre)
  | .w _ => none
  | .n _ cs => some cs
def Tre.two : Tre → Option (Int × List Tre)
  | .w _ => none
  | .n i cs => some (i, cs)
def Tre.isTx (t : Tre) (x : Tx) : Bool := match t with
  | .w y => decide (y = x)
  | .n _ _ => false
theorem ol_tree_str {t : Tre} {x : Tx} (h : t.txt = some x) : eTree t = eTx x := by
  cases t with
  | w y => cases h; rfl
  | n _ _ => cases h
theorem ol_tree_two {t : Tre} {p : Int × List Tre} (h : t.two = some p) : eTree t = .tup [.int p.1, .tup (p.2.map eTree)] := by
  cases t with
  | w y => cases h
  | n i cs => cases h; exact eTree_n i cs
theorem ol_tree_0 {t : Tre} {i : Int} (h : t.num = some i) : pIdx (eTree t) (.int 0) = some (.int i) := by
  cases t with
  | w _ => cases h
  | n _ _ => cases h; rfl
theorem ol_tree_1 {t : Tre} {cs : List Tre} (h : t.kids = some cs) : pIdx (eTree t) (.int 1) = some (.tup (cs.map eTree)) := by
  cases t with
  | w _ => cases h
  | n _ _ => cases h; rw [eTree_n]; rfl
theorem isiD_tree (t : Tre) : isiD (eTree t) .str = t.isW := by cases t <;> rfl
mutual
def Tre.dep : Tre → Nat
  | .w _ => 0
  | .n _ cs => Tre.depL cs + 2
def Tre.depL : List Tre → Nat
  | [] => 0
  | t :: ts => max t.dep (Tre.depL ts)
end
mutual
theorem fine_tree : ∀ (t : Tre) (n : Nat), t.dep ≤ n → fine n (eTree t) = true
  | .w x, n, _ => toS_ok x
  | .n i cs, n, h => by
    have h : Tre.depL cs + 2 ≤ n := h
    show (decide (0 < n) && (true && (decide (0 < n - 1) && fineL (n - 1 - 1) (eTreeL cs) && true))) = true
    rw [decide_eq_true (by omega), decide_eq_true (by omega), fine_treeL cs _ (by omega)]; rfl
theorem fine_treeL : ∀ (ts : List Tre) (n : Nat), Tre.depL ts ≤ n → fineL n (eTreeL ts) = true
  | [], n, _ => rfl
  | t :: ts, n, h => by
    have h : max t.dep (Tre.depL ts) ≤ n := h
    show (fine n (eTree t) && fineL n (eTreeL ts)) = true
    rw [fine_tree t n (by omega), fine_treeL ts n (by omega)]; rfl
end
def Tre.eqTx (t : Tre) (x : Tx) : Option Bool := if t.dep ≤ 64 then some (t.isTx x) else none
theorem pEq_tree_tx {t : Tre} {x : Tx} {b : Bool} (h : t.eqTx x = some b) : pEq (eTree t) (eTx x) = some b := by
  unfold Tre.eqTx at h
  split at h
  · rename_i hd
    cases h
    cases t with
    | w y => exact pEq_tx y x
    | n i cs =>
      have a : pyOk (eTree (.n i cs)) = true := fine_py (fine_tree _ 64 hd)
      have b : pyOk (eTx x) = true := py_ok eTx 0 (by omega) x
      show (if (pyOk (eTree (.n i cs)) && pyOk (eTx x)) = true then some false else none) = _
      rw [a, b]; rfl
  · cases h
theorem ol_eq_tree_tx {t : Tre} {x : Tx} {b : Bool} (h : t.eqTx x = some b) : pEqD (eTree t) (eTx x) = some (.bl b) := by
  unfold pEqD; rw [pEq_tree_tx h]; rfl
theorem ol_ne_tree_tx {t : Tre} {x : Tx} {b : Bool} (h : t.eqTx x = some b) : pNeD (eTree t) (eTx x) = some (.bl (!b)) := by
  unfold pNeD; rw [pEq_tree_tx h]; rfl
section
variable {α β γ : Type} {e : α → D} {f : β → D} {g : γ → D}
theorem eP_mk (a : α) (b : β) : eP e f (a, b) = .tup [e a, f b] := rfl
theorem eP3_mk (a : α) (b : β) (c : γ) : eP3 e f g (a, b, c) = .tup [e a, f b, g c] := rfl
theorem eL_ap (xs : List α) : eL e xs = .lst false (xs.map e) := rfl
theorem eQ_ap (xs : List α) : eQ e xs = .tup (xs.map e) := rfl
theorem eO_none : eO e none = .non := rfl
theorem eO_some (x : α) : eO e (some x) = e x := rfl
theorem stTup_P (b : StN) (p : α × β) (E : En) : stTup b (eP e f p) E = b [e p.1, f p.2] E := rfl
theorem stTup_P3 (b : StN) (p : α × β × γ) (E : En) : stTup b (eP3 e f g p) E = b [e p.1, f p.2.1, g p.2.2] E := rfl
theorem eTree_w (x : Tx) : eTree (.w x) = eTx x := rfl
theorem frz_tx (x : Tx) : frz (eTx x) = eTx x := rfl
theorem frzK_tx (x : Tx) : frzK (eTx x) = eTx x := rfl
theorem isF_tx (x : Tx) : isF (eTx x) = true := rfl
theorem sc_tx (x : Tx) : (eTx x).sc = true := rfl
theorem frzK_tree (x : Tre) : frzK (eTree x) = eTree x := frzK_F (frz_tree x)
theorem isF_tree (x : Tre) : isF (eTree x) = true := isF_of (frz_tree x)
theorem frz_P [Fz e] [Fz f] (p : α × β) : frz (eP e f p) = eP e f p := Fz.fz p
theorem frzK_P [Fz e] [Fz f] (p : α × β) : frzK (eP e f p) = eP e f p := frzK_F (Fz.fz p)
theorem isF_P [Fz e] [Fz f] (p : α × β) : isF (eP e f p) = true := isF_of (Fz.fz p)
theorem sc_P (p : α × β) : (eP e f p).sc = false := rfl
theorem frz_P3 [Fz e] [Fz f] [Fz g] (p : α × β × γ) : frz (eP3 e f g p) = eP3 e f g p := Fz.fz p
theorem frzK_P3 [Fz e] [Fz f] [Fz g] (p : α × β × γ) : frzK (eP3 e f g p) = eP3 e f g p := frzK_F (Fz.fz p)
theorem isF_P3 [Fz e] [Fz f] [Fz g] (p : α × β × γ) : isF (eP3 e f g p) = true := isF_of (Fz.fz p)
theorem sc_P3 (p : α × β × γ) : (eP3 e f g p).sc = false := rfl
theorem frz_O [Fz e] (p : Option α) : frz (eO e p) = eO e p := Fz.fz p
theorem frzK_O [Fz e] (p : Option α) : frzK (eO e p) = eO e p := frzK_F (Fz.fz p)
theorem isF_O [Fz e] (p : Option α) : isF (eO e p) = true := isF_of (Fz.fz p)
theorem isiD_tx (x : Tx) (t : Ty) : isiD (eTx x) t = isiD (.str (toS x)) t := rfl
theorem isiD_P (p : α × β) (t : Ty) : isiD (eP e f p) t = isiD (.tup []) t := by cases t <;> rfl
theorem isiD_P3 (p : α × β × γ) (t : Ty) : isiD (eP3 e f g p) t = isiD (.tup []) t := by cases t <;> rfl
theorem kidsOf_tx (x : Tx) : kidsOf (eTx x) = some ((x.map fun c => [c]).map eTx) := by
  show some (signs (toS x)) = _
  unfold signs
  rw [toS_list, List.map_map, List.map_map]
  rfl
theorem isS_tx (x : Tx) (E : En) : isS (.temp (eTx x)) E = true := rfl
theorem asI_int (i : Int) (E : En) : asI (.temp (.int i)) E = some i := rfl
theorem asB_bl (b : Bool) (E : En) : asB (.temp (.bl b)) E = some b := rfl
def enA {α : Type} (xs : List α) : List (Int × α) := xs.zipIdx.map fun p => ((p.2 : Int), p.1)
theorem enD_gen : ∀ (xs : List α) (k : Nat), enD k (xs.map e) = ((xs.zipIdx k).map fun p => ((p.2 : Int), p.1)).map (eP D.int e)
  | [], _ => rfl
  | x :: xs, k => by
    show D.tup [.int (k : Int), e x] :: enD (k + 1) (xs.map e) = _
    rw [enD_gen xs (k + 1), List.zipIdx_cons]; rfl
theorem enD_map (xs : List α) : enD 0 (xs.map e) = (enA xs).map (eP D.int e) := enD_gen xs 0
theorem zipD_map : ∀ (xs : List α) (ys : List β), zipD (xs.map e) (ys.map f) = (xs.zip ys).map (eP e f)
  | [], _ => rfl
  | _ :: _, [] => rfl
  | x :: xs, y :: ys => by show D.tup [e x, f y] :: zipD (xs.map e) (ys.map f) = _; rw [zipD_map xs ys]; rfl
theorem pAdd_i (i j : Int) : pAdd (.int i) (.int j) = some (.int (i + j)) := rfl
theorem pSub_i (i j : Int) : pSub (.int i) (.int j) = some (.int (i - j)) := rfl
theorem pNeg_i (i : Int) : pNeg (.int i) = some (.int (-i)) := rfl
theorem pLt_i (i j : Int) : pLt (.int i) (.int j) = some (.bl (decide (i < j))) := rfl
theorem pLe_i (i j : Int) : pLe (.int i) (.int j) = some (.bl (decide (i ≤ j))) := rfl
theorem pGt_i (i j : Int) : pGt (.int i) (.int j) = some (.bl (decide (j < i))) := rfl
theorem pGe_i (i j : Int) : pGe (.int i) (.int j) = some (.bl (decide (j ≤ i))) := rfl
theorem pMin_i (i j : Int) : pMin (.int i) (.int j) = some (.int (if j < i then j else i)) := rfl
theorem pMax_i (i j : Int) : pMax (.int i) (.int j) = some (.int (if j > i then j else i)) := rfl
theorem ol_mul {i j v : Int} (h : mulP i j = some v) : pMul (.int i) (.int j) = some (.int v) := by
  unfold mulP at h
  split at h
  · rename_i hc
    cases h
    exact if_pos hc
  · cases h
theorem ol_div {i j v : Int} (h : divP i j = some v) : pDiv (.int i) (.int j) = some (.int v) := by
  unfold divP at h
  split at h
  · rename_i hc
    cases h
    exact if_pos hc
  · cases h
theorem ol_mod {i j v : Int} (h : modP i j = some v) : pMod (.int i) (.int j) = some (.int v) := by
  unfold modP at h
  split at h
  · rename_i hc
    cases h
    exact if_pos hc
  · cases h
theorem ol_mulC {i j : Int} (h : cMul i j = true) : pMul (.int i) (.int j) = some (.int (i * j)) := if_pos h
theorem cMul_l {i j : Int} (h : -18446744073709551616 < i ∧ i < 18446744073709551616) : cMul i j = true := by
  unfold cMul; rw [decide_eq_true h.1, decide_eq_true h.2]; rfl
theorem cMul_r {i j : Int} (h : -18446744073709551616 < j ∧ j < 18446744073709551616) : cMul i j = true := by
  unfold cMul; rw [decide_eq_true h.1, decide_eq_true h.2, Bool.or_eq_true]; exact .inr rfl
theorem ol_divC {i j : Int} (h : 0 < j ∧ j < 1073741824) : pDiv (.int i) (.int j) = some (.int (i / j)) := if_pos h
theorem ol_modC {i j : Int} (h : 0 < j) : pMod (.int i) (.int j) = some (.int (i % j)) := if_pos h
theorem ol_rng {n : Int} {xs : List Int} (h : rngP n = some xs) : ((-n).toNat ≤ lim ∧ n.toNat ≤ lim) ∧ rngD 0 n.toNat = xs.map D.int := by
  unfold rngP at h
  split at h
  · rename_i hc
    cases h
    exact ⟨hc, by rw [List.map_map]; rfl⟩
  · cases h
theorem ol_rng2 {i j : Int} {xs : List Int} (h : rng2P i j = some xs) : (((-i).toNat ≤ lim ∧ i.toNat ≤ lim) ∧ (-j).toNat ≤ lim ∧ j.toNat ≤ lim) ∧ rngD i (j - i).toNat = xs.map D.int := by
  unfold rng2P at h
  split at h
  · rename_i hc
    cases h
    exact ⟨hc, by rw [List.map_map]; rfl⟩
  · cases h
theorem ol_add_tx {a b v : Tx} (h : catP a b = some v) : pAdd (eTx a) (eTx b) = some (eTx v) := by
  unfold catP at h
  split at h
  · rename_i hc
    cases h
    show (if (toS a).length + (toS b).length ≤ lim then some (D.str (toS a ++ toS b)) else none) = _
    rw [toS_len, toS_len, if_pos hc]
    show some (D.str _) = some (D.str _)
    congr 2
    unfold toS
    rw [List.map_append]
    show (⟨_ ++ _⟩ : Str) = _
    rw [List.append_toArray]
  · cases h
theorem ol_add_lst {xs ys v : List α} (m k : Bool) (h : catP xs ys = some v) : pAdd (.lst m (xs.map e)) (.lst k (ys.map e)) = some (.lst true (v.map e)) := by
  unfold catP at h
  split at h
  · rename_i hc
    cases h
    show (if (xs.map e).length + (ys.map e).length ≤ lim then some (D.lst true (xs.map e ++ ys.map e)) else none) = _
    rw [List.length_map, List.length_map, if_pos hc, List.map_append]
  · cases h
theorem ol_add_tup {xs ys v : List α} (h : catP xs ys = some v) : pAdd (.tup (xs.map e)) (.tup (ys.map e)) = some (.tup (v.map e)) := by
  unfold catP at h
  split at h
  · rename_i hc
    cases h
    show (if (xs.map e).length + (ys.map e).length ≤ lim then some (D.tup (xs.map e ++ ys.map e)) else none) = _
    rw [List.length_map, List.length_map, if_pos hc, List.map_append]
  · cases h
theorem ol_eq_tx (x y : Tx) : pEqD (eTx x) (eTx y) = some (.bl (decide (x = y))) := by unfold pEqD; rw [pEq_tx]; rfl
theorem ol_ne_tx (x y : Tx) : pNeD (eTx x) (eTx y) = some (.bl (!decide (x = y))) := by unfold pNeD; rw [pEq_tx]; rfl
theorem ol_eq_i (x y : Int) : pEqD (.int x) (.int y) = some (.bl (decide (x = y))) := by unfold pEqD; rw [pEq_int]; rfl
theorem ol_ne_i (x y : Int) : pNeD (.int x) (.int y) = some (.bl (!decide (x = y))) := by unfold pNeD; rw [pEq_int]; rfl
theorem ol_eq_b (x y : Bool) : pEqD (.bl x) (.bl y) = some (.bl (decide (x = y))) := by unfold pEqD; rw [pEq_bl]; rfl
theorem ol_ne_b (x y : Bool) : pNeD (.bl x) (.bl y) = some (.bl (!decide (x = y))) := by unfold pNeD; rw [pEq_bl]; rfl
theorem ol_eq_lst [DecidableEq α] {n : Nat} [Eo e n] (hn : n ≤ 63 := by decide) (m k : Bool) (xs ys : List α) : pEqD (.lst m (xs.map e)) (.lst k (ys.map e)) = some (.bl (decide (xs = ys))) := by unfold pEqD; rw [pEq_lst e n hn]; rfl
theorem ol_ne_lst [DecidableEq α] {n : Nat} [Eo e n] (hn : n ≤ 63 := by decide) (m k : Bool) (xs ys : List α) : pNeD (.lst m (xs.map e)) (.lst k (ys.map e)) = some (.bl (!decide (xs = ys))) := by unfold pNeD; rw [pEq_lst e n hn]; rfl
theorem ol_eq_tup [DecidableEq α] {n : Nat} [Eo e n] (hn : n ≤ 63 := by decide) (xs ys : List α) : pEqD (.tup (xs.map e)) (.tup (ys.map e)) = some (.bl (decide (xs = ys))) := by unfold pEqD; rw [pEq_tup e n hn]; rfl
theorem ol_ne_tup [DecidableEq α] {n : Nat} [Eo e n] (hn : n ≤ 63 := by decide) (xs ys : List α) : pNeD (.tup (xs.map e)) (.tup (ys.map e)) = some (.bl (!decide (xs = ys))) := by unfold pNeD; rw [pEq_tup e n hn]; rfl
def depP {α : Type} (e : α → D) (xs : List α) : Bool := pyOk (.lst true (xs.map e))
theorem pEq_nil {xs : List α} (m k : Bool) (h : depP e xs = true) : pEq (.lst m (xs.map e)) (.lst k []) = some (decide (xs = [])) := by
  have a : pyOk (.lst m (xs.map e)) = true := h
  show (if (pyOk (.lst m (xs.map e)) && true) = true then some (PyData.eqvAll (pyL (xs.map e)) []) else none) = _
  rw [a]
  cases xs <;> rfl
end
def nilP {α : Type} (e : α → D) (xs : List α) : Option Bool := if depP e xs = true then some (decide (xs.length = 0)) else none
section
variable {α β γ : Type} {e : α → D} {f : β → D} {g : γ → D}
theorem nil_len (xs : List α) [Decidable (xs = [])] : decide (xs = []) = decide (xs.length = 0) := by cases xs <;> simp
theorem pEq_nil' {xs : List α} (m k : Bool) (h : depP e xs = true) : pEq (.lst m (xs.map e)) (.lst k []) = some (decide (xs.length = 0)) := by
  have a : pyOk (.lst m (xs.map e)) = true := h
  show (if (pyOk (.lst m (xs.map e)) && true) = true then some (PyData.eqvAll (pyL (xs.map e)) []) else none) = _
  rw [a]
  cases xs <;> rfl
theorem ol_eq_nilP {xs : List α} {b : Bool} (m k : Bool) (h : nilP e xs = some b) : pEqD (.lst m (xs.map e)) (.lst k []) = some (.bl b) := by
  unfold nilP at h
  split at h
  · rename_i hd
    cases h
    unfold pEqD; rw [pEq_nil' m k hd]; rfl
  · cases h
theorem ol_ne_nilP {xs : List α} {b : Bool} (m k : Bool) (h : nilP e xs = some b) : pNeD (.lst m (xs.map e)) (.lst k []) = some (.bl (!b)) := by
  unfold nilP at h
  split at h
  · rename_i hd
    cases h
    unfold pNeD; rw [pEq_nil' m k hd]; rfl
  · cases h
theorem dep_static {n : Nat} [Eo e n] (hn : n ≤ 63) (xs : List α) : depP e xs = true := py_ok (eL e) (n + 1) (by omega) xs
theorem ol_eq_nil {n : Nat} [Eo e n] (hn : n ≤ 63 := by decide) (m k : Bool) (xs : List α) : pEqD (.lst m (xs.map e)) (.lst k []) = some (.bl (decide (xs.length = 0))) := by
  unfold pEqD; rw [pEq_nil' m k (dep_static hn xs)]; rfl
theorem ol_ne_nil {n : Nat} [Eo e n] (hn : n ≤ 63 := by decide) (m k : Bool) (xs : List α) : pNeD (.lst m (xs.map e)) (.lst k []) = some (.bl (!decide (xs.length = 0))) := by
  unfold pNeD; rw [pEq_nil' m k (dep_static hn xs)]; rfl
theorem pEq_nilT {n : Nat} [Eo e n] (hn : n ≤ 63) (xs : List α) : pEq (.tup (xs.map e)) (.tup []) = some (decide (xs.length = 0)) := by
  have a : pyOk (.tup (xs.map e)) = true := py_ok (eQ e) (n + 1) (by omega) xs
  show (if (pyOk (.tup (xs.map e)) && true) = true then some (PyData.eqvAll (pyL (xs.map e)) []) else none) = _
  rw [a]
  cases xs <;> rfl
theorem ol_eq_nilT {n : Nat} [Eo e n] (hn : n ≤ 63 := by decide) (xs : List α) : pEqD (.tup (xs.map e)) (.tup []) = some (.bl (decide (xs.length = 0))) := by
  unfold pEqD; rw [pEq_nilT hn]; rfl
theorem ol_ne_nilT {n : Nat} [Eo e n] (hn : n ≤ 63 := by decide) (xs : List α) : pNeD (.tup (xs.map e)) (.tup []) = some (.bl (!decide (xs.length = 0))) := by
  unfold pNeD; rw [pEq_nilT hn]; rfl
theorem ol_in_txL (m : Bool) (x : Tx) (xs : List Tx) : pInD (eTx x) (.lst m (xs.map eTx)) = some (.bl (decide (x ∈ xs))) := by unfold pInD; rw [pIn_txL]; rfl
theorem ol_nin_txL (m : Bool) (x : Tx) (xs : List Tx) : pNinD (eTx x) (.lst m (xs.map eTx)) = some (.bl (!decide (x ∈ xs))) := by unfold pNinD; rw [pIn_txL]; rfl
theorem ol_in_txT (x : Tx) (xs : List Tx) : pInD (eTx x) (.tup (xs.map eTx)) = some (.bl (decide (x ∈ xs))) := by unfold pInD; rw [pIn_txT]; rfl
theorem ol_nin_txT (x : Tx) (xs : List Tx) : pNinD (eTx x) (.tup (xs.map eTx)) = some (.bl (!decide (x ∈ xs))) := by unfold pNinD; rw [pIn_txT]; rfl
theorem ol_ix_lst {xs : List α} {i : Int} {v : α} (m : Bool) (h : atI xs i = some v) : pIdx (.lst m (xs.map e)) (.int i) = some (e v) := by
  show atI (xs.map e) i = _
  rw [atI_map, h]; rfl
theorem ol_ix_tup {xs : List α} {i : Int} {v : α} (h : atI xs i = some v) : pIdx (.tup (xs.map e)) (.int i) = some (e v) := by
  show atI (xs.map e) i = _
  rw [atI_map, h]; rfl
theorem ol_ix_scr {xs : List α} {i : Int} {v : α} (h : atI xs i = some v) : pIdx (.scr (xs.map e)) (.int i) = some (e v) := by
  show atI (xs.map e) i = _
  rw [atI_map, h]; rfl
theorem ol_ix_P0 (p : α × β) : pIdx (eP e f p) (.int 0) = some (e p.1) := rfl
theorem ol_ix_P1 (p : α × β) : pIdx (eP e f p) (.int 1) = some (f p.2) := rfl
theorem ol_ix_P30 (p : α × β × γ) : pIdx (eP3 e f g p) (.int 0) = some (e p.1) := rfl
theorem ol_ix_P31 (p : α × β × γ) : pIdx (eP3 e f g p) (.int 1) = some (f p.2.1) := rfl
theorem ol_ix_P32 (p : α × β × γ) : pIdx (eP3 e f g p) (.int 2) = some (g p.2.2) := rfl
theorem ol_ix_tx {x v : Tx} {i : Int} (h : txAt x i = some v) : pIdx (eTx x) (.int i) = some (eTx v) := by
  unfold txAt at h
  split at h
  · rename_i hc
    show (if (toS x).length ≤ lim then (atI (toS x).cps.toList i).map fun c => D.str ⟨#[c]⟩ else none) = _
    rw [toS_len, if_pos hc, toS_list, atI_map]
    cases q : atI x i with
    | none => rw [q] at h; cases h
    | some c => rw [q] at h; cases h; rfl
  · cases h
theorem ol_sl_lst (m : Bool) (xs : List α) (lo hi : Option Int) : pSl (.lst m (xs.map e)) lo hi = some (.lst true ((cutA xs lo hi).map e)) := by
  show some (D.lst true (cutD (xs.map e) lo hi)) = _
  rw [cutD_A]
theorem ol_sl_scr (xs : List α) (lo hi : Option Int) : pSl (.scr (xs.map e)) lo hi = some (.lst true ((cutA xs lo hi).map e)) := by
  show some (D.lst true (cutD (xs.map e) lo hi)) = _
  rw [cutD_A]
theorem ol_sl_tup (xs : List α) (lo hi : Option Int) : pSl (.tup (xs.map e)) lo hi = some (.tup ((cutA xs lo hi).map e)) := by
  show some (D.tup (cutD (xs.map e) lo hi)) = _
  rw [cutD_A]
theorem ol_sl_tx {x v : Tx} {lo hi : Option Int} (h : txCut x lo hi = some v) : pSl (eTx x) lo hi = some (eTx v) := by
  unfold txCut at h
  split at h
  · rename_i hc
    cases h
    show (if (toS x).length ≤ lim then some (D.str (cutS (toS x) lo hi)) else none) = _
    rw [toS_len, if_pos hc]
    show some (D.str _) = some (D.str _)
    congr 2
    unfold cutS cutA
    rw [toS_list, toS_len, ← List.map_drop, ← List.map_take]
    rfl
  · cases h
theorem ol_len_lst (m : Bool) (xs : List α) : pLen (.lst m (xs.map e)) = some (.int xs.length) := by
  show some (D.int ((xs.map e).length : Nat)) = _
  rw [List.length_map]
theorem ol_len_scr (xs : List α) : pLen (.scr (xs.map e)) = some (.int xs.length) := by
  show some (D.int ((xs.map e).length : Nat)) = _
  rw [List.length_map]
theorem ol_len_tup (xs : List α) : pLen (.tup (xs.map e)) = some (.int xs.length) := by
  show some (D.int ((xs.map e).length : Nat)) = _
  rw [List.length_map]
theorem ol_len_tx {x : Tx} {n : Int} (h : txLen x = some n) : pLen (eTx x) = some (.int n) := by
  unfold txLen at h
  split at h
  · rename_i hc
    cases h
    show (if (toS x).length ≤ lim then some (D.int ((toS x).length : Nat)) else none) = _
    rw [toS_len, if_pos hc]
  · cases h
theorem ol_all (m : Bool) (bs : List Bool) : pAll (.lst m (bs.map D.bl)) = some (.bl (bs.all id)) := by
  have h : bls (bs.map D.bl) = some bs := by
    induction bs with
    | nil => rfl
    | cons b bs ih => show (bls (bs.map D.bl)).map (b :: ·) = _; rw [ih]; rfl
  show (bls (bs.map D.bl)).map (fun bs => D.bl (bs.all id)) = _
  rw [h]; rfl
theorem ol_any (m : Bool) (bs : List Bool) : pAny (.lst m (bs.map D.bl)) = some (.bl (bs.any id)) := by
  have h : bls (bs.map D.bl) = some bs := by
    induction bs with
    | nil => rfl
    | cons b bs ih => show (bls (bs.map D.bl)).map (b :: ·) = _; rw [ih]; rfl
  show (bls (bs.map D.bl)).map (fun bs => D.bl (bs.any id)) = _
  rw [h]; rfl
theorem toS_join (a : Tx) (xs : List Tx) : Txt.join (toS a) (xs.map toS) = toS (a.intercalate xs) := by
  rw [show Txt.join (toS a) (xs.map toS) = Str.join (toS a) (xs.map toS) from StrLaws.glued_eq_join _ _]
  have app : ∀ x y : Tx, toS x ++ toS y = toS (x ++ y) := fun x y => by
    show (⟨_ ++ _⟩ : Str) = _
    unfold toS
    rw [List.map_append, List.append_toArray]
  match xs with
  | [] => rfl
  | x :: xs =>
    induction xs generalizing x with
    | nil => show toS x = _; simp [List.intercalate, List.intersperse]
    | cons y r ih =>
      show toS x ++ toS a ++ Str.join (toS a) ((y :: r).map toS) = _
      rw [ih y, app, app]
      congr 1
      simp [List.intercalate, List.intersperse]
theorem ol_join {a v : Tx} {xs : List Tx} (m : Bool) (h : txJoin a xs = some v) : pJoin (eTx a) (.lst m (xs.map eTx)) = some (eTx v) := by
  unfold txJoin at h
  split at h
  · rename_i hc
    cases h
    have hs : sts (xs.map eTx) = some (xs.map toS) := by
      rw [show xs.map eTx = (xs.map toS).map D.str from by rw [List.map_map]; rfl, sts_strs]
    show (match sts (xs.map eTx) with | some ys => if (ys.map Str.length).sum + ys.length * (toS a).length ≤ 16777216 then some (D.str (Txt.join (toS a) ys)) else none | none => none) = _
    rw [hs]
    have e1 : (xs.map toS).map Str.length = xs.map (·.length) := by rw [List.map_map]; exact List.map_congr_left fun x _ => toS_len x
    show (if ((xs.map toS).map Str.length).sum + (xs.map toS).length * (toS a).length ≤ 16777216 then some (D.str (Txt.join (toS a) (xs.map toS))) else none) = _
    rw [e1, List.length_map, toS_len, if_pos hc, toS_join]
    rfl
  · cases h
theorem ol_app {xs v : List α} {x : α} (h : appP xs x = some v) : mApp [e x] (xs.map e) = some (.non, v.map e) := by
  unfold appP at h
  split at h
  · rename_i hc
    cases h
    show (if (xs.map e).length < lim then some (D.non, xs.map e ++ [e x]) else none) = _
    rw [List.length_map, if_pos hc, List.map_append]; rfl
  · cases h
theorem ol_ext {xs ys v : List α} (m : Bool) (h : catP xs ys = some v) : mExt [.lst m (ys.map e)] (xs.map e) = some (.non, v.map e) := by
  unfold catP at h
  split at h
  · rename_i hc
    cases h
    show (if (xs.map e).length + (ys.map e).length ≤ lim then some (D.non, xs.map e ++ ys.map e) else none) = _
    rw [List.length_map, List.length_map, if_pos hc, List.map_append]
  · cases h
theorem ol_pop {xs : List α} {p : α × List α} (h : popP xs = some p) : mPop [] (xs.map e) = some (e p.1, p.2.map e) := by
  unfold popP at h
  split at h
  · rename_i x hx
    cases h
    show (match (xs.map e)[(xs.map e).length - 1]? with | some d => some (d, (xs.map e).dropLast) | none => none) = _
    rw [List.length_map, List.getElem?_map, hx, List.map_dropLast]; rfl
  · cases h
theorem ol_ins {xs v : List α} {i : Int} {x : α} (h : insP xs i x = some v) : mIns [.int i, e x] (xs.map e) = some (.non, v.map e) := by
  unfold insP at h
  split at h
  · rename_i hc
    cases h
    show (if 0 ≤ i ∧ i ≤ 1000000 ∧ (xs.map e).length < lim then some (D.non, (xs.map e).take i.toNat ++ [e x] ++ (xs.map e).drop i.toNat) else none) = _
    rw [List.length_map, if_pos hc, List.map_append, List.map_append, List.map_take, List.map_drop]; rfl
  · cases h
theorem ol_clr (ds : List D) : mClr [] ds = some (.non, []) := rfl
theorem ol_set {xs v : List α} {i : Int} {x : α} (h : setP xs i x = some v) : ∃ j, ixN xs.length i = some j ∧ (j < xs.length) ∧ (xs.map e).set j (e x) = v.map e := by
  unfold setP at h
  split at h
  · rename_i j hj
    split at h
    · rename_i hl
      cases h
      exact ⟨j, hj, hl, List.map_set.symm⟩
    · cases h
  · cases h
theorem ol_revT (xs : List α) : pRevT (.tup (xs.map e)) = some (.lst true (xs.reverse.map e)) := by
  show some (D.lst true (xs.map e).reverse) = _
  rw [List.map_reverse]
def zipP {α β : Type} (xs : List α) (ys : List β) : Option (List (α × β)) := if xs.length = ys.length then some (xs.zip ys) else none
theorem ol_zipT {xs : List α} {ys : List β} {v : List (α × β)} (h : zipP xs ys = some v) : pZipT (.tup (xs.map e)) (.tup (ys.map f)) = some (.lst true (v.map (eP e f))) := by
  unfold zipP at h
  split at h
  · rename_i hc
    cases h
    show (if (xs.map e).length = (ys.map f).length then some (D.lst true (zipD (xs.map e) (ys.map f))) else none) = _
    rw [List.length_map, List.length_map, if_pos hc, zipD_map]
  · cases h
theorem ol_list_lst (m : Bool) (ds : List D) : pList (.lst m ds) = some (.lst true ds) := rfl
theorem ol_list_tup (ds : List D) : pList (.tup ds) = some (.lst true ds) := rfl
theorem ol_list_scr (ds : List D) : pList (.scr ds) = some (.lst true ds) := rfl
theorem ol_tup_lst (m : Bool) (ds : List D) : pTuple (.lst m ds) = some (.tup ds) := rfl
theorem ol_tup_tup (ds : List D) : pTuple (.tup ds) = some (.tup ds) := rfl
end
theorem frzK_1 : frzK .non = .non := rfl
theorem frzK_2 (b : Bool) : frzK (.bl b) = .bl b := rfl
theorem frzK_3 (i : Int) : frzK (.int i) = .int i := rfl
theorem frzK_4 (x : Str) : frzK (.str x) = .str x := rfl
theorem frzK_5 (ds : List D) : frzK (.tup ds) = .tup (frzL ds) := rfl
theorem frzK_6 (m : Bool) (ds : List D) : frzK (.lst m ds) = .lst m (frzL ds) := rfl
theorem frzK_7 (m : Bool) (ks : List Key) (ds : List D) : frzK (.dK m ks ds) = .dK m ks (frzL ds) := rfl
theorem frzK_8 (ds : List D) : frzK (.scr ds) = .scr (frzL ds) := rfl
theorem sc_1 : D.sc .non = true := rfl
theorem sc_2 (b : Bool) : D.sc (.bl b) = true := rfl
theorem sc_3 (i : Int) : D.sc (.int i) = true := rfl
theorem sc_4 (x : Str) : D.sc (.str x) = true := rfl
theorem sc_5 (ds : List D) : D.sc (.tup ds) = false := rfl
theorem sc_6 (m : Bool) (ds : List D) : D.sc (.lst m ds) = false := rfl
theorem sc_7 (m : Bool) (ks : List Key) (ds : List D) : D.sc (.dK m ks ds) = false := rfl
theorem sc_8 (ds : List D) : D.sc (.scr ds) = false := rfl
theorem seqOf_1 (ds : List D) : seqOf (.tup ds) = some ds := rfl
theorem seqOf_2 (m : Bool) (ds : List D) : seqOf (.lst m ds) = some ds := rfl
theorem seqOf_3 (ds : List D) : seqOf (.scr ds) = some ds := rfl
theorem kidsOf_1 (ds : List D) : kidsOf (.tup ds) = some ds := rfl
theorem kidsOf_2 (m : Bool) (ds : List D) : kidsOf (.lst m ds) = some ds := rfl
theorem kidsOf_3 (ds : List D) : kidsOf (.scr ds) = some ds := rfl
theorem isT_1 (ds : List D) : isT (.tup ds) = true := rfl
theorem isT_2 (m : Bool) (ds : List D) : isT (.lst m ds) = false := rfl
theorem isT_3 (ds : List D) : isT (.scr ds) = false := rfl
theorem isS_1 (x : Str) (E : En) : isS (.temp (.str x)) E = true := rfl
theorem isS_s (i : Nat) {x : Tx} {E : En} (h : E[i]? = some (some (eTx x))) : isS (.slot i) E = true := by
  show (match E[i]? with | some (some (.str _)) => true | _ => false) = true
  rw [h]; rfl
theorem asB_s (i : Nat) (E : En) : asB (.slot i) E = match E[i]? with
  | some (some (.bl b)) => some b
  | _ => none := rfl
theorem asI_s (i : Nat) (E : En) : asI (.slot i) E = match E[i]? with
  | some (some (.int b)) => some b
  | _ => none := rfl
def txB (o : Option (Option D)) : Bool := match o with
  | some (some (.str _)) => true
  | _ => false
theorem isS_o (i : Nat) (E : En) : isS (.slot i) E = txB E[i]? := rfl
theorem txB_tx (x : Tx) : txB (some (some (eTx x))) = true := rfl
theorem isiD_1 (t : Ty) : isiD .non t = false := by cases t <;> rfl
theorem isiD_6 (m : Bool) (ds : List D) (t : Ty) : isiD (.lst m ds) t = match t with
  | .list => true
  | _ => false := by cases t <;> rfl
theorem isiD_5 (ds : List D) (t : Ty) : isiD (.tup ds) t = match t with
  | .tuple => true
  | _ => false := by cases t <;> rfl
theorem isiD_4 (x : Str) (t : Ty) : isiD (.str x) t = match t with
  | .str => true
  | _ => false := by cases t <;> rfl
theorem isiD_3 (i : Int) (t : Ty) : isiD (.int i) t = match t with
  | .int => true
  | _ => false := by cases t <;> rfl
theorem isiD_2 (b : Bool) (t : Ty) : isiD (.bl b) t = match t with
  | .int => true
  | .bool => true
  | _ => false := by cases t <;> rfl
theorem pull_t (d : D) (E : En) : pull (.temp d) E = some (d, E) := rfl
theorem look_t (d : D) (E : En) : look (.temp d) E = some (frzK d, E) := rfl
theorem tk_t (d : D) (E : En) : tk (.temp d) E = some (d, E) := rfl
theorem okP_lt {n m : Nat} {u : Unit} (h : okP (decide (n < m)) = some u) : n < m := by
  unfold okP at h
  split at h
  · rename_i q; exact of_decide_eq_true q
  · cases h
theorem isiD_treeT (t : Tre) : isiD (eTree t) .tuple = !t.isW := by cases t <;> rfl
theorem stTup_t (b : StN) (ds : List D) (E : En) : stTup b (.tup ds) E = b ds E := rfl
abbrev Jk := {w : Option D // ownB (some w) = true}
theorem ownB_jk (w : Jk) : ownB (some w.1) = true := w.2
theorem ownB_n : ownB (some none) = true := rfl
theorem ownB_s (d : D) : ownB (some (some d)) = isF d := rfl
theorem pEq_nilT' {α : Type} {e : α → D} {xs : List α} (h : depP e xs = true) : pEq (.tup (xs.map e)) (.tup []) = some (decide (xs.length = 0)) := by
  have a : pyOk (.tup (xs.map e)) = true := h
  show (if (pyOk (.tup (xs.map e)) && true) = true then some (PyData.eqvAll (pyL (xs.map e)) []) else none) = _
  rw [a]
  cases xs <;> rfl
theorem ol_eq_nilPT {α : Type} {e : α → D} {xs : List α} {b : Bool} (h : nilP e xs = some b) : pEqD (.tup (xs.map e)) (.tup []) = some (.bl b) := by
  unfold nilP at h
  split at h
  · rename_i hd
    cases h
    unfold pEqD; rw [pEq_nilT' hd]; rfl
  · cases h
theorem ol_ne_nilPT {α : Type} {e : α → D} {xs : List α} {b : Bool} (h : nilP e xs = some b) : pNeD (.tup (xs.map e)) (.tup []) = some (.bl (!b)) := by
  unfold nilP at h
  split at h
  · rename_i hd
    cases h
    unfold pNeD; rw [pEq_nilT' hd]; rfl
  · cases h
end DE
namespace Lw
open PySem PySem.Spec L2 DE
set_option maxHeartbeats 4000000
local macro_rules | `(tactic| simp! only [$xs,*]) => `(tactic| simp only [fnD, evSeq, evAsg, evRet, evRetN, evIf, evB, evEx, evVar, evMv, evCon, ev1, ev2, evN, evIsi, evCons, evNil, evTup, evLst, evDis, evCall, evMut, evMs, evAnd, evOr, evNot, evAndT, evOrT, evNotT, evIte, evChain, evSl0, evSlB, evYes, evNx, evBk, evCt, evSet, evFor, evSq, evRev, evEn, evZip, evR1, evR2, evLc, ownOk, ownB_jk, ownB_n, ownB_s, wipeE, unwE,
  prim, look, looks, tk, tks, pull, pulls, push, pushes, asK, f1, f2, slL, slH, slB, stNm, stTup_t, stCons, stNil, turn, frzAt,
  frz, frzL, isF, isFL, List.map_cons, List.map_nil, List.map_append, List.length_cons, List.length_nil, List.getElem?_cons_zero, List.getElem?_cons_succ, List.getElem?_nil, List.set_cons_zero, List.set_cons_succ, List.replicate, List.append_eq, List.nil_append, List.cons_append, List.contains_nil, List.contains_cons, List.all_cons, List.all_nil, Bool.or_false, Bool.false_or, Bool.or_true, Bool.true_or, Bool.and_true, Bool.true_and, Bool.and_false, Bool.false_and, Bool.not_true, Bool.not_false,
  if_true, if_false, ite_true, ite_false, reduceIte, reduceCtorEq, Option.map_some, Option.map_none, Nat.reduceAdd, Nat.reduceSub, Nat.reduceLT, Nat.reduceEqDiff, Nat.reduceLeDiff, Nat.zero_add, Nat.lt_add_left_iff_pos, Nat.reduceBEq, Bool.false_eq_true, beq_self_eq_true, ite_self, and_self, and_true, true_and, and_false, false_and,
  eP_mk, eP3_mk, eL_ap, eQ_ap, eO_none, eO_some, stTup_P, stTup_P3, eTree_w, eTree_n, frz_tx, frzK_tx, isF_tx, sc_tx, frz_tree, frzK_tree, isF_tree, frz_P, frzK_P, isF_P, sc_P, frz_P3, frzK_P3, isF_P3, sc_P3, frz_O, frzK_O, isF_O, isiD_tx, isiD_P, isiD_P3, isiD_tree, kidsOf_tx, frzL_e, isFL_e, enD_map, zipD_map, List.length_map, List.map_reverse,
  frzK_1, frzK_2, frzK_3, frzK_4, frzK_5, frzK_6, frzK_7, frzK_8, sc_1, sc_2, sc_3, sc_4, sc_5, sc_6, sc_7, sc_8, seqOf_1, seqOf_2, seqOf_3, kidsOf_1, kidsOf_2, kidsOf_3, isT_1, isT_2, isT_3, isS_1, isS_tx, isS_o, txB_tx, asB_bl, asB_s, asI_int, asI_s, isiD_1, isiD_2, isiD_3, isiD_4, isiD_5, isiD_6,
  pAdd_i, pSub_i, pNeg_i, pLt_i, pLe_i, pGt_i, pGe_i, pMin_i, pMax_i, Nx, lim, $xs,*])
local macro_rules | `(tactic| simp_arith only [$xs,*] at $h) => `(tactic| simp only [List.map_cons, List.map_nil, List.map_append, List.map_reverse, List.length_nil, eP_mk, eP3_mk, eL_ap, eQ_ap, eO_none, eO_some, eTree_w, eTree_n, lim, List.length_map, $xs,*] at $h)
local macro_rules | `(tactic| dsimp! only [$xs,*] at $h) => `(tactic| simp only [Bool.or_false, Bool.false_or, Bool.or_true, Bool.true_or, Bool.and_true, Bool.true_and, Bool.and_false, Bool.false_and, Bool.not_true, Bool.not_false, Bool.false_eq_true, if_true, if_false, ite_true, ite_false, reduceIte, $xs,*] at $h)
def b_cell_at (s : Nat → Fd) : EvS :=
 evSeq (evIf (evB (ev2 pLt (evVar 1) (evN (f1 pLen) (evCons (evVar 0) (evNil))))) (evSeq (evRet (ev2 pIdx (evVar 0) (evVar 1)))
 (evNx))
 (evNx))
 (evSeq (evRet (evCon (.int 0)))
 (evNx))
def L0_stream (s : Nat → Fd) : EvS :=
 evSeq (evAsg (ev2 pMod (ev2 pAdd (ev2 pAdd (ev2 pMul (evVar 3) (evVar 3)) (ev2 pMul (evCon (.int 69621)) (evVar 3))) (evVar 4)) (evCon (.int 4294967311))) (stNm 3))
 (evSeq (evEx (evMut mApp 2 (evCons (evVar 3) (evNil))))
 (evNx))
def F1_stream (s : Nat → Fd) : EvS :=
 evFor [4, 3] 100000 (evR1 (evCons (ev2 pAdd (evVar 1) (evCon (.int 1))) (evNil))) (stNm 4)
 (L0_stream s)
def b_stream (s : Nat → Fd) : EvS :=
 evSeq (evAsg (evLst (evNil)) (stNm 2))
 (evSeq (evAsg (ev2 pAdd (ev2 pMod (evVar 0) (evCon (.int 4294967311))) (evCon (.int 48271))) (stNm 3))
 (evSeq (F1_stream s)
 (evSeq (evRet (ev2 slL (evVar 2) (evCon (.int 1))))
 (evNx))))
def L0_digits (s : Nat → Fd) : EvS :=
 evSeq (evSet 2 (evVar 3) (ev2 pMod (ev2 pDiv (ev2 pIdx (evVar 2) (evVar 3)) (evCon (.int 16))) (evCon (.int 16))))
 (evSeq (evIf (evB (ev2 pGt (evVar 0) (evCon (.int 0)))) (evSeq (evSet 2 (evVar 3) (ev2 pMod (ev2 pSub (evVar 0) (evCon (.int 1))) (evCon (.int 16))))
 (evSeq (evAsg (ev2 pDiv (ev2 pSub (evVar 0) (evCon (.int 1))) (evCon (.int 16))) (stNm 0))
 (evNx)))
 (evNx))
 (evNx))
def F1_digits (s : Nat → Fd) : EvS :=
 evFor [3, 0] 100000 (evR1 (evCons (evVar 1) (evNil))) (stNm 3)
 (L0_digits s)
def b_digits (s : Nat → Fd) : EvS :=
 evSeq (evAsg (evCall 2 (s 2) (evCons (evVar 0) (evCons (evVar 1) (evNil)))) (stNm 2))
 (evSeq (F1_digits s)
 (evSeq (evRet (evMv 2))
 (evNx)))
def M0_pool (s : Nat → Fd) : EvO :=
 ev2 pIdx (evVar 2) (ev2 pMod (evVar 11) (evCon (.int 93)))
def C1_pool (s : Nat → Fd) : EvO :=
 evLc 100000 [11] (evSq (evSlB (evVar 3) (evCon (.int 2)) (ev2 pAdd (evCon (.int 2)) (evVar 4)))) (stNm 11) (evYes) (M0_pool s)
def L2_pool (s : Nat → Fd) : EvS :=
 evSeq (evAsg (ev2 pIdx (evVar 2) (ev2 pMod (ev2 pAdd (ev2 pIdx (evVar 3) (ev2 pAdd (evCon (.int 2)) (evVar 5))) (ev2 pMul (evCon (.int 5)) (evVar 8))) (evCon (.int 93)))) (stNm 9))
 (evSeq (evAsg (ev2 pAdd (ev2 pAdd (evVar 5) (evCon (.int 1))) (ev2 pMod (ev2 pDiv (ev2 pIdx (evVar 3) (evCon (.int 1))) (ev2 pAdd (evVar 8) (evCon (.int 2)))) (evCon (.int 15)))) (stNm 10))
 (evSeq (evEx (evMut mApp 7 (evCons (ev2 pAdd (ev2 pAdd (ev2 slH (evVar 6) (evVar 5)) (evVar 9)) (evSlB (evVar 6) (ev2 pAdd (evVar 5) (evCon (.int 1))) (evVar 10))) (evNil))))
 (evNx)))
def F3_pool (s : Nat → Fd) : EvS :=
 evFor [8, 9, 10] 100000 (evR1 (evCons (evVar 1) (evNil))) (stNm 8)
 (L2_pool s)
def b_pool (s : Nat → Fd) : EvS :=
 evSeq (evAsg (evCon (.str "!\"#$&'()*+,-./0123456789:;<=>?@ABCDEFGHIJKLMNOPQRSTUVWXYZ[\\]^_`abcdefghijklmnopqrstuvwxyz{|}~")) (stNm 2))
 (evSeq (evAsg (evCall 2 (s 2) (evCons (evVar 0) (evCons (evCon (.int 16)) (evNil)))) (stNm 3))
 (evSeq (evAsg (ev2 pAdd (evCon (.int 1)) (ev2 pMod (ev2 pIdx (evVar 3) (evCon (.int 0))) (evCon (.int 14)))) (stNm 4))
 (evSeq (evAsg (ev2 pMod (ev2 pIdx (evVar 3) (evCon (.int 1))) (evVar 4)) (stNm 5))
 (evSeq (evAsg (evMs (f2 pJoin) (evCon (.str "")) (evCons (C1_pool s) (evNil))) (stNm 6))
 (evSeq (evAsg (evLst (evNil)) (stNm 7))
 (evSeq (F3_pool s)
 (evSeq (evRet (evMv 7))
 (evNx))))))))
def M0_rules (s : Nat → Fd) : EvO :=
 ev2 pIdx (evVar 2) (ev2 pMod (ev2 pDiv (evVar 8) (evVar 13)) (evCon (.int 3)))
def C1_rules (s : Nat → Fd) : EvO :=
 evLc 100000 [13] (evSq (evLst (evCons (evCon (.int 1)) (evCons (evCon (.int 3)) (evNil))))) (stNm 13) (evYes) (M0_rules s)
def I2_rules (s : Nat → Fd) : EvS :=
 evIf (evB (ev2 pLt (ev2 pAdd (evVar 7) (evCon (.int 1))) (evN (f1 pLen) (evCons (evVar 1) (evNil))))) (evSeq (evEx (evMut mIns 9 (evCons (ev2 pMod (ev2 pDiv (evVar 8) (evCon (.int 18))) (ev2 pAdd (evN (f1 pLen) (evCons (evVar 9) (evNil))) (evCon (.int 1)))) (evCons (ev2 pIdx (evVar 1) (ev2 pAdd (evVar 7) (evCon (.int 1)))) (evNil)))))
 (evNx))
 (evNx)
def L3_rules (s : Nat → Fd) : EvS :=
 evSeq (evAsg (ev2 slH (C1_rules s) (ev2 pAdd (evCon (.int 1)) (ev2 pMod (ev2 pDiv (evVar 8) (evCon (.int 9))) (evCon (.int 2))))) (stNm 9))
 (evSeq (I2_rules s)
 (evSeq (evEx (evMut mApp 4 (evCons (evTup (evCons (ev2 pIdx (evVar 1) (evVar 7)) (evCons (evN (f1 pTuple) (evCons (evVar 9) (evNil))) (evNil)))) (evNil))))
 (evNx)))
def F4_rules (s : Nat → Fd) : EvS :=
 evFor [7, 8, 9] 100000 (evEn (evCons (evCall 2 (s 2) (evCons (evVar 0) (evCons (evN (f1 pLen) (evCons (evVar 1) (evNil))) (evNil)))) (evNil))) (stTup (stCons (stNm 7) (stCons (stNm 8) (stNil))))
 (L3_rules s)
def M5_rules (s : Nat → Fd) : EvO :=
 ev2 pIdx (evVar 5) (ev2 pMod (evVar 12) (evN (f1 pLen) (evCons (evVar 5) (evNil))))
def C6_rules (s : Nat → Fd) : EvO :=
 evLc 100000 [12] (evSq (evSlB (evVar 10) (evCon (.int 2)) (ev2 pAdd (evCon (.int 2)) (evVar 11)))) (stNm 12) (evYes) (M5_rules s)
def L7_rules (s : Nat → Fd) : EvS :=
 evSeq (evAsg (evCall 2 (s 3) (evCons (evVar 6) (evCons (evCon (.int 8)) (evNil)))) (stNm 10))
 (evSeq (evAsg (ev2 pIdx (evLst (evCons (evCon (.int 0)) (evCons (evCon (.int 1)) (evCons (evCon (.int 2)) (evCons (evCon (.int 3)) (evCons (evCon (.int 1)) (evCons (evCon (.int 2)) (evCons (evCon (.int 3)) (evCons (evCon (.int 6)) (evNil)))))))))) (ev2 pMod (ev2 pIdx (evVar 10) (evCon (.int 1))) (evCon (.int 8)))) (stNm 11))
 (evSeq (evAsg (C6_rules s) (stNm 9))
 (evSeq (evEx (evMut mApp 4 (evCons (evTup (evCons (ev2 pIdx (evVar 1) (ev2 pMod (ev2 pIdx (evVar 10) (evCon (.int 0))) (evN (f1 pLen) (evCons (evVar 1) (evNil))))) (evCons (evN (f1 pTuple) (evCons (evVar 9) (evNil))) (evNil)))) (evNil))))
 (evNx))))
def F8_rules (s : Nat → Fd) : EvS :=
 evFor [6, 10, 11, 9] 100000 (evSq (evVar 3)) (stNm 6)
 (L7_rules s)
def b_rules (s : Nat → Fd) : EvS :=
 evSeq (evAsg (evLst (evNil)) (stNm 4))
 (evSeq (F4_rules s)
 (evSeq (evAsg (ev2 pAdd (evVar 1) (evVar 2)) (stNm 5))
 (evSeq (F8_rules s)
 (evSeq (evRet (evMv 4))
 (evNx)))))
def b_spoiled (s : Nat → Fd) : EvS :=
 evSeq (evAsg (ev2 pMod (ev2 pIdx (evVar 3) (evCon (.int 0))) (evCon (.int 8))) (stNm 4))
 (evSeq (evIf (evB (evIsi .str (evVar 0))) (evSeq (evRet (ev2 pIdx (evLst (evCons (ev2 pIdx (evVar 1) (ev2 pMod (ev2 pIdx (evVar 3) (evCon (.int 1))) (evCon (.int 6)))) (evCons (evTup (evCons (ev2 pSub (ev2 pMod (ev2 pIdx (evVar 3) (evCon (.int 1))) (ev2 pAdd (evVar 2) (evCon (.int 2)))) (evCon (.int 1))) (evCons (evTup (evNil)) (evNil)))) (evCons (evTup (evCons (ev2 pMod (ev2 pIdx (evVar 3) (evCon (.int 1))) (evVar 2)) (evCons (evTup (evCons (evVar 0) (evNil))) (evNil)))) (evCons (evVar 0) (evNil)))))) (ev2 pMod (evVar 4) (evCon (.int 4)))))
 (evNx))
 (evNx))
 (evSeq (evAsg (evVar 0) (stTup (stCons (stNm 7) (stCons (stNm 8) (stNil)))))
 (evSeq (evAsg (ev2 pMod (ev2 pIdx (evVar 3) (evCon (.int 1))) (evN (f2 pMax) (evCons (evCon (.int 1)) (evCons (evN (f1 pLen) (evCons (evVar 8) (evNil))) (evNil))))) (stNm 5))
 (evSeq (evIf (evOrT (evB (ev2 pEqD (evVar 4) (evCon (.int 0)))) (evB (ev2 pEqD (evVar 8) (evTup (evNil))))) (evSeq (evRet (evTup (evCons (ev2 pSub (ev2 pMod (ev2 pIdx (evVar 3) (evCon (.int 2))) (ev2 pAdd (evVar 2) (evCon (.int 2)))) (evCon (.int 1))) (evCons (evVar 8) (evNil)))))
 (evNx))
 (evNx))
 (evSeq (evIf (evB (ev2 pEqD (evVar 4) (evCon (.int 1)))) (evSeq (evRet (evTup (evCons (evVar 7) (evCons (ev2 pAdd (ev2 slH (evVar 8) (evVar 5)) (ev2 slL (evVar 8) (ev2 pAdd (evVar 5) (evCon (.int 1))))) (evNil)))))
 (evNx))
 (evNx))
 (evSeq (evIf (evB (ev2 pEqD (evVar 4) (evCon (.int 2)))) (evSeq (evRet (evTup (evCons (evVar 7) (evCons (ev2 pAdd (ev2 pAdd (ev2 slH (evVar 8) (evVar 5)) (evTup (evCons (ev2 pIdx (evVar 1) (ev2 pMod (ev2 pIdx (evVar 3) (evCon (.int 2))) (evCon (.int 6)))) (evNil)))) (ev2 slL (evVar 8) (evVar 5))) (evNil)))))
 (evNx))
 (evNx))
 (evSeq (evIf (evB (ev2 pEqD (evVar 4) (evCon (.int 3)))) (evSeq (evRet (evTup (evCons (evVar 7) (evCons (ev2 pAdd (ev2 pAdd (ev2 pAdd (ev2 slH (evVar 8) (evVar 5)) (evSlB (evVar 8) (ev2 pAdd (evVar 5) (evCon (.int 1))) (ev2 pAdd (evVar 5) (evCon (.int 2))))) (evTup (evCons (ev2 pIdx (evVar 8) (evVar 5)) (evNil)))) (ev2 slL (evVar 8) (ev2 pAdd (evVar 5) (evCon (.int 2))))) (evNil)))))
 (evNx))
 (evNx))
 (evSeq (evIf (evB (ev2 pEqD (evVar 4) (evCon (.int 4)))) (evSeq (evRet (ev2 pIdx (evVar 1) (ev2 pMod (ev2 pIdx (evVar 3) (evCon (.int 2))) (evCon (.int 6)))))
 (evNx))
 (evNx))
 (evSeq (evAsg (evCall 4 (s 13) (evCons (ev2 pIdx (evVar 8) (evVar 5)) (evCons (evVar 1) (evCons (evVar 2) (evCons (ev2 pAdd (ev2 slL (evVar 3) (evCon (.int 2))) (evLst (evCons (evCon (.int 1)) (evCons (evCon (.int 1)) (evCons (evCon (.int 1)) (evNil)))))) (evNil)))))) (stNm 6))
 (evSeq (evRet (evTup (evCons (evVar 7) (evCons (ev2 pAdd (ev2 pAdd (ev2 slH (evVar 8) (evVar 5)) (evTup (evCons (evVar 6) (evNil)))) (ev2 slL (evVar 8) (ev2 pAdd (evVar 5) (evCon (.int 1))))) (evNil)))))
 (evNx)))))))))))
def M0_stands (s : Nat → Fd) : EvO :=
 evCall 4 (s 14) (evCons (evVar 0) (evCons (evVar 1) (evCons (evVar 6) (evCons (evVar 7) (evNil)))))
def C1_stands (s : Nat → Fd) : EvO :=
 evLc 100000 [6, 7] (evZip (evCons (ev2 pIdx (evVar 2) (evCon (.int 1))) (evCons (evVar 5) (evNil)))) (stTup (stCons (stNm 6) (stCons (stNm 7) (stNil)))) (evYes) (M0_stands s)
def b_stands (s : Nat → Fd) : EvS :=
 evSeq (evIf (evB (ev2 pNinD (evVar 3) (evVar 1))) (evSeq (evRet (evAnd (evIsi .str (evVar 2)) (ev2 pEqD (evVar 2) (evVar 3))))
 (evNx))
 (evNx))
 (evSeq (evIf (evOrT (evB (evIsi .str (evVar 2))) (evNotT (evB (evChain pLe pLt (evCon (.int 0)) (ev2 pIdx (evVar 2) (evCon (.int 0))) (evN (f1 pLen) (evCons (evVar 0) (evNil))))))) (evSeq (evRet (evCon (.bl false)))
 (evNx))
 (evNx))
 (evSeq (evAsg (ev2 pIdx (evVar 0) (ev2 pIdx (evVar 2) (evCon (.int 0)))) (stTup (stCons (stNm 4) (stCons (stNm 5) (stNil)))))
 (evSeq (evIf (evOrT (evB (ev2 pNeD (evVar 4) (evVar 3))) (evB (ev2 pNeD (evN (f1 pLen) (evCons (evVar 5) (evNil))) (evN (f1 pLen) (evCons (ev2 pIdx (evVar 2) (evCon (.int 1))) (evNil)))))) (evSeq (evRet (evCon (.bl false)))
 (evNx))
 (evNx))
 (evSeq (evRet (evN (f1 pAll) (evCons (C1_stands s) (evNil))))
 (evNx)))))
def T0_tree (s : Nat → Fd) : EvT :=
 evB (ev2 pEqD (ev2 pIdx (ev2 pIdx (evVar 0) (evVar 5)) (evCon (.int 0))) (evVar 2))
def M1_tree (s : Nat → Fd) : EvO :=
 evVar 5
def C2_tree (s : Nat → Fd) : EvO :=
 evLc 100000 [5] (evR1 (evCons (evN (f1 pLen) (evCons (evVar 0) (evNil))) (evNil))) (stNm 5) (T0_tree s) (M1_tree s)
def I3_tree (s : Nat → Fd) : EvS :=
 evIf (evB (ev2 pNeD (evVar 3) (evLst (evNil)))) (evSeq (evAsg (ev2 pIdx (evVar 4) (ev2 pMod (evMut mPop 3 evNil) (evN (f1 pLen) (evCons (evVar 4) (evNil))))) (stNm 5))
 (evNx))
 (evNx)
def L4_tree (s : Nat → Fd) : EvS :=
 evSeq (evIf (evB (ev2 pInD (evVar 7) (evVar 1))) (evSeq (evEx (evMut mApp 6 (evCons (evCall 4 (s 7) (evCons (evVar 0) (evCons (evVar 1) (evCons (evVar 7) (evCons (evVar 3) (evNil)))))) (evNil))))
 (evNx))
 (evSeq (evEx (evMut mApp 6 (evCons (evVar 7) (evNil))))
 (evNx)))
 (evNx)
def F5_tree (s : Nat → Fd) : EvS :=
 evFor [7] 100000 (evSq (ev2 pIdx (ev2 pIdx (evVar 0) (evVar 5)) (evCon (.int 1)))) (stNm 7)
 (L4_tree s)
def b_tree (s : Nat → Fd) : EvS :=
 evSeq (evAsg (C2_tree s) (stNm 4))
 (evSeq (evAsg (ev2 pIdx (evVar 4) (evCon (.int 0))) (stNm 5))
 (evSeq (I3_tree s)
 (evSeq (evAsg (evLst (evNil)) (stNm 6))
 (evSeq (F5_tree s)
 (evSeq (evRet (evTup (evCons (evVar 5) (evCons (evN (f1 pTuple) (evCons (evVar 6) (evNil))) (evNil)))))
 (evNx))))))
def b_has_rule (s : Nat → Fd) : EvS :=
 evSeq (evIf (evNotT (evB (evChain pLe pLt (evCon (.int 0)) (ev2 pIdx (evVar 1) (evCon (.int 0))) (evN (f1 pLen) (evCons (evVar 0) (evNil)))))) (evSeq (evRet (evCon (.bl false)))
 (evNx))
 (evNx))
 (evSeq (evAsg (ev2 pIdx (evVar 0) (ev2 pIdx (evVar 1) (evCon (.int 0)))) (stTup (stCons (stNm 3) (stCons (stNm 4) (stNil)))))
 (evSeq (evRet (evAnd (ev2 pEqD (evVar 3) (evVar 2)) (ev2 pEqD (evN (f1 pLen) (evCons (evVar 4) (evNil))) (evN (f1 pLen) (evCons (ev2 pIdx (evVar 1) (evCon (.int 1))) (evNil))))))
 (evNx)))
def L0_heads_of (s : Nat → Fd) : EvS :=
 evSeq (evIf (evB (ev2 pNinD (evVar 2) (evVar 1))) (evSeq (evEx (evMut mApp 1 (evCons (evVar 2) (evNil))))
 (evNx))
 (evNx))
 (evNx)
def F1_heads_of (s : Nat → Fd) : EvS :=
 evFor [2, 3] 100000 (evSq (evVar 0)) (stTup (stCons (stNm 2) (stCons (stNm 3) (stNil))))
 (L0_heads_of s)
def b_heads_of (s : Nat → Fd) : EvS :=
 evSeq (evAsg (evLst (evNil)) (stNm 1))
 (evSeq (F1_heads_of s)
 (evSeq (evRet (evMv 1))
 (evNx)))
def T0_tree_stands (s : Nat → Fd) : EvT :=
 evB (ev2 pNeD (evVar 4) (evLst (evNil)))
def L1_tree_stands (s : Nat → Fd) : EvS :=
 evSeq (evAsg (evMut mPop 4 evNil) (stTup (stCons (stNm 5) (stCons (stNm 6) (stNil)))))
 (evSeq (evIf (evOrT (evB (ev2 pNinD (evVar 6) (evVar 3))) (evB (evIsi .str (evVar 5)))) (evSeq (evIf (evOrT (evB (ev2 pInD (evVar 6) (evVar 3))) (evB (ev2 pNeD (evVar 5) (evVar 6)))) (evSeq (evRet (evCon (.bl false)))
 (evNx))
 (evNx))
 (evNx))
 (evSeq (evIf (evNotT (evB (evCall 3 (s 9) (evCons (evVar 0) (evCons (evVar 5) (evCons (evVar 6) (evNil))))))) (evSeq (evRet (evCon (.bl false)))
 (evNx))
 (evSeq (evEx (evMut mExt 4 (evCons (evN (f2 pZipT) (evCons (ev2 pIdx (evVar 5) (evCon (.int 1))) (evCons (ev2 pIdx (ev2 pIdx (evVar 0) (ev2 pIdx (evVar 5) (evCon (.int 0)))) (evCon (.int 1))) (evNil)))) (evNil))))
 (evNx)))
 (evNx)))
 (evNx))
def F2_tree_stands (s : Nat → Fd) : EvS :=
 evWh (T0_tree_stands s) (L1_tree_stands s) 100000
def b_tree_stands (s : Nat → Fd) : EvS :=
 evSeq (evAsg (evCall 1 (s 10) (evCons (evVar 0) (evNil))) (stNm 3))
 (evSeq (evIf (evB (ev2 pNinD (evVar 2) (evVar 3))) (evSeq (evRet (evCon (.bl false)))
 (evNx))
 (evNx))
 (evSeq (evAsg (evLst (evCons (evTup (evCons (evVar 1) (evCons (evVar 2) (evNil)))) (evNil))) (stNm 4))
 (evSeq (F2_tree_stands s)
 (evSeq (evRet (evCon (.bl true)))
 (evNx)))))
def L0_law (s : Nat → Fd) : EvS :=
 evSeq (evAsg (evCall 3 (s 11) (evCons (evVar 8) (evCons (evVar 6) (evCons (ev2 pIdx (evVar 3) (evCon (.int 0))) (evNil))))) (stNm 10))
 (evSeq (evIf (evOrT (evNotT (evB (evIsi .bool (evVar 10)))) (evOrT (evB (ev2 pNeD (evVar 10) (evCall 4 (s 14) (evCons (evVar 4) (evCons (evVar 3) (evCons (evVar 6) (evCons (ev2 pIdx (evVar 3) (evCon (.int 0))) (evNil)))))))) (evB (ev2 pNeD (evVar 8) (evVar 4))))) (evSeq (evRet (evCon (.bl false)))
 (evNx))
 (evNx))
 (evSeq (evAsg (evCall 4 (s 13) (evCons (evVar 6) (evCons (evVar 2) (evCons (evN (f1 pLen) (evCons (evVar 4) (evNil))) (evCons (ev2 pAdd (evSlB (evVar 7) (ev2 pMul (evCon (.int 15)) (evVar 9)) (ev2 pAdd (ev2 pMul (evCon (.int 15)) (evVar 9)) (evCon (.int 15)))) (evLst (evCons (evCon (.int 1)) (evCons (evCon (.int 1)) (evCons (evCon (.int 1)) (evNil)))))) (evNil)))))) (stNm 6))
 (evNx)))
def F1_law (s : Nat → Fd) : EvS :=
 evFor [9, 10, 6] 100000 (evR1 (evCons (evCon (.int 4)) (evNil))) (stNm 9)
 (L0_law s)
def b_law (s : Nat → Fd) : EvS :=
 evSeq (evAsg (evCall 2 (s 1) (evCons (evVar 0) (evCons (evCon (.int 0)) (evNil)))) (stNm 1))
 (evSeq (evAsg (evCall 2 (s 4) (evCons (ev2 pDiv (evVar 1) (evCon (.int 3))) (evCons (evCon (.int 6)) (evNil)))) (stNm 2))
 (evSeq (evAsg (ev2 slH (evVar 2) (ev2 pAdd (evCon (.int 1)) (ev2 pMod (evVar 1) (evCon (.int 3))))) (stNm 3))
 (evSeq (evAsg (evCall 4 (s 6) (evCons (ev2 pDiv (evVar 1) (evCon (.int 3))) (evCons (evVar 3) (evCons (ev2 slL (evVar 2) (evCon (.int 3))) (evCons (evSlB (evVar 0) (evCon (.int 3)) (evCon (.int 11))) (evNil)))))) (stNm 4))
 (evSeq (evAsg (evCall 2 (s 1) (evCons (evVar 0) (evCons (evCon (.int 1)) (evNil)))) (stNm 5))
 (evSeq (evAsg (evCall 4 (s 7) (evCons (evVar 4) (evCons (evVar 3) (evCons (ev2 pIdx (evVar 3) (evCon (.int 0))) (evCons (evCall 2 (s 3) (evCons (evVar 5) (evCons (ev2 pAdd (evCon (.int 1)) (ev2 pMod (evVar 5) (evCon (.int 12)))) (evNil)))) (evNil)))))) (stNm 6))
 (evSeq (evAsg (evCall 2 (s 3) (evCons (evCall 2 (s 1) (evCons (evVar 0) (evCons (evCon (.int 2)) (evNil)))) (evCons (evCon (.int 45)) (evNil)))) (stNm 7))
 (evSeq (evAsg (evN (f1 pList) (evCons (evVar 4) (evNil))) (stNm 8))
 (evSeq (F1_law s)
 (evSeq (evRet (evCon (.bl true)))
 (evNx))))))))))
def tx_h4753f098 : Tx := txL [33, 34, 35, 36, 38, 39, 40, 41, 42, 43, 44, 45, 46, 47, 48, 49, 50, 51, 52, 53, 54, 55, 56, 57, 58, 59, 60, 61, 62, 63, 64, 65, 66, 67, 68, 69, 70, 71, 72, 73, 74, 75, 76, 77, 78, 79, 80, 81, 82, 83, 84, 85, 86, 87, 88, 89, 90, 91, 92, 93, 94, 95, 96, 97, 98, 99, 100, 101, 102, 103, 104, 105, 106, 107, 108, 109, 110, 111, 112, 113, 114, 115, 116, 117, 118, 119, 120, 121, 122, 123, 124, 125, 126]
theorem tx_h4753f098_e : D.str (Str.ofString "!\"#$&'()*+,-./0123456789:;<=>?@ABCDEFGHIJKLMNOPQRSTUVWXYZ[\\]^_`abcdefghijklmnopqrstuvwxyz{|}~") = eTx tx_h4753f098 := congrArg D.str (by decide +kernel)
def tx_e : Tx := txL []
theorem tx_e_e : D.str (Str.ofString "") = eTx tx_e := congrArg D.str (by decide +kernel)
def p_cell_at (script : (List Int)) (k : Int) : Option Int :=
 if k < (List.length script : Int) then
  Option.bind (atI script k) fun v4 =>
 some v4
 else
  some 0
def Sim_cell_at (g : Fd) : Prop := ∀ {script : (List Int)} {k : Int} {r : Int}, p_cell_at script k = some r → g [(D.scr (List.map D.int script)), (D.int k)] = some ((D.int r), [(D.scr (List.map D.int script)), (D.int k)])
def p_L0_stream (found : (List Int)) (number : Int) (k : Int) : Option ((List Int) × Int) :=
 Option.bind (mulP number number) fun m8 =>
 Option.bind (some (((m8 + (69621 * number)) + k) % 4294967311)) fun number13 =>
 Option.bind (appP found number13) fun found15 =>
 some (found15, number13)
def p_F1_stream (many : Int) (found : (List Int)) (number : Int) : Option ((List Int) × Int) :=
 Option.bind (rngP (many + 1)) fun xs4 =>
 pFold (fun (s1 : (List Int) × Int) (x : Int) => p_L0_stream s1.1 s1.2 x) xs4 (found, number)
def p_stream (cell : Int) (many : Int) : Option (List Int) :=
 Option.bind (some ((cell % 4294967311) + 48271)) fun number2 =>
 Option.bind (p_F1_stream many [] number2) fun v18 =>
 some (cutA v18.1 (some 1) none)
def Sim_stream (g : Fd) : Prop := ∀ {cell : Int} {many : Int} {r : (List Int)}, p_stream cell many = some r → g [(D.int cell), (D.int many)] = some ((D.lst true (List.map D.int r)), [(D.int cell), (D.int many)])
def p_L0_digits (cell : Int) (digits : (List Int)) (k : Int) : Option (Int × (List Int)) :=
 Option.bind (atI digits k) fun v8 =>
 Option.bind (setP digits k ((v8 / 16) % 16)) fun digits13 =>
 if 0 < cell then
  Option.bind (setP digits13 k ((cell - 1) % 16)) fun digits19 =>
 Option.bind (some ((cell - 1) / 16)) fun cell23 =>
 some (cell23, digits19)
 else
  some (cell, digits13)
def p_F1_digits (cell : Int) (many : Int) (digits : (List Int)) : Option (Int × (List Int)) :=
 Option.bind (rngP many) fun xs4 =>
 pFold (fun (s1 : Int × (List Int)) (x : Int) => p_L0_digits s1.1 s1.2 x) xs4 (cell, digits)
def p_digits (cell : Int) (many : Int) : Option (List Int) :=
 Option.bind (p_stream cell many) fun v1 =>
 Option.bind (p_F1_digits cell many v1) fun v25 =>
 some v25.2
def Sim_digits (g : Fd) : Prop := ∀ {cell : Int} {many : Int} {r : (List Int)}, p_digits cell many = some r → g [(D.int cell), (D.int many)] = some ((D.lst true (List.map D.int r)), [(D.int cell), (D.int many)])
def p_C1_pool (signs : Tx) (draws : (List Int)) (size : Int) : Option (List Tx) :=
 pLc (fun (x : Int) =>
  (Option.bind (txAt signs (x % 93)) fun c18 =>
 some (some c18) : Option (Option Tx))) (cutA draws (some 2) (some (2 + size))) []
def p_L2_pool (signs : Tx) (draws : (List Int)) (at_ : Int) (base : Tx) (found : (List Tx)) (k : Int) : Option ((List Tx)) :=
 Option.bind (atI draws (2 + at_)) fun v31 =>
 Option.bind (txAt signs ((v31 + (5 * k)) % 93)) fun c36 =>
 Option.bind (atI draws 1) fun v39 =>
 Option.bind (divP v39 (k + 2)) fun m42 =>
 Option.bind (some ((at_ + 1) + (m42 % 15))) fun end_46 =>
 Option.bind (txCut base none (some at_)) fun c48 =>
 Option.bind (catP c48 c36) fun c51 =>
 Option.bind (txCut base (some (at_ + 1)) (some end_46)) fun c54 =>
 Option.bind (catP c51 c54) fun c57 =>
 Option.bind (appP found c57) fun found60 =>
 some found60
def p_F3_pool (many : Int) (signs : Tx) (draws : (List Int)) (at_ : Int) (base : Tx) (found : (List Tx)) : Option ((List Tx)) :=
 Option.bind (rngP many) fun xs27 =>
 pFold (fun (s1 : (List Tx)) (x : Int) => p_L2_pool signs draws at_ base s1 x) xs27 found
def p_pool (cell : Int) (many : Int) : Option (List Tx) :=
 Option.bind (p_stream cell 16) fun v1 =>
 Option.bind (atI v1 0) fun v4 =>
 Option.bind (some (1 + (v4 % 14))) fun size8 =>
 Option.bind (atI v1 1) fun v10 =>
 Option.bind (modP v10 size8) fun m13 =>
 Option.bind (p_C1_pool tx_h4753f098 v1 size8) fun l21 =>
 Option.bind (txJoin tx_e l21) fun c24 =>
 Option.bind (p_F3_pool many tx_h4753f098 v1 m13 c24 []) fun v63 =>
 some v63
def Sim_pool (g : Fd) : Prop := ∀ {cell : Int} {many : Int} {r : (List Tx)}, p_pool cell many = some r → g [(D.int cell), (D.int many)] = some ((D.lst true (List.map eTx r)), [(D.int cell), (D.int many)])
def p_C1_rules (words : (List Tx)) (draw : Int) : Option (List Tx) :=
 pLc (fun (x : Int) =>
  (Option.bind (divP draw x) fun m5 =>
 Option.bind (atI words (m5 % 3)) fun v9 =>
 some (some v9) : Option (Option Tx))) [1, 3] []
def p_I2_rules (names : (List Tx)) (at_ : Int) (draw : Int) (parts : (List Tx)) : Option ((List Tx)) :=
 if (at_ + 1) < (List.length names : Int) then
  Option.bind (modP (draw / 18) ((List.length parts : Int) + 1)) fun m25 =>
 Option.bind (atI names (at_ + 1)) fun v28 =>
 Option.bind (insP parts m25 v28) fun parts31 =>
 some parts31
 else
  some parts
def p_L3_rules (names : (List Tx)) (words : (List Tx)) (rules : (List (Tx × (List Tx)))) (at_ : Int) (draw : Int) : Option ((List (Tx × (List Tx)))) :=
 Option.bind (p_C1_rules words draw) fun l12 =>
 Option.bind (some (cutA l12 none (some (1 + ((draw / 9) % 2))))) fun parts18 =>
 Option.bind (p_I2_rules names at_ draw parts18) fun v35 =>
 Option.bind (atI names at_) fun v39 =>
 Option.bind (appP rules (v39, v35)) fun rules43 =>
 some rules43
def p_F4_rules (cell : Int) (names : (List Tx)) (words : (List Tx)) (rules : (List (Tx × (List Tx)))) : Option ((List (Tx × (List Tx)))) :=
 Option.bind (p_stream cell (List.length names : Int)) fun v2 =>
 pFold (fun (s1 : (List (Tx × (List Tx)))) (x : (Int × Int)) => p_L3_rules names words s1 x.1 x.2) (enA v2) rules
def p_C6_rules (pool : (List Tx)) (digits : (List Int)) (many : Int) : Option (List Tx) :=
 pLc (fun (x : Int) =>
  (Option.bind (modP x (List.length pool : Int)) fun m65 =>
 Option.bind (atI pool m65) fun v68 =>
 some (some v68) : Option (Option Tx))) (cutA digits (some 2) (some (2 + many))) []
def p_L7_rules (names : (List Tx)) (rules : (List (Tx × (List Tx)))) (pool : (List Tx)) (one : Int) : Option ((List (Tx × (List Tx)))) :=
 Option.bind (p_digits one 8) fun v53 =>
 Option.bind (atI v53 1) fun v56 =>
 Option.bind (atI [0, 1, 2, 3, 1, 2, 3, 6] (v56 % 8)) fun v60 =>
 Option.bind (p_C6_rules pool v53 v60) fun l71 =>
 Option.bind (atI v53 0) fun v74 =>
 Option.bind (modP v74 (List.length names : Int)) fun m78 =>
 Option.bind (atI names m78) fun v81 =>
 Option.bind (appP rules (v81, l71)) fun rules85 =>
 some rules85
def p_F8_rules (names : (List Tx)) (cells : (List Int)) (rules : (List (Tx × (List Tx)))) (pool : (List Tx)) : Option ((List (Tx × (List Tx)))) :=
 Option.bind (okP (decide (cells.length < 100000))) fun _ => pFold (fun (s1 : (List (Tx × (List Tx)))) (x : Int) => p_L7_rules names s1 pool x) cells rules
def p_rules (cell : Int) (names : (List Tx)) (words : (List Tx)) (cells : (List Int)) : Option (List (Tx × (List Tx))) :=
 Option.bind (p_F4_rules cell names words []) fun v46 =>
 Option.bind (catP names words) fun c50 =>
 Option.bind (p_F8_rules names cells v46 c50) fun v88 =>
 some v88
def Sim_rules (g : Fd) : Prop := ∀ (m1 : Bool), ∀ (m2 : Bool), ∀ (m3 : Bool), ∀ {cell : Int} {names : (List Tx)} {words : (List Tx)} {cells : (List Int)} {r : (List (Tx × (List Tx)))}, p_rules cell names words cells = some r → g [(D.int cell), (D.lst m1 (List.map eTx names)), (D.lst m2 (List.map eTx words)), (D.lst m3 (List.map D.int cells))] = some ((D.lst true (List.map (eP eTx (eQ eTx)) r)), [(D.int cell), (D.lst m1 (List.map eTx names)), (D.lst m2 (List.map eTx words)), (D.lst m3 (List.map D.int cells))])
def p_spoiled_b (rec_ : Tre → (List Tx) → Int → (List Int) → Option Tre) (tree : Tre) (pool : (List Tx)) (many : Int) (digits : (List Int)) : Option Tre :=
 Option.bind (atI digits 0) fun v1 =>
 Option.bind (some (v1 % 8)) fun way5 =>
 if (Tre.isW tree) = true then
  Option.bind (atI digits 1) fun v8 =>
 Option.bind (atI pool (v8 % 6)) fun v12 =>
 Option.bind (modP v8 (many + 2)) fun m15 =>
 Option.bind (modP v8 many) fun m18 =>
 Option.bind (atI [(Tre.w v12), (Tre.n (m15 - 1) []), (Tre.n m18 [tree]), tree] (way5 % 4)) fun v22 =>
 some v22
 else
  Option.bind (tree.two) fun p25 =>
 Option.bind (atI digits 1) fun v28 =>
 Option.bind (modP v28 (if (List.length p25.2 : Int) > 1 then (List.length p25.2 : Int) else 1)) fun m32 =>
 Option.bind (if way5 = 0 then
  some true
 else
  Option.bind (nilP eTree p25.2) fun b37 =>
 some (b37)) fun v40 =>
 if v40 = true then
  Option.bind (atI digits 2) fun v44 =>
 Option.bind (modP v44 (many + 2)) fun m47 =>
 some (Tre.n (m47 - 1) p25.2)
 else
  if way5 = 1 then
  Option.bind (catP (cutA p25.2 none (some m32)) (cutA p25.2 (some (m32 + 1)) none)) fun c54 =>
 some (Tre.n p25.1 c54)
 else
  if way5 = 2 then
  Option.bind (atI digits 2) fun v60 =>
 Option.bind (atI pool (v60 % 6)) fun v64 =>
 Option.bind (catP (cutA p25.2 none (some m32)) [(Tre.w v64)]) fun c67 =>
 Option.bind (catP c67 (cutA p25.2 (some m32) none)) fun c71 =>
 some (Tre.n p25.1 c71)
 else
  if way5 = 3 then
  Option.bind (catP (cutA p25.2 none (some m32)) (cutA p25.2 (some (m32 + 1)) (some (m32 + 2)))) fun c78 =>
 Option.bind (atI p25.2 m32) fun v81 =>
 Option.bind (catP c78 [v81]) fun c84 =>
 Option.bind (catP c84 (cutA p25.2 (some (m32 + 2)) none)) fun c88 =>
 some (Tre.n p25.1 c88)
 else
  if way5 = 4 then
  Option.bind (atI digits 2) fun v93 =>
 Option.bind (atI pool (v93 % 6)) fun v97 =>
 some (Tre.w v97)
 else
  Option.bind (atI p25.2 m32) fun v100 =>
 Option.bind (catP (cutA digits (some 2) none) [1, 1, 1]) fun c104 =>
 Option.bind (rec_ v100 pool many c104) fun v107 =>
 Option.bind (catP (cutA p25.2 none (some m32)) [v107]) fun c111 =>
 Option.bind (catP c111 (cutA p25.2 (some (m32 + 1)) none)) fun c115 =>
 some (Tre.n p25.1 c115)
def p_spoiled : Nat → Tre → (List Tx) → Int → (List Int) → Option Tre
 | 0, _, _, _, _ => none
 | n + 1, tree, pool, many, digits => p_spoiled_b (p_spoiled n) tree pool many digits
def Sim_spoiled (rec_ : Tre → (List Tx) → Int → (List Int) → Option Tre) (g : Fd) : Prop := ∀ (m1 : Bool), ∀ (m3 : Bool), ∀ {tree : Tre} {pool : (List Tx)} {many : Int} {digits : (List Int)} {r : Tre}, rec_ tree pool many digits = some r → g [(eTree tree), (D.lst m1 (List.map eTx pool)), (D.int many), (D.lst m3 (List.map D.int digits))] = some ((eTree r), [(eTree tree), (D.lst m1 (List.map eTx pool)), (D.int many), (D.lst m3 (List.map D.int digits))])
def p_C1_stands (rec_ : (List (Tx × (List Tx))) → (List Tx) → Tre → Tx → Option Bool) (rules : (List (Tx × (List Tx)))) (names : (List Tx)) (tree : Tre) (parts : (List Tx)) : Option (List Bool) :=
 Option.bind (tree.kids) fun cs30 =>
 pLc (fun (x : (Tre × Tx)) =>
  (Option.bind (rec_ rules names x.1 x.2) fun v33 =>
 some (some v33) : Option (Option Bool))) (List.zip cs30 parts) []
def p_stands_b (rec_ : (List (Tx × (List Tx))) → (List Tx) → Tre → Tx → Option Bool) (rules : (List (Tx × (List Tx)))) (names : (List Tx)) (tree : Tre) (part : Tx) : Option Bool :=
 if part ∈ names then
  Option.bind (if (Tre.isW tree) = true then
  some true
 else
  Option.bind (tree.num) fun n3 =>
 some (!((decide (0 ≤ n3)) && (decide (n3 < (List.length rules : Int)))))) fun v9 =>
 if v9 = true then
  some false
 else
  Option.bind (tree.num) fun n13 =>
 Option.bind (atI rules n13) fun v16 =>
 Option.bind (if v16.1 = part then
  Option.bind (tree.kids) fun cs21 =>
 some (!(decide ((List.length v16.2 : Int) = (List.length cs21 : Int))))
 else
  some true) fun v26 =>
 if v26 = true then
  some false
 else
  Option.bind (p_C1_stands rec_ rules names tree v16.2) fun l36 =>
 some (List.all l36 id)
 else
  Option.bind (if (Tre.isW tree) = true then
  Option.bind (tree.eqTx part) fun b50 =>
 some (b50)
 else
  some false) fun v53 =>
 some (v53)
def p_stands : Nat → (List (Tx × (List Tx))) → (List Tx) → Tre → Tx → Option Bool
 | 0, _, _, _, _ => none
 | n + 1, rules, names, tree, part => p_stands_b (p_stands n) rules names tree part
def Sim_stands (rec_ : (List (Tx × (List Tx))) → (List Tx) → Tre → Tx → Option Bool) (g : Fd) : Prop := ∀ (m0 : Bool), ∀ (m1 : Bool), ∀ {rules : (List (Tx × (List Tx)))} {names : (List Tx)} {tree : Tre} {part : Tx} {r : Bool}, rec_ rules names tree part = some r → g [(D.lst m0 (List.map (eP eTx (eQ eTx)) rules)), (D.lst m1 (List.map eTx names)), (eTree tree), (eTx part)] = some ((D.bl r), [(D.lst m0 (List.map (eP eTx (eQ eTx)) rules)), (D.lst m1 (List.map eTx names)), (eTree tree), (eTx part)])
def p_C2_tree (rec_ : (List (Tx × (List Tx))) → (List Tx) → Tx → (List Int) → Option (Tre × (List Int))) (rules : (List (Tx × (List Tx)))) (name : Tx) : Option (List Int) :=
 Option.bind (rngP (List.length rules : Int)) fun xs2 =>
 pLc (fun (x : Int) =>
  (Option.bind (atI rules x) fun v6 =>
 if v6.1 = name then
  some (some x)
 else
  some none : Option (Option Int))) xs2 []
def p_I3_tree (rec_ : (List (Tx × (List Tx))) → (List Tx) → Tx → (List Int) → Option (Tre × (List Int))) (digits : (List Int)) (numbers : (List Int)) (number : Int) : Option ((List Int) × Int) :=
 if digits.length = 0 then
  some (digits, number)
 else
  Option.bind (popP digits) fun p20 =>
 Option.bind (modP p20.1 (List.length numbers : Int)) fun m24 =>
 Option.bind (atI numbers m24) fun v27 =>
 some (p20.2, v27)
def p_L4_tree (rec_ : (List (Tx × (List Tx))) → (List Tx) → Tx → (List Int) → Option (Tre × (List Int))) (rules : (List (Tx × (List Tx)))) (names : (List Tx)) (digits : (List Int)) (children : (List Tre)) (part : Tx) : Option ((List Int) × (List Tre)) :=
 if part ∈ names then
  Option.bind (rec_ rules names part digits) fun v41 =>
 Option.bind (appP children v41.1) fun children44 =>
 some (v41.2, children44)
 else
  Option.bind (appP children (Tre.w part)) fun children47 =>
 some (digits, children47)
def p_F5_tree (rec_ : (List (Tx × (List Tx))) → (List Tx) → Tx → (List Int) → Option (Tre × (List Int))) (rules : (List (Tx × (List Tx)))) (names : (List Tx)) (digits : (List Int)) (number : Int) (children : (List Tre)) : Option ((List Int) × (List Tre)) :=
 Option.bind (atI rules number) fun v35 =>
 pFold (fun (s1 : (List Int) × (List Tre)) (x : Tx) => p_L4_tree rec_ rules names s1.1 s1.2 x) v35.2 (digits, children)
def p_tree_b (rec_ : (List (Tx × (List Tx))) → (List Tx) → Tx → (List Int) → Option (Tre × (List Int))) (rules : (List (Tx × (List Tx)))) (names : (List Tx)) (name : Tx) (digits : (List Int)) : Option (Tre × (List Int)) :=
 Option.bind (p_C2_tree rec_ rules name) fun l12 =>
 Option.bind (atI l12 0) fun v15 =>
 Option.bind (p_I3_tree rec_ digits l12 v15) fun v31 =>
 Option.bind (p_F5_tree rec_ rules names v31.1 v31.2 []) fun v54 =>
 some ((Tre.n v31.2 v54.2), v54.1)
def p_tree : Nat → (List (Tx × (List Tx))) → (List Tx) → Tx → (List Int) → Option (Tre × (List Int))
 | 0, _, _, _, _ => none
 | n + 1, rules, names, name, digits => p_tree_b (p_tree n) rules names name digits
def Sim_tree (rec_ : (List (Tx × (List Tx))) → (List Tx) → Tx → (List Int) → Option (Tre × (List Int))) (g : Fd) : Prop := ∀ (m0 : Bool), ∀ (m1 : Bool), ∀ {rules : (List (Tx × (List Tx)))} {names : (List Tx)} {name : Tx} {digits : (List Int)} {r : (Tre × (List Int))}, rec_ rules names name digits = some r → g [(D.lst m0 (List.map (eP eTx (eQ eTx)) rules)), (D.lst m1 (List.map eTx names)), (eTx name), (D.lst true (List.map D.int digits))] = some ((eTree r.1), [(D.lst m0 (List.map (eP eTx (eQ eTx)) rules)), (D.lst m1 (List.map eTx names)), (eTx name), (D.lst true (List.map D.int r.2))])
def p_has_rule (rules : (List (Tx × (List Tx)))) (tree : Tre) (name : Tx) : Option Bool :=
 Option.bind (tree.num) fun n1 =>
 if (!((decide (0 ≤ n1)) && (decide (n1 < (List.length rules : Int))))) = true then
  some false
 else
  Option.bind (atI rules n1) fun v9 =>
 Option.bind (if v9.1 = name then
  Option.bind (tree.kids) fun cs14 =>
 some (decide ((List.length v9.2 : Int) = (List.length cs14 : Int)))
 else
  some false) fun v19 =>
 some (v19)
def Sim_has_rule (g : Fd) : Prop := ∀ (m0 : Bool), ∀ {rules : (List (Tx × (List Tx)))} {tree : Tre} {name : Tx} {r : Bool}, p_has_rule rules tree name = some r → g [(D.lst m0 (List.map (eP eTx (eQ eTx)) rules)), (eTree tree), (eTx name)] = some ((D.bl r), [(D.lst m0 (List.map (eP eTx (eQ eTx)) rules)), (eTree tree), (eTx name)])
def p_L0_heads_of (heads : (List Tx)) (head : Tx) (parts : (List Tx)) : Option ((List Tx)) :=
 if head ∈ heads then
  some heads
 else
  Option.bind (appP heads head) fun heads3 =>
 some heads3
def p_F1_heads_of (rules : (List (Tx × (List Tx)))) (heads : (List Tx)) : Option ((List Tx)) :=
 Option.bind (okP (decide (rules.length < 100000))) fun _ => pFold (fun (s1 : (List Tx)) (x : (Tx × (List Tx))) => p_L0_heads_of s1 x.1 x.2) rules heads
def p_heads_of (rules : (List (Tx × (List Tx)))) : Option (List Tx) :=
 Option.bind (p_F1_heads_of rules []) fun v6 =>
 some v6
def Sim_heads_of (g : Fd) : Prop := ∀ (m0 : Bool), ∀ {rules : (List (Tx × (List Tx)))} {r : (List Tx)}, p_heads_of rules = some r → g [(D.lst m0 (List.map (eP eTx (eQ eTx)) rules))] = some ((D.lst true (List.map eTx r)), [(D.lst m0 (List.map (eP eTx (eQ eTx)) rules))])
def p_L1_tree_stands (rules : (List (Tx × (List Tx)))) (heads : (List Tx)) (todo : (List (Tre × Tx))) : Option (Fl ((List (Tre × Tx))) Bool) :=
 Option.bind (popP todo) fun p12 =>
 if ((!(decide (p12.1.2 ∈ heads))) || ((Tre.isW p12.1.1))) = true then
  Option.bind (if p12.1.2 ∈ heads then
  some true
 else
  Option.bind (p12.1.1.eqTx p12.1.2) fun b20 =>
 some (!(b20))) fun v23 =>
 if v23 = true then
  some (.rt false)
 else
  some (.nx p12.2)
 else
  Option.bind (p_has_rule rules p12.1.1 p12.1.2) fun v27 =>
 if v27 = true then
  Option.bind (p12.1.1.kids) fun cs31 =>
 Option.bind (p12.1.1.num) fun n34 =>
 Option.bind (atI rules n34) fun v37 =>
 Option.bind (zipP cs31 v37.2) fun z41 =>
 Option.bind (catP p12.2 z41) fun todo44 =>
 some (.nx todo44)
 else
  some (.rt false)
def p_F2_tree_stands (rules : (List (Tx × (List Tx)))) (heads : (List Tx)) (todo : (List (Tre × Tx))) : Option (Fl ((List (Tre × Tx))) Bool) :=
 pWhF (fun (s1 : (List (Tre × Tx))) => (Option.bind (nilP (eP eTree eTx) s1) fun b9 =>
 some (!(b9)) : Option Bool)) (fun (s1 : (List (Tre × Tx))) => p_L1_tree_stands rules heads s1) 100000 todo
def p_tree_stands (rules : (List (Tx × (List Tx)))) (tree : Tre) (name : Tx) : Option Bool :=
 Option.bind (p_heads_of rules) fun v1 =>
 if name ∈ v1 then
  Option.bind (some [(tree, name)]) fun todo6 =>
 Option.bind (p_F2_tree_stands rules v1 todo6) fun v63 =>
 Fl.go v63 (fun s67 =>
  some true) (fun r68 => some r68)
 else
  some false
def Sim_tree_stands (g : Fd) : Prop := ∀ (m0 : Bool), ∀ {rules : (List (Tx × (List Tx)))} {tree : Tre} {name : Tx} {r : Bool}, p_tree_stands rules tree name = some r → g [(D.lst m0 (List.map (eP eTx (eQ eTx)) rules)), (eTree tree), (eTx name)] = some ((D.bl r), [(D.lst m0 (List.map (eP eTx (eQ eTx)) rules)), (eTree tree), (eTx name)])
def p_L0_law (pool : (List Tx)) (names : (List Tx)) (rules : (List (Tx × (List Tx)))) (tree : Tre) (digits : (List Int)) (handed : (List (Tx × (List Tx)))) (k : Int) : Option (Fl (Tre) Bool) :=
 Option.bind (atI names 0) fun v42 =>
 Option.bind (p_tree_stands handed tree v42) fun v45 =>
 Option.bind (Option.bind (p_stands 30 rules names tree v42) fun v48 =>
 some ((!(decide (v45 = v48))) || (!(decide (handed = rules))))) fun v52 =>
 if v52 = true then
  some (.rt false)
 else
  Option.bind (catP (cutA digits (some (15 * k)) (some ((15 * k) + 15))) [1, 1, 1]) fun c62 =>
 Option.bind (p_spoiled 30 tree pool (List.length rules : Int) c62) fun v65 =>
 some (.nx v65)
def p_F1_law (pool : (List Tx)) (names : (List Tx)) (rules : (List (Tx × (List Tx)))) (tree : Tre) (digits : (List Int)) (handed : (List (Tx × (List Tx)))) : Option (Fl (Tre) Bool) :=
 Option.bind (rngP 4) fun xs38 =>
 pFor (fun (s1 : Tre) (x : Int) => p_L0_law pool names rules s1 digits handed x) xs38 tree
def p_law (script : (List Int)) : Option Bool :=
 Option.bind (p_cell_at script 0) fun v1 =>
 Option.bind (p_pool (v1 / 3) 6) fun v5 =>
 Option.bind (some (cutA v5 none (some (1 + (v1 % 3))))) fun names10 =>
 Option.bind (p_rules (v1 / 3) names10 (cutA v5 (some 3) none) (cutA script (some 3) (some 11))) fun v15 =>
 Option.bind (p_cell_at script 1) fun v18 =>
 Option.bind (atI names10 0) fun v21 =>
 Option.bind (p_digits v18 (1 + (v18 % 12))) fun v25 =>
 Option.bind (p_tree 30 v15 names10 v21 v25) fun v28 =>
 Option.bind (p_cell_at script 2) fun v31 =>
 Option.bind (p_digits v31 45) fun v34 =>
 Option.bind (p_F1_law v5 names10 v15 v28.1 v34 v15) fun v150 =>
 Fl.go v150 (fun s154 =>
  some true) (fun r155 => some r155)
def Sim_law (g : Fd) : Prop := ∀ {script : (List Int)} {r : Bool}, p_law script = some r → g [(D.scr (List.map D.int script))] = some ((D.bl r), [(D.scr (List.map D.int script))])
theorem sim_cell_at (s : Nat → Fd) : Sim_cell_at (fnD 2 2 [] (b_cell_at s)) := by
  intro script k r h
  unfold p_cell_at at h
  have q1 := ol_len_scr (e := D.int) script
  try simp_arith only [] at q1
  by_cases c7 : k < (List.length script : Int)
  · have d7 := decide_eq_true c7
    first | rw [if_pos c7] at h | dsimp! only [d7] at h
    obtain ⟨v4, e5, h⟩ := Option.bind_eq_some_iff.mp h
    have q6 := ol_ix_scr (e := D.int) e5
    try simp_arith only [] at q6
    replace h := Option.some.inj h
    subst h
    have qa : argsOf [(D.scr (List.map D.int script)), (D.int k)] [some (D.scr (List.map D.int script)), some (D.int k)] = some [(D.scr (List.map D.int script)), (D.int k)] := argsOf_P ⟨_, _, rfl, .inl ⟨by first | rfl | exact isF_tree _ | exact isF_e _ _ | simp! only [], rfl, show 0 < 2 from by decide⟩, ⟨_, _, rfl, .inl ⟨by first | rfl | exact isF_tree _ | exact isF_e _ _ | simp! only [], rfl, show 1 < 2 from by decide⟩, rfl⟩⟩
    try simp_arith only [] at qa
    unfold b_cell_at
    simp! only [q1, d7, q6, qa]
  · have d7 := decide_eq_false c7
    first | rw [if_neg c7] at h | dsimp! only [d7] at h
    replace h := Option.some.inj h
    subst h
    have qa : argsOf [(D.scr (List.map D.int script)), (D.int k)] [some (D.scr (List.map D.int script)), some (D.int k)] = some [(D.scr (List.map D.int script)), (D.int k)] := argsOf_P ⟨_, _, rfl, .inl ⟨by first | rfl | exact isF_tree _ | exact isF_e _ _ | simp! only [], rfl, show 0 < 2 from by decide⟩, ⟨_, _, rfl, .inl ⟨by first | rfl | exact isF_tree _ | exact isF_e _ _ | simp! only [], rfl, show 1 < 2 from by decide⟩, rfl⟩⟩
    try simp_arith only [] at qa
    unfold b_cell_at
    simp! only [q1, d7, qa]
theorem p_L0_stream_sim (s : Nat → Fd) {w0 : Option D} {w1 : Option D} {found : (List Int)} {number : Int} {k : Int} {r : ((List Int) × Int)} (h : p_L0_stream found number k = some r) :
    ∃ j : Option D, Nx (L0_stream s [w0, w1, some (D.lst true (List.map D.int found)), some (D.int number), some (D.int k)]) [w0, w1, some (D.lst true (List.map D.int r.1)), some (D.int r.2), j] := by
  unfold p_L0_stream at h
  obtain ⟨m8, e9, h⟩ := Option.bind_eq_some_iff.mp h
  have q10 := ol_mul e9
  try simp_arith only [] at q10
  have q11 := ol_mulC (i := 69621) (j := number) (cMul_l (by decide))
  try simp_arith only [] at q11
  have q12 := ol_modC (i := ((m8 + (69621 * number)) + k)) (j := 4294967311) (by decide)
  try simp_arith only [] at q12
  obtain ⟨number13, e14, h⟩ := Option.bind_eq_some_iff.mp h
  replace e14 := Option.some.inj e14
  subst e14
  obtain ⟨found15, e16, h⟩ := Option.bind_eq_some_iff.mp h
  have q17 := ol_app (e := D.int) e16
  try simp_arith only [] at q17
  replace h := Option.some.inj h
  subst h
  refine ⟨(some (D.int k)), .inl ?_⟩
  unfold L0_stream
  simp! only [q10, q11, q12, q17]
theorem p_F1_stream_sim (s : Nat → Fd) {w0 : Option D} {many : Int} {found : (List Int)} {number : Int} {r : ((List Int) × Int)} (h : p_F1_stream many found number = some r) :
    ∃ j : Option D, F1_stream s [w0, some (D.int many), some (D.lst true (List.map D.int found)), some (D.int number), none] = some (.nx [w0, some (D.int many), some (D.lst true (List.map D.int r.1)), some (D.int r.2), j]) := by
  unfold p_F1_stream at h
  obtain ⟨xs4, e5, h⟩ := Option.bind_eq_some_iff.mp h
  obtain ⟨q6, q7⟩ := ol_rng e5
  try simp_arith only [] at q6
  try simp_arith only [] at q7
  have key : ∀ s1 (j : Option D) x s', (fun (s1 : (List Int) × Int) (x : Int) => p_L0_stream s1.1 s1.2 x) s1 x = some s' → ∃ E1 j', (stNm 4) (D.int x) ((fun (s1 : (List Int) × Int) (j : Option D) => [w0, some (D.int many), some (D.lst true (List.map D.int s1.1)), some (D.int s1.2), j]) s1 j) = some E1 ∧ Nx (L0_stream s E1) ((fun (s1 : (List Int) × Int) (j : Option D) => [w0, some (D.int many), some (D.lst true (List.map D.int s1.1)), some (D.int s1.2), j]) s' j') :=
    fun s1 j x s' hx => let ⟨j', hj⟩ := p_L0_stream_sim s (w0 := (w0)) (w1 := (some (D.int many))) (found := s1.1) (number := s1.2) (k := x) hx; ⟨_, j', rfl, hj⟩
  obtain ⟨jr, hj⟩ := forIt_fold key (none) h
  try simp_arith only [] at hj
  exact ⟨jr, by unfold F1_stream; simp! only [q6, q7, hj]⟩
theorem sim_stream (s : Nat → Fd) : Sim_stream (fnD 2 5 [2, 3, 4, 3] (b_stream s)) := by
  intro cell many r h
  unfold p_stream at h
  have q1 := ol_modC (i := cell) (j := 4294967311) (by decide)
  try simp_arith only [] at q1
  obtain ⟨number2, e3, h⟩ := Option.bind_eq_some_iff.mp h
  replace e3 := Option.some.inj e3
  subst e3
  obtain ⟨v18, e19, h⟩ := Option.bind_eq_some_iff.mp h
  obtain ⟨j21, q20⟩ := p_F1_stream_sim s (w0 := (some (D.int cell))) (many := many) (found := []) (number := ((cell % 4294967311) + 48271)) e19
  try simp_arith only [] at q20
  have q22 := ol_sl_lst (e := D.int) true v18.1 (some 1) none
  try simp_arith only [] at q22
  replace h := Option.some.inj h
  subst h
  have qa : argsOf [(D.int cell), (D.int many)] [some (D.int cell), some (D.int many), some (D.lst true (List.map D.int v18.1)), some (D.int v18.2), j21] = some [(D.int cell), (D.int many)] := argsOf_P ⟨_, _, rfl, .inl ⟨by first | rfl | exact isF_tree _ | exact isF_e _ _ | simp! only [], rfl, show 0 < 5 from by decide⟩, ⟨_, _, rfl, .inl ⟨by first | rfl | exact isF_tree _ | exact isF_e _ _ | simp! only [], rfl, show 1 < 5 from by decide⟩, rfl⟩⟩
  try simp_arith only [] at qa
  unfold b_stream
  simp! only [q1, q20, q22, qa]
theorem p_L0_digits_sim (s : Nat → Fd) (h_stream : Sim_stream (s 2)) {cell : Int} {w1 : Option D} {digits : (List Int)} {k : Int} {r : (Int × (List Int))} (h : p_L0_digits cell digits k = some r) :
    ∃ j : Option D, Nx (L0_digits s [some (D.int cell), w1, some (D.lst true (List.map D.int digits)), some (D.int k)]) [some (D.int r.1), w1, some (D.lst true (List.map D.int r.2)), j] := by
  unfold p_L0_digits at h
  obtain ⟨v8, e9, h⟩ := Option.bind_eq_some_iff.mp h
  have q10 := ol_ix_lst (e := D.int) true e9
  try simp_arith only [] at q10
  have q11 := ol_divC (i := v8) (j := 16) (by decide)
  try simp_arith only [] at q11
  have q12 := ol_modC (i := (v8 / 16)) (j := 16) (by decide)
  try simp_arith only [] at q12
  obtain ⟨digits13, e14, h⟩ := Option.bind_eq_some_iff.mp h
  obtain ⟨q15, q15a, q15b, q15c⟩ := ol_set (e := D.int) e14
  try simp_arith only [] at q15a
  try simp_arith only [] at q15b
  try simp_arith only [] at q15c
  by_cases c29 : 0 < cell
  · have d29 := decide_eq_true c29
    first | rw [if_pos c29] at h | dsimp! only [d29] at h
    have q18 := ol_modC (i := (cell - 1)) (j := 16) (by decide)
    try simp_arith only [] at q18
    obtain ⟨digits19, e20, h⟩ := Option.bind_eq_some_iff.mp h
    obtain ⟨q21, q21a, q21b, q21c⟩ := ol_set (e := D.int) e20
    try simp_arith only [] at q21a
    try simp_arith only [] at q21b
    try simp_arith only [] at q21c
    have q22 := ol_divC (i := (cell - 1)) (j := 16) (by decide)
    try simp_arith only [] at q22
    obtain ⟨cell23, e24, h⟩ := Option.bind_eq_some_iff.mp h
    replace e24 := Option.some.inj e24
    subst e24
    replace h := Option.some.inj h
    subst h
    refine ⟨(some (D.int k)), .inl ?_⟩
    unfold L0_digits
    simp! only [q10, q11, q12, q15a, q15b, q15c, d29, q18, q21a, q21b, q21c, q22]
  · have d29 := decide_eq_false c29
    first | rw [if_neg c29] at h | dsimp! only [d29] at h
    replace h := Option.some.inj h
    subst h
    refine ⟨(some (D.int k)), .inl ?_⟩
    unfold L0_digits
    simp! only [q10, q11, q12, q15a, q15b, q15c, d29]
theorem p_F1_digits_sim (s : Nat → Fd) (h_stream : Sim_stream (s 2)) {cell : Int} {many : Int} {digits : (List Int)} {r : (Int × (List Int))} (h : p_F1_digits cell many digits = some r) :
    ∃ j : Option D, F1_digits s [some (D.int cell), some (D.int many), some (D.lst true (List.map D.int digits)), none] = some (.nx [some (D.int r.1), some (D.int many), some (D.lst true (List.map D.int r.2)), j]) := by
  unfold p_F1_digits at h
  obtain ⟨xs4, e5, h⟩ := Option.bind_eq_some_iff.mp h
  obtain ⟨q6, q7⟩ := ol_rng e5
  try simp_arith only [] at q6
  try simp_arith only [] at q7
  have key : ∀ s1 (j : Option D) x s', (fun (s1 : Int × (List Int)) (x : Int) => p_L0_digits s1.1 s1.2 x) s1 x = some s' → ∃ E1 j', (stNm 3) (D.int x) ((fun (s1 : Int × (List Int)) (j : Option D) => [some (D.int s1.1), some (D.int many), some (D.lst true (List.map D.int s1.2)), j]) s1 j) = some E1 ∧ Nx (L0_digits s E1) ((fun (s1 : Int × (List Int)) (j : Option D) => [some (D.int s1.1), some (D.int many), some (D.lst true (List.map D.int s1.2)), j]) s' j') :=
    fun s1 j x s' hx => let ⟨j', hj⟩ := p_L0_digits_sim s h_stream (cell := s1.1) (w1 := (some (D.int many))) (digits := s1.2) (k := x) hx; ⟨_, j', rfl, hj⟩
  obtain ⟨jr, hj⟩ := forIt_fold key (none) h
  try simp_arith only [] at hj
  exact ⟨jr, by unfold F1_digits; simp! only [q6, q7, hj]⟩
theorem sim_digits (s : Nat → Fd) (h_stream : Sim_stream (s 2)) : Sim_digits (fnD 2 4 [2, 3, 0] (b_digits s)) := by
  intro cell many r h
  unfold p_digits at h
  obtain ⟨v1, e2, h⟩ := Option.bind_eq_some_iff.mp h
  have q3 := h_stream  e2
  try simp_arith only [] at q3
  obtain ⟨v25, e26, h⟩ := Option.bind_eq_some_iff.mp h
  obtain ⟨j28, q27⟩ := p_F1_digits_sim s h_stream (cell := cell) (many := many) (digits := v1) e26
  try simp_arith only [] at q27
  replace h := Option.some.inj h
  subst h
  have qa : argsOf [(D.int cell), (D.int many)] [some (D.int v25.1), some (D.int many), none, j28] = some [(D.int cell), (D.int many)] := argsOf_P ⟨_, _, rfl, .inl ⟨by first | rfl | exact isF_tree _ | exact isF_e _ _ | simp! only [], rfl, show 0 < 4 from by decide⟩, ⟨_, _, rfl, .inl ⟨by first | rfl | exact isF_tree _ | exact isF_e _ _ | simp! only [], rfl, show 1 < 4 from by decide⟩, rfl⟩⟩
  try simp_arith only [] at qa
  unfold b_digits
  simp! only [q3, q27, qa]
theorem p_C1_pool_sim (s : Nat → Fd) (h_stream : Sim_stream (s 2)) {m3 : Bool} {w0 : Option D} {w1 : Option D} {signs : Tx} {draws : (List Int)} {size : Int} {w5 : Option D} {r : (List Tx)} (h : p_C1_pool signs draws size = some r) :
    C1_pool s [w0, w1, some (eTx signs), some (D.lst m3 (List.map D.int draws)), some (D.int size), w5, none, none, none, none, none, none] = some (Opd.temp (D.lst true (List.map eTx r)), [w0, w1, some (eTx signs), some (D.lst m3 (List.map D.int draws)), some (D.int size), w5, none, none, none, none, none, none]) := by
  unfold p_C1_pool at h
  have q16 := ol_sl_lst (e := D.int) m3 draws (some 2) (some (2 + size))
  try simp_arith only [] at q16
  have key : ∀ x r, (fun (x : Int) =>
  (Option.bind (txAt signs (x % 93)) fun c18 =>
 some (some c18) : Option (Option Tx))) x = some r → LcS (stNm 11) evYes (M0_pool s) [11] [w0, w1, some (eTx signs), some (D.lst m3 (List.map D.int draws)), some (D.int size), w5, none, none, none, none, none, none] (D.int x) eTx r := by
    intro x r hx
    dsimp only at hx
    have q17 := ol_modC (i := x) (j := 93) (by decide)
    try simp_arith only [] at q17
    obtain ⟨c18, e19, hx⟩ := Option.bind_eq_some_iff.mp hx
    have q20 := ol_ix_tx e19
    try simp_arith only [] at q20
    replace hx := Option.some.inj hx
    subst hx
    exact ⟨[w0, w1, some (eTx signs), some (D.lst m3 (List.map D.int draws)), some (D.int size), w5, none, none, none, none, none, some (D.int x)], [w0, w1, some (eTx signs), some (D.lst m3 (List.map D.int draws)), some (D.int size), w5, none, none, none, none, none, some (D.int x)], Opd.temp (eTx c18), [w0, w1, some (eTx signs), some (D.lst m3 (List.map D.int draws)), some (D.int size), w5, none, none, none, none, none, some (D.int x)], [w0, w1, some (eTx signs), some (D.lst m3 (List.map D.int draws)), some (D.int size), w5, none, none, none, none, none, some (D.int x)], rfl, rfl, by unfold M0_pool; simp! only [q16, q17, q20], by simp! only [q16, q17, q20], by simp! only [q16, q17, q20]⟩
  have hl := lcIt_lc key (acc := []) h
  try simp_arith only [] at hl
  unfold C1_pool
  simp! only [q16, hl]
theorem p_L2_pool_sim (s : Nat → Fd) (h_stream : Sim_stream (s 2)) {m3 : Bool} {w0 : Option D} {w1 : Option D} {signs : Tx} {draws : (List Int)} {w4 : Option D} {at_ : Int} {base : Tx} {found : (List Tx)} {k : Int} {w9 : Option D} {w10 : Option D} {r : ((List Tx))} (h : p_L2_pool signs draws at_ base found k = some r) :
    ∃ j : Option D × Option D × Option D, Nx (L2_pool s [w0, w1, some (eTx signs), some (D.lst m3 (List.map D.int draws)), w4, some (D.int at_), some (eTx base), some (D.lst true (List.map eTx found)), some (D.int k), w9, w10, none]) [w0, w1, some (eTx signs), some (D.lst m3 (List.map D.int draws)), w4, some (D.int at_), some (eTx base), some (D.lst true (List.map eTx r)), j.1, j.2.1, j.2.2, none] := by
  unfold p_L2_pool at h
  obtain ⟨v31, e32, h⟩ := Option.bind_eq_some_iff.mp h
  have q33 := ol_ix_lst (e := D.int) m3 e32
  try simp_arith only [] at q33
  have q34 := ol_mulC (i := 5) (j := k) (cMul_l (by decide))
  try simp_arith only [] at q34
  have q35 := ol_modC (i := (v31 + (5 * k))) (j := 93) (by decide)
  try simp_arith only [] at q35
  obtain ⟨c36, e37, h⟩ := Option.bind_eq_some_iff.mp h
  have q38 := ol_ix_tx e37
  try simp_arith only [] at q38
  obtain ⟨v39, e40, h⟩ := Option.bind_eq_some_iff.mp h
  have q41 := ol_ix_lst (e := D.int) m3 e40
  try simp_arith only [] at q41
  obtain ⟨m42, e43, h⟩ := Option.bind_eq_some_iff.mp h
  have q44 := ol_div e43
  try simp_arith only [] at q44
  have q45 := ol_modC (i := m42) (j := 15) (by decide)
  try simp_arith only [] at q45
  obtain ⟨end_46, e47, h⟩ := Option.bind_eq_some_iff.mp h
  replace e47 := Option.some.inj e47
  subst e47
  obtain ⟨c48, e49, h⟩ := Option.bind_eq_some_iff.mp h
  have q50 := ol_sl_tx e49
  try simp_arith only [] at q50
  obtain ⟨c51, e52, h⟩ := Option.bind_eq_some_iff.mp h
  have q53 := ol_add_tx e52
  try simp_arith only [] at q53
  obtain ⟨c54, e55, h⟩ := Option.bind_eq_some_iff.mp h
  have q56 := ol_sl_tx e55
  try simp_arith only [] at q56
  obtain ⟨c57, e58, h⟩ := Option.bind_eq_some_iff.mp h
  have q59 := ol_add_tx e58
  try simp_arith only [] at q59
  obtain ⟨found60, e61, h⟩ := Option.bind_eq_some_iff.mp h
  have q62 := ol_app (e := eTx) e61
  try simp_arith only [] at q62
  replace h := Option.some.inj h
  subst h
  refine ⟨((some (D.int k)), (some (eTx c36)), (some (D.int ((at_ + 1) + (m42 % 15))))), .inl ?_⟩
  unfold L2_pool
  simp! only [q33, q34, q35, q38, q41, q44, q45, q50, q53, q56, q59, q62]
theorem p_F3_pool_sim (s : Nat → Fd) (h_stream : Sim_stream (s 2)) {m3 : Bool} {w0 : Option D} {many : Int} {signs : Tx} {draws : (List Int)} {w4 : Option D} {at_ : Int} {base : Tx} {found : (List Tx)} {r : ((List Tx))} (h : p_F3_pool many signs draws at_ base found = some r) :
    ∃ j : Option D × Option D × Option D, F3_pool s [w0, some (D.int many), some (eTx signs), some (D.lst m3 (List.map D.int draws)), w4, some (D.int at_), some (eTx base), some (D.lst true (List.map eTx found)), none, none, none, none] = some (.nx [w0, some (D.int many), some (eTx signs), some (D.lst m3 (List.map D.int draws)), w4, some (D.int at_), some (eTx base), some (D.lst true (List.map eTx r)), j.1, j.2.1, j.2.2, none]) := by
  unfold p_F3_pool at h
  obtain ⟨xs27, e28, h⟩ := Option.bind_eq_some_iff.mp h
  obtain ⟨q29, q30⟩ := ol_rng e28
  try simp_arith only [] at q29
  try simp_arith only [] at q30
  have key : ∀ s1 (j : Option D × Option D × Option D) x s', (fun (s1 : (List Tx)) (x : Int) => p_L2_pool signs draws at_ base s1 x) s1 x = some s' → ∃ E1 j', (stNm 8) (D.int x) ((fun (s1 : (List Tx)) (j : Option D × Option D × Option D) => [w0, some (D.int many), some (eTx signs), some (D.lst m3 (List.map D.int draws)), w4, some (D.int at_), some (eTx base), some (D.lst true (List.map eTx s1)), j.1, j.2.1, j.2.2, none]) s1 j) = some E1 ∧ Nx (L2_pool s E1) ((fun (s1 : (List Tx)) (j : Option D × Option D × Option D) => [w0, some (D.int many), some (eTx signs), some (D.lst m3 (List.map D.int draws)), w4, some (D.int at_), some (eTx base), some (D.lst true (List.map eTx s1)), j.1, j.2.1, j.2.2, none]) s' j') :=
    fun s1 j x s' hx => let ⟨j', hj⟩ := p_L2_pool_sim s h_stream (m3 := m3) (w0 := (w0)) (w1 := (some (D.int many))) (signs := signs) (draws := draws) (w4 := (w4)) (at_ := at_) (base := base) (found := s1) (k := x) (w9 := (j.2.1)) (w10 := (j.2.2)) hx; ⟨_, j', rfl, hj⟩
  obtain ⟨jr, hj⟩ := forIt_fold key ((none), (none), (none)) h
  try simp_arith only [] at hj
  exact ⟨jr, by unfold F3_pool; simp! only [q29, q30, hj]⟩
theorem sim_pool (s : Nat → Fd) (h_stream : Sim_stream (s 2)) : Sim_pool (fnD 2 12 [2, 3, 4, 5, 6, 7, 8, 9, 10] (b_pool s)) := by
  intro cell many r h
  unfold p_pool at h
  obtain ⟨v1, e2, h⟩ := Option.bind_eq_some_iff.mp h
  have q3 := h_stream  e2
  try simp_arith only [] at q3
  obtain ⟨v4, e5, h⟩ := Option.bind_eq_some_iff.mp h
  have q6 := ol_ix_lst (e := D.int) true e5
  try simp_arith only [] at q6
  have q7 := ol_modC (i := v4) (j := 14) (by decide)
  try simp_arith only [] at q7
  obtain ⟨size8, e9, h⟩ := Option.bind_eq_some_iff.mp h
  replace e9 := Option.some.inj e9
  subst e9
  obtain ⟨v10, e11, h⟩ := Option.bind_eq_some_iff.mp h
  have q12 := ol_ix_lst (e := D.int) true e11
  try simp_arith only [] at q12
  obtain ⟨m13, e14, h⟩ := Option.bind_eq_some_iff.mp h
  have q15 := ol_mod e14
  try simp_arith only [] at q15
  obtain ⟨l21, e22, h⟩ := Option.bind_eq_some_iff.mp h
  have q23 := p_C1_pool_sim s h_stream (m3 := true) (w0 := (some (D.int cell))) (w1 := (some (D.int many))) (signs := tx_h4753f098) (draws := v1) (size := (1 + (v4 % 14))) (w5 := (some (D.int m13))) e22
  try simp_arith only [] at q23
  obtain ⟨c24, e25, h⟩ := Option.bind_eq_some_iff.mp h
  have q26 := ol_join true e25
  try simp_arith only [] at q26
  obtain ⟨v63, e64, h⟩ := Option.bind_eq_some_iff.mp h
  obtain ⟨j66, q65⟩ := p_F3_pool_sim s h_stream (m3 := true) (w0 := (some (D.int cell))) (many := many) (signs := tx_h4753f098) (draws := v1) (w4 := (some (D.int (1 + (v4 % 14))))) (at_ := m13) (base := c24) (found := []) e64
  try simp_arith only [] at q65
  replace h := Option.some.inj h
  subst h
  have qa : argsOf [(D.int cell), (D.int many)] [some (D.int cell), some (D.int many), some (eTx tx_h4753f098), some (D.lst true (List.map D.int v1)), some (D.int (1 + (v4 % 14))), some (D.int m13), some (eTx c24), none, j66.1, j66.2.1, j66.2.2, none] = some [(D.int cell), (D.int many)] := argsOf_P ⟨_, _, rfl, .inl ⟨by first | rfl | exact isF_tree _ | exact isF_e _ _ | simp! only [], rfl, show 0 < 12 from by decide⟩, ⟨_, _, rfl, .inl ⟨by first | rfl | exact isF_tree _ | exact isF_e _ _ | simp! only [], rfl, show 1 < 12 from by decide⟩, rfl⟩⟩
  try simp_arith only [] at qa
  unfold b_pool
  simp! only [tx_h4753f098_e, q3, q6, q7, q12, q15, tx_e_e, q23, q26, q65, qa]
theorem p_C1_rules_sim (s : Nat → Fd) (h_stream : Sim_stream (s 2)) (h_digits : Sim_digits (s 3)) {m2 : Bool} {w0 : Option D} {w1 : Option D} {words : (List Tx)} {w3 : Option D} {w4 : Option D} {w7 : Option D} {draw : Int} {w9 : Option D} {r : (List Tx)} (h : p_C1_rules words draw = some r) :
    C1_rules s [w0, w1, some (D.lst m2 (List.map eTx words)), w3, w4, none, none, w7, some (D.int draw), w9, none, none, none, none] = some (Opd.temp (D.lst true (List.map eTx r)), [w0, w1, some (D.lst m2 (List.map eTx words)), w3, w4, none, none, w7, some (D.int draw), w9, none, none, none, none]) := by
  unfold p_C1_rules at h
  have key : ∀ x r, (fun (x : Int) =>
  (Option.bind (divP draw x) fun m5 =>
 Option.bind (atI words (m5 % 3)) fun v9 =>
 some (some v9) : Option (Option Tx))) x = some r → LcS (stNm 13) evYes (M0_rules s) [13] [w0, w1, some (D.lst m2 (List.map eTx words)), w3, w4, none, none, w7, some (D.int draw), w9, none, none, none, none] (D.int x) eTx r := by
    intro x r hx
    dsimp only at hx
    obtain ⟨m5, e6, hx⟩ := Option.bind_eq_some_iff.mp hx
    have q7 := ol_div e6
    try simp_arith only [] at q7
    have q8 := ol_modC (i := m5) (j := 3) (by decide)
    try simp_arith only [] at q8
    obtain ⟨v9, e10, hx⟩ := Option.bind_eq_some_iff.mp hx
    have q11 := ol_ix_lst (e := eTx) m2 e10
    try simp_arith only [] at q11
    replace hx := Option.some.inj hx
    subst hx
    exact ⟨[w0, w1, some (D.lst m2 (List.map eTx words)), w3, w4, none, none, w7, some (D.int draw), w9, none, none, none, some (D.int x)], [w0, w1, some (D.lst m2 (List.map eTx words)), w3, w4, none, none, w7, some (D.int draw), w9, none, none, none, some (D.int x)], Opd.temp (eTx v9), [w0, w1, some (D.lst m2 (List.map eTx words)), w3, w4, none, none, w7, some (D.int draw), w9, none, none, none, some (D.int x)], [w0, w1, some (D.lst m2 (List.map eTx words)), w3, w4, none, none, w7, some (D.int draw), w9, none, none, none, some (D.int x)], rfl, rfl, by unfold M0_rules; simp! only [q7, q8, q11], by simp! only [q7, q8, q11], by simp! only [q7, q8, q11]⟩
  have hl := lcIt_lc key (acc := []) h
  try simp_arith only [] at hl
  unfold C1_rules
  simp! only [hl]
theorem p_I2_rules_sim (s : Nat → Fd) (h_stream : Sim_stream (s 2)) (h_digits : Sim_digits (s 3)) {m1 : Bool} {w0 : Option D} {names : (List Tx)} {w2 : Option D} {w3 : Option D} {w4 : Option D} {at_ : Int} {draw : Int} {parts : (List Tx)} {r : ((List Tx))} (h : p_I2_rules names at_ draw parts = some r) :
    ∃ j : Unit, I2_rules s [w0, some (D.lst m1 (List.map eTx names)), w2, w3, w4, none, none, some (D.int at_), some (D.int draw), some (D.lst true (List.map eTx parts)), none, none, none, none] = some (.nx [w0, some (D.lst m1 (List.map eTx names)), w2, w3, w4, none, none, some (D.int at_), some (D.int draw), some (D.lst true (List.map eTx r)), none, none, none, none]) := by
  unfold p_I2_rules at h
  have q20 := ol_len_lst (e := eTx) m1 names
  try simp_arith only [] at q20
  by_cases c93 : (at_ + 1) < (List.length names : Int)
  · have d93 := decide_eq_true c93
    first | rw [if_pos c93] at h | dsimp! only [d93] at h
    have q23 := ol_divC (i := draw) (j := 18) (by decide)
    try simp_arith only [] at q23
    have q24 := ol_len_lst (e := eTx) true parts
    try simp_arith only [] at q24
    obtain ⟨m25, e26, h⟩ := Option.bind_eq_some_iff.mp h
    have q27 := ol_mod e26
    try simp_arith only [] at q27
    obtain ⟨v28, e29, h⟩ := Option.bind_eq_some_iff.mp h
    have q30 := ol_ix_lst (e := eTx) m1 e29
    try simp_arith only [] at q30
    obtain ⟨parts31, e32, h⟩ := Option.bind_eq_some_iff.mp h
    have q33 := ol_ins (e := eTx) e32
    try simp_arith only [] at q33
    replace h := Option.some.inj h
    subst h
    refine ⟨(), ?_⟩
    unfold I2_rules
    simp! only [q20, d93, q23, q24, q27, q30, q33]
  · have d93 := decide_eq_false c93
    first | rw [if_neg c93] at h | dsimp! only [d93] at h
    replace h := Option.some.inj h
    subst h
    refine ⟨(), ?_⟩
    unfold I2_rules
    simp! only [q20, d93]
theorem p_L3_rules_sim (s : Nat → Fd) (h_stream : Sim_stream (s 2)) (h_digits : Sim_digits (s 3)) {m1 : Bool} {m2 : Bool} {w0 : Option D} {names : (List Tx)} {words : (List Tx)} {w3 : Option D} {rules : (List (Tx × (List Tx)))} {at_ : Int} {draw : Int} {w9 : Option D} {r : ((List (Tx × (List Tx))))} (h : p_L3_rules names words rules at_ draw = some r) :
    ∃ j : Option D × Option D × Option D, Nx (L3_rules s [w0, some (D.lst m1 (List.map eTx names)), some (D.lst m2 (List.map eTx words)), w3, some (D.lst true (List.map (eP eTx (eQ eTx)) rules)), none, none, some (D.int at_), some (D.int draw), w9, none, none, none, none]) [w0, some (D.lst m1 (List.map eTx names)), some (D.lst m2 (List.map eTx words)), w3, some (D.lst true (List.map (eP eTx (eQ eTx)) r)), none, none, j.1, j.2.1, j.2.2, none, none, none, none] := by
  unfold p_L3_rules at h
  obtain ⟨l12, e13, h⟩ := Option.bind_eq_some_iff.mp h
  have q14 := p_C1_rules_sim s h_stream h_digits (m2 := m2) (w0 := (w0)) (w1 := (some (D.lst m1 (List.map eTx names)))) (words := words) (w3 := (w3)) (w4 := (some (D.lst true (List.map (eP eTx (eQ eTx)) rules)))) (w7 := (some (D.int at_))) (draw := draw) (w9 := (w9)) e13
  try simp_arith only [] at q14
  have q15 := ol_divC (i := draw) (j := 9) (by decide)
  try simp_arith only [] at q15
  have q16 := ol_modC (i := (draw / 9)) (j := 2) (by decide)
  try simp_arith only [] at q16
  have q17 := ol_sl_lst (e := eTx) true l12 none (some (1 + ((draw / 9) % 2)))
  try simp_arith only [] at q17
  obtain ⟨parts18, e19, h⟩ := Option.bind_eq_some_iff.mp h
  replace e19 := Option.some.inj e19
  subst e19
  obtain ⟨v35, e36, h⟩ := Option.bind_eq_some_iff.mp h
  obtain ⟨j38, q37⟩ := p_I2_rules_sim s h_stream h_digits (m1 := m1) (w0 := (w0)) (names := names) (w2 := (some (D.lst m2 (List.map eTx words)))) (w3 := (w3)) (w4 := (some (D.lst true (List.map (eP eTx (eQ eTx)) rules)))) (at_ := at_) (draw := draw) (parts := (cutA l12 none (some (1 + ((draw / 9) % 2))))) e36
  try simp_arith only [] at q37
  obtain ⟨v39, e40, h⟩ := Option.bind_eq_some_iff.mp h
  have q41 := ol_ix_lst (e := eTx) m1 e40
  try simp_arith only [] at q41
  have q42 := ol_tup_lst true (List.map eTx v35)
  try simp_arith only [] at q42
  obtain ⟨rules43, e44, h⟩ := Option.bind_eq_some_iff.mp h
  have q45 := ol_app (e := (eP eTx (eQ eTx))) e44
  try simp_arith only [] at q45
  replace h := Option.some.inj h
  subst h
  refine ⟨((some (D.int at_)), (some (D.int draw)), (some (D.lst true (List.map eTx v35)))), .inl ?_⟩
  unfold L3_rules
  simp! only [q14, q15, q16, q17, q37, q41, q42, q45]
theorem p_F4_rules_sim (s : Nat → Fd) (h_stream : Sim_stream (s 2)) (h_digits : Sim_digits (s 3)) {m1 : Bool} {m2 : Bool} {cell : Int} {names : (List Tx)} {words : (List Tx)} {w3 : Option D} {rules : (List (Tx × (List Tx)))} {r : ((List (Tx × (List Tx))))} (h : p_F4_rules cell names words rules = some r) :
    ∃ j : Option D × Option D × Option D, F4_rules s [some (D.int cell), some (D.lst m1 (List.map eTx names)), some (D.lst m2 (List.map eTx words)), w3, some (D.lst true (List.map (eP eTx (eQ eTx)) rules)), none, none, none, none, none, none, none, none, none] = some (.nx [some (D.int cell), some (D.lst m1 (List.map eTx names)), some (D.lst m2 (List.map eTx words)), w3, some (D.lst true (List.map (eP eTx (eQ eTx)) r)), none, none, j.1, j.2.1, j.2.2, none, none, none, none]) := by
  unfold p_F4_rules at h
  have q1 := ol_len_lst (e := eTx) m1 names
  try simp_arith only [] at q1
  obtain ⟨v2, e3, h⟩ := Option.bind_eq_some_iff.mp h
  have q4 := h_stream  e3
  try simp_arith only [] at q4
  have key : ∀ s1 (j : Option D × Option D × Option D) x s', (fun (s1 : (List (Tx × (List Tx)))) (x : (Int × Int)) => p_L3_rules names words s1 x.1 x.2) s1 x = some s' → ∃ E1 j', (stTup (stCons (stNm 7) (stCons (stNm 8) (stNil)))) ((eP D.int D.int) x) ((fun (s1 : (List (Tx × (List Tx)))) (j : Option D × Option D × Option D) => [some (D.int cell), some (D.lst m1 (List.map eTx names)), some (D.lst m2 (List.map eTx words)), w3, some (D.lst true (List.map (eP eTx (eQ eTx)) s1)), none, none, j.1, j.2.1, j.2.2, none, none, none, none]) s1 j) = some E1 ∧ Nx (L3_rules s E1) ((fun (s1 : (List (Tx × (List Tx)))) (j : Option D × Option D × Option D) => [some (D.int cell), some (D.lst m1 (List.map eTx names)), some (D.lst m2 (List.map eTx words)), w3, some (D.lst true (List.map (eP eTx (eQ eTx)) s1)), none, none, j.1, j.2.1, j.2.2, none, none, none, none]) s' j') :=
    fun s1 j x s' hx => let ⟨j', hj⟩ := p_L3_rules_sim s h_stream h_digits (m1 := m1) (m2 := m2) (w0 := (some (D.int cell))) (names := names) (words := words) (w3 := (w3)) (rules := s1) (at_ := x.1) (draw := x.2) (w9 := (j.2.2)) hx; ⟨_, j', rfl, hj⟩
  obtain ⟨jr, hj⟩ := forIt_fold key ((none), (none), (none)) h
  try simp_arith only [] at hj
  exact ⟨jr, by unfold F4_rules; simp! only [q1, q4, hj]⟩
theorem p_C6_rules_sim (s : Nat → Fd) (h_stream : Sim_stream (s 2)) (h_digits : Sim_digits (s 3)) {m5 : Bool} {m10 : Bool} {w0 : Option D} {w1 : Option D} {w2 : Option D} {w3 : Option D} {w4 : Option D} {pool : (List Tx)} {w6 : Option D} {w7 : Option D} {w8 : Option D} {w9 : Option D} {digits : (List Int)} {many : Int} {r : (List Tx)} (h : p_C6_rules pool digits many = some r) :
    C6_rules s [w0, w1, w2, w3, w4, some (D.lst m5 (List.map eTx pool)), w6, w7, w8, w9, some (D.lst m10 (List.map D.int digits)), some (D.int many), none, none] = some (Opd.temp (D.lst true (List.map eTx r)), [w0, w1, w2, w3, w4, some (D.lst m5 (List.map eTx pool)), w6, w7, w8, w9, some (D.lst m10 (List.map D.int digits)), some (D.int many), none, none]) := by
  unfold p_C6_rules at h
  have q63 := ol_sl_lst (e := D.int) m10 digits (some 2) (some (2 + many))
  try simp_arith only [] at q63
  have key : ∀ x r, (fun (x : Int) =>
  (Option.bind (modP x (List.length pool : Int)) fun m65 =>
 Option.bind (atI pool m65) fun v68 =>
 some (some v68) : Option (Option Tx))) x = some r → LcS (stNm 12) evYes (M5_rules s) [12] [w0, w1, w2, w3, w4, some (D.lst m5 (List.map eTx pool)), w6, w7, w8, w9, some (D.lst m10 (List.map D.int digits)), some (D.int many), none, none] (D.int x) eTx r := by
    intro x r hx
    dsimp only at hx
    have q64 := ol_len_lst (e := eTx) m5 pool
    try simp_arith only [] at q64
    obtain ⟨m65, e66, hx⟩ := Option.bind_eq_some_iff.mp hx
    have q67 := ol_mod e66
    try simp_arith only [] at q67
    obtain ⟨v68, e69, hx⟩ := Option.bind_eq_some_iff.mp hx
    have q70 := ol_ix_lst (e := eTx) m5 e69
    try simp_arith only [] at q70
    replace hx := Option.some.inj hx
    subst hx
    exact ⟨[w0, w1, w2, w3, w4, some (D.lst m5 (List.map eTx pool)), w6, w7, w8, w9, some (D.lst m10 (List.map D.int digits)), some (D.int many), some (D.int x), none], [w0, w1, w2, w3, w4, some (D.lst m5 (List.map eTx pool)), w6, w7, w8, w9, some (D.lst m10 (List.map D.int digits)), some (D.int many), some (D.int x), none], Opd.temp (eTx v68), [w0, w1, w2, w3, w4, some (D.lst m5 (List.map eTx pool)), w6, w7, w8, w9, some (D.lst m10 (List.map D.int digits)), some (D.int many), some (D.int x), none], [w0, w1, w2, w3, w4, some (D.lst m5 (List.map eTx pool)), w6, w7, w8, w9, some (D.lst m10 (List.map D.int digits)), some (D.int many), some (D.int x), none], rfl, rfl, by unfold M5_rules; simp! only [q63, q64, q67, q70], by simp! only [q63, q64, q67, q70], by simp! only [q63, q64, q67, q70]⟩
  have hl := lcIt_lc key (acc := []) h
  try simp_arith only [] at hl
  unfold C6_rules
  simp! only [q63, hl]
theorem p_L7_rules_sim (s : Nat → Fd) (h_stream : Sim_stream (s 2)) (h_digits : Sim_digits (s 3)) {m1 : Bool} {m5 : Bool} {w0 : Option D} {names : (List Tx)} {w2 : Option D} {w3 : Option D} {rules : (List (Tx × (List Tx)))} {pool : (List Tx)} {one : Int} {w7 : Option D} {w8 : Option D} {w9 : Option D} {w10 : Option D} {w11 : Option D} {r : ((List (Tx × (List Tx))))} (h : p_L7_rules names rules pool one = some r) :
    ∃ j : Option D × Option D × Option D × Option D, Nx (L7_rules s [w0, some (D.lst m1 (List.map eTx names)), w2, w3, some (D.lst true (List.map (eP eTx (eQ eTx)) rules)), some (D.lst m5 (List.map eTx pool)), some (D.int one), w7, w8, w9, w10, w11, none, none]) [w0, some (D.lst m1 (List.map eTx names)), w2, w3, some (D.lst true (List.map (eP eTx (eQ eTx)) r)), some (D.lst m5 (List.map eTx pool)), j.1, w7, w8, j.2.1, j.2.2.1, j.2.2.2, none, none] := by
  unfold p_L7_rules at h
  obtain ⟨v53, e54, h⟩ := Option.bind_eq_some_iff.mp h
  have q55 := h_digits  e54
  try simp_arith only [] at q55
  obtain ⟨v56, e57, h⟩ := Option.bind_eq_some_iff.mp h
  have q58 := ol_ix_lst (e := D.int) true e57
  try simp_arith only [] at q58
  have q59 := ol_modC (i := v56) (j := 8) (by decide)
  try simp_arith only [] at q59
  obtain ⟨v60, e61, h⟩ := Option.bind_eq_some_iff.mp h
  have q62 := ol_ix_lst (e := D.int) true e61
  try simp_arith only [] at q62
  obtain ⟨l71, e72, h⟩ := Option.bind_eq_some_iff.mp h
  have q73 := p_C6_rules_sim s h_stream h_digits (m5 := m5) (m10 := true) (w0 := (w0)) (w1 := (some (D.lst m1 (List.map eTx names)))) (w2 := (w2)) (w3 := (w3)) (w4 := (some (D.lst true (List.map (eP eTx (eQ eTx)) rules)))) (pool := pool) (w6 := (some (D.int one))) (w7 := (w7)) (w8 := (w8)) (w9 := (w9)) (digits := v53) (many := v60) e72
  try simp_arith only [] at q73
  obtain ⟨v74, e75, h⟩ := Option.bind_eq_some_iff.mp h
  have q76 := ol_ix_lst (e := D.int) true e75
  try simp_arith only [] at q76
  have q77 := ol_len_lst (e := eTx) m1 names
  try simp_arith only [] at q77
  obtain ⟨m78, e79, h⟩ := Option.bind_eq_some_iff.mp h
  have q80 := ol_mod e79
  try simp_arith only [] at q80
  obtain ⟨v81, e82, h⟩ := Option.bind_eq_some_iff.mp h
  have q83 := ol_ix_lst (e := eTx) m1 e82
  try simp_arith only [] at q83
  have q84 := ol_tup_lst true (List.map eTx l71)
  try simp_arith only [] at q84
  obtain ⟨rules85, e86, h⟩ := Option.bind_eq_some_iff.mp h
  have q87 := ol_app (e := (eP eTx (eQ eTx))) e86
  try simp_arith only [] at q87
  replace h := Option.some.inj h
  subst h
  refine ⟨((some (D.int one)), (some (D.lst true (List.map eTx l71))), (some (D.lst true (List.map D.int v53))), (some (D.int v60))), .inl ?_⟩
  unfold L7_rules
  simp! only [q55, q58, q59, q62, q73, q76, q77, q80, q83, q84, q87]
theorem p_F8_rules_sim (s : Nat → Fd) (h_stream : Sim_stream (s 2)) (h_digits : Sim_digits (s 3)) {m1 : Bool} {m3 : Bool} {m5 : Bool} {w0 : Option D} {names : (List Tx)} {w2 : Option D} {cells : (List Int)} {rules : (List (Tx × (List Tx)))} {pool : (List Tx)} {w7 : Option D} {w8 : Option D} {w9 : Option D} {r : ((List (Tx × (List Tx))))} (h : p_F8_rules names cells rules pool = some r) :
    ∃ j : Option D × Option D × Option D × Option D, F8_rules s [w0, some (D.lst m1 (List.map eTx names)), w2, some (D.lst m3 (List.map D.int cells)), some (D.lst true (List.map (eP eTx (eQ eTx)) rules)), some (D.lst m5 (List.map eTx pool)), none, w7, w8, w9, none, none, none, none] = some (.nx [w0, some (D.lst m1 (List.map eTx names)), w2, some (D.lst m3 (List.map D.int cells)), some (D.lst true (List.map (eP eTx (eQ eTx)) r)), some (D.lst m5 (List.map eTx pool)), j.1, w7, w8, j.2.1, j.2.2.1, j.2.2.2, none, none]) := by
  unfold p_F8_rules at h
  cases m3
  · skip
    obtain ⟨_, hlen, h⟩ := Option.bind_eq_some_iff.mp h
    have key : ∀ s1 (j : Option D × Option D × Option D × Option D) x s', (fun (s1 : (List (Tx × (List Tx)))) (x : Int) => p_L7_rules names s1 pool x) s1 x = some s' → ∃ E1 j', (stNm 6) (D.int x) ((fun (s1 : (List (Tx × (List Tx)))) (j : Option D × Option D × Option D × Option D) => [w0, some (D.lst m1 (List.map eTx names)), w2, some (D.lst false (List.map D.int cells)), some (D.lst true (List.map (eP eTx (eQ eTx)) s1)), some (D.lst m5 (List.map eTx pool)), j.1, w7, w8, j.2.1, j.2.2.1, j.2.2.2, none, none]) s1 j) = some E1 ∧ Nx (L7_rules s E1) ((fun (s1 : (List (Tx × (List Tx)))) (j : Option D × Option D × Option D × Option D) => [w0, some (D.lst m1 (List.map eTx names)), w2, some (D.lst false (List.map D.int cells)), some (D.lst true (List.map (eP eTx (eQ eTx)) s1)), some (D.lst m5 (List.map eTx pool)), j.1, w7, w8, j.2.1, j.2.2.1, j.2.2.2, none, none]) s' j') :=
      fun s1 j x s' hx => let ⟨j', hj⟩ := p_L7_rules_sim s h_stream h_digits (m1 := m1) (m5 := m5) (w0 := (w0)) (names := names) (w2 := (w2)) (w3 := (some (D.lst false (List.map D.int cells)))) (rules := s1) (pool := pool) (one := x) (w7 := (w7)) (w8 := (w8)) (w9 := (j.2.1)) (w10 := (j.2.2.1)) (w11 := (j.2.2.2)) hx; ⟨_, j', rfl, hj⟩
    obtain ⟨jr, hj⟩ := forIt_fold key ((none), (w9), (none), (none)) h
    try simp_arith only [] at hj
    exact ⟨jr, by unfold F8_rules; simp! only [hj]⟩
  · skip
    obtain ⟨_, hlen, h⟩ := Option.bind_eq_some_iff.mp h
    have key : ∀ s1 (j : Option D × Option D × Option D × Option D) x s', (fun (s1 : (List (Tx × (List Tx)))) (x : Int) => p_L7_rules names s1 pool x) s1 x = some s' → ∃ E1 j', (stNm 6) (D.int x) ((fun (s1 : (List (Tx × (List Tx)))) (j : Option D × Option D × Option D × Option D) => [w0, some (D.lst m1 (List.map eTx names)), w2, some (D.lst true (List.map D.int cells)), some (D.lst true (List.map (eP eTx (eQ eTx)) s1)), some (D.lst m5 (List.map eTx pool)), j.1, w7, w8, j.2.1, j.2.2.1, j.2.2.2, none, none]) s1 j) = some E1 ∧ Nx (L7_rules s E1) ((fun (s1 : (List (Tx × (List Tx)))) (j : Option D × Option D × Option D × Option D) => [w0, some (D.lst m1 (List.map eTx names)), w2, some (D.lst true (List.map D.int cells)), some (D.lst true (List.map (eP eTx (eQ eTx)) s1)), some (D.lst m5 (List.map eTx pool)), j.1, w7, w8, j.2.1, j.2.2.1, j.2.2.2, none, none]) s' j') :=
      fun s1 j x s' hx => let ⟨j', hj⟩ := p_L7_rules_sim s h_stream h_digits (m1 := m1) (m5 := m5) (w0 := (w0)) (names := names) (w2 := (w2)) (w3 := (some (D.lst true (List.map D.int cells)))) (rules := s1) (pool := pool) (one := x) (w7 := (w7)) (w8 := (w8)) (w9 := (j.2.1)) (w10 := (j.2.2.1)) (w11 := (j.2.2.2)) hx; ⟨_, j', rfl, hj⟩
    obtain ⟨jr, hj⟩ := forOwn_fold (i := 3) (m := true) (all := cells) (pre := []) (N := 100000) (fun _ _ => rfl) key ((none), (w9), (none), (none)) rfl (okP_lt hlen) h
    try simp_arith only [] at hj
    exact ⟨jr, by unfold F8_rules; simp! only [hj]⟩
theorem sim_rules (s : Nat → Fd) (h_stream : Sim_stream (s 2)) (h_digits : Sim_digits (s 3)) : Sim_rules (fnD 4 14 [4, 7, 8, 9, 5, 6, 10, 11, 9] (b_rules s)) := by
  intro m1 m2 m3 cell names words cells r h
  unfold p_rules at h
  obtain ⟨v46, e47, h⟩ := Option.bind_eq_some_iff.mp h
  obtain ⟨j49, q48⟩ := p_F4_rules_sim s h_stream h_digits (m1 := m1) (m2 := m2) (cell := cell) (names := names) (words := words) (w3 := (some (D.lst m3 (List.map D.int cells)))) (rules := []) e47
  try simp_arith only [] at q48
  obtain ⟨c50, e51, h⟩ := Option.bind_eq_some_iff.mp h
  have q52 := ol_add_lst (e := eTx) m1 m2 e51
  try simp_arith only [] at q52
  obtain ⟨v88, e89, h⟩ := Option.bind_eq_some_iff.mp h
  obtain ⟨j91, q90⟩ := p_F8_rules_sim s h_stream h_digits (m1 := m1) (m3 := m3) (m5 := true) (w0 := (some (D.int cell))) (names := names) (w2 := (some (D.lst m2 (List.map eTx words)))) (cells := cells) (rules := v46) (pool := c50) (w7 := (j49.1)) (w8 := (j49.2.1)) (w9 := (j49.2.2)) e89
  try simp_arith only [] at q90
  replace h := Option.some.inj h
  subst h
  have qa : argsOf [(D.int cell), (D.lst m1 (List.map eTx names)), (D.lst m2 (List.map eTx words)), (D.lst m3 (List.map D.int cells))] [some (D.int cell), some (D.lst m1 (List.map eTx names)), some (D.lst m2 (List.map eTx words)), some (D.lst m3 (List.map D.int cells)), none, some (D.lst true (List.map eTx c50)), j91.1, j49.1, j49.2.1, j91.2.1, j91.2.2.1, j91.2.2.2, none, none] = some [(D.int cell), (D.lst m1 (List.map eTx names)), (D.lst m2 (List.map eTx words)), (D.lst m3 (List.map D.int cells))] := argsOf_P ⟨_, _, rfl, .inl ⟨by first | rfl | exact isF_tree _ | exact isF_e _ _ | simp! only [], rfl, show 0 < 14 from by decide⟩, ⟨_, _, rfl, .inr ⟨rfl, fun z => by first | rfl | (cases z; done) | exact absurd z (by simp! only [])⟩, ⟨_, _, rfl, .inr ⟨rfl, fun z => by first | rfl | (cases z; done) | exact absurd z (by simp! only [])⟩, ⟨_, _, rfl, .inr ⟨rfl, fun z => by first | rfl | (cases z; done) | exact absurd z (by simp! only [])⟩, rfl⟩⟩⟩⟩
  try simp_arith only [] at qa
  unfold b_rules
  simp! only [q48, q52, q90, qa]
theorem sim_spoiled {rec_ : Tre → (List Tx) → Int → (List Int) → Option Tre} (s : Nat → Fd) (h_spoiled : Sim_spoiled rec_ (s 13)) : Sim_spoiled (p_spoiled_b rec_) (fnD 4 9 [4, 7, 8, 5, 6] (b_spoiled s)) := by
  intro m1 m3 tree pool many digits r h
  unfold p_spoiled_b at h
  cases m1
  · skip
    obtain ⟨v1, e2, h⟩ := Option.bind_eq_some_iff.mp h
    have q3 := ol_ix_lst (e := D.int) m3 e2
    try simp_arith only [] at q3
    have q4 := ol_modC (i := v1) (j := 8) (by decide)
    try simp_arith only [] at q4
    obtain ⟨way5, e6, h⟩ := Option.bind_eq_some_iff.mp h
    replace e6 := Option.some.inj e6
    subst e6
    by_cases c228 : (Tre.isW tree) = true
    · have d228 := c228
      first | rw [if_pos c228] at h | dsimp! only [d228] at h
      obtain ⟨v8, e9, h⟩ := Option.bind_eq_some_iff.mp h
      have q10 := ol_ix_lst (e := D.int) m3 e9
      try simp_arith only [] at q10
      have q11 := ol_modC (i := v8) (j := 6) (by decide)
      try simp_arith only [] at q11
      obtain ⟨v12, e13, h⟩ := Option.bind_eq_some_iff.mp h
      have q14 := ol_ix_lst (e := eTx) false e13
      try simp_arith only [] at q14
      obtain ⟨m15, e16, h⟩ := Option.bind_eq_some_iff.mp h
      have q17 := ol_mod e16
      try simp_arith only [] at q17
      obtain ⟨m18, e19, h⟩ := Option.bind_eq_some_iff.mp h
      have q20 := ol_mod e19
      try simp_arith only [] at q20
      have q21 := ol_modC (i := (v1 % 8)) (j := 4) (by decide)
      try simp_arith only [] at q21
      obtain ⟨v22, e23, h⟩ := Option.bind_eq_some_iff.mp h
      have q24 := ol_ix_lst (e := eTree) true e23
      try simp_arith only [] at q24
      replace h := Option.some.inj h
      subst h
      have qa : argsOf [(eTree tree), (D.lst false (List.map eTx pool)), (D.int many), (D.lst m3 (List.map D.int digits))] [some (eTree tree), some (D.lst false (List.map eTx pool)), some (D.int many), some (D.lst m3 (List.map D.int digits)), some (D.int (v1 % 8)), none, none, none, none] = some [(eTree tree), (D.lst false (List.map eTx pool)), (D.int many), (D.lst m3 (List.map D.int digits))] := argsOf_P ⟨_, _, rfl, .inl ⟨by first | rfl | exact isF_tree _ | exact isF_e _ _ | simp! only [], rfl, show 0 < 9 from by decide⟩, ⟨_, _, rfl, .inr ⟨rfl, fun z => by first | rfl | (cases z; done) | exact absurd z (by simp! only [])⟩, ⟨_, _, rfl, .inl ⟨by first | rfl | exact isF_tree _ | exact isF_e _ _ | simp! only [], rfl, show 2 < 9 from by decide⟩, ⟨_, _, rfl, .inr ⟨rfl, fun z => by first | rfl | (cases z; done) | exact absurd z (by simp! only [])⟩, rfl⟩⟩⟩⟩
      try simp_arith only [] at qa
      unfold b_spoiled
      simp! only [q3, q4, d228, q10, q11, q14, q17, q20, q21, q24, qa]
    · have d228 := Bool.eq_false_iff.mpr c228
      first | rw [if_neg c228] at h | dsimp! only [d228] at h
      obtain ⟨p25, e26, h⟩ := Option.bind_eq_some_iff.mp h
      have q27 := ol_tree_two e26
      try simp_arith only [q27] at q3
      try simp_arith only [q27] at q4
      obtain ⟨v28, e29, h⟩ := Option.bind_eq_some_iff.mp h
      have q30 := ol_ix_lst (e := D.int) m3 e29
      try simp_arith only [q27] at q30
      have q31 := ol_len_tup (e := eTree) p25.2
      try simp_arith only [q27] at q31
      obtain ⟨m32, e33, h⟩ := Option.bind_eq_some_iff.mp h
      have q34 := ol_mod e33
      try simp_arith only [q27] at q34
      have q35 := ol_eq_i (v1 % 8) 0
      try simp_arith only [q27] at q35
      obtain ⟨v40, z41, h⟩ := Option.bind_eq_some_iff.mp h
      by_cases c235 : (v1 % 8) = 0
      · have d235 := decide_eq_true c235
        first | rw [if_pos c235] at z41 | dsimp! only [d235] at z41
        replace z41 := Option.some.inj z41
        subst z41
        try dsimp! only [] at h
        obtain ⟨v44, e45, h⟩ := Option.bind_eq_some_iff.mp h
        have q46 := ol_ix_lst (e := D.int) m3 e45
        try simp_arith only [q27] at q46
        obtain ⟨m47, e48, h⟩ := Option.bind_eq_some_iff.mp h
        have q49 := ol_mod e48
        try simp_arith only [q27] at q49
        replace h := Option.some.inj h
        subst h
        have qa : argsOf [(eTree tree), (D.lst false (List.map eTx pool)), (D.int many), (D.lst m3 (List.map D.int digits))] [some (eTree tree), some (D.lst false (List.map eTx pool)), some (D.int many), some (D.lst m3 (List.map D.int digits)), some (D.int (v1 % 8)), some (D.int m32), none, some (D.int p25.1), some (D.tup (List.map eTree p25.2))] = some [(eTree tree), (D.lst false (List.map eTx pool)), (D.int many), (D.lst m3 (List.map D.int digits))] := argsOf_P ⟨_, _, rfl, .inl ⟨by first | rfl | exact isF_tree _ | exact isF_e _ _ | simp! only [], rfl, show 0 < 9 from by decide⟩, ⟨_, _, rfl, .inr ⟨rfl, fun z => by first | rfl | (cases z; done) | exact absurd z (by simp! only [])⟩, ⟨_, _, rfl, .inl ⟨by first | rfl | exact isF_tree _ | exact isF_e _ _ | simp! only [], rfl, show 2 < 9 from by decide⟩, ⟨_, _, rfl, .inr ⟨rfl, fun z => by first | rfl | (cases z; done) | exact absurd z (by simp! only [])⟩, rfl⟩⟩⟩⟩
        try simp_arith only [q27] at qa
        unfold b_spoiled
        simp! only [q3, q4, d228, q30, q31, q34, q35, d235, q46, q49, qa, q27]
      · have d235 := decide_eq_false c235
        first | rw [if_neg c235] at z41 | dsimp! only [d235] at z41
        obtain ⟨b37, e38, z41⟩ := Option.bind_eq_some_iff.mp z41
        have q39 := ol_eq_nilPT e38
        try simp_arith only [q27] at q39
        replace z41 := Option.some.inj z41
        subst z41
        by_cases c236 : b37 = true
        · have d236 := c236
          first | rw [if_pos c236] at h | dsimp! only [d236] at h
          obtain ⟨v44, e45, h⟩ := Option.bind_eq_some_iff.mp h
          have q46 := ol_ix_lst (e := D.int) m3 e45
          try simp_arith only [q27] at q46
          obtain ⟨m47, e48, h⟩ := Option.bind_eq_some_iff.mp h
          have q49 := ol_mod e48
          try simp_arith only [q27] at q49
          replace h := Option.some.inj h
          subst h
          have qa : argsOf [(eTree tree), (D.lst false (List.map eTx pool)), (D.int many), (D.lst m3 (List.map D.int digits))] [some (eTree tree), some (D.lst false (List.map eTx pool)), some (D.int many), some (D.lst m3 (List.map D.int digits)), some (D.int (v1 % 8)), some (D.int m32), none, some (D.int p25.1), some (D.tup (List.map eTree p25.2))] = some [(eTree tree), (D.lst false (List.map eTx pool)), (D.int many), (D.lst m3 (List.map D.int digits))] := argsOf_P ⟨_, _, rfl, .inl ⟨by first | rfl | exact isF_tree _ | exact isF_e _ _ | simp! only [], rfl, show 0 < 9 from by decide⟩, ⟨_, _, rfl, .inr ⟨rfl, fun z => by first | rfl | (cases z; done) | exact absurd z (by simp! only [])⟩, ⟨_, _, rfl, .inl ⟨by first | rfl | exact isF_tree _ | exact isF_e _ _ | simp! only [], rfl, show 2 < 9 from by decide⟩, ⟨_, _, rfl, .inr ⟨rfl, fun z => by first | rfl | (cases z; done) | exact absurd z (by simp! only [])⟩, rfl⟩⟩⟩⟩
          try simp_arith only [q27] at qa
          unfold b_spoiled
          simp! only [q3, q4, d228, q30, q31, q34, q35, d235, q39, d236, q46, q49, qa, q27]
        · have d236 := Bool.eq_false_iff.mpr c236
          first | rw [if_neg c236] at h | dsimp! only [d236] at h
          have q50 := ol_eq_i (v1 % 8) 1
          try simp_arith only [q27] at q50
          by_cases c237 : (v1 % 8) = 1
          · have d237 := decide_eq_true c237
            first | rw [if_pos c237] at h | dsimp! only [d237] at h
            have q52 := ol_sl_tup (e := eTree) p25.2 none (some m32)
            try simp_arith only [q27] at q52
            have q53 := ol_sl_tup (e := eTree) p25.2 (some (m32 + 1)) none
            try simp_arith only [q27] at q53
            obtain ⟨c54, e55, h⟩ := Option.bind_eq_some_iff.mp h
            have q56 := ol_add_tup (e := eTree) e55
            try simp_arith only [q27] at q56
            replace h := Option.some.inj h
            subst h
            have qa : argsOf [(eTree tree), (D.lst false (List.map eTx pool)), (D.int many), (D.lst m3 (List.map D.int digits))] [some (eTree tree), some (D.lst false (List.map eTx pool)), some (D.int many), some (D.lst m3 (List.map D.int digits)), some (D.int (v1 % 8)), some (D.int m32), none, some (D.int p25.1), some (D.tup (List.map eTree p25.2))] = some [(eTree tree), (D.lst false (List.map eTx pool)), (D.int many), (D.lst m3 (List.map D.int digits))] := argsOf_P ⟨_, _, rfl, .inl ⟨by first | rfl | exact isF_tree _ | exact isF_e _ _ | simp! only [], rfl, show 0 < 9 from by decide⟩, ⟨_, _, rfl, .inr ⟨rfl, fun z => by first | rfl | (cases z; done) | exact absurd z (by simp! only [])⟩, ⟨_, _, rfl, .inl ⟨by first | rfl | exact isF_tree _ | exact isF_e _ _ | simp! only [], rfl, show 2 < 9 from by decide⟩, ⟨_, _, rfl, .inr ⟨rfl, fun z => by first | rfl | (cases z; done) | exact absurd z (by simp! only [])⟩, rfl⟩⟩⟩⟩
            try simp_arith only [q27] at qa
            unfold b_spoiled
            simp! only [q3, q4, d228, q30, q31, q34, q35, d235, q39, d236, q50, d237, q52, q53, q56, qa, q27]
          · have d237 := decide_eq_false c237
            first | rw [if_neg c237] at h | dsimp! only [d237] at h
            have q57 := ol_eq_i (v1 % 8) 2
            try simp_arith only [q27] at q57
            by_cases c238 : (v1 % 8) = 2
            · have d238 := decide_eq_true c238
              first | rw [if_pos c238] at h | dsimp! only [d238] at h
              have q59 := ol_sl_tup (e := eTree) p25.2 none (some m32)
              try simp_arith only [q27] at q59
              obtain ⟨v60, e61, h⟩ := Option.bind_eq_some_iff.mp h
              have q62 := ol_ix_lst (e := D.int) m3 e61
              try simp_arith only [q27] at q62
              have q63 := ol_modC (i := v60) (j := 6) (by decide)
              try simp_arith only [q27] at q63
              obtain ⟨v64, e65, h⟩ := Option.bind_eq_some_iff.mp h
              have q66 := ol_ix_lst (e := eTx) false e65
              try simp_arith only [q27] at q66
              obtain ⟨c67, e68, h⟩ := Option.bind_eq_some_iff.mp h
              have q69 := ol_add_tup (e := eTree) e68
              try simp_arith only [q27] at q69
              have q70 := ol_sl_tup (e := eTree) p25.2 (some m32) none
              try simp_arith only [q27] at q70
              obtain ⟨c71, e72, h⟩ := Option.bind_eq_some_iff.mp h
              have q73 := ol_add_tup (e := eTree) e72
              try simp_arith only [q27] at q73
              replace h := Option.some.inj h
              subst h
              have qa : argsOf [(eTree tree), (D.lst false (List.map eTx pool)), (D.int many), (D.lst m3 (List.map D.int digits))] [some (eTree tree), some (D.lst false (List.map eTx pool)), some (D.int many), some (D.lst m3 (List.map D.int digits)), some (D.int (v1 % 8)), some (D.int m32), none, some (D.int p25.1), some (D.tup (List.map eTree p25.2))] = some [(eTree tree), (D.lst false (List.map eTx pool)), (D.int many), (D.lst m3 (List.map D.int digits))] := argsOf_P ⟨_, _, rfl, .inl ⟨by first | rfl | exact isF_tree _ | exact isF_e _ _ | simp! only [], rfl, show 0 < 9 from by decide⟩, ⟨_, _, rfl, .inr ⟨rfl, fun z => by first | rfl | (cases z; done) | exact absurd z (by simp! only [])⟩, ⟨_, _, rfl, .inl ⟨by first | rfl | exact isF_tree _ | exact isF_e _ _ | simp! only [], rfl, show 2 < 9 from by decide⟩, ⟨_, _, rfl, .inr ⟨rfl, fun z => by first | rfl | (cases z; done) | exact absurd z (by simp! only [])⟩, rfl⟩⟩⟩⟩
              try simp_arith only [q27] at qa
              unfold b_spoiled
              simp! only [q3, q4, d228, q30, q31, q34, q35, d235, q39, d236, q50, d237, q57, d238, q59, q62, q63, q66, q69, q70, q73, qa, q27]
            · have d238 := decide_eq_false c238
              first | rw [if_neg c238] at h | dsimp! only [d238] at h
              have q74 := ol_eq_i (v1 % 8) 3
              try simp_arith only [q27] at q74
              by_cases c239 : (v1 % 8) = 3
              · have d239 := decide_eq_true c239
                first | rw [if_pos c239] at h | dsimp! only [d239] at h
                have q76 := ol_sl_tup (e := eTree) p25.2 none (some m32)
                try simp_arith only [q27] at q76
                have q77 := ol_sl_tup (e := eTree) p25.2 (some (m32 + 1)) (some (m32 + 2))
                try simp_arith only [q27] at q77
                obtain ⟨c78, e79, h⟩ := Option.bind_eq_some_iff.mp h
                have q80 := ol_add_tup (e := eTree) e79
                try simp_arith only [q27] at q80
                obtain ⟨v81, e82, h⟩ := Option.bind_eq_some_iff.mp h
                have q83 := ol_ix_tup (e := eTree) e82
                try simp_arith only [q27] at q83
                obtain ⟨c84, e85, h⟩ := Option.bind_eq_some_iff.mp h
                have q86 := ol_add_tup (e := eTree) e85
                try simp_arith only [q27] at q86
                have q87 := ol_sl_tup (e := eTree) p25.2 (some (m32 + 2)) none
                try simp_arith only [q27] at q87
                obtain ⟨c88, e89, h⟩ := Option.bind_eq_some_iff.mp h
                have q90 := ol_add_tup (e := eTree) e89
                try simp_arith only [q27] at q90
                replace h := Option.some.inj h
                subst h
                have qa : argsOf [(eTree tree), (D.lst false (List.map eTx pool)), (D.int many), (D.lst m3 (List.map D.int digits))] [some (eTree tree), some (D.lst false (List.map eTx pool)), some (D.int many), some (D.lst m3 (List.map D.int digits)), some (D.int (v1 % 8)), some (D.int m32), none, some (D.int p25.1), some (D.tup (List.map eTree p25.2))] = some [(eTree tree), (D.lst false (List.map eTx pool)), (D.int many), (D.lst m3 (List.map D.int digits))] := argsOf_P ⟨_, _, rfl, .inl ⟨by first | rfl | exact isF_tree _ | exact isF_e _ _ | simp! only [], rfl, show 0 < 9 from by decide⟩, ⟨_, _, rfl, .inr ⟨rfl, fun z => by first | rfl | (cases z; done) | exact absurd z (by simp! only [])⟩, ⟨_, _, rfl, .inl ⟨by first | rfl | exact isF_tree _ | exact isF_e _ _ | simp! only [], rfl, show 2 < 9 from by decide⟩, ⟨_, _, rfl, .inr ⟨rfl, fun z => by first | rfl | (cases z; done) | exact absurd z (by simp! only [])⟩, rfl⟩⟩⟩⟩
                try simp_arith only [q27] at qa
                unfold b_spoiled
                simp! only [q3, q4, d228, q30, q31, q34, q35, d235, q39, d236, q50, d237, q57, d238, q74, d239, q76, q77, q80, q83, q86, q87, q90, qa, q27]
              · have d239 := decide_eq_false c239
                first | rw [if_neg c239] at h | dsimp! only [d239] at h
                have q91 := ol_eq_i (v1 % 8) 4
                try simp_arith only [q27] at q91
                by_cases c240 : (v1 % 8) = 4
                · have d240 := decide_eq_true c240
                  first | rw [if_pos c240] at h | dsimp! only [d240] at h
                  obtain ⟨v93, e94, h⟩ := Option.bind_eq_some_iff.mp h
                  have q95 := ol_ix_lst (e := D.int) m3 e94
                  try simp_arith only [q27] at q95
                  have q96 := ol_modC (i := v93) (j := 6) (by decide)
                  try simp_arith only [q27] at q96
                  obtain ⟨v97, e98, h⟩ := Option.bind_eq_some_iff.mp h
                  have q99 := ol_ix_lst (e := eTx) false e98
                  try simp_arith only [q27] at q99
                  replace h := Option.some.inj h
                  subst h
                  have qa : argsOf [(eTree tree), (D.lst false (List.map eTx pool)), (D.int many), (D.lst m3 (List.map D.int digits))] [some (eTree tree), some (D.lst false (List.map eTx pool)), some (D.int many), some (D.lst m3 (List.map D.int digits)), some (D.int (v1 % 8)), some (D.int m32), none, some (D.int p25.1), some (D.tup (List.map eTree p25.2))] = some [(eTree tree), (D.lst false (List.map eTx pool)), (D.int many), (D.lst m3 (List.map D.int digits))] := argsOf_P ⟨_, _, rfl, .inl ⟨by first | rfl | exact isF_tree _ | exact isF_e _ _ | simp! only [], rfl, show 0 < 9 from by decide⟩, ⟨_, _, rfl, .inr ⟨rfl, fun z => by first | rfl | (cases z; done) | exact absurd z (by simp! only [])⟩, ⟨_, _, rfl, .inl ⟨by first | rfl | exact isF_tree _ | exact isF_e _ _ | simp! only [], rfl, show 2 < 9 from by decide⟩, ⟨_, _, rfl, .inr ⟨rfl, fun z => by first | rfl | (cases z; done) | exact absurd z (by simp! only [])⟩, rfl⟩⟩⟩⟩
                  try simp_arith only [q27] at qa
                  unfold b_spoiled
                  simp! only [q3, q4, d228, q30, q31, q34, q35, d235, q39, d236, q50, d237, q57, d238, q74, d239, q91, d240, q95, q96, q99, qa, q27]
                · have d240 := decide_eq_false c240
                  first | rw [if_neg c240] at h | dsimp! only [d240] at h
                  obtain ⟨v100, e101, h⟩ := Option.bind_eq_some_iff.mp h
                  have q102 := ol_ix_tup (e := eTree) e101
                  try simp_arith only [q27] at q102
                  have q103 := ol_sl_lst (e := D.int) m3 digits (some 2) none
                  try simp_arith only [q27] at q103
                  obtain ⟨c104, e105, h⟩ := Option.bind_eq_some_iff.mp h
                  have q106 := ol_add_lst (e := D.int) true true e105
                  try simp_arith only [q27] at q106
                  obtain ⟨v107, e108, h⟩ := Option.bind_eq_some_iff.mp h
                  have q109 := h_spoiled false true e108
                  try simp_arith only [q27] at q109
                  have q110 := ol_sl_tup (e := eTree) p25.2 none (some m32)
                  try simp_arith only [q27] at q110
                  obtain ⟨c111, e112, h⟩ := Option.bind_eq_some_iff.mp h
                  have q113 := ol_add_tup (e := eTree) e112
                  try simp_arith only [q27] at q113
                  have q114 := ol_sl_tup (e := eTree) p25.2 (some (m32 + 1)) none
                  try simp_arith only [q27] at q114
                  obtain ⟨c115, e116, h⟩ := Option.bind_eq_some_iff.mp h
                  have q117 := ol_add_tup (e := eTree) e116
                  try simp_arith only [q27] at q117
                  replace h := Option.some.inj h
                  subst h
                  have qa : argsOf [(eTree tree), (D.lst false (List.map eTx pool)), (D.int many), (D.lst m3 (List.map D.int digits))] [some (eTree tree), some (D.lst false (List.map eTx pool)), some (D.int many), some (D.lst m3 (List.map D.int digits)), some (D.int (v1 % 8)), some (D.int m32), some (eTree v107), some (D.int p25.1), some (D.tup (List.map eTree p25.2))] = some [(eTree tree), (D.lst false (List.map eTx pool)), (D.int many), (D.lst m3 (List.map D.int digits))] := argsOf_P ⟨_, _, rfl, .inl ⟨by first | rfl | exact isF_tree _ | exact isF_e _ _ | simp! only [], rfl, show 0 < 9 from by decide⟩, ⟨_, _, rfl, .inr ⟨rfl, fun z => by first | rfl | (cases z; done) | exact absurd z (by simp! only [])⟩, ⟨_, _, rfl, .inl ⟨by first | rfl | exact isF_tree _ | exact isF_e _ _ | simp! only [], rfl, show 2 < 9 from by decide⟩, ⟨_, _, rfl, .inr ⟨rfl, fun z => by first | rfl | (cases z; done) | exact absurd z (by simp! only [])⟩, rfl⟩⟩⟩⟩
                  try simp_arith only [q27] at qa
                  unfold b_spoiled
                  simp! only [q3, q4, d228, q30, q31, q34, q35, d235, q39, d236, q50, d237, q57, d238, q74, d239, q91, d240, q102, q103, q106, q109, q110, q113, q114, q117, qa, q27]
  · skip
    obtain ⟨v1, e2, h⟩ := Option.bind_eq_some_iff.mp h
    have q3 := ol_ix_lst (e := D.int) m3 e2
    try simp_arith only [] at q3
    have q4 := ol_modC (i := v1) (j := 8) (by decide)
    try simp_arith only [] at q4
    obtain ⟨way5, e6, h⟩ := Option.bind_eq_some_iff.mp h
    replace e6 := Option.some.inj e6
    subst e6
    by_cases c254 : (Tre.isW tree) = true
    · have d254 := c254
      first | rw [if_pos c254] at h | dsimp! only [d254] at h
      obtain ⟨v8, e9, h⟩ := Option.bind_eq_some_iff.mp h
      have q10 := ol_ix_lst (e := D.int) m3 e9
      try simp_arith only [] at q10
      have q11 := ol_modC (i := v8) (j := 6) (by decide)
      try simp_arith only [] at q11
      obtain ⟨v12, e13, h⟩ := Option.bind_eq_some_iff.mp h
      have q14 := ol_ix_lst (e := eTx) true e13
      try simp_arith only [] at q14
      obtain ⟨m15, e16, h⟩ := Option.bind_eq_some_iff.mp h
      have q17 := ol_mod e16
      try simp_arith only [] at q17
      obtain ⟨m18, e19, h⟩ := Option.bind_eq_some_iff.mp h
      have q20 := ol_mod e19
      try simp_arith only [] at q20
      have q21 := ol_modC (i := (v1 % 8)) (j := 4) (by decide)
      try simp_arith only [] at q21
      obtain ⟨v22, e23, h⟩ := Option.bind_eq_some_iff.mp h
      have q24 := ol_ix_lst (e := eTree) true e23
      try simp_arith only [] at q24
      replace h := Option.some.inj h
      subst h
      have qa : argsOf [(eTree tree), (D.lst true (List.map eTx pool)), (D.int many), (D.lst m3 (List.map D.int digits))] [some (eTree tree), some (D.lst true (List.map eTx pool)), some (D.int many), some (D.lst m3 (List.map D.int digits)), some (D.int (v1 % 8)), none, none, none, none] = some [(eTree tree), (D.lst true (List.map eTx pool)), (D.int many), (D.lst m3 (List.map D.int digits))] := argsOf_P ⟨_, _, rfl, .inl ⟨by first | rfl | exact isF_tree _ | exact isF_e _ _ | simp! only [], rfl, show 0 < 9 from by decide⟩, ⟨_, _, rfl, .inr ⟨rfl, fun z => by first | rfl | (cases z; done) | exact absurd z (by simp! only [])⟩, ⟨_, _, rfl, .inl ⟨by first | rfl | exact isF_tree _ | exact isF_e _ _ | simp! only [], rfl, show 2 < 9 from by decide⟩, ⟨_, _, rfl, .inr ⟨rfl, fun z => by first | rfl | (cases z; done) | exact absurd z (by simp! only [])⟩, rfl⟩⟩⟩⟩
      try simp_arith only [] at qa
      unfold b_spoiled
      simp! only [q3, q4, d254, q10, q11, q14, q17, q20, q21, q24, qa]
    · have d254 := Bool.eq_false_iff.mpr c254
      first | rw [if_neg c254] at h | dsimp! only [d254] at h
      obtain ⟨p25, e26, h⟩ := Option.bind_eq_some_iff.mp h
      have q27 := ol_tree_two e26
      try simp_arith only [q27] at q3
      try simp_arith only [q27] at q4
      obtain ⟨v28, e29, h⟩ := Option.bind_eq_some_iff.mp h
      have q30 := ol_ix_lst (e := D.int) m3 e29
      try simp_arith only [q27] at q30
      have q31 := ol_len_tup (e := eTree) p25.2
      try simp_arith only [q27] at q31
      obtain ⟨m32, e33, h⟩ := Option.bind_eq_some_iff.mp h
      have q34 := ol_mod e33
      try simp_arith only [q27] at q34
      have q35 := ol_eq_i (v1 % 8) 0
      try simp_arith only [q27] at q35
      obtain ⟨v40, z41, h⟩ := Option.bind_eq_some_iff.mp h
      by_cases c261 : (v1 % 8) = 0
      · have d261 := decide_eq_true c261
        first | rw [if_pos c261] at z41 | dsimp! only [d261] at z41
        replace z41 := Option.some.inj z41
        subst z41
        try dsimp! only [] at h
        obtain ⟨v44, e45, h⟩ := Option.bind_eq_some_iff.mp h
        have q46 := ol_ix_lst (e := D.int) m3 e45
        try simp_arith only [q27] at q46
        obtain ⟨m47, e48, h⟩ := Option.bind_eq_some_iff.mp h
        have q49 := ol_mod e48
        try simp_arith only [q27] at q49
        replace h := Option.some.inj h
        subst h
        have qa : argsOf [(eTree tree), (D.lst true (List.map eTx pool)), (D.int many), (D.lst m3 (List.map D.int digits))] [some (eTree tree), some (D.lst true (List.map eTx pool)), some (D.int many), some (D.lst m3 (List.map D.int digits)), some (D.int (v1 % 8)), some (D.int m32), none, some (D.int p25.1), some (D.tup (List.map eTree p25.2))] = some [(eTree tree), (D.lst true (List.map eTx pool)), (D.int many), (D.lst m3 (List.map D.int digits))] := argsOf_P ⟨_, _, rfl, .inl ⟨by first | rfl | exact isF_tree _ | exact isF_e _ _ | simp! only [], rfl, show 0 < 9 from by decide⟩, ⟨_, _, rfl, .inr ⟨rfl, fun z => by first | rfl | (cases z; done) | exact absurd z (by simp! only [])⟩, ⟨_, _, rfl, .inl ⟨by first | rfl | exact isF_tree _ | exact isF_e _ _ | simp! only [], rfl, show 2 < 9 from by decide⟩, ⟨_, _, rfl, .inr ⟨rfl, fun z => by first | rfl | (cases z; done) | exact absurd z (by simp! only [])⟩, rfl⟩⟩⟩⟩
        try simp_arith only [q27] at qa
        unfold b_spoiled
        simp! only [q3, q4, d254, q30, q31, q34, q35, d261, q46, q49, qa, q27]
      · have d261 := decide_eq_false c261
        first | rw [if_neg c261] at z41 | dsimp! only [d261] at z41
        obtain ⟨b37, e38, z41⟩ := Option.bind_eq_some_iff.mp z41
        have q39 := ol_eq_nilPT e38
        try simp_arith only [q27] at q39
        replace z41 := Option.some.inj z41
        subst z41
        by_cases c262 : b37 = true
        · have d262 := c262
          first | rw [if_pos c262] at h | dsimp! only [d262] at h
          obtain ⟨v44, e45, h⟩ := Option.bind_eq_some_iff.mp h
          have q46 := ol_ix_lst (e := D.int) m3 e45
          try simp_arith only [q27] at q46
          obtain ⟨m47, e48, h⟩ := Option.bind_eq_some_iff.mp h
          have q49 := ol_mod e48
          try simp_arith only [q27] at q49
          replace h := Option.some.inj h
          subst h
          have qa : argsOf [(eTree tree), (D.lst true (List.map eTx pool)), (D.int many), (D.lst m3 (List.map D.int digits))] [some (eTree tree), some (D.lst true (List.map eTx pool)), some (D.int many), some (D.lst m3 (List.map D.int digits)), some (D.int (v1 % 8)), some (D.int m32), none, some (D.int p25.1), some (D.tup (List.map eTree p25.2))] = some [(eTree tree), (D.lst true (List.map eTx pool)), (D.int many), (D.lst m3 (List.map D.int digits))] := argsOf_P ⟨_, _, rfl, .inl ⟨by first | rfl | exact isF_tree _ | exact isF_e _ _ | simp! only [], rfl, show 0 < 9 from by decide⟩, ⟨_, _, rfl, .inr ⟨rfl, fun z => by first | rfl | (cases z; done) | exact absurd z (by simp! only [])⟩, ⟨_, _, rfl, .inl ⟨by first | rfl | exact isF_tree _ | exact isF_e _ _ | simp! only [], rfl, show 2 < 9 from by decide⟩, ⟨_, _, rfl, .inr ⟨rfl, fun z => by first | rfl | (cases z; done) | exact absurd z (by simp! only [])⟩, rfl⟩⟩⟩⟩
          try simp_arith only [q27] at qa
          unfold b_spoiled
          simp! only [q3, q4, d254, q30, q31, q34, q35, d261, q39, d262, q46, q49, qa, q27]
        · have d262 := Bool.eq_false_iff.mpr c262
          first | rw [if_neg c262] at h | dsimp! only [d262] at h
          have q50 := ol_eq_i (v1 % 8) 1
          try simp_arith only [q27] at q50
          by_cases c263 : (v1 % 8) = 1
          · have d263 := decide_eq_true c263
            first | rw [if_pos c263] at h | dsimp! only [d263] at h
            have q52 := ol_sl_tup (e := eTree) p25.2 none (some m32)
            try simp_arith only [q27] at q52
            have q53 := ol_sl_tup (e := eTree) p25.2 (some (m32 + 1)) none
            try simp_arith only [q27] at q53
            obtain ⟨c54, e55, h⟩ := Option.bind_eq_some_iff.mp h
            have q56 := ol_add_tup (e := eTree) e55
            try simp_arith only [q27] at q56
            replace h := Option.some.inj h
            subst h
            have qa : argsOf [(eTree tree), (D.lst true (List.map eTx pool)), (D.int many), (D.lst m3 (List.map D.int digits))] [some (eTree tree), some (D.lst true (List.map eTx pool)), some (D.int many), some (D.lst m3 (List.map D.int digits)), some (D.int (v1 % 8)), some (D.int m32), none, some (D.int p25.1), some (D.tup (List.map eTree p25.2))] = some [(eTree tree), (D.lst true (List.map eTx pool)), (D.int many), (D.lst m3 (List.map D.int digits))] := argsOf_P ⟨_, _, rfl, .inl ⟨by first | rfl | exact isF_tree _ | exact isF_e _ _ | simp! only [], rfl, show 0 < 9 from by decide⟩, ⟨_, _, rfl, .inr ⟨rfl, fun z => by first | rfl | (cases z; done) | exact absurd z (by simp! only [])⟩, ⟨_, _, rfl, .inl ⟨by first | rfl | exact isF_tree _ | exact isF_e _ _ | simp! only [], rfl, show 2 < 9 from by decide⟩, ⟨_, _, rfl, .inr ⟨rfl, fun z => by first | rfl | (cases z; done) | exact absurd z (by simp! only [])⟩, rfl⟩⟩⟩⟩
            try simp_arith only [q27] at qa
            unfold b_spoiled
            simp! only [q3, q4, d254, q30, q31, q34, q35, d261, q39, d262, q50, d263, q52, q53, q56, qa, q27]
          · have d263 := decide_eq_false c263
            first | rw [if_neg c263] at h | dsimp! only [d263] at h
            have q57 := ol_eq_i (v1 % 8) 2
            try simp_arith only [q27] at q57
            by_cases c264 : (v1 % 8) = 2
            · have d264 := decide_eq_true c264
              first | rw [if_pos c264] at h | dsimp! only [d264] at h
              have q59 := ol_sl_tup (e := eTree) p25.2 none (some m32)
              try simp_arith only [q27] at q59
              obtain ⟨v60, e61, h⟩ := Option.bind_eq_some_iff.mp h
              have q62 := ol_ix_lst (e := D.int) m3 e61
              try simp_arith only [q27] at q62
              have q63 := ol_modC (i := v60) (j := 6) (by decide)
              try simp_arith only [q27] at q63
              obtain ⟨v64, e65, h⟩ := Option.bind_eq_some_iff.mp h
              have q66 := ol_ix_lst (e := eTx) true e65
              try simp_arith only [q27] at q66
              obtain ⟨c67, e68, h⟩ := Option.bind_eq_some_iff.mp h
              have q69 := ol_add_tup (e := eTree) e68
              try simp_arith only [q27] at q69
              have q70 := ol_sl_tup (e := eTree) p25.2 (some m32) none
              try simp_arith only [q27] at q70
              obtain ⟨c71, e72, h⟩ := Option.bind_eq_some_iff.mp h
              have q73 := ol_add_tup (e := eTree) e72
              try simp_arith only [q27] at q73
              replace h := Option.some.inj h
              subst h
              have qa : argsOf [(eTree tree), (D.lst true (List.map eTx pool)), (D.int many), (D.lst m3 (List.map D.int digits))] [some (eTree tree), some (D.lst true (List.map eTx pool)), some (D.int many), some (D.lst m3 (List.map D.int digits)), some (D.int (v1 % 8)), some (D.int m32), none, some (D.int p25.1), some (D.tup (List.map eTree p25.2))] = some [(eTree tree), (D.lst true (List.map eTx pool)), (D.int many), (D.lst m3 (List.map D.int digits))] := argsOf_P ⟨_, _, rfl, .inl ⟨by first | rfl | exact isF_tree _ | exact isF_e _ _ | simp! only [], rfl, show 0 < 9 from by decide⟩, ⟨_, _, rfl, .inr ⟨rfl, fun z => by first | rfl | (cases z; done) | exact absurd z (by simp! only [])⟩, ⟨_, _, rfl, .inl ⟨by first | rfl | exact isF_tree _ | exact isF_e _ _ | simp! only [], rfl, show 2 < 9 from by decide⟩, ⟨_, _, rfl, .inr ⟨rfl, fun z => by first | rfl | (cases z; done) | exact absurd z (by simp! only [])⟩, rfl⟩⟩⟩⟩
              try simp_arith only [q27] at qa
              unfold b_spoiled
              simp! only [q3, q4, d254, q30, q31, q34, q35, d261, q39, d262, q50, d263, q57, d264, q59, q62, q63, q66, q69, q70, q73, qa, q27]
            · have d264 := decide_eq_false c264
              first | rw [if_neg c264] at h | dsimp! only [d264] at h
              have q74 := ol_eq_i (v1 % 8) 3
              try simp_arith only [q27] at q74
              by_cases c265 : (v1 % 8) = 3
              · have d265 := decide_eq_true c265
                first | rw [if_pos c265] at h | dsimp! only [d265] at h
                have q76 := ol_sl_tup (e := eTree) p25.2 none (some m32)
                try simp_arith only [q27] at q76
                have q77 := ol_sl_tup (e := eTree) p25.2 (some (m32 + 1)) (some (m32 + 2))
                try simp_arith only [q27] at q77
                obtain ⟨c78, e79, h⟩ := Option.bind_eq_some_iff.mp h
                have q80 := ol_add_tup (e := eTree) e79
                try simp_arith only [q27] at q80
                obtain ⟨v81, e82, h⟩ := Option.bind_eq_some_iff.mp h
                have q83 := ol_ix_tup (e := eTree) e82
                try simp_arith only [q27] at q83
                obtain ⟨c84, e85, h⟩ := Option.bind_eq_some_iff.mp h
                have q86 := ol_add_tup (e := eTree) e85
                try simp_arith only [q27] at q86
                have q87 := ol_sl_tup (e := eTree) p25.2 (some (m32 + 2)) none
                try simp_arith only [q27] at q87
                obtain ⟨c88, e89, h⟩ := Option.bind_eq_some_iff.mp h
                have q90 := ol_add_tup (e := eTree) e89
                try simp_arith only [q27] at q90
                replace h := Option.some.inj h
                subst h
                have qa : argsOf [(eTree tree), (D.lst true (List.map eTx pool)), (D.int many), (D.lst m3 (List.map D.int digits))] [some (eTree tree), some (D.lst true (List.map eTx pool)), some (D.int many), some (D.lst m3 (List.map D.int digits)), some (D.int (v1 % 8)), some (D.int m32), none, some (D.int p25.1), some (D.tup (List.map eTree p25.2))] = some [(eTree tree), (D.lst true (List.map eTx pool)), (D.int many), (D.lst m3 (List.map D.int digits))] := argsOf_P ⟨_, _, rfl, .inl ⟨by first | rfl | exact isF_tree _ | exact isF_e _ _ | simp! only [], rfl, show 0 < 9 from by decide⟩, ⟨_, _, rfl, .inr ⟨rfl, fun z => by first | rfl | (cases z; done) | exact absurd z (by simp! only [])⟩, ⟨_, _, rfl, .inl ⟨by first | rfl | exact isF_tree _ | exact isF_e _ _ | simp! only [], rfl, show 2 < 9 from by decide⟩, ⟨_, _, rfl, .inr ⟨rfl, fun z => by first | rfl | (cases z; done) | exact absurd z (by simp! only [])⟩, rfl⟩⟩⟩⟩
                try simp_arith only [q27] at qa
                unfold b_spoiled
                simp! only [q3, q4, d254, q30, q31, q34, q35, d261, q39, d262, q50, d263, q57, d264, q74, d265, q76, q77, q80, q83, q86, q87, q90, qa, q27]
              · have d265 := decide_eq_false c265
                first | rw [if_neg c265] at h | dsimp! only [d265] at h
                have q91 := ol_eq_i (v1 % 8) 4
                try simp_arith only [q27] at q91
                by_cases c266 : (v1 % 8) = 4
                · have d266 := decide_eq_true c266
                  first | rw [if_pos c266] at h | dsimp! only [d266] at h
                  obtain ⟨v93, e94, h⟩ := Option.bind_eq_some_iff.mp h
                  have q95 := ol_ix_lst (e := D.int) m3 e94
                  try simp_arith only [q27] at q95
                  have q96 := ol_modC (i := v93) (j := 6) (by decide)
                  try simp_arith only [q27] at q96
                  obtain ⟨v97, e98, h⟩ := Option.bind_eq_some_iff.mp h
                  have q99 := ol_ix_lst (e := eTx) true e98
                  try simp_arith only [q27] at q99
                  replace h := Option.some.inj h
                  subst h
                  have qa : argsOf [(eTree tree), (D.lst true (List.map eTx pool)), (D.int many), (D.lst m3 (List.map D.int digits))] [some (eTree tree), some (D.lst true (List.map eTx pool)), some (D.int many), some (D.lst m3 (List.map D.int digits)), some (D.int (v1 % 8)), some (D.int m32), none, some (D.int p25.1), some (D.tup (List.map eTree p25.2))] = some [(eTree tree), (D.lst true (List.map eTx pool)), (D.int many), (D.lst m3 (List.map D.int digits))] := argsOf_P ⟨_, _, rfl, .inl ⟨by first | rfl | exact isF_tree _ | exact isF_e _ _ | simp! only [], rfl, show 0 < 9 from by decide⟩, ⟨_, _, rfl, .inr ⟨rfl, fun z => by first | rfl | (cases z; done) | exact absurd z (by simp! only [])⟩, ⟨_, _, rfl, .inl ⟨by first | rfl | exact isF_tree _ | exact isF_e _ _ | simp! only [], rfl, show 2 < 9 from by decide⟩, ⟨_, _, rfl, .inr ⟨rfl, fun z => by first | rfl | (cases z; done) | exact absurd z (by simp! only [])⟩, rfl⟩⟩⟩⟩
                  try simp_arith only [q27] at qa
                  unfold b_spoiled
                  simp! only [q3, q4, d254, q30, q31, q34, q35, d261, q39, d262, q50, d263, q57, d264, q74, d265, q91, d266, q95, q96, q99, qa, q27]
                · have d266 := decide_eq_false c266
                  first | rw [if_neg c266] at h | dsimp! only [d266] at h
                  obtain ⟨v100, e101, h⟩ := Option.bind_eq_some_iff.mp h
                  have q102 := ol_ix_tup (e := eTree) e101
                  try simp_arith only [q27] at q102
                  have q103 := ol_sl_lst (e := D.int) m3 digits (some 2) none
                  try simp_arith only [q27] at q103
                  obtain ⟨c104, e105, h⟩ := Option.bind_eq_some_iff.mp h
                  have q106 := ol_add_lst (e := D.int) true true e105
                  try simp_arith only [q27] at q106
                  obtain ⟨v107, e108, h⟩ := Option.bind_eq_some_iff.mp h
                  have q109 := h_spoiled true true e108
                  try simp_arith only [q27] at q109
                  have q110 := ol_sl_tup (e := eTree) p25.2 none (some m32)
                  try simp_arith only [q27] at q110
                  obtain ⟨c111, e112, h⟩ := Option.bind_eq_some_iff.mp h
                  have q113 := ol_add_tup (e := eTree) e112
                  try simp_arith only [q27] at q113
                  have q114 := ol_sl_tup (e := eTree) p25.2 (some (m32 + 1)) none
                  try simp_arith only [q27] at q114
                  obtain ⟨c115, e116, h⟩ := Option.bind_eq_some_iff.mp h
                  have q117 := ol_add_tup (e := eTree) e116
                  try simp_arith only [q27] at q117
                  replace h := Option.some.inj h
                  subst h
                  have qa : argsOf [(eTree tree), (D.lst true (List.map eTx pool)), (D.int many), (D.lst m3 (List.map D.int digits))] [some (eTree tree), some (D.lst true (List.map eTx pool)), some (D.int many), some (D.lst m3 (List.map D.int digits)), some (D.int (v1 % 8)), some (D.int m32), some (eTree v107), some (D.int p25.1), some (D.tup (List.map eTree p25.2))] = some [(eTree tree), (D.lst true (List.map eTx pool)), (D.int many), (D.lst m3 (List.map D.int digits))] := argsOf_P ⟨_, _, rfl, .inl ⟨by first | rfl | exact isF_tree _ | exact isF_e _ _ | simp! only [], rfl, show 0 < 9 from by decide⟩, ⟨_, _, rfl, .inr ⟨rfl, fun z => by first | rfl | (cases z; done) | exact absurd z (by simp! only [])⟩, ⟨_, _, rfl, .inl ⟨by first | rfl | exact isF_tree _ | exact isF_e _ _ | simp! only [], rfl, show 2 < 9 from by decide⟩, ⟨_, _, rfl, .inr ⟨rfl, fun z => by first | rfl | (cases z; done) | exact absurd z (by simp! only [])⟩, rfl⟩⟩⟩⟩
                  try simp_arith only [q27] at qa
                  unfold b_spoiled
                  simp! only [q3, q4, d254, q30, q31, q34, q35, d261, q39, d262, q50, d263, q57, d264, q74, d265, q91, d266, q102, q103, q106, q109, q110, q113, q114, q117, qa, q27]
theorem p_C1_stands_sim {rec_ : (List (Tx × (List Tx))) → (List Tx) → Tre → Tx → Option Bool} (s : Nat → Fd) (h_stands : Sim_stands rec_ (s 14)) {m0 : Bool} {m1 : Bool} {rules : (List (Tx × (List Tx)))} {names : (List Tx)} {tree : Tre} {w3 : Option D} {w4 : Option D} {parts : (List Tx)} {r : (List Bool)} (h : p_C1_stands rec_ rules names tree parts = some r) :
    C1_stands s [some (D.lst m0 (List.map (eP eTx (eQ eTx)) rules)), some (D.lst m1 (List.map eTx names)), some (eTree tree), w3, w4, some (D.tup (List.map eTx parts)), none, none] = some (Opd.temp (D.lst true (List.map D.bl r)), [some (D.lst m0 (List.map (eP eTx (eQ eTx)) rules)), some (D.lst m1 (List.map eTx names)), some (eTree tree), w3, w4, some (D.tup (List.map eTx parts)), none, none]) := by
  unfold p_C1_stands at h
  cases m0
  · skip
    cases m1
    · skip
      obtain ⟨cs30, e31, h⟩ := Option.bind_eq_some_iff.mp h
      have q32 := ol_tree_1 e31
      try simp_arith only [] at q32
      have key : ∀ x r, (fun (x : (Tre × Tx)) =>
  (Option.bind (rec_ rules names x.1 x.2) fun v33 =>
 some (some v33) : Option (Option Bool))) x = some r → LcS (stTup (stCons (stNm 6) (stCons (stNm 7) (stNil)))) evYes (M0_stands s) [6, 7] [some (D.lst false (List.map (eP eTx (eQ eTx)) rules)), some (D.lst false (List.map eTx names)), some (eTree tree), w3, w4, some (D.tup (List.map eTx parts)), none, none] ((eP eTree eTx) x) D.bl r := by
        intro x r hx
        dsimp only at hx
        obtain ⟨v33, e34, hx⟩ := Option.bind_eq_some_iff.mp hx
        have q35 := h_stands false false e34
        try simp_arith only [] at q35
        replace hx := Option.some.inj hx
        subst hx
        exact ⟨[some (D.lst false (List.map (eP eTx (eQ eTx)) rules)), some (D.lst false (List.map eTx names)), some (eTree tree), w3, w4, some (D.tup (List.map eTx parts)), some (eTree x.1), some (eTx x.2)], [some (D.lst false (List.map (eP eTx (eQ eTx)) rules)), some (D.lst false (List.map eTx names)), some (eTree tree), w3, w4, some (D.tup (List.map eTx parts)), some (eTree x.1), some (eTx x.2)], Opd.temp (D.bl v33), [some (D.lst false (List.map (eP eTx (eQ eTx)) rules)), some (D.lst false (List.map eTx names)), some (eTree tree), w3, w4, some (D.tup (List.map eTx parts)), some (eTree x.1), some (eTx x.2)], [some (D.lst false (List.map (eP eTx (eQ eTx)) rules)), some (D.lst false (List.map eTx names)), some (eTree tree), w3, w4, some (D.tup (List.map eTx parts)), some (eTree x.1), some (eTx x.2)], rfl, rfl, by unfold M0_stands; simp! only [q32, q35], by simp! only [q32, q35], by simp! only [q32, q35]⟩
      have hl := lcIt_lc key (acc := []) h
      try simp_arith only [] at hl
      unfold C1_stands
      simp! only [q32, hl]
    · skip
      obtain ⟨cs30, e31, h⟩ := Option.bind_eq_some_iff.mp h
      have q32 := ol_tree_1 e31
      try simp_arith only [] at q32
      have key : ∀ x r, (fun (x : (Tre × Tx)) =>
  (Option.bind (rec_ rules names x.1 x.2) fun v33 =>
 some (some v33) : Option (Option Bool))) x = some r → LcS (stTup (stCons (stNm 6) (stCons (stNm 7) (stNil)))) evYes (M0_stands s) [6, 7] [some (D.lst false (List.map (eP eTx (eQ eTx)) rules)), some (D.lst true (List.map eTx names)), some (eTree tree), w3, w4, some (D.tup (List.map eTx parts)), none, none] ((eP eTree eTx) x) D.bl r := by
        intro x r hx
        dsimp only at hx
        obtain ⟨v33, e34, hx⟩ := Option.bind_eq_some_iff.mp hx
        have q35 := h_stands false true e34
        try simp_arith only [] at q35
        replace hx := Option.some.inj hx
        subst hx
        exact ⟨[some (D.lst false (List.map (eP eTx (eQ eTx)) rules)), some (D.lst true (List.map eTx names)), some (eTree tree), w3, w4, some (D.tup (List.map eTx parts)), some (eTree x.1), some (eTx x.2)], [some (D.lst false (List.map (eP eTx (eQ eTx)) rules)), some (D.lst true (List.map eTx names)), some (eTree tree), w3, w4, some (D.tup (List.map eTx parts)), some (eTree x.1), some (eTx x.2)], Opd.temp (D.bl v33), [some (D.lst false (List.map (eP eTx (eQ eTx)) rules)), some (D.lst true (List.map eTx names)), some (eTree tree), w3, w4, some (D.tup (List.map eTx parts)), some (eTree x.1), some (eTx x.2)], [some (D.lst false (List.map (eP eTx (eQ eTx)) rules)), some (D.lst true (List.map eTx names)), some (eTree tree), w3, w4, some (D.tup (List.map eTx parts)), some (eTree x.1), some (eTx x.2)], rfl, rfl, by unfold M0_stands; simp! only [q32, q35], by simp! only [q32, q35], by simp! only [q32, q35]⟩
      have hl := lcIt_lc key (acc := []) h
      try simp_arith only [] at hl
      unfold C1_stands
      simp! only [q32, hl]
  · skip
    cases m1
    · skip
      obtain ⟨cs30, e31, h⟩ := Option.bind_eq_some_iff.mp h
      have q32 := ol_tree_1 e31
      try simp_arith only [] at q32
      have key : ∀ x r, (fun (x : (Tre × Tx)) =>
  (Option.bind (rec_ rules names x.1 x.2) fun v33 =>
 some (some v33) : Option (Option Bool))) x = some r → LcS (stTup (stCons (stNm 6) (stCons (stNm 7) (stNil)))) evYes (M0_stands s) [6, 7] [some (D.lst true (List.map (eP eTx (eQ eTx)) rules)), some (D.lst false (List.map eTx names)), some (eTree tree), w3, w4, some (D.tup (List.map eTx parts)), none, none] ((eP eTree eTx) x) D.bl r := by
        intro x r hx
        dsimp only at hx
        obtain ⟨v33, e34, hx⟩ := Option.bind_eq_some_iff.mp hx
        have q35 := h_stands true false e34
        try simp_arith only [] at q35
        replace hx := Option.some.inj hx
        subst hx
        exact ⟨[some (D.lst true (List.map (eP eTx (eQ eTx)) rules)), some (D.lst false (List.map eTx names)), some (eTree tree), w3, w4, some (D.tup (List.map eTx parts)), some (eTree x.1), some (eTx x.2)], [some (D.lst true (List.map (eP eTx (eQ eTx)) rules)), some (D.lst false (List.map eTx names)), some (eTree tree), w3, w4, some (D.tup (List.map eTx parts)), some (eTree x.1), some (eTx x.2)], Opd.temp (D.bl v33), [some (D.lst true (List.map (eP eTx (eQ eTx)) rules)), some (D.lst false (List.map eTx names)), some (eTree tree), w3, w4, some (D.tup (List.map eTx parts)), some (eTree x.1), some (eTx x.2)], [some (D.lst true (List.map (eP eTx (eQ eTx)) rules)), some (D.lst false (List.map eTx names)), some (eTree tree), w3, w4, some (D.tup (List.map eTx parts)), some (eTree x.1), some (eTx x.2)], rfl, rfl, by unfold M0_stands; simp! only [q32, q35], by simp! only [q32, q35], by simp! only [q32, q35]⟩
      have hl := lcIt_lc key (acc := []) h
      try simp_arith only [] at hl
      unfold C1_stands
      simp! only [q32, hl]
    · skip
      obtain ⟨cs30, e31, h⟩ := Option.bind_eq_some_iff.mp h
      have q32 := ol_tree_1 e31
      try simp_arith only [] at q32
      have key : ∀ x r, (fun (x : (Tre × Tx)) =>
  (Option.bind (rec_ rules names x.1 x.2) fun v33 =>
 some (some v33) : Option (Option Bool))) x = some r → LcS (stTup (stCons (stNm 6) (stCons (stNm 7) (stNil)))) evYes (M0_stands s) [6, 7] [some (D.lst true (List.map (eP eTx (eQ eTx)) rules)), some (D.lst true (List.map eTx names)), some (eTree tree), w3, w4, some (D.tup (List.map eTx parts)), none, none] ((eP eTree eTx) x) D.bl r := by
        intro x r hx
        dsimp only at hx
        obtain ⟨v33, e34, hx⟩ := Option.bind_eq_some_iff.mp hx
        have q35 := h_stands true true e34
        try simp_arith only [] at q35
        replace hx := Option.some.inj hx
        subst hx
        exact ⟨[some (D.lst true (List.map (eP eTx (eQ eTx)) rules)), some (D.lst true (List.map eTx names)), some (eTree tree), w3, w4, some (D.tup (List.map eTx parts)), some (eTree x.1), some (eTx x.2)], [some (D.lst true (List.map (eP eTx (eQ eTx)) rules)), some (D.lst true (List.map eTx names)), some (eTree tree), w3, w4, some (D.tup (List.map eTx parts)), some (eTree x.1), some (eTx x.2)], Opd.temp (D.bl v33), [some (D.lst true (List.map (eP eTx (eQ eTx)) rules)), some (D.lst true (List.map eTx names)), some (eTree tree), w3, w4, some (D.tup (List.map eTx parts)), some (eTree x.1), some (eTx x.2)], [some (D.lst true (List.map (eP eTx (eQ eTx)) rules)), some (D.lst true (List.map eTx names)), some (eTree tree), w3, w4, some (D.tup (List.map eTx parts)), some (eTree x.1), some (eTx x.2)], rfl, rfl, by unfold M0_stands; simp! only [q32, q35], by simp! only [q32, q35], by simp! only [q32, q35]⟩
      have hl := lcIt_lc key (acc := []) h
      try simp_arith only [] at hl
      unfold C1_stands
      simp! only [q32, hl]
theorem sim_stands {rec_ : (List (Tx × (List Tx))) → (List Tx) → Tre → Tx → Option Bool} (s : Nat → Fd) (h_stands : Sim_stands rec_ (s 14)) : Sim_stands (p_stands_b rec_) (fnD 4 8 [4, 5] (b_stands s)) := by
  intro m0 m1 rules names tree part r h
  unfold p_stands_b at h
  have q1 := ol_nin_txL m1 part names
  try simp_arith only [] at q1
  by_cases c59 : part ∈ names
  · have d59 := decide_eq_true c59
    first | rw [if_pos c59] at h | dsimp! only [d59] at h
    obtain ⟨v9, z10, h⟩ := Option.bind_eq_some_iff.mp h
    by_cases c66 : (Tre.isW tree) = true
    · have d66 := c66
      first | rw [if_pos c66] at z10 | dsimp! only [d66] at z10
      replace z10 := Option.some.inj z10
      subst z10
      try dsimp! only [] at h
      replace h := Option.some.inj h
      subst h
      have qa : argsOf [(D.lst m0 (List.map (eP eTx (eQ eTx)) rules)), (D.lst m1 (List.map eTx names)), (eTree tree), (eTx part)] [some (D.lst m0 (List.map (eP eTx (eQ eTx)) rules)), some (D.lst m1 (List.map eTx names)), some (eTree tree), some (eTx part), none, none, none, none] = some [(D.lst m0 (List.map (eP eTx (eQ eTx)) rules)), (D.lst m1 (List.map eTx names)), (eTree tree), (eTx part)] := argsOf_P ⟨_, _, rfl, .inr ⟨rfl, fun z => by first | rfl | (cases z; done) | exact absurd z (by simp! only [])⟩, ⟨_, _, rfl, .inr ⟨rfl, fun z => by first | rfl | (cases z; done) | exact absurd z (by simp! only [])⟩, ⟨_, _, rfl, .inl ⟨by first | rfl | exact isF_tree _ | exact isF_e _ _ | simp! only [], rfl, show 2 < 8 from by decide⟩, ⟨_, _, rfl, .inl ⟨by first | rfl | exact isF_tree _ | exact isF_e _ _ | simp! only [], rfl, show 3 < 8 from by decide⟩, rfl⟩⟩⟩⟩
      try simp_arith only [] at qa
      unfold b_stands
      simp! only [q1, d59, d66, qa]
    · have d66 := Bool.eq_false_iff.mpr c66
      first | rw [if_neg c66] at z10 | dsimp! only [d66] at z10
      obtain ⟨n3, e4, z10⟩ := Option.bind_eq_some_iff.mp z10
      have q5 := ol_tree_0 e4
      try simp_arith only [] at q5
      have q6 := ol_len_lst (e := (eP eTx (eQ eTx))) m0 rules
      try simp_arith only [] at q6
      replace z10 := Option.some.inj z10
      subst z10
      by_cases c67 : 0 ≤ n3
      · have d67 := decide_eq_true c67
        by_cases c68 : n3 < (List.length rules : Int)
        · have d68 := decide_eq_true c68
          dsimp! only [d59, d66, d67, d68] at h
          obtain ⟨n13, e14, h⟩ := Option.bind_eq_some_iff.mp h
          cases Option.some.inj (e4.symm.trans e14)
          obtain ⟨v16, e17, h⟩ := Option.bind_eq_some_iff.mp h
          have q18 := ol_ix_lst (e := (eP eTx (eQ eTx))) m0 e17
          try simp_arith only [] at q18
          have q19 := ol_ne_tx v16.1 part
          try simp_arith only [] at q19
          obtain ⟨v26, z27, h⟩ := Option.bind_eq_some_iff.mp h
          by_cases c71 : v16.1 = part
          · have d71 := decide_eq_true c71
            first | rw [if_pos c71] at z27 | dsimp! only [d71] at z27
            have q20 := ol_len_tup (e := eTx) v16.2
            try simp_arith only [] at q20
            obtain ⟨cs21, e22, z27⟩ := Option.bind_eq_some_iff.mp z27
            have q23 := ol_tree_1 e22
            try simp_arith only [] at q23
            have q24 := ol_len_tup (e := eTree) cs21
            try simp_arith only [] at q24
            have q25 := ol_ne_i (List.length v16.2 : Int) (List.length cs21 : Int)
            try simp_arith only [] at q25
            replace z27 := Option.some.inj z27
            subst z27
            by_cases c72 : (List.length v16.2 : Int) = (List.length cs21 : Int)
            · have d72 := decide_eq_true c72
              first | rw [if_pos c72] at h | dsimp! only [d72] at h
              obtain ⟨l36, e37, h⟩ := Option.bind_eq_some_iff.mp h
              have q38 := p_C1_stands_sim s h_stands (m0 := m0) (m1 := m1) (rules := rules) (names := names) (tree := tree) (w3 := (some (eTx part))) (w4 := (some (eTx v16.1))) (parts := v16.2) e37
              try simp_arith only [] at q38
              have q39 := ol_all true l36
              try simp_arith only [] at q39
              replace h := Option.some.inj h
              subst h
              have qa : argsOf [(D.lst m0 (List.map (eP eTx (eQ eTx)) rules)), (D.lst m1 (List.map eTx names)), (eTree tree), (eTx part)] [some (D.lst m0 (List.map (eP eTx (eQ eTx)) rules)), some (D.lst m1 (List.map eTx names)), some (eTree tree), some (eTx part), some (eTx v16.1), some (D.tup (List.map eTx v16.2)), none, none] = some [(D.lst m0 (List.map (eP eTx (eQ eTx)) rules)), (D.lst m1 (List.map eTx names)), (eTree tree), (eTx part)] := argsOf_P ⟨_, _, rfl, .inr ⟨rfl, fun z => by first | rfl | (cases z; done) | exact absurd z (by simp! only [])⟩, ⟨_, _, rfl, .inr ⟨rfl, fun z => by first | rfl | (cases z; done) | exact absurd z (by simp! only [])⟩, ⟨_, _, rfl, .inl ⟨by first | rfl | exact isF_tree _ | exact isF_e _ _ | simp! only [], rfl, show 2 < 8 from by decide⟩, ⟨_, _, rfl, .inl ⟨by first | rfl | exact isF_tree _ | exact isF_e _ _ | simp! only [], rfl, show 3 < 8 from by decide⟩, rfl⟩⟩⟩⟩
              try simp_arith only [] at qa
              unfold b_stands
              simp! only [q1, d59, d66, q5, q6, d67, d68, q18, q19, d71, q20, q23, q24, q25, d72, q38, q39, qa]
            · have d72 := decide_eq_false c72
              first | rw [if_neg c72] at h | dsimp! only [d72] at h
              replace h := Option.some.inj h
              subst h
              have qa : argsOf [(D.lst m0 (List.map (eP eTx (eQ eTx)) rules)), (D.lst m1 (List.map eTx names)), (eTree tree), (eTx part)] [some (D.lst m0 (List.map (eP eTx (eQ eTx)) rules)), some (D.lst m1 (List.map eTx names)), some (eTree tree), some (eTx part), some (eTx v16.1), some (D.tup (List.map eTx v16.2)), none, none] = some [(D.lst m0 (List.map (eP eTx (eQ eTx)) rules)), (D.lst m1 (List.map eTx names)), (eTree tree), (eTx part)] := argsOf_P ⟨_, _, rfl, .inr ⟨rfl, fun z => by first | rfl | (cases z; done) | exact absurd z (by simp! only [])⟩, ⟨_, _, rfl, .inr ⟨rfl, fun z => by first | rfl | (cases z; done) | exact absurd z (by simp! only [])⟩, ⟨_, _, rfl, .inl ⟨by first | rfl | exact isF_tree _ | exact isF_e _ _ | simp! only [], rfl, show 2 < 8 from by decide⟩, ⟨_, _, rfl, .inl ⟨by first | rfl | exact isF_tree _ | exact isF_e _ _ | simp! only [], rfl, show 3 < 8 from by decide⟩, rfl⟩⟩⟩⟩
              try simp_arith only [] at qa
              unfold b_stands
              simp! only [q1, d59, d66, q5, q6, d67, d68, q18, q19, d71, q20, q23, q24, q25, d72, qa]
          · have d71 := decide_eq_false c71
            first | rw [if_neg c71] at z27 | dsimp! only [d71] at z27
            replace z27 := Option.some.inj z27
            subst z27
            try dsimp! only [] at h
            replace h := Option.some.inj h
            subst h
            have qa : argsOf [(D.lst m0 (List.map (eP eTx (eQ eTx)) rules)), (D.lst m1 (List.map eTx names)), (eTree tree), (eTx part)] [some (D.lst m0 (List.map (eP eTx (eQ eTx)) rules)), some (D.lst m1 (List.map eTx names)), some (eTree tree), some (eTx part), some (eTx v16.1), some (D.tup (List.map eTx v16.2)), none, none] = some [(D.lst m0 (List.map (eP eTx (eQ eTx)) rules)), (D.lst m1 (List.map eTx names)), (eTree tree), (eTx part)] := argsOf_P ⟨_, _, rfl, .inr ⟨rfl, fun z => by first | rfl | (cases z; done) | exact absurd z (by simp! only [])⟩, ⟨_, _, rfl, .inr ⟨rfl, fun z => by first | rfl | (cases z; done) | exact absurd z (by simp! only [])⟩, ⟨_, _, rfl, .inl ⟨by first | rfl | exact isF_tree _ | exact isF_e _ _ | simp! only [], rfl, show 2 < 8 from by decide⟩, ⟨_, _, rfl, .inl ⟨by first | rfl | exact isF_tree _ | exact isF_e _ _ | simp! only [], rfl, show 3 < 8 from by decide⟩, rfl⟩⟩⟩⟩
            try simp_arith only [] at qa
            unfold b_stands
            simp! only [q1, d59, d66, q5, q6, d67, d68, q18, q19, d71, qa]
        · have d68 := decide_eq_false c68
          dsimp! only [d59, d66, d67, d68] at h
          replace h := Option.some.inj h
          subst h
          have qa : argsOf [(D.lst m0 (List.map (eP eTx (eQ eTx)) rules)), (D.lst m1 (List.map eTx names)), (eTree tree), (eTx part)] [some (D.lst m0 (List.map (eP eTx (eQ eTx)) rules)), some (D.lst m1 (List.map eTx names)), some (eTree tree), some (eTx part), none, none, none, none] = some [(D.lst m0 (List.map (eP eTx (eQ eTx)) rules)), (D.lst m1 (List.map eTx names)), (eTree tree), (eTx part)] := argsOf_P ⟨_, _, rfl, .inr ⟨rfl, fun z => by first | rfl | (cases z; done) | exact absurd z (by simp! only [])⟩, ⟨_, _, rfl, .inr ⟨rfl, fun z => by first | rfl | (cases z; done) | exact absurd z (by simp! only [])⟩, ⟨_, _, rfl, .inl ⟨by first | rfl | exact isF_tree _ | exact isF_e _ _ | simp! only [], rfl, show 2 < 8 from by decide⟩, ⟨_, _, rfl, .inl ⟨by first | rfl | exact isF_tree _ | exact isF_e _ _ | simp! only [], rfl, show 3 < 8 from by decide⟩, rfl⟩⟩⟩⟩
          try simp_arith only [] at qa
          unfold b_stands
          simp! only [q1, d59, d66, q5, q6, d67, d68, qa]
      · have d67 := decide_eq_false c67
        dsimp! only [d59, d66, d67] at h
        replace h := Option.some.inj h
        subst h
        have qa : argsOf [(D.lst m0 (List.map (eP eTx (eQ eTx)) rules)), (D.lst m1 (List.map eTx names)), (eTree tree), (eTx part)] [some (D.lst m0 (List.map (eP eTx (eQ eTx)) rules)), some (D.lst m1 (List.map eTx names)), some (eTree tree), some (eTx part), none, none, none, none] = some [(D.lst m0 (List.map (eP eTx (eQ eTx)) rules)), (D.lst m1 (List.map eTx names)), (eTree tree), (eTx part)] := argsOf_P ⟨_, _, rfl, .inr ⟨rfl, fun z => by first | rfl | (cases z; done) | exact absurd z (by simp! only [])⟩, ⟨_, _, rfl, .inr ⟨rfl, fun z => by first | rfl | (cases z; done) | exact absurd z (by simp! only [])⟩, ⟨_, _, rfl, .inl ⟨by first | rfl | exact isF_tree _ | exact isF_e _ _ | simp! only [], rfl, show 2 < 8 from by decide⟩, ⟨_, _, rfl, .inl ⟨by first | rfl | exact isF_tree _ | exact isF_e _ _ | simp! only [], rfl, show 3 < 8 from by decide⟩, rfl⟩⟩⟩⟩
        try simp_arith only [] at qa
        unfold b_stands
        simp! only [q1, d59, d66, q5, q6, d67, qa]
  · have d59 := decide_eq_false c59
    first | rw [if_neg c59] at h | dsimp! only [d59] at h
    obtain ⟨v53, z54, h⟩ := Option.bind_eq_some_iff.mp h
    by_cases c75 : (Tre.isW tree) = true
    · have d75 := c75
      first | rw [if_pos c75] at z54 | dsimp! only [d75] at z54
      obtain ⟨b50, e51, z54⟩ := Option.bind_eq_some_iff.mp z54
      have q52 := ol_eq_tree_tx e51
      try simp_arith only [] at q52
      replace z54 := Option.some.inj z54
      subst z54
      by_cases c76 : b50 = true
      · have d76 := c76
        replace h := Option.some.inj h
        subst h
        have qa : argsOf [(D.lst m0 (List.map (eP eTx (eQ eTx)) rules)), (D.lst m1 (List.map eTx names)), (eTree tree), (eTx part)] [some (D.lst m0 (List.map (eP eTx (eQ eTx)) rules)), some (D.lst m1 (List.map eTx names)), some (eTree tree), some (eTx part), none, none, none, none] = some [(D.lst m0 (List.map (eP eTx (eQ eTx)) rules)), (D.lst m1 (List.map eTx names)), (eTree tree), (eTx part)] := argsOf_P ⟨_, _, rfl, .inr ⟨rfl, fun z => by first | rfl | (cases z; done) | exact absurd z (by simp! only [])⟩, ⟨_, _, rfl, .inr ⟨rfl, fun z => by first | rfl | (cases z; done) | exact absurd z (by simp! only [])⟩, ⟨_, _, rfl, .inl ⟨by first | rfl | exact isF_tree _ | exact isF_e _ _ | simp! only [], rfl, show 2 < 8 from by decide⟩, ⟨_, _, rfl, .inl ⟨by first | rfl | exact isF_tree _ | exact isF_e _ _ | simp! only [], rfl, show 3 < 8 from by decide⟩, rfl⟩⟩⟩⟩
        try simp_arith only [] at qa
        unfold b_stands
        simp! only [q1, d59, d75, q52, d76, qa]
      · have d76 := Bool.eq_false_iff.mpr c76
        replace h := Option.some.inj h
        subst h
        have qa : argsOf [(D.lst m0 (List.map (eP eTx (eQ eTx)) rules)), (D.lst m1 (List.map eTx names)), (eTree tree), (eTx part)] [some (D.lst m0 (List.map (eP eTx (eQ eTx)) rules)), some (D.lst m1 (List.map eTx names)), some (eTree tree), some (eTx part), none, none, none, none] = some [(D.lst m0 (List.map (eP eTx (eQ eTx)) rules)), (D.lst m1 (List.map eTx names)), (eTree tree), (eTx part)] := argsOf_P ⟨_, _, rfl, .inr ⟨rfl, fun z => by first | rfl | (cases z; done) | exact absurd z (by simp! only [])⟩, ⟨_, _, rfl, .inr ⟨rfl, fun z => by first | rfl | (cases z; done) | exact absurd z (by simp! only [])⟩, ⟨_, _, rfl, .inl ⟨by first | rfl | exact isF_tree _ | exact isF_e _ _ | simp! only [], rfl, show 2 < 8 from by decide⟩, ⟨_, _, rfl, .inl ⟨by first | rfl | exact isF_tree _ | exact isF_e _ _ | simp! only [], rfl, show 3 < 8 from by decide⟩, rfl⟩⟩⟩⟩
        try simp_arith only [] at qa
        unfold b_stands
        simp! only [q1, d59, d75, q52, d76, qa]
    · have d75 := Bool.eq_false_iff.mpr c75
      first | rw [if_neg c75] at z54 | dsimp! only [d75] at z54
      replace z54 := Option.some.inj z54
      subst z54
      replace h := Option.some.inj h
      subst h
      have qa : argsOf [(D.lst m0 (List.map (eP eTx (eQ eTx)) rules)), (D.lst m1 (List.map eTx names)), (eTree tree), (eTx part)] [some (D.lst m0 (List.map (eP eTx (eQ eTx)) rules)), some (D.lst m1 (List.map eTx names)), some (eTree tree), some (eTx part), none, none, none, none] = some [(D.lst m0 (List.map (eP eTx (eQ eTx)) rules)), (D.lst m1 (List.map eTx names)), (eTree tree), (eTx part)] := argsOf_P ⟨_, _, rfl, .inr ⟨rfl, fun z => by first | rfl | (cases z; done) | exact absurd z (by simp! only [])⟩, ⟨_, _, rfl, .inr ⟨rfl, fun z => by first | rfl | (cases z; done) | exact absurd z (by simp! only [])⟩, ⟨_, _, rfl, .inl ⟨by first | rfl | exact isF_tree _ | exact isF_e _ _ | simp! only [], rfl, show 2 < 8 from by decide⟩, ⟨_, _, rfl, .inl ⟨by first | rfl | exact isF_tree _ | exact isF_e _ _ | simp! only [], rfl, show 3 < 8 from by decide⟩, rfl⟩⟩⟩⟩
      try simp_arith only [] at qa
      unfold b_stands
      simp! only [q1, d59, d75, qa]
theorem p_C2_tree_sim {rec_ : (List (Tx × (List Tx))) → (List Tx) → Tx → (List Int) → Option (Tre × (List Int))} (s : Nat → Fd) (h_tree : Sim_tree rec_ (s 7)) {m0 : Bool} {rules : (List (Tx × (List Tx)))} {w1 : Option D} {name : Tx} {w3 : Option D} {r : (List Int)} (h : p_C2_tree rec_ rules name = some r) :
    C2_tree s [some (D.lst m0 (List.map (eP eTx (eQ eTx)) rules)), w1, some (eTx name), w3, none, none, none, none] = some (Opd.temp (D.lst true (List.map D.int r)), [some (D.lst m0 (List.map (eP eTx (eQ eTx)) rules)), w1, some (eTx name), w3, none, none, none, none]) := by
  unfold p_C2_tree at h
  have q1 := ol_len_lst (e := (eP eTx (eQ eTx))) m0 rules
  try simp_arith only [] at q1
  obtain ⟨xs2, e3, h⟩ := Option.bind_eq_some_iff.mp h
  obtain ⟨q4, q5⟩ := ol_rng e3
  try simp_arith only [] at q4
  try simp_arith only [] at q5
  have key : ∀ x r, (fun (x : Int) =>
  (Option.bind (atI rules x) fun v6 =>
 if v6.1 = name then
  some (some x)
 else
  some none : Option (Option Int))) x = some r → LcS (stNm 5) (T0_tree s) (M1_tree s) [5] [some (D.lst m0 (List.map (eP eTx (eQ eTx)) rules)), w1, some (eTx name), w3, none, none, none, none] (D.int x) D.int r := by
    intro x r hx
    dsimp only at hx
    obtain ⟨v6, e7, hx⟩ := Option.bind_eq_some_iff.mp hx
    have q8 := ol_ix_lst (e := (eP eTx (eQ eTx))) m0 e7
    try simp_arith only [] at q8
    have q9 := ol_ix_P0 (e := eTx) (f := (eQ eTx)) v6
    try simp_arith only [] at q9
    have q10 := ol_eq_tx v6.1 name
    try simp_arith only [] at q10
    by_cases c59 : v6.1 = name
    · have d59 := decide_eq_true c59
      first | rw [if_pos c59] at hx | dsimp! only [d59] at hx
      replace hx := Option.some.inj hx
      subst hx
      exact ⟨[some (D.lst m0 (List.map (eP eTx (eQ eTx)) rules)), w1, some (eTx name), w3, none, some (D.int x), none, none], [some (D.lst m0 (List.map (eP eTx (eQ eTx)) rules)), w1, some (eTx name), w3, none, some (D.int x), none, none], Opd.slot 5, [some (D.lst m0 (List.map (eP eTx (eQ eTx)) rules)), w1, some (eTx name), w3, none, some (D.int x), none, none], [some (D.lst m0 (List.map (eP eTx (eQ eTx)) rules)), w1, some (eTx name), w3, none, some (D.int x), none, none], rfl, by unfold T0_tree; simp! only [q1, q4, q5, q8, q9, q10, d59], by unfold M1_tree; simp! only [q1, q4, q5, q8, q9, q10, d59], by simp! only [q1, q4, q5, q8, q9, q10, d59], by simp! only [q1, q4, q5, q8, q9, q10, d59]⟩
    · have d59 := decide_eq_false c59
      first | rw [if_neg c59] at hx | dsimp! only [d59] at hx
      replace hx := Option.some.inj hx
      subst hx
      exact ⟨[some (D.lst m0 (List.map (eP eTx (eQ eTx)) rules)), w1, some (eTx name), w3, none, some (D.int x), none, none], [some (D.lst m0 (List.map (eP eTx (eQ eTx)) rules)), w1, some (eTx name), w3, none, some (D.int x), none, none], rfl, by unfold T0_tree; simp! only [q1, q4, q5, q8, q9, q10, d59], by simp! only [q1, q4, q5, q8, q9, q10, d59]⟩
  have hl := lcIt_lc key (acc := []) h
  try simp_arith only [] at hl
  unfold C2_tree
  simp! only [q1, q4, q5, hl]
theorem p_I3_tree_sim {rec_ : (List (Tx × (List Tx))) → (List Tx) → Tx → (List Int) → Option (Tre × (List Int))} (s : Nat → Fd) (h_tree : Sim_tree rec_ (s 7)) {m4 : Bool} {w0 : Option D} {w1 : Option D} {w2 : Option D} {digits : (List Int)} {numbers : (List Int)} {number : Int} {r : ((List Int) × Int)} (h : p_I3_tree rec_ digits numbers number = some r) :
    ∃ j : Unit, I3_tree s [w0, w1, w2, some (D.lst true (List.map D.int digits)), some (D.lst m4 (List.map D.int numbers)), some (D.int number), none, none] = some (.nx [w0, w1, w2, some (D.lst true (List.map D.int r.1)), some (D.lst m4 (List.map D.int numbers)), some (D.int r.2), none, none]) := by
  unfold p_I3_tree at h
  have q18 := ol_ne_nil (e := D.int) (by decide) true true digits
  try simp_arith only [] at q18
  by_cases c61 : digits.length = 0
  · have d61 := decide_eq_true c61
    first | rw [if_pos c61] at h | dsimp! only [d61] at h
    replace h := Option.some.inj h
    subst h
    refine ⟨(), ?_⟩
    unfold I3_tree
    simp! only [q18, d61]
  · have d61 := decide_eq_false c61
    first | rw [if_neg c61] at h | dsimp! only [d61] at h
    obtain ⟨p20, e21, h⟩ := Option.bind_eq_some_iff.mp h
    have q22 := ol_pop (e := D.int) e21
    try simp_arith only [] at q22
    have q23 := ol_len_lst (e := D.int) m4 numbers
    try simp_arith only [] at q23
    obtain ⟨m24, e25, h⟩ := Option.bind_eq_some_iff.mp h
    have q26 := ol_mod e25
    try simp_arith only [] at q26
    obtain ⟨v27, e28, h⟩ := Option.bind_eq_some_iff.mp h
    have q29 := ol_ix_lst (e := D.int) m4 e28
    try simp_arith only [] at q29
    replace h := Option.some.inj h
    subst h
    refine ⟨(), ?_⟩
    unfold I3_tree
    simp! only [q18, d61, q22, q23, q26, q29]
theorem p_L4_tree_sim {rec_ : (List (Tx × (List Tx))) → (List Tx) → Tx → (List Int) → Option (Tre × (List Int))} (s : Nat → Fd) (h_tree : Sim_tree rec_ (s 7)) {m0 : Bool} {m1 : Bool} {rules : (List (Tx × (List Tx)))} {names : (List Tx)} {w2 : Option D} {digits : (List Int)} {w4 : Option D} {w5 : Jk} {children : (List Tre)} {part : Tx} {r : ((List Int) × (List Tre))} (h : p_L4_tree rec_ rules names digits children part = some r) :
    ∃ j : Option D, Nx (L4_tree s [some (D.lst m0 (List.map (eP eTx (eQ eTx)) rules)), some (D.lst m1 (List.map eTx names)), w2, some (D.lst true (List.map D.int digits)), w4, w5.1, some (D.lst true (List.map eTree children)), some (eTx part)]) [some (D.lst m0 (List.map (eP eTx (eQ eTx)) rules)), some (D.lst m1 (List.map eTx names)), w2, some (D.lst true (List.map D.int r.1)), w4, w5.1, some (D.lst true (List.map eTree r.2)), j] := by
  unfold p_L4_tree at h
  cases m0
  · skip
    cases m1
    · skip
      have q39 := ol_in_txL false part names
      try simp_arith only [] at q39
      by_cases c63 : part ∈ names
      · have d63 := decide_eq_true c63
        first | rw [if_pos c63] at h | dsimp! only [d63] at h
        obtain ⟨v41, e42, h⟩ := Option.bind_eq_some_iff.mp h
        have q43 := h_tree false false e42
        try simp_arith only [] at q43
        obtain ⟨children44, e45, h⟩ := Option.bind_eq_some_iff.mp h
        have q46 := ol_app (e := eTree) e45
        try simp_arith only [] at q46
        replace h := Option.some.inj h
        subst h
        refine ⟨(some (eTx part)), .inl ?_⟩
        unfold L4_tree
        simp! only [q39, d63, q43, q46]
      · have d63 := decide_eq_false c63
        first | rw [if_neg c63] at h | dsimp! only [d63] at h
        obtain ⟨children47, e48, h⟩ := Option.bind_eq_some_iff.mp h
        have q49 := ol_app (e := eTree) e48
        try simp_arith only [] at q49
        replace h := Option.some.inj h
        subst h
        refine ⟨(some (eTx part)), .inl ?_⟩
        unfold L4_tree
        simp! only [q39, d63, q49]
    · skip
      have q39 := ol_in_txL true part names
      try simp_arith only [] at q39
      by_cases c64 : part ∈ names
      · have d64 := decide_eq_true c64
        first | rw [if_pos c64] at h | dsimp! only [d64] at h
        obtain ⟨v41, e42, h⟩ := Option.bind_eq_some_iff.mp h
        have q43 := h_tree false true e42
        try simp_arith only [] at q43
        obtain ⟨children44, e45, h⟩ := Option.bind_eq_some_iff.mp h
        have q46 := ol_app (e := eTree) e45
        try simp_arith only [] at q46
        replace h := Option.some.inj h
        subst h
        refine ⟨(some (eTx part)), .inl ?_⟩
        unfold L4_tree
        simp! only [q39, d64, q43, q46]
      · have d64 := decide_eq_false c64
        first | rw [if_neg c64] at h | dsimp! only [d64] at h
        obtain ⟨children47, e48, h⟩ := Option.bind_eq_some_iff.mp h
        have q49 := ol_app (e := eTree) e48
        try simp_arith only [] at q49
        replace h := Option.some.inj h
        subst h
        refine ⟨(some (eTx part)), .inl ?_⟩
        unfold L4_tree
        simp! only [q39, d64, q49]
  · skip
    cases m1
    · skip
      have q39 := ol_in_txL false part names
      try simp_arith only [] at q39
      by_cases c65 : part ∈ names
      · have d65 := decide_eq_true c65
        first | rw [if_pos c65] at h | dsimp! only [d65] at h
        obtain ⟨v41, e42, h⟩ := Option.bind_eq_some_iff.mp h
        have q43 := h_tree true false e42
        try simp_arith only [] at q43
        obtain ⟨children44, e45, h⟩ := Option.bind_eq_some_iff.mp h
        have q46 := ol_app (e := eTree) e45
        try simp_arith only [] at q46
        replace h := Option.some.inj h
        subst h
        refine ⟨(some (eTx part)), .inl ?_⟩
        unfold L4_tree
        simp! only [q39, d65, q43, q46]
      · have d65 := decide_eq_false c65
        first | rw [if_neg c65] at h | dsimp! only [d65] at h
        obtain ⟨children47, e48, h⟩ := Option.bind_eq_some_iff.mp h
        have q49 := ol_app (e := eTree) e48
        try simp_arith only [] at q49
        replace h := Option.some.inj h
        subst h
        refine ⟨(some (eTx part)), .inl ?_⟩
        unfold L4_tree
        simp! only [q39, d65, q49]
    · skip
      have q39 := ol_in_txL true part names
      try simp_arith only [] at q39
      by_cases c66 : part ∈ names
      · have d66 := decide_eq_true c66
        first | rw [if_pos c66] at h | dsimp! only [d66] at h
        obtain ⟨v41, e42, h⟩ := Option.bind_eq_some_iff.mp h
        have q43 := h_tree true true e42
        try simp_arith only [] at q43
        obtain ⟨children44, e45, h⟩ := Option.bind_eq_some_iff.mp h
        have q46 := ol_app (e := eTree) e45
        try simp_arith only [] at q46
        replace h := Option.some.inj h
        subst h
        refine ⟨(some (eTx part)), .inl ?_⟩
        unfold L4_tree
        simp! only [q39, d66, q43, q46]
      · have d66 := decide_eq_false c66
        first | rw [if_neg c66] at h | dsimp! only [d66] at h
        obtain ⟨children47, e48, h⟩ := Option.bind_eq_some_iff.mp h
        have q49 := ol_app (e := eTree) e48
        try simp_arith only [] at q49
        replace h := Option.some.inj h
        subst h
        refine ⟨(some (eTx part)), .inl ?_⟩
        unfold L4_tree
        simp! only [q39, d66, q49]
theorem p_F5_tree_sim {rec_ : (List (Tx × (List Tx))) → (List Tx) → Tx → (List Int) → Option (Tre × (List Int))} (s : Nat → Fd) (h_tree : Sim_tree rec_ (s 7)) {m0 : Bool} {m1 : Bool} {rules : (List (Tx × (List Tx)))} {names : (List Tx)} {w2 : Option D} {digits : (List Int)} {w4 : Option D} {number : Int} {children : (List Tre)} {r : ((List Int) × (List Tre))} (h : p_F5_tree rec_ rules names digits number children = some r) :
    ∃ j : Option D, F5_tree s [some (D.lst m0 (List.map (eP eTx (eQ eTx)) rules)), some (D.lst m1 (List.map eTx names)), w2, some (D.lst true (List.map D.int digits)), w4, some (D.int number), some (D.lst true (List.map eTree children)), none] = some (.nx [some (D.lst m0 (List.map (eP eTx (eQ eTx)) rules)), some (D.lst m1 (List.map eTx names)), w2, some (D.lst true (List.map D.int r.1)), w4, some (D.int number), some (D.lst true (List.map eTree r.2)), j]) := by
  unfold p_F5_tree at h
  obtain ⟨v35, e36, h⟩ := Option.bind_eq_some_iff.mp h
  have q37 := ol_ix_lst (e := (eP eTx (eQ eTx))) m0 e36
  try simp_arith only [] at q37
  have q38 := ol_ix_P1 (e := eTx) (f := (eQ eTx)) v35
  try simp_arith only [] at q38
  have key : ∀ s1 (j : Option D) x s', (fun (s1 : (List Int) × (List Tre)) (x : Tx) => p_L4_tree rec_ rules names s1.1 s1.2 x) s1 x = some s' → ∃ E1 j', (stNm 7) (eTx x) ((fun (s1 : (List Int) × (List Tre)) (j : Option D) => [some (D.lst m0 (List.map (eP eTx (eQ eTx)) rules)), some (D.lst m1 (List.map eTx names)), w2, some (D.lst true (List.map D.int s1.1)), w4, some (D.int number), some (D.lst true (List.map eTree s1.2)), j]) s1 j) = some E1 ∧ Nx (L4_tree s E1) ((fun (s1 : (List Int) × (List Tre)) (j : Option D) => [some (D.lst m0 (List.map (eP eTx (eQ eTx)) rules)), some (D.lst m1 (List.map eTx names)), w2, some (D.lst true (List.map D.int s1.1)), w4, some (D.int number), some (D.lst true (List.map eTree s1.2)), j]) s' j') :=
    fun s1 j x s' hx => let ⟨j', hj⟩ := p_L4_tree_sim s h_tree (m0 := m0) (m1 := m1) (rules := rules) (names := names) (w2 := (w2)) (digits := s1.1) (w4 := (w4)) (w5 := ⟨some (D.int number), by first | rfl | simp! only []⟩) (children := s1.2) (part := x) hx; ⟨_, j', rfl, hj⟩
  obtain ⟨jr, hj⟩ := forIt_fold key (none) h
  try simp_arith only [] at hj
  exact ⟨jr, by unfold F5_tree; simp! only [q37, q38, hj]⟩
theorem sim_tree {rec_ : (List (Tx × (List Tx))) → (List Tx) → Tx → (List Int) → Option (Tre × (List Int))} (s : Nat → Fd) (h_tree : Sim_tree rec_ (s 7)) : Sim_tree (p_tree_b rec_) (fnD 4 8 [4, 5, 5, 6, 7] (b_tree s)) := by
  intro m0 m1 rules names name digits r h
  unfold p_tree_b at h
  obtain ⟨l12, e13, h⟩ := Option.bind_eq_some_iff.mp h
  have q14 := p_C2_tree_sim s h_tree (m0 := m0) (rules := rules) (w1 := (some (D.lst m1 (List.map eTx names)))) (name := name) (w3 := (some (D.lst true (List.map D.int digits)))) e13
  try simp_arith only [] at q14
  obtain ⟨v15, e16, h⟩ := Option.bind_eq_some_iff.mp h
  have q17 := ol_ix_lst (e := D.int) true e16
  try simp_arith only [] at q17
  obtain ⟨v31, e32, h⟩ := Option.bind_eq_some_iff.mp h
  obtain ⟨j34, q33⟩ := p_I3_tree_sim s h_tree (m4 := true) (w0 := (some (D.lst m0 (List.map (eP eTx (eQ eTx)) rules)))) (w1 := (some (D.lst m1 (List.map eTx names)))) (w2 := (some (eTx name))) (digits := digits) (numbers := l12) (number := v15) e32
  try simp_arith only [] at q33
  obtain ⟨v54, e55, h⟩ := Option.bind_eq_some_iff.mp h
  obtain ⟨j57, q56⟩ := p_F5_tree_sim s h_tree (m0 := m0) (m1 := m1) (rules := rules) (names := names) (w2 := (some (eTx name))) (digits := v31.1) (w4 := (some (D.lst true (List.map D.int l12)))) (number := v31.2) (children := []) e55
  try simp_arith only [] at q56
  have q58 := ol_tup_lst true (List.map eTree v54.2)
  try simp_arith only [] at q58
  replace h := Option.some.inj h
  subst h
  have qa : argsOf [(D.lst m0 (List.map (eP eTx (eQ eTx)) rules)), (D.lst m1 (List.map eTx names)), (eTx name), (D.lst true (List.map D.int digits))] [some (D.lst m0 (List.map (eP eTx (eQ eTx)) rules)), some (D.lst m1 (List.map eTx names)), some (eTx name), some (D.lst true (List.map D.int v54.1)), some (D.lst true (List.map D.int l12)), some (D.int v31.2), some (D.lst true (List.map eTree v54.2)), j57] = some [(D.lst m0 (List.map (eP eTx (eQ eTx)) rules)), (D.lst m1 (List.map eTx names)), (eTx name), (D.lst true (List.map D.int v54.1))] := argsOf_P ⟨_, _, rfl, .inr ⟨rfl, fun z => by first | rfl | (cases z; done) | exact absurd z (by simp! only [])⟩, ⟨_, _, rfl, .inr ⟨rfl, fun z => by first | rfl | (cases z; done) | exact absurd z (by simp! only [])⟩, ⟨_, _, rfl, .inl ⟨by first | rfl | exact isF_tree _ | exact isF_e _ _ | simp! only [], rfl, show 2 < 8 from by decide⟩, ⟨_, _, rfl, .inr ⟨rfl, fun z => by first | rfl | (cases z; done) | exact absurd z (by simp! only [])⟩, rfl⟩⟩⟩⟩
  try simp_arith only [] at qa
  unfold b_tree
  simp! only [q14, q17, q33, q56, q58, qa]
theorem sim_has_rule (s : Nat → Fd) : Sim_has_rule (fnD 3 5 [3, 4] (b_has_rule s)) := by
  intro m0 rules tree name r h
  unfold p_has_rule at h
  obtain ⟨n1, e2, h⟩ := Option.bind_eq_some_iff.mp h
  have q3 := ol_tree_0 e2
  try simp_arith only [] at q3
  have q4 := ol_len_lst (e := (eP eTx (eQ eTx))) m0 rules
  try simp_arith only [] at q4
  by_cases c25 : 0 ≤ n1
  · have d25 := decide_eq_true c25
    by_cases c26 : n1 < (List.length rules : Int)
    · have d26 := decide_eq_true c26
      dsimp! only [d25, d26] at h
      obtain ⟨v9, e10, h⟩ := Option.bind_eq_some_iff.mp h
      have q11 := ol_ix_lst (e := (eP eTx (eQ eTx))) m0 e10
      try simp_arith only [] at q11
      have q12 := ol_eq_tx v9.1 name
      try simp_arith only [] at q12
      obtain ⟨v19, z20, h⟩ := Option.bind_eq_some_iff.mp h
      by_cases c29 : v9.1 = name
      · have d29 := decide_eq_true c29
        first | rw [if_pos c29] at z20 | dsimp! only [d29] at z20
        have q13 := ol_len_tup (e := eTx) v9.2
        try simp_arith only [] at q13
        obtain ⟨cs14, e15, z20⟩ := Option.bind_eq_some_iff.mp z20
        have q16 := ol_tree_1 e15
        try simp_arith only [] at q16
        have q17 := ol_len_tup (e := eTree) cs14
        try simp_arith only [] at q17
        have q18 := ol_eq_i (List.length v9.2 : Int) (List.length cs14 : Int)
        try simp_arith only [] at q18
        replace z20 := Option.some.inj z20
        subst z20
        by_cases c30 : (List.length v9.2 : Int) = (List.length cs14 : Int)
        · have d30 := decide_eq_true c30
          replace h := Option.some.inj h
          subst h
          have qa : argsOf [(D.lst m0 (List.map (eP eTx (eQ eTx)) rules)), (eTree tree), (eTx name)] [some (D.lst m0 (List.map (eP eTx (eQ eTx)) rules)), some (eTree tree), some (eTx name), some (eTx v9.1), some (D.tup (List.map eTx v9.2))] = some [(D.lst m0 (List.map (eP eTx (eQ eTx)) rules)), (eTree tree), (eTx name)] := argsOf_P ⟨_, _, rfl, .inr ⟨rfl, fun z => by first | rfl | (cases z; done) | exact absurd z (by simp! only [])⟩, ⟨_, _, rfl, .inl ⟨by first | rfl | exact isF_tree _ | exact isF_e _ _ | simp! only [], rfl, show 1 < 5 from by decide⟩, ⟨_, _, rfl, .inl ⟨by first | rfl | exact isF_tree _ | exact isF_e _ _ | simp! only [], rfl, show 2 < 5 from by decide⟩, rfl⟩⟩⟩
          try simp_arith only [] at qa
          unfold b_has_rule
          simp! only [q3, q4, d25, d26, q11, q12, d29, q13, q16, q17, q18, d30, qa]
        · have d30 := decide_eq_false c30
          replace h := Option.some.inj h
          subst h
          have qa : argsOf [(D.lst m0 (List.map (eP eTx (eQ eTx)) rules)), (eTree tree), (eTx name)] [some (D.lst m0 (List.map (eP eTx (eQ eTx)) rules)), some (eTree tree), some (eTx name), some (eTx v9.1), some (D.tup (List.map eTx v9.2))] = some [(D.lst m0 (List.map (eP eTx (eQ eTx)) rules)), (eTree tree), (eTx name)] := argsOf_P ⟨_, _, rfl, .inr ⟨rfl, fun z => by first | rfl | (cases z; done) | exact absurd z (by simp! only [])⟩, ⟨_, _, rfl, .inl ⟨by first | rfl | exact isF_tree _ | exact isF_e _ _ | simp! only [], rfl, show 1 < 5 from by decide⟩, ⟨_, _, rfl, .inl ⟨by first | rfl | exact isF_tree _ | exact isF_e _ _ | simp! only [], rfl, show 2 < 5 from by decide⟩, rfl⟩⟩⟩
          try simp_arith only [] at qa
          unfold b_has_rule
          simp! only [q3, q4, d25, d26, q11, q12, d29, q13, q16, q17, q18, d30, qa]
      · have d29 := decide_eq_false c29
        first | rw [if_neg c29] at z20 | dsimp! only [d29] at z20
        replace z20 := Option.some.inj z20
        subst z20
        replace h := Option.some.inj h
        subst h
        have qa : argsOf [(D.lst m0 (List.map (eP eTx (eQ eTx)) rules)), (eTree tree), (eTx name)] [some (D.lst m0 (List.map (eP eTx (eQ eTx)) rules)), some (eTree tree), some (eTx name), some (eTx v9.1), some (D.tup (List.map eTx v9.2))] = some [(D.lst m0 (List.map (eP eTx (eQ eTx)) rules)), (eTree tree), (eTx name)] := argsOf_P ⟨_, _, rfl, .inr ⟨rfl, fun z => by first | rfl | (cases z; done) | exact absurd z (by simp! only [])⟩, ⟨_, _, rfl, .inl ⟨by first | rfl | exact isF_tree _ | exact isF_e _ _ | simp! only [], rfl, show 1 < 5 from by decide⟩, ⟨_, _, rfl, .inl ⟨by first | rfl | exact isF_tree _ | exact isF_e _ _ | simp! only [], rfl, show 2 < 5 from by decide⟩, rfl⟩⟩⟩
        try simp_arith only [] at qa
        unfold b_has_rule
        simp! only [q3, q4, d25, d26, q11, q12, d29, qa]
    · have d26 := decide_eq_false c26
      dsimp! only [d25, d26] at h
      replace h := Option.some.inj h
      subst h
      have qa : argsOf [(D.lst m0 (List.map (eP eTx (eQ eTx)) rules)), (eTree tree), (eTx name)] [some (D.lst m0 (List.map (eP eTx (eQ eTx)) rules)), some (eTree tree), some (eTx name), none, none] = some [(D.lst m0 (List.map (eP eTx (eQ eTx)) rules)), (eTree tree), (eTx name)] := argsOf_P ⟨_, _, rfl, .inr ⟨rfl, fun z => by first | rfl | (cases z; done) | exact absurd z (by simp! only [])⟩, ⟨_, _, rfl, .inl ⟨by first | rfl | exact isF_tree _ | exact isF_e _ _ | simp! only [], rfl, show 1 < 5 from by decide⟩, ⟨_, _, rfl, .inl ⟨by first | rfl | exact isF_tree _ | exact isF_e _ _ | simp! only [], rfl, show 2 < 5 from by decide⟩, rfl⟩⟩⟩
      try simp_arith only [] at qa
      unfold b_has_rule
      simp! only [q3, q4, d25, d26, qa]
  · have d25 := decide_eq_false c25
    dsimp! only [d25] at h
    replace h := Option.some.inj h
    subst h
    have qa : argsOf [(D.lst m0 (List.map (eP eTx (eQ eTx)) rules)), (eTree tree), (eTx name)] [some (D.lst m0 (List.map (eP eTx (eQ eTx)) rules)), some (eTree tree), some (eTx name), none, none] = some [(D.lst m0 (List.map (eP eTx (eQ eTx)) rules)), (eTree tree), (eTx name)] := argsOf_P ⟨_, _, rfl, .inr ⟨rfl, fun z => by first | rfl | (cases z; done) | exact absurd z (by simp! only [])⟩, ⟨_, _, rfl, .inl ⟨by first | rfl | exact isF_tree _ | exact isF_e _ _ | simp! only [], rfl, show 1 < 5 from by decide⟩, ⟨_, _, rfl, .inl ⟨by first | rfl | exact isF_tree _ | exact isF_e _ _ | simp! only [], rfl, show 2 < 5 from by decide⟩, rfl⟩⟩⟩
    try simp_arith only [] at qa
    unfold b_has_rule
    simp! only [q3, q4, d25, qa]
theorem p_L0_heads_of_sim (s : Nat → Fd) {w0 : Option D} {heads : (List Tx)} {head : Tx} {parts : (List Tx)} {r : ((List Tx))} (h : p_L0_heads_of heads head parts = some r) :
    ∃ j : Option D × Option D, Nx (L0_heads_of s [w0, some (D.lst true (List.map eTx heads)), some (eTx head), some (D.tup (List.map eTx parts))]) [w0, some (D.lst true (List.map eTx r)), j.1, j.2] := by
  unfold p_L0_heads_of at h
  have q1 := ol_nin_txL true head heads
  try simp_arith only [] at q1
  by_cases c10 : head ∈ heads
  · have d10 := decide_eq_true c10
    first | rw [if_pos c10] at h | dsimp! only [d10] at h
    replace h := Option.some.inj h
    subst h
    refine ⟨((some (eTx head)), (some (D.tup (List.map eTx parts)))), .inl ?_⟩
    unfold L0_heads_of
    simp! only [q1, d10]
  · have d10 := decide_eq_false c10
    first | rw [if_neg c10] at h | dsimp! only [d10] at h
    obtain ⟨heads3, e4, h⟩ := Option.bind_eq_some_iff.mp h
    have q5 := ol_app (e := eTx) e4
    try simp_arith only [] at q5
    replace h := Option.some.inj h
    subst h
    refine ⟨((some (eTx head)), (some (D.tup (List.map eTx parts)))), .inl ?_⟩
    unfold L0_heads_of
    simp! only [q1, d10, q5]
theorem p_F1_heads_of_sim (s : Nat → Fd) {m0 : Bool} {rules : (List (Tx × (List Tx)))} {heads : (List Tx)} {r : ((List Tx))} (h : p_F1_heads_of rules heads = some r) :
    ∃ j : Option D × Option D, F1_heads_of s [some (D.lst m0 (List.map (eP eTx (eQ eTx)) rules)), some (D.lst true (List.map eTx heads)), none, none] = some (.nx [some (D.lst m0 (List.map (eP eTx (eQ eTx)) rules)), some (D.lst true (List.map eTx r)), j.1, j.2]) := by
  unfold p_F1_heads_of at h
  cases m0
  · skip
    obtain ⟨_, hlen, h⟩ := Option.bind_eq_some_iff.mp h
    have key : ∀ s1 (j : Option D × Option D) x s', (fun (s1 : (List Tx)) (x : (Tx × (List Tx))) => p_L0_heads_of s1 x.1 x.2) s1 x = some s' → ∃ E1 j', (stTup (stCons (stNm 2) (stCons (stNm 3) (stNil)))) ((eP eTx (eQ eTx)) x) ((fun (s1 : (List Tx)) (j : Option D × Option D) => [some (D.lst false (List.map (eP eTx (eQ eTx)) rules)), some (D.lst true (List.map eTx s1)), j.1, j.2]) s1 j) = some E1 ∧ Nx (L0_heads_of s E1) ((fun (s1 : (List Tx)) (j : Option D × Option D) => [some (D.lst false (List.map (eP eTx (eQ eTx)) rules)), some (D.lst true (List.map eTx s1)), j.1, j.2]) s' j') :=
      fun s1 j x s' hx => let ⟨j', hj⟩ := p_L0_heads_of_sim s (w0 := (some (D.lst false (List.map (eP eTx (eQ eTx)) rules)))) (heads := s1) (head := x.1) (parts := x.2) hx; ⟨_, j', rfl, hj⟩
    obtain ⟨jr, hj⟩ := forIt_fold key ((none), (none)) h
    try simp_arith only [] at hj
    exact ⟨jr, by unfold F1_heads_of; simp! only [hj]⟩
  · skip
    obtain ⟨_, hlen, h⟩ := Option.bind_eq_some_iff.mp h
    have key : ∀ s1 (j : Option D × Option D) x s', (fun (s1 : (List Tx)) (x : (Tx × (List Tx))) => p_L0_heads_of s1 x.1 x.2) s1 x = some s' → ∃ E1 j', (stTup (stCons (stNm 2) (stCons (stNm 3) (stNil)))) ((eP eTx (eQ eTx)) x) ((fun (s1 : (List Tx)) (j : Option D × Option D) => [some (D.lst true (List.map (eP eTx (eQ eTx)) rules)), some (D.lst true (List.map eTx s1)), j.1, j.2]) s1 j) = some E1 ∧ Nx (L0_heads_of s E1) ((fun (s1 : (List Tx)) (j : Option D × Option D) => [some (D.lst true (List.map (eP eTx (eQ eTx)) rules)), some (D.lst true (List.map eTx s1)), j.1, j.2]) s' j') :=
      fun s1 j x s' hx => let ⟨j', hj⟩ := p_L0_heads_of_sim s (w0 := (some (D.lst true (List.map (eP eTx (eQ eTx)) rules)))) (heads := s1) (head := x.1) (parts := x.2) hx; ⟨_, j', rfl, hj⟩
    obtain ⟨jr, hj⟩ := forOwn_fold (i := 0) (m := true) (all := rules) (pre := []) (N := 100000) (fun _ _ => rfl) key ((none), (none)) rfl (okP_lt hlen) h
    try simp_arith only [] at hj
    exact ⟨jr, by unfold F1_heads_of; simp! only [hj]⟩
theorem sim_heads_of (s : Nat → Fd) : Sim_heads_of (fnD 1 4 [1, 2, 3] (b_heads_of s)) := by
  intro m0 rules r h
  unfold p_heads_of at h
  obtain ⟨v6, e7, h⟩ := Option.bind_eq_some_iff.mp h
  obtain ⟨j9, q8⟩ := p_F1_heads_of_sim s (m0 := m0) (rules := rules) (heads := []) e7
  try simp_arith only [] at q8
  replace h := Option.some.inj h
  subst h
  have qa : argsOf [(D.lst m0 (List.map (eP eTx (eQ eTx)) rules))] [some (D.lst m0 (List.map (eP eTx (eQ eTx)) rules)), none, j9.1, j9.2] = some [(D.lst m0 (List.map (eP eTx (eQ eTx)) rules))] := argsOf_P ⟨_, _, rfl, .inr ⟨rfl, fun z => by first | rfl | (cases z; done) | exact absurd z (by simp! only [])⟩, rfl⟩
  try simp_arith only [] at qa
  unfold b_heads_of
  simp! only [q8, qa]
theorem p_L1_tree_stands_sim (s : Nat → Fd) (h_heads_of : Sim_heads_of (s 10)) (h_has_rule : Sim_has_rule (s 9)) {m0 : Bool} {m3 : Bool} {rules : (List (Tx × (List Tx)))} {w1 : Option D} {w2 : Option D} {heads : (List Tx)} {todo : (List (Tre × Tx))} {w5 : Option D} {w6 : Option D} {r : (Fl ((List (Tre × Tx))) Bool)} (h : p_L1_tree_stands rules heads todo = some r) :
    FlS (fun (r : (List (Tre × Tx))) (j : Option D × Option D) => [some (D.lst m0 (List.map (eP eTx (eQ eTx)) rules)), w1, w2, some (D.lst m3 (List.map eTx heads)), some (D.lst true (List.map (eP eTree eTx) r)), j.1, j.2]) (fun (r : Bool) (o : Option Out) => ∃ E', o = some (.rt (D.bl r) E') ∧ E'.length = 7 ∧ E'[0]? = some (some (D.lst m0 (List.map (eP eTx (eQ eTx)) rules)))) r (L1_tree_stands s [some (D.lst m0 (List.map (eP eTx (eQ eTx)) rules)), w1, w2, some (D.lst m3 (List.map eTx heads)), some (D.lst true (List.map (eP eTree eTx) todo)), w5, w6]) := by
  unfold p_L1_tree_stands at h
  cases m0
  · skip
    obtain ⟨p12, e13, h⟩ := Option.bind_eq_some_iff.mp h
    have q14 := ol_pop (e := (eP eTree eTx)) e13
    try simp_arith only [] at q14
    have q15 := ol_nin_txL m3 p12.1.2 heads
    try simp_arith only [] at q15
    by_cases c82 : p12.1.2 ∈ heads
    · have d82 := decide_eq_true c82
      by_cases c83 : (Tre.isW p12.1.1) = true
      · have d83 := c83
        dsimp! only [d82, d83] at h
        have q18 := ol_in_txL m3 p12.1.2 heads
        try simp_arith only [] at q18
        obtain ⟨v23, z24, h⟩ := Option.bind_eq_some_iff.mp h
        first | rw [if_pos c82] at z24 | dsimp! only [d82] at z24
        replace z24 := Option.some.inj z24
        subst z24
        try dsimp! only [] at h
        replace h := Option.some.inj h
        subst h
        refine ⟨[some (D.lst false (List.map (eP eTx (eQ eTx)) rules)), w1, w2, some (D.lst m3 (List.map eTx heads)), some (D.lst true (List.map (eP eTree eTx) p12.2)), some (eTree p12.1.1), some (eTx p12.1.2)], ?_, rfl, rfl⟩
        unfold L1_tree_stands
        simp! only [q14, q15, d82, d83, q18]
      · have d83 := Bool.eq_false_iff.mpr c83
        dsimp! only [d82, d83] at h
        obtain ⟨v27, e28, h⟩ := Option.bind_eq_some_iff.mp h
        have q29 := h_has_rule false e28
        try simp_arith only [] at q29
        by_cases c86 : v27 = true
        · have d86 := c86
          first | rw [if_pos c86] at h | dsimp! only [d86] at h
          obtain ⟨cs31, e32, h⟩ := Option.bind_eq_some_iff.mp h
          have q33 := ol_tree_1 e32
          try simp_arith only [] at q33
          obtain ⟨n34, e35, h⟩ := Option.bind_eq_some_iff.mp h
          have q36 := ol_tree_0 e35
          try simp_arith only [] at q36
          obtain ⟨v37, e38, h⟩ := Option.bind_eq_some_iff.mp h
          have q39 := ol_ix_lst (e := (eP eTx (eQ eTx))) false e38
          try simp_arith only [] at q39
          have q40 := ol_ix_P1 (e := eTx) (f := (eQ eTx)) v37
          try simp_arith only [] at q40
          obtain ⟨z41, e42, h⟩ := Option.bind_eq_some_iff.mp h
          have q43 := ol_zipT (e := eTree) (f := eTx) e42
          try simp_arith only [] at q43
          obtain ⟨todo44, e45, h⟩ := Option.bind_eq_some_iff.mp h
          have q46 := ol_ext (e := (eP eTree eTx)) true e45
          try simp_arith only [] at q46
          replace h := Option.some.inj h
          subst h
          refine ⟨((some (eTree p12.1.1)), (some (eTx p12.1.2))), .inl ?_⟩
          unfold L1_tree_stands
          simp! only [q14, q15, d82, d83, q29, d86, q33, q36, q39, q40, q43, q46]
        · have d86 := Bool.eq_false_iff.mpr c86
          first | rw [if_neg c86] at h | dsimp! only [d86] at h
          replace h := Option.some.inj h
          subst h
          refine ⟨[some (D.lst false (List.map (eP eTx (eQ eTx)) rules)), w1, w2, some (D.lst m3 (List.map eTx heads)), some (D.lst true (List.map (eP eTree eTx) p12.2)), some (eTree p12.1.1), some (eTx p12.1.2)], ?_, rfl, rfl⟩
          unfold L1_tree_stands
          simp! only [q14, q15, d82, d83, q29, d86]
    · have d82 := decide_eq_false c82
      dsimp! only [d82] at h
      have q18 := ol_in_txL m3 p12.1.2 heads
      try simp_arith only [] at q18
      obtain ⟨v23, z24, h⟩ := Option.bind_eq_some_iff.mp h
      first | rw [if_neg c82] at z24 | dsimp! only [d82] at z24
      obtain ⟨b20, e21, z24⟩ := Option.bind_eq_some_iff.mp z24
      have q22 := ol_ne_tree_tx e21
      try simp_arith only [] at q22
      replace z24 := Option.some.inj z24
      subst z24
      by_cases c88 : b20 = true
      · have d88 := c88
        first | rw [if_pos c88] at h | dsimp! only [d88] at h
        replace h := Option.some.inj h
        subst h
        refine ⟨((some (eTree p12.1.1)), (some (eTx p12.1.2))), .inl ?_⟩
        unfold L1_tree_stands
        simp! only [q14, q15, d82, q18, q22, d88]
      · have d88 := Bool.eq_false_iff.mpr c88
        first | rw [if_neg c88] at h | dsimp! only [d88] at h
        replace h := Option.some.inj h
        subst h
        refine ⟨[some (D.lst false (List.map (eP eTx (eQ eTx)) rules)), w1, w2, some (D.lst m3 (List.map eTx heads)), some (D.lst true (List.map (eP eTree eTx) p12.2)), some (eTree p12.1.1), some (eTx p12.1.2)], ?_, rfl, rfl⟩
        unfold L1_tree_stands
        simp! only [q14, q15, d82, q18, q22, d88]
  · skip
    obtain ⟨p12, e13, h⟩ := Option.bind_eq_some_iff.mp h
    have q14 := ol_pop (e := (eP eTree eTx)) e13
    try simp_arith only [] at q14
    have q15 := ol_nin_txL m3 p12.1.2 heads
    try simp_arith only [] at q15
    by_cases c89 : p12.1.2 ∈ heads
    · have d89 := decide_eq_true c89
      by_cases c90 : (Tre.isW p12.1.1) = true
      · have d90 := c90
        dsimp! only [d89, d90] at h
        have q18 := ol_in_txL m3 p12.1.2 heads
        try simp_arith only [] at q18
        obtain ⟨v23, z24, h⟩ := Option.bind_eq_some_iff.mp h
        first | rw [if_pos c89] at z24 | dsimp! only [d89] at z24
        replace z24 := Option.some.inj z24
        subst z24
        try dsimp! only [] at h
        replace h := Option.some.inj h
        subst h
        refine ⟨[some (D.lst true (List.map (eP eTx (eQ eTx)) rules)), w1, w2, some (D.lst m3 (List.map eTx heads)), some (D.lst true (List.map (eP eTree eTx) p12.2)), some (eTree p12.1.1), some (eTx p12.1.2)], ?_, rfl, rfl⟩
        unfold L1_tree_stands
        simp! only [q14, q15, d89, d90, q18]
      · have d90 := Bool.eq_false_iff.mpr c90
        dsimp! only [d89, d90] at h
        obtain ⟨v27, e28, h⟩ := Option.bind_eq_some_iff.mp h
        have q29 := h_has_rule true e28
        try simp_arith only [] at q29
        by_cases c93 : v27 = true
        · have d93 := c93
          first | rw [if_pos c93] at h | dsimp! only [d93] at h
          obtain ⟨cs31, e32, h⟩ := Option.bind_eq_some_iff.mp h
          have q33 := ol_tree_1 e32
          try simp_arith only [] at q33
          obtain ⟨n34, e35, h⟩ := Option.bind_eq_some_iff.mp h
          have q36 := ol_tree_0 e35
          try simp_arith only [] at q36
          obtain ⟨v37, e38, h⟩ := Option.bind_eq_some_iff.mp h
          have q39 := ol_ix_lst (e := (eP eTx (eQ eTx))) true e38
          try simp_arith only [] at q39
          have q40 := ol_ix_P1 (e := eTx) (f := (eQ eTx)) v37
          try simp_arith only [] at q40
          obtain ⟨z41, e42, h⟩ := Option.bind_eq_some_iff.mp h
          have q43 := ol_zipT (e := eTree) (f := eTx) e42
          try simp_arith only [] at q43
          obtain ⟨todo44, e45, h⟩ := Option.bind_eq_some_iff.mp h
          have q46 := ol_ext (e := (eP eTree eTx)) true e45
          try simp_arith only [] at q46
          replace h := Option.some.inj h
          subst h
          refine ⟨((some (eTree p12.1.1)), (some (eTx p12.1.2))), .inl ?_⟩
          unfold L1_tree_stands
          simp! only [q14, q15, d89, d90, q29, d93, q33, q36, q39, q40, q43, q46]
        · have d93 := Bool.eq_false_iff.mpr c93
          first | rw [if_neg c93] at h | dsimp! only [d93] at h
          replace h := Option.some.inj h
          subst h
          refine ⟨[some (D.lst true (List.map (eP eTx (eQ eTx)) rules)), w1, w2, some (D.lst m3 (List.map eTx heads)), some (D.lst true (List.map (eP eTree eTx) p12.2)), some (eTree p12.1.1), some (eTx p12.1.2)], ?_, rfl, rfl⟩
          unfold L1_tree_stands
          simp! only [q14, q15, d89, d90, q29, d93]
    · have d89 := decide_eq_false c89
      dsimp! only [d89] at h
      have q18 := ol_in_txL m3 p12.1.2 heads
      try simp_arith only [] at q18
      obtain ⟨v23, z24, h⟩ := Option.bind_eq_some_iff.mp h
      first | rw [if_neg c89] at z24 | dsimp! only [d89] at z24
      obtain ⟨b20, e21, z24⟩ := Option.bind_eq_some_iff.mp z24
      have q22 := ol_ne_tree_tx e21
      try simp_arith only [] at q22
      replace z24 := Option.some.inj z24
      subst z24
      by_cases c95 : b20 = true
      · have d95 := c95
        first | rw [if_pos c95] at h | dsimp! only [d95] at h
        replace h := Option.some.inj h
        subst h
        refine ⟨((some (eTree p12.1.1)), (some (eTx p12.1.2))), .inl ?_⟩
        unfold L1_tree_stands
        simp! only [q14, q15, d89, q18, q22, d95]
      · have d95 := Bool.eq_false_iff.mpr c95
        first | rw [if_neg c95] at h | dsimp! only [d95] at h
        replace h := Option.some.inj h
        subst h
        refine ⟨[some (D.lst true (List.map (eP eTx (eQ eTx)) rules)), w1, w2, some (D.lst m3 (List.map eTx heads)), some (D.lst true (List.map (eP eTree eTx) p12.2)), some (eTree p12.1.1), some (eTx p12.1.2)], ?_, rfl, rfl⟩
        unfold L1_tree_stands
        simp! only [q14, q15, d89, q18, q22, d95]
theorem p_F2_tree_stands_sim (s : Nat → Fd) (h_heads_of : Sim_heads_of (s 10)) (h_has_rule : Sim_has_rule (s 9)) {m0 : Bool} {m3 : Bool} {rules : (List (Tx × (List Tx)))} {w1 : Option D} {w2 : Option D} {heads : (List Tx)} {todo : (List (Tre × Tx))} {r : (Fl ((List (Tre × Tx))) Bool)} (h : p_F2_tree_stands rules heads todo = some r) :
    FlE (fun (r : (List (Tre × Tx))) (j : Option D × Option D) => [some (D.lst m0 (List.map (eP eTx (eQ eTx)) rules)), w1, w2, some (D.lst m3 (List.map eTx heads)), some (D.lst true (List.map (eP eTree eTx) r)), j.1, j.2]) (fun (r : Bool) (o : Option Out) => ∃ E', o = some (.rt (D.bl r) E') ∧ E'.length = 7 ∧ E'[0]? = some (some (D.lst m0 (List.map (eP eTx (eQ eTx)) rules)))) r (F2_tree_stands s [some (D.lst m0 (List.map (eP eTx (eQ eTx)) rules)), w1, w2, some (D.lst m3 (List.map eTx heads)), some (D.lst true (List.map (eP eTree eTx) todo)), none, none]) := by
  unfold p_F2_tree_stands at h
  have kc : ∀ s1 (j : Option D × Option D) x, (fun (s1 : (List (Tre × Tx))) => (Option.bind (nilP (eP eTree eTx) s1) fun b9 =>
 some (!(b9)) : Option Bool)) s1 = some x → T0_tree_stands s ((fun (s1 : (List (Tre × Tx))) (j : Option D × Option D) => [some (D.lst m0 (List.map (eP eTx (eQ eTx)) rules)), w1, w2, some (D.lst m3 (List.map eTx heads)), some (D.lst true (List.map (eP eTree eTx) s1)), j.1, j.2]) s1 j) = some (x, (fun (s1 : (List (Tre × Tx))) (j : Option D × Option D) => [some (D.lst m0 (List.map (eP eTx (eQ eTx)) rules)), w1, w2, some (D.lst m3 (List.map eTx heads)), some (D.lst true (List.map (eP eTree eTx) s1)), j.1, j.2]) s1 j) := by
    intro s1 j x hx
    dsimp only at hx ⊢
    obtain ⟨b9, e10, hx⟩ := Option.bind_eq_some_iff.mp hx
    have q11 := ol_ne_nilP true true e10
    try simp_arith only [] at q11
    replace hx := Option.some.inj hx
    subst hx
    unfold T0_tree_stands; simp! only [q11]
  have key : ∀ s1 (j : Option D × Option D) r, (fun (s1 : (List (Tre × Tx))) => (Option.bind (nilP (eP eTree eTx) s1) fun b9 =>
 some (!(b9)) : Option Bool)) s1 = some true → (fun (s1 : (List (Tre × Tx))) => p_L1_tree_stands rules heads s1) s1 = some r → FlS (fun (s1 : (List (Tre × Tx))) (j : Option D × Option D) => [some (D.lst m0 (List.map (eP eTx (eQ eTx)) rules)), w1, w2, some (D.lst m3 (List.map eTx heads)), some (D.lst true (List.map (eP eTree eTx) s1)), j.1, j.2]) (fun (r : Bool) (o : Option Out) => ∃ E', o = some (.rt (D.bl r) E') ∧ E'.length = 7 ∧ E'[0]? = some (some (D.lst m0 (List.map (eP eTx (eQ eTx)) rules)))) r (L1_tree_stands s ((fun (s1 : (List (Tre × Tx))) (j : Option D × Option D) => [some (D.lst m0 (List.map (eP eTx (eQ eTx)) rules)), w1, w2, some (D.lst m3 (List.map eTx heads)), some (D.lst true (List.map (eP eTree eTx) s1)), j.1, j.2]) s1 j)) :=
    fun s1 j r _ hx => p_L1_tree_stands_sim s h_heads_of h_has_rule (m0 := m0) (m3 := m3) (rules := rules) (w1 := (w1)) (w2 := (w2)) (heads := heads) (todo := s1) (w5 := (j.1)) (w6 := (j.2)) hx
  have hQ : Rts (fun (r : Bool) (o : Option Out) => ∃ E', o = some (.rt (D.bl r) E') ∧ E'.length = 7 ∧ E'[0]? = some (some (D.lst m0 (List.map (eP eTx (eQ eTx)) rules)))) := fun r o ⟨E', z, _⟩ => ⟨_, _, z⟩
  have hj := evWh_whF hQ kc key ((none), (none)) h
  rcases r with r | r
  · obtain ⟨jr, hj⟩ := hj
    try simp_arith only [] at hj
    exact ⟨jr, by unfold F2_tree_stands; simp! only [hj]⟩
  · obtain ⟨E', hj, z0, z1⟩ := hj
    try simp_arith only [] at hj
    exact ⟨E', by unfold F2_tree_stands; simp! only [hj], z0, z1⟩
theorem sim_tree_stands (s : Nat → Fd) (h_heads_of : Sim_heads_of (s 10)) (h_has_rule : Sim_has_rule (s 9)) : Sim_tree_stands (fnD 3 7 [3, 4, 5, 6] (b_tree_stands s)) := by
  intro m0 rules tree name r h
  unfold p_tree_stands at h
  cases m0
  · skip
    obtain ⟨v1, e2, h⟩ := Option.bind_eq_some_iff.mp h
    have q3 := h_heads_of false e2
    try simp_arith only [] at q3
    have q4 := ol_nin_txL true name v1
    try simp_arith only [] at q4
    by_cases c96 : name ∈ v1
    · have d96 := decide_eq_true c96
      first | rw [if_pos c96] at h | dsimp! only [d96] at h
      obtain ⟨todo6, e7, h⟩ := Option.bind_eq_some_iff.mp h
      replace e7 := Option.some.inj e7
      subst e7
      obtain ⟨v63, e64, h⟩ := Option.bind_eq_some_iff.mp h
      have q65 := p_F2_tree_stands_sim s h_heads_of h_has_rule (m0 := false) (m3 := true) (rules := rules) (w1 := (some (eTree tree))) (w2 := (some (eTx name))) (heads := v1) (todo := [(tree, name)]) e64
      rcases v63 with s67 | r68
      · dsimp only [Fl.go] at h
        obtain ⟨j66, q65⟩ := q65
        try simp_arith only [] at q65
        replace h := Option.some.inj h
        subst h
        have qa : argsOf [(D.lst false (List.map (eP eTx (eQ eTx)) rules)), (eTree tree), (eTx name)] [some (D.lst false (List.map (eP eTx (eQ eTx)) rules)), some (eTree tree), some (eTx name), some (D.lst true (List.map eTx v1)), some (D.lst true (List.map (eP eTree eTx) s67)), j66.1, j66.2] = some [(D.lst false (List.map (eP eTx (eQ eTx)) rules)), (eTree tree), (eTx name)] := argsOf_P ⟨_, _, rfl, .inr ⟨rfl, fun z => by first | rfl | (cases z; done) | exact absurd z (by simp! only [])⟩, ⟨_, _, rfl, .inl ⟨by first | rfl | exact isF_tree _ | exact isF_e _ _ | simp! only [], rfl, show 1 < 7 from by decide⟩, ⟨_, _, rfl, .inl ⟨by first | rfl | exact isF_tree _ | exact isF_e _ _ | simp! only [], rfl, show 2 < 7 from by decide⟩, rfl⟩⟩⟩
        try simp_arith only [] at qa
        unfold b_tree_stands
        simp! only [q3, q4, d96, q65, qa]
      · dsimp only [Fl.go] at h
        obtain ⟨E69, q65, q70, q71⟩ := q65
        try simp_arith only [] at q65
        replace h := Option.some.inj h
        subst h
        have qa : argsOf [(D.lst false (List.map (eP eTx (eQ eTx)) rules)), (eTree tree), (eTx name)] E69 = some [(D.lst false (List.map (eP eTx (eQ eTx)) rules)), (eTree tree), (eTx name)] := argsOf_P ⟨_, _, rfl, .inr ⟨q71, fun z => by first | rfl | (cases z; done) | exact absurd z (by simp! only [])⟩, ⟨_, _, rfl, .inl ⟨by first | rfl | exact isF_tree _ | exact isF_e _ _ | simp! only [], rfl, by rw [q70]; decide⟩, ⟨_, _, rfl, .inl ⟨by first | rfl | exact isF_tree _ | exact isF_e _ _ | simp! only [], rfl, by rw [q70]; decide⟩, rfl⟩⟩⟩
        try simp_arith only [] at qa
        unfold b_tree_stands
        simp! only [q3, q4, d96, q65, qa]
    · have d96 := decide_eq_false c96
      first | rw [if_neg c96] at h | dsimp! only [d96] at h
      replace h := Option.some.inj h
      subst h
      have qa : argsOf [(D.lst false (List.map (eP eTx (eQ eTx)) rules)), (eTree tree), (eTx name)] [some (D.lst false (List.map (eP eTx (eQ eTx)) rules)), some (eTree tree), some (eTx name), some (D.lst true (List.map eTx v1)), none, none, none] = some [(D.lst false (List.map (eP eTx (eQ eTx)) rules)), (eTree tree), (eTx name)] := argsOf_P ⟨_, _, rfl, .inr ⟨rfl, fun z => by first | rfl | (cases z; done) | exact absurd z (by simp! only [])⟩, ⟨_, _, rfl, .inl ⟨by first | rfl | exact isF_tree _ | exact isF_e _ _ | simp! only [], rfl, show 1 < 7 from by decide⟩, ⟨_, _, rfl, .inl ⟨by first | rfl | exact isF_tree _ | exact isF_e _ _ | simp! only [], rfl, show 2 < 7 from by decide⟩, rfl⟩⟩⟩
      try simp_arith only [] at qa
      unfold b_tree_stands
      simp! only [q3, q4, d96, qa]
  · skip
    obtain ⟨v1, e2, h⟩ := Option.bind_eq_some_iff.mp h
    have q3 := h_heads_of true e2
    try simp_arith only [] at q3
    have q4 := ol_nin_txL true name v1
    try simp_arith only [] at q4
    by_cases c97 : name ∈ v1
    · have d97 := decide_eq_true c97
      first | rw [if_pos c97] at h | dsimp! only [d97] at h
      obtain ⟨todo6, e7, h⟩ := Option.bind_eq_some_iff.mp h
      replace e7 := Option.some.inj e7
      subst e7
      obtain ⟨v63, e64, h⟩ := Option.bind_eq_some_iff.mp h
      have q65 := p_F2_tree_stands_sim s h_heads_of h_has_rule (m0 := true) (m3 := true) (rules := rules) (w1 := (some (eTree tree))) (w2 := (some (eTx name))) (heads := v1) (todo := [(tree, name)]) e64
      rcases v63 with s67 | r68
      · dsimp only [Fl.go] at h
        obtain ⟨j66, q65⟩ := q65
        try simp_arith only [] at q65
        replace h := Option.some.inj h
        subst h
        have qa : argsOf [(D.lst true (List.map (eP eTx (eQ eTx)) rules)), (eTree tree), (eTx name)] [some (D.lst true (List.map (eP eTx (eQ eTx)) rules)), some (eTree tree), some (eTx name), some (D.lst true (List.map eTx v1)), some (D.lst true (List.map (eP eTree eTx) s67)), j66.1, j66.2] = some [(D.lst true (List.map (eP eTx (eQ eTx)) rules)), (eTree tree), (eTx name)] := argsOf_P ⟨_, _, rfl, .inr ⟨rfl, fun z => by first | rfl | (cases z; done) | exact absurd z (by simp! only [])⟩, ⟨_, _, rfl, .inl ⟨by first | rfl | exact isF_tree _ | exact isF_e _ _ | simp! only [], rfl, show 1 < 7 from by decide⟩, ⟨_, _, rfl, .inl ⟨by first | rfl | exact isF_tree _ | exact isF_e _ _ | simp! only [], rfl, show 2 < 7 from by decide⟩, rfl⟩⟩⟩
        try simp_arith only [] at qa
        unfold b_tree_stands
        simp! only [q3, q4, d97, q65, qa]
      · dsimp only [Fl.go] at h
        obtain ⟨E69, q65, q70, q71⟩ := q65
        try simp_arith only [] at q65
        replace h := Option.some.inj h
        subst h
        have qa : argsOf [(D.lst true (List.map (eP eTx (eQ eTx)) rules)), (eTree tree), (eTx name)] E69 = some [(D.lst true (List.map (eP eTx (eQ eTx)) rules)), (eTree tree), (eTx name)] := argsOf_P ⟨_, _, rfl, .inr ⟨q71, fun z => by first | rfl | (cases z; done) | exact absurd z (by simp! only [])⟩, ⟨_, _, rfl, .inl ⟨by first | rfl | exact isF_tree _ | exact isF_e _ _ | simp! only [], rfl, by rw [q70]; decide⟩, ⟨_, _, rfl, .inl ⟨by first | rfl | exact isF_tree _ | exact isF_e _ _ | simp! only [], rfl, by rw [q70]; decide⟩, rfl⟩⟩⟩
        try simp_arith only [] at qa
        unfold b_tree_stands
        simp! only [q3, q4, d97, q65, qa]
    · have d97 := decide_eq_false c97
      first | rw [if_neg c97] at h | dsimp! only [d97] at h
      replace h := Option.some.inj h
      subst h
      have qa : argsOf [(D.lst true (List.map (eP eTx (eQ eTx)) rules)), (eTree tree), (eTx name)] [some (D.lst true (List.map (eP eTx (eQ eTx)) rules)), some (eTree tree), some (eTx name), some (D.lst true (List.map eTx v1)), none, none, none] = some [(D.lst true (List.map (eP eTx (eQ eTx)) rules)), (eTree tree), (eTx name)] := argsOf_P ⟨_, _, rfl, .inr ⟨rfl, fun z => by first | rfl | (cases z; done) | exact absurd z (by simp! only [])⟩, ⟨_, _, rfl, .inl ⟨by first | rfl | exact isF_tree _ | exact isF_e _ _ | simp! only [], rfl, show 1 < 7 from by decide⟩, ⟨_, _, rfl, .inl ⟨by first | rfl | exact isF_tree _ | exact isF_e _ _ | simp! only [], rfl, show 2 < 7 from by decide⟩, rfl⟩⟩⟩
      try simp_arith only [] at qa
      unfold b_tree_stands
      simp! only [q3, q4, d97, qa]
theorem p_L0_law_sim (s : Nat → Fd) (h_cell_at : Sim_cell_at (s 1)) (h_pool : Sim_pool (s 4)) (h_rules : Sim_rules (s 6)) (h_tree : Sim_tree (p_tree 30) (s 7)) (h_digits : Sim_digits (s 3)) (h_tree_stands : Sim_tree_stands (s 11)) (h_stands : Sim_stands (p_stands 30) (s 14)) (h_spoiled : Sim_spoiled (p_spoiled 30) (s 13)) {m2 : Bool} {m3 : Bool} {m4 : Bool} {m7 : Bool} {m8 : Bool} {w0 : Option D} {w1 : Option D} {pool : (List Tx)} {names : (List Tx)} {rules : (List (Tx × (List Tx)))} {w5 : Option D} {tree : Tre} {digits : (List Int)} {handed : (List (Tx × (List Tx)))} {k : Int} {w10 : Option D} {r : (Fl (Tre) Bool)} (h : p_L0_law pool names rules tree digits handed k = some r) :
    FlS (fun (r : Tre) (j : Option D × Option D) => [w0, w1, some (D.lst m2 (List.map eTx pool)), some (D.lst m3 (List.map eTx names)), some (D.lst m4 (List.map (eP eTx (eQ eTx)) rules)), w5, some (eTree r), some (D.lst m7 (List.map D.int digits)), some (D.lst m8 (List.map (eP eTx (eQ eTx)) handed)), j.1, j.2]) (fun (r : Bool) (o : Option Out) => ∃ E', o = some (.rt (D.bl r) E') ∧ E'.length = 11) r (L0_law s [w0, w1, some (D.lst m2 (List.map eTx pool)), some (D.lst m3 (List.map eTx names)), some (D.lst m4 (List.map (eP eTx (eQ eTx)) rules)), w5, some (eTree tree), some (D.lst m7 (List.map D.int digits)), some (D.lst m8 (List.map (eP eTx (eQ eTx)) handed)), some (D.int k), w10]) := by
  unfold p_L0_law at h
  cases m2
  · skip
    cases m3
    · skip
      cases m4
      · skip
        cases m8
        · skip
          obtain ⟨v42, e43, h⟩ := Option.bind_eq_some_iff.mp h
          have q44 := ol_ix_lst (e := eTx) false e43
          try simp_arith only [] at q44
          obtain ⟨v45, e46, h⟩ := Option.bind_eq_some_iff.mp h
          have q47 := h_tree_stands false e46
          try simp_arith only [] at q47
          obtain ⟨v52, z53, h⟩ := Option.bind_eq_some_iff.mp h
          try dsimp! only [] at z53
          obtain ⟨v48, e49, z53⟩ := Option.bind_eq_some_iff.mp z53
          have q50 := h_stands false false e49
          try simp_arith only [] at q50
          have q51 := ol_ne_b v45 v48
          try simp_arith only [] at q51
          have q54 := ol_ne_lst (e := (eP eTx (eQ eTx))) (by decide) false false handed rules
          try simp_arith only [] at q54
          by_cases c166 : v45 = v48
          · have d166 := decide_eq_true c166
            by_cases c167 : handed = rules
            · have d167 := decide_eq_true c167
              replace z53 := Option.some.inj z53
              subst z53
              dsimp! only [d166, d167] at h
              have q58 := ol_len_lst (e := (eP eTx (eQ eTx))) false rules
              try simp_arith only [] at q58
              have q59 := ol_mulC (i := 15) (j := k) (cMul_l (by decide))
              try simp_arith only [] at q59
              have q60 := ol_mulC (i := 15) (j := k) (cMul_l (by decide))
              try simp_arith only [] at q60
              have q61 := ol_sl_lst (e := D.int) m7 digits (some (15 * k)) (some ((15 * k) + 15))
              try simp_arith only [] at q61
              obtain ⟨c62, e63, h⟩ := Option.bind_eq_some_iff.mp h
              have q64 := ol_add_lst (e := D.int) true true e63
              try simp_arith only [] at q64
              obtain ⟨v65, e66, h⟩ := Option.bind_eq_some_iff.mp h
              have q67 := h_spoiled false true e66
              try simp_arith only [] at q67
              replace h := Option.some.inj h
              subst h
              refine ⟨((some (D.int k)), (some (D.bl v45))), .inl ?_⟩
              unfold L0_law
              simp! only [q44, q47, q50, q51, q54, d166, d167, q58, q59, q60, q61, q64, q67]
            · have d167 := decide_eq_false c167
              replace z53 := Option.some.inj z53
              subst z53
              dsimp! only [d166, d167] at h
              replace h := Option.some.inj h
              subst h
              refine ⟨[w0, w1, some (D.lst false (List.map eTx pool)), some (D.lst false (List.map eTx names)), some (D.lst false (List.map (eP eTx (eQ eTx)) rules)), w5, some (eTree tree), some (D.lst m7 (List.map D.int digits)), some (D.lst false (List.map (eP eTx (eQ eTx)) handed)), some (D.int k), some (D.bl v45)], ?_, rfl⟩
              unfold L0_law
              simp! only [q44, q47, q50, q51, q54, d166, d167]
          · have d166 := decide_eq_false c166
            replace z53 := Option.some.inj z53
            subst z53
            dsimp! only [d166] at h
            replace h := Option.some.inj h
            subst h
            refine ⟨[w0, w1, some (D.lst false (List.map eTx pool)), some (D.lst false (List.map eTx names)), some (D.lst false (List.map (eP eTx (eQ eTx)) rules)), w5, some (eTree tree), some (D.lst m7 (List.map D.int digits)), some (D.lst false (List.map (eP eTx (eQ eTx)) handed)), some (D.int k), some (D.bl v45)], ?_, rfl⟩
            unfold L0_law
            simp! only [q44, q47, q50, q51, q54, d166]
        · skip
          obtain ⟨v42, e43, h⟩ := Option.bind_eq_some_iff.mp h
          have q44 := ol_ix_lst (e := eTx) false e43
          try simp_arith only [] at q44
          obtain ⟨v45, e46, h⟩ := Option.bind_eq_some_iff.mp h
          have q47 := h_tree_stands true e46
          try simp_arith only [] at q47
          obtain ⟨v52, z53, h⟩ := Option.bind_eq_some_iff.mp h
          try dsimp! only [] at z53
          obtain ⟨v48, e49, z53⟩ := Option.bind_eq_some_iff.mp z53
          have q50 := h_stands false false e49
          try simp_arith only [] at q50
          have q51 := ol_ne_b v45 v48
          try simp_arith only [] at q51
          have q54 := ol_ne_lst (e := (eP eTx (eQ eTx))) (by decide) true false handed rules
          try simp_arith only [] at q54
          by_cases c171 : v45 = v48
          · have d171 := decide_eq_true c171
            by_cases c172 : handed = rules
            · have d172 := decide_eq_true c172
              replace z53 := Option.some.inj z53
              subst z53
              dsimp! only [d171, d172] at h
              have q58 := ol_len_lst (e := (eP eTx (eQ eTx))) false rules
              try simp_arith only [] at q58
              have q59 := ol_mulC (i := 15) (j := k) (cMul_l (by decide))
              try simp_arith only [] at q59
              have q60 := ol_mulC (i := 15) (j := k) (cMul_l (by decide))
              try simp_arith only [] at q60
              have q61 := ol_sl_lst (e := D.int) m7 digits (some (15 * k)) (some ((15 * k) + 15))
              try simp_arith only [] at q61
              obtain ⟨c62, e63, h⟩ := Option.bind_eq_some_iff.mp h
              have q64 := ol_add_lst (e := D.int) true true e63
              try simp_arith only [] at q64
              obtain ⟨v65, e66, h⟩ := Option.bind_eq_some_iff.mp h
              have q67 := h_spoiled false true e66
              try simp_arith only [] at q67
              replace h := Option.some.inj h
              subst h
              refine ⟨((some (D.int k)), (some (D.bl v45))), .inl ?_⟩
              unfold L0_law
              simp! only [q44, q47, q50, q51, q54, d171, d172, q58, q59, q60, q61, q64, q67]
            · have d172 := decide_eq_false c172
              replace z53 := Option.some.inj z53
              subst z53
              dsimp! only [d171, d172] at h
              replace h := Option.some.inj h
              subst h
              refine ⟨[w0, w1, some (D.lst false (List.map eTx pool)), some (D.lst false (List.map eTx names)), some (D.lst false (List.map (eP eTx (eQ eTx)) rules)), w5, some (eTree tree), some (D.lst m7 (List.map D.int digits)), some (D.lst true (List.map (eP eTx (eQ eTx)) handed)), some (D.int k), some (D.bl v45)], ?_, rfl⟩
              unfold L0_law
              simp! only [q44, q47, q50, q51, q54, d171, d172]
          · have d171 := decide_eq_false c171
            replace z53 := Option.some.inj z53
            subst z53
            dsimp! only [d171] at h
            replace h := Option.some.inj h
            subst h
            refine ⟨[w0, w1, some (D.lst false (List.map eTx pool)), some (D.lst false (List.map eTx names)), some (D.lst false (List.map (eP eTx (eQ eTx)) rules)), w5, some (eTree tree), some (D.lst m7 (List.map D.int digits)), some (D.lst true (List.map (eP eTx (eQ eTx)) handed)), some (D.int k), some (D.bl v45)], ?_, rfl⟩
            unfold L0_law
            simp! only [q44, q47, q50, q51, q54, d171]
      · skip
        cases m8
        · skip
          obtain ⟨v42, e43, h⟩ := Option.bind_eq_some_iff.mp h
          have q44 := ol_ix_lst (e := eTx) false e43
          try simp_arith only [] at q44
          obtain ⟨v45, e46, h⟩ := Option.bind_eq_some_iff.mp h
          have q47 := h_tree_stands false e46
          try simp_arith only [] at q47
          obtain ⟨v52, z53, h⟩ := Option.bind_eq_some_iff.mp h
          try dsimp! only [] at z53
          obtain ⟨v48, e49, z53⟩ := Option.bind_eq_some_iff.mp z53
          have q50 := h_stands true false e49
          try simp_arith only [] at q50
          have q51 := ol_ne_b v45 v48
          try simp_arith only [] at q51
          have q54 := ol_ne_lst (e := (eP eTx (eQ eTx))) (by decide) false true handed rules
          try simp_arith only [] at q54
          by_cases c176 : v45 = v48
          · have d176 := decide_eq_true c176
            by_cases c177 : handed = rules
            · have d177 := decide_eq_true c177
              replace z53 := Option.some.inj z53
              subst z53
              dsimp! only [d176, d177] at h
              have q58 := ol_len_lst (e := (eP eTx (eQ eTx))) true rules
              try simp_arith only [] at q58
              have q59 := ol_mulC (i := 15) (j := k) (cMul_l (by decide))
              try simp_arith only [] at q59
              have q60 := ol_mulC (i := 15) (j := k) (cMul_l (by decide))
              try simp_arith only [] at q60
              have q61 := ol_sl_lst (e := D.int) m7 digits (some (15 * k)) (some ((15 * k) + 15))
              try simp_arith only [] at q61
              obtain ⟨c62, e63, h⟩ := Option.bind_eq_some_iff.mp h
              have q64 := ol_add_lst (e := D.int) true true e63
              try simp_arith only [] at q64
              obtain ⟨v65, e66, h⟩ := Option.bind_eq_some_iff.mp h
              have q67 := h_spoiled false true e66
              try simp_arith only [] at q67
              replace h := Option.some.inj h
              subst h
              refine ⟨((some (D.int k)), (some (D.bl v45))), .inl ?_⟩
              unfold L0_law
              simp! only [q44, q47, q50, q51, q54, d176, d177, q58, q59, q60, q61, q64, q67]
            · have d177 := decide_eq_false c177
              replace z53 := Option.some.inj z53
              subst z53
              dsimp! only [d176, d177] at h
              replace h := Option.some.inj h
              subst h
              refine ⟨[w0, w1, some (D.lst false (List.map eTx pool)), some (D.lst false (List.map eTx names)), some (D.lst true (List.map (eP eTx (eQ eTx)) rules)), w5, some (eTree tree), some (D.lst m7 (List.map D.int digits)), some (D.lst false (List.map (eP eTx (eQ eTx)) handed)), some (D.int k), some (D.bl v45)], ?_, rfl⟩
              unfold L0_law
              simp! only [q44, q47, q50, q51, q54, d176, d177]
          · have d176 := decide_eq_false c176
            replace z53 := Option.some.inj z53
            subst z53
            dsimp! only [d176] at h
            replace h := Option.some.inj h
            subst h
            refine ⟨[w0, w1, some (D.lst false (List.map eTx pool)), some (D.lst false (List.map eTx names)), some (D.lst true (List.map (eP eTx (eQ eTx)) rules)), w5, some (eTree tree), some (D.lst m7 (List.map D.int digits)), some (D.lst false (List.map (eP eTx (eQ eTx)) handed)), some (D.int k), some (D.bl v45)], ?_, rfl⟩
            unfold L0_law
            simp! only [q44, q47, q50, q51, q54, d176]
        · skip
          obtain ⟨v42, e43, h⟩ := Option.bind_eq_some_iff.mp h
          have q44 := ol_ix_lst (e := eTx) false e43
          try simp_arith only [] at q44
          obtain ⟨v45, e46, h⟩ := Option.bind_eq_some_iff.mp h
          have q47 := h_tree_stands true e46
          try simp_arith only [] at q47
          obtain ⟨v52, z53, h⟩ := Option.bind_eq_some_iff.mp h
          try dsimp! only [] at z53
          obtain ⟨v48, e49, z53⟩ := Option.bind_eq_some_iff.mp z53
          have q50 := h_stands true false e49
          try simp_arith only [] at q50
          have q51 := ol_ne_b v45 v48
          try simp_arith only [] at q51
          have q54 := ol_ne_lst (e := (eP eTx (eQ eTx))) (by decide) true true handed rules
          try simp_arith only [] at q54
          by_cases c181 : v45 = v48
          · have d181 := decide_eq_true c181
            by_cases c182 : handed = rules
            · have d182 := decide_eq_true c182
              replace z53 := Option.some.inj z53
              subst z53
              dsimp! only [d181, d182] at h
              have q58 := ol_len_lst (e := (eP eTx (eQ eTx))) true rules
              try simp_arith only [] at q58
              have q59 := ol_mulC (i := 15) (j := k) (cMul_l (by decide))
              try simp_arith only [] at q59
              have q60 := ol_mulC (i := 15) (j := k) (cMul_l (by decide))
              try simp_arith only [] at q60
              have q61 := ol_sl_lst (e := D.int) m7 digits (some (15 * k)) (some ((15 * k) + 15))
              try simp_arith only [] at q61
              obtain ⟨c62, e63, h⟩ := Option.bind_eq_some_iff.mp h
              have q64 := ol_add_lst (e := D.int) true true e63
              try simp_arith only [] at q64
              obtain ⟨v65, e66, h⟩ := Option.bind_eq_some_iff.mp h
              have q67 := h_spoiled false true e66
              try simp_arith only [] at q67
              replace h := Option.some.inj h
              subst h
              refine ⟨((some (D.int k)), (some (D.bl v45))), .inl ?_⟩
              unfold L0_law
              simp! only [q44, q47, q50, q51, q54, d181, d182, q58, q59, q60, q61, q64, q67]
            · have d182 := decide_eq_false c182
              replace z53 := Option.some.inj z53
              subst z53
              dsimp! only [d181, d182] at h
              replace h := Option.some.inj h
              subst h
              refine ⟨[w0, w1, some (D.lst false (List.map eTx pool)), some (D.lst false (List.map eTx names)), some (D.lst true (List.map (eP eTx (eQ eTx)) rules)), w5, some (eTree tree), some (D.lst m7 (List.map D.int digits)), some (D.lst true (List.map (eP eTx (eQ eTx)) handed)), some (D.int k), some (D.bl v45)], ?_, rfl⟩
              unfold L0_law
              simp! only [q44, q47, q50, q51, q54, d181, d182]
          · have d181 := decide_eq_false c181
            replace z53 := Option.some.inj z53
            subst z53
            dsimp! only [d181] at h
            replace h := Option.some.inj h
            subst h
            refine ⟨[w0, w1, some (D.lst false (List.map eTx pool)), some (D.lst false (List.map eTx names)), some (D.lst true (List.map (eP eTx (eQ eTx)) rules)), w5, some (eTree tree), some (D.lst m7 (List.map D.int digits)), some (D.lst true (List.map (eP eTx (eQ eTx)) handed)), some (D.int k), some (D.bl v45)], ?_, rfl⟩
            unfold L0_law
            simp! only [q44, q47, q50, q51, q54, d181]
    · skip
      cases m4
      · skip
        cases m8
        · skip
          obtain ⟨v42, e43, h⟩ := Option.bind_eq_some_iff.mp h
          have q44 := ol_ix_lst (e := eTx) true e43
          try simp_arith only [] at q44
          obtain ⟨v45, e46, h⟩ := Option.bind_eq_some_iff.mp h
          have q47 := h_tree_stands false e46
          try simp_arith only [] at q47
          obtain ⟨v52, z53, h⟩ := Option.bind_eq_some_iff.mp h
          try dsimp! only [] at z53
          obtain ⟨v48, e49, z53⟩ := Option.bind_eq_some_iff.mp z53
          have q50 := h_stands false true e49
          try simp_arith only [] at q50
          have q51 := ol_ne_b v45 v48
          try simp_arith only [] at q51
          have q54 := ol_ne_lst (e := (eP eTx (eQ eTx))) (by decide) false false handed rules
          try simp_arith only [] at q54
          by_cases c186 : v45 = v48
          · have d186 := decide_eq_true c186
            by_cases c187 : handed = rules
            · have d187 := decide_eq_true c187
              replace z53 := Option.some.inj z53
              subst z53
              dsimp! only [d186, d187] at h
              have q58 := ol_len_lst (e := (eP eTx (eQ eTx))) false rules
              try simp_arith only [] at q58
              have q59 := ol_mulC (i := 15) (j := k) (cMul_l (by decide))
              try simp_arith only [] at q59
              have q60 := ol_mulC (i := 15) (j := k) (cMul_l (by decide))
              try simp_arith only [] at q60
              have q61 := ol_sl_lst (e := D.int) m7 digits (some (15 * k)) (some ((15 * k) + 15))
              try simp_arith only [] at q61
              obtain ⟨c62, e63, h⟩ := Option.bind_eq_some_iff.mp h
              have q64 := ol_add_lst (e := D.int) true true e63
              try simp_arith only [] at q64
              obtain ⟨v65, e66, h⟩ := Option.bind_eq_some_iff.mp h
              have q67 := h_spoiled false true e66
              try simp_arith only [] at q67
              replace h := Option.some.inj h
              subst h
              refine ⟨((some (D.int k)), (some (D.bl v45))), .inl ?_⟩
              unfold L0_law
              simp! only [q44, q47, q50, q51, q54, d186, d187, q58, q59, q60, q61, q64, q67]
            · have d187 := decide_eq_false c187
              replace z53 := Option.some.inj z53
              subst z53
              dsimp! only [d186, d187] at h
              replace h := Option.some.inj h
              subst h
              refine ⟨[w0, w1, some (D.lst false (List.map eTx pool)), some (D.lst true (List.map eTx names)), some (D.lst false (List.map (eP eTx (eQ eTx)) rules)), w5, some (eTree tree), some (D.lst m7 (List.map D.int digits)), some (D.lst false (List.map (eP eTx (eQ eTx)) handed)), some (D.int k), some (D.bl v45)], ?_, rfl⟩
              unfold L0_law
              simp! only [q44, q47, q50, q51, q54, d186, d187]
          · have d186 := decide_eq_false c186
            replace z53 := Option.some.inj z53
            subst z53
            dsimp! only [d186] at h
            replace h := Option.some.inj h
            subst h
            refine ⟨[w0, w1, some (D.lst false (List.map eTx pool)), some (D.lst true (List.map eTx names)), some (D.lst false (List.map (eP eTx (eQ eTx)) rules)), w5, some (eTree tree), some (D.lst m7 (List.map D.int digits)), some (D.lst false (List.map (eP eTx (eQ eTx)) handed)), some (D.int k), some (D.bl v45)], ?_, rfl⟩
            unfold L0_law
            simp! only [q44, q47, q50, q51, q54, d186]
        · skip
          obtain ⟨v42, e43, h⟩ := Option.bind_eq_some_iff.mp h
          have q44 := ol_ix_lst (e := eTx) true e43
          try simp_arith only [] at q44
          obtain ⟨v45, e46, h⟩ := Option.bind_eq_some_iff.mp h
          have q47 := h_tree_stands true e46
          try simp_arith only [] at q47
          obtain ⟨v52, z53, h⟩ := Option.bind_eq_some_iff.mp h
          try dsimp! only [] at z53
          obtain ⟨v48, e49, z53⟩ := Option.bind_eq_some_iff.mp z53
          have q50 := h_stands false true e49
          try simp_arith only [] at q50
          have q51 := ol_ne_b v45 v48
          try simp_arith only [] at q51
          have q54 := ol_ne_lst (e := (eP eTx (eQ eTx))) (by decide) true false handed rules
          try simp_arith only [] at q54
          by_cases c191 : v45 = v48
          · have d191 := decide_eq_true c191
            by_cases c192 : handed = rules
            · have d192 := decide_eq_true c192
              replace z53 := Option.some.inj z53
              subst z53
              dsimp! only [d191, d192] at h
              have q58 := ol_len_lst (e := (eP eTx (eQ eTx))) false rules
              try simp_arith only [] at q58
              have q59 := ol_mulC (i := 15) (j := k) (cMul_l (by decide))
              try simp_arith only [] at q59
              have q60 := ol_mulC (i := 15) (j := k) (cMul_l (by decide))
              try simp_arith only [] at q60
              have q61 := ol_sl_lst (e := D.int) m7 digits (some (15 * k)) (some ((15 * k) + 15))
              try simp_arith only [] at q61
              obtain ⟨c62, e63, h⟩ := Option.bind_eq_some_iff.mp h
              have q64 := ol_add_lst (e := D.int) true true e63
              try simp_arith only [] at q64
              obtain ⟨v65, e66, h⟩ := Option.bind_eq_some_iff.mp h
              have q67 := h_spoiled false true e66
              try simp_arith only [] at q67
              replace h := Option.some.inj h
              subst h
              refine ⟨((some (D.int k)), (some (D.bl v45))), .inl ?_⟩
              unfold L0_law
              simp! only [q44, q47, q50, q51, q54, d191, d192, q58, q59, q60, q61, q64, q67]
            · have d192 := decide_eq_false c192
              replace z53 := Option.some.inj z53
              subst z53
              dsimp! only [d191, d192] at h
              replace h := Option.some.inj h
              subst h
              refine ⟨[w0, w1, some (D.lst false (List.map eTx pool)), some (D.lst true (List.map eTx names)), some (D.lst false (List.map (eP eTx (eQ eTx)) rules)), w5, some (eTree tree), some (D.lst m7 (List.map D.int digits)), some (D.lst true (List.map (eP eTx (eQ eTx)) handed)), some (D.int k), some (D.bl v45)], ?_, rfl⟩
              unfold L0_law
              simp! only [q44, q47, q50, q51, q54, d191, d192]
          · have d191 := decide_eq_false c191
            replace z53 := Option.some.inj z53
            subst z53
            dsimp! only [d191] at h
            replace h := Option.some.inj h
            subst h
            refine ⟨[w0, w1, some (D.lst false (List.map eTx pool)), some (D.lst true (List.map eTx names)), some (D.lst false (List.map (eP eTx (eQ eTx)) rules)), w5, some (eTree tree), some (D.lst m7 (List.map D.int digits)), some (D.lst true (List.map (eP eTx (eQ eTx)) handed)), some (D.int k), some (D.bl v45)], ?_, rfl⟩
            unfold L0_law
            simp! only [q44, q47, q50, q51, q54, d191]
      · skip
        cases m8
        · skip
          obtain ⟨v42, e43, h⟩ := Option.bind_eq_some_iff.mp h
          have q44 := ol_ix_lst (e := eTx) true e43
          try simp_arith only [] at q44
          obtain ⟨v45, e46, h⟩ := Option.bind_eq_some_iff.mp h
          have q47 := h_tree_stands false e46
          try simp_arith only [] at q47
          obtain ⟨v52, z53, h⟩ := Option.bind_eq_some_iff.mp h
          try dsimp! only [] at z53
          obtain ⟨v48, e49, z53⟩ := Option.bind_eq_some_iff.mp z53
          have q50 := h_stands true true e49
          try simp_arith only [] at q50
          have q51 := ol_ne_b v45 v48
          try simp_arith only [] at q51
          have q54 := ol_ne_lst (e := (eP eTx (eQ eTx))) (by decide) false true handed rules
          try simp_arith only [] at q54
          by_cases c196 : v45 = v48
          · have d196 := decide_eq_true c196
            by_cases c197 : handed = rules
            · have d197 := decide_eq_true c197
              replace z53 := Option.some.inj z53
              subst z53
              dsimp! only [d196, d197] at h
              have q58 := ol_len_lst (e := (eP eTx (eQ eTx))) true rules
              try simp_arith only [] at q58
              have q59 := ol_mulC (i := 15) (j := k) (cMul_l (by decide))
              try simp_arith only [] at q59
              have q60 := ol_mulC (i := 15) (j := k) (cMul_l (by decide))
              try simp_arith only [] at q60
              have q61 := ol_sl_lst (e := D.int) m7 digits (some (15 * k)) (some ((15 * k) + 15))
              try simp_arith only [] at q61
              obtain ⟨c62, e63, h⟩ := Option.bind_eq_some_iff.mp h
              have q64 := ol_add_lst (e := D.int) true true e63
              try simp_arith only [] at q64
              obtain ⟨v65, e66, h⟩ := Option.bind_eq_some_iff.mp h
              have q67 := h_spoiled false true e66
              try simp_arith only [] at q67
              replace h := Option.some.inj h
              subst h
              refine ⟨((some (D.int k)), (some (D.bl v45))), .inl ?_⟩
              unfold L0_law
              simp! only [q44, q47, q50, q51, q54, d196, d197, q58, q59, q60, q61, q64, q67]
            · have d197 := decide_eq_false c197
              replace z53 := Option.some.inj z53
              subst z53
              dsimp! only [d196, d197] at h
              replace h := Option.some.inj h
              subst h
              refine ⟨[w0, w1, some (D.lst false (List.map eTx pool)), some (D.lst true (List.map eTx names)), some (D.lst true (List.map (eP eTx (eQ eTx)) rules)), w5, some (eTree tree), some (D.lst m7 (List.map D.int digits)), some (D.lst false (List.map (eP eTx (eQ eTx)) handed)), some (D.int k), some (D.bl v45)], ?_, rfl⟩
              unfold L0_law
              simp! only [q44, q47, q50, q51, q54, d196, d197]
          · have d196 := decide_eq_false c196
            replace z53 := Option.some.inj z53
            subst z53
            dsimp! only [d196] at h
            replace h := Option.some.inj h
            subst h
            refine ⟨[w0, w1, some (D.lst false (List.map eTx pool)), some (D.lst true (List.map eTx names)), some (D.lst true (List.map (eP eTx (eQ eTx)) rules)), w5, some (eTree tree), some (D.lst m7 (List.map D.int digits)), some (D.lst false (List.map (eP eTx (eQ eTx)) handed)), some (D.int k), some (D.bl v45)], ?_, rfl⟩
            unfold L0_law
            simp! only [q44, q47, q50, q51, q54, d196]
        · skip
          obtain ⟨v42, e43, h⟩ := Option.bind_eq_some_iff.mp h
          have q44 := ol_ix_lst (e := eTx) true e43
          try simp_arith only [] at q44
          obtain ⟨v45, e46, h⟩ := Option.bind_eq_some_iff.mp h
          have q47 := h_tree_stands true e46
          try simp_arith only [] at q47
          obtain ⟨v52, z53, h⟩ := Option.bind_eq_some_iff.mp h
          try dsimp! only [] at z53
          obtain ⟨v48, e49, z53⟩ := Option.bind_eq_some_iff.mp z53
          have q50 := h_stands true true e49
          try simp_arith only [] at q50
          have q51 := ol_ne_b v45 v48
          try simp_arith only [] at q51
          have q54 := ol_ne_lst (e := (eP eTx (eQ eTx))) (by decide) true true handed rules
          try simp_arith only [] at q54
          by_cases c201 : v45 = v48
          · have d201 := decide_eq_true c201
            by_cases c202 : handed = rules
            · have d202 := decide_eq_true c202
              replace z53 := Option.some.inj z53
              subst z53
              dsimp! only [d201, d202] at h
              have q58 := ol_len_lst (e := (eP eTx (eQ eTx))) true rules
              try simp_arith only [] at q58
              have q59 := ol_mulC (i := 15) (j := k) (cMul_l (by decide))
              try simp_arith only [] at q59
              have q60 := ol_mulC (i := 15) (j := k) (cMul_l (by decide))
              try simp_arith only [] at q60
              have q61 := ol_sl_lst (e := D.int) m7 digits (some (15 * k)) (some ((15 * k) + 15))
              try simp_arith only [] at q61
              obtain ⟨c62, e63, h⟩ := Option.bind_eq_some_iff.mp h
              have q64 := ol_add_lst (e := D.int) true true e63
              try simp_arith only [] at q64
              obtain ⟨v65, e66, h⟩ := Option.bind_eq_some_iff.mp h
              have q67 := h_spoiled false true e66
              try simp_arith only [] at q67
              replace h := Option.some.inj h
              subst h
              refine ⟨((some (D.int k)), (some (D.bl v45))), .inl ?_⟩
              unfold L0_law
              simp! only [q44, q47, q50, q51, q54, d201, d202, q58, q59, q60, q61, q64, q67]
            · have d202 := decide_eq_false c202
              replace z53 := Option.some.inj z53
              subst z53
              dsimp! only [d201, d202] at h
              replace h := Option.some.inj h
              subst h
              refine ⟨[w0, w1, some (D.lst false (List.map eTx pool)), some (D.lst true (List.map eTx names)), some (D.lst true (List.map (eP eTx (eQ eTx)) rules)), w5, some (eTree tree), some (D.lst m7 (List.map D.int digits)), some (D.lst true (List.map (eP eTx (eQ eTx)) handed)), some (D.int k), some (D.bl v45)], ?_, rfl⟩
              unfold L0_law
              simp! only [q44, q47, q50, q51, q54, d201, d202]
          · have d201 := decide_eq_false c201
            replace z53 := Option.some.inj z53
            subst z53
            dsimp! only [d201] at h
            replace h := Option.some.inj h
            subst h
            refine ⟨[w0, w1, some (D.lst false (List.map eTx pool)), some (D.lst true (List.map eTx names)), some (D.lst true (List.map (eP eTx (eQ eTx)) rules)), w5, some (eTree tree), some (D.lst m7 (List.map D.int digits)), some (D.lst true (List.map (eP eTx (eQ eTx)) handed)), some (D.int k), some (D.bl v45)], ?_, rfl⟩
            unfold L0_law
            simp! only [q44, q47, q50, q51, q54, d201]
  · skip
    cases m3
    · skip
      cases m4
      · skip
        cases m8
        · skip
          obtain ⟨v42, e43, h⟩ := Option.bind_eq_some_iff.mp h
          have q44 := ol_ix_lst (e := eTx) false e43
          try simp_arith only [] at q44
          obtain ⟨v45, e46, h⟩ := Option.bind_eq_some_iff.mp h
          have q47 := h_tree_stands false e46
          try simp_arith only [] at q47
          obtain ⟨v52, z53, h⟩ := Option.bind_eq_some_iff.mp h
          try dsimp! only [] at z53
          obtain ⟨v48, e49, z53⟩ := Option.bind_eq_some_iff.mp z53
          have q50 := h_stands false false e49
          try simp_arith only [] at q50
          have q51 := ol_ne_b v45 v48
          try simp_arith only [] at q51
          have q54 := ol_ne_lst (e := (eP eTx (eQ eTx))) (by decide) false false handed rules
          try simp_arith only [] at q54
          by_cases c206 : v45 = v48
          · have d206 := decide_eq_true c206
            by_cases c207 : handed = rules
            · have d207 := decide_eq_true c207
              replace z53 := Option.some.inj z53
              subst z53
              dsimp! only [d206, d207] at h
              have q58 := ol_len_lst (e := (eP eTx (eQ eTx))) false rules
              try simp_arith only [] at q58
              have q59 := ol_mulC (i := 15) (j := k) (cMul_l (by decide))
              try simp_arith only [] at q59
              have q60 := ol_mulC (i := 15) (j := k) (cMul_l (by decide))
              try simp_arith only [] at q60
              have q61 := ol_sl_lst (e := D.int) m7 digits (some (15 * k)) (some ((15 * k) + 15))
              try simp_arith only [] at q61
              obtain ⟨c62, e63, h⟩ := Option.bind_eq_some_iff.mp h
              have q64 := ol_add_lst (e := D.int) true true e63
              try simp_arith only [] at q64
              obtain ⟨v65, e66, h⟩ := Option.bind_eq_some_iff.mp h
              have q67 := h_spoiled true true e66
              try simp_arith only [] at q67
              replace h := Option.some.inj h
              subst h
              refine ⟨((some (D.int k)), (some (D.bl v45))), .inl ?_⟩
              unfold L0_law
              simp! only [q44, q47, q50, q51, q54, d206, d207, q58, q59, q60, q61, q64, q67]
            · have d207 := decide_eq_false c207
              replace z53 := Option.some.inj z53
              subst z53
              dsimp! only [d206, d207] at h
              replace h := Option.some.inj h
              subst h
              refine ⟨[w0, w1, some (D.lst true (List.map eTx pool)), some (D.lst false (List.map eTx names)), some (D.lst false (List.map (eP eTx (eQ eTx)) rules)), w5, some (eTree tree), some (D.lst m7 (List.map D.int digits)), some (D.lst false (List.map (eP eTx (eQ eTx)) handed)), some (D.int k), some (D.bl v45)], ?_, rfl⟩
              unfold L0_law
              simp! only [q44, q47, q50, q51, q54, d206, d207]
          · have d206 := decide_eq_false c206
            replace z53 := Option.some.inj z53
            subst z53
            dsimp! only [d206] at h
            replace h := Option.some.inj h
            subst h
            refine ⟨[w0, w1, some (D.lst true (List.map eTx pool)), some (D.lst false (List.map eTx names)), some (D.lst false (List.map (eP eTx (eQ eTx)) rules)), w5, some (eTree tree), some (D.lst m7 (List.map D.int digits)), some (D.lst false (List.map (eP eTx (eQ eTx)) handed)), some (D.int k), some (D.bl v45)], ?_, rfl⟩
            unfold L0_law
            simp! only [q44, q47, q50, q51, q54, d206]
        · skip
          obtain ⟨v42, e43, h⟩ := Option.bind_eq_some_iff.mp h
          have q44 := ol_ix_lst (e := eTx) false e43
          try simp_arith only [] at q44
          obtain ⟨v45, e46, h⟩ := Option.bind_eq_some_iff.mp h
          have q47 := h_tree_stands true e46
          try simp_arith only [] at q47
          obtain ⟨v52, z53, h⟩ := Option.bind_eq_some_iff.mp h
          try dsimp! only [] at z53
          obtain ⟨v48, e49, z53⟩ := Option.bind_eq_some_iff.mp z53
          have q50 := h_stands false false e49
          try simp_arith only [] at q50
          have q51 := ol_ne_b v45 v48
          try simp_arith only [] at q51
          have q54 := ol_ne_lst (e := (eP eTx (eQ eTx))) (by decide) true false handed rules
          try simp_arith only [] at q54
          by_cases c211 : v45 = v48
          · have d211 := decide_eq_true c211
            by_cases c212 : handed = rules
            · have d212 := decide_eq_true c212
              replace z53 := Option.some.inj z53
              subst z53
              dsimp! only [d211, d212] at h
              have q58 := ol_len_lst (e := (eP eTx (eQ eTx))) false rules
              try simp_arith only [] at q58
              have q59 := ol_mulC (i := 15) (j := k) (cMul_l (by decide))
              try simp_arith only [] at q59
              have q60 := ol_mulC (i := 15) (j := k) (cMul_l (by decide))
              try simp_arith only [] at q60
              have q61 := ol_sl_lst (e := D.int) m7 digits (some (15 * k)) (some ((15 * k) + 15))
              try simp_arith only [] at q61
              obtain ⟨c62, e63, h⟩ := Option.bind_eq_some_iff.mp h
              have q64 := ol_add_lst (e := D.int) true true e63
              try simp_arith only [] at q64
              obtain ⟨v65, e66, h⟩ := Option.bind_eq_some_iff.mp h
              have q67 := h_spoiled true true e66
              try simp_arith only [] at q67
              replace h := Option.some.inj h
              subst h
              refine ⟨((some (D.int k)), (some (D.bl v45))), .inl ?_⟩
              unfold L0_law
              simp! only [q44, q47, q50, q51, q54, d211, d212, q58, q59, q60, q61, q64, q67]
            · have d212 := decide_eq_false c212
              replace z53 := Option.some.inj z53
              subst z53
              dsimp! only [d211, d212] at h
              replace h := Option.some.inj h
              subst h
              refine ⟨[w0, w1, some (D.lst true (List.map eTx pool)), some (D.lst false (List.map eTx names)), some (D.lst false (List.map (eP eTx (eQ eTx)) rules)), w5, some (eTree tree), some (D.lst m7 (List.map D.int digits)), some (D.lst true (List.map (eP eTx (eQ eTx)) handed)), some (D.int k), some (D.bl v45)], ?_, rfl⟩
              unfold L0_law
              simp! only [q44, q47, q50, q51, q54, d211, d212]
          · have d211 := decide_eq_false c211
            replace z53 := Option.some.inj z53
            subst z53
            dsimp! only [d211] at h
            replace h := Option.some.inj h
            subst h
            refine ⟨[w0, w1, some (D.lst true (List.map eTx pool)), some (D.lst false (List.map eTx names)), some (D.lst false (List.map (eP eTx (eQ eTx)) rules)), w5, some (eTree tree), some (D.lst m7 (List.map D.int digits)), some (D.lst true (List.map (eP eTx (eQ eTx)) handed)), some (D.int k), some (D.bl v45)], ?_, rfl⟩
            unfold L0_law
            simp! only [q44, q47, q50, q51, q54, d211]
      · skip
        cases m8
        · skip
          obtain ⟨v42, e43, h⟩ := Option.bind_eq_some_iff.mp h
          have q44 := ol_ix_lst (e := eTx) false e43
          try simp_arith only [] at q44
          obtain ⟨v45, e46, h⟩ := Option.bind_eq_some_iff.mp h
          have q47 := h_tree_stands false e46
          try simp_arith only [] at q47
          obtain ⟨v52, z53, h⟩ := Option.bind_eq_some_iff.mp h
          try dsimp! only [] at z53
          obtain ⟨v48, e49, z53⟩ := Option.bind_eq_some_iff.mp z53
          have q50 := h_stands true false e49
          try simp_arith only [] at q50
          have q51 := ol_ne_b v45 v48
          try simp_arith only [] at q51
          have q54 := ol_ne_lst (e := (eP eTx (eQ eTx))) (by decide) false true handed rules
          try simp_arith only [] at q54
          by_cases c216 : v45 = v48
          · have d216 := decide_eq_true c216
            by_cases c217 : handed = rules
            · have d217 := decide_eq_true c217
              replace z53 := Option.some.inj z53
              subst z53
              dsimp! only [d216, d217] at h
              have q58 := ol_len_lst (e := (eP eTx (eQ eTx))) true rules
              try simp_arith only [] at q58
              have q59 := ol_mulC (i := 15) (j := k) (cMul_l (by decide))
              try simp_arith only [] at q59
              have q60 := ol_mulC (i := 15) (j := k) (cMul_l (by decide))
              try simp_arith only [] at q60
              have q61 := ol_sl_lst (e := D.int) m7 digits (some (15 * k)) (some ((15 * k) + 15))
              try simp_arith only [] at q61
              obtain ⟨c62, e63, h⟩ := Option.bind_eq_some_iff.mp h
              have q64 := ol_add_lst (e := D.int) true true e63
              try simp_arith only [] at q64
              obtain ⟨v65, e66, h⟩ := Option.bind_eq_some_iff.mp h
              have q67 := h_spoiled true true e66
              try simp_arith only [] at q67
              replace h := Option.some.inj h
              subst h
              refine ⟨((some (D.int k)), (some (D.bl v45))), .inl ?_⟩
              unfold L0_law
              simp! only [q44, q47, q50, q51, q54, d216, d217, q58, q59, q60, q61, q64, q67]
            · have d217 := decide_eq_false c217
              replace z53 := Option.some.inj z53
              subst z53
              dsimp! only [d216, d217] at h
              replace h := Option.some.inj h
              subst h
              refine ⟨[w0, w1, some (D.lst true (List.map eTx pool)), some (D.lst false (List.map eTx names)), some (D.lst true (List.map (eP eTx (eQ eTx)) rules)), w5, some (eTree tree), some (D.lst m7 (List.map D.int digits)), some (D.lst false (List.map (eP eTx (eQ eTx)) handed)), some (D.int k), some (D.bl v45)], ?_, rfl⟩
              unfold L0_law
              simp! only [q44, q47, q50, q51, q54, d216, d217]
          · have d216 := decide_eq_false c216
            replace z53 := Option.some.inj z53
            subst z53
            dsimp! only [d216] at h
            replace h := Option.some.inj h
            subst h
            refine ⟨[w0, w1, some (D.lst true (List.map eTx pool)), some (D.lst false (List.map eTx names)), some (D.lst true (List.map (eP eTx (eQ eTx)) rules)), w5, some (eTree tree), some (D.lst m7 (List.map D.int digits)), some (D.lst false (List.map (eP eTx (eQ eTx)) handed)), some (D.int k), some (D.bl v45)], ?_, rfl⟩
            unfold L0_law
            simp! only [q44, q47, q50, q51, q54, d216]
        · skip
          obtain ⟨v42, e43, h⟩ := Option.bind_eq_some_iff.mp h
          have q44 := ol_ix_lst (e := eTx) false e43
          try simp_arith only [] at q44
          obtain ⟨v45, e46, h⟩ := Option.bind_eq_some_iff.mp h
          have q47 := h_tree_stands true e46
          try simp_arith only [] at q47
          obtain ⟨v52, z53, h⟩ := Option.bind_eq_some_iff.mp h
          try dsimp! only [] at z53
          obtain ⟨v48, e49, z53⟩ := Option.bind_eq_some_iff.mp z53
          have q50 := h_stands true false e49
          try simp_arith only [] at q50
          have q51 := ol_ne_b v45 v48
          try simp_arith only [] at q51
          have q54 := ol_ne_lst (e := (eP eTx (eQ eTx))) (by decide) true true handed rules
          try simp_arith only [] at q54
          by_cases c221 : v45 = v48
          · have d221 := decide_eq_true c221
            by_cases c222 : handed = rules
            · have d222 := decide_eq_true c222
              replace z53 := Option.some.inj z53
              subst z53
              dsimp! only [d221, d222] at h
              have q58 := ol_len_lst (e := (eP eTx (eQ eTx))) true rules
              try simp_arith only [] at q58
              have q59 := ol_mulC (i := 15) (j := k) (cMul_l (by decide))
              try simp_arith only [] at q59
              have q60 := ol_mulC (i := 15) (j := k) (cMul_l (by decide))
              try simp_arith only [] at q60
              have q61 := ol_sl_lst (e := D.int) m7 digits (some (15 * k)) (some ((15 * k) + 15))
              try simp_arith only [] at q61
              obtain ⟨c62, e63, h⟩ := Option.bind_eq_some_iff.mp h
              have q64 := ol_add_lst (e := D.int) true true e63
              try simp_arith only [] at q64
              obtain ⟨v65, e66, h⟩ := Option.bind_eq_some_iff.mp h
              have q67 := h_spoiled true true e66
              try simp_arith only [] at q67
              replace h := Option.some.inj h
              subst h
              refine ⟨((some (D.int k)), (some (D.bl v45))), .inl ?_⟩
              unfold L0_law
              simp! only [q44, q47, q50, q51, q54, d221, d222, q58, q59, q60, q61, q64, q67]
            · have d222 := decide_eq_false c222
              replace z53 := Option.some.inj z53
              subst z53
              dsimp! only [d221, d222] at h
              replace h := Option.some.inj h
              subst h
              refine ⟨[w0, w1, some (D.lst true (List.map eTx pool)), some (D.lst false (List.map eTx names)), some (D.lst true (List.map (eP eTx (eQ eTx)) rules)), w5, some (eTree tree), some (D.lst m7 (List.map D.int digits)), some (D.lst true (List.map (eP eTx (eQ eTx)) handed)), some (D.int k), some (D.bl v45)], ?_, rfl⟩
              unfold L0_law
              simp! only [q44, q47, q50, q51, q54, d221, d222]
          · have d221 := decide_eq_false c221
            replace z53 := Option.some.inj z53
            subst z53
            dsimp! only [d221] at h
            replace h := Option.some.inj h
            subst h
            refine ⟨[w0, w1, some (D.lst true (List.map eTx pool)), some (D.lst false (List.map eTx names)), some (D.lst true (List.map (eP eTx (eQ eTx)) rules)), w5, some (eTree tree), some (D.lst m7 (List.map D.int digits)), some (D.lst true (List.map (eP eTx (eQ eTx)) handed)), some (D.int k), some (D.bl v45)], ?_, rfl⟩
            unfold L0_law
            simp! only [q44, q47, q50, q51, q54, d221]
    · skip
      cases m4
      · skip
        cases m8
        · skip
          obtain ⟨v42, e43, h⟩ := Option.bind_eq_some_iff.mp h
          have q44 := ol_ix_lst (e := eTx) true e43
          try simp_arith only [] at q44
          obtain ⟨v45, e46, h⟩ := Option.bind_eq_some_iff.mp h
          have q47 := h_tree_stands false e46
          try simp_arith only [] at q47
          obtain ⟨v52, z53, h⟩ := Option.bind_eq_some_iff.mp h
          try dsimp! only [] at z53
          obtain ⟨v48, e49, z53⟩ := Option.bind_eq_some_iff.mp z53
          have q50 := h_stands false true e49
          try simp_arith only [] at q50
          have q51 := ol_ne_b v45 v48
          try simp_arith only [] at q51
          have q54 := ol_ne_lst (e := (eP eTx (eQ eTx))) (by decide) false false handed rules
          try simp_arith only [] at q54
          by_cases c226 : v45 = v48
          · have d226 := decide_eq_true c226
            by_cases c227 : handed = rules
            · have d227 := decide_eq_true c227
              replace z53 := Option.some.inj z53
              subst z53
              dsimp! only [d226, d227] at h
              have q58 := ol_len_lst (e := (eP eTx (eQ eTx))) false rules
              try simp_arith only [] at q58
              have q59 := ol_mulC (i := 15) (j := k) (cMul_l (by decide))
              try simp_arith only [] at q59
              have q60 := ol_mulC (i := 15) (j := k) (cMul_l (by decide))
              try simp_arith only [] at q60
              have q61 := ol_sl_lst (e := D.int) m7 digits (some (15 * k)) (some ((15 * k) + 15))
              try simp_arith only [] at q61
              obtain ⟨c62, e63, h⟩ := Option.bind_eq_some_iff.mp h
              have q64 := ol_add_lst (e := D.int) true true e63
              try simp_arith only [] at q64
              obtain ⟨v65, e66, h⟩ := Option.bind_eq_some_iff.mp h
              have q67 := h_spoiled true true e66
              try simp_arith only [] at q67
              replace h := Option.some.inj h
              subst h
              refine ⟨((some (D.int k)), (some (D.bl v45))), .inl ?_⟩
              unfold L0_law
              simp! only [q44, q47, q50, q51, q54, d226, d227, q58, q59, q60, q61, q64, q67]
            · have d227 := decide_eq_false c227
              replace z53 := Option.some.inj z53
              subst z53
              dsimp! only [d226, d227] at h
              replace h := Option.some.inj h
              subst h
              refine ⟨[w0, w1, some (D.lst true (List.map eTx pool)), some (D.lst true (List.map eTx names)), some (D.lst false (List.map (eP eTx (eQ eTx)) rules)), w5, some (eTree tree), some (D.lst m7 (List.map D.int digits)), some (D.lst false (List.map (eP eTx (eQ eTx)) handed)), some (D.int k), some (D.bl v45)], ?_, rfl⟩
              unfold L0_law
              simp! only [q44, q47, q50, q51, q54, d226, d227]
          · have d226 := decide_eq_false c226
            replace z53 := Option.some.inj z53
            subst z53
            dsimp! only [d226] at h
            replace h := Option.some.inj h
            subst h
            refine ⟨[w0, w1, some (D.lst true (List.map eTx pool)), some (D.lst true (List.map eTx names)), some (D.lst false (List.map (eP eTx (eQ eTx)) rules)), w5, some (eTree tree), some (D.lst m7 (List.map D.int digits)), some (D.lst false (List.map (eP eTx (eQ eTx)) handed)), some (D.int k), some (D.bl v45)], ?_, rfl⟩
            unfold L0_law
            simp! only [q44, q47, q50, q51, q54, d226]
        · skip
          obtain ⟨v42, e43, h⟩ := Option.bind_eq_some_iff.mp h
          have q44 := ol_ix_lst (e := eTx) true e43
          try simp_arith only [] at q44
          obtain ⟨v45, e46, h⟩ := Option.bind_eq_some_iff.mp h
          have q47 := h_tree_stands true e46
          try simp_arith only [] at q47
          obtain ⟨v52, z53, h⟩ := Option.bind_eq_some_iff.mp h
          try dsimp! only [] at z53
          obtain ⟨v48, e49, z53⟩ := Option.bind_eq_some_iff.mp z53
          have q50 := h_stands false true e49
          try simp_arith only [] at q50
          have q51 := ol_ne_b v45 v48
          try simp_arith only [] at q51
          have q54 := ol_ne_lst (e := (eP eTx (eQ eTx))) (by decide) true false handed rules
          try simp_arith only [] at q54
          by_cases c231 : v45 = v48
          · have d231 := decide_eq_true c231
            by_cases c232 : handed = rules
            · have d232 := decide_eq_true c232
              replace z53 := Option.some.inj z53
              subst z53
              dsimp! only [d231, d232] at h
              have q58 := ol_len_lst (e := (eP eTx (eQ eTx))) false rules
              try simp_arith only [] at q58
              have q59 := ol_mulC (i := 15) (j := k) (cMul_l (by decide))
              try simp_arith only [] at q59
              have q60 := ol_mulC (i := 15) (j := k) (cMul_l (by decide))
              try simp_arith only [] at q60
              have q61 := ol_sl_lst (e := D.int) m7 digits (some (15 * k)) (some ((15 * k) + 15))
              try simp_arith only [] at q61
              obtain ⟨c62, e63, h⟩ := Option.bind_eq_some_iff.mp h
              have q64 := ol_add_lst (e := D.int) true true e63
              try simp_arith only [] at q64
              obtain ⟨v65, e66, h⟩ := Option.bind_eq_some_iff.mp h
              have q67 := h_spoiled true true e66
              try simp_arith only [] at q67
              replace h := Option.some.inj h
              subst h
              refine ⟨((some (D.int k)), (some (D.bl v45))), .inl ?_⟩
              unfold L0_law
              simp! only [q44, q47, q50, q51, q54, d231, d232, q58, q59, q60, q61, q64, q67]
            · have d232 := decide_eq_false c232
              replace z53 := Option.some.inj z53
              subst z53
              dsimp! only [d231, d232] at h
              replace h := Option.some.inj h
              subst h
              refine ⟨[w0, w1, some (D.lst true (List.map eTx pool)), some (D.lst true (List.map eTx names)), some (D.lst false (List.map (eP eTx (eQ eTx)) rules)), w5, some (eTree tree), some (D.lst m7 (List.map D.int digits)), some (D.lst true (List.map (eP eTx (eQ eTx)) handed)), some (D.int k), some (D.bl v45)], ?_, rfl⟩
              unfold L0_law
              simp! only [q44, q47, q50, q51, q54, d231, d232]
          · have d231 := decide_eq_false c231
            replace z53 := Option.some.inj z53
            subst z53
            dsimp! only [d231] at h
            replace h := Option.some.inj h
            subst h
            refine ⟨[w0, w1, some (D.lst true (List.map eTx pool)), some (D.lst true (List.map eTx names)), some (D.lst false (List.map (eP eTx (eQ eTx)) rules)), w5, some (eTree tree), some (D.lst m7 (List.map D.int digits)), some (D.lst true (List.map (eP eTx (eQ eTx)) handed)), some (D.int k), some (D.bl v45)], ?_, rfl⟩
            unfold L0_law
            simp! only [q44, q47, q50, q51, q54, d231]
      · skip
        cases m8
        · skip
          obtain ⟨v42, e43, h⟩ := Option.bind_eq_some_iff.mp h
          have q44 := ol_ix_lst (e := eTx) true e43
          try simp_arith only [] at q44
          obtain ⟨v45, e46, h⟩ := Option.bind_eq_some_iff.mp h
          have q47 := h_tree_stands false e46
          try simp_arith only [] at q47
          obtain ⟨v52, z53, h⟩ := Option.bind_eq_some_iff.mp h
          try dsimp! only [] at z53
          obtain ⟨v48, e49, z53⟩ := Option.bind_eq_some_iff.mp z53
          have q50 := h_stands true true e49
          try simp_arith only [] at q50
          have q51 := ol_ne_b v45 v48
          try simp_arith only [] at q51
          have q54 := ol_ne_lst (e := (eP eTx (eQ eTx))) (by decide) false true handed rules
          try simp_arith only [] at q54
          by_cases c236 : v45 = v48
          · have d236 := decide_eq_true c236
            by_cases c237 : handed = rules
            · have d237 := decide_eq_true c237
              replace z53 := Option.some.inj z53
              subst z53
              dsimp! only [d236, d237] at h
              have q58 := ol_len_lst (e := (eP eTx (eQ eTx))) true rules
              try simp_arith only [] at q58
              have q59 := ol_mulC (i := 15) (j := k) (cMul_l (by decide))
              try simp_arith only [] at q59
              have q60 := ol_mulC (i := 15) (j := k) (cMul_l (by decide))
              try simp_arith only [] at q60
              have q61 := ol_sl_lst (e := D.int) m7 digits (some (15 * k)) (some ((15 * k) + 15))
              try simp_arith only [] at q61
              obtain ⟨c62, e63, h⟩ := Option.bind_eq_some_iff.mp h
              have q64 := ol_add_lst (e := D.int) true true e63
              try simp_arith only [] at q64
              obtain ⟨v65, e66, h⟩ := Option.bind_eq_some_iff.mp h
              have q67 := h_spoiled true true e66
              try simp_arith only [] at q67
              replace h := Option.some.inj h
              subst h
              refine ⟨((some (D.int k)), (some (D.bl v45))), .inl ?_⟩
              unfold L0_law
              simp! only [q44, q47, q50, q51, q54, d236, d237, q58, q59, q60, q61, q64, q67]
            · have d237 := decide_eq_false c237
              replace z53 := Option.some.inj z53
              subst z53
              dsimp! only [d236, d237] at h
              replace h := Option.some.inj h
              subst h
              refine ⟨[w0, w1, some (D.lst true (List.map eTx pool)), some (D.lst true (List.map eTx names)), some (D.lst true (List.map (eP eTx (eQ eTx)) rules)), w5, some (eTree tree), some (D.lst m7 (List.map D.int digits)), some (D.lst false (List.map (eP eTx (eQ eTx)) handed)), some (D.int k), some (D.bl v45)], ?_, rfl⟩
              unfold L0_law
              simp! only [q44, q47, q50, q51, q54, d236, d237]
          · have d236 := decide_eq_false c236
            replace z53 := Option.some.inj z53
            subst z53
            dsimp! only [d236] at h
            replace h := Option.some.inj h
            subst h
            refine ⟨[w0, w1, some (D.lst true (List.map eTx pool)), some (D.lst true (List.map eTx names)), some (D.lst true (List.map (eP eTx (eQ eTx)) rules)), w5, some (eTree tree), some (D.lst m7 (List.map D.int digits)), some (D.lst false (List.map (eP eTx (eQ eTx)) handed)), some (D.int k), some (D.bl v45)], ?_, rfl⟩
            unfold L0_law
            simp! only [q44, q47, q50, q51, q54, d236]
        · skip
          obtain ⟨v42, e43, h⟩ := Option.bind_eq_some_iff.mp h
          have q44 := ol_ix_lst (e := eTx) true e43
          try simp_arith only [] at q44
          obtain ⟨v45, e46, h⟩ := Option.bind_eq_some_iff.mp h
          have q47 := h_tree_stands true e46
          try simp_arith only [] at q47
          obtain ⟨v52, z53, h⟩ := Option.bind_eq_some_iff.mp h
          try dsimp! only [] at z53
          obtain ⟨v48, e49, z53⟩ := Option.bind_eq_some_iff.mp z53
          have q50 := h_stands true true e49
          try simp_arith only [] at q50
          have q51 := ol_ne_b v45 v48
          try simp_arith only [] at q51
          have q54 := ol_ne_lst (e := (eP eTx (eQ eTx))) (by decide) true true handed rules
          try simp_arith only [] at q54
          by_cases c241 : v45 = v48
          · have d241 := decide_eq_true c241
            by_cases c242 : handed = rules
            · have d242 := decide_eq_true c242
              replace z53 := Option.some.inj z53
              subst z53
              dsimp! only [d241, d242] at h
              have q58 := ol_len_lst (e := (eP eTx (eQ eTx))) true rules
              try simp_arith only [] at q58
              have q59 := ol_mulC (i := 15) (j := k) (cMul_l (by decide))
              try simp_arith only [] at q59
              have q60 := ol_mulC (i := 15) (j := k) (cMul_l (by decide))
              try simp_arith only [] at q60
              have q61 := ol_sl_lst (e := D.int) m7 digits (some (15 * k)) (some ((15 * k) + 15))
              try simp_arith only [] at q61
              obtain ⟨c62, e63, h⟩ := Option.bind_eq_some_iff.mp h
              have q64 := ol_add_lst (e := D.int) true true e63
              try simp_arith only [] at q64
              obtain ⟨v65, e66, h⟩ := Option.bind_eq_some_iff.mp h
              have q67 := h_spoiled true true e66
              try simp_arith only [] at q67
              replace h := Option.some.inj h
              subst h
              refine ⟨((some (D.int k)), (some (D.bl v45))), .inl ?_⟩
              unfold L0_law
              simp! only [q44, q47, q50, q51, q54, d241, d242, q58, q59, q60, q61, q64, q67]
            · have d242 := decide_eq_false c242
              replace z53 := Option.some.inj z53
              subst z53
              dsimp! only [d241, d242] at h
              replace h := Option.some.inj h
              subst h
              refine ⟨[w0, w1, some (D.lst true (List.map eTx pool)), some (D.lst true (List.map eTx names)), some (D.lst true (List.map (eP eTx (eQ eTx)) rules)), w5, some (eTree tree), some (D.lst m7 (List.map D.int digits)), some (D.lst true (List.map (eP eTx (eQ eTx)) handed)), some (D.int k), some (D.bl v45)], ?_, rfl⟩
              unfold L0_law
              simp! only [q44, q47, q50, q51, q54, d241, d242]
          · have d241 := decide_eq_false c241
            replace z53 := Option.some.inj z53
            subst z53
            dsimp! only [d241] at h
            replace h := Option.some.inj h
            subst h
            refine ⟨[w0, w1, some (D.lst true (List.map eTx pool)), some (D.lst true (List.map eTx names)), some (D.lst true (List.map (eP eTx (eQ eTx)) rules)), w5, some (eTree tree), some (D.lst m7 (List.map D.int digits)), some (D.lst true (List.map (eP eTx (eQ eTx)) handed)), some (D.int k), some (D.bl v45)], ?_, rfl⟩
            unfold L0_law
            simp! only [q44, q47, q50, q51, q54, d241]
theorem p_F1_law_sim (s : Nat → Fd) (h_cell_at : Sim_cell_at (s 1)) (h_pool : Sim_pool (s 4)) (h_rules : Sim_rules (s 6)) (h_tree : Sim_tree (p_tree 30) (s 7)) (h_digits : Sim_digits (s 3)) (h_tree_stands : Sim_tree_stands (s 11)) (h_stands : Sim_stands (p_stands 30) (s 14)) (h_spoiled : Sim_spoiled (p_spoiled 30) (s 13)) {m2 : Bool} {m3 : Bool} {m4 : Bool} {m7 : Bool} {m8 : Bool} {w0 : Option D} {w1 : Option D} {pool : (List Tx)} {names : (List Tx)} {rules : (List (Tx × (List Tx)))} {w5 : Option D} {tree : Tre} {digits : (List Int)} {handed : (List (Tx × (List Tx)))} {r : (Fl (Tre) Bool)} (h : p_F1_law pool names rules tree digits handed = some r) :
    FlE (fun (r : Tre) (j : Option D × Option D) => [w0, w1, some (D.lst m2 (List.map eTx pool)), some (D.lst m3 (List.map eTx names)), some (D.lst m4 (List.map (eP eTx (eQ eTx)) rules)), w5, some (eTree r), some (D.lst m7 (List.map D.int digits)), some (D.lst m8 (List.map (eP eTx (eQ eTx)) handed)), j.1, j.2]) (fun (r : Bool) (o : Option Out) => ∃ E', o = some (.rt (D.bl r) E') ∧ E'.length = 11) r (F1_law s [w0, w1, some (D.lst m2 (List.map eTx pool)), some (D.lst m3 (List.map eTx names)), some (D.lst m4 (List.map (eP eTx (eQ eTx)) rules)), w5, some (eTree tree), some (D.lst m7 (List.map D.int digits)), some (D.lst m8 (List.map (eP eTx (eQ eTx)) handed)), none, none]) := by
  unfold p_F1_law at h
  obtain ⟨xs38, e39, h⟩ := Option.bind_eq_some_iff.mp h
  obtain ⟨q40, q41⟩ := ol_rng e39
  try simp_arith only [] at q40
  try simp_arith only [] at q41
  have key : ∀ s1 (j : Option D × Option D) x r, (fun (s1 : Tre) (x : Int) => p_L0_law pool names rules s1 digits handed x) s1 x = some r → ∃ E1, (stNm 9) (D.int x) ((fun (s1 : Tre) (j : Option D × Option D) => [w0, w1, some (D.lst m2 (List.map eTx pool)), some (D.lst m3 (List.map eTx names)), some (D.lst m4 (List.map (eP eTx (eQ eTx)) rules)), w5, some (eTree s1), some (D.lst m7 (List.map D.int digits)), some (D.lst m8 (List.map (eP eTx (eQ eTx)) handed)), j.1, j.2]) s1 j) = some E1 ∧ FlS (fun (s1 : Tre) (j : Option D × Option D) => [w0, w1, some (D.lst m2 (List.map eTx pool)), some (D.lst m3 (List.map eTx names)), some (D.lst m4 (List.map (eP eTx (eQ eTx)) rules)), w5, some (eTree s1), some (D.lst m7 (List.map D.int digits)), some (D.lst m8 (List.map (eP eTx (eQ eTx)) handed)), j.1, j.2]) (fun (r : Bool) (o : Option Out) => ∃ E', o = some (.rt (D.bl r) E') ∧ E'.length = 11) r (L0_law s E1) :=
    fun s1 j x r hx => ⟨_, rfl, p_L0_law_sim s h_cell_at h_pool h_rules h_tree h_digits h_tree_stands h_stands h_spoiled (m2 := m2) (m3 := m3) (m4 := m4) (m7 := m7) (m8 := m8) (w0 := (w0)) (w1 := (w1)) (pool := pool) (names := names) (rules := rules) (w5 := (w5)) (tree := s1) (digits := digits) (handed := handed) (k := x) (w10 := (j.2)) hx⟩
  have hQ : Rts (fun (r : Bool) (o : Option Out) => ∃ E', o = some (.rt (D.bl r) E') ∧ E'.length = 11) := fun r o ⟨E', z, _⟩ => ⟨_, _, z⟩
  have hj := forIt_for hQ key ((none), (none)) h
  rcases r with r | r
  · obtain ⟨jr, hj⟩ := hj
    try simp_arith only [] at hj
    exact ⟨jr, by unfold F1_law; simp! only [q40, q41, hj]⟩
  · obtain ⟨E', hj, z0⟩ := hj
    try simp_arith only [] at hj
    exact ⟨E', by unfold F1_law; simp! only [q40, q41, hj], z0⟩
theorem sim_law (s : Nat → Fd) (h_cell_at : Sim_cell_at (s 1)) (h_pool : Sim_pool (s 4)) (h_rules : Sim_rules (s 6)) (h_tree : Sim_tree (p_tree 30) (s 7)) (h_digits : Sim_digits (s 3)) (h_tree_stands : Sim_tree_stands (s 11)) (h_stands : Sim_stands (p_stands 30) (s 14)) (h_spoiled : Sim_spoiled (p_spoiled 30) (s 13)) : Sim_law (fnD 1 11 [1, 2, 3, 4, 5, 6, 7, 8, 9, 10, 6] (b_law s)) := by
  intro script r h
  unfold p_law at h
  obtain ⟨v1, e2, h⟩ := Option.bind_eq_some_iff.mp h
  have q3 := h_cell_at  e2
  try simp_arith only [] at q3
  have q4 := ol_divC (i := v1) (j := 3) (by decide)
  try simp_arith only [] at q4
  obtain ⟨v5, e6, h⟩ := Option.bind_eq_some_iff.mp h
  have q7 := h_pool  e6
  try simp_arith only [] at q7
  have q8 := ol_modC (i := v1) (j := 3) (by decide)
  try simp_arith only [] at q8
  have q9 := ol_sl_lst (e := eTx) true v5 none (some (1 + (v1 % 3)))
  try simp_arith only [] at q9
  obtain ⟨names10, e11, h⟩ := Option.bind_eq_some_iff.mp h
  replace e11 := Option.some.inj e11
  subst e11
  have q12 := ol_divC (i := v1) (j := 3) (by decide)
  try simp_arith only [] at q12
  have q13 := ol_sl_lst (e := eTx) true v5 (some 3) none
  try simp_arith only [] at q13
  have q14 := ol_sl_scr (e := D.int) script (some 3) (some 11)
  try simp_arith only [] at q14
  obtain ⟨v15, e16, h⟩ := Option.bind_eq_some_iff.mp h
  have q17 := h_rules true true true e16
  try simp_arith only [] at q17
  obtain ⟨v18, e19, h⟩ := Option.bind_eq_some_iff.mp h
  have q20 := h_cell_at  e19
  try simp_arith only [] at q20
  obtain ⟨v21, e22, h⟩ := Option.bind_eq_some_iff.mp h
  have q23 := ol_ix_lst (e := eTx) true e22
  try simp_arith only [] at q23
  have q24 := ol_modC (i := v18) (j := 12) (by decide)
  try simp_arith only [] at q24
  obtain ⟨v25, e26, h⟩ := Option.bind_eq_some_iff.mp h
  have q27 := h_digits  e26
  try simp_arith only [] at q27
  obtain ⟨v28, e29, h⟩ := Option.bind_eq_some_iff.mp h
  have q30 := h_tree true true e29
  try simp_arith only [] at q30
  obtain ⟨v31, e32, h⟩ := Option.bind_eq_some_iff.mp h
  have q33 := h_cell_at  e32
  try simp_arith only [] at q33
  obtain ⟨v34, e35, h⟩ := Option.bind_eq_some_iff.mp h
  have q36 := h_digits  e35
  try simp_arith only [] at q36
  have q37 := ol_list_lst true (List.map (eP eTx (eQ eTx)) v15)
  try simp_arith only [] at q37
  obtain ⟨v150, e151, h⟩ := Option.bind_eq_some_iff.mp h
  have q152 := p_F1_law_sim s h_cell_at h_pool h_rules h_tree h_digits h_tree_stands h_stands h_spoiled (m2 := true) (m3 := true) (m4 := true) (m7 := true) (m8 := true) (w0 := (some (D.scr (List.map D.int script)))) (w1 := (some (D.int v1))) (pool := v5) (names := (cutA v5 none (some (1 + (v1 % 3))))) (rules := v15) (w5 := (some (D.int v18))) (tree := v28.1) (digits := v34) (handed := v15) e151
  rcases v150 with s154 | r155
  · dsimp only [Fl.go] at h
    obtain ⟨j153, q152⟩ := q152
    try simp_arith only [] at q152
    replace h := Option.some.inj h
    subst h
    have qa : argsOf [(D.scr (List.map D.int script))] [some (D.scr (List.map D.int script)), some (D.int v1), some (D.lst true (List.map eTx v5)), some (D.lst true (List.map eTx (cutA v5 none (some (1 + (v1 % 3)))))), some (D.lst true (List.map (eP eTx (eQ eTx)) v15)), some (D.int v18), some (eTree s154), some (D.lst true (List.map D.int v34)), some (D.lst true (List.map (eP eTx (eQ eTx)) v15)), j153.1, j153.2] = some [(D.scr (List.map D.int script))] := argsOf_P ⟨_, _, rfl, .inl ⟨by first | rfl | exact isF_tree _ | exact isF_e _ _ | simp! only [], rfl, show 0 < 11 from by decide⟩, rfl⟩
    try simp_arith only [] at qa
    unfold b_law
    simp! only [q3, q4, q7, q8, q9, q12, q13, q14, q17, q20, q23, q24, q27, q30, q33, q36, q37, q152, qa]
  · dsimp only [Fl.go] at h
    obtain ⟨E156, q152, q157⟩ := q152
    try simp_arith only [] at q152
    replace h := Option.some.inj h
    subst h
    have qa : argsOf [(D.scr (List.map D.int script))] E156 = some [(D.scr (List.map D.int script))] := argsOf_P ⟨_, _, rfl, .inl ⟨by first | rfl | exact isF_tree _ | exact isF_e _ _ | simp! only [], rfl, by rw [q157]; decide⟩, rfl⟩
    try simp_arith only [] at qa
    unfold b_law
    simp! only [q3, q4, q7, q8, q9, q12, q13, q14, q17, q20, q23, q24, q27, q30, q33, q36, q37, q152, qa]
def topS (i : Nat) : Stmt := PySem.Challenge.pw_wright_k29_trees_by_anybody.main.body.getD i (.Pass ⟨0, 0, 0, 0⟩)
abbrev st_cell_at : Stmt := topS 6
def d_cell_at : Df := ⟨1, "_law_cell_at", "_law_cell_at", st_cell_at, ["_law_script", "_law_k"], ["_law_script", "_law_k"], [], b_cell_at⟩
abbrev st_stream : Stmt := topS 7
def d_stream : Df := ⟨2, "_law_stream", "_law_stream", st_stream, ["_law_cell", "_law_many", "_law_found", "_law_number", "_law_k"], ["_law_cell", "_law_many"], [2, 3, 4, 3], b_stream⟩
abbrev st_digits : Stmt := topS 9
def d_digits : Df := ⟨3, "_law_digits", "_law_digits", st_digits, ["_law_cell", "_law_many", "_law_digits_here", "_law_k"], ["_law_cell", "_law_many"], [2, 3, 0], b_digits⟩
abbrev st_pool : Stmt := topS 8
def d_pool : Df := ⟨4, "_law_pool", "_law_pool", st_pool, ["_law_cell", "_law_many", "_law_signs", "_law_draws", "_law_size", "_law_at", "_law_base", "_law_found", "_law_k", "_law_sign", "_law_end", "_law_draw"], ["_law_cell", "_law_many"], [2, 3, 4, 5, 6, 7, 8, 9, 10], b_pool⟩
abbrev st_rules : Stmt := topS 10
def d_rules : Df := ⟨6, "_law_rules", "_law_rules", st_rules, ["_law_cell", "_law_names", "_law_words", "_law_cells", "_law_rules_here", "_law_pool_here", "_law_one", "_law_at", "_law_draw", "_law_parts", "_law_digits_here", "_law_many", "_law_digit", "_law_size"], ["_law_cell", "_law_names", "_law_words", "_law_cells"], [4, 7, 8, 9, 5, 6, 10, 11, 9], b_rules⟩
abbrev st_spoiled : Stmt := topS 12
def d_spoiled : Df := ⟨13, "_law_spoiled", "_law_spoiled", st_spoiled, ["_law_tree_here", "_law_pool_here", "_law_many", "_law_digits_here", "_law_way", "_law_at", "_law_below", "_law_number", "_law_children"], ["_law_tree_here", "_law_pool_here", "_law_many", "_law_digits_here"], [4, 7, 8, 5, 6], b_spoiled⟩
abbrev st_stands : Stmt := topS 13
def d_stands : Df := ⟨14, "_law_stands", "_law_stands", st_stands, ["_law_rules_here", "_law_names", "_law_tree_here", "_law_part", "_law_head", "_law_parts", "_law_child", "_law_one"], ["_law_rules_here", "_law_names", "_law_tree_here", "_law_part"], [4, 5], b_stands⟩
abbrev st_tree : Stmt := topS 11
def d_tree : Df := ⟨7, "_law_tree", "_law_tree", st_tree, ["_law_rules_here", "_law_names", "_law_name", "_law_digits_here", "_law_numbers", "_law_number", "_law_children", "_law_part"], ["_law_rules_here", "_law_names", "_law_name", "_law_digits_here"], [4, 5, 5, 6, 7], b_tree⟩
abbrev st_has_rule : Stmt := topS 3
def d_has_rule : Df := ⟨9, "has_rule", "has_rule", st_has_rule, ["rules", "tree", "name", "head", "parts"], ["rules", "tree", "name"], [3, 4], b_has_rule⟩
abbrev st_heads_of : Stmt := topS 1
def d_heads_of : Df := ⟨10, "heads_of", "heads_of", st_heads_of, ["rules", "heads", "head", "parts"], ["rules"], [1, 2, 3], b_heads_of⟩
abbrev st_tree_stands : Stmt := topS 4
def d_tree_stands : Df := ⟨11, "tree_stands", "tree_stands", st_tree_stands, ["rules", "tree", "name", "heads", "todo", "one", "part"], ["rules", "tree", "name"], [3, 4, 5, 6], b_tree_stands⟩
abbrev st_law : Stmt := topS 14
def d_law : Df := ⟨0, "law", "law", st_law, ["_law_script", "_law_first", "_law_pool_here", "_law_names", "_law_rules_here", "_law_cell", "_law_tree_here", "_law_digits_here", "_law_handed", "_law_k", "_law_found"], ["_law_script"], [1, 2, 3, 4, 5, 6, 7, 8, 9, 10, 6], b_law⟩
def defs : List Df := [d_cell_at, d_stream, d_digits, d_pool, d_rules, d_spoiled, d_stands, d_tree, d_has_rule, d_heads_of, d_tree_stands, d_law]
def blt : List Str := ["len", "range", "enumerate", "tuple", "isinstance", "str", "max", "all", "zip", "list", "bool"]
def con : List (Str × D) := []
theorem sc_cell_at : FnScope d_cell_at.N d_cell_at.ps (defScope d_cell_at.st) := ⟨rfl, rfl, rfl, by decide +kernel, rfl, by decide +kernel, by decide +kernel⟩
theorem ok_cell_at : (fun s => seqS (cS 40 (cfOf defs blt con 100000 d_cell_at s)) (defBody d_cell_at.st)) = fun s => some (d_cell_at.body s, d_cell_at.as) := by kernel_rfl
theorem sc_stream : FnScope d_stream.N d_stream.ps (defScope d_stream.st) := ⟨rfl, rfl, rfl, by decide +kernel, rfl, by decide +kernel, by decide +kernel⟩
theorem ok_stream : (fun s => seqS (cS 40 (cfOf defs blt con 100000 d_stream s)) (defBody d_stream.st)) = fun s => some (d_stream.body s, d_stream.as) := by kernel_rfl
theorem sc_digits : FnScope d_digits.N d_digits.ps (defScope d_digits.st) := ⟨rfl, rfl, rfl, by decide +kernel, rfl, by decide +kernel, by decide +kernel⟩
theorem ok_digits : (fun s => seqS (cS 40 (cfOf defs blt con 100000 d_digits s)) (defBody d_digits.st)) = fun s => some (d_digits.body s, d_digits.as) := by kernel_rfl
theorem sc_pool : FnScope d_pool.N d_pool.ps (defScope d_pool.st) := ⟨rfl, rfl, rfl, by decide +kernel, rfl, by decide +kernel, by decide +kernel⟩
theorem ok_pool : (fun s => seqS (cS 40 (cfOf defs blt con 100000 d_pool s)) (defBody d_pool.st)) = fun s => some (d_pool.body s, d_pool.as) := by kernel_rfl
theorem sc_rules : FnScope d_rules.N d_rules.ps (defScope d_rules.st) := ⟨rfl, rfl, rfl, by decide +kernel, rfl, by decide +kernel, by decide +kernel⟩
theorem ok_rules : (fun s => seqS (cS 40 (cfOf defs blt con 100000 d_rules s)) (defBody d_rules.st)) = fun s => some (d_rules.body s, d_rules.as) := by kernel_rfl
theorem sc_spoiled : FnScope d_spoiled.N d_spoiled.ps (defScope d_spoiled.st) := ⟨rfl, rfl, rfl, by decide +kernel, rfl, by decide +kernel, by decide +kernel⟩
theorem ok_spoiled : (fun s => seqS (cS 40 (cfOf defs blt con 100000 d_spoiled s)) (defBody d_spoiled.st)) = fun s => some (d_spoiled.body s, d_spoiled.as) := by kernel_rfl
theorem sc_stands : FnScope d_stands.N d_stands.ps (defScope d_stands.st) := ⟨rfl, rfl, rfl, by decide +kernel, rfl, by decide +kernel, by decide +kernel⟩
theorem ok_stands : (fun s => seqS (cS 40 (cfOf defs blt con 100000 d_stands s)) (defBody d_stands.st)) = fun s => some (d_stands.body s, d_stands.as) := by kernel_rfl
theorem sc_tree : FnScope d_tree.N d_tree.ps (defScope d_tree.st) := ⟨rfl, rfl, rfl, by decide +kernel, rfl, by decide +kernel, by decide +kernel⟩
theorem ok_tree : (fun s => seqS (cS 40 (cfOf defs blt con 100000 d_tree s)) (defBody d_tree.st)) = fun s => some (d_tree.body s, d_tree.as) := by kernel_rfl
theorem sc_has_rule : FnScope d_has_rule.N d_has_rule.ps (defScope d_has_rule.st) := ⟨rfl, rfl, rfl, by decide +kernel, rfl, by decide +kernel, by decide +kernel⟩
theorem ok_has_rule : (fun s => seqS (cS 40 (cfOf defs blt con 100000 d_has_rule s)) (defBody d_has_rule.st)) = fun s => some (d_has_rule.body s, d_has_rule.as) := by kernel_rfl
theorem sc_heads_of : FnScope d_heads_of.N d_heads_of.ps (defScope d_heads_of.st) := ⟨rfl, rfl, rfl, by decide +kernel, rfl, by decide +kernel, by decide +kernel⟩
theorem ok_heads_of : (fun s => seqS (cS 40 (cfOf defs blt con 100000 d_heads_of s)) (defBody d_heads_of.st)) = fun s => some (d_heads_of.body s, d_heads_of.as) := by kernel_rfl
theorem sc_tree_stands : FnScope d_tree_stands.N d_tree_stands.ps (defScope d_tree_stands.st) := ⟨rfl, rfl, rfl, by decide +kernel, rfl, by decide +kernel, by decide +kernel⟩
theorem ok_tree_stands : (fun s => seqS (cS 40 (cfOf defs blt con 100000 d_tree_stands s)) (defBody d_tree_stands.st)) = fun s => some (d_tree_stands.body s, d_tree_stands.as) := by kernel_rfl
theorem sc_law : FnScope d_law.N d_law.ps (defScope d_law.st) := ⟨rfl, rfl, rfl, by decide +kernel, rfl, by decide +kernel, by decide +kernel⟩
theorem ok_law : (fun s => seqS (cS 40 (cfOf defs blt con 100000 d_law s)) (defBody d_law.st)) = fun s => some (d_law.body s, d_law.as) := by kernel_rfl
theorem goods : ∀ d, d ∈ defs → Good1 defs blt con 100000 d := by
  intro d hd
  simp only [defs, List.mem_cons, List.not_mem_nil, or_false] at hd
  rcases hd with rfl | rfl | rfl | rfl | rfl | rfl | rfl | rfl | rfl | rfl | rfl | rfl
  · exact ⟨sc_cell_at, by decide, ok_cell_at⟩
  · exact ⟨sc_stream, by decide, ok_stream⟩
  · exact ⟨sc_digits, by decide, ok_digits⟩
  · exact ⟨sc_pool, by decide, ok_pool⟩
  · exact ⟨sc_rules, by decide, ok_rules⟩
  · exact ⟨sc_spoiled, by decide, ok_spoiled⟩
  · exact ⟨sc_stands, by decide, ok_stands⟩
  · exact ⟨sc_tree, by decide, ok_tree⟩
  · exact ⟨sc_has_rule, by decide, ok_has_rule⟩
  · exact ⟨sc_heads_of, by decide, ok_heads_of⟩
  · exact ⟨sc_tree_stands, by decide, ok_tree_stands⟩
  · exact ⟨sc_law, by decide, ok_law⟩
theorem finds : ∀ d, d ∈ defs → fnd defs d.id = some d := by
  intro d hd
  simp only [defs, List.mem_cons, List.not_mem_nil, or_false] at hd
  rcases hd with rfl | rfl | rfl | rfl | rfl | rfl | rfl | rfl | rfl | rfl | rfl | rfl <;> rfl
theorem e_cell_at (n : Nat) : sem defs (n + 1) 1 = fnD 2 2 [] (b_cell_at (sem defs n)) := rfl
theorem lv_cell_at (N : Nat) (hN : 1 ≤ N) : Sim_cell_at (sem defs N 1) := by
  obtain ⟨n, rfl⟩ : ∃ n, N = n + 1 := ⟨N - 1, by omega⟩
  rw [e_cell_at]
  exact sim_cell_at (sem defs n) 
theorem e_stream (n : Nat) : sem defs (n + 1) 2 = fnD 2 5 [2, 3, 4, 3] (b_stream (sem defs n)) := rfl
theorem lv_stream (N : Nat) (hN : 1 ≤ N) : Sim_stream (sem defs N 2) := by
  obtain ⟨n, rfl⟩ : ∃ n, N = n + 1 := ⟨N - 1, by omega⟩
  rw [e_stream]
  exact sim_stream (sem defs n) 
theorem e_digits (n : Nat) : sem defs (n + 1) 3 = fnD 2 4 [2, 3, 0] (b_digits (sem defs n)) := rfl
theorem lv_digits (N : Nat) (hN : 2 ≤ N) : Sim_digits (sem defs N 3) := by
  obtain ⟨n, rfl⟩ : ∃ n, N = n + 1 := ⟨N - 1, by omega⟩
  rw [e_digits]
  exact sim_digits (sem defs n) (lv_stream n (by omega))
theorem e_pool (n : Nat) : sem defs (n + 1) 4 = fnD 2 12 [2, 3, 4, 5, 6, 7, 8, 9, 10] (b_pool (sem defs n)) := rfl
theorem lv_pool (N : Nat) (hN : 2 ≤ N) : Sim_pool (sem defs N 4) := by
  obtain ⟨n, rfl⟩ : ∃ n, N = n + 1 := ⟨N - 1, by omega⟩
  rw [e_pool]
  exact sim_pool (sem defs n) (lv_stream n (by omega))
theorem e_rules (n : Nat) : sem defs (n + 1) 6 = fnD 4 14 [4, 7, 8, 9, 5, 6, 10, 11, 9] (b_rules (sem defs n)) := rfl
theorem lv_rules (N : Nat) (hN : 3 ≤ N) : Sim_rules (sem defs N 6) := by
  obtain ⟨n, rfl⟩ : ∃ n, N = n + 1 := ⟨N - 1, by omega⟩
  rw [e_rules]
  exact sim_rules (sem defs n) (lv_stream n (by omega)) (lv_digits n (by omega))
theorem e_spoiled (n : Nat) : sem defs (n + 1) 13 = fnD 4 9 [4, 7, 8, 5, 6] (b_spoiled (sem defs n)) := rfl
theorem lv_spoiled : ∀ F N, 0 + F ≤ N → Sim_spoiled (p_spoiled F) (sem defs N 13) := by
  intro F
  induction F with
  | zero => intro N _; unfold Sim_spoiled; intros; rename_i h; cases h
  | succ F ih =>
    intro N hN
    obtain ⟨n, rfl⟩ : ∃ n, N = n + 1 := ⟨N - 1, by omega⟩
    rw [e_spoiled]
    exact sim_spoiled (sem defs n) (ih n (by omega))
theorem e_stands (n : Nat) : sem defs (n + 1) 14 = fnD 4 8 [4, 5] (b_stands (sem defs n)) := rfl
theorem lv_stands : ∀ F N, 0 + F ≤ N → Sim_stands (p_stands F) (sem defs N 14) := by
  intro F
  induction F with
  | zero => intro N _; unfold Sim_stands; intros; rename_i h; cases h
  | succ F ih =>
    intro N hN
    obtain ⟨n, rfl⟩ : ∃ n, N = n + 1 := ⟨N - 1, by omega⟩
    rw [e_stands]
    exact sim_stands (sem defs n) (ih n (by omega))
theorem e_tree (n : Nat) : sem defs (n + 1) 7 = fnD 4 8 [4, 5, 5, 6, 7] (b_tree (sem defs n)) := rfl
theorem lv_tree : ∀ F N, 0 + F ≤ N → Sim_tree (p_tree F) (sem defs N 7) := by
  intro F
  induction F with
  | zero => intro N _; unfold Sim_tree; intros; rename_i h; cases h
  | succ F ih =>
    intro N hN
    obtain ⟨n, rfl⟩ : ∃ n, N = n + 1 := ⟨N - 1, by omega⟩
    rw [e_tree]
    exact sim_tree (sem defs n) (ih n (by omega))
theorem e_has_rule (n : Nat) : sem defs (n + 1) 9 = fnD 3 5 [3, 4] (b_has_rule (sem defs n)) := rfl
theorem lv_has_rule (N : Nat) (hN : 1 ≤ N) : Sim_has_rule (sem defs N 9) := by
  obtain ⟨n, rfl⟩ : ∃ n, N = n + 1 := ⟨N - 1, by omega⟩
  rw [e_has_rule]
  exact sim_has_rule (sem defs n) 
theorem e_heads_of (n : Nat) : sem defs (n + 1) 10 = fnD 1 4 [1, 2, 3] (b_heads_of (sem defs n)) := rfl
theorem lv_heads_of (N : Nat) (hN : 1 ≤ N) : Sim_heads_of (sem defs N 10) := by
  obtain ⟨n, rfl⟩ : ∃ n, N = n + 1 := ⟨N - 1, by omega⟩
  rw [e_heads_of]
  exact sim_heads_of (sem defs n) 
theorem e_tree_stands (n : Nat) : sem defs (n + 1) 11 = fnD 3 7 [3, 4, 5, 6] (b_tree_stands (sem defs n)) := rfl
theorem lv_tree_stands (N : Nat) (hN : 2 ≤ N) : Sim_tree_stands (sem defs N 11) := by
  obtain ⟨n, rfl⟩ : ∃ n, N = n + 1 := ⟨N - 1, by omega⟩
  rw [e_tree_stands]
  exact sim_tree_stands (sem defs n) (lv_heads_of n (by omega)) (lv_has_rule n (by omega))
theorem e_law (n : Nat) : sem defs (n + 1) 0 = fnD 1 11 [1, 2, 3, 4, 5, 6, 7, 8, 9, 10, 6] (b_law (sem defs n)) := rfl
theorem lv_law (N : Nat) (hN : 31 ≤ N) : Sim_law (sem defs N 0) := by
  obtain ⟨n, rfl⟩ : ∃ n, N = n + 1 := ⟨N - 1, by omega⟩
  rw [e_law]
  exact sim_law (sem defs n) (lv_cell_at n (by omega)) (lv_pool n (by omega)) (lv_rules n (by omega)) (lv_tree 30 n (by omega)) (lv_digits n (by omega)) (lv_tree_stands n (by omega)) (lv_stands 30 n (by omega)) (lv_spoiled 30 n (by omega))
set_option maxHeartbeats 1000000
theorem pFold_inv {σ α : Type} {f : σ → α → Option σ} {items : List α} (I : List α → σ → Prop)
    (h : ∀ pre x post s, items = pre ++ x :: post → I pre s → ∃ s', f s x = some s' ∧ I (pre ++ [x]) s') {s : σ} (h0 : I [] s) :
    ∃ s', pFold f items s = some s' ∧ I items s' := by
  have gen : ∀ post pre s, items = pre ++ post → I pre s → ∃ s', pFold f post s = some s' ∧ I items s' := by
    intro post
    induction post with
    | nil =>
      intro pre s e hi
      rw [List.append_nil] at e
      subst e
      exact ⟨s, rfl, hi⟩
    | cons x post ih =>
      intro pre s e hi
      obtain ⟨s1, h1, h2⟩ := h pre x post s e hi
      obtain ⟨s2, h3, h4⟩ := ih (pre ++ [x]) s1 (by rw [e, List.append_assoc]; rfl) h2
      exact ⟨s2, by rw [pFold, h1]; exact h3, h4⟩
  exact gen items [] s rfl h0
theorem pFold_eq {σ α : Type} {f : σ → α → Option σ} (g : σ → α → σ) : ∀ {items : List α} {s : σ}, (∀ s x, x ∈ items → f s x = some (g s x)) → pFold f items s = some (items.foldl g s)
  | [], _, _ => rfl
  | x :: xs, s, h => by
    rw [pFold, h s x (List.mem_cons_self ..)]
    exact pFold_eq g fun s y hy => h s y (List.mem_cons_of_mem _ hy)
theorem pFor_inv {σ α ρ : Type} {f : σ → α → Option (Fl σ ρ)} {items : List α} (I : List α → σ → Prop)
    (h : ∀ pre x post s, items = pre ++ x :: post → I pre s → ∃ s', f s x = some (.nx s') ∧ I (pre ++ [x]) s') {s : σ} (h0 : I [] s) :
    ∃ s', pFor f items s = some (.nx s') ∧ I items s' := by
  have gen : ∀ post pre s, items = pre ++ post → I pre s → ∃ s', pFor f post s = some (.nx s') ∧ I items s' := by
    intro post
    induction post with
    | nil =>
      intro pre s e hi
      rw [List.append_nil] at e
      subst e
      exact ⟨s, rfl, hi⟩
    | cons x post ih =>
      intro pre s e hi
      obtain ⟨s1, h1, h2⟩ := h pre x post s e hi
      obtain ⟨s2, h3, h4⟩ := ih (pre ++ [x]) s1 (by rw [e, List.append_assoc]; rfl) h2
      exact ⟨s2, by rw [pFor, h1]; exact h3, h4⟩
  exact gen items [] s rfl h0
theorem pFor_unit {α ρ : Type} {f : Unit → α → Option (Fl Unit ρ)} : ∀ {items : List α}, (∀ x, x ∈ items → f () x = some (.nx ())) → pFor f items () = some (.nx ())
  | [], _ => rfl
  | x :: xs, h => by
    rw [pFor, h x (List.mem_cons_self ..)]
    exact pFor_unit fun y hy => h y (List.mem_cons_of_mem _ hy)
theorem pLc_fm {α β : Type} {f : α → Option (Option β)} (g : α → Option β) : ∀ {items : List α} {acc : List β}, (∀ x, x ∈ items → f x = some (g x)) → acc.length + items.length ≤ 1000000 → pLc f items acc = some (acc ++ items.filterMap g)
  | [], acc, _, _ => by rw [pLc, List.filterMap_nil, List.append_nil]
  | x :: xs, acc, h, hl => by
    rw [List.length_cons] at hl
    have hx := h x (List.mem_cons_self ..)
    have hr := fun y hy => h y (List.mem_cons_of_mem x hy)
    rw [pLc, hx, List.filterMap_cons]
    cases hg : g x with
    | none =>
      show pLc f xs acc = _
      exact pLc_fm g hr (by omega)
    | some y =>
      show (if acc.length < 1000000 then pLc f xs (acc ++ [y]) else none) = _
      rw [if_pos (by omega), pLc_fm g hr (by rw [List.length_append, List.length_singleton]; omega), List.append_assoc]
      rfl
theorem pLc_map {α β : Type} {f : α → Option (Option β)} (g : α → β) {items : List α} (h : ∀ x, x ∈ items → f x = some (some (g x))) (hl : items.length ≤ 1000000) : pLc f items [] = some (items.map g) := by
  rw [pLc_fm (fun x => some (g x)) h (by simpa using hl), List.nil_append]
  congr 1
  rw [List.filterMap_eq_map']
theorem pLc_ex {α β : Type} {f : α → Option (Option β)} (P : α → β → Prop) : ∀ {items : List α} {acc : List β}, (∀ x, x ∈ items → ∃ y, f x = some (some y) ∧ P x y) → acc.length + items.length ≤ 1000000 →
    ∃ ys : List β, pLc f items acc = some (acc ++ ys) ∧ ys.length = items.length ∧ ∀ y, y ∈ ys → ∃ x, x ∈ items ∧ P x y
  | [], acc, _, _ => ⟨[], by rw [pLc, List.append_nil], rfl, fun y hy => by cases hy⟩
  | x :: xs, acc, h, hl => by
    rw [List.length_cons] at hl
    obtain ⟨y, hy, py⟩ := h x (List.mem_cons_self ..)
    obtain ⟨ys, h1, h2, h3⟩ := pLc_ex P (items := xs) (acc := acc ++ [y]) (fun z hz => h z (List.mem_cons_of_mem x hz)) (by rw [List.length_append, List.length_singleton]; omega)
    refine ⟨y :: ys, ?_, by rw [List.length_cons, List.length_cons, h2], fun z hz => ?_⟩
    · rw [pLc, hy]
      show (if acc.length < 1000000 then pLc f xs (acc ++ [y]) else none) = _
      rw [if_pos (by omega), h1, List.append_assoc]; rfl
    · rcases List.mem_cons.mp hz with e | hz
      · exact ⟨x, List.mem_cons_self .., e ▸ py⟩
      · obtain ⟨w, hw, pw⟩ := h3 z hz
        exact ⟨w, List.mem_cons_of_mem _ hw, pw⟩
theorem rngP_ok {n : Int} (h : 0 ≤ n ∧ n ≤ 1000000) : rngP n = some ((List.range n.toNat).map fun (k : Nat) => (0 + (k : Int))) := if_pos ⟨by omega, by omega⟩
theorem rngP_nat {n : Nat} (h : n ≤ 1000000) : rngP (n : Int) = some ((List.range n).map fun (k : Nat) => (0 + (k : Int))) := rngP_ok (n := n) ⟨by omega, by omega⟩
theorem mem_rng {n : Nat} {x : Int} : x ∈ (List.range n).map (fun (k : Nat) => (0 + (k : Int))) ↔ 0 ≤ x ∧ x < n := by
  rw [List.mem_map]
  constructor
  · rintro ⟨k, hk, rfl⟩
    have := List.mem_range.mp hk
    omega
  · rintro ⟨h1, h2⟩
    exact ⟨x.toNat, List.mem_range.mpr (by omega), by omega⟩
theorem appP_ok {α : Type} {xs : List α} (x : α) (h : xs.length < 1000000) : appP xs x = some (xs ++ [x]) := if_pos h
theorem catP_ok {α : Type} {xs ys : List α} (h : xs.length + ys.length ≤ 1000000) : catP xs ys = some (xs ++ ys) := if_pos h
theorem okP_ok {b : Bool} (h : b = true) : okP b = some () := if_pos h
theorem okP_dec {p : Prop} [Decidable p] (h : p) : okP (decide p) = some () := if_pos (decide_eq_true h)
theorem mulP_ok {i j : Int} (h : -18446744073709551616 < i ∧ i < 18446744073709551616) : mulP i j = some (i * j) := if_pos (cMul_l h)
theorem divP_ok {i j : Int} (h : 0 < j ∧ j < 1073741824) : divP i j = some (i / j) := if_pos h
theorem modP_ok {i j : Int} (h : 0 < j) : modP i j = some (i % j) := if_pos h
theorem atI_get {α : Type} {l : List α} {i : Int} (h0 : 0 ≤ i) (h1 : i < (l.length : Int)) : atI l i = some (l[i.toNat]'(by omega)) := by
  rw [atI_nn h0, List.getElem?_eq_getElem (by omega)]
theorem atI_ex {α : Type} {l : List α} {i : Int} (h0 : 0 ≤ i) (h1 : i < (l.length : Int)) : ∃ c, c ∈ l ∧ atI l i = some c := ⟨_, List.getElem_mem _, atI_get h0 h1⟩
theorem atI_mod {α : Type} {l : List α} (i : Int) (h : 0 < l.length) : ∃ c, c ∈ l ∧ atI l (i % (l.length : Int)) = some c := atI_ex (Int.emod_nonneg _ (by omega)) (Int.emod_lt_of_pos _ (by omega))
theorem cutA_from {α : Type} {l : List α} {i : Nat} (h : i ≤ l.length) : cutA l (some (i : Int)) none = l.drop i := by
  unfold cutA
  rw [HT.sIx_nat, HT.sIx_none, Nat.min_eq_left h, List.take_of_length_le]
  rw [List.length_drop]
  exact Nat.le_refl _
theorem cutA_to {α : Type} {l : List α} {j : Nat} : cutA l none (some (j : Int)) = l.take j := by
  unfold cutA
  rw [HT.sIx_nat, HT.sIx_none, List.drop_zero, Nat.sub_zero]
  rcases Nat.le_total j l.length with h | h
  · rw [Nat.min_eq_left h]
  · rw [Nat.min_eq_right h, List.take_length, List.take_of_length_le h]
theorem cutA_toI {α : Type} {l : List α} {j : Int} (h : 0 ≤ j) : cutA l none (some j) = l.take j.toNat := by
  obtain ⟨n, rfl⟩ := Int.eq_ofNat_of_zero_le h
  exact cutA_to
theorem cutA_ij {α : Type} {l : List α} {i j : Nat} : cutA l (some (i : Int)) (some (j : Int)) = (l.take j).drop i := by
  unfold cutA
  rw [HT.sIx_nat, HT.sIx_nat]
  apply List.ext_getElem?
  intro k
  simp only [List.getElem?_take, List.getElem?_drop]
  by_cases h1 : i + k < j
  · by_cases h2 : i + k < l.length
    · have h3 : min i l.length = i := by omega
      rw [h3, if_pos (by omega), if_pos h1]
    · rw [List.getElem?_eq_none (l := l) (i := i + k) (by omega), if_pos h1]
      split
      · exact List.getElem?_eq_none (by omega)
      · rfl
  · rw [if_neg h1, if_neg (by omega)]
theorem cutA_mem {α : Type} {l : List α} {lo hi : Option Int} {x : α} (h : x ∈ cutA l lo hi) : x ∈ l := List.mem_of_mem_drop (List.mem_of_mem_take h)
theorem cutA_len {α : Type} (l : List α) (lo hi : Option Int) : (cutA l lo hi).length ≤ l.length := by
  unfold cutA
  rw [List.length_take, List.length_drop]
  omega
theorem bind_some' {α β : Type} (a : α) (f : α → Option β) : Option.bind (some a) f = f a := rfl
theorem cell_at_ok (script : List Int) {k : Int} (h : 0 ≤ k) : ∃ c, p_cell_at script k = some c := by
  unfold p_cell_at
  split
  · rename_i hk
    obtain ⟨c, _, e⟩ := atI_ex h hk
    exact ⟨c, by rw [e]; rfl⟩
  · exact ⟨0, rfl⟩
theorem stream_ok (c : Int) {m : Int} (h0 : 0 ≤ m) (h1 : m ≤ 1000) : ∃ l : List Int, p_stream c m = some l ∧ l.length = m.toNat ∧ ∀ x, x ∈ l → 0 ≤ x ∧ x < 4294967311 := by
  unfold p_stream p_F1_stream
  rw [bind_some', rngP_ok (by omega)]
  obtain ⟨s', h2, h3, h4, h5⟩ := pFold_inv (f := fun (s1 : List Int × Int) (x : Int) => p_L0_stream s1.1 s1.2 x) (items := (List.range (m + 1).toNat).map fun (k : Nat) => (0 + (k : Int)))
    (fun pre s => s.1.length = pre.length ∧ (0 ≤ s.2 ∧ s.2 < 18446744073709551616) ∧ ∀ x, x ∈ s.1 → 0 ≤ x ∧ x < 4294967311) (fun pre x post s e hI => by
      obtain ⟨i1, i2, i3⟩ := hI
      have hl := congrArg List.length e
      rw [List.length_map, List.length_range, List.length_append, List.length_cons] at hl
      refine ⟨(s.1 ++ [(s.2 * s.2 + 69621 * s.2 + x) % 4294967311], (s.2 * s.2 + 69621 * s.2 + x) % 4294967311), ?_, by simp [i1], by constructor <;> simp only <;> omega, fun y hy => ?_⟩
      · unfold p_L0_stream
        rw [mulP_ok (by omega), bind_some', bind_some', appP_ok _ (by omega), bind_some']
      · rcases List.mem_append.mp hy with hy | hy
        · exact i3 y hy
        · rw [List.mem_singleton.mp hy]
          constructor <;> omega) (s := ([], c % 4294967311 + 48271)) ⟨rfl, by constructor <;> simp only <;> omega, fun _ z => by cases z⟩
  rw [List.length_map, List.length_range] at h3
  refine ⟨s'.1.drop 1, ?_, by rw [List.length_drop]; omega, fun x hx => h5 x (List.mem_of_mem_drop hx)⟩
  rw [bind_some', h2, bind_some', show (some (1 : Int)) = some ((1 : Nat) : Int) from rfl, cutA_from (by omega)]
theorem digits_ok (c : Int) {m : Int} (h0 : 0 ≤ m) (h1 : m ≤ 1000) : ∃ l : List Int, p_digits c m = some l ∧ l.length = m.toNat ∧ ∀ x, x ∈ l → 0 ≤ x := by
  obtain ⟨l, e, hl, hb⟩ := stream_ok c h0 h1
  unfold p_digits p_F1_digits
  rw [e, bind_some', rngP_ok (by omega), bind_some']
  obtain ⟨s', h2, h3, h4⟩ := pFold_inv (f := fun (s1 : Int × List Int) (x : Int) => p_L0_digits s1.1 s1.2 x) (items := (List.range m.toNat).map fun (k : Nat) => (0 + (k : Int)))
    (fun pre s => s.2.length = m.toNat ∧ ∀ x, x ∈ s.2 → 0 ≤ x) (fun pre x post s e hI => by
      obtain ⟨i1, i2⟩ := hI
      have hx : x ∈ (List.range m.toNat).map (fun (k : Nat) => (0 + (k : Int))) := e ▸ List.mem_append_right _ (List.mem_cons_self ..)
      have hx := mem_rng.mp hx
      obtain ⟨v, hv, e1⟩ := atI_ex (l := s.2) hx.1 (by omega)
      have hv := i2 v hv
      have st : ∀ (l : List Int) (w : Int), l.length = m.toNat → setP l x w = some (l.set x.toNat w) := fun l w hw => by
        have hix : ixN l.length x = some x.toNat := by
          unfold ixN
          rw [if_pos hx.1, if_pos (by omega)]
        unfold setP
        rw [hix]
        show (if x.toNat < l.length then some (l.set x.toNat w) else none) = _
        rw [if_pos (by omega)]
      have ms : ∀ (l : List Int) (w : Int), (∀ x, x ∈ l → 0 ≤ x) → 0 ≤ w → ∀ z, z ∈ l.set x.toNat w → 0 ≤ z := fun l w h hw z hz => (List.mem_or_eq_of_mem_set hz).elim (h z) fun e => e ▸ hw
      unfold p_L0_digits
      simp only [e1, bind_some', st s.2 _ i1]
      split
      · rw [st _ _ (by rw [List.length_set]; exact i1)]
        simp only [bind_some']
        exact ⟨_, rfl, by simp only [List.length_set]; exact i1, ms _ _ (ms _ _ i2 (by omega)) (by omega)⟩
      · exact ⟨_, rfl, by simp only [List.length_set]; exact i1, ms _ _ i2 (by omega)⟩) (s := (c, l)) ⟨hl, fun x hx => (hb x hx).1⟩
  rw [h2, bind_some']
  exact ⟨_, rfl, h3, h4⟩
theorem txAt_ok {t : Tx} {i : Int} (ht : t.length ≤ 1000000) (h0 : 0 ≤ i) (h1 : i < (t.length : Int)) : txAt t i = some [t[i.toNat]'(by omega)] := by
  unfold txAt
  rw [if_pos ht, atI_get h0 h1]
  rfl
theorem txCut_ok {t : Tx} (lo hi : Option Int) (h : t.length ≤ 1000000) : txCut t lo hi = some (cutA t lo hi) := if_pos h
theorem inter_nil : ∀ xs : List Tx, ([] : Tx).intercalate xs = xs.flatten := by
  intro xs
  induction xs with
  | nil => rfl
  | cons x xs ih =>
    cases xs with
    | nil => simp [List.intercalate, List.intersperse]
    | cons y r =>
      have : ([] : Tx).intercalate (x :: y :: r) = x ++ ([] ++ ([] : Tx).intercalate (y :: r)) := by simp [List.intercalate, List.intersperse]
      rw [this, ih]
      simp
theorem sg_len : tx_h4753f098.length = 93 := by decide +kernel
theorem sg_nd : tx_h4753f098.Nodup := by decide +kernel
theorem nodup_inj {α : Type} {l : List α} (h : l.Nodup) {i j : Nat} (hi : i < l.length) (hj : j < l.length) (e : l[i] = l[j]) : i = j := by
  have h' := List.pairwise_iff_getElem.mp h
  rcases Nat.lt_trichotomy i j with q | q | q
  · exact absurd e (h' i j hi hj q)
  · exact q
  · exact absurd e.symm (h' j i hj hi q)
theorem nodup_of_inj {α β : Type} {l : List α} (f : Nat → β) (g : α → Option β) (h : ∀ i x, l[i]? = some x → g x = some (f i)) (hf : ∀ i j, i < l.length → j < l.length → f i = f j → i = j) : l.Nodup := by
  refine List.pairwise_iff_getElem.mpr fun i j hi hj hij e => ?_
  have e1 := List.getElem?_eq_getElem hi
  have e2 := List.getElem?_eq_getElem hj
  have a := h i _ e1
  have b := h j _ e2
  rw [e, b] at a
  injection a with a
  have := hf i j hi hj a.symm
  omega
theorem pool_ok (c : Int) {m : Int} (h0 : 0 ≤ m) (h1 : m ≤ 90) : ∃ ss : List Tx, p_pool c m = some ss ∧ ss.length = m.toNat ∧ ss.Nodup ∧ ∀ x, x ∈ ss → x.length ≤ 40 ∧ x ≠ [] := by
  obtain ⟨dr, e, hl, hb⟩ := stream_ok c (m := 16) (by decide) (by decide)
  have hl : dr.length = 16 := hl
  unfold p_pool
  rw [e, bind_some', atI_get (i := 0) (by decide) (by omega), bind_some', bind_some', atI_get (i := 1) (by decide) (by omega), bind_some']
  generalize hs : 1 + dr[(0 : Int).toNat]'(by omega) % 14 = size
  have hs0 : 0 < size := by omega
  have hs1 : size ≤ 14 := by omega
  have hs2 : size < 15 := by omega
  rw [modP_ok hs0, bind_some']
  generalize ha : dr[(1 : Int).toNat]'(by omega) % size = at_
  have ha0 : 0 ≤ at_ := ha ▸ Int.emod_nonneg _ (by omega)
  have ha1 : at_ < size := ha ▸ Int.emod_lt_of_pos _ hs0
  have hd1 : 0 ≤ dr[(1 : Int).toNat]'(by omega) := (hb _ (List.getElem_mem _)).1
  -- the base
  have hc : (cutA dr (some 2) (some (2 + size))).length = size.toNat := by
    have : cutA dr (some 2) (some (2 + size)) = cutA dr (some ((2 : Nat) : Int)) (some ((2 + size.toNat : Nat) : Int)) := by
      congr 2
      omega
    rw [this, cutA_ij, List.length_drop, List.length_take]
    omega
  have hC := pLc_map (f := fun (x : Int) => (Option.bind (txAt tx_h4753f098 (x % 93)) fun c18 => some (some c18) : Option (Option Tx))) (fun x => [tx_h4753f098.getD (x % 93).toNat 0]) (items := cutA dr (some 2) (some (2 + size))) (fun x _ => by
    have h1 : 0 ≤ x % 93 := by omega
    have h2 : x % 93 < ((tx_h4753f098).length : Int) := by rw [sg_len]; omega
    show Option.bind (txAt tx_h4753f098 (x % 93)) _ = _
    rw [txAt_ok (by rw [sg_len]; decide) h1 h2, bind_some', List.getD_eq_getElem?_getD, List.getElem?_eq_getElem (by omega)]
    rfl) (by rw [hc]; omega)
  have hC' : p_C1_pool tx_h4753f098 dr size = _ := hC
  rw [hC', bind_some']
  generalize hb0 : (cutA dr (some 2) (some (2 + size))).map (fun x => [tx_h4753f098.getD (x % 93).toNat 0]) = bs at *
  have hbl : bs.length = size.toNat := by rw [← hb0, List.length_map, hc]
  have hb1 : ∀ b, b ∈ bs → b.length = 1 := fun b hb => by
    rw [← hb0] at hb
    obtain ⟨x, _, e⟩ := List.mem_map.mp hb
    rw [← e]
    rfl
  have hfl : ∀ l : List Tx, (∀ b, b ∈ l → b.length = 1) → l.flatten.length = l.length ∧ (l.map (fun x => x.length)).sum = l.length := by
    intro l
    induction l with
    | nil => intro _; exact ⟨rfl, rfl⟩
    | cons x l ih =>
      intro h
      have hx := h x (List.mem_cons_self ..)
      have := ih fun b hb => h b (List.mem_cons_of_mem _ hb)
      simp only [List.flatten_cons, List.length_append, List.map_cons, List.sum_cons, List.length_cons]
      omega
  obtain ⟨f1, f2⟩ := hfl bs hb1
  have hte : tx_e = [] := rfl
  have hj : txJoin tx_e bs = some bs.flatten := by
    unfold txJoin
    rw [hte, if_pos (by rw [f2, List.length_nil, Nat.mul_zero]; omega), inter_nil]
  rw [hj, bind_some']
  generalize hbf : bs.flatten = base at *
  have hbase : base.length = size.toNat := by omega
  unfold p_F3_pool
  rw [rngP_ok (by omega), bind_some']
  have h2at : 0 ≤ 2 + at_ ∧ 2 + at_ < (dr.length : Int) := by omega
  generalize hd : dr[(2 + at_).toNat]'(by omega) = d at *
  obtain ⟨ss, q1, q2, q3, q4⟩ := pFold_inv (f := fun (s1 : List Tx) (x : Int) => p_L2_pool tx_h4753f098 dr at_ base s1 x) (items := (List.range m.toNat).map fun (k : Nat) => (0 + (k : Int)))
    (fun pre s => s.length = pre.length ∧ (∀ (i : Nat) (x : Tx), s[i]? = some x → x[at_.toNat]? = tx_h4753f098[((d + 5 * (i : Int)) % 93).toNat]?) ∧ ∀ x, x ∈ s → x.length ≤ 40 ∧ x ≠ []) (fun pre x post s e hI => by
      obtain ⟨i1, i2, i3⟩ := hI
      have hl2 := congrArg List.length e
      rw [List.length_map, List.length_range, List.length_append, List.length_cons] at hl2
      have hx : x = (pre.length : Int) := by
        have h := congrArg (fun l => l[pre.length]?) e
        simp only [List.getElem?_append_right (Nat.le_refl _), Nat.sub_self, List.getElem?_cons_zero, List.getElem?_map, List.getElem?_range (show pre.length < m.toNat by omega), Option.map_some, Option.some.injEq] at h
        omega
      unfold p_L2_pool
      have g1 : 0 ≤ (d + 5 * x) % 93 := by omega
      have g2 : (d + 5 * x) % 93 < ((tx_h4753f098).length : Int) := by rw [sg_len]; omega
      have hdv : divP (dr[(1 : Int).toNat]'(by omega)) (x + 2) = some (dr[(1 : Int).toNat]'(by omega) / (x + 2)) := divP_ok (by omega)
      generalize dr[(1 : Int).toNat]'(by omega) / (x + 2) = mq at *
      have hmq : 0 ≤ mq % 15 := by omega
      have c1 : (cutA base none (some at_)) = base.take at_.toNat := cutA_toI ha0
      have c2 : (cutA base (some (at_ + 1)) (some (at_ + 1 + mq % 15))).length ≤ base.length := cutA_len _ _ _
      have c3 : (base.take at_.toNat).length = at_.toNat := by rw [List.length_take]; omega
      generalize hsg : tx_h4753f098[((d + 5 * x) % 93).toNat]'(by omega) = ch at *
      refine ⟨s ++ [base.take at_.toNat ++ [ch] ++ cutA base (some (at_ + 1)) (some (at_ + 1 + mq % 15))], ?_, by simp [i1], ?_, ?_⟩
      · rw [atI_get h2at.1 h2at.2, bind_some', hd, txAt_ok (by rw [sg_len]; decide) g1 g2, bind_some', atI_get (i := 1) (by decide) (by omega), bind_some', hdv, bind_some', bind_some', txCut_ok _ _ (by omega), bind_some', c1, hsg,
          catP_ok (by rw [c3]; simp; omega), bind_some', txCut_ok _ _ (by omega), bind_some', catP_ok (by rw [List.length_append, c3]; simp; omega), bind_some', appP_ok _ (by omega : s.length < 1000000), bind_some']
      · intro i y hy
        by_cases hi : i < s.length
        · rw [List.getElem?_append_left hi] at hy
          exact i2 i y hy
        · have hi2 : i = s.length := by
            by_cases h : i = s.length
            · exact h
            · rw [List.getElem?_eq_none (by rw [List.length_append, List.length_singleton]; omega)] at hy; cases hy
          subst hi2
          rw [List.getElem?_append_right (Nat.le_refl _), Nat.sub_self] at hy
          cases hy
          rw [List.append_assoc, List.getElem?_append_right (by omega), c3, Nat.sub_self, i1, ← hx, show tx_h4753f098[((d + 5 * x) % 93).toNat]? = some ch by rw [List.getElem?_eq_getElem (by rw [sg_len]; omega), hsg]]
          rfl
      · intro y hy
        rcases List.mem_append.mp hy with hy | hy
        · exact i3 y hy
        · rw [List.mem_singleton.mp hy]
          refine ⟨?_, by simp⟩
          rw [List.length_append, List.length_append, c3, List.length_singleton]
          omega) (s := []) ⟨rfl, fun i x h => by simp at h, fun _ z => by cases z⟩
  rw [List.length_map, List.length_range] at q2
  refine ⟨ss, ?_, q2, ?_, q4⟩
  · rw [q1]; rfl
  · refine nodup_of_inj (fun i => tx_h4753f098.getD ((d + 5 * (i : Int)) % 93).toNat 0) (fun x => x[at_.toNat]?) (fun i x hx => ?_) fun i j hi hj he => ?_
    · rw [q3 i x hx, List.getD_eq_getElem?_getD, List.getElem?_eq_getElem (by rw [sg_len]; omega)]
      rfl
    · have e1 : ((d + 5 * (i : Int)) % 93).toNat < tx_h4753f098.length := by rw [sg_len]; omega
      have e2 : ((d + 5 * (j : Int)) % 93).toNat < tx_h4753f098.length := by rw [sg_len]; omega
      simp only [List.getD_eq_getElem?_getD, List.getElem?_eq_getElem e1, List.getElem?_eq_getElem e2, Option.getD_some] at he
      have := nodup_inj sg_nd e1 e2 he
      omega
mutual
def Tsize : Tre → Nat
  | .w _ => 1
  | .n _ cs => 1 + TsizeL cs
def TsizeL : List Tre → Nat
  | [] => 0
  | t :: ts => Tsize t + TsizeL ts
end
mutual
def rowT : Tre → List Tx
  | .w x => [x]
  | .n _ cs => rowTL cs
def rowTL : List Tre → List Tx
  | [] => []
  | t :: ts => rowT t ++ rowTL ts
end
abbrev Ru := Tx × List Tx
mutual
def standsB (rules : List Ru) (H : List Tx) : Tre → Tx → Bool
  | .w x, p => !decide (p ∈ H) && decide (x = p)
  | .n i cs, p => decide (p ∈ H) && match (if 0 ≤ i then rules[i.toNat]? else none) with
    | some r => decide (r.1 = p) && standsL rules H cs r.2
    | none => false
def standsL (rules : List Ru) (H : List Tx) : List Tre → List Tx → Bool
  | [], [] => true
  | t :: ts, p :: ps => standsB rules H t p && standsL rules H ts ps
  | [], _ :: _ => false
  | _ :: _, [] => false
end
theorem TsizeL_app : ∀ a b : List Tre, TsizeL (a ++ b) = TsizeL a + TsizeL b
  | [], b => by show TsizeL b = 0 + TsizeL b; omega
  | t :: a, b => by show Tsize t + TsizeL (a ++ b) = Tsize t + TsizeL a + TsizeL b; rw [TsizeL_app a b]; omega
theorem TsizeL_rev : ∀ a : List Tre, TsizeL a.reverse = TsizeL a
  | [] => rfl
  | t :: a => by rw [List.reverse_cons, TsizeL_app, TsizeL_rev a]; show TsizeL a + (Tsize t + 0) = Tsize t + TsizeL a; omega
theorem Tsize_pos : ∀ t : Tre, 0 < Tsize t
  | .w _ => Nat.one_pos
  | .n _ cs => by show 0 < 1 + TsizeL cs; omega
theorem TsizeL_len : ∀ a : List Tre, a.length ≤ TsizeL a
  | [] => Nat.le_refl _
  | t :: a => by show a.length + 1 ≤ Tsize t + TsizeL a; have := Tsize_pos t; have := TsizeL_len a; omega
theorem rowTL_app : ∀ a b : List Tre, rowTL (a ++ b) = rowTL a ++ rowTL b
  | [], b => rfl
  | t :: a, b => by show rowT t ++ rowTL (a ++ b) = (rowT t ++ rowTL a) ++ rowTL b; rw [rowTL_app a b, List.append_assoc]
mutual
theorem rowT_len : ∀ t : Tre, (rowT t).length ≤ Tsize t
  | .w _ => Nat.le_refl _
  | .n _ cs => by show (rowTL cs).length ≤ 1 + TsizeL cs; have := rowTL_len cs; omega
theorem rowTL_len : ∀ ts : List Tre, (rowTL ts).length ≤ TsizeL ts
  | [] => Nat.le_refl _
  | t :: ts => by show (rowT t ++ rowTL ts).length ≤ Tsize t + TsizeL ts; rw [List.length_append]; have := rowT_len t; have := rowTL_len ts; omega
end
theorem dep_kid : ∀ {cs : List Tre} {c : Tre} {n : Nat}, Tre.depL cs ≤ n → c ∈ cs → c.dep ≤ n
  | t :: ts, c, n, h, m => by
    have h : max t.dep (Tre.depL ts) ≤ n := h
    rcases List.mem_cons.mp m with e | m
    · subst e; omega
    · exact dep_kid (by omega) m
theorem depL_le : ∀ {cs : List Tre} {n : Nat}, (∀ c, c ∈ cs → c.dep ≤ n) → Tre.depL cs ≤ n
  | [], n, _ => Nat.zero_le _
  | t :: ts, n, h => by
    have h1 := h t (List.mem_cons_self ..)
    have h2 := depL_le (cs := ts) fun c hc => h c (List.mem_cons_of_mem _ hc)
    show max t.dep (Tre.depL ts) ≤ n
    omega
theorem popP_app {α : Type} (xs : List α) (x : α) : popP (xs ++ [x]) = some (x, xs) := by
  unfold popP
  rw [List.length_append, List.length_singleton, Nat.add_sub_cancel, List.getElem?_append_right (Nat.le_refl _), Nat.sub_self]
  show some (x, (xs ++ [x]).dropLast) = _
  rw [List.dropLast_concat]
theorem snoc_or {α : Type} (l : List α) : l = [] ∨ ∃ a x, l = a ++ [x] := by
  cases l with
  | nil => exact .inl rfl
  | cons y ys => exact .inr ⟨(y :: ys).dropLast, (y :: ys).getLast (by simp), (List.dropLast_concat_getLast _).symm⟩
theorem nilP_trees {ts : List Tre} (h : ∀ t, t ∈ ts → t.dep ≤ 63) : nilP eTree ts = some (decide (ts.length = 0)) := by
  unfold nilP depP
  rw [if_pos]
  refine fine_py ?_
  show (decide (0 < 64) && fineL 63 (ts.map eTree)) = true
  rw [fineL_map fun t ht => fine_tree t 63 (h t ht)]; rfl
def headsF (rules : List Ru) : List Tx := rules.foldl (fun hs r => if r.1 ∈ hs then hs else hs ++ [r.1]) []
theorem heads_gen : ∀ (rules : List Ru) (hs : List Tx), hs.length + rules.length ≤ 1000000 → pFold (fun (s1 : List Tx) (x : Ru) => p_L0_heads_of s1 x.1 x.2) rules hs = some (rules.foldl (fun hs r => if r.1 ∈ hs then hs else hs ++ [r.1]) hs)
  | [], hs, _ => rfl
  | r :: rs, hs, h => by
    rw [List.length_cons] at h
    have step : p_L0_heads_of hs r.1 r.2 = some (if r.1 ∈ hs then hs else hs ++ [r.1]) := by
      unfold p_L0_heads_of
      split
      · rfl
      · rw [appP_ok _ (by omega), bind_some']
    rw [pFold, step, List.foldl_cons]
    refine heads_gen rs _ ?_
    split
    · omega
    · rw [List.length_append, List.length_singleton]; omega
theorem heads_ok {rules : List Ru} (h : rules.length < 100000) : p_heads_of rules = some (headsF rules) := by
  unfold p_heads_of p_F1_heads_of
  rw [okP_dec h, bind_some', heads_gen rules [] (by simp; omega), bind_some']
  rfl
theorem mem_heads_gen : ∀ (rules : List Ru) (hs : List Tx) (x : Tx), x ∈ rules.foldl (fun hs r => if r.1 ∈ hs then hs else hs ++ [r.1]) hs ↔ x ∈ hs ∨ ∃ r, r ∈ rules ∧ r.1 = x
  | [], hs, x => by simp
  | r :: rs, hs, x => by
    rw [List.foldl_cons, mem_heads_gen rs]
    constructor
    · rintro (h | ⟨q, hq, e⟩)
      · split at h
        · exact .inl h
        · rcases List.mem_append.mp h with h | h
          · exact .inl h
          · exact .inr ⟨r, List.mem_cons_self .., (List.mem_singleton.mp h).symm⟩
      · exact .inr ⟨q, List.mem_cons_of_mem _ hq, e⟩
    · rintro (h | ⟨q, hq, e⟩)
      · refine .inl ?_
        split
        · exact h
        · exact List.mem_append_left _ h
      · rcases List.mem_cons.mp hq with e2 | hq
        · refine .inl ?_
          subst e2 e
          split
          · assumption
          · exact List.mem_append_right _ (List.mem_singleton_self _)
        · exact .inr ⟨q, hq, e⟩
theorem mem_heads {rules : List Ru} {x : Tx} : x ∈ headsF rules ↔ ∃ r, r ∈ rules ∧ r.1 = x := by
  unfold headsF
  rw [mem_heads_gen]
  simp
theorem standsL_zip (rules : List Ru) (H : List Tx) : ∀ (cs : List Tre) (ps : List Tx), standsL rules H cs ps = (decide (cs.length = ps.length) && (cs.zip ps).all fun q => standsB rules H q.1 q.2)
  | [], [] => rfl
  | [], _ :: _ => by simp [standsL]
  | _ :: _, [] => by simp [standsL]
  | c :: cs, p :: ps => by
    rw [standsL, standsL_zip rules H cs ps, List.zip_cons_cons, List.all_cons]
    by_cases h : cs.length = ps.length
    · simp [h]
    · simp [h]
theorem TsizeL_zip : ∀ (cs : List Tre) (ps : List Tx), ((cs.zip ps).map fun q => Tsize q.1).sum ≤ TsizeL cs
  | [], _ => by simp [TsizeL]
  | c :: cs, [] => by simp
  | c :: cs, p :: ps => by
    rw [List.zip_cons_cons, List.map_cons, List.sum_cons]
    have := TsizeL_zip cs ps
    show Tsize c + _ ≤ Tsize c + TsizeL cs
    omega
theorem nilP_pairs {ts : List (Tre × Tx)} (h : ∀ t, t ∈ ts → t.1.dep ≤ 60) : nilP (eP eTree eTx) ts = some (decide (ts.length = 0)) := by
  unfold nilP depP
  rw [if_pos]
  refine fine_py ?_
  show (decide (0 < 64) && fineL 63 (ts.map (eP eTree eTx))) = true
  rw [fineL_map fun t ht => ?_]
  · rfl
  · show (decide (0 < 63) && (fine 62 (eTree t.1) && (fine 62 (eTx t.2) && true))) = true
    rw [fine_tree t.1 62 (Nat.le_trans (h t ht) (by decide)), show fine 62 (eTx t.2) = true from toS_ok t.2]; rfl
theorem sum_pos_len : ∀ (ts : List (Tre × Tx)), ts.length ≤ (ts.map fun q => Tsize q.1).sum
  | [] => by simp
  | t :: ts => by
    rw [List.length_cons, List.map_cons, List.sum_cons]
    have := sum_pos_len ts
    have := Tsize_pos t.1
    omega
theorem has_rule_ok {rules : List Ru} {i : Int} {cs : List Tre} {p : Tx} : ∃ b, p_has_rule rules (.n i cs) p = some b ∧ (b = true → ∃ r, 0 ≤ i ∧ i < (rules.length : Int) ∧ rules[i.toNat]? = some r ∧ r.1 = p ∧ r.2.length = cs.length) ∧ (b = false → ∀ H, standsB rules H (.n i cs) p = false) := by
  unfold p_has_rule
  simp only [Tre.num, bind_some', Tre.kids]
  by_cases h1 : 0 ≤ i
  · by_cases h2 : i < (rules.length : Int)
    · simp only [decide_eq_true h1, decide_eq_true h2, Bool.and_self, Bool.not_true, Bool.false_eq_true, if_false, atI_get h1 h2, bind_some']
      have e : rules[i.toNat]? = some (rules[i.toNat]'(by omega)) := List.getElem?_eq_getElem (by omega)
      by_cases h3 : (rules[i.toNat]'(by omega)).1 = p
      · rw [if_pos h3, bind_some']
        refine ⟨_, rfl, fun z => ⟨_, h1, h2, e, h3, ?_⟩, fun z H => ?_⟩
        · have := of_decide_eq_true z; omega
        · have := of_decide_eq_false z
          rw [standsB, if_pos h1, e]
          simp only [standsL_zip]
          rw [decide_eq_false (show ¬ cs.length = _ by omega)]
          simp
      · rw [if_neg h3, bind_some']
        refine ⟨_, rfl, (fun z => by cases z), fun z H => ?_⟩
        rw [standsB, if_pos h1, e]
        simp [h3]
    · simp only [decide_eq_true h1, decide_eq_false h2, Bool.and_false, Bool.not_false, if_true]
      refine ⟨_, rfl, (fun z => by cases z), fun z H => ?_⟩
      rw [standsB, if_pos h1, List.getElem?_eq_none (by omega)]
      simp
  · simp only [decide_eq_false h1, Bool.false_and, Bool.not_false, if_true]
    refine ⟨_, rfl, (fun z => by cases z), fun z H => ?_⟩
    rw [standsB, if_neg h1]
    simp
theorem zipP_ok {α β : Type} {xs : List α} {ys : List β} (h : xs.length = ys.length) : zipP xs ys = some (xs.zip ys) := if_pos h
theorem stands_loop (rules : List Ru) (H : List Tx) : ∀ (N : Nat) (todo : List (Tre × Tx)), (todo.map fun q => Tsize q.1).sum < N → (∀ t, t ∈ todo → t.1.dep ≤ 60) → (todo.map fun q => Tsize q.1).sum ≤ 1000000 →
    pWhF (fun (s1 : (List (Tre × Tx))) => (Option.bind (nilP (eP eTree eTx) s1) fun b9 => some (!(b9)) : Option Bool)) (fun (s1 : (List (Tre × Tx))) => p_L1_tree_stands rules H s1) N todo = some (if (todo.all fun q => standsB rules H q.1 q.2) = true then .nx [] else .rt false) := by
  intro N
  induction N with
  | zero => intro todo h; omega
  | succ N ih =>
    intro todo h1 h2 h3
    rw [pWhF]
    simp only [nilP_pairs h2, bind_some']
    rcases snoc_or todo with e | ⟨a, ⟨t, p⟩, e⟩
    · subst e
      rfl
    · subst e
      rw [List.map_append, List.sum_append] at h1 h3
      have h1 : (a.map fun q => Tsize q.1).sum + (Tsize t + 0) < N + 1 := h1
      have h3 : (a.map fun q => Tsize q.1).sum + (Tsize t + 0) ≤ 1000000 := h3
      have tp := Tsize_pos t
      have hl : decide ((a ++ [(t, p)]).length = 0) = false := by simp
      have hall : ((a ++ [(t, p)]).all fun q => standsB rules H q.1 q.2) = ((a.all fun q => standsB rules H q.1 q.2) && standsB rules H t p) := by simp
      have hd : t.dep ≤ 60 := h2 (t, p) (List.mem_append_right _ (List.mem_singleton_self _))
      have ha := ih a (by omega) (fun q hq => h2 q (List.mem_append_left _ hq)) (by omega)
      simp only [hl, Bool.not_false, hall]
      by_cases hp : p ∈ H
      · cases t with
        | w x =>
          have hs : standsB rules H (.w x) p = false := by rw [standsB, decide_eq_true hp]; rfl
          have step : p_L1_tree_stands rules H (a ++ [(Tre.w x, p)]) = some (.rt false) := by
            simp only [p_L1_tree_stands, popP_app, bind_some', decide_eq_true hp, Bool.not_true, Bool.false_or, Tre.isW, if_true, if_pos hp]
          simp only [step, hs, Bool.and_false, Bool.false_eq_true, if_false]
        | n i cs =>
          obtain ⟨b, hb, hb1, hb0⟩ := has_rule_ok (rules := rules) (i := i) (cs := cs) (p := p)
          have step0 : p_L1_tree_stands rules H (a ++ [(Tre.n i cs, p)]) = if b = true then Option.bind ((Tre.n i cs).kids) fun cs31 => Option.bind ((Tre.n i cs).num) fun n34 => Option.bind (atI rules n34) fun v37 => Option.bind (zipP cs31 v37.2) fun z41 => Option.bind (catP a z41) fun todo44 => some (.nx todo44) else some (.rt false) := by
            simp only [p_L1_tree_stands, popP_app, bind_some', decide_eq_true hp, Bool.not_true, Bool.or_false, Tre.isW, Bool.false_eq_true, if_false, hb]
          simp only [step0]
          cases b with
          | false =>
            simp only [hb0 rfl H, Bool.and_false, Bool.false_eq_true, if_false]
          | true =>
            obtain ⟨r, q1, q2, q3, q4, q5⟩ := hb1 rfl
            have hat : atI rules i = some r := by rw [atI_nn q1, q3]
            have hs : standsB rules H (.n i cs) p = (cs.zip r.2).all fun q => standsB rules H q.1 q.2 := by
              rw [standsB, if_pos q1, q3, decide_eq_true hp]
              simp only [q4, decide_true, Bool.true_and, standsL_zip]
              rw [decide_eq_true (show cs.length = r.2.length by omega), Bool.true_and]
            have h1 : (a.map fun q => Tsize q.1).sum + (1 + TsizeL cs + 0) < N + 1 := h1
            have h3 : (a.map fun q => Tsize q.1).sum + (1 + TsizeL cs + 0) ≤ 1000000 := h3
            have z1 := TsizeL_zip cs r.2
            have z2 := sum_pos_len a
            have z3 := sum_pos_len (cs.zip r.2)
            simp only [if_true, Tre.kids, Tre.num, bind_some', hat, zipP_ok q5.symm, catP_ok (show a.length + (cs.zip r.2).length ≤ 1000000 by omega)]
            have hd : Tre.depL cs + 2 ≤ 60 := hd
            have := ih (a ++ cs.zip r.2) (by rw [List.map_append, List.sum_append]; omega) (fun q hq => by
              rcases List.mem_append.mp hq with m | m
              · exact h2 q (List.mem_append_left _ m)
              · obtain ⟨c, d⟩ := q
                exact Nat.le_trans (dep_kid (Nat.le_refl _) (List.of_mem_zip m).1) (by omega)) (by rw [List.map_append, List.sum_append]; omega)
            rw [this, List.all_append, hs]
      · have hq : t.eqTx p = some (t.isTx p) := if_pos (by omega)
        have hs : standsB rules H t p = t.isTx p := by
          cases t with
          | w x => rw [standsB, decide_eq_false hp]; simp [Tre.isTx]
          | n i cs => rw [standsB, decide_eq_false hp]; simp [Tre.isTx]
        have step : p_L1_tree_stands rules H (a ++ [(t, p)]) = if (!(t.isTx p)) = true then some (.rt false) else some (.nx a) := by
          simp only [p_L1_tree_stands, popP_app, bind_some', decide_eq_false hp, Bool.not_false, Bool.true_or, if_true, if_neg hp, hq]
        simp only [step, hs]
        cases ht : t.isTx p with
        | true => simp only [Bool.not_true, Bool.false_eq_true, if_false, Bool.and_true]; exact ha
        | false => simp only [Bool.not_false, if_true, Bool.and_false, Bool.false_eq_true, if_false]
theorem tree_stands_ok {rules : List Ru} {t : Tre} {p : Tx} (hr : rules.length < 100000) (hd : t.dep ≤ 60) (hs : Tsize t < 100000) : p_tree_stands rules t p = some (decide (p ∈ headsF rules) && standsB rules (headsF rules) t p) := by
  unfold p_tree_stands p_F2_tree_stands
  rw [heads_ok hr, bind_some']
  by_cases hp : p ∈ headsF rules
  · rw [if_pos hp, bind_some', stands_loop rules _ 100000 [(t, p)] (by show Tsize t + 0 < _; omega) (fun q hq => by rw [List.mem_singleton.mp hq]; exact hd) (by show Tsize t + 0 ≤ _; omega), bind_some', decide_eq_true hp]
    simp only [List.all_cons, List.all_nil, Bool.and_true, Bool.true_and]
    cases standsB rules (headsF rules) t p <;> rfl
  · rw [if_neg hp, decide_eq_false hp]; rfl
theorem standsB_congr {rules : List Ru} {H H' : List Tx} (h : ∀ x, x ∈ H ↔ x ∈ H') : ∀ (n : Nat) (t : Tre) (p : Tx), Tsize t ≤ n → standsB rules H t p = standsB rules H' t p := by
  intro n
  induction n with
  | zero => intro t p hn; have := Tsize_pos t; omega
  | succ n ih =>
    intro t p hn
    have hp : decide (p ∈ H) = decide (p ∈ H') := by
      by_cases q : p ∈ H
      · rw [decide_eq_true q, decide_eq_true ((h p).mp q)]
      · rw [decide_eq_false q, decide_eq_false fun z => q ((h p).mpr z)]
    cases t with
    | w x => rw [standsB, standsB, hp]
    | n i cs =>
      have hn : 1 + TsizeL cs ≤ n + 1 := hn
      have gen : ∀ (ts : List Tre) (ps : List Tx), TsizeL ts ≤ n → standsL rules H ts ps = standsL rules H' ts ps := by
        intro ts
        induction ts with
        | nil => intro ps _; cases ps <;> rfl
        | cons t ts ih2 =>
          intro ps hz
          have hz : Tsize t + TsizeL ts ≤ n := hz
          cases ps with
          | nil => rfl
          | cons p ps => rw [standsL, standsL, ih t p (by omega), ih2 ps (by omega)]
      rw [standsB, standsB, hp]
      congr 1
      split
      · rw [gen _ _ (by omega)]
      · rfl
structure GoodR (rules : List Ru) (names words : List Tx) : Prop where
  len : rules.length ≤ 1000
  k0 : 1 ≤ names.length
  k3 : names.length ≤ 3
  nd : names.Nodup
  first : ∀ i (h : i < names.length), ∃ ps, rules[i]? = some (names[i], ps) ∧ ps.length ≤ 3 ∧ ∀ p, p ∈ ps → p ∈ names → ∃ h : i + 1 < names.length, p = names[i + 1]
  all : ∀ r, r ∈ rules → r.1 ∈ names ∧ r.2.length ≤ 8
theorem GoodR.heads {rules : List Ru} {names words : List Tx} (g : GoodR rules names words) (x : Tx) : x ∈ headsF rules ↔ x ∈ names := by
  rw [mem_heads]
  constructor
  · rintro ⟨r, hr, e⟩
    exact e ▸ (g.all r hr).1
  · intro h
    obtain ⟨i, hi, e⟩ := List.getElem_of_mem h
    obtain ⟨ps, e2, _⟩ := g.first i hi
    exact ⟨_, List.mem_of_getElem? e2, e⟩
theorem fm_filter {α : Type} (p : α → Prop) [DecidablePred p] : ∀ l : List α, l.filterMap (fun x => if p x then some x else none) = l.filter fun x => decide (p x)
  | [] => rfl
  | x :: l => by
    rw [List.filterMap_cons, List.filter_cons, fm_filter p l]
    by_cases q : p x
    · simp [q]
    · simp [q]
theorem numbers_ok {rules : List Ru} {name : Tx} {rec_ : List Ru → List Tx → Tx → List Int → Option (Tre × List Int)} (h : rules.length ≤ 1000000) :
    p_C2_tree rec_ rules name = some (((List.range rules.length).map fun (k : Nat) => (0 + (k : Int))).filter fun x => decide ((rules[x.toNat]?.map (·.1)) = some name)) := by
  unfold p_C2_tree
  rw [rngP_nat h, bind_some', pLc_fm (fun x => if (rules[x.toNat]?.map (·.1)) = some name then some x else none) (fun x hx => ?_) (by simp; omega), List.nil_append]
  · congr 1
    exact fm_filter _ _
  · obtain ⟨h1, h2⟩ := mem_rng.mp hx
    have e : rules[x.toNat]? = some (rules[x.toNat]'(by omega)) := List.getElem?_eq_getElem (by omega)
    rw [atI_get h1 h2, bind_some', e]
    by_cases q : (rules[x.toNat]'(by omega)).1 = name
    · simp [q]
    · simp [q]
theorem filter_first {l : List Int} {p : Int → Bool} {i : Nat} {x : Int} (h : l[i]? = some x) (hp : p x = true) (hn : ∀ j y, j < i → l[j]? = some y → p y = false) : (l.filter p)[0]? = some x := by
  induction l generalizing i with
  | nil => simp at h
  | cons y l ih =>
    cases i with
    | zero =>
      simp at h
      subst h
      rw [List.filter_cons_of_pos hp]; rfl
    | succ i =>
      have := hn 0 y (by omega) rfl
      rw [List.filter_cons_of_neg (by rw [this]; exact Bool.false_ne_true)]
      exact ih (i := i) (by simpa using h) fun j z hj hz => hn (j + 1) z (by omega) (by simpa using hz)
structure Nums (rules : List Ru) (name : Tx) (l : List Int) : Prop where
  all : ∀ x, x ∈ l → 0 ≤ x ∧ ∃ ps, rules[x.toNat]? = some (name, ps)
  ne : 0 < l.length
theorem GoodR.nums {rules : List Ru} {names words : List Tx} (g : GoodR rules names words) {rec_ : List Ru → List Tx → Tx → List Int → Option (Tre × List Int)} {i : Nat} (hi : i < names.length) :
    ∃ l, p_C2_tree rec_ rules names[i] = some l ∧ Nums rules names[i] l ∧ atI l 0 = some (i : Int) := by
  obtain ⟨ps, e, _⟩ := g.first i hi
  have hlt : i < rules.length := (List.getElem?_eq_some_iff.mp e).1
  have hl := g.len
  refine ⟨_, numbers_ok (by omega), ?_, ?_⟩
  · have hf : (((List.range rules.length).map fun (k : Nat) => (0 + (k : Int))).filter fun x => decide ((rules[x.toNat]?.map (·.1)) = some names[i]))[0]? = some (i : Int) := by
      refine filter_first (i := i) (by rw [List.getElem?_map, List.getElem?_range hlt]; simp) (by simp [e]) fun j y hj hy => ?_
      rw [List.getElem?_map, List.getElem?_range (by omega)] at hy
      simp at hy
      subst hy
      obtain ⟨ps2, e2, _⟩ := g.first j (by omega)
      simp [e2]
      intro z
      have := nodup_inj g.nd (by omega) hi z
      omega
    refine ⟨fun x hx => ?_, ?_⟩
    · rw [List.mem_filter] at hx
      obtain ⟨hx, hp⟩ := hx
      refine ⟨(mem_rng.mp hx).1, ?_⟩
      have hp := of_decide_eq_true hp
      cases q : rules[x.toNat]? with
      | none => rw [q] at hp; cases hp
      | some r =>
        rw [q] at hp
        injection hp with hp
        obtain ⟨a, b⟩ := r
        exact ⟨b, by rw [← hp]⟩
    · obtain ⟨h1, _⟩ := List.getElem?_eq_some_iff.mp hf
      exact h1
  · rw [atI_nn (by decide)]
    refine filter_first (i := i) (by rw [List.getElem?_map, List.getElem?_range hlt]; simp) (by simp [e]) fun j y hj hy => ?_
    rw [List.getElem?_map, List.getElem?_range (by omega)] at hy
    simp at hy
    subst hy
    obtain ⟨ps2, e2, _⟩ := g.first j (by omega)
    simp [e2]
    intro z
    have := nodup_inj g.nd (by omega) hi z
    omega
structure GoodT (rules : List Ru) (names : List Tx) (p : Tx) (D Z : Nat) (d0 : List Int) (t : Tre) (d : List Int) : Prop where
  st : standsB rules names t p = true
  dl : d.length ≤ d0.length
  dep : t.dep ≤ D
  sz : Tsize t + 400 * d.length ≤ 400 * d0.length + Z
theorem standsL_snoc {rules : List Ru} {H : List Tx} : ∀ {cs : List Tre} {ps : List Tx} {c : Tre} {p : Tx}, standsL rules H cs ps = true → standsB rules H c p = true → standsL rules H (cs ++ [c]) (ps ++ [p]) = true
  | [], [], c, p, _, h => by show (standsB rules H c p && true) = true; rw [h]; rfl
  | [], _ :: _, _, _, h, _ => by cases h
  | _ :: _, [], _, _, h, _ => by cases h
  | c1 :: cs, p1 :: ps, c, p, h, h2 => by
    have h' := (Bool.and_eq_true _ _).mp h
    show (standsB rules H c1 p1 && standsL rules H (cs ++ [c]) (ps ++ [p])) = true
    rw [h'.1, standsL_snoc h'.2 h2]; rfl
theorem kids_fold {rules : List Ru} {names : List Tx} {rec_ : List Ru → List Tx → Tx → List Int → Option (Tre × List Int)} {D Z : Nat} (hZ : 1 ≤ Z) {d0 : List Int} {ps : List Tx} (hp : ps.length ≤ 1000)
    (h : ∀ p, p ∈ ps → p ∈ names → ∀ d : List Int, d.length ≤ d0.length → ∃ t d', rec_ rules names p d = some (t, d') ∧ GoodT rules names p D Z d t d') :
    ∃ d' cs, pFold (fun (s1 : (List Int) × (List Tre)) (x : Tx) => p_L4_tree rec_ rules names s1.1 s1.2 x) ps (d0, []) = some (d', cs) ∧ standsL rules names cs ps = true ∧ d'.length ≤ d0.length ∧ (∀ c, c ∈ cs → c.dep ≤ D) ∧ TsizeL cs + 400 * d'.length ≤ 400 * d0.length + Z * ps.length := by
  obtain ⟨s, h1, h2, h3, h4, h5, h6⟩ := pFold_inv (f := fun (s1 : (List Int) × (List Tre)) (x : Tx) => p_L4_tree rec_ rules names s1.1 s1.2 x) (items := ps)
    (fun pre s => s.2.length = pre.length ∧ standsL rules names s.2 pre = true ∧ s.1.length ≤ d0.length ∧ (∀ c, c ∈ s.2 → c.dep ≤ D) ∧ TsizeL s.2 + 400 * s.1.length ≤ 400 * d0.length + Z * pre.length) (fun pre p post s e hI => by
      obtain ⟨i0, i1, i2, i3, i4⟩ := hI
      have hl := congrArg List.length e
      rw [List.length_append, List.length_cons] at hl
      have hm : p ∈ ps := e ▸ List.mem_append_right _ (List.mem_cons_self ..)
      have hz : Z * (pre ++ [p]).length = Z * pre.length + Z := by rw [List.length_append, List.length_singleton, Nat.mul_succ]
      unfold p_L4_tree
      by_cases hn : p ∈ names
      · obtain ⟨t, d', e1, g⟩ := h p hm hn s.1 i2
        have g4 := g.sz
        rw [if_pos hn, e1, bind_some', appP_ok _ (by omega), bind_some']
        refine ⟨_, rfl, by simp [i0], standsL_snoc i1 g.st, Nat.le_trans g.dl i2, fun c hc => ?_, ?_⟩
        · rcases List.mem_append.mp hc with m | m
          · exact i3 c m
          · rw [List.mem_singleton.mp m]; exact g.dep
        · show TsizeL (s.2 ++ [t]) + 400 * d'.length ≤ _
          rw [TsizeL_app, hz]
          show TsizeL s.2 + (Tsize t + 0) + 400 * d'.length ≤ _
          omega
      · rw [if_neg hn, appP_ok _ (by omega), bind_some']
        refine ⟨_, rfl, by simp [i0], standsL_snoc i1 (by rw [standsB, decide_eq_false hn]; simp), i2, fun c hc => ?_, ?_⟩
        · rcases List.mem_append.mp hc with m | m
          · exact i3 c m
          · rw [List.mem_singleton.mp m]; exact Nat.zero_le _
        · show TsizeL (s.2 ++ [.w p]) + 400 * s.1.length ≤ _
          rw [TsizeL_app, hz]
          show TsizeL s.2 + (1 + 0) + 400 * s.1.length ≤ _
          omega) (s := (d0, [])) ⟨rfl, rfl, Nat.le_refl _, (fun _ z => by cases z), by show 0 + 400 * d0.length ≤ 400 * d0.length + Z * 0; omega⟩
  obtain ⟨d', cs⟩ := s
  exact ⟨d', cs, h1, h3, h4, h5, h6⟩
theorem tree_node {rules : List Ru} {names : List Tx} {rec_ : List Ru → List Tx → Tx → List Int → Option (Tre × List Int)} {name : Tx} {ps : List Tx} {num : Int} {cs : List Tre} (h0 : 0 ≤ num) (hr : rules[num.toNat]? = some (name, ps)) (hn : name ∈ names) (hs : standsL rules names cs ps = true) : standsB rules names (.n num cs) name = true := by
  rw [standsB, if_pos h0, hr, decide_eq_true hn]
  simp [hs]
theorem tree_plain {rules : List Ru} {names words : List Tx} (g : GoodR rules names words) : ∀ (F i : Nat) (hi : i < names.length), names.length - i ≤ F → ∃ t, p_tree F rules names names[i] [] = some (t, []) ∧ GoodT rules names names[i] (2 * (names.length - i)) 40 [] t [] ∧ Tsize t ≤ (if names.length - i = 1 then 4 else if names.length - i = 2 then 13 else 40) := by
  intro F
  induction F with
  | zero => intro i hi h; omega
  | succ F ih =>
    intro i hi h
    obtain ⟨l, e1, nm, e2⟩ := g.nums (rec_ := p_tree F) hi
    obtain ⟨ps, e3, h3, h4⟩ := g.first i hi
    have hk := g.k3
    have nx : ∀ p, p ∈ ps → p ∈ names → ∀ d : List Int, d.length ≤ 0 → ∃ t d', p_tree F rules names p d = some (t, d') ∧ GoodT rules names p (2 * (names.length - (i + 1))) (if names.length - i = 2 then 4 else 13) d t d' := fun p hp hn d hd => by
      obtain ⟨h5, e5⟩ := h4 p hp hn
      subst e5
      obtain ⟨t, e6, g6, z6⟩ := ih (i + 1) h5 (by omega)
      have : d = [] := List.length_eq_zero_iff.mp (by omega)
      subst this
      refine ⟨t, [], e6, ⟨g6.st, Nat.le_refl _, g6.dep, ?_⟩⟩
      simp only [List.length_nil, Nat.mul_zero, Nat.add_zero, Nat.zero_add]
      split
      · rename_i q
        rw [if_pos (by omega)] at z6
        exact z6
      · rename_i q
        by_cases q1 : names.length - (i + 1) = 1
        · omega
        · rw [if_neg q1, if_pos (by omega)] at z6
          exact z6
    have hw : p_tree (F + 1) rules names names[i] [] = p_tree_b (p_tree F) rules names names[i] [] := rfl
    have at1 : atI rules (i : Int) = some (names[i], ps) := by
      rw [atI_nn (by omega)]
      simpa using e3
    by_cases hlast : names.length - i = 1
    · -- the last one: words alone
      obtain ⟨d', cs, f1, f2, f3, f4, f5⟩ := kids_fold (rules := rules) (names := names) (rec_ := p_tree F) (D := 0) (Z := 1) (Nat.le_refl _) (d0 := []) (ps := ps) (by omega) (fun p hp hn => by
        obtain ⟨h5, _⟩ := h4 p hp hn
        omega)
      have hd' : d' = [] := List.length_eq_zero_iff.mp (Nat.le_zero.mp f3)
      subst hd'
      simp only [List.length_nil, Nat.mul_zero, Nat.add_zero, Nat.zero_add, Nat.one_mul] at f5
      refine ⟨.n i cs, ?_, ⟨tree_node (rec_ := p_tree F) (by omega) (by simpa using e3) (List.getElem_mem _) f2, Nat.le_refl _, ?_, ?_⟩, ?_⟩
      · rw [hw]
        unfold p_tree_b p_I3_tree p_F5_tree
        rw [e1, bind_some', e2, bind_some', if_pos (show ([] : List Int).length = 0 from rfl), bind_some']
        simp only [at1, bind_some', f1]
      · show Tre.depL cs + 2 ≤ _
        have := depL_le f4
        omega
      · show 1 + TsizeL cs + _ ≤ _
        simp only [List.length_nil, Nat.mul_zero, Nat.add_zero, Nat.zero_add]
        omega
      · rw [if_pos hlast]
        show 1 + TsizeL cs ≤ 4
        omega
    · obtain ⟨d', cs, f1, f2, f3, f4, f5⟩ := kids_fold (rules := rules) (names := names) (rec_ := p_tree F) (D := 2 * (names.length - (i + 1))) (Z := if names.length - i = 2 then 4 else 13) (by split <;> omega) (d0 := []) (ps := ps) (by omega) nx
      have hd' : d' = [] := List.length_eq_zero_iff.mp (Nat.le_zero.mp f3)
      subst hd'
      simp only [List.length_nil, Nat.mul_zero, Nat.add_zero, Nat.zero_add] at f5
      have hz : TsizeL cs ≤ (if names.length - i = 2 then 12 else 39) := by
        refine Nat.le_trans f5 ?_
        split <;> omega
      refine ⟨.n i cs, ?_, ⟨tree_node (rec_ := p_tree F) (by omega) (by simpa using e3) (List.getElem_mem _) f2, Nat.le_refl _, ?_, ?_⟩, ?_⟩
      · rw [hw]
        unfold p_tree_b p_I3_tree p_F5_tree
        rw [e1, bind_some', e2, bind_some', if_pos (show ([] : List Int).length = 0 from rfl), bind_some']
        simp only [at1, bind_some', f1]
      · show Tre.depL cs + 2 ≤ _
        have := depL_le f4
        omega
      · show 1 + TsizeL cs + _ ≤ _
        simp only [List.length_nil, Nat.mul_zero, Nat.add_zero, Nat.zero_add]
        split at hz <;> omega
      · show 1 + TsizeL cs ≤ _
        rw [if_neg hlast]
        split at hz
        · rename_i q; rw [if_pos q]; omega
        · rename_i q; rw [if_neg q]; omega
theorem tree_drawn {rules : List Ru} {names words : List Tx} (g : GoodR rules names words) : ∀ (F i : Nat) (hi : i < names.length) (d : List Int), d.length + names.length ≤ F → ∃ t d', p_tree F rules names names[i] d = some (t, d') ∧ GoodT rules names names[i] (2 * (d.length + names.length)) 40 d t d' := by
  intro F
  induction F with
  | zero => intro i hi d h; omega
  | succ F ih =>
    intro i hi d h
    have hk := g.k3
    rcases snoc_or d with e0 | ⟨d0, x, e0⟩
    · subst e0
      obtain ⟨t, e1, g1, _⟩ := tree_plain g (F + 1) i hi (by omega)
      exact ⟨t, [], e1, ⟨g1.st, Nat.le_refl _, Nat.le_trans g1.dep (by simp; omega), g1.sz⟩⟩
    · subst e0
      rw [List.length_append, List.length_singleton] at h
      obtain ⟨l, e1, nm, e2⟩ := g.nums (rec_ := p_tree F) hi
      obtain ⟨v, hv, ev⟩ := atI_mod x nm.ne
      obtain ⟨v0, ps, e3⟩ := nm.all v hv
      have hps := (g.all _ (List.mem_of_getElem? e3)).2
      have nx : ∀ p, p ∈ ps → p ∈ names → ∀ d : List Int, d.length ≤ d0.length → ∃ t d', p_tree F rules names p d = some (t, d') ∧ GoodT rules names p (2 * (d0.length + names.length)) 40 d t d' := fun p _ hn d hd => by
        obtain ⟨j, hj, ej⟩ := List.getElem_of_mem hn
        subst ej
        obtain ⟨t, d', e6, g6⟩ := ih j hj d (by omega)
        exact ⟨t, d', e6, ⟨g6.st, g6.dl, Nat.le_trans g6.dep (by omega), g6.sz⟩⟩
      obtain ⟨d', cs, f1, f2, f3, f4, f5⟩ := kids_fold (rules := rules) (names := names) (rec_ := p_tree F) (D := 2 * (d0.length + names.length)) (Z := 40) (by decide) (d0 := d0) (ps := ps) (by have : ps.length ≤ 8 := hps; omega) nx
      have at1 : atI rules v = some (names[i], ps) := by rw [atI_nn v0, e3]
      have hne : ¬ (d0 ++ [x]).length = 0 := by rw [List.length_append, List.length_singleton]; omega
      refine ⟨.n v cs, d', ?_, tree_node (rec_ := p_tree F) v0 e3 (List.getElem_mem _) f2, ?_, ?_, ?_⟩
      · show p_tree_b (p_tree F) rules names names[i] (d0 ++ [x]) = _
        unfold p_tree_b p_I3_tree p_F5_tree
        have nmne := nm.ne
        rw [e1, bind_some', e2, bind_some', if_neg hne, popP_app, bind_some', modP_ok (by omega), bind_some', ev, bind_some', bind_some']
        simp only [at1, bind_some', f1]
      · rw [List.length_append]; omega
      · show Tre.depL cs + 2 ≤ _
        have := depL_le f4
        rw [List.length_append, List.length_singleton]
        omega
      · show 1 + TsizeL cs + _ ≤ _
        rw [List.length_append, List.length_singleton]
        have : ps.length ≤ 8 := hps
        omega
theorem enA_len {α : Type} (xs : List α) : (enA xs).length = xs.length := by unfold enA; simp
theorem enA_get {α : Type} (xs : List α) (i : Nat) : (enA xs)[i]? = xs[i]?.map fun x => ((i : Int), x) := by
  unfold enA
  rw [List.getElem?_map, List.getElem?_zipIdx]
  cases xs[i]? <;> simp
theorem enA_split {α : Type} {xs : List α} {pre post : List (Int × α)} {x : Int × α} (e : enA xs = pre ++ x :: post) : x.1 = (pre.length : Int) ∧ xs[pre.length]? = some x.2 ∧ pre.length < xs.length := by
  have h := congrArg (fun l => l[pre.length]?) e
  simp only [List.getElem?_append_right (Nat.le_refl _), Nat.sub_self, List.getElem?_cons_zero, enA_get] at h
  cases q : xs[pre.length]? with
  | none => rw [q] at h; cases h
  | some y =>
    rw [q] at h
    injection h with h
    rw [← h]
    exact ⟨rfl, rfl, (List.getElem?_eq_some_iff.mp q).1⟩
theorem first_ok {names words : List Tx} (hk : names.length ≤ 1000) (hw : words.length = 3) (rules : List Ru) (hr : rules.length < 1000) (i : Nat) (hi : i < names.length) (draw : Int) :
    ∃ ps, p_L3_rules names words rules (i : Int) draw = some (rules ++ [(names[i], ps)]) ∧ ps.length ≤ 3 ∧ ∀ p, p ∈ ps → p ∈ words ∨ ∃ h : i + 1 < names.length, p = names[i + 1] := by
  obtain ⟨l, e1, h1, h2⟩ := pLc_ex (f := fun (x : Int) => (Option.bind (divP draw x) fun m5 => Option.bind (atI words (m5 % 3)) fun v9 => some (some v9) : Option (Option Tx))) (fun _ y => y ∈ words) (items := [1, 3]) (acc := []) (fun x hx => by
    have hx1 : 0 < x ∧ x < 1073741824 := by
      rcases List.mem_cons.mp hx with e | hx
      · subst e; decide
      · rw [List.mem_singleton.mp hx]; decide
    obtain ⟨c, hc, e⟩ := atI_mod (l := words) (draw / x) (by omega)
    refine ⟨c, ?_, hc⟩
    rw [hw] at e
    show Option.bind (divP draw x) _ = _
    have e : atI words (draw / x % 3) = some c := e
    rw [divP_ok hx1, bind_some', e, bind_some']) (by decide)
  have e1 : p_C1_rules words draw = some l := e1
  have hl : l.length = 2 := h1
  have hlm : ∀ y, y ∈ l → y ∈ words := fun y hy => (h2 y hy).elim fun _ q => q.2
  unfold p_L3_rules
  rw [e1, bind_some', bind_some']
  generalize hps : cutA l none (some (1 + draw / 9 % 2)) = ps0
  have hp0 : ps0.length ≤ 2 := by rw [← hps, ← hl]; exact cutA_len _ _ _
  have hp1 : ∀ y, y ∈ ps0 → y ∈ words := fun y hy => hlm y (cutA_mem (hps ▸ hy))
  have hat : atI names (i : Int) = some names[i] := by rw [atI_nn (by omega)]; simpa using List.getElem?_eq_getElem hi
  have hI : ∃ ps, p_I2_rules names (i : Int) draw ps0 = some ps ∧ ps.length ≤ 3 ∧ ∀ p, p ∈ ps → p ∈ words ∨ ∃ h : i + 1 < names.length, p = names[i + 1] := by
    unfold p_I2_rules
    by_cases h : i + 1 < names.length
    · have hat2 : atI names ((i : Int) + 1) = some names[i + 1] := by
        rw [atI_nn (by omega), show ((i : Int) + 1).toNat = i + 1 by omega]
        exact List.getElem?_eq_getElem h
      rw [if_pos (by omega), modP_ok (by omega), bind_some', hat2, bind_some']
      have m0 : 0 ≤ draw / 18 % ((ps0.length : Int) + 1) := Int.emod_nonneg _ (by omega)
      have m1 : draw / 18 % ((ps0.length : Int) + 1) < (ps0.length : Int) + 1 := Int.emod_lt_of_pos _ (by omega)
      generalize draw / 18 % ((ps0.length : Int) + 1) = m at *
      have hins : insP ps0 m names[i + 1] = some (ps0.take m.toNat ++ [names[i + 1]] ++ ps0.drop m.toNat) := if_pos ⟨m0, by omega, by omega⟩
      rw [hins, bind_some']
      refine ⟨_, rfl, ?_, fun p hp => ?_⟩
      · rw [List.length_append, List.length_append, List.length_take, List.length_drop, List.length_singleton]; omega
      · rcases List.mem_append.mp hp with hp | hp
        · rcases List.mem_append.mp hp with hp | hp
          · exact .inl (hp1 p (List.mem_of_mem_take hp))
          · exact .inr ⟨h, List.mem_singleton.mp hp⟩
        · exact .inl (hp1 p (List.mem_of_mem_drop hp))
    · rw [if_neg (by omega)]
      exact ⟨_, rfl, by omega, fun p hp => .inl (hp1 p hp)⟩
  obtain ⟨ps, e2, h3, h4⟩ := hI
  rw [e2, bind_some', hat, bind_some', appP_ok _ (by omega), bind_some']
  exact ⟨ps, rfl, h3, h4⟩
theorem more_ok {names words pool : List Tx} (hp : pool = names ++ words) (hk : 1 ≤ names.length) (rules : List Ru) (hr : rules.length < 1000) (one : Int) :
    ∃ r : Ru, p_L7_rules names rules pool one = some (rules ++ [r]) ∧ r.1 ∈ names ∧ r.2.length ≤ 8 ∧ ∀ p, p ∈ r.2 → p ∈ pool := by
  obtain ⟨dg, e, hl, h0⟩ := digits_ok one (m := 8) (by decide) (by decide)
  have hl : dg.length = 8 := hl
  unfold p_L7_rules
  rw [e, bind_some', atI_get (i := 1) (by decide) (by omega), bind_some']
  obtain ⟨many, _, e2⟩ := atI_mod (l := ([0, 1, 2, 3, 1, 2, 3, 6] : List Int)) (dg[(1 : Int).toNat]'(by omega)) (by decide)
  have e2 : atI ([0, 1, 2, 3, 1, 2, 3, 6] : List Int) (dg[(1 : Int).toNat]'(by omega) % 8) = some many := e2
  rw [e2, bind_some']
  have hpl : 0 < pool.length := by rw [hp, List.length_append]; omega
  obtain ⟨l, e3, h1, h2⟩ := pLc_ex (f := fun (x : Int) => (Option.bind (modP x (List.length pool : Int)) fun m65 => Option.bind (atI pool m65) fun v68 => some (some v68) : Option (Option Tx))) (fun _ y => y ∈ pool) (items := cutA dg (some 2) (some (2 + many))) (acc := []) (fun x hx => by
    obtain ⟨c, hc, e⟩ := atI_mod (l := pool) x hpl
    refine ⟨c, ?_, hc⟩
    show Option.bind (modP x (List.length pool : Int)) _ = _
    rw [modP_ok (by omega), bind_some', e, bind_some']) (by have := cutA_len dg (some 2) (some (2 + many)); simp; omega)
  have e3 : p_C6_rules pool dg many = some l := e3
  obtain ⟨nm, hnm, e4⟩ := atI_mod (l := names) (dg[(0 : Int).toNat]'(by omega)) (by omega)
  rw [e3, bind_some', atI_get (i := 0) (by decide) (by omega), bind_some', modP_ok (by omega), bind_some', e4, bind_some', appP_ok _ (by omega), bind_some']
  refine ⟨_, rfl, hnm, ?_, fun p hp => (h2 p hp).elim fun _ q => q.2⟩
  show l.length ≤ 8
  have := cutA_len dg (some 2) (some (2 + many))
  omega
theorem rules_ok {names words : List Tx} (k0 : 1 ≤ names.length) (k3 : names.length ≤ 3) (hw : words.length = 3) (nd : names.Nodup) (dj : ∀ x, x ∈ names → x ∉ words) (cell : Int) {cells : List Int} (hc : cells.length ≤ 900) :
    ∃ rules, p_rules cell names words cells = some rules ∧ GoodR rules names words ∧ rules.length = names.length + cells.length ∧ ∀ r, r ∈ rules → ∀ p, p ∈ r.2 → p ∈ names ++ words := by
  obtain ⟨dr, e1, hl, _⟩ := stream_ok cell (m := (names.length : Int)) (by omega) (by omega)
  have hl : dr.length = names.length := by omega
  unfold p_rules p_F4_rules
  rw [e1, bind_some']
  obtain ⟨r1, e2, h1, h2, h3⟩ := pFold_inv (f := fun (s1 : List Ru) (x : (Int × Int)) => p_L3_rules names words s1 x.1 x.2) (items := enA dr)
    (fun pre s => s.length = pre.length ∧ (∀ i (h : i < names.length), i < s.length → ∃ ps, s[i]? = some (names[i], ps) ∧ ps.length ≤ 3 ∧ ∀ p, p ∈ ps → p ∈ words ∨ ∃ h : i + 1 < names.length, p = names[i + 1]) ∧ ∀ r, r ∈ s → r.1 ∈ names ∧ r.2.length ≤ 8 ∧ ∀ p, p ∈ r.2 → p ∈ names ++ words) (fun pre x post s e hI => by
      obtain ⟨i1, i2, i3⟩ := hI
      obtain ⟨q1, q2, q3⟩ := enA_split e
      have hi : s.length < names.length := by omega
      obtain ⟨ps, e3, h3, h4⟩ := first_ok (by omega) hw s (by omega) s.length hi x.2
      refine ⟨_, by rw [q1, ← i1]; exact e3, by simp [i1], fun i h hs => ?_, fun r hr => ?_⟩
      · by_cases hlt : i < s.length
        · rw [List.getElem?_append_left hlt]
          exact i2 i h hlt
        · have : i = s.length := by
            rw [List.length_append, List.length_singleton] at hs
            omega
          subst this
          rw [List.getElem?_append_right (Nat.le_refl _), Nat.sub_self]
          exact ⟨ps, rfl, h3, h4⟩
      · rcases List.mem_append.mp hr with m | m
        · exact i3 r m
        · rw [List.mem_singleton.mp m]
          refine ⟨List.getElem_mem _, by show ps.length ≤ 8; omega, fun p hp => ?_⟩
          rcases h4 p hp with q | ⟨h, q⟩
          · exact List.mem_append_right _ q
          · exact List.mem_append_left _ (q ▸ List.getElem_mem _)) (s := []) ⟨rfl, fun i h hs => by simp at hs, fun _ z => by cases z⟩
  rw [enA_len, hl] at h1
  rw [e2, bind_some', catP_ok (by omega), bind_some']
  unfold p_F8_rules
  rw [okP_dec (by omega), bind_some']
  obtain ⟨r2, e3, h4, h5, h6⟩ := pFold_inv (f := fun (s1 : List Ru) (x : Int) => p_L7_rules names s1 (names ++ words) x) (items := cells)
    (fun pre s => s.length = names.length + pre.length ∧ (∀ i, i < names.length → s[i]? = r1[i]?) ∧ ∀ r, r ∈ s → r.1 ∈ names ∧ r.2.length ≤ 8 ∧ ∀ p, p ∈ r.2 → p ∈ names ++ words) (fun pre x post s e hI => by
      obtain ⟨i1, i2, i3⟩ := hI
      have hl2 := congrArg List.length e
      rw [List.length_append, List.length_cons] at hl2
      obtain ⟨r, e4, g1, g2, g3⟩ := more_ok (names := names) (words := words) rfl k0 s (by omega) x
      refine ⟨_, e4, by simp [i1, Nat.add_assoc], fun i hi => ?_, fun q hq => ?_⟩
      · rw [List.getElem?_append_left (by omega)]
        exact i2 i hi
      · rcases List.mem_append.mp hq with m | m
        · exact i3 q m
        · rw [List.mem_singleton.mp m]
          exact ⟨g1, g2, g3⟩) (s := r1) ⟨by rw [h1]; rfl, fun _ _ => rfl, h3⟩
  rw [e3, bind_some']
  refine ⟨r2, rfl, ⟨by omega, k0, k3, nd, fun i hi => ?_, fun r hr => ⟨(h6 r hr).1, (h6 r hr).2.1⟩⟩, h4, fun r hr => (h6 r hr).2.2⟩
  obtain ⟨ps, q1, q2, q3⟩ := h2 i hi (by omega)
  refine ⟨ps, by rw [h5 i hi, q1], q2, fun p hp hn => ?_⟩
  rcases q3 p hp with q | q
  · exact absurd q (dj p hn)
  · exact q
theorem stands_rec_ok {rules : List Ru} {names : List Tx} : ∀ (F : Nat) (t : Tre) (p : Tx), t.dep + 2 ≤ 2 * F → t.dep ≤ 60 → Tsize t ≤ 1000000 → p_stands F rules names t p = some (standsB rules names t p) := by
  intro F
  induction F with
  | zero => intro t p h; omega
  | succ F ih =>
    intro t p h hd hs
    show p_stands_b (p_stands F) rules names t p = _
    unfold p_stands_b
    by_cases hp : p ∈ names
    · rw [if_pos hp]
      cases t with
      | w x =>
        simp only [Tre.isW, if_true, bind_some']
        rw [standsB, decide_eq_true hp]; rfl
      | n i cs =>
        have hd2 : Tre.depL cs + 2 + 2 ≤ 2 * (F + 1) := h
        have hd3 : Tre.depL cs + 2 ≤ 60 := hd
        have hs2 : 1 + TsizeL cs ≤ 1000000 := hs
        simp only [Tre.isW, Bool.false_eq_true, if_false, Tre.num, bind_some', Tre.kids]
        rw [standsB, decide_eq_true hp, Bool.true_and]
        by_cases h1 : 0 ≤ i
        · by_cases h2 : i < (rules.length : Int)
          · have e : rules[i.toNat]? = some (rules[i.toNat]'(by omega)) := List.getElem?_eq_getElem (by omega)
            simp only [decide_eq_true h1, decide_eq_true h2, Bool.and_self, Bool.not_true, Bool.false_eq_true, if_false, atI_get h1 h2, bind_some', if_pos h1, e]
            generalize rules[i.toNat]'(by omega) = r at *
            by_cases h3 : r.1 = p
            · rw [if_pos h3, bind_some', decide_eq_true h3, Bool.true_and, standsL_zip]
              by_cases h4 : (r.2.length : Int) = (cs.length : Int)
              · rw [decide_eq_true h4, decide_eq_true (show cs.length = r.2.length by omega)]
                simp only [Bool.not_true, Bool.false_eq_true, if_false, Bool.true_and]
                have hl := TsizeL_len cs
                have hC : p_C1_stands (p_stands F) rules names (.n i cs) r.2 = some ((cs.zip r.2).map fun (q : Tre × Tx) => standsB rules names q.1 q.2) := by
                  unfold p_C1_stands
                  simp only [Tre.kids, bind_some']
                  refine pLc_map (fun (q : Tre × Tx) => standsB rules names q.1 q.2) (fun q hq => ?_) (by rw [List.length_zip]; omega)
                  show Option.bind (p_stands F rules names q.1 q.2) _ = _
                  have hm : q.1 ∈ cs := (List.of_mem_zip (show (q.1, q.2) ∈ cs.zip r.2 from hq)).1
                  have hqd := dep_kid (Nat.le_refl _) hm
                  have hqs : Tsize q.1 ≤ TsizeL cs := by
                    clear hq hqd
                    induction cs with
                    | nil => cases hm
                    | cons c cs ih2 =>
                      show Tsize q.1 ≤ Tsize c + TsizeL cs
                      rcases List.mem_cons.mp hm with e | m
                      · rw [e]; omega
                      · have : ∀ (l : List Tre) (x : Tre), x ∈ l → Tsize x ≤ TsizeL l := by
                          intro l
                          induction l with
                          | nil => intro x hx; cases hx
                          | cons y l ih3 =>
                            intro x hx
                            show Tsize x ≤ Tsize y + TsizeL l
                            rcases List.mem_cons.mp hx with e | hx
                            · rw [e]; omega
                            · have := ih3 x hx; omega
                        have := this cs q.1 m
                        omega
                  rw [ih q.1 q.2 (by omega) (by omega) (by omega), bind_some']
                rw [hC, bind_some', List.all_map]
                rfl
              · rw [decide_eq_false h4, decide_eq_false (show ¬ cs.length = r.2.length by omega)]
                rfl
            · rw [if_neg h3, bind_some', decide_eq_false h3]
              rfl
          · simp only [decide_eq_true h1, decide_eq_false h2, Bool.and_false, Bool.not_false, if_true, if_pos h1]
            rw [List.getElem?_eq_none (by omega)]
        · simp only [decide_eq_false h1, Bool.false_and, Bool.not_false, if_true, if_neg h1]
    · rw [if_neg hp]
      cases t with
      | w x =>
        simp only [Tre.isW, if_true]
        have : (Tre.w x).eqTx p = some (decide (x = p)) := if_pos (Nat.zero_le _)
        rw [this, bind_some', bind_some', standsB, decide_eq_false hp]
        rfl
      | n i cs =>
        simp only [Tre.isW, Bool.false_eq_true, if_false, bind_some']
        rw [standsB, decide_eq_false hp]; rfl
theorem depL_app {a b : List Tre} {n : Nat} (h1 : Tre.depL a ≤ n) (h2 : Tre.depL b ≤ n) : Tre.depL (a ++ b) ≤ n :=
  depL_le fun c hc => (List.mem_append.mp hc).elim (dep_kid h1) (dep_kid h2)
theorem depL_cut {cs : List Tre} {n : Nat} (h : Tre.depL cs ≤ n) (lo hi : Option Int) : Tre.depL (cutA cs lo hi) ≤ n := depL_le fun c hc => dep_kid h (cutA_mem hc)
theorem TsizeL_take : ∀ (l : List Tre) (n : Nat), TsizeL (l.take n) + TsizeL (l.drop n) = TsizeL l := fun l n => by
  rw [← TsizeL_app, List.take_append_drop]
theorem cut_to {α : Type} (l : List α) {m : Int} (h : 0 ≤ m) : cutA l none (some m) = l.take m.toNat := cutA_toI h
theorem cut_from {α : Type} (l : List α) {m : Int} (h : 0 ≤ m) (h2 : m ≤ l.length) : cutA l (some m) none = l.drop m.toNat := by
  have := cutA_from (l := l) (i := m.toNat) (by omega)
  rwa [show ((m.toNat : Nat) : Int) = m by omega] at this
theorem spoiled_ok {pool : List Tx} (hp : pool.length = 6) {many : Int} (hm : 0 < many) : ∀ (F : Nat) (t : Tre) (dg : List Int), t.dep + 2 ≤ 2 * F → t.dep ≤ 56 → Tsize t ≤ 100000 → 3 ≤ dg.length → dg.length + F ≤ 1000 →
    ∃ t', p_spoiled F t pool many dg = some t' ∧ t'.dep ≤ t.dep + 2 ∧ Tsize t' ≤ Tsize t + 2 := by
  intro F
  induction F with
  | zero => intro t dg h; omega
  | succ F ih =>
    intro t dg h hd hs h3 hdl
    show ∃ t', p_spoiled_b (p_spoiled F) t pool many dg = some t' ∧ _
    unfold p_spoiled_b
    rw [atI_get (i := 0) (by decide) (by omega), bind_some', bind_some']
    generalize hway : dg[(0 : Int).toNat]'(by omega) % 8 = way
    have e1 := atI_get (l := dg) (i := 1) (by decide) (by omega)
    generalize dg[(1 : Int).toNat]'(by omega) = v1 at e1
    have e2 := atI_get (l := dg) (i := 2) (by decide) (by omega)
    generalize dg[(2 : Int).toNat]'(by omega) = v2 at e2
    obtain ⟨w1, _, ew1⟩ := atI_mod (l := pool) v1 (by omega)
    obtain ⟨w2, _, ew2⟩ := atI_mod (l := pool) v2 (by omega)
    rw [hp] at ew1 ew2
    have ew1 : atI pool (v1 % 6) = some w1 := ew1
    have ew2 : atI pool (v2 % 6) = some w2 := ew2
    cases t with
    | w x =>
      simp only [Tre.isW, if_true, e1, bind_some', ew1, modP_ok (show 0 < many + 2 by omega), modP_ok hm]
      obtain ⟨t', ht, e3⟩ := atI_mod (l := [(Tre.w w1), (Tre.n (v1 % (many + 2) - 1) []), (Tre.n (v1 % many) [Tre.w x]), Tre.w x]) way (by simp)
      have e3 : atI [(Tre.w w1), (Tre.n (v1 % (many + 2) - 1) []), (Tre.n (v1 % many) [Tre.w x]), Tre.w x] (way % 4) = some t' := e3
      rw [e3, bind_some']
      refine ⟨t', rfl, ?_⟩
      rcases List.mem_cons.mp ht with e | ht
      · subst e; exact ⟨Nat.zero_le _, by show 1 ≤ 1 + 2; decide⟩
      · rcases List.mem_cons.mp ht with e | ht
        · subst e; exact ⟨Nat.le_refl _, by show 1 + 0 ≤ 1 + 2; decide⟩
        · rcases List.mem_cons.mp ht with e | ht
          · subst e; exact ⟨Nat.le_refl _, by show 1 + (1 + 0) ≤ 1 + 2; decide⟩
          · rw [List.mem_singleton.mp ht]; exact ⟨Nat.zero_le _, by show 1 ≤ 1 + 2; decide⟩
    | n i cs =>
      have hd2 : Tre.depL cs + 2 + 2 ≤ 2 * (F + 1) := h
      have hd3 : Tre.depL cs + 2 ≤ 56 := hd
      have hs2 : 1 + TsizeL cs ≤ 100000 := hs
      have hcl := TsizeL_len cs
      simp only [Tre.isW, Bool.false_eq_true, if_false, Tre.two, bind_some', e1]
      have gt : ∀ (j : Int) (l : List Tre), Tre.depL l ≤ Tre.depL cs + 2 → TsizeL l ≤ TsizeL cs + 2 → (Tre.n j l).dep ≤ (Tre.n i cs).dep + 2 ∧ Tsize (Tre.n j l) ≤ Tsize (Tre.n i cs) + 2 := fun j l a b =>
        ⟨by show Tre.depL l + 2 ≤ Tre.depL cs + 2 + 2; omega, by show 1 + TsizeL l ≤ 1 + TsizeL cs + 2; omega⟩
      have hM : ∃ m : Int, modP v1 (if (cs.length : Int) > 1 then (cs.length : Int) else 1) = some m ∧ 0 ≤ m ∧ (0 < cs.length → m < cs.length) := by
        by_cases q : (cs.length : Int) > 1
        · rw [if_pos q, modP_ok (by omega)]
          exact ⟨_, rfl, Int.emod_nonneg _ (by omega), fun _ => Int.emod_lt_of_pos _ (by omega)⟩
        · rw [if_neg q, modP_ok (by omega)]
          exact ⟨_, rfl, by omega, fun _ => by omega⟩
      obtain ⟨m, em, m0, m1⟩ := hM
      simp only [em, bind_some']
      have hnil : nilP eTree cs = some (decide (cs.length = 0)) := nilP_trees fun c hc => Nat.le_trans (dep_kid (Nat.le_refl _) hc) (by omega)
      by_cases hw : way = 0 ∨ cs.length = 0
      · have : (if way = 0 then some true else Option.bind (nilP eTree cs) fun b37 => some b37) = some true := by
          rcases hw with q | q
          · rw [if_pos q]
          · split
            · rfl
            · rw [hnil, decide_eq_true q]; rfl
        simp only [this, bind_some', if_true, e2, modP_ok (show 0 < many + 2 by omega)]
        exact ⟨_, rfl, gt _ _ (by omega) (by omega)⟩
      · have h0 : ¬ way = 0 := fun z => hw (.inl z)
        have hc0 : 0 < cs.length := Nat.pos_of_ne_zero fun z => hw (.inr z)
        have m1 := m1 hc0
        have : (if way = 0 then some true else Option.bind (nilP eTree cs) fun b37 => some b37) = some false := by
          rw [if_neg h0, hnil, decide_eq_false (by omega)]; rfl
        simp only [this, bind_some', Bool.false_eq_true, if_false]
        have ct := cut_to cs m0
        have cf := cut_from cs m0 (by omega)
        have cf1 := cut_from cs (m := m + 1) (by omega) (by omega)
        have ts := TsizeL_take cs m.toNat
        have hdr : cs.drop m.toNat = cs[m.toNat]'(by omega) :: cs.drop (m.toNat + 1) := List.drop_eq_getElem_cons (by omega)
        have hat : atI cs m = some (cs[m.toNat]'(by omega)) := atI_get m0 m1
        generalize hc : cs[m.toNat]'(by omega) = c at *
        have hcm : c ∈ cs := hc ▸ List.getElem_mem _
        have hcd := dep_kid (Nat.le_refl _) hcm
        have e1' : (m + 1).toNat = m.toNat + 1 := by omega
        rw [e1'] at cf1
        have sz : TsizeL (cs.drop m.toNat) = Tsize c + TsizeL (cs.drop (m.toNat + 1)) := by rw [hdr]; rfl
        have dT : Tre.depL (cs.take m.toNat) ≤ Tre.depL cs := depL_le fun x hx => dep_kid (Nat.le_refl _) (List.mem_of_mem_take hx)
        have dD : ∀ k, Tre.depL (cs.drop k) ≤ Tre.depL cs := fun k => depL_le fun x hx => dep_kid (Nat.le_refl _) (List.mem_of_mem_drop hx)
        have lT : (cs.take m.toNat).length ≤ cs.length := by rw [List.length_take]; omega
        have lD : ∀ k, (cs.drop k).length ≤ cs.length := fun k => by rw [List.length_drop]; omega
        by_cases w1' : way = 1
        · simp only [if_pos w1', ct, cf1, catP_ok (show (cs.take m.toNat).length + (cs.drop (m.toNat + 1)).length ≤ 1000000 by have := lD (m.toNat + 1); omega), bind_some']
          exact ⟨_, rfl, gt _ _ (Nat.le_trans (depL_app dT (dD _)) (by omega)) (by rw [TsizeL_app]; omega)⟩
        simp only [if_neg w1']
        by_cases w2' : way = 2
        · simp only [if_pos w2', e2, bind_some', ew2, ct, cf, catP_ok (show (cs.take m.toNat).length + [Tre.w w2].length ≤ 1000000 by simp; omega), catP_ok (show (cs.take m.toNat ++ [Tre.w w2]).length + (cs.drop m.toNat).length ≤ 1000000 by simp; omega)]
          refine ⟨_, rfl, gt _ _ (Nat.le_trans (depL_app (depL_app dT (show Tre.depL [Tre.w w2] ≤ _ from Nat.zero_le _)) (dD _)) (by omega)) ?_⟩
          rw [TsizeL_app, TsizeL_app]
          show TsizeL (cs.take m.toNat) + (1 + 0) + TsizeL (cs.drop m.toNat) ≤ _
          omega
        simp only [if_neg w2']
        by_cases w3' : way = 3
        · have c12 : cutA cs (some (m + 1)) (some (m + 2)) = (cs.drop (m.toNat + 1)).take 1 := by
            have : cutA cs (some (m + 1)) (some (m + 2)) = cutA cs (some ((m.toNat + 1 : Nat) : Int)) (some ((m.toNat + 2 : Nat) : Int)) := by
              congr 2 <;> omega
            rw [this, cutA_ij, List.drop_take]
            congr 1
            omega
          have cf2 : TsizeL (cutA cs (some (m + 2)) none) ≤ TsizeL (cs.drop (m.toNat + 2)) ∧ (cutA cs (some (m + 2)) none).length ≤ cs.length ∧ Tre.depL (cutA cs (some (m + 2)) none) ≤ Tre.depL cs := by
            refine ⟨?_, cutA_len _ _ _, depL_cut (Nat.le_refl _) _ _⟩
            by_cases q : m + 2 ≤ cs.length
            · rw [cut_from cs (m := m + 2) (by omega) q, show (m + 2).toNat = m.toNat + 2 by omega]; exact Nat.le_refl _
            · have : cutA cs (some (m + 2)) none = [] := by
                have hz : (cutA cs (some (m + 2)) none).length = 0 := by
                  unfold cutA
                  rw [show m + 2 = ((m.toNat + 2 : Nat) : Int) by omega, HT.sIx_nat, HT.sIx_none, List.length_take, List.length_drop]
                  omega
                exact List.length_eq_zero_iff.mp hz
              rw [this]
              exact Nat.zero_le _
          generalize cutA cs (some (m + 2)) none = l2 at *
          have ts1 := TsizeL_take (cs.drop (m.toNat + 1)) 1
          rw [List.drop_drop] at ts1
          have ts1 : TsizeL ((cs.drop (m.toNat + 1)).take 1) + TsizeL (cs.drop (m.toNat + 2)) = TsizeL (cs.drop (m.toNat + 1)) := by
            rw [← ts1]
          have l1 : ((cs.drop (m.toNat + 1)).take 1).length ≤ 1 := by rw [List.length_take]; omega
          have d1 : Tre.depL ((cs.drop (m.toNat + 1)).take 1) ≤ Tre.depL cs := depL_le fun x hx => dep_kid (Nat.le_refl _) (List.mem_of_mem_drop (List.mem_of_mem_take hx))
          generalize (cs.drop (m.toNat + 1)).take 1 = l1' at *
          simp only [if_pos w3', ct, c12, bind_some', hat, catP_ok (show (cs.take m.toNat).length + l1'.length ≤ 1000000 by omega), catP_ok (show (cs.take m.toNat ++ l1').length + [c].length ≤ 1000000 by simp; omega), catP_ok (show (cs.take m.toNat ++ l1' ++ [c]).length + l2.length ≤ 1000000 by simp; omega)]
          refine ⟨_, rfl, gt _ _ (Nat.le_trans (depL_app (depL_app (depL_app dT d1) (depL_le fun x hx => by rw [List.mem_singleton.mp hx]; exact hcd)) cf2.2.2) (by omega)) ?_⟩
          rw [TsizeL_app, TsizeL_app, TsizeL_app]
          show TsizeL (cs.take m.toNat) + TsizeL l1' + (Tsize c + 0) + TsizeL l2 ≤ _
          have := cf2.1
          omega
        simp only [if_neg w3']
        by_cases w4' : way = 4
        · simp only [if_pos w4', e2, bind_some', ew2]
          exact ⟨_, rfl, Nat.zero_le _, by show 1 ≤ 1 + TsizeL cs + 2; omega⟩
        simp only [if_neg w4', hat, bind_some']
        have hcs : Tsize c ≤ TsizeL cs := by omega
        have dcut : (cutA dg (some 2) none) = dg.drop 2 := cutA_from (i := 2) (by omega)
        have dl : (dg.drop 2).length = dg.length - 2 := List.length_drop ..
        obtain ⟨c', e4, g1, g2⟩ := ih c (dg.drop 2 ++ [1, 1, 1]) (by omega) (by omega) (by omega) (by rw [List.length_append]; simp) (by rw [List.length_append]; simp; omega)
        simp only [dcut, catP_ok (show (dg.drop 2).length + [(1 : Int), 1, 1].length ≤ 1000000 by simp; omega), bind_some', e4, ct, cf1, catP_ok (show (cs.take m.toNat).length + [c'].length ≤ 1000000 by simp; omega), catP_ok (show (cs.take m.toNat ++ [c']).length + (cs.drop (m.toNat + 1)).length ≤ 1000000 by simp; omega)]
        refine ⟨_, rfl, gt _ _ (depL_app (depL_app (Nat.le_trans dT (by omega)) (depL_le fun x hx => by rw [List.mem_singleton.mp hx]; omega)) (Nat.le_trans (dD _) (by omega))) ?_⟩
        rw [TsizeL_app, TsizeL_app]
        show TsizeL (cs.take m.toNat) + (Tsize c' + 0) + TsizeL (cs.drop (m.toNat + 1)) ≤ _
        omega
theorem law_math : ∀ ns : List Int, ns.length ≤ 63 → p_law ns = some true := by
  intro ns hns
  obtain ⟨c0, e0⟩ := cell_at_ok ns (k := 0) (by decide)
  obtain ⟨pool, e1, hl, nd, hlen⟩ := pool_ok (c0 / 3) (m := 6) (by decide) (by decide)
  have hl : pool.length = 6 := hl
  obtain ⟨c1, e2⟩ := cell_at_ok ns (k := 1) (by decide)
  obtain ⟨c2, e2b⟩ := cell_at_ok ns (k := 2) (by decide)
  unfold p_law
  rw [e0, bind_some', e1, bind_some', bind_some']
  have en : cutA pool none (some (1 + c0 % 3)) = pool.take (1 + c0 % 3).toNat := cutA_toI (by omega)
  have ew : cutA pool (some 3) none = pool.drop 3 := cutA_from (i := 3) (by omega)
  rw [en, ew]
  generalize hk : (1 + c0 % 3).toNat = k
  have hk1 : 1 ≤ k := by omega
  have hk3 : k ≤ 3 := by omega
  have l1 : (pool.take k).length = k := by rw [List.length_take]; omega
  have l2 : (pool.drop 3).length = 3 := by rw [List.length_drop]; omega
  have nd1 : (pool.take k).Nodup := List.Sublist.nodup (List.take_sublist ..) nd
  have dj : ∀ x, x ∈ pool.take k → x ∉ pool.drop 3 := fun x h1 h2 => by
    have hsp : pool = pool.take 3 ++ pool.drop 3 := (List.take_append_drop 3 pool).symm
    have h1' : x ∈ pool.take 3 := by
      have : pool.take k = (pool.take 3).take k := by rw [List.take_take, Nat.min_eq_left hk3]
      rw [this] at h1
      exact List.mem_of_mem_take h1
    rw [hsp, List.nodup_append] at nd
    exact nd.2.2 x h1' x h2 rfl
  obtain ⟨rules, e3, g, hrl, _⟩ := rules_ok (names := pool.take k) (words := pool.drop 3) (by omega) (by omega) l2 nd1 dj (c0 / 3) (cells := cutA ns (some 3) (some 11)) (Nat.le_trans (cutA_len _ _ _) (by omega))
  rw [e3, bind_some']
  generalize pool.take k = names at *
  have hi : 0 < names.length := by omega
  have hat : atI names 0 = some names[0] := by rw [atI_nn (by decide)]; exact List.getElem?_eq_getElem hi
  have hr : rules.length < 100000 := by have := g.len; omega
  obtain ⟨dg, e4, hdl, _⟩ := digits_ok c1 (m := 1 + c1 % 12) (by omega) (by omega)
  obtain ⟨t, d', e5, gt⟩ := tree_drawn g 30 0 hi dg (by omega)
  obtain ⟨ds, e6, hds, _⟩ := digits_ok c2 (m := 45) (by decide) (by decide)
  have hds : ds.length = 45 := hds
  rw [e2, bind_some', hat, bind_some', e4, bind_some', e5, bind_some', e2b, bind_some', e6, bind_some']
  have hdep : t.dep ≤ 32 := Nat.le_trans gt.dep (by omega)
  have hsz : Tsize t ≤ 10000 := by have := gt.sz; omega
  have hF : ∃ t', p_F1_law pool names rules t ds rules = some (.nx t') := by
    unfold p_F1_law
    rw [rngP_ok (by decide), bind_some']
    obtain ⟨t', h, _⟩ := pFor_inv (f := fun (s1 : Tre) (x : Int) => p_L0_law pool names rules s1 ds rules x) (items := (List.range (4 : Int).toNat).map fun (k : Nat) => (0 + (k : Int))) (fun pre s => s.dep ≤ 32 + 2 * pre.length ∧ Tsize s ≤ 10000 + 2 * pre.length) (fun pre x post s e hI => by
      obtain ⟨i1, i2⟩ := hI
      have hl2 := congrArg List.length e
      rw [List.length_map, List.length_range, List.length_append, List.length_cons] at hl2
      have hl2 : 4 = pre.length + (post.length + 1) := hl2
      unfold p_L0_law
      rw [hat, bind_some', tree_stands_ok hr (by omega) (by omega), bind_some', stands_rec_ok 30 s _ (by omega) (by omega) (by omega), bind_some', bind_some']
      have hb : (decide (names[0] ∈ headsF rules) && standsB rules (headsF rules) s names[0]) = standsB rules names s names[0] := by
        rw [standsB_congr g.heads _ s _ (Nat.le_refl _), decide_eq_true ((g.heads _).mpr (List.getElem_mem _)), Bool.true_and]
      rw [hb]
      have hq : ((!(decide (standsB rules names s names[0] = standsB rules names s names[0]))) || (!(decide (rules = rules)))) = false := by simp
      rw [hq]
      have hcl := cutA_len ds (some (15 * x)) (some (15 * x + 15))
      obtain ⟨t', e7, g1, g2⟩ := spoiled_ok hl (many := (rules.length : Int)) (by omega) 30 s (cutA ds (some (15 * x)) (some (15 * x + 15)) ++ [1, 1, 1]) (by omega) (by omega) (by omega) (by rw [List.length_append]; simp) (by rw [List.length_append]; simp; omega)
      simp only [Bool.false_eq_true, if_false, catP_ok (show (cutA ds (some (15 * x)) (some (15 * x + 15))).length + [(1 : Int), 1, 1].length ≤ 1000000 by simp; omega), bind_some', e7]
      exact ⟨_, rfl, by rw [List.length_append, List.length_singleton]; omega, by rw [List.length_append, List.length_singleton]; omega⟩) (s := t) ⟨by simpa using hdep, by simpa using hsz⟩
    exact ⟨t', h⟩
  obtain ⟨t', e7⟩ := hF
  rw [e7]
  rfl
theorem law_true : ∀ ns : List Int, ns.length ≤ 63 → ∃ ds, sem defs 31 0 [.scr (ns.map D.int)] = some (.bl true, ds) := fun ns h => ⟨_, lv_law 31 (Nat.le_refl _) (law_math ns h)⟩
theorem all_mk {l : PySem.W.OpenLaw} {w : World} {K : PySem.W.Frag} {h : Heap} {mg : Str → Option Value} {fa f0 f1 f2 f3 f4 f5 f6 f7 f8 f9 f10 f11 : Addr} (X : K.In h) (G : h.Ns mainGlobals mg) (hfa : mg "law" = some (.ref fa))
    {od0 an0 : Option Addr} {sl0 : Array (Option Value)} {oc0 kV0 dc0 pm0 cd0 ct0 : Value}
    {od1 an1 : Option Addr} {sl1 : Array (Option Value)} {oc1 kV1 dc1 pm1 cd1 ct1 : Value}
    {od2 an2 : Option Addr} {sl2 : Array (Option Value)} {oc2 kV2 dc2 pm2 cd2 ct2 : Value}
    {od3 an3 : Option Addr} {sl3 : Array (Option Value)} {oc3 kV3 dc3 pm3 cd3 ct3 : Value}
    {od4 an4 : Option Addr} {sl4 : Array (Option Value)} {oc4 kV4 dc4 pm4 cd4 ct4 : Value}
    {od5 an5 : Option Addr} {sl5 : Array (Option Value)} {oc5 kV5 dc5 pm5 cd5 ct5 : Value}
    {od6 an6 : Option Addr} {sl6 : Array (Option Value)} {oc6 kV6 dc6 pm6 cd6 ct6 : Value}
    {od7 an7 : Option Addr} {sl7 : Array (Option Value)} {oc7 kV7 dc7 pm7 cd7 ct7 : Value}
    {od8 an8 : Option Addr} {sl8 : Array (Option Value)} {oc8 kV8 dc8 pm8 cd8 ct8 : Value}
    {od9 an9 : Option Addr} {sl9 : Array (Option Value)} {oc9 kV9 dc9 pm9 cd9 ct9 : Value}
    {od10 an10 : Option Addr} {sl10 : Array (Option Value)} {oc10 kV10 dc10 pm10 cd10 ct10 : Value}
    {od11 an11 : Option Addr} {sl11 : Array (Option Value)} {oc11 kV11 dc11 pm11 cd11 ct11 : Value}
    (a0 : PySem.W.nsIn K mainGlobals "_law_cell_at" = some (some (.ref f0))) (l0 : K.lookup f0 = some ⟨oc0, od0, .func (PySem.W.fnOf "_law_cell_at" "_law_cell_at" (defArgs st_cell_at) (defBody st_cell_at) (defScope st_cell_at) .none kV0 dc0 pm0 an0 cd0 ct0), sl0⟩) (c0 : PySem.W.codeIn K cd0 "_law_cell_at" = true) (k0 : PySem.W.keepIn K (.ref f0) = true)
    (a1 : PySem.W.nsIn K mainGlobals "_law_stream" = some (some (.ref f1))) (l1 : K.lookup f1 = some ⟨oc1, od1, .func (PySem.W.fnOf "_law_stream" "_law_stream" (defArgs st_stream) (defBody st_stream) (defScope st_stream) .none kV1 dc1 pm1 an1 cd1 ct1), sl1⟩) (c1 : PySem.W.codeIn K cd1 "_law_stream" = true) (k1 : PySem.W.keepIn K (.ref f1) = true)
    (a2 : PySem.W.nsIn K mainGlobals "_law_digits" = some (some (.ref f2))) (l2 : K.lookup f2 = some ⟨oc2, od2, .func (PySem.W.fnOf "_law_digits" "_law_digits" (defArgs st_digits) (defBody st_digits) (defScope st_digits) .none kV2 dc2 pm2 an2 cd2 ct2), sl2⟩) (c2 : PySem.W.codeIn K cd2 "_law_digits" = true) (k2 : PySem.W.keepIn K (.ref f2) = true)
    (a3 : PySem.W.nsIn K mainGlobals "_law_pool" = some (some (.ref f3))) (l3 : K.lookup f3 = some ⟨oc3, od3, .func (PySem.W.fnOf "_law_pool" "_law_pool" (defArgs st_pool) (defBody st_pool) (defScope st_pool) .none kV3 dc3 pm3 an3 cd3 ct3), sl3⟩) (c3 : PySem.W.codeIn K cd3 "_law_pool" = true) (k3 : PySem.W.keepIn K (.ref f3) = true)
    (a4 : PySem.W.nsIn K mainGlobals "_law_rules" = some (some (.ref f4))) (l4 : K.lookup f4 = some ⟨oc4, od4, .func (PySem.W.fnOf "_law_rules" "_law_rules" (defArgs st_rules) (defBody st_rules) (defScope st_rules) .none kV4 dc4 pm4 an4 cd4 ct4), sl4⟩) (c4 : PySem.W.codeIn K cd4 "_law_rules" = true) (k4 : PySem.W.keepIn K (.ref f4) = true)
    (a5 : PySem.W.nsIn K mainGlobals "_law_spoiled" = some (some (.ref f5))) (l5 : K.lookup f5 = some ⟨oc5, od5, .func (PySem.W.fnOf "_law_spoiled" "_law_spoiled" (defArgs st_spoiled) (defBody st_spoiled) (defScope st_spoiled) .none kV5 dc5 pm5 an5 cd5 ct5), sl5⟩) (c5 : PySem.W.codeIn K cd5 "_law_spoiled" = true) (k5 : PySem.W.keepIn K (.ref f5) = true)
    (a6 : PySem.W.nsIn K mainGlobals "_law_stands" = some (some (.ref f6))) (l6 : K.lookup f6 = some ⟨oc6, od6, .func (PySem.W.fnOf "_law_stands" "_law_stands" (defArgs st_stands) (defBody st_stands) (defScope st_stands) .none kV6 dc6 pm6 an6 cd6 ct6), sl6⟩) (c6 : PySem.W.codeIn K cd6 "_law_stands" = true) (k6 : PySem.W.keepIn K (.ref f6) = true)
    (a7 : PySem.W.nsIn K mainGlobals "_law_tree" = some (some (.ref f7))) (l7 : K.lookup f7 = some ⟨oc7, od7, .func (PySem.W.fnOf "_law_tree" "_law_tree" (defArgs st_tree) (defBody st_tree) (defScope st_tree) .none kV7 dc7 pm7 an7 cd7 ct7), sl7⟩) (c7 : PySem.W.codeIn K cd7 "_law_tree" = true) (k7 : PySem.W.keepIn K (.ref f7) = true)
    (a8 : PySem.W.nsIn K mainGlobals "has_rule" = some (some (.ref f8))) (l8 : K.lookup f8 = some ⟨oc8, od8, .func (PySem.W.fnOf "has_rule" "has_rule" (defArgs st_has_rule) (defBody st_has_rule) (defScope st_has_rule) .none kV8 dc8 pm8 an8 cd8 ct8), sl8⟩) (c8 : PySem.W.codeIn K cd8 "has_rule" = true) (k8 : PySem.W.keepIn K (.ref f8) = true)
    (a9 : PySem.W.nsIn K mainGlobals "heads_of" = some (some (.ref f9))) (l9 : K.lookup f9 = some ⟨oc9, od9, .func (PySem.W.fnOf "heads_of" "heads_of" (defArgs st_heads_of) (defBody st_heads_of) (defScope st_heads_of) .none kV9 dc9 pm9 an9 cd9 ct9), sl9⟩) (c9 : PySem.W.codeIn K cd9 "heads_of" = true) (k9 : PySem.W.keepIn K (.ref f9) = true)
    (a10 : PySem.W.nsIn K mainGlobals "tree_stands" = some (some (.ref f10))) (l10 : K.lookup f10 = some ⟨oc10, od10, .func (PySem.W.fnOf "tree_stands" "tree_stands" (defArgs st_tree_stands) (defBody st_tree_stands) (defScope st_tree_stands) .none kV10 dc10 pm10 an10 cd10 ct10), sl10⟩) (c10 : PySem.W.codeIn K cd10 "tree_stands" = true) (k10 : PySem.W.keepIn K (.ref f10) = true)
    (a11 : PySem.W.nsIn K mainGlobals "law" = some (some (.ref f11))) (l11 : K.lookup f11 = some ⟨oc11, od11, .func (PySem.W.fnOf "law" "law" (defArgs st_law) (defBody st_law) (defScope st_law) .none kV11 dc11 pm11 an11 cd11 ct11), sl11⟩) (c11 : PySem.W.codeIn K cd11 "law" = true) (k11 : PySem.W.keepIn K (.ref f11) = true)
    (z0 : PySem.W.nsIn K mainGlobals "len" = some none)
    (z1 : PySem.W.nsIn K mainGlobals "range" = some none)
    (z2 : PySem.W.nsIn K mainGlobals "enumerate" = some none)
    (z3 : PySem.W.nsIn K mainGlobals "tuple" = some none)
    (z4 : PySem.W.nsIn K mainGlobals "isinstance" = some none)
    (z5 : PySem.W.nsIn K mainGlobals "str" = some none)
    (z6 : PySem.W.nsIn K mainGlobals "max" = some none)
    (z7 : PySem.W.nsIn K mainGlobals "all" = some none)
    (z8 : PySem.W.nsIn K mainGlobals "zip" = some none)
    (z9 : PySem.W.nsIn K mainGlobals "list" = some none)
    (z10 : PySem.W.nsIn K mainGlobals "bool" = some none)
    : ∃ fd : FuncData, (∀ (s : Shared) (v : Value), BindsTo s fd ⟨[v], []⟩ [("_law_script", v)]) ∧ ∀ base : Heap, K.In base → base.Ns mainGlobals mg → FnOk l.prog w K mg base CX0 31 fa fd ["_law_script"] (DE.spLaw K) := by
  have e := hfa.symm.trans (PySem.W.mg_of X G a11)
  cases e
  have F0 := fun_mk (st := st_cell_at) l0 c0 k0
  have b0 := F0.binds (ps := ["_law_script", "_law_k"]) fun _ _ _ _ _ _ us hl => match us, hl with | [_, _], _ => rfl
  have F1 := fun_mk (st := st_stream) l1 c1 k1
  have b1 := F1.binds (ps := ["_law_cell", "_law_many"]) fun _ _ _ _ _ _ us hl => match us, hl with | [_, _], _ => rfl
  have F2 := fun_mk (st := st_digits) l2 c2 k2
  have b2 := F2.binds (ps := ["_law_cell", "_law_many"]) fun _ _ _ _ _ _ us hl => match us, hl with | [_, _], _ => rfl
  have F3 := fun_mk (st := st_pool) l3 c3 k3
  have b3 := F3.binds (ps := ["_law_cell", "_law_many"]) fun _ _ _ _ _ _ us hl => match us, hl with | [_, _], _ => rfl
  have F4 := fun_mk (st := st_rules) l4 c4 k4
  have b4 := F4.binds (ps := ["_law_cell", "_law_names", "_law_words", "_law_cells"]) fun _ _ _ _ _ _ us hl => match us, hl with | [_, _, _, _], _ => rfl
  have F5 := fun_mk (st := st_spoiled) l5 c5 k5
  have b5 := F5.binds (ps := ["_law_tree_here", "_law_pool_here", "_law_many", "_law_digits_here"]) fun _ _ _ _ _ _ us hl => match us, hl with | [_, _, _, _], _ => rfl
  have F6 := fun_mk (st := st_stands) l6 c6 k6
  have b6 := F6.binds (ps := ["_law_rules_here", "_law_names", "_law_tree_here", "_law_part"]) fun _ _ _ _ _ _ us hl => match us, hl with | [_, _, _, _], _ => rfl
  have F7 := fun_mk (st := st_tree) l7 c7 k7
  have b7 := F7.binds (ps := ["_law_rules_here", "_law_names", "_law_name", "_law_digits_here"]) fun _ _ _ _ _ _ us hl => match us, hl with | [_, _, _, _], _ => rfl
  have F8 := fun_mk (st := st_has_rule) l8 c8 k8
  have b8 := F8.binds (ps := ["rules", "tree", "name"]) fun _ _ _ _ _ _ us hl => match us, hl with | [_, _, _], _ => rfl
  have F9 := fun_mk (st := st_heads_of) l9 c9 k9
  have b9 := F9.binds (ps := ["rules"]) fun _ _ _ _ _ _ us hl => match us, hl with | [_], _ => rfl
  have F10 := fun_mk (st := st_tree_stands) l10 c10 k10
  have b10 := F10.binds (ps := ["rules", "tree", "name"]) fun _ _ _ _ _ _ us hl => match us, hl with | [_, _, _], _ => rfl
  have F11 := fun_mk (st := st_law) l11 c11 k11
  have b11 := F11.binds (ps := ["_law_script"]) fun _ _ _ _ _ _ us hl => match us, hl with | [_], _ => rfl
  have fa : ∀ d, d ∈ defs → Fact K mg d := by
    intro d hd
    simp only [defs, List.mem_cons, List.not_mem_nil, or_false] at hd
    rcases hd with rfl | rfl | rfl | rfl | rfl | rfl | rfl | rfl | rfl | rfl | rfl | rfl
    · exact ⟨_, _, F0, b0, PySem.W.mg_of X G a0⟩
    · exact ⟨_, _, F1, b1, PySem.W.mg_of X G a1⟩
    · exact ⟨_, _, F2, b2, PySem.W.mg_of X G a2⟩
    · exact ⟨_, _, F3, b3, PySem.W.mg_of X G a3⟩
    · exact ⟨_, _, F4, b4, PySem.W.mg_of X G a4⟩
    · exact ⟨_, _, F5, b5, PySem.W.mg_of X G a5⟩
    · exact ⟨_, _, F6, b6, PySem.W.mg_of X G a6⟩
    · exact ⟨_, _, F7, b7, PySem.W.mg_of X G a7⟩
    · exact ⟨_, _, F8, b8, PySem.W.mg_of X G a8⟩
    · exact ⟨_, _, F9, b9, PySem.W.mg_of X G a9⟩
    · exact ⟨_, _, F10, b10, PySem.W.mg_of X G a10⟩
    · exact ⟨_, _, F11, b11, PySem.W.mg_of X G a11⟩
  have hb : ∀ x, x ∈ blt → mg x = none := by
    intro x hx
    simp only [blt, List.mem_cons, List.not_mem_nil, or_false] at hx
    rcases hx with rfl | rfl | rfl | rfl | rfl | rfl | rfl | rfl | rfl | rfl | rfl
    · exact PySem.W.mg_none_of X G z0
    · exact PySem.W.mg_none_of X G z1
    · exact PySem.W.mg_none_of X G z2
    · exact PySem.W.mg_none_of X G z3
    · exact PySem.W.mg_none_of X G z4
    · exact PySem.W.mg_none_of X G z5
    · exact PySem.W.mg_none_of X G z6
    · exact PySem.W.mg_none_of X G z7
    · exact PySem.W.mg_none_of X G z8
    · exact PySem.W.mg_none_of X G z9
    · exact PySem.W.mg_none_of X G z10
  have hc : ∀ p, p ∈ con → ∃ v u, mg p.1 = some u ∧ RelV v u ∧ ∀ G S, Rp K G S p.2 v [] := by
    intro p hp
    cases hp
  exact ⟨_, fun s v => .of_eq rfl, fun base _ _ => law_ok (prog_ok fa goods finds hb hc 31 d_law (by simp [defs]) _ _ F11) law_true⟩
theorem walk {l : PySem.W.OpenLaw} {q : Program} {loose : List Str} {XP : (Str → Option Value) → Heap → Prop} {YP : World → Heap → Prop} {d : DefRec} {K : Params → PySem.W.Frag} (hn : l.most = some 63) (hdf : d.params.defaults = [])
    (hY : ∀ (w : World) (h : Heap), YP w h → (K w.params).In h)
    (F : ∀ (w : World) (mg : Str → Option Value) (fa : Addr) (h : Heap), (K w.params).In h → h.Ns mainGlobals mg → mg d.name = some (.ref fa) →
      ∃ fd : FuncData, (∀ (s : Shared) (u : Value), BindsTo s fd ⟨[u], []⟩ [("_law_script", u)]) ∧ ∀ base : Heap, (K w.params).In base → base.Ns mainGlobals mg → FnOk l.prog w (K w.params) mg base CX0 31 fa fd ["_law_script"] (DE.spLaw (K w.params))) :
    PySem.W.WalkO q loose XP YP l.row.toRowW d [] (fun f vs => PySem.call f vs) :=
  L2.walk_of (n := 63) (k := 31) (x := "_law_script") (CX := fun _ => CX0) (sp := fun w => DE.spLaw (K w.params)) hn (by decide) hdf ⟨rfl, by decide, by decide⟩ hY F (fun _ _ a ns hl _ hS => ⟨a, ns, rfl, hS, hl, fun _ => rfl⟩) fun _ _ _ _ _ z => z
end Lw
open PySem PySem.W PyProof.Rows in
set_option maxRecDepth 100000 in
set_option maxHeartbeats 0 in
theorem PySem.Challenge.cw_wright_k29_trees_by_anybody_holds : PySem.Challenge.rw_wright_k29_trees_by_anybody.Holds := by
  w_on; o_law; k_head; (case hw => w_witness2)
  k_fill
  refine Lw.walk (l := PySem.Challenge.rw_wright_k29_trees_by_anybody) rfl rfl (fun w h Y => PySem.W.kIn_of Y) ?F
  case F =>
    intro w mg fa h KX G hmg
    refine' Lw.all_mk KX G hmg ?a0 ?l0 ?c0 ?k0 ?a1 ?l1 ?c1 ?k1 ?a2 ?l2 ?c2 ?k2 ?a3 ?l3 ?c3 ?k3 ?a4 ?l4 ?c4 ?k4 ?a5 ?l5 ?c5 ?k5 ?a6 ?l6 ?c6 ?k6 ?a7 ?l7 ?c7 ?k7 ?a8 ?l8 ?c8 ?k8 ?a9 ?l9 ?c9 ?k9 ?a10 ?l10 ?c10 ?k10 ?a11 ?l11 ?c11 ?k11 ?z0 ?z1 ?z2 ?z3 ?z4 ?z5 ?z6 ?z7 ?z8 ?z9 ?z10
    (case a0 => k_is)
    (case l0 => k_is)
    (case c0 => k_is)
    (case k0 => k_is)
    (case a1 => k_is)
    (case l1 => k_is)
    (case c1 => k_is)
    (case k1 => k_is)
    (case a2 => k_is)
    (case l2 => k_is)
    (case c2 => k_is)
    (case k2 => k_is)
    (case a3 => k_is)
    (case l3 => k_is)
    (case c3 => k_is)
    (case k3 => k_is)
    (case a4 => k_is)
    (case l4 => k_is)
    (case c4 => k_is)
    (case k4 => k_is)
    (case a5 => k_is)
    (case l5 => k_is)
    (case c5 => k_is)
    (case k5 => k_is)
    (case a6 => k_is)
    (case l6 => k_is)
    (case c6 => k_is)
    (case k6 => k_is)
    (case a7 => k_is)
    (case l7 => k_is)
    (case c7 => k_is)
    (case k7 => k_is)
    (case a8 => k_is)
    (case l8 => k_is)
    (case c8 => k_is)
    (case k8 => k_is)
    (case a9 => k_is)
    (case l9 => k_is)
    (case c9 => k_is)
    (case k9 => k_is)
    (case a10 => k_is)
    (case l10 => k_is)
    (case c10 => k_is)
    (case k10 => k_is)
    (case a11 => k_is)
    (case l11 => k_is)
    (case c11 => k_is)
    (case k11 => k_is)
    (case z0 => k_is)
    (case z1 => k_is)
    (case z2 => k_is)
    (case z3 => k_is)
    (case z4 => k_is)
    (case z5 => k_is)
    (case z6 => k_is)
    (case z7 => k_is)
    (case z8 => k_is)
    (case z9 => k_is)
    (case z10 => k_is)
