import PyProof.Rows.All
import Wide.All
import OpenK.AllK
import Wide.FinOn
import HandS.ForMost
import HandS.Flow
import HandS.IsInst
import HandS.Wide
import HandS.TupAny
import HandS.TupMul
import HandS.Star
import HandS.Deep
import HandS.Walk
import HandS.Style
import HandS.SortInts
import HandS.Zip
import KE.GoesEnum
import HandS.Defaults
import PyProof.Rows.RuleB_pow
import KE.SortData
import HandS.Conv
import HandS.Exc
import HandS.TupSets
import HandS.Head0
import HandS.Head1
import HandS.Head2
import HandS.HeadEnd
import HandS.HeadHook1
import HandS.HeadHook2
import PySem.Challenge.RW_servedlongest_k45_whole_parts_wholly_wor
import KE.SortLaws
import KE.KStateDown
set_option Elab.async false
set_option linter.all false
set_option maxRecDepth 100000
set_option maxHeartbeats 1000000
/-! Data trees over the layer: values without addresses, states of slots, pure readings. -/
namespace DL
open PySem PySem.Spec PyProof.Rows L2
/-- a value as a tree; a list or dict with true: owned (may be changed), with false: read only -/
inductive D where
  | non | bl (b : Bool) | int (i : Int) | str (x : Str)
  | tup (ds : List D) | lst (o : Bool) (ds : List D) | scr (ds : List D)
  | dk (o : Bool) (ks : List Key) (ds : List D) | dt (o : Bool) (ks : List (List Key)) (ds : List D)
  deriving Inhabited
abbrev DS := List (Option D)
mutual
/-- nothing owned within -/
def D.imm : D → Bool
  | .non => true | .bl _ => true | .int _ => true | .str _ => true
  | .tup ds => D.imms ds
  | .lst o ds => !o && D.imms ds
  | .scr ds => D.imms ds
  | .dk o _ ds => !o && D.imms ds
  | .dt o _ ds => !o && D.imms ds
def D.imms : List D → Bool
  | [] => true
  | d :: ds => D.imm d && D.imms ds
end
mutual
/-- no list or dict within that is read only -/
def D.nof : D → Bool
  | .non => true | .bl _ => true | .int _ => true | .str _ => true
  | .tup ds => D.nofs ds
  | .lst o ds => o && D.nofs ds
  | .scr _ => false
  | .dk o _ ds => o && D.nofs ds
  | .dt o _ ds => o && D.nofs ds
def D.nofs : List D → Bool
  | [] => true
  | d :: ds => D.nof d && D.nofs ds
end
mutual
/-- as what it is read -/
def D.frz : D → D
  | .non => .non | .bl b => .bl b | .int i => .int i | .str x => .str x
  | .tup ds => .tup (D.frzs ds)
  | .lst _ ds => .lst false (D.frzs ds)
  | .scr ds => .scr ds
  | .dk _ ks ds => .dk false ks (D.frzs ds)
  | .dt _ ks ds => .dt false ks (D.frzs ds)
def D.frzs : List D → List D
  | [] => []
  | d :: ds => D.frz d :: D.frzs ds
end
/-- a list of the written part -/
def KL (K : PySem.W.Frag) (a : Addr) (xs : List V) : Prop :=
  ∃ (o : Obj) (its : Array Value) (n : Nat), K.lookup a = some o ∧ o.cls = .type "list" ∧ o.dict = none ∧ o.data = .seq its n ∧ its.size ≤ sizeLine ∧ Vals xs its.toList
section
variable (K : PySem.W.Frag) (H : Hp) (O : Addr → Prop)
mutual
def Rel : D → V → List Addr → Prop
  | .non, v, F => v = .non ∧ F = []
  | .bl b, v, F => v = .bl b ∧ F = []
  | .int i, v, F => v = .int i ∧ F = []
  | .str x, v, F => v = .str x ∧ F = []
  | .tup ds, v, F => ∃ a vs, v = .ref a ∧ SqT K H a vs ∧ Rels ds vs F
  | .lst true ds, v, F => ∃ a vs G, v = .ref a ∧ H a = some (.lst vs) ∧ Rels ds vs G ∧ F = a :: G
  | .lst false ds, v, F => ∃ a vs, v = .ref a ∧ Rd H a (.lst vs) ∧ ¬ O a ∧ Rels ds vs [] ∧ F = []
  | .scr ds, v, F => ∃ a vs, v = .ref a ∧ ((∃ o, H a = some (.frz o (.lst vs))) ∨ KL K a vs) ∧ Rels ds vs [] ∧ F = []
  | .dk true ks ds, v, F => ∃ a kvs G, v = .ref a ∧ H a = some (.dK kvs) ∧ kvs.map (·.1) = ks ∧ Rels ds (kvs.map (·.2)) G ∧ F = a :: G
  | .dk false ks ds, v, F => ∃ a kvs, v = .ref a ∧ Rd H a (.dK kvs) ∧ ¬ O a ∧ kvs.map (·.1) = ks ∧ Rels ds (kvs.map (·.2)) [] ∧ F = []
  | .dt true ks ds, v, F => ∃ a kvs G, v = .ref a ∧ H a = some (.dT kvs) ∧ kvs.map (·.1) = ks ∧ Rels ds (kvs.map (·.2)) G ∧ F = a :: G
  | .dt false ks ds, v, F => ∃ a kvs, v = .ref a ∧ Rd H a (.dT kvs) ∧ ¬ O a ∧ kvs.map (·.1) = ks ∧ Rels ds (kvs.map (·.2)) [] ∧ F = []
def Rels : List D → List V → List Addr → Prop
  | [], vs, F => vs = [] ∧ F = []
  | d :: ds, vs, F => ∃ v ws F1 F2, vs = v :: ws ∧ Rel d v F1 ∧ Rels ds ws F2 ∧ F = F1 ++ F2
end
end
section
variable {K : PySem.W.Frag} {H H' : Hp} {O O' : Addr → Prop}
theorem Rels.len : ∀ {ds : List D} {vs : List V} {F : List Addr}, Rels K H O ds vs F → vs.length = ds.length
  | [], _, _, h => by
    simp only [Rels] at h
    rw [h.1]; rfl
  | d :: ds, _, _, h => by
    simp only [Rels] at h
    obtain ⟨v, ws, F1, F2, rfl, _, h2, _⟩ := h
    simp [Rels.len h2]
theorem rd_keep {a : Addr} {u : HO} (h : Rd H a u) (k1 : ∀ a o, H a = some o → ¬ Mut (some o) → H' a = some o) (k2 : H a = some u → H' a = some u) : Rd H' a u := by
  rcases h with h | ⟨o, h⟩
  · exact .inl (k2 h)
  · exact .inr ⟨o, k1 _ _ h (fun z => z)⟩
theorem sqt_keep {a : Addr} {vs : List V} (h : SqT K H a vs) (k1 : ∀ a o, H a = some o → ¬ Mut (some o) → H' a = some o) : SqT K H' a vs := by
  rcases h with h | h
  · exact .inl (rd_keep h k1 fun e => k1 _ _ e fun z => z)
  · exact .inr h
theorem rd_some {a : Addr} {u : HO} (h : Rd H a u) : H a ≠ none := by
  rcases h with h | ⟨o, h⟩ <;> rw [h] <;> exact fun z => nomatch z
mutual
theorem Rel.keep : ∀ {d : D} {v : V} {F : List Addr}, Rel K H O d v F → (∀ a o, H a = some o → ¬ Mut (some o) → H' a = some o) → (∀ a o, H a = some o → a ∈ F → H' a = some o) → (∀ a o, H a = some o → ¬ O a → H' a = some o) →
    (∀ a, O' a → O a ∨ H a = none) → Rel K H' O' d v F
  | .non, _, _, h, _, _, _, _ => by simp only [Rel] at h ⊢; exact h
  | .bl _, _, _, h, _, _, _, _ => by simp only [Rel] at h ⊢; exact h
  | .int _, _, _, h, _, _, _, _ => by simp only [Rel] at h ⊢; exact h
  | .str _, _, _, h, _, _, _, _ => by simp only [Rel] at h ⊢; exact h
  | .tup ds, v, F, h, k1, k2, k3, k4 => by
    simp only [Rel] at h ⊢
    obtain ⟨a, vs, e, hq, hr⟩ := h
    exact ⟨a, vs, e, sqt_keep hq k1, Rels.keep hr k1 k2 k3 k4⟩
  | .lst true ds, v, F, h, k1, k2, k3, k4 => by
    simp only [Rel] at h ⊢
    obtain ⟨a, vs, G, e, hq, hr, rfl⟩ := h
    exact ⟨a, vs, G, e, k2 _ _ hq List.mem_cons_self, Rels.keep hr k1 (fun b o e1 e2 => k2 b o e1 (List.mem_cons_of_mem _ e2)) k3 k4, rfl⟩
  | .lst false ds, v, F, h, k1, k2, k3, k4 => by
    simp only [Rel] at h ⊢
    obtain ⟨a, vs, e, hq, ho, hr, rfl⟩ := h
    exact ⟨a, vs, e, rd_keep hq k1 fun e => k3 _ _ e ho, fun z => (k4 a z).elim ho (rd_some hq), Rels.keep hr k1 (fun _ _ _ z => nomatch z) k3 k4, rfl⟩
  | .scr ds, v, F, h, k1, k2, k3, k4 => by
    simp only [Rel] at h ⊢
    obtain ⟨a, vs, e, hq, hr, rfl⟩ := h
    exact ⟨a, vs, e, hq.imp (fun ⟨o, hq⟩ => ⟨o, k1 _ _ hq fun z => z⟩) id, Rels.keep hr k1 (fun _ _ _ z => nomatch z) k3 k4, rfl⟩
  | .dk true ks ds, v, F, h, k1, k2, k3, k4 => by
    simp only [Rel] at h ⊢
    obtain ⟨a, vs, G, e, hq, hk, hr, rfl⟩ := h
    exact ⟨a, vs, G, e, k2 _ _ hq List.mem_cons_self, hk, Rels.keep hr k1 (fun b o e1 e2 => k2 b o e1 (List.mem_cons_of_mem _ e2)) k3 k4, rfl⟩
  | .dk false ks ds, v, F, h, k1, k2, k3, k4 => by
    simp only [Rel] at h ⊢
    obtain ⟨a, vs, e, hq, ho, hk, hr, rfl⟩ := h
    exact ⟨a, vs, e, rd_keep hq k1 fun e => k3 _ _ e ho, fun z => (k4 a z).elim ho (rd_some hq), hk, Rels.keep hr k1 (fun _ _ _ z => nomatch z) k3 k4, rfl⟩
  | .dt true ks ds, v, F, h, k1, k2, k3, k4 => by
    simp only [Rel] at h ⊢
    obtain ⟨a, vs, G, e, hq, hk, hr, rfl⟩ := h
    exact ⟨a, vs, G, e, k2 _ _ hq List.mem_cons_self, hk, Rels.keep hr k1 (fun b o e1 e2 => k2 b o e1 (List.mem_cons_of_mem _ e2)) k3 k4, rfl⟩
  | .dt false ks ds, v, F, h, k1, k2, k3, k4 => by
    simp only [Rel] at h ⊢
    obtain ⟨a, vs, e, hq, ho, hk, hr, rfl⟩ := h
    exact ⟨a, vs, e, rd_keep hq k1 fun e => k3 _ _ e ho, fun z => (k4 a z).elim ho (rd_some hq), hk, Rels.keep hr k1 (fun _ _ _ z => nomatch z) k3 k4, rfl⟩
theorem Rels.keep : ∀ {ds : List D} {vs : List V} {F : List Addr}, Rels K H O ds vs F → (∀ a o, H a = some o → ¬ Mut (some o) → H' a = some o) → (∀ a o, H a = some o → a ∈ F → H' a = some o) → (∀ a o, H a = some o → ¬ O a → H' a = some o) →
    (∀ a, O' a → O a ∨ H a = none) → Rels K H' O' ds vs F
  | [], _, _, h, _, _, _, _ => by simp only [Rels] at h ⊢; exact h
  | d :: ds, vs, F, h, k1, k2, k3, k4 => by
    simp only [Rels] at h ⊢
    obtain ⟨v, ws, F1, F2, e, h1, h2, rfl⟩ := h
    exact ⟨v, ws, F1, F2, e, Rel.keep h1 k1 (fun b o e1 e2 => k2 b o e1 (List.mem_append_left _ e2)) k3 k4, Rels.keep h2 k1 (fun b o e1 e2 => k2 b o e1 (List.mem_append_right _ e2)) k3 k4, rfl⟩
end
theorem Rel.same {d : D} {v : V} {F : List Addr} (h : Rel K H O d v F) (s : Same H H') : Rel K H' O d v F := h.keep (fun a o e _ => s a o e) (fun a o e _ => s a o e) (fun a o e _ => s a o e) fun _ => .inl
theorem Rels.same {d : List D} {v : List V} {F : List Addr} (h : Rels K H O d v F) (s : Same H H') : Rels K H' O d v F := h.keep (fun a o e _ => s a o e) (fun a o e _ => s a o e) (fun a o e _ => s a o e) fun _ => .inl
theorem Rel.own {d : D} {v : V} {F : List Addr} (h : Rel K H O d v F) (k : ∀ a, O' a → O a ∨ H a = none) : Rel K H O' d v F := h.keep (fun _ _ e _ => e) (fun _ _ e _ => e) (fun _ _ e _ => e) k
theorem Rels.own {d : List D} {v : List V} {F : List Addr} (h : Rels K H O d v F) (k : ∀ a, O' a → O a ∨ H a = none) : Rels K H O' d v F := h.keep (fun _ _ e _ => e) (fun _ _ e _ => e) (fun _ _ e _ => e) k
mutual
theorem Rel.imm : ∀ {d : D} {v : V} {F : List Addr}, Rel K H O d v F → d.imm = true → F = []
  | .non, _, _, h, _ => by simp only [Rel] at h; exact h.2
  | .bl _, _, _, h, _ => by simp only [Rel] at h; exact h.2
  | .int _, _, _, h, _ => by simp only [Rel] at h; exact h.2
  | .str _, _, _, h, _ => by simp only [Rel] at h; exact h.2
  | .tup ds, _, _, h, i => by
    simp only [Rel] at h
    obtain ⟨a, vs, e, _, hr⟩ := h
    exact Rels.imm hr (by simpa only [D.imm] using i)
  | .lst true ds, _, _, h, i => by simp [D.imm] at i
  | .lst false ds, _, _, h, i => by
    simp only [Rel] at h
    obtain ⟨_, _, _, _, _, _, e⟩ := h
    exact e
  | .scr ds, _, _, h, i => by
    simp only [Rel] at h
    obtain ⟨_, _, _, _, _, e⟩ := h
    exact e
  | .dk true _ ds, _, _, h, i => by simp [D.imm] at i
  | .dk false _ ds, _, _, h, i => by
    simp only [Rel] at h
    obtain ⟨_, _, _, _, _, _, _, e⟩ := h
    exact e
  | .dt true _ ds, _, _, h, i => by simp [D.imm] at i
  | .dt false _ ds, _, _, h, i => by
    simp only [Rel] at h
    obtain ⟨_, _, _, _, _, _, _, e⟩ := h
    exact e
theorem Rels.imm : ∀ {d : List D} {v : List V} {F : List Addr}, Rels K H O d v F → D.imms d = true → F = []
  | [], _, _, h, _ => by simp only [Rels] at h; exact h.2
  | d :: ds, _, _, h, i => by
    simp only [Rels] at h
    obtain ⟨v, ws, F1, F2, _, h1, h2, rfl⟩ := h
    simp only [D.imms, Bool.and_eq_true] at i
    rw [Rel.imm h1 i.1, Rels.imm h2 i.2]; rfl
end
mutual
/-- what is owned stands in the heap, as something that may be changed -/
theorem Rel.fp : ∀ {d : D} {v : V} {F : List Addr}, Rel K H O d v F → ∀ a ∈ F, ∃ o, H a = some o ∧ Mut (some o)
  | .non, _, _, h, a, ha => by simp only [Rel] at h; rw [h.2] at ha; cases ha
  | .bl _, _, _, h, a, ha => by simp only [Rel] at h; rw [h.2] at ha; cases ha
  | .int _, _, _, h, a, ha => by simp only [Rel] at h; rw [h.2] at ha; cases ha
  | .str _, _, _, h, a, ha => by simp only [Rel] at h; rw [h.2] at ha; cases ha
  | .tup ds, _, _, h, a, ha => by
    simp only [Rel] at h
    obtain ⟨_, vs, e, _, hr⟩ := h
    exact Rels.fp hr a ha
  | .lst true ds, _, _, h, a, ha => by
    simp only [Rel] at h
    obtain ⟨b, vs, G, e, hq, hr, rfl⟩ := h
    rcases List.mem_cons.mp ha with rfl | ha
    · exact ⟨_, hq, trivial⟩
    · exact Rels.fp hr a ha
  | .lst false ds, _, _, h, a, ha => by
    simp only [Rel] at h
    obtain ⟨_, _, _, _, _, _, e⟩ := h
    rw [e] at ha; cases ha
  | .scr ds, _, _, h, a, ha => by
    simp only [Rel] at h
    obtain ⟨_, _, _, _, _, e⟩ := h
    rw [e] at ha; cases ha
  | .dk true _ ds, _, _, h, a, ha => by
    simp only [Rel] at h
    obtain ⟨b, vs, G, e, hq, _, hr, rfl⟩ := h
    rcases List.mem_cons.mp ha with rfl | ha
    · exact ⟨_, hq, trivial⟩
    · exact Rels.fp hr a ha
  | .dk false _ ds, _, _, h, a, ha => by
    simp only [Rel] at h
    obtain ⟨_, _, _, _, _, _, _, e⟩ := h
    rw [e] at ha; cases ha
  | .dt true _ ds, _, _, h, a, ha => by
    simp only [Rel] at h
    obtain ⟨b, vs, G, e, hq, _, hr, rfl⟩ := h
    rcases List.mem_cons.mp ha with rfl | ha
    · exact ⟨_, hq, trivial⟩
    · exact Rels.fp hr a ha
  | .dt false _ ds, _, _, h, a, ha => by
    simp only [Rel] at h
    obtain ⟨_, _, _, _, _, _, _, e⟩ := h
    rw [e] at ha; cases ha
theorem Rels.fp : ∀ {d : List D} {v : List V} {F : List Addr}, Rels K H O d v F → ∀ a ∈ F, ∃ o, H a = some o ∧ Mut (some o)
  | [], _, _, h, a, ha => by simp only [Rels] at h; rw [h.2] at ha; cases ha
  | d :: ds, _, _, h, a, ha => by
    simp only [Rels] at h
    obtain ⟨v, ws, F1, F2, _, h1, h2, rfl⟩ := h
    rcases List.mem_append.mp ha with z | z
    · exact Rel.fp h1 a z
    · exact Rels.fp h2 a z
end
mutual
/-- what nothing read only is in does not hang on what is owned elsewhere -/
theorem Rel.nof : ∀ {d : D} {v : V} {F : List Addr}, Rel K H O d v F → d.nof = true → Rel K H O' d v F
  | .non, _, _, h, _ => by simp only [Rel] at h ⊢; exact h
  | .bl _, _, _, h, _ => by simp only [Rel] at h ⊢; exact h
  | .int _, _, _, h, _ => by simp only [Rel] at h ⊢; exact h
  | .str _, _, _, h, _ => by simp only [Rel] at h ⊢; exact h
  | .tup ds, _, _, h, i => by
    simp only [Rel] at h ⊢
    obtain ⟨a, vs, e, hq, hr⟩ := h
    exact ⟨a, vs, e, hq, Rels.nof hr (by simpa only [D.nof] using i)⟩
  | .lst true ds, _, _, h, i => by
    simp only [Rel] at h ⊢
    obtain ⟨b, vs, G, e, hq, hr, z⟩ := h
    exact ⟨b, vs, G, e, hq, Rels.nof hr (by simpa [D.nof] using i), z⟩
  | .lst false ds, _, _, h, i => by simp [D.nof] at i
  | .scr ds, _, _, h, i => by simp [D.nof] at i
  | .dk true _ ds, _, _, h, i => by
    simp only [Rel] at h ⊢
    obtain ⟨b, vs, G, e, hq, hk, hr, z⟩ := h
    exact ⟨b, vs, G, e, hq, hk, Rels.nof hr (by simpa [D.nof] using i), z⟩
  | .dk false _ ds, _, _, h, i => by simp [D.nof] at i
  | .dt true _ ds, _, _, h, i => by
    simp only [Rel] at h ⊢
    obtain ⟨b, vs, G, e, hq, hk, hr, z⟩ := h
    exact ⟨b, vs, G, e, hq, hk, Rels.nof hr (by simpa [D.nof] using i), z⟩
  | .dt false _ ds, _, _, h, i => by simp [D.nof] at i
theorem Rels.nof : ∀ {d : List D} {v : List V} {F : List Addr}, Rels K H O d v F → D.nofs d = true → Rels K H O' d v F
  | [], _, _, h, _ => by simp only [Rels] at h ⊢; exact h
  | d :: ds, _, _, h, i => by
    simp only [Rels] at h ⊢
    obtain ⟨v, ws, F1, F2, e, h1, h2, z⟩ := h
    simp only [D.nofs, Bool.and_eq_true] at i
    exact ⟨v, ws, F1, F2, e, Rel.nof h1 i.1, Rels.nof h2 i.2, z⟩
end
mutual
/-- read only, where none of it is owned -/
theorem Rel.frz : ∀ {d : D} {v : V} {F : List Addr}, Rel K H O d v F → (∀ a ∈ F, ¬ O' a) → (∀ a, O' a → O a ∨ H a = none) → Rel K H O' d.frz v []
  | .non, _, _, h, _, _ => by simp only [Rel, D.frz] at h ⊢; exact ⟨h.1, by trivial⟩
  | .bl _, _, _, h, _, _ => by simp only [Rel, D.frz] at h ⊢; exact ⟨h.1, by trivial⟩
  | .int _, _, _, h, _, _ => by simp only [Rel, D.frz] at h ⊢; exact ⟨h.1, by trivial⟩
  | .str _, _, _, h, _, _ => by simp only [Rel, D.frz] at h ⊢; exact ⟨h.1, by trivial⟩
  | .tup ds, _, _, h, i, j => by
    simp only [Rel, D.frz] at h ⊢
    obtain ⟨a, vs, e, hq, hr⟩ := h
    exact ⟨a, vs, e, hq, Rels.frz hr i j⟩
  | .lst true ds, _, _, h, i, j => by
    simp only [Rel, D.frz] at h ⊢
    obtain ⟨b, vs, G, e, hq, hr, rfl⟩ := h
    exact ⟨b, vs, e, .inl hq, i b List.mem_cons_self, Rels.frz hr (fun a z => i a (List.mem_cons_of_mem _ z)) j, by trivial⟩
  | .lst false ds, _, _, h, i, j => by
    simp only [Rel, D.frz] at h ⊢
    obtain ⟨b, vs, e, hq, ho, hr, rfl⟩ := h
    exact ⟨b, vs, e, hq, fun z => (j b z).elim ho (rd_some hq), Rels.frz hr i j, by trivial⟩
  | .scr ds, _, _, h, i, j => by
    simp only [Rel, D.frz] at h ⊢
    obtain ⟨b, vs, e, hq, hr, rfl⟩ := h
    exact ⟨b, vs, e, hq, hr.keep (fun _ _ q _ => q) (fun _ _ q _ => q) (fun _ _ q _ => q) j, by trivial⟩
  | .dk true _ ds, _, _, h, i, j => by
    simp only [Rel, D.frz] at h ⊢
    obtain ⟨b, vs, G, e, hq, hk, hr, rfl⟩ := h
    exact ⟨b, vs, e, .inl hq, i b List.mem_cons_self, hk, Rels.frz hr (fun a z => i a (List.mem_cons_of_mem _ z)) j, by trivial⟩
  | .dk false _ ds, _, _, h, i, j => by
    simp only [Rel, D.frz] at h ⊢
    obtain ⟨b, vs, e, hq, ho, hk, hr, rfl⟩ := h
    exact ⟨b, vs, e, hq, fun z => (j b z).elim ho (rd_some hq), hk, Rels.frz hr i j, by trivial⟩
  | .dt true _ ds, _, _, h, i, j => by
    simp only [Rel, D.frz] at h ⊢
    obtain ⟨b, vs, G, e, hq, hk, hr, rfl⟩ := h
    exact ⟨b, vs, e, .inl hq, i b List.mem_cons_self, hk, Rels.frz hr (fun a z => i a (List.mem_cons_of_mem _ z)) j, by trivial⟩
  | .dt false _ ds, _, _, h, i, j => by
    simp only [Rel, D.frz] at h ⊢
    obtain ⟨b, vs, e, hq, ho, hk, hr, rfl⟩ := h
    exact ⟨b, vs, e, hq, fun z => (j b z).elim ho (rd_some hq), hk, Rels.frz hr i j, by trivial⟩
theorem Rels.frz : ∀ {d : List D} {v : List V} {F : List Addr}, Rels K H O d v F → (∀ a ∈ F, ¬ O' a) → (∀ a, O' a → O a ∨ H a = none) → Rels K H O' (D.frzs d) v []
  | [], _, _, h, _, _ => by simp only [Rels, D.frzs] at h ⊢; exact ⟨h.1, by trivial⟩
  | d :: ds, _, _, h, i, j => by
    simp only [Rels, D.frzs] at h ⊢
    obtain ⟨v, ws, F1, F2, e, h1, h2, rfl⟩ := h
    exact ⟨v, ws, [], [], e, Rel.frz h1 (fun a z => i a (List.mem_append_left _ z)) j, Rels.frz h2 (fun a z => i a (List.mem_append_right _ z)) j, by trivial⟩
end
/-! ### items -/
theorem Rels.get : ∀ {ds : List D} {vs : List V} {F : List Addr} {i : Nat} {d : D}, Rels K H O ds vs F → ds[i]? = some d → ∃ v G, vs[i]? = some v ∧ Rel K H O d v G ∧ ∀ a ∈ G, a ∈ F
  | [], _, _, _, _, _, e => by simp at e
  | d :: ds, _, _, 0, _, h, e => by
    simp only [Rels] at h
    obtain ⟨v, ws, F1, F2, rfl, h1, h2, rfl⟩ := h
    simp at e; subst e
    exact ⟨v, F1, rfl, h1, fun a => List.mem_append_left _⟩
  | d :: ds, _, _, i + 1, _, h, e => by
    simp only [Rels] at h
    obtain ⟨v, ws, F1, F2, rfl, h1, h2, rfl⟩ := h
    obtain ⟨w, G, e1, e2, e3⟩ := Rels.get (i := i) h2 (by simpa using e)
    exact ⟨w, G, by simpa using e1, e2, fun a z => List.mem_append_right _ (e3 a z)⟩
theorem Rels.app : ∀ {ds es : List D} {vs ws : List V} {F G : List Addr}, Rels K H O ds vs F → Rels K H O es ws G → Rels K H O (ds ++ es) (vs ++ ws) (F ++ G)
  | [], _, _, _, _, _, h, k => by
    simp only [Rels] at h
    rw [h.1, h.2]; exact k
  | d :: ds, es, _, ws, _, G, h, k => by
    simp only [Rels] at h
    obtain ⟨v, us, F1, F2, rfl, h1, h2, rfl⟩ := h
    show Rels K H O (d :: (ds ++ es)) _ _
    simp only [Rels]
    exact ⟨v, us ++ ws, F1, F2 ++ G, rfl, h1, Rels.app h2 k, by rw [List.append_assoc]⟩
theorem Rels.one {d : D} {v : V} {F : List Addr} (h : Rel K H O d v F) : Rels K H O [d] [v] F := by
  simp only [Rels]
  exact ⟨v, [], F, [], rfl, h, ⟨by trivial, by trivial⟩, by simp⟩
theorem Rels.cons {d : D} {v : V} {F G : List Addr} {ds : List D} {vs : List V} (h : Rel K H O d v F) (k : Rels K H O ds vs G) : Rels K H O (d :: ds) (v :: vs) (F ++ G) := by
  simp only [Rels]
  exact ⟨v, vs, F, G, rfl, h, k, rfl⟩
theorem Rels.nil : Rels K H O [] [] [] := by unfold Rels; exact ⟨rfl, rfl⟩
theorem Rels.dropN : ∀ {ds : List D} {vs : List V} {F : List Addr} (n : Nat), Rels K H O ds vs F → ∃ G, Rels K H O (ds.drop n) (vs.drop n) G ∧ (∀ a ∈ G, a ∈ F) ∧ (F.Nodup → G.Nodup)
  | ds, vs, F, 0, h => ⟨F, h, fun _ => id, id⟩
  | [], _, _, n + 1, h => by
    simp only [Rels] at h
    rw [h.1, h.2]
    exact ⟨[], by simpa using Rels.nil, fun _ => id, id⟩
  | d :: ds, _, _, n + 1, h => by
    simp only [Rels] at h
    obtain ⟨v, us, F1, F2, rfl, h1, h2, rfl⟩ := h
    obtain ⟨G, g1, g2, g3⟩ := Rels.dropN n h2
    exact ⟨G, by simpa using g1, fun a z => List.mem_append_right _ (g2 a z), fun nd => g3 (List.nodup_append.mp nd).2.1⟩
theorem Rels.takeN : ∀ {ds : List D} {vs : List V} {F : List Addr} (n : Nat), Rels K H O ds vs F → ∃ G, Rels K H O (ds.take n) (vs.take n) G ∧ (∀ a ∈ G, a ∈ F) ∧ (F.Nodup → G.Nodup)
  | ds, vs, F, 0, h => ⟨[], by simpa using Rels.nil, (fun _ z => absurd z List.not_mem_nil), fun _ => List.nodup_nil⟩
  | [], _, _, n + 1, h => by
    simp only [Rels] at h
    rw [h.1, h.2]
    exact ⟨[], by simpa using Rels.nil, fun _ => id, id⟩
  | d :: ds, _, _, n + 1, h => by
    simp only [Rels] at h
    obtain ⟨v, us, F1, F2, rfl, h1, h2, rfl⟩ := h
    obtain ⟨G, g1, g2, g3⟩ := Rels.takeN n h2
    refine ⟨F1 ++ G, by simpa using Rels.cons h1 g1, fun a z => ?_, fun nd => ?_⟩
    · rcases List.mem_append.mp z with z | z
      · exact List.mem_append_left _ z
      · exact List.mem_append_right _ (g2 a z)
    · obtain ⟨n1, n2, n3⟩ := List.nodup_append.mp nd
      exact List.nodup_append.mpr ⟨n1, g3 n2, fun a ha b hb => n3 a ha b (g2 b hb)⟩
end
end DL
set_option Elab.async false
set_option linter.all false
set_option maxRecDepth 100000
set_option maxHeartbeats 1000000
/-! Pure readings over data trees. -/
namespace L2
open PySem PySem.Spec PyProof.Rows
theorem PE.weak {X : Cx} {e : Expr} {t t' : TE} (h : PE X e t) (k : ∀ σ H Q, t' σ H Q → t σ H Q) : PE X e t' := ⟨fun pins s σ H Q I q => h.run pins s σ H Q I (k σ H Q q)⟩
theorem PT.weak {X : Cx} {e : Expr} {t t' : TT} (h : PT X e t) (k : ∀ σ H Q, t' σ H Q → t σ H Q) : PT X e t' := ⟨fun pins s σ H Q I q => h.run pins s σ H Q I (k σ H Q q)⟩
theorem PW.weak {X : Cx} {e : Expr} {t t' : TT} (h : PW X e t) (k : ∀ σ H Q, t' σ H Q → t σ H Q) : PW X e t' := ⟨fun wh pins s σ H Q I q => h.run wh pins s σ H Q I (k σ H Q q)⟩
theorem PA.weak {X : Cx} {e : List Expr} {t t' : TA} (h : PA X e t) (k : ∀ σ H Q, t' σ H Q → t σ H Q) : PA X e t' := ⟨fun pos pins s σ H Q I q => h.run pos pins s σ H Q I (k σ H Q q)⟩
theorem PS.weak {X : Cx} {e : Stmt} {t t' : TS} (h : PS X e t) (k : ∀ D σ H, t' D σ H → t D σ H) : PS X e t' := ⟨fun pins s σ H D I q => h.run pins s σ H D I (k D σ H q)⟩
theorem PSs.weak {X : Cx} {e : List Stmt} {t t' : TS} (h : PSs X e t) (k : ∀ D σ H, t' D σ H → t D σ H) : PSs X e t' := ⟨fun pins s σ H D I q => h.run pins s σ H D I (k D σ H q)⟩
theorem PI.weak {X : Cx} {tg e : Expr} {t t' : TI} (h : PI X tg e t) (k : ∀ σ H R, t' σ H R → t σ H R) : PI X tg e t' := ⟨fun pins s σ H R I q => h.run pins s σ H R I (k σ H R q)⟩
theorem PG.weak {X : Cx} {e : Expr} {t t' : TG} (h : PG X e t) (k : ∀ v σ H Q, t' v σ H Q → t v σ H Q) : PG X e t' := ⟨fun pins s σ H v u Q I r q => h.run pins s σ H v u Q I r (k v σ H Q q)⟩
end L2
namespace DL
open PySem PySem.Spec PyProof.Rows L2
structure SRel (K : PySem.W.Frag) (H : Hp) (O : Addr → Prop) (σ : L2.St) (τ : DS) (Fs : Nat → List Addr) : Prop where
  len : σ.length = τ.length
  rel : ∀ i d, τ[i]? = some (some d) → ∃ v, σ[i]? = some (some v) ∧ Rel K H O d v (Fs i)
  own : ∀ a, O a → H a ≠ none
/-- where what comes out is owned: by a slot, or new -/
def Old (Fs : Nat → List Addr) (H : Hp) (F : List Addr) : Prop := ∀ a ∈ F, (∃ i, a ∈ Fs i) ∨ H a = none
def New (H : Hp) (F : List Addr) : Prop := F.Nodup ∧ ∀ a ∈ F, H a = none
def liftP (K : PySem.W.Frag) (p : DS → Option D) : TE := fun σ H Q => ∃ τ Fs O d, SRel K H O σ τ Fs ∧ p τ = some d ∧ ∀ v H' F, Same H H' → Rel K H' O d v F → Old Fs H F → Q v H'
def liftF (K : PySem.W.Frag) (p : DS → Option D) : TE := fun σ H Q => ∃ τ Fs O d, SRel K H O σ τ Fs ∧ p τ = some d ∧ ∀ v H' F, Same H H' → Rel K H' O d v F → New H F → Q v H'
def liftT (K : PySem.W.Frag) (c : DS → Option Bool) : TT := fun σ H Q => ∃ τ Fs O b, SRel K H O σ τ Fs ∧ c τ = some b ∧ ∀ H', Same H H' → Q b H'
def liftA (K : PySem.W.Frag) (q : DS → Option (List D)) : TA := fun σ H Q => ∃ τ Fs O ds, SRel K H O σ τ Fs ∧ q τ = some ds ∧ ∀ vs H' F, Same H H' → Rels K H' O ds vs F → Old Fs H F → Q vs H'
def liftB (K : PySem.W.Frag) (q : DS → Option (List D)) : TA := fun σ H Q => ∃ τ Fs O ds, SRel K H O σ τ Fs ∧ q τ = some ds ∧ ∀ vs H' F, Same H H' → Rels K H' O ds vs F → New H F → Q vs H'
/-- an expression that changes nothing: its value may share what is owned -/
abbrev PPx (X : Cx) (e : Expr) (p : DS → Option D) : Prop := PE X e (liftP X.K p)
/-- .. whose value is new or owns nothing -/
abbrev PFx (X : Cx) (e : Expr) (p : DS → Option D) : Prop := PE X e (liftF X.K p)
abbrev PTx (X : Cx) (e : Expr) (c : DS → Option Bool) : Prop := PT X e (liftT X.K c)
abbrev PWx (X : Cx) (e : Expr) (c : DS → Option Bool) : Prop := PW X e (liftT X.K c)
abbrev PAx (X : Cx) (es : List Expr) (q : DS → Option (List D)) : Prop := PA X es (liftA X.K q)
abbrev PBx (X : Cx) (es : List Expr) (q : DS → Option (List D)) : Prop := PA X es (liftB X.K q)
section
variable {K : PySem.W.Frag} {H H1 H2 : Hp} {O : Addr → Prop} {σ : L2.St} {τ : DS} {Fs : Nat → List Addr} {F F' G : List Addr}
theorem SRel.same (h : SRel K H O σ τ Fs) (s : Same H H1) : SRel K H1 O σ τ Fs := ⟨h.len, fun i d e => let ⟨v, e1, r⟩ := h.rel i d e; ⟨v, e1, r.same s⟩, fun a ha z => h.own a ha (s.free z)⟩
theorem New.old (h : New H F) : Old Fs H F := fun a ha => .inr (h.2 a ha)
theorem Old.up (h : Old Fs H1 F) (s : Same H H1) : Old Fs H F := fun a ha => (h a ha).imp id fun e => s.free e
theorem New.up (h : New H1 F) (s : Same H H1) : New H F := ⟨h.1, fun a ha => s.free (h.2 a ha)⟩
theorem New.nil : New H [] := ⟨List.nodup_nil, fun _ z => absurd z List.not_mem_nil⟩
theorem Old.nil : Old Fs H [] := fun _ z => absurd z List.not_mem_nil
theorem Old.app (h : Old Fs H F) (k : Old Fs H G) : Old Fs H (F ++ G) := fun a ha => (List.mem_append.mp ha).elim (h a) (k a)
theorem Old.sub (h : Old Fs H F) (k : ∀ a ∈ G, a ∈ F) : Old Fs H G := fun a ha => h a (k a ha)
/-- what was new first stands when the next is new -/
theorem New.app {d : List D} {v : List V} (h : New H F) (r : Rels K H1 O d v F) (k : New H1 G) (s : Same H H1) : New H (F ++ G) := by
  refine ⟨List.nodup_append.mpr ⟨h.1, k.1, fun a ha b hb e => ?_⟩, fun a ha => (List.mem_append.mp ha).elim (h.2 a) fun z => s.free (k.2 a z)⟩
  subst e
  obtain ⟨o, e, _⟩ := r.fp a ha
  rw [k.2 a hb] at e; cases e
theorem New.app1 {d : D} {v : V} (h : New H F) (r : Rel K H1 O d v F) (k : New H1 G) (s : Same H H1) : New H (F ++ G) := by
  exact h.app (Rels.one r) k s
end
theorem rel_int {K : PySem.W.Frag} {H : Hp} {O : Addr → Prop} {i : Int} {v : V} {F : List Addr} (h : Rel K H O (.int i) v F) : v = .int i ∧ F = [] := by simpa only [Rel] using h
theorem rel_bl {K : PySem.W.Frag} {H : Hp} {O : Addr → Prop} {i : Bool} {v : V} {F : List Addr} (h : Rel K H O (.bl i) v F) : v = .bl i ∧ F = [] := by simpa only [Rel] using h
theorem rel_str {K : PySem.W.Frag} {H : Hp} {O : Addr → Prop} {i : Str} {v : V} {F : List Addr} (h : Rel K H O (.str i) v F) : v = .str i ∧ F = [] := by simpa only [Rel] using h
theorem rel_non {K : PySem.W.Frag} {H : Hp} {O : Addr → Prop} {v : V} {F : List Addr} (h : Rel K H O .non v F) : v = .non ∧ F = [] := by simpa only [Rel] using h
theorem mk_int {K : PySem.W.Frag} {H : Hp} {O : Addr → Prop} (i : Int) : Rel K H O (.int i) (.int i) [] := by unfold Rel; exact ⟨rfl, rfl⟩
theorem mk_bl {K : PySem.W.Frag} {H : Hp} {O : Addr → Prop} (i : Bool) : Rel K H O (.bl i) (.bl i) [] := by unfold Rel; exact ⟨rfl, rfl⟩
theorem mk_str {K : PySem.W.Frag} {H : Hp} {O : Addr → Prop} (i : Str) : Rel K H O (.str i) (.str i) [] := by unfold Rel; exact ⟨rfl, rfl⟩
theorem mk_non {K : PySem.W.Frag} {H : Hp} {O : Addr → Prop} : Rel K H O .non .non [] := by unfold Rel; exact ⟨rfl, rfl⟩
section
variable {X : Cx} {e a b c : Expr} {es : List Expr} {p pa pb pc : DS → Option D} {q : DS → Option (List D)} {ca cb : DS → Option Bool} {pos : Pos}
theorem PFx.pp (h : PFx X e p) : PPx X e p := h.weak fun σ H Q ⟨τ, Fs, O, d, S, e, k⟩ => ⟨τ, Fs, O, d, S, e, fun v H' F s r n => k v H' F s r n.old⟩
/-- only what owns nothing -/
def gImm (p : DS → Option D) : DS → Option D := fun τ => (p τ).bind fun d => if d.imm = true then some d else none
theorem gImm_some {p : DS → Option D} {τ : DS} {d : D} : gImm p τ = some d ↔ p τ = some d ∧ d.imm = true := by
  unfold gImm
  cases h : p τ with
  | none => simp
  | some x =>
    simp only [Option.bind_some, Option.some.injEq]
    by_cases hx : x.imm = true
    · rw [if_pos hx]
      constructor
      · intro e
        cases e
        exact ⟨rfl, hx⟩
      · intro e
        rw [e.1]
    · rw [if_neg hx]
      constructor
      · intro e; cases e
      · intro e
        rw [e.1] at hx
        exact absurd e.2 hx
theorem PPx.pf (h : PPx X e p) : PFx X e (gImm p) := h.weak fun σ H Q ⟨τ, Fs, O, d, S, e, k⟩ => by
  obtain ⟨e1, e2⟩ := gImm_some.mp e
  refine ⟨τ, Fs, O, d, S, e1, fun v H' F s r _ => ?_⟩
  have z := r.imm e2
  subst z
  exact k v H' [] s r New.nil
/-! ### names, constants -/
def pVar (i : Nat) : DS → Option D := fun τ => (τ[i]?).join
theorem pVar_some {i : Nat} {τ : DS} {d : D} (h : pVar i τ = some d) : τ[i]? = some (some d) := by
  unfold pVar at h
  cases e : τ[i]? with
  | none => rw [e] at h; cases h
  | some o =>
    rw [e] at h
    cases o with
    | none => cases h
    | some x => simp at h; rw [h]
def pC (d : D) : DS → Option D := fun _ => some d
theorem pp_of_var {i : Nat} (h : PE X e (tVar i)) : PPx X e (pVar i) := h.weak fun σ H Q ⟨τ, Fs, O, d, S, e, k⟩ => by
  obtain ⟨v, e1, r⟩ := S.rel i d (pVar_some e)
  exact ⟨v, e1, k v H _ (Same.refl _) r fun a ha => .inl ⟨i, ha⟩⟩
theorem dv (i : Nat) {x : Str} {pos : Pos} (hN : X.N[i]? = some x := by rfl) (hv : Vis X.env.scope x := by first | exact Or.inl rfl | exact Or.inr (Or.inl rfl) | exact Or.inr (Or.inr rfl)) (hd : (x == ("__debug__" : Str)) = false := by decide)
    (hcd : (x == ("__classdict__" : Str)) = false := by decide) : PPx X (.Name x pos) (pVar i) := pp_of_var (pe_var hN hv hd hcd)
theorem d_int {i : Int} {j : Nat} : PFx X (.Constant (.int i) j pos) (pC (.int i)) := pe_int.weak fun σ H Q ⟨τ, Fs, O, d, S, e, k⟩ => by
  cases e
  exact k _ H [] (Same.refl _) (by first | exact mk_int _ | exact mk_bl _ | exact mk_str _ | exact mk_non) New.nil
theorem d_bl {i : Bool} {j : Nat} : PFx X (.Constant (.bool i) j pos) (pC (.bl i)) := pe_bl.weak fun σ H Q ⟨τ, Fs, O, d, S, e, k⟩ => by
  cases e
  exact k _ H [] (Same.refl _) (by first | exact mk_int _ | exact mk_bl _ | exact mk_str _ | exact mk_non) New.nil
theorem d_str {i : Str} {j : Nat} : PFx X (.Constant (.str i) j pos) (pC (.str i)) := pe_str.weak fun σ H Q ⟨τ, Fs, O, d, S, e, k⟩ => by
  cases e
  exact k _ H [] (Same.refl _) (by first | exact mk_int _ | exact mk_bl _ | exact mk_str _ | exact mk_non) New.nil
theorem d_non {j : Nat} : PFx X (.Constant .none j pos) (pC .non) := pe_non.weak fun σ H Q ⟨τ, Fs, O, d, S, e, k⟩ => by
  cases e
  exact k _ H [] (Same.refl _) (by first | exact mk_int _ | exact mk_bl _ | exact mk_str _ | exact mk_non) New.nil
/-! ### two-place operations -/
def pOp (o : D → D → Option D) (pa pb : DS → Option D) : DS → Option D := fun τ => (pa τ).bind fun x => (pb τ).bind fun y => o x y
def Op2 (K : PySem.W.Frag) (r : R2) (o : D → D → Option D) : Prop := ∀ (H : Hp) (O : Addr → Prop) (dx dy d : D) (x y : V) (Fx Fy : List Addr) (Q : VK), Rel K H O dx x Fx → Rel K H O dy y Fy → o dx dy = some d →
  (∀ v H' F, Same H H' → Rel K H' O d v F → (∀ a ∈ F, a ∈ Fx ∨ a ∈ Fy ∨ H a = none) → Q v H') → r x y H Q
theorem bind2 {α β γ : Type} {x : Option α} {f : α → Option β} {b : β} (h : x.bind f = some b) : ∃ a, x = some a ∧ f a = some b := by
  cases x with
  | none => cases h
  | some a => exact ⟨a, rfl, h⟩
theorem old2 {K : PySem.W.Frag} {H H1 H2 : Hp} {Fs : Nat → List Addr} {Fx Fy F : List Addr} (n1 : Old Fs H Fx) (n2 : Old Fs H1 Fy) (s1 : Same H H1) (s2 : Same H1 H2) (n : ∀ a ∈ F, a ∈ Fx ∨ a ∈ Fy ∨ H2 a = none) : Old Fs H F := fun a ha => by
  rcases n a ha with z | z | z
  · exact n1 a z
  · exact (n2.up s1) a z
  · exact .inr ((s1.trans s2).free z)
theorem lift2 {K : PySem.W.Frag} {r : R2} {o : D → D → Option D} (hd : Op2 K r o) {σ : L2.St} {H : Hp} {Q : VK} (h : liftP K (pOp o pa pb) σ H Q) : tOp r (liftP K pa) (liftP K pb) σ H Q := by
  obtain ⟨τ, Fs, O, d, S, e, k⟩ := h
  obtain ⟨x, ex, e⟩ := bind2 (γ := Unit) e
  obtain ⟨y, ey, e⟩ := bind2 (γ := Unit) e
  exact ⟨τ, Fs, O, x, S, ex, fun v1 H1 F1 s1 r1 n1 => ⟨τ, Fs, O, y, S.same s1, ey, fun v2 H2 F2 s2 r2 n2 => hd H2 O x y d v1 v2 F1 F2 _ (r1.same s2) r2 e fun v H' F s r n => k v H' F ((s1.trans s2).trans s) r (old2 (K := K) n1 n2 s1 s2 n)⟩⟩
theorem pp_op {op : Operator} {r : R2} {o : D → D → Option D} (ho : OpR X (binaryOp op) r) (hd : Op2 X.K r o) (ha : PPx X a pa) (hb : PPx X b pb) : PPx X (.BinOp a op b pos) (pOp o pa pb) :=
  (pe_op ho ha hb).weak fun σ H Q h => lift2 hd h
theorem pp_cmp {op : CmpOp} {r : R2} {o : D → D → Option D} (ho : OpR X (compareOp op) r) (hd : Op2 X.K r o) (ha : PPx X a pa) (hb : PPx X b pb) (hm : behindInMarks op b = false) : PPx X (.Compare a [op] [b] pos) (pOp o pa pb) :=
  (pe_cmpR ho ha hb hm).weak fun σ H Q h => lift2 hd h
theorem Or2 {f : Value → Value → Sem Value} {r r' : R2} (h : OpR X f r) (h' : OpR X f r') : OpR X f (fun x y H Q => r x y H Q ∨ r' x y H Q) := fun pins s σ H x y v u Q I rx ry q => by
  rcases q with q | q
  · exact h pins s σ H x y v u Q I rx ry q
  · exact h' pins s σ H x y v u Q I rx ry q
/-- ints -/
def oI (C : Int → Int → Bool) (g : Int → Int → Int) : D → D → Option D
  | .int i, .int j => if C i j = true then some (.int (g i j)) else none
  | _, _ => none
def oB (g : Int → Int → Bool) : D → D → Option D
  | .int i, .int j => some (.bl (g i j))
  | _, _ => none
theorem oI_some {C : Int → Int → Bool} {g : Int → Int → Int} {x y d : D} (h : oI C g x y = some d) : ∃ i j, x = .int i ∧ y = .int j ∧ C i j = true ∧ d = .int (g i j) := by
  cases x with
  | int i =>
    cases y with
    | int j =>
      unfold oI at h
      dsimp only at h
      split at h
      · cases h
        exact ⟨i, j, rfl, rfl, by assumption, rfl⟩
      · cases h
    | _ => cases h
  | _ => cases h
theorem oB_some {g : Int → Int → Bool} {x y d : D} (h : oB g x y = some d) : ∃ i j, x = .int i ∧ y = .int j ∧ d = .bl (g i j) := by
  cases x with
  | int i =>
    cases y with
    | int j =>
      cases h
      exact ⟨i, j, rfl, rfl, rfl⟩
    | _ => cases h
  | _ => cases h
theorem op2_I {K : PySem.W.Frag} {C : Int → Int → Bool} {C' : Int → Int → Prop} {g : Int → Int → Int} (hC : ∀ i j, C i j = true → C' i j) : Op2 K (rI C' fun i j => .int (g i j)) (oI C g) := by
  intro H O dx dy d x y Fx Fy Q rx ry e k
  obtain ⟨i, j, rfl, rfl, hc, rfl⟩ := oI_some e
  exact ⟨i, j, (rel_int rx).1, (rel_int ry).1, hC i j hc, k _ H [] (Same.refl _) (mk_int _) fun _ z => absurd z List.not_mem_nil⟩
theorem op2_I0 {K : PySem.W.Frag} {g : Int → Int → Int} : Op2 K (rI0 fun i j => .int (g i j)) (oI (fun _ _ => true) g) := by
  intro H O dx dy d x y Fx Fy Q rx ry e k
  obtain ⟨i, j, rfl, rfl, hc, rfl⟩ := oI_some e
  exact ⟨i, j, (rel_int rx).1, (rel_int ry).1, k _ H [] (Same.refl _) (mk_int _) fun _ z => absurd z List.not_mem_nil⟩
theorem op2_B {K : PySem.W.Frag} {g : Int → Int → Bool} : Op2 K (rI0 fun i j => .bl (g i j)) (oB g) := by
  intro H O dx dy d x y Fx Fy Q rx ry e k
  obtain ⟨i, j, rfl, rfl, rfl⟩ := oB_some e
  exact ⟨i, j, (rel_int rx).1, (rel_int ry).1, k _ H [] (Same.refl _) (mk_bl _) fun _ z => absurd z List.not_mem_nil⟩
def cW (i j : Int) : Bool := decide (i.natAbs.log2 + j.natAbs.log2 < 1000000)
def cD (_ j : Int) : Bool := decide (0 < j) && decide (j.natAbs.log2 < 9000)
def cP (_ j : Int) : Bool := decide (j ≠ 0)
def cE (i j : Int) : Bool := decide (0 ≤ j) && decide (j ≤ 1000000) && decide (i.natAbs < 2 ^ 64)
abbrev oSub := oI (fun _ _ => true) fun i j => i - j
abbrev oMul := oI cW fun i j => i * j
abbrev oDiv := oI cD fun i j => i / j
abbrev oMod := oI cP fun i j => i.fmod j
abbrev oPow := oI cE fun i j => i ^ j.toNat
abbrev oAnd := oI (fun _ _ => true) Builtin.bitAnd
theorem p_sub (ha : PPx X a pa) (hb : PPx X b pb) : PPx X (.BinOp a .Sub b pos) (pOp oSub pa pb) := pp_op op_sub op2_I0 ha hb
theorem p_mul (ha : PPx X a pa) (hb : PPx X b pb) : PPx X (.BinOp a .Mult b pos) (pOp oMul pa pb) := pp_op op_mulW (op2_I fun i j h => (of_decide_eq_true h : i.natAbs.log2 + j.natAbs.log2 < 1000000)) ha hb
theorem p_fdiv (ha : PPx X a pa) (hb : PPx X b pb) : PPx X (.BinOp a .FloorDiv b pos) (pOp oDiv pa pb) := pp_op op_fdivW (op2_I fun i j h => by
  simp only [cD, Bool.and_eq_true, decide_eq_true_eq] at h
  exact h) ha hb
theorem p_mod (ha : PPx X a pa) (hb : PPx X b pb) : PPx X (.BinOp a .Mod b pos) (pOp oMod pa pb) := pp_op op_modN (op2_I fun i j h => (of_decide_eq_true h : j ≠ 0)) ha hb
theorem p_pow (ha : PPx X a pa) (hb : PPx X b pb) : PPx X (.BinOp a .Pow b pos) (pOp oPow pa pb) := pp_op op_pow (op2_I fun i j h => by
  simp only [cE, Bool.and_eq_true, decide_eq_true_eq] at h
  exact ⟨h.1.1, h.1.2, h.2⟩) ha hb
theorem p_and (ha : PPx X a pa) (hb : PPx X b pb) : PPx X (.BinOp a .BitAnd b pos) (pOp oAnd pa pb) := pp_op op_and op2_I0 ha hb
abbrev oLt := oB fun i j => decide (i < j)
abbrev oLe := oB fun i j => decide (i ≤ j)
abbrev oGt := oB fun i j => decide (j < i)
abbrev oGe := oB fun i j => decide (j ≤ i)
theorem p_lt (ha : PPx X a pa) (hb : PPx X b pb) : PPx X (.Compare a [.Lt] [b] pos) (pOp oLt pa pb) := pp_cmp op_lt op2_B ha hb (nomark _)
theorem p_le (ha : PPx X a pa) (hb : PPx X b pb) : PPx X (.Compare a [.LtE] [b] pos) (pOp oLe pa pb) := pp_cmp op_le op2_B ha hb (nomark _)
theorem p_gt (ha : PPx X a pa) (hb : PPx X b pb) : PPx X (.Compare a [.Gt] [b] pos) (pOp oGt pa pb) := pp_cmp op_gt op2_B ha hb (nomark _)
theorem p_ge (ha : PPx X a pa) (hb : PPx X b pb) : PPx X (.Compare a [.GtE] [b] pos) (pOp oGe pa pb) := pp_cmp op_ge op2_B ha hb (nomark _)
end
end DL
set_option Elab.async false
set_option linter.all false
set_option maxRecDepth 100000
set_option maxHeartbeats 1000000
/-! Tests, comparisons of data, displays, calls of built-ins, places, slices. -/
namespace DL
open PySem PySem.Spec PyProof.Rows L2
section
variable {K : PySem.W.Frag} {H : Hp} {O : Addr → Prop}
/-- the items of a tuple or list -/
def D.seq? : D → Option (List D)
  | .tup ds => some ds
  | .lst _ ds => some ds
  | .scr ds => some ds
  | _ => none
theorem sql_scr {a : Addr} {vs : List V} (h : (∃ o, H a = some (.frz o (.lst vs))) ∨ KL K a vs) : SqL K H a vs := h.elim (fun ⟨o, h⟩ => .inl (.inr ⟨o, h⟩)) .inr
theorem rel_seq {d : D} {ds : List D} {v : V} {F : List Addr} (h : Rel K H O d v F) (e : d.seq? = some ds) : ∃ a vs G, v = .ref a ∧ (SqL K H a vs ∨ SqT K H a vs) ∧ Rels K H O ds vs G ∧ (∀ b ∈ G, b ∈ F) ∧ (F.Nodup → G.Nodup) := by
  cases d with
  | tup es =>
    cases e
    simp only [Rel] at h
    obtain ⟨a, vs, rfl, hq, hr⟩ := h
    exact ⟨a, vs, F, rfl, .inr hq, hr, fun _ => id, id⟩
  | lst o es =>
    cases e
    cases o with
    | true =>
      simp only [Rel] at h
      obtain ⟨a, vs, G, rfl, hq, hr, rfl⟩ := h
      exact ⟨a, vs, G, rfl, .inl (.inl (.inl hq)), hr, fun b => List.mem_cons_of_mem _, fun z => (List.nodup_cons.mp z).2⟩
    | false =>
      simp only [Rel] at h
      obtain ⟨a, vs, rfl, hq, _, hr, rfl⟩ := h
      exact ⟨a, vs, [], rfl, .inl (.inl hq), hr, fun _ => id, id⟩
  | scr es =>
    cases e
    simp only [Rel] at h
    obtain ⟨a, vs, rfl, hq, hr, rfl⟩ := h
    exact ⟨a, vs, [], rfl, .inl (sql_scr hq), hr, fun _ => id, id⟩
  | _ => cases e
theorem rel_lst {o : Bool} {ds : List D} {v : V} {F : List Addr} (h : Rel K H O (.lst o ds) v F) : ∃ a vs G, v = .ref a ∧ SqL K H a vs ∧ Rels K H O ds vs G ∧ (∀ b ∈ G, b ∈ F) ∧ (F.Nodup → G.Nodup) := by
  cases o with
  | true =>
    simp only [Rel] at h
    obtain ⟨a, vs, G, rfl, hq, hr, rfl⟩ := h
    exact ⟨a, vs, G, rfl, .inl (.inl hq), hr, fun b => List.mem_cons_of_mem _, fun z => (List.nodup_cons.mp z).2⟩
  | false =>
    simp only [Rel] at h
    obtain ⟨a, vs, rfl, hq, _, hr, rfl⟩ := h
    exact ⟨a, vs, [], rfl, .inl hq, hr, fun _ => id, id⟩
theorem rel_tup {ds : List D} {v : V} {F : List Addr} (h : Rel K H O (.tup ds) v F) : ∃ a vs, v = .ref a ∧ SqT K H a vs ∧ Rels K H O ds vs F := by simpa only [Rel] using h
theorem mk_tup {ds : List D} {a : Addr} {vs : List V} {F : List Addr} (h : SqT K H a vs) (r : Rels K H O ds vs F) : Rel K H O (.tup ds) (.ref a) F := by
  unfold Rel
  exact ⟨a, vs, rfl, h, r⟩
theorem mk_lst {ds : List D} {a : Addr} {vs : List V} {F : List Addr} (h : H a = some (.lst vs)) (r : Rels K H O ds vs F) : Rel K H O (.lst true ds) (.ref a) (a :: F) := by
  unfold Rel
  exact ⟨a, vs, F, rfl, h, r, rfl⟩
theorem same_upd {p : Addr} {o : HO} (h : H p = none) : Same H (upd H p o) := fun b x e => by
  rw [upd_ne (ne_of_none e h)]
  exact e
/-! ### as the library's data -/
mutual
def D.py : D → PyData
  | .non => .none | .bl b => .bool b | .int i => .int i | .str x => .str x
  | .tup ds => .tuple (D.pys ds)
  | .lst _ ds => .list (D.pys ds)
  | .scr _ => .dict []
  | .dk _ _ _ => .dict []
  | .dt _ _ _ => .dict []
def D.pys : List D → List PyData
  | [] => []
  | d :: ds => D.py d :: D.pys ds
end
mutual
theorem Rel.dp : ∀ {d : D} {v : V} {F : List Addr}, Rel K H O d v F → d.py.canLay0 = true → Dp K H v d.py
  | .non, v, F, h, _ => by rw [(rel_non h).1]; exact .non
  | .bl b, v, F, h, _ => by rw [(rel_bl h).1]; exact .bl b
  | .int i, v, F, h, _ => by rw [(rel_int h).1]; exact .int i
  | .str x, v, F, h, _ => by rw [(rel_str h).1]; exact .str x
  | .tup ds, v, F, h, c => by
    obtain ⟨a, vs, rfl, hq, hr⟩ := rel_tup h
    exact .tup hq (Rels.dp hr (by simpa only [D.py, PyData.canLay0] using c))
  | .lst o ds, v, F, h, c => by
    obtain ⟨a, vs, G, rfl, hq, hr, _⟩ := rel_lst h
    exact .lst hq (Rels.dp hr (by simpa only [D.py, PyData.canLay0] using c))
  | .scr _, v, F, h, c => by simp [D.py, PyData.canLay0] at c
  | .dk _ _ _, v, F, h, c => by simp [D.py, PyData.canLay0] at c
  | .dt _ _ _, v, F, h, c => by simp [D.py, PyData.canLay0] at c
theorem Rels.dp : ∀ {d : List D} {v : List V} {F : List Addr}, Rels K H O d v F → PyData.canLayAll0 (D.pys d) = true → DpAll K H v (D.pys d)
  | [], v, F, h, _ => by
    simp only [Rels] at h
    rw [h.1]
    exact .nil
  | d :: ds, v, F, h, c => by
    simp only [Rels] at h
    obtain ⟨x, ws, F1, F2, rfl, h1, h2, _⟩ := h
    simp only [D.pys, PyData.canLayAll0, Bool.and_eq_true] at c
    exact .cons (Rel.dp h1 c.1) (Rels.dp h2 c.2)
end
/-- that can be compared by == -/
def D.sh (d : D) : Bool := SeqAt.shaped d.py
theorem D.sh_lay {d : D} (h : d.sh = true) : d.py.canLay0 = true := SeqAt.canLay_of_shaped h
def oEq (x y : D) : Option D := if x.sh = true ∧ y.sh = true then some (.bl (PyData.eqv x.py y.py)) else none
def oNe (x y : D) : Option D := if x.sh = true ∧ y.sh = true then some (.bl (!PyData.eqv x.py y.py)) else none
def D.fV : D → Option V
  | .non => some .non | .bl b => some (.bl b) | .int i => some (.int i) | .str x => some (.str x)
  | _ => none
def D.fVs : List D → Option (List V)
  | [] => some []
  | d :: ds => d.fV.bind fun v => (D.fVs ds).bind fun vs => some (v :: vs)
theorem rel_fV {d : D} {v w : V} {F : List Addr} (h : Rel K H O d v F) (e : d.fV = some w) : v = w ∧ flatV v = true := by
  cases d with
  | non => cases e; rw [(rel_non h).1]; exact ⟨rfl, rfl⟩
  | bl b => cases e; rw [(rel_bl h).1]; exact ⟨rfl, rfl⟩
  | int i => cases e; rw [(rel_int h).1]; exact ⟨rfl, rfl⟩
  | str x => cases e; rw [(rel_str h).1]; exact ⟨rfl, rfl⟩
  | _ => cases e
theorem rels_fVs : ∀ {d : List D} {v w : List V} {F : List Addr}, Rels K H O d v F → D.fVs d = some w → v = w ∧ v.all flatV = true
  | [], v, w, F, h, e => by
    simp only [Rels] at h
    cases e
    rw [h.1]
    exact ⟨rfl, rfl⟩
  | d :: ds, v, w, F, h, e => by
    simp only [Rels] at h
    obtain ⟨x, ws, F1, F2, rfl, h1, h2, _⟩ := h
    obtain ⟨y, e1, e⟩ := bind2 (γ := Unit) e
    obtain ⟨ys, e2, e⟩ := bind2 (γ := Unit) e
    cases e
    obtain ⟨rfl, f1⟩ := rel_fV h1 e1
    obtain ⟨rfl, f2⟩ := rels_fVs h2 e2
    exact ⟨rfl, by simp [f1, f2]⟩
def oIn (neg : Bool) (x y : D) : Option D := x.fV.bind fun v => y.seq?.bind fun ds => (D.fVs ds).bind fun vs => some (.bl (if neg then !inV v vs else inV v vs))
end
section
variable {X : Cx} {e a b c : Expr} {es rest : List Expr} {p pa pb pc : DS → Option D} {q : DS → Option (List D)} {ca cb : DS → Option Bool} {pos : Pos}
theorem op2_eq {K : PySem.W.Frag} : Op2 K (rEqD K) oEq := by
  intro H O dx dy d x y Fx Fy Q rx ry e k
  unfold oEq at e
  split at e
  · rename_i z
    cases e
    exact ⟨_, _, rx.dp (D.sh_lay z.1), ry.dp (D.sh_lay z.2), z.1, z.2, k _ H [] (Same.refl _) (mk_bl _) fun _ z => absurd z List.not_mem_nil⟩
  · cases e
theorem op2_ne {K : PySem.W.Frag} : Op2 K (rNeD K) oNe := by
  intro H O dx dy d x y Fx Fy Q rx ry e k
  unfold oNe at e
  split at e
  · rename_i z
    cases e
    exact ⟨_, _, rx.dp (D.sh_lay z.1), ry.dp (D.sh_lay z.2), z.1, z.2, k _ H [] (Same.refl _) (mk_bl _) fun _ z => absurd z List.not_mem_nil⟩
  · cases e
theorem op2_in {K : PySem.W.Frag} {neg : Bool} : Op2 K (rIn K neg) (oIn neg) := by
  intro H O dx dy d x y Fx Fy Q rx ry e k
  unfold oIn at e
  obtain ⟨v, e1, e⟩ := bind2 (γ := Unit) e
  obtain ⟨ds, e2, e⟩ := bind2 (γ := Unit) e
  obtain ⟨vs, e3, e⟩ := bind2 (γ := Unit) e
  cases e
  obtain ⟨rfl, f1⟩ := rel_fV rx e1
  obtain ⟨a, ws, G, rfl, hq, hr, _⟩ := rel_seq ry e2
  obtain ⟨rfl, f2⟩ := rels_fVs hr e3
  exact ⟨a, _, rfl, hq, f1, f2, k _ H [] (Same.refl _) (mk_bl _) fun _ z => absurd z List.not_mem_nil⟩
theorem p_eq (hu : X.A.units + 64 < cLine) (ha : PPx X a pa) (hb : PPx X b pb) : PPx X (.Compare a [.Eq] [b] pos) (pOp oEq pa pb) := pp_cmp (op_eqD hu) op2_eq ha hb (nomark _)
theorem p_ne (hu : X.A.units + 64 < cLine) (ha : PPx X a pa) (hb : PPx X b pb) : PPx X (.Compare a [.NotEq] [b] pos) (pOp oNe pa pb) := pp_cmp (op_neD hu) op2_ne ha hb (nomark _)
theorem p_in (ha : PPx X a pa) (hb : PPx X b pb) (hm : behindInMarks .In b = false := by rfl) : PPx X (.Compare a [.In] [b] pos) (pOp (oIn false) pa pb) := pp_cmp op_in_seq op2_in ha hb hm
theorem p_notin (ha : PPx X a pa) (hb : PPx X b pb) (hm : behindInMarks .NotIn b = false := by rfl) : PPx X (.Compare a [.NotIn] [b] pos) (pOp (oIn true) pa pb) := pp_cmp op_notIn_seq op2_in ha hb hm
/-- is None, is True -/
def D.isNon : D → Bool
  | .non => true
  | _ => false
def oIs (neg : Bool) (x y : D) : Option D := match y with
  | .non => some (.bl (if neg then !x.isNon else x.isNon))
  | .bl b => (match x with | .bl a => some (.bl (if neg then !decide (a = b) else decide (a = b))) | _ => none)
  | _ => none
theorem rel_isNon {K : PySem.W.Frag} {H : Hp} {O : Addr → Prop} {d : D} {v : V} {F : List Addr} (h : Rel K H O d v F) : decide (v = .non) = d.isNon := by
  cases d with
  | non => rw [(rel_non h).1]; rfl
  | bl b => rw [(rel_bl h).1]; rfl
  | int i => rw [(rel_int h).1]; rfl
  | str x => rw [(rel_str h).1]; rfl
  | tup ds => obtain ⟨a, vs, rfl, _⟩ := rel_tup h; rfl
  | lst o ds => obtain ⟨a, vs, G, rfl, _⟩ := rel_lst h; rfl
  | scr ds => simp only [Rel] at h; obtain ⟨a, vs, rfl, _⟩ := h; rfl
  | dk o ks ds =>
    cases o with
    | true => simp only [Rel] at h; obtain ⟨a, kvs, G, rfl, _⟩ := h; rfl
    | false => simp only [Rel] at h; obtain ⟨a, kvs, rfl, _⟩ := h; rfl
  | dt o ks ds =>
    cases o with
    | true => simp only [Rel] at h; obtain ⟨a, kvs, G, rfl, _⟩ := h; rfl
    | false => simp only [Rel] at h; obtain ⟨a, kvs, rfl, _⟩ := h; rfl
theorem op2_is {K : PySem.W.Frag} : Op2 K (fun x y H Q => (y = .non ∧ Q (.bl (decide (x = .non))) H) ∨ rIsB x y H Q) (oIs false) := by
  intro H O dx dy d x y Fx Fy Q rx ry e k
  unfold oIs at e
  split at e
  · cases e
    refine .inl ⟨(rel_non ry).1, ?_⟩
    rw [rel_isNon rx]
    exact k _ H [] (Same.refl _) (mk_bl _) fun _ z => absurd z List.not_mem_nil
  · split at e
    · cases e
      exact .inr ⟨_, _, (rel_bl rx).1, (rel_bl ry).1, k _ H [] (Same.refl _) (mk_bl _) fun _ z => absurd z List.not_mem_nil⟩
    · cases e
  · cases e
theorem op2_isnt {K : PySem.W.Frag} : Op2 K (fun x y H Q => (y = .non ∧ Q (.bl (!decide (x = .non))) H) ∨ rNotB x y H Q) (oIs true) := by
  intro H O dx dy d x y Fx Fy Q rx ry e k
  unfold oIs at e
  split at e
  · cases e
    refine .inl ⟨(rel_non ry).1, ?_⟩
    rw [rel_isNon rx]
    exact k _ H [] (Same.refl _) (mk_bl _) fun _ z => absurd z List.not_mem_nil
  · split at e
    · cases e
      exact .inr ⟨_, _, (rel_bl rx).1, (rel_bl ry).1, k _ H [] (Same.refl _) (mk_bl _) fun _ z => absurd z List.not_mem_nil⟩
    · cases e
  · cases e
theorem p_is (ha : PPx X a pa) (hb : PPx X b pb) : PPx X (.Compare a [.Is] [b] pos) (pOp (oIs false) pa pb) := pp_cmp (Or2 op_isN op_isBl) op2_is ha hb (nomark _)
theorem p_isnt (ha : PPx X a pa) (hb : PPx X b pb) : PPx X (.Compare a [.IsNot] [b] pos) (pOp (oIs true) pa pb) := pp_cmp (Or2 op_notN op_notBl) op2_isnt ha hb (nomark _)
/-! ### truth, tests -/
def D.tru : D → Option Bool
  | .non => some false
  | .bl b => some b
  | .int i => some (i != 0)
  | .str x => if x.length ≤ sizeLine then some ((x.length : Int) != 0) else none
  | .tup ds => some (!ds.isEmpty)
  | .lst _ ds => some (!ds.isEmpty)
  | .dk true ks _ => some (!ks.isEmpty)
  | _ => none
theorem rels_empty {K : PySem.W.Frag} {H : Hp} {O : Addr → Prop} {ds : List D} {vs : List V} {F : List Addr} (h : Rels K H O ds vs F) : (!ds.isEmpty) = !vs.isEmpty := by
  have e := h.len
  cases ds <;> cases vs <;> simp_all
theorem rel_tru {K : PySem.W.Frag} {H : Hp} {O : Addr → Prop} {d : D} {v : V} {F : List Addr} {k : Bool} (h : Rel K H O d v F) (e : d.tru = some k) : TruV K v H k := by
  cases d with
  | non => cases e; rw [(rel_non h).1]; exact rfl
  | bl b => cases e; rw [(rel_bl h).1]; exact rfl
  | int i => cases e; rw [(rel_int h).1]; exact rfl
  | str x =>
    unfold D.tru at e
    dsimp only at e
    split at e
    · cases e
      rw [(rel_str h).1]
      exact ⟨by assumption, rfl⟩
    · cases e
  | tup ds =>
    cases e
    obtain ⟨a, vs, rfl, hq, hr⟩ := rel_tup h
    exact .inr (.inl ⟨vs, hq, rels_empty hr⟩)
  | lst o ds =>
    cases e
    obtain ⟨a, vs, G, rfl, hq, hr, _⟩ := rel_lst h
    exact .inl ⟨vs, hq, rels_empty hr⟩
  | dk o ks ds =>
    cases o with
    | true =>
      cases e
      simp only [Rel] at h
      obtain ⟨a, kvs, G, rfl, hq, rfl, _⟩ := h
      exact .inr (.inr ⟨kvs, hq, by cases kvs <;> rfl⟩)
    | false => cases e
  | scr ds => cases e
  | dt o ks ds => cases o <;> cases e
def cTru (p : DS → Option D) : DS → Option Bool := fun τ => (p τ).bind D.tru
theorem t_of (h : PPx X e p) (he : ∀ whole, isTrue e X.env whole = (do let v ← whole; standAt e.pos; holding [v] (truthy v)) := by intro _; rfl) : PTx X e (cTru p) :=
  (pt_truth h he).weak fun σ H Q ⟨τ, Fs, O, k, S, e, q⟩ => by
    obtain ⟨d, e1, e2⟩ := bind2 (γ := Unit) e
    exact ⟨τ, Fs, O, d, S, e1, fun v H' F s r n => ⟨k, rel_tru r e2, q H' s⟩⟩
/-- a comparison as a test -/
def cBl (p : DS → Option D) : DS → Option Bool := fun τ => (p τ).bind fun d => match d with | .bl k => some k | _ => none
theorem cBl_some {p : DS → Option D} {τ : DS} {k : Bool} (h : cBl p τ = some k) : p τ = some (.bl k) := by
  obtain ⟨d, e1, e2⟩ := bind2 (γ := Unit) h
  cases d with
  | bl b => cases e2; exact e1
  | _ => cases e2
theorem tt_cmp {op : CmpOp} {r : R2} {o : D → D → Option D} (ho : OpR X (compareOp op) r) (hd : Op2 X.K r o) (ha : PPx X a pa) (hb : PPx X b pb) (hm : behindInMarks op b = false) : PTx X (.Compare a [op] [b] pos) (cBl (pOp o pa pb)) :=
  (pt_cmpR ho ha hb hm).weak fun σ H Q ⟨τ, Fs, O, k, S, e, q⟩ => by
    have z := lift2 (Q := fun x H' => ∃ k, x = .bl k ∧ Q k H') hd ⟨τ, Fs, O, _, S, cBl_some e, fun v H' F s r n => ⟨k, (rel_bl r).1, q H' s⟩⟩
    exact z
theorem t_eq (hu : X.A.units + 64 < cLine) (ha : PPx X a pa) (hb : PPx X b pb) : PTx X (.Compare a [.Eq] [b] pos) (cBl (pOp oEq pa pb)) := tt_cmp (op_eqD hu) op2_eq ha hb (nomark _)
theorem t_ne (hu : X.A.units + 64 < cLine) (ha : PPx X a pa) (hb : PPx X b pb) : PTx X (.Compare a [.NotEq] [b] pos) (cBl (pOp oNe pa pb)) := tt_cmp (op_neD hu) op2_ne ha hb (nomark _)
theorem t_in (ha : PPx X a pa) (hb : PPx X b pb) (hm : behindInMarks .In b = false := by rfl) : PTx X (.Compare a [.In] [b] pos) (cBl (pOp (oIn false) pa pb)) := tt_cmp op_in_seq op2_in ha hb hm
theorem t_notin (ha : PPx X a pa) (hb : PPx X b pb) (hm : behindInMarks .NotIn b = false := by rfl) : PTx X (.Compare a [.NotIn] [b] pos) (cBl (pOp (oIn true) pa pb)) := tt_cmp op_notIn_seq op2_in ha hb hm
theorem t_is (ha : PPx X a pa) (hb : PPx X b pb) : PTx X (.Compare a [.Is] [b] pos) (cBl (pOp (oIs false) pa pb)) := tt_cmp (Or2 op_isN op_isBl) op2_is ha hb (nomark _)
theorem t_isnt (ha : PPx X a pa) (hb : PPx X b pb) : PTx X (.Compare a [.IsNot] [b] pos) (cBl (pOp (oIs true) pa pb)) := tt_cmp (Or2 op_notN op_notBl) op2_isnt ha hb (nomark _)
theorem t_lt (ha : PPx X a pa) (hb : PPx X b pb) : PTx X (.Compare a [.Lt] [b] pos) (cBl (pOp oLt pa pb)) := tt_cmp op_lt op2_B ha hb (nomark _)
theorem t_le (ha : PPx X a pa) (hb : PPx X b pb) : PTx X (.Compare a [.LtE] [b] pos) (cBl (pOp oLe pa pb)) := tt_cmp op_le op2_B ha hb (nomark _)
theorem t_gt (ha : PPx X a pa) (hb : PPx X b pb) : PTx X (.Compare a [.Gt] [b] pos) (cBl (pOp oGt pa pb)) := tt_cmp op_gt op2_B ha hb (nomark _)
theorem t_ge (ha : PPx X a pa) (hb : PPx X b pb) : PTx X (.Compare a [.GtE] [b] pos) (cBl (pOp oGe pa pb)) := tt_cmp op_ge op2_B ha hb (nomark _)
def cAnd (ca cb : DS → Option Bool) : DS → Option Bool := fun τ => (ca τ).bind fun k => if k = true then cb τ else some false
def cOr (ca cb : DS → Option Bool) : DS → Option Bool := fun τ => (ca τ).bind fun k => if k = true then some true else cb τ
def cNot (ca : DS → Option Bool) : DS → Option Bool := fun τ => (ca τ).bind fun k => some (!k)
theorem t_not (h : PTx X a ca) : PTx X (.UnaryOp .Not a pos) (cNot ca) := (pt_not h).weak fun σ H Q ⟨τ, Fs, O, k, S, e, q⟩ => by
  obtain ⟨d, e1, e2⟩ := bind2 (γ := Unit) e
  cases e2
  exact ⟨τ, Fs, O, d, S, e1, fun H' s => q H' s⟩
theorem w_and1 (h : PTx X a ca) : PWx X (.BoolOp .And [a] pos) ca := pw_and1 h
theorem w_or1 (h : PTx X a ca) : PWx X (.BoolOp .Or [a] pos) ca := pw_or1 h
theorem w_and (h : PTx X a ca) (k : PWx X (.BoolOp .And (b :: rest) pos) cb) : PWx X (.BoolOp .And (a :: b :: rest) pos) (cAnd ca cb) := (pw_and h k).weak fun σ H Q ⟨τ, Fs, O, k, S, e, q⟩ => by
  obtain ⟨d, e1, e2⟩ := bind2 (γ := Unit) e
  refine ⟨τ, Fs, O, d, S, e1, fun H' s => ?_⟩
  cases d with
  | true => exact iteT ⟨τ, Fs, O, k, S.same s, e2, fun H2 s2 => q H2 (s.trans s2)⟩
  | false =>
    cases e2
    exact iteF (q H' s)
theorem w_or (h : PTx X a ca) (k : PWx X (.BoolOp .Or (b :: rest) pos) cb) : PWx X (.BoolOp .Or (a :: b :: rest) pos) (cOr ca cb) := (pw_or h k).weak fun σ H Q ⟨τ, Fs, O, k, S, e, q⟩ => by
  obtain ⟨d, e1, e2⟩ := bind2 (γ := Unit) e
  refine ⟨τ, Fs, O, d, S, e1, fun H' s => ?_⟩
  cases d with
  | true =>
    cases e2
    exact iteT (q H' s)
  | false => exact iteF ⟨τ, Fs, O, k, S.same s, e2, fun H2 s2 => q H2 (s.trans s2)⟩
theorem t_w (h : PWx X e ca) : PTx X e ca := h.pt
/-! ### and, or, not, if as values -/
def pAnd (pa pb : DS → Option D) : DS → Option D := fun τ => (cBl pa τ).bind fun k => if k = true then pb τ else some (.bl false)
def pOr (pa pb : DS → Option D) : DS → Option D := fun τ => (cBl pa τ).bind fun k => if k = true then some (.bl true) else pb τ
theorem v_one {op} (h : PPx X a pa) : PPx X (.BoolOp op [a] pos) pa := pe_one h
theorem v_and (h : PPx X a pa) (k : PPx X (.BoolOp .And (b :: rest) pos) pb) : PPx X (.BoolOp .And (a :: b :: rest) pos) (pAnd pa pb) := (pe_and h k).weak fun σ H Q ⟨τ, Fs, O, d, S, e, q⟩ => by
  obtain ⟨k, e1, e2⟩ := bind2 (γ := Unit) e
  refine ⟨τ, Fs, O, _, S, cBl_some e1, fun v H' F s r n => ⟨k, (rel_bl r).1, ?_⟩⟩
  cases k with
  | true => exact iteT ⟨τ, Fs, O, d, S.same s, e2, fun v H2 F s2 r n => q v H2 F (s.trans s2) r (n.up s)⟩
  | false =>
    cases e2
    exact iteF (q _ H' [] s (mk_bl _) Old.nil)
theorem v_or (h : PPx X a pa) (k : PPx X (.BoolOp .Or (b :: rest) pos) pb) : PPx X (.BoolOp .Or (a :: b :: rest) pos) (pOr pa pb) := (pe_or h k).weak fun σ H Q ⟨τ, Fs, O, d, S, e, q⟩ => by
  obtain ⟨k, e1, e2⟩ := bind2 (γ := Unit) e
  refine ⟨τ, Fs, O, _, S, cBl_some e1, fun v H' F s r n => ⟨k, (rel_bl r).1, ?_⟩⟩
  cases k with
  | true =>
    cases e2
    exact iteT (q _ H' [] s (mk_bl _) Old.nil)
  | false => exact iteF ⟨τ, Fs, O, d, S.same s, e2, fun v H2 F s2 r n => q v H2 F (s.trans s2) r (n.up s)⟩
def pNot (pa : DS → Option D) : DS → Option D := fun τ => (cTru pa τ).bind fun k => some (.bl (!k))
theorem v_not (h : PPx X a pa) : PPx X (.UnaryOp .Not a pos) (pNot pa) := (pe_notT h).weak fun σ H Q ⟨τ, Fs, O, d, S, e, q⟩ => by
  obtain ⟨k, e1, e2⟩ := bind2 (γ := Unit) e
  obtain ⟨x, e3, e4⟩ := bind2 (γ := Unit) e1
  cases e2
  exact ⟨τ, Fs, O, x, S, e3, fun v H' F s r n => ⟨k, rel_tru r e4, q _ H' [] s (mk_bl _) Old.nil⟩⟩
def pIf (c : DS → Option Bool) (pa pb : DS → Option D) : DS → Option D := fun τ => (c τ).bind fun k => if k = true then pa τ else pb τ
theorem v_if (hc : PTx X c ca) (ha : PPx X a pa) (hb : PPx X b pb) : PPx X (.IfExp c a b pos) (pIf ca pa pb) := (pe_ifExp hc ha hb).weak fun σ H Q ⟨τ, Fs, O, d, S, e, q⟩ => by
  obtain ⟨k, e1, e2⟩ := bind2 (γ := Unit) e
  refine ⟨τ, Fs, O, k, S, e1, fun H' s => ?_⟩
  cases k with
  | true => exact iteT ⟨τ, Fs, O, d, S.same s, e2, fun v H2 F s2 r n => q v H2 F (s.trans s2) r (n.up s)⟩
  | false => exact iteF ⟨τ, Fs, O, d, S.same s, e2, fun v H2 F s2 r n => q v H2 F (s.trans s2) r (n.up s)⟩
theorem f_if (hc : PTx X c ca) (ha : PFx X a pa) (hb : PFx X b pb) : PFx X (.IfExp c a b pos) (pIf ca pa pb) := (pe_ifExp hc ha hb).weak fun σ H Q ⟨τ, Fs, O, d, S, e, q⟩ => by
  obtain ⟨k, e1, e2⟩ := bind2 (γ := Unit) e
  refine ⟨τ, Fs, O, k, S, e1, fun H' s => ?_⟩
  cases k with
  | true => exact iteT ⟨τ, Fs, O, d, S.same s, e2, fun v H2 F s2 r n => q v H2 F (s.trans s2) r (n.up s)⟩
  | false => exact iteF ⟨τ, Fs, O, d, S.same s, e2, fun v H2 F s2 r n => q v H2 F (s.trans s2) r (n.up s)⟩
/-- a op b op' c -/
def pCh (o o' : D → D → Option D) (pa pb pc : DS → Option D) : DS → Option D := fun τ => (pa τ).bind fun x => (pb τ).bind fun y => (o x y).bind fun z => match z with
  | .bl k => if k = true then (pc τ).bind fun w => o' y w else some (.bl false)
  | _ => none
theorem lift3 {K : PySem.W.Frag} {r r' : R2} {o o' : D → D → Option D} (hd : Op2 K r o) (hd' : Op2 K r' o') {σ : L2.St} {H : Hp} {Q : VK} (h : liftP K (pCh o o' pa pb pc) σ H Q) : tChain r r' (liftP K pa) (liftP K pb) (liftP K pc) σ H Q := by
  obtain ⟨τ, Fs, O, d, S, e, q⟩ := h
  obtain ⟨x, ex, e⟩ := bind2 (γ := Unit) e
  obtain ⟨y, ey, e⟩ := bind2 (γ := Unit) e
  obtain ⟨z, ez, e⟩ := bind2 (γ := Unit) e
  refine ⟨τ, Fs, O, x, S, ex, fun v1 H1 F1 s1 r1 n1 => ⟨τ, Fs, O, y, S.same s1, ey, fun v2 H2 F2 s2 r2 n2 => hd H2 O x y z v1 v2 F1 F2 _ (r1.same s2) r2 ez fun v H' F s r n => ?_⟩⟩
  cases z with
  | bl k =>
    refine ⟨k, (rel_bl r).1, ?_⟩
    cases k with
    | true =>
      have e := e
      simp only [if_true] at e
      obtain ⟨w, ew, e⟩ := bind2 (γ := Unit) e
      refine iteT ⟨τ, Fs, O, w, S.same ((s1.trans s2).trans s), ew, fun v3 H3 F3 s3 r3 n3 => hd' H3 O y w d v2 v3 F2 F3 _ (r2.same (s.trans s3)) r3 e fun v4 H4 F4 s4 r4 n4 => q v4 H4 F4 (((s1.trans s2).trans s).trans (s3.trans s4)) r4 ?_⟩
      exact old2 (K := K) (n2.up s1) n3 ((s1.trans s2).trans s) s3 n4
    | false =>
      simp only [Bool.false_eq_true, if_false] at e
      cases e
      exact iteF (q _ H' [] ((s1.trans s2).trans s) (mk_bl _) Old.nil)
  | _ => cases e
theorem p_ch {op op' : CmpOp} {r r' : R2} {o o' : D → D → Option D} (ho : OpR X (compareOp op) r) (ho' : OpR X (compareOp op') r') (hd : Op2 X.K r o) (hd' : Op2 X.K r' o') (ha : PPx X a pa) (hb : PPx X b pb) (hc : PPx X c pc)
    (hm : lastMarks [op, op'] [b, c] = false := by with_unfolding_all rfl) : PPx X (.Compare a [op, op'] [b, c] pos) (pCh o o' pa pb pc) := (pe_chain ho ho' ha hb hc hm).weak fun σ H Q h => lift3 hd hd' h
theorem t_ch {op op' : CmpOp} {r r' : R2} {o o' : D → D → Option D} (ho : OpR X (compareOp op) r) (ho' : OpR X (compareOp op') r') (hd : Op2 X.K r o) (hd' : Op2 X.K r' o') (ha : PPx X a pa) (hb : PPx X b pb) (hc : PPx X c pc)
    (hm : lastMarks [op, op'] [b, c] = false := by with_unfolding_all rfl) : PTx X (.Compare a [op, op'] [b, c] pos) (cBl (pCh o o' pa pb pc)) :=
  (pt_chain ho ho' ha hb hc hm).weak fun σ H Q ⟨τ, Fs, O, k, S, e, q⟩ => lift3 hd hd' ⟨τ, Fs, O, _, S, cBl_some e, fun v H' F s r n => ⟨k, (rel_bl r).1, q H' s⟩⟩
end
end DL
set_option Elab.async false
set_option linter.all false
set_option maxRecDepth 100000
set_option maxHeartbeats 1000000
/-! Arguments, displays, calls of built-ins, places, slices, calls of defs. -/
namespace DL
open PySem PySem.Spec PyProof.Rows L2
section
variable {X : Cx} {e a b c : Expr} {es rest : List Expr} {p pa pb pc : DS → Option D} {q qa : DS → Option (List D)} {ca cb : DS → Option Bool} {pos p2 : Pos}
def qNil : DS → Option (List D) := fun _ => some []
def qCons (p : DS → Option D) (q : DS → Option (List D)) : DS → Option (List D) := fun τ => (p τ).bind fun d => (q τ).bind fun ds => some (d :: ds)
/-- the items of a starred one -/
def qStar (p : DS → Option D) (q : DS → Option (List D)) : DS → Option (List D) := fun τ => (p τ).bind fun d => d.seq?.bind fun es => (q τ).bind fun ds => if D.imms es = true then some (es ++ ds) else none
theorem a_nil : PAx X [] qNil := pa_nil.weak fun σ H Q ⟨τ, Fs, O, d, S, e, k⟩ => by
  cases e
  exact k [] H [] (Same.refl _) Rels.nil Old.nil
theorem b_nil : PBx X [] qNil := pa_nil.weak fun σ H Q ⟨τ, Fs, O, d, S, e, k⟩ => by
  cases e
  exact k [] H [] (Same.refl _) Rels.nil New.nil
theorem a_cons (h : PPx X e p) (k : PAx X es q) (hs : starEach (e :: es) X.env = (false, eval e X.env) :: starEach es X.env := by rfl) : PAx X (e :: es) (qCons p q) := (pa_cons h k hs).weak fun σ H Q ⟨τ, Fs, O, d, S, e, k⟩ => by
  obtain ⟨x, ex, e⟩ := bind2 (γ := Unit) e
  obtain ⟨xs, exs, e⟩ := bind2 (γ := Unit) e
  cases e
  exact ⟨τ, Fs, O, x, S, ex, fun v1 H1 F1 s1 r1 n1 => ⟨τ, Fs, O, xs, S.same s1, exs, fun v2 H2 F2 s2 r2 n2 => k _ H2 _ (s1.trans s2) (Rels.cons (r1.same s2) r2) (n1.app (n2.up s1))⟩⟩
theorem b_cons (h : PFx X e p) (k : PBx X es q) (hs : starEach (e :: es) X.env = (false, eval e X.env) :: starEach es X.env := by rfl) : PBx X (e :: es) (qCons p q) := (pa_cons h k hs).weak fun σ H Q ⟨τ, Fs, O, d, S, e, k⟩ => by
  obtain ⟨x, ex, e⟩ := bind2 (γ := Unit) e
  obtain ⟨xs, exs, e⟩ := bind2 (γ := Unit) e
  cases e
  exact ⟨τ, Fs, O, x, S, ex, fun v1 H1 F1 s1 r1 n1 => ⟨τ, Fs, O, xs, S.same s1, exs, fun v2 H2 F2 s2 r2 n2 => k _ H2 _ (s1.trans s2) (Rels.cons (r1.same s2) r2) (n1.app1 r1 n2 s1)⟩⟩
theorem b_star (h : PPx X e p) (k : PBx X es q) (hs : starEach (.Starred e p2 :: es) X.env = (true, eval e X.env) :: starEach es X.env := by rfl) : PBx X (.Starred e p2 :: es) (qStar p q) := (StX.pa_star h k hs).weak fun σ H Q ⟨τ, Fs, O, d, S, e, k⟩ => by
  obtain ⟨x, ex, e⟩ := bind2 (γ := Unit) e
  obtain ⟨ys, eys, e⟩ := bind2 (γ := Unit) e
  obtain ⟨xs, exs, e⟩ := bind2 (γ := Unit) e
  split at e
  · rename_i hi
    cases e
    refine ⟨τ, Fs, O, x, S, ex, fun v1 H1 F1 s1 r1 n1 => ?_⟩
    obtain ⟨a, vs, G, rfl, hq, hr, _⟩ := rel_seq r1 eys
    have z := hr.imm hi
    subst z
    exact ⟨a, vs, rfl, hq.symm, τ, Fs, O, xs, S.same s1, exs, fun v2 H2 F2 s2 r2 n2 => k _ H2 _ (s1.trans s2) (by simpa using (hr.same s2).app r2) (n2.up s1)⟩
  · cases e
/-! ### displays -/
def pTup (q : DS → Option (List D)) : DS → Option D := fun τ => (q τ).bind fun ds => if ds.length ≤ 16777216 then some (.tup ds) else none
def pLst (q : DS → Option (List D)) : DS → Option D := fun τ => (q τ).bind fun ds => if ds.length ≤ 16777216 then some (.lst true ds) else none
theorem p_tup {x1} (h : PAx X es q) : PPx X (.Tuple es x1 pos) (pTup q) := (pe_tup h).weak fun σ H Q ⟨τ, Fs, O, d, S, e, k⟩ => by
  obtain ⟨xs, exs, e⟩ := bind2 (γ := Unit) e
  split at e
  · rename_i hl
    cases e
    refine ⟨τ, Fs, O, xs, S, exs, fun vs H1 F1 s1 r1 n1 => ⟨by rw [r1.len, sizeLine_eq]; exact hl, fun a ha => ?_⟩⟩
    exact k _ _ F1 (s1.trans (same_upd ha)) (mk_tup (SqT.of upd_same) (r1.same (same_upd ha))) n1
  · cases e
theorem f_tup {x1} (h : PBx X es q) : PFx X (.Tuple es x1 pos) (pTup q) := (pe_tup h).weak fun σ H Q ⟨τ, Fs, O, d, S, e, k⟩ => by
  obtain ⟨xs, exs, e⟩ := bind2 (γ := Unit) e
  split at e
  · rename_i hl
    cases e
    refine ⟨τ, Fs, O, xs, S, exs, fun vs H1 F1 s1 r1 n1 => ⟨by rw [r1.len, sizeLine_eq]; exact hl, fun a ha => ?_⟩⟩
    exact k _ _ F1 (s1.trans (same_upd ha)) (mk_tup (SqT.of upd_same) (r1.same (same_upd ha))) n1
  · cases e
theorem new_cons {K : PySem.W.Frag} {H H1 : Hp} {O : Addr → Prop} {F : List Addr} {ds : List D} {vs : List V} {a : Addr} (n : New H F) (r : Rels K H1 O ds vs F) (s : Same H H1) (ha : H1 a = none) : New H (a :: F) := by
  refine ⟨List.nodup_cons.mpr ⟨fun z => ?_, n.1⟩, fun b hb => ?_⟩
  · obtain ⟨o, e, _⟩ := r.fp a z
    rw [ha] at e; cases e
  · rcases List.mem_cons.mp hb with rfl | hb
    · exact s.free ha
    · exact n.2 b hb
theorem f_lst (h : PBx X es q) : PFx X (.List es pos) (pLst q) := (pe_lst h).weak fun σ H Q ⟨τ, Fs, O, d, S, e, k⟩ => by
  obtain ⟨xs, exs, e⟩ := bind2 (γ := Unit) e
  split at e
  · rename_i hl
    cases e
    refine ⟨τ, Fs, O, xs, S, exs, fun vs H1 F1 s1 r1 n1 => ⟨by rw [r1.len, sizeLine_eq]; exact hl, fun a ha => ?_⟩⟩
    exact k _ _ (a :: F1) (s1.trans (same_upd ha)) (mk_lst upd_same (r1.same (same_upd ha))) (new_cons n1 r1 s1 ha)
  · cases e
/-! ### calls of built-ins -/
def OpA (K : PySem.W.Frag) (r : List V → Hp → VK → Prop) (o : List D → Option D) : Prop := ∀ (H : Hp) (O : Addr → Prop) (ds : List D) (vs : List V) (F : List Addr) (d : D) (Q : VK), Rels K H O ds vs F → o ds = some d →
  (∀ v H' G, Same H H' → Rel K H' O d v G → (∀ a ∈ G, a ∈ F ∨ H a = none) → Q v H') → r vs H Q
def OpB (K : PySem.W.Frag) (r : List V → Hp → VK → Prop) (o : List D → Option D) : Prop := ∀ (H : Hp) (O : Addr → Prop) (ds : List D) (vs : List V) (F : List Addr) (d : D) (Q : VK), Rels K H O ds vs F → o ds = some d →
  (∀ v H' G, Same H H' → Rel K H' O d v G → New H G → Q v H') → r vs H Q
def pCall (o : List D → Option D) (q : DS → Option (List D)) : DS → Option D := fun τ => (q τ).bind o
theorem liftA_cb {K : PySem.W.Frag} {r : List V → Hp → VK → Prop} {o : List D → Option D} (hd : OpA K r o) {σ : L2.St} {H : Hp} {Q : VK} (h : liftP K (pCall o q) σ H Q) : tCB r (liftA K q) σ H Q := by
  obtain ⟨τ, Fs, O, d, S, e, k⟩ := h
  obtain ⟨xs, exs, e⟩ := bind2 (γ := Unit) e
  exact ⟨τ, Fs, O, xs, S, exs, fun vs H1 F1 s1 r1 n1 => hd H1 O xs vs F1 d _ r1 e fun v H' G s r n => k v H' G (s1.trans s) r fun a ha => (n a ha).elim (n1 a) fun z => .inr (s1.free z)⟩
theorem liftB_cb {K : PySem.W.Frag} {r : List V → Hp → VK → Prop} {o : List D → Option D} (hd : OpB K r o) {σ : L2.St} {H : Hp} {Q : VK} (h : liftF K (pCall o q) σ H Q) : tCB r (liftA K q) σ H Q := by
  obtain ⟨τ, Fs, O, d, S, e, k⟩ := h
  obtain ⟨xs, exs, e⟩ := bind2 (γ := Unit) e
  exact ⟨τ, Fs, O, xs, S, exs, fun vs H1 F1 s1 r1 n1 => hd H1 O xs vs F1 d _ r1 e fun v H' G s r n => k v H' G (s1.trans s) r (n.up s1)⟩
section
variable {x : Str} {pn : Pos} {id T : String} {r : List V → Hp → VK → Prop} {o : List D → Option D}
theorem p_bi (hc : CallR X (.builtin id) r) (hd : OpA X.K r o) (hg : Gl X x) (hm : X.mg x = none) (hv : bootBuiltins x = some (.builtin id)) (ha : PAx X (e :: es) q) (hn : x ≠ "__name__" := by decide) (hdb : (x == ("__debug__" : Str)) = false := by decide)
    (he : starEach (e :: es) X.env = (false, eval e X.env) :: starEach es X.env := by rfl) (hpl : (backTo pos (starEach es X.env)).any (·.1) = false := by rfl) : PPx X (.Call (.Name x pn) (e :: es) [] pos) (pCall o q) :=
  (pe_callB hc hg hm hv ha hn hdb he hpl).weak fun σ H Q h => liftA_cb hd h
theorem p_ty (hc : CallR X (.type T) r) (hd : OpA X.K r o) (hg : Gl X x) (hm : X.mg x = none) (hv : bootBuiltins x = some (.type T)) (ha : PAx X (e :: es) q) (hn : x ≠ "__name__" := by decide) (hdb : (x == ("__debug__" : Str)) = false := by decide)
    (he : starEach (e :: es) X.env = (false, eval e X.env) :: starEach es X.env := by rfl) (hpl : (backTo pos (starEach es X.env)).any (·.1) = false := by rfl) : PPx X (.Call (.Name x pn) (e :: es) [] pos) (pCall o q) :=
  (pe_callTy hc hg hm hv ha hn hdb he hpl).weak fun σ H Q h => liftA_cb hd h
theorem f_bi (hc : CallR X (.builtin id) r) (hd : OpB X.K r o) (hg : Gl X x) (hm : X.mg x = none) (hv : bootBuiltins x = some (.builtin id)) (ha : PAx X (e :: es) q) (hn : x ≠ "__name__" := by decide) (hdb : (x == ("__debug__" : Str)) = false := by decide)
    (he : starEach (e :: es) X.env = (false, eval e X.env) :: starEach es X.env := by rfl) (hpl : (backTo pos (starEach es X.env)).any (·.1) = false := by rfl) : PFx X (.Call (.Name x pn) (e :: es) [] pos) (pCall o q) :=
  (pe_callB hc hg hm hv ha hn hdb he hpl).weak fun σ H Q h => liftB_cb hd h
theorem f_ty (hc : CallR X (.type T) r) (hd : OpB X.K r o) (hg : Gl X x) (hm : X.mg x = none) (hv : bootBuiltins x = some (.type T)) (ha : PAx X (e :: es) q) (hn : x ≠ "__name__" := by decide) (hdb : (x == ("__debug__" : Str)) = false := by decide)
    (he : starEach (e :: es) X.env = (false, eval e X.env) :: starEach es X.env := by rfl) (hpl : (backTo pos (starEach es X.env)).any (·.1) = false := by rfl) : PFx X (.Call (.Name x pn) (e :: es) [] pos) (pCall o q) :=
  (pe_callTy hc hg hm hv ha hn hdb he hpl).weak fun σ H Q h => liftB_cb hd h
end
theorem rels1 {K : PySem.W.Frag} {H : Hp} {O : Addr → Prop} {d : D} {vs : List V} {F : List Addr} (h : Rels K H O [d] vs F) : ∃ v, vs = [v] ∧ Rel K H O d v F := by
  simp only [Rels] at h
  obtain ⟨v, ws, F1, F2, rfl, h1, ⟨rfl, rfl⟩, rfl⟩ := h
  exact ⟨v, rfl, by simpa using h1⟩
theorem rels2 {K : PySem.W.Frag} {H : Hp} {O : Addr → Prop} {d d' : D} {vs : List V} {F : List Addr} (h : Rels K H O [d, d'] vs F) : ∃ v v' F1 F2, vs = [v, v'] ∧ Rel K H O d v F1 ∧ Rel K H O d' v' F2 ∧ F = F1 ++ F2 := by
  simp only [Rels] at h
  obtain ⟨v, ws, F1, F2, rfl, h1, ⟨v', ws', F3, F4, rfl, h2, ⟨rfl, rfl⟩, rfl⟩, rfl⟩ := h
  exact ⟨v, v', F1, F3, rfl, h1, h2, by simp⟩
def D.ints? : List D → Option (List Int)
  | [] => some []
  | .int i :: ds => (D.ints? ds).bind fun is => some (i :: is)
  | _ => none
def D.bls? : List D → Option (List Bool)
  | [] => some []
  | .bl i :: ds => (D.bls? ds).bind fun is => some (i :: is)
  | _ => none
theorem rels_ints {K : PySem.W.Frag} {H : Hp} {O : Addr → Prop} : ∀ {ds : List D} {vs : List V} {F : List Addr} {is : List Int}, Rels K H O ds vs F → D.ints? ds = some is → vs = is.map V.int ∧ ds = is.map D.int
  | [], vs, F, is, h, e => by
    simp only [Rels] at h
    cases e
    exact ⟨h.1, rfl⟩
  | d :: ds, vs, F, is, h, e => by
    cases d with
    | int i =>
      obtain ⟨js, e1, e2⟩ := bind2 (γ := Unit) (show (D.ints? ds).bind _ = some is from e)
      cases e2
      simp only [Rels] at h
      obtain ⟨v, ws, F1, F2, rfl, h1, h2, _⟩ := h
      obtain ⟨z1, z2⟩ := rels_ints h2 e1
      rw [(rel_int h1).1, z1, z2]
      exact ⟨rfl, rfl⟩
    | _ => cases e
theorem rels_bls {K : PySem.W.Frag} {H : Hp} {O : Addr → Prop} : ∀ {ds : List D} {vs : List V} {F : List Addr} {is : List Bool}, Rels K H O ds vs F → D.bls? ds = some is → vs = is.map V.bl
  | [], vs, F, is, h, e => by
    simp only [Rels] at h
    cases e
    exact h.1
  | d :: ds, vs, F, is, h, e => by
    cases d with
    | bl i =>
      obtain ⟨js, e1, e2⟩ := bind2 (γ := Unit) (show (D.bls? ds).bind _ = some is from e)
      cases e2
      simp only [Rels] at h
      obtain ⟨v, ws, F1, F2, rfl, h1, h2, _⟩ := h
      rw [(rel_bl h1).1, rels_bls h2 e1]
      exact rfl
    | _ => cases e
theorem rels_of_ints {K : PySem.W.Frag} {H : Hp} {O : Addr → Prop} : ∀ (is : List Int), Rels K H O (is.map D.int) (is.map V.int) []
  | [] => Rels.nil
  | i :: is => by simpa using Rels.cons (F := []) (G := []) (mk_int i) (rels_of_ints is)
theorem D.ints_map : ∀ is : List Int, D.ints? (is.map D.int) = some is
  | [] => rfl
  | i :: is => by
    show (D.ints? (is.map D.int)).bind _ = _
    rw [D.ints_map is]; rfl
theorem D.bls_map : ∀ is : List Bool, D.bls? (is.map D.bl) = some is
  | [] => rfl
  | i :: is => by
    show (D.bls? (is.map D.bl)).bind _ = _
    rw [D.bls_map is]; rfl
/-- len -/
def oLen : List D → Option D
  | [.tup ds] => some (.int ds.length)
  | [.lst _ ds] => some (.int ds.length)
  | [.scr ds] => some (.int ds.length)
  | [.dk true ks _] => some (.int ks.length)
  | [.str x] => if x.length ≤ 16777216 then some (.int x.length) else none
  | _ => none
abbrev rLenA (K : PySem.W.Frag) : List V → Hp → VK → Prop := fun xs H Q => (∃ p ys, xs = [.ref p] ∧ (SqL K H p ys ∨ SqT K H p ys) ∧ Q (.int ys.length) H) ∨ (∃ a kvs, xs = [V.ref a] ∧ H a = some (.dK kvs) ∧ Q (.int kvs.length) H) ∨ ∃ z, xs = [.str z] ∧ z.length ≤ sizeLine ∧ Q (.int z.length) H
theorem opA_len {K : PySem.W.Frag} : OpA K (rLenA K) oLen := by
  intro H O ds vs F d Q r e k
  unfold oLen at e
  split at e
  · cases e
    obtain ⟨v, rfl, r1⟩ := rels1 r
    obtain ⟨a, ws, rfl, hq, hr⟩ := rel_tup r1
    refine .inl ⟨a, ws, rfl, .inr hq, ?_⟩
    rw [hr.len]
    exact k _ H [] (Same.refl _) (mk_int _) fun _ z => absurd z List.not_mem_nil
  · cases e
    obtain ⟨v, rfl, r1⟩ := rels1 r
    obtain ⟨a, ws, G, rfl, hq, hr, _⟩ := rel_lst r1
    refine .inl ⟨a, ws, rfl, .inl hq, ?_⟩
    rw [hr.len]
    exact k _ H [] (Same.refl _) (mk_int _) fun _ z => absurd z List.not_mem_nil
  · cases e
    obtain ⟨v, rfl, r1⟩ := rels1 r
    simp only [Rel] at r1
    obtain ⟨a, ws, rfl, hq, hr, _⟩ := r1
    refine .inl ⟨a, ws, rfl, .inl (sql_scr hq), ?_⟩
    rw [hr.len]
    exact k _ H [] (Same.refl _) (mk_int _) fun _ z => absurd z List.not_mem_nil
  · cases e
    obtain ⟨v, rfl, r1⟩ := rels1 r
    simp only [Rel] at r1
    obtain ⟨a, kvs, G, rfl, hq, rfl, _⟩ := r1
    refine .inr (.inl ⟨a, kvs, rfl, hq, ?_⟩)
    have z := k _ H [] (Same.refl _) (mk_int _) fun _ z => absurd z List.not_mem_nil
    rw [List.length_map] at z
    exact z
  · split at e
    · cases e
      obtain ⟨v, rfl, r1⟩ := rels1 r
      rw [(rel_str r1).1]
      exact .inr (.inr ⟨_, rfl, by rw [sizeLine_eq]; assumption, k _ H [] (Same.refl _) (mk_int _) fun _ z => absurd z List.not_mem_nil⟩)
    · cases e
  · cases e
theorem call_lenA : CallR X (.builtin "len") (rLenA X.K) := call_len_seq.or (call_lenD.or call_len_str)
/-- abs, max, min, int -/
def oAbs : List D → Option D
  | [.int i] => some (.int (if i < 0 then -i else i))
  | _ => none
def oMax2 : List D → Option D
  | [.int i, .int j] => some (.int (if j > i then j else i))
  | _ => none
def oMin2 : List D → Option D
  | [.int i, .int j] => some (.int (if j < i then j else i))
  | _ => none
def oInt : List D → Option D
  | [.int i] => some (.int i)
  | [.bl k] => some (.int (if k then 1 else 0))
  | _ => none
theorem opA_abs {K : PySem.W.Frag} : OpA K (fun xs H Q => ∃ i, xs = [.int i] ∧ Q (.int (if i < 0 then -i else i)) H) oAbs := by
  intro H O ds vs F d Q r e k
  unfold oAbs at e
  split at e
  · cases e
    obtain ⟨v, rfl, r1⟩ := rels1 r
    rw [(rel_int r1).1]
    exact ⟨_, rfl, k _ H [] (Same.refl _) (mk_int _) fun _ z => absurd z List.not_mem_nil⟩
  · cases e
theorem opA_max2 {K : PySem.W.Frag} : OpA K (fun xs H Q => ∃ i j, xs = [.int i, .int j] ∧ Q (.int (if j > i then j else i)) H) oMax2 := by
  intro H O ds vs F d Q r e k
  unfold oMax2 at e
  split at e
  · cases e
    obtain ⟨v, v', F1, F2, rfl, r1, r2, _⟩ := rels2 r
    rw [(rel_int r1).1, (rel_int r2).1]
    exact ⟨_, _, rfl, k _ H [] (Same.refl _) (mk_int _) fun _ z => absurd z List.not_mem_nil⟩
  · cases e
theorem opA_min2 {K : PySem.W.Frag} : OpA K (fun xs H Q => ∃ i j, xs = [.int i, .int j] ∧ Q (.int (if j < i then j else i)) H) oMin2 := by
  intro H O ds vs F d Q r e k
  unfold oMin2 at e
  split at e
  · cases e
    obtain ⟨v, v', F1, F2, rfl, r1, r2, _⟩ := rels2 r
    rw [(rel_int r1).1, (rel_int r2).1]
    exact ⟨_, _, rfl, k _ H [] (Same.refl _) (mk_int _) fun _ z => absurd z List.not_mem_nil⟩
  · cases e
theorem opA_int {K : PySem.W.Frag} : OpA K (fun xs H Q => (∃ i, xs = [.int i] ∧ Q (.int i) H) ∨ ∃ k, xs = [.bl k] ∧ Q (.int (if k then 1 else 0)) H) oInt := by
  intro H O ds vs F d Q r e k
  unfold oInt at e
  split at e
  · cases e
    obtain ⟨v, rfl, r1⟩ := rels1 r
    rw [(rel_int r1).1]
    exact .inl ⟨_, rfl, k _ H [] (Same.refl _) (mk_int _) fun _ z => absurd z List.not_mem_nil⟩
  · cases e
    obtain ⟨v, rfl, r1⟩ := rels1 r
    rw [(rel_bl r1).1]
    exact .inr ⟨_, rfl, k _ H [] (Same.refl _) (mk_int _) fun _ z => absurd z List.not_mem_nil⟩
  · cases e
/-- sum, max, min of a list of ints; any, all of a list of bools -/
def oSum : List D → Option D
  | [.lst _ ds] => (D.ints? ds).bind fun is => some (.int is.sum)
  | _ => none
def oAny : List D → Option D
  | [.lst _ ds] => (D.bls? ds).bind fun is => some (.bl (is.any id))
  | _ => none
def oAll : List D → Option D
  | [.lst _ ds] => (D.bls? ds).bind fun is => some (.bl (is.all id))
  | _ => none
def mxL : List Int → Int
  | [] => 0
  | [i] => i
  | i :: is => max i (mxL is)
def mnL : List Int → Int
  | [] => 0
  | [i] => i
  | i :: is => min i (mnL is)
theorem mxL_le : ∀ {is : List Int} {i : Int}, i ∈ is → i ≤ mxL is
  | [j], i, h => by
    have : i = j := by simpa using h
    subst this; exact Int.le_refl _
  | j :: k :: is, i, h => by
    show i ≤ max j (mxL (k :: is))
    rcases List.mem_cons.mp h with rfl | h
    · exact Int.le_max_left _ _
    · exact Int.le_trans (mxL_le h) (Int.le_max_right _ _)
theorem mxL_mem : ∀ {is : List Int}, is ≠ [] → mxL is ∈ is
  | [], h => absurd rfl h
  | [j], _ => by simp [mxL]
  | j :: k :: is, _ => by
    have z := mxL_mem (is := k :: is) (by simp)
    show max j (mxL (k :: is)) ∈ _
    rcases Int.max_def j (mxL (k :: is)) ▸ (by split <;> simp : (if j ≤ mxL (k :: is) then mxL (k :: is) else j) = mxL (k :: is) ∨ (if j ≤ mxL (k :: is) then mxL (k :: is) else j) = j) with e | e
    · rw [e]; exact List.mem_cons_of_mem _ z
    · rw [e]; exact List.mem_cons_self
theorem mnL_le : ∀ {is : List Int} {i : Int}, i ∈ is → mnL is ≤ i
  | [j], i, h => by
    have : i = j := by simpa using h
    subst this; exact Int.le_refl _
  | j :: k :: is, i, h => by
    show min j (mnL (k :: is)) ≤ i
    rcases List.mem_cons.mp h with rfl | h
    · exact Int.min_le_left _ _
    · exact Int.le_trans (Int.min_le_right _ _) (mnL_le h)
theorem mnL_mem : ∀ {is : List Int}, is ≠ [] → mnL is ∈ is
  | [], h => absurd rfl h
  | [j], _ => by simp [mnL]
  | j :: k :: is, _ => by
    have z := mnL_mem (is := k :: is) (by simp)
    show min j (mnL (k :: is)) ∈ _
    rcases Int.min_def j (mnL (k :: is)) ▸ (by split <;> simp : (if j ≤ mnL (k :: is) then j else mnL (k :: is)) = mnL (k :: is) ∨ (if j ≤ mnL (k :: is) then j else mnL (k :: is)) = j) with e | e
    · rw [e]; exact List.mem_cons_of_mem _ z
    · rw [e]; exact List.mem_cons_self
def oMaxL : List D → Option D
  | [.lst _ ds] => (D.ints? ds).bind fun is => if is.isEmpty = true then none else some (.int (mxL is))
  | _ => none
def oMinL : List D → Option D
  | [.lst _ ds] => (D.ints? ds).bind fun is => if is.isEmpty = true then none else some (.int (mnL is))
  | _ => none
theorem opA_sum {K : PySem.W.Frag} : OpA K (rSum K) oSum := by
  intro H O ds vs F d Q r e k
  unfold oSum at e
  split at e
  · obtain ⟨is, e1, e⟩ := bind2 (γ := Unit) e
    cases e
    obtain ⟨v, rfl, r1⟩ := rels1 r
    obtain ⟨a, ws, G, rfl, hq, hr, _⟩ := rel_lst r1
    obtain ⟨rfl, _⟩ := rels_ints hr e1
    exact ⟨a, is, rfl, hq, k _ H [] (Same.refl _) (mk_int _) fun _ z => absurd z List.not_mem_nil⟩
  · cases e
theorem opA_any {K : PySem.W.Frag} : OpA K (rAny K) oAny := by
  intro H O ds vs F d Q r e k
  unfold oAny at e
  split at e
  · obtain ⟨is, e1, e⟩ := bind2 (γ := Unit) e
    cases e
    obtain ⟨v, rfl, r1⟩ := rels1 r
    obtain ⟨a, ws, G, rfl, hq, hr, _⟩ := rel_lst r1
    rw [rels_bls hr e1] at hq
    exact ⟨a, is, rfl, hq, k _ H [] (Same.refl _) (mk_bl _) fun _ z => absurd z List.not_mem_nil⟩
  · cases e
theorem opA_all {K : PySem.W.Frag} : OpA K (rAll K) oAll := by
  intro H O ds vs F d Q r e k
  unfold oAll at e
  split at e
  · obtain ⟨is, e1, e⟩ := bind2 (γ := Unit) e
    cases e
    obtain ⟨v, rfl, r1⟩ := rels1 r
    obtain ⟨a, ws, G, rfl, hq, hr, _⟩ := rel_lst r1
    rw [rels_bls hr e1] at hq
    exact ⟨a, is, rfl, hq, k _ H [] (Same.refl _) (mk_bl _) fun _ z => absurd z List.not_mem_nil⟩
  · cases e
theorem opA_maxL {K : PySem.W.Frag} : OpA K (rMax K) oMaxL := by
  intro H O ds vs F d Q r e k
  unfold oMaxL at e
  split at e
  · obtain ⟨is, e1, e⟩ := bind2 (γ := Unit) e
    split at e
    · cases e
    · rename_i hne
      cases e
      obtain ⟨v, rfl, r1⟩ := rels1 r
      obtain ⟨a, ws, G, rfl, hq, hr, _⟩ := rel_lst r1
      obtain ⟨rfl, _⟩ := rels_ints hr e1
      have hn : is ≠ [] := fun z => hne (by rw [z]; rfl)
      refine ⟨a, is, rfl, hq, List.length_pos_iff.mpr hn, fun m h1 h2 => ?_⟩
      have e : m = mxL is := Int.le_antisymm (mxL_le h1) (h2 _ (mxL_mem hn))
      rw [e]
      exact k _ H [] (Same.refl _) (mk_int _) fun _ z => absurd z List.not_mem_nil
  · cases e
theorem opA_minL {K : PySem.W.Frag} : OpA K (rMin K) oMinL := by
  intro H O ds vs F d Q r e k
  unfold oMinL at e
  split at e
  · obtain ⟨is, e1, e⟩ := bind2 (γ := Unit) e
    split at e
    · cases e
    · rename_i hne
      cases e
      obtain ⟨v, rfl, r1⟩ := rels1 r
      obtain ⟨a, ws, G, rfl, hq, hr, _⟩ := rel_lst r1
      obtain ⟨rfl, _⟩ := rels_ints hr e1
      have hn : is ≠ [] := fun z => hne (by rw [z]; rfl)
      refine ⟨a, is, rfl, hq, List.length_pos_iff.mpr hn, fun m h1 h2 => ?_⟩
      have e : m = mnL is := Int.le_antisymm (h2 _ (mnL_mem hn)) (mnL_le h1)
      rw [e]
      exact k _ H [] (Same.refl _) (mk_int _) fun _ z => absurd z List.not_mem_nil
  · cases e
/-- list(x), tuple(x) -/
def oList : List D → Option D
  | [d] => d.seq?.bind fun ds => if D.imms ds = true then some (.lst true ds) else none
  | _ => none
def oTuple : List D → Option D
  | [d] => d.seq?.bind fun ds => if D.imms ds = true then some (.tup ds) else none
  | _ => none
theorem opB_list {K : PySem.W.Frag} : OpB K (fun xs H Q => ∃ p ys, xs = [.ref p] ∧ (SqL K H p ys ∨ SqT K H p ys) ∧ ∀ l, H l = none → Q (.ref l) (upd H l (.lst ys))) oList := by
  intro H O ds vs F d Q r e k
  unfold oList at e
  split at e
  · obtain ⟨is, e1, e⟩ := bind2 (γ := Unit) e
    split at e
    · rename_i hi
      cases e
      obtain ⟨v, rfl, r1⟩ := rels1 r
      obtain ⟨a, ws, G, rfl, hq, hr, _⟩ := rel_seq r1 e1
      have z := hr.imm hi
      subst z
      exact ⟨a, ws, rfl, hq, fun l hl => k _ _ [l] (same_upd hl) (mk_lst upd_same (hr.same (same_upd hl))) (new_cons New.nil hr (Same.refl _) hl)⟩
    · cases e
  · cases e
theorem opB_tuple {K : PySem.W.Frag} : OpB K (fun xs H Q => ∃ p ys, xs = [.ref p] ∧ ((SqL K H p ys ∧ ∀ l, H l = none → Q (.ref l) (upd H l (.tup ys))) ∨ (SqT K H p ys ∧ Q (.ref p) H))) oTuple := by
  intro H O ds vs F d Q r e k
  unfold oTuple at e
  split at e
  · obtain ⟨is, e1, e⟩ := bind2 (γ := Unit) e
    split at e
    · rename_i hi
      cases e
      obtain ⟨v, rfl, r1⟩ := rels1 r
      obtain ⟨a, ws, G, rfl, hq, hr, _⟩ := rel_seq r1 e1
      have z := hr.imm hi
      subst z
      refine ⟨a, ws, rfl, ?_⟩
      rcases hq with hq | hq
      · exact .inl ⟨hq, fun l hl => k _ _ [] (same_upd hl) (mk_tup (SqT.of upd_same) (hr.same (same_upd hl))) New.nil⟩
      · exact .inr ⟨hq, k _ _ [] (Same.refl _) (mk_tup hq hr) New.nil⟩
    · cases e
  · cases e
/-! ### isinstance -/
def D.tyN : D → String
  | .non => "NoneType" | .bl _ => "bool" | .int _ => "int" | .str _ => "str" | .tup _ => "tuple" | .lst _ _ => "list" | .scr _ => "list" | .dk _ _ _ => "dict" | .dt _ _ _ => "dict"
theorem rel_tyX {K : PySem.W.Frag} {H : Hp} {O : Addr → Prop} {d : D} {v : V} {F : List Addr} (h : Rel K H O d v F) (hd : d.tyN ≠ "dict") : TyX K H v (.type d.tyN) := by
  cases d with
  | non => rw [(rel_non h).1]; exact .base .non
  | bl b => rw [(rel_bl h).1]; exact .base (.bl b)
  | int i => rw [(rel_int h).1]; exact .base (.int i)
  | str x => rw [(rel_str h).1]; exact .base (.str x)
  | tup ds =>
    obtain ⟨a, vs, rfl, hq, _⟩ := rel_tup h
    rcases hq with (hq | ⟨o, hq⟩) | ⟨o, its, n, hk, hc, _⟩
    · exact .base (.tup hq)
    · exact .fTuple hq
    · exact .kTuple hk hc
  | lst o ds =>
    obtain ⟨a, vs, G, rfl, hq, _⟩ := rel_lst h
    rcases hq with (hq | ⟨o, hq⟩) | ⟨o, its, n, hk, hc, _⟩
    · exact .base (.lst hq)
    · exact .base (.frz hq)
    · exact .kList hk hc
  | scr ds =>
    simp only [Rel] at h
    obtain ⟨a, vs, rfl, hq, _⟩ := h
    rcases hq with ⟨o, hq⟩ | ⟨o, its, n, hk, hc, _⟩
    · exact .base (.frz hq)
    · exact .kList hk hc
  | _ => exact absurd rfl hd
def pIsi (T : String) (p : DS → Option D) : DS → Option D := fun τ => (p τ).bind fun d => if d.tyN = "dict" then none else (kitB d.tyN T).bind fun k => some (.bl k)
theorem p_isi {T : String} {xT : Str} {pT pn : Pos} (hg : Gl X "isinstance") (hm : X.mg "isinstance" = none) (ha : PPx X a p) (hgT : Gl X xT) (hmT : X.mg xT = none) (hvT : bootBuiltins xT = some (.type T)) (hn : xT ≠ "__name__" := by decide) (hdb : (xT == ("__debug__" : Str)) = false := by decide)
    (hs1 : starEach [a, .Name xT pT] X.env = (false, eval a X.env) :: starEach [.Name xT pT] X.env := by rfl) (hs2 : starEach [.Name xT pT] X.env = (false, eval (.Name xT pT) X.env) :: starEach [] X.env := by rfl)
    (hpl : (backTo pos (starEach [.Name xT pT] X.env)).any (·.1) = false := by rfl) :
    PPx X (.Call (.Name "isinstance" pn) [a, .Name xT pT] [] pos) (pIsi T p) :=
  (pe_callB call_isi hg hm (by decide +kernel) (pa_cons ha (pa_cons (pe_bltn (v := .ty T) hgT hmT hvT rfl hn hdb) pa_nil hs2) hs1) (by decide) (by decide) hs1 hpl).weak fun σ H Q ⟨τ, Fs, O, d, S, e, k⟩ => by
    obtain ⟨x, ex, e⟩ := bind2 (γ := Unit) e
    split at e
    · cases e
    · rename_i hd
      obtain ⟨y, ey, e⟩ := bind2 (γ := Unit) e
      cases e
      exact ⟨τ, Fs, O, x, S, ex, fun v H1 F s r n => ⟨v, .ty T, .type x.tyN, .type T, y, rfl, .ty T, rel_tyX r hd, kit_ty ey, k _ H1 [] s (mk_bl _) Old.nil⟩⟩
/-! ### x[i], x[lo:hi] -/
def oIx : D → D → Option D
  | d, .int i => d.seq?.bind fun ds => atI ds i
  | _, _ => none
theorem atI_rel {K : PySem.W.Frag} {H : Hp} {O : Addr → Prop} {ds : List D} {vs : List V} {F : List Addr} {i : Int} {d : D} (h : Rels K H O ds vs F) (e : atI ds i = some d) : ∃ v G, atI vs i = some v ∧ Rel K H O d v G ∧ ∀ a ∈ G, a ∈ F := by
  unfold atI at e ⊢
  rw [h.len]
  obtain ⟨j, e1, e2⟩ := bind2 (γ := Unit) e
  rw [e1]
  exact h.get e2
theorem op2_ix {K : PySem.W.Frag} : Op2 K (fun x y H Q => rIxL K x y H Q ∨ rIxT K x y H Q) oIx := by
  intro H O dx dy d x y Fx Fy Q rx ry e k
  unfold oIx at e
  split at e
  · obtain ⟨is, e1, e⟩ := bind2 (γ := Unit) e
    obtain ⟨a, ws, G, rfl, hq, hr, hs, _⟩ := rel_seq rx e1
    obtain ⟨v, G', e2, r, hG⟩ := atI_rel hr e
    have q := k v H G' (Same.refl _) r fun b hb => .inl (hs b (hG b hb))
    rcases hq with hq | hq
    · exact .inl ⟨a, ws, _, v, rfl, (rel_int ry).1, hq, e2, q⟩
    · exact .inr ⟨a, ws, _, v, rfl, (rel_int ry).1, hq, e2, q⟩
  · cases e
theorem p_ix (ha : PPx X a pa) (hb : PPx X b pb) (hs : PlainIx b := by exact fun _ _ => rfl) : PPx X (.Subscript a b pos) (pOp oIx pa pb) := (pe_ix (ix_list.or ix_tup) ha hb hs).weak fun σ H Q h => lift2 op2_ix h
def liftO (K : PySem.W.Frag) (po : DS → Option (Option Int)) : TO := fun σ H Q => ∃ τ Fs O d, SRel K H O σ τ Fs ∧ po τ = some d ∧ ∀ H', Same H H' → Q d H'
theorem o_none : PO X none (liftO X.K fun _ => some none) := ⟨fun pins s σ H Q I ⟨τ, Fs, O, d, S, e, k⟩ => po_none.run pins s σ H Q I (by cases e; exact k H (Same.refl _))⟩
def poS (p : DS → Option D) : DS → Option (Option Int) := fun τ => (p τ).bind fun d => match d with | .int i => some (some i) | _ => none
theorem o_some (h : PPx X e p) : PO X (some e) (liftO X.K (poS p)) := ⟨fun pins s σ H Q I ⟨τ, Fs, O, d, S, e, k⟩ => (po_some h).run pins s σ H Q I (by
  obtain ⟨x, ex, e⟩ := bind2 (γ := Unit) e
  cases x with
  | int i =>
    cases e
    exact ⟨τ, Fs, O, _, S, ex, fun v H' F s r n => ⟨i, (rel_int r).1, k H' s⟩⟩
  | _ => cases e)⟩
def cutD (xs : List D) (lo hi : Option Int) : List D := (xs.drop (HT.sIx xs.length 0 lo)).take (HT.sIx xs.length xs.length hi - HT.sIx xs.length 0 lo)
def oCut : D → Option Int → Option Int → Option D
  | .tup ds, lo, hi => if D.imms ds = true then some (.tup (cutD ds lo hi)) else none
  | .lst _ ds, lo, hi => if D.imms ds = true then some (.lst true (cutD ds lo hi)) else none
  | .scr ds, lo, hi => if D.imms ds = true then some (.lst true (cutD ds lo hi)) else none
  | _, _, _ => none
def pCut (p : DS → Option D) (l h : DS → Option (Option Int)) : DS → Option D := fun τ => (p τ).bind fun d => (l τ).bind fun lo => (h τ).bind fun hi => oCut d lo hi
theorem rels_cut {K : PySem.W.Frag} {H : Hp} {O : Addr → Prop} {ds : List D} {vs : List V} {lo hi : Option Int} (h : Rels K H O ds vs []) : Rels K H O (cutD ds lo hi) (cutV vs lo hi) [] := by
  obtain ⟨G, h1, g1, _⟩ := h.dropN (HT.sIx ds.length 0 lo)
  obtain ⟨G', h2, g2, _⟩ := h1.takeN (HT.sIx ds.length ds.length hi - HT.sIx ds.length 0 lo)
  have z : G' = [] := by
    cases G' with
    | nil => rfl
    | cons x r => exact absurd (g1 x (g2 x List.mem_cons_self)) List.not_mem_nil
  subst z
  unfold cutD cutV
  rw [h.len]
  exact h2
theorem cut_all {xs : List D} {lo hi : Option Int} (h : HT.sIx xs.length 0 lo = 0 ∧ HT.sIx xs.length xs.length hi = xs.length) : cutD xs lo hi = xs := by
  unfold cutD
  rw [h.1, h.2]
  simp
theorem f_cut {lo hi : Option Expr} {l h : DS → Option (Option Int)} (he : PPx X e p) (hl : PO X lo (liftO X.K l)) (hh : PO X hi (liftO X.K h)) : PFx X (.Subscript e (.Slice lo hi none p2) pos) (pCut p l h) :=
  (pe_slice (sl_list.or sl_tupA) he hl hh).weak fun σ H Q ⟨τ, Fs, O, d, S, e, k⟩ => by
    obtain ⟨x, ex, e⟩ := bind2 (γ := Unit) e
    obtain ⟨y, ey, e⟩ := bind2 (γ := Unit) e
    obtain ⟨z, ez, e⟩ := bind2 (γ := Unit) e
    refine ⟨τ, Fs, O, x, S, ex, fun v1 H1 F1 s1 r1 n1 => ⟨τ, Fs, O, y, S.same s1, ey, fun H2 s2 => ⟨τ, Fs, O, z, S.same (s1.trans s2), ez, fun H3 s3 => ?_⟩⟩⟩
    have r3 := r1.same (s2.trans s3)
    have s13 := (s1.trans s2).trans s3
    cases x with
    | tup ds =>
      have e : (if D.imms ds = true then some (D.tup (cutD ds y z)) else none) = some d := e
      split at e
      · rename_i hi
        cases e
        obtain ⟨a, ws, rfl, hq, hr⟩ := rel_tup r3
        have w := hr.imm hi
        subst w
        refine .inr ⟨a, ws, rfl, hq, fun hw => ?_, fun hw p hp => ?_⟩
        · rw [hr.len] at hw
          have q := k (.ref a) H3 [] s13 (mk_tup hq (by rw [cut_all hw]; exact hr)) New.nil
          exact q
        · exact k _ _ [] (s13.trans (same_upd hp)) (mk_tup (SqT.of upd_same) ((rels_cut hr).same (same_upd hp))) New.nil
      · cases e
    | lst o ds =>
      have e : (if D.imms ds = true then some (D.lst true (cutD ds y z)) else none) = some d := e
      split at e
      · rename_i hi
        cases e
        obtain ⟨a, ws, G, rfl, hq, hr, _⟩ := rel_lst r3
        have w := hr.imm hi
        subst w
        exact .inl ⟨a, ws, rfl, hq, fun p hp => k _ _ [p] (s13.trans (same_upd hp)) (mk_lst upd_same ((rels_cut hr).same (same_upd hp))) (New.up (new_cons New.nil hr (Same.refl _) hp) s13)⟩
      · cases e
    | scr ds =>
      have e : (if D.imms ds = true then some (D.lst true (cutD ds y z)) else none) = some d := e
      split at e
      · rename_i hi
        cases e
        simp only [Rel] at r3
        obtain ⟨a, ws, rfl, hq, hr, _⟩ := r3
        exact .inl ⟨a, ws, rfl, sql_scr hq, fun p hp => k _ _ [p] (s13.trans (same_upd hp)) (mk_lst upd_same ((rels_cut hr).same (same_upd hp))) (New.up (new_cons New.nil hr (Same.refl _) hp) s13)⟩
      · cases e
    | _ => cases e
/-! ### + of ints and tuples, of lists -/
def oAdd : D → D → Option D
  | .int i, .int j => some (.int (i + j))
  | .tup xs, .tup ys => if xs.length + ys.length ≤ 16777216 then some (.tup (xs ++ ys)) else none
  | _, _ => none
theorem op2_add {K : PySem.W.Frag} : Op2 K (fun x y H Q => rI0 (fun i j => .int (i + j)) x y H Q ∨ rCatA K x y H Q) oAdd := by
  intro H O dx dy d x y Fx Fy Q rx ry e k
  unfold oAdd at e
  split at e
  · cases e
    exact .inl ⟨_, _, (rel_int rx).1, (rel_int ry).1, k _ H [] (Same.refl _) (mk_int _) fun _ z => absurd z List.not_mem_nil⟩
  · split at e
    · rename_i hl
      cases e
      obtain ⟨a, vs, rfl, hq, hr⟩ := rel_tup rx
      obtain ⟨b, ws, rfl, hq', hr'⟩ := rel_tup ry
      have hA := hr.app hr'
      refine .inr ⟨a, b, vs, ws, rfl, rfl, hq, hq', by rw [hr.len, hr'.len, sizeLine_eq]; exact hl, fun z => ?_, fun _ z => ?_, fun _ _ p hp => ?_⟩
      · subst z
        exact k _ H _ (Same.refl _) (mk_tup hq' hA) fun c hc => (List.mem_append.mp hc).elim .inl fun z => .inr (.inl z)
      · subst z
        rw [List.append_nil] at hA
        exact k _ H _ (Same.refl _) (mk_tup hq hA) fun c hc => (List.mem_append.mp hc).elim .inl fun z => .inr (.inl z)
      · exact k _ _ _ (same_upd hp) (mk_tup (SqT.of upd_same) (hA.same (same_upd hp))) fun c hc => (List.mem_append.mp hc).elim .inl fun z => .inr (.inl z)
    · cases e
  · cases e
theorem p_add (ha : PPx X a pa) (hb : PPx X b pb) : PPx X (.BinOp a .Add b pos) (pOp oAdd pa pb) := pp_op (Or2 op_add op_catA) op2_add ha hb
def oUsub : D → Option D
  | .int i => some (.int (-i))
  | _ => none
theorem p_neg (ha : PPx X a pa) : PPx X (.UnaryOp .USub a pos) (fun τ => (pa τ).bind oUsub) := (pe_un un_neg ha).weak fun σ H Q ⟨τ, Fs, O, d, S, e, k⟩ => by
  obtain ⟨x, ex, e⟩ := bind2 (γ := Unit) e
  cases x with
  | int i =>
    cases e
    exact ⟨τ, Fs, O, _, S, ex, fun v H1 F s r n => ⟨i, (rel_int r).1, k _ H1 [] s (mk_int _) Old.nil⟩⟩
  | _ => cases e
end
end DL
set_option Elab.async false
set_option linter.all false
set_option maxRecDepth 100000
set_option maxHeartbeats 2000000
/-! What is walked; comprehensions; calls of defs that change nothing. -/
namespace DL
open PySem PySem.Spec PyProof.Rows L2
/-! ### enumerate of a tuple -/
open Sem (wp) in
open AutoSeq1 (wpAny_loadPart') in
theorem meets_enumT (t : Addr) (items : Array Value) (n : Nat) (dct : Option Addr) (sl : Array (Option Value)) :
    Meets (Builtin.«enumerate.__new__» ⟨[.type "enumerate", .ref t], []⟩) (fun _ R s => s.heap.get? t = some { cls := .type "tuple", dict := dct, data := .seq items n, slots := sl } ∧
      R (.ok (.ret (.ref (s.heap.push { cls := .type "tuple_iterator", data := .fields #[.ref t, .int 0 0] }).objs.size)))
        { s with heap := (s.heap.push { cls := .type "tuple_iterator", data := .fields #[.ref t, .int 0 0] }).push { cls := .type "enumerate", data := .fields #[.none, .bool false, .ref s.heap.objs.size, rawInt 0, .none, .none] } }) :=
  .of_wp fun prog w A R ⟨hp, g, d, tk, os⟩ ⟨hl, h⟩ => by
    have hsub := sub_enumerate
    have hT : Heap.IsTuple (Shared.heap ⟨hp, g, d, tk, os⟩) t items := ⟨_, hl, rfl, n, rfl⟩
    wp_walk using wpAny_loadPart' hl
    refine wpAny_stack_any fun st' => wpAny_pure ?_
    split
    · rename_i c _ _ _ _ _
      cases (c == Value.type "enumerate") <;> (wp_walk using wpAny_loadPart' hl, wpAny_pyIter_tuple hT; exact ⟨_, rfl, h⟩)
    · (wp_walk using wpAny_loadPart' hl, wpAny_pyIter_tuple hT; exact ⟨_, rfl, h⟩)
theorem call_enumT {prog : Program} {w : World} {A : Around} {E : Value → Shared → Prop} {s : Shared} {t : Addr} {items : Array Value} {Q : Value → Shared → Prop} (hT : s.heap.IsTuple t items)
    (h : ∀ h', IsEnum h' (s.heap.objs.size + 1) s.heap.objs.size 0 .none → h'.IsTupleIter s.heap.objs.size t 0 → h'.objs.size = s.heap.objs.size + 2 →
      (∀ b o, s.heap.get? b = some o → h'.get? b = some o) → Q (.ref (s.heap.objs.size + 1)) { s with heap := h' }) :
    wpAny (model prog w) A (call (.type "enumerate") [.ref t]) Q E s := by
  obtain ⟨⟨c, dct, dt, sl⟩, hl, hc, n, hd⟩ := hT
  obtain rfl : c = .type "tuple" := hc
  obtain rfl : dt = .seq items n := hd
  refine callType_new F.called_enumerate (by decide) (F.typeCall_enumerate_1 _) (F.newCall_enumerate_1 _) (fun obj => F.args_object_init_2 obj _) F.entry_enumerate_new (meets_enumT t items n dct sl) ⟨hl, ?_⟩
  have hz : (s.heap.push { cls := .type "tuple_iterator", data := .fields #[.ref t, .int 0 0] }).objs.size = s.heap.objs.size + 1 := Heap.size_push ..
  show _ ∧ _
  rw [hz]
  have he := Heap.get?_push_size (s.heap.push { cls := .type "tuple_iterator", data := .fields #[.ref t, .int 0 0] }) (o := { cls := .type "enumerate", data := .fields #[.none, .bool false, .ref s.heap.objs.size, rawInt 0, .none, .none] }) rfl
  rw [hz] at he
  exact ⟨⟨_, he, rfl⟩, h _ he ⟨_, Heap.get?_push_of_some _ (Heap.get?_push_size _ rfl), rfl, rfl⟩ (by rw [Heap.size_push, hz]) fun b o x => Heap.get?_push_of_some _ (Heap.get?_push_of_some _ x)⟩
/-- the tuple at a, counted, in new pairs -/
def IteT (K : PySem.W.Frag) (a : Addr) : It :=
  ⟨fun i H => ∃ (xs : List V) (x : V), SqT K H a xs ∧ xs[i]? = some x, fun i H v H' => ∃ T x, v = .ref T ∧ H T = none ∧ H' = upd H T (.tup [.int (i : Nat), x]) ∧ ∀ xs, SqT K H a xs → xs[i]? = some x, fun i H => ∃ xs : List V, SqT K H a xs ∧ xs.length ≤ i⟩
theorem turn_enumT {P : Program} {w : World} {K : PySem.W.Frag} {elts : List Expr} {kk : Nat} {tpos : Pos} (a e it : Addr) :
    Turn P w K (.Tuple elts kk tpos) (IteT K a) [e, it] e (fun i h => (∃ old, IsEnum h e it ((i : Nat) : Int) old) ∧ h.IsTupleIter it a i ∧ e ≠ it) where
  mem := List.mem_cons_self
  obj := fun i h ⟨⟨old, he⟩, ⟨o, ho, hc, hd⟩, _⟩ b hb => by
    rcases List.mem_cons.mp hb with z | z
    · rw [z]; exact ⟨_, he, fun v q => nomatch q⟩
    · exact ⟨o, by rw [List.mem_singleton.mp z]; exact ho, fun v q => by rw [hd] at q; cases q⟩
  keep := fun i h h' ⟨⟨old, he⟩, hi, hne⟩ k => ⟨⟨old, k e (by simp) _ he⟩, hi.at fun o q => k it (by simp) o q, hne⟩
  item := by
    intro X hP hw hK hc i pins s σ H E I hf ⟨⟨old, he⟩, ⟨hit, hne⟩⟩ ⟨xs, ⟨x, ⟨hq, hx⟩⟩⟩
    subst hP hw hK
    obtain ⟨its, rv, p, hz⟩ := I.tuple hq
    obtain ⟨u, hu, ru⟩ := rv.get hx
    have hel : e < s.heap.objs.size := Heap.lt_size he
    have hil : it < s.heap.objs.size := by obtain ⟨_, q, _⟩ := hit; exact Heap.lt_size q
    have nai : a ≠ it := fun z => by
      obtain ⟨o1, q1, c1, _⟩ := hit
      obtain ⟨o2, q2, c2, _⟩ := p
      rw [z, q1] at q2
      rw [← Option.some.inj q2, c1] at c2
      exact absurd c2 (by decide)
    have nae : e ∉ [it, a] := fun z => by
      rcases List.mem_cons.mp z with z | z
      · exact hne z
      · obtain ⟨o2, q2, c2, _⟩ := p
        rw [← List.mem_singleton.mp z, he] at q2
        rw [← Option.some.inj q2] at c2
        exact absurd (show Value.type "enumerate" = Value.type "tuple" from c2) (by decide)
    have DT := Draws.tuple (prog := X.prog) (w := X.w) (A := X.A.in1) (show X.A.in1.handled = none from I.ok.hd hc) it a nai its.toArray
    have hlt : i < its.toArray.size := by
      have q := (List.getElem?_eq_some_iff.mp hu).1
      simpa using q
    refine wpAny_pyNext_enum_itemD DT he ⟨hit, p⟩ hlt hne nae fun y h' tk hy ho hit' hT hsz hk => ?_
    have ey : y = u := by
      have q : its[i]? = some y := by simpa using hy
      rw [hu] at q
      exact (Option.some.inj q).symm
    subst ey
    refine ⟨_, rfl, wpAny_letOwnedTupleGo_enum (s := { s with heap := h', toks := tk + 1 }) ho fun h'' he' sb => ?_⟩
    have hT2 := (sb.2 _ (Nat.ne_of_gt hel)).trans hT
    have new : ObjOk X.prog X.w (upd H s.heap.objs.size (.tup [.int (i : Nat), x])) h'' s.heap.objs.size (.tup [.int (i : Nat), x]) := ⟨by show 2 ≤ sizeLine; decide, [.int i tk, y], .cons ⟨_, rfl⟩ (.cons ru .nil), ⟨_, hT2, rfl, _, rfl⟩⟩
    have I1 : Inv X pins σ (upd H s.heap.objs.size (.tup [.int (i : Nat), x])) { s with heap := h'', toks := tk + 1 } := I.turnedNew (ch := [e, it]) (fun b ob hb q => (sb.2 b (fun z => hb (by simp [z]))).trans (hk b ob (fun z => hb (by simp [z])) (fun z => hb (by simp [z])) q)) hf (Nat.le_refl _) new
    refine ⟨.ref s.heap.objs.size, _, I1, rfl, ⟨_, x, rfl, I.hok.fresh (Nat.le_refl _), rfl, fun ys hy' => by rw [I.tuple_inj hy' hq]; exact hx⟩, ⟨⟨y, by rw [show ((i + 1 : Nat) : Int) = (i : Int) + 1 by omega]; exact he'⟩, hit'.1.at fun o q => (sb.2 it (Ne.symm hne)).trans q, hne⟩, fun b hb => ?_⟩
    have hb' : b < s.heap.objs.size := by
      rcases List.mem_cons.mp hb with z | z
      · rw [z]; exact hel
      · rw [List.mem_singleton.mp z]; exact hil
    rw [upd_ne (Nat.ne_of_lt hb')]
    exact (hf b hb).1
  done := by
    intro X hP hw hK hc i pins s σ H E I hf ⟨⟨old, he⟩, ⟨hit, hne⟩⟩ ⟨xs, ⟨hq, hx⟩⟩
    subst hP hw hK
    obtain ⟨its, rv, p, hz⟩ := I.tuple hq
    have hl := rv.length
    obtain ⟨f0, f1, f2, f3, f4, f5⟩ := hf it (by simp)
    have hT : s.TypeIs (.ref e) "enumerate" := ⟨_, he, rfl⟩
    unfold pyNext
    refine wpAny_bind (wpAny_attempt (wpAny_callSpecial?_slot (name := Str.ofString "__next__") hT F.slot_enumerate_next (wpAny_call_entry F.slot_enumerate_next hT F.entry_enumerate_next ?_ (F.args_enumerate_next_1 _))))
    show wpAny _ _ (field (.ref e) 2 >>= _) _ _ _; refine wpAny_bind (wpAny_field he rfl (x := .ref it) rfl (wpAny_bind (wpAny_nextOf_tuple_end (show X.A.in1.handled = none from I.ok.hd hc) hit p (by simp; omega) fun h' x he' hx' => ?_)))
    obtain ⟨o, ho, hc'⟩ := hx'
    exact wpAny_bind (wpAny_isInstance (T := "StopIteration") (b := true) ⟨o, ho, hc'⟩ isSubtype_stop (wpAny_pure ⟨rfl, I.turned (t' := s.toks) (fun b o hb q => he' b o hb q) f0 f1 f3 f4 f5⟩))
  self := fun A i s Q E ⟨⟨_, he⟩, _⟩ h => wpAny_pyIter_enum he h
def iEnumT (K : PySem.W.Frag) (ta : TA) : TI := fun σ H R => ta σ H fun vs H1 => ∃ a xs, vs = [.ref a] ∧ SqT K H1 a xs ∧ R (IteT K a) H1
theorem pi_enumT {X : Cx} {e : Expr} {ta : TA} {p pos tpos : Pos} {elts : List Expr} {kk : Nat} (hg : Gl X "enumerate") (hm : X.mg "enumerate" = none) (ha : PA X [e] ta) (hs : starEach [e] X.env = [(false, eval e X.env)] := by rfl) : PI X (.Tuple elts kk tpos) (.Call (.Name "enumerate" p) [e] [] pos) (iEnumT X.K ta) := by
  refine ⟨fun pins s σ H R I h => Call_ (ld_blt I hg hm boot_enumerate (PyProof.Rows.callWith_type1 (thn (ha.run pos pins s σ H _ I h) fun us s1 ⟨vs, H1, I1, r1, a, xs, ex, hq, q⟩ => ?_) hs rfl))⟩
  subst ex
  cases r1 with
  | cons r rr =>
    cases rr
    cases r
    obtain ⟨its, rv, p', hz⟩ := I1.tuple hq
    refine call_enumT (show s1.heap.IsTuple a its.toArray from p') fun h' he hit hsz hk => wpAny_pyIter_enum he ?_
    refine ⟨s1.heap.objs.size + 1, [s1.heap.objs.size + 1, s1.heap.objs.size], _, _, H1, rfl, I1.kept (t' := s1.toks) hk, turn_enumT a (s1.heap.objs.size + 1) s1.heap.objs.size, ⟨⟨.none, he⟩, hit, Nat.succ_ne_self _⟩, fun b hb => ?_, q⟩
    have hle : s1.heap.objs.size ≤ b := by
      rcases List.mem_cons.mp hb with z | z
      · rw [z]; exact Nat.le_add_right _ _
      · rw [List.mem_singleton.mp z]; exact Nat.le_refl _
    exact I1.fpOk hle (I1.hok.fresh hle)
theorem walk_enumT {K : PySem.W.Frag} {a : Addr} {xs : List V} : Walk (IteT K a) xs.length (fun H => SqT K H a xs) (YPair (fun i => some (.int (i : Nat))) (fun i => xs[i]?)) := by
  refine ⟨fun i _ hi q => ⟨xs, xs[i], q, by simp [hi]⟩, fun _ q => ⟨xs, q, Nat.le_refl _⟩, fun i H v H' _ q ⟨T, x, h1, h2, h3, h4⟩ => ⟨T, .int (i : Nat), x, h1, h2, h3, rfl, h4 xs q⟩⟩
theorem walk_zipT {K : PySem.W.Frag} {a b : Addr} {xs ys : List V} {n : Nat} (hn : n = min xs.length ys.length) : Walk (RZ.ItzT K a b) n (fun H => SqT K H a xs ∧ SqT K H b ys) (YPair (fun i => xs[i]?) (fun i => ys[i]?)) := by
  subst hn
  refine ⟨fun i _ hi q => ?_, fun _ q => ⟨xs, ys, q.1, q.2, by omega⟩, fun i H v H' _ q ⟨T, x, z, h1, h2, h3, h4, h5⟩ => ⟨T, x, z, h1, h2, h3, h4 xs q.1, h5 ys q.2⟩⟩
  exact ⟨xs, ys, xs[i]'(by omega), ys[i]'(by omega), q.1, q.2, by simp [show i < xs.length by omega], by simp [show i < ys.length by omega]⟩
/-! ### what is walked, by data -/
def KeptO (O : Addr → Prop) (H H1 : Hp) : Prop := ∀ a o, H a = some o → (¬ Mut (some o) ∨ ¬ O a) → H1 a = some o
theorem KeptO.of_same {O : Addr → Prop} {H H1 : Hp} (s : Same H H1) : KeptO O H H1 := fun a o e _ => s a o e
/-- an iterator over ds, from the heap H on, as long as nothing else than what O owns is changed -/
structure Src (K : PySem.W.Frag) (O : Addr → Prop) (J : It) (ds : List D) (H : Hp) : Prop where
  ex : ∃ (G : Hp → Prop) (Y : Nat → Hp → V → Hp → Prop), (∀ H1, KeptO O H H1 → G H1) ∧ Walk J ds.length G Y ∧
    ∀ i H1 x H2, i < ds.length → KeptO O H H1 → Y i H1 x H2 → Same H1 H2 ∧ ∃ d, ds[i]? = some d ∧ ∀ O1 : Addr → Prop, (∀ a, O1 a → O a ∨ H a = none) → (∀ a, O1 a → H1 a ≠ none) → Rel K H2 O1 d x []
def liftI (K : PySem.W.Frag) (q : DS → Option (List D)) : TI := fun σ H R => ∃ τ Fs O ds, SRel K H O σ τ Fs ∧ q τ = some ds ∧ ∀ J H', Same H H' → Src K O J ds H' → R J H'
abbrev PIx (X : Cx) (tg e : Expr) (q : DS → Option (List D)) : Prop := PI X tg e (liftI X.K q)
theorem PI.or {X : Cx} {tg e : Expr} {w w' : TI} (h : PI X tg e w) (h' : PI X tg e w') : PI X tg e (fun σ H R => w σ H R ∨ w' σ H R) := ⟨fun pins s σ H R I q => q.elim (h.run pins s σ H R I) (h'.run pins s σ H R I)⟩
section
variable {K : PySem.W.Frag} {H H1 : Hp} {O O1 : Addr → Prop}
theorem rel_kept {d : D} {v : V} (h : Rel K H O d v []) (k : KeptO O H H1) (ho : ∀ a, O1 a → O a ∨ H a = none) : Rel K H1 O1 d v [] :=
  h.keep (fun a o e m => k a o e (.inl m)) (fun _ _ _ z => absurd z List.not_mem_nil) (fun a o e m => k a o e (.inr m)) ho
theorem rels_get0 {ds : List D} {vs : List V} {i : Nat} {x : V} (h : Rels K H O ds vs []) (e : vs[i]? = some x) : ∃ d, ds[i]? = some d ∧ Rel K H O d x [] := by
  have hi : i < ds.length := by
    rw [← h.len]
    exact (List.getElem?_eq_some_iff.mp e).1
  obtain ⟨v, G, e1, r, g⟩ := h.get (List.getElem?_eq_getElem hi)
  rw [e] at e1
  obtain rfl := Option.some.inj e1
  have z : G = [] := List.eq_nil_iff_forall_not_mem.mpr fun a ha => absurd (g a ha) List.not_mem_nil
  rw [z] at r
  exact ⟨_, List.getElem?_eq_getElem hi, r⟩
theorem sql_kept {a : Addr} {vs : List V} (h : SqL K H a vs) (ho : ∀ u, H a = some u → ¬ O a) (k : KeptO O H H1) : SqL K H1 a vs := by
  rcases h with (h | ⟨o, h⟩) | h
  · exact .inl (.inl (k _ _ h (.inr (ho _ h))))
  · exact .inl (.inr ⟨o, k _ _ h (.inl fun z => z)⟩)
  · exact .inr h
theorem sqt_kept {a : Addr} {vs : List V} (h : SqT K H a vs) (k : KeptO O H H1) : SqT K H1 a vs := sqt_keep h fun a o e m => k a o e (.inl m)
end
def D.isL : D → Bool
  | .lst _ _ => true
  | .scr _ => true
  | _ => false
/-- the items, all of which own nothing -/
def D.items (d : D) : Option (List D) := d.seq?.bind fun ds => if D.imms ds = true then some ds else none
theorem rel_items {K : PySem.W.Frag} {H H0 : Hp} {O : Addr → Prop} {d : D} {v : V} {F : List Addr} {ds : List D} (h : Rel K H O d v F) (e : d.items = some ds) (hF : ∀ a ∈ F, ¬ O a) :
    ∃ a vs, v = .ref a ∧ ((d.isL = true ∧ SqL K H a vs ∧ ∀ H1, KeptO O H H1 → SqL K H1 a vs) ∨ (d.isL = false ∧ SqT K H a vs)) ∧ Rels K H O ds vs [] := by
  obtain ⟨es, e1, e2⟩ := bind2 (γ := Unit) e
  split at e2
  · rename_i hi
    cases e2
    cases d with
    | tup xs =>
      cases e1
      obtain ⟨a, vs, rfl, hq, hr⟩ := rel_tup h
      have z := hr.imm hi
      subst z
      exact ⟨a, vs, rfl, .inr ⟨rfl, hq⟩, hr⟩
    | lst o xs =>
      cases e1
      cases o with
      | true =>
        simp only [Rel] at h
        obtain ⟨a, vs, G, rfl, hq, hr, rfl⟩ := h
        have z := hr.imm hi
        subst z
        exact ⟨a, vs, rfl, .inl ⟨rfl, .inl (.inl hq), fun H1 k => sql_kept (.inl (.inl hq)) (fun _ _ => hF a List.mem_cons_self) k⟩, hr⟩
      | false =>
        simp only [Rel] at h
        obtain ⟨a, vs, rfl, hq, ho, hr, _⟩ := h
        exact ⟨a, vs, rfl, .inl ⟨rfl, .inl hq, fun H1 k => sql_kept (.inl hq) (fun _ _ => ho) k⟩, hr⟩
    | scr xs =>
      cases e1
      simp only [Rel] at h
      obtain ⟨a, vs, rfl, hq, hr, _⟩ := h
      exact ⟨a, vs, rfl, .inl ⟨rfl, sql_scr hq, fun H1 k => sql_scr (hq.imp (fun ⟨o, hq⟩ => ⟨o, k _ _ hq (.inl fun z => z)⟩) id)⟩, hr⟩
    | _ => cases e1
  · cases e2
theorem new_own {H H' : Hp} {F : List Addr} {O : Addr → Prop} (n : New H F) (ho : ∀ a, O a → H a ≠ none) : ∀ a ∈ F, ¬ O a := fun a ha z => ho a z (n.2 a ha)
theorem yat_src {K : PySem.W.Frag} {O : Addr → Prop} {H : Hp} {ds : List D} {vs : List V} (hr : Rels K H O ds vs []) : ∀ i H1 x H2, i < ds.length → KeptO O H H1 → YAt vs i H1 x H2 → Same H1 H2 ∧ ∃ d, ds[i]? = some d ∧ ∀ O1 : Addr → Prop, (∀ a, O1 a → O a ∨ H a = none) → (∀ a, O1 a → H1 a ≠ none) → Rel K H2 O1 d x [] := by
  intro i H1 x H2 _ k ⟨e, ex⟩
  subst e
  obtain ⟨d, e1, r⟩ := rels_get0 hr ex
  exact ⟨Same.refl _, d, e1, fun O1 h1 _ => rel_kept r k h1⟩
theorem src_seq {K : PySem.W.Frag} {O : Addr → Prop} {H : Hp} {a : Addr} {ds : List D} {vs : List V} (hr : Rels K H O ds vs []) :
    ((∀ H1, KeptO O H H1 → SqL K H1 a vs) → Src K O (Itl K a) ds H) ∧ (SqT K H a vs → Src K O (Itt K a) ds H) :=
  ⟨fun ho => ⟨_, _, ho, by rw [← hr.len]; exact walk_list, yat_src hr⟩, fun hq => ⟨_, _, fun H1 k => sqt_kept hq k, by rw [← hr.len]; exact walk_tup, yat_src hr⟩⟩
section
variable {X : Cx} {tg e e1 e2 : Expr} {p p1 p2 : DS → Option D} {pos pn tpos : Pos} {elts : List Expr} {kk : Nat}
def iSeq (p : DS → Option D) : DS → Option (List D) := fun τ => (p τ).bind D.items
/-- over a list or tuple that is read only, or new -/
theorem i_new (h : PFx X e p) : PIx X tg e (iSeq p) := (PI.or (pi_list h) (pi_tup h)).weak fun σ H R ⟨τ, Fs, O, ds, S, e, k⟩ => by
  obtain ⟨d, e1, e2⟩ := bind2 (γ := Unit) e
  cases hd : d.isL with
  | true =>
    refine .inl ⟨τ, Fs, O, d, S, e1, fun v H' F s r n => ?_⟩
    obtain ⟨a, vs, rfl, (⟨_, hq, ho⟩ | ⟨z, _⟩), hr⟩ := rel_items (H0 := H) r e2 (new_own (H' := H) n S.own)
    · exact ⟨a, rfl, ⟨vs, hq⟩, k _ H' s ((src_seq hr).1 ho)⟩
    · rw [hd] at z; cases z
  | false =>
    refine .inr ⟨τ, Fs, O, d, S, e1, fun v H' F s r n => ?_⟩
    obtain ⟨a, vs, rfl, (⟨z, _⟩ | ⟨_, hq⟩), hr⟩ := rel_items (H0 := H) r e2 (new_own (H' := H) n S.own)
    · rw [hd] at z; cases z
    · exact ⟨a, rfl, ⟨vs, hq⟩, k _ H' s ((src_seq hr).2 hq)⟩
theorem i_seq (h : PPx X e p) : PIx X tg e (iSeq (gImm p)) := i_new h.pf
/-- range(n), range(a, b) -/
def rgD (lo : Int) (n : Nat) : List D := (List.range n).map fun (i : Nat) => D.int (lo + (i : Nat))
def okR (i : Int) : Bool := decide (-(2 ^ 62) ≤ i) && decide (i < 2 ^ 62)
def iRg1 (q : DS → Option (List D)) : DS → Option (List D) := fun τ => (q τ).bind fun ds => match ds with
  | [.int j] => if okR j = true then some (rgD 0 j.toNat) else none
  | _ => none
def iRg2 (q : DS → Option (List D)) : DS → Option (List D) := fun τ => (q τ).bind fun ds => match ds with
  | [.int i, .int j] => if okR i = true ∧ okR j = true then some (rgD i (j - i).toNat) else none
  | _ => none
theorem rgD_len (lo : Int) (n : Nat) : (rgD lo n).length = n := by simp [rgD]
theorem rgD_get {lo : Int} {n i : Nat} (h : i < n) : (rgD lo n)[i]? = some (.int (lo + i)) := by
  unfold rgD
  rw [List.getElem?_map, List.getElem?_range h]
  rfl
theorem src_rg {K : PySem.W.Frag} {O : Addr → Prop} {H : Hp} {lo : Int} {n : Nat} : Src K O (Itr lo n) (rgD lo n) H :=
  ⟨fun _ => True, YFn fun i => .int (lo + i), fun _ _ => trivial, by rw [rgD_len]; exact walk_range, fun i H1 x H2 hi k ⟨e, ex⟩ => by
    rw [rgD_len] at hi
    subst e ex
    exact ⟨Same.refl _, _, rgD_get hi, fun _ _ _ => mk_int _⟩⟩
theorem i_rg1 {q : DS → Option (List D)} (hg : Gl X "range") (hm : X.mg "range" = none) (ha : PAx X [e] q) (hs : starEach [e] X.env = [(false, eval e X.env)] := by rfl) : PIx X tg (.Call (.Name "range" pn) [e] [] pos) (iRg1 q) :=
  (pi_range1 hg hm ha hs).weak fun σ H R ⟨τ, Fs, O, ds, S, e, k⟩ => by
    obtain ⟨es, e1, e2⟩ := bind2 (γ := Unit) e
    split at e2
    · split at e2
      · rename_i h
        cases e2
        simp only [okR, Bool.and_eq_true, decide_eq_true_eq] at h
        refine ⟨τ, Fs, O, _, S, e1, fun vs H' F s r n => ?_⟩
        obtain ⟨v, rfl, r1⟩ := rels1 r
        exact ⟨_, by rw [(rel_int r1).1], h.1, h.2, k _ H' s src_rg⟩
      · cases e2
    · cases e2
theorem i_rg2 {q : DS → Option (List D)} (hg : Gl X "range") (hm : X.mg "range" = none) (ha : PAx X [e1, e2] q) (hs : starEach [e1, e2] X.env = [(false, eval e1 X.env), (false, eval e2 X.env)] := by rfl) (hs2 : starEach [e2] X.env = [(false, eval e2 X.env)] := by rfl) : PIx X tg (.Call (.Name "range" pn) [e1, e2] [] pos) (iRg2 q) :=
  (pi_range2 hg hm ha hs hs2).weak fun σ H R ⟨τ, Fs, O, ds, S, e, k⟩ => by
    obtain ⟨es, e1, e2⟩ := bind2 (γ := Unit) e
    split at e2
    · split at e2
      · rename_i h
        cases e2
        simp only [okR, Bool.and_eq_true, decide_eq_true_eq] at h
        refine ⟨τ, Fs, O, _, S, e1, fun vs H' F s r n => ?_⟩
        obtain ⟨v, v', F1, F2, rfl, r1, r2, _⟩ := rels2 r
        exact ⟨_, _, by rw [(rel_int r1).1, (rel_int r2).1], ⟨h.1.1, h.1.2, h.2.1, h.2.2⟩, k _ H' s src_rg⟩
      · cases e2
    · cases e2
/-- enumerate, zip -/
def enD (ds : List D) : List D := ds.mapIdx fun i d => D.tup [.int (i : Nat), d]
def zipD (ds es : List D) : List D := List.zipWith (fun d e => D.tup [d, e]) ds es
theorem pair_src {K : PySem.W.Frag} {O : Addr → Prop} {H : Hp} {f g : Nat → Option V} {ds : List D} (hd : ∀ i x y, f i = some x → g i = some y → ∃ d d', ds[i]? = some (D.tup [d, d']) ∧ Rel K H O d x [] ∧ Rel K H O d' y []) :
    ∀ i H1 x H2, i < ds.length → KeptO O H H1 → YPair f g i H1 x H2 → Same H1 H2 ∧ ∃ d, ds[i]? = some d ∧ ∀ O1 : Addr → Prop, (∀ a, O1 a → O a ∨ H a = none) → (∀ a, O1 a → H1 a ≠ none) → Rel K H2 O1 d x [] := by
  intro i H1 v H2 _ k ⟨T, x, y, ev, hT, eH, ex, ey⟩
  subst ev eH
  obtain ⟨d, d', e1, r1, r2⟩ := hd i x y ex ey
  refine ⟨same_upd hT, _, e1, fun O1 h1 h2 => mk_tup (SqT.of upd_same) ?_⟩
  have z := Rels.cons (rel_kept r1 k h1) (Rels.one (rel_kept r2 k h1))
  exact Rels.same z (same_upd hT)
def iEn (q : DS → Option (List D)) : DS → Option (List D) := fun τ => (q τ).bind fun ds => match ds with
  | [d] => d.items.bind fun es => some (enD es)
  | _ => none
def iZp (q : DS → Option (List D)) : DS → Option (List D) := fun τ => (q τ).bind fun ds => match ds with
  | [d, d'] => if d.isL = d'.isL then d.items.bind fun es => d'.items.bind fun es' => some (zipD es es') else none
  | _ => none
theorem en_src {K : PySem.W.Frag} {O : Addr → Prop} {H : Hp} {ds : List D} {vs : List V} (hr : Rels K H O ds vs []) : ∀ (i : Nat) (x y : V), some (V.int (i : Nat)) = some x → vs[i]? = some y → ∃ d d', (enD ds)[i]? = some (D.tup [d, d']) ∧ Rel K H O d x [] ∧ Rel K H O d' y [] := by
  intro i x y ex ey
  obtain rfl := Option.some.inj ex
  obtain ⟨d, e1, r⟩ := rels_get0 hr ey
  exact ⟨.int (i : Nat), d, by simp [enD, e1], mk_int _, r⟩
theorem zip_src {K : PySem.W.Frag} {O : Addr → Prop} {H : Hp} {ds ds' : List D} {vs vs' : List V} (hr : Rels K H O ds vs []) (hr' : Rels K H O ds' vs' []) : ∀ (i : Nat) (x y : V), vs[i]? = some x → vs'[i]? = some y → ∃ d d', (zipD ds ds')[i]? = some (D.tup [d, d']) ∧ Rel K H O d x [] ∧ Rel K H O d' y [] := by
  intro i x y ex ey
  obtain ⟨d, e1, r⟩ := rels_get0 hr ex
  obtain ⟨d', e2, r'⟩ := rels_get0 hr' ey
  exact ⟨d, d', by simp [zipD, List.getElem?_zipWith, e1, e2], r, r'⟩
theorem enD_len (ds : List D) : (enD ds).length = ds.length := by simp [enD]
theorem zipD_len (ds es : List D) : (zipD ds es).length = min ds.length es.length := by simp [zipD]
/-- the arguments own nothing, or are new -/
theorem i_en {q : DS → Option (List D)} (hg : Gl X "enumerate") (hm : X.mg "enumerate" = none) (ha : PBx X [e] q) (hs : starEach [e] X.env = [(false, eval e X.env)] := by rfl) : PIx X (.Tuple elts kk tpos) (.Call (.Name "enumerate" pn) [e] [] pos) (iEn q) :=
  (PI.or (pi_enum hg hm ha hs) (pi_enumT hg hm ha hs)).weak fun σ H R ⟨τ, Fs, O, ds, S, e, k⟩ => by
    obtain ⟨es, e1, e2⟩ := bind2 (γ := Unit) e
    split at e2
    · rename_i d
      obtain ⟨xs, e3, e4⟩ := bind2 (γ := Unit) e2
      cases e4
      cases hd : d.isL with
      | true =>
        refine .inl ⟨τ, Fs, O, _, S, e1, fun vs H' F s r n => ?_⟩
        obtain ⟨v, rfl, r1⟩ := rels1 r
        obtain ⟨a, vs, rfl, (⟨_, hq, ho⟩ | ⟨z, _⟩), hr⟩ := rel_items (H0 := H) r1 e3 (new_own (H' := H) n S.own)
        · exact ⟨a, vs, rfl, hq, k _ H' s ⟨_, _, ho, by rw [enD_len, ← hr.len]; exact walk_enum, pair_src (en_src hr)⟩⟩
        · rw [hd] at z; cases z
      | false =>
        refine .inr ⟨τ, Fs, O, _, S, e1, fun vs H' F s r n => ?_⟩
        obtain ⟨v, rfl, r1⟩ := rels1 r
        obtain ⟨a, vs, rfl, (⟨z, _⟩ | ⟨_, hq⟩), hr⟩ := rel_items (H0 := H) r1 e3 (new_own (H' := H) n S.own)
        · rw [hd] at z; cases z
        · exact ⟨a, vs, rfl, hq, k _ H' s ⟨_, _, fun H1 k => sqt_kept hq k, by rw [enD_len, ← hr.len]; exact walk_enumT, pair_src (en_src hr)⟩⟩
    · cases e2
theorem i_zp {q : DS → Option (List D)} (hg : Gl X "zip") (hm : X.mg "zip" = none) (ha : PBx X [e1, e2] q) (hs : starEach [e1, e2] X.env = (false, eval e1 X.env) :: starEach [e2] X.env := by rfl) (hpl : (backTo pos (starEach [e2] X.env)).any (·.1) = false := by rfl) : PIx X (.Tuple elts kk tpos) (.Call (.Name "zip" pn) [e1, e2] [] pos) (iZp q) :=
  (RZ.pi_zipA hg hm ha hs hpl).weak fun σ H R ⟨τ, Fs, O, ds, S, e, k⟩ => by
    obtain ⟨es, e1, e2⟩ := bind2 (γ := Unit) e
    split at e2
    · rename_i d d'
      split at e2
      · rename_i hl
        obtain ⟨xs, e3, e4⟩ := bind2 (γ := Unit) e2
        obtain ⟨xs', e3', e4⟩ := bind2 (γ := Unit) e4
        cases e4
        refine ⟨τ, Fs, O, _, S, e1, fun vs H' F s r n => ?_⟩
        obtain ⟨v, v', F1, F2, rfl, r1, r2, eF⟩ := rels2 r
        have nF := new_own (H' := H) n S.own
        obtain ⟨a, vs, rfl, c1, hr⟩ := rel_items (H0 := H) r1 e3 fun b hb => nF b (by rw [eF]; exact List.mem_append_left _ hb)
        obtain ⟨a', vs', rfl, c2, hr'⟩ := rel_items (H0 := H) r2 e3' fun b hb => nF b (by rw [eF]; exact List.mem_append_right _ hb)
        have hn : (zipD xs xs').length = min vs.length vs'.length := by rw [zipD_len, hr.len, hr'.len]
        refine ⟨a, a', vs, vs', rfl, ?_⟩
        rcases c1 with ⟨z1, hq, ho⟩ | ⟨z1, hq⟩
        · rcases c2 with ⟨z2, hq', ho'⟩ | ⟨z2, hq'⟩
          · exact .inl ⟨hq, hq', k _ H' s ⟨_, _, fun H1 k => ⟨ho H1 k, ho' H1 k⟩, walk_zip hn, pair_src (zip_src hr hr')⟩⟩
          · rw [z1, z2] at hl; cases hl
        · rcases c2 with ⟨z2, hq', ho'⟩ | ⟨z2, hq'⟩
          · rw [z1, z2] at hl; cases hl
          · exact .inr ⟨hq, hq', k _ H' s ⟨_, _, fun H1 k => ⟨sqt_kept hq k, sqt_kept hq' k⟩, walk_zipT hn, pair_src (zip_src hr hr')⟩⟩
      · cases e2
    · cases e2
end
end DL
set_option Elab.async false
set_option linter.all false
set_option maxRecDepth 100000
set_option maxHeartbeats 2000000
/-! Comprehensions that change nothing. -/
namespace DL
open PySem PySem.Spec PyProof.Rows L2
def wipeD (τ : DS) : List Nat → DS
  | [] => τ
  | v :: vs => (wipeD τ vs).set v none
theorem wipeD_len (τ : DS) : ∀ vs : List Nat, (wipeD τ vs).length = τ.length
  | [] => rfl
  | v :: vs => by unfold wipeD; rw [List.length_set, wipeD_len τ vs]
theorem wipeD_some {τ : DS} {i : Nat} {x : D} : ∀ {vs : List Nat}, (wipeD τ vs)[i]? = some (some x) → τ[i]? = some (some x) ∧ i ∉ vs
  | [], h => ⟨h, by simp⟩
  | v :: vs, h => by
    unfold wipeD at h
    by_cases e : v = i
    · subst e
      by_cases hl : v < (wipeD τ vs).length
      · rw [List.getElem?_set_self hl] at h; cases h
      · rw [List.getElem?_eq_none (by rw [List.length_set]; omega)] at h; cases h
    · rw [List.getElem?_set_ne e] at h
      obtain ⟨h1, h2⟩ := wipeD_some h
      exact ⟨h1, by simp [Ne.symm e, h2]⟩
theorem srel_wipe {K : PySem.W.Frag} {H : Hp} {O : Addr → Prop} {σ : L2.St} {τ : DS} {Fs : Nat → List Addr} {vs : List Nat} (S : SRel K H O σ τ Fs) : SRel K H O (wipe σ vs) (wipeD τ vs) Fs :=
  ⟨by rw [wipe_length, wipeD_len]; exact S.len, fun i d e => by
    obtain ⟨e1, e2⟩ := wipeD_some e
    obtain ⟨v, e3, r⟩ := S.rel i d e1
    exact ⟨v, by rw [wipe_out e2]; exact e3, r⟩, S.own⟩
theorem wipe_set {σ : L2.St} {i : Nat} {v : Option V} : ∀ {vs : List Nat}, i ∈ vs → wipe (σ.set i v) vs = wipe σ vs
  | [], h => absurd h List.not_mem_nil
  | w :: vs, h => by
    unfold wipe
    by_cases e : i = w
    · subst e
      clear h
      have aux : ∀ vs : List Nat, (wipe (σ.set i v) vs).set i none = (wipe σ vs).set i none := fun vs => by
        induction vs with
        | nil => unfold wipe; rw [List.set_set]
        | cons y ys ih =>
          unfold wipe
          by_cases e : y = i
          · subst e
            rw [List.set_set, List.set_set]
            exact ih
          · rw [List.set_comm _ _ e, List.set_comm _ _ e, ih]
      exact aux vs
    · rcases List.mem_cons.mp h with h | h
      · exact absurd h e
      · rw [wipe_set h]
theorem wipe_wipe (σ : L2.St) (vs : List Nat) : wipe (wipe σ vs) vs = wipe σ vs := by
  refine List.ext_getElem? fun i => ?_
  by_cases h : i ∈ vs
  · have aux : ∀ (vs : List Nat) (σ : L2.St), i ∈ vs → (wipe σ vs)[i]? = if i < σ.length then some none else none := fun vs => by
      induction vs with
      | nil => intro σ h; exact absurd h List.not_mem_nil
      | cons y ys ih =>
        intro σ h
        unfold wipe
        by_cases e : y = i
        · subst e
          by_cases hl : y < σ.length
          · rw [List.getElem?_set_self (by rw [wipe_length]; exact hl), if_pos hl]
          · rw [List.getElem?_eq_none (by rw [List.length_set, wipe_length]; omega), if_neg hl]
        · rw [List.getElem?_set_ne e]
          rcases List.mem_cons.mp h with h | h
          · exact absurd h.symm e
          · exact ih σ h
    rw [aux vs _ h, aux vs _ h, wipe_length]
  · rw [wipe_out h, wipe_out h]
/-- a comprehension's target, by data -/
def CT (K : PySem.W.Frag) (vs : List Nat) (g : TG) (gd : D → DS → Option DS) : Prop := ∀ (H : Hp) (O : Addr → Prop) (σ : L2.St) (τ : DS) (Fs : Nat → List Addr) (d : D) (v : V) (τ' : DS) (σ0 : L2.St) (Q : L2.St → Hp → Prop),
  SRel K H O σ τ Fs → wipe σ vs = σ0 → Rel K H O d v [] → gd d τ = some τ' → (∀ σ2 Fs2, SRel K H O σ2 τ' Fs2 → wipe σ2 vs = σ0 → (∀ i a, a ∈ Fs2 i → ∃ j, a ∈ Fs j) → Q σ2 H) → g v σ H Q
def CTs (K : PySem.W.Frag) (vs : List Nat) (g : TGs) (gd : List D → DS → Option DS) : Prop := ∀ (H : Hp) (O : Addr → Prop) (σ : L2.St) (τ : DS) (Fs : Nat → List Addr) (ds : List D) (ws : List V) (τ' : DS) (σ0 : L2.St) (Q : L2.St → Hp → Prop),
  SRel K H O σ τ Fs → wipe σ vs = σ0 → Rels K H O ds ws [] → gd ds τ = some τ' → (∀ σ2 Fs2, SRel K H O σ2 τ' Fs2 → wipe σ2 vs = σ0 → (∀ i a, a ∈ Fs2 i → ∃ j, a ∈ Fs j) → Q σ2 H) → g ws σ H Q
def gdN (i : Nat) : D → DS → Option DS := fun d τ => some (τ.set i (some d))
def gdTup (n : Nat) (g : List D → DS → Option DS) : D → DS → Option DS := fun d τ => match d with
  | .tup ds => if ds.length = n then g ds τ else none
  | _ => none
def gdNil : List D → DS → Option DS := fun ds τ => match ds with
  | [] => some τ
  | _ => none
def gdCons (g : D → DS → Option DS) (gs : List D → DS → Option DS) : List D → DS → Option DS := fun ds τ => match ds with
  | d :: r => (g d τ).bind fun τ' => gs r τ'
  | [] => none
/-- what slot i owns is now F -/
def put (Fs : Nat → List Addr) (i : Nat) (F : List Addr) : Nat → List Addr := fun j => if j = i then F else Fs j
theorem put_self {Fs : Nat → List Addr} {i : Nat} {F : List Addr} : put Fs i F i = F := if_pos rfl
theorem put_ne {Fs : Nat → List Addr} {i j : Nat} {F : List Addr} (h : j ≠ i) : put Fs i F j = Fs j := if_neg h
theorem put_mem {Fs : Nat → List Addr} {i j : Nat} {F : List Addr} {a : Addr} (h : a ∈ put Fs i F j) : (j = i ∧ a ∈ F) ∨ (j ≠ i ∧ a ∈ Fs j) := by
  by_cases e : j = i
  · subst e; rw [put_self] at h; exact .inl ⟨rfl, h⟩
  · rw [put_ne e] at h; exact .inr ⟨e, h⟩
theorem srel_set {K : PySem.W.Frag} {H : Hp} {O : Addr → Prop} {σ : L2.St} {τ : DS} {Fs : Nat → List Addr} {i : Nat} {d : D} {v : V} {F : List Addr} (S : SRel K H O σ τ Fs) (r : Rel K H O d v F) : SRel K H O (σ.set i (some v)) (τ.set i (some d)) (put Fs i F) := by
  refine ⟨by rw [List.length_set, List.length_set]; exact S.len, fun j e h => ?_, S.own⟩
  by_cases hj : i = j
  · subst hj
    by_cases hl : i < τ.length
    · rw [List.getElem?_set_self hl] at h
      obtain rfl := Option.some.inj (Option.some.inj h)
      exact ⟨v, by rw [List.getElem?_set_self (by rw [S.len]; exact hl)], by rw [put_self]; exact r⟩
    · rw [List.getElem?_eq_none (by rw [List.length_set]; omega)] at h; cases h
  · rw [List.getElem?_set_ne hj] at h
    obtain ⟨w, e1, r1⟩ := S.rel j e h
    exact ⟨w, by rw [List.getElem?_set_ne hj]; exact e1, by rw [put_ne (Ne.symm hj)]; exact r1⟩
section
variable {K : PySem.W.Frag} {vs : List Nat}
theorem ct_name {i : Nat} (h : i ∈ vs) : CT K vs (gName i) (gdN i) := fun H O σ τ Fs d v τ' σ0 Q S w r e q => by
  cases e
  refine q _ _ (srel_set S r) (by rw [wipe_set h]; exact w) fun j a ha => ?_
  rcases put_mem ha with ⟨_, ha⟩ | ⟨_, ha⟩
  · exact absurd ha List.not_mem_nil
  · exact ⟨j, ha⟩
theorem ct_nil : CTs K vs gNil gdNil := fun H O σ τ Fs ds ws τ' σ0 Q S w r e q => by
  cases ds with
  | nil =>
    cases e
    simp only [Rels] at r
    exact ⟨r.1, q _ Fs S w fun i a ha => ⟨i, ha⟩⟩
  | cons _ _ => cases e
theorem nil_of_app {α : Type} {a b : List α} (h : [] = a ++ b) : a = [] ∧ b = [] := by
  cases a with
  | nil => exact ⟨rfl, h.symm⟩
  | cons _ _ => cases h
theorem ct_cons {g : TG} {gd : D → DS → Option DS} {gs : TGs} {gds : List D → DS → Option DS} (h : CT K vs g gd) (k : CTs K vs gs gds) : CTs K vs (gCons g gs) (gdCons gd gds) := fun H O σ τ Fs ds ws τ' σ0 Q S w r e q => by
  cases ds with
  | nil => cases e
  | cons d ds =>
    obtain ⟨τ1, e1, e2⟩ := bind2 (γ := Unit) (show (gd d τ).bind _ = some τ' from e)
    simp only [Rels] at r
    obtain ⟨v, us, F1, F2, rfl, r1, r2, eF⟩ := r
    obtain ⟨rfl, rfl⟩ := nil_of_app eF
    exact ⟨v, us, rfl, h H O σ τ Fs d v τ1 σ0 _ S w r1 e1 fun σ2 Fs2 S2 w2 n2 => k H O σ2 τ1 Fs2 ds us τ' σ0 Q S2 w2 r2 e2 fun σ3 Fs3 S3 w3 n3 => q σ3 Fs3 S3 w3 fun i a ha => by
      obtain ⟨j, hj⟩ := n3 i a ha
      exact n2 j a hj⟩
theorem ct_tup {n : Nat} {g : TGs} {gd : List D → DS → Option DS} (h : CTs K vs g gd) : CT K vs (gTup K n g) (gdTup n gd) := fun H O σ τ Fs d v τ' σ0 Q S w r e q => by
  cases d with
  | tup ds =>
    have e : (if ds.length = n then gd ds τ else none) = some τ' := e
    split at e
    · rename_i hn
      obtain ⟨a, us, rfl, hq, hr⟩ := rel_tup r
      exact ⟨a, us, rfl, hq, by rw [hr.len]; exact hn, h H O σ τ Fs ds us τ' σ0 Q S w hr e q⟩
    · cases e
  | _ => cases e
end
/-- the list that a comprehension makes -/
def lcD (g : D → DS → Option DS) (c : DS → Option Bool) (p : DS → Option D) (τ : DS) : List D → Option (List D)
  | [] => some []
  | d :: ds => (g d τ).bind fun τ1 => (c τ1).bind fun k => if k = true then (p τ1).bind fun r => (lcD g c p τ ds).bind fun rs => some (r :: rs) else lcD g c p τ ds
def cYes : DS → Option Bool := fun _ => some true
def pLc (q : DS → Option (List D)) (g : D → DS → Option DS) (c : DS → Option Bool) (p : DS → Option D) (vs : List Nat) : DS → Option D := fun τ => (q τ).bind fun ds => if ds.length ≤ 16777216 then (lcD g c p (wipeD τ vs) ds).bind fun rs => some (.lst true rs) else none
section
variable {X : Cx}
abbrev PTsx (X : Cx) (ifs : List Expr) (c : DS → Option Bool) : Prop := PTs X ifs (liftT X.K c)
theorem ts_nil : PTsx X [] cYes := ⟨fun pins s σ H Q I ⟨τ, Fs, O, b, S, e, k⟩ => pts_nil.run pins s σ H Q I (by cases e; exact k H (Same.refl _))⟩
theorem ts_one {e : Expr} {c : DS → Option Bool} (h : PTx X e c) : PTsx X [e] c := pts_one h
theorem lift_lc {K : PySem.W.Frag} {q : DS → Option (List D)} {gd : D → DS → Option DS} {c : DS → Option Bool} {p : DS → Option D} {vs : List Nat} {g : TG} (hg : CT K vs g gd) {σ : L2.St} {H : Hp} {Q : VK} (h : liftF K (pLc q gd c p vs) σ H Q) :
    tLc (liftI K q) g (liftT K c) (liftF K p) vs σ H Q := by
  obtain ⟨τ, Fs, O, d, S, e, k⟩ := h
  obtain ⟨ds, e1, e⟩ := bind2 (γ := Unit) e
  split at e
  · rename_i hl
    obtain ⟨rs, e2, e⟩ := bind2 (γ := Unit) e
    cases e
    refine ⟨τ, Fs, O, ds, S, e1, fun J H1 s1 src => fun L hL => ?_⟩
    obtain ⟨G, Y, hG, wk, hY⟩ := src
    have nL : ∀ {Hc : Hp}, Hc L ≠ none → ∀ a o, H1 a = some o → a ≠ L := fun _ a o ea z => by rw [z, hL] at ea; cases ea
    refine lc_it wk (fun i Hc => ∃ acc rest us F, lcD gd c p (wipeD τ vs) (ds.drop i) = some rest ∧ acc ++ rest = rs ∧ Hc L = some (.lst us) ∧ us.length ≤ i ∧ Rels K Hc (fun a => O a ∨ a = L) acc us F ∧ New H1 F ∧ L ∉ F ∧ Same H1 Hc) ?_ ?_ ?_ ?_
    · exact ⟨[], rs, [], [], e2, rfl, upd_same, Nat.zero_le _, Rels.nil, New.nil, List.not_mem_nil, same_upd hL⟩
    · rintro i Hc _ ⟨acc, rest, us, F, _, _, _, _, _, _, _, sc⟩
      exact hG Hc (KeptO.of_same sc)
    · rintro i x Hc H2 hi ⟨acc, rest, us, F, f1, f2, f3, f4, f5, f6, f7, sc⟩ hy
      obtain ⟨s2, d, ed, rd⟩ := hY i Hc x H2 hi (KeptO.of_same sc) hy
      have hO1 : ∀ a, (O a ∨ a = L) → O a ∨ H1 a = none := fun a z => z.imp id fun z => by rw [z]; exact hL
      have hO2 : ∀ a, (O a ∨ a = L) → Hc a ≠ none := fun a z => by
        rcases z with z | z
        · exact fun q => S.own a z (s1.free (sc.free q))
        · rw [z, f3]; exact fun q => nomatch q
      have rd := rd (fun a => O a ∨ a = L) hO1 hO2
      rw [List.drop_eq_getElem_cons hi] at f1
      have ed' : ds[i] = d := by
        rw [List.getElem?_eq_getElem hi] at ed
        exact Option.some.inj ed
      rw [ed'] at f1
      obtain ⟨τ1, g1, f1⟩ := bind2 (γ := Unit) (show (gd d (wipeD τ vs)).bind _ = some rest from f1)
      obtain ⟨b, g2, f1⟩ := bind2 (γ := Unit) f1
      have SS : SRel K H2 (fun a => O a ∨ a = L) (wipe σ vs) (wipeD τ vs) Fs := by
        have z := srel_wipe (vs := vs) (S.same s1)
        exact ⟨z.len, fun j dd ee => let ⟨v, a1, a2⟩ := z.rel j dd ee; ⟨v, a1, (a2.own hO1).same (sc.trans s2)⟩, fun a w => fun q => hO2 a w (s2.free q)⟩
      have f3' := s2 _ _ f3
      refine hg H2 _ _ _ Fs d x τ1 (wipe σ vs) _ SS (wipe_wipe _ _) rd g1 fun σ2 Fs2 S2 w2 n2 => ⟨w2, τ1, Fs2, _, b, S2, g2, fun H3 s3 => ?_⟩
      cases b with
      | true =>
        obtain ⟨r, g3, f1⟩ := bind2 (γ := Unit) (show (p τ1).bind _ = some rest from f1)
        obtain ⟨rest', g4, f1⟩ := bind2 (γ := Unit) f1
        cases f1
        refine iteT ⟨τ1, Fs2, _, r, S2.same s3, g3, fun y H4 F4 s4 r4 n4 => ?_⟩
        have f34 := s4 _ _ (s3 _ _ f3')
        have s24 := s2.trans (s3.trans s4)
        refine ⟨us, f34, by rw [sizeLine_eq]; omega, acc ++ [r], rest', us ++ [y], F ++ F4, g4, by rw [← f2]; simp, upd_same, by rw [List.length_append]; show us.length + 1 ≤ i + 1; omega, ?_, ?_, ?_, ?_⟩
        · have z := (f5.same s24).app (Rels.one r4)
          have nLF : L ∉ F ++ F4 := fun w => (List.mem_append.mp w).elim f7 fun w => by
            have q := n4.2 L w
            rw [s3 _ _ f3'] at q; cases q
          refine z.keep (fun a o ea m => ?_) (fun a o ea m => ?_) (fun a o ea m => ?_) fun a w => .inl w
          · rw [upd_ne (fun w => m (by rw [w, f34] at ea; cases ea; trivial))]; exact ea
          · rw [upd_ne (fun w => nLF (by rw [← w]; exact m))]; exact ea
          · rw [upd_ne (fun w => m (.inr w))]; exact ea
        · exact f6.app f5 (n4.up (s2.trans s3)) sc
        · intro w
          rcases List.mem_append.mp w with w | w
          · exact f7 w
          · have q := n4.2 L w
            rw [s3 _ _ f3'] at q; cases q
        · intro a o ea
          rw [upd_ne (fun w => by rw [w, hL] at ea; cases ea)]
          exact s24 _ _ (sc _ _ ea)
      | false =>
        exact iteF ⟨acc, rest, us, F, f1, f2, s3 _ _ f3', Nat.le_succ_of_le f4, f5.same (s2.trans s3), f6, f7, sc.trans (s2.trans s3)⟩
    · rintro Hc ⟨acc, rest, us, F, f1, f2, f3, f4, f5, f6, f7, sc⟩
      rw [List.drop_length] at f1
      cases f1
      rw [List.append_nil] at f2
      subst f2
      refine k (.ref L) Hc (L :: F) (s1.trans sc) (mk_lst f3 (f5.own fun a w => .inl (.inl w))) ⟨List.nodup_cons.mpr ⟨f7, f6.1⟩, fun a ha => ?_⟩
      rcases List.mem_cons.mp ha with rfl | ha
      · exact s1.free hL
      · exact s1.free (f6.2 a ha)
  · cases e
theorem f_lc {elt tg iter : Expr} {ifs : List Expr} {scope : Scope} {own : List (Str × Nat)} {pos : Pos} {q : DS → Option (List D)} {g : TG} {gd : D → DS → Option DS} {c : DS → Option Bool} {p : DS → Option D} (hc : X.calm = true) (hN : X.N.Nodup) (hi : PIx X tg iter q) (ok : BlkOk X.N X.env.scope scope own)
    (hct : CT X.K (own.map (·.2)) g gd) (hg : ∀ (s : Shared) (H : Hp) (C : Addr) (cl : List (Str × Addr)) (fp : List Addr), PG (X.blk s H scope (compEnvC scope cl C X.env) fp) tg g) (ht : ∀ (s : Shared) (H : Hp) (C : Addr) (cl : List (Str × Addr)) (fp : List Addr), PTsx (X.blk s H scope (compEnvC scope cl C X.env) fp) ifs c)
    (he : ∀ (s : Shared) (H : Hp) (C : Addr) (cl : List (Str × Addr)) (fp : List Addr), PFx (X.blk s H scope (compEnvC scope cl C X.env) fp) elt p) (hs : ∀ x, foldedSetIterable iter X.env x = pure x := by intro _; rfl) :
    PFx X (.ListComp elt [⟨tg, iter, ifs, 0⟩] scope pos) (pLc q gd c p (own.map (·.2))) := (pe_lc hc hN hi ok hg ht he hs).weak fun σ H Q h => lift_lc hct h
end
end DL
set_option Elab.async false
set_option linter.all false
set_option maxRecDepth 100000
set_option maxHeartbeats 2000000
/-! Expressions that may change what the slots own. -/
namespace DL
open PySem PySem.Spec PyProof.Rows L2
/-- what is owned: by a value at hand, by a slot, elsewhere -/
def OW (F : List Addr) (Fs : Nat → List Addr) (R : Addr → Prop) (a : Addr) : Prop := a ∈ F ∨ (∃ i, a ∈ Fs i) ∨ R a
structure Sep (H : Hp) (F : List Addr) (Fs : Nat → List Addr) (R : Addr → Prop) : Prop where
  nd : F.Nodup
  nds : ∀ i, (Fs i).Nodup
  dj : ∀ i j a, a ∈ Fs i → a ∈ Fs j → i = j
  f1 : ∀ i a, a ∈ Fs i → a ∉ F
  r1 : ∀ i a, a ∈ Fs i → ¬ R a
  r2 : ∀ a, a ∈ F → ¬ R a
  mu : ∀ i a, a ∈ Fs i → ∃ o, H a = some o ∧ Mut (some o)
  mf : ∀ a, a ∈ F → ∃ o, H a = some o ∧ Mut (some o)
structure Fr (Fs : Nat → List Addr) (H : Hp) (F : List Addr) (Fs' : Nat → List Addr) (H' : Hp) : Prop where
  keep : ∀ a o, H a = some o → (∀ i, a ∉ Fs i) → H' a = some o
  new : ∀ a, (a ∈ F ∨ ∃ i, a ∈ Fs' i) → (∃ i, a ∈ Fs i) ∨ H a = none
def liftE (K : PySem.W.Frag) (f : DS → Option (D × DS)) : TE := fun σ H Q => ∃ τ Fs R d τ', SRel K H (OW [] Fs R) σ τ Fs ∧ Sep H [] Fs R ∧ f τ = some (d, τ') ∧
  ∀ v H' F Fs', SRel K H' (OW F Fs' R) σ τ' Fs' → Rel K H' (OW F Fs' R) d v F → Sep H' F Fs' R → Fr Fs H F Fs' H' → Q v H'
def liftDA (K : PySem.W.Frag) (f : DS → Option (List D × DS)) : TA := fun σ H Q => ∃ τ Fs R d τ', SRel K H (OW [] Fs R) σ τ Fs ∧ Sep H [] Fs R ∧ f τ = some (d, τ') ∧
  ∀ v H' F Fs', SRel K H' (OW F Fs' R) σ τ' Fs' → Rels K H' (OW F Fs' R) d v F → Sep H' F Fs' R → Fr Fs H F Fs' H' → Q v H'
abbrev DEx (X : Cx) (e : Expr) (f : DS → Option (D × DS)) : Prop := PE X e (liftE X.K f)
abbrev DAx (X : Cx) (es : List Expr) (f : DS → Option (List D × DS)) : Prop := PA X es (liftDA X.K f)
section
variable {K : PySem.W.Frag} {H H1 H2 : Hp} {F F1 F2 G : List Addr} {Fs Fs1 Fs2 : Nat → List Addr} {R : Addr → Prop} {σ : L2.St} {τ : DS}
theorem Fr.refl : Fr Fs H [] Fs H := ⟨fun _ _ e _ => e, fun a z => z.elim (fun z => absurd z List.not_mem_nil) .inl⟩
theorem Fr.trans (a : Fr Fs H F1 Fs1 H1) (b : Fr Fs1 H1 F2 Fs2 H2) : Fr Fs H F2 Fs2 H2 := by
  refine ⟨fun c o e n => b.keep c o (a.keep c o e n) fun i z => ?_, fun c z => ?_⟩
  · rcases a.new c (.inr ⟨i, z⟩) with ⟨j, w⟩ | w
    · exact n j w
    · rw [e] at w; cases w
  · rcases b.new c z with z | z
    · exact a.new c (.inr z)
    · by_cases h : ∃ i, c ∈ Fs i
      · exact .inl h
      · refine .inr ?_
        cases q : H c with
        | none => rfl
        | some o =>
          rw [a.keep c o q fun i w => h ⟨i, w⟩] at z
          cases z
theorem Fr.both (a : Fr Fs H F1 Fs1 H1) (b : Fr Fs1 H1 F2 Fs2 H2) : Fr Fs H (F1 ++ F2) Fs2 H2 :=
  ⟨(a.trans b).keep, fun c z => by
    rcases z with z | z
    · rcases List.mem_append.mp z with z | z
      · exact a.new c (.inl z)
      · exact (a.trans b).new c (.inl z)
    · exact (a.trans b).new c (.inr z)⟩
theorem Fr.sub (a : Fr Fs H F Fs1 H1) (h : ∀ a ∈ G, a ∈ F) : Fr Fs H G Fs1 H1 := ⟨a.keep, fun c z => a.new c (z.imp (h c) id)⟩
theorem Fr.of_same (s : Same H H1) (n : New H F) : Fr Fs H F Fs H1 := ⟨fun a o e _ => s a o e, fun a z => z.elim (fun z => .inr (n.2 a z)) .inl⟩
/-- the value at hand becomes part of what is owned elsewhere -/
theorem Sep.hand (s : Sep H F Fs R) : Sep H [] Fs (fun a => a ∈ F ∨ R a) :=
  ⟨List.nodup_nil, s.nds, s.dj, fun _ _ _ => List.not_mem_nil, fun i a h z => z.elim (s.f1 i a h) (s.r1 i a h), fun _ z => absurd z List.not_mem_nil, s.mu, fun _ z => absurd z List.not_mem_nil⟩
theorem Sep.drop (s : Sep H F Fs R) : Sep H [] Fs R :=
  ⟨List.nodup_nil, s.nds, s.dj, fun _ _ _ => List.not_mem_nil, s.r1, fun _ z => absurd z List.not_mem_nil, s.mu, fun _ z => absurd z List.not_mem_nil⟩
theorem ow_hand (a : Addr) : OW [] Fs (fun a => a ∈ F ∨ R a) a ↔ OW F Fs R a := by
  unfold OW
  constructor
  · rintro (h | h | h | h)
    · exact absurd h List.not_mem_nil
    · exact .inr (.inl h)
    · exact .inl h
    · exact .inr (.inr h)
  · rintro (h | h | h)
    · exact .inr (.inr (.inl h))
    · exact .inr (.inl h)
    · exact .inr (.inr (.inr h))
theorem SRel.mono {O O' : Addr → Prop} (S : SRel K H O σ τ Fs) (h : ∀ a, O' a → O a) : SRel K H O' σ τ Fs := ⟨S.len, fun i d e => let ⟨v, e1, r⟩ := S.rel i d e; ⟨v, e1, r.own fun a z => .inl (h a z)⟩, fun a z => S.own a (h a z)⟩
/-- what is at hand stands while the slots are worked on -/
theorem rels_hand {d : List D} {v : List V} (r : Rels K H1 (OW F1 Fs1 R) d v F1) (s : Sep H1 F1 Fs1 R) (f : Fr Fs1 H1 F2 Fs2 H2) : Rels K H2 (OW F2 Fs2 (fun a => a ∈ F1 ∨ R a)) d v F1 := by
  refine r.keep (fun a o e m => f.keep a o e fun i z => ?_) (fun a o e m => f.keep a o e fun i z => s.f1 i a z m) (fun a o e m => f.keep a o e fun i z => m (.inr (.inl ⟨i, z⟩))) fun a z => ?_
  · obtain ⟨o', e', m'⟩ := s.mu i a z
    rw [e] at e'; cases e'; exact m m'
  · rcases z with z | z | z | z
    · exact (f.new a (.inl z)).imp (fun z => .inr (.inl z)) id
    · exact (f.new a (.inr z)).imp (fun z => .inr (.inl z)) id
    · exact .inl (.inl z)
    · exact .inl (.inr (.inr z))
theorem rel_hand {d : D} {v : V} (r : Rel K H1 (OW F1 Fs1 R) d v F1) (s : Sep H1 F1 Fs1 R) (f : Fr Fs1 H1 F2 Fs2 H2) : Rel K H2 (OW F2 Fs2 (fun a => a ∈ F1 ∨ R a)) d v F1 := by
  obtain ⟨w, e, r'⟩ := rels1 (rels_hand (Rels.one r) s f)
  obtain rfl := (List.cons.inj e).1
  exact r'
theorem Sep.both (s : Sep H1 F1 Fs1 R) (f : Fr Fs1 H1 F2 Fs2 H2) (t : Sep H2 F2 Fs2 (fun a => a ∈ F1 ∨ R a)) : Sep H2 (F1 ++ F2) Fs2 R := by
  refine ⟨List.nodup_append.mpr ⟨s.nd, t.nd, fun a ha b hb e => t.r2 b hb (.inl (e ▸ ha))⟩, t.nds, t.dj, fun i a h z => ?_, fun i a h z => t.r1 i a h (.inr z), fun a h z => ?_, t.mu, fun a h => ?_⟩
  · rcases List.mem_append.mp z with z | z
    · exact t.r1 i a h (.inl z)
    · exact t.f1 i a h z
  · rcases List.mem_append.mp h with h | h
    · exact s.r2 a h z
    · exact t.r2 a h (.inr z)
  · rcases List.mem_append.mp h with h | h
    · obtain ⟨o, e, m⟩ := s.mf a h
      exact ⟨o, f.keep a o e fun i z => s.f1 i a z h, m⟩
    · exact t.mf a h
theorem ow_both (a : Addr) : OW F2 Fs2 (fun a => a ∈ F1 ∨ R a) a ↔ OW (F1 ++ F2) Fs2 R a := by
  unfold OW
  constructor
  · rintro (h | h | h | h)
    · exact .inl (List.mem_append_right _ h)
    · exact .inr (.inl h)
    · exact .inl (List.mem_append_left _ h)
    · exact .inr (.inr h)
  · rintro (h | h | h)
    · rcases List.mem_append.mp h with h | h
      · exact .inr (.inr (.inl h))
      · exact .inl h
    · exact .inr (.inl h)
    · exact .inr (.inr (.inr h))
end
section
variable {X : Cx} {e a b c : Expr} {es rest : List Expr} {p pa pb : DS → Option D} {q : DS → Option (List D)} {f fa fb : DS → Option (D × DS)} {g : DS → Option (List D × DS)} {ca : DS → Option Bool} {pos : Pos}
def eP (p : DS → Option D) : DS → Option (D × DS) := fun τ => (p τ).bind fun d => if d.imm = true ∨ d.nof = true then some (d, τ) else none
theorem lift_eP {K : PySem.W.Frag} {σ : L2.St} {H : Hp} {Q : VK} (h : liftE K (eP p) σ H Q) : liftF K p σ H Q := by
  obtain ⟨τ, Fs, R, d, τ', S, s, e, k⟩ := h
  obtain ⟨x, e1, e⟩ := bind2 (γ := Unit) e
  split at e
  · rename_i hx
    cases e
    refine ⟨τ, Fs, _, d, S, e1, fun v H' F sm r n => ?_⟩
    have ho : ∀ a, OW F Fs R a → OW [] Fs R a ∨ H a = none := fun a z => z.elim (fun z => .inr (n.2 a z)) fun z => .inl (.inr z)
    have nf : ∀ a, OW [] Fs R a → a ∉ F := fun a z w => S.own a z (n.2 a w)
    refine k v H' F Fs ⟨S.len, fun i d e => let ⟨v, e1, r⟩ := S.rel i d e; ⟨v, e1, (r.own ho).same sm⟩, fun a z => ?_⟩ ?_ ?_ (Fr.of_same sm n)
    · rcases z with z | z
      · obtain ⟨o, q, _⟩ := r.fp a z
        rw [q]; exact fun w => nomatch w
      · exact fun w => S.own a (.inr z) (sm.free w)
    · rcases hx with hx | hx
      · have z := r.imm hx
        subst z
        exact r
      · exact r.nof hx
    · exact ⟨n.1, s.nds, s.dj, fun i a h => nf a (.inr (.inl ⟨i, h⟩)), s.r1, fun a h z => nf a (.inr (.inr z)) h, fun i a h => let ⟨o, q, m⟩ := s.mu i a h; ⟨o, sm a o q, m⟩, r.fp⟩
  · cases e
theorem de_f (h : PFx X e p) : DEx X e (eP p) := h.weak fun σ H Q z => lift_eP z
/-- a name: what it owns is handed on, the slot then holds nothing; what owns nothing is shared -/
def eN (i : Nat) : DS → Option (D × DS) := fun τ => (pVar i τ).bind fun d => if d.imm = true then some (d, τ) else some (d, τ.set i none)
theorem srel_off {K : PySem.W.Frag} {H : Hp} {O : Addr → Prop} {σ : L2.St} {τ : DS} {Fs : Nat → List Addr} {i : Nat} (S : SRel K H O σ τ Fs) : SRel K H O σ (τ.set i none) (put Fs i []) := by
  refine ⟨by rw [List.length_set]; exact S.len, fun j e h => ?_, S.own⟩
  by_cases hj : i = j
  · subst hj
    by_cases hl : i < τ.length
    · rw [List.getElem?_set_self hl] at h; cases h
    · rw [List.getElem?_eq_none (by rw [List.length_set]; omega)] at h; cases h
  · rw [List.getElem?_set_ne hj] at h
    obtain ⟨w, e1, r1⟩ := S.rel j e h
    exact ⟨w, e1, by rw [put_ne (Ne.symm hj)]; exact r1⟩
theorem de_var {i : Nat} (h : PE X e (tVar i)) : DEx X e (eN i) := h.weak fun σ H Q ⟨τ, Fs, R, d, τ', S, s, e, k⟩ => by
  obtain ⟨x, e1, e⟩ := bind2 (γ := Unit) e
  obtain ⟨v, e2, r⟩ := S.rel i x (pVar_some e1)
  refine ⟨v, e2, ?_⟩
  split at e
  · rename_i hx
    cases e
    have z := r.imm hx
    rw [z] at r
    exact k v H [] Fs S r s Fr.refl
  · cases e
    have in' : ∀ j a, a ∈ put Fs i [] j → j ≠ i ∧ a ∈ Fs j := fun j a h => (put_mem h).elim (fun h => absurd h.2 List.not_mem_nil) id
    have hw : ∀ a, OW (Fs i) (put Fs i []) R a ↔ OW [] Fs R a := fun a => by
      constructor
      · rintro (h | ⟨j, h⟩ | h)
        · exact .inr (.inl ⟨i, h⟩)
        · exact .inr (.inl ⟨j, (in' j a h).2⟩)
        · exact .inr (.inr h)
      · rintro (h1 | ⟨j, h1⟩ | h1)
        · exact absurd h1 List.not_mem_nil
        · by_cases hj : j = i
          · rw [hj] at h1; exact .inl h1
          · exact .inr (.inl ⟨j, by rw [put_ne hj]; exact h1⟩)
        · exact .inr (.inr h1)
    refine k v H (Fs i) _ ((srel_off S).mono fun a z => (hw a).mp z) (r.own fun a z => .inl ((hw a).mp z)) ⟨s.nds i, fun j => ?_, fun j l a h1 h2 => s.dj j l a (in' j a h1).2 (in' l a h2).2, fun j a h w => (in' j a h).1 (s.dj j i a (in' j a h).2 w), fun j a h => s.r1 j a (in' j a h).2, fun a h => s.r1 i a h, fun j a h => s.mu j a (in' j a h).2, fun a h => s.mu i a h⟩
      ⟨fun _ _ q _ => q, fun a z => .inl (z.elim (fun z => ⟨i, z⟩) fun ⟨j, z⟩ => ⟨j, (in' j a z).2⟩)⟩
    by_cases hj : j = i
    · rw [hj, put_self]; exact List.nodup_nil
    · rw [put_ne hj]; exact s.nds j
theorem dn (i : Nat) {x : Str} {pos : Pos} (hN : X.N[i]? = some x := by rfl) (hv : Vis X.env.scope x := by first | exact Or.inl rfl | exact Or.inr (Or.inl rfl) | exact Or.inr (Or.inr rfl)) (hd : (x == ("__debug__" : Str)) = false := by decide)
    (hcd : (x == ("__classdict__" : Str)) = false := by decide) : DEx X (.Name x pos) (eN i) := de_var (pe_var hN hv hd hcd)
/-! ### one behind the other -/
def xNil : DS → Option (List D × DS) := fun τ => some ([], τ)
def xCons (f : DS → Option (D × DS)) (g : DS → Option (List D × DS)) : DS → Option (List D × DS) := fun τ => (f τ).bind fun r => (g r.2).bind fun s => some (r.1 :: s.1, s.2)
theorem x_nil : DAx X [] xNil := pa_nil.weak fun σ H Q ⟨τ, Fs, R, d, τ', S, s, e, k⟩ => by
  cases e
  exact k [] H [] Fs S Rels.nil s Fr.refl
theorem lift_seq {K : PySem.W.Frag} {σ : L2.St} {H : Hp} {τ τ1 : DS} {Fs : Nat → List Addr} {R : Addr → Prop} {f : DS → Option (D × DS)} {d : D} {Q : VK} (S : SRel K H (OW [] Fs R) σ τ Fs) (s : Sep H [] Fs R) (e : f τ = some (d, τ1))
    (k : ∀ v H1 F1 Fs1, SRel K H1 (OW [] Fs1 (fun a => a ∈ F1 ∨ R a)) σ τ1 Fs1 → Rel K H1 (OW F1 Fs1 R) d v F1 → Sep H1 F1 Fs1 R → Sep H1 [] Fs1 (fun a => a ∈ F1 ∨ R a) → Fr Fs H F1 Fs1 H1 → Q v H1) : liftE K f σ H Q :=
  ⟨τ, Fs, R, d, τ1, S, s, e, fun v H1 F1 Fs1 S1 r1 s1 f1 => k v H1 F1 Fs1 (S1.mono fun a z => (ow_hand a).mp z) r1 s1 s1.hand f1⟩
theorem x_cons (h : DEx X e f) (k : DAx X es g) (hs : starEach (e :: es) X.env = (false, eval e X.env) :: starEach es X.env := by rfl) : DAx X (e :: es) (xCons f g) := (pa_cons h k hs).weak fun σ H Q ⟨τ, Fs, R, d, τ', S, s, e, k⟩ => by
  obtain ⟨⟨x, τ1⟩, e1, e⟩ := bind2 (γ := Unit) e
  obtain ⟨⟨xs, τ2⟩, e2, e⟩ := bind2 (γ := Unit) e
  cases e
  refine lift_seq S s e1 fun v H1 F1 Fs1 S1 r1 s1 s1' f1 => ⟨τ1, Fs1, _, xs, τ2, S1, s1', e2, fun vs H2 F2 Fs2 S2 r2 s2 f2 => ?_⟩
  exact k (v :: vs) H2 (F1 ++ F2) Fs2 (S2.mono fun a z => (ow_both a).mpr z) ((Rels.cons (rel_hand r1 s1 f2) r2).own fun a z => .inl ((ow_both a).mpr z)) (s1.both f2 s2) (f1.both f2)
/-- the last part owns nothing: what the first ones own is let go -/
theorem let_go {K : PySem.W.Frag} {σ : L2.St} {H H' : Hp} {τ : DS} {F : List Addr} {Fs Fs0 : Nat → List Addr} {R : Addr → Prop} {d : D} {v : V} {Q : VK} (S : SRel K H' (OW F Fs R) σ τ Fs) (s : Sep H' F Fs R) (f : Fr Fs0 H F Fs H') {H2 : Hp} (sm : Same H' H2) (r : Rel K H2 (OW F Fs R) d v []) (hd : d.imm = true)
    (k : ∀ v H' F Fs', SRel K H' (OW F Fs' R) σ τ Fs' → Rel K H' (OW F Fs' R) d v F → Sep H' F Fs' R → Fr Fs0 H F Fs' H' → Q v H') : Q v H2 := by
  have f2 : Fr Fs0 H F Fs H2 := ⟨fun a o e n => sm a o (f.keep a o e n), f.new⟩
  exact k v H2 [] Fs ((S.same sm).mono fun a z => z.elim (fun z => absurd z List.not_mem_nil) .inr) (r.own fun a z => .inl (z.elim (fun z => absurd z List.not_mem_nil) .inr))
    ⟨List.nodup_nil, s.nds, s.dj, fun _ _ _ => List.not_mem_nil, s.r1, fun _ z => absurd z List.not_mem_nil, fun i a h => let ⟨o, q, m⟩ := s.mu i a h; ⟨o, sm a o q, m⟩, fun _ z => absurd z List.not_mem_nil⟩ (f2.sub fun _ z => absurd z List.not_mem_nil)
/-- two-place operations whose answers own nothing -/
def eOp (o : D → D → Option D) (fa fb : DS → Option (D × DS)) : DS → Option (D × DS) := fun τ => (fa τ).bind fun r => (fb r.2).bind fun s => (o r.1 s.1).bind fun d => if d.imm = true then some (d, s.2) else none
theorem liftE2 {K : PySem.W.Frag} {r : R2} {o : D → D → Option D} (hd : Op2 K r o) {σ : L2.St} {H : Hp} {Q : VK} (h : liftE K (eOp o fa fb) σ H Q) : tOp r (liftE K fa) (liftE K fb) σ H Q := by
  obtain ⟨τ, Fs, R, d, τ', S, s, e, k⟩ := h
  obtain ⟨⟨x, τ1⟩, e1, e⟩ := bind2 (γ := Unit) e
  obtain ⟨⟨y, τ2⟩, e2, e⟩ := bind2 (γ := Unit) e
  obtain ⟨z, e3, e⟩ := bind2 (γ := Unit) e
  split at e
  · rename_i hz
    cases e
    refine lift_seq S s e1 fun v H1 F1 Fs1 S1 r1 s1 s1' f1 => ⟨τ1, Fs1, _, y, τ2, S1, s1', e2, fun w H2 F2 Fs2 S2 r2 s2 f2 => ?_⟩
    refine hd H2 _ x y d v w F1 F2 _ (rel_hand r1 s1 f2) r2 e3 fun u H' F sm r n => ?_
    have z := r.imm hz
    subst z
    exact let_go (S2.mono fun a z => (ow_both a).mpr z) (s1.both f2 s2) (f1.both f2) sm (r.own fun a z => .inl ((ow_both a).mpr z)) hz k
  · cases e
theorem e_op {op : Operator} {r : R2} {o : D → D → Option D} (ho : OpR X (binaryOp op) r) (hd : Op2 X.K r o) (ha : DEx X a fa) (hb : DEx X b fb) : DEx X (.BinOp a op b pos) (eOp o fa fb) := (pe_op ho ha hb).weak fun σ H Q h => liftE2 hd h
theorem e_cmp {op : CmpOp} {r : R2} {o : D → D → Option D} (ho : OpR X (compareOp op) r) (hd : Op2 X.K r o) (ha : DEx X a fa) (hb : DEx X b fb) (hm : behindInMarks op b = false) : DEx X (.Compare a [op] [b] pos) (eOp o fa fb) := (pe_cmpR ho ha hb hm).weak fun σ H Q h => liftE2 hd h
theorem e_add (ha : DEx X a fa) (hb : DEx X b fb) : DEx X (.BinOp a .Add b pos) (eOp oAdd fa fb) := e_op (Or2 op_add op_catA) op2_add ha hb
theorem e_sub (ha : DEx X a fa) (hb : DEx X b fb) : DEx X (.BinOp a .Sub b pos) (eOp oSub fa fb) := e_op op_sub op2_I0 ha hb
theorem e_eq (hu : X.A.units + 64 < cLine) (ha : DEx X a fa) (hb : DEx X b fb) : DEx X (.Compare a [.Eq] [b] pos) (eOp oEq fa fb) := e_cmp (op_eqD hu) op2_eq ha hb (nomark _)
/-- calls of built-ins: answers that own nothing, new ones -/
def eCall (o : List D → Option D) (g : DS → Option (List D × DS)) : DS → Option (D × DS) := fun τ => (g τ).bind fun r => (o r.1).bind fun d => if d.imm = true then some (d, r.2) else none
theorem liftDA_cb {K : PySem.W.Frag} {r : List V → Hp → VK → Prop} {o : List D → Option D} (hd : OpA K r o) {σ : L2.St} {H : Hp} {Q : VK} (h : liftE K (eCall o g) σ H Q) : tCB r (liftDA K g) σ H Q := by
  obtain ⟨τ, Fs, R, d, τ', S, s, e, k⟩ := h
  obtain ⟨⟨xs, τ1⟩, e1, e⟩ := bind2 (γ := Unit) e
  obtain ⟨x, e2, e⟩ := bind2 (γ := Unit) e
  split at e
  · rename_i hz
    cases e
    refine ⟨τ, Fs, R, xs, τ1, S, s, e1, fun vs H1 F1 Fs1 S1 r1 s1 f1 => hd H1 _ xs vs F1 d _ r1 e2 fun u H' F sm r n => ?_⟩
    have z := r.imm hz
    subst z
    exact let_go S1 s1 f1 sm r hz k
  · cases e
theorem opB_A {K : PySem.W.Frag} {r : List V → Hp → VK → Prop} {o : List D → Option D} (h : OpB K r o) : OpA K r o := fun H O ds vs F d Q rr e k => h H O ds vs F d Q rr e fun v H' G s r n => k v H' G s r fun a ha => .inr (n.2 a ha)
section
variable {x : Str} {pn : Pos} {id T : String} {r : List V → Hp → VK → Prop} {o : List D → Option D}
theorem e_bi (hc : CallR X (.builtin id) r) (hd : OpA X.K r o) (hg : Gl X x) (hm : X.mg x = none) (hv : bootBuiltins x = some (.builtin id)) (ha : DAx X (e :: es) g) (hn : x ≠ "__name__" := by decide) (hdb : (x == ("__debug__" : Str)) = false := by decide)
    (he : starEach (e :: es) X.env = (false, eval e X.env) :: starEach es X.env := by rfl) (hpl : (backTo pos (starEach es X.env)).any (·.1) = false := by rfl) : DEx X (.Call (.Name x pn) (e :: es) [] pos) (eCall o g) :=
  (pe_callB hc hg hm hv ha hn hdb he hpl).weak fun σ H Q h => liftDA_cb hd h
theorem e_ty (hc : CallR X (.type T) r) (hd : OpA X.K r o) (hg : Gl X x) (hm : X.mg x = none) (hv : bootBuiltins x = some (.type T)) (ha : DAx X (e :: es) g) (hn : x ≠ "__name__" := by decide) (hdb : (x == ("__debug__" : Str)) = false := by decide)
    (he : starEach (e :: es) X.env = (false, eval e X.env) :: starEach es X.env := by rfl) (hpl : (backTo pos (starEach es X.env)).any (·.1) = false := by rfl) : DEx X (.Call (.Name x pn) (e :: es) [] pos) (eCall o g) :=
  (pe_callTy hc hg hm hv ha hn hdb he hpl).weak fun σ H Q h => liftDA_cb hd h
end
/-- displays -/
def eTup (g : DS → Option (List D × DS)) : DS → Option (D × DS) := fun τ => (g τ).bind fun r => if r.1.length ≤ 16777216 then some (.tup r.1, r.2) else none
def eLst (g : DS → Option (List D × DS)) : DS → Option (D × DS) := fun τ => (g τ).bind fun r => if r.1.length ≤ 16777216 then some (.lst true r.1, r.2) else none
theorem fr_same {Fs Fs' : Nat → List Addr} {H H1 H2 : Hp} {F : List Addr} (f : Fr Fs H F Fs' H1) (s : Same H1 H2) : Fr Fs H F Fs' H2 := ⟨fun a o e n => s a o (f.keep a o e n), f.new⟩
theorem sep_same {Fs : Nat → List Addr} {H1 H2 : Hp} {F : List Addr} {R : Addr → Prop} (s : Sep H1 F Fs R) (sm : Same H1 H2) : Sep H2 F Fs R :=
  ⟨s.nd, s.nds, s.dj, s.f1, s.r1, s.r2, fun i a h => let ⟨o, q, m⟩ := s.mu i a h; ⟨o, sm a o q, m⟩, fun a h => let ⟨o, q, m⟩ := s.mf a h; ⟨o, sm a o q, m⟩⟩
theorem e_tup {x1} (h : DAx X es g) : DEx X (.Tuple es x1 pos) (eTup g) := (pe_tup h).weak fun σ H Q ⟨τ, Fs, R, d, τ', S, s, e, k⟩ => by
  obtain ⟨⟨xs, τ1⟩, e1, e⟩ := bind2 (γ := Unit) e
  split at e
  · rename_i hl
    cases e
    refine ⟨τ, Fs, R, xs, _, S, s, e1, fun vs H1 F1 Fs1 S1 r1 s1 f1 => ⟨by rw [r1.len, sizeLine_eq]; exact hl, fun a ha => ?_⟩⟩
    have sm := same_upd (o := .tup vs) ha
    exact k _ _ F1 Fs1 (S1.same sm) (mk_tup (SqT.of upd_same) (r1.same sm)) (sep_same s1 sm) (fr_same f1 sm)
  · cases e
end
end DL
set_option Elab.async false
set_option linter.all false
set_option maxRecDepth 100000
set_option maxHeartbeats 2000000
/-! Calls of defs; comprehensions that may change what slots own; taking an item out of a list. -/
namespace DL
open PySem PySem.Spec PyProof.Rows L2
/-- a def that changes nothing: g of its arguments, read only -/
def spP (K : PySem.W.Frag) (g : List D → Option D) : Sp := fun vs H Q _ => ∃ ds r, Rels K H (fun _ => False) ds vs [] ∧ g ds = some r ∧ ∀ v H' F, Same H H' → Rel K H' (fun _ => False) r v F → New H F → Q v H'
/-- a def that may change its first argument -/
def spI (K : PySem.W.Frag) (g : List D → Option (D × D)) : Sp := fun vs H Q _ => ∃ v0 ws d0 F0 ds r d1, vs = v0 :: ws ∧ Rel K H (fun a => a ∈ F0) d0 v0 F0 ∧ Rels K H (fun a => a ∈ F0) ds ws [] ∧ F0.Nodup ∧ g (d0 :: ds) = some (r, d1) ∧
  ∀ v H' F F1, Rel K H' (fun a => a ∈ F ∨ a ∈ F1) r v F → Rel K H' (fun a => a ∈ F ∨ a ∈ F1) d1 v0 F1 → (F ++ F1).Nodup → (∀ a o, H a = some o → a ∉ F0 → H' a = some o) → (∀ a, a ∈ F ∨ a ∈ F1 → a ∈ F0 ∨ H a = none) → Q v H'
section
variable {X : Cx} {e a b : Expr} {es : List Expr} {p : DS → Option D} {q : DS → Option (List D)} {fb : DS → Option (D × DS)} {w : DS → Option (List D × DS)} {pos pn : Pos} {k : Nat} {f : Addr} {fd : FuncData} {ps : List Str} {x : Str}
def pFn (g : List D → Option D) (q : DS → Option (List D)) : DS → Option D := fun τ => (q τ).bind fun ds => (g (D.frzs ds)).bind fun r => if r.nof = true then some r else none
def eFn (g : List D → Option D) (w : DS → Option (List D × DS)) : DS → Option (D × DS) := fun τ => (w τ).bind fun s => (g (D.frzs s.1)).bind fun r => if r.nof = true then some (r, s.2) else none
def eFnI (g : List D → Option (D × D)) (i : Nat) (w : DS → Option (List D × DS)) : DS → Option (D × DS) := fun τ => (pVar i τ).bind fun _ => (w τ).bind fun s => (pVar i s.2).bind fun d0 => (g (d0 :: D.frzs s.1)).bind fun r => if r.1.nof = true ∧ r.2.nof = true then some (r.1, s.2.set i (some r.2)) else none
theorem rels_frz0 {K : PySem.W.Frag} {H : Hp} {O : Addr → Prop} {ds : List D} {vs : List V} {F : List Addr} (r : Rels K H O ds vs F) : Rels K H (fun _ => False) (D.frzs ds) vs [] := r.frz (fun _ _ z => z) fun _ z => z.elim
theorem f_fn {g : List D → Option D} (F : FnOk X.prog X.w X.K X.mg X.base CX0 k f fd ps (spP X.K g)) (hr : Room k X.A) (hg : Gl X x) (hm : X.mg x = some (.ref f)) (hk : PySem.W.keepIn X.K (.ref f) = true) (hb : Binds X.K fd ps [])
    (ha : PAx X (e :: es) q) (hdb : (x == ("__debug__" : Str)) = false := by decide) (he : starEach (e :: es) X.env = (false, eval e X.env) :: starEach es X.env := by rfl) (hpl : (backTo pos (starEach es X.env)).any (·.1) = false := by rfl) :
    PFx X (.Call (.Name x pn) (e :: es) [] pos) (pFn g q) := (pe_call F hr hg hm hk hb .nil pass0 ha hdb he hpl).weak fun σ H Q ⟨τ, Fs, O, d, S, e, kk⟩ => by
  obtain ⟨xs, e1, e⟩ := bind2 (γ := Unit) e
  obtain ⟨r, e2, e⟩ := bind2 (γ := Unit) e
  split at e
  · rename_i hn
    cases e
    refine ⟨τ, Fs, O, xs, S, e1, fun vs H1 F1 s1 r1 n1 => ?_⟩
    show spP X.K g (vs ++ []) H1 Q E0
    rw [List.append_nil]
    exact ⟨_, d, rels_frz0 r1, e2, fun v H' F s r n => kk v H' F (s1.trans s) (r.nof hn) (n.up s1)⟩
  · cases e
theorem e_fn {g : List D → Option D} (F : FnOk X.prog X.w X.K X.mg X.base CX0 k f fd ps (spP X.K g)) (hr : Room k X.A) (hg : Gl X x) (hm : X.mg x = some (.ref f)) (hk : PySem.W.keepIn X.K (.ref f) = true) (hb : Binds X.K fd ps [])
    (ha : DAx X (e :: es) w) (hdb : (x == ("__debug__" : Str)) = false := by decide) (he : starEach (e :: es) X.env = (false, eval e X.env) :: starEach es X.env := by rfl) (hpl : (backTo pos (starEach es X.env)).any (·.1) = false := by rfl) :
    DEx X (.Call (.Name x pn) (e :: es) [] pos) (eFn g w) := (pe_call F hr hg hm hk hb .nil pass0 ha hdb he hpl).weak fun σ H Q ⟨τ, Fs, R, d, τ', S, s, e, kk⟩ => by
  obtain ⟨⟨xs, τ1⟩, e1, e⟩ := bind2 (γ := Unit) e
  obtain ⟨r, e2, e⟩ := bind2 (γ := Unit) e
  split at e
  · rename_i hn
    cases e
    refine ⟨τ, Fs, R, xs, _, S, s, e1, fun vs H1 F1 Fs1 S1 r1 s1 f1 => ?_⟩
    show spP X.K g (vs ++ []) H1 Q E0
    rw [List.append_nil]
    refine ⟨_, d, rels_frz0 r1, e2, fun v H' F sm r n => ?_⟩
    have nf : ∀ a, OW F1 Fs1 R a → a ∉ F := fun a z w => S1.own a z (n.2 a w)
    have ho : ∀ a, OW F Fs1 R a → OW F1 Fs1 R a ∨ H1 a = none := fun a z => z.elim (fun z => .inr (n.2 a z)) fun z => .inl (.inr z)
    refine kk v H' F Fs1 ⟨S1.len, fun i d e => let ⟨v, e1, r⟩ := S1.rel i d e; ⟨v, e1, (r.own ho).same sm⟩, fun a z => ?_⟩ (r.nof hn) ⟨n.1, s1.nds, s1.dj, fun i a h => nf a (.inr (.inl ⟨i, h⟩)), s1.r1, fun a h z => nf a (.inr (.inr z)) h, fun i a h => let ⟨o, q, m⟩ := s1.mu i a h; ⟨o, sm a o q, m⟩, r.fp⟩ ⟨fun a o q n => sm a o (f1.keep a o q n), fun a z => ?_⟩
    · rcases z with z | z
      · obtain ⟨o, q, _⟩ := r.fp a z
        rw [q]; exact fun w => nomatch w
      · exact fun w => S1.own a (.inr z) (sm.free w)
    · rcases z with z | z
      · by_cases h : ∃ i, a ∈ Fs i
        · exact .inl h
        · refine .inr ?_
          cases q : H a with
          | none => rfl
          | some o =>
            have w := f1.keep a o q fun i w => h ⟨i, w⟩
            rw [n.2 a z] at w; cases w
      · exact f1.new a (.inr z)
  · cases e
theorem e_fnI {g : List D → Option (D × D)} {i : Nat} {xi : Str} {pi : Pos} (F : FnOk X.prog X.w X.K X.mg X.base CX0 k f fd ps (spI X.K g)) (hr : Room k X.A) (hg : Gl X x) (hm : X.mg x = some (.ref f)) (hk : PySem.W.keepIn X.K (.ref f) = true) (hb : Binds X.K fd ps [])
    (hi : PE X (.Name xi pi) (tVar i)) (ha : DAx X es w) (hdb : (x == ("__debug__" : Str)) = false := by decide) (he : starEach (.Name xi pi :: es) X.env = (false, eval (.Name xi pi) X.env) :: starEach es X.env := by rfl) (hpl : (backTo pos (starEach es X.env)).any (·.1) = false := by rfl) :
    DEx X (.Call (.Name x pn) (.Name xi pi :: es) [] pos) (eFnI g i w) := (pe_call F hr hg hm hk hb .nil pass0 (pa_cons hi ha he) hdb he hpl).weak fun σ H Q ⟨τ, Fs, R, d, τ', S, s, e, kk⟩ => by
  obtain ⟨dd, e0, e⟩ := bind2 (γ := Unit) e
  obtain ⟨⟨xs, τ1⟩, e1, e⟩ := bind2 (γ := Unit) e
  obtain ⟨d0, e2, e⟩ := bind2 (γ := Unit) e
  obtain ⟨⟨r, d1⟩, e3, e⟩ := bind2 (γ := Unit) e
  split at e
  · rename_i hn
    cases e
    obtain ⟨v0, ev, _⟩ := S.rel i dd (pVar_some e0)
    refine ⟨v0, ev, τ, Fs, R, xs, τ1, S, s, e1, fun vs H1 F1 Fs1 S1 r1 s1 f1 => ?_⟩
    obtain ⟨v0', ev', r0⟩ := S1.rel i d0 (pVar_some e2)
    rw [ev] at ev'
    obtain rfl := Option.some.inj (Option.some.inj ev')
    show spI X.K g ((v0 :: vs) ++ []) H1 Q E0
    rw [List.append_nil]
    refine ⟨v0, vs, d0, Fs1 i, _, r, d1, rfl, r0.own fun a z => .inl (.inr (.inl ⟨i, z⟩)), r1.frz (fun a h z => s1.f1 i a z h) fun a z => .inl (.inr (.inl ⟨i, z⟩)), s1.nds i, e3, fun v H' F F0 rr rd nd fk fn => ?_⟩
    obtain ⟨nd1, nd2, nd3⟩ := List.nodup_append.mp nd
    have in' : ∀ j a, a ∈ put Fs1 i F0 j → (j = i ∧ a ∈ F0) ∨ (j ≠ i ∧ a ∈ Fs1 j) := fun j a => put_mem
    have old : ∀ a, a ∈ F ∨ a ∈ F0 → ∀ j, j ≠ i → a ∉ Fs1 j := fun a z j hj w => by
      rcases fn a z with h | h
      · exact hj (s1.dj j i a w h)
      · obtain ⟨o, q, _⟩ := s1.mu j a w
        rw [h] at q; cases q
    have oR : ∀ a, a ∈ F ∨ a ∈ F0 → ¬ R a := fun a z w => by
      rcases fn a z with h | h
      · exact s1.r1 i a h w
      · exact S1.own a (.inr (.inr w)) h
    have ho : ∀ a, OW F (put Fs1 i F0) R a → OW F1 Fs1 R a ∨ H1 a = none := fun a z => by
      rcases z with z | ⟨j, z⟩ | z
      · exact (fn a (.inl z)).imp (fun z => .inr (.inl ⟨i, z⟩)) id
      · rcases in' j a z with ⟨_, z⟩ | ⟨_, z⟩
        · exact (fn a (.inr z)).imp (fun z => .inr (.inl ⟨i, z⟩)) id
        · exact .inl (.inr (.inl ⟨j, z⟩))
      · exact .inl (.inr (.inr z))
    have keepMu : ∀ a o, H1 a = some o → ¬ Mut (some o) → H' a = some o := fun a o q m => fk a o q fun w => by
      obtain ⟨o', q', m'⟩ := s1.mu i a w
      rw [q] at q'; cases q'; exact m m'
    refine kk v H' F (put Fs1 i F0) ⟨?_, fun j dj h => ?_, fun a z => ?_⟩ (rr.nof hn.1) ⟨nd1, fun j => ?_, fun j l a h1 h2 => ?_, fun j a h w => ?_, fun j a h => ?_, fun a h => oR a (.inl h), fun j a h => ?_, rr.fp⟩ ⟨fun a o q n => fk a o (f1.keep a o q n) fun w => ?_, fun a z => ?_⟩
    · rw [List.length_set]; exact S1.len
    · by_cases hj : i = j
      · subst hj
        by_cases hl : i < τ1.length
        · rw [List.getElem?_set_self hl] at h
          obtain rfl := Option.some.inj (Option.some.inj h)
          exact ⟨v0, ev, by rw [put_self]; exact rd.nof hn.2⟩
        · rw [List.getElem?_eq_none (by rw [List.length_set]; exact Nat.le_of_not_lt hl)] at h; cases h
      · rw [List.getElem?_set_ne hj] at h
        obtain ⟨w, ew, rw'⟩ := S1.rel j dj h
        refine ⟨w, ew, ?_⟩
        rw [put_ne (Ne.symm hj)]
        exact rw'.keep keepMu (fun a o q m => fk a o q fun z => hj (s1.dj i j a z m)) (fun a o q m => fk a o q fun z => m (.inr (.inl ⟨i, z⟩))) ho
    · rcases z with z | ⟨j, z⟩ | z
      · obtain ⟨o, q, _⟩ := rr.fp a z
        rw [q]; exact fun w => nomatch w
      · rcases in' j a z with ⟨_, z⟩ | ⟨hj, z⟩
        · obtain ⟨o, q, _⟩ := rd.fp a z
          rw [q]; exact fun w => nomatch w
        · obtain ⟨o, q, _⟩ := s1.mu j a z
          rw [fk a o q fun w => hj (s1.dj j i a z w)]; exact fun w => nomatch w
      · cases q : H1 a with
        | none => exact absurd q (S1.own a (.inr (.inr z)))
        | some o => rw [fk a o q fun w => s1.r1 i a w z]; exact fun w => nomatch w
    · by_cases hj : j = i
      · rw [hj, put_self]; exact nd2
      · rw [put_ne hj]; exact s1.nds j
    · rcases in' j a h1 with ⟨e1, h1⟩ | ⟨e1, h1⟩
      · rcases in' l a h2 with ⟨e2, h2⟩ | ⟨e2, h2⟩
        · rw [e1, e2]
        · exact absurd h2 (old a (.inr h1) l e2)
      · rcases in' l a h2 with ⟨e2, h2⟩ | ⟨e2, h2⟩
        · exact absurd h1 (old a (.inr h2) j e1)
        · exact s1.dj j l a h1 h2
    · rcases in' j a h with ⟨e1, h1⟩ | ⟨e1, h1⟩
      · exact nd3 a w a h1 rfl
      · exact old a (.inl w) j e1 h1
    · rcases in' j a h with ⟨e1, h1⟩ | ⟨e1, h1⟩
      · exact oR a (.inr h1)
      · exact s1.r1 j a h1
    · rcases in' j a h with ⟨e1, h1⟩ | ⟨e1, h1⟩
      · exact rd.fp a h1
      · obtain ⟨o, q, m⟩ := s1.mu j a h1
        exact ⟨o, fk a o q fun w => e1 (s1.dj j i a h1 w), m⟩
    · exact (f1.new a (.inr ⟨i, w⟩)).elim (fun ⟨j, w⟩ => n j w) fun w => by rw [q] at w; cases w
    · have up : ∀ a, (∃ i, a ∈ Fs1 i) ∨ H1 a = none → (∃ i, a ∈ Fs i) ∨ H a = none := fun a z => by
        rcases z with ⟨i, z⟩ | z
        · exact f1.new a (.inr ⟨i, z⟩)
        · by_cases h : ∃ i, a ∈ Fs i
          · exact .inl h
          · refine .inr ?_
            cases q : H a with
            | none => rfl
            | some o => rw [f1.keep a o q fun i w => h ⟨i, w⟩] at z; cases z
      refine up a ?_
      rcases z with z | ⟨j, z⟩
      · exact (fn a (.inl z)).imp (fun z => ⟨i, z⟩) id
      · rcases in' j a z with ⟨_, z⟩ | ⟨_, z⟩
        · exact (fn a (.inr z)).imp (fun z => ⟨i, z⟩) id
        · exact .inl ⟨j, z⟩
  · cases e
/-- x[i] where the index may change something -/
def eIx (i : Nat) (fb : DS → Option (D × DS)) : DS → Option (D × DS) := fun τ => (pVar i τ).bind fun _ => (fb τ).bind fun s => (pVar i s.2).bind fun d0 => (oIx d0 s.1).bind fun r => if r.imm = true then some (r, s.2) else none
theorem e_ix {i : Nat} {xi : Str} {pi : Pos} (hi : PE X (.Name xi pi) (tVar i)) (hb : DEx X b fb) (hs : PlainIx b := by exact fun _ _ => rfl) : DEx X (.Subscript (.Name xi pi) b pos) (eIx i fb) := (pe_ix (ix_list.or ix_tup) hi hb hs).weak fun σ H Q ⟨τ, Fs, R, d, τ', S, s, e, kk⟩ => by
  obtain ⟨dd, e0, e⟩ := bind2 (γ := Unit) e
  obtain ⟨⟨y, τ1⟩, e1, e⟩ := bind2 (γ := Unit) e
  obtain ⟨d0, e2, e⟩ := bind2 (γ := Unit) e
  obtain ⟨r, e3, e⟩ := bind2 (γ := Unit) e
  split at e
  · rename_i hn
    cases e
    obtain ⟨v0, ev, _⟩ := S.rel i dd (pVar_some e0)
    refine ⟨v0, ev, τ, Fs, R, y, _, S, s, e1, fun v1 H1 F1 Fs1 S1 r1 s1 f1 => ?_⟩
    obtain ⟨v0', ev', r0⟩ := S1.rel i d0 (pVar_some e2)
    rw [ev] at ev'
    obtain rfl := Option.some.inj (Option.some.inj ev')
    refine op2_ix H1 _ d0 y d v0 v1 _ _ _ r0 r1 e3 fun u H' F sm r n => ?_
    have z := r.imm hn
    subst z
    exact let_go S1 s1 f1 sm r hn kk
  · cases e
end
end DL
set_option Elab.async false
set_option linter.all false
set_option maxRecDepth 100000
set_option maxHeartbeats 2000000
/-! Statements by data; a def by its body. -/
namespace DL
open PySem PySem.Spec PyProof.Rows L2
inductive Out where
  | nx (τ : DS) | rt (d : D) (τ : DS) | bk (τ : DS) | ct (τ : DS)
def Kp (W : List Nat) (σ σ' : L2.St) : Prop := ∀ i, i ∉ W → σ'[i]? = σ[i]?
def EndOk (K : PySem.W.Frag) (W : List Nat) (N : Ends) (σ : L2.St) (H : Hp) (Fs : Nat → List Addr) (R : Addr → Prop) : Out → Prop
  | .nx τ' => ∀ σ' H' Fs', SRel K H' (OW [] Fs' R) σ' τ' Fs' → Sep H' [] Fs' R → Fr Fs H [] Fs' H' → Kp W σ σ' → N.nx σ' H'
  | .bk τ' => ∀ σ' H' Fs', SRel K H' (OW [] Fs' R) σ' τ' Fs' → Sep H' [] Fs' R → Fr Fs H [] Fs' H' → Kp W σ σ' → N.bk σ' H'
  | .ct τ' => ∀ σ' H' Fs', SRel K H' (OW [] Fs' R) σ' τ' Fs' → Sep H' [] Fs' R → Fr Fs H [] Fs' H' → Kp W σ σ' → N.ct σ' H'
  | .rt d τ' => ∀ v σ' H' F Fs', SRel K H' (OW F Fs' R) σ' τ' Fs' → Rel K H' (OW F Fs' R) d v F → Sep H' F Fs' R → Fr Fs H F Fs' H' → Kp W σ σ' → N.rt v H'
def liftS (K : PySem.W.Frag) (W : List Nat) (f : DS → Option Out) : TS := fun N σ H => ∃ τ Fs R out, SRel K H (OW [] Fs R) σ τ Fs ∧ Sep H [] Fs R ∧ f τ = some out ∧ EndOk K W N σ H Fs R out
abbrev DSx (X : Cx) (st : Stmt) (W : List Nat) (f : DS → Option Out) : Prop := PS X st (liftS X.K W f)
abbrev DSs (X : Cx) (sts : List Stmt) (W : List Nat) (f : DS → Option Out) : Prop := PSs X sts (liftS X.K W f)
section
variable {K : PySem.W.Frag} {W W' : List Nat} {N : Ends} {σ σ1 : L2.St} {H H1 : Hp} {Fs Fs1 : Nat → List Addr} {R : Addr → Prop} {out : Out}
theorem Kp.refl : Kp W σ σ := fun _ _ => rfl
theorem Kp.trans {σ2 : L2.St} (a : Kp W σ σ1) (b : Kp W' σ1 σ2) : Kp (W ++ W') σ σ2 := fun i h => (b i fun z => h (List.mem_append_right _ z)).trans (a i fun z => h (List.mem_append_left _ z))
theorem Kp.wide (a : Kp W σ σ1) (h : ∀ i ∈ W, i ∈ W') : Kp W' σ σ1 := fun i z => a i fun w => z (h i w)
/-- some steps ahead -/
theorem EndOk.ahead (h : EndOk K (W ++ W') N σ H Fs R out) (f : Fr Fs H [] Fs1 H1) (k : Kp W σ σ1) : EndOk K W' N σ1 H1 Fs1 R out := by
  cases out with
  | nx τ => exact fun σ' H' Fs' S s g kp => h σ' H' Fs' S s (f.trans g) (k.trans kp)
  | bk τ => exact fun σ' H' Fs' S s g kp => h σ' H' Fs' S s (f.trans g) (k.trans kp)
  | ct τ => exact fun σ' H' Fs' S s g kp => h σ' H' Fs' S s (f.trans g) (k.trans kp)
  | rt d τ => exact fun v σ' H' F Fs' S r s g kp => h v σ' H' F Fs' S r s (f.trans g) (k.trans kp)
theorem EndOk.wide (h : EndOk K W' N σ H Fs R out) (k : ∀ i ∈ W, i ∈ W') : EndOk K W N σ H Fs R out := by
  cases out with
  | nx τ => exact fun σ' H' Fs' S s g kp => h σ' H' Fs' S s g (kp.wide k)
  | bk τ => exact fun σ' H' Fs' S s g kp => h σ' H' Fs' S s g (kp.wide k)
  | ct τ => exact fun σ' H' Fs' S s g kp => h σ' H' Fs' S s g (kp.wide k)
  | rt d τ => exact fun v σ' H' F Fs' S r s g kp => h v σ' H' F Fs' S r s g (kp.wide k)
theorem EndOk.same (h : EndOk K W N σ H Fs R out) (s : Same H H1) : EndOk K W N σ H1 Fs R out :=
  EndOk.ahead (W := []) h ⟨fun a o e _ => s a o e, fun a z => z.elim (fun z => absurd z List.not_mem_nil) .inl⟩ Kp.refl
end
section
variable {X : Cx} {st : Stmt} {rest sts : List Stmt} {W W' : List Nat} {f g : DS → Option Out} {e c : Expr} {fe : DS → Option (D × DS)} {ca : DS → Option Bool} {pos : Pos}
/-! ### one behind the other -/
def fNil : DS → Option Out := fun τ => some (.nx τ)
def fSeq (f g : DS → Option Out) : DS → Option Out := fun τ => (f τ).bind fun o => match o with
  | .nx τ' => g τ'
  | .rt d τ' => some (.rt d τ')
  | .bk τ' => some (.bk τ')
  | .ct τ' => some (.ct τ')
theorem ss_nil : DSs X [] [] fNil := pss_nil.weak fun N σ H ⟨τ, Fs, R, out, S, s, e, k⟩ => by
  cases e
  exact k σ H Fs S s Fr.refl Kp.refl
theorem ss_cons (h1 : DSx X st W f) (h2 : DSs X rest W' g) : DSs X (st :: rest) (W ++ W') (fSeq f g) := (pss_cons h1 h2).weak fun N σ H ⟨τ, Fs, R, out, S, s, e, k⟩ => by
  obtain ⟨o1, e1, e2⟩ := bind2 (γ := Unit) e
  refine ⟨τ, Fs, R, o1, S, s, e1, ?_⟩
  cases o1 with
  | nx τ1 => exact fun σ' H' Fs' S' s' f' kp => ⟨τ1, Fs', R, out, S', s', e2, k.ahead f' kp⟩
  | rt d τ1 =>
    cases e2
    exact fun v σ' H' F Fs' S r s g kp => k v σ' H' F Fs' S r s g (kp.wide fun i => List.mem_append_left _)
  | bk τ1 =>
    cases e2
    exact fun σ' H' Fs' S s g kp => k σ' H' Fs' S s g (kp.wide fun i => List.mem_append_left _)
  | ct τ1 =>
    cases e2
    exact fun σ' H' Fs' S s g kp => k σ' H' Fs' S s g (kp.wide fun i => List.mem_append_left _)
theorem ss_one (h1 : DSx X st W f) : DSs X [st] W f := pss_one h1
theorem ss_wide (h1 : DSs X sts W f) (h : ∀ i ∈ W, i ∈ W') : DSs X sts W' f := h1.weak fun N σ H ⟨τ, Fs, R, out, S, s, e, k⟩ => ⟨τ, Fs, R, out, S, s, e, k.wide h⟩
/-- from here on what slot i holds is read only -/
def fFrz (i : Nat) (f : DS → Option Out) : DS → Option Out := fun τ => (pVar i τ).bind fun d => f (τ.set i (some d.frz))
theorem sep_put {H : Hp} {F G : List Addr} {Fs : Nat → List Addr} {R : Addr → Prop} {i : Nat} (s : Sep H F Fs R) (hG : ∀ a ∈ G, a ∈ Fs i ∨ a ∈ F) (nd : G.Nodup) (F' : List Addr) (hF : ∀ a ∈ F', a ∈ F ∧ a ∉ G) (nd' : F'.Nodup) : Sep H F' (put Fs i G) R := by
  have cs : ∀ j a, a ∈ put Fs i G j → (j = i ∧ a ∈ G) ∨ (j ≠ i ∧ a ∈ Fs j) := fun j a => put_mem
  have mm : ∀ j a, a ∈ put Fs i G j → (∃ j, a ∈ Fs j) ∨ a ∈ F := fun j a h => by
    rcases cs j a h with ⟨_, h⟩ | ⟨_, h⟩
    · exact (hG a h).imp (fun z => ⟨i, z⟩) id
    · exact .inl ⟨j, h⟩
  refine ⟨nd', fun j => ?_, fun j l a h1 h2 => ?_, fun j a h z => ?_, fun j a h => ?_, fun a h => s.r2 a (hF a h).1, fun j a h => ?_, fun a h => s.mf a (hF a h).1⟩
  · by_cases hj : j = i
    · rw [hj, put_self]; exact nd
    · rw [put_ne hj]; exact s.nds j
  · rcases cs j a h1 with ⟨e1, h1⟩ | ⟨e1, h1⟩
    · rcases cs l a h2 with ⟨e2, h2⟩ | ⟨e2, h2⟩
      · rw [e1, e2]
      · rcases hG a h1 with z | z
        · exact absurd (s.dj l i a h2 z) e2
        · exact absurd z (s.f1 l a h2)
    · rcases cs l a h2 with ⟨e2, h2⟩ | ⟨e2, h2⟩
      · rcases hG a h2 with z | z
        · exact absurd (s.dj j i a h1 z) e1
        · exact absurd z (s.f1 j a h1)
      · exact s.dj j l a h1 h2
  · rcases cs j a h with ⟨_, h⟩ | ⟨_, h⟩
    · exact (hF a z).2 h
    · exact s.f1 j a h (hF a z).1
  · rcases mm j a h with ⟨l, h⟩ | h
    · exact s.r1 l a h
    · exact s.r2 a h
  · rcases mm j a h with ⟨l, h⟩ | h
    · exact s.mu l a h
    · exact s.mf a h
theorem ow_put {F G F' : List Addr} {Fs : Nat → List Addr} {R : Addr → Prop} {i : Nat} (hG : ∀ a ∈ G, a ∈ Fs i ∨ a ∈ F) (hF : ∀ a ∈ F', a ∈ F) (a : Addr) (h : OW F' (put Fs i G) R a) : OW F Fs R a := by
  rcases h with h | ⟨j, h⟩ | h
  · exact .inl (hF a h)
  · rcases put_mem h with ⟨_, h⟩ | ⟨_, h⟩
    · exact (hG a h).elim (fun z => .inr (.inl ⟨i, z⟩)) .inl
    · exact .inr (.inl ⟨j, h⟩)
  · exact .inr (.inr h)
theorem srel_put {K : PySem.W.Frag} {H : Hp} {O : Addr → Prop} {σ : L2.St} {τ : DS} {Fs : Nat → List Addr} {i : Nat} {d : D} {v : V} {F : List Addr} (S : SRel K H O σ τ Fs) (hv : σ[i]? = some (some v)) (r : Rel K H O d v F) : SRel K H O σ (τ.set i (some d)) (put Fs i F) := by
  have z := srel_set (i := i) S r
  have e : σ.set i (some v) = σ := by
    refine List.ext_getElem? fun j => ?_
    by_cases hj : i = j
    · subst hj
      rw [List.getElem?_set_self (List.getElem?_eq_some_iff.mp hv).1, hv]
    · rw [List.getElem?_set_ne hj]
  rw [e] at z
  exact z
theorem ss_frz (i : Nat) (h : DSs X sts W f) : DSs X sts W (fFrz i f) := h.weak fun N σ H ⟨τ, Fs, R, out, S, s, e, k⟩ => by
  obtain ⟨d, e1, e2⟩ := bind2 (γ := Unit) e
  obtain ⟨v, ev, r⟩ := S.rel i d (pVar_some e1)
  have hG : ∀ a ∈ ([] : List Addr), a ∈ Fs i ∨ a ∈ ([] : List Addr) := fun a z => absurd z List.not_mem_nil
  have r' : Rel X.K H (OW [] (put Fs i []) R) d.frz v [] := r.frz (fun a h z => by
    rcases z with z | ⟨j, z⟩ | z
    · exact absurd z List.not_mem_nil
    · rcases put_mem z with ⟨_, z⟩ | ⟨hj, z⟩
      · exact absurd z List.not_mem_nil
      · exact hj (s.dj j i a z h)
    · exact s.r1 i a h z) fun a z => .inl (ow_put hG (fun _ => id) a z)
  refine ⟨_, put Fs i [], R, out, srel_put (S.mono fun a z => ow_put hG (fun _ => id) a z) ev r', sep_put s hG List.nodup_nil [] (fun a z => absurd z List.not_mem_nil) List.nodup_nil, e2, ?_⟩
  exact EndOk.ahead (W := []) k ⟨fun _ _ q _ => q, fun a z => .inl (z.elim (fun z => absurd z List.not_mem_nil) fun ⟨j, z⟩ => (put_mem z).elim (fun w => absurd w.2 List.not_mem_nil) fun w => ⟨j, w.2⟩)⟩ Kp.refl
/-! ### small ones -/
theorem s_pass : DSx X (.Pass pos) [] fNil := ps_pass.weak fun N σ H ⟨τ, Fs, R, out, S, s, e, k⟩ => by
  cases e
  exact k σ H Fs S s Fr.refl Kp.refl
theorem s_break : DSx X (.Break pos) [] (fun τ => some (.bk τ)) := ps_break.weak fun N σ H ⟨τ, Fs, R, out, S, s, e, k⟩ => by
  cases e
  exact k σ H Fs S s Fr.refl Kp.refl
theorem s_continue : DSx X (.Continue pos) [] (fun τ => some (.ct τ)) := ps_continue.weak fun N σ H ⟨τ, Fs, R, out, S, s, e, k⟩ => by
  cases e
  exact k σ H Fs S s Fr.refl Kp.refl
theorem s_never : DSx X st [] (fun _ => none) := ps_never.weak fun N σ H ⟨τ, Fs, R, out, S, s, e, k⟩ => by cases e
theorem ss_never : DSs X sts [] (fun _ => none) := pss_never.weak fun N σ H ⟨τ, Fs, R, out, S, s, e, k⟩ => by cases e
def fRet (fe : DS → Option (D × DS)) : DS → Option Out := fun τ => (fe τ).bind fun r => some (.rt r.1 r.2)
theorem s_ret (h : DEx X e fe) : DSx X (.Return (some e) pos) [] (fRet fe) := (ps_ret h).weak fun N σ H ⟨τ, Fs, R, out, S, s, e, k⟩ => by
  obtain ⟨⟨d, τ1⟩, e1, e2⟩ := bind2 (γ := Unit) e
  cases e2
  exact ⟨τ, Fs, R, d, τ1, S, s, e1, fun v H' F Fs' S' r s' f' => k v σ H' F Fs' S' r s' f' Kp.refl⟩
theorem s_retN : DSx X (.Return none pos) [] (fun τ => some (.rt .non τ)) := ps_retN.weak fun N σ H ⟨τ, Fs, R, out, S, s, e, k⟩ => by
  cases e
  exact k .non σ H [] Fs S mk_non s Fr.refl Kp.refl
def fExp (fe : DS → Option (D × DS)) : DS → Option Out := fun τ => (fe τ).bind fun r => some (.nx r.2)
theorem s_expr (h : DEx X e fe) (hs : swapsWith e none pos.line X.env = pure false := by rfl) : DSx X (.Expr e pos) [] (fExp fe) := (ps_expr h hs).weak fun N σ H ⟨τ, Fs, R, out, S, s, e, k⟩ => by
  obtain ⟨⟨d, τ1⟩, e1, e2⟩ := bind2 (γ := Unit) e
  cases e2
  exact ⟨τ, Fs, R, d, τ1, S, s, e1, fun v H' F Fs' S' r s' f' => k σ H' Fs' (S'.mono fun a z => z.elim (fun z => absurd z List.not_mem_nil) .inr) s'.drop (f'.sub fun _ z => absurd z List.not_mem_nil) Kp.refl⟩
/-! ### if -/
def fIf (c : DS → Option Bool) (f g : DS → Option Out) : DS → Option Out := fun τ => (c τ).bind fun k => if k = true then f τ else g τ
theorem s_if (hc : PTx X c ca) (h1 : DSs X sts W f) (h2 : DSs X rest W' g) : DSx X (.If c sts rest pos) (W ++ W') (fIf ca f g) := (ps_if hc h1 h2).weak fun N σ H ⟨τ, Fs, R, out, S, s, e, k⟩ => by
  obtain ⟨b, e1, e2⟩ := bind2 (γ := Unit) e
  refine ⟨τ, Fs, _, b, S, e1, fun H1 sm => ?_⟩
  cases b with
  | true => exact iteT ⟨τ, Fs, R, out, S.same sm, sep_same s sm, e2, (k.same sm).wide fun i => List.mem_append_left _⟩
  | false => exact iteF ⟨τ, Fs, R, out, S.same sm, sep_same s sm, e2, (k.same sm).wide fun i => List.mem_append_right _⟩
/-! ### name = e -/
def fSet (i : Nat) (fe : DS → Option (D × DS)) : DS → Option Out := fun τ => (fe τ).bind fun r => some (.nx (r.2.set i (some r.1)))
theorem kp_set {σ : L2.St} {i : Nat} {v : Option V} : Kp [i] σ (σ.set i v) := fun j h => List.getElem?_set_ne fun e => h (by rw [e]; exact List.mem_cons_self)
theorem set_core {K : PySem.W.Frag} {i : Nat} {te : TE} {N : Ends} {σ : L2.St} {H : Hp} (ht : ∀ σ H Q, liftE K fe σ H Q → te σ H Q) (h : liftS K [i] (fSet i fe) N σ H) : tAsg te (gName i) N σ H := by
  obtain ⟨τ, Fs, R, out, S, s, e, k⟩ := h
  obtain ⟨⟨d, τ1⟩, e1, e2⟩ := bind2 (γ := Unit) e
  cases e2
  refine ht _ _ _ ⟨τ, Fs, R, d, τ1, S, s, e1, fun v H' F Fs' S' r s' f' => ?_⟩
  have hG : ∀ a ∈ F, a ∈ Fs' i ∨ a ∈ F := fun a z => .inr z
  refine k _ H' (put Fs' i F) ((srel_set S' r).mono fun a z => ow_put hG (fun a z => absurd z List.not_mem_nil) a z) (sep_put s' hG s'.nd [] (fun a z => absurd z List.not_mem_nil) List.nodup_nil) ⟨f'.keep, fun a z => ?_⟩ kp_set
  rcases z with z | ⟨j, z⟩
  · exact absurd z List.not_mem_nil
  · rcases put_mem z with ⟨_, z⟩ | ⟨_, z⟩
    · exact f'.new a (.inl z)
    · exact f'.new a (.inr ⟨j, z⟩)
theorem s_set {i : Nat} {x : Str} {pos' : Pos} (hN : X.N.Nodup) (hi : X.N[i]? = some x) (hx : Loc X.env.scope x) (he : DEx X e fe) (hs : swapsWith e (some (.Name x pos')) pos.line X.env = pure false := by rfl) (hf : X.fn x = true ∨ X.env.scope.names.lookup x = some .local := by first | exact .inl rfl | exact .inr rfl | assumption) :
    DSx X (.Assign [.Name x pos'] e pos) [i] (fSet i fe) := (ps_set hN hi hx he hs hf).weak fun N σ H h => set_core (fun _ _ _ q => q) h
/-- name = [.. for ..] -/
theorem s_setLc {i : Nat} {y : Str} {py : Pos} {elt tg iter : Expr} {ifs : List Expr} {scope : Scope} {own : List (Str × Nat)} {pos spos : Pos} {q : DS → Option (List D)} {g : TG} {gd : D → DS → Option DS} {c : DS → Option Bool} {p : DS → Option D} (hc : X.calm = true) (hN : X.N.Nodup) (hy : X.N[i]? = some y) (hyl : X.env.scope.names.lookup y = some .local)
    (hsw : swapsWith (.ListComp elt [⟨tg, iter, ifs, 0⟩] scope pos) (some (.Name y py)) spos.line X.env = pure true) (hi : PIx X tg iter q) (ok : BlkOk X.N X.env.scope scope own) (hct : CT X.K (own.map (·.2)) g gd)
    (hg : ∀ (s : Shared) (H : Hp) (C : Addr) (cl : List (Str × Addr)) (fp : List Addr), PG (X.blk s H scope (compEnvC scope cl C X.env) fp) tg g) (ht : ∀ (s : Shared) (H : Hp) (C : Addr) (cl : List (Str × Addr)) (fp : List Addr), PTsx (X.blk s H scope (compEnvC scope cl C X.env) fp) ifs c)
    (he : ∀ (s : Shared) (H : Hp) (C : Addr) (cl : List (Str × Addr)) (fp : List Addr), PFx (X.blk s H scope (compEnvC scope cl C X.env) fp) elt p) (hs : ∀ x, foldedSetIterable iter X.env x = pure x := by intro _; rfl) :
    DSx X (.Assign [.Name y py] (.ListComp elt [⟨tg, iter, ifs, 0⟩] scope pos) spos) [i] (fSet i (eP (pLc q gd c p (own.map (·.2))))) :=
  (ps_setLc hc hN hy hyl hsw hi ok hg ht he hs).weak fun N σ H h => set_core (fun σ H Q q => lift_lc hct (lift_eP q)) h
end
end DL
set_option Elab.async false
set_option linter.all false
set_option maxRecDepth 100000
set_option maxHeartbeats 2000000
/-! Loops, more assignments, list methods; a def by its body. -/
namespace DL
open PySem PySem.Spec PyProof.Rows L2
section
variable {X : Cx} {st : Stmt} {rest sts : List Stmt} {W W' : List Nat} {f g : DS → Option Out} {e c a b : Expr} {fe fa fb : DS → Option (D × DS)} {ca : DS → Option Bool} {pos : Pos}
/-! ### targets of statements: what comes owns nothing -/
def ST (K : PySem.W.Frag) (W : List Nat) (g : TG) (gd : D → DS → Option DS) : Prop := ∀ (H : Hp) (R : Addr → Prop) (σ : L2.St) (τ : DS) (Fs : Nat → List Addr) (d : D) (v : V) (τ' : DS) (Q : L2.St → Hp → Prop),
  SRel K H (OW [] Fs R) σ τ Fs → Sep H [] Fs R → Rel K H (OW [] Fs R) d v [] → gd d τ = some τ' → (∀ σ2 Fs2, SRel K H (OW [] Fs2 R) σ2 τ' Fs2 → Sep H [] Fs2 R → (∀ i a, a ∈ Fs2 i → ∃ j, a ∈ Fs j) → Kp W σ σ2 → Q σ2 H) → g v σ H Q
def STs (K : PySem.W.Frag) (W : List Nat) (g : TGs) (gd : List D → DS → Option DS) : Prop := ∀ (H : Hp) (R : Addr → Prop) (σ : L2.St) (τ : DS) (Fs : Nat → List Addr) (ds : List D) (ws : List V) (τ' : DS) (Q : L2.St → Hp → Prop),
  SRel K H (OW [] Fs R) σ τ Fs → Sep H [] Fs R → Rels K H (OW [] Fs R) ds ws [] → gd ds τ = some τ' → (∀ σ2 Fs2, SRel K H (OW [] Fs2 R) σ2 τ' Fs2 → Sep H [] Fs2 R → (∀ i a, a ∈ Fs2 i → ∃ j, a ∈ Fs j) → Kp W σ σ2 → Q σ2 H) → g ws σ H Q
theorem ow_sub {Fs Fs2 : Nat → List Addr} {R : Addr → Prop} (n : ∀ i a, a ∈ Fs2 i → ∃ j, a ∈ Fs j) (a : Addr) (h : OW [] Fs2 R a) : OW [] Fs R a := by
  rcases h with h | ⟨i, h⟩ | h
  · exact .inl h
  · exact .inr (.inl (n i a h))
  · exact .inr (.inr h)
theorem st_name {K : PySem.W.Frag} {i : Nat} : ST K [i] (gName i) (gdN i) := fun H R σ τ Fs d v τ' Q S s r e q => by
  cases e
  have hG : ∀ a ∈ ([] : List Addr), a ∈ Fs i ∨ a ∈ ([] : List Addr) := fun a z => absurd z List.not_mem_nil
  refine q _ (put Fs i []) ((srel_set S r).mono fun a z => ow_put hG (fun _ => id) a z) (sep_put s hG List.nodup_nil [] (fun a z => absurd z List.not_mem_nil) List.nodup_nil) (fun j a h => ?_) kp_set
  exact (put_mem h).elim (fun w => absurd w.2 List.not_mem_nil) fun w => ⟨j, w.2⟩
theorem st_nil {K : PySem.W.Frag} : STs K [] gNil gdNil := fun H R σ τ Fs ds ws τ' Q S s r e q => by
  cases ds with
  | nil =>
    cases e
    simp only [Rels] at r
    exact ⟨r.1, q _ Fs S s (fun i a ha => ⟨i, ha⟩) Kp.refl⟩
  | cons _ _ => cases e
theorem st_cons {K : PySem.W.Frag} {t : TG} {gd : D → DS → Option DS} {ts : TGs} {gds : List D → DS → Option DS} (h : ST K W t gd) (k : STs K W' ts gds) : STs K (W ++ W') (gCons t ts) (gdCons gd gds) := fun H R σ τ Fs ds ws τ' Q S s r e q => by
  cases ds with
  | nil => cases e
  | cons d ds =>
    obtain ⟨τ1, e1, e2⟩ := bind2 (γ := Unit) (show (gd d τ).bind _ = some τ' from e)
    simp only [Rels] at r
    obtain ⟨v, us, F1, F2, rfl, r1, r2, eF⟩ := r
    obtain ⟨rfl, rfl⟩ := nil_of_app eF
    exact ⟨v, us, rfl, h H R σ τ Fs d v τ1 _ S s r1 e1 fun σ2 Fs2 S2 s2 n2 k2 => k H R σ2 τ1 Fs2 ds us τ' Q S2 s2 (r2.own fun a z => .inl (ow_sub n2 a z)) e2 fun σ3 Fs3 S3 s3 n3 k3 => q σ3 Fs3 S3 s3 (fun i a ha => let ⟨j, hj⟩ := n3 i a ha; n2 j a hj) (k2.trans k3)⟩
theorem st_tup {K : PySem.W.Frag} {n : Nat} {t : TGs} {gd : List D → DS → Option DS} (h : STs K W t gd) : ST K W (gTup K n t) (gdTup n gd) := fun H R σ τ Fs d v τ' Q S s r e q => by
  cases d with
  | tup ds =>
    have e : (if ds.length = n then gd ds τ else none) = some τ' := e
    split at e
    · rename_i hn
      obtain ⟨a, us, rfl, hq, hr⟩ := rel_tup r
      exact ⟨a, us, rfl, hq, by rw [hr.len]; exact hn, h H R σ τ Fs ds us τ' Q S s hr e q⟩
    · cases e
  | _ => cases e
/-- target = e, what comes is read only from then on -/
def fAsg (gd : D → DS → Option DS) (fe : DS → Option (D × DS)) : DS → Option Out := fun τ => (fe τ).bind fun r => (gd r.1.frz r.2).bind fun τ' => some (.nx τ')
theorem fr_sub {Fs Fs1 Fs2 : Nat → List Addr} {H H1 : Hp} {F : List Addr} (f : Fr Fs H F Fs1 H1) (n : ∀ i a, a ∈ Fs2 i → ∃ j, a ∈ Fs1 j) : Fr Fs H [] Fs2 H1 := ⟨f.keep, fun a z => z.elim (fun z => absurd z List.not_mem_nil) fun ⟨i, z⟩ => f.new a (.inr (n i a z))⟩
theorem s_asg {tg : Expr} {t : TG} {gd : D → DS → Option DS} (he : DEx X e fe) (hg : PG X tg t) (hst : ST X.K W t gd) (hs : swapsWithSole [tg] e pos.line X.env = pure false := by rfl) (hw : swappedStores [tg] e X.env = pure none := by rfl)
    (h1 : (assignEach [tg] X.env).map (·.2) = [assign tg X.env] := by rfl) : DSx X (.Assign [tg] e pos) W (fAsg gd fe) := (ps_asg he hg hs hw h1).weak fun N σ H ⟨τ, Fs, R, out, S, s, e, k⟩ => by
  obtain ⟨⟨d, τ1⟩, e1, e⟩ := bind2 (γ := Unit) e
  obtain ⟨τ2, e2, e⟩ := bind2 (γ := Unit) e
  cases e
  refine ⟨τ, Fs, R, d, τ1, S, s, e1, fun v H' F Fs' S' r s' f' => hst H' R σ τ1 Fs' d.frz v τ2 _ (S'.mono fun a z => z.elim (fun z => absurd z List.not_mem_nil) .inr) s'.drop (r.frz (fun a h z => ?_) fun a z => .inl (z.elim (fun z => absurd z List.not_mem_nil) .inr)) e2 fun σ2 Fs2 S2 s2 n2 k2 => k σ2 H' Fs2 S2 s2 (fr_sub f' n2) k2⟩
  rcases z with z | ⟨j, z⟩ | z
  · exact absurd z List.not_mem_nil
  · exact s'.f1 j a z h
  · exact s'.r2 a h z
/-- a, b = x, y: two plain locals -/
def fPar (i j : Nat) (q : DS → Option (List D × DS)) : DS → Option Out := fun τ => (q τ).bind fun r => match r.1 with
  | [d, d'] => some (.nx ((r.2.set i (some d)).set j (some d')))
  | _ => none
theorem s_par {i j : Nat} {x y : Str} {q : DS → Option (List D × DS)} {px py pt : Pos} {kt k2 pt2} (hc : X.calm = true) (hN : X.N.Nodup) (hi : X.N[i]? = some x) (hj : X.N[j]? = some y) (hij : i ≠ j)
    (hx : X.env.scope.names.lookup x = some .local) (hy : X.env.scope.names.lookup y = some .local) (ha : DAx X [a, b] q)
    (hw : swappedStores [.Tuple [.Name x px, .Name y py] kt pt] (.Tuple [a, b] k2 pt2) X.env = pure (some [x, y]) := by rfl)
    (hs : swapsWithSole [.Tuple [.Name x px, .Name y py] kt pt] (.Tuple [a, b] k2 pt2) pos.line X.env = pure false := by rfl) :
    DSx X (.Assign [.Tuple [.Name x px, .Name y py] kt pt] (.Tuple [a, b] k2 pt2) pos) [i, j] (fPar i j q) := (ps_par hc hN hi hj hij hx hy ha hw hs).weak fun N σ H ⟨τ, Fs, R, out, S, s, e, k⟩ => by
  obtain ⟨⟨ds, τ1⟩, e1, e⟩ := bind2 (γ := Unit) e
  dsimp only at e
  split at e
  · rename_i d d'
    cases e
    refine ⟨τ, Fs, R, _, τ1, S, s, e1, fun vs H' F Fs' S' r s' f' => ?_⟩
    obtain ⟨v, v', F1, F2, rfl, r1, r2, rfl⟩ := rels2 r
    refine ⟨v, v', rfl, ?_⟩
    obtain ⟨nd1, nd2, nd3⟩ := List.nodup_append.mp s'.nd
    have hG1 : ∀ a ∈ F1, a ∈ Fs' i ∨ a ∈ F1 ++ F2 := fun a z => .inr (List.mem_append_left _ z)
    have sa := sep_put (i := i) s' hG1 nd1 F2 (fun a z => ⟨List.mem_append_right _ z, fun w => nd3 a w a z rfl⟩) nd2
    have hG2 : ∀ a ∈ F2, a ∈ put Fs' i F1 j ∨ a ∈ F2 := fun a z => .inr z
    have sb := sep_put (i := j) sa hG2 nd2 [] (fun a z => absurd z List.not_mem_nil) List.nodup_nil
    have o1 : ∀ a, OW F2 (put Fs' i F1) R a → OW (F1 ++ F2) Fs' R a := fun a z => ow_put hG1 (fun a z => List.mem_append_right _ z) a z
    have o2 : ∀ a, OW [] (put (put Fs' i F1) j F2) R a → OW (F1 ++ F2) Fs' R a := fun a z => o1 a (ow_put hG2 (fun a z => absurd z List.not_mem_nil) a z)
    refine k _ H' (put (put Fs' i F1) j F2) ((srel_set (srel_set S' r1) r2).mono o2) sb ⟨f'.keep, fun a z => ?_⟩ ?_
    · rcases z with z | ⟨l, z⟩
      · exact absurd z List.not_mem_nil
      · rcases put_mem z with ⟨_, z⟩ | ⟨_, z⟩
        · exact f'.new a (.inl (List.mem_append_right _ z))
        · rcases put_mem z with ⟨_, z⟩ | ⟨_, z⟩
          · exact f'.new a (.inl (List.mem_append_left _ z))
          · exact f'.new a (.inr ⟨l, z⟩)
    · exact (kp_set (i := i)).trans (kp_set (i := j))
  · cases e
/-! ### for -/
def forD (g : D → DS → Option DS) (f : DS → Option Out) : List D → DS → Option Out
  | [], τ => some (.nx τ)
  | d :: ds, τ => (g d τ).bind fun τ1 => (f τ1).bind fun o => match o with
    | .nx τ' => forD g f ds τ'
    | .ct τ' => forD g f ds τ'
    | .bk τ' => some (.nx τ')
    | .rt d τ' => some (.rt d τ')
def fFor (q : DS → Option (List D)) (g : D → DS → Option DS) (f : DS → Option Out) : DS → Option Out := fun τ => (q τ).bind fun ds => forD g f ds τ
theorem s_for {tg iter : Expr} {q : DS → Option (List D)} {t : TG} {gd : D → DS → Option DS} (hp : PassesOwn (model X.prog X.w) X.A X.env X.xe) (hc : X.calm = true) (hi : PIx X tg iter q) (hg : PG X tg t) (hst : ST X.K W t gd) (hb : DSs X sts W' f)
    (hs : ∀ x, foldedSetIterable iter X.env x = pure x := by intro _; rfl) : DSx X (.For tg iter sts [] pos) (W ++ W') (fFor q gd f) := (ps_for hp hc hi hg hb hs).weak fun N σ H ⟨τ, Fs, R, out, S, s, e, k⟩ => by
  obtain ⟨ds, e1, e2⟩ := bind2 (γ := Unit) e
  refine ⟨τ, Fs, _, ds, S, e1, fun J H1 sm src => ?_⟩
  obtain ⟨G, Y, hG, wk, hY⟩ := src
  have k := k.same sm
  have kept : ∀ {Fs' : Nat → List Addr} {H' : Hp}, Fr Fs H1 [] Fs' H' → KeptO (OW [] Fs R) H1 H' := fun f' a o ea m => f'.keep a o ea fun i z => by
    rcases m with m | m
    · obtain ⟨o', q', m'⟩ := (sep_same s sm).mu i a z
      rw [ea] at q'; cases q'; exact m m'
    · exact m (.inr (.inl ⟨i, z⟩))
  refine for_it wk (fun i σ' H' => ∃ τ' Fs', SRel X.K H' (OW [] Fs' R) σ' τ' Fs' ∧ Sep H' [] Fs' R ∧ forD gd f (ds.drop i) τ' = some out ∧ Fr Fs H1 [] Fs' H' ∧ Kp (W ++ W') σ σ') ?_ ?_ ?_ ?_
  · exact ⟨τ, Fs, S.same sm, sep_same s sm, e2, Fr.refl, Kp.refl⟩
  · rintro i σ' H' _ ⟨τ', Fs', S', s', _, f', _⟩
    exact hG H' (kept f')
  · rintro i x σ' H' H2 hi ⟨τ', Fs', S', s', e', f', kp⟩ hy
    obtain ⟨sm2, d, ed, rd⟩ := hY i H' x H2 hi (kept f') hy
    rw [List.drop_eq_getElem_cons hi] at e'
    have ed' : ds[i] = d := by
      rw [List.getElem?_eq_getElem hi] at ed
      exact Option.some.inj ed
    rw [ed'] at e'
    obtain ⟨τ1, g1, e'⟩ := bind2 (γ := Unit) (show (gd d τ').bind _ = some out from e')
    obtain ⟨o, g2, e'⟩ := bind2 (γ := Unit) e'
    have hO : ∀ a, OW [] Fs' R a → OW [] Fs R a ∨ H1 a = none := fun a z => by
      rcases z with z | ⟨j, z⟩ | z
      · exact .inl (.inl z)
      · exact (f'.new a (.inr ⟨j, z⟩)).imp (fun z => .inr (.inl z)) id
      · exact .inl (.inr (.inr z))
    refine hst H2 R σ' τ' Fs' d x τ1 _ (S'.same sm2) (sep_same s' sm2) (rd _ hO S'.own) g1 fun σ2 Fs2 S2 s2 n2 k2 => ⟨τ1, Fs2, R, o, S2, s2, g2, ?_⟩
    have f2 : Fr Fs H1 [] Fs2 H2 := fr_sub (fr_same f' sm2) n2
    have kp2 : Kp (W ++ W') σ σ2 := fun i h => (k2 i fun z => h (List.mem_append_left _ z)).trans (kp i h)
    have kp3 : ∀ {σ3 : L2.St}, Kp W' σ2 σ3 → Kp (W ++ W') σ σ3 := fun k3 i h => (k3 i fun z => h (List.mem_append_right _ z)).trans (kp2 i h)
    cases o with
    | nx τ2 => exact fun σ3 H3 Fs3 S3 s3 f3 k3 => ⟨τ2, Fs3, S3, s3, e', f2.trans f3, kp3 k3⟩
    | ct τ2 => exact fun σ3 H3 Fs3 S3 s3 f3 k3 => ⟨τ2, Fs3, S3, s3, e', f2.trans f3, kp3 k3⟩
    | bk τ2 =>
      cases e'
      exact fun σ3 H3 Fs3 S3 s3 f3 k3 => k σ3 H3 Fs3 S3 s3 (f2.trans f3) (kp3 k3)
    | rt d τ2 =>
      cases e'
      exact fun v σ3 H3 F Fs3 S3 r s3 f3 k3 => k v σ3 H3 F Fs3 S3 r s3 (f2.trans f3) (kp3 k3)
  · rintro σ' H' ⟨τ', Fs', S', s', e', f', kp⟩
    rw [List.drop_length] at e'
    cases e'
    exact k σ' H' Fs' S' s' f' kp
/-! ### while -/
def whileN (c : DS → Option Bool) (f : DS → Option Out) : Nat → DS → Option Out
  | 0, _ => none
  | n + 1, τ => (c τ).bind fun b => if b = true then (f τ).bind fun o => match o with
    | .nx τ' => whileN c f n τ'
    | .ct τ' => whileN c f n τ'
    | .bk τ' => some (.nx τ')
    | .rt d τ' => some (.rt d τ')
    else some (.nx τ)
theorem whileN_up {c : DS → Option Bool} {f : DS → Option Out} : ∀ {n : Nat} {τ : DS} {o : Out}, whileN c f n τ = some o → whileN c f (n + 1) τ = some o
  | 0, _, _, h => by cases h
  | n + 1, τ, o, h => by
    obtain ⟨b, e1, e2⟩ := bind2 (γ := Unit) (show (c τ).bind _ = some o from h)
    show (c τ).bind _ = some o
    rw [e1]
    show (if b = true then _ else _) = _
    split at e2
    · rename_i hb
      rw [if_pos hb]
      obtain ⟨o1, e3, e4⟩ := bind2 (γ := Unit) e2
      rw [e3]
      cases o1 with
      | nx τ' => exact whileN_up (n := n) e4
      | ct τ' => exact whileN_up (n := n) e4
      | bk τ' => exact e4
      | rt d τ' => exact e4
    · rename_i hb
      rw [if_neg hb]
      exact e2
theorem whileN_le {c : DS → Option Bool} {f : DS → Option Out} {n m : Nat} {τ : DS} {o : Out} (h : whileN c f n τ = some o) (l : n ≤ m) : whileN c f m τ = some o := by
  induction l with
  | refl => exact h
  | step _ ih => exact whileN_up ih
open Classical in
noncomputable def fWhile (c : DS → Option Bool) (f : DS → Option Out) : DS → Option Out := fun τ => if h : ∃ n o, whileN c f n τ = some o then some h.choose_spec.choose else none
theorem fWhile_of {c : DS → Option Bool} {f : DS → Option Out} {n : Nat} {τ : DS} {o : Out} (h : whileN c f n τ = some o) : fWhile c f τ = some o := by
  have ex : ∃ n o, whileN c f n τ = some o := ⟨n, o, h⟩
  unfold fWhile
  rw [dif_pos ex]
  have z := whileN_le ex.choose_spec.choose_spec (Nat.le_max_left _ n)
  rw [whileN_le h (Nat.le_max_right _ _)] at z
  exact z.symm
theorem fWhile_ex {c : DS → Option Bool} {f : DS → Option Out} {τ : DS} {o : Out} (h : fWhile c f τ = some o) : ∃ n, whileN c f n τ = some o := by
  unfold fWhile at h
  split at h
  · rename_i ex
    cases h
    exact ⟨_, ex.choose_spec.choose_spec⟩
  · cases h
theorem s_while (hp : PassesOwn (model X.prog X.w) X.A X.env X.xe) (hc : PTx X c ca) (hb : DSs X sts W f) : DSx X (.While c sts [] pos) W (fWhile ca f) := (ps_while hp hc hb).weak fun N σ H ⟨τ, Fs, R, out, S, s, e, k⟩ => by
  obtain ⟨n, e⟩ := fWhile_ex e
  refine ⟨fun m σ' H' => ∃ τ' Fs', SRel X.K H' (OW [] Fs' R) σ' τ' Fs' ∧ Sep H' [] Fs' R ∧ whileN ca f m τ' = some out ∧ Fr Fs H [] Fs' H' ∧ Kp W σ σ', ⟨n, τ, Fs, S, s, e, Fr.refl, Kp.refl⟩, ?_⟩
  rintro m σ' H' ⟨τ', Fs', S', s', e', f', kp⟩
  cases m with
  | zero => cases e'
  | succ m =>
    obtain ⟨b, e1, e2⟩ := bind2 (γ := Unit) (show (ca τ').bind _ = some out from e')
    refine ⟨τ', Fs', _, b, S', e1, fun H1 sm => ?_⟩
    have f1 := fr_same f' sm
    cases b with
    | true =>
      obtain ⟨o, e3, e4⟩ := bind2 (γ := Unit) (show (f τ').bind _ = some out from e2)
      refine iteT ⟨fun σ2 H2 => ∃ τ2 Fs2, SRel X.K H2 (OW [] Fs2 R) σ2 τ2 Fs2 ∧ Sep H2 [] Fs2 R ∧ whileN ca f m τ2 = some out ∧ Fr Fs H [] Fs2 H2 ∧ Kp W σ σ2, fun σ2 H2 z => ⟨m, Nat.lt_succ_self _, z⟩, τ', Fs', R, o, S'.same sm, sep_same s' sm, e3, ?_⟩
      have kp3 : ∀ {σ3 : L2.St}, Kp W σ' σ3 → Kp W σ σ3 := fun k3 i h => (k3 i h).trans (kp i h)
      cases o with
      | nx τ2 => exact fun σ3 H3 Fs3 S3 s3 f3 k3 => ⟨τ2, Fs3, S3, s3, e4, f1.trans f3, kp3 k3⟩
      | ct τ2 => exact fun σ3 H3 Fs3 S3 s3 f3 k3 => ⟨τ2, Fs3, S3, s3, e4, f1.trans f3, kp3 k3⟩
      | bk τ2 =>
        cases e4
        exact fun σ3 H3 Fs3 S3 s3 f3 k3 => k σ3 H3 Fs3 S3 s3 (f1.trans f3) (kp3 k3)
      | rt d τ2 =>
        cases e4
        exact fun v σ3 H3 F Fs3 S3 r s3 f3 k3 => k v σ3 H3 F Fs3 S3 r s3 (f1.trans f3) (kp3 k3)
    | false =>
      cases e2
      exact iteF (k σ' H1 Fs' (S'.same sm) (sep_same s' sm) f1 kp)
/-! ### x.append(e) of a list in a slot -/
def fApp (i : Nat) (fe : DS → Option (D × DS)) : DS → Option Out := fun τ => (pVar i τ).bind fun d0 => match d0 with
  | .lst true _ => (fe τ).bind fun r => (pVar i r.2).bind fun d1 => match d1 with
    | .lst true ds => if ds.length < 16777216 then some (.nx (r.2.set i (some (.lst true (ds ++ [r.1]))))) else none
    | _ => none
  | _ => none
/-- a list in a slot is changed -/
theorem srel_write {K : PySem.W.Frag} {H : Hp} {σ : L2.St} {τ : DS} {F F' G' : List Addr} {Fs : Nat → List Addr} {R : Addr → Prop} {i : Nat} {l : Addr} {ds' : List D} {vs vs' : List V} {G : List Addr} (S : SRel K H (OW F Fs R) σ τ Fs) (s : Sep H F Fs R) (hv : σ[i]? = some (some (.ref l))) (hl : H l = some (.lst vs)) (eF : Fs i = l :: G)
    (r : Rels K H (OW F Fs R) ds' vs' G') (hG : ∀ a ∈ G', a ∈ G ∨ a ∈ F) (nd : G'.Nodup) (hF' : ∀ a ∈ F', a ∈ F ∧ a ∉ G') (nd' : F'.Nodup) :
    SRel K (upd H l (.lst vs')) (OW F' (put Fs i (l :: G')) R) σ (τ.set i (some (.lst true ds'))) (put Fs i (l :: G')) ∧ Sep (upd H l (.lst vs')) F' (put Fs i (l :: G')) R ∧ (∀ a o, H a = some o → a ≠ l → upd H l (.lst vs') a = some o) := by
  have lF : l ∈ Fs i := by rw [eF]; exact List.mem_cons_self
  have lnG : l ∉ G := by
    have z := s.nds i
    rw [eF] at z
    exact (List.nodup_cons.mp z).1
  have lnF : l ∉ F := s.f1 i l lF
  have lnG' : l ∉ G' := fun z => (hG l z).elim lnG lnF
  have hGG : ∀ a ∈ l :: G', a ∈ Fs i ∨ a ∈ F := fun a z => by
    rcases List.mem_cons.mp z with rfl | z
    · exact .inl lF
    · exact (hG a z).imp (fun z => by rw [eF]; exact List.mem_cons_of_mem _ z) id
  have kk : ∀ a o, H a = some o → a ≠ l → upd H l (.lst vs') a = some o := fun a o e n => by rw [upd_ne n]; exact e
  have mm : ∀ a o, H a = some o → ¬ Mut (some o) → upd H l (.lst vs') a = some o := fun a o e m => kk a o e fun z => by rw [z, hl] at e; cases e; exact m trivial
  have oo : ∀ a, OW F' (put Fs i (l :: G')) R a → OW F Fs R a := fun a z => ow_put hGG (fun a z => (hF' a z).1) a z
  have sp := sep_put (i := i) s hGG (List.nodup_cons.mpr ⟨lnG', nd⟩) F' (fun a z => ⟨(hF' a z).1, fun w => by
    rcases List.mem_cons.mp w with rfl | w
    · exact lnF (hF' a z).1
    · exact (hF' a z).2 w⟩) nd'
  have mu' : ∀ a, (∃ o, H a = some o ∧ Mut (some o)) → ∃ o, upd H l (.lst vs') a = some o ∧ Mut (some o) := fun a ⟨o, e, m⟩ => by
    by_cases ha : a = l
    · subst ha; exact ⟨_, upd_same, trivial⟩
    · exact ⟨o, kk a o e ha, m⟩
  refine ⟨⟨by rw [List.length_set]; exact S.len, fun j d h => ?_, fun a z => ?_⟩, ⟨sp.nd, sp.nds, sp.dj, sp.f1, sp.r1, sp.r2, fun j a h => mu' a (sp.mu j a h), fun a h => mu' a (sp.mf a h)⟩, kk⟩
  · by_cases hj : i = j
    · subst hj
      by_cases hlt : i < τ.length
      · rw [List.getElem?_set_self hlt] at h
        obtain rfl := Option.some.inj (Option.some.inj h)
        refine ⟨.ref l, hv, ?_⟩
        rw [put_self]
        exact mk_lst upd_same (r.keep mm (fun a o e z => kk a o e fun w => lnG' (w ▸ z)) (fun a o e z => kk a o e fun w => z (.inr (.inl ⟨i, by rw [w]; exact lF⟩))) fun a z => .inl (oo a z))
      · rw [List.getElem?_eq_none (by rw [List.length_set]; exact Nat.le_of_not_lt hlt)] at h; cases h
    · rw [List.getElem?_set_ne hj] at h
      obtain ⟨w, e1, r1⟩ := S.rel j d h
      refine ⟨w, e1, ?_⟩
      rw [put_ne (Ne.symm hj)]
      exact r1.keep mm (fun a o e z => kk a o e fun w => hj (s.dj i j a (by rw [w]; exact lF) z)) (fun a o e z => kk a o e fun w => z (.inr (.inl ⟨i, by rw [w]; exact lF⟩))) fun a z => .inl (oo a z)
  · by_cases ha : a = l
    · subst ha; rw [upd_same]; exact fun z => nomatch z
    · rw [upd_ne ha]; exact S.own a (oo a z)
theorem rel_own {K : PySem.W.Frag} {H : Hp} {O : Addr → Prop} {ds : List D} {v : V} {F : List Addr} (h : Rel K H O (.lst true ds) v F) : ∃ a vs G, v = .ref a ∧ H a = some (.lst vs) ∧ Rels K H O ds vs G ∧ F = a :: G := by simpa only [Rel] using h
theorem s_app {i : Nat} {xi : Str} {pi apos cpos : Pos} (hi : PE X (.Name xi pi) (tVar i)) (he : DEx X e fe) (hbase : attributeBase (.Name xi pi) "append" X.env (eval (.Name xi pi) X.env) = eval (.Name xi pi) X.env := by rfl)
    (hfew : ((backTo cpos (starEach [e] X.env)).all (fun x => !x.1) && (backToKw cpos (keywordEach [] X.env)).all (fun x => x.1.isSome) && decide ([e].length + ([] : List Keyword).length + (if ([] : List Keyword).isEmpty then 0 else 1) < 30)) = true := by rfl)
    (hline : (apos.endLine == cpos.line) = true := by rfl) (hs : starEach [e] X.env = (false, eval e X.env) :: starEach [] X.env := by rfl) (hplain : (backTo cpos (starEach [] X.env)).any (·.1) = false := by rfl)
    (hsw : swapsWith (.Call (.Attribute (.Name xi pi) "append" apos) [e] [] cpos) none pos.line X.env = pure false := by rfl) :
    DSx X (.Expr (.Call (.Attribute (.Name xi pi) "append" apos) [e] [] cpos) pos) [] (fApp i fe) :=
  (ps_expr (pe_bm PySem.F.plainAttrs_list PySem.F.slot_list_append PySem.F.type_list_append mt_append hi (pa_cons he pa_nil hs) hbase hfew hline hs hplain) hsw).weak fun N σ H ⟨τ, Fs, R, out, S, s, e, k⟩ => by
    obtain ⟨d0, e0, e⟩ := bind2 (γ := Unit) e
    split at e
    · obtain ⟨⟨d, τ1⟩, e1, e⟩ := bind2 (γ := Unit) e
      obtain ⟨d1, e2, e⟩ := bind2 (γ := Unit) e
      split at e
      · rename_i ds
        split at e
        · rename_i hlen
          cases e
          obtain ⟨v0, ev, r0⟩ := S.rel i _ (pVar_some e0)
          obtain ⟨l, vs0, G0, rfl, hl0, _, _⟩ := rel_own r0
          refine ⟨_, ev, .inl ⟨rfl, vs0, .inl (.inl hl0)⟩, τ, Fs, R, d, τ1, S, s, e1, fun v H1 F Fs1 S1 r1 s1 f1 => ?_⟩
          obtain ⟨v0', ev', r0'⟩ := S1.rel i _ (pVar_some e2)
          rw [ev] at ev'
          obtain rfl := Option.some.inj (Option.some.inj ev')
          obtain ⟨l', vs, G, el, hl, hr, eF⟩ := rel_own r0'
          obtain rfl : l = l' := by cases el; rfl
          have lz := hr.len
          refine ⟨l, vs, v, rfl, rfl, hl, by rw [sizeLine_eq, lz]; exact hlen, ?_⟩
          have ndG := s1.nds i
          rw [eF] at ndG
          obtain ⟨z1, z2, z3⟩ := srel_write (F' := []) (G' := G ++ F) S1 s1 ev hl eF (hr.app (Rels.one r1)) (fun a z => List.mem_append.mp z) (List.nodup_append.mpr ⟨(List.nodup_cons.mp ndG).2, s1.nd, fun a ha b hb q => s1.f1 i a (by rw [eF]; exact List.mem_cons_of_mem _ ha) (q ▸ hb)⟩) (fun a z => absurd z List.not_mem_nil) List.nodup_nil
          refine k σ _ _ z1 z2 ⟨fun a o q n => z3 a o (f1.keep a o q n) fun w => ?_, fun a z => ?_⟩ Kp.refl
          · exact (f1.new l (.inr ⟨i, by rw [eF]; exact List.mem_cons_self⟩)).elim (fun ⟨j, w'⟩ => n j (w ▸ w')) fun w' => by rw [← w, q] at w'; cases w'
          · rcases z with z | ⟨j, z⟩
            · exact absurd z List.not_mem_nil
            · rcases put_mem z with ⟨_, z⟩ | ⟨_, z⟩
              · rcases List.mem_cons.mp z with rfl | z
                · exact f1.new a (.inr ⟨i, by rw [eF]; exact List.mem_cons_self⟩)
                · rcases List.mem_append.mp z with z | z
                  · exact f1.new a (.inr ⟨i, by rw [eF]; exact List.mem_cons_of_mem _ z⟩)
                  · exact f1.new a (.inl z)
              · exact f1.new a (.inr ⟨j, z⟩)
        · cases e
      · cases e
    · cases e
end
/-! ### a def -/
def startD (N : List Str) (ds : List D) : DS := ds.map some ++ List.replicate (N.length - ds.length) none
/-- what a body gives -/
def endD (o : Option Out) : Option (D × DS) := o.bind fun o => match o with
  | .nx τ => some (.non, τ)
  | .rt d τ => some (d, τ)
  | _ => none
theorem endD_some {o : Option Out} {r : D × DS} (h : endD o = some r) : o = some (.nx r.2) ∧ r.1 = .non ∨ o = some (.rt r.1 r.2) := by
  obtain ⟨x, e1, e2⟩ := bind2 (γ := Unit) h
  subst e1
  cases x with
  | nx τ => cases e2; exact .inl ⟨rfl, rfl⟩
  | rt d τ => cases e2; exact .inr rfl
  | bk τ => cases e2
  | ct τ => cases e2
theorem rels_at {K : PySem.W.Frag} {H : Hp} {O : Addr → Prop} {ds : List D} {vs : List V} {N : List Str} (r : Rels K H O ds vs []) (hl : ds.length ≤ N.length) (ho : ∀ a, O a → H a ≠ none) : SRel K H O (L2.start N vs) (startD N ds) (fun _ => []) := by
  have hv := r.len
  refine ⟨?_, fun i d e => ?_, ho⟩
  · unfold L2.start startD
    simp [hv]
  · unfold startD at e
    by_cases hi : i < ds.length
    · rw [List.getElem?_append_left (by simpa using hi), List.getElem?_map, List.getElem?_eq_getElem hi] at e
      obtain ⟨v, G, e1, rr, hG⟩ := r.get (i := i) (d := d) (by rw [List.getElem?_eq_getElem hi]; exact congrArg _ (Option.some.inj (Option.some.inj e)))
      have z : G = [] := List.eq_nil_iff_forall_not_mem.mpr fun a ha => absurd (hG a ha) List.not_mem_nil
      rw [z] at rr
      refine ⟨v, ?_, rr⟩
      unfold L2.start
      rw [List.getElem?_append_left (by rw [List.length_map, hv]; exact hi), List.getElem?_map, e1]
      rfl
    · rw [List.getElem?_append_right (by simpa using hi), List.getElem?_replicate] at e
      split at e <;> cases e
section
variable {P : Program} {w : World} {K : PySem.W.Frag} {mg : Str → Option Value} {base : Heap} {x qual : Str} {st : Stmt} {f : Addr} {fd : FuncData} {N ps : List Str} {k : Nat}
/-- THE RULE for a def that changes nothing: its body by data; g: what it gives, for arguments of the right number -/
theorem fnP (F : Fun K x qual st f fd) (S : FnScope N ps (defScope st)) (W : List Nat) (body : DS → Option Out) (g : List D → Option D) (hn : ps.length ≤ N.length)
    (hb : ∀ (cdv : Value) (A : Around) (outer : List Env) (s : Shared) (H : Hp) (E : XK), Room k (A.deeper (envOfC qual (defScope st) s.heap.objs.size f cdv)) → DSs (cxOf CX0 P w K mg base N qual (defScope st) f cdv A outer s H E).nox (defBody st) W body)
    (hg : ∀ ds r, g ds = some r → ds.length = ps.length ∧ ∃ τ, endD (body (startD N ds)) = some (r, τ)) : FnOk P w K mg base CX0 (k + 1) f fd ps (spP K g) := by
  refine F.ok S (fun vs H Q E ⟨ds, r, hr, hgr, _⟩ => by rw [hr.len]; exact (hg ds r hgr).1) fun cdv A outer s H vs Q E hr ⟨ds, r, rr, hgr, q⟩ => ⟨_, hb cdv A outer s H E hr, ?_⟩
  obtain ⟨hl, τ, he⟩ := hg ds r hgr
  have hO : ∀ a, OW [] (fun _ => []) (fun _ => False) a → False := fun a z => by
    rcases z with z | ⟨_, z⟩ | z
    · exact absurd z List.not_mem_nil
    · exact absurd z List.not_mem_nil
    · exact z
  have S0 := (rels_at (N := N) rr (by omega) fun a z => z.elim).mono hO
  have s0 : Sep H [] (fun _ => []) (fun _ => False) := ⟨List.nodup_nil, fun _ => List.nodup_nil, fun _ _ _ z => absurd z List.not_mem_nil, fun _ _ _ => List.not_mem_nil, fun _ _ _ z => z, fun _ _ z => z, fun _ _ z => absurd z List.not_mem_nil, fun _ z => absurd z List.not_mem_nil⟩
  have sm : ∀ {F : List Addr} {Fs' : Nat → List Addr} {H' : Hp}, Fr (fun _ => []) H F Fs' H' → Same H H' := fun f a o e => f.keep a o e fun _ => List.not_mem_nil
  rcases endD_some he with ⟨e1, e2⟩ | e1
  · refine ⟨_, _, _, _, S0, s0, e1, fun σ' H' Fs' S' s' f' _ => ?_⟩
    have e2 : r = .non := e2
    subst e2
    exact q .non H' [] (sm f') mk_non New.nil
  · refine ⟨_, _, _, _, S0, s0, e1, fun v σ' H' F Fs' S' r' s' f' _ => ?_⟩
    exact q v H' F (sm f') (r'.own fun _ z => z.elim) ⟨s'.nd, fun a ha => (f'.new a (.inl ha)).elim (fun ⟨_, z⟩ => absurd z List.not_mem_nil) id⟩
/-- .. that may change its first argument, whose name is not stored -/
theorem fnI (F : Fun K x qual st f fd) (S : FnScope N ps (defScope st)) (W : List Nat) (body : DS → Option Out) (g : List D → Option (D × D)) (hn : ps.length ≤ N.length) (hW : 0 ∉ W)
    (hb : ∀ (cdv : Value) (A : Around) (outer : List Env) (s : Shared) (H : Hp) (E : XK), Room k (A.deeper (envOfC qual (defScope st) s.heap.objs.size f cdv)) → DSs (cxOf CX0 P w K mg base N qual (defScope st) f cdv A outer s H E).nox (defBody st) W body)
    (hg : ∀ ds r d1, g ds = some (r, d1) → ds.length = ps.length ∧ ∃ τ, body (startD N ds) = some (.rt r τ) ∧ pVar 0 τ = some d1) : FnOk P w K mg base CX0 (k + 1) f fd ps (spI K g) := by
  refine F.ok S (fun vs H Q E ⟨v0, ws, d0, F0, ds, r, d1, ev, r0, rr, _, hgr, _⟩ => ?_) fun cdv A outer s H vs Q E hr ⟨v0, ws, d0, F0, ds, r, d1, ev, r0, rr, nd, hgr, q⟩ => ⟨_, hb cdv A outer s H E hr, ?_⟩
  · have z := (hg _ _ _ hgr).1
    have := rr.len
    rw [ev, List.length_cons, this]
    exact z
  · obtain ⟨hl, τ, he, h0⟩ := hg _ _ _ hgr
    subst ev
    have mu0 : ∀ a ∈ F0, ∃ o, H a = some o ∧ Mut (some o) := r0.fp
    have S1 : SRel K H (fun a => a ∈ F0) (L2.start N (.non :: ws)) (startD N (.non :: ds)) (fun _ => []) := rels_at (N := N) (by simpa using Rels.cons mk_non rr) (by simp only [List.length_cons] at hl ⊢; omega) fun a z => by
      obtain ⟨o, e, _⟩ := mu0 a z
      rw [e]; exact fun w => nomatch w
    have S2 := srel_set (i := 0) S1 r0
    have S3 : SRel K H (OW [] (put (fun _ => []) 0 F0) (fun _ => False)) (L2.start N (v0 :: ws)) (startD N (d0 :: ds)) (put (fun _ => []) 0 F0) := S2.mono fun a z => by
      rcases z with z | ⟨j, z⟩ | z
      · exact absurd z List.not_mem_nil
      · exact (put_mem z).elim (fun w => w.2) fun w => absurd w.2 List.not_mem_nil
      · exact z.elim
    have pm : ∀ j a, a ∈ put (fun _ => []) 0 F0 j → j = 0 ∧ a ∈ F0 := fun j a h => (put_mem h).elim id fun w => absurd w.2 List.not_mem_nil
    have s0 : Sep H [] (put (fun _ => []) 0 F0) (fun _ => False) := ⟨List.nodup_nil, fun j => by
      by_cases hj : j = 0
      · rw [hj, put_self]; exact nd
      · rw [put_ne hj]; exact List.nodup_nil, fun i j a h1 h2 => (pm i a h1).1.trans (pm j a h2).1.symm, fun _ _ _ => List.not_mem_nil, fun _ _ _ z => z, fun _ _ z => z, fun j a h => mu0 a (pm j a h).2, fun _ z => absurd z List.not_mem_nil⟩
    refine ⟨_, _, _, _, S3, s0, he, fun v σ' H' F Fs' S' r' s' f' kp => ?_⟩
    obtain ⟨v1, ev1, rd⟩ := S'.rel 0 d1 (pVar_some h0)
    rw [kp 0 hW] at ev1
    obtain rfl : v0 = v1 := Option.some.inj (Option.some.inj ev1)
    have ho : ∀ a, a ∈ F ∨ a ∈ Fs' 0 → OW F Fs' (fun _ => False) a := fun a z => z.imp id fun z => .inl ⟨0, z⟩
    refine q v H' F (Fs' 0) (r'.own fun a z => .inl (ho a z)) (rd.own fun a z => .inl (ho a z)) (List.nodup_append.mpr ⟨s'.nd, s'.nds 0, fun a ha b hb e => s'.f1 0 b hb (e ▸ ha)⟩) (fun a o e n => f'.keep a o e fun j z => n (pm j a z).2) fun a z => ?_
    exact (f'.new a (z.imp id fun z => ⟨0, z⟩)).imp (fun ⟨j, z⟩ => (pm j a z).2) id
end
end DL
set_option Elab.async false
set_option linter.all false
set_option maxRecDepth 100000
set_option maxHeartbeats 2000000
/-! Defs by name; constants; three at once; stores; joined lists; powers. -/
namespace DL
open PySem PySem.Spec PyProof.Rows L2
/-- a def of the text -/
structure DefAt (K : PySem.W.Frag) (mg : Str → Option Value) (x : Str) (st : Stmt) (ps : List Str) : Prop where
  ex : ∃ f fd, FunD K x x (defArgs st) (defBody st) (defScope st) [] [] f fd ∧ mg x = some (.ref f) ∧ Binds K fd ps []
/-- a def that changes nothing and gives g -/
structure FunP (P : Program) (w : World) (K : PySem.W.Frag) (mg : Str → Option Value) (base : Heap) (x : Str) (k : Nat) (g : List D → Option D) : Prop where
  ex : ∃ f fd ps, FnOk P w K mg base CX0 k f fd ps (spP K g) ∧ mg x = some (.ref f) ∧ PySem.W.keepIn K (.ref f) = true ∧ Binds K fd ps []
/-- .. that may change its first argument -/
structure FunI (P : Program) (w : World) (K : PySem.W.Frag) (mg : Str → Option Value) (base : Heap) (x : Str) (k : Nat) (g : List D → Option (D × D)) : Prop where
  ex : ∃ f fd ps, FnOk P w K mg base CX0 k f fd ps (spI K g) ∧ mg x = some (.ref f) ∧ PySem.W.keepIn K (.ref f) = true ∧ Binds K fd ps []
/-- what a body gives for arguments -/
def gOf (n : Nat) (N : List Str) (body : DS → Option Out) : List D → Option D := fun ds => if ds.length = n then (endD (body (startD N ds))).map (·.1) else none
def gIOf (n : Nat) (N : List Str) (body : DS → Option Out) : List D → Option (D × D) := fun ds => if ds.length = n then (body (startD N ds)).bind fun o => match o with
  | .rt r τ => (pVar 0 τ).map fun d => (r, d)
  | _ => none
  else none
section
variable {P : Program} {w : World} {K : PySem.W.Frag} {mg : Str → Option Value} {base : Heap} {x : Str} {st : Stmt} {N ps : List Str} {k : Nat}
theorem fnPD {qual : Str} {f : Addr} {fd : FuncData} (F : FunD K x qual (defArgs st) (defBody st) (defScope st) [] [] f fd) (S : FnScope N ps (defScope st)) (W : List Nat) (body : DS → Option Out) (g : List D → Option D) (hn : ps.length ≤ N.length)
    (hb : ∀ (cdv : Value) (A : Around) (outer : List Env) (s : Shared) (H : Hp) (E : XK), Room k (A.deeper (envOfC qual (defScope st) s.heap.objs.size f cdv)) → DSs (cxOf CX0 P w K mg base N qual (defScope st) f cdv A outer s H E).nox (defBody st) W body)
    (hg : ∀ ds r, g ds = some r → ds.length = ps.length ∧ ∃ τ, endD (body (startD N ds)) = some (r, τ)) : FnOk P w K mg base CX0 (k + 1) f fd ps (spP K g) := by
  refine F.ok S (fun vs H Q E ⟨ds, r, hr, hgr, _⟩ => by rw [hr.len]; exact (hg ds r hgr).1) fun cdv A outer s H vs Q E hr ⟨ds, r, rr, hgr, q⟩ => ⟨_, (hb cdv A outer s H E hr).nox, ?_⟩
  obtain ⟨hl, τ, he⟩ := hg ds r hgr
  have hO : ∀ a, OW [] (fun _ => []) (fun _ => False) a → False := fun a z => by
    rcases z with z | ⟨_, z⟩ | z
    · exact absurd z List.not_mem_nil
    · exact absurd z List.not_mem_nil
    · exact z
  have S0 := (rels_at (N := N) rr (by omega) fun a z => z.elim).mono hO
  have s0 : Sep H [] (fun _ => []) (fun _ => False) := ⟨List.nodup_nil, fun _ => List.nodup_nil, fun _ _ _ z => absurd z List.not_mem_nil, fun _ _ _ => List.not_mem_nil, fun _ _ _ z => z, fun _ _ z => z, fun _ _ z => absurd z List.not_mem_nil, fun _ z => absurd z List.not_mem_nil⟩
  have sm : ∀ {F : List Addr} {Fs' : Nat → List Addr} {H' : Hp}, Fr (fun _ => []) H F Fs' H' → Same H H' := fun f a o e => f.keep a o e fun _ => List.not_mem_nil
  rcases endD_some he with ⟨e1, e2⟩ | e1
  · refine ⟨_, _, _, _, S0, s0, e1, fun σ' H' Fs' S' s' f' _ => ?_⟩
    have e2 : r = .non := e2
    subst e2
    exact q .non H' [] (sm f') mk_non New.nil
  · refine ⟨_, _, _, _, S0, s0, e1, fun v σ' H' F Fs' S' r' s' f' _ => ?_⟩
    exact q v H' F (sm f') (r'.own fun _ z => z.elim) ⟨s'.nd, fun a ha => (f'.new a (.inl ha)).elim (fun ⟨_, z⟩ => absurd z List.not_mem_nil) id⟩
theorem fnID {qual : Str} {f : Addr} {fd : FuncData} (F : FunD K x qual (defArgs st) (defBody st) (defScope st) [] [] f fd) (S : FnScope N ps (defScope st)) (W : List Nat) (body : DS → Option Out) (g : List D → Option (D × D)) (hn : ps.length ≤ N.length) (hW : 0 ∉ W)
    (hb : ∀ (cdv : Value) (A : Around) (outer : List Env) (s : Shared) (H : Hp) (E : XK), Room k (A.deeper (envOfC qual (defScope st) s.heap.objs.size f cdv)) → DSs (cxOf CX0 P w K mg base N qual (defScope st) f cdv A outer s H E).nox (defBody st) W body)
    (hg : ∀ ds r d1, g ds = some (r, d1) → ds.length = ps.length ∧ ∃ τ, body (startD N ds) = some (.rt r τ) ∧ pVar 0 τ = some d1) : FnOk P w K mg base CX0 (k + 1) f fd ps (spI K g) := by
  refine F.ok S (fun vs H Q E ⟨v0, ws, d0, F0, ds, r, d1, ev, r0, rr, _, hgr, _⟩ => ?_) fun cdv A outer s H vs Q E hr ⟨v0, ws, d0, F0, ds, r, d1, ev, r0, rr, nd, hgr, q⟩ => ⟨_, (hb cdv A outer s H E hr).nox, ?_⟩
  · have z := (hg _ _ _ hgr).1
    have := rr.len
    rw [ev, List.length_cons, this]
    exact z
  · obtain ⟨hl, τ, he, h0⟩ := hg _ _ _ hgr
    subst ev
    have mu0 : ∀ a ∈ F0, ∃ o, H a = some o ∧ Mut (some o) := r0.fp
    have S1 : SRel K H (fun a => a ∈ F0) (L2.start N (.non :: ws)) (startD N (.non :: ds)) (fun _ => []) := rels_at (N := N) (by simpa using Rels.cons mk_non rr) (by simp only [List.length_cons] at hl ⊢; omega) fun a z => by
      obtain ⟨o, e, _⟩ := mu0 a z
      rw [e]; exact fun w => nomatch w
    have S2 := srel_set (i := 0) S1 r0
    have S3 : SRel K H (OW [] (put (fun _ => []) 0 F0) (fun _ => False)) (L2.start N (v0 :: ws)) (startD N (d0 :: ds)) (put (fun _ => []) 0 F0) := S2.mono fun a z => by
      rcases z with z | ⟨j, z⟩ | z
      · exact absurd z List.not_mem_nil
      · exact (put_mem z).elim (fun w => w.2) fun w => absurd w.2 List.not_mem_nil
      · exact z.elim
    have pm : ∀ j a, a ∈ put (fun _ => []) 0 F0 j → j = 0 ∧ a ∈ F0 := fun j a h => (put_mem h).elim id fun w => absurd w.2 List.not_mem_nil
    have s0 : Sep H [] (put (fun _ => []) 0 F0) (fun _ => False) := ⟨List.nodup_nil, fun j => by
      by_cases hj : j = 0
      · rw [hj, put_self]; exact nd
      · rw [put_ne hj]; exact List.nodup_nil, fun i j a h1 h2 => (pm i a h1).1.trans (pm j a h2).1.symm, fun _ _ _ => List.not_mem_nil, fun _ _ _ z => z, fun _ _ z => z, fun j a h => mu0 a (pm j a h).2, fun _ z => absurd z List.not_mem_nil⟩
    refine ⟨_, _, _, _, S3, s0, he, fun v σ' H' F Fs' S' r' s' f' kp => ?_⟩
    obtain ⟨v1, ev1, rd⟩ := S'.rel 0 d1 (pVar_some h0)
    rw [kp 0 hW] at ev1
    obtain rfl : v0 = v1 := Option.some.inj (Option.some.inj ev1)
    have ho : ∀ a, a ∈ F ∨ a ∈ Fs' 0 → OW F Fs' (fun _ => False) a := fun a z => z.imp id fun z => .inl ⟨0, z⟩
    refine q v H' F (Fs' 0) (r'.own fun a z => .inl (ho a z)) (rd.own fun a z => .inl (ho a z)) (List.nodup_append.mpr ⟨s'.nd, s'.nds 0, fun a ha b hb e => s'.f1 0 b hb (e ▸ ha)⟩) (fun a o e n => f'.keep a o e fun j z => n (pm j a z).2) fun a z => ?_
    exact (f'.new a (z.imp id fun z => ⟨0, z⟩)).imp (fun ⟨j, z⟩ => (pm j a z).2) id
theorem mkP (D : DefAt K mg x st ps) (S : FnScope N ps (defScope st)) {W : List Nat} {body : DS → Option Out} (hn : ps.length ≤ N.length := by decide)
    (hb : ∀ (f : Addr) (cdv : Value) (A : Around) (outer : List Env) (s : Shared) (H : Hp) (E : XK), Room k (A.deeper (envOfC x (defScope st) s.heap.objs.size f cdv)) → DSs (cxOf CX0 P w K mg base N x (defScope st) f cdv A outer s H E).nox (defBody st) W body) :
    FunP P w K mg base x (k + 1) (gOf ps.length N body) := by
  obtain ⟨f, fd, F, hm, hB⟩ := D.ex
  refine ⟨f, fd, ps, fnPD F S W body _ hn (fun cdv A outer s H E hr => hb f cdv A outer s H E hr) fun ds r e => ?_, hm, F.kp, hB⟩
  unfold gOf at e
  split at e
  · rename_i hl
    obtain ⟨⟨r', τ⟩, e1, e2⟩ := Option.map_eq_some_iff.mp e
    cases e2
    exact ⟨hl, τ, e1⟩
  · cases e
theorem mkI (D : DefAt K mg x st ps) (S : FnScope N ps (defScope st)) {W : List Nat} {body : DS → Option Out} (hn : ps.length ≤ N.length := by decide) (hW : 0 ∉ W := by decide)
    (hb : ∀ (f : Addr) (cdv : Value) (A : Around) (outer : List Env) (s : Shared) (H : Hp) (E : XK), Room k (A.deeper (envOfC x (defScope st) s.heap.objs.size f cdv)) → DSs (cxOf CX0 P w K mg base N x (defScope st) f cdv A outer s H E).nox (defBody st) W body) :
    FunI P w K mg base x (k + 1) (gIOf ps.length N body) := by
  obtain ⟨f, fd, F, hm, hB⟩ := D.ex
  refine ⟨f, fd, ps, fnID F S W body _ hn hW (fun cdv A outer s H E hr => hb f cdv A outer s H E hr) fun ds r d1 e => ?_, hm, F.kp, hB⟩
  unfold gIOf at e
  split at e
  · rename_i hl
    obtain ⟨o, e1, e2⟩ := bind2 (γ := Unit) e
    cases o with
    | rt r' τ =>
      obtain ⟨d, e3, e4⟩ := Option.map_eq_some_iff.mp e2
      cases e4
      exact ⟨hl, τ, e1, e3⟩
    | _ => cases e2
  · cases e
end
section
variable {X : Cx} {e a b c : Expr} {es : List Expr} {p pa pb : DS → Option D} {q : DS → Option (List D)} {fe fa fb : DS → Option (D × DS)} {w : DS → Option (List D × DS)} {ca : DS → Option Bool} {pos pn : Pos} {k j : Nat} {x : Str}
theorem hu64 (hr : Room k X.A) : X.A.units + 64 < cLine := by have := hr.un; omega
theorem c_fn {g : List D → Option D} (F : FunP X.prog X.w X.K X.mg X.base x k g) (hr : Room j X.A) (hj : k ≤ j) (hg : Gl X x) (ha : PAx X (e :: es) q) (hdb : (x == ("__debug__" : Str)) = false := by decide) (he : starEach (e :: es) X.env = (false, eval e X.env) :: starEach es X.env := by rfl) (hpl : (backTo pos (starEach es X.env)).any (·.1) = false := by rfl) :
    PFx X (.Call (.Name x pn) (e :: es) [] pos) (pFn g q) := by
  obtain ⟨f, fd, ps, F, hm, hk, hb⟩ := F.ex
  exact f_fn F (hr.mono hj) hg hm hk hb ha hdb he hpl
theorem x_fn {g : List D → Option D} (F : FunP X.prog X.w X.K X.mg X.base x k g) (hr : Room j X.A) (hj : k ≤ j) (hg : Gl X x) (ha : DAx X (e :: es) w) (hdb : (x == ("__debug__" : Str)) = false := by decide) (he : starEach (e :: es) X.env = (false, eval e X.env) :: starEach es X.env := by rfl) (hpl : (backTo pos (starEach es X.env)).any (·.1) = false := by rfl) :
    DEx X (.Call (.Name x pn) (e :: es) [] pos) (eFn g w) := by
  obtain ⟨f, fd, ps, F, hm, hk, hb⟩ := F.ex
  exact e_fn F (hr.mono hj) hg hm hk hb ha hdb he hpl
theorem x_fnI {g : List D → Option (D × D)} {i : Nat} {xi : Str} {pi : Pos} (F : FunI X.prog X.w X.K X.mg X.base x k g) (hr : Room j X.A) (hj : k ≤ j) (hg : Gl X x) (hi : PE X (.Name xi pi) (tVar i)) (ha : DAx X es w) (hdb : (x == ("__debug__" : Str)) = false := by decide)
    (he : starEach (.Name xi pi :: es) X.env = (false, eval (.Name xi pi) X.env) :: starEach es X.env := by rfl) (hpl : (backTo pos (starEach es X.env)).any (·.1) = false := by rfl) : DEx X (.Call (.Name x pn) (.Name xi pi :: es) [] pos) (eFnI g i w) := by
  obtain ⟨f, fd, ps, F, hm, hk, hb⟩ := F.ex
  exact e_fnI F (hr.mono hj) hg hm hk hb hi ha hdb he hpl
/-- its first argument new, and let go -/
def pFnT (g : List D → Option (D × D)) (p : DS → Option D) (q : DS → Option (List D)) : DS → Option D := fun τ => (p τ).bind fun d => (q τ).bind fun ds => (g (d :: D.frzs ds)).bind fun r => if r.1.nof = true ∧ d.nof = true ∧ D.imms ds = true then some r.1 else none
theorem c_fnT {g : List D → Option (D × D)} (F : FunI X.prog X.w X.K X.mg X.base x k g) (hr : Room j X.A) (hj : k ≤ j) (hg : Gl X x) (h1 : PFx X e p) (ha : PAx X es q) (hdb : (x == ("__debug__" : Str)) = false := by decide) (he : starEach (e :: es) X.env = (false, eval e X.env) :: starEach es X.env := by rfl) (hpl : (backTo pos (starEach es X.env)).any (·.1) = false := by rfl) :
    PFx X (.Call (.Name x pn) (e :: es) [] pos) (pFnT g p q) := by
  obtain ⟨f, fd, ps, F, hm, hk, hb⟩ := F.ex
  refine (pe_call F (hr.mono hj) hg hm hk hb .nil pass0 (pa_cons h1 ha he) hdb he hpl).weak fun σ H Q ⟨τ, Fs, O, d, S, e, kk⟩ => ?_
  obtain ⟨d0, e1, e⟩ := bind2 (γ := Unit) e
  obtain ⟨xs, e2, e⟩ := bind2 (γ := Unit) e
  obtain ⟨⟨r, d1⟩, e3, e⟩ := bind2 (γ := Unit) e
  split at e
  · rename_i hn
    cases e
    refine ⟨τ, Fs, O, d0, S, e1, fun v0 H1 F0 s1 r0 n0 => ?_⟩
    have fn : ∀ a ∈ F0, H a = none := n0.2
    have S1 : SRel X.K H1 (fun a => O a ∨ a ∈ F0) σ τ Fs := ⟨S.len, fun i dd ee => let ⟨v, a1, a2⟩ := S.rel i dd ee; ⟨v, a1, (a2.own fun a z => z.imp id (fn a)).same s1⟩, fun a z => by
      rcases z with z | z
      · exact fun w => S.own a z (s1.free w)
      · obtain ⟨o, q, _⟩ := r0.fp a z
        rw [q]; exact fun w => nomatch w⟩
    refine ⟨τ, Fs, _, xs, S1, e2, fun vs H2 F2 s2 r2 n2 => ?_⟩
    show spI X.K g ((v0 :: vs) ++ []) H2 Q E0
    rw [List.append_nil]
    have z2 := r2.imm hn.2.2
    subst z2
    exact ⟨v0, vs, d0, F0, _, r, d1, rfl, (r0.same s2).nof hn.2.1, r2.frz (fun a h => absurd h List.not_mem_nil) (fun a z => .inl (.inr z)), n0.1, e3, fun v H' F F1 rr rd nd fk fnw => kk v H' F (fun a o ea => fk a o (s2 a o (s1 a o ea)) fun z => by rw [fn a z] at ea; cases ea) (rr.nof hn.1) ⟨(List.nodup_append.mp nd).1, fun a ha => (fnw a (.inl ha)).elim (fn a) fun z => s1.free (s2.free z)⟩⟩
  · cases e
end
end DL
set_option Elab.async false
set_option linter.all false
set_option maxRecDepth 100000
set_option maxHeartbeats 2000000
/-! Constants, powers, joined lists, tests that change something, conditional values, three at once, stores, pops. -/
namespace DL
open PySem PySem.Spec PyProof.Rows L2
section
variable {X : Cx} {e a b c : Expr} {es sts rest : List Expr} {p pa pb : DS → Option D} {q : DS → Option (List D)} {f fa fb fe : DS → Option (D × DS)} {g : DS → Option (List D × DS)} {ca : DS → Option Bool} {pos : Pos}
/-! ### constants of the module -/
theorem d_gint {x : Str} {i : Int} (hg : Gl X x) (hm : ∃ t, X.mg x = some (.int i t)) (hd : (x == ("__debug__" : Str)) = false := by decide) : PFx X (.Name x pos) (pC (.int i)) := by
  obtain ⟨t, hm⟩ := hm
  exact (pe_glob (v := .int i) hg hm ⟨t, rfl⟩ hd).weak fun σ H Q ⟨τ, Fs, O, d, S, e, k⟩ => by
    cases e
    exact k _ H [] (Same.refl _) (mk_int _) New.nil
theorem d_gstr {x : Str} {i : Str} (hg : Gl X x) (hm : ∃ t, X.mg x = some (.str i t)) (hd : (x == ("__debug__" : Str)) = false := by decide) : PFx X (.Name x pos) (pC (.str i)) := by
  obtain ⟨t, hm⟩ := hm
  exact (pe_glob (v := .str i) hg hm ⟨t, rfl⟩ hd).weak fun σ H Q ⟨τ, Fs, O, d, S, e, k⟩ => by
    cases e
    exact k _ H [] (Same.refl _) (mk_str _) New.nil
/-! ### powers -/
def cEB (i j : Int) : Bool := decide (0 ≤ j) && decide ((Builtin.Int.intBits i : Int) * j ≤ 134217728)
abbrev oPowB := oI cEB fun i j => i ^ j.toNat
theorem op_powB : OpR X (binaryOp .Pow) (rI (fun i j => 0 ≤ j ∧ (Builtin.Int.intBits i : Int) * j ≤ 134217728) fun i j => .int (i ^ j.toNat)) := opI fun _ _ _ _ _ _ _ hc q => pow_int hc.1 hc.2 q
theorem p_powB (ha : PPx X a pa) (hb : PPx X b pb) : PPx X (.BinOp a .Pow b pos) (pOp oPowB pa pb) := pp_op op_powB (op2_I fun i j h => by
  simp only [cEB, Bool.and_eq_true, decide_eq_true_eq] at h
  exact h) ha hb
/-! ### lists joined -/
def oCat : D → D → Option D
  | .lst true xs, .lst true ys => if D.imms xs = true ∧ D.imms ys = true ∧ xs.length + ys.length ≤ 16777216 then some (.lst true (xs ++ ys)) else none
  | _, _ => none
theorem f_cat (ha : PPx X a pa) (hb : PPx X b pb) : PFx X (.BinOp a .Add b pos) (pOp oCat pa pb) := (pe_op op_cat ha hb).weak fun σ H Q ⟨τ, Fs, O, d, S, e, k⟩ => by
  obtain ⟨x, ex, e⟩ := bind2 (γ := Unit) e
  obtain ⟨y, ey, e⟩ := bind2 (γ := Unit) e
  refine ⟨τ, Fs, O, x, S, ex, fun v1 H1 F1 s1 r1 n1 => ⟨τ, Fs, O, y, S.same s1, ey, fun v2 H2 F2 s2 r2 n2 => ?_⟩⟩
  unfold oCat at e
  split at e
  · split at e
    · rename_i hi
      cases e
      obtain ⟨l, vs, G, rfl, hl, hr, rfl⟩ := rel_own (r1.same s2)
      obtain ⟨l', vs', G', rfl, hl', hr', rfl⟩ := rel_own r2
      have z := hr.imm hi.1
      have z' := hr'.imm hi.2.1
      subst z z'
      refine ⟨l, l', vs, vs', rfl, rfl, hl, hl', by rw [hr.len, hr'.len, sizeLine_eq]; exact hi.2.2, fun p hp => ?_⟩
      have sm := same_upd (o := .lst (vs ++ vs')) hp
      exact k _ _ [p] ((s1.trans s2).trans sm) (mk_lst upd_same (by simpa using (hr.app hr').same sm)) ⟨by simp, fun b hb => by rw [List.mem_singleton.mp hb]; exact (s1.trans s2).free hp⟩
    · cases e
  · cases e
/-! ### displays of lists -/
theorem srel_more {K : PySem.W.Frag} {H : Hp} {O O' : Addr → Prop} {σ : L2.St} {τ : DS} {Fs : Nat → List Addr} (S : SRel K H O σ τ Fs) {H' : Hp} (s : Same H H') (h : ∀ a, O' a → O a ∨ H a = none) (ho : ∀ a, O' a → H' a ≠ none) : SRel K H' O' σ τ Fs :=
  ⟨S.len, fun i d e => let ⟨v, e1, r⟩ := S.rel i d e; ⟨v, e1, (r.own h).same s⟩, ho⟩
/-- a new list around what is at hand -/
theorem mk_new {K : PySem.W.Frag} {H H1 : Hp} {σ : L2.St} {τ : DS} {F : List Addr} {Fs Fs1 : Nat → List Addr} {R : Addr → Prop} {vs : List V} {p : Addr} {o : HO} {ds : List D} (S : SRel K H1 (OW F Fs1 R) σ τ Fs1) (s : Sep H1 F Fs1 R) (f : Fr Fs H F Fs1 H1) (hp : H1 p = none) (hm : Mut (some o))
    (hd : Rels K H1 (OW F Fs1 R) ds vs F) : SRel K (upd H1 p o) (OW (p :: F) Fs1 R) σ τ Fs1 ∧ Rels K (upd H1 p o) (OW (p :: F) Fs1 R) ds vs F ∧ Sep (upd H1 p o) (p :: F) Fs1 R ∧ Fr Fs H (p :: F) Fs1 (upd H1 p o) := by
  have sm := same_upd (o := o) hp
  have pF : p ∉ F := fun z => by
    obtain ⟨u, e, _⟩ := s.mf p z
    rw [hp] at e; cases e
  have ow : ∀ a, OW (p :: F) Fs1 R a → a = p ∨ OW F Fs1 R a := fun a z => by
    rcases z with z | z
    · exact (List.mem_cons.mp z).imp id .inl
    · exact .inr (.inr z)
  have ok : ∀ a, OW (p :: F) Fs1 R a → upd H1 p o a ≠ none := fun a z => by
    rcases ow a z with z | z
    · rw [z, upd_same]; exact fun w => nomatch w
    · exact fun w => S.own a z (sm.free w)
  have pO : ¬ OW F Fs1 R p := fun z => S.own p z hp
  have oo : ∀ a, OW (p :: F) Fs1 R a → OW F Fs1 R a ∨ H1 a = none := fun a z => (ow a z).symm.imp id fun z => by rw [z]; exact hp
  refine ⟨srel_more S sm oo ok, (hd.own oo).same sm, ?_, ?_⟩
  · exact ⟨List.nodup_cons.mpr ⟨pF, s.nd⟩, s.nds, s.dj, fun i a h z => (List.mem_cons.mp z).elim (fun z => pO (.inr (.inl ⟨i, z ▸ h⟩))) (s.f1 i a h), s.r1, fun a h z => (List.mem_cons.mp h).elim (fun w => pO (.inr (.inr (w ▸ z)))) fun h => s.r2 a h z,
      fun i a h => let ⟨u, q, m⟩ := s.mu i a h; ⟨u, sm a u q, m⟩, fun a h => (List.mem_cons.mp h).elim (fun w => ⟨o, by rw [w, upd_same], hm⟩) fun h => let ⟨u, q, m⟩ := s.mf a h; ⟨u, sm a u q, m⟩⟩
  · refine ⟨fun a u e n => sm a u (f.keep a u e n), fun a z => ?_⟩
    rcases z with z | z
    · rcases List.mem_cons.mp z with rfl | z
      · by_cases h : ∃ i, a ∈ Fs i
        · exact .inl h
        · refine .inr ?_
          cases q : H a with
          | none => rfl
          | some u => rw [f.keep a u q fun i w => h ⟨i, w⟩] at hp; cases hp
      · exact f.new a (.inl z)
    · exact f.new a (.inr z)
theorem e_lst (h : DAx X es g) : DEx X (.List es pos) (eLst g) := (pe_lst h).weak fun σ H Q ⟨τ, Fs, R, d, τ', S, s, e, k⟩ => by
  obtain ⟨⟨xs, τ1⟩, e1, e⟩ := bind2 (γ := Unit) e
  split at e
  · rename_i hl
    cases e
    refine ⟨τ, Fs, R, xs, _, S, s, e1, fun vs H1 F1 Fs1 S1 r1 s1 f1 => ⟨by rw [r1.len, sizeLine_eq]; exact hl, fun a ha => ?_⟩⟩
    obtain ⟨z1, z2, z3, z4⟩ := mk_new (o := .lst vs) S1 s1 f1 ha trivial r1
    exact k _ _ _ Fs1 z1 (mk_lst upd_same z2) z3 z4
  · cases e
/-! ### a if c else b -/
def eIf (c : DS → Option Bool) (fa fb : DS → Option (D × DS)) : DS → Option (D × DS) := fun τ => (c τ).bind fun k => if k = true then fa τ else fb τ
theorem e_if (hc : PTx X c ca) (ha : DEx X a fa) (hb : DEx X b fb) : DEx X (.IfExp c a b pos) (eIf ca fa fb) := (pe_ifExp hc ha hb).weak fun σ H Q ⟨τ, Fs, R, d, τ', S, s, e, k⟩ => by
  obtain ⟨b, e1, e2⟩ := bind2 (γ := Unit) e
  refine ⟨τ, Fs, _, b, S, e1, fun H1 sm => ?_⟩
  have f0 : Fr Fs H [] Fs H1 := Fr.of_same sm New.nil
  cases b with
  | true => exact iteT ⟨τ, Fs, R, d, τ', S.same sm, sep_same s sm, e2, fun v H' F Fs' S' r s' f' => k v H' F Fs' S' r s' (f0.both f')⟩
  | false => exact iteF ⟨τ, Fs, R, d, τ', S.same sm, sep_same s sm, e2, fun v H' F Fs' S' r s' f' => k v H' F Fs' S' r s' (f0.both f')⟩
/-! ### tests that may change something -/
def liftET (K : PySem.W.Frag) (c : DS → Option (Bool × DS)) : TT := fun σ H Q => ∃ τ Fs R b τ', SRel K H (OW [] Fs R) σ τ Fs ∧ Sep H [] Fs R ∧ c τ = some (b, τ') ∧
  ∀ H' Fs', SRel K H' (OW [] Fs' R) σ τ' Fs' → Sep H' [] Fs' R → Fr Fs H [] Fs' H' → Q b H'
abbrev DTx (X : Cx) (e : Expr) (c : DS → Option (Bool × DS)) : Prop := PT X e (liftET X.K c)
def kP (c : DS → Option Bool) : DS → Option (Bool × DS) := fun τ => (c τ).map fun b => (b, τ)
theorem k_p {c : DS → Option Bool} (h : PTx X e c) : DTx X e (kP c) := h.weak fun σ H Q ⟨τ, Fs, R, d, τ', S, s, e, k⟩ => by
  obtain ⟨b, e1, e2⟩ := Option.map_eq_some_iff.mp e
  cases e2
  exact ⟨τ, Fs, _, _, S, e1, fun H1 sm => k H1 Fs (S.same sm) (sep_same s sm) (Fr.of_same sm New.nil)⟩
def kTru (f : DS → Option (D × DS)) : DS → Option (Bool × DS) := fun τ => (f τ).bind fun r => r.1.tru.map fun b => (b, r.2)
theorem drop_all {K : PySem.W.Frag} {H1 : Hp} {σ : L2.St} {τ : DS} {F : List Addr} {Fs Fs1 : Nat → List Addr} {R : Addr → Prop} {H : Hp} (S : SRel K H1 (OW F Fs1 R) σ τ Fs1) (s : Sep H1 F Fs1 R) (f : Fr Fs H F Fs1 H1) :
    SRel K H1 (OW [] Fs1 R) σ τ Fs1 ∧ Sep H1 [] Fs1 R ∧ Fr Fs H [] Fs1 H1 := ⟨S.mono fun a z => z.elim (fun z => absurd z List.not_mem_nil) .inr, s.drop, f.sub fun _ z => absurd z List.not_mem_nil⟩
theorem k_of (h : DEx X e f) (he : ∀ whole, isTrue e X.env whole = (do let v ← whole; standAt e.pos; holding [v] (truthy v)) := by intro _; rfl) : DTx X e (kTru f) :=
  (pt_truth h he).weak fun σ H Q ⟨τ, Fs, R, d, τ', S, s, e, k⟩ => by
    obtain ⟨⟨x, τ1⟩, e1, e2⟩ := bind2 (γ := Unit) e
    obtain ⟨b, e3, e4⟩ := Option.map_eq_some_iff.mp e2
    cases e4
    refine ⟨τ, Fs, R, x, _, S, s, e1, fun v H' F Fs' S' r' s' f' => ⟨_, rel_tru r' e3, ?_⟩⟩
    obtain ⟨z1, z2, z3⟩ := drop_all S' s' f'
    exact k H' Fs' z1 z2 z3
def kBl (f : DS → Option (D × DS)) : DS → Option (Bool × DS) := fun τ => (f τ).bind fun r => match r.1 with
  | .bl b => some (b, r.2)
  | _ => none
theorem k_cmp {op : CmpOp} {r : R2} {o : D → D → Option D} (ho : OpR X (compareOp op) r) (hd : Op2 X.K r o) (ha : DEx X a fa) (hb : DEx X b fb) (hm : behindInMarks op b = false) : DTx X (.Compare a [op] [b] pos) (kBl (eOp o fa fb)) :=
  (pt_cmpR ho ha hb hm).weak fun σ H Q ⟨τ, Fs, R, d, τ', S, s, e, k⟩ => by
    obtain ⟨⟨x, τ1⟩, e1, e2⟩ := bind2 (γ := Unit) e
    cases x with
    | bl b =>
      cases e2
      have z := liftE2 (fa := fa) (fb := fb) (Q := fun x H' => ∃ k, x = .bl k ∧ Q k H') hd ⟨τ, Fs, R, _, _, S, s, e1, fun v H' F Fs' S' r' s' f' => ⟨d, (rel_bl r').1, by
        obtain ⟨z1, z2, z3⟩ := drop_all S' s' f'
        exact k H' Fs' z1 z2 z3⟩⟩
      exact z
    | _ => cases e2
theorem k_eq (hu : X.A.units + 64 < cLine) (ha : DEx X a fa) (hb : DEx X b fb) : DTx X (.Compare a [.Eq] [b] pos) (kBl (eOp oEq fa fb)) := k_cmp (op_eqD hu) op2_eq ha hb (nomark _)
theorem k_ne (hu : X.A.units + 64 < cLine) (ha : DEx X a fa) (hb : DEx X b fb) : DTx X (.Compare a [.NotEq] [b] pos) (kBl (eOp oNe fa fb)) := k_cmp (op_neD hu) op2_ne ha hb (nomark _)
theorem k_lt (ha : DEx X a fa) (hb : DEx X b fb) : DTx X (.Compare a [.Lt] [b] pos) (kBl (eOp oLt fa fb)) := k_cmp op_lt op2_B ha hb (nomark _)
theorem k_gt (ha : DEx X a fa) (hb : DEx X b fb) : DTx X (.Compare a [.Gt] [b] pos) (kBl (eOp oGt fa fb)) := k_cmp op_gt op2_B ha hb (nomark _)
theorem k_is (ha : DEx X a fa) (hb : DEx X b fb) : DTx X (.Compare a [.Is] [b] pos) (kBl (eOp (oIs false) fa fb)) := k_cmp (Or2 op_isN op_isBl) op2_is ha hb (nomark _)
theorem k_isnt (ha : DEx X a fa) (hb : DEx X b fb) : DTx X (.Compare a [.IsNot] [b] pos) (kBl (eOp (oIs true) fa fb)) := k_cmp (Or2 op_notN op_notBl) op2_isnt ha hb (nomark _)
def kNot (c : DS → Option (Bool × DS)) : DS → Option (Bool × DS) := fun τ => (c τ).map fun r => (!r.1, r.2)
theorem k_not {c : DS → Option (Bool × DS)} (h : DTx X a c) : DTx X (.UnaryOp .Not a pos) (kNot c) := (pt_not h).weak fun σ H Q ⟨τ, Fs, R, d, τ', S, s, e, k⟩ => by
  obtain ⟨⟨b, τ1⟩, e1, e2⟩ := Option.map_eq_some_iff.mp e
  cases e2
  exact ⟨τ, Fs, R, b, _, S, s, e1, fun H' Fs' S' s' f' => k H' Fs' S' s' f'⟩
def fIfE (c : DS → Option (Bool × DS)) (f g : DS → Option Out) : DS → Option Out := fun τ => (c τ).bind fun r => if r.1 = true then f r.2 else g r.2
theorem s_ifE {W W' : List Nat} {f g : DS → Option Out} {k : DS → Option (Bool × DS)} {th el : List Stmt} (hc : DTx X c k) (h1 : DSs X th W f) (h2 : DSs X el W' g) : DSx X (.If c th el pos) (W ++ W') (fIfE k f g) := (ps_if hc h1 h2).weak fun N σ H ⟨τ, Fs, R, out, S, s, e, k⟩ => by
  obtain ⟨⟨b, τ1⟩, e1, e2⟩ := bind2 (γ := Unit) e
  refine ⟨τ, Fs, R, b, τ1, S, s, e1, fun H1 Fs1 S1 s1 f1 => ?_⟩
  have k1 : EndOk X.K (W ++ W') N σ H1 Fs1 R out := EndOk.ahead (W := []) k f1 Kp.refl
  cases b with
  | true => exact iteT ⟨τ1, Fs1, R, out, S1, s1, e2, k1.wide fun i => List.mem_append_left _⟩
  | false => exact iteF ⟨τ1, Fs1, R, out, S1, s1, e2, k1.wide fun i => List.mem_append_right _⟩
end
end DL
set_option Elab.async false
set_option linter.all false
set_option maxRecDepth 100000
set_option maxHeartbeats 2000000
/-! Comprehensions that may change what the slots own. -/
namespace DL
open PySem PySem.Spec PyProof.Rows L2
/-! ### what is walked, where asking for it may change something -/
def liftEI (K : PySem.W.Frag) (q : DS → Option (List D × DS)) : TI := fun σ H G => ∃ τ Fs R ds τ', SRel K H (OW [] Fs R) σ τ Fs ∧ Sep H [] Fs R ∧ q τ = some (ds, τ') ∧
  ∀ J H' Fs', SRel K H' (OW [] Fs' R) σ τ' Fs' → Sep H' [] Fs' R → Fr Fs H [] Fs' H' → Src K (OW [] Fs' R) J ds H' → G J H'
abbrev DIx (X : Cx) (tg e : Expr) (q : DS → Option (List D × DS)) : Prop := PI X tg e (liftEI X.K q)
def jP (q : DS → Option (List D)) : DS → Option (List D × DS) := fun τ => (q τ).map fun ds => (ds, τ)
section
variable {X : Cx} {tg e : Expr} {pos pn : Pos}
theorem j_p {q : DS → Option (List D)} (h : PIx X tg e q) : DIx X tg e (jP q) := h.weak fun σ H G ⟨τ, Fs, R, ds, τ', S, s, e, k⟩ => by
  obtain ⟨b, e1, e2⟩ := Option.map_eq_some_iff.mp e
  cases e2
  exact ⟨τ, Fs, _, _, S, e1, fun J H1 sm src => k J H1 Fs (S.same sm) (sep_same s sm) (Fr.of_same sm New.nil) src⟩
def jRg1 (g : DS → Option (List D × DS)) : DS → Option (List D × DS) := fun τ => (g τ).bind fun r => match r.1 with
  | [.int j] => if okR j = true then some (rgD 0 j.toNat, r.2) else none
  | _ => none
theorem j_rg1 {g : DS → Option (List D × DS)} (hg : Gl X "range") (hm : X.mg "range" = none) (ha : DAx X [e] g) (hs : starEach [e] X.env = [(false, eval e X.env)] := by rfl) : DIx X tg (.Call (.Name "range" pn) [e] [] pos) (jRg1 g) :=
  (pi_range1 hg hm ha hs).weak fun σ H G ⟨τ, Fs, R, ds, τ', S, s, e, k⟩ => by
    obtain ⟨⟨es, τ1⟩, e1, e2⟩ := bind2 (γ := Unit) e
    dsimp only at e2
    split at e2
    · split at e2
      · rename_i h
        cases e2
        simp only [okR, Bool.and_eq_true, decide_eq_true_eq] at h
        refine ⟨τ, Fs, R, _, _, S, s, e1, fun vs H' F Fs' S' r s' f' => ?_⟩
        obtain ⟨v, rfl, r1⟩ := rels1 r
        obtain ⟨z1, z2, z3⟩ := drop_all S' s' f'
        exact ⟨_, by rw [(rel_int r1).1], h.1, h.2, k _ H' Fs' z1 z2 z3 src_rg⟩
      · cases e2
    · cases e2
end
/-! ### targets -/
def CE (K : PySem.W.Frag) (vs : List Nat) (g : TG) (gd : D → DS → Option DS) : Prop := ∀ (H : Hp) (R : Addr → Prop) (σ : L2.St) (τ : DS) (Fs : Nat → List Addr) (d : D) (v : V) (τ' : DS) (σ0 : L2.St) (Q : L2.St → Hp → Prop),
  SRel K H (OW [] Fs R) σ τ Fs → Sep H [] Fs R → wipe σ vs = σ0 → Rel K H (OW [] Fs R) d v [] → gd d τ = some τ' → (∀ σ2 Fs2, SRel K H (OW [] Fs2 R) σ2 τ' Fs2 → Sep H [] Fs2 R → (∀ i a, a ∈ Fs2 i → ∃ j, a ∈ Fs j) → wipe σ2 vs = σ0 → Q σ2 H) → g v σ H Q
def CEs (K : PySem.W.Frag) (vs : List Nat) (g : TGs) (gd : List D → DS → Option DS) : Prop := ∀ (H : Hp) (R : Addr → Prop) (σ : L2.St) (τ : DS) (Fs : Nat → List Addr) (ds : List D) (ws : List V) (τ' : DS) (σ0 : L2.St) (Q : L2.St → Hp → Prop),
  SRel K H (OW [] Fs R) σ τ Fs → Sep H [] Fs R → wipe σ vs = σ0 → Rels K H (OW [] Fs R) ds ws [] → gd ds τ = some τ' → (∀ σ2 Fs2, SRel K H (OW [] Fs2 R) σ2 τ' Fs2 → Sep H [] Fs2 R → (∀ i a, a ∈ Fs2 i → ∃ j, a ∈ Fs j) → wipe σ2 vs = σ0 → Q σ2 H) → g ws σ H Q
section
variable {K : PySem.W.Frag} {vs : List Nat}
theorem ce_name {i : Nat} (h : i ∈ vs) : CE K vs (gName i) (gdN i) := fun H R σ τ Fs d v τ' σ0 Q S s w r e q => by
  cases e
  have hG : ∀ a ∈ ([] : List Addr), a ∈ Fs i ∨ a ∈ ([] : List Addr) := fun a z => absurd z List.not_mem_nil
  refine q _ (put Fs i []) ((srel_set S r).mono fun a z => ow_put hG (fun _ => id) a z) (sep_put s hG List.nodup_nil [] (fun a z => absurd z List.not_mem_nil) List.nodup_nil) (fun j a h => ?_) (by rw [wipe_set h]; exact w)
  exact (put_mem h).elim (fun w => absurd w.2 List.not_mem_nil) fun w => ⟨j, w.2⟩
theorem ce_nil : CEs K vs gNil gdNil := fun H R σ τ Fs ds ws τ' σ0 Q S s w r e q => by
  cases ds with
  | nil =>
    cases e
    simp only [Rels] at r
    exact ⟨r.1, q _ Fs S s (fun i a ha => ⟨i, ha⟩) w⟩
  | cons _ _ => cases e
theorem ce_cons {g : TG} {gd : D → DS → Option DS} {gs : TGs} {gds : List D → DS → Option DS} (h : CE K vs g gd) (k : CEs K vs gs gds) : CEs K vs (gCons g gs) (gdCons gd gds) := fun H R σ τ Fs ds ws τ' σ0 Q S s w r e q => by
  cases ds with
  | nil => cases e
  | cons d ds =>
    obtain ⟨τ1, e1, e2⟩ := bind2 (γ := Unit) (show (gd d τ).bind _ = some τ' from e)
    simp only [Rels] at r
    obtain ⟨v, us, F1, F2, rfl, r1, r2, eF⟩ := r
    obtain ⟨rfl, rfl⟩ := nil_of_app eF
    exact ⟨v, us, rfl, h H R σ τ Fs d v τ1 σ0 _ S s w r1 e1 fun σ2 Fs2 S2 s2 n2 w2 => k H R σ2 τ1 Fs2 ds us τ' σ0 Q S2 s2 w2 (r2.own fun a z => .inl (ow_sub n2 a z)) e2 fun σ3 Fs3 S3 s3 n3 w3 => q σ3 Fs3 S3 s3 (fun i a ha => let ⟨j, hj⟩ := n3 i a ha; n2 j a hj) w3⟩
theorem ce_tup {n : Nat} {g : TGs} {gd : List D → DS → Option DS} (h : CEs K vs g gd) : CE K vs (gTup K n g) (gdTup n gd) := fun H R σ τ Fs d v τ' σ0 Q S s w r e q => by
  cases d with
  | tup ds =>
    have e : (if ds.length = n then gd ds τ else none) = some τ' := e
    split at e
    · rename_i hn
      obtain ⟨a, us, rfl, hq, hr⟩ := rel_tup r
      exact ⟨a, us, rfl, hq, by rw [hr.len]; exact hn, h H R σ τ Fs ds us τ' σ0 Q S s w hr e q⟩
    · cases e
  | _ => cases e
end
/-- the list that such a comprehension makes, and the slots behind it -/
def lcE (g : D → DS → Option DS) (c : DS → Option (Bool × DS)) (f : DS → Option (D × DS)) (vs : List Nat) : List D → DS → Option (List D × DS)
  | [], τ => some ([], τ)
  | d :: ds, τ => (g d τ).bind fun τ1 => (c τ1).bind fun k => if k.1 = true then (f k.2).bind fun r => (lcE g c f vs ds (wipeD r.2 vs)).bind fun rs => some (r.1 :: rs.1, rs.2) else lcE g c f vs ds (wipeD k.2 vs)
def eLc (q : DS → Option (List D × DS)) (g : D → DS → Option DS) (c : DS → Option (Bool × DS)) (f : DS → Option (D × DS)) (vs : List Nat) : DS → Option (D × DS) := fun τ => (q τ).bind fun s => if s.1.length ≤ 16777216 then (lcE g c f vs s.1 (wipeD s.2 vs)).bind fun rs => some (.lst true rs.1, rs.2) else none
theorem wipe_some {σ : L2.St} {i : Nat} {v : V} : ∀ {vs : List Nat}, (wipe σ vs)[i]? = some (some v) → σ[i]? = some (some v)
  | [], h => h
  | w :: vs, h => by
    unfold wipe at h
    by_cases e : w = i
    · subst e
      by_cases hl : w < (wipe σ vs).length
      · rw [List.getElem?_set_self hl] at h; cases h
      · rw [List.getElem?_eq_none (by rw [List.length_set]; omega)] at h; cases h
    · rw [List.getElem?_set_ne e] at h
      exact wipe_some h
theorem rels_handG {K : PySem.W.Frag} {H1 H2 : Hp} {F1 F2 G : List Addr} {Fs1 Fs2 : Nat → List Addr} {R : Addr → Prop} {d : List D} {v : List V} (r : Rels K H1 (OW F1 Fs1 R) d v G) (hG : ∀ a ∈ G, a ∈ F1) (s : Sep H1 F1 Fs1 R) (f : Fr Fs1 H1 F2 Fs2 H2) : Rels K H2 (OW F2 Fs2 (fun a => a ∈ F1 ∨ R a)) d v G := by
  refine r.keep (fun a o e m => f.keep a o e fun i z => ?_) (fun a o e m => f.keep a o e fun i z => s.f1 i a z (hG a m)) (fun a o e m => f.keep a o e fun i z => m (.inr (.inl ⟨i, z⟩))) fun a z => ?_
  · obtain ⟨o', e', m'⟩ := s.mu i a z
    rw [e] at e'; cases e'; exact m m'
  · rcases z with z | z | z | z
    · exact (f.new a (.inl z)).imp (fun z => .inr (.inl z)) id
    · exact (f.new a (.inr z)).imp (fun z => .inr (.inl z)) id
    · exact .inl (.inl z)
    · exact .inl (.inr (.inr z))
/-- the list at hand is written -/
theorem hand_write {K : PySem.W.Frag} {H : Hp} {σ : L2.St} {τ : DS} {F : List Addr} {Fs Fs1 : Nat → List Addr} {R : Addr → Prop} {L : Addr} {H1 : Hp} {acc : List D} {us : List V} {o : HO} (S : SRel K H (OW (L :: F) Fs R) σ τ Fs) (s : Sep H (L :: F) Fs R) (f : Fr Fs1 H1 (L :: F) Fs H) (r : Rels K H (OW (L :: F) Fs R) acc us F) (hL : ∃ o, H L = some o ∧ Mut (some o)) (h1 : H1 L = none) (ho : Mut (some o)) :
    SRel K (upd H L o) (OW (L :: F) Fs R) σ τ Fs ∧ Sep (upd H L o) (L :: F) Fs R ∧ Fr Fs1 H1 (L :: F) Fs (upd H L o) ∧ Rels K (upd H L o) (OW (L :: F) Fs R) acc us F := by
  have LO : OW (L :: F) Fs R L := .inl List.mem_cons_self
  have LF : L ∉ F := (List.nodup_cons.mp s.nd).1
  have Ls : ∀ i, L ∉ Fs i := fun i z => s.f1 i L z List.mem_cons_self
  have kk : ∀ a u, H a = some u → a ≠ L → upd H L o a = some u := fun a u e n => by rw [upd_ne n]; exact e
  have mm : ∀ a u, H a = some u → ¬ Mut (some u) → upd H L o a = some u := fun a u e m => kk a u e fun z => by
    obtain ⟨w, q, m'⟩ := hL
    rw [z, q] at e; cases e; exact m m'
  have mu' : ∀ a, (∃ o, H a = some o ∧ Mut (some o)) → ∃ u, upd H L o a = some u ∧ Mut (some u) := fun a ⟨u, e, m⟩ => by
    by_cases ha : a = L
    · subst ha; exact ⟨_, upd_same, ho⟩
    · exact ⟨u, kk a u e ha, m⟩
  refine ⟨⟨S.len, fun i d e => ?_, fun a z => ?_⟩, ⟨s.nd, s.nds, s.dj, s.f1, s.r1, s.r2, fun i a h => mu' a (s.mu i a h), fun a h => mu' a (s.mf a h)⟩, ⟨fun a u e n => kk a u (f.keep a u e n) fun z => ?_, f.new⟩, ?_⟩
  · obtain ⟨v, e1, rr⟩ := S.rel i d e
    exact ⟨v, e1, rr.keep mm (fun a u e z => kk a u e fun w => Ls i (w ▸ z)) (fun a u e z => kk a u e fun w => z (w ▸ LO)) fun a z => .inl z⟩
  · by_cases ha : a = L
    · subst ha; rw [upd_same]; exact fun z => nomatch z
    · rw [upd_ne ha]; exact S.own a z
  · rw [z, h1] at e; cases e
  · exact r.keep mm (fun a u e z => kk a u e fun w => LF (w ▸ z)) (fun a u e z => kk a u e fun w => z (w ▸ LO)) fun a z => .inl z
theorem lift_lcE {K : PySem.W.Frag} {q : DS → Option (List D × DS)} {gd : D → DS → Option DS} {c : DS → Option (Bool × DS)} {f : DS → Option (D × DS)} {vs : List Nat} {g : TG} (hg : CE K vs g gd) {σ : L2.St} {H : Hp} {Q : VK} (h : liftE K (eLc q gd c f vs) σ H Q) :
    tLc (liftEI K q) g (liftET K c) (liftE K f) vs σ H Q := by
  obtain ⟨τ, Fs, R, d, τ', S, s, e, k⟩ := h
  obtain ⟨⟨ds, τ1⟩, e1, e⟩ := bind2 (γ := Unit) e
  split at e
  · rename_i hl
    have hl : ds.length ≤ 16777216 := hl
    obtain ⟨⟨rs, τ2⟩, e2, e⟩ := bind2 (γ := Unit) e
    cases e
    refine ⟨τ, Fs, R, ds, τ1, S, s, e1, fun J H1 Fs1 S1 s1 f1 src => fun L hL => ?_⟩
    obtain ⟨G, Y, hG, wk, hY⟩ := src
    obtain ⟨i1, i2, i3, i4⟩ := mk_new (o := .lst []) (srel_wipe (vs := vs) S1) s1 (Fr.refl (Fs := Fs1) (H := H1)) hL trivial (Rels.nil (K := K))
    have kept : ∀ {Fs' : Nat → List Addr} {F : List Addr} {H' : Hp}, Fr Fs1 H1 F Fs' H' → KeptO (OW [] Fs1 R) H1 H' := fun f' a o ea m => f'.keep a o ea fun i z => by
      rcases m with m | m
      · obtain ⟨o', q', m'⟩ := s1.mu i a z
        rw [ea] at q'; cases q'; exact m m'
      · exact m (.inr (.inl ⟨i, z⟩))
    refine lc_it wk (fun i Hc => ∃ τc Fc acc rest us F, SRel K Hc (OW (L :: F) Fc R) (wipe σ vs) τc Fc ∧ lcE gd c f vs (ds.drop i) τc = some (rest, τ2) ∧ acc ++ rest = rs ∧ Hc L = some (.lst us) ∧ us.length ≤ i ∧ Rels K Hc (OW (L :: F) Fc R) acc us F ∧ Sep Hc (L :: F) Fc R ∧ Fr Fs1 H1 (L :: F) Fc Hc) ?_ ?_ ?_ ?_
    · exact ⟨wipeD τ1 vs, Fs1, [], rs, [], [], i1, e2, rfl, upd_same, Nat.zero_le _, Rels.nil, i3, i4⟩
    · rintro i Hc _ ⟨τc, Fc, acc, rest, us, F, _, _, _, _, _, _, _, fc⟩
      exact hG Hc (kept fc)
    · rintro i x Hc H2 hi ⟨τc, Fc, acc, rest, us, F, Sc, f1', f2, f3, f4, f5, sc, fc⟩ hy
      obtain ⟨sm2, d, ed, rd⟩ := hY i Hc x H2 hi (kept fc) hy
      have rd := rd (OW (L :: F) Fc R) (fun a z => by
        rcases z with z | z | z
        · exact (fc.new a (.inl z)).imp (fun z => .inr (.inl z)) id
        · exact (fc.new a (.inr z)).imp (fun z => .inr (.inl z)) id
        · exact .inl (.inr (.inr z))) Sc.own
      rw [List.drop_eq_getElem_cons hi] at f1'
      have ed' : ds[i] = d := by
        rw [List.getElem?_eq_getElem hi] at ed
        exact Option.some.inj ed
      rw [ed'] at f1'
      obtain ⟨τ3, g1, f1'⟩ := bind2 (γ := Unit) (show (gd d τc).bind _ = some (rest, τ2) from f1')
      obtain ⟨⟨b, τ4⟩, g2, f1'⟩ := bind2 (γ := Unit) f1'
      have f3' := sm2 _ _ f3
      have oh : ∀ {Fx : Nat → List Addr} a, OW [] Fx (fun a => a ∈ L :: F ∨ R a) a → OW (L :: F) Fx R a := fun a z => (ow_hand a).mp z
      refine hg H2 (fun a => a ∈ L :: F ∨ R a) _ _ Fc d x τ3 (wipe σ vs) _ ((Sc.same sm2).mono oh) (sep_same sc sm2).hand (wipe_wipe _ _) (rd.own fun a z => .inl (oh a z)) g1 fun σ2 Fs2 S2 s2 n2 w2 => ⟨w2, τ3, Fs2, _, b, τ4, S2, s2, g2, fun H3 Fs3 S3 s3 t3 => ?_⟩
      have fr2 : Fr Fc Hc [] Fs2 H2 := fr_sub (Fr.of_same sm2 New.nil) n2
      have fr3 := fr2.trans t3
      have L3 : H3 L = some (.lst us) := t3.keep _ _ f3' fun i z => s2.r1 i L z (.inl List.mem_cons_self)
      have wS : ∀ {Hx : Hp} {Ox : Addr → Prop} {τx : DS} {Fx : Nat → List Addr}, SRel K Hx Ox σ2 τx Fx → SRel K Hx Ox (wipe σ vs) (wipeD τx vs) Fx := fun z => by
        have q := srel_wipe (vs := vs) z
        rw [w2] at q
        exact q
      cases b with
      | true =>
        obtain ⟨⟨r, τ5⟩, g3, f1'⟩ := bind2 (γ := Unit) (show (f τ4).bind _ = some (rest, τ2) from f1')
        obtain ⟨⟨rest', τ6⟩, g4, f1'⟩ := bind2 (γ := Unit) f1'
        cases f1'
        refine iteT ⟨τ4, Fs3, _, r, τ5, S3, s3, g3, fun y H4 F4 Fs4 S4 r4 s4 t4 => ?_⟩
        have fr4 := fr3.trans t4
        have L4 : H4 L = some (.lst us) := t4.keep _ _ L3 fun i z => s3.r1 i L z (.inl List.mem_cons_self)
        have ra := rels_handG f5 (fun a => List.mem_cons_of_mem _) sc fr4
        have rA : Rels K H4 (OW (L :: (F ++ F4)) Fs4 R) (acc ++ [r]) (us ++ [y]) (F ++ F4) := (ra.app (Rels.one r4)).own fun a z => .inl ((ow_both (F1 := L :: F) a).mpr z)
        obtain ⟨z1, z2, z3, z4⟩ := hand_write (o := .lst (us ++ [y])) (F := F ++ F4) ((wS S4).mono fun a z => (ow_both (F1 := L :: F) a).mpr z) (sc.both fr4 s4) (fc.both fr4) rA ⟨_, L4, trivial⟩ hL trivial
        exact ⟨us, L4, by rw [sizeLine_eq]; omega, wipeD τ5 vs, Fs4, acc ++ [r], rest', us ++ [y], F ++ F4, z1, g4, by rw [← f2]; simp, upd_same, by rw [List.length_append]; show us.length + 1 ≤ i + 1; omega, z4, z2, z3⟩
      | false =>
        have ra := rels_handG f5 (fun a => List.mem_cons_of_mem _) sc fr3
        have ob : ∀ a, OW (L :: F) Fs3 R a → OW [] Fs3 (fun a => a ∈ L :: F ∨ R a) a := fun a z => (ow_hand a).mpr z
        have sb := sc.both fr3 s3
        rw [List.append_nil] at sb
        have fb := fc.both fr3
        rw [List.append_nil] at fb
        exact iteF ⟨wipeD τ4 vs, Fs3, acc, rest, us, F, (wS S3).mono ob, f1', f2, L3, Nat.le_succ_of_le f4, ra.own fun a z => .inl (ob a z), sb, fb⟩
    · rintro Hc ⟨τc, Fc, acc, rest, us, F, Sc, f1', f2, f3, f4, f5, sc, fc⟩
      rw [List.drop_length] at f1'
      cases f1'
      rw [List.append_nil] at f2
      subst f2
      refine k (.ref L) Hc (L :: F) Fc ⟨by have := Sc.len; rw [wipe_length] at this; exact this, fun i d e => ?_, Sc.own⟩ (mk_lst f3 f5) sc (f1.trans fc)
      obtain ⟨v, e1, rr⟩ := Sc.rel i d e
      exact ⟨v, wipe_some e1, rr⟩
  · cases e
section
variable {X : Cx}
abbrev DTsx (X : Cx) (ifs : List Expr) (c : DS → Option (Bool × DS)) : Prop := PTs X ifs (liftET X.K c)
def kYes : DS → Option (Bool × DS) := fun τ => some (true, τ)
theorem ks_nil : DTsx X [] kYes := ⟨fun pins s σ H Q I ⟨τ, Fs, R, b, τ', S, sp, e, k⟩ => pts_nil.run pins s σ H Q I (by cases e; exact k H Fs S sp Fr.refl)⟩
theorem ks_one {e : Expr} {c : DS → Option (Bool × DS)} (h : DTx X e c) : DTsx X [e] c := pts_one h
theorem e_lc {elt tg iter : Expr} {ifs : List Expr} {scope : Scope} {own : List (Str × Nat)} {pos : Pos} {q : DS → Option (List D × DS)} {g : TG} {gd : D → DS → Option DS} {c : DS → Option (Bool × DS)} {f : DS → Option (D × DS)} (hc : X.calm = true) (hN : X.N.Nodup) (hi : DIx X tg iter q) (ok : BlkOk X.N X.env.scope scope own)
    (hct : CE X.K (own.map (·.2)) g gd) (hg : ∀ (s : Shared) (H : Hp) (C : Addr) (cl : List (Str × Addr)) (fp : List Addr), PG (X.blk s H scope (compEnvC scope cl C X.env) fp) tg g) (ht : ∀ (s : Shared) (H : Hp) (C : Addr) (cl : List (Str × Addr)) (fp : List Addr), DTsx (X.blk s H scope (compEnvC scope cl C X.env) fp) ifs c)
    (he : ∀ (s : Shared) (H : Hp) (C : Addr) (cl : List (Str × Addr)) (fp : List Addr), DEx (X.blk s H scope (compEnvC scope cl C X.env) fp) elt f) (hs : ∀ x, foldedSetIterable iter X.env x = pure x := by intro _; rfl) :
    DEx X (.ListComp elt [⟨tg, iter, ifs, 0⟩] scope pos) (eLc q gd c f (own.map (·.2))) := (pe_lc hc hN hi ok hg ht he hs).weak fun σ H Q h => lift_lcE hct h
theorem s_setLcE {i : Nat} {y : Str} {py : Pos} {elt tg iter : Expr} {ifs : List Expr} {scope : Scope} {own : List (Str × Nat)} {pos spos : Pos} {q : DS → Option (List D × DS)} {g : TG} {gd : D → DS → Option DS} {c : DS → Option (Bool × DS)} {f : DS → Option (D × DS)} (hc : X.calm = true) (hN : X.N.Nodup) (hy : X.N[i]? = some y) (hyl : X.env.scope.names.lookup y = some .local)
    (hsw : swapsWith (.ListComp elt [⟨tg, iter, ifs, 0⟩] scope pos) (some (.Name y py)) spos.line X.env = pure true) (hi : DIx X tg iter q) (ok : BlkOk X.N X.env.scope scope own) (hct : CE X.K (own.map (·.2)) g gd)
    (hg : ∀ (s : Shared) (H : Hp) (C : Addr) (cl : List (Str × Addr)) (fp : List Addr), PG (X.blk s H scope (compEnvC scope cl C X.env) fp) tg g) (ht : ∀ (s : Shared) (H : Hp) (C : Addr) (cl : List (Str × Addr)) (fp : List Addr), DTsx (X.blk s H scope (compEnvC scope cl C X.env) fp) ifs c)
    (he : ∀ (s : Shared) (H : Hp) (C : Addr) (cl : List (Str × Addr)) (fp : List Addr), DEx (X.blk s H scope (compEnvC scope cl C X.env) fp) elt f) (hs : ∀ x, foldedSetIterable iter X.env x = pure x := by intro _; rfl) :
    DSx X (.Assign [.Name y py] (.ListComp elt [⟨tg, iter, ifs, 0⟩] scope pos) spos) [i] (fSet i (eLc q gd c f (own.map (·.2)))) :=
  (ps_setLc hc hN hy hyl hsw hi ok hg ht he hs).weak fun N σ H h => set_core (fun σ H Q q => lift_lcE hct q) h
end
end DL
set_option Elab.async false
set_option linter.all false
set_option maxRecDepth 100000
set_option maxHeartbeats 2000000
/-! Changes in place: stores, appends within, items taken out; several targets. -/
namespace DL
open PySem PySem.Spec PyProof.Rows L2
section
variable {K : PySem.W.Frag} {H : Hp} {O : Addr → Prop}
/-- one item aside -/
theorem Rels.hole : ∀ {ds : List D} {vs : List V} {F : List Addr} {j : Nat} {d : D}, Rels K H O ds vs F → ds[j]? = some d → ∃ v F1 G F2, vs[j]? = some v ∧ F = F1 ++ (G ++ F2) ∧ Rel K H O d v G ∧
    ∀ (H' : Hp) (O' : Addr → Prop) (d' : D) (G' : List Addr), (∀ a o, H a = some o → ¬ Mut (some o) → H' a = some o) → (∀ a o, H a = some o → (a ∈ F1 ∨ a ∈ F2) → H' a = some o) → (∀ a o, H a = some o → ¬ O a → H' a = some o) → (∀ a, O' a → O a ∨ H a = none) →
      Rel K H' O' d' v G' → Rels K H' O' (ds.set j d') vs (F1 ++ (G' ++ F2))
  | [], _, _, _, _, _, e => by simp at e
  | d :: ds, _, _, 0, _, h, e => by
    simp only [Rels] at h
    obtain ⟨v, ws, F1, F2, rfl, h1, h2, rfl⟩ := h
    simp at e; subst e
    refine ⟨v, [], F1, F2, rfl, rfl, h1, fun H' O' d' G' k1 k2 k3 k4 r => ?_⟩
    show Rels K H' O' (d' :: ds) (v :: ws) (G' ++ F2)
    exact Rels.cons r (h2.keep k1 (fun a o e z => k2 a o e (.inr z)) k3 k4)
  | d :: ds, _, _, j + 1, _, h, e => by
    simp only [Rels] at h
    obtain ⟨v, ws, F1, F2, rfl, h1, h2, rfl⟩ := h
    obtain ⟨w, A, G, B, e1, rfl, e3, e4⟩ := Rels.hole (j := j) h2 (by simpa using e)
    refine ⟨w, F1 ++ A, G, B, by simpa using e1, by simp, e3, fun H' O' d' G' k1 k2 k3 k4 r => ?_⟩
    have z := e4 H' O' d' G' k1 (fun a o e z => k2 a o e (z.imp (List.mem_append_right _) id)) k3 k4 r
    have y := h1.keep k1 (fun a o e z => k2 a o e (.inl (List.mem_append_left _ z))) k3 k4
    simpa using Rels.cons y z
theorem Rels.set0 : ∀ {ds : List D} {vs : List V} {j : Nat} {d : D} {v : V}, Rels K H O ds vs [] → Rel K H O d v [] → Rels K H O (ds.set j d) (vs.set j v) []
  | [], _, _, _, _, h, r => by
    simp only [Rels] at h
    rw [h.1]
    exact Rels.nil
  | d0 :: ds, _, 0, _, _, h, r => by
    simp only [Rels] at h
    obtain ⟨w, ws, F1, F2, rfl, h1, h2, eF⟩ := h
    obtain ⟨rfl, rfl⟩ := nil_of_app eF
    exact Rels.cons r h2
  | d0 :: ds, _, j + 1, _, _, h, r => by
    simp only [Rels] at h
    obtain ⟨w, ws, F1, F2, rfl, h1, h2, eF⟩ := h
    obtain ⟨rfl, rfl⟩ := nil_of_app eF
    exact Rels.cons h1 (Rels.set0 h2 r)
theorem Rels.erase0 : ∀ {ds : List D} {vs : List V} (j : Nat), Rels K H O ds vs [] → Rels K H O (ds.eraseIdx j) (vs.eraseIdx j) []
  | [], _, _, h => by
    simp only [Rels] at h
    rw [h.1]
    exact Rels.nil
  | d0 :: ds, _, 0, h => by
    simp only [Rels] at h
    obtain ⟨w, ws, F1, F2, rfl, h1, h2, eF⟩ := h
    obtain ⟨rfl, rfl⟩ := nil_of_app eF
    exact h2
  | d0 :: ds, _, j + 1, h => by
    simp only [Rels] at h
    obtain ⟨w, ws, F1, F2, rfl, h1, h2, eF⟩ := h
    obtain ⟨rfl, rfl⟩ := nil_of_app eF
    exact Rels.cons h1 (Rels.erase0 j h2)
end
theorem put_id {Fs : Nat → List Addr} {i : Nat} : put Fs i (Fs i) = Fs := funext fun j => by
  by_cases h : j = i
  · rw [h, put_self]
  · rw [put_ne h]
/-- an object that a slot owns is changed: the slot then owns G -/
theorem srel_wr {K : PySem.W.Frag} {H : Hp} {σ : L2.St} {τ : DS} {F F' G : List Addr} {Fs : Nat → List Addr} {R : Addr → Prop} {i : Nat} {l : Addr} {d' : D} {v : V} {u u0 : HO} (S : SRel K H (OW F Fs R) σ τ Fs) (s : Sep H F Fs R) (hv : σ[i]? = some (some v)) (hl : H l = some u0) (hm : Mut (some u0)) (hm' : Mut (some u)) (lF : l ∈ Fs i)
    (hG : ∀ a ∈ G, a ∈ Fs i ∨ a ∈ F) (nd : G.Nodup) (hF' : ∀ a ∈ F', a ∈ F ∧ a ∉ G) (nd' : F'.Nodup)
    (r : (∀ a o, H a = some o → ¬ Mut (some o) → upd H l u a = some o) → (∀ a o, H a = some o → a ≠ l → upd H l u a = some o) → (∀ a o, H a = some o → ¬ OW F Fs R a → upd H l u a = some o) → (∀ a, OW F' (put Fs i G) R a → OW F Fs R a) → Rel K (upd H l u) (OW F' (put Fs i G) R) d' v G) :
    SRel K (upd H l u) (OW F' (put Fs i G) R) σ (τ.set i (some d')) (put Fs i G) ∧ Sep (upd H l u) F' (put Fs i G) R ∧ (∀ a o, H a = some o → a ≠ l → upd H l u a = some o) := by
  have kk : ∀ a o, H a = some o → a ≠ l → upd H l u a = some o := fun a o e n => by rw [upd_ne n]; exact e
  have mm : ∀ a o, H a = some o → ¬ Mut (some o) → upd H l u a = some o := fun a o e m => kk a o e fun z => by rw [z, hl] at e; cases e; exact m hm
  have oo : ∀ a, OW F' (put Fs i G) R a → OW F Fs R a := fun a z => ow_put hG (fun a z => (hF' a z).1) a z
  have lO : OW F Fs R l := .inr (.inl ⟨i, lF⟩)
  have nn : ∀ a o, H a = some o → ¬ OW F Fs R a → upd H l u a = some o := fun a o e z => kk a o e fun w => z (w ▸ lO)
  have sp := sep_put (i := i) s hG nd F' (fun a z => hF' a z) nd'
  have mu' : ∀ a, (∃ o, H a = some o ∧ Mut (some o)) → ∃ o, upd H l u a = some o ∧ Mut (some o) := fun a ⟨o, e, m⟩ => by
    by_cases ha : a = l
    · subst ha; exact ⟨_, upd_same, hm'⟩
    · exact ⟨o, kk a o e ha, m⟩
  refine ⟨⟨by rw [List.length_set]; exact S.len, fun j d h => ?_, fun a z => ?_⟩, ⟨sp.nd, sp.nds, sp.dj, sp.f1, sp.r1, sp.r2, fun j a h => mu' a (sp.mu j a h), fun a h => mu' a (sp.mf a h)⟩, kk⟩
  · by_cases hj : i = j
    · subst hj
      by_cases hlt : i < τ.length
      · rw [List.getElem?_set_self hlt] at h
        obtain rfl := Option.some.inj (Option.some.inj h)
        exact ⟨v, hv, by rw [put_self]; exact r mm kk nn oo⟩
      · rw [List.getElem?_eq_none (by rw [List.length_set]; exact Nat.le_of_not_lt hlt)] at h; cases h
    · rw [List.getElem?_set_ne hj] at h
      obtain ⟨w, e1, r1⟩ := S.rel j d h
      refine ⟨w, e1, ?_⟩
      rw [put_ne (Ne.symm hj)]
      exact r1.keep mm (fun a o e z => kk a o e fun w => hj (s.dj i j a (by rw [w]; exact lF) z)) nn fun a z => .inl (oo a z)
  · by_cases ha : a = l
    · subst ha; rw [upd_same]; exact fun z => nomatch z
    · rw [upd_ne ha]; exact S.own a (oo a z)
/-- .. and owns what it owned -/
theorem srel_wr0 {K : PySem.W.Frag} {H : Hp} {σ : L2.St} {τ : DS} {F : List Addr} {Fs : Nat → List Addr} {R : Addr → Prop} {i : Nat} {l : Addr} {d' : D} {v : V} {u u0 : HO} (S : SRel K H (OW F Fs R) σ τ Fs) (s : Sep H F Fs R) (hv : σ[i]? = some (some v)) (hl : H l = some u0) (hm : Mut (some u0)) (hm' : Mut (some u)) (lF : l ∈ Fs i)
    (r : (∀ a o, H a = some o → ¬ Mut (some o) → upd H l u a = some o) → (∀ a o, H a = some o → a ≠ l → upd H l u a = some o) → (∀ a o, H a = some o → ¬ OW F Fs R a → upd H l u a = some o) → Rel K (upd H l u) (OW F Fs R) d' v (Fs i)) :
    SRel K (upd H l u) (OW F Fs R) σ (τ.set i (some d')) Fs ∧ Sep (upd H l u) F Fs R := by
  have z := srel_wr (F' := F) (G := Fs i) (d' := d') (u := u) S s hv hl hm hm' lF (fun a => .inl) (s.nds i) (fun a z => ⟨z, fun w => s.f1 i a w z⟩) s.nd fun a b c d => by rw [put_id]; exact r a b c
  rw [put_id] at z
  exact ⟨z.1, z.2.1⟩
theorem fr_wr {H H0 : Hp} {F : List Addr} {Fs Fs0 : Nat → List Addr} {l : Addr} {u : HO} {i : Nat} (f : Fr Fs0 H0 F Fs H) (lF : l ∈ Fs i) : Fr Fs0 H0 F Fs (upd H l u) := by
  refine ⟨fun a o e n => ?_, f.new⟩
  rw [upd_ne fun w => ?_]
  · exact f.keep a o e n
  · rcases f.new l (.inr ⟨i, lF⟩) with ⟨j, z⟩ | z
    · exact n j (w ▸ z)
    · rw [w, z] at e; cases e
/-! ### targets that may be places in what a slot owns; what comes owns nothing -/
def SU (K : PySem.W.Frag) (W : List Nat) (g : TG) (gd : D → DS → Option DS) : Prop := ∀ (H : Hp) (R : Addr → Prop) (σ : L2.St) (τ : DS) (Fs : Nat → List Addr) (d : D) (v : V) (τ' : DS) (Q : L2.St → Hp → Prop),
  SRel K H (OW [] Fs R) σ τ Fs → Sep H [] Fs R → Rel K H (OW [] Fs R) d v [] → gd d τ = some τ' → (∀ σ2 H2 Fs2, SRel K H2 (OW [] Fs2 R) σ2 τ' Fs2 → Sep H2 [] Fs2 R → Fr Fs H [] Fs2 H2 → Kp W σ σ2 → Q σ2 H2) → g v σ H Q
def SUs (K : PySem.W.Frag) (W : List Nat) (g : TGs) (gd : List D → DS → Option DS) : Prop := ∀ (H : Hp) (R : Addr → Prop) (σ : L2.St) (τ : DS) (Fs : Nat → List Addr) (ds : List D) (ws : List V) (τ' : DS) (Q : L2.St → Hp → Prop),
  SRel K H (OW [] Fs R) σ τ Fs → Sep H [] Fs R → Rels K H (OW [] Fs R) ds ws [] → gd ds τ = some τ' → (∀ σ2 H2 Fs2, SRel K H2 (OW [] Fs2 R) σ2 τ' Fs2 → Sep H2 [] Fs2 R → Fr Fs H [] Fs2 H2 → Kp W σ σ2 → Q σ2 H2) → g ws σ H Q
section
variable {K : PySem.W.Frag} {W W' : List Nat}
theorem su_st {g : TG} {gd : D → DS → Option DS} (h : ST K W g gd) : SU K W g gd := fun H R σ τ Fs d v τ' Q S s r e q => h H R σ τ Fs d v τ' Q S s r e fun σ2 Fs2 S2 s2 n2 k2 => q σ2 H Fs2 S2 s2 (fr_sub Fr.refl n2) k2
theorem su_name {i : Nat} : SU K [i] (gName i) (gdN i) := su_st st_name
theorem su_nil : SUs K [] gNil gdNil := fun H R σ τ Fs ds ws τ' Q S s r e q => by
  cases ds with
  | nil =>
    cases e
    simp only [Rels] at r
    exact ⟨r.1, q _ H Fs S s Fr.refl Kp.refl⟩
  | cons _ _ => cases e
theorem rels_over {H H2 : Hp} {R : Addr → Prop} {Fs Fs2 : Nat → List Addr} {ds : List D} {vs : List V} (r : Rels K H (OW [] Fs R) ds vs []) (s : Sep H [] Fs R) (f : Fr Fs H [] Fs2 H2) : Rels K H2 (OW [] Fs2 R) ds vs [] := by
  refine r.keep (fun a o e m => f.keep a o e fun i z => ?_) (fun _ _ _ z => absurd z List.not_mem_nil) (fun a o e m => f.keep a o e fun i z => m (.inr (.inl ⟨i, z⟩))) fun a z => ?_
  · obtain ⟨o', e', m'⟩ := s.mu i a z
    rw [e] at e'; cases e'; exact m m'
  · rcases z with z | z | z
    · exact absurd z List.not_mem_nil
    · exact (f.new a (.inr z)).imp (fun z => .inr (.inl z)) id
    · exact .inl (.inr (.inr z))
theorem su_cons {t : TG} {gd : D → DS → Option DS} {ts : TGs} {gds : List D → DS → Option DS} (h : SU K W t gd) (k : SUs K W' ts gds) : SUs K (W ++ W') (gCons t ts) (gdCons gd gds) := fun H R σ τ Fs ds ws τ' Q S s r e q => by
  cases ds with
  | nil => cases e
  | cons d ds =>
    obtain ⟨τ1, e1, e2⟩ := bind2 (γ := Unit) (show (gd d τ).bind _ = some τ' from e)
    simp only [Rels] at r
    obtain ⟨v, us, F1, F2, rfl, r1, r2, eF⟩ := r
    obtain ⟨rfl, rfl⟩ := nil_of_app eF
    exact ⟨v, us, rfl, h H R σ τ Fs d v τ1 _ S s r1 e1 fun σ2 H2 Fs2 S2 s2 f2 k2 => k H2 R σ2 τ1 Fs2 ds us τ' Q S2 s2 (rels_over r2 s f2) e2 fun σ3 H3 Fs3 S3 s3 f3 k3 => q σ3 H3 Fs3 S3 s3 (f2.trans f3) (k2.trans k3)⟩
theorem su_tup {n : Nat} {t : TGs} {gd : List D → DS → Option DS} (h : SUs K W t gd) : SU K W (gTup K n t) (gdTup n gd) := fun H R σ τ Fs d v τ' Q S s r e q => by
  cases d with
  | tup ds =>
    have e : (if ds.length = n then gd ds τ else none) = some τ' := e
    split at e
    · rename_i hn
      obtain ⟨a, us, rfl, hq, hr⟩ := rel_tup r
      exact ⟨a, us, rfl, hq, by rw [hr.len]; exact hn, h H R σ τ Fs ds us τ' Q S s hr e q⟩
    · cases e
  | _ => cases e
/-- x[e] = .. -/
def gdSub (i : Nat) (p : DS → Option D) : D → DS → Option DS := fun d τ => (pVar i τ).bind fun x => (p τ).bind fun y => match x, y with
  | .lst true ds, .int k => if D.imms ds = true then (ixN ds.length k).bind fun j => some (τ.set i (some (.lst true (ds.set j d)))) else none
  | _, _ => none
/-- x[e][e'] = .. -/
def gdSub2 (i : Nat) (p p' : DS → Option D) : D → DS → Option DS := fun d τ => (pVar i τ).bind fun x => (p τ).bind fun y => (p' τ).bind fun z => match x, y, z with
  | .lst true ds, .int k, .int k' => (ixN ds.length k).bind fun j => (ds[j]?).bind fun es => match es with
    | .lst true es => if D.imms es = true then (ixN es.length k').bind fun j' => some (τ.set i (some (.lst true (ds.set j (.lst true (es.set j' d)))))) else none
    | _ => none
  | _, _, _ => none
theorem su_sub {i : Nat} {p : DS → Option D} : SU K [] (gSub (tVar i) (liftP K p) rSetL) (gdSub i p) := fun H R σ τ Fs d v τ' Q S s r e q => by
  replace e := bind2 (γ := Unit) e; obtain ⟨x, e1, e⟩ := e
  replace e := bind2 (γ := Unit) e; obtain ⟨y, e2, e⟩ := e
  split at e
  · rename_i ds k
    split at e
    · rename_i hi
      replace e := bind2 (γ := Unit) e; obtain ⟨j, e3, e⟩ := e
      cases e
      obtain ⟨w, ew, _⟩ := S.rel i _ (pVar_some e1)
      refine ⟨w, ew, τ, Fs, _, _, S, e2, fun u H1 F1 s1 r1 n1 => ?_⟩
      have S1 := S.same s1
      have s1' := sep_same s s1
      obtain ⟨w', ew', rw'⟩ := S1.rel i _ (pVar_some e1)
      rw [ew] at ew'
      obtain rfl := Option.some.inj (Option.some.inj ew')
      obtain ⟨l, vs, G, rfl, hl, hr, eF⟩ := rel_own rw'
      have zz := hr.imm hi
      subst zz
      refine ⟨l, vs, k, j, rfl, (rel_int r1).1, hl, by rw [hr.len]; exact e3, ?_⟩
      obtain ⟨z1, z2⟩ := srel_wr0 (u := .lst (vs.set j v)) (d' := .lst true (ds.set j d)) S1 s1' ew hl trivial trivial (by rw [eF]; exact List.mem_cons_self) fun mm kk nn => by
        rw [eF]
        exact mk_lst upd_same (Rels.keep (hr.set0 (r.same s1)) mm (fun _ _ _ z => absurd z List.not_mem_nil) nn fun a z => .inl z)
      exact q σ _ Fs z1 z2 (fr_wr (i := i) (Fr.of_same s1 New.nil) (by rw [eF]; exact List.mem_cons_self)) Kp.refl
    · cases e
  · cases e
theorem su_sub2 {i : Nat} {p p' : DS → Option D} : SU K [] (gSub (tOp (fun x y H Q => rIxL K x y H Q ∨ rIxT K x y H Q) (tVar i) (liftP K p)) (liftP K p') rSetL) (gdSub2 i p p') := fun H R σ τ Fs d v τ' Q S s r e q => by
  replace e := bind2 (γ := Unit) e; obtain ⟨x, e1, e⟩ := e
  replace e := bind2 (γ := Unit) e; obtain ⟨y, e2, e⟩ := e
  replace e := bind2 (γ := Unit) e; obtain ⟨z, e2', e⟩ := e
  split at e
  · rename_i ds k k'
    replace e := bind2 (γ := Unit) e; obtain ⟨j, e3, e⟩ := e
    replace e := bind2 (γ := Unit) e; obtain ⟨es, e4, e⟩ := e
    split at e
    · rename_i es
      split at e
      · rename_i hi
        obtain ⟨j', e5, e⟩ := bind2 (γ := Unit) e
        cases e
        obtain ⟨w, ew, _⟩ := S.rel i _ (pVar_some e1)
        refine ⟨w, ew, τ, Fs, _, _, S, e2, fun u H1 F1 s1 r1 n1 => ?_⟩
        have S1 := S.same s1
        obtain ⟨w', ew', rw'⟩ := S1.rel i _ (pVar_some e1)
        rw [ew] at ew'
        obtain rfl := Option.some.inj (Option.some.inj ew')
        obtain ⟨a, ws, G, rfl, ha, hr, eF⟩ := rel_own rw'
        obtain ⟨u1, A, B, C, g1, g2, g3, _⟩ := hr.hole e4
        obtain ⟨l, vs, G', rfl, hl, hr', eG⟩ := rel_own g3
        refine .inl ⟨a, ws, k, .ref l, rfl, (rel_int r1).1, .inl (.inl ha), by unfold atI; rw [hr.len, e3]; exact g1, τ, Fs, _, _, S1, e2', fun u2 H2 F2 s2 r2 n2 => ?_⟩
        have S2 := S1.same s2
        have s12 := s1.trans s2
        obtain ⟨w', ew', rw'⟩ := S2.rel i _ (pVar_some e1)
        rw [ew] at ew'
        obtain rfl := Option.some.inj (Option.some.inj ew')
        have ha2 := s2 _ _ ha
        have hl2 := s2 _ _ hl
        have hr2 := hr.same s2
        obtain ⟨u1', A', B', C', g1', g2', g3', g4'⟩ := hr2.hole e4
        rw [g1] at g1'
        obtain rfl := Option.some.inj g1'
        obtain ⟨l', vs', G2, el, hl', hr2', eG'⟩ := rel_own g3'
        obtain rfl : l = l' := by cases el; rfl
        have zz := hr2'.imm hi
        subst zz
        refine ⟨l, vs', k', j', rfl, (rel_int r2).1, hl', by rw [hr2'.len]; exact e5, ?_⟩
        have lB : l ∈ B' := by rw [eG']; exact List.mem_cons_self
        have lF : l ∈ Fs i := by rw [eF, g2']; exact List.mem_cons_of_mem _ (List.mem_append_right _ (List.mem_append_left _ lB))
        have nd := s.nds i
        rw [eF, g2', eG'] at nd
        have al : a ≠ l := fun w => (List.nodup_cons.mp nd).1 (by rw [w]; simp)
        obtain ⟨nA, nB, dAB⟩ := List.nodup_append.mp (List.nodup_cons.mp nd).2
        have lA : ∀ b, b ∈ A' ∨ b ∈ C' → b ≠ l := fun b z w => by
          rcases z with z | z
          · exact dAB b z l (by simp) w
          · have q : l ∉ C' := by simpa using (List.nodup_cons.mp (by simpa using nB)).1
            exact q (w ▸ z)
        obtain ⟨z1, z2⟩ := srel_wr0 (u := .lst (vs'.set j' v)) (d' := .lst true (ds.set j (.lst true (es.set j' d)))) S2 (sep_same s s12) ew hl' trivial trivial lF fun mm kk nn => by
          rw [eF]
          have hin : Rel K (upd H2 l (.lst (vs'.set j' v))) (OW [] Fs R) (.lst true (es.set j' d)) (.ref l) [l] := mk_lst upd_same (Rels.keep (hr2'.set0 (r.same s12)) mm (fun _ _ _ z => absurd z List.not_mem_nil) nn fun a z => .inl z)
          have z := g4' _ _ _ _ mm (fun b o e z => kk b o e (lA b z)) nn (fun a z => .inl z) hin
          have y := mk_lst (kk _ _ ha2 al) z
          rw [g2', eG']
          exact y
        exact q σ _ Fs z1 z2 (fr_wr (i := i) (Fr.of_same s12 New.nil) lF) Kp.refl
      · cases e
    · cases e
  · cases e
end
/-- target = e, any such target -/
theorem s_asgU {X : Cx} {W : List Nat} {fe : DS → Option (D × DS)} {pos : Pos} {tg e : Expr} {t : TG} {gd : D → DS → Option DS} (he : DEx X e fe) (hg : PG X tg t) (hst : SU X.K W t gd) (hs : swapsWithSole [tg] e pos.line X.env = pure false := by rfl) (hw : swappedStores [tg] e X.env = pure none := by rfl)
    (h1 : (assignEach [tg] X.env).map (·.2) = [assign tg X.env] := by rfl) : DSx X (.Assign [tg] e pos) W (fAsg gd fe) := (ps_asg he hg hs hw h1).weak fun N σ H ⟨τ, Fs, R, out, S, s, e, k⟩ => by
  obtain ⟨⟨d, τ1⟩, e1, e⟩ := bind2 (γ := Unit) e
  obtain ⟨τ2, e2, e⟩ := bind2 (γ := Unit) e
  cases e
  refine ⟨τ, Fs, R, d, τ1, S, s, e1, fun v H' F Fs' S' r s' f' => hst H' R σ τ1 Fs' d.frz v τ2 _ (S'.mono fun a z => z.elim (fun z => absurd z List.not_mem_nil) .inr) s'.drop (r.frz (fun a h z => ?_) fun a z => .inl (z.elim (fun z => absurd z List.not_mem_nil) .inr)) e2 fun σ2 H2 Fs2 S2 s2 f2 k2 => k σ2 H2 Fs2 S2 s2 ((f'.sub fun _ z => absurd z List.not_mem_nil).trans f2) k2⟩
  rcases z with z | ⟨j, z⟩ | z
  · exact absurd z List.not_mem_nil
  · exact s'.f1 j a z h
  · exact s'.r2 a h z
section
variable {X : Cx} {a b c e : Expr} {fe : DS → Option (D × DS)} {pos : Pos}
theorem g_sub {o i : Expr} {to ti : TE} (ho : PE X o to) (hi : PE X i ti)
    (ha : ∀ v, assign (.Subscript o i pos) X.env v = (do
      let ov ← holding [v] (eval o X.env)
      let iv ← holding [v, ov] (eval i X.env)
      standAt pos
      holding [v, ov, iv] (setItem ov iv v)
      release [v, ov, iv] []) := by intro _; rfl) : PG X (.Subscript o i pos) (gSub to ti rSetL) := pg_sub ho hi set_list ha
theorem q_ix {o i : Expr} {to : TE} {p : DS → Option D} (ho : PE X o to) (hi : PPx X i p) (hs : PlainIx i := by exact fun _ _ => rfl) : PE X (.Subscript o i pos) (tOp (fun x y H Q => rIxL X.K x y H Q ∨ rIxT X.K x y H Q) to (liftP X.K p)) := pe_ix (ix_list.or ix_tup) ho hi hs
/-- a, b = x, y by way of a tuple: any names; what is owned goes along -/
theorem s_parT {i j : Nat} {x y : Str} {q : DS → Option (List D × DS)} {px py pt pt2 : Pos} {kt k2} (hc : X.calm = true) (hN : X.N.Nodup) (hi : X.N[i]? = some x) (hj : X.N[j]? = some y) (hij : i ≠ j) (hx : Loc X.env.scope x) (hy : Loc X.env.scope y) (ha : DAx X [a, b] q)
    (hf : X.fn x = true ∨ X.env.scope.names.lookup x = some .local := by first | exact .inl rfl | exact .inr rfl) (hf' : X.fn y = true ∨ X.env.scope.names.lookup y = some .local := by first | exact .inl rfl | exact .inr rfl)
    (hs : swapsWithSole [.Tuple [.Name x px, .Name y py] kt pt] (.Tuple [a, b] k2 pt2) pos.line X.env = pure false := by rfl) (hw : swappedStores [.Tuple [.Name x px, .Name y py] kt pt] (.Tuple [a, b] k2 pt2) X.env = pure none := by rfl)
    (h1 : (assignEach [.Tuple [.Name x px, .Name y py] kt pt] X.env).map (·.2) = [assign (.Tuple [.Name x px, .Name y py] kt pt) X.env] := by rfl) :
    DSx X (.Assign [.Tuple [.Name x px, .Name y py] kt pt] (.Tuple [a, b] k2 pt2) pos) [i, j] (fPar i j q) := (ps_asg (pe_tup ha) (pg_tup hc (pgs_cons (pg_name hN hi hx hf) (pgs_cons (pg_name hN hj hy hf') pgs_nil))) hs hw h1).weak fun N σ H ⟨τ, Fs, R, out, S, s, e, k⟩ => by
  obtain ⟨⟨ds, τ1⟩, e1, e⟩ := bind2 (γ := Unit) e
  dsimp only at e
  split at e
  · rename_i d d'
    cases e
    refine ⟨τ, Fs, R, _, τ1, S, s, e1, fun vs H1 F Fs' S1 r1 s1 f1 => ⟨by rw [r1.len, sizeLine_eq]; show 2 ≤ 16777216; decide, fun T hT => ?_⟩⟩
    have sm := same_upd (o := .tup vs) hT
    have S' := S1.same sm
    have r := r1.same sm
    have s' := sep_same s1 sm
    have f' := fr_same f1 sm
    refine ⟨T, vs, rfl, SqT.of upd_same, r1.len, ?_⟩
    obtain ⟨v, v', F1, F2, rfl, r1, r2, rfl⟩ := rels2 r
    refine ⟨v, _, rfl, v', _, rfl, rfl, ?_⟩
    obtain ⟨nd1, nd2, nd3⟩ := List.nodup_append.mp s'.nd
    have hG1 : ∀ a ∈ F1, a ∈ Fs' i ∨ a ∈ F1 ++ F2 := fun a z => .inr (List.mem_append_left _ z)
    have sa := sep_put (i := i) s' hG1 nd1 F2 (fun a z => ⟨List.mem_append_right _ z, fun w => nd3 a w a z rfl⟩) nd2
    have hG2 : ∀ a ∈ F2, a ∈ put Fs' i F1 j ∨ a ∈ F2 := fun a z => .inr z
    have sb := sep_put (i := j) sa hG2 nd2 [] (fun a z => absurd z List.not_mem_nil) List.nodup_nil
    have o1 : ∀ a, OW F2 (put Fs' i F1) R a → OW (F1 ++ F2) Fs' R a := fun a z => ow_put hG1 (fun a z => List.mem_append_right _ z) a z
    have o2 : ∀ a, OW [] (put (put Fs' i F1) j F2) R a → OW (F1 ++ F2) Fs' R a := fun a z => o1 a (ow_put hG2 (fun a z => absurd z List.not_mem_nil) a z)
    refine k _ _ (put (put Fs' i F1) j F2) ((srel_set (srel_set S' r1) r2).mono o2) sb ⟨f'.keep, fun a z => ?_⟩ ?_
    · rcases z with z | ⟨l, z⟩
      · exact absurd z List.not_mem_nil
      · rcases put_mem z with ⟨_, z⟩ | ⟨_, z⟩
        · exact f'.new a (.inl (List.mem_append_right _ z))
        · rcases put_mem z with ⟨_, z⟩ | ⟨_, z⟩
          · exact f'.new a (.inl (List.mem_append_left _ z))
          · exact f'.new a (.inr ⟨l, z⟩)
    · exact (kp_set (i := i)).trans (kp_set (i := j))
  · cases e
/-- a, b, c = x, y, z: three plain locals -/
def fPar3 (i j l : Nat) (q : DS → Option (List D × DS)) : DS → Option Out := fun τ => (q τ).bind fun r => match r.1 with
  | [d, d', d''] => some (.nx (((r.2.set i (some d)).set j (some d')).set l (some d'')))
  | _ => none
theorem s_par3 {i j l : Nat} {x y w : Str} {q : DS → Option (List D × DS)} {px py pw pt pt2 : Pos} {kt k2} (hc : X.calm = true) (hN : X.N.Nodup) (hi : X.N[i]? = some x) (hj : X.N[j]? = some y) (hl : X.N[l]? = some w) (hij : i ≠ j) (hil : i ≠ l) (hjl : j ≠ l)
    (hx : X.env.scope.names.lookup x = some .local) (hy : X.env.scope.names.lookup y = some .local) (hz : X.env.scope.names.lookup w = some .local) (ha : DAx X [a, b, c] q)
    (hw : swappedStores [.Tuple [.Name x px, .Name y py, .Name w pw] kt pt] (.Tuple [a, b, c] k2 pt2) X.env = pure (some [x, y, w]) := by rfl)
    (hs : swapsWithSole [.Tuple [.Name x px, .Name y py, .Name w pw] kt pt] (.Tuple [a, b, c] k2 pt2) pos.line X.env = pure false := by rfl) :
    DSx X (.Assign [.Tuple [.Name x px, .Name y py, .Name w pw] kt pt] (.Tuple [a, b, c] k2 pt2) pos) [i, j, l] (fPar3 i j l q) := (ps_par3 hc hN hi hj hl hij hil hjl hx hy hz ha hw hs).weak fun N σ H ⟨τ, Fs, R, out, S, s, e, k⟩ => by
  obtain ⟨⟨ds, τ1⟩, e1, e⟩ := bind2 (γ := Unit) e
  dsimp only at e
  split at e
  · rename_i d d' d''
    cases e
    refine ⟨τ, Fs, R, _, τ1, S, s, e1, fun vs H' F Fs' S' r s' f' => ?_⟩
    simp only [Rels] at r
    obtain ⟨v1, w1, F1, F0, rfl, r1, ⟨v2, w2, F2, F0', rfl, r2, ⟨v3, w3, F3, F0'', rfl, r3, ⟨rfl, rfl⟩, rfl⟩, rfl⟩, rfl⟩ := r
    refine ⟨v1, v2, v3, rfl, ?_⟩
    rw [List.append_nil] at S' s' f' r1 r2 r3
    obtain ⟨nd1, nd0, nd3⟩ := List.nodup_append.mp s'.nd
    obtain ⟨nd2, nd4, nd5⟩ := List.nodup_append.mp nd0
    have hG1 : ∀ a ∈ F1, a ∈ Fs' i ∨ a ∈ F1 ++ (F2 ++ F3) := fun a z => .inr (List.mem_append_left _ z)
    have sa := sep_put (i := i) s' hG1 nd1 (F2 ++ F3) (fun a z => ⟨List.mem_append_right _ z, fun w => nd3 a w a z rfl⟩) nd0
    have hG2 : ∀ a ∈ F2, a ∈ put Fs' i F1 j ∨ a ∈ F2 ++ F3 := fun a z => .inr (List.mem_append_left _ z)
    have sb := sep_put (i := j) sa hG2 nd2 F3 (fun a z => ⟨List.mem_append_right _ z, fun w => nd5 a w a z rfl⟩) nd4
    have hG3 : ∀ a ∈ F3, a ∈ put (put Fs' i F1) j F2 l ∨ a ∈ F3 := fun a z => .inr z
    have sc := sep_put (i := l) sb hG3 nd4 [] (fun a z => absurd z List.not_mem_nil) List.nodup_nil
    have o1 : ∀ a, OW (F2 ++ F3) (put Fs' i F1) R a → OW (F1 ++ (F2 ++ F3)) Fs' R a := fun a z => ow_put hG1 (fun a z => List.mem_append_right _ z) a z
    have o2 : ∀ a, OW F3 (put (put Fs' i F1) j F2) R a → OW (F1 ++ (F2 ++ F3)) Fs' R a := fun a z => o1 a (ow_put hG2 (fun a z => List.mem_append_right _ z) a z)
    have o3 : ∀ a, OW [] (put (put (put Fs' i F1) j F2) l F3) R a → OW (F1 ++ (F2 ++ F3)) Fs' R a := fun a z => o2 a (ow_put hG3 (fun a z => absurd z List.not_mem_nil) a z)
    refine k _ H' _ ((srel_set (srel_set (srel_set S' r1) r2) r3).mono o3) sc ⟨f'.keep, fun a z => ?_⟩ ?_
    · rcases z with z | ⟨m, z⟩
      · exact absurd z List.not_mem_nil
      · rcases put_mem z with ⟨_, z⟩ | ⟨_, z⟩
        · exact f'.new a (.inl (List.mem_append_right _ (List.mem_append_right _ z)))
        · rcases put_mem z with ⟨_, z⟩ | ⟨_, z⟩
          · exact f'.new a (.inl (List.mem_append_right _ (List.mem_append_left _ z)))
          · rcases put_mem z with ⟨_, z⟩ | ⟨_, z⟩
            · exact f'.new a (.inl (List.mem_append_left _ z))
            · exact f'.new a (.inr ⟨m, z⟩)
    · exact ((kp_set (i := i)).trans (kp_set (i := j))).trans (kp_set (i := l))
  · cases e
end
end DL
set_option Elab.async false
set_option linter.all false
set_option maxRecDepth 100000
set_option maxHeartbeats 2000000
/-! List methods within, pops, dicts, repetitions. -/
namespace DL
open PySem PySem.Spec PyProof.Rows L2
section
variable {X : Cx} {a b c e ie ke : Expr} {p pe pk : DS → Option D} {pa pb : DS → Option D} {fe : DS → Option (D × DS)} {pos apos cpos ipos : Pos}
/-- x[i].append(e): a list of lists in a slot -/
def fApp1 (i : Nat) (p pe : DS → Option D) : DS → Option Out := fun τ => (pVar i τ).bind fun x => (p τ).bind fun y => match x, y with
  | .lst true ds, .int k => (ixN ds.length k).bind fun j => (ds[j]?).bind fun z => match z with
    | .lst true es => (pe τ).bind fun d => if d.imm = true ∧ es.length < 16777216 then some (.nx (τ.set i (some (.lst true (ds.set j (.lst true (es ++ [d]))))))) else none
    | _ => none
  | _, _ => none
theorem mk_lstE {K : PySem.W.Frag} {H : Hp} {O : Addr → Prop} {ds : List D} {a : Addr} {vs : List V} {F G : List Addr} (h : H a = some (.lst vs)) (r : Rels K H O ds vs F) (e : G = a :: F) : Rel K H O (.lst true ds) (.ref a) G := by
  rw [e]; exact mk_lst h r
/-- in what is parted, one part is elsewhere than the others -/
theorem part_ne {a l : Addr} {A B C : List Addr} (nd : (a :: (A ++ ((l :: B) ++ C))).Nodup) : a ≠ l ∧ (∀ b, b ∈ A ∨ b ∈ C → b ≠ l) ∧ l ∉ B := by
  obtain ⟨n1, n2⟩ := List.nodup_cons.mp nd
  obtain ⟨_, n3, n4⟩ := List.nodup_append.mp n2
  obtain ⟨n5, n6⟩ := List.nodup_cons.mp (by simpa using n3 : (l :: (B ++ C)).Nodup)
  refine ⟨fun w => n1 (by rw [w]; simp), fun b z w => ?_, fun z => n5 (List.mem_append_left _ z)⟩
  rcases z with z | z
  · exact n4 b z l (by simp) w
  · exact n5 (List.mem_append_right _ (w ▸ z))
theorem s_app1 {i : Nat} {xi : Str} {pi : Pos} (hi : PE X (.Name xi pi) (tVar i)) (hk : PPx X ie p) (he : PPx X e pe) (hix : PlainIx ie := by exact fun _ _ => rfl) (hbase : attributeBase (.Subscript (.Name xi pi) ie ipos) "append" X.env (eval (.Subscript (.Name xi pi) ie ipos) X.env) = eval (.Subscript (.Name xi pi) ie ipos) X.env := by rfl)
    (hfew : ((backTo cpos (starEach [e] X.env)).all (fun x => !x.1) && (backToKw cpos (keywordEach [] X.env)).all (fun x => x.1.isSome) && decide ([e].length + ([] : List Keyword).length + (if ([] : List Keyword).isEmpty then 0 else 1) < 30)) = true := by rfl)
    (hline : (apos.endLine == cpos.line) = true := by rfl) (hs : starEach [e] X.env = (false, eval e X.env) :: starEach [] X.env := by rfl) (hplain : (backTo cpos (starEach [] X.env)).any (·.1) = false := by rfl)
    (hsw : swapsWith (.Call (.Attribute (.Subscript (.Name xi pi) ie ipos) "append" apos) [e] [] cpos) none pos.line X.env = pure false := by rfl) :
    DSx X (.Expr (.Call (.Attribute (.Subscript (.Name xi pi) ie ipos) "append" apos) [e] [] cpos) pos) [] (fApp1 i p pe) :=
  (ps_expr (pe_bm PySem.F.plainAttrs_list PySem.F.slot_list_append PySem.F.type_list_append mt_append (q_ix hi hk hix) (pa_cons he pa_nil hs) hbase hfew hline hs hplain) hsw).weak fun N σ H ⟨τ, Fs, R, out, S, s, e, k⟩ => by
    replace e := bind2 (γ := Unit) e; obtain ⟨x, e1, e⟩ := e
    replace e := bind2 (γ := Unit) e; obtain ⟨y, e2, e⟩ := e
    split at e
    · rename_i ds kk
      replace e := bind2 (γ := Unit) e; obtain ⟨j, e3, e⟩ := e
      replace e := bind2 (γ := Unit) e; obtain ⟨z, e4, e⟩ := e
      split at e
      · rename_i es
        replace e := bind2 (γ := Unit) e; obtain ⟨d, e5, e⟩ := e
        split at e
        · rename_i hd
          cases e
          obtain ⟨w, ew, _⟩ := S.rel i _ (pVar_some e1)
          refine ⟨w, ew, τ, Fs, _, _, S, e2, fun u H1 F1 s1 r1 n1 => ?_⟩
          have S1 := S.same s1
          obtain ⟨w', ew', rw'⟩ := S1.rel i _ (pVar_some e1)
          rw [ew] at ew'
          obtain rfl := Option.some.inj (Option.some.inj ew')
          obtain ⟨a, ws, G, rfl, ha, hr, eF⟩ := rel_own rw'
          obtain ⟨u1, A, B, C, g1, g2, g3, _⟩ := hr.hole e4
          obtain ⟨l, vs, G', rfl, hl, hr', eG⟩ := rel_own g3
          refine .inl ⟨a, ws, kk, .ref l, rfl, (rel_int r1).1, .inl (.inl ha), by unfold atI; rw [hr.len, e3]; exact g1, .inl ⟨rfl, vs, .inl (.inl hl)⟩, τ, Fs, _, _, S1, e5, fun u2 H2 F2 s2 r2 n2 => ?_⟩
          have zz := r2.imm hd.1
          subst zz
          have S2 := S1.same s2
          have s12 := s1.trans s2
          have ha2 := s2 _ _ ha
          obtain ⟨u1', A', B', C', g1', g2', g3', g4'⟩ := (hr.same s2).hole e4
          rw [g1] at g1'
          obtain rfl := Option.some.inj g1'
          obtain ⟨l', vs', G2, el, hl', hr2', eG'⟩ := rel_own g3'
          obtain rfl : l = l' := by cases el; rfl
          refine ⟨l, vs', u2, rfl, rfl, hl', by rw [sizeLine_eq, hr2'.len]; exact hd.2, ?_⟩
          have lF : l ∈ Fs i := by rw [eF, g2', eG']; simp
          have nd := s.nds i
          rw [eF, g2', eG'] at nd
          obtain ⟨al, lA, lG⟩ := part_ne nd
          obtain ⟨z1, z2⟩ := srel_wr0 (u := .lst (vs' ++ [u2])) (d' := .lst true (ds.set j (.lst true (es ++ [d])))) S2 (sep_same s s12) ew hl' trivial trivial lF fun mm kk nn => by
            have hin : Rel X.K (upd H2 l (.lst (vs' ++ [u2]))) (OW [] Fs R) (.lst true (es ++ [d])) (.ref l) (l :: G2) := by
              have q := hr2'.app (Rels.one r2)
              rw [List.append_nil] at q
              exact mk_lst upd_same (q.keep mm (fun b o e z => kk b o e fun w => lG (w ▸ z)) nn fun a z => .inl z)
            have z := g4' _ _ _ _ mm (fun b o e z => kk b o e (lA b z)) nn (fun a z => .inl z) hin
            exact mk_lstE (kk _ _ ha2 al) z (by rw [eF, g2', eG'])
          exact k σ _ Fs z1 z2 (fr_wr (i := i) (Fr.of_same s12 New.nil) lF) Kp.refl
        · cases e
      · cases e
    · cases e
/-! ### dicts with ints and texts as keys -/
def D.key? : D → Option Key
  | .int i => some (.inl i)
  | .str x => some (.inr x)
  | _ => none
theorem rel_key {K : PySem.W.Frag} {H : Hp} {O : Addr → Prop} {d : D} {v : V} {F : List Addr} {k : Key} (h : Rel K H O d v F) (e : d.key? = some k) : v = kV k := by
  cases d with
  | int i => cases e; exact (rel_int h).1
  | str x => cases e; exact (rel_str h).1
  | _ => cases e
section
variable {κ : Type} [DecidableEq κ]
def kAt : List κ → κ → Option Nat
  | [], _ => none
  | x :: r, k => if x = k then some 0 else (kAt r k).map (· + 1)
theorem valV_at {k : κ} : ∀ (kvs : List (κ × V)), valV kvs k = (kAt (kvs.map (·.1)) k).bind fun j => (kvs.map (·.2))[j]?
  | [] => rfl
  | p :: r => by
    by_cases h : p.1 = k
    · rw [valV_pos h]
      simp [kAt, h]
    · rw [valV_neg h, valV_at r]
      simp only [List.map_cons, kAt, if_neg h]
      cases kAt (r.map (·.1)) k <;> simp
theorem kAt_none {k : κ} : ∀ {kvs : List (κ × V)}, kAt (kvs.map (·.1)) k = none → (kvs.any fun kv => decide (kv.1 = k)) = false
  | [], _ => rfl
  | p :: r, h => by
    simp only [List.map_cons, kAt] at h
    split at h
    · cases h
    · rename_i hp
      rw [List.any_cons, decide_eq_false hp, Bool.false_or]
      refine kAt_none ?_
      cases e : kAt (r.map (·.1)) k with
      | none => rfl
      | some j => rw [e] at h; cases h
theorem kAt_some {k : κ} {j : Nat} : ∀ {kvs : List (κ × V)}, kAt (kvs.map (·.1)) k = some j → (kvs.any fun kv => decide (kv.1 = k)) = true
  | [], h => by cases h
  | p :: r, h => by
    simp only [List.map_cons, kAt] at h
    split at h
    · rename_i hp; rw [List.any_cons, decide_eq_true hp, Bool.true_or]
    · obtain ⟨j', e, _⟩ := Option.map_eq_some_iff.mp h
      rw [List.any_cons, kAt_some e, Bool.or_true]
/-- the values behind d[k] = v, k there -/
def overD {α : Type} (ks : List κ) (k : κ) (d : α) (ds : List α) : List α := List.zipWith (fun k' d' => if k' = k then d else d') ks ds
theorem putK_there {kvs : List (κ × V)} {k : κ} {v : V} {j : Nat} (h : kAt (kvs.map (·.1)) k = some j) : (putK kvs k v).map (·.1) = kvs.map (·.1) ∧ (putK kvs k v).map (·.2) = overD (kvs.map (·.1)) k v (kvs.map (·.2)) := by
  unfold putK
  rw [if_pos (kAt_some h)]
  clear h
  induction kvs with
  | nil => exact ⟨rfl, rfl⟩
  | cons p r ih =>
    refine ⟨?_, ?_⟩
    · simp only [List.map_cons, ih.1]
      split <;> rfl
    · simp only [List.map_cons, ih.2, overD, List.zipWith_cons_cons]
      split <;> rfl
theorem putK_new {kvs : List (κ × V)} {k : κ} {v : V} (h : kAt (kvs.map (·.1)) k = none) : putK kvs k v = kvs ++ [(k, v)] := by
  unfold putK
  rw [kAt_none h]
  rfl
theorem Rels.over {K : PySem.W.Frag} {H : Hp} {O : Addr → Prop} {k : κ} {d : D} {v : V} (r : Rel K H O d v []) : ∀ {ks : List κ} {ds : List D} {vs : List V}, Rels K H O ds vs [] → Rels K H O (overD ks k d ds) (overD ks k v vs) []
  | [], _, _, _ => by unfold overD; simpa using Rels.nil
  | _ :: _, [], _, h => by
    simp only [Rels] at h
    rw [h.1]
    unfold overD
    simpa using Rels.nil
  | x :: ks, d0 :: ds, _, h => by
    simp only [Rels] at h
    obtain ⟨w, ws, F1, F2, rfl, h1, h2, eF⟩ := h
    obtain ⟨rfl, rfl⟩ := nil_of_app eF
    have z := Rels.over (k := k) r (ks := ks) h2
    unfold overD at z ⊢
    simp only [List.zipWith_cons_cons]
    by_cases e : x = k
    · rw [if_pos e, if_pos e]; exact Rels.cons r z
    · rw [if_neg e, if_neg e]; exact Rels.cons h1 z
end
theorem f_dnew : PFx X (.Dict [] [] pos) (pC (.dk true [] [])) := pe_dnewK.weak fun σ H Q ⟨τ, Fs, O, d, S, e, k⟩ => by
  cases e
  exact fun p hp => k _ _ [p] (same_upd hp) (by unfold Rel; exact ⟨p, [], [], rfl, upd_same, rfl, Rels.nil, rfl⟩) ⟨by simp, fun b hb => by rw [List.mem_singleton.mp hb]; exact hp⟩
/-- the dict of a value, where it is read -/
theorem rel_dk {K : PySem.W.Frag} {H : Hp} {O : Addr → Prop} {o : Bool} {ks : List Key} {ds : List D} {v : V} {F : List Addr} (h : Rel K H O (.dk o ks ds) v F) : ∃ a kvs G, v = .ref a ∧ Rd H a (.dK kvs) ∧ kvs.map (·.1) = ks ∧ Rels K H O ds (kvs.map (·.2)) G ∧ ∀ b ∈ G, b ∈ F := by
  cases o with
  | true =>
    simp only [Rel] at h
    obtain ⟨a, kvs, G, rfl, hq, hk, hr, rfl⟩ := h
    exact ⟨a, kvs, G, rfl, .inl hq, hk, hr, fun b => List.mem_cons_of_mem _⟩
  | false =>
    simp only [Rel] at h
    obtain ⟨a, kvs, rfl, hq, _, hk, hr, rfl⟩ := h
    exact ⟨a, kvs, [], rfl, hq, hk, hr, fun b => id⟩
def D.dk? : D → Option (List Key × List D)
  | .dk _ ks ds => some (ks, ds)
  | _ => none
theorem rel_dk' {K : PySem.W.Frag} {H : Hp} {O : Addr → Prop} {d : D} {q : List Key × List D} {v : V} {F : List Addr} (h : Rel K H O d v F) (e : d.dk? = some q) : ∃ a kvs G, v = .ref a ∧ Rd H a (.dK kvs) ∧ kvs.map (·.1) = q.1 ∧ Rels K H O q.2 (kvs.map (·.2)) G ∧ ∀ b ∈ G, b ∈ F := by
  cases d with
  | dk o ks ds => cases e; exact rel_dk h
  | _ => cases e
/-- d[k] -/
def pDGet (p pk : DS → Option D) : DS → Option D := fun τ => (p τ).bind fun x => (pk τ).bind fun y => x.dk?.bind fun q => y.key?.bind fun k => (kAt q.1 k).bind fun j => q.2[j]?
theorem p_dget (hu : X.A.units + 1 < cLine) (ho : PPx X a p) (hk : PPx X ke pk) (hs : NoSl ke := by exact fun _ _ => rfl) : PPx X (.Subscript a ke pos) (pDGet p pk) := (pe_dget hu ho hk hs).weak fun σ H Q ⟨τ, Fs, O, d, S, e, k⟩ => by
  replace e := bind2 (γ := Unit) e; obtain ⟨x, e1, e⟩ := e
  replace e := bind2 (γ := Unit) e; obtain ⟨y, e2, e⟩ := e
  replace e := bind2 (γ := Unit) e; obtain ⟨q, e3, e⟩ := e
  replace e := bind2 (γ := Unit) e; obtain ⟨kk, e4, e⟩ := e
  replace e := bind2 (γ := Unit) e; obtain ⟨j, e5, e⟩ := e
  refine ⟨τ, Fs, O, x, S, e1, fun v1 H1 F1 s1 r1 n1 => ⟨τ, Fs, O, y, S.same s1, e2, fun v2 H2 F2 s2 r2 n2 => ?_⟩⟩
  obtain ⟨a, kvs, G, rfl, hq, hk, hr, hG⟩ := rel_dk' (r1.same s2) e3
  obtain ⟨v, G', g1, g2, g3⟩ := hr.get e
  refine ⟨a, v, rfl, .inl ⟨kvs, kk, hq, rel_key r2 e4, ?_⟩, k v H2 G' (s1.trans s2) g2 (n1.sub fun b hb => hG b (g3 b hb))⟩
  rw [valV_at, hk, e5]
  exact g1.symm
/-- d.get(k, z) -/
def pDGet2 (p pk pz : DS → Option D) : DS → Option D := fun τ => (p τ).bind fun x => (pk τ).bind fun y => (pz τ).bind fun z => x.dk?.bind fun q => y.key?.bind fun k => match kAt q.1 k with
  | some j => q.2[j]?
  | none => some z
theorem p_dget2 {pz : DS → Option D} (hu : X.A.units + 1 < cLine) (ho : PPx X a p) (hk : PPx X b pk) (hz : PPx X c pz) (m : M2 X a "get" apos b c cpos) : PPx X (.Call (.Attribute a "get" apos) [b, c] [] cpos) (pDGet2 p pk pz) := (pe_dget2 hu ho hk hz m).weak fun σ H Q ⟨τ, Fs, O, d, S, e, k⟩ => by
  replace e := bind2 (γ := Unit) e; obtain ⟨x, e1, e⟩ := e
  replace e := bind2 (γ := Unit) e; obtain ⟨y, e2, e⟩ := e
  replace e := bind2 (γ := Unit) e; obtain ⟨z, e2', e⟩ := e
  replace e := bind2 (γ := Unit) e; obtain ⟨q, e3, e⟩ := e
  replace e := bind2 (γ := Unit) e; obtain ⟨kk, e4, e⟩ := e
  refine ⟨τ, Fs, O, x, S, e1, fun v1 H1 F1 s1 r1 n1 => ?_⟩
  obtain ⟨a, kvs, G, rfl, hq, hk, hr, hG⟩ := rel_dk' r1 e3
  refine ⟨a, rfl, .inl ⟨kvs, hq⟩, τ, Fs, O, y, S.same s1, e2, fun v2 H2 F2 s2 r2 n2 => ⟨τ, Fs, O, z, S.same (s1.trans s2), e2', fun v3 H3 F3 s3 r3 n3 => ?_⟩⟩
  have s23 := s2.trans s3
  have hq3 : Rd H3 a (.dK kvs) := hq.imp (fun h => s23 _ _ h) fun ⟨o, h⟩ => ⟨o, s23 _ _ h⟩
  have e5 : valV kvs kk = (kAt q.1 kk).bind fun j => (kvs.map (·.2))[j]? := by rw [valV_at, hk]
  cases hj : kAt q.1 kk with
  | some j =>
    rw [hj] at e
    rw [hj] at e5
    obtain ⟨v, G', g1, g2, g3⟩ := (hr.same s23).get e
    refine ⟨some v, .inl ⟨kvs, kk, hq3, rel_key r2 e4, ?_⟩, k v H3 G' (s1.trans s23) g2 (n1.sub fun b hb => hG b (g3 b hb))⟩
    rw [e5]
    exact g1.symm
  | none =>
    rw [hj] at e
    rw [hj] at e5
    cases e
    exact ⟨none, .inl ⟨kvs, kk, hq3, rel_key r2 e4, e5.symm⟩, k v3 H3 F3 (s1.trans s23) r3 ((n3.up s2).up s1)⟩
def pDGet1 (p pk : DS → Option D) : DS → Option D := pDGet2 p pk (pC .non)
theorem p_dget1 (hu : X.A.units + 1 < cLine) (ho : PPx X a p) (hk : PPx X b pk) (m : M1 X a "get" apos b cpos) : PPx X (.Call (.Attribute a "get" apos) [b] [] cpos) (pDGet1 p pk) := (pe_dget1 hu ho hk m).weak fun σ H Q ⟨τ, Fs, O, d, S, e, k⟩ => by
  replace e := bind2 (γ := Unit) e; obtain ⟨x, e1, e⟩ := e
  replace e := bind2 (γ := Unit) e; obtain ⟨y, e2, e⟩ := e
  replace e := bind2 (γ := Unit) e; obtain ⟨z, e2', e⟩ := e
  replace e := bind2 (γ := Unit) e; obtain ⟨q, e3, e⟩ := e
  replace e := bind2 (γ := Unit) e; obtain ⟨kk, e4, e⟩ := e
  cases e2'
  refine ⟨τ, Fs, O, x, S, e1, fun v1 H1 F1 s1 r1 n1 => ?_⟩
  obtain ⟨a, kvs, G, rfl, hq, hk, hr, hG⟩ := rel_dk' r1 e3
  refine ⟨a, rfl, .inl ⟨kvs, hq⟩, τ, Fs, O, y, S.same s1, e2, fun v2 H2 F2 s2 r2 n2 => ?_⟩
  have hq3 : Rd H2 a (.dK kvs) := hq.imp (fun h => s2 _ _ h) fun ⟨o, h⟩ => ⟨o, s2 _ _ h⟩
  have e5 : valV kvs kk = (kAt q.1 kk).bind fun j => (kvs.map (·.2))[j]? := by rw [valV_at, hk]
  cases hj : kAt q.1 kk with
  | some j =>
    rw [hj] at e
    rw [hj] at e5
    obtain ⟨v, G', g1, g2, g3⟩ := (hr.same s2).get e
    refine ⟨some v, .inl ⟨kvs, kk, hq3, rel_key r2 e4, ?_⟩, k v H2 G' (s1.trans s2) g2 (n1.sub fun b hb => hG b (g3 b hb))⟩
    rw [e5]
    exact g1.symm
  | none =>
    rw [hj] at e
    rw [hj] at e5
    cases e
    exact ⟨none, .inl ⟨kvs, kk, hq3, rel_key r2 e4, e5.symm⟩, k .non H2 [] (s1.trans s2) mk_non Old.nil⟩
end
end DL
set_option Elab.async false
set_option linter.all false
set_option maxRecDepth 100000
set_option maxHeartbeats 2000000
/-! Stores in dicts, pops, extends, repetitions, index. -/
namespace DL
open PySem PySem.Spec PyProof.Rows L2
section
open PyProof.Rows in
open Sem (wp) in
open AutoSeq1 in
set_option maxRecDepth 8000 in
theorem meets_extendT (l : Addr) (xs : Array Value) (n : Nat) (t : Addr) (ys : Array Value) (m : Nat) (dd : Option Addr) (sl : Array (Option Value)) (h0 : ¬(!xs.isEmpty && Builtin.List.listTooLong (xs.size + ys.size)) = true) (h1 : xs.size ≤ sizeLine) (h2 : xs.size + ys.size ≤ sizeLine + 1) :
    Meets (Builtin.«list.extend» ⟨[.ref l, .ref t], []⟩) (fun _ R s => s.heap.get? l = some { cls := .type "list", dict := none, data := .seq xs n, slots := #[] } ∧
      s.heap.get? t = some { cls := .type "tuple", dict := dd, data := .seq ys m, slots := sl } ∧ R (.ok (.ret Value.none)) { s with heap := s.heap.update l (Obj.mapSeq fun x => x ++ ys), toks := s.toks }) :=
  .of_wp fun prog w A R s h => by
    obtain ⟨hp, g, d, tk, os⟩ := s
    obtain ⟨hl, hb, h⟩ := h
    have f1 := idx_int
    have f2 := AutoSeq1.sub_tuple_tuple
    have f3 := AutoSeq1.sub_list_list
    have f4 := AutoSeq1.sub_tuple_list
    have f5 := AutoSeq1.sub_list_tuple
    have hz' : (xs ++ ys).size ≤ sizeLine + 1 := by
      rw [Array.size_append]
      exact h2
    wp_walk using (wpAny_updateSeq hl rfl (hz := h1) (_hz' := hz')), wpAny_loadPart' hl, wpAny_loadPart' hb
    exact ⟨_, rfl, h⟩
end
/-- xs.extend(ys), ys a tuple -/
def rExtT (K : PySem.W.Frag) : V → List V → Hp → VK → Prop := fun x vs H Q => ∃ l t xs zs, x = .ref l ∧ vs = [.ref t] ∧ H l = some (.lst xs) ∧ SqT K H t zs ∧ xs.length + zs.length ≤ sizeLine ∧ Q .non (upd H l (.lst (xs ++ zs)))
section
variable {X : Cx}
theorem mr_extT : MtR X "list.extend" (rExtT X.K) := by
  intro pins s σ H x vs v us Q I rx rv h
  obtain ⟨l, t, xs, zs, rfl, rfl, hH, hT, hz, q⟩ := h
  cases rx
  obtain ⟨u, rfl, ru⟩ := rv.one
  cases ru
  obtain ⟨z, its, n, r, hl, e⟩ := I.lstM hH
  obtain ⟨ts, r2, ⟨⟨cls, dd, data, sl⟩, ho, hc, m, hd⟩, hs⟩ := I.tuple hT
  simp only at hc hd
  subst hc hd
  have l1 := r.length
  have l2 := r2.length
  have big : its.toArray.size + ts.toArray.size ≤ sizeLine := by
    rw [List.size_toArray, List.size_toArray]
    omega
  have few : ¬ (!its.toArray.isEmpty && Builtin.List.listTooLong (its.toArray.size + ts.toArray.size)) = true := by
    rw [notLongL big, Bool.and_false]
    exact Bool.false_ne_true
  refine call_meets F.slot_list_extend ⟨_, e, rfl⟩ F.entry_list_extend (F.args_list_extend_2 _ _) (meets_extendT l its.toArray n t ts.toArray m dd sl few (by rw [List.size_toArray]; omega) (by omega)) ⟨e, ho, ?_⟩
  exact ⟨.non, _, I.lset (its' := its ++ ts) hH e (by simp) (r.append r2) (by rw [List.length_append]; omega), rfl, q⟩
end
theorem MtR.or {X : Cx} {id : String} {r r' : V → List V → Hp → VK → Prop} (h : MtR X id r) (h' : MtR X id r') : MtR X id (fun x vs H Q => r x vs H Q ∨ r' x vs H Q) := fun pins s σ H x vs v us Q I rx rv q => q.elim (h pins s σ H x vs v us Q I rx rv) (h' pins s σ H x vs v us Q I rx rv)
section
variable {X : Cx} {a b c e ie ke : Expr} {p pe pk : DS → Option D} {pa pb : DS → Option D} {fe : DS → Option (D × DS)} {pos apos cpos ipos pos' : Pos}
/-- x.extend(e): a list or tuple whose items own nothing -/
def D.ext? : D → Option (List D)
  | .lst true ds => some ds
  | .tup ds => some ds
  | _ => none
def fExt (i : Nat) (pe : DS → Option D) : DS → Option Out := fun τ => (pVar i τ).bind fun x => (pe τ).bind fun y => y.ext?.bind fun es => match x with
  | .lst true ds => if D.imms ds = true ∧ D.imms es = true ∧ ds.length + es.length ≤ 16777216 then some (.nx (τ.set i (some (.lst true (ds ++ es))))) else none
  | _ => none
theorem s_ext {i : Nat} {xi : Str} {pi : Pos} (hi : PE X (.Name xi pi) (tVar i)) (he : PPx X e pe) (hbase : attributeBase (.Name xi pi) "extend" X.env (eval (.Name xi pi) X.env) = eval (.Name xi pi) X.env := by rfl)
    (hfew : ((backTo cpos (starEach [e] X.env)).all (fun x => !x.1) && (backToKw cpos (keywordEach [] X.env)).all (fun x => x.1.isSome) && decide ([e].length + ([] : List Keyword).length + (if ([] : List Keyword).isEmpty then 0 else 1) < 30)) = true := by rfl)
    (hline : (apos.endLine == cpos.line) = true := by rfl) (hs : starEach [e] X.env = (false, eval e X.env) :: starEach [] X.env := by rfl) (hplain : (backTo cpos (starEach [] X.env)).any (·.1) = false := by rfl)
    (hsw : swapsWith (.Call (.Attribute (.Name xi pi) "extend" apos) [e] [] cpos) none pos.line X.env = pure false := by rfl) :
    DSx X (.Expr (.Call (.Attribute (.Name xi pi) "extend" apos) [e] [] cpos) pos) [] (fExt i pe) :=
  (ps_expr (pe_bm PySem.F.plainAttrs_list PySem.F.slot_list_extend PySem.F.type_list_extend (MtR.or mt_extend mr_extT) hi (pa_cons he pa_nil hs) hbase hfew hline hs hplain) hsw).weak fun N σ H ⟨τ, Fs, R, out, S, s, e, k⟩ => by
    replace e := bind2 (γ := Unit) e; obtain ⟨x, e1, e⟩ := e
    replace e := bind2 (γ := Unit) e; obtain ⟨y, e2, e⟩ := e
    replace e := bind2 (γ := Unit) e; obtain ⟨es, e3, e⟩ := e
    split at e
    · rename_i ds
      split at e
      · rename_i hd
        cases e
        obtain ⟨w, ew, rw0⟩ := S.rel i _ (pVar_some e1)
        obtain ⟨l, vs, G, rfl, hl, hr, eF⟩ := rel_own rw0
        refine ⟨_, ew, .inl ⟨rfl, vs, .inl (.inl hl)⟩, τ, Fs, _, _, S, e2, fun u H1 F1 s1 r1 n1 => ?_⟩
        have S1 := S.same s1
        have hl1 := s1 _ _ hl
        have hr1 := hr.same s1
        have zz := hr1.imm hd.1
        subst zz
        have lF : l ∈ Fs i := by rw [eF]; exact List.mem_cons_self
        have fin : ∀ ws : List V, Rels X.K H1 (OW [] Fs R) es ws [] → N.nx σ (upd H1 l (.lst (vs ++ ws))) := fun ws hw => by
          obtain ⟨z1, z2⟩ := srel_wr0 (u := .lst (vs ++ ws)) (d' := .lst true (ds ++ es)) S1 (sep_same s s1) ew hl1 trivial trivial lF fun mm kk nn => by
            rw [eF]
            have q := hr1.app hw
            rw [List.append_nil] at q
            exact mk_lst upd_same (q.keep mm (fun _ _ _ z => absurd z List.not_mem_nil) nn fun a z => .inl z)
          exact k σ _ Fs z1 z2 (fr_wr (i := i) (Fr.of_same s1 New.nil) lF) Kp.refl
        have sz : ∀ ws : List V, Rels X.K H1 (OW [] Fs R) es ws [] → vs.length + ws.length ≤ sizeLine := fun ws hw => by
          rw [hr1.len, hw.len, sizeLine_eq]
          exact hd.2.2
        cases y with
        | lst o zs =>
          cases o with
          | true =>
            cases e3
            obtain ⟨b, ws, G', rfl, hb, hw, _⟩ := rel_own r1
            have zz := hw.imm hd.2.1
            subst zz
            exact .inl ⟨l, b, vs, ws, rfl, rfl, hl1, hb, sz ws hw, fin ws hw⟩
          | false => cases e3
        | tup zs =>
          cases e3
          obtain ⟨b, ws, rfl, hb, hw⟩ := rel_tup r1
          have zz := hw.imm hd.2.1
          subst zz
          exact .inr ⟨l, b, vs, ws, rfl, rfl, hl1, hb, sz ws hw, fin ws hw⟩
        | _ => cases e3
      · cases e
    · cases e
/-- x.pop(e) -/
def ePop (i : Nat) (fe : DS → Option (D × DS)) : DS → Option (D × DS) := fun τ => (pVar i τ).bind fun x => match x with
  | .lst true _ => (fe τ).bind fun r => (pVar i r.2).bind fun y => match y, r.1 with
    | .lst true ds, .int k => if D.imms ds = true ∧ ds.length ≤ 16777216 then (ixN ds.length k).bind fun j => (ds[j]?).bind fun d => some (d, r.2.set i (some (.lst true (ds.eraseIdx j)))) else none
    | _, _ => none
  | _ => none
theorem e_pop {i : Nat} {xi : Str} {pi : Pos} (hi : PE X (.Name xi pi) (tVar i)) (he : DEx X e fe) (hbase : attributeBase (.Name xi pi) "pop" X.env (eval (.Name xi pi) X.env) = eval (.Name xi pi) X.env := by rfl)
    (hfew : ((backTo cpos (starEach [e] X.env)).all (fun x => !x.1) && (backToKw cpos (keywordEach [] X.env)).all (fun x => x.1.isSome) && decide ([e].length + ([] : List Keyword).length + (if ([] : List Keyword).isEmpty then 0 else 1) < 30)) = true := by rfl)
    (hline : (apos.endLine == cpos.line) = true := by rfl) (hs : starEach [e] X.env = (false, eval e X.env) :: starEach [] X.env := by rfl) (hplain : (backTo cpos (starEach [] X.env)).any (·.1) = false := by rfl) :
    DEx X (.Call (.Attribute (.Name xi pi) "pop" apos) [e] [] cpos) (ePop i fe) :=
  (pe_bm PySem.F.plainAttrs_list PySem.F.slot_list_pop PySem.F.type_list_pop mt_popAt hi (pa_cons he pa_nil hs) hbase hfew hline hs hplain).weak fun σ H Q ⟨τ, Fs, R, d, τ', S, s, e, k⟩ => by
    replace e := bind2 (γ := Unit) e; obtain ⟨x, e1, e⟩ := e
    split at e
    · replace e := bind2 (γ := Unit) e; obtain ⟨⟨r, τ1⟩, e2, e⟩ := e
      replace e := bind2 (γ := Unit) e; obtain ⟨y, e3, e⟩ := e
      dsimp only at e e3
      split at e
      · rename_i ds kk
        split at e
        · rename_i hd
          replace e := bind2 (γ := Unit) e; obtain ⟨j, e4, e⟩ := e
          replace e := bind2 (γ := Unit) e; obtain ⟨d', e5, e⟩ := e
          cases e
          obtain ⟨w, ew, rw0⟩ := S.rel i _ (pVar_some e1)
          obtain ⟨l, vs0, G0, rfl, hl0, _, _⟩ := rel_own rw0
          refine ⟨_, ew, .inl ⟨rfl, vs0, .inl (.inl hl0)⟩, τ, Fs, R, _, τ1, S, s, e2, fun u H1 F1 Fs1 S1 r1 s1 f1 => ?_⟩
          obtain ⟨rfl, rfl⟩ := rel_int r1
          obtain ⟨w', ew', rw'⟩ := S1.rel i _ (pVar_some e3)
          rw [ew] at ew'
          obtain rfl := Option.some.inj (Option.some.inj ew')
          obtain ⟨l', vs, G, el, hl, hr, eF⟩ := rel_own rw'
          obtain rfl : l = l' := by cases el; rfl
          have zz := hr.imm hd.1
          subst zz
          obtain ⟨v, g1, g2⟩ : ∃ v, vs[j]? = some v ∧ Rel X.K H1 (OW [] Fs1 R) d v [] := by
            obtain ⟨v, G, g1, g2, g3⟩ := hr.get e5
            have z : G = [] := List.eq_nil_iff_forall_not_mem.mpr fun a ha => absurd (g3 a ha) List.not_mem_nil
            rw [z] at g2
            exact ⟨v, g1, g2⟩
          obtain ⟨q1, q2, q3, q4⟩ := ixN_seq e4
          have hz : (ds.length : Int) ≤ 16777216 := by have := hd.2; omega
          have lF : l ∈ Fs1 i := by rw [eF]; exact List.mem_cons_self
          refine ⟨l, vs, kk, j, v, rfl, rfl, hl, by omega, by omega, by rw [hr.len]; exact q1, g1, ?_⟩
          obtain ⟨z1, z2⟩ := srel_wr0 (u := .lst (vs.eraseIdx j)) (d' := .lst true (ds.eraseIdx j)) S1 s1 ew hl trivial trivial lF fun mm kk nn => by
            rw [eF]
            exact mk_lst upd_same ((hr.erase0 j).keep mm (fun _ _ _ z => absurd z List.not_mem_nil) nn fun a z => .inl z)
          refine k v _ [] Fs1 z1 ?_ z2 (fr_wr (i := i) f1 lF)
          refine g2.keep (fun a o e m => ?_) (fun _ _ _ z => absurd z List.not_mem_nil) (fun a o e m => ?_) fun a z => .inl z
          · rw [upd_ne fun w => ?_]
            · exact e
            · rw [w, hl] at e; cases e; exact m trivial
          · have hne : a ≠ l := fun w => m (.inr (.inl ⟨i, by rw [w]; exact lF⟩))
            rw [upd_ne hne]
            exact e
        · cases e
      · cases e
    · cases e
/-- x[k] = e, a dict in a slot -/
def fPutD (i : Nat) (pk : DS → Option D) (fe : DS → Option (D × DS)) : DS → Option Out := fun τ => (fe τ).bind fun r => (pVar i r.2).bind fun x => (pk r.2).bind fun y => y.key?.bind fun k => match x with
  | .dk true ks ds => (match kAt ks k with
    | none => if ks.length < 16777216 then some (.nx (r.2.set i (some (.dk true (ks ++ [k]) (ds ++ [r.1]))))) else none
    | some _ => if D.imms ds = true ∧ r.1.imm = true ∧ ks.length < 16777216 then some (.nx (r.2.set i (some (.dk true ks (overD ks k r.1 ds))))) else none)
  | _ => none
theorem rel_dkO {K : PySem.W.Frag} {H : Hp} {O : Addr → Prop} {ks : List Key} {ds : List D} {v : V} {F : List Addr} (h : Rel K H O (.dk true ks ds) v F) : ∃ a kvs G, v = .ref a ∧ H a = some (.dK kvs) ∧ kvs.map (·.1) = ks ∧ Rels K H O ds (kvs.map (·.2)) G ∧ F = a :: G := by simpa only [Rel] using h
theorem mk_dk {K : PySem.W.Frag} {H : Hp} {O : Addr → Prop} {ks : List Key} {ds : List D} {a : Addr} {kvs : List (Key × V)} {F : List Addr} (h : H a = some (.dK kvs)) (hk : kvs.map (·.1) = ks) (r : Rels K H O ds (kvs.map (·.2)) F) : Rel K H O (.dk true ks ds) (.ref a) (a :: F) := by
  unfold Rel
  exact ⟨a, kvs, F, rfl, h, hk, r, rfl⟩
theorem s_dput {i : Nat} {xi : Str} {pi : Pos} (hu : X.A.units + 1 < cLine) (hi : PE X (.Name xi pi) (tVar i)) (hk : PPx X ke pk) (he : DEx X e fe) (hs : swapsWith e (some (.Subscript (.Name xi pi) ke pos')) pos.line X.env = pure false := by rfl) :
    DSx X (.Assign [.Subscript (.Name xi pi) ke pos'] e pos) [] (fPutD i pk fe) := (ps_dput hu hi hk he hs).weak fun N σ H ⟨τ, Fs, R, out, S, s, e, k⟩ => by
  replace e := bind2 (γ := Unit) e; obtain ⟨⟨d, τ1⟩, e1, e⟩ := e
  replace e := bind2 (γ := Unit) e; obtain ⟨x, e2, e⟩ := e
  replace e := bind2 (γ := Unit) e; obtain ⟨y, e3, e⟩ := e
  replace e := bind2 (γ := Unit) e; obtain ⟨kk, e4, e⟩ := e
  dsimp only at e e2 e3
  split at e
  · rename_i ks ds
    refine ⟨τ, Fs, R, d, τ1, S, s, e1, fun v H1 F Fs1 S1 r1 s1 f1 => ?_⟩
    obtain ⟨w, ew, _⟩ := S1.rel i _ (pVar_some e2)
    refine ⟨w, ew, τ1, Fs1, _, _, S1, e3, fun u H2 F2 sm r2 n2 => ?_⟩
    have S2 := S1.same sm
    have s2 := sep_same s1 sm
    have f2 := fr_same f1 sm
    have r1 := r1.same sm
    obtain ⟨w', ew', rw'⟩ := S2.rel i _ (pVar_some e2)
    rw [ew] at ew'
    obtain rfl := Option.some.inj (Option.some.inj ew')
    obtain ⟨a, kvs, G, rfl, ha, hk, hr, eF⟩ := rel_dkO rw'
    have lF : a ∈ Fs1 i := by rw [eF]; exact List.mem_cons_self
    have ek := rel_key r2 e4
    have hlen : kvs.length = ks.length := by rw [← hk, List.length_map]
    split at e
    · rename_i hn
      split at e
      · rename_i hl
        cases e
        refine ⟨a, _, rfl, .inl ⟨kvs, kk, ha, ek, by rw [hlen, sizeLine_eq]; exact hl, rfl⟩, ?_⟩
        have ndF := s2.nds i
        rw [eF] at ndF
        obtain ⟨nd1, nd2⟩ := List.nodup_cons.mp ndF
        have aF : a ∉ F := s2.f1 i a lF
        obtain ⟨z1, z2, z3⟩ := srel_wr (F' := []) (G := a :: (G ++ F)) (u := .dK (putK kvs kk v)) (d' := .dk true (ks ++ [kk]) (ds ++ [d])) S2 s2 ew ha trivial trivial lF (fun b z => by
            rcases List.mem_cons.mp z with rfl | z
            · exact .inl lF
            · exact (List.mem_append.mp z).imp (fun z => by rw [eF]; exact List.mem_cons_of_mem _ z) id)
          (List.nodup_cons.mpr ⟨fun z => (List.mem_append.mp z).elim nd1 aF, List.nodup_append.mpr ⟨nd2, s2.nd, fun x hx y hy q => s2.f1 i x (by rw [eF]; exact List.mem_cons_of_mem _ hx) (q ▸ hy)⟩⟩) (fun _ z => absurd z List.not_mem_nil) List.nodup_nil
          fun mm kk' nn oo => by
            have hn' : kAt (kvs.map (·.1)) kk = none := by rw [hk]; exact hn
            have e1 := putK_new (v := v) hn'
            refine mk_dk upd_same (by rw [e1, List.map_append, hk]; rfl) ?_
            have q := hr.app (Rels.one r1)
            have q' := q.keep mm (fun b o e z => kk' b o e fun w => (List.mem_append.mp z).elim (fun z => nd1 (w ▸ z)) fun z => aF (w ▸ z)) nn fun b z => .inl (oo b z)
            rw [e1, List.map_append] at *
            exact q'
        refine k σ _ _ z1 z2 ⟨fun b o q n => z3 b o (f2.keep b o q n) fun w => ?_, fun b z => ?_⟩ Kp.refl
        · exact (f2.new a (.inr ⟨i, lF⟩)).elim (fun ⟨j, w'⟩ => n j (w ▸ w')) fun w' => by rw [← w, q] at w'; cases w'
        · rcases z with z | ⟨j, z⟩
          · exact absurd z List.not_mem_nil
          · rcases put_mem z with ⟨_, z⟩ | ⟨_, z⟩
            · rcases List.mem_cons.mp z with rfl | z
              · exact f2.new b (.inr ⟨i, lF⟩)
              · rcases List.mem_append.mp z with z | z
                · exact f2.new b (.inr ⟨i, by rw [eF]; exact List.mem_cons_of_mem _ z⟩)
                · exact f2.new b (.inl z)
            · exact f2.new b (.inr ⟨j, z⟩)
      · cases e
    · rename_i j hj
      split at e
      · rename_i hl
        cases e
        have zz := hr.imm hl.1
        subst zz
        have zF := r1.imm hl.2.1
        subst zF
        refine ⟨a, _, rfl, .inl ⟨kvs, kk, ha, ek, by rw [hlen, sizeLine_eq]; exact hl.2.2, rfl⟩, ?_⟩
        rw [← hk] at hj
        obtain ⟨p1, p2⟩ := putK_there (v := v) hj
        obtain ⟨z1, z2⟩ := srel_wr0 (u := .dK (putK kvs kk v)) (d' := .dk true ks (overD ks kk d ds)) S2 s2 ew ha trivial trivial lF fun mm kk' nn => by
          rw [eF]
          refine mk_dk upd_same (p1.trans hk) ?_
          rw [p2, hk]
          exact (Rels.over r1 hr).keep mm (fun _ _ _ z => absurd z List.not_mem_nil) nn fun a z => .inl z
        exact k σ _ Fs1 z1 z2 (fr_wr (i := i) f2 lF) Kp.refl
      · cases e
  · cases e
/-- xs * n -/
def oRep : D → D → Option D
  | .lst true ds, .int k => if D.imms ds = true ∧ -9223372036854775808 ≤ k ∧ k < 9223372036854775808 ∧ ds.length * k.toNat ≤ 16777216 then some (.lst true (List.replicate k.toNat ds).flatten) else none
  | _, _ => none
theorem rels_rep {K : PySem.W.Frag} {H : Hp} {O : Addr → Prop} {ds : List D} {vs : List V} (h : Rels K H O ds vs []) : ∀ n : Nat, Rels K H O (List.replicate n ds).flatten (List.replicate n vs).flatten []
  | 0 => by simpa using Rels.nil
  | n + 1 => by
    rw [List.replicate_succ, List.replicate_succ, List.flatten_cons, List.flatten_cons]
    have q := h.app (rels_rep h n)
    rwa [List.append_nil] at q
theorem f_rep (ha : PPx X a pa) (hb : PPx X b pb) : PFx X (.BinOp a .Mult b pos) (pOp oRep pa pb) := (pe_op op_rep ha hb).weak fun σ H Q ⟨τ, Fs, O, d, S, e, k⟩ => by
  replace e := bind2 (γ := Unit) e; obtain ⟨x, ex, e⟩ := e
  replace e := bind2 (γ := Unit) e; obtain ⟨y, ey, e⟩ := e
  refine ⟨τ, Fs, O, x, S, ex, fun v1 H1 F1 s1 r1 n1 => ⟨τ, Fs, O, y, S.same s1, ey, fun v2 H2 F2 s2 r2 n2 => ?_⟩⟩
  unfold oRep at e
  split at e
  · rename_i ds kk
    split at e
    · rename_i hi
      cases e
      obtain ⟨l, vs, G, rfl, hl, hr, rfl⟩ := rel_own (r1.same s2)
      have z := hr.imm hi.1
      subst z
      refine ⟨l, kk, vs, rfl, (rel_int r2).1, hl, hi.2.1, hi.2.2.1, by rw [hr.len, sizeLine_eq]; exact hi.2.2.2, fun p hp => ?_⟩
      have sm := same_upd (o := .lst (List.replicate kk.toNat vs).flatten) hp
      exact k _ _ [p] ((s1.trans s2).trans sm) (mk_lst upd_same ((rels_rep hr kk.toNat).same sm)) ⟨by simp, fun b hb => by rw [List.mem_singleton.mp hb]; exact (s1.trans s2).free hp⟩
    · cases e
  · cases e
/-- a tuple n times -/
def oRepT : D → D → Option D
  | .tup ds, .int k => if D.imms ds = true ∧ ds ≠ [] ∧ 2 ≤ k ∧ k ≤ 1000 ∧ ds.length ≤ 1000 then some (.tup (List.replicate k.toNat ds).flatten) else none
  | _, _ => none
theorem f_repT (ha : PPx X a pa) (hb : PPx X b pb) : PFx X (.BinOp a .Mult b pos) (pOp oRepT pa pb) := (pe_op op_repT ha hb).weak fun σ H Q ⟨τ, Fs, O, d, S, e, k⟩ => by
  replace e := bind2 (γ := Unit) e; obtain ⟨x, ex, e⟩ := e
  replace e := bind2 (γ := Unit) e; obtain ⟨y, ey, e⟩ := e
  refine ⟨τ, Fs, O, x, S, ex, fun v1 H1 F1 s1 r1 n1 => ⟨τ, Fs, O, y, S.same s1, ey, fun v2 H2 F2 s2 r2 n2 => ?_⟩⟩
  unfold oRepT at e
  split at e
  · rename_i ds kk
    split at e
    · rename_i hi
      cases e
      obtain ⟨l, vs, rfl, hl, hr⟩ := rel_tup (r1.same s2)
      have z := hr.imm hi.1
      subst z
      refine ⟨l, kk, vs, rfl, (rel_int r2).1, hl, fun z => hi.2.1 (List.eq_nil_of_length_eq_zero (by rw [← hr.len, z]; rfl)), hi.2.2.1, hi.2.2.2.1, by rw [hr.len]; exact hi.2.2.2.2, fun p hp => ?_⟩
      have sm := same_upd (o := .tup (List.replicate kk.toNat vs).flatten) hp
      exact k _ _ [] ((s1.trans s2).trans sm) (mk_tup (SqT.of upd_same) ((rels_rep hr kk.toNat).same sm)) New.nil
    · cases e
  · cases e
/-- xs.index(y), ints -/
def pIdx (p pe : DS → Option D) : DS → Option D := fun τ => (p τ).bind fun x => (pe τ).bind fun y => match x, y with
  | .lst _ ds, .int k => (D.ints? ds).bind fun is => (kAt is k).bind fun j => some (.int (j : Nat))
  | _, _ => none
theorem kAt_get : ∀ {is : List Int} {k : Int} {j : Nat}, kAt is k = some j → is[j]? = some k ∧ ∀ m z, m < j → is[m]? = some z → z ≠ k
  | [], _, _, h => by cases h
  | x :: r, k, j, h => by
    unfold kAt at h
    split at h
    · rename_i hx
      cases h
      exact ⟨by simp [hx], fun m z hm => absurd hm (Nat.not_lt_zero m)⟩
    · rename_i hx
      obtain ⟨j', e, rfl⟩ := Option.map_eq_some_iff.mp h
      obtain ⟨h1, h2⟩ := kAt_get e
      refine ⟨by simpa using h1, fun m z hm hz => ?_⟩
      cases m with
      | zero => simp at hz; rw [← hz]; exact hx
      | succ m => exact h2 m z (by omega) (by simpa using hz)
theorem p_idx (ha : PPx X a pa) (he : PPx X e pe) (hbase : attributeBase a "index" X.env (eval a X.env) = eval a X.env := by rfl)
    (hfew : ((backTo cpos (starEach [e] X.env)).all (fun x => !x.1) && (backToKw cpos (keywordEach [] X.env)).all (fun x => x.1.isSome) && decide ([e].length + ([] : List Keyword).length + (if ([] : List Keyword).isEmpty then 0 else 1) < 30)) = true := by rfl)
    (hline : (apos.endLine == cpos.line) = true := by rfl) (hs : starEach [e] X.env = (false, eval e X.env) :: starEach [] X.env := by rfl) (hplain : (backTo cpos (starEach [] X.env)).any (·.1) = false := by rfl) :
    PPx X (.Call (.Attribute a "index" apos) [e] [] cpos) (pIdx pa pe) :=
  (pe_bm PySem.F.plainAttrs_list PySem.F.slot_list_index PySem.F.type_list_index mt_index ha (pa_cons he pa_nil hs) hbase hfew hline hs hplain).weak fun σ H Q ⟨τ, Fs, O, d, S, e, k⟩ => by
    replace e := bind2 (γ := Unit) e; obtain ⟨x, e1, e⟩ := e
    replace e := bind2 (γ := Unit) e; obtain ⟨y, e2, e⟩ := e
    split at e
    · rename_i o ds kk
      replace e := bind2 (γ := Unit) e; obtain ⟨is, e3, e⟩ := e
      replace e := bind2 (γ := Unit) e; obtain ⟨j, e4, e⟩ := e
      cases e
      refine ⟨τ, Fs, O, _, S, e1, fun v1 H1 F1 s1 r1 n1 => ?_⟩
      obtain ⟨l, vs, G, rfl, hl, _, _⟩ := rel_lst r1
      refine ⟨.inl ⟨rfl, vs, hl⟩, τ, Fs, O, _, S.same s1, e2, fun v2 H2 F2 s2 r2 n2 => ?_⟩
      obtain ⟨l', vs', G', el, hl', hr', _⟩ := rel_lst (r1.same s2)
      obtain rfl : l = l' := by cases el; rfl
      obtain ⟨rfl, _⟩ := rels_ints hr' e3
      obtain ⟨g1, g2⟩ := kAt_get e4
      refine ⟨l, _, .int kk, j, .int kk, rfl, by rw [(rel_int r2).1], hl', rfl, by simp [flatV], by simp [g1], by simp [eqV], fun m z hm hz => ?_, k _ H2 [] (s1.trans s2) (mk_int _) Old.nil⟩
      rw [List.getElem?_map] at hz
      obtain ⟨w, hw, rfl⟩ := Option.map_eq_some_iff.mp hz
      have := g2 m w hm hw
      simp [eqV, this]
    · cases e
end
end DL
set_option Elab.async false
set_option linter.all false
set_option maxRecDepth 100000
set_option maxHeartbeats 2000000
/-! sorted: of lists and tuples of data. -/
namespace DL
open PySem PySem.Spec PyProof.Rows L2 PySem.W
section
variable {prog : Program} {w : World} {A : Around} {E : Value → Shared → Prop} {s : Shared}
/-- what sorted first takes out of a tuple -/
theorem taken_tuple {t : Addr} {its : List Value} {Q : List Value → Shared → Prop} (ht : s.heap.IsTuple t its.toArray) (hz : its.length ≤ sizeLine)
    (h : Q its { s with heap := (s.heap.push (seqObj "list" #[] 0)).update s.heap.objs.size (Obj.mapSeq (· ++ its.toArray)) }) : wpAny (model prog w) A (collect (.ref t)) Q E s := by
  obtain ⟨ob, hob, hcl, m, hda⟩ := id ht
  have new : (s.heap.push (seqObj "list" #[] 0)).get? s.heap.objs.size = some (seqObj "list" #[] 0) := Heap.get?_push_size _ rfl
  have old : (s.heap.push (seqObj "list" #[] 0)).get? t = some ob := Heap.get?_push_of_some _ hob
  unfold collect
  refine wpAny_bind (wpAny_runValue (codeAny_builtin entry_proto_collect' ?_))
  change wpAny _ _ (do let l ← newList []; again (.builtin "list.__iadd__" ⟨[l, .ref t], []⟩)) _ _ s
  refine wpAny_bind (wpAny_newList (wpAny_pure ⟨Code.quiet_builtin _ (by decide +kernel), codeAny_builtin entry_list_iadd' ?_⟩))
  change wpAny _ _ (Builtin.List.listExtendWith (.ref s.heap.objs.size) (.ref t) (.ref s.heap.objs.size)) _ _ { s with heap := s.heap.push (seqObj "list" #[] 0) }
  unfold Builtin.List.listExtendWith
  refine wpAny_bind (wpAny_typeOf (T := "tuple") ⟨ob, old, hcl⟩ ?_)
  rw [if_pos (by simp)]
  refine wpAny_bind (listItems_at old hda ?_)
  refine wpAny_bind (listItems_at (xs := #[]) (n := 0) new rfl ?_)
  rw [if_neg (by simp)]
  refine wpAny_bind (listUpdate_at (xs := #[]) (n := 0) new rfl ?_ (Nat.zero_le _) (by simp only [Array.size_append, List.size_toArray, List.size_toArray]; simp; omega))
  refine wpAny_pure ?_
  change wpAny (model prog w) A (do
    let o ← load s.heap.objs.size
    match o.data with
    | .seq xs _ => pure xs.toList
    | _ => unsupported "internal:collect") Q E { s with heap := (s.heap.push (seqObj "list" #[] 0)).update s.heap.objs.size (Obj.mapSeq (· ++ its.toArray)) }
  refine wpAny_bind (wpAny_load (get?_update_seq new _) ?_)
  change wpAny _ _ (pure ((#[] : Array Value) ++ its.toArray).toList) Q E _
  have e : ((#[] : Array Value) ++ its.toArray).toList = its := by simp
  rw [e]
  exact wpAny_pure h
/-- sorted of a tuple -/
theorem sortedT_vals {κ : PyProof.Rows.KeyKind} {t : Addr} {its : List Value} {Q : Value → Shared → Prop} (ht : s.heap.IsTuple t its.toArray) (S : SortsAt prog w A.in1.in1 { s with heap := sortingHeap (copyHeap s.heap its) (s.heap.objs.size + 1) its } κ its) (hz : its.length ≤ sizeLine)
    (h : Q (.ref (s.heap.objs.size + 1)) { s with heap := sortedAll s.heap its (sortVals κ false its its).toArray }) : wpAny (model prog w) A (call (.builtin "sorted") [.ref t]) Q E s := by
  refine Calls.call_function_entry kind_sorted plain_sorted entry_sorted (args_sorted1 _) ?_
  unfold Builtin.«sorted»
  refine wpAny_bind (m := checkCount "sorted" 1 1 _) (wpAny_pure ?_)
  refine wpAny_bind (taken_tuple ht hz ?_)
  refine wpAny_bind (wpAny_newList ?_ hz)
  have e : ((s.heap.push (seqObj "list" #[] 0)).update s.heap.objs.size (Obj.mapSeq (· ++ its.toArray))).objs.size = s.heap.objs.size + 1 := by rw [Heap.size_update, size_push']
  change wpAny _ _ _ _ _ { s with heap := copyHeap s.heap its }
  rw [e]
  refine wpAny_bind (wpAny_holding (wpAny_call_entry slot_list_sort ⟨_, copyHeap_at s.heap its, rfl⟩ entry_list_sort (list_sort_vals (s := { s with heap := copyHeap s.heap its }) (copyHeap_at s.heap its) S hz ⟨_, rfl, ?_⟩) (args_list_sort _)))
  exact wpAny_pure ⟨_, rfl, h⟩
theorem sortedT_data {β : Type} {vs : List Value} {bs : List β} {enc : β → PyData} {R : Value → β → Prop} {t : Addr} {Q : Value → Shared → Prop} (ht : s.heap.IsTuple t vs.toArray) (e : EachIs R vs bs) (er : EachIs (fun v b => ∃ as, Reads s.heap v (enc b) as) vs bs) (hal : AllAlike (bs.map enc)) (hk : Sortable (bs.map enc))
    (hz : bs.length ≤ sizeLine) (hu : ∀ b, b ∈ bs → A.units + 2 + (enc b).depth < cLine) (h : ∀ out, out.length = bs.length → EachIs R out (bs.mergeSort (dataLe false enc)) → Q (.ref (s.heap.objs.size + 1)) { s with heap := sortedAll s.heap vs (List.toArray out) }) :
    wpAny (model prog w) A (call (.builtin "sorted") [.ref t]) Q E s := by
  have e2 : EachIs (fun v b => ∃ as, Reads (sortingHeap (copyHeap s.heap vs) (s.heap.objs.size + 1) vs) v (enc b) as) vs bs := er.mono fun _ _ ⟨as, r⟩ => ⟨as, PyProof.Rows.Reads.keeps (fun _ _ => sorting_copy_old) r⟩
  refine sortedT_vals ht (SortsAt.data (s := { s with heap := sortingHeap (copyHeap s.heap vs) (s.heap.objs.size + 1) vs }) (each_map (R := fun v d => ∃ as, Reads (sortingHeap (copyHeap s.heap vs) (s.heap.objs.size + 1) vs) v d as) enc e2) hal hk (bound_map hu)) (by rw [e.length]; exact hz) ?_
  exact h _ (by rw [sortVals_length false rfl]; exact e.length) (sortVals_data false e e2 hal)
end
/-- sorted(xs), xs a list or tuple of data -/
def rSortDa (K : PySem.W.Frag) : List V → Hp → VK → Prop := fun vs H Q => ∃ (a : Addr) (bs : List (PyData × V)), vs = [.ref a] ∧ (SqL K H a (bs.map (·.2)) ∨ SqT K H a (bs.map (·.2))) ∧ (∀ b ∈ bs, Dp K H b.2 b.1) ∧ AllAlike (bs.map (·.1)) ∧ Sortable (bs.map (·.1)) ∧ (∀ b ∈ bs, b.1.depth ≤ 50) ∧
  ∀ p, H p = none → Q (.ref p) (upd H p (.lst ((bs.mergeSort (dataLe false fun b => b.1)).map (·.2))))
section
variable {X : Cx}
theorem each_vals : ∀ {bs : List (PyData × V)} {us : List Value}, Vals (bs.map (·.2)) us → EachIs (fun u b => RelV b.2 u) us bs
  | [], _, .nil => .nil
  | b :: bs, _, .cons r t => .cons r (each_vals t)
theorem vals_each : ∀ {bs : List (PyData × V)} {us : List Value}, EachIs (fun u b => RelV b.2 u) us bs → Vals (bs.map (·.2)) us
  | _, _, .nil => .nil
  | _, _, .cons r t => .cons r (vals_each t)
theorem each_and {α β : Type} {R R' : α → β → Prop} : ∀ {as : List α} {bs : List β}, EachIs R as bs → (∀ a b, b ∈ bs → R a b → R' a b) → EachIs R' as bs
  | _, _, .nil, _ => .nil
  | _, _, .cons r t, h => .cons (h _ _ List.mem_cons_self r) (each_and t fun a b hb => h a b (List.mem_cons_of_mem _ hb))
theorem cr_sortDa (hu : X.A.units + 64 < cLine) : CallR X (.builtin "sorted") (rSortDa X.K) := by
  intro pins s σ H vs us Q I r h
  obtain ⟨a, bs, rfl, hs, hd, hal, hk, hdep, q⟩ := h
  rw [Vals.ref1 r]
  have fin : ∀ (its : List Value), Vals (bs.map (·.2)) its → bs.length ≤ sizeLine → ∀ out : List Value, out.length = bs.length → EachIs (fun u b => RelV b.2 u) out (bs.mergeSort (dataLe false fun b => b.1)) →
      ∃ x H', Inv X pins σ H' { s with heap := sortedAll s.heap its out.toArray } ∧ RelV x (.ref (s.heap.objs.size + 1)) ∧ Q x H' := fun its rv hz out ho he => by
    obtain ⟨ep, he'⟩ := PyProof.Rows.sortedAll_at s.heap its out.toArray
    have hv := vals_each he
    refine ⟨.ref _, upd H (s.heap.objs.size + 1) (.lst ((bs.mergeSort (dataLe false fun b => b.1)).map (·.2))), I.laid (t' := s.toks) (fun _ _ => PyProof.Rows.sortedAll_old) (Nat.le_succ _) ⟨by rw [List.length_map, List.length_mergeSort]; exact hz, out, ep, hv, he'⟩, rfl, q _ (I.hok.fresh (Nat.le_succ _))⟩
  have room : ∀ b ∈ bs, X.A.units + 2 + b.1.depth < cLine := fun b hb => by have := hdep b hb; omega
  rcases hs with hs | hs
  · obtain ⟨its, rv, hl, hz⟩ := I.list hs
    rw [List.length_map] at hz
    have e := each_vals rv
    exact PySem.W.sorted_data (R := fun u b => RelV b.2 u) (enc := fun b => b.1) hl.isList e (each_and e fun u b hb ru => Dp.reads I _ _ _ (hd b hb) ru) hal hk hz room (fin its rv hz)
  · obtain ⟨its, rv, hl, hz⟩ := I.tuple hs
    rw [List.length_map] at hz
    have e := each_vals rv
    exact sortedT_data (R := fun u b => RelV b.2 u) (enc := fun b => b.1) hl e (each_and e fun u b hb ru => Dp.reads I _ _ _ (hd b hb) ru) hal hk hz room (fin its rv hz)
end
/-! ### by data -/
def D.le (x y : D) : Bool := dataLe false D.py x y
def D.tupNe : D → Bool
  | .tup (_ :: _) => true
  | _ => false
def D.other : D → Bool
  | .bl _ => true
  | .int _ => true
  | .str _ => true
  | .lst _ _ => true
  | _ => false
def D.srt? (ds : List D) : Bool := D.imms ds && (ds.all fun x => x.py.canLay0 && decide (x.py.depth ≤ 50)) && (ds.all fun x => ds.all fun y => alike x.py y.py) && (ds.all D.tupNe || ds.all D.other)
def oSorted : List D → Option D
  | [d] => d.seq?.bind fun ds => if D.srt? ds = true then some (.lst true (ds.mergeSort D.le)) else none
  | _ => none
theorem rels_pairs {K : PySem.W.Frag} {H : Hp} {O : Addr → Prop} : ∀ {ds : List D} {vs : List V}, Rels K H O ds vs [] → ∃ cs : List (D × V), cs.map (·.1) = ds ∧ cs.map (·.2) = vs ∧ ∀ c ∈ cs, Rel K H O c.1 c.2 []
  | [], _, h => by
    simp only [Rels] at h
    exact ⟨[], rfl, h.1.symm, fun _ z => absurd z List.not_mem_nil⟩
  | d :: ds, _, h => by
    simp only [Rels] at h
    obtain ⟨w, ws, F1, F2, rfl, h1, h2, eF⟩ := h
    obtain ⟨rfl, rfl⟩ := nil_of_app eF
    obtain ⟨cs, e1, e2, e3⟩ := rels_pairs h2
    refine ⟨(d, w) :: cs, by simp [e1], by simp [e2], fun c hc => ?_⟩
    rcases List.mem_cons.mp hc with rfl | hc
    · exact h1
    · exact e3 c hc
theorem pairs_rels {K : PySem.W.Frag} {H : Hp} {O : Addr → Prop} : ∀ {cs : List (D × V)}, (∀ c ∈ cs, Rel K H O c.1 c.2 []) → Rels K H O (cs.map (·.1)) (cs.map (·.2)) []
  | [], _ => Rels.nil
  | c :: cs, h => Rels.cons (h c List.mem_cons_self) (pairs_rels fun x hx => h x (List.mem_cons_of_mem _ hx))
theorem opB_sorted {K : PySem.W.Frag} : OpB K (rSortDa K) oSorted := by
  intro H O ds vs F d Q r e k
  unfold oSorted at e
  split at e
  · replace e := bind2 (γ := Unit) e; obtain ⟨es, e1, e⟩ := e
    split at e
    · rename_i hs
      cases e
      simp only [D.srt?, Bool.and_eq_true, Bool.or_eq_true, List.all_eq_true, decide_eq_true_eq] at hs
      obtain ⟨⟨⟨h1, h2⟩, h3⟩, h4⟩ := hs
      obtain ⟨v, rfl, r1⟩ := rels1 r
      obtain ⟨a, ws, G, rfl, hq, hr, _⟩ := rel_seq r1 e1
      have z := hr.imm h1
      subst z
      obtain ⟨cs, c1, c2, c3⟩ := rels_pairs hr
      subst c1 c2
      have m : ∀ c ∈ cs, c.1 ∈ cs.map (·.1) := fun c hc => List.mem_map.mpr ⟨c, hc, rfl⟩
      have e2 : (cs.map fun c => (c.1.py, c.2)).map (·.2) = cs.map (·.2) := by rw [List.map_map]; rfl
      have e3 : (cs.map fun c => (c.1.py, c.2)).map (·.1) = (cs.map (·.1)).map D.py := by rw [List.map_map, List.map_map]; rfl
      have srt : ((cs.map fun c => (c.1.py, c.2)).mergeSort (dataLe false fun b => b.1)).map (·.2) = (cs.mergeSort fun c c' => D.le c.1 c'.1).map (·.2) := by
        rw [← List.map_mergeSort (f := fun c : D × V => (c.1.py, c.2)) (r := fun c c' => D.le c.1 c'.1) (fun a _ b _ => rfl), List.map_map]
        rfl
      have srt1 : (cs.mergeSort fun c c' => D.le c.1 c'.1).map (·.1) = (cs.map (·.1)).mergeSort D.le := List.map_mergeSort fun a _ b _ => rfl
      refine ⟨a, cs.map fun c => (c.1.py, c.2), rfl, by rw [e2]; exact hq, fun b hb => ?_, ?_, ?_, fun b hb => ?_, fun p hp => ?_⟩
      · obtain ⟨c, hc, rfl⟩ := List.mem_map.mp hb
        exact (c3 c hc).dp (h2 _ (m c hc)).1
      · rw [e3]
        intro x hx y hy
        obtain ⟨x', hx', rfl⟩ := List.mem_map.mp hx
        obtain ⟨y', hy', rfl⟩ := List.mem_map.mp hy
        exact h3 x' hx' y' hy'
      · rw [e3]
        rcases h4 with h4 | h4
        · refine .inl fun x hx => ?_
          obtain ⟨x', hx', rfl⟩ := List.mem_map.mp hx
          have q := h4 x' hx'
          unfold D.tupNe at q
          split at q
          · exact ⟨_, _, rfl⟩
          · cases q
        · refine .inr fun x hx => ?_
          obtain ⟨x', hx', rfl⟩ := List.mem_map.mp hx
          have q := h4 x' hx'
          unfold D.other at q
          split at q
          all_goals first | exact absurd q Bool.false_ne_true | exact ⟨by simp [D.py], fun _ => by simp [D.py]⟩
      · obtain ⟨c, hc, rfl⟩ := List.mem_map.mp hb
        exact (h2 _ (m c hc)).2
      · rw [srt]
        have sm := same_upd (o := .lst ((cs.mergeSort fun c c' => D.le c.1 c'.1).map (·.2))) hp
        have rr : Rels K H O ((cs.mergeSort fun c c' => D.le c.1 c'.1).map (·.1)) ((cs.mergeSort fun c c' => D.le c.1 c'.1).map (·.2)) [] := pairs_rels fun c hc => c3 c (List.mem_mergeSort.mp hc)
        rw [srt1] at rr
        exact k _ _ [p] sm (mk_lst upd_same (rr.same sm)) ⟨by simp, fun b hb => by rw [List.mem_singleton.mp hb]; exact hp⟩
    · cases e
  · cases e
end DL
set_option Elab.async false
set_option linter.all false
set_option maxRecDepth 100000
set_option maxHeartbeats 2000000
/-! Calls of built-ins by name; try that runs through; walks of what is new. -/
namespace DL
open PySem PySem.Spec PyProof.Rows L2
section
variable {X : Cx} {a b c e tg : Expr} {es : List Expr} {p pa pb : DS → Option D} {q : DS → Option (List D)} {g : DS → Option (List D × DS)} {fe : DS → Option (D × DS)} {pos pn pn' pos' : Pos}
theorem c_len (hm : X.mg "len" = none) (ha : PAx X [e] q) (hg : Gl X "len" := by rfl) (he : starEach [e] X.env = (false, eval e X.env) :: starEach [] X.env := by rfl) : PPx X (.Call (.Name "len" pn) [e] [] pos) (pCall oLen q) := p_bi call_lenA opA_len hg hm (by decide +kernel) ha (by decide) (by decide) he
theorem c_abs (hm : X.mg "abs" = none) (ha : PAx X [e] q) (hg : Gl X "abs" := by rfl) (he : starEach [e] X.env = (false, eval e X.env) :: starEach [] X.env := by rfl) : PPx X (.Call (.Name "abs" pn) [e] [] pos) (pCall oAbs q) := p_bi call_abs opA_abs hg hm (by decide +kernel) ha (by decide) (by decide) he
theorem c_int (hm : X.mg "int" = none) (ha : PAx X [e] q) (hg : Gl X "int" := by rfl) (he : starEach [e] X.env = (false, eval e X.env) :: starEach [] X.env := by rfl) : PPx X (.Call (.Name "int" pn) [e] [] pos) (pCall oInt q) := p_ty call_int1 opA_int hg hm (by decide +kernel) ha (by decide) (by decide) he
theorem c_max2 (hm : X.mg "max" = none) (ha : PAx X [a, b] q) (hc : X.calm = true := by rfl) (hg : Gl X "max" := by rfl) (he : starEach [a, b] X.env = (false, eval a X.env) :: starEach [b] X.env := by rfl) (hpl : (backTo pos (starEach [b] X.env)).any (·.1) = false := by rfl) : PPx X (.Call (.Name "max" pn) [a, b] [] pos) (pCall oMax2 q) := p_bi (call_max2 hc) opA_max2 hg hm (by decide +kernel) ha (by decide) (by decide) he hpl
theorem c_min2 (hm : X.mg "min" = none) (ha : PAx X [a, b] q) (hc : X.calm = true := by rfl) (hg : Gl X "min" := by rfl) (he : starEach [a, b] X.env = (false, eval a X.env) :: starEach [b] X.env := by rfl) (hpl : (backTo pos (starEach [b] X.env)).any (·.1) = false := by rfl) : PPx X (.Call (.Name "min" pn) [a, b] [] pos) (pCall oMin2 q) := p_bi (call_min2 hc) opA_min2 hg hm (by decide +kernel) ha (by decide) (by decide) he hpl
theorem c_maxL (hm : X.mg "max" = none) (ha : PAx X [e] q) (hc : X.calm = true := by rfl) (hg : Gl X "max" := by rfl) (he : starEach [e] X.env = (false, eval e X.env) :: starEach [] X.env := by rfl) : PPx X (.Call (.Name "max" pn) [e] [] pos) (pCall oMaxL q) := p_bi (cr_max hc) opA_maxL hg hm (by decide +kernel) ha (by decide) (by decide) he
theorem c_minL (hm : X.mg "min" = none) (ha : PAx X [e] q) (hc : X.calm = true := by rfl) (hg : Gl X "min" := by rfl) (he : starEach [e] X.env = (false, eval e X.env) :: starEach [] X.env := by rfl) : PPx X (.Call (.Name "min" pn) [e] [] pos) (pCall oMinL q) := p_bi (cr_min hc) opA_minL hg hm (by decide +kernel) ha (by decide) (by decide) he
theorem c_sum (hm : X.mg "sum" = none) (ha : PAx X [e] q) (hc : X.calm = true := by rfl) (hg : Gl X "sum" := by rfl) (he : starEach [e] X.env = (false, eval e X.env) :: starEach [] X.env := by rfl) : PPx X (.Call (.Name "sum" pn) [e] [] pos) (pCall oSum q) := p_bi (cr_sum hc) opA_sum hg hm (by decide +kernel) ha (by decide) (by decide) he
theorem c_any (hm : X.mg "any" = none) (ha : PAx X [e] q) (hc : X.calm = true := by rfl) (hg : Gl X "any" := by rfl) (he : starEach [e] X.env = (false, eval e X.env) :: starEach [] X.env := by rfl) : PPx X (.Call (.Name "any" pn) [e] [] pos) (pCall oAny q) := p_bi (cr_any hc) opA_any hg hm (by decide +kernel) ha (by decide) (by decide) he
theorem c_all (hm : X.mg "all" = none) (ha : PAx X [e] q) (hc : X.calm = true := by rfl) (hg : Gl X "all" := by rfl) (he : starEach [e] X.env = (false, eval e X.env) :: starEach [] X.env := by rfl) : PPx X (.Call (.Name "all" pn) [e] [] pos) (pCall oAll q) := p_bi (cr_all hc) opA_all hg hm (by decide +kernel) ha (by decide) (by decide) he
theorem c_list (hm : X.mg "list" = none) (ha : PAx X [e] q) (hg : Gl X "list" := by rfl) (he : starEach [e] X.env = (false, eval e X.env) :: starEach [] X.env := by rfl) : PFx X (.Call (.Name "list" pn) [e] [] pos) (pCall oList q) := f_ty call_list_of opB_list hg hm (by decide +kernel) ha (by decide) (by decide) he
theorem c_tuple (hm : X.mg "tuple" = none) (ha : PAx X [e] q) (hg : Gl X "tuple" := by rfl) (he : starEach [e] X.env = (false, eval e X.env) :: starEach [] X.env := by rfl) : PFx X (.Call (.Name "tuple" pn) [e] [] pos) (pCall oTuple q) := f_ty call_tuple_of opB_tuple hg hm (by decide +kernel) ha (by decide) (by decide) he
theorem c_sorted (hu : X.A.units + 64 < cLine) (hm : X.mg "sorted" = none) (ha : PAx X [e] q) (hg : Gl X "sorted" := by rfl) (he : starEach [e] X.env = (false, eval e X.env) :: starEach [] X.env := by rfl) : PFx X (.Call (.Name "sorted" pn) [e] [] pos) (pCall oSorted q) := f_bi (cr_sortDa hu) opB_sorted hg hm (by decide +kernel) ha (by decide) (by decide) he
theorem x_int (hm : X.mg "int" = none) (ha : DAx X [e] g) (hg : Gl X "int" := by rfl) (he : starEach [e] X.env = (false, eval e X.env) :: starEach [] X.env := by rfl) : DEx X (.Call (.Name "int" pn) [e] [] pos) (eCall oInt g) := e_ty call_int1 opA_int hg hm (by decide +kernel) ha (by decide) (by decide) he
theorem x_min2 (hm : X.mg "min" = none) (ha : DAx X [a, b] g) (hc : X.calm = true := by rfl) (hg : Gl X "min" := by rfl) (he : starEach [a, b] X.env = (false, eval a X.env) :: starEach [b] X.env := by rfl) (hpl : (backTo pos (starEach [b] X.env)).any (·.1) = false := by rfl) : DEx X (.Call (.Name "min" pn) [a, b] [] pos) (eCall oMin2 g) := e_bi (call_min2 hc) opA_min2 hg hm (by decide +kernel) ha (by decide) (by decide) he hpl
theorem x_tuple (hm : X.mg "tuple" = none) (ha : DAx X [e] g) (hg : Gl X "tuple" := by rfl) (he : starEach [e] X.env = (false, eval e X.env) :: starEach [] X.env := by rfl) : DEx X (.Call (.Name "tuple" pn) [e] [] pos) (eCall oTuple g) := e_ty call_tuple_of (opB_A opB_tuple) hg hm (by decide +kernel) ha (by decide) (by decide) he
/-! ### list(range(..)) -/
def pRg1 (p : DS → Option D) : DS → Option D := fun τ => (p τ).bind fun d => match d with
  | .int j => if okR j = true ∧ j.toNat ≤ 16777216 then some (.lst true (rgD 0 j.toNat)) else none
  | _ => none
theorem rels_rg {K : PySem.W.Frag} {H : Hp} {O : Addr → Prop} (i j : Int) : Rels K H O (rgD i (j - i).toNat) (rgV i j) [] := by
  unfold rgD rgV
  have : ∀ l : List Nat, Rels K H O (l.map fun (k : Nat) => D.int (i + (k : Nat))) (l.map fun (k : Nat) => V.int (i + (k : Nat))) [] := fun l => by
    induction l with
    | nil => exact Rels.nil
    | cons x l ih => exact Rels.cons (mk_int _) ih
  exact this _
theorem f_lrg1 (hm : X.mg "list" = none) (hr : X.mg "range" = none) (ha : PPx X e p) (hc : X.calm = true := by rfl) (hg : Gl X "list" := by rfl) (hg' : Gl X "range" := by rfl) (na : starEach [e] X.env = (false, eval e X.env) :: starEach [] X.env := by rfl)
    (nb : starEach [.Call (.Name "range" pn') [e] [] pos'] X.env = (false, eval (.Call (.Name "range" pn') [e] [] pos') X.env) :: starEach [] X.env := by rfl) : PFx X (.Call (.Name "list" pn) [.Call (.Name "range" pn') [e] [] pos'] [] pos) (pRg1 p) :=
  (pe_listRg hc hg hm (prg_1 hg' hr ha na) nb).weak fun σ H Q ⟨τ, Fs, O, d, S, e, k⟩ => by
    replace e := bind2 (γ := Unit) e; obtain ⟨x, e1, e⟩ := e
    split at e
    · rename_i j
      split at e
      · rename_i h
        cases e
        simp only [okR, Bool.and_eq_true, decide_eq_true_eq] at h
        refine ⟨τ, Fs, O, _, S, e1, fun v H1 F s r n => ?_⟩
        refine ⟨j, (rel_int r).1, ⟨by decide, by decide, h.1.1, h.1.2, by have := h.2; omega⟩, fun l hl => ?_⟩
        have sm := same_upd (o := .lst (rgV 0 j)) hl
        have q := rels_rg (K := X.K) (H := H1) (O := O) 0 j
        rw [Int.sub_zero] at q
        exact k _ _ [l] (s.trans sm) (mk_lst upd_same (q.same sm)) ⟨by simp, fun b hb => by rw [List.mem_singleton.mp hb]; exact s.free hl⟩
      · cases e
    · cases e
/-! ### walks of what is new, where making it may change something -/
def jSeq (f : DS → Option (D × DS)) : DS → Option (List D × DS) := fun τ => (f τ).bind fun r => r.1.items.bind fun ds => some (ds, r.2)
theorem j_new (h : DEx X e fe) : DIx X tg e (jSeq fe) := (PI.or (pi_list h) (pi_tup h)).weak fun σ H G ⟨τ, Fs, R, ds, τ', S, s, e, k⟩ => by
  replace e := bind2 (γ := Unit) e; obtain ⟨⟨d, τ1⟩, e1, e⟩ := e
  replace e := bind2 (γ := Unit) e; obtain ⟨es, e2, e⟩ := e
  cases e
  have hO : ∀ {H' : Hp} {F : List Addr} {Fs' : Nat → List Addr}, Sep H' F Fs' R → ∀ a ∈ F, ¬ OW [] Fs' R a := fun s' a ha z => by
    rcases z with z | ⟨i, z⟩ | z
    · exact absurd z List.not_mem_nil
    · exact s'.f1 i a z ha
    · exact s'.r2 a ha z
  cases hd : d.isL with
  | true =>
    refine .inl ⟨τ, Fs, R, d, _, S, s, e1, fun v H' F Fs' S' r s' f' => ?_⟩
    obtain ⟨z1, z2, z3⟩ := drop_all S' s' f'
    have r0 : Rel X.K H' (OW [] Fs' R) d v F := r.own fun a z => .inl (z.elim (fun z => absurd z List.not_mem_nil) .inr)
    obtain ⟨a, vs, rfl, (⟨_, hq, ho⟩ | ⟨z, _⟩), hr⟩ := rel_items (H0 := H) r0 e2 (hO s')
    · exact ⟨a, rfl, ⟨vs, hq⟩, k _ H' Fs' z1 z2 z3 ((src_seq hr).1 ho)⟩
    · rw [hd] at z; cases z
  | false =>
    refine .inr ⟨τ, Fs, R, d, _, S, s, e1, fun v H' F Fs' S' r s' f' => ?_⟩
    obtain ⟨z1, z2, z3⟩ := drop_all S' s' f'
    have r0 : Rel X.K H' (OW [] Fs' R) d v F := r.own fun a z => .inl (z.elim (fun z => absurd z List.not_mem_nil) .inr)
    obtain ⟨a, vs, rfl, (⟨z, _⟩ | ⟨_, hq⟩), hr⟩ := rel_items (H0 := H) r0 e2 (hO s')
    · rw [hd] at z; cases z
    · exact ⟨a, rfl, ⟨vs, hq⟩, k _ H' Fs' z1 z2 z3 ((src_seq hr).2 hq)⟩
/-! ### try that runs through -/
theorem s_try {body : List Stmt} {h₀ : ExceptHandler} {hs : List ExceptHandler} {W : List Nat} {f : DS → Option Out} (h : DSs X.nox body W f) : DSx X (.Try body (h₀ :: hs) [] [] pos) W f := ps_try_thru0 h
end
end DL
set_option Elab.async false
set_option linter.all false
set_option maxRecDepth 100000
set_option maxHeartbeats 2000000
/-! Sets of ints and of rows of ints, sorted; the least of a tuple; dicts of pairs. -/
namespace DL
open PySem PySem.Spec PyProof.Rows L2
section
variable {X : Cx} {a b c e ie ke : Expr} {p pe pk pv : DS → Option D} {q : DS → Option (List D)} {pa pb : DS → Option D} {fa fb fe : DS → Option (D × DS)} {g : DS → Option (List D × DS)} {pos apos cpos ipos pn pn' pos' : Pos}
/-- x[k].append(e), a dict of lists in a slot -/
def fAppD (i : Nat) (p pe : DS → Option D) : DS → Option Out := fun τ => (pVar i τ).bind fun x => (p τ).bind fun y => y.key?.bind fun k => match x with
  | .dk true ks ds => (kAt ks k).bind fun j => (ds[j]?).bind fun z => match z with
    | .lst true es => (pe τ).bind fun d => if d.imm = true ∧ es.length < 16777216 then some (.nx (τ.set i (some (.dk true ks (ds.set j (.lst true (es ++ [d]))))))) else none
    | _ => none
  | _ => none
theorem s_appD {i : Nat} {xi : Str} {pi : Pos} (hu : X.A.units + 1 < cLine) (hi : PE X (.Name xi pi) (tVar i)) (hk : PPx X ie p) (he : PPx X e pe) (hix : NoSl ie := by exact fun _ _ => rfl) (hbase : attributeBase (.Subscript (.Name xi pi) ie ipos) "append" X.env (eval (.Subscript (.Name xi pi) ie ipos) X.env) = eval (.Subscript (.Name xi pi) ie ipos) X.env := by rfl)
    (hfew : ((backTo cpos (starEach [e] X.env)).all (fun x => !x.1) && (backToKw cpos (keywordEach [] X.env)).all (fun x => x.1.isSome) && decide ([e].length + ([] : List Keyword).length + (if ([] : List Keyword).isEmpty then 0 else 1) < 30)) = true := by rfl)
    (hline : (apos.endLine == cpos.line) = true := by rfl) (hs : starEach [e] X.env = (false, eval e X.env) :: starEach [] X.env := by rfl) (hplain : (backTo cpos (starEach [] X.env)).any (·.1) = false := by rfl)
    (hsw : swapsWith (.Call (.Attribute (.Subscript (.Name xi pi) ie ipos) "append" apos) [e] [] cpos) none pos.line X.env = pure false := by rfl) :
    DSx X (.Expr (.Call (.Attribute (.Subscript (.Name xi pi) ie ipos) "append" apos) [e] [] cpos) pos) [] (fAppD i p pe) :=
  (ps_expr (pe_bm PySem.F.plainAttrs_list PySem.F.slot_list_append PySem.F.type_list_append mt_append (pe_dget hu hi hk hix) (pa_cons he pa_nil hs) hbase hfew hline hs hplain) hsw).weak fun N σ H ⟨τ, Fs, R, out, S, s, e, k⟩ => by
    replace e := bind2 (γ := Unit) e; obtain ⟨x, e1, e⟩ := e
    replace e := bind2 (γ := Unit) e; obtain ⟨y, e2, e⟩ := e
    replace e := bind2 (γ := Unit) e; obtain ⟨kk, e2', e⟩ := e
    split at e
    · rename_i ks ds
      replace e := bind2 (γ := Unit) e; obtain ⟨j, e3, e⟩ := e
      replace e := bind2 (γ := Unit) e; obtain ⟨z, e4, e⟩ := e
      split at e
      · rename_i es
        replace e := bind2 (γ := Unit) e; obtain ⟨d, e5, e⟩ := e
        split at e
        · rename_i hd
          cases e
          obtain ⟨w, ew, _⟩ := S.rel i _ (pVar_some e1)
          refine ⟨w, ew, τ, Fs, _, _, S, e2, fun u H1 F1 s1 r1 n1 => ?_⟩
          have S1 := S.same s1
          obtain ⟨w', ew', rw'⟩ := S1.rel i _ (pVar_some e1)
          rw [ew] at ew'
          obtain rfl := Option.some.inj (Option.some.inj ew')
          obtain ⟨a, kvs, G, rfl, ha, hkk, hr, eF⟩ := rel_dkO rw'
          obtain ⟨u1, A, B, C, g1, g2, g3, _⟩ := hr.hole e4
          obtain ⟨l, vs, G', rfl, hl, hr', eG⟩ := rel_own g3
          refine ⟨a, .ref l, rfl, .inl ⟨kvs, kk, .inl ha, rel_key r1 e2', by rw [valV_at, hkk, e3]; exact g1.symm⟩, .inl ⟨rfl, vs, .inl (.inl hl)⟩, τ, Fs, _, _, S1, e5, fun u2 H2 F2 s2 r2 n2 => ?_⟩
          have zz := r2.imm hd.1
          subst zz
          have S2 := S1.same s2
          have s12 := s1.trans s2
          have ha2 := s2 _ _ ha
          obtain ⟨u1', A', B', C', g1', g2', g3', g4'⟩ := (hr.same s2).hole e4
          rw [g1] at g1'
          obtain rfl := Option.some.inj g1'
          obtain ⟨l', vs', G2, el, hl', hr2', eG'⟩ := rel_own g3'
          obtain rfl : l = l' := by cases el; rfl
          refine ⟨l, vs', u2, rfl, rfl, hl', by rw [sizeLine_eq, hr2'.len]; exact hd.2, ?_⟩
          have lF : l ∈ Fs i := by rw [eF, g2', eG']; simp
          have nd := s.nds i
          rw [eF, g2', eG'] at nd
          obtain ⟨al, lA, lG⟩ := part_ne nd
          obtain ⟨z1, z2⟩ := srel_wr0 (u := .lst (vs' ++ [u2])) (d' := .dk true ks (ds.set j (.lst true (es ++ [d])))) S2 (sep_same s s12) ew hl' trivial trivial lF fun mm kk' nn => by
            have hin : Rel X.K (upd H2 l (.lst (vs' ++ [u2]))) (OW [] Fs R) (.lst true (es ++ [d])) (.ref l) (l :: G2) := by
              have q := hr2'.app (Rels.one r2)
              rw [List.append_nil] at q
              exact mk_lst upd_same (q.keep mm (fun b o e z => kk' b o e fun w => lG (w ▸ z)) nn fun a z => .inl z)
            have z := g4' _ _ _ _ mm (fun b o e z => kk' b o e (lA b z)) nn (fun a z => .inl z) hin
            have y := mk_dk (kk' _ _ ha2 al) hkk z
            rw [eF, g2', eG']
            exact y
          exact k σ _ Fs z1 z2 (fr_wr (i := i) (Fr.of_same s12 New.nil) lF) Kp.refl
        · cases e
      · cases e
    · cases e
/-! ### sets of pairs of ints -/
def nub {α : Type} [DecidableEq α] : List α → List α
  | [] => []
  | x :: r => if x ∈ nub r then nub r else x :: nub r
theorem mem_nub {α : Type} [DecidableEq α] {a : α} : ∀ {l : List α}, a ∈ nub l ↔ a ∈ l
  | [] => Iff.rfl
  | x :: r => by
    have ih := mem_nub (a := a) (l := r)
    unfold nub
    split
    · rename_i h
      rw [ih, List.mem_cons]
      constructor
      · exact .inr
      · rintro (z | z)
        · rw [z]; exact mem_nub.mp h
        · exact z
    · rw [List.mem_cons, List.mem_cons, ih]
theorem nub_nodup {α : Type} [DecidableEq α] : ∀ {l : List α}, (nub l).Nodup
  | [] => List.nodup_nil
  | x :: r => by
    unfold nub
    split
    · exact nub_nodup
    · rename_i h
      exact List.nodup_cons.mpr ⟨h, nub_nodup⟩
def D.prs2? : List D → Option (List (List Int))
  | [] => some []
  | .tup [.int x, .int y] :: ds => (D.prs2? ds).bind fun r => some ([x, y] :: r)
  | _ => none
def in64 (r : List Int) : Bool := r.all fun x => decide (0 ≤ x) && decide (x < 64)
def codeLe (x y : List Int) : Bool := decide (TS.code 64 x ≤ TS.code 64 y)
def D.sset (ds : List D) : Option (List (List Int)) := (D.prs2? ds).bind fun rs => if rs.length < 64 ∧ rs.all in64 = true then some ((nub rs).mergeSort codeLe) else none
def dRow (r : List Int) : D := .tup (r.map D.int)
theorem rels_prs2 {K : PySem.W.Frag} {H : Hp} {O : Addr → Prop} : ∀ {ds : List D} {vs : List V} {F : List Addr} {rs : List (List Int)}, Rels K H O ds vs F → D.prs2? ds = some rs →
    ∃ ks : List (Addr × List Int), vs = ks.map (fun p => V.ref p.1) ∧ (∀ p ∈ ks, SqT K H p.1 (p.2.map V.int)) ∧ ks.map (·.2) = rs ∧ ∀ r ∈ rs, r.length = 2
  | [], _, _, _, h, e => by
    simp only [Rels] at h
    cases e
    exact ⟨[], h.1, fun _ z => absurd z List.not_mem_nil, rfl, fun _ z => absurd z List.not_mem_nil⟩
  | d :: ds, _, _, _, h, e => by
    unfold D.prs2? at e
    split at e
    · rename_i heq; cases heq
    · rename_i x y ds' heq
      cases heq
      replace e := bind2 (γ := Unit) e; obtain ⟨r, e1, e⟩ := e
      cases e
      simp only [Rels] at h
      obtain ⟨v, ws, F1, F2, rfl, h1, h2, _⟩ := h
      obtain ⟨ks, k1, k2, k3, k4⟩ := rels_prs2 h2 e1
      obtain ⟨t, us, rfl, hq, hr⟩ := rel_tup h1
      obtain ⟨u, u', G1, G2, rfl, r1, r2, _⟩ := rels2 hr
      rw [(rel_int r1).1, (rel_int r2).1] at hq
      refine ⟨(t, [x, y]) :: ks, by rw [k1]; rfl, fun p hp => ?_, by rw [← k3]; rfl, fun z hz => ?_⟩
      · rcases List.mem_cons.mp hp with rfl | hp
        · exact hq
        · exact k2 p hp
      · rcases List.mem_cons.mp hz with rfl | hz
        · rfl
        · exact k4 z hz
    · cases e
theorem code2 (x y : Int) : TS.code 64 [x, y] = x * 64 + y := code_pair x y
theorem code_inj {a b : List Int} (ha : a.length = 2) (hb : b.length = 2) (ia : in64 a = true) (ib : in64 b = true) (h : TS.code 64 a = TS.code 64 b) : a = b := by
  match a, b, ha, hb with
  | [x, y], [x', y'], _, _ =>
    simp only [in64, List.all_cons, List.all_nil, Bool.and_true, Bool.and_eq_true, decide_eq_true_eq] at ia ib
    rw [code2, code2] at h
    have e1 : x = x' := by omega
    have e2 : y = y' := by omega
    rw [e1, e2]
/-- a list of unlike rows that stand by their codes is just the sorted one -/
theorem sorted_rows {l rs : List (List Int)} (nd : l.Nodup) (pw : l.Pairwise fun x y => TS.code 64 x ≤ TS.code 64 y) (m : ∀ r, r ∈ l ↔ r ∈ rs) (h2 : ∀ r ∈ rs, r.length = 2) (hi : rs.all in64 = true) : (nub rs).mergeSort codeLe = l := by
  have hin : ∀ r ∈ rs, in64 r = true := List.all_eq_true.mp hi
  have p : ((nub rs).mergeSort codeLe).Perm l := by
    refine (List.mergeSort_perm _ _).trans ((List.perm_ext_iff_of_nodup nub_nodup nd).mpr fun r => ?_)
    rw [mem_nub, m r]
  have srt : ((nub rs).mergeSort codeLe).Pairwise fun x y => codeLe x y = true := List.pairwise_mergeSort (fun a b c h1 h2 => by
    simp only [codeLe, decide_eq_true_eq] at h1 h2 ⊢
    omega) (fun a b => by
    simp only [codeLe, Bool.or_eq_true, decide_eq_true_eq]
    omega) _
  refine p.eq_of_pairwise (le := fun x y => TS.code 64 x ≤ TS.code 64 y) (fun a b ha hb h1 h3 => ?_) (srt.imp fun h => by simpa only [codeLe, decide_eq_true_eq] using h) pw
  have a1 : a ∈ rs := mem_nub.mp (List.mem_mergeSort.mp ha)
  have b1 : b ∈ rs := (m b).mp hb
  exact code_inj (h2 a a1) (h2 b b1) (hin a a1) (hin b b1) (Int.le_antisymm h1 h3)
theorem rels_of_rows {K : PySem.W.Frag} {H : Hp} {O : Addr → Prop} : ∀ {L : List (Addr × List Int)}, (∀ p ∈ L, SqT K H p.1 (p.2.map V.int)) → Rels K H O ((L.map (·.2)).map dRow) (L.map fun q => V.ref q.1) []
  | [], _ => Rels.nil
  | p :: L, h => Rels.cons (mk_tup (h p List.mem_cons_self) (rels_of_ints p.2)) (rels_of_rows fun q hq => h q (List.mem_cons_of_mem _ hq))
def pSset (p : DS → Option D) : DS → Option D := fun τ => (p τ).bind fun d => match d with
  | .lst _ ds => (D.sset ds).bind fun r => some (.lst true (r.map dRow))
  | _ => none
/-- set(xs) of a list of pairs -/
theorem set_made {K : PySem.W.Frag} {P : Program} {w : World} {H : Hp} {O : Addr → Prop} {o : Bool} {ds : List D} {r : List (List Int)} {v : V} {F : List Addr} {Q : VK} (h : Rel K H O (.lst o ds) v F) (e : D.sset ds = some r)
    (k : ∀ a L, H a = none → (∀ p ∈ L, SqT K H p.1 (p.2.map V.int)) → (∀ p ∈ L, p.2.length = 2 ∧ TS.Bd 64 p.2) → (∀ L' : List (Addr × List Int), L'.Perm L → (L'.map (·.2)).Nodup → L'.Pairwise (fun q r => TS.code 64 q.2 ≤ TS.code 64 r.2) → r = L'.map (·.2)) → ((L.map (·.2)).Nodup → r.length = L.length) → Q (.ref a) (upd H a (SetTO P w a L))) :
    rSetOfT K P w [v] H Q := by
  replace e := bind2 (γ := Unit) e; obtain ⟨rs, e1, e⟩ := e
  split at e
  · rename_i hc
    cases e
    obtain ⟨l, vs, G, rfl, hl, hr, _⟩ := rel_lst h
    obtain ⟨ks, rfl, k2, rfl, k4⟩ := rels_prs2 hr e1
    refine ⟨l, ks, rfl, hl, k2, by simpa using hc.1, fun a L ha hs hall => k a L ha (fun p hp => k2 p (hs p hp)) (fun p hp => ⟨k4 _ (List.mem_map.mpr ⟨p, hs p hp, rfl⟩), fun m hm => ?_⟩) (fun L' pm nd pw => ?_) fun nd => ?_⟩
    · have q := List.all_eq_true.mp hc.2 p.2 (List.mem_map.mpr ⟨p, hs p hp, rfl⟩)
      have q := List.all_eq_true.mp q m hm
      simpa only [Bool.and_eq_true, decide_eq_true_eq] using q
    · refine sorted_rows nd (List.pairwise_map.mpr pw) (fun r => ?_) k4 hc.2
      constructor
      · intro z
        obtain ⟨p, hp, rfl⟩ := List.mem_map.mp z
        exact List.mem_map.mpr ⟨p, hs p (pm.mem_iff.mp hp), rfl⟩
      · intro z
        obtain ⟨p, hp, rfl⟩ := List.mem_map.mp z
        exact (pm.map (·.2)).mem_iff.mpr (hall p hp)
    · rw [List.length_mergeSort]
      have pm : (nub (ks.map (·.2))).Perm (L.map (·.2)) := (List.perm_ext_iff_of_nodup nub_nodup nd).mpr fun r => by
        rw [mem_nub]
        constructor
        · intro z
          obtain ⟨p, hp, rfl⟩ := List.mem_map.mp z
          exact hall p hp
        · intro z
          obtain ⟨p, hp, rfl⟩ := List.mem_map.mp z
          exact List.mem_map.mpr ⟨p, hs p hp, rfl⟩
      rw [pm.length_eq, List.length_map]
  · cases e
theorem f_sset (hu : X.A.units + 64 < cLine) (hm : X.mg "sorted" = none) (hm' : X.mg "set" = none) (ha : PPx X a p) (hc : X.calm = true := by rfl) (hg : Gl X "sorted" := by rfl) (hg' : Gl X "set" := by rfl) (he : starEach [a] X.env = (false, eval a X.env) :: starEach [] X.env := by rfl)
    (he' : starEach [.Call (.Name "set" pn') [a] [] pos'] X.env = (false, eval (.Call (.Name "set" pn') [a] [] pos') X.env) :: starEach [] X.env := by rfl) : PFx X (.Call (.Name "sorted" pn) [.Call (.Name "set" pn') [a] [] pos'] [] pos) (pSset p) :=
  (pe_callB (cr_sortedT hc) hg hm (by decide +kernel) (pa_cons (pe_callTy (cr_setOfT hc hu) hg' hm' (by decide +kernel) (pa_cons ha pa_nil he) (by decide) (by decide) he) pa_nil he') (by decide) (by decide) he').weak fun σ H Q ⟨τ, Fs, O, d, S, e, k⟩ => by
    replace e := bind2 (γ := Unit) e; obtain ⟨x, e1, e⟩ := e
    split at e
    · rename_i o ds
      replace e := bind2 (γ := Unit) e; obtain ⟨r, e2, e⟩ := e
      cases e
      refine ⟨τ, Fs, O, _, S, e1, fun v1 H1 F1 s1 r1 n1 => ?_⟩
      show rSetOfT X.K X.prog X.w [v1] H1 (fun x H2 => rSortedT X.K X.prog X.w [x] H2 Q)
      refine set_made r1 e2 fun s L hs hk hb hp _ => ?_
      have sm := same_upd (o := SetTO X.prog X.w s L) hs
      refine ⟨s, L, 2, 64, rfl, upd_same, fun q hq => (hk q hq).imp (fun h => h.imp (fun h => sm _ _ h) fun ⟨o, h⟩ => ⟨o, sm _ _ h⟩) id, by decide, hb, fun L' l pm nd _ pw hl => ?_⟩
      have sm2 := same_upd (o := .lst (L'.map fun q => V.ref q.1)) hl
      rw [hp L' pm nd pw] at k
      have rr : Rels X.K H1 O ((L'.map (·.2)).map dRow) (L'.map fun q => V.ref q.1) [] := rels_of_rows fun q hq => hk q (pm.mem_iff.mp hq)
      exact k _ _ [l] ((s1.trans sm).trans sm2) (mk_lst upd_same (rr.same (sm.trans sm2))) ⟨by simp, fun b hb => by rw [List.mem_singleton.mp hb]; exact (s1.trans sm).free hl⟩
    · cases e
/-- how many there are in such a set -/
def rLenSet (P : Program) (w : World) : List V → Hp → VK → Prop := fun vs H Q => ∃ (a : Addr) (L : List (Addr × List Int)), vs = [V.ref a] ∧ H a = some (SetTO P w a L) ∧ ((L.map (·.2)).Nodup → Q (.int L.length) H)
theorem cr_lenSet : CallR X (.builtin "len") (rLenSet X.prog X.w) := by
  intro pins s σ H vs us Q I r h
  obtain ⟨a, L, rfl, ha, q⟩ := h
  obtain ⟨es, ep, t, ⟨o, ho, hex, hd⟩, h2, h3, h4, h5, h6, h7, h8⟩ := ((I.hok a _ ha).1 : SetT0 X.prog X.w s.heap a L).ex
  rw [Vals.ref1 r]
  have hs : es.size = L.length := by
    have z := congrArg List.length h2
    unfold rowsOf at z
    rw [Array.length_toList, List.length_map] at z
    exact z
  have hf : t.fits es.size = true := by
    have z := h3.sz
    rw [List.length_map] at z
    unfold SetTable.fits SetTable.fill
    rw [h3.dm, Bool.and_eq_true, beq_iff_eq, decide_eq_true_eq]
    exact ⟨by rw [z, hs], by show t.place.size + 0 ≤ t.mask; omega⟩
  exact call_len_set ho hex hd hf (by rw [hs]; omega) ⟨.int L.length, H, I.tok _, ⟨_, by rw [hs]⟩, q h4⟩
def pLset (p : DS → Option D) : DS → Option D := fun τ => (p τ).bind fun d => match d with
  | .lst _ ds => (D.sset ds).bind fun r => some (.int r.length)
  | _ => none
theorem p_lset (hu : X.A.units + 64 < cLine) (hm : X.mg "len" = none) (hm' : X.mg "set" = none) (ha : PPx X a p) (hc : X.calm = true := by rfl) (hg : Gl X "len" := by rfl) (hg' : Gl X "set" := by rfl) (he : starEach [a] X.env = (false, eval a X.env) :: starEach [] X.env := by rfl)
    (he' : starEach [.Call (.Name "set" pn') [a] [] pos'] X.env = (false, eval (.Call (.Name "set" pn') [a] [] pos') X.env) :: starEach [] X.env := by rfl) : PPx X (.Call (.Name "len" pn) [.Call (.Name "set" pn') [a] [] pos'] [] pos) (pLset p) :=
  (pe_callB cr_lenSet hg hm (by decide +kernel) (pa_cons (pe_callTy (cr_setOfT hc hu) hg' hm' (by decide +kernel) (pa_cons ha pa_nil he) (by decide) (by decide) he) pa_nil he') (by decide) (by decide) he').weak fun σ H Q ⟨τ, Fs, O, d, S, e, k⟩ => by
    replace e := bind2 (γ := Unit) e; obtain ⟨x, e1, e⟩ := e
    split at e
    · rename_i o ds
      replace e := bind2 (γ := Unit) e; obtain ⟨r, e2, e⟩ := e
      cases e
      refine ⟨τ, Fs, O, _, S, e1, fun v1 H1 F1 s1 r1 n1 => ?_⟩
      show rSetOfT X.K X.prog X.w [v1] H1 (fun x H2 => rLenSet X.prog X.w [x] H2 Q)
      refine set_made r1 e2 fun s L hs hk hb hp hn => ?_
      have sm := same_upd (o := SetTO X.prog X.w s L) hs
      refine ⟨s, L, rfl, upd_same, fun nd => ?_⟩
      rw [hn nd] at k
      exact k _ _ [] (s1.trans sm) (mk_int _) Old.nil
    · cases e
/-! ### dicts of one pair, of a list of pairs; tuples of the module -/
def pDict1 (pk pv : DS → Option D) : DS → Option D := fun τ => (pk τ).bind fun x => (pv τ).bind fun y => x.key?.bind fun k => if y.imm = true then some (.dk true [k] [y]) else none
theorem f_dict1 (hk : PFx X a pk) (hv : PFx X b pv) : PFx X (.Dict [some a] [b] pos) (pDict1 pk pv) := (pe_disp (pps_cons hk hv pps_nil) rfl rfl (by simp) (by simp)).weak fun σ H Q ⟨τ, Fs, O, d, S, e, k⟩ => by
  replace e := bind2 (γ := Unit) e; obtain ⟨x, e1, e⟩ := e
  replace e := bind2 (γ := Unit) e; obtain ⟨y, e2, e⟩ := e
  replace e := bind2 (γ := Unit) e; obtain ⟨kk, e3, e⟩ := e
  split at e
  · rename_i hi
    cases e
    intro l hl
    have sm := same_upd (o := .dK []) hl
    have S' : SRel X.K (upd H l (.dK [])) (fun b => O b ∨ b = l) σ τ Fs := srel_more S sm (fun a z => z.imp id fun z => by rw [z]; exact hl) fun a z => by
      rcases z with z | z
      · exact fun w => S.own a z (sm.free w)
      · rw [z, upd_same]; exact fun w => nomatch w
    refine ⟨τ, Fs, _, x, S', e1, fun v1 H1 F1 s1 r1 n1 => ⟨τ, Fs, _, y, S'.same s1, e2, fun v2 H2 F2 s2 r2 n2 => ?_⟩⟩
    have z := r2.imm hi
    subst z
    have hH : H2 l = some (.dK []) := s2 _ _ (s1 _ _ upd_same)
    refine ⟨hH, [(kk, v2)], by rw [rel_key r1 e3]; rfl, by simp, ?_⟩
    have kp : ∀ b o, H2 b = some o → b ≠ l → upd H2 l (.dK (mergeK [] [(kk, v2)])) b = some o := fun b o e n => by rw [upd_ne n]; exact e
    refine k (.ref l) _ [l] (fun b o e => ?_) (mk_dk upd_same rfl ?_) ⟨by simp, fun b hb => by rw [List.mem_singleton.mp hb]; exact hl⟩
    · have hb : b ≠ l := fun w => by rw [w, hl] at e; cases e
      exact kp b o (s2 _ _ (s1 _ _ (sm _ _ e))) hb
    · refine Rels.one (r2.keep (fun b o e m => kp b o e fun w => ?_) (fun _ _ _ z => absurd z List.not_mem_nil) (fun b o e m => kp b o e fun w => ?_) fun a z => .inl (.inl z))
      · rw [w, hH] at e; cases e; exact m trivial
      · exact m (.inr w)
  · cases e
def D.prs? : List D → Option (List (Key × D))
  | [] => some []
  | .tup [x, y] :: ds => x.key?.bind fun k => (D.prs? ds).bind fun r => some ((k, y) :: r)
  | _ => none
def mergeD : List (Key × D) → List Key × List D → List Key × List D
  | [], r => r
  | p :: ps, r => mergeD ps (match kAt r.1 p.1 with
    | none => (r.1 ++ [p.1], r.2 ++ [p.2])
    | some _ => (r.1, overD r.1 p.1 p.2 r.2))
def oDict : List D → Option D
  | [.lst _ ds] => (D.prs? ds).bind fun ps => if D.imms ds = true then some (.dk true (mergeD ps ([], [])).1 (mergeD ps ([], [])).2) else none
  | _ => none
theorem rels_prs {K : PySem.W.Frag} {H : Hp} {O : Addr → Prop} : ∀ {ds : List D} {vs : List V} {ps : List (Key × D)}, Rels K H O ds vs [] → D.prs? ds = some ps →
    ∃ (as : List Addr) (kvs : List (Key × V)), vs = as.map V.ref ∧ Paired (fun p kv => SqT K H p [kV kv.1, kv.2]) as kvs ∧ kvs.map (·.1) = ps.map (·.1) ∧ Rels K H O (ps.map (·.2)) (kvs.map (·.2)) []
  | [], _, _, h, e => by
    simp only [Rels] at h
    cases e
    exact ⟨[], [], h.1, .nil, rfl, Rels.nil⟩
  | d :: ds, _, _, h, e => by
    unfold D.prs? at e
    split at e
    · rename_i heq; cases heq
    · rename_i x y ds' heq
      cases heq
      replace e := bind2 (γ := Unit) e; obtain ⟨k, e1, e⟩ := e
      replace e := bind2 (γ := Unit) e; obtain ⟨r, e2, e⟩ := e
      cases e
      simp only [Rels] at h
      obtain ⟨v, ws, F1, F2, rfl, h1, h2, eF⟩ := h
      obtain ⟨rfl, rfl⟩ := nil_of_app eF
      obtain ⟨as, kvs, k1, k2, k3, k4⟩ := rels_prs h2 e2
      obtain ⟨t, us, rfl, hq, hr⟩ := rel_tup h1
      obtain ⟨u, u', G1, G2, rfl, r1, r2, eG⟩ := rels2 hr
      obtain ⟨rfl, rfl⟩ := nil_of_app eG
      rw [rel_key r1 e1] at hq
      exact ⟨t :: as, (k, u') :: kvs, by rw [k1]; rfl, .cons hq k2, by rw [List.map_cons, k3]; rfl, Rels.cons r2 k4⟩
    · cases e
theorem merge_rel {K : PySem.W.Frag} {H : Hp} {O : Addr → Prop} : ∀ {ps : List (Key × D)} {kvs kvs0 : List (Key × V)} {r : List Key × List D}, kvs.map (·.1) = ps.map (·.1) → Rels K H O (ps.map (·.2)) (kvs.map (·.2)) [] → kvs0.map (·.1) = r.1 → Rels K H O r.2 (kvs0.map (·.2)) [] →
    (mergeK kvs0 kvs).map (·.1) = (mergeD ps r).1 ∧ Rels K H O (mergeD ps r).2 ((mergeK kvs0 kvs).map (·.2)) []
  | [], [], _, _, _, _, h3, h4 => ⟨h3, h4⟩
  | [], _ :: _, _, _, h, _, _, _ => by cases h
  | _ :: _, [], _, _, h, _, _, _ => by cases h
  | p :: ps, kv :: kvs, kvs0, r, h1, h2, h3, h4 => by
    obtain ⟨e1, e2⟩ := List.cons.inj (show kv.1 :: kvs.map (·.1) = p.1 :: ps.map (·.1) from h1)
    have h2' : Rels K H O (p.2 :: ps.map (·.2)) (kv.2 :: kvs.map (·.2)) [] := h2
    simp only [Rels] at h2'
    obtain ⟨v, ws, F1, F2, ev, r1, r2, eF⟩ := h2'
    obtain ⟨rfl, rfl⟩ := nil_of_app eF
    obtain ⟨rfl, rfl⟩ := List.cons.inj ev
    show (mergeK (putK kvs0 kv.1 kv.2) kvs).map (·.1) = _ ∧ Rels K H O _ ((mergeK (putK kvs0 kv.1 kv.2) kvs).map (·.2)) []
    unfold mergeD
    refine merge_rel e2 r2 ?_ ?_
    · cases hk : kAt r.1 p.1 with
      | none =>
        have hk' : kAt (kvs0.map (·.1)) kv.1 = none := by rw [h3, e1]; exact hk
        rw [putK_new hk', List.map_append, h3, e1]
        rfl
      | some j =>
        have hk' : kAt (kvs0.map (·.1)) kv.1 = some j := by rw [h3, e1]; exact hk
        rw [(putK_there hk').1, h3]
    · cases hk : kAt r.1 p.1 with
      | none =>
        have hk' : kAt (kvs0.map (·.1)) kv.1 = none := by rw [h3, e1]; exact hk
        rw [putK_new hk', List.map_append]
        have q := h4.app (Rels.one r1)
        rw [List.append_nil] at q
        exact q
      | some j =>
        have hk' : kAt (kvs0.map (·.1)) kv.1 = some j := by rw [h3, e1]; exact hk
        rw [(putK_there hk').2, h3, e1]
        exact Rels.over r1 h4
theorem opB_dict {K : PySem.W.Frag} : OpB K (fun xs H Q => ∃ (a : Addr) (ps : List Addr) (kvs : List (Key × V)), xs = [.ref a] ∧ SqL K H a (ps.map V.ref) ∧ Paired (fun p kv => SqT K H p [kV kv.1, kv.2]) ps kvs ∧ ∀ p, H p = none → Q (.ref p) (upd H p (.dK (mergeK [] kvs)))) oDict := by
  intro H O ds vs F d Q r e k
  unfold oDict at e
  split at e
  · replace e := bind2 (γ := Unit) e; obtain ⟨ps, e1, e⟩ := e
    split at e
    · rename_i hi
      cases e
      obtain ⟨v, rfl, r1⟩ := rels1 r
      obtain ⟨a, ws, G, rfl, hq, hr, _⟩ := rel_lst r1
      have z := hr.imm hi
      subst z
      obtain ⟨as, kvs, rfl, k2, k3, k4⟩ := rels_prs hr e1
      refine ⟨a, as, kvs, rfl, hq, k2, fun p hp => ?_⟩
      obtain ⟨m1, m2⟩ := merge_rel (kvs0 := []) (r := ([], [])) k3 k4 rfl Rels.nil
      have sm := same_upd (o := .dK (mergeK [] kvs)) hp
      exact k _ _ [p] sm (mk_dk upd_same m1 (m2.same sm)) ⟨by simp, fun b hb => by rw [List.mem_singleton.mp hb]; exact hp⟩
    · cases e
  · cases e
theorem c_dict (hm : X.mg "dict" = none) (ha : PAx X [e] q) (hc : X.calm = true := by rfl) (hg : Gl X "dict" := by rfl) (he : starEach [e] X.env = (false, eval e X.env) :: starEach [] X.env := by rfl) : PFx X (.Call (.Name "dict" pn) [e] [] pos) (pCall oDict q) := f_ty (call_dictP hc) opB_dict hg hm (by decide +kernel) ha (by decide) (by decide) he
theorem d_gtup {x : Str} {is : List Int} (hg : Gl X x) (hm : ∃ a, X.mg x = some (.ref a) ∧ ∀ H, SqT X.K H a (is.map V.int)) (hd : (x == ("__debug__" : Str)) = false := by decide) : PFx X (.Name x pos) (pC (.tup (is.map D.int))) := by
  obtain ⟨t, hm, hq⟩ := hm
  exact (pe_glob (v := .ref t) hg hm rfl hd).weak fun σ H Q ⟨τ, Fs, O, d, S, e, k⟩ => by
    cases e
    exact k _ H [] (Same.refl _) (mk_tup (hq H) (rels_of_ints is)) New.nil
theorem e_mul (ha : DEx X a fa) (hb : DEx X b fb) : DEx X (.BinOp a .Mult b pos) (eOp oMul fa fb) := e_op op_mulW (op2_I fun i j h => (of_decide_eq_true h : i.natAbs.log2 + j.natAbs.log2 < 1000000)) ha hb
theorem e_mod (ha : DEx X a fa) (hb : DEx X b fb) : DEx X (.BinOp a .Mod b pos) (eOp oMod fa fb) := e_op op_modN (op2_I fun i j h => (of_decide_eq_true h : j ≠ 0)) ha hb
end
end DL
set_option Elab.async false
set_option linter.all false
set_option maxRecDepth 100000
set_option maxHeartbeats 2000000
/-! A hook that looks at the module's tuples too; the last step of a law. -/
namespace DL
open PySem PySem.Spec PyProof.Rows L2
def obsX (ex : PySem.W.Frag → Bool) (fa : List He.Fa) (fn : List He.DefD) (K : PySem.W.Frag) : He.AlD := (ex K && (He.obsD fa fn K).1, (He.obsD fa fn K).2)
def SaysX (ex : PySem.W.Frag → Bool) (fa : List He.Fa) (fn : List He.DefD) (K : PySem.W.Frag) : Prop := obsX ex fa fn K = He.valD fn
def obsXG (n : Nat) (ex : PySem.W.Frag → Bool) (fa : List He.Fa) (fn : List He.DefD) (g : Addr → Option Obj) : He.AlD := obsX ex fa fn (He.frG g (He.asD g n))
def hookX (n : Nat) (ex : PySem.W.Frag → Bool) (fa : List He.Fa) (fn : List He.DefD) : PySem.W.Hook where
  α := He.AlD
  obs := fun s => obsXG n ex fa fn s.heap.get?
  val := fun _ => He.valD fn
  says := fun _ h => ∃ K : PySem.W.Frag, K.In h ∧ SaysX ex fa fn K
  of := fun _ _ e => ⟨_, He.frG_in, e⟩
  keeps := fun _ _ _ ⟨K, i, c⟩ k => ⟨K, PySem.W.Frag.In.keeps i k, c⟩
theorem obsXG_eq {n : Nat} {ex : PySem.W.Frag → Bool} {fa : List He.Fa} {fn : List He.DefD} {g : Addr → Option Obj} {s : Shared} (h : ∀ a, g a = s.heap.get? a) : obsXG n ex fa fn g = (hookX n ex fa fn).obs s := by
  have e : g = s.heap.get? := funext h
  subst e
  rfl
theorem SaysX.both {ex : PySem.W.Frag → Bool} {fa : List He.Fa} {fn : List He.DefD} {K : PySem.W.Frag} (c : SaysX ex fa fn K) : He.SaysD fa fn K ∧ ex K = true := by
  have e1 : (ex K && (He.obsD fa fn K).1) = true := congrArg Prod.fst c
  have e2 : (He.obsD fa fn K).2 = fn.map He.DefD.val := congrArg Prod.snd c
  obtain ⟨h1, h2⟩ := Bool.and_eq_true_iff.mp e1
  exact ⟨Prod.ext h2 e2, h1⟩
/-- a def of the text, by what the hook tells -/
theorem defAt {fa : List He.Fa} {fn : List He.DefD} {K : PySem.W.Frag} {h : Heap} {mg : Str → Option Value} {x : Str} {st : Stmt} {ps : List Str} (c : He.SaysD fa fn K) (KX : K.In h) (G : h.Ns mainGlobals mg) (i j : Nat)
    (hd : fn[i]? = some ⟨(x, none), x, x, defArgs st, defBody st, defScope st, [], []⟩) (hf : fa[j]? = some (.glo x)) (hb : ∀ f fd, FunD K x x (defArgs st) (defBody st) (defScope st) [] [] f fd → Binds K fd ps []) : DefAt K mg x st ps := by
  obtain ⟨fd, F⟩ := c.def_ i hd
  exact ⟨_, fd, F, He.glo_ok KX G (c.fact j hf), hb _ _ F⟩
section
variable {P : Program} {w : World} {K : PySem.W.Frag} {mg : Str → Option Value} {base : Heap} {x : Str} {st : Stmt} {N ps : List Str} {k : Nat}
theorem mkF {f : Addr} {fd : FuncData} (F : FunD K x x (defArgs st) (defBody st) (defScope st) [] [] f fd) (S : FnScope N ps (defScope st)) {W : List Nat} {body : DS → Option Out} (hn : ps.length ≤ N.length := by decide)
    (hb : ∀ (f : Addr) (cdv : Value) (A : Around) (outer : List Env) (s : Shared) (H : Hp) (E : XK), Room k (A.deeper (envOfC x (defScope st) s.heap.objs.size f cdv)) → DSs (cxOf CX0 P w K mg base N x (defScope st) f cdv A outer s H E).nox (defBody st) W body) :
    FnOk P w K mg base CX0 (k + 1) f fd ps (spP K (gOf ps.length N body)) := fnPD F S W body _ hn (fun cdv A outer s H E hr => hb f cdv A outer s H E hr) fun ds r e => by
  unfold gOf at e
  split at e
  · rename_i hl
    obtain ⟨⟨r', τ⟩, e1, e2⟩ := Option.map_eq_some_iff.mp e
    cases e2
    exact ⟨hl, τ, e1⟩
  · cases e
/-- the script as data -/
theorem law_sp {K : PySem.W.Frag} {g : List D → Option D} {H : Hp} {a : Addr} {ns : List Int} (hg : g [.scr (ns.map D.int)] = some (.bl true)) (ho : Only H) (hs : SqL K H a (ns.map V.int)) : spP K g [.ref a] H (fun v _ => v = .bl true) fun _ _ _ => False := by
  refine ⟨[.scr (ns.map D.int)], .bl true, Rels.one ?_, hg, fun v H' F _ r _ => (rel_bl r).1⟩
  unfold Rel
  refine ⟨a, ns.map V.int, rfl, ?_, rels_of_ints ns, rfl⟩
  rcases hs with (hs | hs) | hs
  · rcases ho a with h | ⟨o, xs, h⟩ <;> rw [hs] at h <;> cases h
  · exact .inl hs
  · exact .inr hs
end
end DL
set_option Elab.async false
set_option linter.all false
set_option maxRecDepth 100000
set_option maxHeartbeats 4000000
namespace Wk
open PySem PySem.Spec PyProof.Rows L2 DL
def top (i : Nat) : Stmt := PySem.Challenge.pw_servedlongest_k45_whole_parts_wholly_wor.main.body.getD i (.Pass ⟨0, 0, 0, 0⟩)
/-- what is known of the module's names -/
structure Ctx (K : PySem.W.Frag) (mg : Str → Option Value) : Prop where
  d_is_int : DefAt K mg "is_int" (top 5) ["value", "low", "high"]
  d_is_told : DefAt K mg "is_told" (top 6) ["value", "lengths"]
  d_shared : DefAt K mg "shared" (top 11) ["one", "other"]
  d_told_fraction : DefAt K mg "told_fraction" (top 12) ["top", "bottom"]
  d_is_exact : DefAt K mg "is_exact" (top 13) ["value"]
  d_is_exact_price : DefAt K mg "is_exact_price" (top 14) ["value"]
  d_is_fraction : DefAt K mg "is_fraction" (top 15) ["value"]
  d_is_price : DefAt K mg "is_price" (top 16) ["value"]
  d_plus : DefAt K mg "plus" (top 17) ["one", "other"]
  d_minus : DefAt K mg "minus" (top 18) ["one", "other"]
  d_over : DefAt K mg "over" (top 19) ["one", "other"]
  d_is_less : DefAt K mg "is_less" (top 20) ["one", "other"]
  d_summed : DefAt K mg "summed" (top 21) ["some"]
  d_is_need_row : DefAt K mg "is_need_row" (top 26) ["value"]
  d_look_at_needs : DefAt K mg "look_at_needs" (top 27) ["needs"]
  d_told_lots : DefAt K mg "told_lots" (top 28) ["needs"]
  d_told_pairs : DefAt K mg "told_pairs" (top 29) ["needs", "lots"]
  d_fewest_moved : DefAt K mg "fewest_moved" (top 30) ["needs"]
  d_are_pairs : DefAt K mg "are_pairs" (top 31) ["needs", "value"]
  d_are_lots : DefAt K mg "are_lots" (top 32) ["needs", "value"]
  d_shows_fewest_moved : DefAt K mg "shows_fewest_moved" (top 33) ["needs", "value"]
  d_ways_of_pairs : DefAt K mg "ways_of_pairs" (top 34) ["needs", "pairs"]
  d_law_pot_ : DefAt K mg "_law_pot" (top 36) ["script", "place"]
  d_law_take_ : DefAt K mg "_law_take" (top 37) ["pot", "upto"]
  d_law_of_ : DefAt K mg "_law_of" (top 38) ["pot", "some"]
  d_law_cells_ : DefAt K mg "_law_cells" (top 39) ["script", "most"]
  d_law_some_ : DefAt K mg "_law_some" (top 40) ["pot", "pool", "many"]
  d_law_frac_ : DefAt K mg "_law_frac" (top 41) ["top", "bottom"]
  d_law_plus_ : DefAt K mg "_law_plus" (top 42) ["one", "other"]
  d_law_over_ : DefAt K mg "_law_over" (top 43) ["one", "other"]
  d_law_sum_ : DefAt K mg "_law_sum" (top 44) ["some"]
  d_law_is_less_ : DefAt K mg "_law_is_less" (top 45) ["one", "other"]
  d_law_needs_drawn_ : DefAt K mg "_law_needs_drawn" (top 46) ["pot", "places"]
  d_law_most_lots_ : DefAt K mg "_law_most_lots" (top 47) ["needs"]
  d_law_are_pairs_ : DefAt K mg "_law_are_pairs" (top 48) ["needs", "parts", "pairs"]
  d_law_is_right_ : DefAt K mg "_law_is_right" (top 49) ["pot", "needs"]
  d_law_right_ : DefAt K mg "_law_right" (top 50) ["pot"]
  d_law : DefAt K mg "law" (top 51) ["script"]
  b_len : mg "len" = none
  b_abs : mg "abs" = none
  b_int : mg "int" = none
  b_max : mg "max" = none
  b_min : mg "min" = none
  b_sum : mg "sum" = none
  b_any : mg "any" = none
  b_all : mg "all" = none
  b_list : mg "list" = none
  b_tuple : mg "tuple" = none
  b_sorted : mg "sorted" = none
  b_range : mg "range" = none
  b_enumerate : mg "enumerate" = none
  b_isinstance : mg "isinstance" = none
  b_set : mg "set" = none
  b_dict : mg "dict" = none
  b_bool : mg "bool" = none
  b_str : mg "str" = none
  c_NOUGHT : ∃ a, mg "NOUGHT" = some (.ref a) ∧ ∀ H, SqT K H a ([0, 1].map V.int)
  c_ONE : ∃ a, mg "ONE" = some (.ref a) ∧ ∀ H, SqT K H a ([1, 1].map V.int)
  c_GREATEST : ∃ t, mg "GREATEST" = some (.int 1000000 t)
  c_MOST_NEEDS : ∃ t, mg "MOST_NEEDS" = some (.int 8 t)
  c_MOST_WORN : ∃ t, mg "MOST_WORN" = some (.int 60 t)
  c_MOVED : ∃ t, mg "MOVED" = some (.str "moved" t)
theorem hu1_64 {n : Nat} (h : n + 64 < cLine) : n + 1 < cLine := by omega
abbrev N_is_int : List Str := ["value", "low", "high"]
def b_is_int : DS → Option Out :=
  (fRet (eP (gImm (pAnd (pIsi "int" (pVar 0)) (pAnd (pNot (pIsi "bool" (pVar 0))) (pCh oLe oLe (pVar 1) (pVar 0) (pVar 2)))))))
def g_is_int : List D → Option D := gOf 3 N_is_int b_is_int
theorem sc_is_int : FnScope N_is_int ["value", "low", "high"] (defScope (top 5)) := ⟨rfl, rfl, rfl, by decide +kernel, rfl, by decide +kernel, by decide +kernel⟩
theorem F_is_int {P : Program} {w : World} {K : PySem.W.Frag} {mg : Str → Option Value} {base : Heap} (C : Ctx K mg) : FunP P w K mg base "is_int" 1 g_is_int :=
  mkP (k := 0) (W := []) (N := N_is_int) (ps := ["value", "low", "high"]) C.d_is_int sc_is_int (hb := fun f cdv A outer s H E hr => by
  have nd := sc_is_int.nd
  have hu := hr.units
  have hu1 := hu1_64 hu
  exact ss_wide (W' := []) (ss_one (s_ret (de_f (PPx.pf (v_and (p_isi (T := "int") (by rfl) C.b_isinstance (dv 0) (by rfl) C.b_int (by decide +kernel)) (v_and (v_not (p_isi (T := "bool") (by rfl) C.b_isinstance (dv 0) (by rfl) C.b_bool (by decide +kernel))) (v_one (p_ch op_le op_le op2_B op2_B (dv 1) (dv 0) (dv 2))))))))) (by decide))
abbrev N_is_told : List Str := ["value", "lengths"]
def b_is_told : DS → Option Out :=
  (fRet (eP (gImm (pAnd (pIsi "tuple" (pVar 0)) (pAnd (pOp (oIn false) (pCall oLen (qCons (pVar 0) qNil)) (pVar 1)) (pIsi "str" (pOp oIx (pVar 0) (pC (.int 0)))))))))
def g_is_told : List D → Option D := gOf 2 N_is_told b_is_told
theorem sc_is_told : FnScope N_is_told ["value", "lengths"] (defScope (top 6)) := ⟨rfl, rfl, rfl, by decide +kernel, rfl, by decide +kernel, by decide +kernel⟩
theorem F_is_told {P : Program} {w : World} {K : PySem.W.Frag} {mg : Str → Option Value} {base : Heap} (C : Ctx K mg) : FunP P w K mg base "is_told" 1 g_is_told :=
  mkP (k := 0) (W := []) (N := N_is_told) (ps := ["value", "lengths"]) C.d_is_told sc_is_told (hb := fun f cdv A outer s H E hr => by
  have nd := sc_is_told.nd
  have hu := hr.units
  have hu1 := hu1_64 hu
  exact ss_wide (W' := []) (ss_one (s_ret (de_f (PPx.pf (v_and (p_isi (T := "tuple") (by rfl) C.b_isinstance (dv 0) (by rfl) C.b_tuple (by decide +kernel)) (v_and (p_in (c_len C.b_len (a_cons (dv 0) a_nil)) (dv 1)) (v_one (p_isi (T := "str") (by rfl) C.b_isinstance (p_ix (dv 0) (PFx.pp d_int)) (by rfl) C.b_str (by decide +kernel))))))))) (by decide))
abbrev N_shared : List Str := ["one", "other"]
noncomputable def b_shared : DS → Option Out :=
  (fSeq (fPar 0 1 (xCons (eP (gImm (pCall oAbs (qCons (pVar 0) qNil)))) (xCons (eP (gImm (pCall oAbs (qCons (pVar 1) qNil)))) xNil)))
  (fSeq (fWhile (cBl (pOp oNe (pVar 1) (pC (.int 0))))
  (fPar 0 1 (xCons (eP (gImm (pVar 1))) (xCons (eP (gImm (pOp oMod (pVar 0) (pVar 1)))) xNil))))
  (fRet (eP (gImm (pCall oMax2 (qCons (pVar 0) (qCons (pC (.int 1)) qNil))))))))
noncomputable def g_shared : List D → Option D := gOf 2 N_shared b_shared
theorem sc_shared : FnScope N_shared ["one", "other"] (defScope (top 11)) := ⟨rfl, rfl, rfl, by decide +kernel, rfl, by decide +kernel, by decide +kernel⟩
theorem F_shared {P : Program} {w : World} {K : PySem.W.Frag} {mg : Str → Option Value} {base : Heap} (C : Ctx K mg) : FunP P w K mg base "shared" 1 g_shared :=
  mkP (k := 0) (W := [0, 1]) (N := N_shared) (ps := ["one", "other"]) C.d_shared sc_shared (hb := fun f cdv A outer s H E hr => by
  have nd := sc_shared.nd
  have hu := hr.units
  have hu1 := hu1_64 hu
  exact ss_wide (W' := [0, 1]) (ss_cons (s_par (i := 0) (j := 1) rfl nd rfl rfl (by decide) rfl rfl (x_cons (de_f (PPx.pf (c_abs C.b_abs (a_cons (dv 0) a_nil)))) (x_cons (de_f (PPx.pf (c_abs C.b_abs (a_cons (dv 1) a_nil)))) x_nil)))
  (ss_cons (s_while PassesOwn.never (t_ne hu (dv 1) (PFx.pp d_int))
  (ss_one (s_par (i := 0) (j := 1) rfl nd rfl rfl (by decide) rfl rfl (x_cons (de_f (PPx.pf (dv 1))) (x_cons (de_f (PPx.pf (p_mod (dv 0) (dv 1)))) x_nil)))))
  (ss_one (s_ret (de_f (PPx.pf (c_max2 C.b_max (a_cons (dv 0) (a_cons (PFx.pp d_int) a_nil))))))))) (by decide))
abbrev N_told_fraction : List Str := ["top", "bottom", "common"]
noncomputable def b_told_fraction : DS → Option Out :=
  (fSeq (fSet 2 (eP (pFn g_shared (qCons (pVar 0) (qCons (pVar 1) qNil)))))
  (fSeq (fSet 2 (eP (gImm (pIf (cBl (pOp oLt (pVar 1) (pC (.int 0)))) (fun τ => ((pVar 2) τ).bind oUsub) (pVar 2)))))
  (fRet (eP (gImm (pTup (qCons (pOp oDiv (pVar 0) (pVar 2)) (qCons (pOp oDiv (pVar 1) (pVar 2)) qNil))))))))
noncomputable def g_told_fraction : List D → Option D := gOf 2 N_told_fraction b_told_fraction
theorem sc_told_fraction : FnScope N_told_fraction ["top", "bottom"] (defScope (top 12)) := ⟨rfl, rfl, rfl, by decide +kernel, rfl, by decide +kernel, by decide +kernel⟩
theorem F_told_fraction {P : Program} {w : World} {K : PySem.W.Frag} {mg : Str → Option Value} {base : Heap} (C : Ctx K mg) : FunP P w K mg base "told_fraction" 2 g_told_fraction :=
  mkP (k := 1) (W := [2]) (N := N_told_fraction) (ps := ["top", "bottom"]) C.d_told_fraction sc_told_fraction (hb := fun f cdv A outer s H E hr => by
  have nd := sc_told_fraction.nd
  have hu := hr.units
  have hu1 := hu1_64 hu
  exact ss_wide (W' := [2]) (ss_cons (s_set (i := 2) nd rfl (by first | exact Or.inl rfl | exact Or.inr rfl) (de_f (c_fn (F_shared C) hr (by decide) (by rfl) (a_cons (dv 0) (a_cons (dv 1) a_nil)))))
  (ss_cons (s_set (i := 2) nd rfl (by first | exact Or.inl rfl | exact Or.inr rfl) (de_f (PPx.pf (v_if (t_lt (dv 1) (PFx.pp d_int)) (p_neg (dv 2)) (dv 2)))))
  (ss_one (s_ret (de_f (PPx.pf (p_tup (a_cons (p_fdiv (dv 0) (dv 2)) (a_cons (p_fdiv (dv 1) (dv 2)) a_nil))))))))) (by decide))
abbrev N_is_exact : List Str := ["value", "one"]
noncomputable def b_is_exact : DS → Option Out :=
  (fSeq (fIf (cOr (cNot (cTru (pIsi "tuple" (pVar 0)))) (cBl (pOp oNe (pCall oLen (qCons (pVar 0) qNil)) (pC (.int 2)))))
  (fRet (eP (pC (.bl false))))
  fNil)
  (fSeq (fIf (cNot (cTru (pCall oAll (qCons (pLc (iSeq (gImm (pVar 0))) (gdN 1) cYes (gImm (pAnd (pIsi "int" (pVar 1)) (pNot (pIsi "bool" (pVar 1))))) [1]) qNil))))
  (fRet (eP (pC (.bl false))))
  fNil)
  (fRet (eP (gImm (pAnd (pOp oGt (pOp oIx (pVar 0) (pC (.int 1))) (pC (.int 0))) (pOp oEq (pFn g_told_fraction (qCons (pOp oIx (pVar 0) (pC (.int 0))) (qCons (pOp oIx (pVar 0) (pC (.int 1))) qNil))) (pVar 0))))))))
noncomputable def g_is_exact : List D → Option D := gOf 1 N_is_exact b_is_exact
theorem sc_is_exact : FnScope N_is_exact ["value"] (defScope (top 13)) := ⟨rfl, rfl, rfl, by decide +kernel, rfl, by decide +kernel, by decide +kernel⟩
theorem F_is_exact {P : Program} {w : World} {K : PySem.W.Frag} {mg : Str → Option Value} {base : Heap} (C : Ctx K mg) : FunP P w K mg base "is_exact" 3 g_is_exact :=
  mkP (k := 2) (W := []) (N := N_is_exact) (ps := ["value"]) C.d_is_exact sc_is_exact (hb := fun f cdv A outer s H E hr => by
  have nd := sc_is_exact.nd
  have hu := hr.units
  have hu1 := hu1_64 hu
  exact ss_wide (W' := []) (ss_cons (s_if (t_w (w_or (t_not (t_of (p_isi (T := "tuple") (by rfl) C.b_isinstance (dv 0) (by rfl) C.b_tuple (by decide +kernel)))) (w_or1 (t_ne hu (c_len C.b_len (a_cons (dv 0) a_nil)) (PFx.pp d_int)))))
  (ss_one (s_ret (de_f d_bl)))
  ss_nil)
  (ss_cons (s_if (t_not (t_of (c_all C.b_all (a_cons (PFx.pp (f_lc (own := [("one", 1)]) rfl nd (i_seq (dv 0)) (blkOk_by (N := N_is_exact) (own := [("one", 1)]) (by kernel_rfl)) (ct_name (i := 1) (by decide)) (fun _ _ _ _ _ => (pg_name (i := 1) nd rfl (by first | exact Or.inl rfl | exact Or.inr rfl))) (fun _ _ _ _ _ => ts_nil) (fun _ _ _ _ _ => (PPx.pf (v_and (p_isi (T := "int") (by rfl) C.b_isinstance (dv 1) (by rfl) C.b_int (by decide +kernel)) (v_one (v_not (p_isi (T := "bool") (by rfl) C.b_isinstance (dv 1) (by rfl) C.b_bool (by decide +kernel))))))))) a_nil))))
  (ss_one (s_ret (de_f d_bl)))
  ss_nil)
  (ss_one (s_ret (de_f (PPx.pf (v_and (p_gt (p_ix (dv 0) (PFx.pp d_int)) (PFx.pp d_int)) (v_one (p_eq hu (PFx.pp (c_fn (F_told_fraction C) hr (by decide) (by rfl) (a_cons (p_ix (dv 0) (PFx.pp d_int)) (a_cons (p_ix (dv 0) (PFx.pp d_int)) a_nil)))) (dv 0)))))))))) (by decide))
abbrev N_is_exact_price : List Str := ["value"]
noncomputable def b_is_exact_price : DS → Option Out :=
  (fRet (eP (gImm (pAnd (pFn g_is_exact (qCons (pVar 0) qNil)) (pOp oGe (pOp oIx (pVar 0) (pC (.int 0))) (pC (.int 0)))))))
noncomputable def g_is_exact_price : List D → Option D := gOf 1 N_is_exact_price b_is_exact_price
theorem sc_is_exact_price : FnScope N_is_exact_price ["value"] (defScope (top 14)) := ⟨rfl, rfl, rfl, by decide +kernel, rfl, by decide +kernel, by decide +kernel⟩
theorem F_is_exact_price {P : Program} {w : World} {K : PySem.W.Frag} {mg : Str → Option Value} {base : Heap} (C : Ctx K mg) : FunP P w K mg base "is_exact_price" 4 g_is_exact_price :=
  mkP (k := 3) (W := []) (N := N_is_exact_price) (ps := ["value"]) C.d_is_exact_price sc_is_exact_price (hb := fun f cdv A outer s H E hr => by
  have nd := sc_is_exact_price.nd
  have hu := hr.units
  have hu1 := hu1_64 hu
  exact ss_wide (W' := []) (ss_one (s_ret (de_f (PPx.pf (v_and (PFx.pp (c_fn (F_is_exact C) hr (by decide) (by rfl) (a_cons (dv 0) a_nil))) (v_one (p_ge (p_ix (dv 0) (PFx.pp d_int)) (PFx.pp d_int)))))))) (by decide))
abbrev N_is_fraction : List Str := ["value"]
noncomputable def b_is_fraction : DS → Option Out :=
  (fRet (eP (gImm (pAnd (pFn g_is_exact (qCons (pVar 0) qNil)) (pAnd (pFn g_is_int (qCons (pOp oIx (pVar 0) (pC (.int 0))) (qCons (fun τ => ((pC (.int 1000000)) τ).bind oUsub) (qCons (pC (.int 1000000)) qNil)))) (pOp oLe (pOp oIx (pVar 0) (pC (.int 1))) (pC (.int 1000000))))))))
noncomputable def g_is_fraction : List D → Option D := gOf 1 N_is_fraction b_is_fraction
theorem sc_is_fraction : FnScope N_is_fraction ["value"] (defScope (top 15)) := ⟨rfl, rfl, rfl, by decide +kernel, rfl, by decide +kernel, by decide +kernel⟩
theorem F_is_fraction {P : Program} {w : World} {K : PySem.W.Frag} {mg : Str → Option Value} {base : Heap} (C : Ctx K mg) : FunP P w K mg base "is_fraction" 4 g_is_fraction :=
  mkP (k := 3) (W := []) (N := N_is_fraction) (ps := ["value"]) C.d_is_fraction sc_is_fraction (hb := fun f cdv A outer s H E hr => by
  have nd := sc_is_fraction.nd
  have hu := hr.units
  have hu1 := hu1_64 hu
  exact ss_wide (W' := []) (ss_one (s_ret (de_f (PPx.pf (v_and (PFx.pp (c_fn (F_is_exact C) hr (by decide) (by rfl) (a_cons (dv 0) a_nil))) (v_and (PFx.pp (c_fn (F_is_int C) hr (by decide) (by rfl) (a_cons (p_ix (dv 0) (PFx.pp d_int)) (a_cons (p_neg (PFx.pp (d_gint (by rfl) C.c_GREATEST))) (a_cons (PFx.pp (d_gint (by rfl) C.c_GREATEST)) a_nil))))) (v_one (p_le (p_ix (dv 0) (PFx.pp d_int)) (PFx.pp (d_gint (by rfl) C.c_GREATEST)))))))))) (by decide))
abbrev N_is_price : List Str := ["value"]
noncomputable def b_is_price : DS → Option Out :=
  (fRet (eP (gImm (pAnd (pFn g_is_fraction (qCons (pVar 0) qNil)) (pOp oGe (pOp oIx (pVar 0) (pC (.int 0))) (pC (.int 0)))))))
noncomputable def g_is_price : List D → Option D := gOf 1 N_is_price b_is_price
theorem sc_is_price : FnScope N_is_price ["value"] (defScope (top 16)) := ⟨rfl, rfl, rfl, by decide +kernel, rfl, by decide +kernel, by decide +kernel⟩
theorem F_is_price {P : Program} {w : World} {K : PySem.W.Frag} {mg : Str → Option Value} {base : Heap} (C : Ctx K mg) : FunP P w K mg base "is_price" 5 g_is_price :=
  mkP (k := 4) (W := []) (N := N_is_price) (ps := ["value"]) C.d_is_price sc_is_price (hb := fun f cdv A outer s H E hr => by
  have nd := sc_is_price.nd
  have hu := hr.units
  have hu1 := hu1_64 hu
  exact ss_wide (W' := []) (ss_one (s_ret (de_f (PPx.pf (v_and (PFx.pp (c_fn (F_is_fraction C) hr (by decide) (by rfl) (a_cons (dv 0) a_nil))) (v_one (p_ge (p_ix (dv 0) (PFx.pp d_int)) (PFx.pp d_int)))))))) (by decide))
abbrev N_plus : List Str := ["one", "other"]
noncomputable def b_plus : DS → Option Out :=
  (fRet (eP (pFn g_told_fraction (qCons (pOp oAdd (pOp oMul (pOp oIx (pVar 0) (pC (.int 0))) (pOp oIx (pVar 1) (pC (.int 1)))) (pOp oMul (pOp oIx (pVar 1) (pC (.int 0))) (pOp oIx (pVar 0) (pC (.int 1))))) (qCons (pOp oMul (pOp oIx (pVar 0) (pC (.int 1))) (pOp oIx (pVar 1) (pC (.int 1)))) qNil)))))
noncomputable def g_plus : List D → Option D := gOf 2 N_plus b_plus
theorem sc_plus : FnScope N_plus ["one", "other"] (defScope (top 17)) := ⟨rfl, rfl, rfl, by decide +kernel, rfl, by decide +kernel, by decide +kernel⟩
theorem F_plus {P : Program} {w : World} {K : PySem.W.Frag} {mg : Str → Option Value} {base : Heap} (C : Ctx K mg) : FunP P w K mg base "plus" 3 g_plus :=
  mkP (k := 2) (W := []) (N := N_plus) (ps := ["one", "other"]) C.d_plus sc_plus (hb := fun f cdv A outer s H E hr => by
  have nd := sc_plus.nd
  have hu := hr.units
  have hu1 := hu1_64 hu
  exact ss_wide (W' := []) (ss_one (s_ret (de_f (c_fn (F_told_fraction C) hr (by decide) (by rfl) (a_cons (p_add (p_mul (p_ix (dv 0) (PFx.pp d_int)) (p_ix (dv 1) (PFx.pp d_int))) (p_mul (p_ix (dv 1) (PFx.pp d_int)) (p_ix (dv 0) (PFx.pp d_int)))) (a_cons (p_mul (p_ix (dv 0) (PFx.pp d_int)) (p_ix (dv 1) (PFx.pp d_int))) a_nil)))))) (by decide))
abbrev N_minus : List Str := ["one", "other"]
noncomputable def b_minus : DS → Option Out :=
  (fRet (eP (pFn g_told_fraction (qCons (pOp oSub (pOp oMul (pOp oIx (pVar 0) (pC (.int 0))) (pOp oIx (pVar 1) (pC (.int 1)))) (pOp oMul (pOp oIx (pVar 1) (pC (.int 0))) (pOp oIx (pVar 0) (pC (.int 1))))) (qCons (pOp oMul (pOp oIx (pVar 0) (pC (.int 1))) (pOp oIx (pVar 1) (pC (.int 1)))) qNil)))))
noncomputable def g_minus : List D → Option D := gOf 2 N_minus b_minus
theorem sc_minus : FnScope N_minus ["one", "other"] (defScope (top 18)) := ⟨rfl, rfl, rfl, by decide +kernel, rfl, by decide +kernel, by decide +kernel⟩
theorem F_minus {P : Program} {w : World} {K : PySem.W.Frag} {mg : Str → Option Value} {base : Heap} (C : Ctx K mg) : FunP P w K mg base "minus" 3 g_minus :=
  mkP (k := 2) (W := []) (N := N_minus) (ps := ["one", "other"]) C.d_minus sc_minus (hb := fun f cdv A outer s H E hr => by
  have nd := sc_minus.nd
  have hu := hr.units
  have hu1 := hu1_64 hu
  exact ss_wide (W' := []) (ss_one (s_ret (de_f (c_fn (F_told_fraction C) hr (by decide) (by rfl) (a_cons (p_sub (p_mul (p_ix (dv 0) (PFx.pp d_int)) (p_ix (dv 1) (PFx.pp d_int))) (p_mul (p_ix (dv 1) (PFx.pp d_int)) (p_ix (dv 0) (PFx.pp d_int)))) (a_cons (p_mul (p_ix (dv 0) (PFx.pp d_int)) (p_ix (dv 1) (PFx.pp d_int))) a_nil)))))) (by decide))
abbrev N_over : List Str := ["one", "other"]
noncomputable def b_over : DS → Option Out :=
  (fRet (eP (pFn g_told_fraction (qCons (pOp oMul (pOp oIx (pVar 0) (pC (.int 0))) (pOp oIx (pVar 1) (pC (.int 1)))) (qCons (pOp oMul (pOp oIx (pVar 0) (pC (.int 1))) (pOp oIx (pVar 1) (pC (.int 0)))) qNil)))))
noncomputable def g_over : List D → Option D := gOf 2 N_over b_over
theorem sc_over : FnScope N_over ["one", "other"] (defScope (top 19)) := ⟨rfl, rfl, rfl, by decide +kernel, rfl, by decide +kernel, by decide +kernel⟩
theorem F_over {P : Program} {w : World} {K : PySem.W.Frag} {mg : Str → Option Value} {base : Heap} (C : Ctx K mg) : FunP P w K mg base "over" 3 g_over :=
  mkP (k := 2) (W := []) (N := N_over) (ps := ["one", "other"]) C.d_over sc_over (hb := fun f cdv A outer s H E hr => by
  have nd := sc_over.nd
  have hu := hr.units
  have hu1 := hu1_64 hu
  exact ss_wide (W' := []) (ss_one (s_ret (de_f (c_fn (F_told_fraction C) hr (by decide) (by rfl) (a_cons (p_mul (p_ix (dv 0) (PFx.pp d_int)) (p_ix (dv 1) (PFx.pp d_int))) (a_cons (p_mul (p_ix (dv 0) (PFx.pp d_int)) (p_ix (dv 1) (PFx.pp d_int))) a_nil)))))) (by decide))
abbrev N_is_less : List Str := ["one", "other"]
def b_is_less : DS → Option Out :=
  (fRet (eP (gImm (pOp oLt (pOp oMul (pOp oIx (pVar 0) (pC (.int 0))) (pOp oIx (pVar 1) (pC (.int 1)))) (pOp oMul (pOp oIx (pVar 1) (pC (.int 0))) (pOp oIx (pVar 0) (pC (.int 1))))))))
def g_is_less : List D → Option D := gOf 2 N_is_less b_is_less
theorem sc_is_less : FnScope N_is_less ["one", "other"] (defScope (top 20)) := ⟨rfl, rfl, rfl, by decide +kernel, rfl, by decide +kernel, by decide +kernel⟩
theorem F_is_less {P : Program} {w : World} {K : PySem.W.Frag} {mg : Str → Option Value} {base : Heap} (C : Ctx K mg) : FunP P w K mg base "is_less" 1 g_is_less :=
  mkP (k := 0) (W := []) (N := N_is_less) (ps := ["one", "other"]) C.d_is_less sc_is_less (hb := fun f cdv A outer s H E hr => by
  have nd := sc_is_less.nd
  have hu := hr.units
  have hu1 := hu1_64 hu
  exact ss_wide (W' := []) (ss_one (s_ret (de_f (PPx.pf (p_lt (p_mul (p_ix (dv 0) (PFx.pp d_int)) (p_ix (dv 1) (PFx.pp d_int))) (p_mul (p_ix (dv 1) (PFx.pp d_int)) (p_ix (dv 0) (PFx.pp d_int)))))))) (by decide))
abbrev N_summed : List Str := ["some", "top", "bottom", "one"]
noncomputable def b_summed : DS → Option Out :=
  (fSeq (fPar 1 2 (xCons (eP (pC (.int 0))) (xCons (eP (pC (.int 1))) xNil)))
  (fSeq (fFor (iSeq (gImm (pVar 0))) (gdN 3)
  (fPar 1 2 (xCons (eP (gImm (pOp oAdd (pOp oMul (pVar 1) (pOp oIx (pVar 3) (pC (.int 1)))) (pOp oMul (pOp oIx (pVar 3) (pC (.int 0))) (pVar 2))))) (xCons (eP (gImm (pOp oMul (pVar 2) (pOp oIx (pVar 3) (pC (.int 1)))))) xNil))))
  (fRet (eP (pFn g_told_fraction (qCons (pVar 1) (qCons (pVar 2) qNil)))))))
noncomputable def g_summed : List D → Option D := gOf 1 N_summed b_summed
theorem sc_summed : FnScope N_summed ["some"] (defScope (top 21)) := ⟨rfl, rfl, rfl, by decide +kernel, rfl, by decide +kernel, by decide +kernel⟩
theorem F_summed {P : Program} {w : World} {K : PySem.W.Frag} {mg : Str → Option Value} {base : Heap} (C : Ctx K mg) : FunP P w K mg base "summed" 3 g_summed :=
  mkP (k := 2) (W := [1, 2, 3]) (N := N_summed) (ps := ["some"]) C.d_summed sc_summed (hb := fun f cdv A outer s H E hr => by
  have nd := sc_summed.nd
  have hu := hr.units
  have hu1 := hu1_64 hu
  exact ss_wide (W' := [1, 2, 3]) (ss_cons (s_parT (i := 1) (j := 2) rfl nd rfl rfl (by decide) (by first | exact Or.inl rfl | exact Or.inr rfl) (by first | exact Or.inl rfl | exact Or.inr rfl) (x_cons (de_f d_int) (x_cons (de_f d_int) x_nil)))
  (ss_cons (s_for PassesOwn.never rfl (i_seq (dv 0)) (pg_name (i := 3) nd rfl (by first | exact Or.inl rfl | exact Or.inr rfl)) (st_name (i := 3))
  (ss_one (s_par (i := 1) (j := 2) rfl nd rfl rfl (by decide) rfl rfl (x_cons (de_f (PPx.pf (p_add (p_mul (dv 1) (p_ix (dv 3) (PFx.pp d_int))) (p_mul (p_ix (dv 3) (PFx.pp d_int)) (dv 2))))) (x_cons (de_f (PPx.pf (p_mul (dv 2) (p_ix (dv 3) (PFx.pp d_int))))) x_nil)))))
  (ss_one (s_ret (de_f (c_fn (F_told_fraction C) hr (by decide) (by rfl) (a_cons (dv 1) (a_cons (dv 2) a_nil)))))))) (by decide))
abbrev N_is_need_row : List Str := ["value", "every", "one"]
noncomputable def b_is_need_row : DS → Option Out :=
  (fSeq (fIf (cOr (cNot (cTru (pIsi "tuple" (pVar 0)))) (cOr (cNot (cBl (pCh oLe oLe (pC (.int 1)) (pCall oLen (qCons (pVar 0) qNil)) (pC (.int 8))))) (cNot (cTru (pCall oAll (qCons (pLc (iSeq (gImm (pVar 0))) (gdN 2) cYes (pFn g_is_price (qCons (pVar 2) qNil)) [2]) qNil))))))
  (fRet (eP (pC (.bl false))))
  fNil)
  (fSeq (fIf (cTru (pCall oAny (qCons (pLc (iSeq (gImm (pVar 0))) (gdN 2) cYes (pFn g_is_less (qCons (pVar 2) (qCons (pC (.tup [(.int 1), (.int 1)])) qNil))) [2]) qNil)))
  (fRet (eP (pC (.bl false))))
  fNil)
  (fSeq (fSet 1 (eP (pFn g_summed (qCons (pVar 0) qNil))))
  (fRet (eP (gImm (pAnd (pOp oEq (pOp oIx (pVar 1) (pC (.int 1))) (pC (.int 1))) (pOp oLe (pOp oIx (pVar 1) (pC (.int 0))) (pC (.int 60))))))))))
noncomputable def g_is_need_row : List D → Option D := gOf 1 N_is_need_row b_is_need_row
theorem sc_is_need_row : FnScope N_is_need_row ["value"] (defScope (top 26)) := ⟨rfl, rfl, rfl, by decide +kernel, rfl, by decide +kernel, by decide +kernel⟩
theorem F_is_need_row {P : Program} {w : World} {K : PySem.W.Frag} {mg : Str → Option Value} {base : Heap} (C : Ctx K mg) : FunP P w K mg base "is_need_row" 6 g_is_need_row :=
  mkP (k := 5) (W := [1]) (N := N_is_need_row) (ps := ["value"]) C.d_is_need_row sc_is_need_row (hb := fun f cdv A outer s H E hr => by
  have nd := sc_is_need_row.nd
  have hu := hr.units
  have hu1 := hu1_64 hu
  exact ss_wide (W' := [1]) (ss_cons (s_if (t_w (w_or (t_not (t_of (p_isi (T := "tuple") (by rfl) C.b_isinstance (dv 0) (by rfl) C.b_tuple (by decide +kernel)))) (w_or (t_not (t_ch op_le op_le op2_B op2_B (PFx.pp d_int) (c_len C.b_len (a_cons (dv 0) a_nil)) (PFx.pp (d_gint (by rfl) C.c_MOST_NEEDS)))) (w_or1 (t_not (t_of (c_all C.b_all (a_cons (PFx.pp (f_lc (own := [("one", 2)]) rfl nd (i_seq (dv 0)) (blkOk_by (N := N_is_need_row) (own := [("one", 2)]) (by kernel_rfl)) (ct_name (i := 2) (by decide)) (fun _ _ _ _ _ => (pg_name (i := 2) nd rfl (by first | exact Or.inl rfl | exact Or.inr rfl))) (fun _ _ _ _ _ => ts_nil) (fun _ _ _ _ _ => (c_fn (F_is_price C) hr (by decide) (by rfl) (a_cons (dv 2) a_nil))))) a_nil))))))))
  (ss_one (s_ret (de_f d_bl)))
  ss_nil)
  (ss_cons (s_if (t_of (c_any C.b_any (a_cons (PFx.pp (f_lc (own := [("one", 2)]) rfl nd (i_seq (dv 0)) (blkOk_by (N := N_is_need_row) (own := [("one", 2)]) (by kernel_rfl)) (ct_name (i := 2) (by decide)) (fun _ _ _ _ _ => (pg_name (i := 2) nd rfl (by first | exact Or.inl rfl | exact Or.inr rfl))) (fun _ _ _ _ _ => ts_nil) (fun _ _ _ _ _ => (c_fn (F_is_less C) hr (by decide) (by rfl) (a_cons (dv 2) (a_cons (PFx.pp (d_gtup (is := [1, 1]) (by rfl) C.c_ONE)) a_nil)))))) a_nil)))
  (ss_one (s_ret (de_f d_bl)))
  ss_nil)
  (ss_cons (s_set (i := 1) nd rfl (by first | exact Or.inl rfl | exact Or.inr rfl) (de_f (c_fn (F_summed C) hr (by decide) (by rfl) (a_cons (dv 0) a_nil))))
  (ss_one (s_ret (de_f (PPx.pf (v_and (p_eq hu (p_ix (dv 1) (PFx.pp d_int)) (PFx.pp d_int)) (v_one (p_le (p_ix (dv 1) (PFx.pp d_int)) (PFx.pp (d_gint (by rfl) C.c_MOST_WORN)))))))))))) (by decide))
abbrev N_look_at_needs : List Str := ["needs"]
noncomputable def b_look_at_needs : DS → Option Out :=
  (fIf (cNot (cTru (pFn g_is_need_row (qCons (pVar 0) qNil))))
  (fun _ => none)
  fNil)
noncomputable def g_look_at_needs : List D → Option D := gOf 1 N_look_at_needs b_look_at_needs
theorem sc_look_at_needs : FnScope N_look_at_needs ["needs"] (defScope (top 27)) := ⟨rfl, rfl, rfl, by decide +kernel, rfl, by decide +kernel, by decide +kernel⟩
theorem F_look_at_needs {P : Program} {w : World} {K : PySem.W.Frag} {mg : Str → Option Value} {base : Heap} (C : Ctx K mg) : FunP P w K mg base "look_at_needs" 7 g_look_at_needs :=
  mkP (k := 6) (W := []) (N := N_look_at_needs) (ps := ["needs"]) C.d_look_at_needs sc_look_at_needs (hb := fun f cdv A outer s H E hr => by
  have nd := sc_look_at_needs.nd
  have hu := hr.units
  have hu1 := hu1_64 hu
  exact ss_wide (W' := []) (ss_one (s_if (t_not (t_of (PFx.pp (c_fn (F_is_need_row C) hr (by decide) (by rfl) (a_cons (dv 0) a_nil)))))
  (ss_one s_never)
  ss_nil)) (by decide))
abbrev N_told_lots : List Str := ["needs", "many", "powers", "lap", "sums", "best", "mask", "places", "last", "at", "found", "lot"]
noncomputable def b_told_lots : DS → Option Out :=
  (fSeq (fPar 1 2 (xCons (eP (gImm (pCall oLen (qCons (pVar 0) qNil)))) (xCons (eP (pLst (qCons (pC (.int 1)) qNil))) xNil)))
  (fSeq (fFor (iRg1 (qCons (pCall oLen (qCons (pVar 0) qNil)) qNil)) (gdN 3)
  (fApp 2 (eP (gImm (pOp oMul (pC (.int 2)) (pOp oIx (pVar 2) (fun τ => ((pC (.int 1)) τ).bind oUsub)))))))
  (fSeq (fPar 4 5 (xCons (eP (pLst (qCons (pC (.tup [(.int 0), (.int 1)])) qNil))) (xCons (eP (pLst (qCons (pTup (qCons (pC (.int 0)) (qCons (pC .non) qNil))) qNil))) xNil)))
  (fSeq (fFor (iRg2 (qCons (pC (.int 1)) (qCons (pOp oIx (pVar 2) (pVar 1)) qNil))) (gdN 6)
  (fSeq (fSet 7 (eP (pLc (iRg1 (qCons (pVar 1) qNil)) (gdN 9) (cBl (pOp oEq (pOp oMod (pOp oDiv (pVar 6) (pOp oIx (pVar 2) (pVar 9))) (pC (.int 2))) (pC (.int 1)))) (gImm (pVar 9)) [9])))
  (fFrz 7 (fSeq (fApp 4 (eP (pFn g_plus (qCons (pOp oIx (pVar 4) (pOp oSub (pVar 6) (pOp oIx (pVar 2) (pOp oIx (pVar 7) (pC (.int 0)))))) (qCons (pOp oIx (pVar 0) (pOp oIx (pVar 7) (pC (.int 0)))) qNil)))))
  (fSeq (fSet 8 (eP (gImm (pOp oIx (pVar 7) (pC (.int 0))))))
  (fSeq (fFor (iSeq (gImm (pVar 7))) (gdN 9)
  (fIf (cBl (pOp oGt (pOp oIx (pOp oIx (pVar 5) (pOp oSub (pVar 6) (pOp oIx (pVar 2) (pVar 9)))) (pC (.int 0))) (pOp oIx (pOp oIx (pVar 5) (pOp oSub (pVar 6) (pOp oIx (pVar 2) (pVar 8)))) (pC (.int 0)))))
  (fSet 8 (eN 9))
  fNil))
  (fApp 5 (eP (gImm (pTup (qCons (pOp oAdd (pOp oIx (pOp oIx (pVar 5) (pOp oSub (pVar 6) (pOp oIx (pVar 2) (pVar 8)))) (pC (.int 0))) (pCall oInt (qCons (pOp oEq (pOp oIx (pOp oIx (pVar 4) (pVar 6)) (pC (.int 1))) (pC (.int 1))) qNil))) (qCons (pVar 8) qNil))))))))))))
  (fSeq (fPar 10 6 (xCons (eP (pLst qNil)) (xCons (eP (gImm (pOp oSub (pOp oIx (pVar 2) (pVar 1)) (pC (.int 1))))) xNil)))
  (fSeq (fWhile (cBl (pOp oGt (pVar 6) (pC (.int 0))))
  (fSeq (fIf (cBl (pOp oEq (pOp oIx (pOp oIx (pVar 4) (pVar 6)) (pC (.int 1))) (pC (.int 1))))
  (fApp 10 (eP (pLst qNil)))
  fNil)
  (fSeq (fApp1 10 (fun τ => ((pC (.int 1)) τ).bind oUsub) (pOp oIx (pOp oIx (pVar 5) (pVar 6)) (pC (.int 1))))
  (fSet 6 (eP (gImm (pOp oSub (pVar 6) (pOp oIx (pVar 2) (pOp oIx (pOp oIx (pVar 5) (pVar 6)) (pC (.int 1)))))))))))
  (fFrz 10 (fRet (eP (pCall oTuple (qCons (pCall oSorted (qCons (pLc (iSeq (gImm (pVar 10))) (gdN 11) cYes (pCall oTuple (qCons (pCall oSorted (qCons (pVar 11) qNil)) qNil)) [11]) qNil)) qNil)))))))))))
noncomputable def g_told_lots : List D → Option D := gOf 1 N_told_lots b_told_lots
theorem sc_told_lots : FnScope N_told_lots ["needs"] (defScope (top 28)) := ⟨rfl, rfl, rfl, by decide +kernel, rfl, by decide +kernel, by decide +kernel⟩
theorem F_told_lots {P : Program} {w : World} {K : PySem.W.Frag} {mg : Str → Option Value} {base : Heap} (C : Ctx K mg) : FunP P w K mg base "told_lots" 4 g_told_lots :=
  mkP (k := 3) (W := [1, 2, 3, 4, 5, 6, 7, 8, 9, 10]) (N := N_told_lots) (ps := ["needs"]) C.d_told_lots sc_told_lots (hb := fun f cdv A outer s H E hr => by
  have nd := sc_told_lots.nd
  have hu := hr.units
  have hu1 := hu1_64 hu
  exact ss_wide (W' := [1, 2, 3, 4, 5, 6, 7, 8, 9, 10]) (ss_cons (s_parT (i := 1) (j := 2) rfl nd rfl rfl (by decide) (by first | exact Or.inl rfl | exact Or.inr rfl) (by first | exact Or.inl rfl | exact Or.inr rfl) (x_cons (de_f (PPx.pf (c_len C.b_len (a_cons (dv 0) a_nil)))) (x_cons (de_f (f_lst (b_cons d_int b_nil))) x_nil)))
  (ss_cons (s_for PassesOwn.never rfl (i_rg1 (by rfl) C.b_range (a_cons (c_len C.b_len (a_cons (dv 0) a_nil)) a_nil)) (pg_name (i := 3) nd rfl (by first | exact Or.inl rfl | exact Or.inr rfl)) (st_name (i := 3))
  (ss_one (s_app (pv 2) (de_f (PPx.pf (p_mul (PFx.pp d_int) (p_ix (dv 2) (p_neg (PFx.pp d_int)))))))))
  (ss_cons (s_par (i := 4) (j := 5) rfl nd rfl rfl (by decide) rfl rfl (x_cons (de_f (f_lst (b_cons (d_gtup (is := [0, 1]) (by rfl) C.c_NOUGHT) b_nil))) (x_cons (de_f (f_lst (b_cons (f_tup (b_cons d_int (b_cons d_non b_nil))) b_nil))) x_nil)))
  (ss_cons (s_for PassesOwn.never rfl (i_rg2 (by rfl) C.b_range (a_cons (PFx.pp d_int) (a_cons (p_ix (dv 2) (dv 1)) a_nil))) (pg_name (i := 6) nd rfl (by first | exact Or.inl rfl | exact Or.inr rfl)) (st_name (i := 6))
  (ss_cons (s_setLc (i := 7) (own := [("at", 9)]) rfl nd rfl rfl (sw_true rfl rfl rfl (by decide +kernel)) (i_rg1 (by rfl) C.b_range (a_cons (dv 1) a_nil)) (blkOk_by (N := N_told_lots) (own := [("at", 9)]) (by kernel_rfl)) (ct_name (i := 9) (by decide)) (fun _ _ _ _ _ => (pg_name (i := 9) nd rfl (by first | exact Or.inl rfl | exact Or.inr rfl))) (fun _ _ _ _ _ => (ts_one (t_eq hu (p_mod (p_fdiv (dv 6) (p_ix (dv 2) (dv 9))) (PFx.pp d_int)) (PFx.pp d_int)))) (fun _ _ _ _ _ => (PPx.pf (dv 9))))
  (ss_frz 7 (ss_cons (s_app (pv 4) (de_f (c_fn (F_plus C) hr (by decide) (by rfl) (a_cons (p_ix (dv 4) (p_sub (dv 6) (p_ix (dv 2) (p_ix (dv 7) (PFx.pp d_int))))) (a_cons (p_ix (dv 0) (p_ix (dv 7) (PFx.pp d_int))) a_nil)))))
  (ss_cons (s_set (i := 8) nd rfl (by first | exact Or.inl rfl | exact Or.inr rfl) (de_f (PPx.pf (p_ix (dv 7) (PFx.pp d_int)))))
  (ss_cons (s_for PassesOwn.never rfl (i_seq (dv 7)) (pg_name (i := 9) nd rfl (by first | exact Or.inl rfl | exact Or.inr rfl)) (st_name (i := 9))
  (ss_one (s_if (t_gt (p_ix (p_ix (dv 5) (p_sub (dv 6) (p_ix (dv 2) (dv 9)))) (PFx.pp d_int)) (p_ix (p_ix (dv 5) (p_sub (dv 6) (p_ix (dv 2) (dv 8)))) (PFx.pp d_int)))
  (ss_one (s_set (i := 8) nd rfl (by first | exact Or.inl rfl | exact Or.inr rfl) (dn 9)))
  ss_nil)))
  (ss_one (s_app (pv 5) (de_f (PPx.pf (p_tup (a_cons (p_add (p_ix (p_ix (dv 5) (p_sub (dv 6) (p_ix (dv 2) (dv 8)))) (PFx.pp d_int)) (c_int C.b_int (a_cons (p_eq hu (p_ix (p_ix (dv 4) (dv 6)) (PFx.pp d_int)) (PFx.pp d_int)) a_nil))) (a_cons (dv 8) a_nil)))))))))))))
  (ss_cons (s_parT (i := 10) (j := 6) rfl nd rfl rfl (by decide) (by first | exact Or.inl rfl | exact Or.inr rfl) (by first | exact Or.inl rfl | exact Or.inr rfl) (x_cons (de_f (f_lst b_nil)) (x_cons (de_f (PPx.pf (p_sub (p_ix (dv 2) (dv 1)) (PFx.pp d_int)))) x_nil)))
  (ss_cons (s_while PassesOwn.never (t_gt (dv 6) (PFx.pp d_int))
  (ss_cons (s_if (t_eq hu (p_ix (p_ix (dv 4) (dv 6)) (PFx.pp d_int)) (PFx.pp d_int))
  (ss_one (s_app (pv 10) (de_f (f_lst b_nil))))
  ss_nil)
  (ss_cons (s_app1 (pv 10) (p_neg (PFx.pp d_int)) (p_ix (p_ix (dv 5) (dv 6)) (PFx.pp d_int)))
  (ss_one (s_set (i := 6) nd rfl (by first | exact Or.inl rfl | exact Or.inr rfl) (de_f (PPx.pf (p_sub (dv 6) (p_ix (dv 2) (p_ix (p_ix (dv 5) (dv 6)) (PFx.pp d_int)))))))))))
  (ss_frz 10 (ss_one (s_ret (de_f (c_tuple C.b_tuple (a_cons (PFx.pp (c_sorted hu C.b_sorted (a_cons (PFx.pp (f_lc (own := [("lot", 11)]) rfl nd (i_seq (dv 10)) (blkOk_by (N := N_told_lots) (own := [("lot", 11)]) (by kernel_rfl)) (ct_name (i := 11) (by decide)) (fun _ _ _ _ _ => (pg_name (i := 11) nd rfl (by first | exact Or.inl rfl | exact Or.inr rfl))) (fun _ _ _ _ _ => ts_nil) (fun _ _ _ _ _ => (c_tuple C.b_tuple (a_cons (PFx.pp (c_sorted hu C.b_sorted (a_cons (dv 11) a_nil))) a_nil))))) a_nil))) a_nil)))))))))))) (by decide))
abbrev N_told_pairs : List Str := ["needs", "lots", "found", "part", "left", "lot", "place", "need", "worn"]
noncomputable def b_told_pairs : DS → Option Out :=
  (fSeq (fPar3 2 3 4 (xCons (eP (pLst qNil)) (xCons (eP (pC (.int 0))) (xCons (eP (pC (.tup [(.int 1), (.int 1)]))) xNil))))
  (fSeq (fFor (iSeq (gImm (pVar 1))) (gdN 5)
  (fFor (iSeq (gImm (pVar 5))) (gdN 6)
  (fSeq (fSet 7 (eP (gImm (pOp oIx (pVar 0) (pVar 6)))))
  (fWhile (cBl (pOp oNe (pVar 7) (pC (.tup [(.int 0), (.int 1)]))))
  (fSeq (fSet 8 (eP (gImm (pIf (cTru (pFn g_is_less (qCons (pVar 4) (qCons (pVar 7) qNil)))) (pVar 4) (pVar 7)))))
  (fSeq (fApp 2 (eP (gImm (pTup (qCons (pVar 3) (qCons (pVar 6) (qCons (pVar 8) qNil)))))))
  (fSeq (fPar 7 4 (xCons (eP (pFn g_minus (qCons (pVar 7) (qCons (pVar 8) qNil)))) (xCons (eP (pFn g_minus (qCons (pVar 4) (qCons (pVar 8) qNil)))) xNil)))
  (fIf (cBl (pOp oEq (pVar 4) (pC (.tup [(.int 0), (.int 1)]))))
  (fPar 3 4 (xCons (eP (gImm (pOp oAdd (pVar 3) (pC (.int 1))))) (xCons (eP (pC (.tup [(.int 1), (.int 1)]))) xNil)))
  fNil))))))))
  (fRet (eP (pCall oTuple (qCons (pCall oSorted (qCons (pVar 2) qNil)) qNil))))))
noncomputable def g_told_pairs : List D → Option D := gOf 2 N_told_pairs b_told_pairs
theorem sc_told_pairs : FnScope N_told_pairs ["needs", "lots"] (defScope (top 29)) := ⟨rfl, rfl, rfl, by decide +kernel, rfl, by decide +kernel, by decide +kernel⟩
theorem F_told_pairs {P : Program} {w : World} {K : PySem.W.Frag} {mg : Str → Option Value} {base : Heap} (C : Ctx K mg) : FunP P w K mg base "told_pairs" 4 g_told_pairs :=
  mkP (k := 3) (W := [2, 3, 4, 5, 6, 7, 8]) (N := N_told_pairs) (ps := ["needs", "lots"]) C.d_told_pairs sc_told_pairs (hb := fun f cdv A outer s H E hr => by
  have nd := sc_told_pairs.nd
  have hu := hr.units
  have hu1 := hu1_64 hu
  exact ss_wide (W' := [2, 3, 4, 5, 6, 7, 8]) (ss_cons (s_par3 (i := 2) (j := 3) (l := 4) rfl nd rfl rfl rfl (by decide) (by decide) (by decide) rfl rfl rfl (x_cons (de_f (f_lst b_nil)) (x_cons (de_f d_int) (x_cons (de_f (d_gtup (is := [1, 1]) (by rfl) C.c_ONE)) x_nil))))
  (ss_cons (s_for PassesOwn.never rfl (i_seq (dv 1)) (pg_name (i := 5) nd rfl (by first | exact Or.inl rfl | exact Or.inr rfl)) (st_name (i := 5))
  (ss_one (s_for PassesOwn.never rfl (i_seq (dv 5)) (pg_name (i := 6) nd rfl (by first | exact Or.inl rfl | exact Or.inr rfl)) (st_name (i := 6))
  (ss_cons (s_set (i := 7) nd rfl (by first | exact Or.inl rfl | exact Or.inr rfl) (de_f (PPx.pf (p_ix (dv 0) (dv 6)))))
  (ss_one (s_while PassesOwn.never (t_ne hu (dv 7) (PFx.pp (d_gtup (is := [0, 1]) (by rfl) C.c_NOUGHT)))
  (ss_cons (s_set (i := 8) nd rfl (by first | exact Or.inl rfl | exact Or.inr rfl) (de_f (PPx.pf (v_if (t_of (PFx.pp (c_fn (F_is_less C) hr (by decide) (by rfl) (a_cons (dv 4) (a_cons (dv 7) a_nil))))) (dv 4) (dv 7)))))
  (ss_cons (s_app (pv 2) (de_f (PPx.pf (p_tup (a_cons (dv 3) (a_cons (dv 6) (a_cons (dv 8) a_nil)))))))
  (ss_cons (s_par (i := 7) (j := 4) rfl nd rfl rfl (by decide) rfl rfl (x_cons (de_f (c_fn (F_minus C) hr (by decide) (by rfl) (a_cons (dv 7) (a_cons (dv 8) a_nil)))) (x_cons (de_f (c_fn (F_minus C) hr (by decide) (by rfl) (a_cons (dv 4) (a_cons (dv 8) a_nil)))) x_nil)))
  (ss_one (s_if (t_eq hu (dv 4) (PFx.pp (d_gtup (is := [0, 1]) (by rfl) C.c_NOUGHT)))
  (ss_one (s_par (i := 3) (j := 4) rfl nd rfl rfl (by decide) rfl rfl (x_cons (de_f (PPx.pf (p_add (dv 3) (PFx.pp d_int)))) (x_cons (de_f (d_gtup (is := [1, 1]) (by rfl) C.c_ONE)) x_nil))))
  ss_nil)))))))))))
  (ss_one (s_ret (de_f (c_tuple C.b_tuple (a_cons (PFx.pp (c_sorted hu C.b_sorted (a_cons (dv 2) a_nil))) a_nil))))))) (by decide))
abbrev N_fewest_moved : List Str := ["needs", "lots"]
noncomputable def b_fewest_moved : DS → Option Out :=
  (fSeq (fExp (eP (pFn g_look_at_needs (qCons (pVar 0) qNil))))
  (fSeq (fSet 1 (eP (pFn g_told_lots (qCons (pVar 0) qNil))))
  (fRet (eP (gImm (pTup (qCons (pC (.str "moved")) (qCons (pOp oSub (pCall oLen (qCons (pVar 0) qNil)) (pCall oLen (qCons (pVar 1) qNil))) (qCons (pFn g_told_pairs (qCons (pVar 0) (qCons (pVar 1) qNil))) (qCons (pVar 1) qNil))))))))))
noncomputable def g_fewest_moved : List D → Option D := gOf 1 N_fewest_moved b_fewest_moved
theorem sc_fewest_moved : FnScope N_fewest_moved ["needs"] (defScope (top 30)) := ⟨rfl, rfl, rfl, by decide +kernel, rfl, by decide +kernel, by decide +kernel⟩
theorem F_fewest_moved {P : Program} {w : World} {K : PySem.W.Frag} {mg : Str → Option Value} {base : Heap} (C : Ctx K mg) : FunP P w K mg base "fewest_moved" 8 g_fewest_moved :=
  mkP (k := 7) (W := [1]) (N := N_fewest_moved) (ps := ["needs"]) C.d_fewest_moved sc_fewest_moved (hb := fun f cdv A outer s H E hr => by
  have nd := sc_fewest_moved.nd
  have hu := hr.units
  have hu1 := hu1_64 hu
  exact ss_wide (W' := [1]) (ss_cons (s_expr (de_f (c_fn (F_look_at_needs C) hr (by decide) (by rfl) (a_cons (dv 0) a_nil))))
  (ss_cons (s_set (i := 1) nd rfl (by first | exact Or.inl rfl | exact Or.inr rfl) (de_f (c_fn (F_told_lots C) hr (by decide) (by rfl) (a_cons (dv 0) a_nil))))
  (ss_one (s_ret (de_f (PPx.pf (p_tup (a_cons (PFx.pp (d_gstr (by rfl) C.c_MOVED)) (a_cons (p_sub (c_len C.b_len (a_cons (dv 0) a_nil)) (c_len C.b_len (a_cons (dv 1) a_nil))) (a_cons (PFx.pp (c_fn (F_told_pairs C) hr (by decide) (by rfl) (a_cons (dv 0) (a_cons (dv 1) a_nil)))) (a_cons (dv 1) a_nil))))))))))) (by decide))
abbrev N_are_pairs : List Str := ["needs", "value", "parts", "worn", "met", "one", "names"]
noncomputable def b_are_pairs : DS → Option Out :=
  (fSeq (fIf (cNot (cTru (pIsi "tuple" (pVar 1))))
  (fRet (eP (pC (.bl false))))
  fNil)
  (fSeq (fSet 2 (eP (gImm (pOp oIx (pFn g_summed (qCons (pVar 0) qNil)) (pC (.int 0))))))
  (fSeq (fPar 3 4 (xCons (eP (pOp oRep (pLst (qCons (pC (.tup [(.int 0), (.int 1)])) qNil)) (pVar 2))) (xCons (eP (pOp oRep (pLst (qCons (pC (.tup [(.int 0), (.int 1)])) qNil)) (pCall oLen (qCons (pVar 0) qNil)))) xNil)))
  (fSeq (fFor (iSeq (gImm (pVar 1))) (gdN 5)
  (fSeq (fIf (cOr (cNot (cTru (pIsi "tuple" (pVar 5)))) (cOr (cBl (pOp oNe (pCall oLen (qCons (pVar 5) qNil)) (pC (.int 3)))) (cNot (cTru (pFn g_is_int (qCons (pOp oIx (pVar 5) (pC (.int 0))) (qCons (pC (.int 0)) (qCons (pOp oSub (pVar 2) (pC (.int 1))) qNil))))))))
  (fRet (eP (pC (.bl false))))
  fNil)
  (fSeq (fIf (cOr (cNot (cTru (pFn g_is_int (qCons (pOp oIx (pVar 5) (pC (.int 1))) (qCons (pC (.int 0)) (qCons (pOp oSub (pCall oLen (qCons (pVar 0) qNil)) (pC (.int 1))) qNil)))))) (cOr (cNot (cTru (pFn g_is_exact_price (qCons (pOp oIx (pVar 5) (pC (.int 2))) qNil)))) (cBl (pOp oEq (pOp oIx (pVar 5) (pC (.int 2))) (pC (.tup [(.int 0), (.int 1)]))))))
  (fRet (eP (pC (.bl false))))
  fNil)
  (fAsg (gdTup 2 (gdCons (gdSub 3 (pOp oIx (pVar 5) (pC (.int 0)))) (gdCons (gdSub 4 (pOp oIx (pVar 5) (pC (.int 1)))) gdNil))) (eP (pTup (qCons (pFn g_plus (qCons (pOp oIx (pVar 3) (pOp oIx (pVar 5) (pC (.int 0)))) (qCons (pOp oIx (pVar 5) (pC (.int 2))) qNil))) (qCons (pFn g_plus (qCons (pOp oIx (pVar 4) (pOp oIx (pVar 5) (pC (.int 1)))) (qCons (pOp oIx (pVar 5) (pC (.int 2))) qNil))) qNil))))))))
  (fSeq (fSet 6 (eP (pLc (iSeq (gImm (pVar 1))) (gdN 5) cYes (pCut (pVar 5) (fun _ => some none) (poS (pC (.int 2)))) [5])))
  (fFrz 6 (fRet (eP (gImm (pAnd (pOp oEq (pVar 6) (pSset (pVar 6))) (pAnd (pOp oEq (pVar 3) (pOp oRep (pLst (qCons (pC (.tup [(.int 1), (.int 1)])) qNil)) (pVar 2))) (pOp oEq (pVar 4) (pCall oList (qCons (pVar 0) qNil))))))))))))))
noncomputable def g_are_pairs : List D → Option D := gOf 2 N_are_pairs b_are_pairs
theorem sc_are_pairs : FnScope N_are_pairs ["needs", "value"] (defScope (top 31)) := ⟨rfl, rfl, rfl, by decide +kernel, rfl, by decide +kernel, by decide +kernel⟩
theorem F_are_pairs {P : Program} {w : World} {K : PySem.W.Frag} {mg : Str → Option Value} {base : Heap} (C : Ctx K mg) : FunP P w K mg base "are_pairs" 5 g_are_pairs :=
  mkP (k := 4) (W := [2, 3, 4, 5, 6]) (N := N_are_pairs) (ps := ["needs", "value"]) C.d_are_pairs sc_are_pairs (hb := fun f cdv A outer s H E hr => by
  have nd := sc_are_pairs.nd
  have hu := hr.units
  have hu1 := hu1_64 hu
  exact ss_wide (W' := [2, 3, 4, 5, 6]) (ss_cons (s_if (t_not (t_of (p_isi (T := "tuple") (by rfl) C.b_isinstance (dv 1) (by rfl) C.b_tuple (by decide +kernel))))
  (ss_one (s_ret (de_f d_bl)))
  ss_nil)
  (ss_cons (s_set (i := 2) nd rfl (by first | exact Or.inl rfl | exact Or.inr rfl) (de_f (PPx.pf (p_ix (PFx.pp (c_fn (F_summed C) hr (by decide) (by rfl) (a_cons (dv 0) a_nil))) (PFx.pp d_int)))))
  (ss_cons (s_par (i := 3) (j := 4) rfl nd rfl rfl (by decide) rfl rfl (x_cons (de_f (f_rep (PFx.pp (f_lst (b_cons (d_gtup (is := [0, 1]) (by rfl) C.c_NOUGHT) b_nil))) (dv 2))) (x_cons (de_f (f_rep (PFx.pp (f_lst (b_cons (d_gtup (is := [0, 1]) (by rfl) C.c_NOUGHT) b_nil))) (c_len C.b_len (a_cons (dv 0) a_nil)))) x_nil)))
  (ss_cons (s_for PassesOwn.never rfl (i_seq (dv 1)) (pg_name (i := 5) nd rfl (by first | exact Or.inl rfl | exact Or.inr rfl)) (st_name (i := 5))
  (ss_cons (s_if (t_w (w_or (t_not (t_of (p_isi (T := "tuple") (by rfl) C.b_isinstance (dv 5) (by rfl) C.b_tuple (by decide +kernel)))) (w_or (t_ne hu (c_len C.b_len (a_cons (dv 5) a_nil)) (PFx.pp d_int)) (w_or1 (t_not (t_of (PFx.pp (c_fn (F_is_int C) hr (by decide) (by rfl) (a_cons (p_ix (dv 5) (PFx.pp d_int)) (a_cons (PFx.pp d_int) (a_cons (p_sub (dv 2) (PFx.pp d_int)) a_nil)))))))))))
  (ss_one (s_ret (de_f d_bl)))
  ss_nil)
  (ss_cons (s_if (t_w (w_or (t_not (t_of (PFx.pp (c_fn (F_is_int C) hr (by decide) (by rfl) (a_cons (p_ix (dv 5) (PFx.pp d_int)) (a_cons (PFx.pp d_int) (a_cons (p_sub (c_len C.b_len (a_cons (dv 0) a_nil)) (PFx.pp d_int)) a_nil))))))) (w_or (t_not (t_of (PFx.pp (c_fn (F_is_exact_price C) hr (by decide) (by rfl) (a_cons (p_ix (dv 5) (PFx.pp d_int)) a_nil))))) (w_or1 (t_eq hu (p_ix (dv 5) (PFx.pp d_int)) (PFx.pp (d_gtup (is := [0, 1]) (by rfl) C.c_NOUGHT)))))))
  (ss_one (s_ret (de_f d_bl)))
  ss_nil)
  (ss_one (s_asgU (de_f (f_tup (b_cons (c_fn (F_plus C) hr (by decide) (by rfl) (a_cons (p_ix (dv 3) (p_ix (dv 5) (PFx.pp d_int))) (a_cons (p_ix (dv 5) (PFx.pp d_int)) a_nil))) (b_cons (c_fn (F_plus C) hr (by decide) (by rfl) (a_cons (p_ix (dv 4) (p_ix (dv 5) (PFx.pp d_int))) (a_cons (p_ix (dv 5) (PFx.pp d_int)) a_nil))) b_nil)))) (pg_tup rfl (pgs_cons (g_sub (pv 3) (p_ix (dv 5) (PFx.pp d_int))) (pgs_cons (g_sub (pv 4) (p_ix (dv 5) (PFx.pp d_int))) pgs_nil))) (su_tup (n := 2) (su_cons (su_sub (i := 3)) (su_cons (su_sub (i := 4)) su_nil))))))))
  (ss_cons (s_setLc (i := 6) (own := [("one", 5)]) rfl nd rfl rfl (sw_true rfl rfl rfl (by decide +kernel)) (i_seq (dv 1)) (blkOk_by (N := N_are_pairs) (own := [("one", 5)]) (by kernel_rfl)) (ct_name (i := 5) (by decide)) (fun _ _ _ _ _ => (pg_name (i := 5) nd rfl (by first | exact Or.inl rfl | exact Or.inr rfl))) (fun _ _ _ _ _ => ts_nil) (fun _ _ _ _ _ => (f_cut (dv 5) o_none (o_some (PFx.pp d_int)))))
  (ss_frz 6 (ss_one (s_ret (de_f (PPx.pf (v_and (p_eq hu (dv 6) (PFx.pp (f_sset hu C.b_sorted C.b_set (dv 6)))) (v_and (p_eq hu (dv 3) (PFx.pp (f_rep (PFx.pp (f_lst (b_cons (d_gtup (is := [1, 1]) (by rfl) C.c_ONE) b_nil))) (dv 2)))) (v_one (p_eq hu (dv 4) (PFx.pp (c_list C.b_list (a_cons (dv 0) a_nil))))))))))))))))) (by decide))
abbrev N_are_lots : List Str := ["needs", "value", "every", "lot", "one"]
noncomputable def b_are_lots : DS → Option Out :=
  (fSeq (fIf (cNot (cTru (pIsi "tuple" (pVar 1))))
  (fRet (eP (pC (.bl false))))
  fNil)
  (fSeq (fSet 2 (eP (pLst qNil)))
  (fSeq (fFor (iSeq (gImm (pVar 1))) (gdN 3)
  (fSeq (fIf (cOr (cNot (cTru (pIsi "tuple" (pVar 3)))) (cNot (cTru (pCall oAll (qCons (pLc (iSeq (gImm (pVar 3))) (gdN 4) cYes (pFn g_is_int (qCons (pVar 4) (qCons (pC (.int 0)) (qCons (pOp oSub (pCall oLen (qCons (pVar 0) qNil)) (pC (.int 1))) qNil)))) [4]) qNil)))))
  (fRet (eP (pC (.bl false))))
  fNil)
  (fSeq (fIf (cOr (cBl (pOp oEq (pVar 3) (pTup qNil))) (cOr (cBl (pOp oNe (pCall oList (qCons (pVar 3) qNil)) (pCall oSorted (qCons (pVar 3) qNil)))) (cBl (pOp oNe (pOp oIx (pFn g_summed (qCons (pLc (iSeq (gImm (pVar 3))) (gdN 4) cYes (gImm (pOp oIx (pVar 0) (pVar 4))) [4]) qNil)) (pC (.int 1))) (pC (.int 1))))))
  (fRet (eP (pC (.bl false))))
  fNil)
  (fExt 2 (pVar 3)))))
  (fRet (eP (gImm (pAnd (pOp oEq (pCall oSorted (qCons (pVar 2) qNil)) (pRg1 (pCall oLen (qCons (pVar 0) qNil)))) (pOp oEq (pCall oList (qCons (pVar 1) qNil)) (pCall oSorted (qCons (pVar 1) qNil))))))))))
noncomputable def g_are_lots : List D → Option D := gOf 2 N_are_lots b_are_lots
theorem sc_are_lots : FnScope N_are_lots ["needs", "value"] (defScope (top 32)) := ⟨rfl, rfl, rfl, by decide +kernel, rfl, by decide +kernel, by decide +kernel⟩
theorem F_are_lots {P : Program} {w : World} {K : PySem.W.Frag} {mg : Str → Option Value} {base : Heap} (C : Ctx K mg) : FunP P w K mg base "are_lots" 4 g_are_lots :=
  mkP (k := 3) (W := [2, 3]) (N := N_are_lots) (ps := ["needs", "value"]) C.d_are_lots sc_are_lots (hb := fun f cdv A outer s H E hr => by
  have nd := sc_are_lots.nd
  have hu := hr.units
  have hu1 := hu1_64 hu
  exact ss_wide (W' := [2, 3]) (ss_cons (s_if (t_not (t_of (p_isi (T := "tuple") (by rfl) C.b_isinstance (dv 1) (by rfl) C.b_tuple (by decide +kernel))))
  (ss_one (s_ret (de_f d_bl)))
  ss_nil)
  (ss_cons (s_set (i := 2) nd rfl (by first | exact Or.inl rfl | exact Or.inr rfl) (de_f (f_lst b_nil)))
  (ss_cons (s_for PassesOwn.never rfl (i_seq (dv 1)) (pg_name (i := 3) nd rfl (by first | exact Or.inl rfl | exact Or.inr rfl)) (st_name (i := 3))
  (ss_cons (s_if (t_w (w_or (t_not (t_of (p_isi (T := "tuple") (by rfl) C.b_isinstance (dv 3) (by rfl) C.b_tuple (by decide +kernel)))) (w_or1 (t_not (t_of (c_all C.b_all (a_cons (PFx.pp (f_lc (own := [("one", 4)]) rfl nd (i_seq (dv 3)) (blkOk_by (N := N_are_lots) (own := [("one", 4)]) (by kernel_rfl)) (ct_name (i := 4) (by decide)) (fun _ _ _ _ _ => (pg_name (i := 4) nd rfl (by first | exact Or.inl rfl | exact Or.inr rfl))) (fun _ _ _ _ _ => ts_nil) (fun _ _ _ _ _ => (c_fn (F_is_int C) hr (by decide) (by rfl) (a_cons (dv 4) (a_cons (PFx.pp d_int) (a_cons (p_sub (c_len C.b_len (a_cons (dv 0) a_nil)) (PFx.pp d_int)) a_nil))))))) a_nil)))))))
  (ss_one (s_ret (de_f d_bl)))
  ss_nil)
  (ss_cons (s_if (t_w (w_or (t_eq hu (dv 3) (PFx.pp (f_tup b_nil))) (w_or (t_ne hu (PFx.pp (c_list C.b_list (a_cons (dv 3) a_nil))) (PFx.pp (c_sorted hu C.b_sorted (a_cons (dv 3) a_nil)))) (w_or1 (t_ne hu (p_ix (PFx.pp (c_fn (F_summed C) hr (by decide) (by rfl) (a_cons (PFx.pp (f_lc (own := [("one", 4)]) rfl nd (i_seq (dv 3)) (blkOk_by (N := N_are_lots) (own := [("one", 4)]) (by kernel_rfl)) (ct_name (i := 4) (by decide)) (fun _ _ _ _ _ => (pg_name (i := 4) nd rfl (by first | exact Or.inl rfl | exact Or.inr rfl))) (fun _ _ _ _ _ => ts_nil) (fun _ _ _ _ _ => (PPx.pf (p_ix (dv 0) (dv 4)))))) a_nil))) (PFx.pp d_int)) (PFx.pp d_int))))))
  (ss_one (s_ret (de_f d_bl)))
  ss_nil)
  (ss_one (s_ext (pv 2) (dv 3))))))
  (ss_one (s_ret (de_f (PPx.pf (v_and (p_eq hu (PFx.pp (c_sorted hu C.b_sorted (a_cons (dv 2) a_nil))) (PFx.pp (f_lrg1 C.b_list C.b_range (c_len C.b_len (a_cons (dv 0) a_nil))))) (v_one (p_eq hu (PFx.pp (c_list C.b_list (a_cons (dv 1) a_nil))) (PFx.pp (c_sorted hu C.b_sorted (a_cons (dv 1) a_nil))))))))))))) (by decide))
abbrev N_shows_fewest_moved : List Str := ["needs", "value", "most"]
noncomputable def b_shows_fewest_moved : DS → Option Out :=
  (fSeq (fExp (eP (pFn g_look_at_needs (qCons (pVar 0) qNil))))
  (fSeq (fIf (cOr (cNot (cTru (pFn g_is_told (qCons (pVar 1) (qCons (pTup (qCons (pC (.int 4)) qNil)) qNil))))) (cOr (cBl (pOp oNe (pOp oIx (pVar 1) (pC (.int 0))) (pC (.str "moved")))) (cNot (cTru (pFn g_are_pairs (qCons (pVar 0) (qCons (pOp oIx (pVar 1) (pC (.int 2))) qNil)))))))
  (fRet (eP (pC (.bl false))))
  fNil)
  (fSeq (fSet 2 (eP (gImm (pCall oLen (qCons (pFn g_told_lots (qCons (pVar 0) qNil)) qNil)))))
  (fSeq (fIf (cNot (cTru (pFn g_is_int (qCons (pOp oIx (pVar 1) (pC (.int 1))) (qCons (pOp oSub (pCall oLen (qCons (pVar 0) qNil)) (pVar 2)) (qCons (pOp oSub (pCall oLen (qCons (pVar 0) qNil)) (pVar 2)) qNil))))))
  (fRet (eP (pC (.bl false))))
  fNil)
  (fSeq (fIf (cBl (pOp oNe (pCall oLen (qCons (pOp oIx (pVar 1) (pC (.int 2))) qNil)) (pOp oAdd (pOp oIx (pFn g_summed (qCons (pVar 0) qNil)) (pC (.int 0))) (pOp oIx (pVar 1) (pC (.int 1))))))
  (fRet (eP (pC (.bl false))))
  fNil)
  (fRet (eP (gImm (pAnd (pFn g_are_lots (qCons (pVar 0) (qCons (pOp oIx (pVar 1) (pC (.int 3))) qNil))) (pOp oEq (pCall oLen (qCons (pOp oIx (pVar 1) (pC (.int 3))) qNil)) (pVar 2)))))))))))
noncomputable def g_shows_fewest_moved : List D → Option D := gOf 2 N_shows_fewest_moved b_shows_fewest_moved
theorem sc_shows_fewest_moved : FnScope N_shows_fewest_moved ["needs", "value"] (defScope (top 33)) := ⟨rfl, rfl, rfl, by decide +kernel, rfl, by decide +kernel, by decide +kernel⟩
theorem F_shows_fewest_moved {P : Program} {w : World} {K : PySem.W.Frag} {mg : Str → Option Value} {base : Heap} (C : Ctx K mg) : FunP P w K mg base "shows_fewest_moved" 8 g_shows_fewest_moved :=
  mkP (k := 7) (W := [2]) (N := N_shows_fewest_moved) (ps := ["needs", "value"]) C.d_shows_fewest_moved sc_shows_fewest_moved (hb := fun f cdv A outer s H E hr => by
  have nd := sc_shows_fewest_moved.nd
  have hu := hr.units
  have hu1 := hu1_64 hu
  exact ss_wide (W' := [2]) (ss_cons (s_expr (de_f (c_fn (F_look_at_needs C) hr (by decide) (by rfl) (a_cons (dv 0) a_nil))))
  (ss_cons (s_if (t_w (w_or (t_not (t_of (PFx.pp (c_fn (F_is_told C) hr (by decide) (by rfl) (a_cons (dv 1) (a_cons (PFx.pp (f_tup (b_cons d_int b_nil))) a_nil)))))) (w_or (t_ne hu (p_ix (dv 1) (PFx.pp d_int)) (PFx.pp (d_gstr (by rfl) C.c_MOVED))) (w_or1 (t_not (t_of (PFx.pp (c_fn (F_are_pairs C) hr (by decide) (by rfl) (a_cons (dv 0) (a_cons (p_ix (dv 1) (PFx.pp d_int)) a_nil))))))))))
  (ss_one (s_ret (de_f d_bl)))
  ss_nil)
  (ss_cons (s_set (i := 2) nd rfl (by first | exact Or.inl rfl | exact Or.inr rfl) (de_f (PPx.pf (c_len C.b_len (a_cons (PFx.pp (c_fn (F_told_lots C) hr (by decide) (by rfl) (a_cons (dv 0) a_nil))) a_nil)))))
  (ss_cons (s_if (t_not (t_of (PFx.pp (c_fn (F_is_int C) hr (by decide) (by rfl) (a_cons (p_ix (dv 1) (PFx.pp d_int)) (a_cons (p_sub (c_len C.b_len (a_cons (dv 0) a_nil)) (dv 2)) (a_cons (p_sub (c_len C.b_len (a_cons (dv 0) a_nil)) (dv 2)) a_nil)))))))
  (ss_one (s_ret (de_f d_bl)))
  ss_nil)
  (ss_cons (s_if (t_ne hu (c_len C.b_len (a_cons (p_ix (dv 1) (PFx.pp d_int)) a_nil)) (p_add (p_ix (PFx.pp (c_fn (F_summed C) hr (by decide) (by rfl) (a_cons (dv 0) a_nil))) (PFx.pp d_int)) (p_ix (dv 1) (PFx.pp d_int))))
  (ss_one (s_ret (de_f d_bl)))
  ss_nil)
  (ss_one (s_ret (de_f (PPx.pf (v_and (PFx.pp (c_fn (F_are_lots C) hr (by decide) (by rfl) (a_cons (dv 0) (a_cons (p_ix (dv 1) (PFx.pp d_int)) a_nil)))) (v_one (p_eq hu (c_len C.b_len (a_cons (p_ix (dv 1) (PFx.pp d_int)) a_nil)) (dv 2))))))))))))) (by decide))
abbrev N_ways_of_pairs : List Str := ["needs", "pairs", "found", "part", "place", "worn", "row"]
noncomputable def b_ways_of_pairs : DS → Option Out :=
  (fSeq (fExp (eP (pFn g_look_at_needs (qCons (pVar 0) qNil))))
  (fSeq (fIf (cNot (cTru (pFn g_are_pairs (qCons (pVar 0) (qCons (pVar 1) qNil)))))
  (fun _ => none)
  fNil)
  (fSeq (fSet 2 (eP (pLc (iRg1 (qCons (pOp oIx (pFn g_summed (qCons (pVar 0) qNil)) (pC (.int 0))) qNil)) (gdN 3) cYes (pOp oRep (pLst (qCons (pC (.tup [(.int 0), (.int 1)])) qNil)) (pCall oLen (qCons (pVar 0) qNil))) [3])))
  (fSeq (fFor (iSeq (gImm (pVar 1))) (gdTup 3 (gdCons (gdN 3) (gdCons (gdN 4) (gdCons (gdN 5) gdNil))))
  (fAsg (gdSub2 2 (pVar 3) (pVar 4)) (eP (pFn g_over (qCons (pVar 5) (qCons (pOp oIx (pVar 0) (pVar 4)) qNil))))))
  (fFrz 2 (fRet (eP (pCall oTuple (qCons (pLc (iSeq (gImm (pVar 2))) (gdN 6) cYes (pCall oTuple (qCons (pVar 6) qNil)) [6]) qNil)))))))))
noncomputable def g_ways_of_pairs : List D → Option D := gOf 2 N_ways_of_pairs b_ways_of_pairs
theorem sc_ways_of_pairs : FnScope N_ways_of_pairs ["needs", "pairs"] (defScope (top 34)) := ⟨rfl, rfl, rfl, by decide +kernel, rfl, by decide +kernel, by decide +kernel⟩
theorem F_ways_of_pairs {P : Program} {w : World} {K : PySem.W.Frag} {mg : Str → Option Value} {base : Heap} (C : Ctx K mg) : FunP P w K mg base "ways_of_pairs" 8 g_ways_of_pairs :=
  mkP (k := 7) (W := [2, 3, 4, 5]) (N := N_ways_of_pairs) (ps := ["needs", "pairs"]) C.d_ways_of_pairs sc_ways_of_pairs (hb := fun f cdv A outer s H E hr => by
  have nd := sc_ways_of_pairs.nd
  have hu := hr.units
  have hu1 := hu1_64 hu
  exact ss_wide (W' := [2, 3, 4, 5]) (ss_cons (s_expr (de_f (c_fn (F_look_at_needs C) hr (by decide) (by rfl) (a_cons (dv 0) a_nil))))
  (ss_cons (s_if (t_not (t_of (PFx.pp (c_fn (F_are_pairs C) hr (by decide) (by rfl) (a_cons (dv 0) (a_cons (dv 1) a_nil))))))
  (ss_one s_never)
  ss_nil)
  (ss_cons (s_setLc (i := 2) (own := [("part", 3)]) rfl nd rfl rfl (sw_true rfl rfl rfl (by decide +kernel)) (i_rg1 (by rfl) C.b_range (a_cons (p_ix (PFx.pp (c_fn (F_summed C) hr (by decide) (by rfl) (a_cons (dv 0) a_nil))) (PFx.pp d_int)) a_nil)) (blkOk_by (N := N_ways_of_pairs) (own := [("part", 3)]) (by kernel_rfl)) (ct_name (i := 3) (by decide)) (fun _ _ _ _ _ => (pg_name (i := 3) nd rfl (by first | exact Or.inl rfl | exact Or.inr rfl))) (fun _ _ _ _ _ => ts_nil) (fun _ _ _ _ _ => (f_rep (PFx.pp (f_lst (b_cons (d_gtup (is := [0, 1]) (by rfl) C.c_NOUGHT) b_nil))) (c_len C.b_len (a_cons (dv 0) a_nil)))))
  (ss_cons (s_for PassesOwn.never rfl (i_seq (dv 1)) (pg_tup rfl (pgs_cons (pg_name (i := 3) nd rfl (by first | exact Or.inl rfl | exact Or.inr rfl)) (pgs_cons (pg_name (i := 4) nd rfl (by first | exact Or.inl rfl | exact Or.inr rfl)) (pgs_cons (pg_name (i := 5) nd rfl (by first | exact Or.inl rfl | exact Or.inr rfl)) pgs_nil)))) (st_tup (n := 3) (st_cons (st_name (i := 3)) (st_cons (st_name (i := 4)) (st_cons (st_name (i := 5)) st_nil))))
  (ss_one (s_asgU (de_f (c_fn (F_over C) hr (by decide) (by rfl) (a_cons (dv 5) (a_cons (p_ix (dv 0) (dv 4)) a_nil)))) (g_sub (q_ix (pv 2) (dv 3)) (dv 4)) (su_sub2 (i := 2)))))
  (ss_frz 2 (ss_one (s_ret (de_f (c_tuple C.b_tuple (a_cons (PFx.pp (f_lc (own := [("row", 6)]) rfl nd (i_seq (dv 2)) (blkOk_by (N := N_ways_of_pairs) (own := [("row", 6)]) (by kernel_rfl)) (ct_name (i := 6) (by decide)) (fun _ _ _ _ _ => (pg_name (i := 6) nd rfl (by first | exact Or.inl rfl | exact Or.inr rfl))) (fun _ _ _ _ _ => ts_nil) (fun _ _ _ _ _ => (c_tuple C.b_tuple (a_cons (dv 6) a_nil))))) a_nil)))))))))) (by decide))
abbrev N_law_pot_ : List Str := ["script", "place", "cell", "own", "small"]
def b_law_pot_ : DS → Option Out :=
  (fSeq (fSet 2 (eP (gImm (pIf (cBl (pOp oLt (pVar 1) (pCall oLen (qCons (pVar 0) qNil)))) (pOp oIx (pVar 0) (pVar 1)) (pOp oAdd (pOp oAdd (pOp oMod (pCall oInt (qCons (pCall oSum (qCons (pCut (pVar 0) (fun _ => some none) (poS (pC (.int 1)))) qNil)) qNil)) (pC (.int 1000403))) (pOp oMul (pC (.int 5081)) (pVar 1))) (pC (.int 3127)))))))
  (fSeq (fSet 3 (eP (gImm (pOp oMul (pOp oMod (pCall oInt (qCons (pCall oAbs (qCons (pVar 2) qNil)) qNil)) (pOp oPowB (pOp oPowB (pC (.int 10)) (pC (.int 60))) (pC (.int 5)))) (pCall oInt (qCons (pOp oGe (pCall oAbs (qCons (pVar 2) qNil)) (pOp oPowB (pC (.int 10)) (pC (.int 18)))) qNil))))))
  (fSeq (fSet 4 (eP (gImm (pOp oMod (pCall oInt (qCons (pVar 2) qNil)) (pC (.int 2305843009213693921))))))
  (fRet (eP (pLst (qCons (gImm (pVar 3)) (qCons (gImm (pOp oMod (pCall oInt (qCons (pOp oAdd (pOp oAdd (pOp oMul (pVar 4) (pC (.int 70249))) (pOp oMul (pOp oMul (pC (.int 13103)) (pVar 1)) (pVar 1))) (pC (.int 2963))) qNil)) (pC (.int 2305843009213693921)))) (qCons (pC (.int 0)) qNil)))))))))
def g_law_pot_ : List D → Option D := gOf 2 N_law_pot_ b_law_pot_
theorem sc_law_pot_ : FnScope N_law_pot_ ["script", "place"] (defScope (top 36)) := ⟨rfl, rfl, rfl, by decide +kernel, rfl, by decide +kernel, by decide +kernel⟩
theorem F_law_pot_ {P : Program} {w : World} {K : PySem.W.Frag} {mg : Str → Option Value} {base : Heap} (C : Ctx K mg) : FunP P w K mg base "_law_pot" 1 g_law_pot_ :=
  mkP (k := 0) (W := [2, 3, 4]) (N := N_law_pot_) (ps := ["script", "place"]) C.d_law_pot_ sc_law_pot_ (hb := fun f cdv A outer s H E hr => by
  have nd := sc_law_pot_.nd
  have hu := hr.units
  have hu1 := hu1_64 hu
  exact ss_wide (W' := [2, 3, 4]) (ss_cons (s_set (i := 2) nd rfl (by first | exact Or.inl rfl | exact Or.inr rfl) (de_f (PPx.pf (v_if (t_lt (dv 1) (c_len C.b_len (a_cons (dv 0) a_nil))) (p_ix (dv 0) (dv 1)) (p_add (p_add (p_mod (c_int C.b_int (a_cons (c_sum C.b_sum (a_cons (PFx.pp (f_cut (dv 0) o_none (o_some (PFx.pp d_int)))) a_nil)) a_nil)) (PFx.pp d_int)) (p_mul (PFx.pp d_int) (dv 1))) (PFx.pp d_int))))))
  (ss_cons (s_set (i := 3) nd rfl (by first | exact Or.inl rfl | exact Or.inr rfl) (de_f (PPx.pf (p_mul (p_mod (c_int C.b_int (a_cons (c_abs C.b_abs (a_cons (dv 2) a_nil)) a_nil)) (p_powB (p_powB (PFx.pp d_int) (PFx.pp d_int)) (PFx.pp d_int))) (c_int C.b_int (a_cons (p_ge (c_abs C.b_abs (a_cons (dv 2) a_nil)) (p_powB (PFx.pp d_int) (PFx.pp d_int))) a_nil))))))
  (ss_cons (s_set (i := 4) nd rfl (by first | exact Or.inl rfl | exact Or.inr rfl) (de_f (PPx.pf (p_mod (c_int C.b_int (a_cons (dv 2) a_nil)) (PFx.pp d_int)))))
  (ss_one (s_ret (de_f (f_lst (b_cons (PPx.pf (dv 3)) (b_cons (PPx.pf (p_mod (c_int C.b_int (a_cons (p_add (p_add (p_mul (dv 4) (PFx.pp d_int)) (p_mul (p_mul (PFx.pp d_int) (dv 1)) (dv 1))) (PFx.pp d_int)) a_nil)) (PFx.pp d_int))) (b_cons d_int b_nil)))))))))) (by decide))
abbrev N_law_take_ : List Str := ["pot", "upto", "digit", "prime", "mixture"]
def b_law_take_ : DS → Option Out :=
  (fSeq (fIf (cBl (pOp oGt (pOp oIx (pVar 0) (pC (.int 0))) (pC (.int 0))))
  (fSeq (fSet 2 (eP (gImm (pOp oMod (pCall oInt (qCons (pOp oIx (pVar 0) (pC (.int 0))) qNil)) (pVar 1)))))
  (fSeq (fAsg (gdSub 0 (pC (.int 0))) (eP (gImm (pOp oDiv (pOp oIx (pVar 0) (pC (.int 0))) (pVar 1)))))
  (fRet (eN 2))))
  fNil)
  (fSeq (fAsg (gdSub 0 (pC (.int 2))) (eP (gImm (pOp oAdd (pOp oIx (pVar 0) (pC (.int 2))) (pC (.int 1))))))
  (fSeq (fSet 3 (eP (gImm (pOp oIx (pLst (qCons (pC (.int 2147483647)) (qCons (pC (.int 2147483629)) (qCons (pC (.int 2147483587)) (qCons (pC (.int 2147483579)) (qCons (pC (.int 2147483563)) qNil)))))) (pOp oMod (pCall oInt (qCons (pOp oIx (pVar 0) (pC (.int 2))) qNil)) (pC (.int 5)))))))
  (fSeq (fSet 4 (eP (gImm (pOp oMod (pCall oInt (qCons (pOp oPowB (pCall oInt (qCons (pOp oAdd (pOp oAdd (pOp oIx (pVar 0) (pC (.int 1))) (pOp oMul (pOp oMul (pC (.int 90011)) (pOp oIx (pVar 0) (pC (.int 2)))) (pOp oIx (pVar 0) (pC (.int 2))))) (pC (.int 3019))) qNil)) (pC (.int 3))) qNil)) (pVar 3)))))
  (fSeq (fSet 4 (eP (gImm (pOp oMod (pCall oInt (qCons (pOp oMul (pVar 4) (pOp oAdd (pOp oMod (pCall oInt (qCons (pVar 4) qNil)) (pC (.int 13751))) (pOp oMul (pC (.int 439)) (pOp oIx (pVar 0) (pC (.int 2)))))) qNil)) (pC (.int 2305843009213693907))))))
  (fRet (eP (gImm (pOp oMod (pCall oInt (qCons (pOp oDiv (pVar 4) (pC (.int 241))) qNil)) (pVar 1))))))))))
def g_law_take_ : List D → Option (D × D) := gIOf 2 N_law_take_ b_law_take_
theorem sc_law_take_ : FnScope N_law_take_ ["pot", "upto"] (defScope (top 37)) := ⟨rfl, rfl, rfl, by decide +kernel, rfl, by decide +kernel, by decide +kernel⟩
theorem F_law_take_ {P : Program} {w : World} {K : PySem.W.Frag} {mg : Str → Option Value} {base : Heap} (C : Ctx K mg) : FunI P w K mg base "_law_take" 1 g_law_take_ :=
  mkI (k := 0) (W := [2, 3, 4]) (N := N_law_take_) (ps := ["pot", "upto"]) C.d_law_take_ sc_law_take_ (hb := fun f cdv A outer s H E hr => by
  have nd := sc_law_take_.nd
  have hu := hr.units
  have hu1 := hu1_64 hu
  exact ss_wide (W' := [2, 3, 4]) (ss_cons (s_if (t_gt (p_ix (dv 0) (PFx.pp d_int)) (PFx.pp d_int))
  (ss_cons (s_set (i := 2) nd rfl (by first | exact Or.inl rfl | exact Or.inr rfl) (de_f (PPx.pf (p_mod (c_int C.b_int (a_cons (p_ix (dv 0) (PFx.pp d_int)) a_nil)) (dv 1)))))
  (ss_cons (s_asgU (de_f (PPx.pf (p_fdiv (p_ix (dv 0) (PFx.pp d_int)) (dv 1)))) (g_sub (pv 0) (PFx.pp d_int)) (su_sub (i := 0)))
  (ss_one (s_ret (dn 2)))))
  ss_nil)
  (ss_cons (s_asgU (de_f (PPx.pf (p_add (p_ix (dv 0) (PFx.pp d_int)) (PFx.pp d_int)))) (g_sub (pv 0) (PFx.pp d_int)) (su_sub (i := 0)))
  (ss_cons (s_set (i := 3) nd rfl (by first | exact Or.inl rfl | exact Or.inr rfl) (de_f (PPx.pf (p_ix (PFx.pp (f_lst (b_cons d_int (b_cons d_int (b_cons d_int (b_cons d_int (b_cons d_int b_nil))))))) (p_mod (c_int C.b_int (a_cons (p_ix (dv 0) (PFx.pp d_int)) a_nil)) (PFx.pp d_int))))))
  (ss_cons (s_set (i := 4) nd rfl (by first | exact Or.inl rfl | exact Or.inr rfl) (de_f (PPx.pf (p_mod (c_int C.b_int (a_cons (p_powB (c_int C.b_int (a_cons (p_add (p_add (p_ix (dv 0) (PFx.pp d_int)) (p_mul (p_mul (PFx.pp d_int) (p_ix (dv 0) (PFx.pp d_int))) (p_ix (dv 0) (PFx.pp d_int)))) (PFx.pp d_int)) a_nil)) (PFx.pp d_int)) a_nil)) (dv 3)))))
  (ss_cons (s_set (i := 4) nd rfl (by first | exact Or.inl rfl | exact Or.inr rfl) (de_f (PPx.pf (p_mod (c_int C.b_int (a_cons (p_mul (dv 4) (p_add (p_mod (c_int C.b_int (a_cons (dv 4) a_nil)) (PFx.pp d_int)) (p_mul (PFx.pp d_int) (p_ix (dv 0) (PFx.pp d_int))))) a_nil)) (PFx.pp d_int)))))
  (ss_one (s_ret (de_f (PPx.pf (p_mod (c_int C.b_int (a_cons (p_fdiv (dv 4) (PFx.pp d_int)) a_nil)) (dv 1))))))))))) (by decide))
abbrev N_law_of_ : List Str := ["pot", "some"]
def b_law_of_ : DS → Option Out :=
  (fRet (eIx 1 (eFnI g_law_take_ 0 (xCons (eP (gImm (pCall oLen (qCons (pVar 1) qNil)))) xNil))))
def g_law_of_ : List D → Option (D × D) := gIOf 2 N_law_of_ b_law_of_
theorem sc_law_of_ : FnScope N_law_of_ ["pot", "some"] (defScope (top 38)) := ⟨rfl, rfl, rfl, by decide +kernel, rfl, by decide +kernel, by decide +kernel⟩
theorem F_law_of_ {P : Program} {w : World} {K : PySem.W.Frag} {mg : Str → Option Value} {base : Heap} (C : Ctx K mg) : FunI P w K mg base "_law_of" 2 g_law_of_ :=
  mkI (k := 1) (W := []) (N := N_law_of_) (ps := ["pot", "some"]) C.d_law_of_ sc_law_of_ (hb := fun f cdv A outer s H E hr => by
  have nd := sc_law_of_.nd
  have hu := hr.units
  have hu1 := hu1_64 hu
  exact ss_wide (W' := []) (ss_one (s_ret (e_ix (pv 1) (x_fnI (F_law_take_ C) hr (by decide) (by rfl) (pv 0) (x_cons (de_f (PPx.pf (c_len C.b_len (a_cons (dv 1) a_nil)))) x_nil))))) (by decide))
abbrev N_law_cells_ : List Str := ["script", "most"]
def b_law_cells_ : DS → Option Out :=
  (fRet (eP (pRg1 (pCall oMax2 (qCons (pC (.int 1)) (qCons (pCall oMin2 (qCons (pVar 1) (qCons (pCall oLen (qCons (pVar 0) qNil)) qNil))) qNil))))))
def g_law_cells_ : List D → Option D := gOf 2 N_law_cells_ b_law_cells_
theorem sc_law_cells_ : FnScope N_law_cells_ ["script", "most"] (defScope (top 39)) := ⟨rfl, rfl, rfl, by decide +kernel, rfl, by decide +kernel, by decide +kernel⟩
theorem F_law_cells_ {P : Program} {w : World} {K : PySem.W.Frag} {mg : Str → Option Value} {base : Heap} (C : Ctx K mg) : FunP P w K mg base "_law_cells" 1 g_law_cells_ :=
  mkP (k := 0) (W := []) (N := N_law_cells_) (ps := ["script", "most"]) C.d_law_cells_ sc_law_cells_ (hb := fun f cdv A outer s H E hr => by
  have nd := sc_law_cells_.nd
  have hu := hr.units
  have hu1 := hu1_64 hu
  exact ss_wide (W' := []) (ss_one (s_ret (de_f (f_lrg1 C.b_list C.b_range (c_max2 C.b_max (a_cons (PFx.pp d_int) (a_cons (c_min2 C.b_min (a_cons (dv 1) (a_cons (c_len C.b_len (a_cons (dv 0) a_nil)) a_nil))) a_nil))))))) (by decide))
abbrev N_law_some_ : List Str := ["pot", "pool", "many", "rests", "found", "lap"]
def b_law_some_ : DS → Option Out :=
  (fSeq (fPar 3 4 (xCons (eP (pCall oList (qCons (pVar 1) qNil))) (xCons (eP (pLst qNil)) xNil)))
  (fSeq (fFor (iRg1 (qCons (pVar 2) qNil)) (gdN 5)
  (fApp 4 (ePop 3 (eFnI g_law_take_ 0 (xCons (eP (gImm (pCall oLen (qCons (pVar 3) qNil)))) xNil)))))
  (fRet (eN 4))))
def g_law_some_ : List D → Option (D × D) := gIOf 3 N_law_some_ b_law_some_
theorem sc_law_some_ : FnScope N_law_some_ ["pot", "pool", "many"] (defScope (top 40)) := ⟨rfl, rfl, rfl, by decide +kernel, rfl, by decide +kernel, by decide +kernel⟩
theorem F_law_some_ {P : Program} {w : World} {K : PySem.W.Frag} {mg : Str → Option Value} {base : Heap} (C : Ctx K mg) : FunI P w K mg base "_law_some" 2 g_law_some_ :=
  mkI (k := 1) (W := [3, 4, 5]) (N := N_law_some_) (ps := ["pot", "pool", "many"]) C.d_law_some_ sc_law_some_ (hb := fun f cdv A outer s H E hr => by
  have nd := sc_law_some_.nd
  have hu := hr.units
  have hu1 := hu1_64 hu
  exact ss_wide (W' := [3, 4, 5]) (ss_cons (s_par (i := 3) (j := 4) rfl nd rfl rfl (by decide) rfl rfl (x_cons (de_f (c_list C.b_list (a_cons (dv 1) a_nil))) (x_cons (de_f (f_lst b_nil)) x_nil)))
  (ss_cons (s_for PassesOwn.never rfl (i_rg1 (by rfl) C.b_range (a_cons (dv 2) a_nil)) (pg_name (i := 5) nd rfl (by first | exact Or.inl rfl | exact Or.inr rfl)) (st_name (i := 5))
  (ss_one (s_app (pv 4) (e_pop (pv 3) (x_fnI (F_law_take_ C) hr (by decide) (by rfl) (pv 0) (x_cons (de_f (PPx.pf (c_len C.b_len (a_cons (dv 3) a_nil)))) x_nil))))))
  (ss_one (s_ret (dn 4))))) (by decide))
abbrev N_law_frac_ : List Str := ["top", "bottom", "one", "other", "sign"]
noncomputable def b_law_frac_ : DS → Option Out :=
  (fSeq (fPar 2 3 (xCons (eP (gImm (pCall oAbs (qCons (pVar 0) qNil)))) (xCons (eP (gImm (pCall oAbs (qCons (pVar 1) qNil)))) xNil)))
  (fSeq (fWhile (cBl (pOp oNe (pVar 3) (pC (.int 0))))
  (fPar 2 3 (xCons (eP (gImm (pVar 3))) (xCons (eP (gImm (pOp oMod (pVar 2) (pVar 3)))) xNil))))
  (fSeq (fSet 4 (eP (gImm (pIf (cBl (pOp oLt (pVar 1) (pC (.int 0)))) (fun τ => ((pC (.int 1)) τ).bind oUsub) (pC (.int 1))))))
  (fRet (eP (gImm (pTup (qCons (pOp oDiv (pOp oMul (pVar 4) (pVar 0)) (pVar 2)) (qCons (pOp oDiv (pOp oMul (pVar 4) (pVar 1)) (pVar 2)) qNil)))))))))
noncomputable def g_law_frac_ : List D → Option D := gOf 2 N_law_frac_ b_law_frac_
theorem sc_law_frac_ : FnScope N_law_frac_ ["top", "bottom"] (defScope (top 41)) := ⟨rfl, rfl, rfl, by decide +kernel, rfl, by decide +kernel, by decide +kernel⟩
theorem F_law_frac_ {P : Program} {w : World} {K : PySem.W.Frag} {mg : Str → Option Value} {base : Heap} (C : Ctx K mg) : FunP P w K mg base "_law_frac" 1 g_law_frac_ :=
  mkP (k := 0) (W := [2, 3, 4]) (N := N_law_frac_) (ps := ["top", "bottom"]) C.d_law_frac_ sc_law_frac_ (hb := fun f cdv A outer s H E hr => by
  have nd := sc_law_frac_.nd
  have hu := hr.units
  have hu1 := hu1_64 hu
  exact ss_wide (W' := [2, 3, 4]) (ss_cons (s_par (i := 2) (j := 3) rfl nd rfl rfl (by decide) rfl rfl (x_cons (de_f (PPx.pf (c_abs C.b_abs (a_cons (dv 0) a_nil)))) (x_cons (de_f (PPx.pf (c_abs C.b_abs (a_cons (dv 1) a_nil)))) x_nil)))
  (ss_cons (s_while PassesOwn.never (t_ne hu (dv 3) (PFx.pp d_int))
  (ss_one (s_par (i := 2) (j := 3) rfl nd rfl rfl (by decide) rfl rfl (x_cons (de_f (PPx.pf (dv 3))) (x_cons (de_f (PPx.pf (p_mod (dv 2) (dv 3)))) x_nil)))))
  (ss_cons (s_set (i := 4) nd rfl (by first | exact Or.inl rfl | exact Or.inr rfl) (de_f (PPx.pf (v_if (t_lt (dv 1) (PFx.pp d_int)) (p_neg (PFx.pp d_int)) (PFx.pp d_int)))))
  (ss_one (s_ret (de_f (PPx.pf (p_tup (a_cons (p_fdiv (p_mul (dv 4) (dv 0)) (dv 2)) (a_cons (p_fdiv (p_mul (dv 4) (dv 1)) (dv 2)) a_nil)))))))))) (by decide))
abbrev N_law_plus_ : List Str := ["one", "other"]
noncomputable def b_law_plus_ : DS → Option Out :=
  (fRet (eP (pFn g_law_frac_ (qCons (pOp oAdd (pOp oMul (pOp oIx (pVar 0) (pC (.int 0))) (pOp oIx (pVar 1) (pC (.int 1)))) (pOp oMul (pOp oIx (pVar 1) (pC (.int 0))) (pOp oIx (pVar 0) (pC (.int 1))))) (qCons (pOp oMul (pOp oIx (pVar 0) (pC (.int 1))) (pOp oIx (pVar 1) (pC (.int 1)))) qNil)))))
noncomputable def g_law_plus_ : List D → Option D := gOf 2 N_law_plus_ b_law_plus_
theorem sc_law_plus_ : FnScope N_law_plus_ ["one", "other"] (defScope (top 42)) := ⟨rfl, rfl, rfl, by decide +kernel, rfl, by decide +kernel, by decide +kernel⟩
theorem F_law_plus_ {P : Program} {w : World} {K : PySem.W.Frag} {mg : Str → Option Value} {base : Heap} (C : Ctx K mg) : FunP P w K mg base "_law_plus" 2 g_law_plus_ :=
  mkP (k := 1) (W := []) (N := N_law_plus_) (ps := ["one", "other"]) C.d_law_plus_ sc_law_plus_ (hb := fun f cdv A outer s H E hr => by
  have nd := sc_law_plus_.nd
  have hu := hr.units
  have hu1 := hu1_64 hu
  exact ss_wide (W' := []) (ss_one (s_ret (de_f (c_fn (F_law_frac_ C) hr (by decide) (by rfl) (a_cons (p_add (p_mul (p_ix (dv 0) (PFx.pp d_int)) (p_ix (dv 1) (PFx.pp d_int))) (p_mul (p_ix (dv 1) (PFx.pp d_int)) (p_ix (dv 0) (PFx.pp d_int)))) (a_cons (p_mul (p_ix (dv 0) (PFx.pp d_int)) (p_ix (dv 1) (PFx.pp d_int))) a_nil)))))) (by decide))
abbrev N_law_over_ : List Str := ["one", "other"]
noncomputable def b_law_over_ : DS → Option Out :=
  (fRet (eP (pFn g_law_frac_ (qCons (pOp oMul (pOp oIx (pVar 0) (pC (.int 0))) (pOp oIx (pVar 1) (pC (.int 1)))) (qCons (pOp oMul (pOp oIx (pVar 0) (pC (.int 1))) (pOp oIx (pVar 1) (pC (.int 0)))) qNil)))))
noncomputable def g_law_over_ : List D → Option D := gOf 2 N_law_over_ b_law_over_
theorem sc_law_over_ : FnScope N_law_over_ ["one", "other"] (defScope (top 43)) := ⟨rfl, rfl, rfl, by decide +kernel, rfl, by decide +kernel, by decide +kernel⟩
theorem F_law_over_ {P : Program} {w : World} {K : PySem.W.Frag} {mg : Str → Option Value} {base : Heap} (C : Ctx K mg) : FunP P w K mg base "_law_over" 2 g_law_over_ :=
  mkP (k := 1) (W := []) (N := N_law_over_) (ps := ["one", "other"]) C.d_law_over_ sc_law_over_ (hb := fun f cdv A outer s H E hr => by
  have nd := sc_law_over_.nd
  have hu := hr.units
  have hu1 := hu1_64 hu
  exact ss_wide (W' := []) (ss_one (s_ret (de_f (c_fn (F_law_frac_ C) hr (by decide) (by rfl) (a_cons (p_mul (p_ix (dv 0) (PFx.pp d_int)) (p_ix (dv 1) (PFx.pp d_int))) (a_cons (p_mul (p_ix (dv 0) (PFx.pp d_int)) (p_ix (dv 1) (PFx.pp d_int))) a_nil)))))) (by decide))
abbrev N_law_sum_ : List Str := ["some", "found", "one"]
noncomputable def b_law_sum_ : DS → Option Out :=
  (fSeq (fSet 1 (eP (pTup (qCons (pC (.int 0)) (qCons (pC (.int 1)) qNil)))))
  (fSeq (fFor (iSeq (gImm (pVar 0))) (gdN 2)
  (fSet 1 (eP (pFn g_law_plus_ (qCons (pVar 1) (qCons (pVar 2) qNil))))))
  (fRet (eN 1))))
noncomputable def g_law_sum_ : List D → Option D := gOf 1 N_law_sum_ b_law_sum_
theorem sc_law_sum_ : FnScope N_law_sum_ ["some"] (defScope (top 44)) := ⟨rfl, rfl, rfl, by decide +kernel, rfl, by decide +kernel, by decide +kernel⟩
theorem F_law_sum_ {P : Program} {w : World} {K : PySem.W.Frag} {mg : Str → Option Value} {base : Heap} (C : Ctx K mg) : FunP P w K mg base "_law_sum" 3 g_law_sum_ :=
  mkP (k := 2) (W := [1, 2]) (N := N_law_sum_) (ps := ["some"]) C.d_law_sum_ sc_law_sum_ (hb := fun f cdv A outer s H E hr => by
  have nd := sc_law_sum_.nd
  have hu := hr.units
  have hu1 := hu1_64 hu
  exact ss_wide (W' := [1, 2]) (ss_cons (s_set (i := 1) nd rfl (by first | exact Or.inl rfl | exact Or.inr rfl) (de_f (f_tup (b_cons d_int (b_cons d_int b_nil)))))
  (ss_cons (s_for PassesOwn.never rfl (i_seq (dv 0)) (pg_name (i := 2) nd rfl (by first | exact Or.inl rfl | exact Or.inr rfl)) (st_name (i := 2))
  (ss_one (s_set (i := 1) nd rfl (by first | exact Or.inl rfl | exact Or.inr rfl) (de_f (c_fn (F_law_plus_ C) hr (by decide) (by rfl) (a_cons (dv 1) (a_cons (dv 2) a_nil)))))))
  (ss_one (s_ret (dn 1))))) (by decide))
abbrev N_law_is_less_ : List Str := ["one", "other"]
def b_law_is_less_ : DS → Option Out :=
  (fRet (eP (gImm (pOp oLt (pOp oMul (pOp oIx (pVar 0) (pC (.int 0))) (pOp oIx (pVar 1) (pC (.int 1)))) (pOp oMul (pOp oIx (pVar 1) (pC (.int 0))) (pOp oIx (pVar 0) (pC (.int 1))))))))
def g_law_is_less_ : List D → Option D := gOf 2 N_law_is_less_ b_law_is_less_
theorem sc_law_is_less_ : FnScope N_law_is_less_ ["one", "other"] (defScope (top 45)) := ⟨rfl, rfl, rfl, by decide +kernel, rfl, by decide +kernel, by decide +kernel⟩
theorem F_law_is_less_ {P : Program} {w : World} {K : PySem.W.Frag} {mg : Str → Option Value} {base : Heap} (C : Ctx K mg) : FunP P w K mg base "_law_is_less" 1 g_law_is_less_ :=
  mkP (k := 0) (W := []) (N := N_law_is_less_) (ps := ["one", "other"]) C.d_law_is_less_ sc_law_is_less_ (hb := fun f cdv A outer s H E hr => by
  have nd := sc_law_is_less_.nd
  have hu := hr.units
  have hu1 := hu1_64 hu
  exact ss_wide (W' := []) (ss_one (s_ret (de_f (PPx.pf (p_lt (p_mul (p_ix (dv 0) (PFx.pp d_int)) (p_ix (dv 1) (PFx.pp d_int))) (p_mul (p_ix (dv 1) (PFx.pp d_int)) (p_ix (dv 0) (PFx.pp d_int)))))))) (by decide))
abbrev N_law_needs_drawn_ : List Str := ["pot", "places", "found", "size", "bottom", "lot", "rest", "place", "at"]
noncomputable def b_law_needs_drawn_ : DS → Option Out :=
  (fSeq (fSet 2 (eP (pLst qNil)))
  (fSeq (fWhile (cBl (pOp oLt (pCall oLen (qCons (pVar 2) qNil)) (pVar 1)))
  (fSeq (fSet 3 (eCall oMin2 (xCons (eP (gImm (pOp oSub (pVar 1) (pCall oLen (qCons (pVar 2) qNil))))) (xCons (eOp oAdd (eP (pC (.int 1))) (eCall oInt (xCons (eFnI g_law_take_ 0 (xCons (eP (pC (.int 3))) xNil)) xNil))) xNil))))
  (fSeq (fSet 4 (eFnI g_law_of_ 0 (xCons (eP (pLst (qCons (pC (.int 1)) (qCons (pC (.int 2)) (qCons (pC (.int 3)) (qCons (pC (.int 4)) (qCons (pC (.int 6)) qNil))))))) xNil)))
  (fSeq (fSet 5 (eLc (jP (iRg1 (qCons (pVar 3) qNil))) (gdN 7) kYes (eFn g_law_frac_ (xCons (eOp oAdd (eP (gImm (pVar 4))) (eCall oInt (xCons (eFnI g_law_take_ 0 (xCons (eP (gImm (pOp oMul (pC (.int 2)) (pVar 4)))) xNil)) xNil))) (xCons (eP (gImm (pVar 4))) xNil))) [7]))
  (fSeq (fSet 6 (eP (pFn g_law_sum_ (qCons (pVar 5) qNil))))
  (fSeq (fIf (cBl (pOp oGt (pOp oIx (pVar 6) (pC (.int 1))) (pC (.int 1))))
  (fAsg (gdSub 5 (fun τ => ((pC (.int 1)) τ).bind oUsub)) (eP (pFn g_law_plus_ (qCons (pOp oIx (pVar 5) (fun τ => ((pC (.int 1)) τ).bind oUsub)) (qCons (pFn g_law_frac_ (qCons (pOp oSub (pOp oIx (pVar 6) (pC (.int 1))) (pOp oMod (pOp oIx (pVar 6) (pC (.int 0))) (pOp oIx (pVar 6) (pC (.int 1))))) (qCons (pOp oIx (pVar 6) (pC (.int 1))) qNil))) qNil)))))
  fNil)
  (fExt 2 (pVar 5))))))))
  (fRet (eCall oTuple (xCons (eLc (jSeq (eFnI g_law_some_ 0 (xCons (eP (pRg1 (pVar 1))) (xCons (eP (gImm (pVar 1))) xNil)))) (gdN 8) kYes (eP (gImm (pOp oIx (pVar 2) (pVar 8)))) [8]) xNil)))))
noncomputable def g_law_needs_drawn_ : List D → Option (D × D) := gIOf 2 N_law_needs_drawn_ b_law_needs_drawn_
theorem sc_law_needs_drawn_ : FnScope N_law_needs_drawn_ ["pot", "places"] (defScope (top 46)) := ⟨rfl, rfl, rfl, by decide +kernel, rfl, by decide +kernel, by decide +kernel⟩
theorem F_law_needs_drawn_ {P : Program} {w : World} {K : PySem.W.Frag} {mg : Str → Option Value} {base : Heap} (C : Ctx K mg) : FunI P w K mg base "_law_needs_drawn" 4 g_law_needs_drawn_ :=
  mkI (k := 3) (W := [2, 3, 4, 5, 6]) (N := N_law_needs_drawn_) (ps := ["pot", "places"]) C.d_law_needs_drawn_ sc_law_needs_drawn_ (hb := fun f cdv A outer s H E hr => by
  have nd := sc_law_needs_drawn_.nd
  have hu := hr.units
  have hu1 := hu1_64 hu
  exact ss_wide (W' := [2, 3, 4, 5, 6]) (ss_cons (s_set (i := 2) nd rfl (by first | exact Or.inl rfl | exact Or.inr rfl) (de_f (f_lst b_nil)))
  (ss_cons (s_while PassesOwn.never (t_lt (c_len C.b_len (a_cons (dv 2) a_nil)) (dv 1))
  (ss_cons (s_set (i := 3) nd rfl (by first | exact Or.inl rfl | exact Or.inr rfl) (x_min2 C.b_min (x_cons (de_f (PPx.pf (p_sub (dv 1) (c_len C.b_len (a_cons (dv 2) a_nil))))) (x_cons (e_add (de_f d_int) (x_int C.b_int (x_cons (x_fnI (F_law_take_ C) hr (by decide) (by rfl) (pv 0) (x_cons (de_f d_int) x_nil)) x_nil))) x_nil))))
  (ss_cons (s_set (i := 4) nd rfl (by first | exact Or.inl rfl | exact Or.inr rfl) (x_fnI (F_law_of_ C) hr (by decide) (by rfl) (pv 0) (x_cons (de_f (f_lst (b_cons d_int (b_cons d_int (b_cons d_int (b_cons d_int (b_cons d_int b_nil))))))) x_nil)))
  (ss_cons (s_setLcE (i := 5) (own := [("place", 7)]) rfl nd rfl rfl (sw_true rfl rfl rfl (by decide +kernel)) (j_p (i_rg1 (by rfl) C.b_range (a_cons (dv 3) a_nil))) (blkOk_by (N := N_law_needs_drawn_) (own := [("place", 7)]) (by kernel_rfl)) (ce_name (i := 7) (by decide)) (fun _ _ _ _ _ => (pg_name (i := 7) nd rfl (by first | exact Or.inl rfl | exact Or.inr rfl))) (fun _ _ _ _ _ => ks_nil) (fun _ _ _ _ _ => (x_fn (F_law_frac_ C) hr (by decide) (by rfl) (x_cons (e_add (de_f (PPx.pf (dv 4))) (x_int C.b_int (x_cons (x_fnI (F_law_take_ C) hr (by decide) (by rfl) (pv 0) (x_cons (de_f (PPx.pf (p_mul (PFx.pp d_int) (dv 4)))) x_nil)) x_nil))) (x_cons (de_f (PPx.pf (dv 4))) x_nil)))))
  (ss_cons (s_set (i := 6) nd rfl (by first | exact Or.inl rfl | exact Or.inr rfl) (de_f (c_fn (F_law_sum_ C) hr (by decide) (by rfl) (a_cons (dv 5) a_nil))))
  (ss_cons (s_if (t_gt (p_ix (dv 6) (PFx.pp d_int)) (PFx.pp d_int))
  (ss_one (s_asgU (de_f (c_fn (F_law_plus_ C) hr (by decide) (by rfl) (a_cons (p_ix (dv 5) (p_neg (PFx.pp d_int))) (a_cons (PFx.pp (c_fn (F_law_frac_ C) hr (by decide) (by rfl) (a_cons (p_sub (p_ix (dv 6) (PFx.pp d_int)) (p_mod (p_ix (dv 6) (PFx.pp d_int)) (p_ix (dv 6) (PFx.pp d_int)))) (a_cons (p_ix (dv 6) (PFx.pp d_int)) a_nil)))) a_nil)))) (g_sub (pv 5) (p_neg (PFx.pp d_int))) (su_sub (i := 5))))
  ss_nil)
  (ss_one (s_ext (pv 2) (dv 5)))))))))
  (ss_one (s_ret (x_tuple C.b_tuple (x_cons (e_lc (own := [("at", 8)]) rfl nd (j_new (x_fnI (F_law_some_ C) hr (by decide) (by rfl) (pv 0) (x_cons (de_f (f_lrg1 C.b_list C.b_range (dv 1))) (x_cons (de_f (PPx.pf (dv 1))) x_nil)))) (blkOk_by (N := N_law_needs_drawn_) (own := [("at", 8)]) (by kernel_rfl)) (ce_name (i := 8) (by decide)) (fun _ _ _ _ _ => (pg_name (i := 8) nd rfl (by first | exact Or.inl rfl | exact Or.inr rfl))) (fun _ _ _ _ _ => ks_nil) (fun _ _ _ _ _ => (de_f (PPx.pf (p_ix (dv 2) (dv 8)))))) x_nil)))))) (by decide))
abbrev N_law_most_lots_ : List Str := ["needs", "many", "twos", "place", "whole", "most", "lot", "first", "some", "part", "best", "one"]
noncomputable def b_law_most_lots_ : DS → Option Out :=
  (fSeq (fPar 1 2 (xCons (eP (gImm (pCall oLen (qCons (pVar 0) qNil)))) (xCons (eP (pLst (qCons (pC (.int 1)) qNil))) xNil)))
  (fSeq (fFor (iRg1 (qCons (pVar 1) qNil)) (gdN 3)
  (fApp 2 (eP (gImm (pOp oMul (pC (.int 2)) (pOp oIx (pVar 2) (fun τ => ((pC (.int 1)) τ).bind oUsub)))))))
  (fSeq (fPar 4 5 (xCons (eP (pC (.dk true [] []))) (xCons (eP (pDict1 (pC (.int 0)) (pC (.int 0)))) xNil)))
  (fSeq (fFor (iRg2 (qCons (pC (.int 1)) (qCons (pOp oIx (pVar 2) (pVar 1)) qNil))) (gdN 6)
  (fPutD 4 (pVar 6) (eP (gImm (pOp oEq (pOp oIx (pFn g_law_sum_ (qCons (pLc (iRg1 (qCons (pVar 1) qNil)) (gdN 3) (cBl (pOp oEq (pOp oMod (pOp oDiv (pVar 6) (pOp oIx (pVar 2) (pVar 3))) (pC (.int 2))) (pC (.int 1)))) (gImm (pOp oIx (pVar 0) (pVar 3))) [3]) qNil)) (pC (.int 1))) (pC (.int 1)))))))
  (fSeq (fFor (iRg2 (qCons (pC (.int 1)) (qCons (pOp oIx (pVar 2) (pVar 1)) qNil))) (gdN 6)
  (fSeq (fSet 7 (eP (gImm (pOp oIx (pLc (iRg1 (qCons (pVar 1) qNil)) (gdN 3) (cBl (pOp oEq (pOp oMod (pOp oDiv (pVar 6) (pOp oIx (pVar 2) (pVar 3))) (pC (.int 2))) (pC (.int 1)))) (gImm (pVar 3)) [3]) (pC (.int 0))))))
  (fSeq (fSet 8 (eP (pLst (qCons (pC .non) qNil))))
  (fSeq (fSet 9 (eN 6))
  (fSeq (fWhile (cBl (pOp oGt (pVar 9) (pC (.int 0))))
  (fSeq (fIf (cAnd (cBl (pOp oEq (pOp oMod (pOp oDiv (pVar 9) (pOp oIx (pVar 2) (pVar 7))) (pC (.int 2))) (pC (.int 1)))) (cAnd (cTru (pDGet (pVar 4) (pVar 9))) (cBl (pOp (oIs true) (pDGet1 (pVar 5) (pOp oSub (pVar 6) (pVar 9))) (pC .non)))))
  (fApp 8 (eP (gImm (pOp oAdd (pDGet (pVar 5) (pOp oSub (pVar 6) (pVar 9))) (pC (.int 1))))))
  fNil)
  (fSet 9 (eP (gImm (pOp oAnd (pOp oSub (pVar 9) (pC (.int 1))) (pVar 6)))))))
  (fFrz 8 (fSeq (fSet 10 (eP (pLc (iSeq (gImm (pVar 8))) (gdN 11) (cBl (pOp (oIs true) (pVar 11) (pC .non))) (gImm (pVar 11)) [11])))
  (fFrz 10 (fPutD 5 (pVar 6) (eP (gImm (pIf (cBl (pOp oNe (pVar 10) (pLst qNil))) (pCall oMaxL (qCons (pVar 10) qNil)) (pC .non)))))))))))))
  (fRet (eP (gImm (pDGet (pVar 5) (pOp oSub (pOp oIx (pVar 2) (pVar 1)) (pC (.int 1))))))))))))
noncomputable def g_law_most_lots_ : List D → Option D := gOf 1 N_law_most_lots_ b_law_most_lots_
theorem sc_law_most_lots_ : FnScope N_law_most_lots_ ["needs"] (defScope (top 47)) := ⟨rfl, rfl, rfl, by decide +kernel, rfl, by decide +kernel, by decide +kernel⟩
theorem F_law_most_lots_ {P : Program} {w : World} {K : PySem.W.Frag} {mg : Str → Option Value} {base : Heap} (C : Ctx K mg) : FunP P w K mg base "_law_most_lots" 4 g_law_most_lots_ :=
  mkP (k := 3) (W := [1, 2, 3, 4, 5, 6, 7, 8, 9, 10]) (N := N_law_most_lots_) (ps := ["needs"]) C.d_law_most_lots_ sc_law_most_lots_ (hb := fun f cdv A outer s H E hr => by
  have nd := sc_law_most_lots_.nd
  have hu := hr.units
  have hu1 := hu1_64 hu
  exact ss_wide (W' := [1, 2, 3, 4, 5, 6, 7, 8, 9, 10]) (ss_cons (s_parT (i := 1) (j := 2) rfl nd rfl rfl (by decide) (by first | exact Or.inl rfl | exact Or.inr rfl) (by first | exact Or.inl rfl | exact Or.inr rfl) (x_cons (de_f (PPx.pf (c_len C.b_len (a_cons (dv 0) a_nil)))) (x_cons (de_f (f_lst (b_cons d_int b_nil))) x_nil)))
  (ss_cons (s_for PassesOwn.never rfl (i_rg1 (by rfl) C.b_range (a_cons (dv 1) a_nil)) (pg_name (i := 3) nd rfl (by first | exact Or.inl rfl | exact Or.inr rfl)) (st_name (i := 3))
  (ss_one (s_app (pv 2) (de_f (PPx.pf (p_mul (PFx.pp d_int) (p_ix (dv 2) (p_neg (PFx.pp d_int)))))))))
  (ss_cons (s_par (i := 4) (j := 5) rfl nd rfl rfl (by decide) rfl rfl (x_cons (de_f f_dnew) (x_cons (de_f (f_dict1 d_int d_int)) x_nil)))
  (ss_cons (s_for PassesOwn.never rfl (i_rg2 (by rfl) C.b_range (a_cons (PFx.pp d_int) (a_cons (p_ix (dv 2) (dv 1)) a_nil))) (pg_name (i := 6) nd rfl (by first | exact Or.inl rfl | exact Or.inr rfl)) (st_name (i := 6))
  (ss_one (s_dput hu1 (pv 4) (dv 6) (de_f (PPx.pf (p_eq hu (p_ix (PFx.pp (c_fn (F_law_sum_ C) hr (by decide) (by rfl) (a_cons (PFx.pp (f_lc (own := [("place", 3)]) rfl nd (i_rg1 (by rfl) C.b_range (a_cons (dv 1) a_nil)) (blkOk_by (N := N_law_most_lots_) (own := [("place", 3)]) (by kernel_rfl)) (ct_name (i := 3) (by decide)) (fun _ _ _ _ _ => (pg_name (i := 3) nd rfl (by first | exact Or.inl rfl | exact Or.inr rfl))) (fun _ _ _ _ _ => (ts_one (t_eq hu (p_mod (p_fdiv (dv 6) (p_ix (dv 2) (dv 3))) (PFx.pp d_int)) (PFx.pp d_int)))) (fun _ _ _ _ _ => (PPx.pf (p_ix (dv 0) (dv 3)))))) a_nil))) (PFx.pp d_int)) (PFx.pp d_int)))))))
  (ss_cons (s_for PassesOwn.never rfl (i_rg2 (by rfl) C.b_range (a_cons (PFx.pp d_int) (a_cons (p_ix (dv 2) (dv 1)) a_nil))) (pg_name (i := 6) nd rfl (by first | exact Or.inl rfl | exact Or.inr rfl)) (st_name (i := 6))
  (ss_cons (s_set (i := 7) nd rfl (by first | exact Or.inl rfl | exact Or.inr rfl) (de_f (PPx.pf (p_ix (PFx.pp (f_lc (own := [("place", 3)]) rfl nd (i_rg1 (by rfl) C.b_range (a_cons (dv 1) a_nil)) (blkOk_by (N := N_law_most_lots_) (own := [("place", 3)]) (by kernel_rfl)) (ct_name (i := 3) (by decide)) (fun _ _ _ _ _ => (pg_name (i := 3) nd rfl (by first | exact Or.inl rfl | exact Or.inr rfl))) (fun _ _ _ _ _ => (ts_one (t_eq hu (p_mod (p_fdiv (dv 6) (p_ix (dv 2) (dv 3))) (PFx.pp d_int)) (PFx.pp d_int)))) (fun _ _ _ _ _ => (PPx.pf (dv 3))))) (PFx.pp d_int)))))
  (ss_cons (s_set (i := 8) nd rfl (by first | exact Or.inl rfl | exact Or.inr rfl) (de_f (f_lst (b_cons d_non b_nil))))
  (ss_cons (s_set (i := 9) nd rfl (by first | exact Or.inl rfl | exact Or.inr rfl) (dn 6))
  (ss_cons (s_while PassesOwn.never (t_gt (dv 9) (PFx.pp d_int))
  (ss_cons (s_if (t_w (w_and (t_eq hu (p_mod (p_fdiv (dv 9) (p_ix (dv 2) (dv 7))) (PFx.pp d_int)) (PFx.pp d_int)) (w_and (t_of (p_dget hu1 (dv 4) (dv 9))) (w_and1 (t_isnt (p_dget1 hu1 (dv 5) (p_sub (dv 6) (dv 9)) ⟨rfl, rfl, rfl, rfl⟩) (PFx.pp d_non))))))
  (ss_one (s_app (pv 8) (de_f (PPx.pf (p_add (p_dget hu1 (dv 5) (p_sub (dv 6) (dv 9))) (PFx.pp d_int))))))
  ss_nil)
  (ss_one (s_set (i := 9) nd rfl (by first | exact Or.inl rfl | exact Or.inr rfl) (de_f (PPx.pf (p_and (p_sub (dv 9) (PFx.pp d_int)) (dv 6))))))))
  (ss_frz 8 (ss_cons (s_setLc (i := 10) (own := [("one", 11)]) rfl nd rfl rfl (sw_true rfl rfl rfl (by decide +kernel)) (i_seq (dv 8)) (blkOk_by (N := N_law_most_lots_) (own := [("one", 11)]) (by kernel_rfl)) (ct_name (i := 11) (by decide)) (fun _ _ _ _ _ => (pg_name (i := 11) nd rfl (by first | exact Or.inl rfl | exact Or.inr rfl))) (fun _ _ _ _ _ => (ts_one (t_isnt (dv 11) (PFx.pp d_non)))) (fun _ _ _ _ _ => (PPx.pf (dv 11))))
  (ss_frz 10 (ss_one (s_dput hu1 (pv 5) (dv 6) (de_f (PPx.pf (v_if (t_ne hu (dv 10) (PFx.pp (f_lst b_nil))) (c_maxL C.b_max (a_cons (dv 10) a_nil)) (PFx.pp d_non))))))))))))))
  (ss_one (s_ret (de_f (PPx.pf (p_dget hu1 (dv 5) (p_sub (p_ix (dv 2) (dv 1)) (PFx.pp d_int)))))))))))) (by decide))
abbrev N_law_are_pairs_ : List Str := ["needs", "parts", "pairs", "part", "place", "need", "row", "one", "worn", "spot"]
noncomputable def b_law_are_pairs_ : DS → Option Out :=
  (fSeq (fIf (cOr (cBl (pOp oNe (pCall oList (qCons (pVar 2) qNil)) (pCall oSorted (qCons (pVar 2) qNil)))) (cBl (pOp oLt (pLset (pLc (iSeq (gImm (pVar 2))) (gdN 6) cYes (pCut (pVar 6) (fun _ => some none) (poS (pC (.int 2)))) [6])) (pCall oLen (qCons (pVar 2) qNil)))))
  (fRet (eP (pC (.bl false))))
  fNil)
  (fSeq (fFor (iRg1 (qCons (pVar 1) qNil)) (gdN 3)
  (fIf (cBl (pOp oNe (pFn g_law_sum_ (qCons (pLc (iSeq (gImm (pVar 2))) (gdTup 3 (gdCons (gdN 7) (gdCons (gdN 4) (gdCons (gdN 8) gdNil)))) (cBl (pOp oEq (pVar 7) (pVar 3))) (gImm (pVar 8)) [7, 4, 8]) qNil)) (pTup (qCons (pC (.int 1)) (qCons (pC (.int 1)) qNil)))))
  (fRet (eP (pC (.bl false))))
  fNil))
  (fSeq (fFor (iEn (qCons (gImm (pVar 0)) qNil)) (gdTup 2 (gdCons (gdN 4) (gdCons (gdN 5) gdNil)))
  (fIf (cBl (pOp oNe (pFn g_law_sum_ (qCons (pLc (iSeq (gImm (pVar 2))) (gdTup 3 (gdCons (gdN 7) (gdCons (gdN 9) (gdCons (gdN 8) gdNil)))) (cBl (pOp oEq (pVar 9) (pVar 4))) (gImm (pVar 8)) [7, 9, 8]) qNil)) (pVar 5)))
  (fRet (eP (pC (.bl false))))
  fNil))
  (fRet (eP (gImm (pCall oAll (qCons (pLc (iSeq (gImm (pVar 2))) (gdTup 3 (gdCons (gdN 3) (gdCons (gdN 4) (gdCons (gdN 8) gdNil)))) cYes (gImm (pAnd (pOp oGt (pOp oIx (pVar 8) (pC (.int 0))) (pC (.int 0))) (pCh oLe oLt (pC (.int 0)) (pVar 3) (pVar 1)))) [3, 4, 8]) qNil))))))))
noncomputable def g_law_are_pairs_ : List D → Option D := gOf 3 N_law_are_pairs_ b_law_are_pairs_
theorem sc_law_are_pairs_ : FnScope N_law_are_pairs_ ["needs", "parts", "pairs"] (defScope (top 48)) := ⟨rfl, rfl, rfl, by decide +kernel, rfl, by decide +kernel, by decide +kernel⟩
theorem F_law_are_pairs_ {P : Program} {w : World} {K : PySem.W.Frag} {mg : Str → Option Value} {base : Heap} (C : Ctx K mg) : FunP P w K mg base "_law_are_pairs" 4 g_law_are_pairs_ :=
  mkP (k := 3) (W := [3, 4, 5]) (N := N_law_are_pairs_) (ps := ["needs", "parts", "pairs"]) C.d_law_are_pairs_ sc_law_are_pairs_ (hb := fun f cdv A outer s H E hr => by
  have nd := sc_law_are_pairs_.nd
  have hu := hr.units
  have hu1 := hu1_64 hu
  exact ss_wide (W' := [3, 4, 5]) (ss_cons (s_if (t_w (w_or (t_ne hu (PFx.pp (c_list C.b_list (a_cons (dv 2) a_nil))) (PFx.pp (c_sorted hu C.b_sorted (a_cons (dv 2) a_nil)))) (w_or1 (t_lt (p_lset hu C.b_len C.b_set (PFx.pp (f_lc (own := [("row", 6)]) rfl nd (i_seq (dv 2)) (blkOk_by (N := N_law_are_pairs_) (own := [("row", 6)]) (by kernel_rfl)) (ct_name (i := 6) (by decide)) (fun _ _ _ _ _ => (pg_name (i := 6) nd rfl (by first | exact Or.inl rfl | exact Or.inr rfl))) (fun _ _ _ _ _ => ts_nil) (fun _ _ _ _ _ => (f_cut (dv 6) o_none (o_some (PFx.pp d_int))))))) (c_len C.b_len (a_cons (dv 2) a_nil))))))
  (ss_one (s_ret (de_f d_bl)))
  ss_nil)
  (ss_cons (s_for PassesOwn.never rfl (i_rg1 (by rfl) C.b_range (a_cons (dv 1) a_nil)) (pg_name (i := 3) nd rfl (by first | exact Or.inl rfl | exact Or.inr rfl)) (st_name (i := 3))
  (ss_one (s_if (t_ne hu (PFx.pp (c_fn (F_law_sum_ C) hr (by decide) (by rfl) (a_cons (PFx.pp (f_lc (own := [("one", 7), ("place", 4), ("worn", 8)]) rfl nd (i_seq (dv 2)) (blkOk_by (N := N_law_are_pairs_) (own := [("one", 7), ("place", 4), ("worn", 8)]) (by kernel_rfl)) (ct_tup (n := 3) (ct_cons (ct_name (i := 7) (by decide)) (ct_cons (ct_name (i := 4) (by decide)) (ct_cons (ct_name (i := 8) (by decide)) ct_nil)))) (fun _ _ _ _ _ => (pg_tup rfl (pgs_cons (pg_name (i := 7) nd rfl (by first | exact Or.inl rfl | exact Or.inr rfl)) (pgs_cons (pg_name (i := 4) nd rfl (by first | exact Or.inl rfl | exact Or.inr rfl)) (pgs_cons (pg_name (i := 8) nd rfl (by first | exact Or.inl rfl | exact Or.inr rfl)) pgs_nil))))) (fun _ _ _ _ _ => (ts_one (t_eq hu (dv 7) (dv 3)))) (fun _ _ _ _ _ => (PPx.pf (dv 8))))) a_nil))) (PFx.pp (f_tup (b_cons d_int (b_cons d_int b_nil)))))
  (ss_one (s_ret (de_f d_bl)))
  ss_nil)))
  (ss_cons (s_for PassesOwn.never rfl (i_en (by rfl) C.b_enumerate (b_cons (PPx.pf (dv 0)) b_nil)) (pg_tup rfl (pgs_cons (pg_name (i := 4) nd rfl (by first | exact Or.inl rfl | exact Or.inr rfl)) (pgs_cons (pg_name (i := 5) nd rfl (by first | exact Or.inl rfl | exact Or.inr rfl)) pgs_nil))) (st_tup (n := 2) (st_cons (st_name (i := 4)) (st_cons (st_name (i := 5)) st_nil)))
  (ss_one (s_if (t_ne hu (PFx.pp (c_fn (F_law_sum_ C) hr (by decide) (by rfl) (a_cons (PFx.pp (f_lc (own := [("one", 7), ("spot", 9), ("worn", 8)]) rfl nd (i_seq (dv 2)) (blkOk_by (N := N_law_are_pairs_) (own := [("one", 7), ("spot", 9), ("worn", 8)]) (by kernel_rfl)) (ct_tup (n := 3) (ct_cons (ct_name (i := 7) (by decide)) (ct_cons (ct_name (i := 9) (by decide)) (ct_cons (ct_name (i := 8) (by decide)) ct_nil)))) (fun _ _ _ _ _ => (pg_tup rfl (pgs_cons (pg_name (i := 7) nd rfl (by first | exact Or.inl rfl | exact Or.inr rfl)) (pgs_cons (pg_name (i := 9) nd rfl (by first | exact Or.inl rfl | exact Or.inr rfl)) (pgs_cons (pg_name (i := 8) nd rfl (by first | exact Or.inl rfl | exact Or.inr rfl)) pgs_nil))))) (fun _ _ _ _ _ => (ts_one (t_eq hu (dv 9) (dv 4)))) (fun _ _ _ _ _ => (PPx.pf (dv 8))))) a_nil))) (dv 5))
  (ss_one (s_ret (de_f d_bl)))
  ss_nil)))
  (ss_one (s_ret (de_f (PPx.pf (c_all C.b_all (a_cons (PFx.pp (f_lc (own := [("part", 3), ("place", 4), ("worn", 8)]) rfl nd (i_seq (dv 2)) (blkOk_by (N := N_law_are_pairs_) (own := [("part", 3), ("place", 4), ("worn", 8)]) (by kernel_rfl)) (ct_tup (n := 3) (ct_cons (ct_name (i := 3) (by decide)) (ct_cons (ct_name (i := 4) (by decide)) (ct_cons (ct_name (i := 8) (by decide)) ct_nil)))) (fun _ _ _ _ _ => (pg_tup rfl (pgs_cons (pg_name (i := 3) nd rfl (by first | exact Or.inl rfl | exact Or.inr rfl)) (pgs_cons (pg_name (i := 4) nd rfl (by first | exact Or.inl rfl | exact Or.inr rfl)) (pgs_cons (pg_name (i := 8) nd rfl (by first | exact Or.inl rfl | exact Or.inr rfl)) pgs_nil))))) (fun _ _ _ _ _ => ts_nil) (fun _ _ _ _ _ => (PPx.pf (v_and (p_gt (p_ix (dv 8) (PFx.pp d_int)) (PFx.pp d_int)) (v_one (p_ch op_le op_lt op2_B op2_B (PFx.pp d_int) (dv 3) (dv 1)))))))) a_nil))))))))) (by decide))
abbrev N_law_is_right_ : List Str := ["pot", "needs", "places", "parts", "lots", "told", "pairs", "own", "every", "lot", "ways", "place", "need", "part", "row", "worn", "order", "turned", "rows", "lots_turned", "number", "one", "at"]
noncomputable def b_law_is_right_ : DS → Option Out :=
  (fSeq (fPar3 2 3 4 (xCons (eP (gImm (pCall oLen (qCons (pVar 1) qNil)))) (xCons (eP (gImm (pOp oIx (pFn g_law_sum_ (qCons (pVar 1) qNil)) (pC (.int 0))))) (xCons (eP (pFn g_law_most_lots_ (qCons (pVar 1) qNil))) xNil))))
  (fSeq (fSet 5 (eP (pFn g_fewest_moved (qCons (pVar 1) qNil))))
  (fSeq (fIf (cOr (cBl (pOp oNe (pCut (pVar 5) (fun _ => some none) (poS (pC (.int 2)))) (pTup (qCons (pC (.str "moved")) (qCons (pOp oSub (pVar 2) (pVar 4)) qNil))))) (cBl (pOp (oIs true) (pFn g_shows_fewest_moved (qCons (pVar 1) (qCons (pVar 5) qNil))) (pC (.bl true)))))
  (fRet (eP (pC (.bl false))))
  fNil)
  (fSeq (fPar 6 7 (xCons (eP (gImm (pOp oIx (pVar 5) (pC (.int 2))))) (xCons (eP (gImm (pOp oIx (pVar 5) (pC (.int 3))))) xNil)))
  (fSeq (fIf (cOr (cBl (pOp oNe (pCall oLen (qCons (pVar 6) qNil)) (pOp oSub (pOp oAdd (pVar 3) (pVar 2)) (pVar 4)))) (cNot (cTru (pFn g_law_are_pairs_ (qCons (pVar 1) (qCons (pVar 3) (qCons (pVar 6) qNil)))))))
  (fRet (eP (pC (.bl false))))
  fNil)
  (fSeq (fSet 8 (eP (pLst qNil)))
  (fSeq (fFor (iSeq (gImm (pVar 7))) (gdN 9)
  (fExt 8 (pCall oList (qCons (pVar 9) qNil))))
  (fSeq (fIf (cOr (cBl (pOp oNe (pCall oLen (qCons (pVar 7) qNil)) (pVar 4))) (cBl (pOp oNe (pCall oSorted (qCons (pVar 8) qNil)) (pRg1 (pVar 2)))))
  (fRet (eP (pC (.bl false))))
  fNil)
  (fSeq (fIf (cNot (cTru (pCall oAll (qCons (pLc (iSeq (gImm (pVar 7))) (gdN 9) cYes (gImm (pOp oEq (pOp oIx (pFn g_law_sum_ (qCons (pLc (iSeq (gImm (pVar 9))) (gdN 11) cYes (gImm (pOp oIx (pVar 1) (pVar 11))) [11]) qNil)) (pC (.int 1))) (pC (.int 1)))) [9]) qNil))))
  (fRet (eP (pC (.bl false))))
  fNil)
  (fSeq (fSet 10 (eP (pFn g_ways_of_pairs (qCons (pVar 1) (qCons (pVar 6) qNil)))))
  (fSeq (fFor (iEn (qCons (gImm (pVar 1)) qNil)) (gdTup 2 (gdCons (gdN 11) (gdCons (gdN 12) gdNil)))
  (fIf (cBl (pOp oNe (pFn g_law_sum_ (qCons (pLc (iSeq (gImm (pVar 10))) (gdN 14) cYes (gImm (pOp oIx (pVar 14) (pVar 11))) [14]) qNil)) (pTup (qCons (pC (.int 1)) (qCons (pC (.int 1)) qNil)))))
  (fRet (eP (pC (.bl false))))
  fNil))
  (fSeq (fFor (iEn (qCons (gImm (pVar 10)) qNil)) (gdTup 2 (gdCons (gdN 13) (gdCons (gdN 14) gdNil)))
  (fSeq (fSet 15 (eP (pCall oDict (qCons (pLc (iSeq (gImm (pVar 6))) (gdTup 3 (gdCons (gdN 20) (gdCons (gdN 11) (gdCons (gdN 21) gdNil)))) (cBl (pOp oEq (pVar 20) (pVar 13))) (gImm (pTup (qCons (pVar 11) (qCons (pVar 21) qNil)))) [20, 11, 21]) qNil))))
  (fSeq (fIf (cBl (pOp oNe (pVar 14) (pCall oTuple (qCons (pLc (iEn (qCons (gImm (pVar 1)) qNil)) (gdTup 2 (gdCons (gdN 11) (gdCons (gdN 12) gdNil))) cYes (pFn g_law_over_ (qCons (pDGet2 (pVar 15) (pVar 11) (pTup (qCons (pC (.int 0)) (qCons (pC (.int 1)) qNil)))) (qCons (pVar 12) qNil))) [11, 12]) qNil))))
  (fRet (eP (pC (.bl false))))
  fNil)
  (fIf (cTru (pFn g_law_is_less_ (qCons (pTup (qCons (pC (.int 1)) (qCons (pC (.int 1)) qNil))) (qCons (pFn g_law_sum_ (qCons (pVar 14) qNil)) qNil))))
  (fRet (eP (pC (.bl false))))
  fNil))))
  (fSeq (fSet 16 (eFnI g_law_some_ 0 (xCons (eP (pRg1 (pVar 2))) (xCons (eP (gImm (pVar 2))) xNil))))
  (fFrz 16 (fSeq (fSet 17 (eP (pCall oTuple (qCons (pLc (iSeq (gImm (pVar 16))) (gdN 22) cYes (gImm (pOp oIx (pVar 1) (pVar 22))) [22]) qNil))))
  (fSeq (fSet 18 (eP (pCall oTuple (qCons (pCall oSorted (qCons (pLc (iSeq (gImm (pVar 6))) (gdTup 3 (gdCons (gdN 13) (gdCons (gdN 11) (gdCons (gdN 15) gdNil)))) cYes (gImm (pTup (qCons (pVar 13) (qCons (pIdx (pVar 16) (pVar 11)) (qCons (pVar 15) qNil))))) [13, 11, 15]) qNil)) qNil))))
  (fSeq (fSet 19 (eP (pCall oTuple (qCons (pCall oSorted (qCons (pLc (iSeq (gImm (pVar 7))) (gdN 9) cYes (pCall oTuple (qCons (pCall oSorted (qCons (pLc (iSeq (gImm (pVar 9))) (gdN 11) cYes (gImm (pIdx (pVar 16) (pVar 11))) [11]) qNil)) qNil)) [9]) qNil)) qNil))))
  (fSeq (fIf (cBl (pOp (oIs true) (pFn g_shows_fewest_moved (qCons (pVar 17) (qCons (pTup (qCons (pC (.str "moved")) (qCons (pOp oSub (pVar 2) (pVar 4)) (qCons (pVar 18) (qCons (pVar 19) qNil))))) qNil))) (pC (.bl true))))
  (fRet (eP (pC (.bl false))))
  fNil)
  (fRet (eP (gImm (pOp (oIs false) (pFn g_shows_fewest_moved (qCons (pVar 1) (qCons (pTup (qCons (pC (.str "moved")) (qCons (pOp oAdd (pOp oSub (pVar 2) (pVar 4)) (pC (.int 1))) (qCons (pVar 6) (qCons (pVar 7) qNil))))) qNil))) (pC (.bl false))))))))))))))))))))))))
noncomputable def g_law_is_right_ : List D → Option (D × D) := gIOf 2 N_law_is_right_ b_law_is_right_
theorem sc_law_is_right_ : FnScope N_law_is_right_ ["pot", "needs"] (defScope (top 49)) := ⟨rfl, rfl, rfl, by decide +kernel, rfl, by decide +kernel, by decide +kernel⟩
theorem F_law_is_right_ {P : Program} {w : World} {K : PySem.W.Frag} {mg : Str → Option Value} {base : Heap} (C : Ctx K mg) : FunI P w K mg base "_law_is_right" 9 g_law_is_right_ :=
  mkI (k := 8) (W := [2, 3, 4, 5, 6, 7, 8, 9, 10, 11, 12, 13, 14, 15, 16, 17, 18, 19]) (N := N_law_is_right_) (ps := ["pot", "needs"]) C.d_law_is_right_ sc_law_is_right_ (hb := fun f cdv A outer s H E hr => by
  have nd := sc_law_is_right_.nd
  have hu := hr.units
  have hu1 := hu1_64 hu
  exact ss_wide (W' := [2, 3, 4, 5, 6, 7, 8, 9, 10, 11, 12, 13, 14, 15, 16, 17, 18, 19]) (ss_cons (s_par3 (i := 2) (j := 3) (l := 4) rfl nd rfl rfl rfl (by decide) (by decide) (by decide) rfl rfl rfl (x_cons (de_f (PPx.pf (c_len C.b_len (a_cons (dv 1) a_nil)))) (x_cons (de_f (PPx.pf (p_ix (PFx.pp (c_fn (F_law_sum_ C) hr (by decide) (by rfl) (a_cons (dv 1) a_nil))) (PFx.pp d_int)))) (x_cons (de_f (c_fn (F_law_most_lots_ C) hr (by decide) (by rfl) (a_cons (dv 1) a_nil))) x_nil))))
  (ss_cons (s_set (i := 5) nd rfl (by first | exact Or.inl rfl | exact Or.inr rfl) (de_f (c_fn (F_fewest_moved C) hr (by decide) (by rfl) (a_cons (dv 1) a_nil))))
  (ss_cons (s_if (t_w (w_or (t_ne hu (PFx.pp (f_cut (dv 5) o_none (o_some (PFx.pp d_int)))) (p_tup (a_cons (PFx.pp d_str) (a_cons (p_sub (dv 2) (dv 4)) a_nil)))) (w_or1 (t_isnt (PFx.pp (c_fn (F_shows_fewest_moved C) hr (by decide) (by rfl) (a_cons (dv 1) (a_cons (dv 5) a_nil)))) (PFx.pp d_bl)))))
  (ss_one (s_ret (de_f d_bl)))
  ss_nil)
  (ss_cons (s_par (i := 6) (j := 7) rfl nd rfl rfl (by decide) rfl rfl (x_cons (de_f (PPx.pf (p_ix (dv 5) (PFx.pp d_int)))) (x_cons (de_f (PPx.pf (p_ix (dv 5) (PFx.pp d_int)))) x_nil)))
  (ss_cons (s_if (t_w (w_or (t_ne hu (c_len C.b_len (a_cons (dv 6) a_nil)) (p_sub (p_add (dv 3) (dv 2)) (dv 4))) (w_or1 (t_not (t_of (PFx.pp (c_fn (F_law_are_pairs_ C) hr (by decide) (by rfl) (a_cons (dv 1) (a_cons (dv 3) (a_cons (dv 6) a_nil))))))))))
  (ss_one (s_ret (de_f d_bl)))
  ss_nil)
  (ss_cons (s_set (i := 8) nd rfl (by first | exact Or.inl rfl | exact Or.inr rfl) (de_f (f_lst b_nil)))
  (ss_cons (s_for PassesOwn.never rfl (i_seq (dv 7)) (pg_name (i := 9) nd rfl (by first | exact Or.inl rfl | exact Or.inr rfl)) (st_name (i := 9))
  (ss_one (s_ext (pv 8) (PFx.pp (c_list C.b_list (a_cons (dv 9) a_nil))))))
  (ss_cons (s_if (t_w (w_or (t_ne hu (c_len C.b_len (a_cons (dv 7) a_nil)) (dv 4)) (w_or1 (t_ne hu (PFx.pp (c_sorted hu C.b_sorted (a_cons (dv 8) a_nil))) (PFx.pp (f_lrg1 C.b_list C.b_range (dv 2)))))))
  (ss_one (s_ret (de_f d_bl)))
  ss_nil)
  (ss_cons (s_if (t_not (t_of (c_all C.b_all (a_cons (PFx.pp (f_lc (own := [("lot", 9)]) rfl nd (i_seq (dv 7)) (blkOk_by (N := N_law_is_right_) (own := [("lot", 9)]) (by kernel_rfl)) (ct_name (i := 9) (by decide)) (fun _ _ _ _ _ => (pg_name (i := 9) nd rfl (by first | exact Or.inl rfl | exact Or.inr rfl))) (fun _ _ _ _ _ => ts_nil) (fun _ _ _ _ _ => (PPx.pf (p_eq hu (p_ix (PFx.pp (c_fn (F_law_sum_ C) hr (by decide) (by rfl) (a_cons (PFx.pp (f_lc (own := [("place", 11)]) rfl nd (i_seq (dv 9)) (blkOk_by (N := N_law_is_right_) (own := [("place", 11)]) (by kernel_rfl)) (ct_name (i := 11) (by decide)) (fun _ _ _ _ _ => (pg_name (i := 11) nd rfl (by first | exact Or.inl rfl | exact Or.inr rfl))) (fun _ _ _ _ _ => ts_nil) (fun _ _ _ _ _ => (PPx.pf (p_ix (dv 1) (dv 11)))))) a_nil))) (PFx.pp d_int)) (PFx.pp d_int)))))) a_nil))))
  (ss_one (s_ret (de_f d_bl)))
  ss_nil)
  (ss_cons (s_set (i := 10) nd rfl (by first | exact Or.inl rfl | exact Or.inr rfl) (de_f (c_fn (F_ways_of_pairs C) hr (by decide) (by rfl) (a_cons (dv 1) (a_cons (dv 6) a_nil)))))
  (ss_cons (s_for PassesOwn.never rfl (i_en (by rfl) C.b_enumerate (b_cons (PPx.pf (dv 1)) b_nil)) (pg_tup rfl (pgs_cons (pg_name (i := 11) nd rfl (by first | exact Or.inl rfl | exact Or.inr rfl)) (pgs_cons (pg_name (i := 12) nd rfl (by first | exact Or.inl rfl | exact Or.inr rfl)) pgs_nil))) (st_tup (n := 2) (st_cons (st_name (i := 11)) (st_cons (st_name (i := 12)) st_nil)))
  (ss_one (s_if (t_ne hu (PFx.pp (c_fn (F_law_sum_ C) hr (by decide) (by rfl) (a_cons (PFx.pp (f_lc (own := [("row", 14)]) rfl nd (i_seq (dv 10)) (blkOk_by (N := N_law_is_right_) (own := [("row", 14)]) (by kernel_rfl)) (ct_name (i := 14) (by decide)) (fun _ _ _ _ _ => (pg_name (i := 14) nd rfl (by first | exact Or.inl rfl | exact Or.inr rfl))) (fun _ _ _ _ _ => ts_nil) (fun _ _ _ _ _ => (PPx.pf (p_ix (dv 14) (dv 11)))))) a_nil))) (PFx.pp (f_tup (b_cons d_int (b_cons d_int b_nil)))))
  (ss_one (s_ret (de_f d_bl)))
  ss_nil)))
  (ss_cons (s_for PassesOwn.never rfl (i_en (by rfl) C.b_enumerate (b_cons (PPx.pf (dv 10)) b_nil)) (pg_tup rfl (pgs_cons (pg_name (i := 13) nd rfl (by first | exact Or.inl rfl | exact Or.inr rfl)) (pgs_cons (pg_name (i := 14) nd rfl (by first | exact Or.inl rfl | exact Or.inr rfl)) pgs_nil))) (st_tup (n := 2) (st_cons (st_name (i := 13)) (st_cons (st_name (i := 14)) st_nil)))
  (ss_cons (s_set (i := 15) nd rfl (by first | exact Or.inl rfl | exact Or.inr rfl) (de_f (c_dict C.b_dict (a_cons (PFx.pp (f_lc (own := [("number", 20), ("place", 11), ("one", 21)]) rfl nd (i_seq (dv 6)) (blkOk_by (N := N_law_is_right_) (own := [("number", 20), ("place", 11), ("one", 21)]) (by kernel_rfl)) (ct_tup (n := 3) (ct_cons (ct_name (i := 20) (by decide)) (ct_cons (ct_name (i := 11) (by decide)) (ct_cons (ct_name (i := 21) (by decide)) ct_nil)))) (fun _ _ _ _ _ => (pg_tup rfl (pgs_cons (pg_name (i := 20) nd rfl (by first | exact Or.inl rfl | exact Or.inr rfl)) (pgs_cons (pg_name (i := 11) nd rfl (by first | exact Or.inl rfl | exact Or.inr rfl)) (pgs_cons (pg_name (i := 21) nd rfl (by first | exact Or.inl rfl | exact Or.inr rfl)) pgs_nil))))) (fun _ _ _ _ _ => (ts_one (t_eq hu (dv 20) (dv 13)))) (fun _ _ _ _ _ => (PPx.pf (p_tup (a_cons (dv 11) (a_cons (dv 21) a_nil))))))) a_nil))))
  (ss_cons (s_if (t_ne hu (dv 14) (PFx.pp (c_tuple C.b_tuple (a_cons (PFx.pp (f_lc (own := [("place", 11), ("need", 12)]) rfl nd (i_en (by rfl) C.b_enumerate (b_cons (PPx.pf (dv 1)) b_nil)) (blkOk_by (N := N_law_is_right_) (own := [("place", 11), ("need", 12)]) (by kernel_rfl)) (ct_tup (n := 2) (ct_cons (ct_name (i := 11) (by decide)) (ct_cons (ct_name (i := 12) (by decide)) ct_nil))) (fun _ _ _ _ _ => (pg_tup rfl (pgs_cons (pg_name (i := 11) nd rfl (by first | exact Or.inl rfl | exact Or.inr rfl)) (pgs_cons (pg_name (i := 12) nd rfl (by first | exact Or.inl rfl | exact Or.inr rfl)) pgs_nil)))) (fun _ _ _ _ _ => ts_nil) (fun _ _ _ _ _ => (c_fn (F_law_over_ C) hr (by decide) (by rfl) (a_cons (p_dget2 hu1 (dv 15) (dv 11) (PFx.pp (f_tup (b_cons d_int (b_cons d_int b_nil)))) ⟨rfl, rfl, rfl, rfl⟩) (a_cons (dv 12) a_nil)))))) a_nil))))
  (ss_one (s_ret (de_f d_bl)))
  ss_nil)
  (ss_one (s_if (t_of (PFx.pp (c_fn (F_law_is_less_ C) hr (by decide) (by rfl) (a_cons (PFx.pp (f_tup (b_cons d_int (b_cons d_int b_nil)))) (a_cons (PFx.pp (c_fn (F_law_sum_ C) hr (by decide) (by rfl) (a_cons (dv 14) a_nil))) a_nil)))))
  (ss_one (s_ret (de_f d_bl)))
  ss_nil)))))
  (ss_cons (s_set (i := 16) nd rfl (by first | exact Or.inl rfl | exact Or.inr rfl) (x_fnI (F_law_some_ C) hr (by decide) (by rfl) (pv 0) (x_cons (de_f (f_lrg1 C.b_list C.b_range (dv 2))) (x_cons (de_f (PPx.pf (dv 2))) x_nil))))
  (ss_frz 16 (ss_cons (s_set (i := 17) nd rfl (by first | exact Or.inl rfl | exact Or.inr rfl) (de_f (c_tuple C.b_tuple (a_cons (PFx.pp (f_lc (own := [("at", 22)]) rfl nd (i_seq (dv 16)) (blkOk_by (N := N_law_is_right_) (own := [("at", 22)]) (by kernel_rfl)) (ct_name (i := 22) (by decide)) (fun _ _ _ _ _ => (pg_name (i := 22) nd rfl (by first | exact Or.inl rfl | exact Or.inr rfl))) (fun _ _ _ _ _ => ts_nil) (fun _ _ _ _ _ => (PPx.pf (p_ix (dv 1) (dv 22)))))) a_nil))))
  (ss_cons (s_set (i := 18) nd rfl (by first | exact Or.inl rfl | exact Or.inr rfl) (de_f (c_tuple C.b_tuple (a_cons (PFx.pp (c_sorted hu C.b_sorted (a_cons (PFx.pp (f_lc (own := [("part", 13), ("place", 11), ("worn", 15)]) rfl nd (i_seq (dv 6)) (blkOk_by (N := N_law_is_right_) (own := [("part", 13), ("place", 11), ("worn", 15)]) (by kernel_rfl)) (ct_tup (n := 3) (ct_cons (ct_name (i := 13) (by decide)) (ct_cons (ct_name (i := 11) (by decide)) (ct_cons (ct_name (i := 15) (by decide)) ct_nil)))) (fun _ _ _ _ _ => (pg_tup rfl (pgs_cons (pg_name (i := 13) nd rfl (by first | exact Or.inl rfl | exact Or.inr rfl)) (pgs_cons (pg_name (i := 11) nd rfl (by first | exact Or.inl rfl | exact Or.inr rfl)) (pgs_cons (pg_name (i := 15) nd rfl (by first | exact Or.inl rfl | exact Or.inr rfl)) pgs_nil))))) (fun _ _ _ _ _ => ts_nil) (fun _ _ _ _ _ => (PPx.pf (p_tup (a_cons (dv 13) (a_cons (p_idx (dv 16) (dv 11)) (a_cons (dv 15) a_nil)))))))) a_nil))) a_nil))))
  (ss_cons (s_set (i := 19) nd rfl (by first | exact Or.inl rfl | exact Or.inr rfl) (de_f (c_tuple C.b_tuple (a_cons (PFx.pp (c_sorted hu C.b_sorted (a_cons (PFx.pp (f_lc (own := [("lot", 9)]) rfl nd (i_seq (dv 7)) (blkOk_by (N := N_law_is_right_) (own := [("lot", 9)]) (by kernel_rfl)) (ct_name (i := 9) (by decide)) (fun _ _ _ _ _ => (pg_name (i := 9) nd rfl (by first | exact Or.inl rfl | exact Or.inr rfl))) (fun _ _ _ _ _ => ts_nil) (fun _ _ _ _ _ => (c_tuple C.b_tuple (a_cons (PFx.pp (c_sorted hu C.b_sorted (a_cons (PFx.pp (f_lc (own := [("place", 11)]) rfl nd (i_seq (dv 9)) (blkOk_by (N := N_law_is_right_) (own := [("place", 11)]) (by kernel_rfl)) (ct_name (i := 11) (by decide)) (fun _ _ _ _ _ => (pg_name (i := 11) nd rfl (by first | exact Or.inl rfl | exact Or.inr rfl))) (fun _ _ _ _ _ => ts_nil) (fun _ _ _ _ _ => (PPx.pf (p_idx (dv 16) (dv 11)))))) a_nil))) a_nil))))) a_nil))) a_nil))))
  (ss_cons (s_if (t_isnt (PFx.pp (c_fn (F_shows_fewest_moved C) hr (by decide) (by rfl) (a_cons (dv 17) (a_cons (p_tup (a_cons (PFx.pp d_str) (a_cons (p_sub (dv 2) (dv 4)) (a_cons (dv 18) (a_cons (dv 19) a_nil))))) a_nil)))) (PFx.pp d_bl))
  (ss_one (s_ret (de_f d_bl)))
  ss_nil)
  (ss_one (s_ret (de_f (PPx.pf (p_is (PFx.pp (c_fn (F_shows_fewest_moved C) hr (by decide) (by rfl) (a_cons (dv 1) (a_cons (p_tup (a_cons (PFx.pp d_str) (a_cons (p_add (p_sub (dv 2) (dv 4)) (PFx.pp d_int)) (a_cons (dv 6) (a_cons (dv 7) a_nil))))) a_nil)))) (PFx.pp d_bl)))))))))))))))))))))))) (by decide))
abbrev N_law_right_ : List Str := ["pot", "lap", "needs", "one", "other"]
noncomputable def b_law_right_ : DS → Option Out :=
  (fSeq (fFor (iRg1 (qCons (pC (.int 3)) qNil)) (gdN 1)
  (fSeq (fSet 2 (eFnI g_law_needs_drawn_ 0 (xCons (eOp oAdd (eP (pC (.int 3))) (eCall oInt (xCons (eFnI g_law_take_ 0 (xCons (eP (pC (.int 6))) xNil)) xNil))) xNil)))
  (fSeq (fIf (cBl (pOp oGt (pOp oIx (pFn g_law_sum_ (qCons (pVar 2) qNil)) (pC (.int 0))) (pC (.int 60))))
  (fun τ => some (.ct τ))
  fNil)
  (fSeq (fIfE (kNot (kTru (eFnI g_law_is_right_ 0 (xCons (eP (gImm (pVar 2))) xNil))))
  (fRet (eP (pC (.bl false))))
  fNil)
  (fSeq (fPar 3 4 (xCons (eP (pCut (pVar 2) (fun _ => some none) (poS (pOp oDiv (pCall oLen (qCons (pVar 2) qNil)) (pC (.int 2)))))) (xCons (eP (pCut (pVar 2) (poS (pOp oDiv (pCall oLen (qCons (pVar 2) qNil)) (pC (.int 2)))) (fun _ => some none))) xNil)))
  (fIf (cBl (pOp oEq (pOp oIx (pFn g_law_sum_ (qCons (pVar 3) qNil)) (pC (.int 1))) (pC (.int 1))))
  (fIf (cBl (pOp oGt (pOp oIx (pFn g_fewest_moved (qCons (pVar 2) qNil)) (pC (.int 1))) (pOp oAdd (pOp oIx (pFn g_fewest_moved (qCons (pVar 3) qNil)) (pC (.int 1))) (pOp oIx (pFn g_fewest_moved (qCons (pVar 4) qNil)) (pC (.int 1))))))
  (fRet (eP (pC (.bl false))))
  fNil)
  fNil))))))
  (fRet (eP (pC (.bl true)))))
noncomputable def g_law_right_ : List D → Option (D × D) := gIOf 1 N_law_right_ b_law_right_
theorem sc_law_right_ : FnScope N_law_right_ ["pot"] (defScope (top 50)) := ⟨rfl, rfl, rfl, by decide +kernel, rfl, by decide +kernel, by decide +kernel⟩
theorem F_law_right_ {P : Program} {w : World} {K : PySem.W.Frag} {mg : Str → Option Value} {base : Heap} (C : Ctx K mg) : FunI P w K mg base "_law_right" 10 g_law_right_ :=
  mkI (k := 9) (W := [1, 2, 3, 4]) (N := N_law_right_) (ps := ["pot"]) C.d_law_right_ sc_law_right_ (hb := fun f cdv A outer s H E hr => by
  have nd := sc_law_right_.nd
  have hu := hr.units
  have hu1 := hu1_64 hu
  exact ss_wide (W' := [1, 2, 3, 4]) (ss_cons (s_for PassesOwn.never rfl (i_rg1 (by rfl) C.b_range (a_cons (PFx.pp d_int) a_nil)) (pg_name (i := 1) nd rfl (by first | exact Or.inl rfl | exact Or.inr rfl)) (st_name (i := 1))
  (ss_cons (s_set (i := 2) nd rfl (by first | exact Or.inl rfl | exact Or.inr rfl) (x_fnI (F_law_needs_drawn_ C) hr (by decide) (by rfl) (pv 0) (x_cons (e_add (de_f d_int) (x_int C.b_int (x_cons (x_fnI (F_law_take_ C) hr (by decide) (by rfl) (pv 0) (x_cons (de_f d_int) x_nil)) x_nil))) x_nil)))
  (ss_cons (s_if (t_gt (p_ix (PFx.pp (c_fn (F_law_sum_ C) hr (by decide) (by rfl) (a_cons (dv 2) a_nil))) (PFx.pp d_int)) (PFx.pp d_int))
  (ss_one s_continue)
  ss_nil)
  (ss_cons (s_ifE (k_not (k_of (x_fnI (F_law_is_right_ C) hr (by decide) (by rfl) (pv 0) (x_cons (de_f (PPx.pf (dv 2))) x_nil))))
  (ss_one (s_ret (de_f d_bl)))
  ss_nil)
  (ss_cons (s_par (i := 3) (j := 4) rfl nd rfl rfl (by decide) rfl rfl (x_cons (de_f (f_cut (dv 2) o_none (o_some (p_fdiv (c_len C.b_len (a_cons (dv 2) a_nil)) (PFx.pp d_int))))) (x_cons (de_f (f_cut (dv 2) (o_some (p_fdiv (c_len C.b_len (a_cons (dv 2) a_nil)) (PFx.pp d_int))) o_none)) x_nil)))
  (ss_one (s_if (t_eq hu (p_ix (PFx.pp (c_fn (F_law_sum_ C) hr (by decide) (by rfl) (a_cons (dv 3) a_nil))) (PFx.pp d_int)) (PFx.pp d_int))
  (ss_one (s_if (t_gt (p_ix (PFx.pp (c_fn (F_fewest_moved C) hr (by decide) (by rfl) (a_cons (dv 2) a_nil))) (PFx.pp d_int)) (p_add (p_ix (PFx.pp (c_fn (F_fewest_moved C) hr (by decide) (by rfl) (a_cons (dv 3) a_nil))) (PFx.pp d_int)) (p_ix (PFx.pp (c_fn (F_fewest_moved C) hr (by decide) (by rfl) (a_cons (dv 4) a_nil))) (PFx.pp d_int))))
  (ss_one (s_ret (de_f d_bl)))
  ss_nil))
  ss_nil)))))))
  (ss_one (s_ret (de_f d_bl)))) (by decide))
abbrev N_law : List Str := ["script", "halves", "place"]
noncomputable def b_law : DS → Option Out :=
  (fSeq (fSet 1 (eP (pOp oRepT (pTup (qCons (pTup (qCons (pC (.int 3)) (qCons (pC (.int 2)) qNil))) qNil)) (pC (.int 8)))))
  (fSeq (fIf (cOr (cBl (pOp oNe (pOp oIx (pFn g_fewest_moved (qCons (pVar 1) qNil)) (pC (.int 1))) (pC (.int 4)))) (cOr (cBl (pOp oNe (pOp oIx (pFn g_fewest_moved (qCons (pOp oRepT (pTup (qCons (pTup (qCons (pC (.int 4)) (qCons (pC (.int 3)) qNil))) qNil)) (pC (.int 6))) qNil)) (pC (.int 1))) (pC (.int 4)))) (cBl (pOp oNe (pOp oIx (pFn g_fewest_moved (qCons (pOp oRepT (pTup (qCons (pTup (qCons (pC (.int 2)) (qCons (pC (.int 1)) qNil))) qNil)) (pC (.int 7))) qNil)) (pC (.int 1))) (pC (.int 0))))))
  (fRet (eP (pC (.bl false))))
  fNil)
  (fRet (eP (gImm (pCall oAll (qCons (pLc (iSeq (pFn g_law_cells_ (qCons (pVar 0) (qCons (pC (.int 2)) qNil)))) (gdN 2) cYes (pFnT g_law_right_ (pFn g_law_pot_ (qCons (pVar 0) (qCons (pVar 2) qNil))) qNil) [2]) qNil)))))))
noncomputable def g_law : List D → Option D := gOf 1 N_law b_law
theorem sc_law : FnScope N_law ["script"] (defScope (top 51)) := ⟨rfl, rfl, rfl, by decide +kernel, rfl, by decide +kernel, by decide +kernel⟩
theorem L_law {P : Program} {w : World} {K : PySem.W.Frag} {mg : Str → Option Value} {base : Heap} (C : Ctx K mg) {f : Addr} {fd : FuncData} (F : FunD K "law" "law" (defArgs (top 51)) (defBody (top 51)) (defScope (top 51)) [] [] f fd) : FnOk P w K mg base CX0 11 f fd ["script"] (spP K g_law) :=
  mkF (k := 10) (W := [1]) (N := N_law) (ps := ["script"]) F sc_law (hb := fun f cdv A outer s H E hr => by
  have nd := sc_law.nd
  have hu := hr.units
  have hu1 := hu1_64 hu
  exact ss_wide (W' := [1]) (ss_cons (s_set (i := 1) nd rfl (by first | exact Or.inl rfl | exact Or.inr rfl) (de_f (f_repT (PFx.pp (f_tup (b_cons (f_tup (b_cons d_int (b_cons d_int b_nil))) b_nil))) (PFx.pp d_int))))
  (ss_cons (s_if (t_w (w_or (t_ne hu (p_ix (PFx.pp (c_fn (F_fewest_moved C) hr (by decide) (by rfl) (a_cons (dv 1) a_nil))) (PFx.pp d_int)) (PFx.pp d_int)) (w_or (t_ne hu (p_ix (PFx.pp (c_fn (F_fewest_moved C) hr (by decide) (by rfl) (a_cons (PFx.pp (f_repT (PFx.pp (f_tup (b_cons (f_tup (b_cons d_int (b_cons d_int b_nil))) b_nil))) (PFx.pp d_int))) a_nil))) (PFx.pp d_int)) (PFx.pp d_int)) (w_or1 (t_ne hu (p_ix (PFx.pp (c_fn (F_fewest_moved C) hr (by decide) (by rfl) (a_cons (PFx.pp (f_repT (PFx.pp (f_tup (b_cons (f_tup (b_cons d_int (b_cons d_int b_nil))) b_nil))) (PFx.pp d_int))) a_nil))) (PFx.pp d_int)) (PFx.pp d_int))))))
  (ss_one (s_ret (de_f d_bl)))
  ss_nil)
  (ss_one (s_ret (de_f (PPx.pf (c_all C.b_all (a_cons (PFx.pp (f_lc (own := [("place", 2)]) rfl nd (i_new (c_fn (F_law_cells_ C) hr (by decide) (by rfl) (a_cons (dv 0) (a_cons (PFx.pp d_int) a_nil)))) (blkOk_by (N := N_law) (own := [("place", 2)]) (by kernel_rfl)) (ct_name (i := 2) (by decide)) (fun _ _ _ _ _ => (pg_name (i := 2) nd rfl (by first | exact Or.inl rfl | exact Or.inr rfl))) (fun _ _ _ _ _ => ts_nil) (fun _ _ _ _ _ => (c_fnT (F_law_right_ C) hr (by decide) (by rfl) (c_fn (F_law_pot_ C) hr (by decide) (by rfl) (a_cons (dv 0) (a_cons (dv 2) a_nil))) a_nil)))) a_nil)))))))) (by decide))
end Wk
set_option Elab.async false
set_option linter.all false
set_option maxRecDepth 100000
set_option maxHeartbeats 1000000
/-! Reckoning with the shallow functions: operations at data, loops by what stays true. -/
namespace DL
open PySem PySem.Spec PyProof.Rows L2
section
variable {i j : Int} {b c : Bool} {d e x y z : D} {l ds : List D}
theorem atI_nth {n : Nat} {α : Type} {l : List α} (h : n < l.length) : atI l (n : Int) = l[n]? := by
  unfold atI ixN
  rw [if_pos (Int.natCast_nonneg n), if_pos (by omega)]
  rfl
theorem ix_nat {n : Nat} (h : n < l.length) : oIx (.tup l) (.int (n : Int)) = l[n]? := atI_nth h
theorem ixl_nat {n : Nat} {o : Bool} (h : n < l.length) : oIx (.lst o l) (.int (n : Int)) = l[n]? := atI_nth h
theorem ix0 : oIx (.tup (x :: l)) (.int 0) = some x := by
  have h := ix_nat (n := 0) (l := x :: l) (by simp)
  simpa using h
theorem ix1 : oIx (.tup (x :: y :: l)) (.int 1) = some y := by
  have h := ix_nat (n := 1) (l := x :: y :: l) (by simp)
  simpa using h
theorem ix2 : oIx (.tup (x :: y :: z :: l)) (.int 2) = some z := by
  have h := ix_nat (n := 2) (l := x :: y :: z :: l) (by simp)
  simpa using h
theorem ix3 : oIx (.tup (x :: y :: z :: d :: l)) (.int 3) = some d := by
  have h := ix_nat (n := 3) (l := x :: y :: z :: d :: l) (by simp)
  simpa using h
theorem oAdd_i : oAdd (.int i) (.int j) = some (.int (i + j)) := rfl
theorem oSub_i : oSub (.int i) (.int j) = some (.int (i - j)) := rfl
theorem oMul_i (h : cW i j = true) : oMul (.int i) (.int j) = some (.int (i * j)) := by
  unfold oMul oI
  simp [h]
theorem oDiv_i (h : cD i j = true) : oDiv (.int i) (.int j) = some (.int (i / j)) := by
  unfold oDiv oI
  simp [h]
theorem oMod_i (h : j ≠ 0) : oMod (.int i) (.int j) = some (.int (i.fmod j)) := by
  unfold oMod oI cP
  simp [h]
theorem oLt_i : oLt (.int i) (.int j) = some (.bl (decide (i < j))) := rfl
theorem oLe_i : oLe (.int i) (.int j) = some (.bl (decide (i ≤ j))) := rfl
theorem oGt_i : oGt (.int i) (.int j) = some (.bl (decide (j < i))) := rfl
theorem oGe_i : oGe (.int i) (.int j) = some (.bl (decide (j ≤ i))) := rfl
theorem sh_i : D.sh (.int i) = true := by simp [D.sh, D.py, SeqAt.shaped, PyData.canLay0, PyData.depth]
theorem beq_dec : (i == j) = decide (i = j) := Bool.eq_iff_iff.mpr (by simp)
theorem oEq_i : oEq (.int i) (.int j) = some (.bl (decide (i = j))) := by
  unfold oEq
  rw [if_pos ⟨sh_i, sh_i⟩]
  simp only [D.py, PyData.eqv, beq_dec]
theorem oNe_i : oNe (.int i) (.int j) = some (.bl (!decide (i = j))) := by
  unfold oNe
  rw [if_pos ⟨sh_i, sh_i⟩]
  simp only [D.py, PyData.eqv, beq_dec]
theorem oInt_i : oInt [.int i] = some (.int i) := rfl
theorem oInt_b : oInt [.bl b] = some (.int (if b = true then 1 else 0)) := rfl
theorem oAbs_i : oAbs [.int i] = some (.int (i.natAbs : Int)) := by
  have e : (if i < 0 then -i else i) = (i.natAbs : Int) := by split <;> omega
  show some (D.int (if i < 0 then -i else i)) = _
  rw [e]
theorem oMax2_i : oMax2 [.int i, .int j] = some (.int (max i j)) := by
  have e : (if j > i then j else i) = max i j := by split <;> omega
  show some (D.int (if j > i then j else i)) = _
  rw [e]
theorem oMin2_i : oMin2 [.int i, .int j] = some (.int (min i j)) := by
  have e : (if j < i then j else i) = min i j := by split <;> omega
  show some (D.int (if j < i then j else i)) = _
  rw [e]
theorem oIs_n {neg : Bool} : oIs neg .non .non = some (.bl (!neg)) := by cases neg <;> rfl
theorem oIs_i {neg : Bool} : oIs neg (.int i) .non = some (.bl neg) := by cases neg <;> rfl
theorem oIs_t {neg : Bool} : oIs neg (.tup l) .non = some (.bl neg) := by cases neg <;> rfl
theorem oIs_bb : oIs false (.bl b) (.bl c) = some (.bl (decide (b = c))) := rfl
theorem oIs_bn : oIs true (.bl b) (.bl c) = some (.bl (!decide (b = c))) := rfl
theorem tru_b : D.tru (.bl b) = some b := rfl
theorem tru_i : D.tru (.int i) = some (i != 0) := rfl
end
mutual
/-- data in which == is just sameness -/
def plain : PyData → Bool
  | .none => true | .int _ => true | .str _ => true
  | .tuple xs => plains xs | .list xs => plains xs
  | .bool _ => false | .dict _ => false
def plains : List PyData → Bool
  | [] => true
  | x :: xs => plain x && plains xs
end
mutual
theorem eqv_iff : ∀ {x y : PyData}, plain x = true → plain y = true → (PyData.eqv x y = true ↔ x = y)
  | .none, y, _, hy => by cases y <;> simp [PyData.eqv]
  | .int i, y, _, hy => by cases y <;> simp [PyData.eqv, plain] at hy ⊢
  | .str s, y, _, hy => by cases y <;> simp [PyData.eqv, plain] at hy ⊢
  | .bool b, y, hx, _ => by simp [plain] at hx
  | .dict b, y, hx, _ => by simp [plain] at hx
  | .tuple xs, y, hx, hy => by
    cases y with
    | tuple ys =>
      simp only [plain] at hx hy
      simp only [PyData.eqv, PyData.tuple.injEq]
      exact eqvs_iff hx hy
    | _ => simp [PyData.eqv, plain] at hy ⊢
  | .list xs, y, hx, hy => by
    cases y with
    | list ys =>
      simp only [plain] at hx hy
      simp only [PyData.eqv, PyData.list.injEq]
      exact eqvs_iff hx hy
    | _ => simp [PyData.eqv, plain] at hy ⊢
theorem eqvs_iff : ∀ {xs ys : List PyData}, plains xs = true → plains ys = true → (PyData.eqvAll xs ys = true ↔ xs = ys)
  | [], [], _, _ => by simp [PyData.eqvAll]
  | [], _ :: _, _, _ => by simp [PyData.eqvAll]
  | _ :: _, [], _, _ => by simp [PyData.eqvAll]
  | x :: xs, y :: ys, hx, hy => by
    simp only [plains, Bool.and_eq_true] at hx hy
    simp only [PyData.eqvAll, Bool.and_eq_true, List.cons.injEq]
    rw [eqv_iff hx.1 hy.1, eqvs_iff hx.2 hy.2]
end
mutual
/-- .. of trees: ints, texts, None, tuples, lists -/
def D.pl : D → Bool
  | .non => true | .int _ => true | .str x => PyData.strOk x
  | .tup ds => D.pls ds | .lst _ ds => D.pls ds
  | _ => false
def D.pls : List D → Bool
  | [] => true
  | x :: xs => D.pl x && D.pls xs
end
mutual
theorem pl_plain : ∀ {d : D}, d.pl = true → plain d.py = true ∧ d.py.canLay0 = true
  | .non, _ => by simp [D.py, plain, PyData.canLay0]
  | .int _, _ => by simp [D.py, plain, PyData.canLay0]
  | .str _, h => by
    simp only [D.pl] at h
    simp [D.py, plain, PyData.canLay0, h]
  | .tup ds, h => by
    simp only [D.pl] at h
    simp only [D.py, plain, PyData.canLay0]
    exact pls_plain h
  | .lst _ ds, h => by
    simp only [D.pl] at h
    simp only [D.py, plain, PyData.canLay0]
    exact pls_plain h
  | .bl _, h => by simp [D.pl] at h
  | .scr _, h => by simp [D.pl] at h
  | .dk _ _ _, h => by simp [D.pl] at h
  | .dt _ _ _, h => by simp [D.pl] at h
theorem pls_plain : ∀ {ds : List D}, D.pls ds = true → plains (D.pys ds) = true ∧ PyData.canLayAll0 (D.pys ds) = true
  | [], _ => by simp [D.pys, plains, PyData.canLayAll0]
  | d :: ds, h => by
    simp only [D.pls, Bool.and_eq_true] at h
    simp only [D.pys, plains, PyData.canLayAll0, Bool.and_eq_true]
    exact ⟨⟨(pl_plain h.1).1, (pls_plain h.2).1⟩, (pl_plain h.1).2, (pls_plain h.2).2⟩
end
/-- == of plain data, not too deep -/
theorem oEq_pl {x y : D} {p : Prop} [Decidable p] (hx : x.pl = true) (hy : y.pl = true) (dx : x.py.depth ≤ 64) (dy : y.py.depth ≤ 64) (h : x.py = y.py ↔ p) : oEq x y = some (.bl (decide p)) ∧ oNe x y = some (.bl (!decide p)) := by
  have sx : x.sh = true := by simp [D.sh, SeqAt.shaped, (pl_plain hx).2, dx]
  have sy : y.sh = true := by simp [D.sh, SeqAt.shaped, (pl_plain hy).2, dy]
  have e : PyData.eqv x.py y.py = decide p := by
    have z := (eqv_iff (pl_plain hx).1 (pl_plain hy).1).trans h
    cases q : PyData.eqv x.py y.py with
    | true => exact (decide_eq_true (z.mp q)).symm
    | false => exact (decide_eq_false fun w => by rw [z.mpr w] at q; cases q).symm
  unfold oEq oNe
  rw [if_pos ⟨sx, sy⟩, if_pos ⟨sx, sy⟩, e]
  exact ⟨rfl, rfl⟩
/-! ### a def -/
theorem gOf_rt {n : Nat} {N : List Str} {body : DS → Option Out} {ds : List D} {r : D} {τ : DS} (hl : ds.length = n) (h : body (startD N ds) = some (.rt r τ)) : gOf n N body ds = some r := by
  unfold gOf endD
  rw [if_pos hl, h]
  rfl
theorem gOf_nx {n : Nat} {N : List Str} {body : DS → Option Out} {ds : List D} {τ : DS} (hl : ds.length = n) (h : body (startD N ds) = some (.nx τ)) : gOf n N body ds = some .non := by
  unfold gOf endD
  rw [if_pos hl, h]
  rfl
theorem gIOf_rt {n : Nat} {N : List Str} {body : DS → Option Out} {ds : List D} {r d : D} {τ : DS} (hl : ds.length = n) (h : body (startD N ds) = some (.rt r τ)) (h0 : τ[0]? = some (some d)) : gIOf n N body ds = some (r, d) := by
  unfold gIOf
  rw [if_pos hl, h]
  simp [pVar, h0]
theorem seq_nx {f g : DS → Option Out} {τ τ' : DS} (h : f τ = some (.nx τ')) : fSeq f g τ = g τ' := by
  unfold fSeq
  rw [h]
  rfl
theorem seq_rt {f g : DS → Option Out} {τ τ' : DS} {d : D} (h : f τ = some (.rt d τ')) : fSeq f g τ = some (.rt d τ') := by
  unfold fSeq
  rw [h]
  rfl
theorem seq_ct {f g : DS → Option Out} {τ τ' : DS} (h : f τ = some (.ct τ')) : fSeq f g τ = some (.ct τ') := by
  unfold fSeq
  rw [h]
  rfl
theorem frz_run {i : Nat} {f : DS → Option Out} {τ : DS} {d : D} (h : τ[i]? = some (some d)) : fFrz i f τ = f (τ.set i (some d.frz)) := by
  unfold fFrz pVar
  rw [h]
  rfl
theorem frz_run' {i : Nat} {f : DS → Option Out} {τ : DS} {d d' : D} (h : τ[i]? = some (some d)) (hf : d.frz = d') : fFrz i f τ = f (τ.set i (some d')) := by
  rw [frz_run h, hf]
theorem lc_eq {q : DS → Option (List D)} {g : D → DS → Option DS} {c : DS → Option Bool} {p : DS → Option D} {vs : List Nat} {τ τ' : DS} {ds rs : List D} (h1 : q τ = some ds) (hl : ds.length ≤ 16777216) (hw : wipeD τ vs = τ') (h2 : lcD g c p τ' ds = some rs) : pLc q g c p vs τ = some (.lst true rs) := by
  unfold pLc
  rw [h1]
  simp only [Option.bind_some, if_pos hl, hw, h2]
theorem okR_of {i : Int} (h1 : -16777216 ≤ i) (h2 : i ≤ 16777216) : okR i = true := by
  unfold okR
  simp only [Bool.and_eq_true, decide_eq_true_eq]
  omega
theorem rg1_a {p : DS → Option D} {τ : DS} {j : Int} (h : p τ = some (.int j)) (hn : okR j = true) : iRg1 (qCons p qNil) τ = some (rgD 0 j.toNat) := by
  unfold iRg1 qCons qNil
  rw [h]
  simp only [Option.bind_some, hn, if_true]
theorem rg2_a {p q : DS → Option D} {τ : DS} {a b : Int} (h : p τ = some (.int a)) (h' : q τ = some (.int b)) (h1 : okR a = true) (h2 : okR b = true) : iRg2 (qCons p (qCons q qNil)) τ = some (rgD a (b - a).toNat) := by
  unfold iRg2 qCons qNil
  rw [h, h']
  simp only [Option.bind_some, h1, h2, and_self, if_true]
theorem rg1_eq {p : DS → Option D} {τ : DS} {n : Nat} (h : p τ = some (.int (n : Int))) (hn : n ≤ 16777216) : iRg1 (qCons p qNil) τ = some (rgD 0 n) := rg1_a h (okR_of (by omega) (by omega))
theorem rg2_eq {p q : DS → Option D} {τ : DS} {a b : Int} (h : p τ = some (.int a)) (h' : q τ = some (.int b)) (ha : -16777216 ≤ a ∧ a ≤ 16777216) (hb : -16777216 ≤ b ∧ b ≤ 16777216) : iRg2 (qCons p (qCons q qNil)) τ = some (rgD a (b - a).toNat) := rg2_a h h' (okR_of ha.1 ha.2) (okR_of hb.1 hb.2)
theorem call_run {o : List D → Option D} {q : DS → Option (List D)} {τ : DS} {l : List D} {d : D} (h : q τ = some l) (ho : o l = some d) : pCall o q τ = some d := by
  unfold pCall
  rw [h, Option.bind_some, ho]
theorem fn_run {g : List D → Option D} {q : DS → Option (List D)} {τ : DS} {l l' : List D} {d : D} (h : q τ = some l) (hf : D.frzs l = l') (hg : g l' = some d) (hd : d.nof = true) : pFn g q τ = some d := by
  unfold pFn
  rw [h, Option.bind_some, hf, hg, Option.bind_some, if_pos hd]
theorem ret_run {fe : DS → Option (D × DS)} {τ τ' : DS} {d : D} (h : fe τ = some (d, τ')) : fRet fe τ = some (.rt d τ') := by
  unfold fRet
  rw [h]
  rfl
theorem if_yes {c : DS → Option Bool} {f g : DS → Option Out} {τ : DS} (h : c τ = some true) : fIf c f g τ = f τ := by
  unfold fIf
  rw [h]
  rfl
theorem if_no {c : DS → Option Bool} {f g : DS → Option Out} {τ : DS} (h : c τ = some false) : fIf c f g τ = g τ := by
  unfold fIf
  rw [h]
  rfl
theorem for_eq {q : DS → Option (List D)} {g : D → DS → Option DS} {f : DS → Option Out} {τ : DS} {ds : List D} (h : q τ = some ds) : fFor q g f τ = forD g f ds τ := by
  unfold fFor
  rw [h]
  rfl
theorem set_run {i : Nat} {fe : DS → Option (D × DS)} {τ τ' : DS} {d : D} (h : fe τ = some (d, τ')) : fSet i fe τ = some (.nx (τ'.set i (some d))) := by
  unfold fSet
  rw [h]
  rfl
theorem app_run {i : Nat} {fe : DS → Option (D × DS)} {τ τ' : DS} {d : D} {ds ds0 : List D} (h0 : τ[i]? = some (some (.lst true ds0))) (h : fe τ = some (d, τ')) (h1 : τ'[i]? = some (some (.lst true ds))) (hl : ds.length < 16777216) : fApp i fe τ = some (.nx (τ'.set i (some (.lst true (ds ++ [d]))))) := by
  unfold fApp pVar
  rw [h0]
  simp only [Option.join_some, Option.bind_some, h, h1, if_pos hl]
theorem eP_run {p : DS → Option D} {τ : DS} {d : D} (h : p τ = some d) (hd : d.imm = true ∨ d.nof = true) : eP p τ = some (d, τ) := by
  unfold eP
  rw [h, Option.bind_some, if_pos hd]
theorem gI_run {p : DS → Option D} {τ : DS} {d : D} (h : p τ = some d) (hd : d.imm = true) : gImm p τ = some d := by
  unfold gImm
  rw [h, Option.bind_some, if_pos hd]
theorem op_run {o : D → D → Option D} {p q : DS → Option D} {τ : DS} {x y d : D} (h1 : p τ = some x) (h2 : q τ = some y) (h : o x y = some d) : pOp o p q τ = some d := by
  unfold pOp
  rw [h1, Option.bind_some, h2, Option.bind_some, h]
/-! ### loops -/
/-- a for that runs through: I holds behind each turn -/
theorem for_run {g : D → DS → Option DS} {f : DS → Option Out} (I : Nat → DS → Prop) : ∀ (ds : List D) (k : Nat) (τ : DS), I k τ →
    (∀ (i : Nat) (d : D) (τ : DS), ds[i]? = some d → I (k + i) τ → ∃ τ1 τ2, g d τ = some τ1 ∧ (f τ1 = some (.nx τ2) ∨ f τ1 = some (.ct τ2)) ∧ I (k + i + 1) τ2) → ∃ τ', forD g f ds τ = some (.nx τ') ∧ I (k + ds.length) τ'
  | [], k, τ, h0, _ => ⟨τ, rfl, h0⟩
  | d :: ds, k, τ, h0, hs => by
    obtain ⟨τ1, τ2, e1, e2, h1⟩ := hs 0 d τ rfl h0
    obtain ⟨τ', e3, h3⟩ := for_run I ds (k + 1) τ2 h1 fun i d' τ'' hd hi => by
      have z := hs (i + 1) d' τ'' (by simpa using hd) (by rw [show k + (i + 1) = k + 1 + i by omega]; exact hi)
      rw [show k + (i + 1) + 1 = k + 1 + i + 1 by omega] at z
      exact z
    refine ⟨τ', ?_, by rw [List.length_cons, show k + (ds.length + 1) = k + 1 + ds.length by omega]; exact h3⟩
    unfold forD
    rw [e1, Option.bind_some]
    rcases e2 with e2 | e2 <;> rw [e2] <;> exact e3
/-- the comprehension's list -/
theorem lc_run {α : Type} {g : D → DS → Option DS} {c : DS → Option Bool} {p : DS → Option D} {τ : DS} (enc : α → D) (C : α → Bool) (F : α → D) : ∀ xs : List α, (∀ x ∈ xs, ∃ τ1, g (enc x) τ = some τ1 ∧ c τ1 = some (C x) ∧ (C x = true → p τ1 = some (F x))) →
    lcD g c p τ (xs.map enc) = some ((xs.filter C).map F)
  | [], _ => rfl
  | x :: xs, h => by
    obtain ⟨τ1, e1, e2, e3⟩ := h x List.mem_cons_self
    have ih := lc_run enc C F xs fun y hy => h y (List.mem_cons_of_mem _ hy)
    rw [List.map_cons]
    unfold lcD
    rw [e1, Option.bind_some, e2, Option.bind_some]
    cases hc : C x with
    | true =>
      rw [if_pos rfl, e3 hc, Option.bind_some, ih, List.filter_cons_of_pos hc]
      rfl
    | false =>
      rw [if_neg Bool.false_ne_true, ih, List.filter_cons_of_neg (by rw [hc]; exact Bool.false_ne_true)]
/-- .. of all -/
theorem lc_all {α : Type} {g : D → DS → Option DS} {p : DS → Option D} {τ : DS} (enc : α → D) (F : α → D) (xs : List α) (h : ∀ x ∈ xs, ∃ τ1, g (enc x) τ = some τ1 ∧ p τ1 = some (F x)) : lcD g cYes p τ (xs.map enc) = some (xs.map F) := by
  have z := lc_run (c := cYes) enc (fun _ => true) F xs fun x hx => by
    obtain ⟨τ1, e1, e2⟩ := h x hx
    exact ⟨τ1, e1, rfl, fun _ => e2⟩
  rw [List.filter_eq_self.mpr fun _ _ => rfl] at z
  exact z
/-- a while that ends: I holds at each test, m goes down -/
theorem while_run {c : DS → Option Bool} {f : DS → Option Out} (I : DS → Prop) (m : DS → Nat) (hs : ∀ τ, I τ → ∃ b, c τ = some b ∧ (b = true → ∃ τ', (f τ = some (.nx τ') ∨ f τ = some (.ct τ')) ∧ I τ' ∧ m τ' < m τ)) : ∀ τ, I τ → ∃ τ', fWhile c f τ = some (.nx τ') ∧ I τ' ∧ c τ' = some false := by
  have key : ∀ (n : Nat) (τ : DS), m τ < n → I τ → ∃ τ', whileN c f n τ = some (.nx τ') ∧ I τ' ∧ c τ' = some false := fun n => by
    induction n with
    | zero => exact fun τ h => absurd h (Nat.not_lt_zero _)
    | succ n ih =>
      intro τ hm hi
      obtain ⟨b, e1, e2⟩ := hs τ hi
      cases b with
      | true =>
        obtain ⟨τ', e3, h3, h4⟩ := e2 rfl
        obtain ⟨τ'', e5, h5, h6⟩ := ih τ' (by omega) h3
        refine ⟨τ'', ?_, h5, h6⟩
        unfold whileN
        rw [e1, Option.bind_some, if_pos rfl]
        rcases e3 with e3 | e3 <;> rw [e3] <;> exact e5
      | false =>
        refine ⟨τ, ?_, hi, e1⟩
        unfold whileN
        rw [e1, Option.bind_some, if_neg Bool.false_ne_true]
  intro τ hi
  obtain ⟨τ', e, h1, h2⟩ := key (m τ + 1) τ (Nat.lt_succ_self _) hi
  exact ⟨τ', fWhile_of e, h1, h2⟩
end DL
set_option Elab.async false
set_option linter.all false
set_option maxRecDepth 100000
set_option maxHeartbeats 1000000
/-! What a body ends with: by what is wanted behind it. -/
namespace DL
open PySem PySem.Spec PyProof.Rows L2
def WP (m : Option Out) (Q : Out → Prop) : Prop := ∃ o, m = some o ∧ Q o
/-- ends by the return of d -/
def Rt (d : D) : Out → Prop := fun o => ∃ τ, o = .rt d τ
/-- .. and the first place holds d0 then -/
def RtI (d d0 : D) : Out → Prop := fun o => ∃ τ, o = .rt d τ ∧ τ[0]? = some (some d0)
def Nx (P : DS → Prop) : Out → Prop
  | .nx τ => P τ
  | _ => False
def Sq (g : DS → Option Out) (Q : Out → Prop) : Out → Prop
  | .nx τ => WP (g τ) Q
  | .rt d τ => Q (.rt d τ)
  | .bk τ => Q (.bk τ)
  | .ct τ => Q (.ct τ)
/-- one turn of a loop -/
def Lp (J : DS → Prop) (Q : Out → Prop) : Out → Prop
  | .nx τ => J τ
  | .ct τ => J τ
  | .bk τ => Q (.nx τ)
  | .rt d τ => Q (.rt d τ)
section
variable {f g : DS → Option Out} {τ τ' : DS} {Q Q' : Out → Prop} {d d' r : D} {fe : DS → Option (D × DS)} {c : DS → Option Bool} {b : Bool} {q : DS → Option (List D)} {gd : D → DS → Option DS} {ds l : List D} {i j : Nat} {p : DS → Option D}
theorem WP.mono {m : Option Out} (h : WP m Q) (k : ∀ o, Q o → Q' o) : WP m Q' := by
  obtain ⟨o, e, h⟩ := h
  exact ⟨o, e, k o h⟩
theorem wp_some {o : Out} (h : Q o) : WP (some o) Q := ⟨o, rfl, h⟩
theorem wp_of {o : Out} {m : Option Out} (e : m = some o) (h : Q o) : WP m Q := ⟨o, e, h⟩
theorem wp_nil (h : Q (.nx τ)) : WP (fNil τ) Q := ⟨_, rfl, h⟩
theorem wp_seq (h : WP (f τ) (Sq g Q)) : WP (fSeq f g τ) Q := by
  obtain ⟨o, e, h⟩ := h
  unfold fSeq
  rw [e]
  cases o with
  | nx τ' => exact h
  | _ => exact ⟨_, rfl, h⟩
theorem wp_set (h : fe τ = some (d, τ')) (k : Q (.nx (τ'.set i (some d)))) : WP (fSet i fe τ) Q := ⟨_, set_run h, k⟩
theorem wp_frz (h : τ[i]? = some (some d)) (hf : d.frz = d') (k : WP (f (τ.set i (some d'))) Q) : WP (fFrz i f τ) Q := by rw [frz_run' h hf]; exact k
theorem wp_ret (h : fe τ = some (d, τ')) (k : Q (.rt d τ')) : WP (fRet fe τ) Q := ⟨_, ret_run h, k⟩
theorem wp_exp (h : fe τ = some (d, τ')) (k : Q (.nx τ')) : WP (fExp fe τ) Q := ⟨.nx τ', by unfold fExp; rw [h]; rfl, k⟩
theorem wp_if (h : c τ = some b) (ht : b = true → WP (f τ) Q) (hf : b = false → WP (g τ) Q) : WP (fIf c f g τ) Q := by
  cases b with
  | true => rw [if_yes h]; exact ht rfl
  | false => rw [if_no h]; exact hf rfl
theorem wp_yes (h : c τ = some true) (ht : WP (f τ) Q) : WP (fIf c f g τ) Q := by rw [if_yes h]; exact ht
theorem wp_no (h : c τ = some false) (hf : WP (g τ) Q) : WP (fIf c f g τ) Q := by rw [if_no h]; exact hf
theorem wp_ife {c : DS → Option (Bool × DS)} (h : c τ = some (b, τ')) (ht : b = true → WP (f τ') Q) (hf : b = false → WP (g τ') Q) : WP (fIfE c f g τ) Q := by
  unfold fIfE
  rw [h, Option.bind_some]
  cases b with
  | true => exact ht rfl
  | false => exact hf rfl
theorem wp_app {ds0 : List D} (h0 : τ[i]? = some (some (.lst true ds0))) (h : fe τ = some (d, τ')) (h1 : τ'[i]? = some (some (.lst true ds))) (hl : ds.length < 16777216) (k : Q (.nx (τ'.set i (some (.lst true (ds ++ [d])))))) : WP (fApp i fe τ) Q := ⟨_, app_run h0 h h1 hl, k⟩
theorem wp_par {x y : D} {q : DS → Option (List D × DS)} (h : q τ = some ([x, y], τ')) (k : Q (.nx ((τ'.set i (some x)).set j (some y)))) : WP (fPar i j q τ) Q := ⟨.nx ((τ'.set i (some x)).set j (some y)), by unfold fPar; rw [h]; rfl, k⟩
theorem wp_par3 {x y z : D} {l : Nat} {q : DS → Option (List D × DS)} (h : q τ = some ([x, y, z], τ')) (k : Q (.nx (((τ'.set i (some x)).set j (some y)).set l (some z)))) : WP (fPar3 i j l q τ) Q := ⟨.nx (((τ'.set i (some x)).set j (some y)).set l (some z)), by unfold fPar3; rw [h]; rfl, k⟩
theorem wp_asg (h : fe τ = some (d, τ')) {τ2 : DS} (h2 : gd d.frz τ' = some τ2) (k : Q (.nx τ2)) : WP (fAsg gd fe τ) Q := ⟨.nx τ2, by unfold fAsg; rw [h, Option.bind_some]; show (gd d.frz τ').bind _ = _; rw [h2]; rfl, k⟩
/-! ### loops -/
theorem wp_forD (I : Nat → DS → Prop) : ∀ (ds : List D) (k : Nat) (τ : DS), I k τ →
    (∀ (i : Nat) (d : D) (τ : DS), ds[i]? = some d → I (k + i) τ → ∃ τ1, gd d τ = some τ1 ∧ WP (f τ1) (Lp (I (k + i + 1)) Q)) →
    (∀ τ', I (k + ds.length) τ' → Q (.nx τ')) → WP (forD gd f ds τ) Q
  | [], k, τ, h0, _, he => ⟨.nx τ, rfl, he τ h0⟩
  | d :: ds, k, τ, h0, hs, he => by
    obtain ⟨τ1, e1, o, e2, h1⟩ := hs 0 d τ rfl h0
    have nxt : ∀ τ2, I (k + 1) τ2 → WP (forD gd f ds τ2) Q := fun τ2 h => wp_forD I ds (k + 1) τ2 h (fun i d' τ'' hd hi => by
      have z := hs (i + 1) d' τ'' (by simpa using hd) (by rw [show k + (i + 1) = k + 1 + i by omega]; exact hi)
      rw [show k + (i + 1) + 1 = k + 1 + i + 1 by omega] at z
      exact z) fun τ' h => he τ' (by rw [List.length_cons, show k + (ds.length + 1) = k + 1 + ds.length by omega]; exact h)
    unfold forD
    rw [e1, Option.bind_some, e2, Option.bind_some]
    cases o with
    | nx τ2 => exact nxt τ2 h1
    | ct τ2 => exact nxt τ2 h1
    | bk τ2 => exact ⟨_, rfl, h1⟩
    | rt d τ2 => exact ⟨_, rfl, h1⟩
/-- a for: I k holds ahead of turn k -/
theorem wp_for (I : Nat → DS → Prop) (h : q τ = some ds) (h0 : I 0 τ) (hs : ∀ (i : Nat) (d : D) (τ : DS), ds[i]? = some d → I i τ → ∃ τ1, gd d τ = some τ1 ∧ WP (f τ1) (Lp (I (i + 1)) Q))
    (he : ∀ τ', I ds.length τ' → Q (.nx τ')) : WP (fFor q gd f τ) Q := by
  rw [for_eq h]
  refine wp_forD I ds 0 τ h0 (fun i d τ hd hi => ?_) fun τ' h => he τ' (by rwa [Nat.zero_add] at h)
  rw [Nat.zero_add] at hi ⊢
  exact hs i d τ hd hi
/-- .. over the codes of xs, from the left: what is gone, what is left -/
theorem wp_forL {α : Type} {enc : α → D} {xs : List α} (I : List α → DS → Prop) (h : q τ = some (xs.map enc)) (h0 : I [] τ)
    (hs : ∀ (pre : List α) (x : α) (post : List α) (τ : DS), xs = pre ++ x :: post → I pre τ → ∃ τ1, gd (enc x) τ = some τ1 ∧ WP (f τ1) (Lp (I (pre ++ [x])) Q))
    (he : ∀ τ', I xs τ' → Q (.nx τ')) : WP (fFor q gd f τ) Q := by
  refine wp_for (fun k => I (xs.take k)) h h0 (fun i d τ hd hi => ?_) fun τ' h => he τ' (by rw [List.length_map, List.take_length] at h; exact h)
  rw [List.getElem?_map] at hd
  obtain ⟨x, hx, rfl⟩ := Option.map_eq_some_iff.mp hd
  obtain ⟨hl, rfl⟩ := List.getElem?_eq_some_iff.mp hx
  have z := hs (xs.take i) xs[i] (xs.drop (i + 1)) τ (by simp) hi
  rw [List.take_append_getElem hl] at z
  exact z
theorem wp_while (I : DS → Prop) (m : DS → Nat) (h0 : I τ) (hs : ∀ τ, I τ → ∃ b, c τ = some b ∧ (b = true → WP (f τ) (Lp (fun τ' => I τ' ∧ m τ' < m τ) Q)) ∧ (b = false → Q (.nx τ))) : WP (fWhile c f τ) Q := by
  have key : ∀ (n : Nat) (τ : DS), m τ < n → I τ → WP (whileN c f n τ) Q := fun n => by
    induction n with
    | zero => exact fun τ h => absurd h (Nat.not_lt_zero _)
    | succ n ih =>
      intro τ hm hi
      obtain ⟨b, e1, e2, e3⟩ := hs τ hi
      unfold whileN
      rw [e1, Option.bind_some]
      cases b with
      | true =>
        obtain ⟨o, e4, h4⟩ := e2 rfl
        rw [if_pos rfl, e4, Option.bind_some]
        cases o with
        | nx τ2 => exact ih τ2 (by have := h4.2; omega) h4.1
        | ct τ2 => exact ih τ2 (by have := h4.2; omega) h4.1
        | bk τ2 => exact ⟨_, rfl, h4⟩
        | rt d τ2 => exact ⟨_, rfl, h4⟩
      | false =>
        rw [if_neg Bool.false_ne_true]
        exact ⟨_, rfl, e3 rfl⟩
  obtain ⟨o, e, h⟩ := key (m τ + 1) τ (Nat.lt_succ_self _) h0
  exact ⟨o, fWhile_of e, h⟩
theorem wp_setP (h : p τ = some d) (hd : d.imm = true ∨ d.nof = true) (k : Q (.nx (τ.set i (some d)))) : WP (fSet i (eP p) τ) Q := wp_set (eP_run h hd) k
theorem wp_retP (h : p τ = some d) (hd : d.imm = true ∨ d.nof = true) (k : Q (.rt d τ)) : WP (fRet (eP p) τ) Q := wp_ret (eP_run h hd) k
theorem wp_expP (h : p τ = some d) (hd : d.imm = true ∨ d.nof = true) (k : Q (.nx τ)) : WP (fExp (eP p) τ) Q := wp_exp (eP_run h hd) k
theorem wp_appP (h0 : τ[i]? = some (some (.lst true ds))) (h : p τ = some d) (hd : d.imm = true ∨ d.nof = true) (hl : ds.length < 16777216) (k : Q (.nx (τ.set i (some (.lst true (ds ++ [d])))))) : WP (fApp i (eP p) τ) Q := wp_app h0 (eP_run h hd) h0 hl k
theorem wp_parP {p1 p2 : DS → Option D} {x y : D} (h1 : p1 τ = some x) (hx : x.imm = true ∨ x.nof = true) (h2 : p2 τ = some y) (hy : y.imm = true ∨ y.nof = true) (k : Q (.nx ((τ.set i (some x)).set j (some y)))) : WP (fPar i j (xCons (eP p1) (xCons (eP p2) xNil)) τ) Q := wp_par (by simp only [xCons, xNil, eP_run h1 hx, eP_run h2 hy, Option.bind_some]) k
theorem wp_par3P {p1 p2 p3 : DS → Option D} {x y z : D} {l : Nat} (h1 : p1 τ = some x) (hx : x.imm = true ∨ x.nof = true) (h2 : p2 τ = some y) (hy : y.imm = true ∨ y.nof = true) (h3 : p3 τ = some z) (hz : z.imm = true ∨ z.nof = true) (k : Q (.nx (((τ.set i (some x)).set j (some y)).set l (some z)))) : WP (fPar3 i j l (xCons (eP p1) (xCons (eP p2) (xCons (eP p3) xNil))) τ) Q := wp_par3 (by simp only [xCons, xNil, eP_run h1 hx, eP_run h2 hy, eP_run h3 hz, Option.bind_some]) k
theorem wp_asgP (h : p τ = some d) (hd : d.imm = true ∨ d.nof = true) {τ2 : DS} (h2 : gd d.frz τ = some τ2) (k : Q (.nx τ2)) : WP (fAsg gd (eP p) τ) Q := wp_asg (eP_run h hd) h2 k
/-! ### a def -/
theorem g_wp {n : Nat} {N : List Str} {body : DS → Option Out} (hl : ds.length = n) (h : WP (body (startD N ds)) (Rt r)) : gOf n N body ds = some r := by
  obtain ⟨o, e, τ, rfl⟩ := h
  exact gOf_rt hl e
theorem gI_wp {n : Nat} {N : List Str} {body : DS → Option Out} {d0 : D} (hl : ds.length = n) (h : WP (body (startD N ds)) (RtI r d0)) : gIOf n N body ds = some (r, d0) := by
  obtain ⟨o, e, τ, rfl, h0⟩ := h
  exact gIOf_rt hl e h0
theorem pair_eq {α β : Type} {a c : α} {b d : β} (h1 : a = c) (h2 : b = d) : some (a, b) = some (c, d) := by rw [h1, h2]
end
end DL
set_option Elab.async false
set_option linter.all false
set_option maxRecDepth 100000
set_option maxHeartbeats 1000000
/-! sorted of data. -/
namespace DL
open PySem PySem.Spec PyProof.Rows L2 PySem.W
theorem le_tot : TotalLe D.le := sortLe_total (listOrd itemOrd) false fun b => keyToks (D.py b)
theorem D.le_trans' (a b c : D) (h1 : D.le a b = true) (h2 : D.le b c = true) : D.le a c = true := le_tot.trans a b c h1 h2
theorem D.le_total' (a b : D) : (D.le a b || D.le b a) = true := by rcases le_tot.total a b with h | h <;> simp [h]
theorem le_refl' (a : D) : D.le a a = true := by rcases le_tot.total a a with h | h <;> exact h
def LeP (ds : List D) : Prop := ds.Pairwise fun a b => D.le a b = true
theorem sort_leP (ds : List D) : LeP (ds.mergeSort D.le) := List.pairwise_mergeSort D.le_trans' D.le_total' ds
theorem sort_perm (ds : List D) : (ds.mergeSort D.le).Perm ds := List.mergeSort_perm ds D.le
theorem sort_id {ds : List D} (h : LeP ds) : ds.mergeSort D.le = ds := List.mergeSort_of_pairwise h
theorem le_iff {a b : D} : D.le a b = true ↔ dataLt b.py a.py = false := by
  have : D.le a b = !dataLt b.py a.py := rfl
  rw [this]
  simp
theorem le_int {i j : Int} : D.le (.int i) (.int j) = decide (i ≤ j) := by
  have : D.le (.int i) (.int j) = !dataLt (.int j) (.int i) := rfl
  rw [this, dataLt_int, not_lt_int]
theorem srt_congr {ds es : List D} (h : ds.Perm es) : D.srt? ds = D.srt? es := by
  have key : ∀ {a b : List D}, a.Perm b → D.srt? a = true → D.srt? b = true := by
    intro a b h
    have im : D.imms a = true → D.imms b = true := by
      have e : ∀ l : List D, D.imms l = l.all D.imm := fun l => by
        induction l with
        | nil => rfl
        | cons x r ih => simp [D.imms, ih]
      rw [e, e, List.all_eq_true, List.all_eq_true]
      exact fun q x hx => q x (h.mem_iff.mpr hx)
    simp only [D.srt?, Bool.and_eq_true, Bool.or_eq_true, List.all_eq_true]
    rintro ⟨⟨⟨h1, h2⟩, h3⟩, h4⟩
    refine ⟨⟨⟨im h1, fun x hx => h2 x (h.mem_iff.mpr hx)⟩, fun x hx y hy => h3 x (h.mem_iff.mpr hx) y (h.mem_iff.mpr hy)⟩, ?_⟩
    exact h4.imp (fun q x hx => q x (h.mem_iff.mpr hx)) fun q x hx => q x (h.mem_iff.mpr hx)
  cases e : D.srt? es with
  | true => exact key h.symm e
  | false =>
    cases e' : D.srt? ds with
    | false => rfl
    | true => rw [key h e'] at e; exact e
theorem oSorted_of {d : D} {ds : List D} (h : d.seq? = some ds) (hs : D.srt? ds = true) : oSorted [d] = some (.lst true (ds.mergeSort D.le)) := by
  show d.seq?.bind _ = _
  rw [h, Option.bind_some, if_pos hs]
theorem oSorted_l {o : Bool} {ds : List D} (hs : D.srt? ds = true) : oSorted [.lst o ds] = some (.lst true (ds.mergeSort D.le)) := oSorted_of rfl hs
theorem oSorted_t {ds : List D} (hs : D.srt? ds = true) : oSorted [.tup ds] = some (.lst true (ds.mergeSort D.le)) := oSorted_of rfl hs
/-! ### ints -/
theorem srt_ints (l : List Int) : D.srt? (l.map D.int) = true := by
  have im : ∀ l : List Int, D.imms (l.map D.int) = true := fun l => by
    induction l with
    | nil => rfl
    | cons x r ih => simp [D.imms, D.imm, ih]
  simp only [D.srt?, Bool.and_eq_true, Bool.or_eq_true, List.all_eq_true, List.mem_map, decide_eq_true_eq]
  refine ⟨⟨⟨im l, ?_⟩, ?_⟩, .inr ?_⟩
  · rintro _ ⟨i, _, rfl⟩
    simp [D.py, PyData.canLay0, PyData.depth]
  · rintro _ ⟨i, _, rfl⟩ _ ⟨j, _, rfl⟩
    simp [D.py, alike]
  · rintro _ ⟨i, _, rfl⟩
    rfl
theorem sort_ints (l : List Int) : (l.map D.int).mergeSort D.le = (l.mergeSort fun a b => decide (a ≤ b)).map D.int := by
  rw [List.map_mergeSort]
  intro a _ b _
  exact le_int.symm
def asc (l : List Int) : List Int := l.mergeSort fun a b => decide (a ≤ b)
theorem asc_perm (l : List Int) : (asc l).Perm l := List.mergeSort_perm _ _
theorem asc_pw (l : List Int) : (asc l).Pairwise (· ≤ ·) := by
  have h := List.pairwise_mergeSort (le := fun a b : Int => decide (a ≤ b)) (by simp; omega) (by simp; omega) l
  exact h.imp fun h => by simpa using h
theorem asc_eq {l m : List Int} (h : l.Perm m) (hm : m.Pairwise (· ≤ ·)) : asc l = m := by
  refine ((asc_perm l).trans h).eq_of_pairwise (le := (· ≤ ·)) ?_ (asc_pw l) hm
  intro a b _ _ h1 h2
  omega
/-! ### tuples -/
theorem le_tup {xs ys : List D} : D.le (.tup xs) (.tup ys) = !PyProof.Rows.lexLt itemOrd (keyToksAll (D.pys ys)) (keyToksAll (D.pys xs)) := rfl
/-- the first differ -/
theorem le_cons_ne {i j : Int} {xs ys : List D} (h : i ≠ j) : D.le (.tup (.int i :: xs)) (.tup (.int j :: ys)) = decide (i < j) := by
  rw [le_tup]
  have e : PyData.eqv (.int j) (.int i) = false := by simp [PyData.eqv]; omega
  show (!PyProof.Rows.lexLt itemOrd (keyToksAll (.int j :: D.pys ys)) (keyToksAll (.int i :: D.pys xs))) = _
  rw [dataLt_cons (by simp [alike]), e, if_neg (by simp), dataLt_int, not_lt_int]
  by_cases q : i < j
  · simp [q]; omega
  · simp [q]; omega
theorem le_cons_eq {i : Int} {xs ys : List D} : D.le (.tup (.int i :: xs)) (.tup (.int i :: ys)) = D.le (.tup xs) (.tup ys) := by
  rw [le_tup, le_tup]
  have e : PyData.eqv (.int i) (.int i) = true := by simp [PyData.eqv]
  show (!PyProof.Rows.lexLt itemOrd (keyToksAll (.int i :: D.pys ys)) (keyToksAll (.int i :: D.pys xs))) = _
  rw [dataLt_cons (by simp [alike]), e, if_pos rfl]
end DL
set_option Elab.async false
set_option linter.all false
set_option maxRecDepth 100000
set_option maxHeartbeats 1000000
/-! Fractions: what the text's sums of pairs are. -/
namespace Mt
open DL Wk
def encQ (q : Rat) : D := .tup [.int q.num, .int (q.den : Int)]
def sndN : DS → Nat
  | [_, some (.int y)] => y.natAbs
  | _ => 0
theorem shared_spec (a b : Int) : g_shared [.int a, .int b] = some (.int (max (Int.gcd a b : Int) 1)) := by
  refine gOf_rt (τ := [some (.int (Int.gcd a b : Int)), some (.int 0)]) rfl ?_
  unfold b_shared
  obtain ⟨τ', e, ⟨x, y, rfl, hg⟩, hc⟩ := while_run (c := cBl (pOp oNe (pVar 1) (pC (.int 0)))) (f := fPar 0 1 (xCons (eP (gImm (pVar 1))) (xCons (eP (gImm (pOp oMod (pVar 0) (pVar 1)))) xNil)))
    (fun τ => ∃ x y : Nat, τ = [some (.int x), some (.int y)] ∧ Nat.gcd x y = Int.gcd a b) sndN (by
      rintro _ ⟨x, y, rfl, hg⟩
      refine ⟨!decide ((y : Int) = 0), by simp [startD, List.length_cons, List.length_nil, List.map_cons, List.map_nil, List.replicate_succ, List.replicate_zero, List.cons_append, List.nil_append, List.append_nil, fSeq, fNil, fRet, fSet, fExp, fIf, fIfE, fPar, fPar3, fAsg, fFrz, eP, eN, gImm, pOp, pVar, pC, qCons, qNil, qStar, xCons, xNil, pTup, pLst, eTup, eLst, pFn, eFn, pCall, eCall, pIf, eIf, cBl, cTru, cAnd, cOr, cNot, kP, kNot, kBl, kTru, pAnd, pOr, pNot, pCh, eOp, oUsub, D.imm, D.imms, D.nof, D.nofs, D.frz, D.frzs, gdN, gdTup, gdNil, gdCons, Option.bind_some, Option.map_some, Option.join_some, List.getElem?_cons_zero, List.getElem?_cons_succ, List.set_cons_zero, List.set_cons_succ, ix0, ix1, ix2, ix3, oAdd_i, oSub_i, oMul_i, oDiv_i, oMod_i, oLt_i, oLe_i, oGt_i, oGe_i, oEq_i, oNe_i, oInt_i, oInt_b, oAbs_i, oMax2_i, oMin2_i, oIs_n, oIs_i, oIs_t, oIs_bb, tru_b, tru_i], fun hb => ?_⟩
      have hy : (y : Int) ≠ 0 := by simpa using hb
      have hy' : 0 < y := by omega
      refine ⟨[some (.int y), some (.int ((x % y : Nat) : Int))], .inl ?_, ⟨y, x % y, rfl, ?_⟩, ?_⟩
      · have e : oMod (.int (x : Int)) (.int (y : Int)) = some (.int ((x % y : Nat) : Int)) := by rw [oMod_i hy, Int.fmod_eq_emod_of_nonneg _ (by omega)]; rfl
        simp only [startD, List.length_cons, List.length_nil, List.map_cons, List.map_nil, List.replicate_succ, List.replicate_zero, List.cons_append, List.nil_append, List.append_nil, fSeq, fNil, fRet, fSet, fExp, fIf, fIfE, fPar, fPar3, fAsg, fFrz, eP, eN, gImm, pOp, pVar, pC, qCons, qNil, qStar, xCons, xNil, pTup, pLst, eTup, eLst, pFn, eFn, pCall, eCall, pIf, eIf, cBl, cTru, cAnd, cOr, cNot, kP, kNot, kBl, kTru, pAnd, pOr, pNot, pCh, eOp, oUsub, D.imm, D.imms, D.nof, D.nofs, D.frz, D.frzs, gdN, gdTup, gdNil, gdCons, Option.bind_some, Option.map_some, Option.join_some, List.getElem?_cons_zero, List.getElem?_cons_succ, List.set_cons_zero, List.set_cons_succ, ix0, ix1, ix2, ix3, oAdd_i, oSub_i, oMul_i, oDiv_i, oMod_i, oLt_i, oLe_i, oGt_i, oGe_i, oEq_i, oNe_i, oInt_i, oInt_b, oAbs_i, oMax2_i, oMin2_i, oIs_n, oIs_i, oIs_t, oIs_bb, tru_b, tru_i, if_true, if_false, Bool.false_eq_true, Bool.true_and, Bool.and_true, true_or, or_true, true_and, and_true, reduceIte, decide_true, decide_false, Bool.not_true, Bool.not_false, Nat.reduceAdd, Nat.reduceSub, Nat.reduceLeDiff, Nat.zero_add, Nat.le_refl, and_self, or_self, e]
      · rw [← hg, Nat.gcd_comm x y, Nat.gcd_rec y x, Nat.gcd_comm]
      · simp only [sndN]
        have := Nat.mod_lt x hy'
        omega) [some (.int (a.natAbs : Int)), some (.int (b.natAbs : Int))] ⟨a.natAbs, b.natAbs, rfl, rfl⟩
  have hy : y = 0 := by
    simp [startD, List.length_cons, List.length_nil, List.map_cons, List.map_nil, List.replicate_succ, List.replicate_zero, List.cons_append, List.nil_append, List.append_nil, fSeq, fNil, fRet, fSet, fExp, fIf, fIfE, fPar, fPar3, fAsg, fFrz, eP, eN, gImm, pOp, pVar, pC, qCons, qNil, qStar, xCons, xNil, pTup, pLst, eTup, eLst, pFn, eFn, pCall, eCall, pIf, eIf, cBl, cTru, cAnd, cOr, cNot, kP, kNot, kBl, kTru, pAnd, pOr, pNot, pCh, eOp, oUsub, D.imm, D.imms, D.nof, D.nofs, D.frz, D.frzs, gdN, gdTup, gdNil, gdCons, Option.bind_some, Option.map_some, Option.join_some, List.getElem?_cons_zero, List.getElem?_cons_succ, List.set_cons_zero, List.set_cons_succ, ix0, ix1, ix2, ix3, oAdd_i, oSub_i, oMul_i, oDiv_i, oMod_i, oLt_i, oLe_i, oGt_i, oGe_i, oEq_i, oNe_i, oInt_i, oInt_b, oAbs_i, oMax2_i, oMin2_i, oIs_n, oIs_i, oIs_t, oIs_bb, tru_b, tru_i] at hc
    omega
  subst hy
  rw [Nat.gcd_zero_right] at hg
  subst hg
  simp [startD, List.length_cons, List.length_nil, List.map_cons, List.map_nil, List.replicate_succ, List.replicate_zero, List.cons_append, List.nil_append, List.append_nil, fSeq, fNil, fRet, fSet, fExp, fIf, fIfE, fPar, fPar3, fAsg, fFrz, eP, eN, gImm, pOp, pVar, pC, qCons, qNil, qStar, xCons, xNil, pTup, pLst, eTup, eLst, pFn, eFn, pCall, eCall, pIf, eIf, cBl, cTru, cAnd, cOr, cNot, kP, kNot, kBl, kTru, pAnd, pOr, pNot, pCh, eOp, oUsub, D.imm, D.imms, D.nof, D.nofs, D.frz, D.frzs, gdN, gdTup, gdNil, gdCons, Option.bind_some, Option.map_some, Option.join_some, List.getElem?_cons_zero, List.getElem?_cons_succ, List.set_cons_zero, List.set_cons_succ, ix0, ix1, ix2, ix3, oAdd_i, oSub_i, oMul_i, oDiv_i, oMod_i, oLt_i, oLe_i, oGt_i, oGe_i, oEq_i, oNe_i, oInt_i, oInt_b, oAbs_i, oMax2_i, oMin2_i, oIs_n, oIs_i, oIs_t, oIs_bb, tru_b, tru_i, N_shared, e]
theorem cD_of {i j : Int} (h : 0 < j) (h2 : j.natAbs < 2 ^ 8000) : cD i j = true := by
  unfold cD
  have : j.natAbs.log2 < 8000 := (Nat.log2_lt (by omega)).mpr h2
  simp [h]
  omega
theorem told_fraction_spec (t b : Int) (hb : 0 < b) (h2 : b.natAbs < 2 ^ 8000) : g_told_fraction [.int t, .int b] = some (encQ (Rat.divInt t b)) := by
  have hg : 0 < Int.gcd t b := Int.gcd_pos_of_ne_zero_right _ (by omega)
  have hm : max (Int.gcd t b : Int) 1 = (Int.gcd t b : Int) := by omega
  have hle : Int.gcd t b ≤ b.natAbs := Nat.le_of_dvd (by omega) (Int.gcd_dvd_natAbs_right t b)
  have hn : ¬ b < 0 := by omega
  have c1 : cD t (Int.gcd t b : Int) = true := cD_of (by omega) (by simp; omega)
  have c2 : cD b (Int.gcd t b : Int) = true := cD_of (by omega) (by simp; omega)
  refine gOf_rt (τ := [some (.int t), some (.int b), some (.int (Int.gcd t b : Int))]) rfl ?_
  unfold b_told_fraction
  simp only [startD, List.length_cons, List.length_nil, List.map_cons, List.map_nil, List.replicate_succ, List.replicate_zero, List.cons_append, List.nil_append, List.append_nil, fSeq, fNil, fRet, fSet, fExp, fIf, fIfE, fPar, fPar3, fAsg, fFrz, eP, eN, gImm, pOp, pVar, pC, qCons, qNil, qStar, xCons, xNil, pTup, pLst, eTup, eLst, pFn, eFn, pCall, eCall, pIf, eIf, cBl, cTru, cAnd, cOr, cNot, kP, kNot, kBl, kTru, pAnd, pOr, pNot, pCh, eOp, oUsub, D.imm, D.imms, D.nof, D.nofs, D.frz, D.frzs, gdN, gdTup, gdNil, gdCons, Option.bind_some, Option.map_some, Option.join_some, List.getElem?_cons_zero, List.getElem?_cons_succ, List.set_cons_zero, List.set_cons_succ, ix0, ix1, ix2, ix3, oAdd_i, oSub_i, oMul_i, oDiv_i, oMod_i, oLt_i, oLe_i, oGt_i, oGe_i, oEq_i, oNe_i, oInt_i, oInt_b, oAbs_i, oMax2_i, oMin2_i, oIs_n, oIs_i, oIs_t, oIs_bb, tru_b, tru_i, if_true, if_false, Bool.false_eq_true, Bool.true_and, Bool.and_true, true_or, or_true, true_and, and_true, reduceIte, decide_true, decide_false, Bool.not_true, Bool.not_false, Nat.reduceAdd, Nat.reduceSub, Nat.reduceLeDiff, Nat.zero_add, Nat.le_refl, and_self, or_self, N_told_fraction, shared_spec, hm, hn, oDiv_i c1, oDiv_i c2]
  have e1 : (Rat.divInt t b).num = t / (Int.gcd t b : Int) := by rw [Rat.num_divInt, Int.sign_eq_one_of_pos hb, Int.one_mul, Int.gcd_comm]
  have e2 : ((Rat.divInt t b).den : Int) = b / (Int.gcd t b : Int) := by
    rw [Rat.den_divInt, if_neg (by omega), Int.gcd_comm, Int.natCast_ediv]
    congr 1
    omega
  rw [encQ, e1, e2]
/-! ### sums, differences, quotients -/
/-- small enough -/
def Sm (q : Rat) : Prop := q.num.natAbs < 2 ^ 64 ∧ q.den < 2 ^ 64
theorem log2_of {n k : Nat} (h : n < 2 ^ k) (hk : 0 < k) : n.log2 < k := by
  by_cases h0 : n = 0
  · subst h0; simpa using hk
  · exact (Nat.log2_lt h0).mpr h
theorem cW_of {i j : Int} {a b : Nat} (hi : i.natAbs < 2 ^ a) (hj : j.natAbs < 2 ^ b) (ha : 0 < a) (hb : 0 < b) (h : a + b ≤ 1000000) : cW i j = true := by
  unfold cW
  have h1 := log2_of hi ha
  have h2 := log2_of hj hb
  simp
  omega
theorem mul_lt_pow {a b m n : Nat} (h1 : a < 2 ^ m) (h2 : b < 2 ^ n) : a * b < 2 ^ (m + n) := by
  rw [Nat.pow_add]
  exact Nat.mul_lt_mul'' h1 h2
theorem pow_mono {m n : Nat} (h : m ≤ n) : 2 ^ m ≤ 2 ^ n := Nat.pow_le_pow_right (by decide) h
theorem den_pos (q : Rat) : 0 < (q.den : Int) := by have := q.den_pos; omega
theorem imm_encQ (q : Rat) : (encQ q).imm = true := by simp [encQ, D.imm, D.imms]
theorem nof_encQ (q : Rat) : (encQ q).nof = true := by simp [encQ, D.nof, D.nofs]
theorem frz_encQ (q : Rat) : (encQ q).frz = encQ q := by simp [encQ, D.frz, D.frzs]
theorem e_add {p q : Rat} : Rat.divInt (p.num * q.den + q.num * p.den) (p.den * q.den) = p + q := by
  rw [Rat.add_def', ← Rat.divInt_ofNat]
  congr 1
theorem e_sub {p q : Rat} : Rat.divInt (p.num * q.den - q.num * p.den) (p.den * q.den) = p - q := by
  rw [Rat.sub_def', ← Rat.divInt_ofNat]
  congr 1
theorem e_over {p q : Rat} : Rat.divInt (p.num * q.den) (p.den * q.num) = p / q := by
  have e : p / q = Rat.divInt p.num p.den * Rat.divInt q.den q.num := by rw [Rat.div_def, Rat.inv_def, Rat.num_divInt_den]
  rw [e, Rat.divInt_mul_divInt]
section
variable {p q : Rat}
theorem Sm.d (h : Sm q) : (q.den : Int).natAbs < 2 ^ 64 := by
  rw [Int.natAbs_natCast]
  exact h.2
theorem sm_cW (hp : Sm p) (hq : Sm q) : cW p.num q.den = true ∧ cW p.num q.num = true ∧ cW p.den q.den = true ∧ cW p.den q.num = true :=
  ⟨cW_of hp.1 hq.d (by decide) (by decide) (by decide), cW_of hp.1 hq.1 (by decide) (by decide) (by decide), cW_of hp.d hq.d (by decide) (by decide) (by decide), cW_of hp.d hq.1 (by decide) (by decide) (by decide)⟩
theorem dens_lt (hp : Sm p) (hq : Sm q) : ((p.den : Int) * q.den).natAbs < 2 ^ 8000 := by
  have h := mul_lt_pow hp.2 hq.2
  have := pow_mono (show 64 + 64 ≤ 8000 by decide)
  rw [Int.natAbs_mul, Int.natAbs_natCast, Int.natAbs_natCast]
  exact Nat.lt_of_lt_of_le h this
theorem plus_spec (hp : Sm p) (hq : Sm q) : g_plus [encQ p, encQ q] = some (encQ (p + q)) := by
  have h1 := sm_cW hp hq
  have h2 := sm_cW hq hp
  have ts := told_fraction_spec (p.num * q.den + q.num * p.den) (p.den * q.den) (Int.mul_pos (den_pos p) (den_pos q)) (dens_lt hp hq)
  rw [e_add] at ts
  refine gOf_rt (τ := [some (encQ p), some (encQ q)]) rfl ?_
  unfold b_plus
  conv => lhs; simp only [encQ]
  simp only [startD, List.length_cons, List.length_nil, List.map_cons, List.map_nil, List.replicate_succ, List.replicate_zero, List.cons_append, List.nil_append, List.append_nil, fSeq, fNil, fRet, fSet, fExp, fIf, fIfE, fPar, fPar3, fAsg, fFrz, eP, eN, gImm, pOp, pVar, pC, qCons, qNil, qStar, xCons, xNil, pTup, pLst, eTup, eLst, pFn, eFn, pCall, eCall, pIf, eIf, cBl, cTru, cAnd, cOr, cNot, kP, kNot, kBl, kTru, pAnd, pOr, pNot, pCh, eOp, oUsub, D.imm, D.imms, D.nof, D.nofs, D.frz, D.frzs, gdN, gdTup, gdNil, gdCons, Option.bind_some, Option.map_some, Option.join_some, List.getElem?_cons_zero, List.getElem?_cons_succ, List.set_cons_zero, List.set_cons_succ, ix0, ix1, ix2, ix3, oAdd_i, oSub_i, oMul_i, oDiv_i, oMod_i, oLt_i, oLe_i, oGt_i, oGe_i, oEq_i, oNe_i, oInt_i, oInt_b, oAbs_i, oMax2_i, oMin2_i, oIs_n, oIs_i, oIs_t, oIs_bb, tru_b, tru_i, if_true, if_false, Bool.false_eq_true, Bool.true_and, Bool.and_true, true_or, or_true, true_and, and_true, reduceIte, decide_true, decide_false, Bool.not_true, Bool.not_false, Nat.reduceAdd, Nat.reduceSub, Nat.reduceLeDiff, Nat.zero_add, Nat.le_refl, and_self, or_self, N_plus, oMul_i h1.1, oMul_i h2.1, oMul_i h1.2.2.1, ts, nof_encQ, imm_encQ]
  rfl
theorem minus_spec (hp : Sm p) (hq : Sm q) : g_minus [encQ p, encQ q] = some (encQ (p - q)) := by
  have h1 := sm_cW hp hq
  have h2 := sm_cW hq hp
  have ts := told_fraction_spec (p.num * q.den - q.num * p.den) (p.den * q.den) (Int.mul_pos (den_pos p) (den_pos q)) (dens_lt hp hq)
  rw [e_sub] at ts
  refine gOf_rt (τ := [some (encQ p), some (encQ q)]) rfl ?_
  unfold b_minus
  conv => lhs; simp only [encQ]
  simp only [startD, List.length_cons, List.length_nil, List.map_cons, List.map_nil, List.replicate_succ, List.replicate_zero, List.cons_append, List.nil_append, List.append_nil, fSeq, fNil, fRet, fSet, fExp, fIf, fIfE, fPar, fPar3, fAsg, fFrz, eP, eN, gImm, pOp, pVar, pC, qCons, qNil, qStar, xCons, xNil, pTup, pLst, eTup, eLst, pFn, eFn, pCall, eCall, pIf, eIf, cBl, cTru, cAnd, cOr, cNot, kP, kNot, kBl, kTru, pAnd, pOr, pNot, pCh, eOp, oUsub, D.imm, D.imms, D.nof, D.nofs, D.frz, D.frzs, gdN, gdTup, gdNil, gdCons, Option.bind_some, Option.map_some, Option.join_some, List.getElem?_cons_zero, List.getElem?_cons_succ, List.set_cons_zero, List.set_cons_succ, ix0, ix1, ix2, ix3, oAdd_i, oSub_i, oMul_i, oDiv_i, oMod_i, oLt_i, oLe_i, oGt_i, oGe_i, oEq_i, oNe_i, oInt_i, oInt_b, oAbs_i, oMax2_i, oMin2_i, oIs_n, oIs_i, oIs_t, oIs_bb, tru_b, tru_i, if_true, if_false, Bool.false_eq_true, Bool.true_and, Bool.and_true, true_or, or_true, true_and, and_true, reduceIte, decide_true, decide_false, Bool.not_true, Bool.not_false, Nat.reduceAdd, Nat.reduceSub, Nat.reduceLeDiff, Nat.zero_add, Nat.le_refl, and_self, or_self, N_minus, oMul_i h1.1, oMul_i h2.1, oMul_i h1.2.2.1, ts, nof_encQ, imm_encQ]
  rfl
theorem over_spec (hp : Sm p) (hq : Sm q) (h0 : 0 < q) : g_over [encQ p, encQ q] = some (encQ (p / q)) := by
  have h1 := sm_cW hp hq
  have hn : 0 < q.num := by simpa using (Rat.lt_iff 0 q).mp h0
  have hb : ((p.den : Int) * q.num).natAbs < 2 ^ 8000 := by
    have h := mul_lt_pow hp.2 hq.1
    have := pow_mono (show 64 + 64 ≤ 8000 by decide)
    rw [Int.natAbs_mul, Int.natAbs_natCast]
    exact Nat.lt_of_lt_of_le h this
  have ts := told_fraction_spec (p.num * q.den) (p.den * q.num) (Int.mul_pos (den_pos p) hn) hb
  rw [e_over] at ts
  refine gOf_rt (τ := [some (encQ p), some (encQ q)]) rfl ?_
  unfold b_over
  conv => lhs; simp only [encQ]
  simp only [startD, List.length_cons, List.length_nil, List.map_cons, List.map_nil, List.replicate_succ, List.replicate_zero, List.cons_append, List.nil_append, List.append_nil, fSeq, fNil, fRet, fSet, fExp, fIf, fIfE, fPar, fPar3, fAsg, fFrz, eP, eN, gImm, pOp, pVar, pC, qCons, qNil, qStar, xCons, xNil, pTup, pLst, eTup, eLst, pFn, eFn, pCall, eCall, pIf, eIf, cBl, cTru, cAnd, cOr, cNot, kP, kNot, kBl, kTru, pAnd, pOr, pNot, pCh, eOp, oUsub, D.imm, D.imms, D.nof, D.nofs, D.frz, D.frzs, gdN, gdTup, gdNil, gdCons, Option.bind_some, Option.map_some, Option.join_some, List.getElem?_cons_zero, List.getElem?_cons_succ, List.set_cons_zero, List.set_cons_succ, ix0, ix1, ix2, ix3, oAdd_i, oSub_i, oMul_i, oDiv_i, oMod_i, oLt_i, oLe_i, oGt_i, oGe_i, oEq_i, oNe_i, oInt_i, oInt_b, oAbs_i, oMax2_i, oMin2_i, oIs_n, oIs_i, oIs_t, oIs_bb, tru_b, tru_i, if_true, if_false, Bool.false_eq_true, Bool.true_and, Bool.and_true, true_or, or_true, true_and, and_true, reduceIte, decide_true, decide_false, Bool.not_true, Bool.not_false, Nat.reduceAdd, Nat.reduceSub, Nat.reduceLeDiff, Nat.zero_add, Nat.le_refl, and_self, or_self, N_over, oMul_i h1.1, oMul_i h1.2.2.2, ts, nof_encQ, imm_encQ]
  rfl
theorem is_less_spec (hp : Sm p) (hq : Sm q) : g_is_less [encQ p, encQ q] = some (.bl (decide (p < q))) := by
  have h1 := sm_cW hp hq
  have h2 := sm_cW hq hp
  refine gOf_rt (τ := [some (encQ p), some (encQ q)]) rfl ?_
  unfold b_is_less
  conv => lhs; simp only [encQ]
  simp only [startD, List.length_cons, List.length_nil, List.map_cons, List.map_nil, List.replicate_succ, List.replicate_zero, List.cons_append, List.nil_append, List.append_nil, fSeq, fNil, fRet, fSet, fExp, fIf, fIfE, fPar, fPar3, fAsg, fFrz, eP, eN, gImm, pOp, pVar, pC, qCons, qNil, qStar, xCons, xNil, pTup, pLst, eTup, eLst, pFn, eFn, pCall, eCall, pIf, eIf, cBl, cTru, cAnd, cOr, cNot, kP, kNot, kBl, kTru, pAnd, pOr, pNot, pCh, eOp, oUsub, D.imm, D.imms, D.nof, D.nofs, D.frz, D.frzs, gdN, gdTup, gdNil, gdCons, Option.bind_some, Option.map_some, Option.join_some, List.getElem?_cons_zero, List.getElem?_cons_succ, List.set_cons_zero, List.set_cons_succ, ix0, ix1, ix2, ix3, oAdd_i, oSub_i, oMul_i, oDiv_i, oMod_i, oLt_i, oLe_i, oGt_i, oGe_i, oEq_i, oNe_i, oInt_i, oInt_b, oAbs_i, oMax2_i, oMin2_i, oIs_n, oIs_i, oIs_t, oIs_bb, tru_b, tru_i, if_true, if_false, Bool.false_eq_true, Bool.true_and, Bool.and_true, true_or, or_true, true_and, and_true, reduceIte, decide_true, decide_false, Bool.not_true, Bool.not_false, Nat.reduceAdd, Nat.reduceSub, Nat.reduceLeDiff, Nat.zero_add, Nat.le_refl, and_self, or_self, N_is_less, oMul_i h1.1, oMul_i h2.1, Rat.lt_iff]
  rfl
end
end Mt
set_option Elab.async false
set_option linter.all false
set_option maxRecDepth 100000
set_option maxHeartbeats 1000000
/-! The law's own fractions; sums of many; checks of fractions. -/
namespace Mt
open DL Wk
def sndN4 : DS → Nat
  | [_, _, _, some (.int y), _] => y.natAbs
  | _ => 0
theorem frac_spec (t b : Int) (hb : 0 < b) (h2 : b.natAbs < 2 ^ 8000) (ht : t.natAbs < 2 ^ 8000) : g_law_frac_ [.int t, .int b] = some (encQ (Rat.divInt t b)) := by
  have hg : 0 < Int.gcd t b := Int.gcd_pos_of_ne_zero_right _ (by omega)
  have hle : Int.gcd t b ≤ b.natAbs := Nat.le_of_dvd (by omega) (Int.gcd_dvd_natAbs_right t b)
  have hn : ¬ b < 0 := by omega
  have c1 : cD (1 * t) (Int.gcd t b : Int) = true := cD_of (by omega) (by simp; omega)
  have c2 : cD (1 * b) (Int.gcd t b : Int) = true := cD_of (by omega) (by simp; omega)
  have w1 : cW 1 t = true := cW_of (a := 1) (by decide) ht (by decide) (by decide) (by decide)
  have w2 : cW 1 b = true := cW_of (a := 1) (by decide) h2 (by decide) (by decide) (by decide)
  refine gOf_rt (τ := [some (.int t), some (.int b), some (.int (Int.gcd t b : Int)), some (.int 0), some (.int 1)]) rfl ?_
  unfold b_law_frac_
  obtain ⟨τ', e, ⟨x, y, rfl, hg'⟩, hc⟩ := while_run (c := cBl (pOp oNe (pVar 3) (pC (.int 0)))) (f := fPar 2 3 (xCons (eP (gImm (pVar 3))) (xCons (eP (gImm (pOp oMod (pVar 2) (pVar 3)))) xNil)))
    (fun τ => ∃ x y : Nat, τ = [some (.int t), some (.int b), some (.int x), some (.int y), none] ∧ Nat.gcd x y = Int.gcd t b) sndN4 (by
      rintro _ ⟨x, y, rfl, hg⟩
      refine ⟨!decide ((y : Int) = 0), by simp [startD, List.length_cons, List.length_nil, List.map_cons, List.map_nil, List.replicate_succ, List.replicate_zero, List.cons_append, List.nil_append, List.append_nil, fSeq, fNil, fRet, fSet, fExp, fIf, fIfE, fPar, fPar3, fAsg, fFrz, eP, eN, gImm, pOp, pVar, pC, qCons, qNil, qStar, xCons, xNil, pTup, pLst, eTup, eLst, pFn, eFn, pCall, eCall, pIf, eIf, cBl, cTru, cAnd, cOr, cNot, kP, kNot, kBl, kTru, pAnd, pOr, pNot, pCh, eOp, oUsub, D.imm, D.imms, D.nof, D.nofs, D.frz, D.frzs, gdN, gdTup, gdNil, gdCons, Option.bind_some, Option.map_some, Option.join_some, List.getElem?_cons_zero, List.getElem?_cons_succ, List.set_cons_zero, List.set_cons_succ, ix0, ix1, ix2, ix3, oAdd_i, oSub_i, oMul_i, oDiv_i, oMod_i, oLt_i, oLe_i, oGt_i, oGe_i, oEq_i, oNe_i, oInt_i, oInt_b, oAbs_i, oMax2_i, oMin2_i, oIs_n, oIs_i, oIs_t, oIs_bb, tru_b, tru_i], fun hb => ?_⟩
      have hy : (y : Int) ≠ 0 := by simpa using hb
      have hy' : 0 < y := by omega
      refine ⟨[some (.int t), some (.int b), some (.int y), some (.int ((x % y : Nat) : Int)), none], .inl ?_, ⟨y, x % y, rfl, ?_⟩, ?_⟩
      · have e : oMod (.int (x : Int)) (.int (y : Int)) = some (.int ((x % y : Nat) : Int)) := by rw [oMod_i hy, Int.fmod_eq_emod_of_nonneg _ (by omega)]; rfl
        simp only [startD, List.length_cons, List.length_nil, List.map_cons, List.map_nil, List.replicate_succ, List.replicate_zero, List.cons_append, List.nil_append, List.append_nil, fSeq, fNil, fRet, fSet, fExp, fIf, fIfE, fPar, fPar3, fAsg, fFrz, eP, eN, gImm, pOp, pVar, pC, qCons, qNil, qStar, xCons, xNil, pTup, pLst, eTup, eLst, pFn, eFn, pCall, eCall, pIf, eIf, cBl, cTru, cAnd, cOr, cNot, kP, kNot, kBl, kTru, pAnd, pOr, pNot, pCh, eOp, oUsub, D.imm, D.imms, D.nof, D.nofs, D.frz, D.frzs, gdN, gdTup, gdNil, gdCons, Option.bind_some, Option.map_some, Option.join_some, List.getElem?_cons_zero, List.getElem?_cons_succ, List.set_cons_zero, List.set_cons_succ, ix0, ix1, ix2, ix3, oAdd_i, oSub_i, oMul_i, oDiv_i, oMod_i, oLt_i, oLe_i, oGt_i, oGe_i, oEq_i, oNe_i, oInt_i, oInt_b, oAbs_i, oMax2_i, oMin2_i, oIs_n, oIs_i, oIs_t, oIs_bb, tru_b, tru_i, if_true, if_false, Bool.false_eq_true, Bool.true_and, Bool.and_true, true_or, or_true, true_and, and_true, reduceIte, decide_true, decide_false, Bool.not_true, Bool.not_false, Nat.reduceAdd, Nat.reduceSub, Nat.reduceLeDiff, Nat.zero_add, Nat.le_refl, and_self, or_self, e]
      · rw [← hg, Nat.gcd_comm x y, Nat.gcd_rec y x, Nat.gcd_comm]
      · simp only [sndN4]
        have := Nat.mod_lt x hy'
        omega) [some (.int t), some (.int b), some (.int (t.natAbs : Int)), some (.int (b.natAbs : Int)), none] ⟨t.natAbs, b.natAbs, rfl, rfl⟩
  have hy : y = 0 := by
    simp [startD, List.length_cons, List.length_nil, List.map_cons, List.map_nil, List.replicate_succ, List.replicate_zero, List.cons_append, List.nil_append, List.append_nil, fSeq, fNil, fRet, fSet, fExp, fIf, fIfE, fPar, fPar3, fAsg, fFrz, eP, eN, gImm, pOp, pVar, pC, qCons, qNil, qStar, xCons, xNil, pTup, pLst, eTup, eLst, pFn, eFn, pCall, eCall, pIf, eIf, cBl, cTru, cAnd, cOr, cNot, kP, kNot, kBl, kTru, pAnd, pOr, pNot, pCh, eOp, oUsub, D.imm, D.imms, D.nof, D.nofs, D.frz, D.frzs, gdN, gdTup, gdNil, gdCons, Option.bind_some, Option.map_some, Option.join_some, List.getElem?_cons_zero, List.getElem?_cons_succ, List.set_cons_zero, List.set_cons_succ, ix0, ix1, ix2, ix3, oAdd_i, oSub_i, oMul_i, oDiv_i, oMod_i, oLt_i, oLe_i, oGt_i, oGe_i, oEq_i, oNe_i, oInt_i, oInt_b, oAbs_i, oMax2_i, oMin2_i, oIs_n, oIs_i, oIs_t, oIs_bb, tru_b, tru_i] at hc
    omega
  subst hy
  rw [Nat.gcd_zero_right] at hg'
  subst hg'
  simp only [startD, List.length_cons, List.length_nil, List.map_cons, List.map_nil, List.replicate_succ, List.replicate_zero, List.cons_append, List.nil_append, List.append_nil, fSeq, fNil, fRet, fSet, fExp, fIf, fIfE, fPar, fPar3, fAsg, fFrz, eP, eN, gImm, pOp, pVar, pC, qCons, qNil, qStar, xCons, xNil, pTup, pLst, eTup, eLst, pFn, eFn, pCall, eCall, pIf, eIf, cBl, cTru, cAnd, cOr, cNot, kP, kNot, kBl, kTru, pAnd, pOr, pNot, pCh, eOp, oUsub, D.imm, D.imms, D.nof, D.nofs, D.frz, D.frzs, gdN, gdTup, gdNil, gdCons, Option.bind_some, Option.map_some, Option.join_some, List.getElem?_cons_zero, List.getElem?_cons_succ, List.set_cons_zero, List.set_cons_succ, ix0, ix1, ix2, ix3, oAdd_i, oSub_i, oMul_i, oDiv_i, oMod_i, oLt_i, oLe_i, oGt_i, oGe_i, oEq_i, oNe_i, oInt_i, oInt_b, oAbs_i, oMax2_i, oMin2_i, oIs_n, oIs_i, oIs_t, oIs_bb, tru_b, tru_i, if_true, if_false, Bool.false_eq_true, Bool.true_and, Bool.and_true, true_or, or_true, true_and, and_true, reduceIte, decide_true, decide_false, Bool.not_true, Bool.not_false, Nat.reduceAdd, Nat.reduceSub, Nat.reduceLeDiff, Nat.zero_add, Nat.le_refl, and_self, or_self, N_law_frac_, e, hn, oMul_i w1, oMul_i w2, oDiv_i c1, oDiv_i c2]
  have e1 : (Rat.divInt t b).num = 1 * t / (Int.gcd t b : Int) := by rw [Rat.num_divInt, Int.sign_eq_one_of_pos hb, Int.gcd_comm]
  have e2 : ((Rat.divInt t b).den : Int) = 1 * b / (Int.gcd t b : Int) := by
    rw [Rat.den_divInt, if_neg (by omega), Int.gcd_comm, Int.natCast_ediv]
    congr 1
    omega
  rw [encQ, e1, e2]
  rfl
section
variable {p q : Rat}
theorem add_lt_pow {a b n : Nat} (h1 : a < 2 ^ n) (h2 : b < 2 ^ n) : a + b < 2 ^ (n + 1) := by
  rw [Nat.pow_succ]
  omega
theorem nums_lt (hp : Sm p) (hq : Sm q) : (p.num * q.den + q.num * p.den).natAbs < 2 ^ 8000 := by
  have h1 := mul_lt_pow hp.1 hq.2
  have h2 := mul_lt_pow hq.1 hp.2
  have h3 := add_lt_pow h1 h2
  have := pow_mono (show 64 + 64 + 1 ≤ 8000 by decide)
  have h4 := Int.natAbs_add_le (p.num * q.den) (q.num * p.den)
  rw [Int.natAbs_mul, Int.natAbs_mul, Int.natAbs_natCast, Int.natAbs_natCast] at h4
  exact Nat.lt_of_lt_of_le (Nat.lt_of_le_of_lt h4 h3) this
theorem lplus_spec (hp : Sm p) (hq : Sm q) : g_law_plus_ [encQ p, encQ q] = some (encQ (p + q)) := by
  have h1 := sm_cW hp hq
  have h2 := sm_cW hq hp
  have ts := frac_spec (p.num * q.den + q.num * p.den) (p.den * q.den) (Int.mul_pos (den_pos p) (den_pos q)) (dens_lt hp hq) (nums_lt hp hq)
  rw [e_add] at ts
  refine gOf_rt (τ := [some (encQ p), some (encQ q)]) rfl ?_
  unfold b_law_plus_
  conv => lhs; simp only [encQ]
  simp only [startD, List.length_cons, List.length_nil, List.map_cons, List.map_nil, List.replicate_succ, List.replicate_zero, List.cons_append, List.nil_append, List.append_nil, fSeq, fNil, fRet, fSet, fExp, fIf, fIfE, fPar, fPar3, fAsg, fFrz, eP, eN, gImm, pOp, pVar, pC, qCons, qNil, qStar, xCons, xNil, pTup, pLst, eTup, eLst, pFn, eFn, pCall, eCall, pIf, eIf, cBl, cTru, cAnd, cOr, cNot, kP, kNot, kBl, kTru, pAnd, pOr, pNot, pCh, eOp, oUsub, D.imm, D.imms, D.nof, D.nofs, D.frz, D.frzs, gdN, gdTup, gdNil, gdCons, Option.bind_some, Option.map_some, Option.join_some, List.getElem?_cons_zero, List.getElem?_cons_succ, List.set_cons_zero, List.set_cons_succ, ix0, ix1, ix2, ix3, oAdd_i, oSub_i, oMul_i, oDiv_i, oMod_i, oLt_i, oLe_i, oGt_i, oGe_i, oEq_i, oNe_i, oInt_i, oInt_b, oAbs_i, oMax2_i, oMin2_i, oIs_n, oIs_i, oIs_t, oIs_bb, tru_b, tru_i, if_true, if_false, Bool.false_eq_true, Bool.true_and, Bool.and_true, true_or, or_true, true_and, and_true, reduceIte, decide_true, decide_false, Bool.not_true, Bool.not_false, Nat.reduceAdd, Nat.reduceSub, Nat.reduceLeDiff, Nat.zero_add, Nat.le_refl, and_self, or_self, N_law_plus_, oMul_i h1.1, oMul_i h2.1, oMul_i h1.2.2.1, ts, nof_encQ, imm_encQ]
  rfl
theorem lover_spec (hp : Sm p) (hq : Sm q) (h0 : 0 < q) : g_law_over_ [encQ p, encQ q] = some (encQ (p / q)) := by
  have h1 := sm_cW hp hq
  have hn : 0 < q.num := by simpa using (Rat.lt_iff 0 q).mp h0
  have m := pow_mono (show 64 + 64 ≤ 8000 by decide)
  have hb : ((p.den : Int) * q.num).natAbs < 2 ^ 8000 := by
    have h := mul_lt_pow hp.2 hq.1
    rw [Int.natAbs_mul, Int.natAbs_natCast]
    exact Nat.lt_of_lt_of_le h m
  have ht : (p.num * q.den).natAbs < 2 ^ 8000 := by
    have h := mul_lt_pow hp.1 hq.2
    rw [Int.natAbs_mul, Int.natAbs_natCast]
    exact Nat.lt_of_lt_of_le h m
  have ts := frac_spec (p.num * q.den) (p.den * q.num) (Int.mul_pos (den_pos p) hn) hb ht
  rw [e_over] at ts
  refine gOf_rt (τ := [some (encQ p), some (encQ q)]) rfl ?_
  unfold b_law_over_
  conv => lhs; simp only [encQ]
  simp only [startD, List.length_cons, List.length_nil, List.map_cons, List.map_nil, List.replicate_succ, List.replicate_zero, List.cons_append, List.nil_append, List.append_nil, fSeq, fNil, fRet, fSet, fExp, fIf, fIfE, fPar, fPar3, fAsg, fFrz, eP, eN, gImm, pOp, pVar, pC, qCons, qNil, qStar, xCons, xNil, pTup, pLst, eTup, eLst, pFn, eFn, pCall, eCall, pIf, eIf, cBl, cTru, cAnd, cOr, cNot, kP, kNot, kBl, kTru, pAnd, pOr, pNot, pCh, eOp, oUsub, D.imm, D.imms, D.nof, D.nofs, D.frz, D.frzs, gdN, gdTup, gdNil, gdCons, Option.bind_some, Option.map_some, Option.join_some, List.getElem?_cons_zero, List.getElem?_cons_succ, List.set_cons_zero, List.set_cons_succ, ix0, ix1, ix2, ix3, oAdd_i, oSub_i, oMul_i, oDiv_i, oMod_i, oLt_i, oLe_i, oGt_i, oGe_i, oEq_i, oNe_i, oInt_i, oInt_b, oAbs_i, oMax2_i, oMin2_i, oIs_n, oIs_i, oIs_t, oIs_bb, tru_b, tru_i, if_true, if_false, Bool.false_eq_true, Bool.true_and, Bool.and_true, true_or, or_true, true_and, and_true, reduceIte, decide_true, decide_false, Bool.not_true, Bool.not_false, Nat.reduceAdd, Nat.reduceSub, Nat.reduceLeDiff, Nat.zero_add, Nat.le_refl, and_self, or_self, N_law_over_, oMul_i h1.1, oMul_i h1.2.2.2, ts, nof_encQ, imm_encQ]
  rfl
theorem lless_spec (hp : Sm p) (hq : Sm q) : g_law_is_less_ [encQ p, encQ q] = some (.bl (decide (p < q))) := by
  have h1 := sm_cW hp hq
  have h2 := sm_cW hq hp
  refine gOf_rt (τ := [some (encQ p), some (encQ q)]) rfl ?_
  unfold b_law_is_less_
  conv => lhs; simp only [encQ]
  simp only [startD, List.length_cons, List.length_nil, List.map_cons, List.map_nil, List.replicate_succ, List.replicate_zero, List.cons_append, List.nil_append, List.append_nil, fSeq, fNil, fRet, fSet, fExp, fIf, fIfE, fPar, fPar3, fAsg, fFrz, eP, eN, gImm, pOp, pVar, pC, qCons, qNil, qStar, xCons, xNil, pTup, pLst, eTup, eLst, pFn, eFn, pCall, eCall, pIf, eIf, cBl, cTru, cAnd, cOr, cNot, kP, kNot, kBl, kTru, pAnd, pOr, pNot, pCh, eOp, oUsub, D.imm, D.imms, D.nof, D.nofs, D.frz, D.frzs, gdN, gdTup, gdNil, gdCons, Option.bind_some, Option.map_some, Option.join_some, List.getElem?_cons_zero, List.getElem?_cons_succ, List.set_cons_zero, List.set_cons_succ, ix0, ix1, ix2, ix3, oAdd_i, oSub_i, oMul_i, oDiv_i, oMod_i, oLt_i, oLe_i, oGt_i, oGe_i, oEq_i, oNe_i, oInt_i, oInt_b, oAbs_i, oMax2_i, oMin2_i, oIs_n, oIs_i, oIs_t, oIs_bb, tru_b, tru_i, if_true, if_false, Bool.false_eq_true, Bool.true_and, Bool.and_true, true_or, or_true, true_and, and_true, reduceIte, decide_true, decide_false, Bool.not_true, Bool.not_false, Nat.reduceAdd, Nat.reduceSub, Nat.reduceLeDiff, Nat.zero_add, Nat.le_refl, and_self, or_self, N_law_is_less_, oMul_i h1.1, oMul_i h2.1, Rat.lt_iff]
  rfl
end
/-! ### many -/
/-- the sum of some -/
def qsum : List Rat → Rat
  | [] => 0
  | q :: r => q + qsum r
theorem qsum_app : ∀ a b : List Rat, qsum (a ++ b) = qsum a + qsum b
  | [], b => by simp [qsum, Rat.zero_add]
  | q :: r, b => by simp [qsum, qsum_app r b, Rat.add_assoc]
theorem qsum_take {qs : List Rat} {i : Nat} {q : Rat} (h : qs[i]? = some q) : qsum (qs.take (i + 1)) = qsum (qs.take i) + q := by
  rw [List.take_add_one, h, qsum_app]
  simp [qsum, Rat.add_zero]
/-- a list or tuple of fractions -/
def Qs (d : D) (qs : List Rat) : Prop := d.imm = true ∧ d.items = some (qs.map encQ)
theorem imms_encQ (qs : List Rat) : D.imms (qs.map encQ) = true := by
  induction qs with
  | nil => simp [D.imms]
  | cons q r ih => simp [D.imms, imm_encQ, ih]
theorem qs_tup (qs : List Rat) : Qs (.tup (qs.map encQ)) qs := ⟨by simp [D.imm, imms_encQ], by simp [D.items, D.seq?, imms_encQ]⟩
theorem qs_lst (qs : List Rat) : Qs (.lst false (qs.map encQ)) qs := ⟨by simp [D.imm, imms_encQ], by simp [D.items, D.seq?, imms_encQ]⟩
/-- all the partial sums are small -/
def SmAll (qs : List Rat) : Prop := (∀ q ∈ qs, Sm q) ∧ ∀ i ≤ qs.length, Sm (qsum (qs.take i))
theorem lsum_spec {d : D} {qs : List Rat} (hd : Qs d qs) (hs : SmAll qs) : g_law_sum_ [d] = some (encQ (qsum qs)) := by
  obtain ⟨τ', e, x, rfl⟩ := for_run (g := gdN 2) (f := fSet 1 (eP (pFn g_law_plus_ (qCons (pVar 1) (qCons (pVar 2) qNil))))) (fun i τ => ∃ x, τ = [some d, some (encQ (qsum (qs.take i))), x]) (qs.map encQ) 0 [some d, some (encQ 0), none] ⟨none, by simp [qsum]⟩ (by
    rintro i c _ hc ⟨x, rfl⟩
    rw [List.getElem?_map] at hc
    obtain ⟨q, hq, rfl⟩ := Option.map_eq_some_iff.mp hc
    rw [Nat.zero_add] at *
    have hi : i < qs.length := (List.getElem?_eq_some_iff.mp hq).1
    refine ⟨_, [some d, some (encQ (qsum (qs.take (i + 1)))), some (encQ q)], rfl, .inl ?_, some (encQ q), rfl⟩
    have z := lplus_spec (hs.2 i (by omega)) (hs.1 q (List.mem_of_getElem? hq))
    rw [qsum_take hq]
    simp only [startD, List.length_cons, List.length_nil, List.map_cons, List.map_nil, List.replicate_succ, List.replicate_zero, List.cons_append, List.nil_append, List.append_nil, fSeq, fNil, fRet, fSet, fExp, fIf, fIfE, fPar, fPar3, fAsg, fFrz, eP, eN, gImm, pOp, pVar, pC, qCons, qNil, qStar, xCons, xNil, pTup, pLst, eTup, eLst, pFn, eFn, pCall, eCall, pIf, eIf, cBl, cTru, cAnd, cOr, cNot, kP, kNot, kBl, kTru, pAnd, pOr, pNot, pCh, eOp, oUsub, D.imm, D.imms, D.nof, D.nofs, D.frz, D.frzs, gdN, gdTup, gdNil, gdCons, Option.bind_some, Option.map_some, Option.join_some, List.getElem?_cons_zero, List.getElem?_cons_succ, List.set_cons_zero, List.set_cons_succ, ix0, ix1, ix2, ix3, oAdd_i, oSub_i, oMul_i, oDiv_i, oMod_i, oLt_i, oLe_i, oGt_i, oGe_i, oEq_i, oNe_i, oInt_i, oInt_b, oAbs_i, oMax2_i, oMin2_i, oIs_n, oIs_i, oIs_t, oIs_bb, tru_b, tru_i, if_true, if_false, Bool.false_eq_true, Bool.true_and, Bool.and_true, true_or, or_true, true_and, and_true, reduceIte, decide_true, decide_false, Bool.not_true, Bool.not_false, Nat.reduceAdd, Nat.reduceSub, Nat.reduceLeDiff, Nat.zero_add, Nat.le_refl, and_self, or_self, z, frz_encQ, imm_encQ, nof_encQ])
  rw [List.length_map, Nat.zero_add, List.take_length] at e
  have e0 : encQ 0 = .tup [.int 0, .int 1] := rfl
  rw [e0] at e
  refine gOf_rt (τ := [some d, some (encQ (qsum qs)), x]) rfl ?_
  unfold b_law_sum_
  simp only [startD, List.length_cons, List.length_nil, List.map_cons, List.map_nil, List.replicate_succ, List.replicate_zero, List.cons_append, List.nil_append, List.append_nil, fSeq, fNil, fRet, fSet, fExp, fIf, fIfE, fPar, fPar3, fAsg, fFrz, eP, eN, gImm, pOp, pVar, pC, qCons, qNil, qStar, xCons, xNil, pTup, pLst, eTup, eLst, pFn, eFn, pCall, eCall, pIf, eIf, cBl, cTru, cAnd, cOr, cNot, kP, kNot, kBl, kTru, pAnd, pOr, pNot, pCh, eOp, oUsub, D.imm, D.imms, D.nof, D.nofs, D.frz, D.frzs, gdN, gdTup, gdNil, gdCons, Option.bind_some, Option.map_some, Option.join_some, List.getElem?_cons_zero, List.getElem?_cons_succ, List.set_cons_zero, List.set_cons_succ, ix0, ix1, ix2, ix3, oAdd_i, oSub_i, oMul_i, oDiv_i, oMod_i, oLt_i, oLe_i, oGt_i, oGe_i, oEq_i, oNe_i, oInt_i, oInt_b, oAbs_i, oMax2_i, oMin2_i, oIs_n, oIs_i, oIs_t, oIs_bb, tru_b, tru_i, if_true, if_false, Bool.false_eq_true, Bool.true_and, Bool.and_true, true_or, or_true, true_and, and_true, reduceIte, decide_true, decide_false, Bool.not_true, Bool.not_false, Nat.reduceAdd, Nat.reduceSub, Nat.reduceLeDiff, Nat.zero_add, Nat.le_refl, and_self, or_self, N_law_sum_, fFor, iSeq, hd.1, hd.2, e, imm_encQ]
end Mt
set_option Elab.async false
set_option linter.all false
set_option maxRecDepth 100000
set_option maxHeartbeats 1000000
/-! The program's sums; its looks at values. -/
namespace Mt
open DL Wk PySem L2
theorem divInt_step {a b : Int} {q s : Rat} (hb : 0 < b) (h : Rat.divInt a b = s) : Rat.divInt (a * q.den + q.num * b) (b * q.den) = s + q := by
  rw [← h, ← Rat.num_divInt_den q, Rat.divInt_add_divInt _ _ (by omega) (by have := den_pos q; omega), Rat.num_divInt_den]
theorem summed_spec {d : D} {qs : List Rat} (hd : Qs d qs) (hs : ∀ q ∈ qs, Sm q) (hl : qs.length ≤ 100) : g_summed [d] = some (encQ (qsum qs)) := by
  have p8 : ∀ i ≤ qs.length, 2 ^ (65 * i + 1) ≤ 2 ^ 7000 := fun i hi => pow_mono (by omega)
  obtain ⟨τ', e, a, b, x, rfl, hb, e1, e2, e3⟩ := for_run (g := gdN 3) (f := fPar 1 2 (xCons (eP (gImm (pOp oAdd (pOp oMul (pVar 1) (pOp oIx (pVar 3) (pC (.int 1)))) (pOp oMul (pOp oIx (pVar 3) (pC (.int 0))) (pVar 2))))) (xCons (eP (gImm (pOp oMul (pVar 2) (pOp oIx (pVar 3) (pC (.int 1)))))) xNil)))
    (fun i τ => ∃ (a b : Int) (x : Option D), τ = [some d, some (.int a), some (.int b), x] ∧ 0 < b ∧ Rat.divInt a b = qsum (qs.take i) ∧ a.natAbs < 2 ^ (65 * i + 1) ∧ b.natAbs < 2 ^ (65 * i + 1)) (qs.map encQ) 0 [some d, some (.int 0), some (.int 1), none] ⟨0, 1, none, rfl, by decide, by simp [qsum], by decide, by decide⟩ (by
    rintro i c _ hc ⟨a, b, x, rfl, hb, e1, e2, e3⟩
    rw [List.getElem?_map] at hc
    obtain ⟨q, hq, rfl⟩ := Option.map_eq_some_iff.mp hc
    rw [Nat.zero_add] at *
    have hi : i < qs.length := (List.getElem?_eq_some_iff.mp hq).1
    have sq := hs q (List.mem_of_getElem? hq)
    have i1 : 65 * i + 1 ≤ 6501 := by omega
    have w1 : cW a q.den = true := cW_of e2 sq.d (by omega) (by decide) (by omega)
    have w2 : cW q.num b = true := cW_of sq.1 e3 (by decide) (by omega) (by omega)
    have w3 : cW b q.den = true := cW_of e3 sq.d (by omega) (by decide) (by omega)
    refine ⟨_, [some d, some (.int (a * q.den + q.num * b)), some (.int (b * q.den)), some (encQ q)], rfl, .inl ?_, _, _, _, rfl, Int.mul_pos hb (den_pos q), ?_, ?_, ?_⟩
    · simp only [startD, List.length_cons, List.length_nil, List.map_cons, List.map_nil, List.replicate_succ, List.replicate_zero, List.cons_append, List.nil_append, List.append_nil, fSeq, fNil, fRet, fSet, fExp, fIf, fIfE, fPar, fPar3, fAsg, fFrz, eP, eN, gImm, pOp, pVar, pC, qCons, qNil, qStar, xCons, xNil, pTup, pLst, eTup, eLst, pFn, eFn, pCall, eCall, pIf, eIf, cBl, cTru, cAnd, cOr, cNot, kP, kNot, kBl, kTru, pAnd, pOr, pNot, pCh, eOp, oUsub, D.imm, D.imms, D.nof, D.nofs, D.frz, D.frzs, gdN, gdTup, gdNil, gdCons, Option.bind_some, Option.map_some, Option.join_some, List.getElem?_cons_zero, List.getElem?_cons_succ, List.set_cons_zero, List.set_cons_succ, ix0, ix1, ix2, ix3, oAdd_i, oSub_i, oMul_i, oDiv_i, oMod_i, oLt_i, oLe_i, oGt_i, oGe_i, oEq_i, oNe_i, oInt_i, oInt_b, oAbs_i, oMax2_i, oMin2_i, oIs_n, oIs_i, oIs_t, oIs_bb, tru_b, tru_i, if_true, if_false, Bool.false_eq_true, Bool.true_and, Bool.and_true, true_or, or_true, true_and, and_true, reduceIte, decide_true, decide_false, Bool.not_true, Bool.not_false, Nat.reduceAdd, Nat.reduceSub, Nat.reduceLeDiff, Nat.zero_add, Nat.le_refl, and_self, or_self, encQ, oMul_i w1, oMul_i w2, oMul_i w3]
    · rw [divInt_step hb e1, qsum_take hq]
    · have h1 := mul_lt_pow e2 sq.2
      have h2 := mul_lt_pow sq.1 e3
      rw [show 64 + (65 * i + 1) = 65 * i + 1 + 64 by omega] at h2
      have h3 := add_lt_pow h1 h2
      have h4 := Int.natAbs_add_le (a * q.den) (q.num * b)
      rw [Int.natAbs_mul, Int.natAbs_mul, Int.natAbs_natCast] at h4
      rw [show 65 * (i + 1) + 1 = 65 * i + 1 + 64 + 1 by omega]
      exact Nat.lt_of_le_of_lt h4 h3
    · have h1 := mul_lt_pow e3 sq.2
      rw [Int.natAbs_mul, Int.natAbs_natCast]
      exact Nat.lt_of_lt_of_le h1 (pow_mono (by omega)))
  rw [List.length_map, Nat.zero_add] at *
  rw [List.take_length] at e1
  have hb8 : b.natAbs < 2 ^ 8000 := Nat.lt_of_lt_of_le e3 (pow_mono (by omega))
  have ts := told_fraction_spec a b hb hb8
  rw [e1] at ts
  refine gOf_rt (τ := [some d, some (.int a), some (.int b), x]) rfl ?_
  unfold b_summed
  simp only [startD, List.length_cons, List.length_nil, List.map_cons, List.map_nil, List.replicate_succ, List.replicate_zero, List.cons_append, List.nil_append, List.append_nil, fSeq, fNil, fRet, fSet, fExp, fIf, fIfE, fPar, fPar3, fAsg, fFrz, eP, eN, gImm, pOp, pVar, pC, qCons, qNil, qStar, xCons, xNil, pTup, pLst, eTup, eLst, pFn, eFn, pCall, eCall, pIf, eIf, cBl, cTru, cAnd, cOr, cNot, kP, kNot, kBl, kTru, pAnd, pOr, pNot, pCh, eOp, oUsub, D.imm, D.imms, D.nof, D.nofs, D.frz, D.frzs, gdN, gdTup, gdNil, gdCons, Option.bind_some, Option.map_some, Option.join_some, List.getElem?_cons_zero, List.getElem?_cons_succ, List.set_cons_zero, List.set_cons_succ, ix0, ix1, ix2, ix3, oAdd_i, oSub_i, oMul_i, oDiv_i, oMod_i, oLt_i, oLe_i, oGt_i, oGe_i, oEq_i, oNe_i, oInt_i, oInt_b, oAbs_i, oMax2_i, oMin2_i, oIs_n, oIs_i, oIs_t, oIs_bb, tru_b, tru_i, if_true, if_false, Bool.false_eq_true, Bool.true_and, Bool.and_true, true_or, or_true, true_and, and_true, reduceIte, decide_true, decide_false, Bool.not_true, Bool.not_false, Nat.reduceAdd, Nat.reduceSub, Nat.reduceLeDiff, Nat.zero_add, Nat.le_refl, and_self, or_self, N_summed, fFor, iSeq, hd.1, hd.2, e, imm_encQ, ts, nof_encQ]
/-! ### looks -/
theorem isi_int_i {i : Int} : pIsi "int" (fun _ => some (.int i)) = fun _ => some (.bl true) := by
  funext τ
  rfl
theorem kit1 : kitB "int" "int" = some true := by decide +kernel
theorem kit2 : kitB "int" "bool" = some false := by decide +kernel
theorem kit3 : kitB "tuple" "tuple" = some true := by decide +kernel
theorem kit4 : kitB "str" "str" = some true := by decide +kernel
theorem ty_i {i : Int} : (D.int i).tyN = "int" := rfl
theorem ty_t {l : List D} : (D.tup l).tyN = "tuple" := rfl
theorem ty_s {x : Str} : (D.str x).tyN = "str" := rfl
theorem is_int_spec (v lo hi : Int) : g_is_int [.int v, .int lo, .int hi] = some (.bl (decide (lo ≤ v ∧ v ≤ hi))) := by
  refine gOf_rt (τ := [some (.int v), some (.int lo), some (.int hi)]) rfl ?_
  unfold b_is_int
  by_cases h : lo ≤ v
  · simp [startD, List.length_cons, List.length_nil, List.map_cons, List.map_nil, List.replicate_succ, List.replicate_zero, List.cons_append, List.nil_append, List.append_nil, fSeq, fNil, fRet, fSet, fExp, fIf, fIfE, fPar, fPar3, fAsg, fFrz, eP, eN, gImm, pOp, pVar, pC, qCons, qNil, qStar, xCons, xNil, pTup, pLst, eTup, eLst, pFn, eFn, pCall, eCall, pIf, eIf, cBl, cTru, cAnd, cOr, cNot, kP, kNot, kBl, kTru, pAnd, pOr, pNot, pCh, eOp, oUsub, D.imm, D.imms, D.nof, D.nofs, D.frz, D.frzs, gdN, gdTup, gdNil, gdCons, Option.bind_some, Option.map_some, Option.join_some, List.getElem?_cons_zero, List.getElem?_cons_succ, List.set_cons_zero, List.set_cons_succ, ix0, ix1, ix2, ix3, oAdd_i, oSub_i, oMul_i, oDiv_i, oMod_i, oLt_i, oLe_i, oGt_i, oGe_i, oEq_i, oNe_i, oInt_i, oInt_b, oAbs_i, oMax2_i, oMin2_i, oIs_n, oIs_i, oIs_t, oIs_bb, tru_b, tru_i, N_is_int, pIsi, ty_i, kit1, kit2, h]
  · simp [startD, List.length_cons, List.length_nil, List.map_cons, List.map_nil, List.replicate_succ, List.replicate_zero, List.cons_append, List.nil_append, List.append_nil, fSeq, fNil, fRet, fSet, fExp, fIf, fIfE, fPar, fPar3, fAsg, fFrz, eP, eN, gImm, pOp, pVar, pC, qCons, qNil, qStar, xCons, xNil, pTup, pLst, eTup, eLst, pFn, eFn, pCall, eCall, pIf, eIf, cBl, cTru, cAnd, cOr, cNot, kP, kNot, kBl, kTru, pAnd, pOr, pNot, pCh, eOp, oUsub, D.imm, D.imms, D.nof, D.nofs, D.frz, D.frzs, gdN, gdTup, gdNil, gdCons, Option.bind_some, Option.map_some, Option.join_some, List.getElem?_cons_zero, List.getElem?_cons_succ, List.set_cons_zero, List.set_cons_succ, ix0, ix1, ix2, ix3, oAdd_i, oSub_i, oMul_i, oDiv_i, oMod_i, oLt_i, oLe_i, oGt_i, oGe_i, oEq_i, oNe_i, oInt_i, oInt_b, oAbs_i, oMax2_i, oMin2_i, oIs_n, oIs_i, oIs_t, oIs_bb, tru_b, tru_i, N_is_int, pIsi, ty_i, kit1, kit2, h]
theorem len_t {l : List D} : oLen [.tup l] = some (.int (l.length : Nat)) := rfl
theorem divInt_self (q : Rat) : Rat.divInt q.num q.den = q := Rat.num_divInt_den q
theorem py_encQ {p q : Rat} : (encQ p).py = (encQ q).py ↔ p = q := by
  constructor
  · intro h
    simp only [encQ, D.py, D.pys, PyData.tuple.injEq, List.cons.injEq, PyData.int.injEq, and_true] at h
    exact Rat.ext h.1 (by omega)
  · intro h; rw [h]
theorem pl_encQ (q : Rat) : (encQ q).pl = true := by simp [encQ, D.pl, D.pls]
theorem dep_encQ (q : Rat) : (encQ q).py.depth ≤ 64 := by simp [encQ, D.py, D.pys, PyData.depth, PyData.depthAll]
theorem eq_encQ {p q : Rat} : oEq (encQ p) (encQ q) = some (.bl (decide (p = q))) ∧ oNe (encQ p) (encQ q) = some (.bl (!decide (p = q))) := oEq_pl (pl_encQ p) (pl_encQ q) (dep_encQ p) (dep_encQ q) py_encQ
theorem is_exact_spec {q : Rat} (h : Sm q) : g_is_exact [encQ q] = some (.bl true) := by
  have hb : (q.den : Int).natAbs < 2 ^ 8000 := Nat.lt_of_lt_of_le h.d (pow_mono (by decide))
  have ts := told_fraction_spec q.num q.den (den_pos q) hb
  rw [divInt_self] at ts
  have lc : lcD (gdN 1) cYes (gImm (pAnd (pIsi "int" (pVar 1)) (pNot (pIsi "bool" (pVar 1))))) [some (encQ q), none] ([q.num, (q.den : Int)].map D.int) = some ([q.num, (q.den : Int)].map fun _ => D.bl true) := lc_all D.int (fun _ => .bl true) _ fun x hx => ⟨_, rfl, by simp [startD, List.length_cons, List.length_nil, List.map_cons, List.map_nil, List.replicate_succ, List.replicate_zero, List.cons_append, List.nil_append, List.append_nil, fSeq, fNil, fRet, fSet, fExp, fIf, fIfE, fPar, fPar3, fAsg, fFrz, eP, eN, gImm, pOp, pVar, pC, qCons, qNil, qStar, xCons, xNil, pTup, pLst, eTup, eLst, pFn, eFn, pCall, eCall, pIf, eIf, cBl, cTru, cAnd, cOr, cNot, kP, kNot, kBl, kTru, pAnd, pOr, pNot, pCh, eOp, oUsub, D.imm, D.imms, D.nof, D.nofs, D.frz, D.frzs, gdN, gdTup, gdNil, gdCons, Option.bind_some, Option.map_some, Option.join_some, List.getElem?_cons_zero, List.getElem?_cons_succ, List.set_cons_zero, List.set_cons_succ, ix0, ix1, ix2, ix3, oAdd_i, oSub_i, oMul_i, oDiv_i, oMod_i, oLt_i, oLe_i, oGt_i, oGe_i, oEq_i, oNe_i, oInt_i, oInt_b, oAbs_i, oMax2_i, oMin2_i, oIs_n, oIs_i, oIs_t, oIs_bb, tru_b, tru_i, pIsi, ty_i, kit1, kit2]⟩
  have lc' : lcD (gdN 1) cYes (gImm (pAnd (pIsi "int" (pVar 1)) (pNot (pIsi "bool" (pVar 1))))) [some (.tup [.int q.num, .int (q.den : Int)]), none] [.int q.num, .int (q.den : Int)] = some [.bl true, .bl true] := lc
  have dp : (0 : Int) < (q.den : Int) := den_pos q
  have eq := (eq_encQ (p := q) (q := q)).1
  refine gOf_rt (τ := [some (encQ q), none]) rfl ?_
  unfold b_is_exact
  simp only [encQ] at *
  simp [startD, List.length_cons, List.length_nil, List.map_cons, List.map_nil, List.replicate_succ, List.replicate_zero, List.cons_append, List.nil_append, List.append_nil, fSeq, fNil, fRet, fSet, fExp, fIf, fIfE, fPar, fPar3, fAsg, fFrz, eP, eN, gImm, pOp, pVar, pC, qCons, qNil, qStar, xCons, xNil, pTup, pLst, eTup, eLst, pFn, eFn, pCall, eCall, pIf, eIf, cBl, cTru, cAnd, cOr, cNot, kP, kNot, kBl, kTru, pAnd, pOr, pNot, pCh, eOp, oUsub, D.imm, D.imms, D.nof, D.nofs, D.frz, D.frzs, gdN, gdTup, gdNil, gdCons, Option.bind_some, Option.map_some, Option.join_some, List.getElem?_cons_zero, List.getElem?_cons_succ, List.set_cons_zero, List.set_cons_succ, ix0, ix1, ix2, ix3, oAdd_i, oSub_i, oMul_i, oDiv_i, oMod_i, oLt_i, oLe_i, oGt_i, oGe_i, oEq_i, oNe_i, oInt_i, oInt_b, oAbs_i, oMax2_i, oMin2_i, oIs_n, oIs_i, oIs_t, oIs_bb, tru_b, tru_i, N_is_exact, pIsi, ty_t, kit3, len_t, iSeq, D.items, D.seq?, pLc, wipeD, lc', oAll, D.bls?, ts, eq, q.den_pos]
theorem is_exact_price_spec {q : Rat} (h : Sm q) (h0 : 0 ≤ q) : g_is_exact_price [encQ q] = some (.bl true) := by
  have e := is_exact_spec h
  have hn : 0 ≤ q.num := Rat.num_nonneg.mpr h0
  refine gOf_rt (τ := [some (encQ q)]) rfl ?_
  unfold b_is_exact_price
  simp only [encQ] at *
  simp [startD, List.length_cons, List.length_nil, List.map_cons, List.map_nil, List.replicate_succ, List.replicate_zero, List.cons_append, List.nil_append, List.append_nil, fSeq, fNil, fRet, fSet, fExp, fIf, fIfE, fPar, fPar3, fAsg, fFrz, eP, eN, gImm, pOp, pVar, pC, qCons, qNil, qStar, xCons, xNil, pTup, pLst, eTup, eLst, pFn, eFn, pCall, eCall, pIf, eIf, cBl, cTru, cAnd, cOr, cNot, kP, kNot, kBl, kTru, pAnd, pOr, pNot, pCh, eOp, oUsub, D.imm, D.imms, D.nof, D.nofs, D.frz, D.frzs, gdN, gdTup, gdNil, gdCons, Option.bind_some, Option.map_some, Option.join_some, List.getElem?_cons_zero, List.getElem?_cons_succ, List.set_cons_zero, List.set_cons_succ, ix0, ix1, ix2, ix3, oAdd_i, oSub_i, oMul_i, oDiv_i, oMod_i, oLt_i, oLe_i, oGt_i, oGe_i, oEq_i, oNe_i, oInt_i, oInt_b, oAbs_i, oMax2_i, oMin2_i, oIs_n, oIs_i, oIs_t, oIs_bb, tru_b, tru_i, N_is_exact_price, e, hn]
/-- as the program wants a fraction -/
def Fr6 (q : Rat) : Prop := q.num.natAbs ≤ 1000000 ∧ q.den ≤ 1000000
theorem Fr6.sm {q : Rat} (h : Fr6 q) : Sm q := ⟨Nat.lt_of_le_of_lt h.1 (by decide), Nat.lt_of_le_of_lt h.2 (by decide)⟩
theorem is_fraction_spec {q : Rat} (h : Fr6 q) : g_is_fraction [encQ q] = some (.bl true) := by
  have e := is_exact_spec h.sm
  have h1 : decide (-1000000 ≤ q.num ∧ q.num ≤ 1000000) = true := decide_eq_true (by have := h.1; omega)
  have i := is_int_spec q.num (-1000000) 1000000
  rw [h1] at i
  have h2 := h.2
  refine gOf_rt (τ := [some (encQ q)]) rfl ?_
  unfold b_is_fraction
  simp only [encQ] at *
  simp [startD, List.length_cons, List.length_nil, List.map_cons, List.map_nil, List.replicate_succ, List.replicate_zero, List.cons_append, List.nil_append, List.append_nil, fSeq, fNil, fRet, fSet, fExp, fIf, fIfE, fPar, fPar3, fAsg, fFrz, eP, eN, gImm, pOp, pVar, pC, qCons, qNil, qStar, xCons, xNil, pTup, pLst, eTup, eLst, pFn, eFn, pCall, eCall, pIf, eIf, cBl, cTru, cAnd, cOr, cNot, kP, kNot, kBl, kTru, pAnd, pOr, pNot, pCh, eOp, oUsub, D.imm, D.imms, D.nof, D.nofs, D.frz, D.frzs, gdN, gdTup, gdNil, gdCons, Option.bind_some, Option.map_some, Option.join_some, List.getElem?_cons_zero, List.getElem?_cons_succ, List.set_cons_zero, List.set_cons_succ, ix0, ix1, ix2, ix3, oAdd_i, oSub_i, oMul_i, oDiv_i, oMod_i, oLt_i, oLe_i, oGt_i, oGe_i, oEq_i, oNe_i, oInt_i, oInt_b, oAbs_i, oMax2_i, oMin2_i, oIs_n, oIs_i, oIs_t, oIs_bb, tru_b, tru_i, N_is_fraction, e, i]
  have h3 : (q.den : Int) ≤ 1000000 := by omega
  simp [h3, startD, List.length_cons, List.length_nil, List.map_cons, List.map_nil, List.replicate_succ, List.replicate_zero, List.cons_append, List.nil_append, List.append_nil, fSeq, fNil, fRet, fSet, fExp, fIf, fIfE, fPar, fPar3, fAsg, fFrz, eP, eN, gImm, pOp, pVar, pC, qCons, qNil, qStar, xCons, xNil, pTup, pLst, eTup, eLst, pFn, eFn, pCall, eCall, pIf, eIf, cBl, cTru, cAnd, cOr, cNot, kP, kNot, kBl, kTru, pAnd, pOr, pNot, pCh, eOp, oUsub, D.imm, D.imms, D.nof, D.nofs, D.frz, D.frzs, gdN, gdTup, gdNil, gdCons, Option.bind_some, Option.map_some, Option.join_some, List.getElem?_cons_zero, List.getElem?_cons_succ, List.set_cons_zero, List.set_cons_succ, ix0, ix1, ix2, ix3, oAdd_i, oSub_i, oMul_i, oDiv_i, oMod_i, oLt_i, oLe_i, oGt_i, oGe_i, oEq_i, oNe_i, oInt_i, oInt_b, oAbs_i, oMax2_i, oMin2_i, oIs_n, oIs_i, oIs_t, oIs_bb, tru_b, tru_i]
theorem is_price_spec {q : Rat} (h : Fr6 q) (h0 : 0 ≤ q) : g_is_price [encQ q] = some (.bl true) := by
  have e := is_fraction_spec h
  have hn : 0 ≤ q.num := Rat.num_nonneg.mpr h0
  refine gOf_rt (τ := [some (encQ q)]) rfl ?_
  unfold b_is_price
  simp only [encQ] at *
  simp [startD, List.length_cons, List.length_nil, List.map_cons, List.map_nil, List.replicate_succ, List.replicate_zero, List.cons_append, List.nil_append, List.append_nil, fSeq, fNil, fRet, fSet, fExp, fIf, fIfE, fPar, fPar3, fAsg, fFrz, eP, eN, gImm, pOp, pVar, pC, qCons, qNil, qStar, xCons, xNil, pTup, pLst, eTup, eLst, pFn, eFn, pCall, eCall, pIf, eIf, cBl, cTru, cAnd, cOr, cNot, kP, kNot, kBl, kTru, pAnd, pOr, pNot, pCh, eOp, oUsub, D.imm, D.imms, D.nof, D.nofs, D.frz, D.frzs, gdN, gdTup, gdNil, gdCons, Option.bind_some, Option.map_some, Option.join_some, List.getElem?_cons_zero, List.getElem?_cons_succ, List.set_cons_zero, List.set_cons_succ, ix0, ix1, ix2, ix3, oAdd_i, oSub_i, oMul_i, oDiv_i, oMod_i, oLt_i, oLe_i, oGt_i, oGe_i, oEq_i, oNe_i, oInt_i, oInt_b, oAbs_i, oMax2_i, oMin2_i, oIs_n, oIs_i, oIs_t, oIs_bb, tru_b, tru_i, N_is_price, e, hn]
end Mt
set_option Elab.async false
set_option linter.all false
set_option maxRecDepth 100000
set_option maxHeartbeats 1000000
/-! Twelfths; a row of needs is looked at. -/
namespace Mt
open DL Wk PySem L2
/-- twelfths -/
def Tw (q : Rat) : Prop := ∃ k : Int, q * 12 = (k : Rat)
theorem Tw.add {p q : Rat} : Tw p → Tw q → Tw (p + q)
  | ⟨a, ha⟩, ⟨b, hb⟩ => ⟨a + b, by rw [Rat.add_mul, ha, hb, Rat.intCast_add]⟩
theorem Tw.sub {p q : Rat} : Tw p → Tw q → Tw (p - q)
  | ⟨a, ha⟩, ⟨b, hb⟩ => ⟨a - b, by rw [Rat.sub_eq_add_neg, Rat.add_mul, Rat.neg_mul, ha, hb, ← Rat.sub_eq_add_neg, Rat.intCast_sub]⟩
theorem Tw.int (i : Int) : Tw (i : Rat) := ⟨i * 12, by rw [Rat.intCast_mul]; rfl⟩
theorem Tw.zero : Tw 0 := Tw.int 0
theorem Tw.one : Tw 1 := Tw.int 1
theorem Tw.eq {q : Rat} : Tw q → ∃ k : Int, q = Rat.divInt k 12
  | ⟨k, h⟩ => ⟨k, by
    rw [Rat.divInt_eq_div, ← h]
    exact (Rat.mul_div_cancel (by decide)).symm⟩
theorem Tw.den {q : Rat} (h : Tw q) : q.den ≤ 12 := by
  obtain ⟨k, rfl⟩ := h.eq
  rw [Rat.den_divInt, if_neg (by decide)]
  exact Nat.div_le_self _ _
/-- num and den of a fraction between nought and B -/
theorem num_le {q : Rat} {B : Nat} (h0 : 0 ≤ q) (hB : q ≤ (B : Rat)) : 0 ≤ q.num ∧ q.num ≤ B * q.den := by
  refine ⟨Rat.num_nonneg.mpr h0, ?_⟩
  have h := (Rat.le_iff q B).mp hB
  rw [Rat.den_natCast, Rat.num_natCast] at h
  simpa using h
theorem Tw.fr6 {q : Rat} {B : Nat} (h : Tw q) (h0 : 0 ≤ q) (hB : q ≤ (B : Rat)) (hb : B ≤ 80000) : Fr6 q := by
  obtain ⟨a, b⟩ := num_le h0 hB
  have hd := h.den
  have h2 : (B : Int) * q.den ≤ 80000 * 12 := Int.mul_le_mul (by omega) (by omega) (by omega) (by decide)
  exact ⟨by omega, by omega⟩
/-- whole -/
def Wh (q : Rat) : Prop := q.den = 1
instance (q : Rat) : Decidable (Wh q) := inferInstanceAs (Decidable (q.den = 1))
theorem Wh.eq {q : Rat} (h : Wh q) : q = (q.num : Rat) := Rat.ext rfl (by rw [h]; rfl)
theorem Wh.int (i : Int) : Wh (i : Rat) := rfl
theorem Wh.add {p q : Rat} (hp : Wh p) (hq : Wh q) : Wh (p + q) := by
  rw [hp.eq, hq.eq, ← Rat.intCast_add]
  exact Wh.int _
theorem Wh.sub {p q : Rat} (hp : Wh p) (hq : Wh q) : Wh (p - q) := by
  rw [hp.eq, hq.eq, ← Rat.intCast_sub]
  exact Wh.int _
/-- needs as the program takes them, in twelfths -/
structure Needs (qs : List Rat) : Prop where
  len : 1 ≤ qs.length ∧ qs.length ≤ 8
  one : ∀ q ∈ qs, 1 ≤ q
  tw : ∀ q ∈ qs, Tw q
  wh : Wh (qsum qs)
  le : qsum qs ≤ 60
theorem qsum_nonneg {qs : List Rat} (h : ∀ q ∈ qs, 0 ≤ q) : 0 ≤ qsum qs := by
  induction qs with
  | nil => exact Rat.le_refl
  | cons q r ih => exact Rat.add_nonneg (h q List.mem_cons_self) (ih fun p hp => h p (List.mem_cons_of_mem _ hp))
theorem qsum_tw {qs : List Rat} (h : ∀ q ∈ qs, Tw q) : Tw (qsum qs) := by
  induction qs with
  | nil => exact Tw.zero
  | cons q r ih => exact (h q List.mem_cons_self).add (ih fun p hp => h p (List.mem_cons_of_mem _ hp))
theorem le_add {a b : Rat} (h : 0 ≤ b) : a ≤ a + b := by
  have z := (Rat.add_le_add_left (c := a)).mpr h
  rwa [Rat.add_zero] at z
theorem le_add' {a b : Rat} (h : 0 ≤ b) : a ≤ b + a := by rw [Rat.add_comm]; exact le_add h
theorem qsum_take_le {qs : List Rat} (h : ∀ q ∈ qs, 0 ≤ q) (i : Nat) : qsum (qs.take i) ≤ qsum qs := by
  have e := qsum_app (qs.take i) (qs.drop i)
  rw [List.take_append_drop] at e
  rw [e]
  exact le_add (qsum_nonneg fun q hq => h q (List.mem_of_mem_drop hq))
theorem qsum_mem_le {qs : List Rat} (h : ∀ q ∈ qs, 0 ≤ q) {q : Rat} (hq : q ∈ qs) : q ≤ qsum qs := by
  induction qs with
  | nil => cases hq
  | cons p r ih =>
    rcases List.mem_cons.mp hq with rfl | hq
    · exact le_add (qsum_nonneg fun q hq => h q (List.mem_cons_of_mem _ hq))
    · exact Rat.le_trans (ih (fun q hq => h q (List.mem_cons_of_mem _ hq)) hq) (le_add' (h p List.mem_cons_self))
/-- twelfths from nought up, that come to no more than B -/
structure Twl (B : Nat) (qs : List Rat) : Prop where
  pos : ∀ q ∈ qs, 0 ≤ q
  tw : ∀ q ∈ qs, Tw q
  le : qsum qs ≤ (B : Rat)
theorem Twl.fr {B : Nat} {qs : List Rat} (h : Twl B qs) (hb : B ≤ 80000) : ∀ q ∈ qs, Fr6 q := fun q hq => (h.tw q hq).fr6 (h.pos q hq) (Rat.le_trans (qsum_mem_le h.pos hq) h.le) hb
theorem Twl.sm {B : Nat} {qs : List Rat} (h : Twl B qs) (hb : B ≤ 80000) : SmAll qs := by
  refine ⟨fun q hq => (h.fr hb q hq).sm, fun i hi => ?_⟩
  have hp : ∀ q ∈ qs.take i, 0 ≤ q := fun q hq => h.pos q (List.mem_of_mem_take hq)
  exact ((qsum_tw fun q hq => h.tw q (List.mem_of_mem_take hq)).fr6 (qsum_nonneg hp) (Rat.le_trans (qsum_take_le h.pos i) h.le) hb).sm
theorem zero_le_of_one {q : Rat} (h : 1 ≤ q) : 0 ≤ q := Rat.le_trans (by decide) h
theorem Needs.twl {qs : List Rat} (h : Needs qs) : Twl 60 qs := ⟨fun q hq => zero_le_of_one (h.one q hq), h.tw, h.le⟩
theorem lc_bl {g : D → DS → Option DS} {c : DS → Option Bool} {p : DS → Option D} {τ : DS} {α : Type} (enc : α → D) (b : Bool) (xs : List α) (h : ∀ x ∈ xs, ∃ τ1, g (enc x) τ = some τ1 ∧ p τ1 = some (.bl b)) : lcD g cYes p τ (xs.map enc) = some (List.replicate xs.length (D.bl b)) := by
  rw [lc_all enc (fun _ => D.bl b) xs h]
  congr 1
  clear h
  induction xs with
  | nil => rfl
  | cons x r ih => simp [List.replicate_succ, ih]
theorem one_enc : encQ 1 = .tup [.int 1, .int 1] := rfl
theorem zero_enc : encQ 0 = .tup [.int 0, .int 1] := rfl
theorem oAll_rep (n : Nat) : oAll [.lst true (List.replicate n (D.bl true))] = some (.bl true) := by
  rw [← List.map_replicate (f := D.bl)]
  simp only [oAll, D.bls_map, Option.bind_some]
  congr 2
  simp
theorem oAny_rep (n : Nat) : oAny [.lst true (List.replicate n (D.bl false))] = some (.bl false) := by
  rw [← List.map_replicate (f := D.bl)]
  simp only [oAny, D.bls_map, Option.bind_some]
  congr 2
  simp
theorem sm_one : Sm 1 := ⟨by decide, by decide⟩
theorem sm_zero : Sm 0 := ⟨by decide, by decide⟩
theorem frzs_encQ (l : List Rat) : D.frzs (l.map encQ) = l.map encQ := by
  induction l with
  | nil => rfl
  | cons q r ih => simp [D.frzs, frz_encQ, ih]
theorem need_row_spec {qs : List Rat} (h : Needs qs) : g_is_need_row [.tup (qs.map encQ)] = some (.bl true) := by
  have hq := qs_tup qs
  have ss := summed_spec hq (h.twl.sm (by decide)).1 (by have := h.len; omega)
  have l1 : ∀ τ1 τ2 : Option D, lcD (gdN 2) cYes (pFn g_is_price (qCons (pVar 2) qNil)) [some (.tup (qs.map encQ)), τ1, τ2] (qs.map encQ) = some (List.replicate qs.length (D.bl true)) := fun τ1 τ2 => lc_bl (c := cYes) encQ true qs fun q hq => ⟨_, rfl, by
    have e := is_price_spec (h.twl.fr (by decide) q hq) (h.twl.pos q hq)
    simp only [startD, List.length_cons, List.length_nil, List.map_cons, List.map_nil, List.replicate_succ, List.replicate_zero, List.cons_append, List.nil_append, List.append_nil, fSeq, fNil, fRet, fSet, fExp, fIf, fIfE, fPar, fPar3, fAsg, fFrz, eP, eN, gImm, pOp, pVar, pC, qCons, qNil, qStar, xCons, xNil, pTup, pLst, eTup, eLst, pFn, eFn, pCall, eCall, pIf, eIf, cBl, cTru, cAnd, cOr, cNot, kP, kNot, kBl, kTru, pAnd, pOr, pNot, pCh, eOp, oUsub, D.imm, D.imms, D.nof, D.nofs, D.frz, D.frzs, gdN, gdTup, gdNil, gdCons, Option.bind_some, Option.map_some, Option.join_some, List.getElem?_cons_zero, List.getElem?_cons_succ, List.set_cons_zero, List.set_cons_succ, ix0, ix1, ix2, ix3, oAdd_i, oSub_i, oMul_i, oDiv_i, oMod_i, oLt_i, oLe_i, oGt_i, oGe_i, oEq_i, oNe_i, oInt_i, oInt_b, oAbs_i, oMax2_i, oMin2_i, oIs_n, oIs_i, oIs_t, oIs_bb, tru_b, tru_i, if_true, if_false, Bool.false_eq_true, Bool.true_and, Bool.and_true, true_or, or_true, true_and, and_true, reduceIte, decide_true, decide_false, Bool.not_true, Bool.not_false, Nat.reduceAdd, Nat.reduceSub, Nat.reduceLeDiff, Nat.zero_add, Nat.le_refl, and_self, or_self, frz_encQ, e]⟩
  have l2 : ∀ τ1 τ2 : Option D, lcD (gdN 2) cYes (pFn g_is_less (qCons (pVar 2) (qCons (pC (.tup [(.int 1), (.int 1)])) qNil))) [some (.tup (qs.map encQ)), τ1, τ2] (qs.map encQ) = some (List.replicate qs.length (D.bl false)) := fun τ1 τ2 => lc_bl (c := cYes) encQ false qs fun q hq => ⟨_, rfl, by
    have e := is_less_spec ((h.twl.sm (by decide)).1 q hq) sm_one
    rw [decide_eq_false (Rat.not_lt.mpr (h.one q hq)), one_enc] at e
    simp only [startD, List.length_cons, List.length_nil, List.map_cons, List.map_nil, List.replicate_succ, List.replicate_zero, List.cons_append, List.nil_append, List.append_nil, fSeq, fNil, fRet, fSet, fExp, fIf, fIfE, fPar, fPar3, fAsg, fFrz, eP, eN, gImm, pOp, pVar, pC, qCons, qNil, qStar, xCons, xNil, pTup, pLst, eTup, eLst, pFn, eFn, pCall, eCall, pIf, eIf, cBl, cTru, cAnd, cOr, cNot, kP, kNot, kBl, kTru, pAnd, pOr, pNot, pCh, eOp, oUsub, D.imm, D.imms, D.nof, D.nofs, D.frz, D.frzs, gdN, gdTup, gdNil, gdCons, Option.bind_some, Option.map_some, Option.join_some, List.getElem?_cons_zero, List.getElem?_cons_succ, List.set_cons_zero, List.set_cons_succ, ix0, ix1, ix2, ix3, oAdd_i, oSub_i, oMul_i, oDiv_i, oMod_i, oLt_i, oLe_i, oGt_i, oGe_i, oEq_i, oNe_i, oInt_i, oInt_b, oAbs_i, oMax2_i, oMin2_i, oIs_n, oIs_i, oIs_t, oIs_bb, tru_b, tru_i, if_true, if_false, Bool.false_eq_true, Bool.true_and, Bool.and_true, true_or, or_true, true_and, and_true, reduceIte, decide_true, decide_false, Bool.not_true, Bool.not_false, Nat.reduceAdd, Nat.reduceSub, Nat.reduceLeDiff, Nat.zero_add, Nat.le_refl, and_self, or_self, frz_encQ, e]⟩
  have hl : qs.length ≤ 16777216 := by have := h.len; omega
  have l0 := h.len
  have n1 : (1 : Int) ≤ (qs.length : Int) := by omega
  have n2 : (qs.length : Int) ≤ 8 := by omega
  have w : (qsum qs).den = 1 := h.wh
  have w2 : (qsum qs).num ≤ 60 := by
    have z := (num_le (B := 60) (qsum_nonneg h.twl.pos) h.le).2
    rw [w] at z
    simpa using z
  refine gOf_rt (τ := [some (.tup (qs.map encQ)), some (encQ (qsum qs)), none]) rfl ?_
  unfold b_is_need_row
  simp only [encQ] at ss
  simp [startD, List.length_cons, List.length_nil, List.map_cons, List.map_nil, List.replicate_succ, List.replicate_zero, List.cons_append, List.nil_append, List.append_nil, fSeq, fNil, fRet, fSet, fExp, fIf, fIfE, fPar, fPar3, fAsg, fFrz, eP, eN, gImm, pOp, pVar, pC, qCons, qNil, qStar, xCons, xNil, pTup, pLst, eTup, eLst, pFn, eFn, pCall, eCall, pIf, eIf, cBl, cTru, cAnd, cOr, cNot, kP, kNot, kBl, kTru, pAnd, pOr, pNot, pCh, eOp, oUsub, D.imm, D.imms, D.nof, D.nofs, D.frz, D.frzs, gdN, gdTup, gdNil, gdCons, Option.bind_some, Option.map_some, Option.join_some, List.getElem?_cons_zero, List.getElem?_cons_succ, List.set_cons_zero, List.set_cons_succ, ix0, ix1, ix2, ix3, oAdd_i, oSub_i, oMul_i, oDiv_i, oMod_i, oLt_i, oLe_i, oGt_i, oGe_i, oEq_i, oNe_i, oInt_i, oInt_b, oAbs_i, oMax2_i, oMin2_i, oIs_n, oIs_i, oIs_t, oIs_bb, tru_b, tru_i, N_is_need_row, pIsi, ty_t, kit3, len_t, iSeq, imms_encQ, hq.2, pLc, wipeD, l1, l2, hl, oAll_rep, oAny_rep, ss, frzs_encQ, n1, n2, encQ, w, w2]
theorem look_needs_spec {qs : List Rat} (h : Needs qs) : g_look_at_needs [.tup (qs.map encQ)] = some .non := by
  have e := need_row_spec h
  refine gOf_nx (τ := [some (.tup (qs.map encQ))]) rfl ?_
  unfold b_look_at_needs
  simp [startD, List.length_cons, List.length_nil, List.map_cons, List.map_nil, List.replicate_succ, List.replicate_zero, List.cons_append, List.nil_append, List.append_nil, fSeq, fNil, fRet, fSet, fExp, fIf, fIfE, fPar, fPar3, fAsg, fFrz, eP, eN, gImm, pOp, pVar, pC, qCons, qNil, qStar, xCons, xNil, pTup, pLst, eTup, eLst, pFn, eFn, pCall, eCall, pIf, eIf, cBl, cTru, cAnd, cOr, cNot, kP, kNot, kBl, kTru, pAnd, pOr, pNot, pCh, eOp, oUsub, D.imm, D.imms, D.nof, D.nofs, D.frz, D.frzs, gdN, gdTup, gdNil, gdCons, Option.bind_some, Option.map_some, Option.join_some, List.getElem?_cons_zero, List.getElem?_cons_succ, List.set_cons_zero, List.set_cons_succ, ix0, ix1, ix2, ix3, oAdd_i, oSub_i, oMul_i, oDiv_i, oMod_i, oLt_i, oLe_i, oGt_i, oGe_i, oEq_i, oNe_i, oInt_i, oInt_b, oAbs_i, oMax2_i, oMin2_i, oIs_n, oIs_i, oIs_t, oIs_bb, tru_b, tru_i, N_look_at_needs, frzs_encQ, e]
end Mt
set_option Elab.async false
set_option linter.all false
set_option maxRecDepth 100000
set_option maxHeartbeats 1000000
/-! Lots as numbers: digits of two, powers of two. -/
namespace Mt
open DL Wk PySem L2
/-! ### numbers below 256 -/
def bitN (m i : Nat) : Bool := m / 2 ^ i % 2 == 1
theorem bit_off : ∀ m < 256, ∀ a < 8, bitN m a = true → 2 ^ a ≤ m ∧ ∀ i < 8, bitN (m - 2 ^ a) i = (bitN m i && !decide (i = a)) := by decide +kernel
theorem bit_zero : ∀ m < 256, (∀ i < 8, bitN m i = false) → m = 0 := by decide +kernel
theorem bit_hi : ∀ n ≤ 8, ∀ m < 2 ^ n, ∀ i < 8, n ≤ i → bitN m i = false := by decide +kernel
theorem bit_full : ∀ n ≤ 8, ∀ i < n, bitN (2 ^ n - 1) i = true := by decide +kernel
theorem bit_nil (i : Nat) : bitN 0 i = false := by simp [bitN]
def places (n m : Nat) : List Nat := (List.range n).filter (bitN m)
theorem mem_places {n m i : Nat} : i ∈ places n m ↔ i < n ∧ bitN m i = true := by simp [places]
theorem pow8 {n : Nat} (h : n ≤ 8) : 2 ^ n ≤ 256 := Nat.pow_le_pow_right (by decide) h
theorem places_ne {n m : Nat} (hn : n ≤ 8) (hm : m < 2 ^ n) (h0 : m ≠ 0) : places n m ≠ [] := by
  intro h
  refine h0 (bit_zero m (Nat.lt_of_lt_of_le hm (pow8 hn)) fun i hi => ?_)
  by_cases hin : i < n
  · cases e : bitN m i with
    | false => rfl
    | true =>
      have z := mem_places.mpr ⟨hin, e⟩
      rw [h] at z
      cases z
  · exact bit_hi n hn m hm i hi (by omega)
/-! ### powers of two, in a list -/
def pw (k : Nat) : List D := (List.range k).map fun j => D.int ((2 ^ j : Nat) : Int)
theorem pw_len (k : Nat) : (pw k).length = k := by simp [pw]
theorem pw_succ (k : Nat) : pw (k + 1) = pw k ++ [D.int ((2 ^ k : Nat) : Int)] := by simp [pw, List.range_succ]
theorem pw_get {k j : Nat} (h : j < k) {o : Bool} : oIx (.lst o (pw k)) (.int (j : Int)) = some (.int ((2 ^ j : Nat) : Int)) := by
  rw [ixl_nat (by rw [pw_len]; exact h)]
  simp [pw, h]
theorem ix_last {l : List D} {v : D} {o : Bool} : oIx (.lst o (l ++ [v])) (.int (-1)) = some v := atI_last l v
theorem imms_pw (k : Nat) : D.imms (pw k) = true := by
  have : ∀ l : List Nat, D.imms (l.map fun j => D.int ((2 ^ j : Nat) : Int)) = true := fun l => by
    induction l with
    | nil => rfl
    | cons a r ih => simp only [List.map_cons, D.imms, D.imm, ih, Bool.and_self]
  exact this _
theorem powers_run {d0 x : Option D} {rest : DS} {n : Nat} (hn : n ≤ 8) : ∃ x', forD (gdN 3) (fApp 2 (eP (gImm (pOp oMul (pC (.int 2)) (pOp oIx (pVar 2) (fun τ => ((pC (.int 1)) τ).bind oUsub)))))) (rgD 0 n) (d0 :: some (.int (n : Int)) :: some (.lst true [.int 1]) :: x :: rest) =
    some (.nx (d0 :: some (.int (n : Int)) :: some (.lst true (pw (n + 1))) :: x' :: rest)) := by
  obtain ⟨τ', e, x', rfl⟩ := for_run (g := gdN 3) (f := fApp 2 (eP (gImm (pOp oMul (pC (.int 2)) (pOp oIx (pVar 2) (fun τ => ((pC (.int 1)) τ).bind oUsub))))))
    (fun i τ => ∃ x, τ = d0 :: some (.int (n : Int)) :: some (.lst true (pw (i + 1))) :: x :: rest) (rgD 0 n) 0 (d0 :: some (.int (n : Int)) :: some (.lst true [.int 1]) :: x :: rest) ⟨x, rfl⟩ (by
    rintro i c _ hc ⟨x, rfl⟩
    rw [Nat.zero_add] at *
    have hi : i < n := by
      have := (List.getElem?_eq_some_iff.mp hc).1
      rwa [rgD_len] at this
    have w : cW 2 ((2 ^ i : Nat) : Int) = true := cW_of (a := 2) (b := 9) (by decide) (by rw [Int.natAbs_natCast]; exact Nat.pow_lt_pow_right (by decide) (by omega)) (by decide) (by decide) (by decide)
    have il : oIx (.lst true (pw (i + 1))) (.int (-1)) = some (.int ((2 ^ i : Nat) : Int)) := by rw [pw_succ]; exact ix_last
    have e2 : (2 : Int) * ((2 ^ i : Nat) : Int) = ((2 ^ (i + 1) : Nat) : Int) := by rw [Nat.pow_succ]; omega
    have hl : (pw (i + 1)).length < 16777216 := by rw [pw_len]; omega
    refine ⟨_, d0 :: some (.int (n : Int)) :: some (.lst true (pw (i + 1 + 1))) :: some c :: rest, rfl, .inl ?_, some c, rfl⟩
    simp only [startD, List.length_cons, List.length_nil, List.map_cons, List.map_nil, List.replicate_succ, List.replicate_zero, List.cons_append, List.nil_append, List.append_nil, fSeq, fNil, fRet, fSet, fExp, fIf, fIfE, fPar, fPar3, fAsg, fFrz, eP, eN, gImm, pOp, pVar, pC, qCons, qNil, qStar, xCons, xNil, pTup, pLst, eTup, eLst, pFn, eFn, pCall, eCall, pIf, eIf, cBl, cTru, cAnd, cOr, cNot, kP, kNot, kBl, kTru, pAnd, pOr, pNot, pCh, eOp, oUsub, D.imm, D.imms, D.nof, D.nofs, D.frz, D.frzs, gdN, gdTup, gdNil, gdCons, Option.bind_some, Option.map_some, Option.join_some, List.getElem?_cons_zero, List.getElem?_cons_succ, List.set_cons_zero, List.set_cons_succ, ix0, ix1, ix2, ix3, oAdd_i, oSub_i, oMul_i, oDiv_i, oMod_i, oLt_i, oLe_i, oGt_i, oGe_i, oEq_i, oNe_i, oInt_i, oInt_b, oAbs_i, oMax2_i, oMin2_i, oIs_n, oIs_i, oIs_t, oIs_bb, tru_b, tru_i, if_true, if_false, Bool.false_eq_true, Bool.true_and, Bool.and_true, true_or, or_true, true_and, and_true, reduceIte, decide_true, decide_false, Bool.not_true, Bool.not_false, Nat.reduceAdd, Nat.reduceSub, Nat.reduceLeDiff, Nat.zero_add, Nat.le_refl, and_self, or_self, fApp, il, oMul_i w, e2, hl, ← pw_succ])
  rw [rgD_len, Nat.zero_add] at e
  exact ⟨x', e⟩
/-! ### the places of a lot, as the text finds them -/
theorem bit_op {m i : Nat} (hi : i ≤ 8) : oDiv (.int (m : Int)) (.int ((2 ^ i : Nat) : Int)) = some (.int ((m / 2 ^ i : Nat) : Int)) ∧ oMod (.int ((m / 2 ^ i : Nat) : Int)) (.int 2) = some (.int ((m / 2 ^ i % 2 : Nat) : Int)) := by
  have hp : 0 < 2 ^ i := Nat.pow_pos (by decide)
  constructor
  · rw [oDiv_i (cD_of (by omega) (by rw [Int.natAbs_natCast]; exact Nat.pow_lt_pow_right (by decide) (by omega)))]
    rw [Int.natCast_ediv]
  · rw [oMod_i (by decide), Int.fmod_eq_emod_of_nonneg _ (by decide)]
    rfl
theorem bit_dec {m i : Nat} : decide (((m / 2 ^ i % 2 : Nat) : Int) = 1) = bitN m i := by
  unfold bitN
  generalize m / 2 ^ i % 2 = k
  rw [Bool.eq_iff_iff]
  simp only [decide_eq_true_eq, beq_iff_eq]
  omega
/-! ### what a lot comes to -/
def qAt (qs : List Rat) (i : Nat) : Rat := qs.getD i 0
def S (qs : List Rat) (m : Nat) : Rat := qsum ((places qs.length m).map (qAt qs))
theorem qsum_off {f : Nat → Rat} {a : Nat} : ∀ {l : List Nat}, l.Nodup → a ∈ l → qsum (l.map f) = qsum ((l.filter fun i => !decide (i = a)).map f) + f a
  | [], _, h => by cases h
  | x :: l, nd, h => by
    obtain ⟨n1, n2⟩ := List.nodup_cons.mp nd
    by_cases e : x = a
    · subst e
      have : (l.filter fun i => !decide (i = x)) = l := List.filter_eq_self.mpr fun y hy => by
        have : y ≠ x := fun w => n1 (w ▸ hy)
        simp [this]
      rw [List.filter_cons_of_neg (by simp), this, List.map_cons, qsum, Rat.add_comm]
    · rw [List.filter_cons_of_pos (by simp [e]), List.map_cons, List.map_cons, qsum, qsum, qsum_off n2 ((List.mem_cons.mp h).resolve_left fun w => e w.symm), Rat.add_assoc]
theorem places_off {n m a : Nat} (hn : n ≤ 8) (hm : m < 2 ^ n) (ha : a ∈ places n m) : places n (m - 2 ^ a) = (places n m).filter fun i => !decide (i = a) := by
  obtain ⟨h1, h2⟩ := mem_places.mp ha
  unfold places
  rw [List.filter_filter]
  refine List.filter_congr fun i hi => ?_
  have hi' : i < n := List.mem_range.mp hi
  rw [(bit_off m (Nat.lt_of_lt_of_le hm (pow8 hn)) a (by omega) h2).2 i (by omega), Bool.and_comm]
theorem places_nodup (n m : Nat) : (places n m).Nodup := (List.nodup_range).filter _
theorem S_off {qs : List Rat} {m a : Nat} (hn : qs.length ≤ 8) (hm : m < 2 ^ qs.length) (ha : a ∈ places qs.length m) : S qs m = S qs (m - 2 ^ a) + qAt qs a := by
  unfold S
  rw [places_off hn hm ha, qsum_off (places_nodup _ _) ha]
theorem S_zero (qs : List Rat) : S qs 0 = 0 := by
  have : places qs.length 0 = [] := List.filter_eq_nil_iff.mpr fun i _ => by simp [bit_nil]
  unfold S
  rw [this]
  rfl
theorem off_lt {n m a : Nat} (hn : n ≤ 8) (hm : m < 2 ^ n) (ha : a ∈ places n m) : 2 ^ a ≤ m ∧ m - 2 ^ a < m := by
  obtain ⟨h1, h2⟩ := mem_places.mp ha
  have h := (bit_off m (Nat.lt_of_lt_of_le hm (pow8 hn)) a (by omega) h2).1
  have hp : 0 < 2 ^ a := Nat.pow_pos (by decide)
  omega
theorem qAt_mem {qs : List Rat} {i : Nat} (h : i < qs.length) : qAt qs i ∈ qs := by
  unfold qAt
  rw [List.getD_eq_getElem?_getD, List.getElem?_eq_getElem h]
  exact List.getElem_mem h
theorem qsum_sub {f : Nat → Rat} {l l' : List Nat} (h : l.Sublist l') (h0 : ∀ i ∈ l', 0 ≤ f i) : qsum (l.map f) ≤ qsum (l'.map f) := by
  induction h with
  | slnil => exact Rat.le_refl
  | cons a h ih => exact Rat.le_trans (ih fun i hi => h0 i (List.mem_cons_of_mem _ hi)) (le_add' (h0 a List.mem_cons_self))
  | cons_cons a h ih => exact (Rat.add_le_add_left).mpr (ih fun i hi => h0 i (List.mem_cons_of_mem _ hi))
theorem map_qAt (qs : List Rat) : (List.range qs.length).map (qAt qs) = qs := by
  refine List.ext_getElem (by simp) fun i h1 h2 => ?_
  simp [qAt, h2]
theorem S_twl {B : Nat} {qs : List Rat} (h : Twl B qs) (m : Nat) : Tw (S qs m) ∧ 0 ≤ S qs m ∧ S qs m ≤ (B : Rat) := by
  have hp : ∀ i ∈ places qs.length m, i < qs.length := fun i hi => (mem_places.mp hi).1
  refine ⟨qsum_tw fun q hq => ?_, qsum_nonneg fun q hq => ?_, ?_⟩
  · obtain ⟨i, hi, rfl⟩ := List.mem_map.mp hq
    exact h.tw _ (qAt_mem (hp i hi))
  · obtain ⟨i, hi, rfl⟩ := List.mem_map.mp hq
    exact h.pos _ (qAt_mem (hp i hi))
  · refine Rat.le_trans (qsum_sub List.filter_sublist fun i hi => h.pos _ (qAt_mem (List.mem_range.mp hi))) ?_
    rw [map_qAt]
    exact h.le
theorem S_sm {qs : List Rat} (h : Twl 60 qs) (m : Nat) : Sm (S qs m) := by
  obtain ⟨a, b, c⟩ := S_twl h m
  exact (a.fr6 b c (by decide)).sm
theorem ix_needs {qs : List Rat} {i : Nat} (h : i < qs.length) : oIx (.tup (qs.map encQ)) (.int (i : Int)) = some (encQ (qAt qs i)) := by
  rw [ix_nat (by simpa using h)]
  simp [qAt, h]
theorem ixl_map {α : Type} {l : List α} {f : α → D} {i : Nat} {o : Bool} {x : α} (h : l[i]? = some x) : oIx (.lst o (l.map f)) (.int (i : Int)) = some (f x) := by
  rw [ixl_nat (by simpa using (List.getElem?_eq_some_iff.mp h).1), List.getElem?_map, h]
  rfl
end Mt
set_option Elab.async false
set_option linter.all false
set_option maxRecDepth 100000
set_option maxHeartbeats 1000000
/-! The program's table of lots. -/
namespace Mt
open DL Wk PySem L2
def encB : Nat × Option Nat → D
  | (c, none) => .tup [.int (c : Int), .non]
  | (c, some l) => .tup [.int (c : Int), .int (l : Int)]
def cOf (bs : List (Nat × Option Nat)) (m : Nat) : Nat := (bs.getD m (0, none)).1
def lOf (bs : List (Nat × Option Nat)) (m : Nat) : Nat := ((bs.getD m (0, none)).2).getD 0
structure BestAt (qs : List Rat) (bs : List (Nat × Option Nat)) (m : Nat) : Prop where
  ent : bs[m]? = some (cOf bs m, some (lOf bs m))
  mem : lOf bs m ∈ places qs.length m
  val : cOf bs m = cOf bs (m - 2 ^ lOf bs m) + if Wh (S qs m) then 1 else 0
  mx : ∀ a ∈ places qs.length m, cOf bs (m - 2 ^ a) ≤ cOf bs (m - 2 ^ lOf bs m)
structure BestOk (qs : List Rat) (bs : List (Nat × Option Nat)) : Prop where
  zero : bs[0]? = some (0, none)
  at_ : ∀ m, 0 < m → m < bs.length → BestAt qs bs m
theorem cOf_app {bs cs : List (Nat × Option Nat)} {m : Nat} (h : m < bs.length) : cOf (bs ++ cs) m = cOf bs m := by
  simp [cOf, List.getElem?_append_left h]
theorem lOf_app {bs cs : List (Nat × Option Nat)} {m : Nat} (h : m < bs.length) : lOf (bs ++ cs) m = lOf bs m := by
  simp [lOf, List.getElem?_append_left h]
theorem ent_of {bs : List (Nat × Option Nat)} {m : Nat} (h : m < bs.length) : ∃ o, bs[m]? = some (cOf bs m, o) := by
  refine ⟨bs[m].2, ?_⟩
  simp [cOf, h]
theorem encB0 {c : Nat} {o : Option Nat} : oIx (encB (c, o)) (.int 0) = some (.int (c : Int)) := by
  cases o <;> exact ix0
theorem ix_best {bs : List (Nat × Option Nat)} {m : Nat} {o : Bool} (h : m < bs.length) : ((oIx (.lst o (bs.map encB)) (.int (m : Int))).bind fun x => oIx x (.int 0)) = some (.int (cOf bs m : Int)) := by
  obtain ⟨o', e⟩ := ent_of h
  rw [ixl_map e, Option.bind_some, encB0]
theorem cast_off {m a : Nat} (h : 2 ^ a ≤ m) : (m : Int) - ((2 ^ a : Nat) : Int) = ((m - 2 ^ a : Nat) : Int) := by omega
def tPl : DS → Option Bool := cBl (pOp oEq (pOp oMod (pOp oDiv (pVar 6) (pOp oIx (pVar 2) (pVar 9))) (pC (.int 2))) (pC (.int 1)))
theorem lc_places {n m : Nat} {t0 t1 t3 t4 t5 t7 t8 t10 t11 : Option D} (hn : n ≤ 8) : lcD (gdN 9) tPl (gImm (pVar 9)) [t0, t1, some (.lst true (pw (n + 1))), t3, t4, t5, some (.int (m : Int)), t7, t8, none, t10, t11] (rgD 0 n) = some ((places n m).map fun i : Nat => D.int (i : Int)) := by
  have z := lc_run (g := gdN 9) (c := tPl) (p := gImm (pVar 9)) (τ := [t0, t1, some (.lst true (pw (n + 1))), t3, t4, t5, some (.int (m : Int)), t7, t8, none, t10, t11]) (fun i : Nat => D.int (0 + (i : Int))) (bitN m) (fun i : Nat => D.int (i : Int)) (List.range n) fun i hi => by
    have hin : i < n := List.mem_range.mp hi
    obtain ⟨b1, b2⟩ := bit_op (m := m) (i := i) (by omega)
    refine ⟨_, rfl, ?_, fun _ => ?_⟩
    · unfold tPl
      rw [Int.zero_add]
      simp only [startD, List.length_cons, List.length_nil, List.map_cons, List.map_nil, List.replicate_succ, List.replicate_zero, List.cons_append, List.nil_append, List.append_nil, fSeq, fNil, fRet, fSet, fExp, fIf, fIfE, fPar, fPar3, fAsg, fFrz, eP, eN, gImm, pOp, pVar, pC, qCons, qNil, qStar, xCons, xNil, pTup, pLst, eTup, eLst, pFn, eFn, pCall, eCall, pIf, eIf, cBl, cTru, cAnd, cOr, cNot, kP, kNot, kBl, kTru, pAnd, pOr, pNot, pCh, eOp, oUsub, D.imm, D.imms, D.nof, D.nofs, D.frz, D.frzs, gdN, gdTup, gdNil, gdCons, Option.bind_some, Option.map_some, Option.join_some, List.getElem?_cons_zero, List.getElem?_cons_succ, List.set_cons_zero, List.set_cons_succ, ix0, ix1, ix2, ix3, oAdd_i, oSub_i, oMul_i, oDiv_i, oMod_i, oLt_i, oLe_i, oGt_i, oGe_i, oEq_i, oNe_i, oInt_i, oInt_b, oAbs_i, oMax2_i, oMin2_i, oIs_n, oIs_i, oIs_t, oIs_bb, tru_b, tru_i, if_true, if_false, Bool.false_eq_true, Bool.true_and, Bool.and_true, true_or, or_true, true_and, and_true, reduceIte, decide_true, decide_false, Bool.not_true, Bool.not_false, Nat.reduceAdd, Nat.reduceSub, Nat.reduceLeDiff, Nat.zero_add, Nat.le_refl, and_self, or_self, pw_get (show i < n + 1 by omega), b1, b2, bit_dec]
    · rw [Int.zero_add]
      simp only [startD, List.length_cons, List.length_nil, List.map_cons, List.map_nil, List.replicate_succ, List.replicate_zero, List.cons_append, List.nil_append, List.append_nil, fSeq, fNil, fRet, fSet, fExp, fIf, fIfE, fPar, fPar3, fAsg, fFrz, eP, eN, gImm, pOp, pVar, pC, qCons, qNil, qStar, xCons, xNil, pTup, pLst, eTup, eLst, pFn, eFn, pCall, eCall, pIf, eIf, cBl, cTru, cAnd, cOr, cNot, kP, kNot, kBl, kTru, pAnd, pOr, pNot, pCh, eOp, oUsub, D.imm, D.imms, D.nof, D.nofs, D.frz, D.frzs, gdN, gdTup, gdNil, gdCons, Option.bind_some, Option.map_some, Option.join_some, List.getElem?_cons_zero, List.getElem?_cons_succ, List.set_cons_zero, List.set_cons_succ, ix0, ix1, ix2, ix3, oAdd_i, oSub_i, oMul_i, oDiv_i, oMod_i, oLt_i, oLe_i, oGt_i, oGe_i, oEq_i, oNe_i, oInt_i, oInt_b, oAbs_i, oMax2_i, oMin2_i, oIs_n, oIs_i, oIs_t, oIs_bb, tru_b, tru_i, if_true, if_false, Bool.false_eq_true, Bool.true_and, Bool.and_true, true_or, or_true, true_and, and_true, reduceIte, decide_true, decide_false, Bool.not_true, Bool.not_false, Nat.reduceAdd, Nat.reduceSub, Nat.reduceLeDiff, Nat.zero_add, Nat.le_refl, and_self, or_self]
  exact z
def fPick : DS → Option Out := fIf (cBl (pOp oGt (pOp oIx (pOp oIx (pVar 5) (pOp oSub (pVar 6) (pOp oIx (pVar 2) (pVar 9)))) (pC (.int 0))) (pOp oIx (pOp oIx (pVar 5) (pOp oSub (pVar 6) (pOp oIx (pVar 2) (pVar 8)))) (pC (.int 0))))) (fSet 8 (eN 9)) fNil
theorem pick_run {qs : List Rat} {bs : List (Nat × Option Nat)} {m l0 : Nat} {t0 t1 t3 t4 t7 t9 t10 t11 : Option D} (hn : qs.length ≤ 8) (hm : m < 2 ^ qs.length) (hb : bs.length = m) (h0 : l0 ∈ places qs.length m) :
    ∃ (l : Nat) (x : Option D), forD (gdN 9) fPick ((places qs.length m).map fun i : Nat => D.int (i : Int)) [t0, t1, some (.lst true (pw (qs.length + 1))), t3, t4, some (.lst true (bs.map encB)), some (.int (m : Int)), t7, some (.int (l0 : Int)), t9, t10, t11] =
      some (.nx [t0, t1, some (.lst true (pw (qs.length + 1))), t3, t4, some (.lst true (bs.map encB)), some (.int (m : Int)), t7, some (.int (l : Int)), x, t10, t11]) ∧ l ∈ places qs.length m ∧ ∀ a ∈ places qs.length m, cOf bs (m - 2 ^ a) ≤ cOf bs (m - 2 ^ l) := by
  obtain ⟨τ', e, l, x, rfl, hl, hx⟩ := for_run (g := gdN 9) (f := fPick) (fun i τ => ∃ (l : Nat) (x : Option D), τ = [t0, t1, some (.lst true (pw (qs.length + 1))), t3, t4, some (.lst true (bs.map encB)), some (.int (m : Int)), t7, some (.int (l : Int)), x, t10, t11] ∧ l ∈ places qs.length m ∧ ∀ a ∈ (places qs.length m).take i, cOf bs (m - 2 ^ a) ≤ cOf bs (m - 2 ^ l))
    ((places qs.length m).map fun i : Nat => D.int (i : Int)) 0 [t0, t1, some (.lst true (pw (qs.length + 1))), t3, t4, some (.lst true (bs.map encB)), some (.int (m : Int)), t7, some (.int (l0 : Int)), t9, t10, t11] ⟨l0, t9, rfl, h0, fun a ha => by simp at ha⟩ (by
    rintro i c _ hc ⟨l, x, rfl, hl, hx⟩
    rw [Nat.zero_add] at *
    rw [List.getElem?_map] at hc
    obtain ⟨a, ha, rfl⟩ := Option.map_eq_some_iff.mp hc
    have am := List.mem_of_getElem? ha
    obtain ⟨o1, o2⟩ := off_lt hn hm am
    obtain ⟨o3, o4⟩ := off_lt hn hm hl
    have an := (mem_places.mp am).1
    have ln := (mem_places.mp hl).1
    have b1 := ix_best (bs := bs) (m := m - 2 ^ a) (o := true) (by omega)
    have b2 := ix_best (bs := bs) (m := m - 2 ^ l) (o := true) (by omega)
    have tk : (places qs.length m).take (i + 1) = (places qs.length m).take i ++ [a] := by rw [List.take_add_one, ha]; rfl
    have ev : ∀ t9 : Option D, cBl (pOp oGt (pOp oIx (pOp oIx (pVar 5) (pOp oSub (pVar 6) (pOp oIx (pVar 2) (pVar 9)))) (pC (.int 0))) (pOp oIx (pOp oIx (pVar 5) (pOp oSub (pVar 6) (pOp oIx (pVar 2) (pVar 8)))) (pC (.int 0)))) [t0, t1, some (.lst true (pw (qs.length + 1))), t3, t4, some (.lst true (bs.map encB)), some (.int (m : Int)), t7, some (.int (l : Int)), some (.int (a : Int)), t10, t11] = some (decide (cOf bs (m - 2 ^ l) < cOf bs (m - 2 ^ a))) := fun _ => by
      have d1 : ∀ p q : Nat, decide ((p : Int) < (q : Int)) = decide (p < q) := fun p q => by simp
      simp only [startD, List.length_cons, List.length_nil, List.map_cons, List.map_nil, List.replicate_succ, List.replicate_zero, List.cons_append, List.nil_append, List.append_nil, fSeq, fNil, fRet, fSet, fExp, fIf, fIfE, fPar, fPar3, fAsg, fFrz, eP, eN, gImm, pOp, pVar, pC, qCons, qNil, qStar, xCons, xNil, pTup, pLst, eTup, eLst, pFn, eFn, pCall, eCall, pIf, eIf, cBl, cTru, cAnd, cOr, cNot, kP, kNot, kBl, kTru, pAnd, pOr, pNot, pCh, eOp, oUsub, D.imm, D.imms, D.nof, D.nofs, D.frz, D.frzs, gdN, gdTup, gdNil, gdCons, Option.bind_some, Option.map_some, Option.join_some, List.getElem?_cons_zero, List.getElem?_cons_succ, List.set_cons_zero, List.set_cons_succ, ix0, ix1, ix2, ix3, oAdd_i, oSub_i, oMul_i, oDiv_i, oMod_i, oLt_i, oLe_i, oGt_i, oGe_i, oEq_i, oNe_i, oInt_i, oInt_b, oAbs_i, oMax2_i, oMin2_i, oIs_n, oIs_i, oIs_t, oIs_bb, tru_b, tru_i, if_true, if_false, Bool.false_eq_true, Bool.true_and, Bool.and_true, true_or, or_true, true_and, and_true, reduceIte, decide_true, decide_false, Bool.not_true, Bool.not_false, Nat.reduceAdd, Nat.reduceSub, Nat.reduceLeDiff, Nat.zero_add, Nat.le_refl, and_self, or_self, pw_get (show a < qs.length + 1 by omega), pw_get (show l < qs.length + 1 by omega), cast_off o1, cast_off o3, b1, b2, d1]
    by_cases hc : cOf bs (m - 2 ^ l) < cOf bs (m - 2 ^ a)
    · refine ⟨_, [t0, t1, some (.lst true (pw (qs.length + 1))), t3, t4, some (.lst true (bs.map encB)), some (.int (m : Int)), t7, some (.int (a : Int)), some (.int (a : Int)), t10, t11], rfl, .inl ?_, a, _, rfl, am, fun b hb => ?_⟩
      · have e1 := ev none
        rw [decide_eq_true hc] at e1
        unfold fPick fIf
        simp only [gdN, List.set_cons_zero, List.set_cons_succ]
        rw [e1]
        simp only [startD, List.length_cons, List.length_nil, List.map_cons, List.map_nil, List.replicate_succ, List.replicate_zero, List.cons_append, List.nil_append, List.append_nil, fSeq, fNil, fRet, fSet, fExp, fIf, fIfE, fPar, fPar3, fAsg, fFrz, eP, eN, gImm, pOp, pVar, pC, qCons, qNil, qStar, xCons, xNil, pTup, pLst, eTup, eLst, pFn, eFn, pCall, eCall, pIf, eIf, cBl, cTru, cAnd, cOr, cNot, kP, kNot, kBl, kTru, pAnd, pOr, pNot, pCh, eOp, oUsub, D.imm, D.imms, D.nof, D.nofs, D.frz, D.frzs, gdN, gdTup, gdNil, gdCons, Option.bind_some, Option.map_some, Option.join_some, List.getElem?_cons_zero, List.getElem?_cons_succ, List.set_cons_zero, List.set_cons_succ, ix0, ix1, ix2, ix3, oAdd_i, oSub_i, oMul_i, oDiv_i, oMod_i, oLt_i, oLe_i, oGt_i, oGe_i, oEq_i, oNe_i, oInt_i, oInt_b, oAbs_i, oMax2_i, oMin2_i, oIs_n, oIs_i, oIs_t, oIs_bb, tru_b, tru_i, if_true, if_false, Bool.false_eq_true, Bool.true_and, Bool.and_true, true_or, or_true, true_and, and_true, reduceIte, decide_true, decide_false, Bool.not_true, Bool.not_false, Nat.reduceAdd, Nat.reduceSub, Nat.reduceLeDiff, Nat.zero_add, Nat.le_refl, and_self, or_self]
      · rw [tk] at hb
        rcases List.mem_append.mp hb with hb | hb
        · have := hx b hb; omega
        · rw [List.mem_singleton.mp hb]; exact Nat.le_refl _
    · refine ⟨_, [t0, t1, some (.lst true (pw (qs.length + 1))), t3, t4, some (.lst true (bs.map encB)), some (.int (m : Int)), t7, some (.int (l : Int)), some (.int (a : Int)), t10, t11], rfl, .inl ?_, l, _, rfl, hl, fun b hb => ?_⟩
      · have e1 := ev none
        rw [decide_eq_false hc] at e1
        unfold fPick fIf
        simp only [gdN, List.set_cons_zero, List.set_cons_succ]
        rw [e1]
        simp only [startD, List.length_cons, List.length_nil, List.map_cons, List.map_nil, List.replicate_succ, List.replicate_zero, List.cons_append, List.nil_append, List.append_nil, fSeq, fNil, fRet, fSet, fExp, fIf, fIfE, fPar, fPar3, fAsg, fFrz, eP, eN, gImm, pOp, pVar, pC, qCons, qNil, qStar, xCons, xNil, pTup, pLst, eTup, eLst, pFn, eFn, pCall, eCall, pIf, eIf, cBl, cTru, cAnd, cOr, cNot, kP, kNot, kBl, kTru, pAnd, pOr, pNot, pCh, eOp, oUsub, D.imm, D.imms, D.nof, D.nofs, D.frz, D.frzs, gdN, gdTup, gdNil, gdCons, Option.bind_some, Option.map_some, Option.join_some, List.getElem?_cons_zero, List.getElem?_cons_succ, List.set_cons_zero, List.set_cons_succ, ix0, ix1, ix2, ix3, oAdd_i, oSub_i, oMul_i, oDiv_i, oMod_i, oLt_i, oLe_i, oGt_i, oGe_i, oEq_i, oNe_i, oInt_i, oInt_b, oAbs_i, oMax2_i, oMin2_i, oIs_n, oIs_i, oIs_t, oIs_bb, tru_b, tru_i, if_true, if_false, Bool.false_eq_true, Bool.true_and, Bool.and_true, true_or, or_true, true_and, and_true, reduceIte, decide_true, decide_false, Bool.not_true, Bool.not_false, Nat.reduceAdd, Nat.reduceSub, Nat.reduceLeDiff, Nat.zero_add, Nat.le_refl, and_self, or_self]
      · rw [tk] at hb
        rcases List.mem_append.mp hb with hb | hb
        · exact hx b hb
        · rw [List.mem_singleton.mp hb]; omega)
  rw [List.length_map, Nat.zero_add, List.take_length] at hx
  exact ⟨l, x, e, hl, hx⟩
end Mt
set_option Elab.async false
set_option linter.all false
set_option maxRecDepth 100000
set_option maxHeartbeats 1000000
/-! The program's table of lots: one turn, all turns. -/
namespace Mt
open DL Wk PySem L2
noncomputable def fLots : DS → Option Out := (fSeq (fSet 7 (eP (pLc (iRg1 (qCons (pVar 1) qNil)) (gdN 9) tPl (gImm (pVar 9)) [9])))
  (fFrz 7 (fSeq (fApp 4 (eP (pFn g_plus (qCons (pOp oIx (pVar 4) (pOp oSub (pVar 6) (pOp oIx (pVar 2) (pOp oIx (pVar 7) (pC (.int 0)))))) (qCons (pOp oIx (pVar 0) (pOp oIx (pVar 7) (pC (.int 0)))) qNil)))))
  (fSeq (fSet 8 (eP (gImm (pOp oIx (pVar 7) (pC (.int 0))))))
  (fSeq (fFor (iSeq (gImm (pVar 7))) (gdN 9) fPick)
  (fApp 5 (eP (gImm (pTup (qCons (pOp oAdd (pOp oIx (pOp oIx (pVar 5) (pOp oSub (pVar 6) (pOp oIx (pVar 2) (pVar 8)))) (pC (.int 0))) (pCall oInt (qCons (pOp oEq (pOp oIx (pOp oIx (pVar 4) (pVar 6)) (pC (.int 1))) (pC (.int 1))) qNil))) (qCons (pVar 8) qNil)))))))))))
def sums (qs : List Rat) (k : Nat) : List D := (List.range k).map fun m => encQ (S qs m)
theorem sums_succ (qs : List Rat) (k : Nat) : sums qs (k + 1) = sums qs k ++ [encQ (S qs k)] := by simp [sums, List.range_succ]
theorem sums_len (qs : List Rat) (k : Nat) : (sums qs k).length = k := by simp [sums]
theorem sums_get {qs : List Rat} {k m : Nat} {o : Bool} (h : m < k) : oIx (.lst o (sums qs k)) (.int (m : Int)) = some (encQ (S qs m)) := ixl_map (by simp [h])
def lotD (l : List Nat) : List D := l.map fun i : Nat => D.int (i : Int)
theorem imms_lotD (l : List Nat) : D.imms (lotD l) = true := by
  unfold lotD
  induction l with
  | nil => rfl
  | cons a r ih => simp only [List.map_cons, D.imms, D.imm, ih, Bool.and_self]
theorem nof_lotD (l : List Nat) : (D.lst true (lotD l)).nof = true := by
  have : D.nofs (lotD l) = true := by
    unfold lotD
    induction l with
    | nil => rfl
    | cons a r ih => simp only [List.map_cons, D.nofs, D.nof, ih, Bool.and_self]
  simp only [D.nof, this, Bool.and_self]
theorem frzs_lotD (l : List Nat) : D.frzs (lotD l) = lotD l := by
  unfold lotD
  induction l with
  | nil => rfl
  | cons a r ih => simp only [List.map_cons, D.frzs, D.frz, ih]
theorem den_enc {q : Rat} : oIx (encQ q) (.int 1) = some (.int (q.den : Int)) := ix1
theorem den_one {q : Rat} : decide ((q.den : Int) = 1) = decide (Wh q) := by
  exact decide_eq_decide.mpr ⟨fun h => by unfold Wh; omega, fun h => by unfold Wh at h; omega⟩
theorem rg_n {n : Nat} (hn : n ≤ 8) : okR (n : Int) = true ∧ ((n : Int)).toNat = n := by
  constructor
  · unfold okR
    simp only [Bool.and_eq_true, decide_eq_true_eq]
    omega
  · rfl
theorem lots_step {qs : List Rat} {bs : List (Nat × Option Nat)} {m : Nat} {t3 t7 t8 t9 : Option D} (h : Twl 60 qs) (hn : qs.length ≤ 8) (hm : m < 2 ^ qs.length) (hm0 : 0 < m) (hb : bs.length = m) :
    ∃ (l : Nat) (x7 x9 : Option D), fLots [some (.tup (qs.map encQ)), some (.int (qs.length : Int)), some (.lst true (pw (qs.length + 1))), t3, some (.lst true (sums qs m)), some (.lst true (bs.map encB)), some (.int (m : Int)), t7, t8, t9, none, none] =
      some (.nx [some (.tup (qs.map encQ)), some (.int (qs.length : Int)), some (.lst true (pw (qs.length + 1))), t3, some (.lst true (sums qs (m + 1))), some (.lst true ((bs ++ [(cOf bs (m - 2 ^ l) + (if Wh (S qs m) then 1 else 0), some l)]).map encB)), some (.int (m : Int)), x7, some (.int (l : Int)), x9, none, none]) ∧
      l ∈ places qs.length m ∧ ∀ a ∈ places qs.length m, cOf bs (m - 2 ^ a) ≤ cOf bs (m - 2 ^ l) := by
  obtain ⟨a, r, ea⟩ := List.exists_cons_of_ne_nil (places_ne hn hm (by omega))
  have am : a ∈ places qs.length m := by rw [ea]; exact List.mem_cons_self
  obtain ⟨l, x, e, hl, hx⟩ := pick_run (t0 := some (.tup (qs.map encQ))) (t1 := some (.int (qs.length : Int))) (t3 := t3) (t4 := some (.lst true (sums qs m ++ [encQ (S qs m)]))) (t7 := some (.lst false (lotD (places qs.length m)))) (t9 := t9) (t10 := none) (t11 := none) hn hm hb am
  refine ⟨l, some (.lst false (lotD (places qs.length m))), x, ?_, hl, hx⟩
  obtain ⟨o1, o2⟩ := off_lt hn hm am
  obtain ⟨o3, o4⟩ := off_lt hn hm hl
  have an := (mem_places.mp am).1
  have ln := (mem_places.mp hl).1
  obtain ⟨r1, r2⟩ := rg_n hn
  have lp := lc_places (n := qs.length) (m := m) (t0 := some (.tup (qs.map encQ))) (t1 := some (.int (qs.length : Int))) (t3 := t3) (t4 := some (.lst true (sums qs m))) (t5 := some (.lst true (bs.map encB))) (t7 := t7) (t8 := t8) (t10 := none) (t11 := none) hn
  have hd : oIx (.lst false (lotD (places qs.length m))) (.int 0) = some (.int (a : Int)) := by
    have z := ixl_map (o := false) (l := places qs.length m) (f := fun i : Nat => D.int (i : Int)) (i := 0) (x := a) (by rw [ea]; rfl)
    exact z
  have hs1 := sums_get (qs := qs) (o := true) (show m - 2 ^ a < m by omega)
  have hs2 := sums_get (qs := qs) (o := true) (show m < m + 1 by omega)
  have hp := plus_spec (S_sm h (m - 2 ^ a)) ((h.sm (by decide)).1 _ (qAt_mem an))
  rw [← S_off hn hm am] at hp
  have b2 := ix_best (bs := bs) (m := m - 2 ^ l) (o := true) (by omega)
  have lz : (places qs.length m).length ≤ 16777216 := by
    have := List.length_filter_le (bitN m) (List.range qs.length)
    rw [List.length_range] at this
    unfold places
    omega
  have z1 : (sums qs m).length < 16777216 := by rw [sums_len]; have := pow8 hn; omega
  have z2 : (bs.map encB).length < 16777216 := by rw [List.length_map]; have := pow8 hn; omega
  have rl : (rgD 0 qs.length).length ≤ 16777216 := by rw [rgD_len]; omega
  have enc : encB (cOf bs (m - 2 ^ l) + (if Wh (S qs m) then 1 else 0), some l) = .tup [.int ((cOf bs (m - 2 ^ l) : Int) + if decide (Wh (S qs m)) = true then 1 else 0), .int (l : Int)] := by
    unfold encB
    by_cases w : Wh (S qs m) <;> simp [w]
  have pr : oIx (.tup (qs.map encQ)) (.int (a : Int)) = some (encQ (qAt qs a)) := ix_needs an
  have fz : (D.lst true (lotD (places qs.length m))).frz = .lst false (lotD (places qs.length m)) := by simp only [D.frz, frzs_lotD]
  unfold fLots
  refine (seq_nx (set_run (d := .lst true (lotD (places qs.length m))) (eP_run ?h1 (.inr ?h2)))).trans ?_
  case h1 => exact lc_eq (rg1_eq (n := qs.length) rfl (by omega)) rl rfl lp
  case h2 => exact nof_lotD _
  refine (frz_run' (d := .lst true (lotD (places qs.length m))) rfl fz).trans ?_
  refine (seq_nx (app_run (ds0 := sums qs m) (ds := sums qs m) (d := encQ (S qs m)) rfl (eP_run ?h3 (.inl (imm_encQ _))) rfl z1)).trans ?_
  case h3 =>
    simp only [startD, List.length_cons, List.length_nil, List.map_cons, List.map_nil, List.replicate_succ, List.replicate_zero, List.cons_append, List.nil_append, List.append_nil, fSeq, fNil, fRet, fSet, fExp, fIf, fIfE, fPar, fPar3, fAsg, fFrz, eP, eN, gImm, pOp, pVar, pC, qCons, qNil, qStar, xCons, xNil, pTup, pLst, eTup, eLst, pFn, eFn, pCall, eCall, pIf, eIf, cBl, cTru, cAnd, cOr, cNot, kP, kNot, kBl, kTru, pAnd, pOr, pNot, pCh, eOp, oUsub, D.imm, D.imms, D.nof, D.nofs, D.frz, D.frzs, gdN, gdTup, gdNil, gdCons, Option.bind_some, Option.map_some, Option.join_some, List.getElem?_cons_zero, List.getElem?_cons_succ, List.set_cons_zero, List.set_cons_succ, ix0, ix1, ix2, ix3, oAdd_i, oSub_i, oMul_i, oDiv_i, oMod_i, oLt_i, oLe_i, oGt_i, oGe_i, oEq_i, oNe_i, oInt_i, oInt_b, oAbs_i, oMax2_i, oMin2_i, oIs_n, oIs_i, oIs_t, oIs_bb, tru_b, tru_i, if_true, if_false, Bool.false_eq_true, Bool.true_and, Bool.and_true, true_or, or_true, true_and, and_true, reduceIte, decide_true, decide_false, Bool.not_true, Bool.not_false, Nat.reduceAdd, Nat.reduceSub, Nat.reduceLeDiff, Nat.zero_add, Nat.le_refl, and_self, or_self, frz_encQ, hd, pw_get (show a < qs.length + 1 by omega), cast_off o1, hs1, pr, hp, nof_encQ]
  refine (seq_nx (set_run (d := .int (a : Int)) (eP_run (gI_run (op_run rfl rfl hd) rfl) (.inl rfl)))).trans ?_
  refine (seq_nx ((for_eq (ds := lotD (places qs.length m)) ?h5).trans e)).trans ?_
  case h5 =>
    simp only [iSeq, startD, List.length_cons, List.length_nil, List.map_cons, List.map_nil, List.replicate_succ, List.replicate_zero, List.cons_append, List.nil_append, List.append_nil, fSeq, fNil, fRet, fSet, fExp, fIf, fIfE, fPar, fPar3, fAsg, fFrz, eP, eN, gImm, pOp, pVar, pC, qCons, qNil, qStar, xCons, xNil, pTup, pLst, eTup, eLst, pFn, eFn, pCall, eCall, pIf, eIf, cBl, cTru, cAnd, cOr, cNot, kP, kNot, kBl, kTru, pAnd, pOr, pNot, pCh, eOp, oUsub, D.imm, D.imms, D.nof, D.nofs, D.frz, D.frzs, gdN, gdTup, gdNil, gdCons, Option.bind_some, Option.map_some, Option.join_some, List.getElem?_cons_zero, List.getElem?_cons_succ, List.set_cons_zero, List.set_cons_succ, ix0, ix1, ix2, ix3, oAdd_i, oSub_i, oMul_i, oDiv_i, oMod_i, oLt_i, oLe_i, oGt_i, oGe_i, oEq_i, oNe_i, oInt_i, oInt_b, oAbs_i, oMax2_i, oMin2_i, oIs_n, oIs_i, oIs_t, oIs_bb, tru_b, tru_i, if_true, if_false, Bool.false_eq_true, Bool.true_and, Bool.and_true, true_or, or_true, true_and, and_true, reduceIte, decide_true, decide_false, Bool.not_true, Bool.not_false, Nat.reduceAdd, Nat.reduceSub, Nat.reduceLeDiff, Nat.zero_add, Nat.le_refl, and_self, or_self, imms_lotD, D.items, D.seq?]
  refine (app_run (ds0 := bs.map encB) (ds := bs.map encB) (d := encB (cOf bs (m - 2 ^ l) + (if Wh (S qs m) then 1 else 0), some l)) rfl (eP_run ?h6 (.inl ?h7)) rfl z2).trans ?_
  case h6 =>
    rw [enc]
    have q1 : pOp oEq (pOp oIx (pOp oIx (pVar 4) (pVar 6)) (pC (.int 1))) (pC (.int 1)) [some (.tup (qs.map encQ)), some (.int (qs.length : Int)), some (.lst true (pw (qs.length + 1))), t3, some (.lst true (sums qs m ++ [encQ (S qs m)])), some (.lst true (bs.map encB)), some (.int (m : Int)), some (.lst false (lotD (places qs.length m))), some (.int (l : Int)), x, none, none] = some (.bl (decide (Wh (S qs m)))) := by
      rw [← sums_succ]
      refine op_run (op_run (op_run rfl rfl hs2) rfl den_enc) rfl ?_
      rw [oEq_i, den_one]
    have q2 := ix_best (bs := bs) (m := m - 2 ^ l) (o := true) (by omega)
    simp only [startD, List.length_cons, List.length_nil, List.map_cons, List.map_nil, List.replicate_succ, List.replicate_zero, List.cons_append, List.nil_append, List.append_nil, fSeq, fNil, fRet, fSet, fExp, fIf, fIfE, fPar, fPar3, fAsg, fFrz, eP, eN, gImm, pOp, pVar, pC, qCons, qNil, qStar, xCons, xNil, pTup, pLst, eTup, eLst, pFn, eFn, pCall, eCall, pIf, eIf, cBl, cTru, cAnd, cOr, cNot, kP, kNot, kBl, kTru, pAnd, pOr, pNot, pCh, eOp, oUsub, D.imm, D.imms, D.nof, D.nofs, D.frz, D.frzs, gdN, gdTup, gdNil, gdCons, Option.bind_some, Option.map_some, Option.join_some, List.getElem?_cons_zero, List.getElem?_cons_succ, List.set_cons_zero, List.set_cons_succ, ix0, ix1, ix2, ix3, oAdd_i, oSub_i, oMul_i, oDiv_i, oMod_i, oLt_i, oLe_i, oGt_i, oGe_i, oEq_i, oNe_i, oInt_i, oInt_b, oAbs_i, oMax2_i, oMin2_i, oIs_n, oIs_i, oIs_t, oIs_bb, tru_b, tru_i, if_true, if_false, Bool.false_eq_true, Bool.true_and, Bool.and_true, true_or, or_true, true_and, and_true, reduceIte, decide_true, decide_false, Bool.not_true, Bool.not_false, Nat.reduceAdd, Nat.reduceSub, Nat.reduceLeDiff, Nat.zero_add, Nat.le_refl, and_self, or_self, pw_get (show l < qs.length + 1 by omega), cast_off o3, q2] at q1 ⊢
    rw [q1]
    simp only [startD, List.length_cons, List.length_nil, List.map_cons, List.map_nil, List.replicate_succ, List.replicate_zero, List.cons_append, List.nil_append, List.append_nil, fSeq, fNil, fRet, fSet, fExp, fIf, fIfE, fPar, fPar3, fAsg, fFrz, eP, eN, gImm, pOp, pVar, pC, qCons, qNil, qStar, xCons, xNil, pTup, pLst, eTup, eLst, pFn, eFn, pCall, eCall, pIf, eIf, cBl, cTru, cAnd, cOr, cNot, kP, kNot, kBl, kTru, pAnd, pOr, pNot, pCh, eOp, oUsub, D.imm, D.imms, D.nof, D.nofs, D.frz, D.frzs, gdN, gdTup, gdNil, gdCons, Option.bind_some, Option.map_some, Option.join_some, List.getElem?_cons_zero, List.getElem?_cons_succ, List.set_cons_zero, List.set_cons_succ, ix0, ix1, ix2, ix3, oAdd_i, oSub_i, oMul_i, oDiv_i, oMod_i, oLt_i, oLe_i, oGt_i, oGe_i, oEq_i, oNe_i, oInt_i, oInt_b, oAbs_i, oMax2_i, oMin2_i, oIs_n, oIs_i, oIs_t, oIs_bb, tru_b, tru_i, if_true, if_false, Bool.false_eq_true, Bool.true_and, Bool.and_true, true_or, or_true, true_and, and_true, reduceIte, decide_true, decide_false, Bool.not_true, Bool.not_false, Nat.reduceAdd, Nat.reduceSub, Nat.reduceLeDiff, Nat.zero_add, Nat.le_refl, and_self, or_self]
  case h7 =>
    rw [enc]
    rfl
  rw [sums_succ, List.map_append]
  rfl
end Mt
set_option Elab.async false
set_option linter.all false
set_option maxRecDepth 100000
set_option maxHeartbeats 1000000
/-! Ways through all places: how many of their beginnings are whole. -/
namespace Mt
open DL Wk PySem L2
def cnt (f : Nat → Rat) : Rat → List Nat → Nat
  | _, [] => 0
  | s, x :: L => (if Wh (s + f x) then 1 else 0) + cnt f (s + f x) L
section
variable {f g : Nat → Rat} {s t : Rat} {A B L l l1 l2 : List Nat} {a k k1 k2 : Nat}
theorem cnt_app : ∀ {A : List Nat} {s : Rat}, cnt f s (A ++ B) = cnt f s A + cnt f (s + qsum (A.map f)) B
  | [], s => by simp [cnt, qsum, Rat.add_zero]
  | x :: A, s => by
    rw [List.cons_append, cnt, cnt, cnt_app, List.map_cons, qsum, Rat.add_assoc, Nat.add_assoc]
theorem wh_iff {p q : Rat} (h : Wh (p - q)) : Wh p ↔ Wh q := by
  constructor
  · intro hp
    have : q = p - (p - q) := by grind
    rw [this]; exact hp.sub h
  · intro hq
    have : p = q + (p - q) := by grind
    rw [this]; exact hq.add h
theorem cnt_wh : ∀ {L : List Nat} {s t : Rat}, Wh (s - t) → cnt f s L = cnt f t L
  | [], _, _, _ => rfl
  | x :: L, s, t, h => by
    have h2 : Wh (s + f x - (t + f x)) := by
      have e : s + f x - (t + f x) = s - t := by grind
      rw [e]; exact h
    rw [cnt, cnt, cnt_wh (L := L) h2]
    have e := wh_iff h2
    by_cases w : Wh (s + f x)
    · rw [if_pos w, if_pos (e.mp w)]
    · rw [if_neg w, if_neg fun z => w (e.mpr z)]
theorem cnt_zero (h : Wh s) : cnt f s L = cnt f 0 L := cnt_wh (by have e : s - 0 = s := by grind
                                                                  rw [e]; exact h)
theorem cnt_le : ∀ {L : List Nat} {s : Rat}, cnt f s L ≤ L.length
  | [], _ => Nat.le_refl _
  | x :: L, s => by
    rw [cnt, List.length_cons]
    have := cnt_le (L := L) (s := s + f x)
    split <;> omega
theorem cnt_map {σ : Nat → Nat} : ∀ {L : List Nat} {s : Rat}, cnt f s (L.map σ) = cnt (fun i => f (σ i)) s L
  | [], _ => rfl
  | x :: L, s => by rw [List.map_cons, cnt, cnt, cnt_map]
theorem cnt_congr : ∀ {L : List Nat} {s : Rat}, (∀ i ∈ L, f i = g i) → cnt f s L = cnt g s L
  | [], _, _ => rfl
  | x :: L, s, h => by rw [cnt, cnt, h x List.mem_cons_self, cnt_congr fun i hi => h i (List.mem_cons_of_mem _ hi)]
theorem qsum_perm {a b : List Rat} (h : a.Perm b) : qsum a = qsum b := by
  induction h with
  | nil => rfl
  | cons x _ ih => rw [qsum, qsum, ih]
  | swap x y l => simp only [qsum]; grind
  | trans _ _ h1 h2 => exact h1.trans h2
/-- k is the most that a way through l can have -/
def IsMost (f : Nat → Rat) (l : List Nat) (k : Nat) : Prop := (∃ L : List Nat, L.Perm l ∧ cnt f 0 L = k) ∧ ∀ L : List Nat, L.Perm l → cnt f 0 L ≤ k
theorem IsMost.unique (h1 : IsMost f l k1) (h2 : IsMost f l k2) : k1 = k2 := by
  obtain ⟨⟨L1, p1, e1⟩, m1⟩ := h1
  obtain ⟨⟨L2, p2, e2⟩, m2⟩ := h2
  have := m1 L2 p2
  have := m2 L1 p1
  omega
theorem IsMost.perm (h : IsMost f l1 k) (p : l1.Perm l2) : IsMost f l2 k := by
  obtain ⟨⟨L1, p1, e1⟩, m1⟩ := h
  exact ⟨⟨L1, p1.trans p, e1⟩, fun L q => m1 L (q.trans p.symm)⟩
theorem IsMost.congr (h : IsMost f l k) (e : ∀ i ∈ l, f i = g i) : IsMost g l k := by
  obtain ⟨⟨L1, p1, e1⟩, m1⟩ := h
  have c : ∀ L : List Nat, L.Perm l → cnt g 0 L = cnt f 0 L := fun L p => cnt_congr fun i hi => (e i (p.mem_iff.mp hi)).symm
  exact ⟨⟨L1, p1, (c L1 p1).trans e1⟩, fun L q => by rw [c L q]; exact m1 L q⟩
theorem max_ex {P : Nat → Prop} : ∀ {b : Nat}, (∀ k, P k → k ≤ b) → (∃ k, P k) → ∃ k, P k ∧ ∀ j, P j → j ≤ k
  | 0, hb, ⟨k, hk⟩ => ⟨k, hk, fun j hj => by have := hb j hj; omega⟩
  | b + 1, hb, h => by
    by_cases hp : P (b + 1)
    · exact ⟨b + 1, hp, hb⟩
    · exact max_ex (b := b) (fun k hk => by
        have := hb k hk
        rcases Nat.lt_or_ge k (b + 1) with z | z
        · omega
        · exact absurd (by rwa [show k = b + 1 by omega] at hk) hp) h
theorem most_ex (f : Nat → Rat) (l : List Nat) : ∃ k, IsMost f l k := by
  obtain ⟨k, h1, h2⟩ := max_ex (P := fun k => ∃ L : List Nat, L.Perm l ∧ cnt f 0 L = k) (b := l.length) (fun k ⟨L, p, e⟩ => by rw [← e, ← p.length_eq]; exact cnt_le) ⟨_, l, List.Perm.refl _, rfl⟩
  exact ⟨k, h1, fun L p => h2 _ ⟨L, p, rfl⟩⟩
theorem perm_of_map {σ : Nat → Nat} : ∀ {a b : List Nat}, a.Perm b → ∀ l : List Nat, b = l.map σ → ∃ L : List Nat, L.Perm l ∧ L.map σ = a := by
  intro a b h
  induction h with
  | nil =>
    intro l e
    cases l with
    | nil => exact ⟨[], List.Perm.refl _, rfl⟩
    | cons _ _ => cases e
  | cons x _ ih =>
    intro l e
    cases l with
    | nil => cases e
    | cons y l =>
      rw [List.map_cons, List.cons.injEq] at e
      obtain ⟨L, p, q⟩ := ih l e.2
      exact ⟨y :: L, p.cons y, by rw [List.map_cons, q, e.1]⟩
  | swap x y l' =>
    intro l e
    match l, e with
    | u :: v :: l, e =>
      simp only [List.map_cons, List.cons.injEq] at e
      exact ⟨v :: u :: l, List.Perm.swap u v l, by simp [e.1, e.2.1, e.2.2]⟩
  | trans h1 h2 i1 i2 =>
    intro l e
    obtain ⟨L, p, q⟩ := i2 l e
    obtain ⟨L', p', q'⟩ := i1 L q.symm
    exact ⟨L', p'.trans p, q'⟩
theorem IsMost.map {σ : Nat → Nat} (h : IsMost f (l.map σ) k) : IsMost (fun i => f (σ i)) l k := by
  obtain ⟨⟨L1, p1, e1⟩, m1⟩ := h
  obtain ⟨L, p, rfl⟩ := perm_of_map p1 l rfl
  exact ⟨⟨L, p, by rw [← cnt_map]; exact e1⟩, fun L' q => by rw [← cnt_map]; exact m1 _ (q.map σ)⟩
/-- two lots side by side, the first whole -/
theorem IsMost.app (h1 : IsMost f l1 k1) (h2 : IsMost f l2 k2) (w : Wh (qsum (l1.map f))) (h : IsMost f (l1 ++ l2) k) : k1 + k2 ≤ k := by
  obtain ⟨⟨L1, p1, e1⟩, m1⟩ := h1
  obtain ⟨⟨L2, p2, e2⟩, m2⟩ := h2
  have z := h.2 (L1 ++ L2) (p1.append p2)
  rw [cnt_app, Rat.zero_add, cnt_zero (s := qsum (L1.map f)) (by rw [qsum_perm (p1.map f)]; exact w), e1, e2] at z
  exact z
theorem cnt_pos : ∀ {L : List Nat} {s : Rat}, L ≠ [] → Wh (s + qsum (L.map f)) → 1 ≤ cnt f s L
  | [], _, h, _ => absurd rfl h
  | [x], s, _, h => by
    simp only [List.map_cons, List.map_nil, qsum, Rat.add_zero] at h
    rw [cnt, if_pos h]
    omega
  | x :: y :: L, s, _, h => by
    rw [cnt]
    have := cnt_pos (L := y :: L) (s := s + f x) (by simp) (by rw [List.map_cons, qsum] at h; rw [Rat.add_assoc]; exact h)
    omega
/-- the first whole beginning -/
theorem first_whole : ∀ {L : List Nat} {s : Rat}, L ≠ [] → Wh (s + qsum (L.map f)) → ∃ Z Y : List Nat, L = Z ++ Y ∧ Z ≠ [] ∧ Wh (s + qsum (Z.map f)) ∧ cnt f s L = 1 + cnt f 0 Y
  | [], _, h, _ => absurd rfl h
  | x :: L, s, _, h => by
    by_cases w : Wh (s + f x)
    · exact ⟨[x], L, rfl, by simp, by simpa [qsum, Rat.add_zero] using w, by rw [cnt, if_pos w, cnt_zero w]⟩
    · have hL : L ≠ [] := by
        rintro rfl
        exact w (by simpa [qsum, Rat.add_zero] using h)
      obtain ⟨Z, Y, e, h1, h2, h3⟩ := first_whole (L := L) (s := s + f x) hL (by rw [List.map_cons, qsum] at h; rw [Rat.add_assoc]; exact h)
      exact ⟨x :: Z, Y, by rw [e]; rfl, by simp, by rw [List.map_cons, qsum, ← Rat.add_assoc]; exact h2, by rw [cnt, if_neg w, Nat.zero_add]; exact h3⟩
/-- one of the lots takes a in -/
theorem lot_of : ∀ (n : Nat) {L : List Nat}, L.length ≤ n → a ∈ L → Wh (qsum (L.map f)) → ∃ X Z Y : List Nat, L = X ++ Z ++ Y ∧ a ∈ Z ∧ Wh (qsum (Z.map f)) ∧ Wh (qsum (X.map f)) ∧ cnt f 0 L = cnt f 0 (X ++ Y) + 1
  | 0, [], _, h, _ => by cases h
  | n + 1, L, hn, ha, w => by
    obtain ⟨Z, Y, rfl, h1, h2, h3⟩ := first_whole (f := f) (L := L) (s := 0) (List.ne_nil_of_mem ha) (by rw [Rat.zero_add]; exact w)
    rw [Rat.zero_add] at h2
    by_cases hz : a ∈ Z
    · exact ⟨[], Z, Y, by simp, hz, h2, by simp [qsum]; rfl, by rw [h3, List.nil_append, Nat.add_comm]⟩
    · have hy : a ∈ Y := (List.mem_append.mp ha).resolve_left hz
      have lz : 0 < Z.length := List.length_pos_iff.mpr h1
      have wy : Wh (qsum (Y.map f)) := by
        rw [List.map_append, qsum_app] at w
        have e : qsum (Y.map f) = qsum (Z.map f) + qsum (Y.map f) - qsum (Z.map f) := by grind
        rw [e]; exact w.sub h2
      obtain ⟨X', Z', Y', e, i1, i2, i3, i4⟩ := lot_of n (L := Y) (by rw [List.length_append] at hn; omega) hy wy
      refine ⟨Z ++ X', Z', Y', by rw [e]; simp, i1, i2, ?_, ?_⟩
      · rw [List.map_append, qsum_app]
        exact h2.add i3
      · have z1 : cnt f 0 (Z ++ (X' ++ Y')) = cnt f 0 Z + cnt f 0 (X' ++ Y') := by
          have z := cnt_app (f := f) (A := Z) (B := X' ++ Y') (s := 0)
          rwa [Rat.zero_add, cnt_zero h2] at z
        have z2 : cnt f 0 (Z ++ Y) = cnt f 0 Z + cnt f 0 Y := by
          have z := cnt_app (f := f) (A := Z) (B := Y) (s := 0)
          rwa [Rat.zero_add, cnt_zero h2] at z
        rw [List.append_assoc Z X' Y', z1, h3]
        omega
end
end Mt
set_option Elab.async false
set_option linter.all false
set_option maxRecDepth 100000
set_option maxHeartbeats 1000000
/-! The program's lots. -/
namespace Mt
open DL Wk PySem L2
/-! ### the table -/
theorem best_ext {qs : List Rat} {bs : List (Nat × Option Nat)} {m l : Nat} (hn : qs.length ≤ 8) (hm : m < 2 ^ qs.length) (hm0 : 0 < m) (hb : bs.length = m) (h : BestOk qs bs) (hl : l ∈ places qs.length m) (hx : ∀ a ∈ places qs.length m, cOf bs (m - 2 ^ a) ≤ cOf bs (m - 2 ^ l)) :
    BestOk qs (bs ++ [(cOf bs (m - 2 ^ l) + (if Wh (S qs m) then 1 else 0), some l)]) := by
  generalize he : cOf bs (m - 2 ^ l) + (if Wh (S qs m) then 1 else 0) = e
  have c1 : cOf (bs ++ [(e, some l)]) m = e := by simp [cOf, ← hb]
  have l1 : lOf (bs ++ [(e, some l)]) m = l := by simp [lOf, ← hb]
  refine ⟨?_, fun k hk0 hk => ?_⟩
  · rw [List.getElem?_append_left (by omega)]
    exact h.zero
  · rw [List.length_append, List.length_singleton] at hk
    rcases Nat.lt_or_ge k m with hkm | hkm
    · have hk' : k < bs.length := by omega
      have hk2 : k < 2 ^ qs.length := by omega
      have z := h.at_ k hk0 hk'
      have ol := off_lt hn hk2 z.mem
      refine ⟨?_, ?_, ?_, ?_⟩
      · rw [List.getElem?_append_left hk', cOf_app hk', lOf_app hk']
        exact z.ent
      · rw [lOf_app hk']
        exact z.mem
      · rw [lOf_app hk', cOf_app hk', cOf_app (by omega)]
        exact z.val
      · intro a ha
        have oa := off_lt hn hk2 ha
        rw [lOf_app hk', cOf_app (by omega), cOf_app (by omega)]
        exact z.mx a ha
    · have : k = m := by omega
      subst this
      have ol := off_lt hn hm hl
      refine ⟨?_, ?_, ?_, ?_⟩
      · rw [c1, l1]
        simp [← hb]
      · rw [l1]; exact hl
      · rw [l1, c1, cOf_app (by omega)]
        exact he.symm
      · intro a ha
        have oa := off_lt hn hm ha
        rw [l1, cOf_app (by omega), cOf_app (by omega)]
        exact hx a ha
theorem cOf_zero {qs : List Rat} {bs : List (Nat × Option Nat)} (h : BestOk qs bs) : cOf bs 0 = 0 := by
  have := h.zero
  simp [cOf, List.getD, this]
theorem places_perm {n m a : Nat} (hn : n ≤ 8) (hm : m < 2 ^ n) (ha : a ∈ places n m) : (a :: places n (m - 2 ^ a)).Perm (places n m) := by
  rw [places_off hn hm ha]
  have key : ∀ l : List Nat, l.Nodup → a ∈ l → (a :: l.filter fun i => !decide (i = a)).Perm l := fun l => by
    induction l with
    | nil => exact fun _ h => by cases h
    | cons x r ih =>
      intro nd h
      obtain ⟨n1, n2⟩ := List.nodup_cons.mp nd
      by_cases e : x = a
      · subst e
        rw [List.filter_cons_of_neg (by simp), List.filter_eq_self.mpr fun y hy => by
          have : y ≠ x := fun w => n1 (w ▸ hy)
          simp [this]]
      · rw [List.filter_cons_of_pos (by simp [e])]
        exact (List.Perm.swap x a _).trans ((ih n2 ((List.mem_cons.mp h).resolve_left fun w => e w.symm)).cons x)
  exact key _ (places_nodup n m) ha
theorem places_zero (n : Nat) : places n 0 = [] := List.filter_eq_nil_iff.mpr fun i _ => by simp [bit_nil]
theorem places_full {n : Nat} (hn : n ≤ 8) : places n (2 ^ n - 1) = List.range n := List.filter_eq_self.mpr fun i hi => bit_full n hn i (List.mem_range.mp hi)
theorem best_most {qs : List Rat} {bs : List (Nat × Option Nat)} (hn : qs.length ≤ 8) (h : BestOk qs bs) (hb : bs.length = 2 ^ qs.length) : ∀ m < 2 ^ qs.length, IsMost (qAt qs) (places qs.length m) (cOf bs m) := by
  intro m
  induction m using Nat.strongRecOn with
  | ind m ih =>
    intro hm
    by_cases h0 : m = 0
    · subst h0
      rw [places_zero, cOf_zero h]
      refine ⟨⟨[], List.Perm.refl _, rfl⟩, fun L p => ?_⟩
      rw [p.eq_nil]
      exact Nat.le_refl _
    · have z := h.at_ m (by omega) (by omega)
      have ol := off_lt hn hm z.mem
      have key : ∀ (L : List Nat) (a : Nat), (L ++ [a]).Perm (places qs.length m) → cnt (qAt qs) 0 (L ++ [a]) = cnt (qAt qs) 0 L + if Wh (S qs m) then 1 else 0 := fun L a p => by
        rw [cnt_app, cnt, cnt, Rat.zero_add]
        have e : qsum (L.map (qAt qs)) + qAt qs a = S qs m := by
          unfold S
          rw [← qsum_perm (p.map _), List.map_append, qsum_app]
          simp [qsum, Rat.add_zero]
        rw [e]
        omega
      constructor
      · obtain ⟨⟨L, p, e⟩, _⟩ := ih (m - 2 ^ lOf bs m) (by omega) (by omega)
        have q : (L ++ [lOf bs m]).Perm (places qs.length m) := (List.perm_append_comm.trans (p.cons _)).trans (places_perm hn hm z.mem)
        exact ⟨_, q, by rw [key _ _ q, e, ← z.val]⟩
      · intro L p
        rcases List.eq_nil_or_concat L with rfl | ⟨L', a, rfl⟩
        · exact absurd p.nil_eq.symm (places_ne hn hm h0)
        · rw [List.concat_eq_append] at p ⊢
          have ha : a ∈ places qs.length m := p.mem_iff.mp (by simp)
          have oa := off_lt hn hm ha
          have p' : L'.Perm (places qs.length (m - 2 ^ a)) := by
            have q : (a :: L').Perm (a :: places qs.length (m - 2 ^ a)) := (List.perm_append_comm.trans p).trans (places_perm hn hm ha).symm
            exact q.cons_inv
          have i1 := (ih (m - 2 ^ a) (by omega) (by omega)).2 L' p'
          have i2 := z.mx a ha
          have i3 := z.val
          rw [key _ _ p]
          omega
/-! ### the walk down -/
structure Down (qs : List Rat) (bs : List (Nat × Option Nat)) (found : List (List Nat)) (m : Nat) : Prop where
  lt : m < 2 ^ qs.length
  perm : (found.flatten ++ places qs.length m).Perm (List.range qs.length)
  num : found.length + cOf bs m = cOf bs (2 ^ qs.length - 1)
  last : (m = 2 ^ qs.length - 1 ∧ found = []) ∨ ∃ (init : List (List Nat)) (lot : List Nat), found = init ++ [lot] ∧ lot ≠ [] ∧ Wh (S qs m + qsum (lot.map (qAt qs))) ∧ ∀ l ∈ init, l ≠ [] ∧ Wh (qsum (l.map (qAt qs)))
theorem Down.start {qs : List Rat} {bs : List (Nat × Option Nat)} (hn : qs.length ≤ 8) : Down qs bs [] (2 ^ qs.length - 1) := by
  have : 0 < 2 ^ qs.length := Nat.pow_pos (by decide)
  refine ⟨by omega, ?_, by simp, .inl ⟨rfl, rfl⟩⟩
  rw [places_full hn]
  simp
theorem S_full {qs : List Rat} (hn : qs.length ≤ 8) : S qs (2 ^ qs.length - 1) = qsum qs := by
  unfold S
  rw [places_full hn, map_qAt]
theorem flat_snoc {found : List (List Nat)} {a : Nat} : (found ++ [[a]]).flatten = found.flatten ++ [a] := by simp
theorem Down.whole {qs : List Rat} {bs : List (Nat × Option Nat)} {found : List (List Nat)} {m : Nat} (hn : qs.length ≤ 8) (hb : bs.length = 2 ^ qs.length) (B : BestOk qs bs) (h : Down qs bs found m) (h0 : 0 < m) (w : Wh (S qs m)) : Down qs bs (found ++ [[lOf bs m]]) (m - 2 ^ lOf bs m) := by
  have hm := h.lt
  have z := B.at_ m h0 (by omega)
  have ol := off_lt hn hm z.mem
  refine ⟨by omega, ?_, ?_, .inr ⟨found, [lOf bs m], rfl, by simp, ?_, ?_⟩⟩
  · rw [flat_snoc, List.append_assoc]
    exact ((places_perm hn hm z.mem).append_left found.flatten).trans h.perm
  · have := z.val
    rw [if_pos w] at this
    have := h.num
    simp
    omega
  · simp only [List.map_cons, List.map_nil, qsum, Rat.add_zero]
    rw [← S_off hn hm z.mem]
    exact w
  · rcases h.last with ⟨_, rfl⟩ | ⟨init, lot, rfl, h1, h2, h3⟩
    · exact fun l hl => by cases hl
    · intro l hl
      rcases List.mem_append.mp hl with hl | hl
      · exact h3 l hl
      · rw [List.mem_singleton.mp hl]
        refine ⟨h1, ?_⟩
        have e : qsum (lot.map (qAt qs)) = S qs m + qsum (lot.map (qAt qs)) - S qs m := by grind
        rw [e]
        exact h2.sub w
theorem Down.part {qs : List Rat} {bs : List (Nat × Option Nat)} {found : List (List Nat)} {m : Nat} (hn : qs.length ≤ 8) (hb : bs.length = 2 ^ qs.length) (B : BestOk qs bs) (hw : Wh (qsum qs)) (h : Down qs bs found m) (h0 : 0 < m) (w : ¬ Wh (S qs m)) :
    ∃ (init : List (List Nat)) (lot : List Nat), found = init ++ [lot] ∧ Down qs bs (init ++ [lot ++ [lOf bs m]]) (m - 2 ^ lOf bs m) := by
  have hm := h.lt
  have z := B.at_ m h0 (by omega)
  have ol := off_lt hn hm z.mem
  rcases h.last with ⟨rfl, rfl⟩ | ⟨init, lot, rfl, h1, h2, h3⟩
  · rw [S_full hn] at w
    exact absurd hw w
  · refine ⟨init, lot, rfl, by omega, ?_, ?_, .inr ⟨init, lot ++ [lOf bs m], rfl, by simp, ?_, h3⟩⟩
    · have e : (init ++ [lot ++ [lOf bs m]]).flatten = (init ++ [lot]).flatten ++ [lOf bs m] := by simp
      rw [e, List.append_assoc]
      exact ((places_perm hn hm z.mem).append_left _).trans h.perm
    · have := z.val
      rw [if_neg w] at this
      have := h.num
      simp at this ⊢
      omega
    · have e := S_off hn hm z.mem
      rw [List.map_append, qsum_app]
      simp only [List.map_cons, List.map_nil, qsum, Rat.add_zero]
      have e2 : S qs (m - 2 ^ lOf bs m) + (qsum (lot.map (qAt qs)) + qAt qs (lOf bs m)) = S qs m + qsum (lot.map (qAt qs)) := by grind
      rw [e2]
      exact h2
end Mt
set_option Elab.async false
set_option linter.all false
set_option maxRecDepth 100000
set_option maxHeartbeats 1000000
/-! The program's lots: what is told. -/
namespace DL
open PySem PySem.Spec PyProof.Rows L2 PySem.W
theorem perm_map {α β : Type} {σ : α → β} : ∀ {a b : List β}, a.Perm b → ∀ l : List α, b = l.map σ → ∃ L : List α, L.Perm l ∧ L.map σ = a := by
  intro a b h
  induction h with
  | nil =>
    intro l e
    cases l with
    | nil => exact ⟨[], List.Perm.refl _, rfl⟩
    | cons _ _ => cases e
  | cons x _ ih =>
    intro l e
    cases l with
    | nil => cases e
    | cons y l =>
      rw [List.map_cons, List.cons.injEq] at e
      obtain ⟨L, p, q⟩ := ih l e.2
      exact ⟨y :: L, p.cons y, by rw [List.map_cons, q, e.1]⟩
  | swap x y l' =>
    intro l e
    match l, e with
    | u :: v :: l, e =>
      simp only [List.map_cons, List.cons.injEq] at e
      exact ⟨v :: u :: l, List.Perm.swap u v l, by simp [e.1, e.2.1, e.2.2]⟩
  | trans h1 h2 i1 i2 =>
    intro l e
    obtain ⟨L, p, q⟩ := i2 l e
    obtain ⟨L', p', q'⟩ := i1 L q.symm
    exact ⟨L', p'.trans p, q'⟩
theorem wp_app1 {τ : DS} {Q : Out → Prop} {i : Nat} {p pe : DS → Option D} {d : D} {ds es : List D} (h0 : τ[i]? = some (some (.lst true (ds ++ [.lst true es])))) (hp : p τ = some (.int (-1))) (he : pe τ = some d) (hd : d.imm = true) (hl : es.length < 16777216)
    (k : Q (.nx (τ.set i (some (.lst true (ds ++ [.lst true (es ++ [d])])))))) : WP (fApp1 i p pe τ) Q := by
  refine ⟨_, ?_, k⟩
  unfold fApp1 pVar
  rw [h0, hp]
  have hi : ixN (ds ++ [D.lst true es]).length (-1) = some ds.length := by
    unfold ixN
    rw [if_neg (by omega), if_pos (by simp; omega)]
    simp
    omega
  simp only [Option.join_some, Option.bind_some, hi]
  simp [he, hd, hl]
end DL
namespace Mt
open DL Wk PySem L2
def encLot (l : List Nat) : D := .tup (lotD l)
def ascN (l : List Nat) : List Nat := l.mergeSort fun a b => decide (a ≤ b)
theorem ascN_perm (l : List Nat) : (ascN l).Perm l := List.mergeSort_perm _ _
theorem ascN_pw (l : List Nat) : (ascN l).Pairwise (· ≤ ·) := by
  have h := List.pairwise_mergeSort (le := fun a b : Nat => decide (a ≤ b)) (by simp; omega) (by simp; omega) l
  exact h.imp fun h => by simpa using h
theorem ascN_id {l : List Nat} (h : l.Pairwise (· ≤ ·)) : ascN l = l := List.mergeSort_of_pairwise (h.imp fun h => by simpa using h)
theorem ascN_eq {l m : List Nat} (h : l.Perm m) (hm : m.Pairwise (· ≤ ·)) : ascN l = m := by
  refine ((ascN_perm l).trans h).eq_of_pairwise (le := (· ≤ ·)) ?_ (ascN_pw l) hm
  intro a b _ _ h1 h2
  omega
theorem lotD_int (l : List Nat) : lotD l = (l.map fun i : Nat => (i : Int)).map D.int := by
  unfold lotD
  rw [List.map_map]
  rfl
theorem srt_lotD (l : List Nat) : D.srt? (lotD l) = true := by
  rw [lotD_int]
  exact srt_ints _
theorem sort_lotD (l : List Nat) : (lotD l).mergeSort D.le = lotD (ascN l) := by
  unfold lotD ascN
  rw [List.map_mergeSort]
  intro a _ b _
  rw [le_int]
  simp
theorem imm_encLot (l : List Nat) : (encLot l).imm = true := by simp [encLot, D.imm, imms_lotD]
theorem imms_map {α : Type} {f : α → D} (h : ∀ a, (f a).imm = true) (l : List α) : D.imms (l.map f) = true := by
  induction l with
  | nil => rfl
  | cons x r ih => simp [D.imms, h x, ih]
theorem frzs_map {α : Type} {f : α → D} (h : ∀ a, (f a).frz = f a) (l : List α) : D.frzs (l.map f) = l.map f := by
  induction l with
  | nil => rfl
  | cons x r ih => simp [D.frzs, h x, ih]
theorem nofs_map {α : Type} {f : α → D} (h : ∀ a, (f a).nof = true) (l : List α) : D.nofs (l.map f) = true := by
  induction l with
  | nil => rfl
  | cons x r ih => simp [D.nofs, h x, ih]
theorem nofs_lotD (l : List Nat) : D.nofs (lotD l) = true := nofs_map (fun _ => rfl) l
theorem frz_encLot (l : List Nat) : (encLot l).frz = encLot l := by simp [encLot, D.frz, frzs_lotD]
theorem nof_encLot (l : List Nat) : (encLot l).nof = true := by simp [encLot, D.nof, nofs_lotD]
theorem pys_lotD (l : List Nat) : D.pys (lotD l) = (l.map fun i : Nat => (i : Int)).map PyData.int := by
  unfold lotD
  induction l with
  | nil => rfl
  | cons x r ih => simp only [List.map_cons, D.pys, D.py, ih]
theorem lay_ints : ∀ l : List Int, PyData.canLayAll0 (l.map PyData.int) = true
  | [] => rfl
  | x :: r => by simp [PyData.canLayAll0, PyData.canLay0, lay_ints r]
theorem srt_lots {ls : List (List Nat)} (h : ∀ l ∈ ls, l ≠ []) : D.srt? (ls.map encLot) = true := by
  simp only [D.srt?, Bool.and_eq_true, Bool.or_eq_true, List.all_eq_true, List.mem_map, decide_eq_true_eq]
  refine ⟨⟨⟨imms_map imm_encLot ls, ?_⟩, ?_⟩, .inl ?_⟩
  · rintro _ ⟨i, _, rfl⟩
    simp [encLot, D.py, PyData.canLay0, PyData.depth, pys_lotD, lay_ints, PySem.W.depth_ints, -List.map_map]
  · rintro _ ⟨i, _, rfl⟩ _ ⟨j, _, rfl⟩
    simp [encLot, D.py, PySem.W.alike, pys_lotD, PySem.W.alike_ints, -List.map_map]
  · rintro _ ⟨i, hi, rfl⟩
    obtain ⟨a, r, rfl⟩ := List.exists_cons_of_ne_nil (h i hi)
    rfl
structure LotsOk (qs : List Rat) (lots : List (List Nat)) : Prop where
  perm : lots.flatten.Perm (List.range qs.length)
  wh : ∀ l ∈ lots, l ≠ [] ∧ Wh (qsum (l.map (qAt qs)))
  asc : ∀ l ∈ lots, l.Pairwise (· ≤ ·)
  srt : LeP (lots.map encLot)
def encLots (lots : List (List Nat)) : D := .tup (lots.map encLot)
def fnd (found : List (List Nat)) : List D := found.map fun l => .lst true (lotD l)
theorem lots_of {qs : List Rat} {bs : List (Nat × Option Nat)} {found : List (List Nat)} (hl : 1 ≤ qs.length) (h : Down qs bs found 0) : ∃ lots, LotsOk qs lots ∧ lots.length = found.length ∧ (found.map fun l => encLot (ascN l)).mergeSort D.le = lots.map encLot ∧ D.srt? (found.map fun l => encLot (ascN l)) = true := by
  have hp := h.perm
  rw [places_zero, List.append_nil] at hp
  have hw : ∀ l ∈ found, l ≠ [] ∧ Wh (qsum (l.map (qAt qs))) := by
    rcases h.last with ⟨e, _⟩ | ⟨init, lot, rfl, h1, h2, h3⟩
    · have : 2 ^ 1 ≤ 2 ^ qs.length := Nat.pow_le_pow_right (by decide) hl
      omega
    · rw [S_zero, Rat.zero_add] at h2
      intro l hm
      rcases List.mem_append.mp hm with hm | hm
      · exact h3 l hm
      · rw [List.mem_singleton.mp hm]
        exact ⟨h1, h2⟩
  have em : (found.map fun l => encLot (ascN l)) = (found.map ascN).map encLot := by rw [List.map_map]; rfl
  have hn : ∀ l ∈ found.map ascN, l ≠ [] := by
    intro l hm
    obtain ⟨l', hm', rfl⟩ := List.mem_map.mp hm
    intro e
    have := (ascN_perm l').symm
    rw [e] at this
    exact (hw l' hm').1 this.eq_nil
  rw [em]
  obtain ⟨lots, p, e⟩ := perm_map (sort_perm ((found.map ascN).map encLot)) (found.map ascN) rfl
  refine ⟨lots, ⟨?_, ?_, ?_, ?_⟩, ?_, e.symm, srt_lots hn⟩
  · refine (List.Perm.flatten p).trans (List.Perm.trans ?_ hp)
    clear p e hn em hw hp h
    induction found with
    | nil => exact List.Perm.refl _
    | cons x r ih =>
      rw [List.map_cons, List.flatten_cons, List.flatten_cons]
      exact (ascN_perm x).append ih
  · intro l hm
    obtain ⟨l', hm', rfl⟩ := List.mem_map.mp (p.mem_iff.mp hm)
    refine ⟨hn _ (p.mem_iff.mp hm), ?_⟩
    rw [qsum_perm ((ascN_perm l').map _)]
    exact (hw l' hm').2
  · intro l hm
    obtain ⟨l', hm', rfl⟩ := List.mem_map.mp (p.mem_iff.mp hm)
    exact ascN_pw l'
  · rw [e]
    exact sort_leP _
  · rw [p.length_eq, List.length_map]
end Mt
set_option Elab.async false
set_option linter.all false
set_option maxRecDepth 100000
set_option maxHeartbeats 2000000
/-! The program's lots: the whole def. -/
namespace DL
theorem g_wpx {n : Nat} {N : List PySem.Str} {body : DS → Option Out} {ds : List D} {P : D → Prop} (hl : ds.length = n) (h : WP (body (startD N ds)) (fun o => ∃ r, P r ∧ Rt r o)) : ∃ r, P r ∧ gOf n N body ds = some r := by
  obtain ⟨o, e, r, hp, τ, rfl⟩ := h
  exact ⟨r, hp, gOf_rt hl e⟩
end DL
namespace Mt
open DL Wk PySem L2
def slotN (i : Nat) (τ : DS) : Nat := match τ[i]? with
  | some (some (.int j)) => j.natAbs
  | _ => 0
theorem fnd_app (a : List (List Nat)) (l : List Nat) : fnd (a ++ [l]) = fnd a ++ [D.lst true (lotD l)] := by simp [fnd]
theorem lotD_app (a : List Nat) (i : Nat) : lotD (a ++ [i]) = lotD a ++ [D.int (i : Int)] := by simp [lotD]
theorem fnd_len (a : List (List Nat)) : (fnd a).length = a.length := by simp [fnd]
theorem lotD_len (a : List Nat) : (lotD a).length = a.length := by simp [lotD]
theorem ix_best1 {qs : List Rat} {bs : List (Nat × Option Nat)} {m : Nat} {o : Bool} (h : BestAt qs bs m) : ((oIx (.lst o (bs.map encB)) (.int (m : Int))).bind fun x => oIx x (.int 1)) = some (.int (lOf bs m : Int)) := by
  rw [ixl_map h.ent, Option.bind_some]
  exact ix1
theorem frz_fnd (found : List (List Nat)) : (D.lst true (fnd found)).frz = .lst false (found.map fun l => .lst false (lotD l)) := by
  simp only [D.frz, D.lst.injEq, true_and]
  unfold fnd
  induction found with
  | nil => rfl
  | cons x r ih => simp [D.frzs, D.frz, frzs_lotD, ih]
theorem flat_len_le {found : List (List Nat)} (h : ∀ l ∈ found, l ≠ []) : found.length ≤ found.flatten.length := by
  induction found with
  | nil => exact Nat.le_refl _
  | cons x r ih =>
    have := ih fun l hl => h l (List.mem_cons_of_mem _ hl)
    have := List.length_pos_iff.mpr (h x List.mem_cons_self)
    rw [List.flatten_cons, List.length_append, List.length_cons]
    omega
theorem mem_flat_len {found : List (List Nat)} {l : List Nat} (h : l ∈ found) : l.length ≤ found.flatten.length := by
  induction found with
  | nil => cases h
  | cons x r ih =>
    rcases List.mem_cons.mp h with rfl | h
    · simp
    · have := ih h
      rw [List.flatten_cons, List.length_append]
      omega
theorem Down.small {qs : List Rat} {bs : List (Nat × Option Nat)} {found : List (List Nat)} {m : Nat} (hn : qs.length ≤ 8) (h : Down qs bs found m) : found.length ≤ 8 ∧ ∀ l ∈ found, l.length ≤ 8 := by
  have e := h.perm.length_eq
  rw [List.length_append, List.length_range] at e
  refine ⟨?_, fun l hl => by have := mem_flat_len hl; omega⟩
  have : ∀ l ∈ found, l ≠ [] := by
    rcases h.last with ⟨_, rfl⟩ | ⟨init, lot, rfl, h1, _, h3⟩
    · intro l hl; cases hl
    · intro l hl
      rcases List.mem_append.mp hl with hl | hl
      · exact (h3 l hl).1
      · rw [List.mem_singleton.mp hl]; exact h1
  have := flat_len_le this
  omega
theorem told_lots_spec {qs : List Rat} (h : Needs qs) : ∃ r, (∃ lots, r = encLots lots ∧ LotsOk qs lots ∧ IsMost (qAt qs) (List.range qs.length) lots.length) ∧ g_told_lots [.tup (qs.map encQ)] = some r := by
  have hl := h.len
  have hn : qs.length ≤ 8 := hl.2
  have tw := h.twl
  have p8 := pow8 hn
  have p1 : 2 ≤ 2 ^ qs.length := by
    have : 2 ^ 1 ≤ 2 ^ qs.length := Nat.pow_le_pow_right (by decide) hl.1
    simpa using this
  refine g_wpx rfl ?_
  unfold b_told_lots
  simp only [startD, List.length_cons, List.length_nil, List.map_cons, List.map_nil, List.replicate_succ, List.replicate_zero, List.cons_append, List.nil_append, List.append_nil, List.set_cons_zero, List.set_cons_succ, Nat.reduceAdd, Nat.reduceSub, N_told_lots]
  refine wp_seq (wp_par (x := .int (qs.length : Int)) (y := .lst true [.int 1]) (by simp [startD, List.length_cons, List.length_nil, List.map_cons, List.map_nil, List.replicate_succ, List.replicate_zero, List.cons_append, List.nil_append, List.append_nil, eP, eN, gImm, pOp, pVar, pC, qCons, qNil, qStar, xCons, xNil, pTup, pLst, eTup, eLst, pFn, eFn, pCall, eCall, pIf, eIf, cBl, cTru, cAnd, cOr, cNot, kP, kNot, kBl, kTru, pAnd, pOr, pNot, pCh, eOp, oUsub, D.imm, D.imms, D.nof, D.nofs, D.frz, D.frzs, gdN, gdTup, gdNil, gdCons, Option.bind_some, Option.map_some, Option.join_some, List.getElem?_cons_zero, List.getElem?_cons_succ, List.set_cons_zero, List.set_cons_succ, ix0, ix1, ix2, ix3, oAdd_i, oSub_i, oMul_i, oDiv_i, oMod_i, oLt_i, oLe_i, oGt_i, oGe_i, oEq_i, oNe_i, oInt_i, oInt_b, oAbs_i, oMax2_i, oMin2_i, oIs_n, oIs_i, oIs_t, oIs_bb, tru_b, tru_i, len_t]; rfl) ?_)
  simp only [startD, List.length_cons, List.length_nil, List.map_cons, List.map_nil, List.replicate_succ, List.replicate_zero, List.cons_append, List.nil_append, List.append_nil, List.set_cons_zero, List.set_cons_succ, Nat.reduceAdd, Nat.reduceSub]
  obtain ⟨x3, ep⟩ := powers_run (d0 := some (.tup (qs.map encQ))) (x := none) (rest := [none, none, none, none, none, none, none, none]) hn
  refine wp_seq (wp_of ((for_eq (rg1_eq (n := qs.length) ?h1 (by omega))).trans ep) ?_)
  case h1 => simp [startD, List.length_cons, List.length_nil, List.map_cons, List.map_nil, List.replicate_succ, List.replicate_zero, List.cons_append, List.nil_append, List.append_nil, eP, eN, gImm, pOp, pVar, pC, qCons, qNil, qStar, xCons, xNil, pTup, pLst, eTup, eLst, pFn, eFn, pCall, eCall, pIf, eIf, cBl, cTru, cAnd, cOr, cNot, kP, kNot, kBl, kTru, pAnd, pOr, pNot, pCh, eOp, oUsub, D.imm, D.imms, D.nof, D.nofs, D.frz, D.frzs, gdN, gdTup, gdNil, gdCons, Option.bind_some, Option.map_some, Option.join_some, List.getElem?_cons_zero, List.getElem?_cons_succ, List.set_cons_zero, List.set_cons_succ, ix0, ix1, ix2, ix3, oAdd_i, oSub_i, oMul_i, oDiv_i, oMod_i, oLt_i, oLe_i, oGt_i, oGe_i, oEq_i, oNe_i, oInt_i, oInt_b, oAbs_i, oMax2_i, oMin2_i, oIs_n, oIs_i, oIs_t, oIs_bb, tru_b, tru_i, len_t]
  refine wp_seq (wp_par (x := .lst true [encQ 0]) (y := .lst true [encB (0, none)]) (by simp [startD, List.length_cons, List.length_nil, List.map_cons, List.map_nil, List.replicate_succ, List.replicate_zero, List.cons_append, List.nil_append, List.append_nil, eP, eN, gImm, pOp, pVar, pC, qCons, qNil, qStar, xCons, xNil, pTup, pLst, eTup, eLst, pFn, eFn, pCall, eCall, pIf, eIf, cBl, cTru, cAnd, cOr, cNot, kP, kNot, kBl, kTru, pAnd, pOr, pNot, pCh, eOp, oUsub, D.imm, D.imms, D.nof, D.nofs, D.frz, D.frzs, gdN, gdTup, gdNil, gdCons, Option.bind_some, Option.map_some, Option.join_some, List.getElem?_cons_zero, List.getElem?_cons_succ, List.set_cons_zero, List.set_cons_succ, ix0, ix1, ix2, ix3, oAdd_i, oSub_i, oMul_i, oDiv_i, oMod_i, oLt_i, oLe_i, oGt_i, oGe_i, oEq_i, oNe_i, oInt_i, oInt_b, oAbs_i, oMax2_i, oMin2_i, oIs_n, oIs_i, oIs_t, oIs_bb, tru_b, tru_i, zero_enc, encB]; rfl) ?_)
  simp only [startD, List.length_cons, List.length_nil, List.map_cons, List.map_nil, List.replicate_succ, List.replicate_zero, List.cons_append, List.nil_append, List.append_nil, List.set_cons_zero, List.set_cons_succ, Nat.reduceAdd, Nat.reduceSub]
  have pwn : oIx (.lst true (pw (qs.length + 1))) (.int (qs.length : Int)) = some (.int ((2 ^ qs.length : Nat) : Int)) := pw_get (by omega)
  refine wp_seq (wp_for (ds := rgD 1 (2 ^ qs.length - 1)) (fun i τ => ∃ (bs : List (Nat × Option Nat)) (x3 x6 x7 x8 x9 : Option D), bs.length = i + 1 ∧ BestOk qs bs ∧ τ = [some (.tup (qs.map encQ)), some (.int (qs.length : Int)), some (.lst true (pw (qs.length + 1))), x3, some (.lst true (sums qs (i + 1))), some (.lst true (bs.map encB)), x6, x7, x8, x9, none, none]) ?h2 ?h3 ?h4 ?_)
  case h2 =>
    refine (rg2_eq (a := 1) (b := ((2 ^ qs.length : Nat) : Int)) rfl ?_ (by omega) (by omega)).trans ?_
    · simp only [startD, List.length_cons, List.length_nil, List.map_cons, List.map_nil, List.replicate_succ, List.replicate_zero, List.cons_append, List.nil_append, List.append_nil, eP, eN, gImm, pOp, pVar, pC, qCons, qNil, qStar, xCons, xNil, pTup, pLst, eTup, eLst, pFn, eFn, pCall, eCall, pIf, eIf, cBl, cTru, cAnd, cOr, cNot, kP, kNot, kBl, kTru, pAnd, pOr, pNot, pCh, eOp, oUsub, D.imm, D.imms, D.nof, D.nofs, D.frz, D.frzs, gdN, gdTup, gdNil, gdCons, Option.bind_some, Option.map_some, Option.join_some, List.getElem?_cons_zero, List.getElem?_cons_succ, List.set_cons_zero, List.set_cons_succ, ix0, ix1, ix2, ix3, oAdd_i, oSub_i, oMul_i, oDiv_i, oMod_i, oLt_i, oLe_i, oGt_i, oGe_i, oEq_i, oNe_i, oInt_i, oInt_b, oAbs_i, oMax2_i, oMin2_i, oIs_n, oIs_i, oIs_t, oIs_bb, tru_b, tru_i, pwn]
    · congr 2
      omega
  case h3 =>
    refine ⟨[(0, none)], x3, none, none, none, none, rfl, ⟨rfl, fun m h1 h2 => ?_⟩, ?_⟩
    · simp at h2; omega
    · simp [sums, S_zero]
  case h4 =>
    rintro i d _ hd ⟨bs, x3, x6, x7, x8, x9, hb, B, rfl⟩
    have hi : i < 2 ^ qs.length - 1 := by
      have := (List.getElem?_eq_some_iff.mp hd).1
      rwa [rgD_len] at this
    rw [rgD_get hi] at hd
    cases hd
    obtain ⟨l, y7, y9, e, h1, h2⟩ := lots_step (t3 := x3) (t7 := x7) (t8 := x8) (t9 := x9) tw hn (show i + 1 < 2 ^ qs.length by omega) (by omega) hb
    refine ⟨_, rfl, ?_⟩
    have ec : (D.int (1 + (i : Int))) = .int ((i + 1 : Nat) : Int) := by rw [Int.add_comm]; rfl
    rw [ec]
    refine wp_of e ⟨_, _, _, _, _, _, ?_, best_ext hn (by omega) (by omega) hb B h1 h2, rfl⟩
    simp [hb]
  rintro τ ⟨bs, y3, x6, x7, x8, x9, hb, B, rfl⟩
  rw [rgD_len, Nat.sub_add_cancel (by omega)] at *
  have hm : (2 ^ qs.length - 1 : Nat) < 2 ^ qs.length := by omega
  show WP _ _
  have ec : ((2 ^ qs.length : Nat) : Int) - 1 = ((2 ^ qs.length - 1 : Nat) : Int) := by omega
  refine wp_seq (wp_par (by simp only [startD, List.length_cons, List.length_nil, List.map_cons, List.map_nil, List.replicate_succ, List.replicate_zero, List.cons_append, List.nil_append, List.append_nil, eP, eN, gImm, pOp, pVar, pC, qCons, qNil, qStar, xCons, xNil, pTup, pLst, eTup, eLst, pFn, eFn, pCall, eCall, pIf, eIf, cBl, cTru, cAnd, cOr, cNot, kP, kNot, kBl, kTru, pAnd, pOr, pNot, pCh, eOp, oUsub, D.imm, D.imms, D.nof, D.nofs, D.frz, D.frzs, gdN, gdTup, gdNil, gdCons, Option.bind_some, Option.map_some, Option.join_some, List.getElem?_cons_zero, List.getElem?_cons_succ, List.set_cons_zero, List.set_cons_succ, ix0, ix1, ix2, ix3, oAdd_i, oSub_i, oMul_i, oDiv_i, oMod_i, oLt_i, oLe_i, oGt_i, oGe_i, oEq_i, oNe_i, oInt_i, oInt_b, oAbs_i, oMax2_i, oMin2_i, oIs_n, oIs_i, oIs_t, oIs_bb, tru_b, tru_i, if_true, if_false, Bool.false_eq_true, Bool.true_and, Bool.and_true, true_or, or_true, true_and, and_true, reduceIte, decide_true, decide_false, Bool.not_true, Bool.not_false, Nat.reduceAdd, Nat.reduceSub, Nat.reduceLeDiff, Nat.zero_add, Nat.le_refl, and_self, or_self, pwn, ec]; rfl) ?_)
  simp only [startD, List.length_cons, List.length_nil, List.map_cons, List.map_nil, List.replicate_succ, List.replicate_zero, List.cons_append, List.nil_append, List.append_nil, List.set_cons_zero, List.set_cons_succ, Nat.reduceAdd, Nat.reduceSub]
  refine wp_seq (wp_while (fun τ => ∃ (found : List (List Nat)) (m : Nat), Down qs bs found m ∧ τ = [some (.tup (qs.map encQ)), some (.int (qs.length : Int)), some (.lst true (pw (qs.length + 1))), y3, some (.lst true (sums qs (2 ^ qs.length))), some (.lst true (bs.map encB)), some (.int (m : Int)), x7, x8, x9, some (.lst true (fnd found)), none]) (slotN 6) ⟨[], _, Down.start hn, rfl⟩ ?_)
  rintro _ ⟨found, m, hd, rfl⟩
  refine ⟨decide (0 < m), by simp [startD, List.length_cons, List.length_nil, List.map_cons, List.map_nil, List.replicate_succ, List.replicate_zero, List.cons_append, List.nil_append, List.append_nil, eP, eN, gImm, pOp, pVar, pC, qCons, qNil, qStar, xCons, xNil, pTup, pLst, eTup, eLst, pFn, eFn, pCall, eCall, pIf, eIf, cBl, cTru, cAnd, cOr, cNot, kP, kNot, kBl, kTru, pAnd, pOr, pNot, pCh, eOp, oUsub, D.imm, D.imms, D.nof, D.nofs, D.frz, D.frzs, gdN, gdTup, gdNil, gdCons, Option.bind_some, Option.map_some, Option.join_some, List.getElem?_cons_zero, List.getElem?_cons_succ, List.set_cons_zero, List.set_cons_succ, ix0, ix1, ix2, ix3, oAdd_i, oSub_i, oMul_i, oDiv_i, oMod_i, oLt_i, oLe_i, oGt_i, oGe_i, oEq_i, oNe_i, oInt_i, oInt_b, oAbs_i, oMax2_i, oMin2_i, oIs_n, oIs_i, oIs_t, oIs_bb, tru_b, tru_i], fun hb0 => ?_, fun hb0 => ?_⟩
  · have hm0 : 0 < m := by simpa using hb0
    have z := B.at_ m hm0 (by have := hd.lt; omega)
    have ol := off_lt hn hd.lt z.mem
    have ln := (mem_places.mp z.mem).1
    have sg : oIx (.lst true (sums qs (2 ^ qs.length))) (.int (m : Int)) = some (encQ (S qs m)) := sums_get hd.lt
    have bb := ix_best1 (o := true) z
    have sm := hd.small hn
    -- the last two rows of a turn
    have tail : ∀ (init : List (List Nat)) (lot : List Nat), lot.length ≤ 8 → Down qs bs (init ++ [lot ++ [lOf bs m]]) (m - 2 ^ lOf bs m) →
        WP (fSeq (fApp1 10 (fun τ => ((pC (.int 1)) τ).bind oUsub) (pOp oIx (pOp oIx (pVar 5) (pVar 6)) (pC (.int 1)))) (fSet 6 (eP (gImm (pOp oSub (pVar 6) (pOp oIx (pVar 2) (pOp oIx (pOp oIx (pVar 5) (pVar 6)) (pC (.int 1)))))))) [some (.tup (qs.map encQ)), some (.int (qs.length : Int)), some (.lst true (pw (qs.length + 1))), y3, some (.lst true (sums qs (2 ^ qs.length))), some (.lst true (bs.map encB)), some (.int (m : Int)), x7, x8, x9, some (.lst true (fnd (init ++ [lot]))), none])
          (Lp (fun τ' => (∃ (found : List (List Nat)) (m : Nat), Down qs bs found m ∧ τ' = [some (.tup (qs.map encQ)), some (.int (qs.length : Int)), some (.lst true (pw (qs.length + 1))), y3, some (.lst true (sums qs (2 ^ qs.length))), some (.lst true (bs.map encB)), some (.int (m : Int)), x7, x8, x9, some (.lst true (fnd found)), none]) ∧ slotN 6 τ' < slotN 6 [some (.tup (qs.map encQ)), some (.int (qs.length : Int)), some (.lst true (pw (qs.length + 1))), y3, some (.lst true (sums qs (2 ^ qs.length))), some (.lst true (bs.map encB)), some (.int (m : Int)), x7, x8, x9, some (.lst true (fnd found)), none])
            (Sq (fFrz 10 (fRet (eP (pCall oTuple (qCons (pCall oSorted (qCons (pLc (iSeq (gImm (pVar 10))) (gdN 11) cYes (pCall oTuple (qCons (pCall oSorted (qCons (pVar 11) qNil)) qNil)) [11]) qNil)) qNil))))) fun o => ∃ r, (∃ lots, r = encLots lots ∧ LotsOk qs lots ∧ IsMost (qAt qs) (List.range qs.length) lots.length) ∧ Rt r o)) := by
      intro init lot l8 hD
      refine wp_seq (wp_app1 (ds := fnd init) (es := lotD lot) (d := .int (lOf bs m : Int)) ?_ rfl ?_ rfl ?_ ?_)
      · rw [fnd_app]; rfl
      · simp only [startD, List.length_cons, List.length_nil, List.map_cons, List.map_nil, List.replicate_succ, List.replicate_zero, List.cons_append, List.nil_append, List.append_nil, eP, eN, gImm, pOp, pVar, pC, qCons, qNil, qStar, xCons, xNil, pTup, pLst, eTup, eLst, pFn, eFn, pCall, eCall, pIf, eIf, cBl, cTru, cAnd, cOr, cNot, kP, kNot, kBl, kTru, pAnd, pOr, pNot, pCh, eOp, oUsub, D.imm, D.imms, D.nof, D.nofs, D.frz, D.frzs, gdN, gdTup, gdNil, gdCons, Option.bind_some, Option.map_some, Option.join_some, List.getElem?_cons_zero, List.getElem?_cons_succ, List.set_cons_zero, List.set_cons_succ, ix0, ix1, ix2, ix3, oAdd_i, oSub_i, oMul_i, oDiv_i, oMod_i, oLt_i, oLe_i, oGt_i, oGe_i, oEq_i, oNe_i, oInt_i, oInt_b, oAbs_i, oMax2_i, oMin2_i, oIs_n, oIs_i, oIs_t, oIs_bb, tru_b, tru_i, if_true, if_false, Bool.false_eq_true, Bool.true_and, Bool.and_true, true_or, or_true, true_and, and_true, reduceIte, decide_true, decide_false, Bool.not_true, Bool.not_false, Nat.reduceAdd, Nat.reduceSub, Nat.reduceLeDiff, Nat.zero_add, Nat.le_refl, and_self, or_self]; exact bb
      · rw [lotD_len]; omega
      · simp only [startD, List.length_cons, List.length_nil, List.map_cons, List.map_nil, List.replicate_succ, List.replicate_zero, List.cons_append, List.nil_append, List.append_nil, List.set_cons_zero, List.set_cons_succ, Nat.reduceAdd, Nat.reduceSub]
        refine wp_setP (d := .int ((m - 2 ^ lOf bs m : Nat) : Int)) ?_ (.inl rfl) ?_
        · simp only [startD, List.length_cons, List.length_nil, List.map_cons, List.map_nil, List.replicate_succ, List.replicate_zero, List.cons_append, List.nil_append, List.append_nil, eP, eN, gImm, pOp, pVar, pC, qCons, qNil, qStar, xCons, xNil, pTup, pLst, eTup, eLst, pFn, eFn, pCall, eCall, pIf, eIf, cBl, cTru, cAnd, cOr, cNot, kP, kNot, kBl, kTru, pAnd, pOr, pNot, pCh, eOp, oUsub, D.imm, D.imms, D.nof, D.nofs, D.frz, D.frzs, gdN, gdTup, gdNil, gdCons, Option.bind_some, Option.map_some, Option.join_some, List.getElem?_cons_zero, List.getElem?_cons_succ, List.set_cons_zero, List.set_cons_succ, ix0, ix1, ix2, ix3, oAdd_i, oSub_i, oMul_i, oDiv_i, oMod_i, oLt_i, oLe_i, oGt_i, oGe_i, oEq_i, oNe_i, oInt_i, oInt_b, oAbs_i, oMax2_i, oMin2_i, oIs_n, oIs_i, oIs_t, oIs_bb, tru_b, tru_i, if_true, if_false, Bool.false_eq_true, Bool.true_and, Bool.and_true, true_or, or_true, true_and, and_true, reduceIte, decide_true, decide_false, Bool.not_true, Bool.not_false, Nat.reduceAdd, Nat.reduceSub, Nat.reduceLeDiff, Nat.zero_add, Nat.le_refl, and_self, or_self, bb, pw_get (show lOf bs m < qs.length + 1 by omega), cast_off ol.1]
        · refine ⟨⟨_, _, hD, ?_⟩, ?_⟩
          · simp only [startD, List.length_cons, List.length_nil, List.map_cons, List.map_nil, List.replicate_succ, List.replicate_zero, List.cons_append, List.nil_append, List.append_nil, eP, eN, gImm, pOp, pVar, pC, qCons, qNil, qStar, xCons, xNil, pTup, pLst, eTup, eLst, pFn, eFn, pCall, eCall, pIf, eIf, cBl, cTru, cAnd, cOr, cNot, kP, kNot, kBl, kTru, pAnd, pOr, pNot, pCh, eOp, oUsub, D.imm, D.imms, D.nof, D.nofs, D.frz, D.frzs, gdN, gdTup, gdNil, gdCons, Option.bind_some, Option.map_some, Option.join_some, List.getElem?_cons_zero, List.getElem?_cons_succ, List.set_cons_zero, List.set_cons_succ, ix0, ix1, ix2, ix3, oAdd_i, oSub_i, oMul_i, oDiv_i, oMod_i, oLt_i, oLe_i, oGt_i, oGe_i, oEq_i, oNe_i, oInt_i, oInt_b, oAbs_i, oMax2_i, oMin2_i, oIs_n, oIs_i, oIs_t, oIs_bb, tru_b, tru_i, fnd_app, lotD_app]
          · simp only [slotN, startD, List.length_cons, List.length_nil, List.map_cons, List.map_nil, List.replicate_succ, List.replicate_zero, List.cons_append, List.nil_append, List.append_nil, eP, eN, gImm, pOp, pVar, pC, qCons, qNil, qStar, xCons, xNil, pTup, pLst, eTup, eLst, pFn, eFn, pCall, eCall, pIf, eIf, cBl, cTru, cAnd, cOr, cNot, kP, kNot, kBl, kTru, pAnd, pOr, pNot, pCh, eOp, oUsub, D.imm, D.imms, D.nof, D.nofs, D.frz, D.frzs, gdN, gdTup, gdNil, gdCons, Option.bind_some, Option.map_some, Option.join_some, List.getElem?_cons_zero, List.getElem?_cons_succ, List.set_cons_zero, List.set_cons_succ, ix0, ix1, ix2, ix3, oAdd_i, oSub_i, oMul_i, oDiv_i, oMod_i, oLt_i, oLe_i, oGt_i, oGe_i, oEq_i, oNe_i, oInt_i, oInt_b, oAbs_i, oMax2_i, oMin2_i, oIs_n, oIs_i, oIs_t, oIs_bb, tru_b, tru_i, Int.natAbs_natCast]
            exact ol.2
    by_cases w : Wh (S qs m)
    · refine wp_seq (wp_yes ?_ (wp_app (ds := fnd found) (ds0 := fnd found) (d := .lst true []) rfl (by simp [startD, List.length_cons, List.length_nil, List.map_cons, List.map_nil, List.replicate_succ, List.replicate_zero, List.cons_append, List.nil_append, List.append_nil, eP, eN, gImm, pOp, pVar, pC, qCons, qNil, qStar, xCons, xNil, pTup, pLst, eTup, eLst, pFn, eFn, pCall, eCall, pIf, eIf, cBl, cTru, cAnd, cOr, cNot, kP, kNot, kBl, kTru, pAnd, pOr, pNot, pCh, eOp, oUsub, D.imm, D.imms, D.nof, D.nofs, D.frz, D.frzs, gdN, gdTup, gdNil, gdCons, Option.bind_some, Option.map_some, Option.join_some, List.getElem?_cons_zero, List.getElem?_cons_succ, List.set_cons_zero, List.set_cons_succ, ix0, ix1, ix2, ix3, oAdd_i, oSub_i, oMul_i, oDiv_i, oMod_i, oLt_i, oLe_i, oGt_i, oGe_i, oEq_i, oNe_i, oInt_i, oInt_b, oAbs_i, oMax2_i, oMin2_i, oIs_n, oIs_i, oIs_t, oIs_bb, tru_b, tru_i]; rfl) rfl (by rw [fnd_len]; omega) ?_))
      · simp only [startD, List.length_cons, List.length_nil, List.map_cons, List.map_nil, List.replicate_succ, List.replicate_zero, List.cons_append, List.nil_append, List.append_nil, eP, eN, gImm, pOp, pVar, pC, qCons, qNil, qStar, xCons, xNil, pTup, pLst, eTup, eLst, pFn, eFn, pCall, eCall, pIf, eIf, cBl, cTru, cAnd, cOr, cNot, kP, kNot, kBl, kTru, pAnd, pOr, pNot, pCh, eOp, oUsub, D.imm, D.imms, D.nof, D.nofs, D.frz, D.frzs, gdN, gdTup, gdNil, gdCons, Option.bind_some, Option.map_some, Option.join_some, List.getElem?_cons_zero, List.getElem?_cons_succ, List.set_cons_zero, List.set_cons_succ, ix0, ix1, ix2, ix3, oAdd_i, oSub_i, oMul_i, oDiv_i, oMod_i, oLt_i, oLe_i, oGt_i, oGe_i, oEq_i, oNe_i, oInt_i, oInt_b, oAbs_i, oMax2_i, oMin2_i, oIs_n, oIs_i, oIs_t, oIs_bb, tru_b, tru_i, if_true, if_false, Bool.false_eq_true, Bool.true_and, Bool.and_true, true_or, or_true, true_and, and_true, reduceIte, decide_true, decide_false, Bool.not_true, Bool.not_false, Nat.reduceAdd, Nat.reduceSub, Nat.reduceLeDiff, Nat.zero_add, Nat.le_refl, and_self, or_self, sg, den_enc, den_one, w, decide_true]
      · have e : fnd found ++ [D.lst true []] = fnd (found ++ [[]]) := by rw [fnd_app]; rfl
        rw [e]
        exact tail found [] (by decide) (hd.whole hn hb B hm0 w)
    · obtain ⟨init, lot, rfl, hD⟩ := hd.part hn hb B h.wh hm0 w
      refine wp_seq (wp_no ?_ (wp_nil ?_))
      · simp only [startD, List.length_cons, List.length_nil, List.map_cons, List.map_nil, List.replicate_succ, List.replicate_zero, List.cons_append, List.nil_append, List.append_nil, eP, eN, gImm, pOp, pVar, pC, qCons, qNil, qStar, xCons, xNil, pTup, pLst, eTup, eLst, pFn, eFn, pCall, eCall, pIf, eIf, cBl, cTru, cAnd, cOr, cNot, kP, kNot, kBl, kTru, pAnd, pOr, pNot, pCh, eOp, oUsub, D.imm, D.imms, D.nof, D.nofs, D.frz, D.frzs, gdN, gdTup, gdNil, gdCons, Option.bind_some, Option.map_some, Option.join_some, List.getElem?_cons_zero, List.getElem?_cons_succ, List.set_cons_zero, List.set_cons_succ, ix0, ix1, ix2, ix3, oAdd_i, oSub_i, oMul_i, oDiv_i, oMod_i, oLt_i, oLe_i, oGt_i, oGe_i, oEq_i, oNe_i, oInt_i, oInt_b, oAbs_i, oMax2_i, oMin2_i, oIs_n, oIs_i, oIs_t, oIs_bb, tru_b, tru_i, if_true, if_false, Bool.false_eq_true, Bool.true_and, Bool.and_true, true_or, or_true, true_and, and_true, reduceIte, decide_true, decide_false, Bool.not_true, Bool.not_false, Nat.reduceAdd, Nat.reduceSub, Nat.reduceLeDiff, Nat.zero_add, Nat.le_refl, and_self, or_self, sg, den_enc, den_one, w, decide_false]
      · exact tail init lot (sm.2 lot (by simp)) hD
  · have hm0 : m = 0 := by
      have : ¬ 0 < m := by simpa using hb0
      omega
    subst hm0
    obtain ⟨lots, h1, h2, h3, h4⟩ := lots_of hl.1 hd
    refine wp_frz rfl (frz_fnd found) (wp_retP (d := encLots lots) ?_ (.inl ?_) ?_)
    · have lc : ∀ τ : DS, lcD (gdN 11) cYes (pCall oTuple (qCons (pCall oSorted (qCons (pVar 11) qNil)) qNil)) [some (.tup (qs.map encQ)), some (.int (qs.length : Int)), some (.lst true (pw (qs.length + 1))), y3, some (.lst true (sums qs (2 ^ qs.length))), some (.lst true (bs.map encB)), some (.int ((0 : Nat) : Int)), x7, x8, x9, some (.lst false (found.map fun l => .lst false (lotD l))), none] (found.map fun l => .lst false (lotD l)) = some (found.map fun l => encLot (ascN l)) := fun τ => lc_all _ _ _ fun l hl => ⟨_, rfl, by
        simp only [startD, List.length_cons, List.length_nil, List.map_cons, List.map_nil, List.replicate_succ, List.replicate_zero, List.cons_append, List.nil_append, List.append_nil, eP, eN, gImm, pOp, pVar, pC, qCons, qNil, qStar, xCons, xNil, pTup, pLst, eTup, eLst, pFn, eFn, pCall, eCall, pIf, eIf, cBl, cTru, cAnd, cOr, cNot, kP, kNot, kBl, kTru, pAnd, pOr, pNot, pCh, eOp, oUsub, D.imm, D.imms, D.nof, D.nofs, D.frz, D.frzs, gdN, gdTup, gdNil, gdCons, Option.bind_some, Option.map_some, Option.join_some, List.getElem?_cons_zero, List.getElem?_cons_succ, List.set_cons_zero, List.set_cons_succ, ix0, ix1, ix2, ix3, oAdd_i, oSub_i, oMul_i, oDiv_i, oMod_i, oLt_i, oLe_i, oGt_i, oGe_i, oEq_i, oNe_i, oInt_i, oInt_b, oAbs_i, oMax2_i, oMin2_i, oIs_n, oIs_i, oIs_t, oIs_bb, tru_b, tru_i, oSorted_l (srt_lotD l), sort_lotD]
        simp [oTuple, D.seq?, imms_lotD, encLot]⟩
      have im : D.imms (found.map fun l => D.lst false (lotD l)) = true := imms_map (fun l => by simp [D.imm, imms_lotD]) found
      have ln : (found.map fun l => D.lst false (lotD l)).length ≤ 16777216 := by
        have := (hd.small hn).1
        rw [List.length_map]
        omega
      have e1 : pLc (iSeq (gImm (pVar 10))) (gdN 11) cYes (pCall oTuple (qCons (pCall oSorted (qCons (pVar 11) qNil)) qNil)) [11] [some (.tup (qs.map encQ)), some (.int (qs.length : Int)), some (.lst true (pw (qs.length + 1))), y3, some (.lst true (sums qs (2 ^ qs.length))), some (.lst true (bs.map encB)), some (.int ((0 : Nat) : Int)), x7, x8, x9, some (.lst false (found.map fun l => .lst false (lotD l))), none] = some (.lst true (found.map fun l => encLot (ascN l))) := by
        refine lc_eq (ds := found.map fun l => D.lst false (lotD l)) ?_ ln rfl (lc [])
        simp [iSeq, startD, List.length_cons, List.length_nil, List.map_cons, List.map_nil, List.replicate_succ, List.replicate_zero, List.cons_append, List.nil_append, List.append_nil, eP, eN, gImm, pOp, pVar, pC, qCons, qNil, qStar, xCons, xNil, pTup, pLst, eTup, eLst, pFn, eFn, pCall, eCall, pIf, eIf, cBl, cTru, cAnd, cOr, cNot, kP, kNot, kBl, kTru, pAnd, pOr, pNot, pCh, eOp, oUsub, D.imm, D.imms, D.nof, D.nofs, D.frz, D.frzs, gdN, gdTup, gdNil, gdCons, Option.bind_some, Option.map_some, Option.join_some, List.getElem?_cons_zero, List.getElem?_cons_succ, List.set_cons_zero, List.set_cons_succ, ix0, ix1, ix2, ix3, oAdd_i, oSub_i, oMul_i, oDiv_i, oMod_i, oLt_i, oLe_i, oGt_i, oGe_i, oEq_i, oNe_i, oInt_i, oInt_b, oAbs_i, oMax2_i, oMin2_i, oIs_n, oIs_i, oIs_t, oIs_bb, tru_b, tru_i, im, D.items, D.seq?]
      simp only [startD, List.length_cons, List.length_nil, List.map_cons, List.map_nil, List.replicate_succ, List.replicate_zero, List.cons_append, List.nil_append, List.append_nil, eP, eN, gImm, pOp, pVar, pC, qCons, qNil, qStar, xCons, xNil, pTup, pLst, eTup, eLst, pFn, eFn, pCall, eCall, pIf, eIf, cBl, cTru, cAnd, cOr, cNot, kP, kNot, kBl, kTru, pAnd, pOr, pNot, pCh, eOp, oUsub, D.imm, D.imms, D.nof, D.nofs, D.frz, D.frzs, gdN, gdTup, gdNil, gdCons, Option.bind_some, Option.map_some, Option.join_some, List.getElem?_cons_zero, List.getElem?_cons_succ, List.set_cons_zero, List.set_cons_succ, ix0, ix1, ix2, ix3, oAdd_i, oSub_i, oMul_i, oDiv_i, oMod_i, oLt_i, oLe_i, oGt_i, oGe_i, oEq_i, oNe_i, oInt_i, oInt_b, oAbs_i, oMax2_i, oMin2_i, oIs_n, oIs_i, oIs_t, oIs_bb, tru_b, tru_i, e1, oSorted_l h4, h3]
      have im2 : D.imms (lots.map encLot) = true := imms_map imm_encLot lots
      simp [oTuple, D.seq?, im2, encLots, D.imm]
    · simp [encLots, D.imm, imms_map imm_encLot lots]
    · refine ⟨_, ⟨lots, rfl, h1, ?_⟩, _, rfl⟩
      have z := best_most hn B hb _ hm
      rw [places_full hn] at z
      have e := hd.num
      rw [cOf_zero B, Nat.add_zero, ← h2] at e
      rw [e]
      exact z
end Mt
set_option Elab.async false
set_option linter.all false
set_option maxRecDepth 100000
set_option maxHeartbeats 1000000
/-! Pairs: what is worn by part, by place; their number. -/
namespace DL
open PySem PySem.Spec PyProof.Rows L2
theorem wp_whileI {c : DS → Option Bool} {f : DS → Option Out} {τ : DS} {Q : Out → Prop} (I : Nat → DS → Prop) {k : Nat} (h0 : I k τ) (hs : ∀ k τ, I k τ → ∃ b, c τ = some b ∧ (b = true → WP (f τ) (Lp (fun τ' => ∃ k' < k, I k' τ') Q)) ∧ (b = false → Q (.nx τ))) : WP (fWhile c f τ) Q := by
  have key : ∀ (n k : Nat) (τ : DS), k < n → I k τ → WP (whileN c f n τ) Q := fun n => by
    induction n with
    | zero => exact fun k τ h => absurd h (Nat.not_lt_zero _)
    | succ n ih =>
      intro k τ hm hi
      obtain ⟨b, e1, e2, e3⟩ := hs k τ hi
      unfold whileN
      rw [e1, Option.bind_some]
      cases b with
      | true =>
        obtain ⟨o, e4, h4⟩ := e2 rfl
        rw [if_pos rfl, e4, Option.bind_some]
        cases o with
        | nx τ2 => obtain ⟨k', l, h4⟩ := h4; exact ih k' τ2 (by omega) h4
        | ct τ2 => obtain ⟨k', l, h4⟩ := h4; exact ih k' τ2 (by omega) h4
        | bk τ2 => exact ⟨_, rfl, h4⟩
        | rt d τ2 => exact ⟨_, rfl, h4⟩
      | false =>
        rw [if_neg Bool.false_ne_true]
        exact ⟨_, rfl, e3 rfl⟩
  obtain ⟨o, e, h⟩ := key (k + 1) k τ (Nat.lt_succ_self _) h0
  exact ⟨o, fWhile_of e, h⟩
end DL
namespace Mt
open DL Wk PySem L2
abbrev Tri : Type := Nat × Nat × Rat
def wsum (c : Tri → Bool) (ts : List Tri) : Rat := qsum ((ts.filter c).map (·.2.2))
def psum (ts : List Tri) (p : Nat) : Rat := wsum (fun t => t.1 == p) ts
def lsum (ts : List Tri) (i : Nat) : Rat := wsum (fun t => t.2.1 == i) ts
theorem wsum_app {c : Tri → Bool} {ts us : List Tri} : wsum c (ts ++ us) = wsum c ts + wsum c us := by
  unfold wsum
  rw [List.filter_append, List.map_append, qsum_app]
theorem wsum_snoc {c : Tri → Bool} {ts : List Tri} {t : Tri} : wsum c (ts ++ [t]) = wsum c ts + if c t = true then t.2.2 else 0 := by
  rw [wsum_app]
  congr 1
  unfold wsum
  by_cases h : c t = true
  · rw [List.filter_cons_of_pos h, if_pos h]
    simp [qsum, Rat.add_zero]
  · rw [List.filter_cons_of_neg h, if_neg h]
    rfl
theorem wsum_perm {c : Tri → Bool} {ts us : List Tri} (h : ts.Perm us) : wsum c ts = wsum c us := qsum_perm ((h.filter c).map _)
theorem qsum_pos : ∀ {l : List Rat}, (∀ q ∈ l, 0 < q) → l ≠ [] → 0 < qsum l
  | [], _, h => absurd rfl h
  | q :: r, h, _ => by
    have h1 := h q List.mem_cons_self
    have h2 := qsum_nonneg (qs := r) fun x hx => by have := h x (List.mem_cons_of_mem _ hx); grind
    rw [qsum]
    grind
theorem wsum_none {c : Tri → Bool} {ts : List Tri} (hp : ∀ t ∈ ts, 0 < t.2.2) (h : wsum c ts = 0) : ∀ t ∈ ts, c t = false := by
  intro t ht
  cases e : c t with
  | false => rfl
  | true =>
    have m : t ∈ ts.filter c := List.mem_filter.mpr ⟨ht, e⟩
    have := qsum_pos (l := (ts.filter c).map (·.2.2)) (fun q hq => by
      obtain ⟨u, hu, rfl⟩ := List.mem_map.mp hq
      exact hp u (List.mem_filter.mp hu).1) (by intro z; rw [List.map_eq_nil_iff] at z; rw [z] at m; cases m)
    unfold wsum at h
    rw [h] at this
    exact absurd this (by decide)
def nam (t : Tri) : Nat × Nat := (t.1, t.2.1)
structure PInv (f : Nat → Rat) (P : List Nat) (a : Nat) (u : Rat) (found : List Tri) (part : Nat) (left : Rat) : Prop where
  sp : ∀ p, psum found p = if p < part then 1 else if p = part then 1 - left else 0
  sl : ∀ i, lsum found i = if i ∈ P then f i else if i = a then u else 0
  nd : (found.map nam).Nodup
  pos : ∀ t ∈ found, 0 < t.2.2 ∧ Tw t.2.2 ∧ t.2.2 ≤ 1 ∧ t.1 ≤ part ∧ (t.2.1 ∈ P ∨ t.2.1 = a)
  l0 : 0 < left
  l1 : left ≤ 1
  lt : Tw left
  tot : (part : Rat) + (1 - left) = qsum (P.map f) + u
  num : found.length + cnt f 0 P = P.length + part
  mid : u = 0 ∨ left = 1
section
variable {f : Nat → Rat} {P : List Nat} {a : Nat} {u left : Rat} {found : List Tri} {part : Nat}
theorem PInv.fresh (h : PInv f P a u found part left) (ha : a ∉ P) : (part, a) ∉ found.map nam := by
  intro hm
  obtain ⟨t, ht, e⟩ := List.mem_map.mp hm
  simp only [nam, Prod.mk.injEq] at e
  have hp : ∀ t ∈ found, 0 < t.2.2 := fun t ht => (h.pos t ht).1
  rcases h.mid with hu | hl
  · have z := wsum_none (c := fun t => t.2.1 == a) hp (by have := h.sl a; rw [if_neg ha, if_pos rfl, hu] at this; exact this) t ht
    simp [e.2] at z
  · have z := wsum_none (c := fun t => t.1 == part) hp (by have := h.sp part; rw [if_neg (Nat.lt_irrefl _), if_pos rfl, hl] at this; exact this.trans (by grind)) t ht
    simp [e.1] at z
theorem wh_nat (n : Nat) : Wh (n : Rat) := rfl
theorem not_wh {q : Rat} (h0 : 0 < q) (h1 : q < 1) : ¬ Wh q := by
  intro w
  rw [w.eq] at h0 h1
  have a1 : (0 : Int) < q.num := by exact_mod_cast h0
  have a2 : q.num < (1 : Int) := by exact_mod_cast h1
  omega
/-- the part is worn out, the place not yet -/
theorem PInv.part_end (h : PInv f P a u found part left) (ha : a ∉ P) (h1 : left < f a - u) : PInv f P a (u + left) (found ++ [(part, a, left)]) (part + 1) 1 := by
  refine ⟨fun p => ?_, fun i => ?_, ?_, ?_, by decide, by decide, Tw.one, ?_, ?_, .inr rfl⟩
  · have := h.sp p
    unfold psum at *
    rw [wsum_snoc, this]
    by_cases e : part = p
    · subst e
      simp
      grind
    · have e' : ¬ p = part := fun w => e w.symm
      simp [e, e']
      by_cases q : p < part
      · rw [if_pos q, if_pos (by omega)]; grind
      · rw [if_neg q, if_neg (by omega)]; grind
  · have := h.sl i
    unfold lsum at *
    rw [wsum_snoc, this]
    by_cases q : i ∈ P
    · have : ¬ a = i := fun w => ha (w ▸ q)
      simp [q, this]
      grind
    · by_cases e : a = i
      · subst e
        simp [q]
      · have e' : ¬ i = a := fun w => e w.symm
        simp [q, e, e']
        grind
  · rw [List.map_append, List.nodup_append]
    refine ⟨h.nd, by simp, ?_⟩
    intro x hx y hy
    simp only [List.map_cons, List.map_nil, List.mem_singleton] at hy
    subst hy
    intro w
    subst w
    exact h.fresh ha hx
  · intro t ht
    rcases List.mem_append.mp ht with ht | ht
    · obtain ⟨p1, p2, p3, p4, p5⟩ := h.pos t ht
      exact ⟨p1, p2, p3, by omega, p5⟩
    · rw [List.mem_singleton.mp ht]
      exact ⟨h.l0, h.lt, h.l1, by simp, .inr rfl⟩
  · have := h.tot
    have e : ((part + 1 : Nat) : Rat) = (part : Rat) + 1 := by simp
    rw [e]
    grind
  · have := h.num
    rw [List.length_append, List.length_singleton]
    omega
/-- the place is worn out; then the next one, b -/
theorem PInv.place_end (h : PInv f P a u found part left) (ha : a ∉ P) (hu : u < f a) (ht : Tw (f a - u)) (h1 : f a - u ≤ left) :
    (f a - u < left → PInv f (P ++ [a]) a 0 (found ++ [(part, a, f a - u)]) part (left - (f a - u))) ∧
    (f a - u = left → PInv f (P ++ [a]) a 0 (found ++ [(part, a, f a - u)]) (part + 1) 1) := by
  have t1 := h.tot
  have sumE : qsum ((P ++ [a]).map f) = qsum (P.map f) + f a := by
    rw [List.map_append, qsum_app]
    simp [qsum, Rat.add_zero]
  have hsl : ∀ i, lsum (found ++ [(part, a, f a - u)]) i = if i ∈ P ++ [a] then f i else if i = a then 0 else 0 := fun i => by
    have := h.sl i
    unfold lsum at *
    rw [wsum_snoc, this]
    by_cases q : i ∈ P
    · have : ¬ a = i := fun w => ha (w ▸ q)
      simp [q, this]
      grind
    · by_cases e : a = i
      · subst e
        simp [q]
        grind
      · have e' : ¬ i = a := fun w => e w.symm
        simp [q, e, e']
        grind
  have hnd : ((found ++ [(part, a, f a - u)]).map nam).Nodup := by
    rw [List.map_append, List.nodup_append]
    refine ⟨h.nd, by simp, ?_⟩
    intro x hx y hy
    simp only [List.map_cons, List.map_nil, List.mem_singleton] at hy
    subst hy
    intro w
    subst w
    exact h.fresh ha hx
  have cs : cnt f 0 (P ++ [a]) = cnt f 0 P + if Wh (qsum (P.map f) + f a) then 1 else 0 := by
    rw [cnt_app, cnt, cnt, Rat.zero_add]
    omega
  have hl1 := h.l1
  have hl0 := h.l0
  refine ⟨fun hlt => ⟨fun p => ?_, hsl, hnd, ?_, ?_, ?_, h.lt.sub ht, ?_, ?_, .inl rfl⟩, fun heq => ⟨fun p => ?_, hsl, hnd, ?_, by decide, by decide, Tw.one, ?_, ?_, .inl rfl⟩⟩
  · have := h.sp p
    unfold psum at *
    rw [wsum_snoc, this]
    by_cases e : part = p
    · subst e
      simp
      grind
    · have e' : ¬ p = part := fun w => e w.symm
      simp [e, e']
      grind
  · intro t ht'
    rcases List.mem_append.mp ht' with ht' | ht'
    · obtain ⟨p1, p2, p3, p4, p5⟩ := h.pos t ht'
      exact ⟨p1, p2, p3, p4, .inl (by rcases p5 with z | z <;> simp [z])⟩
    · rw [List.mem_singleton.mp ht']
      exact ⟨by grind, ht, by grind, by simp, .inl (by simp)⟩
  · grind
  · grind
  · rw [sumE]
    grind
  · have := h.num
    have nw : ¬ Wh (qsum (P.map f) + f a) := by
      have e : qsum (P.map f) + f a = ((part + 1 : Nat) : Rat) - (left - (f a - u)) := by
        have e : ((part + 1 : Nat) : Rat) = (part : Rat) + 1 := by simp
        rw [e]
        grind
      intro w
      refine not_wh (q := left - (f a - u)) (by grind) (by grind) ?_
      have e2 : left - (f a - u) = ((part + 1 : Nat) : Rat) - (qsum (P.map f) + f a) := by rw [e]; grind
      rw [e2]
      exact (wh_nat _).sub w
    rw [cs, if_neg nw, List.length_append, List.length_append, List.length_singleton, List.length_singleton]
    omega
  · have := h.sp p
    unfold psum at *
    rw [wsum_snoc, this]
    by_cases e : part = p
    · subst e
      simp
      grind
    · have e' : ¬ p = part := fun w => e w.symm
      simp [e, e']
      by_cases q : p < part
      · rw [if_pos q, if_pos (by omega)]; grind
      · rw [if_neg q, if_neg (by omega)]; grind
  · intro t ht'
    rcases List.mem_append.mp ht' with ht' | ht'
    · obtain ⟨p1, p2, p3, p4, p5⟩ := h.pos t ht'
      exact ⟨p1, p2, p3, by omega, .inl (by rcases p5 with z | z <;> simp [z])⟩
    · rw [List.mem_singleton.mp ht']
      exact ⟨by grind, ht, by grind, by simp, .inl (by simp)⟩
  · have e : ((part + 1 : Nat) : Rat) = (part : Rat) + 1 := by simp
    rw [sumE, e]
    grind
  · have := h.num
    have w : Wh (qsum (P.map f) + f a) := by
      have e : qsum (P.map f) + f a = ((part + 1 : Nat) : Rat) := by
        have e : ((part + 1 : Nat) : Rat) = (part : Rat) + 1 := by simp
        rw [e]
        grind
      rw [e]
      exact wh_nat _
    rw [cs, if_pos w, List.length_append, List.length_append, List.length_singleton, List.length_singleton]
    omega
theorem PInv.start (f : Nat → Rat) (a : Nat) : PInv f [] a 0 [] 0 1 := by
  refine ⟨fun p => ?_, fun i => ?_, by simp, fun t ht => (by cases ht), by decide, by decide, Tw.one, by simp [qsum]; grind, by simp [cnt], .inl rfl⟩
  · simp [psum, wsum, qsum]
    intro _
    grind
  · simp [lsum, wsum, qsum]
/-- between two places the next one's name is free -/
theorem PInv.next {b : Nat} (h : PInv f P a 0 found part left) : PInv f P b 0 found part left := by
  have hp : ∀ t ∈ found, 0 < t.2.2 := fun t ht => (h.pos t ht).1
  have sl : ∀ i, lsum found i = if i ∈ P then f i else 0 := fun i => by
    rw [h.sl i]
    split
    · rfl
    · split <;> rfl
  refine ⟨h.sp, fun i => ?_, h.nd, fun t ht => ?_, h.l0, h.l1, h.lt, h.tot, h.num, .inl rfl⟩
  · rw [sl i]
    split
    · rfl
    · split <;> rfl
  · obtain ⟨p1, p2, p3, p4, p5⟩ := h.pos t ht
    refine ⟨p1, p2, p3, p4, ?_⟩
    by_cases q : t.2.1 ∈ P
    · exact .inl q
    · have z := wsum_none (c := fun u => u.2.1 == t.2.1) hp (by have := sl t.2.1; rw [if_neg q] at this; exact this) t ht
      simp at z
end
end Mt
set_option Elab.async false
set_option linter.all false
set_option maxRecDepth 100000
set_option maxHeartbeats 2000000
/-! The program's pairs. -/
namespace Mt
open DL Wk PySem L2
def encT (t : Tri) : D := .tup [.int (t.1 : Int), .int (t.2.1 : Int), encQ t.2.2]
theorem imm_encT (t : Tri) : (encT t).imm = true := by simp [encT, D.imm, D.imms, imm_encQ]
theorem nof_encT (t : Tri) : (encT t).nof = true := by simp [encT, D.nof, D.nofs, nof_encQ]
theorem frz_encT (t : Tri) : (encT t).frz = encT t := by simp [encT, D.frz, D.frzs, frz_encQ]
structure PairsOk (qs : List Rat) (N : Nat) (ts : List Tri) : Prop where
  ps : ∀ p < N, psum ts p = 1
  ls : ∀ i < qs.length, lsum ts i = qAt qs i
  nd : (ts.map nam).Nodup
  pos : ∀ t ∈ ts, 0 < t.2.2 ∧ Tw t.2.2 ∧ t.2.2 ≤ 1 ∧ t.1 < N ∧ t.2.1 < qs.length
theorem PairsOk.perm {qs : List Rat} {N : Nat} {ts us : List Tri} (h : PairsOk qs N ts) (p : ts.Perm us) : PairsOk qs N us := by
  refine ⟨fun k hk => ?_, fun i hi => ?_, (p.map nam).nodup_iff.mp h.nd, fun t ht => h.pos t (p.mem_iff.mpr ht)⟩
  · unfold psum
    rw [← wsum_perm p]
    exact h.ps k hk
  · unfold lsum
    rw [← wsum_perm p]
    exact h.ls i hi
theorem tw_nat {q : Rat} (h : Tw q) (h0 : 0 ≤ q) : ∃ k : Nat, q * 12 = (k : Rat) := by
  obtain ⟨k, e⟩ := h
  have : (0 : Rat) ≤ (k : Rat) := by rw [← e]; grind
  have hk : 0 ≤ k := by exact_mod_cast this
  obtain ⟨n, rfl⟩ := Int.eq_ofNat_of_zero_le hk
  exact ⟨n, e⟩
theorem tw_sm {q : Rat} (h : Tw q) (h0 : 0 ≤ q) (h1 : q ≤ 60) : Sm q := (h.fr6 (B := 60) h0 h1 (by decide)).sm
theorem cnt_flat {f : Nat → Rat} : ∀ {lots : List (List Nat)}, (∀ l ∈ lots, l ≠ [] ∧ Wh (qsum (l.map f))) → lots.length ≤ cnt f 0 lots.flatten
  | [], _ => Nat.zero_le _
  | l :: r, h => by
    obtain ⟨h1, h2⟩ := h l List.mem_cons_self
    have ih := cnt_flat (lots := r) fun x hx => h x (List.mem_cons_of_mem _ hx)
    have c1 := cnt_pos (f := f) (s := 0) h1 (by rw [Rat.zero_add]; exact h2)
    rw [List.flatten_cons, cnt_app, Rat.zero_add, cnt_zero h2, List.length_cons]
    omega
theorem py_encT {t u : Tri} : (encT t).py = (encT u).py ↔ t = u := by
  obtain ⟨a, b, c⟩ := t
  obtain ⟨a', b', c'⟩ := u
  simp only [encT, D.py, D.pys, PyData.tuple.injEq, List.cons.injEq, PyData.int.injEq, and_true, py_encQ, Prod.mk.injEq]
  constructor
  · rintro ⟨h1, h2, h3⟩
    exact ⟨by omega, by omega, h3⟩
  · rintro ⟨rfl, rfl, rfl⟩
    exact ⟨rfl, rfl, rfl⟩
theorem alike_encQ (p q : Rat) : PySem.W.alike (encQ p).py (encQ q).py = true := by simp [encQ, D.py, D.pys, PySem.W.alike, PySem.W.alikeAll]
theorem srt_tris (ts : List Tri) : D.srt? (ts.map encT) = true := by
  simp only [D.srt?, Bool.and_eq_true, Bool.or_eq_true, List.all_eq_true, List.mem_map, decide_eq_true_eq]
  refine ⟨⟨⟨imms_map imm_encT ts, ?_⟩, ?_⟩, .inl ?_⟩
  · rintro _ ⟨i, _, rfl⟩
    simp [encT, encQ, D.py, D.pys, PyData.canLay0, PyData.canLayAll0, PyData.depth, PyData.depthAll]
  · rintro _ ⟨i, _, rfl⟩ _ ⟨j, _, rfl⟩
    have := alike_encQ i.2.2 j.2.2
    simp [encT, D.py, D.pys, PySem.W.alike, PySem.W.alikeAll, this]
  · rintro _ ⟨i, hi, rfl⟩
    rfl
def parNeq : DS → Option Bool := cBl (pOp oNe (pVar 7) (pC (.tup [(.int 0), (.int 1)])))
theorem told_pairs_spec {qs : List Rat} {lots : List (List Nat)} {N : Nat} (h : Needs qs) (hN : qsum qs = (N : Rat)) (hl : LotsOk qs lots) (hm : IsMost (qAt qs) (List.range qs.length) lots.length) :
    ∃ r, (∃ ts, r = .tup (ts.map encT) ∧ PairsOk qs N ts ∧ LeP (ts.map encT) ∧ ts.length + lots.length = N + qs.length) ∧ g_told_pairs [.tup (qs.map encQ), encLots lots] = some r := by
  have tw := h.twl
  have nd0 : lots.flatten.Nodup := hl.perm.nodup_iff.mpr List.nodup_range
  have mem0 : ∀ i, i ∈ lots.flatten ↔ i < qs.length := fun i => by rw [hl.perm.mem_iff, List.mem_range]
  have N60 : N ≤ 60 := by
    have := h.le
    rw [hN] at this
    exact_mod_cast this
  refine g_wpx rfl ?_
  unfold b_told_pairs
  simp only [startD, List.length_cons, List.length_nil, List.map_cons, List.map_nil, List.replicate_succ, List.replicate_zero, List.cons_append, List.nil_append, List.append_nil, List.set_cons_zero, List.set_cons_succ, Nat.reduceAdd, Nat.reduceSub, N_told_pairs]
  refine wp_seq (wp_par3P (x := .lst true []) (y := .int 0) (z := encQ 1) rfl (.inr rfl) rfl (.inl rfl) rfl (.inl rfl) ?_)
  simp only [startD, List.length_cons, List.length_nil, List.map_cons, List.map_nil, List.replicate_succ, List.replicate_zero, List.cons_append, List.nil_append, List.append_nil, List.set_cons_zero, List.set_cons_succ, Nat.reduceAdd, Nat.reduceSub]
  refine wp_seq (wp_forL (enc := encLot) (xs := lots) (fun pre τ => ∃ (found : List Tri) (part : Nat) (left : Rat) (x5 x6 x7 x8 : Option D), PInv (qAt qs) pre.flatten 0 0 found part left ∧ τ = [some (.tup (qs.map encQ)), some (encLots lots), some (.lst true (found.map encT)), some (.int (part : Int)), some (encQ left), x5, x6, x7, x8]) ?h1 ?h2 ?h3 ?h4)
  case h1 => simp [iSeq, startD, List.length_cons, List.length_nil, List.map_cons, List.map_nil, List.replicate_succ, List.replicate_zero, List.cons_append, List.nil_append, List.append_nil, eP, eN, gImm, pOp, pVar, pC, qCons, qNil, qStar, xCons, xNil, pTup, pLst, eTup, eLst, pFn, eFn, pCall, eCall, pIf, eIf, cBl, cTru, cAnd, cOr, cNot, kP, kNot, kBl, kTru, pAnd, pOr, pNot, pCh, eOp, oUsub, D.imm, D.imms, D.nof, D.nofs, D.frz, D.frzs, gdN, gdTup, gdNil, gdCons, Option.bind_some, Option.map_some, Option.join_some, List.getElem?_cons_zero, List.getElem?_cons_succ, List.set_cons_zero, List.set_cons_succ, ix0, ix1, ix2, ix3, oAdd_i, oSub_i, oMul_i, oDiv_i, oMod_i, oLt_i, oLe_i, oGt_i, oGe_i, oEq_i, oNe_i, oInt_i, oInt_b, oAbs_i, oMax2_i, oMin2_i, oIs_n, oIs_i, oIs_t, oIs_bb, tru_b, tru_i, encLots, D.items, D.seq?, imms_map imm_encLot lots]
  case h2 => exact ⟨[], 0, 1, none, none, none, none, PInv.start _ _, rfl⟩
  case h3 =>
    rintro pre lot post _ el ⟨found, part, left, x5, x6, x7, x8, hI, rfl⟩
    refine ⟨_, rfl, ?_⟩
    simp only [startD, List.length_cons, List.length_nil, List.map_cons, List.map_nil, List.replicate_succ, List.replicate_zero, List.cons_append, List.nil_append, List.append_nil, List.set_cons_zero, List.set_cons_succ, Nat.reduceAdd, Nat.reduceSub]
    refine wp_forL (enc := fun i : Nat => D.int (i : Int)) (xs := lot) (fun pre2 τ => ∃ (found : List Tri) (part : Nat) (left : Rat) (x6 x7 x8 : Option D), PInv (qAt qs) (pre.flatten ++ pre2) 0 0 found part left ∧ τ = [some (.tup (qs.map encQ)), some (encLots lots), some (.lst true (found.map encT)), some (.int (part : Int)), some (encQ left), some (encLot lot), x6, x7, x8]) ?g1 ?g2 ?g3 ?g4
    case g1 =>
      have := imms_lotD lot
      simp [iSeq, startD, List.length_cons, List.length_nil, List.map_cons, List.map_nil, List.replicate_succ, List.replicate_zero, List.cons_append, List.nil_append, List.append_nil, eP, eN, gImm, pOp, pVar, pC, qCons, qNil, qStar, xCons, xNil, pTup, pLst, eTup, eLst, pFn, eFn, pCall, eCall, pIf, eIf, cBl, cTru, cAnd, cOr, cNot, kP, kNot, kBl, kTru, pAnd, pOr, pNot, pCh, eOp, oUsub, D.imm, D.imms, D.nof, D.nofs, D.frz, D.frzs, gdN, gdTup, gdNil, gdCons, Option.bind_some, Option.map_some, Option.join_some, List.getElem?_cons_zero, List.getElem?_cons_succ, List.set_cons_zero, List.set_cons_succ, ix0, ix1, ix2, ix3, oAdd_i, oSub_i, oMul_i, oDiv_i, oMod_i, oLt_i, oLe_i, oGt_i, oGe_i, oEq_i, oNe_i, oInt_i, oInt_b, oAbs_i, oMax2_i, oMin2_i, oIs_n, oIs_i, oIs_t, oIs_bb, tru_b, tru_i, encLot, D.items, D.seq?, this, lotD] at this ⊢
    case g2 => exact ⟨found, part, left, x6, x7, x8, by rw [List.append_nil]; exact hI, rfl⟩
    case g4 =>
      rintro τ' ⟨found, part, left, x6, x7, x8, hI, rfl⟩
      exact ⟨found, part, left, _, x6, x7, x8, by simpa using hI, rfl⟩
    case g3 =>
      rintro pre2 a post2 _ ea ⟨found, part, left, x6, x7, x8, hI, rfl⟩
      subst ea
      have hflat : lots.flatten = (pre.flatten ++ pre2) ++ a :: (post2 ++ post.flatten) := by rw [el]; simp
      have an : a < qs.length := (mem0 a).mp (by rw [hflat]; simp)
      have aP : a ∉ pre.flatten ++ pre2 := by
        rw [hflat] at nd0
        have := (List.nodup_append.mp nd0).2.2
        intro w
        exact this a w a (by simp) rfl
      have fa1 := h.one _ (qAt_mem an)
      have fa60 : qAt qs a ≤ 60 := Rat.le_trans (qsum_mem_le tw.pos (qAt_mem an)) h.le
      have fatw := h.tw _ (qAt_mem an)
      refine ⟨_, rfl, ?_⟩
      simp only [startD, List.length_cons, List.length_nil, List.map_cons, List.map_nil, List.replicate_succ, List.replicate_zero, List.cons_append, List.nil_append, List.append_nil, List.set_cons_zero, List.set_cons_succ, Nat.reduceAdd, Nat.reduceSub]
      refine wp_seq (wp_setP (d := encQ (qAt qs a)) ?_ (.inl (imm_encQ _)) ?_)
      · simp only [startD, List.length_cons, List.length_nil, List.map_cons, List.map_nil, List.replicate_succ, List.replicate_zero, List.cons_append, List.nil_append, List.append_nil, eP, eN, gImm, pOp, pVar, pC, qCons, qNil, qStar, xCons, xNil, pTup, pLst, eTup, eLst, pFn, eFn, pCall, eCall, pIf, eIf, cBl, cTru, cAnd, cOr, cNot, kP, kNot, kBl, kTru, pAnd, pOr, pNot, pCh, eOp, oUsub, D.imm, D.imms, D.nof, D.nofs, D.frz, D.frzs, gdN, gdTup, gdNil, gdCons, Option.bind_some, Option.map_some, Option.join_some, List.getElem?_cons_zero, List.getElem?_cons_succ, List.set_cons_zero, List.set_cons_succ, ix0, ix1, ix2, ix3, oAdd_i, oSub_i, oMul_i, oDiv_i, oMod_i, oLt_i, oLe_i, oGt_i, oGe_i, oEq_i, oNe_i, oInt_i, oInt_b, oAbs_i, oMax2_i, oMin2_i, oIs_n, oIs_i, oIs_t, oIs_bb, tru_b, tru_i, if_true, if_false, Bool.false_eq_true, Bool.true_and, Bool.and_true, true_or, or_true, true_and, and_true, reduceIte, decide_true, decide_false, Bool.not_true, Bool.not_false, Nat.reduceAdd, Nat.reduceSub, Nat.reduceLeDiff, Nat.zero_add, Nat.le_refl, and_self, or_self, ix_needs an, imm_encQ]
      simp only [startD, List.length_cons, List.length_nil, List.map_cons, List.map_nil, List.replicate_succ, List.replicate_zero, List.cons_append, List.nil_append, List.append_nil, List.set_cons_zero, List.set_cons_succ, Nat.reduceAdd, Nat.reduceSub]
      obtain ⟨k0, hk0⟩ := tw_nat fatw (by grind)
      refine wp_whileI (fun k τ => ∃ (found : List Tri) (part : Nat) (left need : Rat) (x8 : Option D), τ = [some (.tup (qs.map encQ)), some (encLots lots), some (.lst true (found.map encT)), some (.int (part : Int)), some (encQ left), some (encLot (pre2 ++ a :: post2)), some (.int (a : Int)), some (encQ need), x8] ∧ need * 12 = (k : Rat) ∧
        ((∃ u, 0 ≤ u ∧ need = qAt qs a - u ∧ 0 < need ∧ Tw need ∧ PInv (qAt qs) (pre.flatten ++ pre2) a u found part left) ∨ (need = 0 ∧ PInv (qAt qs) (pre.flatten ++ pre2 ++ [a]) a 0 found part left))) (k := k0)
        ⟨found, part, left, qAt qs a, x8, rfl, hk0, .inl ⟨0, by decide, by grind, by grind, fatw, hI.next⟩⟩ ?_
      rintro k _ ⟨found, part, left, need, x8, rfl, hk, hc⟩
      refine ⟨!decide (need = 0), ?_, fun hb => ?_, fun hb => ?_⟩
      · have e := (eq_encQ (p := need) (q := 0)).2
        rw [zero_enc] at e
        simp only [startD, List.length_cons, List.length_nil, List.map_cons, List.map_nil, List.replicate_succ, List.replicate_zero, List.cons_append, List.nil_append, List.append_nil, eP, eN, gImm, pOp, pVar, pC, qCons, qNil, qStar, xCons, xNil, pTup, pLst, eTup, eLst, pFn, eFn, pCall, eCall, pIf, eIf, cBl, cTru, cAnd, cOr, cNot, kP, kNot, kBl, kTru, pAnd, pOr, pNot, pCh, eOp, oUsub, D.imm, D.imms, D.nof, D.nofs, D.frz, D.frzs, gdN, gdTup, gdNil, gdCons, Option.bind_some, Option.map_some, Option.join_some, List.getElem?_cons_zero, List.getElem?_cons_succ, List.set_cons_zero, List.set_cons_succ, ix0, ix1, ix2, ix3, oAdd_i, oSub_i, oMul_i, oDiv_i, oMod_i, oLt_i, oLe_i, oGt_i, oGe_i, oEq_i, oNe_i, oInt_i, oInt_b, oAbs_i, oMax2_i, oMin2_i, oIs_n, oIs_i, oIs_t, oIs_bb, tru_b, tru_i, if_true, if_false, Bool.false_eq_true, Bool.true_and, Bool.and_true, true_or, or_true, true_and, and_true, reduceIte, decide_true, decide_false, Bool.not_true, Bool.not_false, Nat.reduceAdd, Nat.reduceSub, Nat.reduceLeDiff, Nat.zero_add, Nat.le_refl, and_self, or_self, e]
      · have hn0 : need ≠ 0 := by simpa using hb
        rcases hc with ⟨u, hu0, eu, hpos, htw, hP⟩ | ⟨hz, _⟩
        · have sn : Sm need := tw_sm htw (by grind) (by grind)
          have sl : Sm left := tw_sm hP.lt (by have := hP.l0; grind) (by have := hP.l1; grind)
          have hless := is_less_spec sl sn
          have flen : found.length < 16777216 := by
            have n1 := hP.num
            have n2 := hP.tot
            have n3 : (part : Rat) ≤ 60 := by
              have q1 : qsum ((pre.flatten ++ pre2).map (qAt qs)) + u ≤ 60 := by
                have q2 : qsum ((pre.flatten ++ pre2).map (qAt qs)) + qAt qs a ≤ 60 := by
                  have q3 := qsum_perm (hl.perm.map (qAt qs))
                  rw [map_qAt, hflat, List.map_append, qsum_app, List.map_cons, qsum] at q3
                  have q4 : 0 ≤ qsum ((post2 ++ post.flatten).map (qAt qs)) := qsum_nonneg fun q hq => by
                    obtain ⟨i, hi, rfl⟩ := List.mem_map.mp hq
                    have : i < qs.length := (mem0 i).mp (by rw [hflat]; simp at hi ⊢; exact .inr (.inr (.inr hi)))
                    have := h.one _ (qAt_mem this)
                    grind
                  have := h.le
                  grind
                grind
              have := hP.l1
              grind
            have n4 : part ≤ 60 := by exact_mod_cast n3
            have n5 : (pre.flatten ++ pre2).length ≤ qs.length := by
              have := hl.perm.length_eq
              rw [hflat, List.length_append, List.length_range] at this
              omega
            have := h.len
            omega
          by_cases hlt : left < need
          · -- the part ends
            have hmin1 := minus_spec sn sl
            have hmin2 := minus_spec sl sl
            rw [decide_eq_true hlt] at hless
            rw [show left - left = 0 by grind] at hmin2
            refine wp_seq (wp_setP (d := encQ left) ?_ (.inl (imm_encQ _)) ?_)
            · simp only [startD, List.length_cons, List.length_nil, List.map_cons, List.map_nil, List.replicate_succ, List.replicate_zero, List.cons_append, List.nil_append, List.append_nil, eP, eN, gImm, pOp, pVar, pC, qCons, qNil, qStar, xCons, xNil, pTup, pLst, eTup, eLst, pFn, eFn, pCall, eCall, pIf, eIf, cBl, cTru, cAnd, cOr, cNot, kP, kNot, kBl, kTru, pAnd, pOr, pNot, pCh, eOp, oUsub, D.imm, D.imms, D.nof, D.nofs, D.frz, D.frzs, gdN, gdTup, gdNil, gdCons, Option.bind_some, Option.map_some, Option.join_some, List.getElem?_cons_zero, List.getElem?_cons_succ, List.set_cons_zero, List.set_cons_succ, ix0, ix1, ix2, ix3, oAdd_i, oSub_i, oMul_i, oDiv_i, oMod_i, oLt_i, oLe_i, oGt_i, oGe_i, oEq_i, oNe_i, oInt_i, oInt_b, oAbs_i, oMax2_i, oMin2_i, oIs_n, oIs_i, oIs_t, oIs_bb, tru_b, tru_i, if_true, if_false, Bool.false_eq_true, Bool.true_and, Bool.and_true, true_or, or_true, true_and, and_true, reduceIte, decide_true, decide_false, Bool.not_true, Bool.not_false, Nat.reduceAdd, Nat.reduceSub, Nat.reduceLeDiff, Nat.zero_add, Nat.le_refl, and_self, or_self, frz_encQ, hless, imm_encQ]
            simp only [startD, List.length_cons, List.length_nil, List.map_cons, List.map_nil, List.replicate_succ, List.replicate_zero, List.cons_append, List.nil_append, List.append_nil, List.set_cons_zero, List.set_cons_succ, Nat.reduceAdd, Nat.reduceSub]
            refine wp_seq (wp_appP (ds := found.map encT) (d := encT (part, a, left)) rfl ?_ (.inl (imm_encT _)) (by rw [List.length_map]; exact flen) ?_)
            · simp [startD, List.length_cons, List.length_nil, List.map_cons, List.map_nil, List.replicate_succ, List.replicate_zero, List.cons_append, List.nil_append, List.append_nil, eP, eN, gImm, pOp, pVar, pC, qCons, qNil, qStar, xCons, xNil, pTup, pLst, eTup, eLst, pFn, eFn, pCall, eCall, pIf, eIf, cBl, cTru, cAnd, cOr, cNot, kP, kNot, kBl, kTru, pAnd, pOr, pNot, pCh, eOp, oUsub, D.imm, D.imms, D.nof, D.nofs, D.frz, D.frzs, gdN, gdTup, gdNil, gdCons, Option.bind_some, Option.map_some, Option.join_some, List.getElem?_cons_zero, List.getElem?_cons_succ, List.set_cons_zero, List.set_cons_succ, ix0, ix1, ix2, ix3, oAdd_i, oSub_i, oMul_i, oDiv_i, oMod_i, oLt_i, oLe_i, oGt_i, oGe_i, oEq_i, oNe_i, oInt_i, oInt_b, oAbs_i, oMax2_i, oMin2_i, oIs_n, oIs_i, oIs_t, oIs_bb, tru_b, tru_i, imm_encQ, encT]
            simp only [startD, List.length_cons, List.length_nil, List.map_cons, List.map_nil, List.replicate_succ, List.replicate_zero, List.cons_append, List.nil_append, List.append_nil, List.set_cons_zero, List.set_cons_succ, Nat.reduceAdd, Nat.reduceSub]
            refine wp_seq (wp_parP (x := encQ (need - left)) (y := encQ 0) ?_ (.inl (imm_encQ _)) ?_ (.inl (imm_encQ _)) ?_)
            · simp only [startD, List.length_cons, List.length_nil, List.map_cons, List.map_nil, List.replicate_succ, List.replicate_zero, List.cons_append, List.nil_append, List.append_nil, eP, eN, gImm, pOp, pVar, pC, qCons, qNil, qStar, xCons, xNil, pTup, pLst, eTup, eLst, pFn, eFn, pCall, eCall, pIf, eIf, cBl, cTru, cAnd, cOr, cNot, kP, kNot, kBl, kTru, pAnd, pOr, pNot, pCh, eOp, oUsub, D.imm, D.imms, D.nof, D.nofs, D.frz, D.frzs, gdN, gdTup, gdNil, gdCons, Option.bind_some, Option.map_some, Option.join_some, List.getElem?_cons_zero, List.getElem?_cons_succ, List.set_cons_zero, List.set_cons_succ, ix0, ix1, ix2, ix3, oAdd_i, oSub_i, oMul_i, oDiv_i, oMod_i, oLt_i, oLe_i, oGt_i, oGe_i, oEq_i, oNe_i, oInt_i, oInt_b, oAbs_i, oMax2_i, oMin2_i, oIs_n, oIs_i, oIs_t, oIs_bb, tru_b, tru_i, if_true, if_false, Bool.false_eq_true, Bool.true_and, Bool.and_true, true_or, or_true, true_and, and_true, reduceIte, decide_true, decide_false, Bool.not_true, Bool.not_false, Nat.reduceAdd, Nat.reduceSub, Nat.reduceLeDiff, Nat.zero_add, Nat.le_refl, and_self, or_self, frz_encQ, hmin1, nof_encQ]
            · simp only [startD, List.length_cons, List.length_nil, List.map_cons, List.map_nil, List.replicate_succ, List.replicate_zero, List.cons_append, List.nil_append, List.append_nil, eP, eN, gImm, pOp, pVar, pC, qCons, qNil, qStar, xCons, xNil, pTup, pLst, eTup, eLst, pFn, eFn, pCall, eCall, pIf, eIf, cBl, cTru, cAnd, cOr, cNot, kP, kNot, kBl, kTru, pAnd, pOr, pNot, pCh, eOp, oUsub, D.imm, D.imms, D.nof, D.nofs, D.frz, D.frzs, gdN, gdTup, gdNil, gdCons, Option.bind_some, Option.map_some, Option.join_some, List.getElem?_cons_zero, List.getElem?_cons_succ, List.set_cons_zero, List.set_cons_succ, ix0, ix1, ix2, ix3, oAdd_i, oSub_i, oMul_i, oDiv_i, oMod_i, oLt_i, oLe_i, oGt_i, oGe_i, oEq_i, oNe_i, oInt_i, oInt_b, oAbs_i, oMax2_i, oMin2_i, oIs_n, oIs_i, oIs_t, oIs_bb, tru_b, tru_i, if_true, if_false, Bool.false_eq_true, Bool.true_and, Bool.and_true, true_or, or_true, true_and, and_true, reduceIte, decide_true, decide_false, Bool.not_true, Bool.not_false, Nat.reduceAdd, Nat.reduceSub, Nat.reduceLeDiff, Nat.zero_add, Nat.le_refl, and_self, or_self, frz_encQ, hmin2, nof_encQ]
            simp only [startD, List.length_cons, List.length_nil, List.map_cons, List.map_nil, List.replicate_succ, List.replicate_zero, List.cons_append, List.nil_append, List.append_nil, List.set_cons_zero, List.set_cons_succ, Nat.reduceAdd, Nat.reduceSub]
            refine wp_yes ?_ (wp_parP (x := .int ((part + 1 : Nat) : Int)) (y := encQ 1) ?_ (.inl rfl) rfl (.inl (imm_encQ _)) ?_)
            · have e := (eq_encQ (p := 0) (q := 0)).1
              rw [zero_enc] at e
              simp only [startD, List.length_cons, List.length_nil, List.map_cons, List.map_nil, List.replicate_succ, List.replicate_zero, List.cons_append, List.nil_append, List.append_nil, eP, eN, gImm, pOp, pVar, pC, qCons, qNil, qStar, xCons, xNil, pTup, pLst, eTup, eLst, pFn, eFn, pCall, eCall, pIf, eIf, cBl, cTru, cAnd, cOr, cNot, kP, kNot, kBl, kTru, pAnd, pOr, pNot, pCh, eOp, oUsub, D.imm, D.imms, D.nof, D.nofs, D.frz, D.frzs, gdN, gdTup, gdNil, gdCons, Option.bind_some, Option.map_some, Option.join_some, List.getElem?_cons_zero, List.getElem?_cons_succ, List.set_cons_zero, List.set_cons_succ, ix0, ix1, ix2, ix3, oAdd_i, oSub_i, oMul_i, oDiv_i, oMod_i, oLt_i, oLe_i, oGt_i, oGe_i, oEq_i, oNe_i, oInt_i, oInt_b, oAbs_i, oMax2_i, oMin2_i, oIs_n, oIs_i, oIs_t, oIs_bb, tru_b, tru_i, if_true, if_false, Bool.false_eq_true, Bool.true_and, Bool.and_true, true_or, or_true, true_and, and_true, reduceIte, decide_true, decide_false, Bool.not_true, Bool.not_false, Nat.reduceAdd, Nat.reduceSub, Nat.reduceLeDiff, Nat.zero_add, Nat.le_refl, and_self, or_self, zero_enc, e]
            · simp [startD, List.length_cons, List.length_nil, List.map_cons, List.map_nil, List.replicate_succ, List.replicate_zero, List.cons_append, List.nil_append, List.append_nil, eP, eN, gImm, pOp, pVar, pC, qCons, qNil, qStar, xCons, xNil, pTup, pLst, eTup, eLst, pFn, eFn, pCall, eCall, pIf, eIf, cBl, cTru, cAnd, cOr, cNot, kP, kNot, kBl, kTru, pAnd, pOr, pNot, pCh, eOp, oUsub, D.imm, D.imms, D.nof, D.nofs, D.frz, D.frzs, gdN, gdTup, gdNil, gdCons, Option.bind_some, Option.map_some, Option.join_some, List.getElem?_cons_zero, List.getElem?_cons_succ, List.set_cons_zero, List.set_cons_succ, ix0, ix1, ix2, ix3, oAdd_i, oSub_i, oMul_i, oDiv_i, oMod_i, oLt_i, oLe_i, oGt_i, oGe_i, oEq_i, oNe_i, oInt_i, oInt_b, oAbs_i, oMax2_i, oMin2_i, oIs_n, oIs_i, oIs_t, oIs_bb, tru_b, tru_i]
            simp only [startD, List.length_cons, List.length_nil, List.map_cons, List.map_nil, List.replicate_succ, List.replicate_zero, List.cons_append, List.nil_append, List.append_nil, List.set_cons_zero, List.set_cons_succ, Nat.reduceAdd, Nat.reduceSub]
            have hl0 := hP.l0
            obtain ⟨k', hk'⟩ := tw_nat (htw.sub hP.lt) (show 0 ≤ need - left by grind)
            refine ⟨k', ?_, found ++ [(part, a, left)], part + 1, 1, need - left, some (encQ left), ?_, hk', .inl ⟨u + left, by grind, by grind, by grind, htw.sub hP.lt, hP.part_end aP (by grind)⟩⟩
            · have : (k' : Rat) < (k : Rat) := by rw [← hk, ← hk']; grind
              exact_mod_cast this
            · rw [List.map_append]
              rfl
          · have hge : need ≤ left := Rat.not_lt.mp hlt
            have hmin1 := minus_spec sn sn
            have hmin2 := minus_spec sl sn
            rw [decide_eq_false hlt] at hless
            rw [show need - need = 0 by grind] at hmin1
            have hk0 : 0 < k := by
              have : (0 : Rat) < (k : Rat) := by rw [← hk]; grind
              exact_mod_cast this
            have pe := hP.place_end aP (by grind) (by rw [← eu]; exact htw) (by grind)
            rw [← eu] at pe
            refine wp_seq (wp_setP (d := encQ need) ?_ (.inl (imm_encQ _)) ?_)
            · simp only [startD, List.length_cons, List.length_nil, List.map_cons, List.map_nil, List.replicate_succ, List.replicate_zero, List.cons_append, List.nil_append, List.append_nil, eP, eN, gImm, pOp, pVar, pC, qCons, qNil, qStar, xCons, xNil, pTup, pLst, eTup, eLst, pFn, eFn, pCall, eCall, pIf, eIf, cBl, cTru, cAnd, cOr, cNot, kP, kNot, kBl, kTru, pAnd, pOr, pNot, pCh, eOp, oUsub, D.imm, D.imms, D.nof, D.nofs, D.frz, D.frzs, gdN, gdTup, gdNil, gdCons, Option.bind_some, Option.map_some, Option.join_some, List.getElem?_cons_zero, List.getElem?_cons_succ, List.set_cons_zero, List.set_cons_succ, ix0, ix1, ix2, ix3, oAdd_i, oSub_i, oMul_i, oDiv_i, oMod_i, oLt_i, oLe_i, oGt_i, oGe_i, oEq_i, oNe_i, oInt_i, oInt_b, oAbs_i, oMax2_i, oMin2_i, oIs_n, oIs_i, oIs_t, oIs_bb, tru_b, tru_i, if_true, if_false, Bool.false_eq_true, Bool.true_and, Bool.and_true, true_or, or_true, true_and, and_true, reduceIte, decide_true, decide_false, Bool.not_true, Bool.not_false, Nat.reduceAdd, Nat.reduceSub, Nat.reduceLeDiff, Nat.zero_add, Nat.le_refl, and_self, or_self, frz_encQ, hless, imm_encQ]
            simp only [startD, List.length_cons, List.length_nil, List.map_cons, List.map_nil, List.replicate_succ, List.replicate_zero, List.cons_append, List.nil_append, List.append_nil, List.set_cons_zero, List.set_cons_succ, Nat.reduceAdd, Nat.reduceSub]
            refine wp_seq (wp_appP (ds := found.map encT) (d := encT (part, a, need)) rfl ?_ (.inl (imm_encT _)) (by rw [List.length_map]; exact flen) ?_)
            · simp [startD, List.length_cons, List.length_nil, List.map_cons, List.map_nil, List.replicate_succ, List.replicate_zero, List.cons_append, List.nil_append, List.append_nil, eP, eN, gImm, pOp, pVar, pC, qCons, qNil, qStar, xCons, xNil, pTup, pLst, eTup, eLst, pFn, eFn, pCall, eCall, pIf, eIf, cBl, cTru, cAnd, cOr, cNot, kP, kNot, kBl, kTru, pAnd, pOr, pNot, pCh, eOp, oUsub, D.imm, D.imms, D.nof, D.nofs, D.frz, D.frzs, gdN, gdTup, gdNil, gdCons, Option.bind_some, Option.map_some, Option.join_some, List.getElem?_cons_zero, List.getElem?_cons_succ, List.set_cons_zero, List.set_cons_succ, ix0, ix1, ix2, ix3, oAdd_i, oSub_i, oMul_i, oDiv_i, oMod_i, oLt_i, oLe_i, oGt_i, oGe_i, oEq_i, oNe_i, oInt_i, oInt_b, oAbs_i, oMax2_i, oMin2_i, oIs_n, oIs_i, oIs_t, oIs_bb, tru_b, tru_i, imm_encQ, encT]
            simp only [startD, List.length_cons, List.length_nil, List.map_cons, List.map_nil, List.replicate_succ, List.replicate_zero, List.cons_append, List.nil_append, List.append_nil, List.set_cons_zero, List.set_cons_succ, Nat.reduceAdd, Nat.reduceSub]
            refine wp_seq (wp_parP (x := encQ 0) (y := encQ (left - need)) ?_ (.inl (imm_encQ _)) ?_ (.inl (imm_encQ _)) ?_)
            · simp only [startD, List.length_cons, List.length_nil, List.map_cons, List.map_nil, List.replicate_succ, List.replicate_zero, List.cons_append, List.nil_append, List.append_nil, eP, eN, gImm, pOp, pVar, pC, qCons, qNil, qStar, xCons, xNil, pTup, pLst, eTup, eLst, pFn, eFn, pCall, eCall, pIf, eIf, cBl, cTru, cAnd, cOr, cNot, kP, kNot, kBl, kTru, pAnd, pOr, pNot, pCh, eOp, oUsub, D.imm, D.imms, D.nof, D.nofs, D.frz, D.frzs, gdN, gdTup, gdNil, gdCons, Option.bind_some, Option.map_some, Option.join_some, List.getElem?_cons_zero, List.getElem?_cons_succ, List.set_cons_zero, List.set_cons_succ, ix0, ix1, ix2, ix3, oAdd_i, oSub_i, oMul_i, oDiv_i, oMod_i, oLt_i, oLe_i, oGt_i, oGe_i, oEq_i, oNe_i, oInt_i, oInt_b, oAbs_i, oMax2_i, oMin2_i, oIs_n, oIs_i, oIs_t, oIs_bb, tru_b, tru_i, if_true, if_false, Bool.false_eq_true, Bool.true_and, Bool.and_true, true_or, or_true, true_and, and_true, reduceIte, decide_true, decide_false, Bool.not_true, Bool.not_false, Nat.reduceAdd, Nat.reduceSub, Nat.reduceLeDiff, Nat.zero_add, Nat.le_refl, and_self, or_self, frz_encQ, hmin1, nof_encQ]
            · simp only [startD, List.length_cons, List.length_nil, List.map_cons, List.map_nil, List.replicate_succ, List.replicate_zero, List.cons_append, List.nil_append, List.append_nil, eP, eN, gImm, pOp, pVar, pC, qCons, qNil, qStar, xCons, xNil, pTup, pLst, eTup, eLst, pFn, eFn, pCall, eCall, pIf, eIf, cBl, cTru, cAnd, cOr, cNot, kP, kNot, kBl, kTru, pAnd, pOr, pNot, pCh, eOp, oUsub, D.imm, D.imms, D.nof, D.nofs, D.frz, D.frzs, gdN, gdTup, gdNil, gdCons, Option.bind_some, Option.map_some, Option.join_some, List.getElem?_cons_zero, List.getElem?_cons_succ, List.set_cons_zero, List.set_cons_succ, ix0, ix1, ix2, ix3, oAdd_i, oSub_i, oMul_i, oDiv_i, oMod_i, oLt_i, oLe_i, oGt_i, oGe_i, oEq_i, oNe_i, oInt_i, oInt_b, oAbs_i, oMax2_i, oMin2_i, oIs_n, oIs_i, oIs_t, oIs_bb, tru_b, tru_i, if_true, if_false, Bool.false_eq_true, Bool.true_and, Bool.and_true, true_or, or_true, true_and, and_true, reduceIte, decide_true, decide_false, Bool.not_true, Bool.not_false, Nat.reduceAdd, Nat.reduceSub, Nat.reduceLeDiff, Nat.zero_add, Nat.le_refl, and_self, or_self, frz_encQ, hmin2, nof_encQ]
            simp only [startD, List.length_cons, List.length_nil, List.map_cons, List.map_nil, List.replicate_succ, List.replicate_zero, List.cons_append, List.nil_append, List.append_nil, List.set_cons_zero, List.set_cons_succ, Nat.reduceAdd, Nat.reduceSub]
            have e := (eq_encQ (p := left - need) (q := 0)).1
            rw [zero_enc] at e
            by_cases heq : left - need = 0
            · rw [decide_eq_true heq] at e
              refine wp_yes ?_ (wp_parP (x := .int ((part + 1 : Nat) : Int)) (y := encQ 1) ?_ (.inl rfl) rfl (.inl (imm_encQ _)) ?_)
              · simp only [startD, List.length_cons, List.length_nil, List.map_cons, List.map_nil, List.replicate_succ, List.replicate_zero, List.cons_append, List.nil_append, List.append_nil, eP, eN, gImm, pOp, pVar, pC, qCons, qNil, qStar, xCons, xNil, pTup, pLst, eTup, eLst, pFn, eFn, pCall, eCall, pIf, eIf, cBl, cTru, cAnd, cOr, cNot, kP, kNot, kBl, kTru, pAnd, pOr, pNot, pCh, eOp, oUsub, D.imm, D.imms, D.nof, D.nofs, D.frz, D.frzs, gdN, gdTup, gdNil, gdCons, Option.bind_some, Option.map_some, Option.join_some, List.getElem?_cons_zero, List.getElem?_cons_succ, List.set_cons_zero, List.set_cons_succ, ix0, ix1, ix2, ix3, oAdd_i, oSub_i, oMul_i, oDiv_i, oMod_i, oLt_i, oLe_i, oGt_i, oGe_i, oEq_i, oNe_i, oInt_i, oInt_b, oAbs_i, oMax2_i, oMin2_i, oIs_n, oIs_i, oIs_t, oIs_bb, tru_b, tru_i, if_true, if_false, Bool.false_eq_true, Bool.true_and, Bool.and_true, true_or, or_true, true_and, and_true, reduceIte, decide_true, decide_false, Bool.not_true, Bool.not_false, Nat.reduceAdd, Nat.reduceSub, Nat.reduceLeDiff, Nat.zero_add, Nat.le_refl, and_self, or_self, e]
              · simp [startD, List.length_cons, List.length_nil, List.map_cons, List.map_nil, List.replicate_succ, List.replicate_zero, List.cons_append, List.nil_append, List.append_nil, eP, eN, gImm, pOp, pVar, pC, qCons, qNil, qStar, xCons, xNil, pTup, pLst, eTup, eLst, pFn, eFn, pCall, eCall, pIf, eIf, cBl, cTru, cAnd, cOr, cNot, kP, kNot, kBl, kTru, pAnd, pOr, pNot, pCh, eOp, oUsub, D.imm, D.imms, D.nof, D.nofs, D.frz, D.frzs, gdN, gdTup, gdNil, gdCons, Option.bind_some, Option.map_some, Option.join_some, List.getElem?_cons_zero, List.getElem?_cons_succ, List.set_cons_zero, List.set_cons_succ, ix0, ix1, ix2, ix3, oAdd_i, oSub_i, oMul_i, oDiv_i, oMod_i, oLt_i, oLe_i, oGt_i, oGe_i, oEq_i, oNe_i, oInt_i, oInt_b, oAbs_i, oMax2_i, oMin2_i, oIs_n, oIs_i, oIs_t, oIs_bb, tru_b, tru_i]
              simp only [startD, List.length_cons, List.length_nil, List.map_cons, List.map_nil, List.replicate_succ, List.replicate_zero, List.cons_append, List.nil_append, List.append_nil, List.set_cons_zero, List.set_cons_succ, Nat.reduceAdd, Nat.reduceSub]
              refine ⟨0, hk0, found ++ [(part, a, need)], part + 1, 1, 0, some (encQ need), ?_, by simp, .inr ⟨rfl, pe.2 (by grind)⟩⟩
              rw [List.map_append]
              rfl
            · rw [decide_eq_false heq] at e
              refine wp_no ?_ (wp_nil ?_)
              · simp only [startD, List.length_cons, List.length_nil, List.map_cons, List.map_nil, List.replicate_succ, List.replicate_zero, List.cons_append, List.nil_append, List.append_nil, eP, eN, gImm, pOp, pVar, pC, qCons, qNil, qStar, xCons, xNil, pTup, pLst, eTup, eLst, pFn, eFn, pCall, eCall, pIf, eIf, cBl, cTru, cAnd, cOr, cNot, kP, kNot, kBl, kTru, pAnd, pOr, pNot, pCh, eOp, oUsub, D.imm, D.imms, D.nof, D.nofs, D.frz, D.frzs, gdN, gdTup, gdNil, gdCons, Option.bind_some, Option.map_some, Option.join_some, List.getElem?_cons_zero, List.getElem?_cons_succ, List.set_cons_zero, List.set_cons_succ, ix0, ix1, ix2, ix3, oAdd_i, oSub_i, oMul_i, oDiv_i, oMod_i, oLt_i, oLe_i, oGt_i, oGe_i, oEq_i, oNe_i, oInt_i, oInt_b, oAbs_i, oMax2_i, oMin2_i, oIs_n, oIs_i, oIs_t, oIs_bb, tru_b, tru_i, if_true, if_false, Bool.false_eq_true, Bool.true_and, Bool.and_true, true_or, or_true, true_and, and_true, reduceIte, decide_true, decide_false, Bool.not_true, Bool.not_false, Nat.reduceAdd, Nat.reduceSub, Nat.reduceLeDiff, Nat.zero_add, Nat.le_refl, and_self, or_self, e]
              refine ⟨0, hk0, found ++ [(part, a, need)], part, left - need, 0, some (encQ need), ?_, by simp, .inr ⟨rfl, pe.1 (by grind)⟩⟩
              rw [List.map_append]
              rfl
        · exact absurd hz hn0
      · have hn0 : need = 0 := by simpa using hb
        rcases hc with ⟨u, hu0, eu, hpos, htw, hP⟩ | ⟨_, hP⟩
        · grind
        · refine ⟨found, part, left, _, _, _, ?_, rfl⟩
          rw [List.append_assoc] at hP
          exact hP.next
  case h4 =>
    rintro τ' ⟨found, part, left, x5, x6, x7, x8, hP, rfl⟩
    show WP _ _
    obtain ⟨ts, pt, et⟩ := perm_map (sort_perm (found.map encT)) found rfl
    have tot := hP.tot
    rw [qsum_perm (hl.perm.map (qAt qs)), map_qAt, hN, Rat.add_zero] at tot
    have wl : Wh left := by
      have e : left = ((part : Nat) : Rat) + 1 - (N : Nat) := by grind
      rw [e]
      exact ((wh_nat part).add (Wh.int 1)).sub (wh_nat N)
    have l1 : left = 1 := by
      have := hP.l0
      have := hP.l1
      rcases Rat.le_iff_lt_or_eq.mp hP.l1 with z | z
      · exact absurd wl (not_wh hP.l0 z)
      · exact z
    have pN : part = N := by
      have : (part : Rat) = (N : Rat) := by rw [l1] at tot; grind
      exact_mod_cast this
    subst pN
    have ok : PairsOk qs part found := by
      refine ⟨fun p hp => ?_, fun i hi => ?_, hP.nd, fun t ht => ?_⟩
      · rw [hP.sp p, if_pos hp]
      · rw [hP.sl i, if_pos ((mem0 i).mpr hi)]
      · obtain ⟨p1, p2, p3, p4, p5⟩ := hP.pos t ht
        have hp0 : ∀ t ∈ found, 0 < t.2.2 := fun t ht => (hP.pos t ht).1
        refine ⟨p1, p2, p3, ?_, ?_⟩
        · rcases Nat.lt_or_ge t.1 part with z | z
          · exact z
          · have e : t.1 = part := by omega
            have z := wsum_none (c := fun u => u.1 == part) hp0 (by have := hP.sp part; rw [if_neg (Nat.lt_irrefl _), if_pos rfl, l1] at this; exact this.trans (by grind)) t ht
            simp [e] at z
        · by_cases q : t.2.1 ∈ lots.flatten
          · exact (mem0 _).mp q
          · have z := wsum_none (c := fun u => u.2.1 == t.2.1) hp0 (by
              have := hP.sl t.2.1
              rw [if_neg q] at this
              refine this.trans ?_
              split <;> rfl) t ht
            simp at z
    have im : D.imms (ts.map encT) = true := imms_map imm_encT ts
    refine wp_retP (d := .tup (ts.map encT)) ?_ (.inl (by simp [D.imm, im])) ⟨_, ⟨ts, rfl, ok.perm pt.symm, ?_, ?_⟩, _, rfl⟩
    · simp [startD, List.length_cons, List.length_nil, List.map_cons, List.map_nil, List.replicate_succ, List.replicate_zero, List.cons_append, List.nil_append, List.append_nil, eP, eN, gImm, pOp, pVar, pC, qCons, qNil, qStar, xCons, xNil, pTup, pLst, eTup, eLst, pFn, eFn, pCall, eCall, pIf, eIf, cBl, cTru, cAnd, cOr, cNot, kP, kNot, kBl, kTru, pAnd, pOr, pNot, pCh, eOp, oUsub, D.imm, D.imms, D.nof, D.nofs, D.frz, D.frzs, gdN, gdTup, gdNil, gdCons, Option.bind_some, Option.map_some, Option.join_some, List.getElem?_cons_zero, List.getElem?_cons_succ, List.set_cons_zero, List.set_cons_succ, ix0, ix1, ix2, ix3, oAdd_i, oSub_i, oMul_i, oDiv_i, oMod_i, oLt_i, oLe_i, oGt_i, oGe_i, oEq_i, oNe_i, oInt_i, oInt_b, oAbs_i, oMax2_i, oMin2_i, oIs_n, oIs_i, oIs_t, oIs_bb, tru_b, tru_i, oSorted_l (srt_tris found), ← et, oTuple, D.seq?, im]
    · rw [et]
      exact sort_leP _
    · have n1 := hP.num
      have n2 := cnt_flat hl.wh
      have n3 := hm.2 _ hl.perm
      have n4 := hl.perm.length_eq
      rw [List.length_range] at n4
      rw [pt.length_eq]
      omega
end Mt
set_option Elab.async false
set_option linter.all false
set_option maxRecDepth 100000
set_option maxHeartbeats 2000000
/-! The program's look at pairs. -/
namespace DL
open PySem PySem.Spec PyProof.Rows L2
section
variable {α : Type} {f : α → D}
theorem pls_map (h : ∀ a, (f a).pl = true) (l : List α) : D.pls (l.map f) = true := by
  induction l with
  | nil => rfl
  | cons x r ih => simp [D.pls, h x, ih]
theorem depth_map {k : Nat} (h : ∀ a, (f a).py.depth ≤ k) (l : List α) : PyData.depthAll (D.pys (l.map f)) ≤ k := by
  induction l with
  | nil => simp [D.pys, PyData.depthAll]
  | cons x r ih =>
    simp only [List.map_cons, D.pys, PyData.depthAll]
    exact Nat.max_le.mpr ⟨h x, ih⟩
theorem pys_inj (h : ∀ a b, (f a).py = (f b).py → a = b) : ∀ {xs ys : List α}, D.pys (xs.map f) = D.pys (ys.map f) ↔ xs = ys
  | [], [] => by simp
  | [], _ :: _ => by simp [D.pys]
  | _ :: _, [] => by simp [D.pys]
  | x :: xs, y :: ys => by
    simp only [List.map_cons, D.pys, List.cons.injEq, pys_inj h (xs := xs) (ys := ys)]
    exact ⟨fun z => ⟨h _ _ z.1, z.2⟩, fun z => ⟨by rw [z.1], z.2⟩⟩
theorem oEq_lsts [DecidableEq α] (hp : ∀ a, (f a).pl = true) (hd : ∀ a, (f a).py.depth ≤ 60) (h : ∀ a b, (f a).py = (f b).py → a = b) {o o' : Bool} {xs ys : List α} :
    oEq (.lst o (xs.map f)) (.lst o' (ys.map f)) = some (.bl (decide (xs = ys))) ∧ oNe (.lst o (xs.map f)) (.lst o' (ys.map f)) = some (.bl (!decide (xs = ys))) := by
  have d1 := depth_map hd xs
  have d2 := depth_map hd ys
  refine oEq_pl (by simp [D.pl, pls_map hp]) (by simp [D.pl, pls_map hp]) (by simp only [D.py, PyData.depth]; omega) (by simp only [D.py, PyData.depth]; omega) ?_
  simp only [D.py, PyData.list.injEq]
  exact pys_inj h
theorem oEq_tups [DecidableEq α] (hp : ∀ a, (f a).pl = true) (hd : ∀ a, (f a).py.depth ≤ 60) (h : ∀ a b, (f a).py = (f b).py → a = b) {xs ys : List α} :
    oEq (.tup (xs.map f)) (.tup (ys.map f)) = some (.bl (decide (xs = ys))) ∧ oNe (.tup (xs.map f)) (.tup (ys.map f)) = some (.bl (!decide (xs = ys))) := by
  have d1 := depth_map hd xs
  have d2 := depth_map hd ys
  refine oEq_pl (by simp [D.pl, pls_map hp]) (by simp [D.pl, pls_map hp]) (by simp only [D.py, PyData.depth]; omega) (by simp only [D.py, PyData.depth]; omega) ?_
  simp only [D.py, PyData.tuple.injEq]
  exact pys_inj h
end
theorem oEq_ilsts {o o' : Bool} {xs ys : List Int} : oEq (.lst o (xs.map D.int)) (.lst o' (ys.map D.int)) = some (.bl (decide (xs = ys))) ∧ oNe (.lst o (xs.map D.int)) (.lst o' (ys.map D.int)) = some (.bl (!decide (xs = ys))) :=
  oEq_lsts (fun _ => rfl) (fun _ => by simp [D.py, PyData.depth]) (fun a b h => by simpa [D.py] using h)
theorem nub_id {α : Type} [DecidableEq α] : ∀ {l : List α}, l.Nodup → nub l = l
  | [], _ => rfl
  | x :: r, h => by
    obtain ⟨h1, h2⟩ := List.nodup_cons.mp h
    unfold nub
    rw [if_neg (fun z => h1 (mem_nub.mp z)), nub_id h2]
theorem ixN_nat {n k : Nat} (h : k < n) : ixN n (k : Int) = some k := by
  unfold ixN
  rw [if_pos (Int.natCast_nonneg k), if_pos (by omega)]
  simp
theorem pAnd_yes {pa pb : DS → Option D} {τ : DS} {d : D} (h1 : pa τ = some (.bl true)) (h2 : pb τ = some d) : pAnd pa pb τ = some d := by
  unfold pAnd cBl
  rw [h1]
  exact h2
theorem pAnd_no {pa pb : DS → Option D} {τ : DS} (h1 : pa τ = some (.bl false)) : pAnd pa pb τ = some (.bl false) := by
  unfold pAnd cBl
  rw [h1]
  rfl
theorem sset_run {p : DS → Option D} {τ : DS} {o : Bool} {ds : List D} {r : List (List Int)} (h : p τ = some (.lst o ds)) (hs : D.sset ds = some r) : pSset p τ = some (.lst true (r.map dRow)) := by
  unfold pSset
  rw [h]
  show (D.sset ds).bind _ = _
  rw [hs]
  rfl
theorem rep_flat {d : D} : ∀ k : Nat, (List.replicate k [d]).flatten = List.replicate k d
  | 0 => rfl
  | k + 1 => by rw [List.replicate_succ, List.flatten_cons, rep_flat k]; rfl
theorem cnd {k : Nat} (hk : k ≤ 1000) : (-9223372036854775808 : Int) ≤ (k : Int) ∧ (k : Int) < 9223372036854775808 ∧ 1 * ((k : Nat) : Int).toNat ≤ 16777216 := by
  refine ⟨by omega, by omega, ?_⟩
  rw [Int.toNat_natCast, Nat.one_mul]
  exact Nat.le_trans hk (by decide)
theorem oRep_one {d : D} {k : Nat} (hd : d.imm = true) (hk : k ≤ 1000) : oRep (.lst true [d]) (.int (k : Int)) = some (.lst true (List.replicate k d)) := by
  have h1 : D.imms [d] = true := by simp [D.imms, hd]
  have e : oRep (.lst true [d]) (.int (k : Int)) = if D.imms [d] = true ∧ (-9223372036854775808 : Int) ≤ (k : Int) ∧ (k : Int) < 9223372036854775808 ∧ [d].length * ((k : Nat) : Int).toNat ≤ 16777216 then some (.lst true (List.replicate ((k : Nat) : Int).toNat [d]).flatten) else none := rfl
  rw [e, if_pos ⟨h1, cnd hk⟩, Int.toNat_natCast, rep_flat k]
theorem set_range {α : Type} (g : Nat → α) {N k : Nat} (h : k < N) (v : α) : ((List.range N).map g).set k v = (List.range N).map fun q => if q = k then v else g q := by
  refine List.ext_getElem (by simp) fun i h1 h2 => ?_
  simp only [List.length_set, List.length_map, List.length_range] at h1
  rw [List.getElem_set]
  simp only [List.getElem_map, List.getElem_range]
  by_cases e : k = i
  · rw [if_pos e, if_pos e.symm]
  · rw [if_neg e, if_neg fun w => e w.symm]
end DL
namespace Mt
open DL Wk PySem L2
theorem pl_encQ' (q : Rat) : (encQ q).pl = true := pl_encQ q
theorem dep_encQ' (q : Rat) : (encQ q).py.depth ≤ 60 := by simp [encQ, D.py, D.pys, PyData.depth, PyData.depthAll]
theorem inj_encQ (a b : Rat) (h : (encQ a).py = (encQ b).py) : a = b := py_encQ.mp h
theorem oEq_qs {o o' : Bool} {xs ys : List Rat} : oEq (.lst o (xs.map encQ)) (.lst o' (ys.map encQ)) = some (.bl (decide (xs = ys))) ∧ oNe (.lst o (xs.map encQ)) (.lst o' (ys.map encQ)) = some (.bl (!decide (xs = ys))) :=
  oEq_lsts pl_encQ' dep_encQ' inj_encQ
theorem oEq_qt {xs ys : List Rat} : oEq (.tup (xs.map encQ)) (.tup (ys.map encQ)) = some (.bl (decide (xs = ys))) ∧ oNe (.tup (xs.map encQ)) (.tup (ys.map encQ)) = some (.bl (!decide (xs = ys))) :=
  oEq_tups pl_encQ' dep_encQ' inj_encQ
theorem fewest_spec {qs : List Rat} {N : Nat} (h : Needs qs) (hN : qsum qs = (N : Rat)) : ∃ r, (∃ lots ts, r = .tup [.str "moved", .int ((qs.length : Int) - (lots.length : Int)), .tup (ts.map encT), encLots lots] ∧ LotsOk qs lots ∧ IsMost (qAt qs) (List.range qs.length) lots.length ∧ PairsOk qs N ts ∧ LeP (ts.map encT) ∧ ts.length + lots.length = N + qs.length) ∧ g_fewest_moved [.tup (qs.map encQ)] = some r := by
  obtain ⟨_, ⟨lots, rfl, l1, l2⟩, e1⟩ := told_lots_spec h
  obtain ⟨_, ⟨ts, rfl, p1, p2, p3⟩, e2⟩ := told_pairs_spec h hN l1 l2
  have e0 := look_needs_spec h
  refine g_wpx rfl ?_
  unfold b_fewest_moved
  simp only [startD, List.length_cons, List.length_nil, List.map_cons, List.map_nil, List.replicate_succ, List.replicate_zero, List.cons_append, List.nil_append, List.append_nil, List.set_cons_zero, List.set_cons_succ, Nat.reduceAdd, Nat.reduceSub, N_fewest_moved]
  have f0 := frzs_encQ qs
  have il := imms_map imm_encLot lots
  have nl := nofs_map nof_encLot lots
  have it := imms_map imm_encT ts
  have nt := nofs_map nof_encT ts
  have ft := frzs_map frz_encT ts
  have fl := frzs_map frz_encLot lots
  refine wp_seq (wp_expP (d := .non) ?_ (.inl rfl) ?_)
  · exact fn_run rfl (by simp only [D.frzs, D.frz, f0]) e0 rfl
  show WP _ _
  refine wp_seq (wp_setP (d := encLots lots) ?_ (.inl ?_) ?_)
  · exact fn_run rfl (by simp only [D.frzs, D.frz, f0]) e1 (by simp only [encLots, D.nof, nl])
  · simp [encLots, D.imm, il]
  simp only [startD, List.length_cons, List.length_nil, List.map_cons, List.map_nil, List.replicate_succ, List.replicate_zero, List.cons_append, List.nil_append, List.append_nil, List.set_cons_zero, List.set_cons_succ, Nat.reduceAdd, Nat.reduceSub]
  refine wp_retP (d := .tup [.str "moved", .int ((qs.length : Int) - (lots.length : Int)), .tup (ts.map encT), encLots lots]) ?_ (.inl ?_) ⟨_, ⟨lots, ts, rfl, l1, l2, p1, p2, p3⟩, _, rfl⟩
  · have hA : pFn g_told_pairs (qCons (pVar 0) (qCons (pVar 1) qNil)) [some (.tup (qs.map encQ)), some (encLots lots)] = some (.tup (ts.map encT)) := fn_run rfl (by simp only [encLots, D.frzs, D.frz, f0, fl]) e2 (by simp only [D.nof, nt])
    have hB : oLen [encLots lots] = some (.int (lots.length : Int)) := by simp [encLots, len_t]
    have im : (D.tup [.str "moved", .int ((qs.length : Int) - (lots.length : Int)), .tup (ts.map encT), encLots lots]).imm = true := by simp [encLots, D.imm, D.imms, it, il]
    refine gI_run ?_ im
    simp [pTup, qCons, qNil, hA, hB, pOp, pC, pVar, pCall, len_t, oSub_i]
  · simp [encLots, D.imm, D.imms, it, il]
/-! ### a look at pairs -/
theorem le_encT {t u : Tri} (h : D.le (encT t) (encT u) = true) (hn : nam t ≠ nam u) : t.1 < u.1 ∨ (t.1 = u.1 ∧ t.2.1 < u.2.1) := by
  obtain ⟨a, b, c⟩ := t
  obtain ⟨a', b', c'⟩ := u
  unfold encT at h
  by_cases e : a = a'
  · subst e
    simp only at h ⊢
    rw [le_cons_eq] at h
    by_cases e2 : b = b'
    · subst e2
      exact absurd rfl hn
    · rw [le_cons_ne (by omega)] at h
      have := of_decide_eq_true h
      exact .inr ⟨trivial, by omega⟩
  · simp only at h ⊢
    rw [le_cons_ne (by omega)] at h
    have := of_decide_eq_true h
    exact .inl (by omega)
def row2 (t : Tri) : List Int := [(t.1 : Int), (t.2.1 : Int)]
theorem prs2_rows (ts : List Tri) : D.prs2? ((ts.map row2).map dRow) = some (ts.map row2) := by
  induction ts with
  | nil => rfl
  | cons t r ih =>
    simp only [List.map_cons, dRow, row2, List.map_nil, D.prs2?] at ih ⊢
    rw [ih]
    rfl
theorem row2_inj {t u : Tri} : row2 t = row2 u ↔ nam t = nam u := by
  simp only [row2, nam, List.cons.injEq, and_true, Prod.mk.injEq]
  omega
theorem rows_nodup {ts : List Tri} (h : (ts.map nam).Nodup) : (ts.map row2).Nodup := by
  unfold List.Nodup at *
  rw [List.pairwise_map] at *
  exact h.imp fun h z => h (row2_inj.mp z)
theorem sset_rows {ts : List Tri} {N n : Nat} (hN : N ≤ 64) (hn : n ≤ 64) (hl : ts.length < 64) (hp : ∀ t ∈ ts, t.1 < N ∧ t.2.1 < n) (nd : (ts.map nam).Nodup) (hs : LeP (ts.map encT)) : D.sset ((ts.map row2).map dRow) = some (ts.map row2) := by
  unfold D.sset
  rw [prs2_rows, Option.bind_some]
  have i64 : (ts.map row2).all in64 = true := by
    rw [List.all_eq_true]
    intro r hr
    obtain ⟨t, ht, rfl⟩ := List.mem_map.mp hr
    have := hp t ht
    simp [in64, row2]
    omega
  rw [if_pos ⟨by rw [List.length_map]; exact hl, i64⟩, nub_id (rows_nodup nd), List.mergeSort_of_pairwise]
  rw [List.pairwise_map]
  unfold LeP at hs
  unfold List.Nodup at nd
  rw [List.pairwise_map] at hs nd
  refine (hs.and nd).imp_of_mem fun {t u} ht hu h => ?_
  have z := le_encT h.1 h.2
  have := hp t ht
  have := hp u hu
  simp only [codeLe, row2, code2, decide_eq_true_eq]
  omega
theorem psum_le {qs : List Rat} {N : Nat} {ts : List Tri} {B : Nat} {c : Tri → Bool} (h : ∀ t ∈ ts, 0 < t.2.2 ∧ Tw t.2.2) : 0 ≤ wsum c ts ∧ Tw (wsum c ts) := by
  constructor
  · refine qsum_nonneg fun q hq => ?_
    obtain ⟨t, ht, rfl⟩ := List.mem_map.mp hq
    have := (h t (List.mem_filter.mp ht).1).1
    grind
  · refine qsum_tw fun q hq => ?_
    obtain ⟨t, ht, rfl⟩ := List.mem_map.mp hq
    exact (h t (List.mem_filter.mp ht).1).2
theorem wsum_pre {ts us : List Tri} {c : Tri → Bool} (h : ∀ t ∈ us, 0 < t.2.2 ∧ Tw t.2.2) : wsum c ts ≤ wsum c (ts ++ us) := by
  rw [wsum_app]
  have := (psum_le (qs := []) (N := 0) (B := 0) (c := c) h).1
  grind
def rowsQ (N : Nat) (g : Nat → Rat) : List D := (List.range N).map fun p => encQ (g p)
theorem rowsQ_get {N k : Nat} {g : Nat → Rat} {o : Bool} (h : k < N) : oIx (.lst o (rowsQ N g)) (.int (k : Int)) = some (encQ (g k)) := ixl_map (by simp [h])
theorem rowsQ_set {N k : Nat} {g : Nat → Rat} {v : Rat} (h : k < N) : (rowsQ N g).set k (encQ v) = rowsQ N fun q => if q = k then v else g q := by
  unfold rowsQ
  rw [set_range _ h]
  refine List.map_congr_left fun q _ => ?_
  by_cases e : q = k <;> simp [e]
theorem rowsQ_len {N : Nat} {g : Nat → Rat} : (rowsQ N g).length = N := by simp [rowsQ]
theorem rowsQ_map {N : Nat} {g : Nat → Rat} : rowsQ N g = ((List.range N).map g).map encQ := by rw [List.map_map]; rfl
theorem rowsQ_rep {N : Nat} {g : Nat → Rat} {v : Rat} (h : ∀ p < N, g p = v) : rowsQ N g = List.replicate N (encQ v) := by
  unfold rowsQ
  refine List.ext_getElem (by simp) fun i h1 h2 => ?_
  simp only [List.length_map, List.length_range] at h1
  simp [h i h1]
theorem imms_rowsQ {N : Nat} {g : Nat → Rat} : D.imms (rowsQ N g) = true := imms_map (fun _ => imm_encQ _) _
theorem rowsQ_congr {N : Nat} {g g' : Nat → Rat} (h : ∀ p < N, g p = g' p) : rowsQ N g = rowsQ N g' := List.map_congr_left fun p hp => by rw [h p (List.mem_range.mp hp)]
theorem frz_frz {d : D} (h : d.imm = true) (hf : d.frz = d) : d.frz = d := hf
theorem are_pairs_spec {qs : List Rat} {N : Nat} {ts : List Tri} (h : Needs qs) (hN : qsum qs = (N : Rat)) (h24 : N ≤ 24) (hp : PairsOk qs N ts) (hs : LeP (ts.map encT)) (hlen : ts.length ≤ N + qs.length) : g_are_pairs [.tup (qs.map encQ), .tup (ts.map encT)] = some (.bl true) := by
  have hl := h.len
  have tw := h.twl
  have ss := summed_spec (qs_tup qs) (tw.sm (by decide)).1 (by omega)
  have f0 := frzs_encQ qs
  have it := imms_map imm_encT ts
  have len24 : ts.length ≤ 32 := by omega
  have num : (qsum qs).num = (N : Int) := by rw [hN]; rfl
  refine g_wp rfl ?_
  unfold b_are_pairs
  simp only [startD, List.length_cons, List.length_nil, List.map_cons, List.map_nil, List.replicate_succ, List.replicate_zero, List.cons_append, List.nil_append, List.append_nil, List.set_cons_zero, List.set_cons_succ, Nat.reduceAdd, Nat.reduceSub, N_are_pairs]
  refine wp_seq (wp_no ?_ (wp_nil ?_))
  · simp [startD, List.length_cons, List.length_nil, List.map_cons, List.map_nil, List.replicate_succ, List.replicate_zero, List.cons_append, List.nil_append, List.append_nil, eP, eN, gImm, pOp, pVar, pC, qCons, qNil, qStar, xCons, xNil, pTup, pLst, eTup, eLst, pFn, eFn, pCall, eCall, pIf, eIf, cBl, cTru, cAnd, cOr, cNot, kP, kNot, kBl, kTru, pAnd, pOr, pNot, pCh, eOp, oUsub, D.imm, D.imms, D.nof, D.nofs, D.frz, D.frzs, gdN, gdTup, gdNil, gdCons, Option.bind_some, Option.map_some, Option.join_some, List.getElem?_cons_zero, List.getElem?_cons_succ, List.set_cons_zero, List.set_cons_succ, ix0, ix1, ix2, ix3, oAdd_i, oSub_i, oMul_i, oDiv_i, oMod_i, oLt_i, oLe_i, oGt_i, oGe_i, oEq_i, oNe_i, oInt_i, oInt_b, oAbs_i, oMax2_i, oMin2_i, oIs_n, oIs_i, oIs_t, oIs_bb, tru_b, tru_i, pIsi, ty_t, kit3]
  show WP _ _
  refine wp_seq (wp_setP (d := .int (N : Int)) ?_ (.inl rfl) ?_)
  · have e : oIx (encQ (qsum qs)) (.int 0) = some (.int (N : Int)) := by rw [← num]; exact ix0
    have hA : pFn g_summed (qCons (pVar 0) qNil) [some (.tup (qs.map encQ)), some (.tup (ts.map encT)), none, none, none, none, none] = some (encQ (qsum qs)) := fn_run rfl (by simp only [D.frzs, D.frz, f0]) ss (nof_encQ _)
    simp only [startD, List.length_cons, List.length_nil, List.map_cons, List.map_nil, List.replicate_succ, List.replicate_zero, List.cons_append, List.nil_append, List.append_nil, eP, eN, gImm, pOp, pVar, pC, qCons, qNil, qStar, xCons, xNil, pTup, pLst, eTup, eLst, pCall, eCall, pIf, eIf, cBl, cTru, cAnd, cOr, cNot, kP, kNot, kBl, kTru, pAnd, pOr, pNot, pCh, eOp, oUsub, D.imm, D.imms, D.nof, D.nofs, D.frz, D.frzs, gdN, gdTup, gdNil, gdCons, Option.bind_some, Option.map_some, Option.join_some, List.getElem?_cons_zero, List.getElem?_cons_succ, List.set_cons_zero, List.set_cons_succ, ix0, ix1, ix2, ix3, oAdd_i, oSub_i, oMul_i, oDiv_i, oMod_i, oLt_i, oLe_i, oGt_i, oGe_i, oEq_i, oNe_i, oInt_i, oInt_b, oAbs_i, oMax2_i, oMin2_i, oIs_n, oIs_i, oIs_t, oIs_bb, tru_b, tru_i, if_true, if_false, Bool.false_eq_true, Bool.true_and, Bool.and_true, true_or, or_true, true_and, and_true, reduceIte, decide_true, decide_false, Bool.not_true, Bool.not_false, Nat.reduceAdd, Nat.reduceSub, Nat.reduceLeDiff, Nat.zero_add, Nat.le_refl, and_self, or_self, hA, e]
  simp only [startD, List.length_cons, List.length_nil, List.map_cons, List.map_nil, List.replicate_succ, List.replicate_zero, List.cons_append, List.nil_append, List.append_nil, List.set_cons_zero, List.set_cons_succ, Nat.reduceAdd, Nat.reduceSub]
  refine wp_seq (wp_parP (x := .lst true (rowsQ N fun p => psum [] p)) (y := .lst true (rowsQ qs.length fun i => lsum [] i)) ?_ (.inr ?_) ?_ (.inr ?_) ?_)
  · rw [rowsQ_rep (g := fun p => psum [] p) (v := 0) (fun p _ => rfl)]
    have := oRep_one (d := encQ 0) (k := N) (imm_encQ 0) (by omega)
    exact op_run (x := .lst true [encQ 0]) rfl rfl this
  · simp [D.nof, rowsQ, nofs_map (fun _ => nof_encQ _)]
  · rw [rowsQ_rep (g := fun p => lsum [] p) (v := 0) (fun p _ => rfl)]
    have := oRep_one (d := encQ 0) (k := qs.length) (imm_encQ 0) (by omega)
    exact op_run (x := .lst true [encQ 0]) rfl (by simp [startD, List.length_cons, List.length_nil, List.map_cons, List.map_nil, List.replicate_succ, List.replicate_zero, List.cons_append, List.nil_append, List.append_nil, eP, eN, gImm, pOp, pVar, pC, qCons, qNil, qStar, xCons, xNil, pTup, pLst, eTup, eLst, pFn, eFn, pCall, eCall, pIf, eIf, cBl, cTru, cAnd, cOr, cNot, kP, kNot, kBl, kTru, pAnd, pOr, pNot, pCh, eOp, oUsub, D.imm, D.imms, D.nof, D.nofs, D.frz, D.frzs, gdN, gdTup, gdNil, gdCons, Option.bind_some, Option.map_some, Option.join_some, List.getElem?_cons_zero, List.getElem?_cons_succ, List.set_cons_zero, List.set_cons_succ, ix0, ix1, ix2, ix3, oAdd_i, oSub_i, oMul_i, oDiv_i, oMod_i, oLt_i, oLe_i, oGt_i, oGe_i, oEq_i, oNe_i, oInt_i, oInt_b, oAbs_i, oMax2_i, oMin2_i, oIs_n, oIs_i, oIs_t, oIs_bb, tru_b, tru_i, len_t]) this
  · simp [D.nof, rowsQ, nofs_map (fun _ => nof_encQ _)]
  simp only [startD, List.length_cons, List.length_nil, List.map_cons, List.map_nil, List.replicate_succ, List.replicate_zero, List.cons_append, List.nil_append, List.append_nil, List.set_cons_zero, List.set_cons_succ, Nat.reduceAdd, Nat.reduceSub]
  refine wp_seq (wp_forL (enc := encT) (xs := ts) (fun pre τ => ∃ x5, τ = [some (.tup (qs.map encQ)), some (.tup (ts.map encT)), some (.int (N : Int)), some (.lst true (rowsQ N fun p => psum pre p)), some (.lst true (rowsQ qs.length fun i => lsum pre i)), x5, none]) ?h1 ?h2 ?h3 ?h4)
  case h1 => simp [iSeq, startD, List.length_cons, List.length_nil, List.map_cons, List.map_nil, List.replicate_succ, List.replicate_zero, List.cons_append, List.nil_append, List.append_nil, eP, eN, gImm, pOp, pVar, pC, qCons, qNil, qStar, xCons, xNil, pTup, pLst, eTup, eLst, pFn, eFn, pCall, eCall, pIf, eIf, cBl, cTru, cAnd, cOr, cNot, kP, kNot, kBl, kTru, pAnd, pOr, pNot, pCh, eOp, oUsub, D.imm, D.imms, D.nof, D.nofs, D.frz, D.frzs, gdN, gdTup, gdNil, gdCons, Option.bind_some, Option.map_some, Option.join_some, List.getElem?_cons_zero, List.getElem?_cons_succ, List.set_cons_zero, List.set_cons_succ, ix0, ix1, ix2, ix3, oAdd_i, oSub_i, oMul_i, oDiv_i, oMod_i, oLt_i, oLe_i, oGt_i, oGe_i, oEq_i, oNe_i, oInt_i, oInt_b, oAbs_i, oMax2_i, oMin2_i, oIs_n, oIs_i, oIs_t, oIs_bb, tru_b, tru_i, D.items, D.seq?, it]
  case h2 => exact ⟨none, rfl⟩
  case h3 =>
    rintro pre t post _ e ⟨x5, rfl⟩
    refine ⟨_, rfl, ?_⟩
    simp only [startD, List.length_cons, List.length_nil, List.map_cons, List.map_nil, List.replicate_succ, List.replicate_zero, List.cons_append, List.nil_append, List.append_nil, List.set_cons_zero, List.set_cons_succ, Nat.reduceAdd, Nat.reduceSub]
    have htm : t ∈ ts := by rw [e]; simp
    obtain ⟨p1, p2, p3, p4, p5⟩ := hp.pos t htm
    have hpre : ∀ u ∈ pre, 0 < u.2.2 ∧ Tw u.2.2 := fun u hu => by
      have := hp.pos u (by rw [e]; simp [hu])
      exact ⟨this.1, this.2.1⟩
    have hpost : ∀ u ∈ t :: post, 0 < u.2.2 ∧ Tw u.2.2 := fun u hu => by
      have := hp.pos u (by rw [e]; exact List.mem_append_right _ hu)
      exact ⟨this.1, this.2.1⟩
    have i0 : oIx (encT t) (.int 0) = some (.int (t.1 : Int)) := ix0
    have i1 : oIx (encT t) (.int 1) = some (.int (t.2.1 : Int)) := ix1
    have i2 : oIx (encT t) (.int 2) = some (encQ t.2.2) := ix2
    have sw : Sm t.2.2 := tw_sm p2 (by grind) (by grind)
    have lt : oLen [encT t] = some (.int 3) := rfl
    have isi : pIsi "tuple" (pVar 5) [some (.tup (qs.map encQ)), some (.tup (ts.map encT)), some (.int (N : Int)), some (.lst true (rowsQ N fun p => psum pre p)), some (.lst true (rowsQ qs.length fun i => lsum pre i)), some (encT t), none] = some (.bl true) := by
      simp [startD, List.length_cons, List.length_nil, List.map_cons, List.map_nil, List.replicate_succ, List.replicate_zero, List.cons_append, List.nil_append, List.append_nil, eP, eN, gImm, pOp, pVar, pC, qCons, qNil, qStar, xCons, xNil, pTup, pLst, eTup, eLst, pFn, eFn, pCall, eCall, pIf, eIf, cBl, cTru, cAnd, cOr, cNot, kP, kNot, kBl, kTru, pAnd, pOr, pNot, pCh, eOp, oUsub, D.imm, D.imms, D.nof, D.nofs, D.frz, D.frzs, gdN, gdTup, gdNil, gdCons, Option.bind_some, Option.map_some, Option.join_some, List.getElem?_cons_zero, List.getElem?_cons_succ, List.set_cons_zero, List.set_cons_succ, ix0, ix1, ix2, ix3, oAdd_i, oSub_i, oMul_i, oDiv_i, oMod_i, oLt_i, oLe_i, oGt_i, oGe_i, oEq_i, oNe_i, oInt_i, oInt_b, oAbs_i, oMax2_i, oMin2_i, oIs_n, oIs_i, oIs_t, oIs_bb, tru_b, tru_i, pIsi, encT, ty_t, kit3]
    have c1 := is_int_spec (t.1 : Int) 0 ((N : Int) - 1)
    rw [decide_eq_true (by omega)] at c1
    have c2 := is_int_spec (t.2.1 : Int) 0 ((qs.length : Int) - 1)
    rw [decide_eq_true (by omega)] at c2
    have c3 := is_exact_price_spec sw (by grind)
    have c4 := (eq_encQ (p := t.2.2) (q := 0)).1
    rw [zero_enc, decide_eq_false (by grind)] at c4
    have sp : Sm (psum pre t.1) := by
      have z1 := psum_le (qs := qs) (N := 0) (B := 0) (c := fun u => u.1 == t.1) hpre
      have z2 := wsum_pre (ts := pre) (us := t :: post) (c := fun u => u.1 == t.1) hpost
      rw [← e] at z2
      have z3 := hp.ps t.1 p4
      exact tw_sm z1.2 z1.1 (by unfold psum at *; grind)
    have sl : Sm (lsum pre t.2.1) := by
      have z1 := psum_le (qs := qs) (N := 0) (B := 0) (c := fun u => u.2.1 == t.2.1) hpre
      have z2 := wsum_pre (ts := pre) (us := t :: post) (c := fun u => u.2.1 == t.2.1) hpost
      rw [← e] at z2
      have z3 := hp.ls t.2.1 p5
      have z4 := qsum_mem_le tw.pos (qAt_mem p5)
      have z5 := h.le
      exact tw_sm z1.2 z1.1 (by unfold lsum at *; grind)
    have a1 := plus_spec sp sw
    have a2 := plus_spec sl sw
    have s1 : psum pre t.1 + t.2.2 = psum (pre ++ [t]) t.1 := by unfold psum; rw [wsum_snoc]; simp
    have s2 : lsum pre t.2.1 + t.2.2 = lsum (pre ++ [t]) t.2.1 := by unfold lsum; rw [wsum_snoc]; simp
    have r1 := rowsQ_get (o := true) (g := fun p => psum pre p) p4
    have r2 := rowsQ_get (o := true) (g := fun i => lsum pre i) p5
    have d1 : pFn g_is_int (qCons (pOp oIx (pVar 5) (pC (.int 0))) (qCons (pC (.int 0)) (qCons (pOp oSub (pVar 2) (pC (.int 1))) qNil))) [some (.tup (qs.map encQ)), some (.tup (ts.map encT)), some (.int (N : Int)), some (.lst true (rowsQ N fun p => psum pre p)), some (.lst true (rowsQ qs.length fun i => lsum pre i)), some (encT t), none] = some (.bl true) := fn_run (l := [.int (t.1 : Int), .int 0, .int ((N : Int) - 1)]) (by simp only [startD, List.length_cons, List.length_nil, List.map_cons, List.map_nil, List.replicate_succ, List.replicate_zero, List.cons_append, List.nil_append, List.append_nil, eP, eN, gImm, pOp, pVar, pC, qCons, qNil, qStar, xCons, xNil, pTup, pLst, eTup, eLst, pCall, eCall, pIf, eIf, cBl, cTru, cAnd, cOr, cNot, kP, kNot, kBl, kTru, pAnd, pOr, pNot, pCh, eOp, oUsub, D.imm, D.imms, D.nof, D.nofs, D.frz, D.frzs, gdN, gdTup, gdNil, gdCons, Option.bind_some, Option.map_some, Option.join_some, List.getElem?_cons_zero, List.getElem?_cons_succ, List.set_cons_zero, List.set_cons_succ, ix0, ix1, ix2, ix3, oAdd_i, oSub_i, oMul_i, oDiv_i, oMod_i, oLt_i, oLe_i, oGt_i, oGe_i, oEq_i, oNe_i, oInt_i, oInt_b, oAbs_i, oMax2_i, oMin2_i, oIs_n, oIs_i, oIs_t, oIs_bb, tru_b, tru_i, i0]) rfl c1 rfl
    have d2 : pFn g_is_int (qCons (pOp oIx (pVar 5) (pC (.int 1))) (qCons (pC (.int 0)) (qCons (pOp oSub (pCall oLen (qCons (pVar 0) qNil)) (pC (.int 1))) qNil))) [some (.tup (qs.map encQ)), some (.tup (ts.map encT)), some (.int (N : Int)), some (.lst true (rowsQ N fun p => psum pre p)), some (.lst true (rowsQ qs.length fun i => lsum pre i)), some (encT t), none] = some (.bl true) := fn_run (l := [.int (t.2.1 : Int), .int 0, .int ((qs.length : Int) - 1)]) (by simp only [startD, List.length_cons, List.length_nil, List.map_cons, List.map_nil, List.replicate_succ, List.replicate_zero, List.cons_append, List.nil_append, List.append_nil, eP, eN, gImm, pOp, pVar, pC, qCons, qNil, qStar, xCons, xNil, pTup, pLst, eTup, eLst, pCall, eCall, pIf, eIf, cBl, cTru, cAnd, cOr, cNot, kP, kNot, kBl, kTru, pAnd, pOr, pNot, pCh, eOp, oUsub, D.imm, D.imms, D.nof, D.nofs, D.frz, D.frzs, gdN, gdTup, gdNil, gdCons, Option.bind_some, Option.map_some, Option.join_some, List.getElem?_cons_zero, List.getElem?_cons_succ, List.set_cons_zero, List.set_cons_succ, ix0, ix1, ix2, ix3, oAdd_i, oSub_i, oMul_i, oDiv_i, oMod_i, oLt_i, oLe_i, oGt_i, oGe_i, oEq_i, oNe_i, oInt_i, oInt_b, oAbs_i, oMax2_i, oMin2_i, oIs_n, oIs_i, oIs_t, oIs_bb, tru_b, tru_i, i1, len_t, List.length_map]) rfl c2 rfl
    have d3 : pFn g_is_exact_price (qCons (pOp oIx (pVar 5) (pC (.int 2))) qNil) [some (.tup (qs.map encQ)), some (.tup (ts.map encT)), some (.int (N : Int)), some (.lst true (rowsQ N fun p => psum pre p)), some (.lst true (rowsQ qs.length fun i => lsum pre i)), some (encT t), none] = some (.bl true) := fn_run (l := [encQ t.2.2]) (by simp only [startD, List.length_cons, List.length_nil, List.map_cons, List.map_nil, List.replicate_succ, List.replicate_zero, List.cons_append, List.nil_append, List.append_nil, eP, eN, gImm, pOp, pVar, pC, qCons, qNil, qStar, xCons, xNil, pTup, pLst, eTup, eLst, pCall, eCall, pIf, eIf, cBl, cTru, cAnd, cOr, cNot, kP, kNot, kBl, kTru, pAnd, pOr, pNot, pCh, eOp, oUsub, D.imm, D.imms, D.nof, D.nofs, D.frz, D.frzs, gdN, gdTup, gdNil, gdCons, Option.bind_some, Option.map_some, Option.join_some, List.getElem?_cons_zero, List.getElem?_cons_succ, List.set_cons_zero, List.set_cons_succ, ix0, ix1, ix2, ix3, oAdd_i, oSub_i, oMul_i, oDiv_i, oMod_i, oLt_i, oLe_i, oGt_i, oGe_i, oEq_i, oNe_i, oInt_i, oInt_b, oAbs_i, oMax2_i, oMin2_i, oIs_n, oIs_i, oIs_t, oIs_bb, tru_b, tru_i, i2]) (by simp only [D.frzs, frz_encQ]) c3 rfl
    have d4 : pFn g_plus (qCons (pOp oIx (pVar 3) (pOp oIx (pVar 5) (pC (.int 0)))) (qCons (pOp oIx (pVar 5) (pC (.int 2))) qNil)) [some (.tup (qs.map encQ)), some (.tup (ts.map encT)), some (.int (N : Int)), some (.lst true (rowsQ N fun p => psum pre p)), some (.lst true (rowsQ qs.length fun i => lsum pre i)), some (encT t), none] = some (encQ (psum pre t.1 + t.2.2)) := fn_run (l := [encQ (psum pre t.1), encQ t.2.2]) (by simp only [startD, List.length_cons, List.length_nil, List.map_cons, List.map_nil, List.replicate_succ, List.replicate_zero, List.cons_append, List.nil_append, List.append_nil, eP, eN, gImm, pOp, pVar, pC, qCons, qNil, qStar, xCons, xNil, pTup, pLst, eTup, eLst, pCall, eCall, pIf, eIf, cBl, cTru, cAnd, cOr, cNot, kP, kNot, kBl, kTru, pAnd, pOr, pNot, pCh, eOp, oUsub, D.imm, D.imms, D.nof, D.nofs, D.frz, D.frzs, gdN, gdTup, gdNil, gdCons, Option.bind_some, Option.map_some, Option.join_some, List.getElem?_cons_zero, List.getElem?_cons_succ, List.set_cons_zero, List.set_cons_succ, ix0, ix1, ix2, ix3, oAdd_i, oSub_i, oMul_i, oDiv_i, oMod_i, oLt_i, oLe_i, oGt_i, oGe_i, oEq_i, oNe_i, oInt_i, oInt_b, oAbs_i, oMax2_i, oMin2_i, oIs_n, oIs_i, oIs_t, oIs_bb, tru_b, tru_i, i0, i2, r1]) (by simp only [D.frzs, frz_encQ]) a1 (nof_encQ _)
    have d5 : pFn g_plus (qCons (pOp oIx (pVar 4) (pOp oIx (pVar 5) (pC (.int 1)))) (qCons (pOp oIx (pVar 5) (pC (.int 2))) qNil)) [some (.tup (qs.map encQ)), some (.tup (ts.map encT)), some (.int (N : Int)), some (.lst true (rowsQ N fun p => psum pre p)), some (.lst true (rowsQ qs.length fun i => lsum pre i)), some (encT t), none] = some (encQ (lsum pre t.2.1 + t.2.2)) := fn_run (l := [encQ (lsum pre t.2.1), encQ t.2.2]) (by simp only [startD, List.length_cons, List.length_nil, List.map_cons, List.map_nil, List.replicate_succ, List.replicate_zero, List.cons_append, List.nil_append, List.append_nil, eP, eN, gImm, pOp, pVar, pC, qCons, qNil, qStar, xCons, xNil, pTup, pLst, eTup, eLst, pCall, eCall, pIf, eIf, cBl, cTru, cAnd, cOr, cNot, kP, kNot, kBl, kTru, pAnd, pOr, pNot, pCh, eOp, oUsub, D.imm, D.imms, D.nof, D.nofs, D.frz, D.frzs, gdN, gdTup, gdNil, gdCons, Option.bind_some, Option.map_some, Option.join_some, List.getElem?_cons_zero, List.getElem?_cons_succ, List.set_cons_zero, List.set_cons_succ, ix0, ix1, ix2, ix3, oAdd_i, oSub_i, oMul_i, oDiv_i, oMod_i, oLt_i, oLe_i, oGt_i, oGe_i, oEq_i, oNe_i, oInt_i, oInt_b, oAbs_i, oMax2_i, oMin2_i, oIs_n, oIs_i, oIs_t, oIs_bb, tru_b, tru_i, i1, i2, r2]) (by simp only [D.frzs, frz_encQ]) a2 (nof_encQ _)
    have neq : oNe (.int 3) (.int 3) = some (.bl false) := by rw [oNe_i]; rfl
    refine wp_seq (wp_no ?_ (wp_nil ?_))
    · simp only [startD, List.length_cons, List.length_nil, List.map_cons, List.map_nil, List.replicate_succ, List.replicate_zero, List.cons_append, List.nil_append, List.append_nil, eP, eN, gImm, pOp, pVar, pC, qCons, qNil, qStar, xCons, xNil, pTup, pLst, eTup, eLst, pCall, eCall, pIf, eIf, cBl, cTru, cAnd, cOr, cNot, kP, kNot, kBl, kTru, pAnd, pOr, pNot, pCh, eOp, oUsub, D.imm, D.imms, D.nof, D.nofs, D.frz, D.frzs, gdN, gdTup, gdNil, gdCons, Option.bind_some, Option.map_some, Option.join_some, List.getElem?_cons_zero, List.getElem?_cons_succ, List.set_cons_zero, List.set_cons_succ, ix0, ix1, ix2, ix3, oAdd_i, oSub_i, oMul_i, oDiv_i, oMod_i, oLt_i, oLe_i, oGt_i, oGe_i, oEq_i, oNe_i, oInt_i, oInt_b, oAbs_i, oMax2_i, oMin2_i, oIs_n, oIs_i, oIs_t, oIs_bb, tru_b, tru_i, if_true, if_false, Bool.false_eq_true, Bool.true_and, Bool.and_true, true_or, or_true, true_and, and_true, reduceIte, decide_true, decide_false, Bool.not_true, Bool.not_false, Nat.reduceAdd, Nat.reduceSub, Nat.reduceLeDiff, Nat.zero_add, Nat.le_refl, and_self, or_self, isi, lt, neq, d1]
    show WP _ _
    refine wp_seq (wp_no ?_ (wp_nil ?_))
    · simp only [startD, List.length_cons, List.length_nil, List.map_cons, List.map_nil, List.replicate_succ, List.replicate_zero, List.cons_append, List.nil_append, List.append_nil, eP, eN, gImm, pOp, pVar, pC, qCons, qNil, qStar, xCons, xNil, pTup, pLst, eTup, eLst, pCall, eCall, pIf, eIf, cBl, cTru, cAnd, cOr, cNot, kP, kNot, kBl, kTru, pAnd, pOr, pNot, pCh, eOp, oUsub, D.imm, D.imms, D.nof, D.nofs, D.frz, D.frzs, gdN, gdTup, gdNil, gdCons, Option.bind_some, Option.map_some, Option.join_some, List.getElem?_cons_zero, List.getElem?_cons_succ, List.set_cons_zero, List.set_cons_succ, ix0, ix1, ix2, ix3, oAdd_i, oSub_i, oMul_i, oDiv_i, oMod_i, oLt_i, oLe_i, oGt_i, oGe_i, oEq_i, oNe_i, oInt_i, oInt_b, oAbs_i, oMax2_i, oMin2_i, oIs_n, oIs_i, oIs_t, oIs_bb, tru_b, tru_i, if_true, if_false, Bool.false_eq_true, Bool.true_and, Bool.and_true, true_or, or_true, true_and, and_true, reduceIte, decide_true, decide_false, Bool.not_true, Bool.not_false, Nat.reduceAdd, Nat.reduceSub, Nat.reduceLeDiff, Nat.zero_add, Nat.le_refl, and_self, or_self, d2, d3, i2, c4]
    show WP _ _
    refine wp_asgP (d := .tup [encQ (psum (pre ++ [t]) t.1), encQ (lsum (pre ++ [t]) t.2.1)]) ?_ (.inl (by simp [D.imm, D.imms, imm_encQ])) (τ2 := [some (.tup (qs.map encQ)), some (.tup (ts.map encT)), some (.int (N : Int)), some (.lst true (rowsQ N fun p => psum (pre ++ [t]) p)), some (.lst true (rowsQ qs.length fun i => lsum (pre ++ [t]) i)), some (encT t), none]) ?_ ⟨_, rfl⟩
    · simp [pTup, qCons, qNil, d4, d5, s1, s2]
    · have g1 : rowsQ N (fun q => if q = t.1 then psum (pre ++ [t]) t.1 else psum pre q) = rowsQ N fun p => psum (pre ++ [t]) p := rowsQ_congr fun p _ => by
        split
        · rename_i z; rw [z]
        · rename_i z
          unfold psum
          rw [wsum_snoc, if_neg (by simp; exact fun w => z w.symm), Rat.add_zero]
      have g2 : rowsQ qs.length (fun q => if q = t.2.1 then lsum (pre ++ [t]) t.2.1 else lsum pre q) = rowsQ qs.length fun p => lsum (pre ++ [t]) p := rowsQ_congr fun p _ => by
        split
        · rename_i z; rw [z]
        · rename_i z
          unfold lsum
          rw [wsum_snoc, if_neg (by simp; exact fun w => z w.symm), Rat.add_zero]
      simp only [D.frz, D.frzs, frz_encQ, gdTup, gdCons, gdNil, gdSub, startD, List.length_cons, List.length_nil, List.map_cons, List.map_nil, List.replicate_succ, List.replicate_zero, List.cons_append, List.nil_append, List.append_nil, eP, eN, gImm, pOp, pVar, pC, qCons, qNil, qStar, xCons, xNil, pTup, pLst, eTup, eLst, pFn, eFn, pCall, eCall, pIf, eIf, cBl, cTru, cAnd, cOr, cNot, kP, kNot, kBl, kTru, pAnd, pOr, pNot, pCh, eOp, oUsub, D.imm, D.imms, D.nof, D.nofs, D.frz, D.frzs, gdN, gdTup, gdNil, gdCons, Option.bind_some, Option.map_some, Option.join_some, List.getElem?_cons_zero, List.getElem?_cons_succ, List.set_cons_zero, List.set_cons_succ, ix0, ix1, ix2, ix3, oAdd_i, oSub_i, oMul_i, oDiv_i, oMod_i, oLt_i, oLe_i, oGt_i, oGe_i, oEq_i, oNe_i, oInt_i, oInt_b, oAbs_i, oMax2_i, oMin2_i, oIs_n, oIs_i, oIs_t, oIs_bb, tru_b, tru_i, i0, i1, imms_rowsQ, if_true, rowsQ_len, ixN_nat p4, ixN_nat p5, rowsQ_set p4, rowsQ_set p5, g1, g2]
  case h4 =>
    rintro τ' ⟨x5, rfl⟩
    show WP _ _
    have cut : ∀ t : Tri, oCut (encT t) none (some 2) = some (dRow (row2 t)) := fun t => by
      have : D.imms [.int (t.1 : Int), .int (t.2.1 : Int), encQ t.2.2] = true := imm_encT t
      unfold encT
      simp only [oCut, this, if_true]
      rfl
    have lc : lcD (gdN 5) cYes (pCut (pVar 5) (fun _ => some none) (poS (pC (.int 2)))) [some (.tup (qs.map encQ)), some (.tup (ts.map encT)), some (.int (N : Int)), some (.lst true (rowsQ N fun p => psum ts p)), some (.lst true (rowsQ qs.length fun i => lsum ts i)), none, none] (ts.map encT) = some (ts.map fun t => dRow (row2 t)) := lc_all encT (fun t => dRow (row2 t)) ts fun t ht => ⟨_, rfl, by
      simp only [pCut, poS, startD, List.length_cons, List.length_nil, List.map_cons, List.map_nil, List.replicate_succ, List.replicate_zero, List.cons_append, List.nil_append, List.append_nil, eP, eN, gImm, pOp, pVar, pC, qCons, qNil, qStar, xCons, xNil, pTup, pLst, eTup, eLst, pFn, eFn, pCall, eCall, pIf, eIf, cBl, cTru, cAnd, cOr, cNot, kP, kNot, kBl, kTru, pAnd, pOr, pNot, pCh, eOp, oUsub, D.imm, D.imms, D.nof, D.nofs, D.frz, D.frzs, gdN, gdTup, gdNil, gdCons, Option.bind_some, Option.map_some, Option.join_some, List.getElem?_cons_zero, List.getElem?_cons_succ, List.set_cons_zero, List.set_cons_succ, ix0, ix1, ix2, ix3, oAdd_i, oSub_i, oMul_i, oDiv_i, oMod_i, oLt_i, oLe_i, oGt_i, oGe_i, oEq_i, oNe_i, oInt_i, oInt_b, oAbs_i, oMax2_i, oMin2_i, oIs_n, oIs_i, oIs_t, oIs_bb, tru_b, tru_i, cut]⟩
    have er : (ts.map fun t => dRow (row2 t)) = (ts.map row2).map dRow := by rw [List.map_map]; rfl
    have plR : ∀ r : List Int, (dRow r).pl = true := fun r => by simp [dRow, D.pl, pls_map (f := D.int) (fun _ => rfl)]
    have dpR : ∀ r : List Int, (dRow r).py.depth ≤ 60 := fun r => by
      have := depth_map (f := D.int) (k := 0) (fun _ => by simp [D.py, PyData.depth]) r
      simp only [dRow, D.py, PyData.depth]
      omega
    have njR : ∀ a b : List Int, (dRow a).py = (dRow b).py → a = b := fun a b hab => by
      simp only [dRow, D.py, PyData.tuple.injEq] at hab
      exact (pys_inj fun a b h => by simpa [D.py] using h).mp hab
    have q1 := (oEq_lsts plR dpR njR (o := false) (o' := true) (xs := ts.map row2) (ys := ts.map row2)).1
    rw [decide_eq_true rfl] at q1
    have sst := sset_rows (N := N) (n := qs.length) (by omega) (by omega) (by omega) (fun t ht => ⟨(hp.pos t ht).2.2.2.1, (hp.pos t ht).2.2.2.2⟩) hp.nd hs
    have q2 : oEq (.lst true (rowsQ N fun p => psum ts p)) (.lst true (List.replicate N (encQ 1))) = some (.bl true) := by
      rw [← rowsQ_rep (g := fun _ => 1) fun _ _ => rfl, rowsQ_map, rowsQ_map, oEq_qs.1, decide_eq_true]
      exact List.map_congr_left fun p hpp => hp.ps p (List.mem_range.mp hpp)
    have q3 : oEq (.lst true (rowsQ qs.length fun i => lsum ts i)) (.lst true (qs.map encQ)) = some (.bl true) := by
      rw [rowsQ_map, oEq_qs.1, decide_eq_true]
      exact (List.map_congr_left fun p hpp => hp.ls p (List.mem_range.mp hpp)).trans (map_qAt qs)
    have rep1 := oRep_one (d := encQ 1) (k := N) (imm_encQ 1) (by omega)
    have ol : oList [.tup (qs.map encQ)] = some (.lst true (qs.map encQ)) := by simp [oList, D.seq?, imms_encQ]
    refine wp_seq (wp_setP (d := .lst true ((ts.map row2).map dRow)) ?_ (.inr ?_) ?_)
    · rw [← er]
      refine lc_eq (ds := ts.map encT) ?_ (by rw [List.length_map]; omega) rfl lc
      simp [iSeq, startD, List.length_cons, List.length_nil, List.map_cons, List.map_nil, List.replicate_succ, List.replicate_zero, List.cons_append, List.nil_append, List.append_nil, eP, eN, gImm, pOp, pVar, pC, qCons, qNil, qStar, xCons, xNil, pTup, pLst, eTup, eLst, pFn, eFn, pCall, eCall, pIf, eIf, cBl, cTru, cAnd, cOr, cNot, kP, kNot, kBl, kTru, pAnd, pOr, pNot, pCh, eOp, oUsub, D.imm, D.imms, D.nof, D.nofs, D.frz, D.frzs, gdN, gdTup, gdNil, gdCons, Option.bind_some, Option.map_some, Option.join_some, List.getElem?_cons_zero, List.getElem?_cons_succ, List.set_cons_zero, List.set_cons_succ, ix0, ix1, ix2, ix3, oAdd_i, oSub_i, oMul_i, oDiv_i, oMod_i, oLt_i, oLe_i, oGt_i, oGe_i, oEq_i, oNe_i, oInt_i, oInt_b, oAbs_i, oMax2_i, oMin2_i, oIs_n, oIs_i, oIs_t, oIs_bb, tru_b, tru_i, D.items, D.seq?, it]
    · simp [D.nof, nofs_map (f := fun r : List Int => dRow r) (fun r => by simp [dRow, D.nof, nofs_map (f := D.int) (fun _ => rfl)]), -List.map_map]
    simp only [startD, List.length_cons, List.length_nil, List.map_cons, List.map_nil, List.replicate_succ, List.replicate_zero, List.cons_append, List.nil_append, List.append_nil, List.set_cons_zero, List.set_cons_succ, Nat.reduceAdd, Nat.reduceSub]
    refine wp_frz rfl (d' := .lst false ((ts.map row2).map dRow)) ?_ ?_
    · simp only [D.frz, frzs_map (f := fun r : List Int => dRow r) (fun r => by simp [dRow, D.frz, frzs_map (f := D.int) (fun _ => rfl)])]
    refine wp_retP (d := .bl true) ?_ (.inl rfl) ⟨_, rfl⟩
    refine gI_run (pAnd_yes (op_run rfl (sset_run rfl sst) q1) (pAnd_yes (op_run rfl (op_run rfl rfl rep1) q2) (op_run rfl (call_run rfl ol) q3))) rfl
end Mt
set_option Elab.async false
set_option linter.all false
set_option maxRecDepth 100000
set_option maxHeartbeats 2000000
/-! The program's look at lots; fewest moves shown. -/
namespace DL
open PySem PySem.Spec PyProof.Rows L2
section
variable {p pa pb : DS → Option D} {ca cb : DS → Option Bool} {τ : DS} {b : Bool} {d : D}
theorem cBl_run (h : p τ = some (.bl b)) : cBl p τ = some b := by unfold cBl; rw [h]; rfl
theorem cTru_bl (h : p τ = some (.bl b)) : cTru p τ = some b := by unfold cTru; rw [h]; rfl
theorem cNot_run (h : ca τ = some b) : cNot ca τ = some (!b) := by unfold cNot; rw [h]; rfl
theorem cOr_no (h : ca τ = some false) (h2 : cb τ = some b) : cOr ca cb τ = some b := by unfold cOr; rw [h]; exact h2
theorem cOr_yes (h : ca τ = some true) : cOr ca cb τ = some true := by unfold cOr; rw [h]; rfl
theorem cAnd_yes (h : ca τ = some true) (h2 : cb τ = some b) : cAnd ca cb τ = some b := by unfold cAnd; rw [h]; exact h2
theorem cAnd_no (h : ca τ = some false) : cAnd ca cb τ = some false := by unfold cAnd; rw [h]; rfl
theorem qC_run {q : DS → Option (List D)} {ds : List D} (h : p τ = some d) (h2 : q τ = some ds) : qCons p q τ = some (d :: ds) := by unfold qCons; rw [h, Option.bind_some, h2]; rfl
theorem pTup_run {q : DS → Option (List D)} {ds : List D} (h : q τ = some ds) (hl : ds.length ≤ 16777216) : pTup q τ = some (.tup ds) := by unfold pTup; rw [h, Option.bind_some, if_pos hl]
theorem pLst_run {q : DS → Option (List D)} {ds : List D} (h : q τ = some ds) (hl : ds.length ≤ 16777216) : pLst q τ = some (.lst true ds) := by unfold pLst; rw [h, Option.bind_some, if_pos hl]
theorem isi_tup {ds : List D} (h : p τ = some (.tup ds)) : pIsi "tuple" p τ = some (.bl true) := by
  unfold pIsi
  rw [h, Option.bind_some, ty_t', if_neg (by decide), kit3']
  rfl
where
  ty_t' : ∀ {l : List D}, (D.tup l).tyN = "tuple" := rfl
  kit3' : kitB "tuple" "tuple" = some true := by decide +kernel
theorem iSeq_tup {ds : List D} (h : p τ = some (.tup ds)) (hi : D.imms ds = true) : iSeq p τ = some ds := by
  unfold iSeq
  rw [h]
  simp [D.items, D.seq?, hi]
theorem iSeq_lst {ds : List D} {o : Bool} (h : p τ = some (.lst o ds)) (hi : D.imms ds = true) : iSeq p τ = some ds := by
  unfold iSeq
  rw [h]
  simp [D.items, D.seq?, hi]
theorem oList_t {ds : List D} (hi : D.imms ds = true) : oList [.tup ds] = some (.lst true ds) := by simp [oList, D.seq?, hi]
theorem oList_l {ds : List D} {o : Bool} (hi : D.imms ds = true) : oList [.lst o ds] = some (.lst true ds) := by simp [oList, D.seq?, hi]
theorem oTuple_t {ds : List D} (hi : D.imms ds = true) : oTuple [.tup ds] = some (.tup ds) := by simp [oTuple, D.seq?, hi]
theorem oTuple_l {ds : List D} {o : Bool} (hi : D.imms ds = true) : oTuple [.lst o ds] = some (.tup ds) := by simp [oTuple, D.seq?, hi]
theorem oLen_t {ds : List D} : oLen [.tup ds] = some (.int (ds.length : Nat)) := rfl
theorem pRg1_run {n : Nat} (h : p τ = some (.int (n : Int))) (hn : n ≤ 1000) : pRg1 p τ = some (.lst true (rgD 0 n)) := by
  have h1 : okR (n : Int) = true := okR_of (by omega) (by omega)
  have h2 : n ≤ 16777216 := Nat.le_trans hn (by decide)
  unfold pRg1
  rw [h, Option.bind_some]
  simp only [h1, h2, and_self, if_true, Int.toNat_natCast]
theorem wp_ext {i : Nat} {pe : DS → Option D} {x : D} {ds es : List D} {Q : Out → Prop} (h : pe τ = some x) (hx : x.ext? = some es) (h0 : τ[i]? = some (some (.lst true ds))) (hi : D.imms es = true) (hd : D.imms ds = true) (hl : ds.length + es.length ≤ 16777216) (k : Q (.nx (τ.set i (some (.lst true (ds ++ es)))))) : WP (fExt i pe τ) Q := by
  refine ⟨_, ?_, k⟩
  unfold fExt pVar
  rw [h0, h]
  simp [hx, hi, hd, hl]
end
end DL
namespace Mt
open DL Wk PySem L2
theorem is_int_run {p q r : DS → Option D} {τ : DS} {v lo hi : Int} {b : Bool} (h1 : p τ = some (.int v)) (h2 : q τ = some (.int lo)) (h3 : r τ = some (.int hi)) (hb : decide (lo ≤ v ∧ v ≤ hi) = b) : pFn g_is_int (qCons p (qCons q (qCons r qNil))) τ = some (.bl b) :=
  fn_run (qC_run h1 (qC_run h2 (qC_run h3 rfl))) rfl ((is_int_spec v lo hi).trans (by rw [hb])) rfl
theorem inj_nat (a b : Nat) (h : (D.int (a : Int)).py = (D.int (b : Int)).py) : a = b := by
  simp only [D.py, PyData.int.injEq] at h
  omega
theorem bls_rep (n : Nat) : D.bls? (List.replicate n (D.bl true)) = some (List.replicate n true) := by
  rw [← List.map_replicate (f := D.bl)]
  exact D.bls_map _
theorem ie_lots {o o' : Bool} {xs ys : List Nat} : oEq (.lst o (lotD xs)) (.lst o' (lotD ys)) = some (.bl (decide (xs = ys))) ∧ oNe (.lst o (lotD xs)) (.lst o' (lotD ys)) = some (.bl (!decide (xs = ys))) :=
  oEq_lsts (f := fun i : Nat => D.int (i : Int)) (fun _ => rfl) (fun _ => by simp [D.py, PyData.depth]) inj_nat
theorem pl_encLot (l : List Nat) : (encLot l).pl = true := by simp [encLot, lotD, D.pl, pls_map (f := fun i : Nat => D.int (i : Int)) (fun _ => rfl)]
theorem dep_encLot (l : List Nat) : (encLot l).py.depth ≤ 60 := by
  have := depth_map (f := fun i : Nat => D.int (i : Int)) (k := 0) (fun _ => by simp [D.py, PyData.depth]) l
  simp only [encLot, lotD, D.py, PyData.depth]
  omega
theorem inj_encLot (a b : List Nat) (h : (encLot a).py = (encLot b).py) : a = b := by
  simp only [encLot, lotD, D.py, PyData.tuple.injEq] at h
  exact (pys_inj inj_nat).mp h
theorem map_range_get {qs : List Rat} : ∀ {l : List Nat}, (∀ i ∈ l, i < qs.length) → (l.map fun i => encQ (qAt qs i)) = (l.map (qAt qs)).map encQ := fun _ => by rw [List.map_map]; rfl
theorem lot_sum {qs : List Rat} (h : Needs qs) {lots : List (List Nat)} (hl : LotsOk qs lots) {lot : List Nat} (hm : lot ∈ lots) : (∀ i ∈ lot, i < qs.length) ∧ lot.length ≤ 8 ∧ lot.Nodup := by
  have pf := hl.perm
  have nd : lots.flatten.Nodup := pf.nodup_iff.mpr List.nodup_range
  refine ⟨fun i hi => ?_, ?_, ?_⟩
  · have : i ∈ lots.flatten := List.mem_flatten.mpr ⟨lot, hm, hi⟩
    exact List.mem_range.mp (pf.mem_iff.mp this)
  · have := mem_flat_len hm
    have e := pf.length_eq
    rw [List.length_range] at e
    have := h.len
    omega
  · exact (List.pairwise_flatten.mp nd).1 lot hm
theorem lots_len {qs : List Rat} (h : Needs qs) {lots : List (List Nat)} (hl : LotsOk qs lots) : lots.length ≤ 8 := by
  have := flat_len_le fun l hm => (hl.wh l hm).1
  have e := hl.perm.length_eq
  rw [List.length_range] at e
  have := h.len
  omega
theorem are_lots_spec {qs : List Rat} {lots : List (List Nat)} (h : Needs qs) (hl : LotsOk qs lots) : g_are_lots [.tup (qs.map encQ), encLots lots] = some (.bl true) := by
  have h8 := h.len
  have tw := h.twl
  have il := imms_map imm_encLot lots
  have l8 := lots_len h hl
  have flat8 : lots.flatten.length ≤ 8 := by
    have e := hl.perm.length_eq
    rw [List.length_range] at e
    omega
  refine g_wp rfl ?_
  unfold b_are_lots
  simp only [startD, List.length_cons, List.length_nil, List.map_cons, List.map_nil, List.replicate_succ, List.replicate_zero, List.cons_append, List.nil_append, List.append_nil, List.set_cons_zero, List.set_cons_succ, Nat.reduceAdd, Nat.reduceSub, N_are_lots]
  refine wp_seq (wp_no (cNot_run (b := true) (cTru_bl (isi_tup rfl))) (wp_nil ?_))
  show WP _ _
  refine wp_seq (wp_setP (d := .lst true []) rfl (.inr rfl) ?_)
  simp only [startD, List.length_cons, List.length_nil, List.map_cons, List.map_nil, List.replicate_succ, List.replicate_zero, List.cons_append, List.nil_append, List.append_nil, List.set_cons_zero, List.set_cons_succ, Nat.reduceAdd, Nat.reduceSub]
  refine wp_seq (wp_forL (enc := encLot) (xs := lots) (fun pre τ => ∃ x3, τ = [some (.tup (qs.map encQ)), some (encLots lots), some (.lst true (lotD pre.flatten)), x3, none]) ?h1 ⟨none, rfl⟩ ?h3 ?h4)
  case h1 => exact iSeq_tup (gI_run rfl (by simp [encLots, D.imm, il])) il
  case h3 =>
    rintro pre lot post _ e ⟨x3, rfl⟩
    refine ⟨_, rfl, ?_⟩
    simp only [startD, List.length_cons, List.length_nil, List.map_cons, List.map_nil, List.replicate_succ, List.replicate_zero, List.cons_append, List.nil_append, List.append_nil, List.set_cons_zero, List.set_cons_succ, Nat.reduceAdd, Nat.reduceSub]
    have hm : lot ∈ lots := by rw [e]; simp
    obtain ⟨hi, hlen, hnd⟩ := lot_sum h hl hm
    obtain ⟨hne, hwh⟩ := hl.wh lot hm
    have hasc := hl.asc lot hm
    have iml := imms_lotD lot
    have seq3 : iSeq (gImm (pVar 3)) [some (.tup (qs.map encQ)), some (encLots lots), some (.lst true (lotD pre.flatten)), some (encLot lot), none] = some (lotD lot) := iSeq_tup (gI_run rfl (imm_encLot lot)) iml
    have lc1 : lcD (gdN 4) cYes (pFn g_is_int (qCons (pVar 4) (qCons (pC (.int 0)) (qCons (pOp oSub (pCall oLen (qCons (pVar 0) qNil)) (pC (.int 1))) qNil)))) [some (.tup (qs.map encQ)), some (encLots lots), some (.lst true (lotD pre.flatten)), some (encLot lot), none] (lotD lot) = some (List.replicate lot.length (D.bl true)) := lc_bl (c := cYes) (fun i : Nat => D.int (i : Int)) true lot fun i hi' => ⟨_, rfl, by
      have := hi i hi'
      refine is_int_run (v := (i : Int)) (lo := 0) (hi := (qs.length : Int) - 1) rfl rfl (op_run (call_run rfl (oLen_t)) rfl ?_) (decide_eq_true (by omega))
      rw [List.length_map, oSub_i]⟩
    have e1 : pLc (iSeq (gImm (pVar 3))) (gdN 4) cYes (pFn g_is_int (qCons (pVar 4) (qCons (pC (.int 0)) (qCons (pOp oSub (pCall oLen (qCons (pVar 0) qNil)) (pC (.int 1))) qNil)))) [4] [some (.tup (qs.map encQ)), some (encLots lots), some (.lst true (lotD pre.flatten)), some (encLot lot), none] = some (.lst true (List.replicate lot.length (D.bl true))) := lc_eq seq3 (by rw [lotD_len]; omega) rfl lc1
    have lc2 : lcD (gdN 4) cYes (gImm (pOp oIx (pVar 0) (pVar 4))) [some (.tup (qs.map encQ)), some (encLots lots), some (.lst true (lotD pre.flatten)), some (encLot lot), none] (lotD lot) = some (lot.map fun i => encQ (qAt qs i)) := lc_all (fun i : Nat => D.int (i : Int)) _ lot fun i hi' => ⟨_, rfl, gI_run (op_run rfl rfl (ix_needs (hi i hi'))) (imm_encQ _)⟩
    have e2 : pLc (iSeq (gImm (pVar 3))) (gdN 4) cYes (gImm (pOp oIx (pVar 0) (pVar 4))) [4] [some (.tup (qs.map encQ)), some (encLots lots), some (.lst true (lotD pre.flatten)), some (encLot lot), none] = some (.lst true ((lot.map (qAt qs)).map encQ)) := by
      rw [← map_range_get hi]
      exact lc_eq seq3 (by rw [lotD_len]; omega) rfl lc2
    have ss := summed_spec (qs_lst (lot.map (qAt qs))) (fun q hq => by
      obtain ⟨i, hi', rfl⟩ := List.mem_map.mp hq
      exact (tw.sm (by decide)).1 _ (qAt_mem (hi i hi'))) (by rw [List.length_map]; omega)
    have e3 : pFn g_summed (qCons (pLc (iSeq (gImm (pVar 3))) (gdN 4) cYes (gImm (pOp oIx (pVar 0) (pVar 4))) [4]) qNil) [some (.tup (qs.map encQ)), some (encLots lots), some (.lst true (lotD pre.flatten)), some (encLot lot), none] = some (encQ (qsum (lot.map (qAt qs)))) := fn_run (qC_run e2 rfl) (by simp only [D.frzs, D.frz, frzs_encQ]) ss (nof_encQ _)
    have den : oIx (encQ (qsum (lot.map (qAt qs)))) (.int 1) = some (.int 1) := by
      rw [den_enc]
      unfold Wh at hwh
      rw [hwh]
      rfl
    have q1 : oEq (encLot lot) (.tup []) = some (.bl false) := by
      have z := (oEq_tups (f := fun i : Nat => D.int (i : Int)) (fun _ => rfl) (fun _ => by simp [D.py, PyData.depth]) inj_nat (xs := lot) (ys := [])).1
      rw [decide_eq_false hne] at z
      exact z
    have q2 : oNe (.lst true (lotD lot)) (.lst true (lotD lot)) = some (.bl false) := by rw [ie_lots.2]; simp
    have q3 : oNe (.int 1) (.int 1) = some (.bl false) := by rw [oNe_i]; rfl
    have so : oSorted [encLot lot] = some (.lst true (lotD lot)) := by
      have z := oSorted_t (srt_lotD lot)
      rw [sort_lotD, ascN_id hasc] at z
      exact z
    refine wp_seq (wp_no (cOr_no (cNot_run (b := true) (cTru_bl (isi_tup rfl))) (cNot_run (b := true) (cTru_bl (call_run (qC_run e1 rfl) (oAll_rep _))))) (wp_nil ?_))
    show WP _ _
    refine wp_seq (wp_no (cOr_no (cBl_run (op_run rfl rfl q1)) (cOr_no (cBl_run (op_run (call_run rfl (oList_t iml)) (call_run rfl so) q2)) (cBl_run (op_run (op_run e3 rfl den) rfl q3)))) (wp_nil ?_))
    show WP _ _
    refine wp_ext (x := encLot lot) (es := lotD lot) (ds := lotD pre.flatten) rfl rfl rfl iml (imms_lotD _) ?_ ⟨some (encLot lot), ?_⟩
    · rw [lotD_len, lotD_len]
      have : pre.flatten.length ≤ lots.flatten.length := by rw [e]; simp
      omega
    · have : lotD pre.flatten ++ lotD lot = lotD (pre ++ [lot]).flatten := by simp [lotD]
      simp only [startD, List.length_cons, List.length_nil, List.map_cons, List.map_nil, List.replicate_succ, List.replicate_zero, List.cons_append, List.nil_append, List.append_nil, List.set_cons_zero, List.set_cons_succ, Nat.reduceAdd, Nat.reduceSub, this]
  case h4 =>
    rintro _ ⟨x3, rfl⟩
    show WP _ _
    have so : oSorted [.lst true (lotD lots.flatten)] = some (.lst true (lotD (List.range qs.length))) := by
      have z := oSorted_l (o := true) (srt_lotD lots.flatten)
      rw [sort_lotD, ascN_eq hl.perm (List.pairwise_lt_range.imp Nat.le_of_lt)] at z
      exact z
    have er : rgD 0 qs.length = lotD (List.range qs.length) := by
      unfold rgD lotD
      exact List.map_congr_left fun i _ => by rw [Int.zero_add]
    have q1 : oEq (.lst true (lotD (List.range qs.length))) (.lst true (rgD 0 qs.length)) = some (.bl true) := by rw [er, ie_lots.1]; simp
    have q2 : oEq (.lst true (lots.map encLot)) (.lst true (lots.map encLot)) = some (.bl true) := by rw [(oEq_lsts pl_encLot dep_encLot inj_encLot).1]; simp
    have so2 : oSorted [encLots lots] = some (.lst true (lots.map encLot)) := by
      have z := oSorted_t (srt_lots fun l hm => (hl.wh l hm).1)
      rw [sort_id hl.srt] at z
      exact z
    have rg : pRg1 (pCall oLen (qCons (pVar 0) qNil)) [some (.tup (qs.map encQ)), some (encLots lots), some (.lst true (lotD lots.flatten)), x3, none] = some (.lst true (rgD 0 qs.length)) := by
      have z : pCall oLen (qCons (pVar 0) qNil) [some (.tup (qs.map encQ)), some (encLots lots), some (.lst true (lotD lots.flatten)), x3, none] = some (.int (qs.length : Int)) := call_run rfl (by rw [oLen_t, List.length_map])
      exact pRg1_run z (by omega)
    exact wp_retP (d := .bl true) (gI_run (pAnd_yes (op_run (call_run rfl so) rg q1) (op_run (call_run rfl (oList_t il)) (call_run rfl so2) q2)) rfl) (.inl rfl) ⟨_, rfl⟩
end Mt
set_option Elab.async false
set_option linter.all false
set_option maxRecDepth 100000
set_option maxHeartbeats 2000000
/-! Fewest moves shown; ways of pairs. -/
namespace DL
open PySem PySem.Spec PyProof.Rows L2
theorem oNe_str (x : Str) (h : PyData.strOk x = true) : oNe (.str x) (.str x) = some (.bl false) := by
  have z := (oEq_pl (x := .str x) (y := .str x) (p := True) (by simp [D.pl, h]) (by simp [D.pl, h]) (by simp [D.py, PyData.depth]) (by simp [D.py, PyData.depth]) (by simp)).2
  simpa using z
theorem isi_str {p : DS → Option D} {τ : DS} {x : Str} (h : p τ = some (.str x)) : pIsi "str" p τ = some (.bl true) := by
  unfold pIsi
  rw [h, Option.bind_some, ty', if_neg (by decide), kit']
  rfl
where
  ty' : ∀ {x : Str}, (D.str x).tyN = "str" := rfl
  kit' : kitB "str" "str" = some true := by decide +kernel
end DL
namespace Mt
open DL Wk PySem L2
theorem is_told_spec {x : Str} {a b c : D} : g_is_told [.tup [.str x, a, b, c], .tup [.int 4]] = some (.bl true) := by
  refine g_wp rfl ?_
  unfold b_is_told
  simp only [startD, List.length_cons, List.length_nil, List.map_cons, List.map_nil, List.replicate_succ, List.replicate_zero, List.cons_append, List.nil_append, List.append_nil, List.set_cons_zero, List.set_cons_succ, Nat.reduceAdd, Nat.reduceSub, N_is_told]
  have q : oIn false (.int 4) (.tup [.int 4]) = some (.bl true) := by rfl
  exact wp_retP (d := .bl true) (gI_run (pAnd_yes (isi_tup rfl) (pAnd_yes (op_run (call_run rfl oLen_t) rfl q) (isi_str (op_run rfl rfl ix0)))) rfl) (.inl rfl) ⟨_, rfl⟩
structure Told (qs : List Rat) (N : Nat) (lots : List (List Nat)) (ts : List Tri) : Prop where
  ok : LotsOk qs lots
  most : IsMost (qAt qs) (List.range qs.length) lots.length
  prs : PairsOk qs N ts
  srt : LeP (ts.map encT)
  num : ts.length + lots.length = N + qs.length
theorem shows_spec {qs : List Rat} {N : Nat} {lots : List (List Nat)} {ts : List Tri} (h : Needs qs) (hN : qsum qs = (N : Rat)) (h24 : N ≤ 24) (ht : Told qs N lots ts) (m : Int) :
    g_shows_fewest_moved [.tup (qs.map encQ), .tup [.str "moved", .int m, .tup (ts.map encT), encLots lots]] = some (.bl (decide (m = (qs.length : Int) - (lots.length : Int)))) := by
  have h8 := h.len
  have tw := h.twl
  have il := imms_map imm_encLot lots
  have it := imms_map imm_encT ts
  have f0 := frzs_encQ qs
  have fl := frzs_map frz_encLot lots
  have ft := frzs_map frz_encT ts
  have nl := nofs_map nof_encLot lots
  obtain ⟨_, ⟨lots', rfl, l1, l2⟩, e1⟩ := told_lots_spec h
  have ek : lots'.length = lots.length := l2.unique ht.most
  have nl' := nofs_map nof_encLot lots'
  have e0 := look_needs_spec h
  have ep := are_pairs_spec h hN h24 ht.prs ht.srt (by have := ht.num; omega)
  have el := are_lots_spec h ht.ok
  have ss := summed_spec (qs_tup qs) (tw.sm (by decide)).1 (by omega)
  have num : oIx (encQ (qsum qs)) (.int 0) = some (.int (N : Int)) := by
    have : (qsum qs).num = (N : Int) := by rw [hN]; rfl
    rw [← this]
    exact ix0
  have fv : D.frzs [.tup (qs.map encQ)] = [.tup (qs.map encQ)] := by simp only [D.frzs, D.frz, f0]
  refine g_wp rfl ?_
  unfold b_shows_fewest_moved
  simp only [startD, List.length_cons, List.length_nil, List.map_cons, List.map_nil, List.replicate_succ, List.replicate_zero, List.cons_append, List.nil_append, List.append_nil, List.set_cons_zero, List.set_cons_succ, Nat.reduceAdd, Nat.reduceSub, N_shows_fewest_moved]
  refine wp_seq (wp_expP (fn_run rfl fv e0 rfl) (.inl rfl) ?_)
  show WP _ _
  have c1 : pFn g_is_told (qCons (pVar 1) (qCons (pTup (qCons (pC (.int 4)) qNil)) qNil)) [some (.tup (qs.map encQ)), some (D.tup [.str "moved", .int m, .tup (ts.map encT), encLots lots]), none] = some (.bl true) :=
    fn_run (l' := [(D.tup [.str "moved", .int m, .tup (ts.map encT), encLots lots]), .tup [.int 4]]) (qC_run rfl (qC_run (pTup_run rfl (by decide)) rfl)) (by simp only [D.frzs, D.frz, fl, ft, encLots]) is_told_spec rfl
  have c2 : pFn g_are_pairs (qCons (pVar 0) (qCons (pOp oIx (pVar 1) (pC (.int 2))) qNil)) [some (.tup (qs.map encQ)), some (D.tup [.str "moved", .int m, .tup (ts.map encT), encLots lots]), none] = some (.bl true) :=
    fn_run (qC_run rfl (qC_run (op_run rfl rfl ix2) rfl)) (by simp only [D.frzs, D.frz, f0, ft]) ep rfl
  refine wp_seq (wp_no (cOr_no (cNot_run (b := true) (cTru_bl c1)) (cOr_no (cBl_run (op_run (op_run rfl rfl ix0) rfl (oNe_str _ (by decide +kernel)))) (cNot_run (b := true) (cTru_bl c2)))) (wp_nil ?_))
  show WP _ _
  refine wp_seq (wp_setP (d := .int (lots.length : Int)) (gI_run (call_run (qC_run (fn_run rfl fv e1 (by simp only [encLots, D.nof, nl'])) rfl) (by rw [encLots, oLen_t, List.length_map, ek])) rfl) (.inl rfl) ?_)
  simp only [startD, List.length_cons, List.length_nil, List.map_cons, List.map_nil, List.replicate_succ, List.replicate_zero, List.cons_append, List.nil_append, List.append_nil, List.set_cons_zero, List.set_cons_succ, Nat.reduceAdd, Nat.reduceSub]
  have c3 : pFn g_is_int (qCons (pOp oIx (pVar 1) (pC (.int 1))) (qCons (pOp oSub (pCall oLen (qCons (pVar 0) qNil)) (pVar 2)) (qCons (pOp oSub (pCall oLen (qCons (pVar 0) qNil)) (pVar 2)) qNil))) [some (.tup (qs.map encQ)), some (D.tup [.str "moved", .int m, .tup (ts.map encT), encLots lots]), some (.int (lots.length : Int))] = some (.bl (decide (m = (qs.length : Int) - (lots.length : Int)))) := by
    have z : pOp oSub (pCall oLen (qCons (pVar 0) qNil)) (pVar 2) [some (.tup (qs.map encQ)), some (D.tup [.str "moved", .int m, .tup (ts.map encT), encLots lots]), some (.int (lots.length : Int))] = some (.int ((qs.length : Int) - (lots.length : Int))) := op_run (call_run rfl oLen_t) rfl (by rw [List.length_map, oSub_i])
    refine is_int_run (op_run rfl rfl ix1) z z ?_
    exact decide_eq_decide.mpr (by omega)
  by_cases hm : m = (qs.length : Int) - (lots.length : Int)
  · rw [decide_eq_true hm] at c3 ⊢
    refine wp_seq (wp_no (cNot_run (b := true) (cTru_bl c3)) (wp_nil ?_))
    show WP _ _
    have c4 : pFn g_summed (qCons (pVar 0) qNil) [some (.tup (qs.map encQ)), some (D.tup [.str "moved", .int m, .tup (ts.map encT), encLots lots]), some (.int (lots.length : Int))] = some (encQ (qsum qs)) := fn_run rfl fv ss (nof_encQ _)
    have ne : oNe (.int ((ts.length : Nat) : Int)) (.int ((N : Int) + m)) = some (.bl false) := by
      have := ht.num
      rw [oNe_i, decide_eq_true (by omega)]
      rfl
    refine wp_seq (wp_no (cBl_run (op_run (call_run (qC_run (op_run rfl rfl ix2) rfl) (by rw [oLen_t, List.length_map])) (op_run (op_run c4 rfl num) (op_run rfl rfl ix1) oAdd_i) ne)) (wp_nil ?_))
    show WP _ _
    have c5 : pFn g_are_lots (qCons (pVar 0) (qCons (pOp oIx (pVar 1) (pC (.int 3))) qNil)) [some (.tup (qs.map encQ)), some (D.tup [.str "moved", .int m, .tup (ts.map encT), encLots lots]), some (.int (lots.length : Int))] = some (.bl true) := fn_run (qC_run rfl (qC_run (op_run rfl rfl ix3) rfl)) (by simp only [D.frzs, D.frz, f0, encLots, fl]) el rfl
    have eq : oEq (.int (lots.length : Int)) (.int (lots.length : Int)) = some (.bl true) := by rw [oEq_i, decide_eq_true rfl]
    exact wp_retP (d := .bl true) (gI_run (pAnd_yes c5 (op_run (call_run (qC_run (op_run rfl rfl ix3) rfl) (by rw [encLots, oLen_t, List.length_map])) rfl eq)) rfl) (.inl rfl) ⟨_, rfl⟩
  · rw [decide_eq_false hm] at c3 ⊢
    exact wp_seq (wp_yes (cNot_run (b := false) (cTru_bl c3)) (wp_retP (d := .bl false) rfl (.inl rfl) ⟨_, rfl⟩))
/-! ### ways -/
def wAt (ts : List Tri) (p i : Nat) : Rat := wsum (fun t => t.1 == p && t.2.1 == i) ts
def wRow (qs : List Rat) (ts : List Tri) (p : Nat) : List D := rowsQ qs.length fun i => wAt ts p i / qAt qs i
theorem nofs_rowsQ {N : Nat} {g : Nat → Rat} : D.nofs (rowsQ N g) = true := nofs_map (fun _ => nof_encQ _) _
theorem frzs_rowsQ {N : Nat} {g : Nat → Rat} : D.frzs (rowsQ N g) = rowsQ N g := frzs_map (fun _ => frz_encQ _) _
theorem zero_div' (q : Rat) : (0 : Rat) / q = 0 := by grind
theorem wp_sub2 {Q : Out → Prop} {i : Nat} {p p' pe : DS → Option D} {τ : DS} {d : D} {ds es : List D} {k k' : Nat} (he : pe τ = some d) (hd : d.imm = true) (hf : d.frz = d) (h0 : τ[i]? = some (some (.lst true ds))) (h1 : p τ = some (.int (k : Int))) (h2 : p' τ = some (.int (k' : Int))) (h3 : ds[k]? = some (.lst true es)) (hi : D.imms es = true) (hk : k' < es.length)
    (kk : Q (.nx (τ.set i (some (.lst true (ds.set k (.lst true (es.set k' d)))))))) : WP (fAsg (gdSub2 i p p') (eP pe) τ) Q := by
  refine wp_asgP he (.inl hd) ?_ kk
  have hkl : k < ds.length := (List.getElem?_eq_some_iff.mp h3).1
  unfold gdSub2 pVar
  rw [h0, h1, h2, hf]
  simp only [Option.join_some, Option.bind_some, ixN_nat hkl, h3, hi, if_true, ixN_nat hk]
theorem ways_spec {qs : List Rat} {N : Nat} {lots : List (List Nat)} {ts : List Tri} (h : Needs qs) (hN : qsum qs = (N : Rat)) (h24 : N ≤ 24) (ht : Told qs N lots ts) :
    g_ways_of_pairs [.tup (qs.map encQ), .tup (ts.map encT)] = some (.tup ((List.range N).map fun p => .tup (wRow qs ts p))) := by
  have h8 := h.len
  have tw := h.twl
  have it := imms_map imm_encT ts
  have f0 := frzs_encQ qs
  have ft := frzs_map frz_encT ts
  have e0 := look_needs_spec h
  have hp := ht.prs
  have ep := are_pairs_spec h hN h24 hp ht.srt (by have := ht.num; omega)
  have ss := summed_spec (qs_tup qs) (tw.sm (by decide)).1 (by omega)
  have num : oIx (encQ (qsum qs)) (.int 0) = some (.int (N : Int)) := by
    have : (qsum qs).num = (N : Int) := by rw [hN]; rfl
    rw [← this]
    exact ix0
  have fv : D.frzs [.tup (qs.map encQ)] = [.tup (qs.map encQ)] := by simp only [D.frzs, D.frz, f0]
  refine g_wp rfl ?_
  unfold b_ways_of_pairs
  simp only [startD, List.length_cons, List.length_nil, List.map_cons, List.map_nil, List.replicate_succ, List.replicate_zero, List.cons_append, List.nil_append, List.append_nil, List.set_cons_zero, List.set_cons_succ, Nat.reduceAdd, Nat.reduceSub, N_ways_of_pairs]
  refine wp_seq (wp_expP (fn_run rfl fv e0 rfl) (.inl rfl) ?_)
  show WP _ _
  have c2 : pFn g_are_pairs (qCons (pVar 0) (qCons (pVar 1) qNil)) [some (.tup (qs.map encQ)), some (.tup (ts.map encT)), none, none, none, none, none] = some (.bl true) := fn_run rfl (by simp only [D.frzs, D.frz, f0, ft]) ep rfl
  refine wp_seq (wp_no (cNot_run (b := true) (cTru_bl c2)) (wp_nil ?_))
  show WP _ _
  have rep : ∀ τ : DS, τ[0]? = some (some (.tup (qs.map encQ))) → pOp oRep (pLst (qCons (pC (.tup [(.int 0), (.int 1)])) qNil)) (pCall oLen (qCons (pVar 0) qNil)) τ = some (.lst true (wRow qs [] 0)) := fun τ h0 => by
    have er : wRow qs [] 0 = List.replicate qs.length (encQ 0) := rowsQ_rep fun p _ => zero_div' _
    rw [er]
    refine op_run (x := .lst true [encQ 0]) (y := .int (qs.length : Int)) rfl (call_run (qC_run ?_ rfl) (l := [.tup (qs.map encQ)]) (by rw [oLen_t, List.length_map])) (oRep_one (imm_encQ 0) (by omega))
    unfold pVar
    rw [h0]
    rfl
  have lc := lc_all (g := gdN 3) (p := pOp oRep (pLst (qCons (pC (.tup [(.int 0), (.int 1)])) qNil)) (pCall oLen (qCons (pVar 0) qNil))) (τ := [some (.tup (qs.map encQ)), some (.tup (ts.map encT)), none, none, none, none, none]) (fun i : Nat => D.int (0 + (i : Int))) (fun i => D.lst true (wRow qs [] i)) (List.range N) fun x hx => ⟨_, rfl, rep _ rfl⟩
  refine wp_seq (wp_setP (d := .lst true ((List.range N).map fun i => D.lst true (wRow qs [] i))) ?_ (.inr ?_) ?_)
  · refine lc_eq (ds := rgD 0 N) ?_ (by rw [rgD_len]; omega) rfl lc
    exact rg1_eq (op_run (fn_run rfl fv ss (nof_encQ _)) rfl num) (by omega)
  · simp only [D.nof, nofs_map (f := fun i => D.lst true (wRow qs [] i)) (fun i => by simp only [D.nof, wRow, nofs_rowsQ, Bool.and_self]), Bool.and_self]
  simp only [startD, List.length_cons, List.length_nil, List.map_cons, List.map_nil, List.replicate_succ, List.replicate_zero, List.cons_append, List.nil_append, List.append_nil, List.set_cons_zero, List.set_cons_succ, Nat.reduceAdd, Nat.reduceSub]
  refine wp_seq (wp_forL (enc := encT) (xs := ts) (fun pre τ => ∃ x3 x4 x5, τ = [some (.tup (qs.map encQ)), some (.tup (ts.map encT)), some (.lst true ((List.range N).map fun p => D.lst true (wRow qs pre p))), x3, x4, x5, none]) ?h1 ⟨none, none, none, rfl⟩ ?h3 ?h4)
  case h1 => exact iSeq_tup (gI_run rfl (by simp only [D.imm, it])) it
  case h3 =>
    rintro pre t post _ e ⟨x3, x4, x5, rfl⟩
    obtain ⟨p1, p2, p3, p4, p5⟩ := hp.pos t (by rw [e]; simp)
    have fa1 := h.one _ (qAt_mem p5)
    have ov := over_spec (tw_sm p2 (by grind) (by grind)) ((tw.sm (by decide)).1 _ (qAt_mem p5)) (by grind)
    refine ⟨[some (.tup (qs.map encQ)), some (.tup (ts.map encT)), some (.lst true ((List.range N).map fun p => D.lst true (wRow qs pre p))), some (.int (t.1 : Int)), some (.int (t.2.1 : Int)), some (encQ t.2.2), none], rfl, ?_⟩
    have hv : pFn g_over (qCons (pVar 5) (qCons (pOp oIx (pVar 0) (pVar 4)) qNil)) [some (.tup (qs.map encQ)), some (.tup (ts.map encT)), some (.lst true ((List.range N).map fun p => D.lst true (wRow qs pre p))), some (.int (t.1 : Int)), some (.int (t.2.1 : Int)), some (encQ t.2.2), none] = some (encQ (t.2.2 / qAt qs t.2.1)) :=
      fn_run (qC_run rfl (qC_run (op_run rfl rfl (ix_needs p5)) rfl)) (by simp only [D.frzs, frz_encQ]) ov (nof_encQ _)
    refine wp_sub2 (k := t.1) (k' := t.2.1) (es := wRow qs pre t.1) hv (imm_encQ _) (frz_encQ _) rfl rfl rfl ?_ imms_rowsQ ?_ ⟨some (.int (t.1 : Int)), some (.int (t.2.1 : Int)), some (encQ t.2.2), ?_⟩
    · rw [List.getElem?_map, List.getElem?_range p4]
      rfl
    · unfold wRow
      rw [rowsQ_len]
      exact p5
    · have nm : nam t ∉ pre.map nam := by
        have nd := hp.nd
        rw [e, List.map_append] at nd
        have := (List.nodup_append.mp nd).2.2
        intro w
        exact this _ w _ (by simp) rfl
      have w0 : wAt pre t.1 t.2.1 = 0 := by
        unfold wAt wsum
        rw [List.filter_eq_nil_iff.mpr]
        · rfl
        · intro u hu
          simp only [Bool.and_eq_true, beq_iff_eq]
          rintro ⟨q1, q2⟩
          exact nm (List.mem_map.mpr ⟨u, hu, by simp only [nam, q1, q2]⟩)
      have es : (List.range N).map (fun p => D.lst true (wRow qs (pre ++ [t]) p)) = ((List.range N).map fun p => D.lst true (wRow qs pre p)).set t.1 (D.lst true ((wRow qs pre t.1).set t.2.1 (encQ (t.2.2 / qAt qs t.2.1)))) := by
        rw [set_range _ p4]
        refine List.map_congr_left fun p _ => ?_
        by_cases q : p = t.1
        · subst q
          rw [if_pos rfl]
          unfold wRow
          rw [rowsQ_set p5]
          congr 1
          refine rowsQ_congr fun i _ => ?_
          unfold wAt
          rw [wsum_snoc]
          by_cases q : i = t.2.1
          · subst q
            simp only [beq_self_eq_true, Bool.and_self, if_true]
            have := w0
            unfold wAt at this
            rw [this, Rat.zero_add]
          · have : ¬ (t.2.1 = i) := fun w => q w.symm
            simp [q, this, Rat.add_zero]
        · rw [if_neg q]
          unfold wRow
          congr 1
          refine rowsQ_congr fun i _ => ?_
          unfold wAt
          have : ¬ (t.1 = p) := fun w => q w.symm
          rw [wsum_snoc]
          simp [this, Rat.add_zero]
      simp only [startD, List.length_cons, List.length_nil, List.map_cons, List.map_nil, List.replicate_succ, List.replicate_zero, List.cons_append, List.nil_append, List.append_nil, List.set_cons_zero, List.set_cons_succ, Nat.reduceAdd, Nat.reduceSub, es]
  case h4 =>
    rintro _ ⟨x3, x4, x5, rfl⟩
    show WP _ _
    have ff : (D.lst true ((List.range N).map fun p => D.lst true (wRow qs ts p))).frz = .lst false ((List.range N).map fun p => D.lst false (wRow qs ts p)) := by
      simp only [D.frz]
      congr 1
      generalize List.range N = l
      induction l with
      | nil => rfl
      | cons x r ih =>
        have : D.frzs (wRow qs ts x) = wRow qs ts x := frzs_rowsQ
        simp only [List.map_cons, D.frzs, D.frz, ih, this]
    refine wp_frz rfl ff ?_
    simp only [startD, List.length_cons, List.length_nil, List.map_cons, List.map_nil, List.replicate_succ, List.replicate_zero, List.cons_append, List.nil_append, List.append_nil, List.set_cons_zero, List.set_cons_succ, Nat.reduceAdd, Nat.reduceSub]
    have im : D.imms ((List.range N).map fun p => D.lst false (wRow qs ts p)) = true := imms_map (fun p => by simp [D.imm, wRow, imms_rowsQ]) _
    have im2 : D.imms ((List.range N).map fun p => D.tup (wRow qs ts p)) = true := imms_map (fun p => by simp [D.imm, wRow, imms_rowsQ]) _
    have lc2 := lc_all (g := gdN 6) (p := pCall oTuple (qCons (pVar 6) qNil)) (τ := [some (.tup (qs.map encQ)), some (.tup (ts.map encT)), some (.lst false ((List.range N).map fun p => D.lst false (wRow qs ts p))), x3, x4, x5, none]) (fun p => D.lst false (wRow qs ts p)) (fun p => D.tup (wRow qs ts p)) (List.range N) fun p _ => ⟨_, rfl, call_run rfl (oTuple_l imms_rowsQ)⟩
    refine wp_retP (d := .tup ((List.range N).map fun p => .tup (wRow qs ts p))) (call_run (qC_run (lc_eq (iSeq_lst (gI_run rfl (by simp only [D.imm, im, Bool.not_false, Bool.and_self])) im) (by rw [List.length_map, List.length_range]; omega) rfl lc2) rfl) (oTuple_l im2)) (.inl (by simp only [D.imm, im2])) ⟨_, rfl⟩
end Mt
set_option Elab.async false
set_option linter.all false
set_option maxRecDepth 100000
set_option maxHeartbeats 2000000
/-! Draws. -/
namespace DL
open PySem PySem.Spec PyProof.Rows L2
section
variable {τ : DS} {Q : Out → Prop} {i j : Nat} {p pe : DS → Option D} {d x y : D} {ds es : List D}
theorem gI_wpx {n : Nat} {N : List PySem.Str} {body : DS → Option Out} {ds : List D} {P : D → D → Prop} (hl : ds.length = n) (h : WP (body (startD N ds)) (fun o => ∃ r d0, P r d0 ∧ RtI r d0 o)) : ∃ r d0, P r d0 ∧ gIOf n N body ds = some (r, d0) := by
  obtain ⟨o, e, r, d0, hp, τ, rfl, h0⟩ := h
  exact ⟨r, d0, hp, gIOf_rt hl e h0⟩
theorem wp_sub1 {k : Nat} (he : pe τ = some d) (hd : d.imm = true) (hf : d.frz = d) (h0 : τ[i]? = some (some (.lst true ds))) (h1 : p τ = some (.int (k : Int))) (hi : D.imms ds = true) (hk : k < ds.length)
    (kk : Q (.nx (τ.set i (some (.lst true (ds.set k d)))))) : WP (fAsg (gdSub i p) (eP pe) τ) Q := by
  refine wp_asgP he (.inl hd) ?_ kk
  unfold gdSub pVar
  rw [h0, h1, hf]
  simp only [Option.join_some, Option.bind_some, hi, if_true, ixN_nat hk]
theorem wp_sub1m (he : pe τ = some d) (hd : d.imm = true) (hf : d.frz = d) (h0 : τ[i]? = some (some (.lst true (ds ++ [x])))) (h1 : p τ = some (.int (-1))) (hi : D.imms (ds ++ [x]) = true)
    (kk : Q (.nx (τ.set i (some (.lst true (ds ++ [d])))))) : WP (fAsg (gdSub i p) (eP pe) τ) Q := by
  refine wp_asgP he (.inl hd) ?_ kk
  have hi2 : ixN (ds ++ [x]).length (-1) = some ds.length := by
    unfold ixN
    rw [if_neg (by omega), if_pos (by simp; omega)]
    simp
    omega
  unfold gdSub pVar
  rw [h0, h1, hf]
  simp only [Option.join_some, Option.bind_some, hi, if_true, hi2]
  simp
theorem xC_run {f : DS → Option (D × DS)} {g : DS → Option (List D × DS)} {τ1 τ2 : DS} (h : f τ = some (d, τ1)) (h2 : g τ1 = some (ds, τ2)) : xCons f g τ = some (d :: ds, τ2) := by
  unfold xCons
  rw [h, Option.bind_some]
  simp only [h2, Option.bind_some]
theorem fnI_run {g : List D → Option (D × D)} {w : DS → Option (List D × DS)} {τ1 : DS} {d0 r d1 : D} {l l' : List D} (h0 : τ[i]? = some (some d)) (hw : w τ = some (l, τ1)) (h1 : τ1[i]? = some (some d0)) (hf : D.frzs l = l') (hg : g (d0 :: l') = some (r, d1)) (hr : r.nof = true) (hd : d1.nof = true) : eFnI g i w τ = some (r, τ1.set i (some d1)) := by
  unfold eFnI pVar
  rw [h0, hw]
  simp only [Option.join_some, Option.bind_some, h1, hf, hg, hr, hd, and_self, if_true]
theorem eCall_run {o : List D → Option D} {g : DS → Option (List D × DS)} {τ1 : DS} {l : List D} (h : g τ = some (l, τ1)) (ho : o l = some d) (hd : d.imm = true) : eCall o g τ = some (d, τ1) := by
  unfold eCall
  rw [h]
  simp only [Option.bind_some, ho, hd, if_true]
theorem eOp_run {o : D → D → Option D} {f g : DS → Option (D × DS)} {τ1 τ2 : DS} (h : f τ = some (x, τ1)) (h2 : g τ1 = some (y, τ2)) (ho : o x y = some d) (hd : d.imm = true) : eOp o f g τ = some (d, τ2) := by
  unfold eOp
  rw [h]
  simp only [Option.bind_some, h2, ho, hd, if_true]
theorem eIx_run {f : DS → Option (D × DS)} {τ1 : DS} {d0 d1 r : D} (h0 : τ[i]? = some (some d0)) (hf : f τ = some (d, τ1)) (h1 : τ1[i]? = some (some d1)) (hi : oIx d1 d = some r) (hr : r.imm = true) : eIx i f τ = some (r, τ1) := by
  unfold eIx pVar
  rw [h0, hf]
  simp only [Option.join_some, Option.bind_some, h1, hi, hr, if_true]
theorem ePop_run {f : DS → Option (D × DS)} {τ1 : DS} {k : Nat} (h0 : τ[i]? = some (some (.lst true es))) (hf : f τ = some (.int (k : Int), τ1)) (h1 : τ1[i]? = some (some (.lst true ds))) (hi : D.imms ds = true) (hl : ds.length ≤ 1000) (hk : ds[k]? = some d) : ePop i f τ = some (d, τ1.set i (some (.lst true (ds.eraseIdx k)))) := by
  have hkl : k < ds.length := (List.getElem?_eq_some_iff.mp hk).1
  have hl2 : ds.length ≤ 16777216 := Nat.le_trans hl (by decide)
  unfold ePop pVar
  rw [h0]
  simp only [Option.join_some, Option.bind_some, hf, h1, hi, hl2, and_self, if_true, ixN_nat hkl, hk]
theorem eN_imm (h : τ[i]? = some (some d)) (hd : d.imm = true) : eN i τ = some (d, τ) := by
  unfold eN pVar
  rw [h]
  simp only [Option.join_some, Option.bind_some, hd, if_true]
theorem eN_own (h : τ[i]? = some (some d)) (hd : d.imm = false) : eN i τ = some (d, τ.set i none) := by
  unfold eN pVar
  rw [h]
  simp [hd]
theorem oInt_run {p : DS → Option D} {k : Int} (h : p τ = some (.int k)) : pCall oInt (qCons p qNil) τ = some (.int k) := call_run (qC_run h rfl) rfl
end
end DL
namespace Mt
open DL Wk PySem L2
structure PotOk (n : Nat) (p : D) : Prop where
  ex : ∃ a b c : Int, p = .lst true [.int a, .int b, .int c] ∧ 0 ≤ a ∧ a.natAbs < 2 ^ 1000 ∧ 0 ≤ b ∧ b.natAbs < 2 ^ 62 ∧ 0 ≤ c ∧ c ≤ (n : Int)
theorem PotOk.mono {n m : Nat} {p : D} (h : PotOk n p) (l : n ≤ m) : PotOk m p := by
  obtain ⟨a, b, c, e, h1, h2, h3, h4, h5, h6⟩ := h.ex
  exact ⟨a, b, c, e, h1, h2, h3, h4, h5, by omega⟩
theorem PotOk.nof {n : Nat} {p : D} (h : PotOk n p) : p.nof = true := by
  obtain ⟨a, b, c, rfl, _⟩ := h.ex
  rfl
theorem fmod_nat (i : Int) {u : Nat} (hu : 0 < u) : ∃ v : Nat, v < u ∧ i.fmod (u : Int) = (v : Int) := by
  have h1 := Int.fmod_nonneg_of_pos i (show (0 : Int) < u by omega)
  have h2 := Int.fmod_lt_of_pos i (show (0 : Int) < u by omega)
  exact ⟨(i.fmod u).toNat, by omega, by omega⟩
theorem oMod_nat (i : Int) {u : Nat} (hu : 0 < u) : ∃ v : Nat, v < u ∧ oMod (.int i) (.int (u : Int)) = some (.int (v : Int)) := by
  obtain ⟨v, h1, h2⟩ := fmod_nat i hu
  exact ⟨v, h1, by rw [oMod_i (by omega), h2]⟩
theorem lt_of_le_pow {a m n : Nat} (h : a < 2 ^ m) (l : m ≤ n) : a < 2 ^ n := Nat.lt_of_lt_of_le h (pow_mono l)
theorem bits_lt {i : Int} {k : Nat} (h : i.natAbs < 2 ^ k) (hk : 0 < k) : Builtin.Int.intBits i ≤ k := by
  unfold Builtin.Int.intBits
  split
  · omega
  · have := log2_of h hk
    omega
theorem oPow3 {i : Int} (h : i.natAbs < 2 ^ 1000) : oPowB (.int i) (.int 3) = some (.int (i ^ 3)) := by
  have hb := bits_lt h (by decide)
  have : cEB i 3 = true := by
    unfold cEB
    simp only [Bool.and_eq_true, decide_eq_true_eq]
    omega
  show (if cEB i 3 = true then some (D.int (i ^ (3 : Int).toNat)) else none) = _
  rw [if_pos this]
  rfl
theorem cW_big {i j : Int} (hi : i.natAbs < 2 ^ 1000) (hj : j.natAbs < 2 ^ 1000) : cW i j = true := cW_of hi hj (by decide) (by decide) (by decide)
theorem mulI {i j : Int} {a b : Nat} (hi : i.natAbs < 2 ^ a) (hj : j.natAbs < 2 ^ b) (h : a + b ≤ 1000) : oMul (.int i) (.int j) = some (.int (i * j)) ∧ (i * j).natAbs < 2 ^ (a + b) := by
  refine ⟨oMul_i (cW_big (lt_of_le_pow hi (by omega)) (lt_of_le_pow hj (by omega))), ?_⟩
  rw [Int.natAbs_mul]
  exact mul_lt_pow hi hj
theorem addI {i j : Int} {a : Nat} (hi : i.natAbs < 2 ^ a) (hj : j.natAbs < 2 ^ a) : (i + j).natAbs < 2 ^ (a + 1) := Nat.lt_of_le_of_lt (Int.natAbs_add_le i j) (add_lt_pow hi hj)
theorem ediv_ok {a : Int} {u : Nat} (ha : 0 ≤ a) (hu : 0 < u) (h8 : u < 2 ^ 100) : oDiv (.int a) (.int (u : Int)) = some (.int (a / (u : Int))) ∧ 0 ≤ a / (u : Int) ∧ (a / (u : Int)).natAbs ≤ a.natAbs := by
  have h1 : 0 ≤ a / (u : Int) := Int.ediv_nonneg ha (by omega)
  have h2 : a / (u : Int) ≤ a := Int.ediv_le_self _ ha
  exact ⟨oDiv_i (cD_of (by omega) (by rw [Int.natAbs_natCast]; exact lt_of_le_pow h8 (by decide))), h1, by omega⟩
theorem prime_ix (v : Nat) (h : v < 5) : ∃ q : Nat, 0 < q ∧ oIx (.lst true [.int 2147483647, .int 2147483629, .int 2147483587, .int 2147483579, .int 2147483563]) (.int (v : Int)) = some (.int (q : Int)) ∧ q < 2 ^ 32 := by
  match v, h with
  | 0, _ => exact ⟨2147483647, by decide, rfl, by decide⟩
  | 1, _ => exact ⟨2147483629, by decide, rfl, by decide⟩
  | 2, _ => exact ⟨2147483587, by decide, rfl, by decide⟩
  | 3, _ => exact ⟨2147483579, by decide, rfl, by decide⟩
  | 4, _ => exact ⟨2147483563, by decide, rfl, by decide⟩
theorem natAbs_lt {v k : Nat} (h : v < 2 ^ k) : ((v : Nat) : Int).natAbs < 2 ^ k := by rwa [Int.natAbs_natCast]
theorem take_spec {n u : Nat} {p : D} (h : PotOk n p) (hu : 0 < u) (hu2 : u < 2 ^ 60) (hn : n < 2 ^ 60) : ∃ r p', (∃ v : Nat, r = .int (v : Int) ∧ v < u ∧ PotOk (n + 1) p') ∧ g_law_take_ [p, .int (u : Int)] = some (r, p') := by
  obtain ⟨a, b, c, rfl, ha, ha2, hb, hb2, hc, hcn⟩ := h.ex
  refine gI_wpx rfl ?_
  unfold b_law_take_
  simp only [startD, List.length_cons, List.length_nil, List.map_cons, List.map_nil, List.replicate_succ, List.replicate_zero, List.cons_append, List.nil_append, List.append_nil, List.set_cons_zero, List.set_cons_succ, Nat.reduceAdd, Nat.reduceSub, N_law_take_]
  refine wp_seq (wp_if (b := decide (0 < a)) ?_ (fun hp => ?_) fun hp => ?_)
  · exact cBl_run (op_run (op_run rfl rfl ix0) rfl oGt_i)
  · obtain ⟨v, hv, e1⟩ := oMod_nat a hu
    obtain ⟨e2, h2, h3⟩ := ediv_ok ha hu (lt_of_le_pow hu2 (by decide))
    refine wp_seq (wp_setP (d := .int (v : Int)) (gI_run (op_run (oInt_run (op_run rfl rfl ix0)) rfl e1) rfl) (.inl rfl) ?_)
    simp only [startD, List.length_cons, List.length_nil, List.map_cons, List.map_nil, List.replicate_succ, List.replicate_zero, List.cons_append, List.nil_append, List.append_nil, List.set_cons_zero, List.set_cons_succ, Nat.reduceAdd, Nat.reduceSub]
    refine wp_seq (wp_sub1 (k := 0) (d := .int (a / (u : Int))) (gI_run (op_run (op_run rfl rfl ix0) rfl e2) rfl) rfl rfl rfl rfl rfl (by simp) ?_)
    simp only [startD, List.length_cons, List.length_nil, List.map_cons, List.map_nil, List.replicate_succ, List.replicate_zero, List.cons_append, List.nil_append, List.append_nil, List.set_cons_zero, List.set_cons_succ, Nat.reduceAdd, Nat.reduceSub]
    exact wp_ret (d := .int (v : Int)) rfl ⟨_, _, ⟨v, rfl, hv, _, _, _, rfl, h2, by omega, hb, hb2, hc, by omega⟩, _, rfl, rfl⟩
  · refine wp_nil ?_
    show WP _ _
    refine wp_seq (wp_sub1 (k := 2) (d := .int (c + 1)) (gI_run (op_run (op_run rfl rfl ix2) rfl oAdd_i) rfl) rfl rfl rfl rfl rfl (by simp) ?_)
    simp only [startD, List.length_cons, List.length_nil, List.map_cons, List.map_nil, List.replicate_succ, List.replicate_zero, List.cons_append, List.nil_append, List.append_nil, List.set_cons_zero, List.set_cons_succ, Nat.reduceAdd, Nat.reduceSub]
    have c2 : (c + 1).natAbs < 2 ^ 61 := by omega
    obtain ⟨v5, hv5, e5⟩ := oMod_nat (c + 1) (u := 5) (by decide)
    obtain ⟨q, hq, eq, hq2⟩ := prime_ix v5 hv5
    refine wp_seq (wp_setP (d := .int (q : Int)) (gI_run (op_run (y := .int (v5 : Int)) rfl (op_run (oInt_run (op_run rfl rfl ix2)) rfl e5) eq) rfl) (.inl rfl) ?_)
    simp only [startD, List.length_cons, List.length_nil, List.map_cons, List.map_nil, List.replicate_succ, List.replicate_zero, List.cons_append, List.nil_append, List.append_nil, List.set_cons_zero, List.set_cons_succ, Nat.reduceAdd, Nat.reduceSub]
    have m1 := mulI (i := 90011) (j := c + 1) (a := 17) (b := 61) (by decide) c2 (by decide)
    have m2 := mulI m1.2 c2 (by decide)
    have m3 := addI (lt_of_le_pow hb2 (show 62 ≤ 139 by decide)) m2.2
    have m4 := addI (j := 3019) m3 (by decide)
    obtain ⟨v1, hv1, e1⟩ := oMod_nat ((b + 90011 * (c + 1) * (c + 1) + 3019) ^ 3) hq
    refine wp_seq (wp_setP (d := .int (v1 : Int)) (gI_run (op_run (oInt_run (op_run (oInt_run (op_run (op_run (op_run rfl rfl ix1) (op_run (op_run rfl (op_run rfl rfl ix2) m1.1) (op_run rfl rfl ix2) m2.1) oAdd_i) rfl oAdd_i)) rfl (oPow3 (lt_of_le_pow m4 (by decide))))) rfl e1) rfl) (.inl rfl) ?_)
    simp only [startD, List.length_cons, List.length_nil, List.map_cons, List.map_nil, List.replicate_succ, List.replicate_zero, List.cons_append, List.nil_append, List.append_nil, List.set_cons_zero, List.set_cons_succ, Nat.reduceAdd, Nat.reduceSub]
    obtain ⟨v2, hv2, e2⟩ := oMod_nat (v1 : Int) (u := 13751) (by decide)
    have m5 := mulI (i := 439) (j := c + 1) (a := 9) (b := 61) (by decide) c2 (by decide)
    have m6 := addI (natAbs_lt (show v2 < 2 ^ 70 by omega)) m5.2
    have m7 := mulI (natAbs_lt (show v1 < 2 ^ 32 by omega)) m6 (by decide)
    obtain ⟨v3, hv3, e3⟩ := oMod_nat ((v1 : Int) * ((v2 : Int) + 439 * (c + 1))) (u := 2305843009213693907) (by decide)
    refine wp_seq (wp_setP (d := .int (v3 : Int)) (gI_run (op_run (oInt_run (op_run rfl (op_run (op_run (oInt_run rfl) rfl e2) (op_run rfl (op_run rfl rfl ix2) m5.1) oAdd_i) m7.1)) rfl e3) rfl) (.inl rfl) ?_)
    simp only [startD, List.length_cons, List.length_nil, List.map_cons, List.map_nil, List.replicate_succ, List.replicate_zero, List.cons_append, List.nil_append, List.append_nil, List.set_cons_zero, List.set_cons_succ, Nat.reduceAdd, Nat.reduceSub]
    obtain ⟨e4, _⟩ := ediv_ok (a := (v3 : Int)) (u := 241) (by omega) (by decide) (by decide)
    obtain ⟨v6, hv6, e6⟩ := oMod_nat ((v3 : Int) / ((241 : Nat) : Int)) hu
    exact wp_retP (d := .int (v6 : Int)) (gI_run (op_run (oInt_run (op_run rfl rfl e4)) rfl e6) rfl) (.inl rfl) ⟨_, _, ⟨v6, rfl, hv6, _, _, _, rfl, ha, ha2, hb, hb2, by omega, by omega⟩, _, rfl, rfl⟩
/-- some[take(len(some))] -/
theorem of_spec {n : Nat} {p : D} {ds : List D} (h : PotOk n p) (h0 : ds ≠ []) (hl : ds.length ≤ 1000) (him : D.imms ds = true) (hn : n < 2 ^ 60) {o : Bool} : ∃ r p', (∃ v : Nat, v < ds.length ∧ ds[v]? = some r ∧ PotOk (n + 1) p') ∧ g_law_of_ [p, .lst false ds] = some (r, p') := by
  have hp := List.length_pos_iff.mpr h0
  obtain ⟨_, p', ⟨v, rfl, hv, hp'⟩, e⟩ := take_spec (u := ds.length) h hp (by omega) hn
  have hr : ds[v]? = some ds[v] := List.getElem?_eq_getElem hv
  have him' : ds[v].imm = true := by
    have e : ∀ l : List D, D.imms l = l.all D.imm := fun l => by
      induction l with
      | nil => rfl
      | cons x r ih => simp [D.imms, ih]
    rw [e, List.all_eq_true] at him
    exact him _ (List.getElem_mem hv)
  refine gI_wpx rfl ?_
  unfold b_law_of_
  simp only [startD, List.length_cons, List.length_nil, List.map_cons, List.map_nil, List.replicate_succ, List.replicate_zero, List.cons_append, List.nil_append, List.append_nil, List.set_cons_zero, List.set_cons_succ, Nat.reduceAdd, Nat.reduceSub, N_law_of_]
  refine wp_ret (d := ds[v]) (eIx_run rfl (fnI_run rfl (xC_run (eP_run (gI_run (call_run (qC_run rfl rfl) rfl) rfl) (.inl rfl)) rfl) rfl rfl e rfl hp'.nof) rfl ((ixl_nat hv).trans hr) him') ⟨_, _, ⟨v, hv, hr, hp'⟩, _, rfl, rfl⟩
end Mt
set_option Elab.async false
set_option linter.all false
set_option maxRecDepth 100000
set_option maxHeartbeats 2000000
/-! Draws of many. -/
namespace Mt
open DL Wk PySem L2
theorem erase_perm : ∀ {l : List Nat} {i x : Nat}, l[i]? = some x → (x :: l.eraseIdx i).Perm l
  | [], _, _, h => by simp at h
  | y :: l, 0, x, h => by
    simp at h
    subst h
    exact List.Perm.refl _
  | y :: l, i + 1, x, h => by
    rw [List.getElem?_cons_succ] at h
    rw [List.eraseIdx_cons_succ]
    exact (List.Perm.swap y x _).trans ((erase_perm h).cons y)
theorem lotD_erase : ∀ (l : List Nat) (i : Nat), (lotD l).eraseIdx i = lotD (l.eraseIdx i)
  | [], _ => rfl
  | _ :: _, 0 => rfl
  | y :: l, i + 1 => by
    have := lotD_erase l i
    unfold lotD at *
    rw [List.map_cons, List.eraseIdx_cons_succ, List.eraseIdx_cons_succ, List.map_cons, this]
theorem lotD_get {l : List Nat} {i x : Nat} (h : l[i]? = some x) : (lotD l)[i]? = some (.int (x : Int)) := by
  unfold lotD
  rw [List.getElem?_map, h]
  rfl
theorem rg_lotD (n : Nat) : rgD 0 n = lotD (List.range n) := by
  unfold rgD lotD
  exact List.map_congr_left fun i _ => by rw [Int.zero_add]
theorem some_spec {n many : Nat} {p : D} {pool : List Nat} (h : PotOk n p) (hl : pool.length ≤ 1000) (hm : many ≤ pool.length) (hn : n + many < 2 ^ 60) :
    ∃ r p', (∃ L rest : List Nat, r = .lst true (lotD L) ∧ (L ++ rest).Perm pool ∧ L.length = many ∧ PotOk (n + many) p') ∧ g_law_some_ [p, .lst false (lotD pool), .int (many : Int)] = some (r, p') := by
  refine gI_wpx rfl ?_
  unfold b_law_some_
  simp only [startD, List.length_cons, List.length_nil, List.map_cons, List.map_nil, List.replicate_succ, List.replicate_zero, List.cons_append, List.nil_append, List.append_nil, List.set_cons_zero, List.set_cons_succ, Nat.reduceAdd, Nat.reduceSub, N_law_some_]
  refine wp_seq (wp_parP (x := .lst true (lotD pool)) (y := .lst true []) (call_run (qC_run rfl rfl) (oList_l (imms_lotD _))) (.inr (nof_lotD _)) rfl (.inr rfl) ?_)
  simp only [startD, List.length_cons, List.length_nil, List.map_cons, List.map_nil, List.replicate_succ, List.replicate_zero, List.cons_append, List.nil_append, List.append_nil, List.set_cons_zero, List.set_cons_succ, Nat.reduceAdd, Nat.reduceSub]
  refine wp_seq (wp_for (ds := rgD 0 many) (fun k τ => ∃ (p' : D) (L rest : List Nat) (x5 : Option D), PotOk (n + k) p' ∧ (L ++ rest).Perm pool ∧ L.length = k ∧ τ = [some p', some (.lst false (lotD pool)), some (.int (many : Int)), some (.lst true (lotD rest)), some (.lst true (lotD L)), x5]) (rg1_eq rfl (by omega)) ⟨p, [], pool, none, h, List.Perm.refl _, rfl, rfl⟩ ?h3 ?h4)
  case h3 =>
    rintro k d _ hd ⟨p', L, rest, x5, hp, pm, hL, rfl⟩
    have hk : k < many := by
      have := (List.getElem?_eq_some_iff.mp hd).1
      rwa [rgD_len] at this
    have hlen := pm.length_eq
    rw [List.length_append] at hlen
    refine ⟨_, rfl, ?_⟩
    simp only [startD, List.length_cons, List.length_nil, List.map_cons, List.map_nil, List.replicate_succ, List.replicate_zero, List.cons_append, List.nil_append, List.append_nil, List.set_cons_zero, List.set_cons_succ, Nat.reduceAdd, Nat.reduceSub]
    obtain ⟨_, p2, ⟨v, rfl, hv, hp2⟩, e⟩ := take_spec (u := rest.length) hp (by omega) (by omega) (by omega)
    have hr : rest[v]? = some rest[v] := List.getElem?_eq_getElem hv
    refine wp_app (d := .int (rest[v] : Int)) (ds0 := lotD L) (ds := lotD L) rfl (ePop_run (es := lotD rest) (ds := lotD rest) rfl (fnI_run (l := [.int (rest.length : Int)]) rfl (xC_run (eP_run (gI_run (call_run (qC_run rfl rfl) (by show some (D.int ((lotD rest).length : Nat)) = _; rw [lotD_len])) rfl) (.inl rfl)) rfl) rfl rfl e rfl hp2.nof) rfl (imms_lotD _) (by rw [lotD_len]; omega) (lotD_get hr)) rfl (by rw [lotD_len]; omega) ?_
    refine ⟨p2, L ++ [rest[v]], rest.eraseIdx v, some d, hp2, ?_, by rw [List.length_append, hL]; rfl, ?_⟩
    · rw [List.append_assoc]
      exact ((erase_perm hr).append_left L).trans pm
    · simp only [startD, List.length_cons, List.length_nil, List.map_cons, List.map_nil, List.replicate_succ, List.replicate_zero, List.cons_append, List.nil_append, List.append_nil, List.set_cons_zero, List.set_cons_succ, Nat.reduceAdd, Nat.reduceSub, lotD_erase, lotD_app]
  case h4 =>
    rintro _ ⟨p', L, rest, x5, hp, pm, hL, rfl⟩
    rw [rgD_len] at *
    show WP _ _
    exact wp_ret (d := .lst true (lotD L)) (eN_own rfl rfl) ⟨_, _, ⟨L, rest, rfl, pm, hL, hp⟩, _, rfl, rfl⟩
/-- all of them, in a drawn sequence -/
theorem some_all {n m : Nat} {p : D} (h : PotOk n p) (hm : m ≤ 1000) (hn : n + m < 2 ^ 60) : ∃ r p', (∃ L : List Nat, r = .lst true (lotD L) ∧ L.Perm (List.range m) ∧ PotOk (n + m) p') ∧ g_law_some_ [p, .lst false (rgD 0 m), .int (m : Int)] = some (r, p') := by
  obtain ⟨r, p', ⟨L, rest, e1, e2, e3, e4⟩, e⟩ := some_spec (many := m) (pool := List.range m) h (by rw [List.length_range]; exact hm) (by rw [List.length_range]; exact Nat.le_refl _) hn
  rw [← rg_lotD] at e
  refine ⟨r, p', ⟨L, e1, ?_, e4⟩, e⟩
  have : rest = [] := by
    have z := e2.length_eq
    rw [List.length_append, List.length_range] at z
    exact List.eq_nil_of_length_eq_zero (by omega)
  rw [this, List.append_nil] at e2
  exact e2
end Mt
set_option Elab.async false
set_option linter.all false
set_option maxRecDepth 100000
set_option maxHeartbeats 2000000
/-! The first draws: a cell; which cells. -/
namespace Mt
open DL Wk PySem L2
theorem pIf_yes {c : DS → Option Bool} {pa pb : DS → Option D} {τ : DS} {d : D} (h : c τ = some true) (h2 : pa τ = some d) : pIf c pa pb τ = some d := by
  unfold pIf
  rw [h]
  exact h2
theorem pIf_no {c : DS → Option Bool} {pa pb : DS → Option D} {τ : DS} {d : D} (h : c τ = some false) (h2 : pb τ = some d) : pIf c pa pb τ = some d := by
  unfold pIf
  rw [h]
  exact h2
theorem cap_lt : ((10 : Int) ^ 60) ^ 5 = ((10 ^ 300 : Nat) : Int) := by decide +kernel
theorem cap2 : (10 ^ 300 : Nat) < 2 ^ 1000 := by decide +kernel
theorem pw1 : oPowB (.int 10) (.int 60) = some (.int (10 ^ 60)) := rfl
theorem pw2 : oPowB (.int (10 ^ 60)) (.int 5) = some (.int ((10 ^ 300 : Nat) : Int)) := by
  have : cEB (10 ^ 60) 5 = true := by decide +kernel
  show (if cEB (10 ^ 60) 5 = true then some (D.int ((10 ^ 60) ^ (5 : Int).toNat)) else none) = _
  rw [if_pos this]
  show some (D.int ((10 ^ 60) ^ 5)) = _
  rw [cap_lt]
theorem pw3 : oPowB (.int 10) (.int 18) = some (.int (10 ^ 18)) := rfl
theorem len_s {l : List D} : oLen [.scr l] = some (.int (l.length : Nat)) := rfl
theorem ints_map (l : List Int) : D.ints? (l.map D.int) = some l := by
  induction l with
  | nil => rfl
  | cons x r ih => simp only [List.map_cons, D.ints?, ih, Option.bind_some]
theorem imms_ints (l : List Int) : D.imms (l.map D.int) = true := imms_map (fun _ => rfl) l
theorem pot_spec (ns : List Int) (k : Nat) (hk : k < 64) : ∃ r, PotOk 0 r ∧ g_law_pot_ [.scr (ns.map D.int), .int (k : Int)] = some r := by
  refine g_wpx rfl ?_
  unfold b_law_pot_
  simp only [startD, List.length_cons, List.length_nil, List.map_cons, List.map_nil, List.replicate_succ, List.replicate_zero, List.cons_append, List.nil_append, List.append_nil, List.set_cons_zero, List.set_cons_succ, Nat.reduceAdd, Nat.reduceSub, N_law_pot_]
  have k2 : ((k : Nat) : Int).natAbs < 2 ^ 6 := natAbs_lt (by omega)
  have key : ∀ cell : Int, WP ((fSeq (fSet 3 (eP (gImm (pOp oMul (pOp oMod (pCall oInt (qCons (pCall oAbs (qCons (pVar 2) qNil)) qNil)) (pOp oPowB (pOp oPowB (pC (.int 10)) (pC (.int 60))) (pC (.int 5)))) (pCall oInt (qCons (pOp oGe (pCall oAbs (qCons (pVar 2) qNil)) (pOp oPowB (pC (.int 10)) (pC (.int 18)))) qNil))))))
      (fSeq (fSet 4 (eP (gImm (pOp oMod (pCall oInt (qCons (pVar 2) qNil)) (pC (.int 2305843009213693921))))))
      (fRet (eP (pLst (qCons (gImm (pVar 3)) (qCons (gImm (pOp oMod (pCall oInt (qCons (pOp oAdd (pOp oAdd (pOp oMul (pVar 4) (pC (.int 70249))) (pOp oMul (pOp oMul (pC (.int 13103)) (pVar 1)) (pVar 1))) (pC (.int 2963))) qNil)) (pC (.int 2305843009213693921)))) (qCons (pC (.int 0)) qNil)))))))) [some (.scr (ns.map D.int)), some (.int (k : Int)), some (.int cell), none, none]) (fun o => ∃ r, PotOk 0 r ∧ Rt r o) := by
    intro cell
    obtain ⟨v, hv, e1⟩ := oMod_nat ((cell.natAbs : Nat) : Int) (u := 10 ^ 300) (by decide +kernel)
    have hv2 : v < 2 ^ 999 := Nat.lt_trans hv (by decide +kernel)
    have habs : pCall oAbs (qCons (pVar 2) qNil) [some (.scr (ns.map D.int)), some (.int (k : Int)), some (.int cell), none, none] = some (.int (cell.natAbs : Int)) := call_run (qC_run rfl rfl) oAbs_i
    have hb : pCall oInt (qCons (pOp oGe (pCall oAbs (qCons (pVar 2) qNil)) (pOp oPowB (pC (.int 10)) (pC (.int 18)))) qNil) [some (.scr (ns.map D.int)), some (.int (k : Int)), some (.int cell), none, none] = some (.int (if decide ((10 ^ 18 : Int) ≤ (cell.natAbs : Int)) = true then 1 else 0)) := call_run (qC_run (op_run habs (op_run rfl rfl pw3) oGe_i) rfl) oInt_b
    have hx : ∃ x : Int, (x = 1 ∨ x = 0) ∧ (if decide ((10 ^ 18 : Int) ≤ (cell.natAbs : Int)) = true then (1 : Int) else 0) = x := ⟨_, by split <;> simp, rfl⟩
    obtain ⟨x, hx1, hx2⟩ := hx
    rw [hx2] at hb
    have m1 := mulI (i := (v : Int)) (j := x) (a := 999) (b := 1) (natAbs_lt hv2) (by rcases hx1 with rfl | rfl <;> decide) (by decide)
    have nn : 0 ≤ (v : Int) * x := by rcases hx1 with rfl | rfl <;> omega
    refine wp_seq (wp_setP (d := .int ((v : Int) * x)) (gI_run (op_run (op_run (oInt_run habs) (op_run (op_run rfl rfl pw1) rfl pw2) e1) hb m1.1) rfl) (.inl rfl) ?_)
    simp only [startD, List.length_cons, List.length_nil, List.map_cons, List.map_nil, List.replicate_succ, List.replicate_zero, List.cons_append, List.nil_append, List.append_nil, List.set_cons_zero, List.set_cons_succ, Nat.reduceAdd, Nat.reduceSub]
    obtain ⟨v2, hv2', e2⟩ := oMod_nat cell (u := 2305843009213693921) (by decide)
    refine wp_seq (wp_setP (d := .int (v2 : Int)) (gI_run (op_run (oInt_run rfl) rfl e2) rfl) (.inl rfl) ?_)
    simp only [startD, List.length_cons, List.length_nil, List.map_cons, List.map_nil, List.replicate_succ, List.replicate_zero, List.cons_append, List.nil_append, List.append_nil, List.set_cons_zero, List.set_cons_succ, Nat.reduceAdd, Nat.reduceSub]
    have m2 := mulI (i := (v2 : Int)) (j := 70249) (a := 62) (b := 20) (natAbs_lt (by omega)) (by decide) (by decide)
    have m3 := mulI (i := 13103) (j := (k : Int)) (a := 20) (b := 6) (by decide) k2 (by decide)
    have m4 := mulI m3.2 k2 (by decide)
    obtain ⟨v3, hv3, e3⟩ := oMod_nat ((v2 : Int) * 70249 + 13103 * (k : Int) * (k : Int) + 2963) (u := 2305843009213693921) (by decide)
    refine wp_retP (d := .lst true [.int ((v : Int) * x), .int (v3 : Int), .int 0]) (pLst_run (qC_run (gI_run rfl rfl) (qC_run (gI_run (op_run (oInt_run (op_run (op_run (op_run rfl rfl m2.1) (op_run (op_run rfl rfl m3.1) rfl m4.1) oAdd_i) rfl oAdd_i)) rfl e3) rfl) (qC_run rfl rfl))) (show 3 ≤ 16777216 by decide)) (.inr rfl) ⟨_, ⟨_, _, _, rfl, nn, m1.2, by omega, by omega, by decide, by decide⟩, _, rfl⟩
  by_cases hlt : k < ns.length
  · refine wp_seq (wp_setP (d := .int (ns[k]'hlt)) (gI_run ?_ rfl) (.inl rfl) (key _))
    have c : cBl (pOp oLt (pVar 1) (pCall oLen (qCons (pVar 0) qNil))) [some (.scr (ns.map D.int)), some (.int (k : Int)), none, none, none] = some true := cBl_run (op_run rfl (call_run (qC_run rfl rfl) len_s) (by rw [oLt_i, List.length_map, decide_eq_true (by omega)]))
    refine pIf_yes c ?_
    refine op_run (x := .scr (ns.map D.int)) (y := .int (k : Int)) rfl rfl ?_
    refine (atI_nth (l := ns.map D.int) (by rw [List.length_map]; exact hlt)).trans ?_
    simp [hlt]
  · have c : cBl (pOp oLt (pVar 1) (pCall oLen (qCons (pVar 0) qNil))) [some (.scr (ns.map D.int)), some (.int (k : Int)), none, none, none] = some false := cBl_run (op_run rfl (call_run (qC_run rfl rfl) len_s) (by rw [oLt_i, List.length_map, decide_eq_false (by omega)]))
    have hs : ∃ s : Int, pCall oSum (qCons (pCut (pVar 0) (fun _ => some none) (poS (pC (.int 1)))) qNil) [some (.scr (ns.map D.int)), some (.int (k : Int)), none, none, none] = some (.int s) := by
      have hc : pCut (pVar 0) (fun _ => some none) (poS (pC (.int 1))) [some (.scr (ns.map D.int)), some (.int (k : Int)), none, none, none] = some (.lst true (cutD (ns.map D.int) none (some 1))) := by
        show (if D.imms (ns.map D.int) = true then _ else _) = _
        rw [if_pos (imms_ints ns)]
      have hm : ∃ l : List Int, cutD (ns.map D.int) none (some 1) = l.map D.int := by
        unfold cutD
        rw [← List.map_drop, ← List.map_take]
        exact ⟨_, rfl⟩
      obtain ⟨l, hl⟩ := hm
      rw [hl] at hc
      refine ⟨l.sum, call_run (qC_run hc rfl) ?_⟩
      simp only [oSum, ints_map, Option.bind_some]
    obtain ⟨s, hs⟩ := hs
    obtain ⟨v, hv, e1⟩ := oMod_nat s (u := 1000403) (by decide)
    have m1 := mulI (i := 5081) (j := (k : Int)) (a := 20) (b := 6) (by decide) k2 (by decide)
    refine wp_seq (wp_setP (d := .int ((v : Int) + 5081 * (k : Int) + 3127)) (gI_run ?_ rfl) (.inl rfl) (key _))
    refine pIf_no c ?_
    exact op_run (op_run (op_run (oInt_run hs) rfl e1) (op_run rfl rfl m1.1) oAdd_i) rfl oAdd_i
theorem cells_spec (ns : List Int) (m : Nat) (hm : m ≤ 100) : g_law_cells_ [.scr (ns.map D.int), .int (m : Int)] = some (.lst true (rgD 0 (max 1 (min m ns.length)))) := by
  refine g_wp rfl ?_
  unfold b_law_cells_
  simp only [startD, List.length_cons, List.length_nil, List.map_cons, List.map_nil, List.replicate_succ, List.replicate_zero, List.cons_append, List.nil_append, List.append_nil, List.set_cons_zero, List.set_cons_succ, Nat.reduceAdd, Nat.reduceSub, N_law_cells_]
  have e : max (1 : Int) (min (m : Int) (ns.length : Int)) = ((max 1 (min m ns.length) : Nat) : Int) := by omega
  refine wp_retP (d := .lst true (rgD 0 (max 1 (min m ns.length)))) (pRg1_run (call_run (qC_run rfl (qC_run (call_run (qC_run rfl (qC_run (call_run (qC_run rfl rfl) len_s) rfl)) oMin2_i) rfl)) ?_) (by omega)) (.inr ?_) ⟨_, rfl⟩
  · rw [oMax2_i, List.length_map, e]
  · rw [rg_lotD]
    exact nof_lotD _
end Mt
set_option Elab.async false
set_option linter.all false
set_option maxRecDepth 100000
set_option maxHeartbeats 2000000
/-! Needs drawn. -/
namespace DL
open PySem PySem.Spec PyProof.Rows L2
theorem lcE_run {g : D → DS → Option DS} {f : DS → Option (D × DS)} {vs : List Nat} (I : Nat → DS → List D → Prop) : ∀ (ds : List D) (k : Nat) (τ : DS) (acc : List D), I k τ acc →
    (∀ (i : Nat) (d : D) (τ : DS) (acc : List D), ds[i]? = some d → I (k + i) τ acc → ∃ τ1 r τ2, g d τ = some τ1 ∧ f τ1 = some (r, τ2) ∧ I (k + i + 1) (wipeD τ2 vs) (acc ++ [r])) →
    ∃ rs τ', lcE g kYes f vs ds τ = some (rs, τ') ∧ I (k + ds.length) τ' (acc ++ rs)
  | [], k, τ, acc, h, _ => ⟨[], τ, rfl, by rw [List.append_nil]; exact h⟩
  | d :: ds, k, τ, acc, h, hs => by
    obtain ⟨τ1, r, τ2, e1, e2, h2⟩ := hs 0 d τ acc rfl h
    obtain ⟨rs, τ', e3, h3⟩ := lcE_run I ds (k + 1) (wipeD τ2 vs) (acc ++ [r]) h2 fun i d' τ'' acc' hd hi => by
      have z := hs (i + 1) d' τ'' acc' (by simpa using hd) (by rw [show k + (i + 1) = k + 1 + i by omega]; exact hi)
      rw [show k + (i + 1) + 1 = k + 1 + i + 1 by omega] at z
      exact z
    refine ⟨r :: rs, τ', ?_, ?_⟩
    · unfold lcE kYes
      rw [e1]
      simp only [Option.bind_some, if_true, e2]
      unfold kYes at e3
      rw [e3]
      rfl
    · rw [List.length_cons, show k + (ds.length + 1) = k + 1 + ds.length by omega]
      simpa using h3
theorem eLc_run {q : DS → Option (List D × DS)} {g : D → DS → Option DS} {f : DS → Option (D × DS)} {vs : List Nat} {τ τ0 : DS} {ds : List D} (I : Nat → DS → List D → Prop) (h : q τ = some (ds, τ0)) (hl : ds.length ≤ 1000) (h0 : I 0 (wipeD τ0 vs) [])
    (hs : ∀ (i : Nat) (d : D) (τ : DS) (acc : List D), ds[i]? = some d → I i τ acc → ∃ τ1 r τ2, g d τ = some τ1 ∧ f τ1 = some (r, τ2) ∧ I (i + 1) (wipeD τ2 vs) (acc ++ [r])) :
    ∃ rs τ', eLc q g kYes f vs τ = some (.lst true rs, τ') ∧ I ds.length τ' rs := by
  obtain ⟨rs, τ', e, h1⟩ := lcE_run (g := g) (f := f) (vs := vs) I ds 0 (wipeD τ0 vs) [] h0 fun i d τ acc hd hi => by
    rw [Nat.zero_add] at hi ⊢
    exact hs i d τ acc hd hi
  have hl2 : ds.length ≤ 16777216 := Nat.le_trans hl (by decide)
  refine ⟨rs, τ', ?_, by rw [Nat.zero_add] at h1; exact h1⟩
  unfold eLc
  rw [h]
  simp only [Option.bind_some, hl2, if_true, e]
theorem jP_run {q : DS → Option (List D)} {τ : DS} {ds : List D} (h : q τ = some ds) : jP q τ = some (ds, τ) := by
  unfold jP
  rw [h]
  rfl
theorem jSeq_run {f : DS → Option (D × DS)} {τ τ1 : DS} {ds : List D} {o : Bool} (h : f τ = some (.lst o ds, τ1)) (hi : D.imms ds = true) : jSeq f τ = some (ds, τ1) := by
  unfold jSeq
  rw [h]
  simp [D.items, D.seq?, hi]
theorem eFn_run {g : List D → Option D} {w : DS → Option (List D × DS)} {τ τ1 : DS} {l l' : List D} {r : D} (h : w τ = some (l, τ1)) (hf : D.frzs l = l') (hg : g l' = some r) (hr : r.nof = true) : eFn g w τ = some (r, τ1) := by
  unfold eFn
  rw [h]
  simp only [Option.bind_some, hf, hg, hr, if_true]
end DL
namespace Mt
open DL Wk PySem L2
/-- what is drawn is so -/
structure Drawn (qs : List Rat) : Prop where
  one : ∀ q ∈ qs, 1 ≤ q
  tw : ∀ q ∈ qs, Tw q
  wh : Wh (qsum qs)
  le : qsum qs ≤ 3 * (qs.length : Rat)
theorem Drawn.nil : Drawn [] := ⟨by simp, by simp, rfl, by simp [qsum]⟩
theorem Drawn.app {a b : List Rat} (ha : Drawn a) (hb : Drawn b) : Drawn (a ++ b) := by
  refine ⟨fun q hq => ?_, fun q hq => ?_, ?_, ?_⟩
  · rcases List.mem_append.mp hq with h | h
    · exact ha.one q h
    · exact hb.one q h
  · rcases List.mem_append.mp hq with h | h
    · exact ha.tw q h
    · exact hb.tw q h
  · rw [qsum_app]; exact ha.wh.add hb.wh
  · have h1 := ha.le
    have h2 := hb.le
    rw [qsum_app, List.length_append]
    have : ((a.length + b.length : Nat) : Rat) = (a.length : Rat) + (b.length : Rat) := by simp
    rw [this]
    grind
theorem Drawn.perm {a b : List Rat} (h : Drawn a) (p : a.Perm b) : Drawn b := by
  refine ⟨fun q hq => h.one q (p.mem_iff.mpr hq), fun q hq => h.tw q (p.mem_iff.mpr hq), ?_, ?_⟩
  · rw [← qsum_perm p]; exact h.wh
  · rw [← qsum_perm p, ← p.length_eq]; exact h.le
theorem Drawn.needs {qs : List Rat} (h : Drawn qs) (h1 : 1 ≤ qs.length) (h8 : qs.length ≤ 8) : Needs qs ∧ ∃ N : Nat, qsum qs = (N : Rat) ∧ N ≤ 24 := by
  have l24 : qsum qs ≤ 24 := by
    have := h.le
    have : (qs.length : Rat) ≤ 8 := by exact_mod_cast h8
    grind
  refine ⟨⟨⟨h1, h8⟩, h.one, h.tw, h.wh, by grind⟩, ?_⟩
  have hp : 0 ≤ qsum qs := qsum_nonneg fun q hq => zero_le_of_one (h.one q hq)
  have e := h.wh.eq
  rw [e] at hp l24
  have h0 : 0 ≤ (qsum qs).num := by exact_mod_cast hp
  have h2 : (qsum qs).num ≤ 24 := by exact_mod_cast l24
  obtain ⟨N, hN⟩ := Int.eq_ofNat_of_zero_le h0
  refine ⟨N, by rw [e, hN]; rfl, by omega⟩
theorem divInt_add {b v : Nat} (hb : 0 < b) : Rat.divInt ((b : Int) + (v : Int)) (b : Int) = 1 + (v : Rat) / (b : Rat) := by
  have hb' : (b : Rat) ≠ 0 := by
    intro h
    have : (b : Rat) = ((0 : Nat) : Rat) := by rw [h]; rfl
    have : b = 0 := by exact_mod_cast this
    omega
  rw [Rat.divInt_eq_div, Rat.intCast_add]
  have e1 : (((b : Nat) : Int) : Rat) = (b : Rat) := rfl
  have e2 : (((v : Nat) : Int) : Rat) = (v : Rat) := rfl
  rw [e1, e2]
  grind
theorem drawn_one {b v : Nat} (hb : b ∈ [1, 2, 3, 4, 6]) (hv : v < 2 * b) : 1 ≤ Rat.divInt ((b : Int) + (v : Int)) (b : Int) ∧ Tw (Rat.divInt ((b : Int) + (v : Int)) (b : Int)) ∧ Rat.divInt ((b : Int) + (v : Int)) (b : Int) < 3 := by
  have hb0 : 0 < b := by
    simp at hb
    omega
  have hd : b ∣ 12 := by
    simp at hb
    rcases hb with rfl | rfl | rfl | rfl | rfl <;> decide
  obtain ⟨c, hc⟩ := hd
  rw [divInt_add hb0]
  have hb' : (0 : Rat) < (b : Rat) := by exact_mod_cast hb0
  have h0 : 0 ≤ (v : Rat) / (b : Rat) := Rat.not_lt.mp fun h => by
    rw [Rat.div_lt_iff hb'] at h
    have : (0 : Rat) ≤ (v : Rat) := by exact_mod_cast Nat.zero_le v
    grind
  have hm : (v : Rat) / (b : Rat) * (b : Rat) = (v : Rat) := Rat.div_mul_cancel (by grind)
  have hv' : (v : Rat) < 2 * (b : Rat) := by exact_mod_cast hv
  refine ⟨by grind, ⟨12 + (v : Int) * (c : Int), ?_⟩, ?_⟩
  · have e : (12 : Rat) = (b : Rat) * (c : Rat) := by exact_mod_cast hc
    rw [Rat.intCast_add, Rat.intCast_mul]
    have e1 : (((v : Nat) : Int) : Rat) = (v : Rat) := rfl
    have e2 : (((c : Nat) : Int) : Rat) = (c : Rat) := rfl
    have e3 : ((12 : Int) : Rat) = 12 := rfl
    rw [e1, e2, e3, Rat.add_mul, Rat.one_mul]
    congr 1
    rw [e, ← Rat.mul_assoc, hm]
  · have : (v : Rat) / (b : Rat) < 2 := (Rat.div_lt_iff hb').mpr hv'
    grind
/-- a lot is filled up to a whole one -/
theorem fill_up {R : Rat} (h0 : 0 ≤ R) (hd : 1 < R.den) : ∃ x : Rat, x = Rat.divInt ((R.den : Int) - R.num.fmod (R.den : Int)) (R.den : Int) ∧ 0 < x ∧ Wh (R + x) ∧ x ≤ 1 := by
  refine ⟨_, rfl, ?_⟩
  have hp : (0 : Int) < (R.den : Int) := den_pos R
  have e1 : R.num.fmod (R.den : Int) = R.num % (R.den : Int) := Int.fmod_eq_emod_of_nonneg _ (by omega)
  have m1 := Int.emod_nonneg R.num (show (R.den : Int) ≠ 0 by omega)
  have m2 := Int.emod_lt_of_pos R.num hp
  have m3 := Int.mul_ediv_add_emod R.num (R.den : Int)
  rw [e1, Rat.divInt_eq_div]
  have hd' : (0 : Rat) < ((R.den : Int) : Rat) := by exact_mod_cast hp
  have key : R = (R.num : Rat) / ((R.den : Int) : Rat) := by
    rw [← Rat.divInt_eq_div, Rat.num_divInt_den]
  generalize hD : (R.den : Int) = D at *
  generalize hn : R.num = n at *
  have q1 : ((D - n % D : Int) : Rat) / (D : Rat) * (D : Rat) = ((D - n % D : Int) : Rat) := Rat.div_mul_cancel (by grind)
  have q2 : (n : Rat) / (D : Rat) * (D : Rat) = (n : Rat) := Rat.div_mul_cancel (by grind)
  refine ⟨?_, ?_, ?_⟩
  · have : (0 : Rat) < ((D - n % D : Int) : Rat) := by exact_mod_cast (show (0 : Int) < D - n % D by omega)
    exact (Rat.lt_div_iff hd').mpr (by grind)
  · have e : R + ((D - n % D : Int) : Rat) / (D : Rat) = ((n / D + 1 : Int) : Rat) := by
      have z : (R + ((D - n % D : Int) : Rat) / (D : Rat)) * (D : Rat) = ((n / D + 1 : Int) : Rat) * (D : Rat) := by
        rw [Rat.add_mul, q1, key, q2, ← Rat.intCast_add, ← Rat.intCast_mul]
        congr 1
        rw [Int.add_mul, Int.mul_comm (n / D) D]
        omega
      exact Rat.le_antisymm (Rat.le_of_mul_le_mul_right (by rw [z]; exact Rat.le_refl) hd') (Rat.le_of_mul_le_mul_right (by rw [z]; exact Rat.le_refl) hd')
    rw [e]
    exact Wh.int _
  · have : ((D - n % D : Int) : Rat) ≤ (D : Rat) := by exact_mod_cast (show D - n % D ≤ D by omega)
    refine Rat.not_lt.mp fun h => ?_
    rw [Rat.lt_div_iff hd'] at h
    grind
end Mt
set_option Elab.async false
set_option linter.all false
set_option maxRecDepth 100000
set_option maxHeartbeats 2000000
/-! Needs drawn: the def. -/
namespace Mt
open DL Wk PySem L2
def bots : List Nat := [1, 2, 3, 4, 6]
theorem tw_smB {q : Rat} (h : Tw q) (h0 : 0 ≤ q) (h1 : q ≤ 100) : Sm q := (h.fr6 (B := 100) h0 h1 (by decide)).sm
theorem int_add_run {p q : DS → Option D} {i j : Int} {τ : DS} (h : p τ = some (.int i)) (h2 : q τ = some (.int j)) : pOp oAdd p q τ = some (.int (i + j)) := op_run h h2 oAdd_i
/-- a lot, whole -/
theorem lot_whole {lot : List Rat} {s : Nat} (hl : lot.length = s) (hs : 0 < s) (h : ∀ q ∈ lot, 1 ≤ q ∧ Tw q ∧ q < 3) : (Wh (qsum lot) → Drawn lot) ∧
    ∀ init last x, lot = init ++ [last] → 0 < x → x ≤ 1 → Tw x → Wh (qsum lot + x) → Drawn (init ++ [last + x]) := by
  have lt3 : ∀ l : List Rat, (∀ q ∈ l, 1 ≤ q ∧ Tw q ∧ q < 3) → l ≠ [] → qsum l < 3 * (l.length : Rat) := fun l => by
    induction l with
    | nil => exact fun _ h => absurd rfl h
    | cons q r ih =>
      intro h _
      have hq := h q List.mem_cons_self
      have e : ((q :: r).length : Rat) = (r.length : Rat) + 1 := by simp
      rw [e, qsum]
      by_cases hr : r = []
      · subst hr
        simp [qsum]
        grind
      · have := ih (fun x hx => h x (List.mem_cons_of_mem _ hx)) hr
        grind
  have hne : lot ≠ [] := by
    rintro rfl
    simp at hl
    omega
  have hlt := lt3 lot h hne
  refine ⟨fun w => ⟨fun q hq => (h q hq).1, fun q hq => (h q hq).2.1, w, by grind⟩, ?_⟩
  intro init last x e hx hx1 tx w
  have hs2 : qsum (init ++ [last + x]) = qsum lot + x := by
    rw [e, qsum_app, qsum_app]
    simp [qsum]
    grind
  have hlen : (init ++ [last + x]).length = lot.length := by rw [e]; simp
  have hlast := h last (by rw [e]; simp)
  refine ⟨fun q hq => ?_, fun q hq => ?_, ?_, ?_⟩
  · rcases List.mem_append.mp hq with hq | hq
    · exact (h q (by rw [e]; simp [hq])).1
    · rw [List.mem_singleton.mp hq]; grind
  · rcases List.mem_append.mp hq with hq | hq
    · exact (h q (by rw [e]; simp [hq])).2.1
    · rw [List.mem_singleton.mp hq]; exact hlast.2.1.add tx
  · rw [hs2]; exact w
  · rw [hs2, hlen]
    have e1 := w.eq
    have e2 : qsum lot + x < 3 * (lot.length : Rat) + 1 := by grind
    rw [e1] at e2 ⊢
    have e3 : (3 * (lot.length : Rat) + 1) = ((3 * (lot.length : Int) + 1 : Int) : Rat) := by
      rw [Rat.intCast_add, Rat.intCast_mul]; rfl
    have e4 : (3 * (lot.length : Rat)) = ((3 * (lot.length : Int) : Int) : Rat) := by
      rw [Rat.intCast_mul]; rfl
    rw [e3] at e2
    rw [e4]
    have : (qsum lot + x).num < 3 * (lot.length : Int) + 1 := by exact_mod_cast e2
    have : (qsum lot + x).num ≤ 3 * (lot.length : Int) := by omega
    exact_mod_cast this
theorem needs_drawn_spec {n m : Nat} {p : D} (h : PotOk n p) (h1 : 1 ≤ m) (h8 : m ≤ 8) (hn : n + 1000 < 2 ^ 60) :
    ∃ r p', (∃ qs : List Rat, r = .tup (qs.map encQ) ∧ qs.length = m ∧ Drawn qs ∧ PotOk (n + 32) p') ∧ g_law_needs_drawn_ [p, .int (m : Int)] = some (r, p') := by
  refine gI_wpx rfl ?_
  unfold b_law_needs_drawn_
  simp only [startD, List.length_cons, List.length_nil, List.map_cons, List.map_nil, List.replicate_succ, List.replicate_zero, List.cons_append, List.nil_append, List.append_nil, List.set_cons_zero, List.set_cons_succ, Nat.reduceAdd, Nat.reduceSub, N_law_needs_drawn_]
  refine wp_seq (wp_setP (d := .lst true []) rfl (.inr rfl) ?_)
  simp only [startD, List.length_cons, List.length_nil, List.map_cons, List.map_nil, List.replicate_succ, List.replicate_zero, List.cons_append, List.nil_append, List.append_nil, List.set_cons_zero, List.set_cons_succ, Nat.reduceAdd, Nat.reduceSub]
  refine wp_seq (wp_whileI (k := m) (fun k τ => ∃ (p' : D) (f : List Rat) (x3 x4 x5 x6 x7 : Option D), k + f.length = m ∧ Drawn f ∧ PotOk (n + 3 * f.length) p' ∧ τ = [some p', some (.int (m : Int)), some (.lst true (f.map encQ)), x3, x4, x5, x6, x7, none])
    ⟨p, [], none, none, none, none, none, rfl, Drawn.nil, h, rfl⟩ ?_)
  rintro k _ ⟨p1, f, x3, x4, x5, x6, x7, hk, hf, hp1, rfl⟩
  refine ⟨decide ((f.length : Int) < (m : Int)), cBl_run (op_run (call_run (qC_run rfl rfl) (by show some (D.int ((f.map encQ).length : Nat)) = _; rw [List.length_map])) rfl oLt_i), fun hb => ?_, fun hb => ?_⟩
  · have hfm : f.length < m := by have := of_decide_eq_true hb; omega
    -- how many
    obtain ⟨_, p2, ⟨v, rfl, hv, hp2⟩, et⟩ := take_spec (u := 3) hp1 (by decide) (by decide) (by omega)
    obtain ⟨s, hs⟩ : ∃ s : Nat, min ((m : Int) - (f.length : Int)) (1 + (v : Int)) = (s : Int) ∧ 1 ≤ s ∧ s + f.length ≤ m ∧ s ≤ 3 := ⟨(min ((m : Int) - (f.length : Int)) (1 + (v : Int))).toNat, by omega, by omega, by omega, by omega⟩
    refine wp_seq (wp_set (d := .int (s : Int)) (τ' := [some p2, some (.int (m : Int)), some (.lst true (f.map encQ)), x3, x4, x5, x6, x7, none]) ?_ ?_)
    · refine eCall_run (l := [.int ((m : Int) - (f.length : Int)), .int (1 + (v : Int))]) (xC_run (eP_run (gI_run (op_run rfl (call_run (qC_run rfl rfl) (by show some (D.int ((f.map encQ).length : Nat)) = _; rw [List.length_map])) oSub_i) rfl) (.inl rfl)) (xC_run (eOp_run rfl (eCall_run (xC_run (fnI_run rfl (xC_run rfl rfl) rfl rfl et rfl hp2.nof) rfl) rfl rfl) oAdd_i rfl) rfl)) ?_ rfl
      rw [oMin2_i, hs.1]
    simp only [startD, List.length_cons, List.length_nil, List.map_cons, List.map_nil, List.replicate_succ, List.replicate_zero, List.cons_append, List.nil_append, List.append_nil, List.set_cons_zero, List.set_cons_succ, Nat.reduceAdd, Nat.reduceSub]
    -- the bottom
    obtain ⟨r, p3, ⟨vb, hvb, hr, hp3⟩, eo⟩ := of_spec (ds := bots.map fun b : Nat => D.int (b : Int)) (o := false) hp2 (by simp [bots]) (by simp [bots]) (by rfl) (by omega)
    have hrb : ∃ b ∈ bots, r = .int (b : Int) := by
      rw [List.getElem?_map] at hr
      obtain ⟨b, hb, rfl⟩ := Option.map_eq_some_iff.mp hr
      exact ⟨b, List.mem_of_getElem? hb, rfl⟩
    obtain ⟨b, hbm, rfl⟩ := hrb
    have hb6 : 1 ≤ b ∧ b ≤ 6 := by
      simp [bots] at hbm
      omega
    refine wp_seq (wp_set (d := .int (b : Int)) (τ' := [some p3, some (.int (m : Int)), some (.lst true (f.map encQ)), some (.int (s : Int)), x4, x5, x6, x7, none]) ?_ ?_)
    · have hx : xCons (eP (pLst (qCons (pC (.int 1)) (qCons (pC (.int 2)) (qCons (pC (.int 3)) (qCons (pC (.int 4)) (qCons (pC (.int 6)) qNil))))))) xNil [some p2, some (.int (m : Int)), some (.lst true (f.map encQ)), some (.int (s : Int)), x4, x5, x6, x7, none] = some ([.lst true [.int 1, .int 2, .int 3, .int 4, .int 6]], [some p2, some (.int (m : Int)), some (.lst true (f.map encQ)), some (.int (s : Int)), x4, x5, x6, x7, none]) :=
        xC_run (eP_run (pLst_run (ds := [.int 1, .int 2, .int 3, .int 4, .int 6]) rfl (show 5 ≤ 16777216 by decide)) (.inr rfl)) rfl
      exact fnI_run (i := 0) (τ1 := [some p2, some (.int (m : Int)), some (.lst true (f.map encQ)), some (.int (s : Int)), x4, x5, x6, x7, none]) rfl hx rfl rfl eo rfl hp3.nof
    simp only [startD, List.length_cons, List.length_nil, List.map_cons, List.map_nil, List.replicate_succ, List.replicate_zero, List.cons_append, List.nil_append, List.append_nil, List.set_cons_zero, List.set_cons_succ, Nat.reduceAdd, Nat.reduceSub]
    -- the lot
    obtain ⟨rs, τ', el, lot, p4, hlot, hrs, hlen, hp4, rfl⟩ := eLc_run (q := jP (iRg1 (qCons (pVar 3) qNil))) (g := gdN 7) (f := eFn g_law_frac_ (xCons (eOp oAdd (eP (gImm (pVar 4))) (eCall oInt (xCons (eFnI g_law_take_ 0 (xCons (eP (gImm (pOp oMul (pC (.int 2)) (pVar 4)))) xNil)) xNil))) (xCons (eP (gImm (pVar 4))) xNil))) (vs := [7]) (ds := rgD 0 s)
      (τ := [some p3, some (.int (m : Int)), some (.lst true (f.map encQ)), some (.int (s : Int)), some (.int (b : Int)), x5, x6, x7, none])
      (fun i τ acc => ∃ (lot : List Rat) (p4 : D), (∀ q ∈ lot, 1 ≤ q ∧ Tw q ∧ q < 3) ∧ acc = lot.map encQ ∧ lot.length = i ∧ PotOk (n + 3 * f.length + 2 + i) p4 ∧ τ = [some p4, some (.int (m : Int)), some (.lst true (f.map encQ)), some (.int (s : Int)), some (.int (b : Int)), x5, x6, none, none])
      (jP_run (rg1_eq rfl (by omega))) (by rw [rgD_len]; omega) ⟨[], p3, by simp, rfl, rfl, hp3, rfl⟩ (by
        rintro i d _ acc hd ⟨lot, p4, hlot, rfl, hlen, hp4, rfl⟩
        have his : i < s := by
          have := (List.getElem?_eq_some_iff.mp hd).1
          rwa [rgD_len] at this
        obtain ⟨_, p5, ⟨v2, rfl, hv2, hp5⟩, et2⟩ := take_spec (u := 2 * b) hp4 (by omega) (by omega) (by omega)
        have mm := (mulI (i := 2) (j := (b : Int)) (a := 2) (b := 10) (by decide) (natAbs_lt (by omega)) (by decide)).1
        have ec : (2 : Int) * (b : Int) = ((2 * b : Nat) : Int) := by simp
        rw [ec] at mm
        have fs := frac_spec ((b : Int) + (v2 : Int)) (b : Int) (by omega) (lt_of_le_pow (natAbs_lt (show b < 2 ^ 10 by omega)) (by decide)) (lt_of_le_pow (show ((b : Int) + (v2 : Int)).natAbs < 2 ^ 10 by omega) (by decide))
        refine ⟨_, encQ (Rat.divInt ((b : Int) + (v2 : Int)) (b : Int)), [some p5, some (.int (m : Int)), some (.lst true (f.map encQ)), some (.int (s : Int)), some (.int (b : Int)), x5, x6, some d, none], rfl, ?_, lot ++ [Rat.divInt ((b : Int) + (v2 : Int)) (b : Int)], p5, ?_, by simp, by simp [hlen], hp5, rfl⟩
        · exact eFn_run (l := [.int ((b : Int) + (v2 : Int)), .int (b : Int)]) (xC_run (eOp_run rfl (eCall_run (xC_run (fnI_run rfl (xC_run (eP_run (gI_run (op_run rfl rfl mm) rfl) (.inl rfl)) rfl) rfl rfl et2 rfl hp5.nof) rfl) rfl rfl) oAdd_i rfl) (xC_run rfl rfl)) rfl fs (nof_encQ _)
        · intro q hq
          rcases List.mem_append.mp hq with hq | hq
          · exact hlot q hq
          · rw [List.mem_singleton.mp hq]
            exact drawn_one hbm hv2)
    rw [rgD_len] at hlen hp4
    subst hrs
    refine wp_seq (wp_set el ?_)
    simp only [startD, List.length_cons, List.length_nil, List.map_cons, List.map_nil, List.replicate_succ, List.replicate_zero, List.cons_append, List.nil_append, List.append_nil, List.set_cons_zero, List.set_cons_succ, Nat.reduceAdd, Nat.reduceSub]
    -- its sum
    have twl : Twl 100 lot := by
      refine ⟨fun q hq => zero_le_of_one (hlot q hq).1, fun q hq => (hlot q hq).2.1, ?_⟩
      have key : ∀ l : List Rat, (∀ q ∈ l, 1 ≤ q ∧ Tw q ∧ q < 3) → qsum l ≤ 3 * (l.length : Rat) := fun l => by
        induction l with
        | nil => exact fun _ => by simp [qsum]
        | cons q r ih =>
          intro h
          have hq := h q List.mem_cons_self
          have := ih fun x hx => h x (List.mem_cons_of_mem _ hx)
          have e : ((q :: r).length : Rat) = (r.length : Rat) + 1 := by simp
          rw [e, qsum]
          grind
      have := key lot hlot
      have h3 : (lot.length : Rat) ≤ 3 := by rw [hlen]; exact_mod_cast hs.2.2.2
      show qsum lot ≤ ((100 : Nat) : Rat)
      have : ((100 : Nat) : Rat) = 100 := rfl
      grind
    have ls := lsum_spec (qs_lst lot) (twl.sm (by decide))
    have fv : D.frzs [.lst true (lot.map encQ)] = [.lst false (lot.map encQ)] := by simp only [D.frzs, D.frz, frzs_encQ]
    refine wp_seq (wp_setP (d := encQ (qsum lot)) (fn_run rfl fv ls (nof_encQ _)) (.inl (imm_encQ _)) ?_)
    simp only [startD, List.length_cons, List.length_nil, List.map_cons, List.map_nil, List.replicate_succ, List.replicate_zero, List.cons_append, List.nil_append, List.append_nil, List.set_cons_zero, List.set_cons_succ, Nat.reduceAdd, Nat.reduceSub]
    obtain ⟨lw1, lw2⟩ := lot_whole hlen (by omega) hlot
    have R0 : 0 ≤ qsum lot := qsum_nonneg twl.pos
    have Rtw : Tw (qsum lot) := qsum_tw twl.tw
    have Rsm : Sm (qsum lot) := tw_smB Rtw R0 twl.le
    have i0 : oIx (encQ (qsum lot)) (.int 0) = some (.int (qsum lot).num) := ix0
    have i1 : oIx (encQ (qsum lot)) (.int 1) = some (.int ((qsum lot).den : Int)) := ix1
    -- the last row
    have fin : ∀ lot' : List Rat, lot'.length = s → Drawn lot' → WP (fExt 2 (pVar 5) [some p4, some (.int (m : Int)), some (.lst true (f.map encQ)), some (.int (s : Int)), some (.int (b : Int)), some (.lst true (lot'.map encQ)), some (encQ (qsum lot)), none, none])
        (Lp (fun τ' => ∃ k' < k, ∃ (p' : D) (f : List Rat) (x3 x4 x5 x6 x7 : Option D), k' + f.length = m ∧ Drawn f ∧ PotOk (n + 3 * f.length) p' ∧ τ' = [some p', some (.int (m : Int)), some (.lst true (f.map encQ)), x3, x4, x5, x6, x7, none])
          (Sq (fRet (eCall oTuple (xCons (eLc (jSeq (eFnI g_law_some_ 0 (xCons (eP (pRg1 (pVar 1))) (xCons (eP (gImm (pVar 1))) xNil)))) (gdN 8) kYes (eP (gImm (pOp oIx (pVar 2) (pVar 8)))) [8]) xNil))) fun o => ∃ r d0, (∃ qs : List Rat, r = .tup (qs.map encQ) ∧ qs.length = m ∧ Drawn qs ∧ PotOk (n + 32) d0) ∧ RtI r d0 o)) := by
      intro lot' hl' hD
      refine wp_ext (x := .lst true (lot'.map encQ)) (es := lot'.map encQ) (ds := f.map encQ) rfl rfl rfl (imms_encQ _) (imms_encQ _) (Nat.le_trans (m := 1000) (by simp; omega) (by decide)) ?_
      refine ⟨k - s, by omega, p4, f ++ lot', some (.int (s : Int)), some (.int (b : Int)), some (.lst true (lot'.map encQ)), some (encQ (qsum lot)), none, by rw [List.length_append]; omega, hf.app hD, hp4.mono (by rw [List.length_append]; omega), ?_⟩
      simp only [startD, List.length_cons, List.length_nil, List.map_cons, List.map_nil, List.replicate_succ, List.replicate_zero, List.cons_append, List.nil_append, List.append_nil, List.set_cons_zero, List.set_cons_succ, Nat.reduceAdd, Nat.reduceSub, List.map_append]
    by_cases hden : 1 < (qsum lot).den
    · obtain ⟨x, ex, hx0, hxw, hx1⟩ := fill_up R0 hden
      obtain ⟨init, last, eil⟩ : ∃ init last, lot = init ++ [last] := by
        rcases List.eq_nil_or_concat lot with e | ⟨a, b, e⟩
        · rw [e] at hlen
          simp at hlen
          omega
        · exact ⟨a, b, by rw [e, List.concat_eq_append]⟩
      have hlast := hlot last (by rw [eil]; simp)
      have hxt : Tw x := by
        have e : x = qsum lot + x - qsum lot := by grind
        have t1 : Tw (qsum lot + x) := by rw [hxw.eq]; exact Tw.int _
        rw [e]
        exact t1.sub Rtw
      have dsm : (qsum lot).den < 2 ^ 64 := Rsm.2
      have dpos := (qsum lot).den_pos
      have fm : ∃ v : Nat, v < (qsum lot).den ∧ (qsum lot).num.fmod ((qsum lot).den : Int) = (v : Int) := fmod_nat _ dpos
      obtain ⟨vm, hvm, efm⟩ := fm
      have fs := frac_spec (((qsum lot).den : Int) - (qsum lot).num.fmod ((qsum lot).den : Int)) ((qsum lot).den : Int) (by omega) (lt_of_le_pow (natAbs_lt dsm) (by decide)) (by rw [efm]; exact lt_of_le_pow (show (((qsum lot).den : Int) - (vm : Int)).natAbs < 2 ^ 64 by omega) (by decide))
      rw [← ex] at fs
      have pl := lplus_spec (tw_smB hlast.2.1 (by grind) (by grind)) (tw_smB hxt (by grind) (by grind))
      refine wp_seq (wp_yes (cBl_run (op_run (op_run rfl rfl i1) rfl (by rw [oGt_i, decide_eq_true (by omega)]))) ?_)
      have eD : some (D.lst true (lot.map encQ)) = some (D.lst true (init.map encQ ++ [encQ last])) := by rw [eil]; simp
      rw [eD]
      have ixm : oIx (.lst true (init.map encQ ++ [encQ last])) (.int (-1)) = some (encQ last) := ix_last
      refine wp_sub1m (d := encQ (last + x)) (x := encQ last) (ds := init.map encQ) ?_ (imm_encQ _) (frz_encQ _) rfl rfl ?_ ?_
      · refine fn_run (l := [encQ last, encQ x]) (qC_run (op_run rfl rfl ixm) (qC_run ?_ rfl)) (by simp only [D.frzs, frz_encQ]) pl (nof_encQ _)
        refine fn_run (l := [.int (((qsum lot).den : Int) - (qsum lot).num.fmod ((qsum lot).den : Int)), .int ((qsum lot).den : Int)]) (qC_run (op_run (op_run rfl rfl i1) (op_run (op_run rfl rfl i0) (op_run rfl rfl i1) (oMod_i (by omega))) oSub_i) (qC_run (op_run rfl rfl i1) rfl)) rfl fs (nof_encQ _)
      · have : init.map encQ ++ [encQ last] = lot.map encQ := by rw [eil]; simp
        rw [this]
        exact imms_encQ _
      · have e2 : init.map encQ ++ [encQ (last + x)] = (init ++ [last + x]).map encQ := by simp
        simp only [startD, List.length_cons, List.length_nil, List.map_cons, List.map_nil, List.replicate_succ, List.replicate_zero, List.cons_append, List.nil_append, List.append_nil, List.set_cons_zero, List.set_cons_succ, Nat.reduceAdd, Nat.reduceSub, e2]
        exact fin _ (by rw [← hlen, eil]; simp) (lw2 init last x eil hx0 hx1 hxt hxw)
    · have hw : Wh (qsum lot) := by
        have := (qsum lot).den_pos
        unfold Wh
        omega
      refine wp_seq (wp_no (cBl_run (op_run (op_run rfl rfl i1) rfl (by rw [oGt_i, decide_eq_false (by omega)]))) (wp_nil ?_))
      exact fin lot hlen (lw1 hw)
  · have hfm : f.length = m := by have := of_decide_eq_false hb; omega
    subst hfm
    show WP _ _
    obtain ⟨_, p2, ⟨L, rfl, hL, hp2⟩, es⟩ := some_all (m := f.length) hp1 (by omega) (by omega)
    have rg := pRg1_run (p := pVar 1) (τ := [some p1, some (.int (f.length : Int)), some (.lst true (f.map encQ)), x3, x4, x5, x6, x7, none]) (n := f.length) rfl (by omega)
    have hx : xCons (eP (pRg1 (pVar 1))) (xCons (eP (gImm (pVar 1))) xNil) [some p1, some (.int (f.length : Int)), some (.lst true (f.map encQ)), x3, x4, x5, x6, x7, none] = some ([.lst true (rgD 0 f.length), .int (f.length : Int)], [some p1, some (.int (f.length : Int)), some (.lst true (f.map encQ)), x3, x4, x5, x6, x7, none]) :=
      xC_run (eP_run rg (.inr (by rw [rg_lotD]; exact nof_lotD _))) (xC_run rfl rfl)
    have hsome : eFnI g_law_some_ 0 (xCons (eP (pRg1 (pVar 1))) (xCons (eP (gImm (pVar 1))) xNil)) [some p1, some (.int (f.length : Int)), some (.lst true (f.map encQ)), x3, x4, x5, x6, x7, none] = some (.lst true (lotD L), [some p2, some (.int (f.length : Int)), some (.lst true (f.map encQ)), x3, x4, x5, x6, x7, none]) :=
      fnI_run (i := 0) (τ1 := [some p1, some (.int (f.length : Int)), some (.lst true (f.map encQ)), x3, x4, x5, x6, x7, none]) rfl hx rfl (by rw [rg_lotD]; simp only [D.frzs, D.frz, frzs_lotD]) es (nof_lotD _) hp2.nof
    obtain ⟨rs, τ', el, i, hi, rfl, rfl⟩ := eLc_run (q := jSeq (eFnI g_law_some_ 0 (xCons (eP (pRg1 (pVar 1))) (xCons (eP (gImm (pVar 1))) xNil)))) (g := gdN 8) (f := eP (gImm (pOp oIx (pVar 2) (pVar 8)))) (vs := [8]) (ds := lotD L) (τ := [some p1, some (.int (f.length : Int)), some (.lst true (f.map encQ)), x3, x4, x5, x6, x7, none])
      (τ0 := [some p2, some (.int (f.length : Int)), some (.lst true (f.map encQ)), x3, x4, x5, x6, x7, none])
      (fun i τ acc => ∃ j, j = i ∧ acc = ((L.take j).map fun a => encQ (qAt f a)) ∧ τ = [some p2, some (.int (f.length : Int)), some (.lst true (f.map encQ)), x3, x4, x5, x6, x7, none])
      (jSeq_run (o := true) hsome (imms_lotD _)) (by rw [lotD_len, hL.length_eq, List.length_range]; omega) ⟨0, rfl, rfl, rfl⟩ (by
        rintro i d _ acc hd ⟨_, rfl, rfl, rfl⟩
        unfold lotD at hd
        rw [List.getElem?_map] at hd
        obtain ⟨a, ha, rfl⟩ := Option.map_eq_some_iff.mp hd
        have han : a < f.length := List.mem_range.mp (hL.mem_iff.mp (List.mem_of_getElem? ha))
        have ixa : oIx (.lst true (f.map encQ)) (.int (a : Int)) = some (encQ (qAt f a)) := ixl_map (by simp [qAt, han])
        refine ⟨_, encQ (qAt f a), _, rfl, eP_run (gI_run (op_run rfl rfl ixa) (imm_encQ _)) (.inl (imm_encQ _)), _, rfl, ?_, rfl⟩
        rw [List.take_add_one, ha, List.map_append]
        rfl)
    rw [lotD_len] at hi
    have eL : ((L.take i).map fun a => encQ (qAt f a)) = (L.map (qAt f)).map encQ := by
      rw [hi, List.take_length, List.map_map]
      rfl
    rw [eL] at el
    have pm : (L.map (qAt f)).Perm f := by
      have := hL.map (qAt f)
      rwa [map_qAt] at this
    refine wp_ret (d := .tup ((L.map (qAt f)).map encQ)) (τ' := [some p2, some (.int (f.length : Int)), some (.lst true (f.map encQ)), x3, x4, x5, x6, x7, none]) (eCall_run (xC_run el rfl) (oTuple_l (imms_encQ _)) (by simp [D.imm, imms_encQ, -List.map_map])) ⟨_, _, ⟨L.map (qAt f), rfl, pm.length_eq, hf.perm pm.symm, hp2.mono (by omega)⟩, _, rfl, rfl⟩
end Mt
set_option Elab.async false
set_option linter.all false
set_option maxRecDepth 100000
set_option maxHeartbeats 2000000
/-! The law's most lots: lots within lots. -/
namespace Mt
open DL Wk PySem L2
def subm (p m : Nat) : Bool := p &&& m == p
def bN (m i : Nat) : Bool := Nat.beq (Nat.mod (Nat.div m (Nat.pow 2 i)) 2) 1
def sN (p m : Nat) : Bool := Nat.beq (Nat.land p m) p
theorem nbeq (a b : Nat) : Nat.beq a b = (a == b) := by
  rw [Bool.eq_iff_iff]
  simp [Nat.beq_eq]
theorem bN_eq (m i : Nat) : bN m i = bitN m i := nbeq _ _
theorem sN_eq (p m : Nat) : sN p m = subm p m := nbeq _ _
/-- for all below n -/
def allB (f : Nat → Bool) : Nat → Bool
  | 0 => true
  | n + 1 => bif f n then allB f n else false
theorem allB_of {f : Nat → Bool} : ∀ {n : Nat}, allB f n = true → ∀ i < n, f i = true
  | n + 1, h, i, hi => by
    unfold allB at h
    cases e : f n with
    | false => rw [e] at h; cases h
    | true =>
      rw [e] at h
      rcases Nat.lt_or_ge i n with q | q
      · exact allB_of h i q
      · have : i = n := by omega
        rw [this]; exact e
def chk1 : Bool := allB (fun m => allB (fun p => bif sN p m then allB (fun i => bif bN p i then (bif bN m i then (bif bN (Nat.sub m p) i then false else true) else false) else (bif bN m i then bN (Nat.sub m p) i else (bif bN (Nat.sub m p) i then false else true))) 8 else true) 256) 256
theorem chk1_ok : chk1 = true := by decide +kernel
theorem sub_bits {p m i : Nat} (hm : m < 256) (h : subm p m = true) (hi : i < 8) : bitN (m - p) i = (bitN m i && !bitN p i) ∧ (bitN p i = true → bitN m i = true) := by
  have hp : p < 256 := by
    unfold subm at h
    have e : p &&& m = p := by simpa using h
    have := Nat.and_le_right (n := p) (m := m)
    omega
  have z := allB_of (allB_of chk1_ok m hm) p hp
  rw [sN_eq, h, cond_true] at z
  have z := allB_of z i hi
  simp only [bN_eq, Nat.sub_eq] at z
  revert z
  cases bitN p i <;> cases bitN m i <;> cases bitN (m - p) i <;> simp
def chk2 : Bool := allB (fun m => allB (fun p => bif Nat.beq p 0 then true else (bif sN p m then allB (fun j => bif sN (Nat.add (Nat.add (Nat.land (Nat.sub p 1) m) 1) j) m then false else true) (Nat.sub (Nat.sub p (Nat.land (Nat.sub p 1) m)) 1) else true)) 256) 256
theorem chk2_ok : chk2 = true := by decide +kernel
theorem sub_lt {p m : Nat} (h : subm p m = true) : p ≤ m := by
  have e : p &&& m = p := by simpa [subm] using h
  have := Nat.and_le_right (n := p) (m := m)
  omega
theorem sub_next {p q m : Nat} (hm : m < 256) (hp : subm p m = true) (p0 : 0 < p) (hq : subm q m = true) (hqp : q < p) : q ≤ (p - 1) &&& m := by
  rcases Nat.lt_or_ge ((p - 1) &&& m) q with h | h
  · exfalso
    have z := allB_of (allB_of chk2_ok m hm) p (by have := sub_lt hp; omega)
    have hp0 : Nat.beq p 0 = false := by
      cases e : Nat.beq p 0 with
      | false => rfl
      | true => have := Nat.eq_of_beq_eq_true e; omega
    rw [hp0, sN_eq, hp, cond_false, cond_true] at z
    have z := allB_of z (q - ((p - 1) &&& m) - 1) (show q - ((p - 1) &&& m) - 1 < p - ((p - 1) &&& m) - 1 by omega)
    have e : Nat.add (Nat.add (Nat.land (Nat.sub p 1) m) 1) (q - ((p - 1) &&& m) - 1) = q := by
      show ((p - 1) &&& m) + 1 + (q - ((p - 1) &&& m) - 1) = q
      omega
    rw [e, sN_eq, hq] at z
    cases z
  · exact h
theorem sub_and (x m : Nat) : subm (x &&& m) m = true := by
  unfold subm
  rw [Nat.and_assoc, Nat.and_self]
  simp
theorem sub_self (m : Nat) : subm m m = true := by
  unfold subm
  rw [Nat.and_self]
  simp
theorem filter_split {c d : Nat → Bool} : ∀ l : List Nat, (l.filter (fun i => c i && d i) ++ l.filter (fun i => c i && !d i)).Perm (l.filter c)
  | [] => List.Perm.refl _
  | x :: l => by
    have ih := filter_split (c := c) (d := d) l
    cases hc : c x with
    | false => simp [hc, ih]
    | true =>
      cases hd : d x with
      | true => simp [hc, hd, ih]
      | false =>
        simp only [hc, hd, Bool.true_and, Bool.not_false, List.filter_cons, Bool.false_eq_true, if_false, if_true]
        exact (List.perm_middle).trans (ih.cons x)
theorem sub_perm {n p m : Nat} (hn : n ≤ 8) (hm : m < 2 ^ n) (h : subm p m = true) : (places n p ++ places n (m - p)).Perm (places n m) := by
  have h256 : m < 256 := Nat.lt_of_lt_of_le hm (pow8 hn)
  have e1 : places n p = (List.range n).filter fun i => bitN m i && bitN p i := by
    unfold places
    refine List.filter_congr fun i hi => ?_
    have hi : i < n := List.mem_range.mp hi
    have z := (sub_bits h256 h (show i < 8 by omega)).2
    cases hb : bitN p i with
    | false => simp
    | true => simp [z hb]
  have e2 : places n (m - p) = (List.range n).filter fun i => bitN m i && !bitN p i := by
    unfold places
    refine List.filter_congr fun i hi => ?_
    have hi : i < n := List.mem_range.mp hi
    exact (sub_bits h256 h (show i < 8 by omega)).1
  rw [e1, e2]
  exact filter_split _
theorem sub_S {qs : List Rat} {p m : Nat} (hn : qs.length ≤ 8) (hm : m < 2 ^ qs.length) (h : subm p m = true) : S qs m = S qs p + S qs (m - p) := by
  unfold S
  rw [← qsum_perm ((sub_perm hn hm h).map _), List.map_append, qsum_app]
theorem bit_on : ∀ m < 256, ∀ a < 8, bitN m a = false → m + 2 ^ a < 256 ∧ ∀ i < 8, bitN (m + 2 ^ a) i = (bitN m i || decide (i = a)) := by decide +kernel
theorem bit_ext : ∀ p < 256, ∀ q < 256, (∀ i < 8, bitN p i = bitN q i) → p = q := by
  intro p hp q hq h
  have key : ∀ x < 256, x = (List.range 8).foldl (fun s i => s + if bitN x i = true then 2 ^ i else 0) 0 := by decide +kernel
  rw [key p hp, key q hq]
  have : ∀ (l : List Nat) (s : Nat), (∀ i ∈ l, i < 8) → l.foldl (fun s i => s + if bitN p i = true then 2 ^ i else 0) s = l.foldl (fun s i => s + if bitN q i = true then 2 ^ i else 0) s := fun l => by
    induction l with
    | nil => exact fun _ _ => rfl
    | cons x r ih =>
      intro s hl
      rw [List.foldl_cons, List.foldl_cons, h x (hl x List.mem_cons_self)]
      exact ih _ fun i hi => hl i (List.mem_cons_of_mem _ hi)
  exact this _ _ fun i hi => List.mem_range.mp hi
/-- some unlike places are a lot's -/
theorem mask_of {n : Nat} (hn : n ≤ 8) : ∀ {Z : List Nat}, Z.Nodup → (∀ i ∈ Z, i < n) → ∃ p < 2 ^ n, ∀ i < 8, bitN p i = true ↔ i ∈ Z
  | [], _, _ => ⟨0, Nat.pow_pos (by decide), fun i _ => by simp [bit_nil]⟩
  | a :: Z, nd, h => by
    obtain ⟨n1, n2⟩ := List.nodup_cons.mp nd
    obtain ⟨p, hp, hb⟩ := mask_of hn n2 fun i hi => h i (List.mem_cons_of_mem _ hi)
    have ha := h a List.mem_cons_self
    have p256 : p < 256 := Nat.lt_of_lt_of_le hp (pow8 hn)
    have hoff : bitN p a = false := by
      cases e : bitN p a with
      | false => rfl
      | true => exact absurd ((hb a (by omega)).mp e) n1
    obtain ⟨q1, q2⟩ := bit_on p p256 a (by omega) hoff
    refine ⟨p + 2 ^ a, ?_, fun i hi => ?_⟩
    · rcases Nat.lt_or_ge (p + 2 ^ a) (2 ^ n) with z | z
      · exact z
      · exfalso
        -- a bit at n or above
        have hz : p + 2 ^ a < 2 ^ n + 2 ^ n := by
          have : 2 ^ a < 2 ^ n := Nat.pow_lt_pow_right (by decide) ha
          omega
        have hlt8 : n < 8 := by
          rcases Nat.lt_or_ge n 8 with w | w
          · exact w
          · have : n = 8 := by omega
            subst this
            omega
        have hbit : bitN (p + 2 ^ a) n = true := by
          unfold bitN
          have : (p + 2 ^ a) / 2 ^ n = 1 := by
            have hpos : 0 < 2 ^ n := Nat.pow_pos (by decide)
            exact Nat.div_eq_of_lt_le (by omega) (by omega)
          rw [this]
          rfl
        rw [q2 n hlt8, bit_hi n hn p hp n hlt8 (Nat.le_refl _)] at hbit
        have : ¬ n = a := by omega
        simp [this] at hbit
    · rw [q2 i hi, Bool.or_eq_true, hb i hi, List.mem_cons, decide_eq_true_eq]
      exact ⟨fun z => z.symm, fun z => z.symm⟩
theorem places_mask {n p : Nat} (hn : n ≤ 8) {Z : List Nat} (nd : Z.Nodup) (h : ∀ i ∈ Z, i < n) (hb : ∀ i < 8, bitN p i = true ↔ i ∈ Z) : (places n p).Perm Z := by
  refine (List.perm_ext_iff_of_nodup (places_nodup n p) nd).mpr fun i => ?_
  rw [mem_places]
  constructor
  · rintro ⟨h1, h2⟩
    exact (hb i (by omega)).mp h2
  · intro hi
    exact ⟨h i hi, (hb i (by have := h i hi; omega)).mpr hi⟩
theorem sub_of_bits {p m : Nat} (hp : p < 256) (hm : m < 256) (h : ∀ i < 8, bitN p i = true → bitN m i = true) : subm p m = true := by
  have hand : p &&& m < 256 := by have := Nat.and_le_left (n := p) (m := m); omega
  have key : p &&& m = p := by
    refine bit_ext _ hand p hp fun i hi => ?_
    have e : ∀ x, bitN x i = x.testBit i := fun x => by
      unfold bitN
      rw [Nat.testBit_eq_decide_div_mod_eq]
      rfl
    rw [e, e, Nat.testBit_and, ← e, ← e]
    cases hb : bitN p i with
    | false => simp
    | true => simp [h i hi hb]
  unfold subm
  simp [key]
noncomputable def Cm (qs : List Rat) (m : Nat) : Nat := Classical.choose (most_ex (qAt qs) (places qs.length m))
theorem Cm_spec (qs : List Rat) (m : Nat) : IsMost (qAt qs) (places qs.length m) (Cm qs m) := Classical.choose_spec (most_ex (qAt qs) (places qs.length m))
theorem cnt_whole_last {f : Nat → Rat} {A B : List Nat} (hB : B ≠ []) (w : Wh (qsum ((A ++ B).map f))) : cnt f 0 A + 1 ≤ cnt f 0 (A ++ B) := by
  rw [cnt_app, Rat.zero_add]
  have := cnt_pos (f := f) (L := B) (s := qsum (A.map f)) hB (by rw [List.map_append, qsum_app] at w; exact w)
  omega
/-- lots within a lot: never more -/
theorem Cm_le {qs : List Rat} {p m : Nat} (hn : qs.length ≤ 8) (hm : m < 2 ^ qs.length) (h : subm p m = true) (p0 : p ≠ 0) (w : Wh (S qs m)) : Cm qs (m - p) + 1 ≤ Cm qs m := by
  obtain ⟨L, pL, eL⟩ := (Cm_spec qs (m - p)).1
  have pm : (L ++ places qs.length p).Perm (places qs.length m) := (pL.append_right _).trans (List.perm_append_comm.trans (sub_perm hn hm h))
  have hne : places qs.length p ≠ [] := places_ne hn (by have := sub_lt h; omega) p0
  have z := cnt_whole_last (f := qAt qs) (A := L) hne (by rw [qsum_perm (pm.map _)]; exact w)
  have := (Cm_spec qs m).2 _ pm
  omega
/-- .. and just as many for one of them that takes a place in -/
theorem Cm_ex {qs : List Rat} {m a : Nat} (hn : qs.length ≤ 8) (hm : m < 2 ^ qs.length) (ha : a ∈ places qs.length m) (w : Wh (S qs m)) : ∃ p, subm p m = true ∧ bitN p a = true ∧ Wh (S qs p) ∧ Cm qs m = Cm qs (m - p) + 1 := by
  obtain ⟨L, pL, eL⟩ := (Cm_spec qs m).1
  have ndm := places_nodup qs.length m
  have ndL : L.Nodup := pL.nodup_iff.mpr ndm
  obtain ⟨X, Z, Y, rfl, hZ, wZ, wX, hc⟩ := lot_of (f := qAt qs) L.length (Nat.le_refl _) (pL.mem_iff.mpr ha) (by rw [qsum_perm (pL.map _)]; exact w)
  have hmem : ∀ i ∈ Z, i ∈ places qs.length m := fun i hi => pL.mem_iff.mp (by simp [hi])
  have ndZ : Z.Nodup := by
    have := (List.nodup_append.mp ndL).1
    exact (List.nodup_append.mp this).2.1
  obtain ⟨p, hp, hb⟩ := mask_of hn ndZ fun i hi => (mem_places.mp (hmem i hi)).1
  have an := (mem_places.mp ha).1
  have p256 : p < 256 := Nat.lt_of_lt_of_le hp (pow8 hn)
  have m256 : m < 256 := Nat.lt_of_lt_of_le hm (pow8 hn)
  have hs : subm p m = true := sub_of_bits p256 m256 fun i hi hbi => (mem_places.mp (hmem i ((hb i hi).mp hbi))).2
  have pZ := places_mask hn ndZ (fun i hi => (mem_places.mp (hmem i hi)).1) hb
  have wp : Wh (S qs p) := by
    unfold S
    rw [qsum_perm (pZ.map _)]
    exact wZ
  refine ⟨p, hs, (hb a (by omega)).mpr hZ, wp, ?_⟩
  have pXY : (X ++ Y).Perm (places qs.length (m - p)) := by
    have q1 : (Z ++ (X ++ Y)).Perm (Z ++ places qs.length (m - p)) := by
      refine List.Perm.trans ?_ (pL.trans ((sub_perm hn hm hs).symm.trans (pZ.append_right _)))
      rw [List.append_assoc]
      exact List.perm_append_comm_assoc Z X Y
    exact (List.perm_append_left_iff Z).mp q1
  have h1 := (Cm_spec qs (m - p)).2 _ pXY
  have h2 := Cm_le hn hm hs (by
    rintro rfl
    have := (hb a (by omega)).mpr hZ
    rw [bit_nil] at this
    cases this) w
  omega
end Mt
set_option Elab.async false
set_option linter.all false
set_option maxRecDepth 100000
set_option maxHeartbeats 2000000
/-! The law's most lots: the def. -/
namespace DL
open PySem PySem.Spec PyProof.Rows L2
/-- ints one behind the other, as keys -/
def kz : Nat → Nat → List Key
  | _, 0 => []
  | lo, k + 1 => .inl (lo : Int) :: kz (lo + 1) k
theorem kz_len : ∀ lo k, (kz lo k).length = k
  | _, 0 => rfl
  | lo, k + 1 => by rw [kz, List.length_cons, kz_len]
theorem kz_snoc : ∀ lo k, kz lo (k + 1) = kz lo k ++ [.inl ((lo + k : Nat) : Int)]
  | lo, 0 => rfl
  | lo, k + 1 => by
    rw [kz, kz_snoc (lo + 1) k, kz, List.cons_append, show lo + 1 + k = lo + (k + 1) by omega]
theorem kAt_kz : ∀ {lo k j : Nat}, j < k → kAt (kz lo k) (.inl ((lo + j : Nat) : Int)) = some j
  | lo, k + 1, 0, _ => by
    unfold kz kAt
    exact if_pos rfl
  | lo, k + 1, j + 1, h => by
    unfold kz kAt
    rw [if_neg (by intro w; injection w with w; omega), show lo + (j + 1) = lo + 1 + j by omega, kAt_kz (by omega)]
    rfl
theorem kAt_new : ∀ {lo k j : Nat}, k ≤ j → kAt (kz lo k) (.inl ((lo + j : Nat) : Int)) = none
  | lo, 0, j, _ => rfl
  | lo, k + 1, 0, h => by omega
  | lo, k + 1, j + 1, h => by
    unfold kz kAt
    rw [if_neg (by intro w; injection w with w; omega), show lo + (j + 1) = lo + 1 + j by omega, kAt_new (by omega)]
    rfl
section
variable {τ : DS} {Q : Out → Prop} {i j : Nat} {p pk pe pz : DS → Option D} {d x : D} {ds : List D} {ks : List Key} {o : Bool} {key : Int}
theorem wp_putD (he : pe τ = some d) (hd : d.imm = true ∨ d.nof = true) (h0 : τ[i]? = some (some (.dk true ks ds))) (hk : pk τ = some (.int key)) (hn : kAt ks (.inl key) = none) (hl : ks.length ≤ 1000) (k : Q (.nx (τ.set i (some (.dk true (ks ++ [.inl key]) (ds ++ [d])))))) : WP (fPutD i pk (eP pe) τ) Q := by
  have hl2 : ks.length < 16777216 := Nat.lt_of_le_of_lt hl (by decide)
  refine ⟨_, ?_, k⟩
  unfold fPutD pVar
  rw [eP_run he hd]
  simp only [Option.bind_some, h0, Option.join_some, hk, D.key?, hn, hl2, if_true]
theorem dget_run (h : p τ = some (.dk o ks ds)) (hk : pk τ = some (.int key)) (ha : kAt ks (.inl key) = some j) (hd : ds[j]? = some d) : pDGet p pk τ = some d := by
  unfold pDGet
  rw [h, hk]
  simp only [Option.bind_some, D.dk?, D.key?, ha, hd]
theorem dget2_run (h : p τ = some (.dk o ks ds)) (hk : pk τ = some (.int key)) (hz : pz τ = some x) (ha : kAt ks (.inl key) = some j) (hd : ds[j]? = some d) : pDGet2 p pk pz τ = some d := by
  unfold pDGet2
  rw [h, hk, hz]
  simp only [Option.bind_some, D.dk?, D.key?, ha, hd]
theorem dget2_none (h : p τ = some (.dk o ks ds)) (hk : pk τ = some (.int key)) (hz : pz τ = some x) (ha : kAt ks (.inl key) = none) : pDGet2 p pk pz τ = some x := by
  unfold pDGet2
  rw [h, hk, hz]
  simp only [Option.bind_some, D.dk?, D.key?, ha]
end
end DL
namespace Mt
open DL Wk PySem L2
def encO : Option Nat → D
  | none => .non
  | some c => .int (c : Int)
noncomputable def Mv (qs : List Rat) (m : Nat) : Option Nat := if Wh (S qs m) then some (Cm qs m) else none
theorem imm_encO (o : Option Nat) : (encO o).imm = true := by cases o <;> rfl
theorem frz_encO (o : Option Nat) : (encO o).frz = encO o := by cases o <;> rfl
theorem is_encO (o : Option Nat) : oIs true (encO o) .non = some (.bl o.isSome) := by cases o <;> rfl
theorem Mv_zero (qs : List Rat) : Mv qs 0 = some 0 := by
  unfold Mv
  rw [S_zero, if_pos (show Wh 0 from rfl)]
  congr 1
  have z := Cm_spec qs 0
  rw [places_zero] at z
  obtain ⟨L, p, e⟩ := z.1
  rw [p.eq_nil] at e
  exact e.symm
theorem places_twl {qs : List Rat} (h : Twl 60 qs) (m : Nat) : Twl 60 ((places qs.length m).map (qAt qs)) := by
  have hp : ∀ i ∈ places qs.length m, i < qs.length := fun i hi => (mem_places.mp hi).1
  refine ⟨fun q hq => ?_, fun q hq => ?_, (S_twl h m).2.2⟩
  · obtain ⟨i, hi, rfl⟩ := List.mem_map.mp hq
    exact h.pos _ (qAt_mem (hp i hi))
  · obtain ⟨i, hi, rfl⟩ := List.mem_map.mp hq
    exact h.tw _ (qAt_mem (hp i hi))
theorem bit_run {n m i : Nat} {pa pb : DS → Option D} {τ : DS} {o : Bool} (hn : n ≤ 8) (hi : i < n) (ha : pa τ = some (.int (m : Int))) (h2 : pVar 2 τ = some (.lst o (pw (n + 1)))) (hb : pb τ = some (.int (i : Int))) : cBl (pOp oEq (pOp oMod (pOp oDiv pa (pOp oIx (pVar 2) pb)) (pC (.int 2))) (pC (.int 1))) τ = some (bitN m i) := by
  obtain ⟨b1, b2⟩ := bit_op (m := m) (i := i) (by omega)
  exact cBl_run (op_run (op_run (op_run ha (op_run h2 hb (pw_get (by omega))) b1) rfl b2) rfl (by rw [oEq_i, bit_dec]))
theorem lc_bits {n m : Nat} {τ : DS} {p : DS → Option D} {F : Nat → D} {o : Bool} (hn : n ≤ 8) (h6 : ∀ x, pVar 6 (τ.set 3 x) = some (.int (m : Int))) (h2 : ∀ x, pVar 2 (τ.set 3 x) = some (.lst o (pw (n + 1)))) (h3 : ∀ x, pVar 3 (τ.set 3 (some x)) = some x) (hp : ∀ i < n, p (τ.set 3 (some (.int (i : Int)))) = some (F i)) :
    lcD (gdN 3) (cBl (pOp oEq (pOp oMod (pOp oDiv (pVar 6) (pOp oIx (pVar 2) (pVar 3))) (pC (.int 2))) (pC (.int 1)))) p τ (rgD 0 n) = some ((places n m).map F) := by
  rw [rg_lotD]
  exact lc_run (fun i : Nat => D.int (i : Int)) (bitN m) F (List.range n) fun i hi => ⟨τ.set 3 (some (.int (i : Int))), rfl, bit_run hn (List.mem_range.mp hi) (h6 _) (h2 _) (h3 _), fun _ => hp i (List.mem_range.mp hi)⟩
theorem and_nat (a b : Nat) : oAnd (.int (a : Int)) (.int (b : Int)) = some (.int ((a &&& b : Nat) : Int)) := by
  show some (D.int (Builtin.bitAnd (a : Int) (b : Int))) = _
  unfold Builtin.bitAnd
  rw [decide_eq_true (show (0 : Int) ≤ (a : Int) by omega), decide_eq_true (show (0 : Int) ≤ (b : Int) by omega)]
  rfl
theorem most_spec {qs : List Rat} (h : Needs qs) : g_law_most_lots_ [.tup (qs.map encQ)] = some (.int (Cm qs (2 ^ qs.length - 1) : Int)) := by
  have hl := h.len
  have hn : qs.length ≤ 8 := hl.2
  have tw := h.twl
  have p8 := pow8 hn
  have p1 : 2 ≤ 2 ^ qs.length := by
    have : 2 ^ 1 ≤ 2 ^ qs.length := Nat.pow_le_pow_right (by decide) hl.1
    simpa using this
  refine g_wp rfl ?_
  unfold b_law_most_lots_
  simp only [startD, List.length_cons, List.length_nil, List.map_cons, List.map_nil, List.replicate_succ, List.replicate_zero, List.cons_append, List.nil_append, List.append_nil, List.set_cons_zero, List.set_cons_succ, Nat.reduceAdd, Nat.reduceSub, N_law_most_lots_]
  refine wp_seq (wp_parP (x := .int (qs.length : Int)) (y := .lst true [.int 1]) (gI_run (call_run (qC_run rfl rfl) (by rw [oLen_t, List.length_map])) rfl) (.inl rfl) rfl (.inr rfl) ?_)
  simp only [startD, List.length_cons, List.length_nil, List.map_cons, List.map_nil, List.replicate_succ, List.replicate_zero, List.cons_append, List.nil_append, List.append_nil, List.set_cons_zero, List.set_cons_succ, Nat.reduceAdd, Nat.reduceSub]
  obtain ⟨x3, ep⟩ := powers_run (d0 := some (.tup (qs.map encQ))) (x := none) (rest := [none, none, none, none, none, none, none, none]) hn
  refine wp_seq (wp_of ((for_eq (rg1_eq (n := qs.length) rfl (by omega))).trans ep) ?_)
  refine wp_seq (wp_parP (x := .dk true [] []) (y := .dk true [.inl 0] [.int 0]) rfl (.inr rfl) rfl (.inr rfl) ?_)
  simp only [startD, List.length_cons, List.length_nil, List.map_cons, List.map_nil, List.replicate_succ, List.replicate_zero, List.cons_append, List.nil_append, List.append_nil, List.set_cons_zero, List.set_cons_succ, Nat.reduceAdd, Nat.reduceSub]
  have pwn : oIx (.lst true (pw (qs.length + 1))) (.int (qs.length : Int)) = some (.int ((2 ^ qs.length : Nat) : Int)) := pw_get (by omega)
  have ec : ∀ i : Nat, D.int (1 + (i : Int)) = .int ((i + 1 : Nat) : Int) := fun i => by rw [Int.add_comm]; rfl
  refine wp_seq (wp_for (ds := rgD 1 (2 ^ qs.length - 1)) (fun i τ => ∃ (x3 x6 : Option D), τ = [some (.tup (qs.map encQ)), some (.int (qs.length : Int)), some (.lst true (pw (qs.length + 1))), x3, some (.dk true (kz 1 i) ((List.range i).map fun j => D.bl (decide (Wh (S qs (j + 1)))))), some (.dk true [.inl 0] [.int 0]), x6, none, none, none, none, none]) ?h2 ⟨x3, none, rfl⟩ ?h3 ?h4)
  case h2 =>
    refine (rg2_eq (a := 1) (b := ((2 ^ qs.length : Nat) : Int)) rfl (op_run rfl rfl pwn) (by omega) (by omega)).trans ?_
    congr 2
    omega
  case h3 =>
    rintro i d _ hd ⟨x3, x6, rfl⟩
    have hi : i < 2 ^ qs.length - 1 := by
      have := (List.getElem?_eq_some_iff.mp hd).1
      rwa [rgD_len] at this
    rw [rgD_get hi] at hd
    cases hd
    refine ⟨_, rfl, ?_⟩
    simp only [startD, List.length_cons, List.length_nil, List.map_cons, List.map_nil, List.replicate_succ, List.replicate_zero, List.cons_append, List.nil_append, List.append_nil, List.set_cons_zero, List.set_cons_succ, Nat.reduceAdd, Nat.reduceSub, ec]
    have lc := lc_bits (n := qs.length) (m := i + 1) (o := true) (p := gImm (pOp oIx (pVar 0) (pVar 3))) (F := fun a => encQ (qAt qs a)) (τ := [some (.tup (qs.map encQ)), some (.int (qs.length : Int)), some (.lst true (pw (qs.length + 1))), none, some (.dk true (kz 1 i) ((List.range i).map fun j => D.bl (decide (Wh (S qs (j + 1)))))), some (.dk true [.inl 0] [.int 0]), some (.int ((i + 1 : Nat) : Int)), none, none, none, none, none]) hn (fun _ => rfl) (fun _ => rfl) (fun _ => rfl) fun a ha => gI_run (op_run rfl rfl (ix_needs ha)) (imm_encQ _)
    have e1 : (places qs.length (i + 1)).map (fun a => encQ (qAt qs a)) = ((places qs.length (i + 1)).map (qAt qs)).map encQ := by rw [List.map_map]; rfl
    rw [e1] at lc
    have ls := lsum_spec (qs_lst ((places qs.length (i + 1)).map (qAt qs))) ((places_twl tw (i + 1)).sm (by decide))
    refine wp_putD (d := .bl (decide (Wh (S qs (i + 1))))) (key := ((1 + i : Nat) : Int)) (gI_run (op_run (op_run (fn_run (qC_run (lc_eq (rg1_eq rfl (by omega)) (by rw [rgD_len]; omega) rfl lc) rfl) (by simp only [D.frzs, D.frz, frzs_encQ]) ls (nof_encQ _)) rfl den_enc) rfl ?_) rfl) (.inl rfl) rfl (by show some (D.int ((i + 1 : Nat) : Int)) = _; rw [Nat.add_comm]) (kAt_new (Nat.le_refl _)) (by rw [kz_len]; omega) ⟨x3, some (.int ((i + 1 : Nat) : Int)), ?_⟩
    · rw [oEq_i, den_one]
      rfl
    · simp only [startD, List.length_cons, List.length_nil, List.map_cons, List.map_nil, List.replicate_succ, List.replicate_zero, List.cons_append, List.nil_append, List.append_nil, List.set_cons_zero, List.set_cons_succ, Nat.reduceAdd, Nat.reduceSub, kz_snoc, List.range_succ, List.map_append]
  case h4 =>
    rintro _ ⟨x3, x6, rfl⟩
    rw [rgD_len]
    show WP _ _
    refine wp_seq (wp_for (ds := rgD 1 (2 ^ qs.length - 1)) (fun i τ => ∃ (x3 x6 x7 x8 x9 x10 : Option D), τ = [some (.tup (qs.map encQ)), some (.int (qs.length : Int)), some (.lst true (pw (qs.length + 1))), x3, some (D.dk true (kz 1 (2 ^ qs.length - 1)) ((List.range (2 ^ qs.length - 1)).map fun j => D.bl (decide (Wh (S qs (j + 1)))))), some (.dk true (kz 0 (i + 1)) ((List.range (i + 1)).map fun j => encO (Mv qs j))), x6, x7, x8, x9, x10, none]) ?h5 ⟨x3, x6, none, none, none, none, ?h6⟩ ?h7 ?h8)
    case h5 =>
      refine (rg2_eq (a := 1) (b := ((2 ^ qs.length : Nat) : Int)) rfl (op_run rfl rfl pwn) (by omega) (by omega)).trans ?_
      congr 2
      omega
    case h6 =>
      have : encO (Mv qs 0) = .int 0 := by rw [Mv_zero]; rfl
      simp [kz, this]
    case h7 =>
      rintro i d _ hd ⟨x3, x6, x7, x8, x9, x10, rfl⟩
      have hi : i < 2 ^ qs.length - 1 := by
        have := (List.getElem?_eq_some_iff.mp hd).1
        rwa [rgD_len] at this
      rw [rgD_get hi] at hd
      cases hd
      obtain ⟨m, hmi⟩ : ∃ m, m = i + 1 := ⟨_, rfl⟩
      have hm : m < 2 ^ qs.length := by omega
      have hm0 : m ≠ 0 := by omega
      refine ⟨_, rfl, ?_⟩
      simp only [startD, List.length_cons, List.length_nil, List.map_cons, List.map_nil, List.replicate_succ, List.replicate_zero, List.cons_append, List.nil_append, List.append_nil, List.set_cons_zero, List.set_cons_succ, Nat.reduceAdd, Nat.reduceSub, ec]
      rw [← hmi]
      obtain ⟨a, r, ea⟩ := List.exists_cons_of_ne_nil (places_ne hn hm hm0)
      have am : a ∈ places qs.length m := by rw [ea]; exact List.mem_cons_self
      have an := (mem_places.mp am).1
      -- the first
      have lc := lc_bits (n := qs.length) (m := m) (o := true) (p := gImm (pVar 3)) (F := fun a : Nat => D.int (a : Int)) (τ := [some (.tup (qs.map encQ)), some (.int (qs.length : Int)), some (.lst true (pw (qs.length + 1))), none, some (D.dk true (kz 1 (2 ^ qs.length - 1)) ((List.range (2 ^ qs.length - 1)).map fun j => D.bl (decide (Wh (S qs (j + 1)))))), some (D.dk true (kz 0 m) ((List.range m).map fun j => encO (Mv qs j))), some (.int (m : Int)), x7, x8, x9, x10, none]) hn (fun _ => rfl) (fun _ => rfl) (fun _ => rfl) fun a ha => rfl
      refine wp_seq (wp_setP (d := .int (a : Int)) (gI_run (op_run (x := .lst true (lotD (places qs.length m))) (lc_eq (rg1_eq rfl (by omega)) (by rw [rgD_len]; omega) rfl lc) rfl (ixl_map (i := 0) (by rw [ea]; rfl))) rfl) (.inl rfl) ?_)
      simp only [startD, List.length_cons, List.length_nil, List.map_cons, List.map_nil, List.replicate_succ, List.replicate_zero, List.cons_append, List.nil_append, List.append_nil, List.set_cons_zero, List.set_cons_succ, Nat.reduceAdd, Nat.reduceSub]
      refine wp_seq (wp_setP (d := .lst true [.non]) rfl (.inr rfl) ?_)
      simp only [startD, List.length_cons, List.length_nil, List.map_cons, List.map_nil, List.replicate_succ, List.replicate_zero, List.cons_append, List.nil_append, List.append_nil, List.set_cons_zero, List.set_cons_succ, Nat.reduceAdd, Nat.reduceSub]
      refine wp_seq (wp_set (eN_imm (d := .int (m : Int)) rfl rfl) ?_)
      simp only [startD, List.length_cons, List.length_nil, List.map_cons, List.map_nil, List.replicate_succ, List.replicate_zero, List.cons_append, List.nil_append, List.append_nil, List.set_cons_zero, List.set_cons_succ, Nat.reduceAdd, Nat.reduceSub]
      -- all parts
      refine wp_seq (wp_whileI (k := m) (fun k τ => ∃ (acc : List Nat), subm k m = true ∧ acc.length + k ≤ m ∧ (∀ x ∈ acc, ∃ p, subm p m = true ∧ p ≠ 0 ∧ Wh (S qs p) ∧ Wh (S qs (m - p)) ∧ x = Cm qs (m - p) + 1) ∧
          (∀ p, subm p m = true → bitN p a = true → Wh (S qs p) → Wh (S qs (m - p)) → k < p → Cm qs (m - p) + 1 ∈ acc) ∧
          τ = [some (.tup (qs.map encQ)), some (.int (qs.length : Int)), some (.lst true (pw (qs.length + 1))), x3, some (D.dk true (kz 1 (2 ^ qs.length - 1)) ((List.range (2 ^ qs.length - 1)).map fun j => D.bl (decide (Wh (S qs (j + 1)))))), some (D.dk true (kz 0 m) ((List.range m).map fun j => encO (Mv qs j))), some (.int (m : Int)), some (.int (a : Int)), some (.lst true (.non :: lotD acc)), some (.int (k : Int)), x10, none])
        ⟨[], sub_self m, by simp, by simp, fun p hp _ _ _ hlt => by have := sub_lt hp; omega, rfl⟩ ?_)
      rintro k _ ⟨acc, hs, hlen, hA, hB, rfl⟩
      refine ⟨decide (0 < k), cBl_run (op_run rfl rfl (by rw [oGt_i]; congr 2; exact decide_eq_decide.mpr (by omega))), fun hb => ?_, fun hb => ?_⟩
      · have k0 : 0 < k := of_decide_eq_true hb
        have km := sub_lt hs
        have m256 : m < 256 := by omega
        have hsub : (k : Int) - 1 = ((k - 1 : Nat) : Int) := by omega
        have hnext : (k - 1) &&& m < k := by
          have := Nat.and_le_left (n := k - 1) (m := m)
          omega
        have hmk : (m : Int) - (k : Int) = ((0 + (m - k) : Nat) : Int) := by omega
        -- going on
        have go : ∀ (Q2 : Out → Prop) (acc' : List Nat), acc'.length ≤ acc.length + 1 → (∀ x ∈ acc', ∃ p, subm p m = true ∧ p ≠ 0 ∧ Wh (S qs p) ∧ Wh (S qs (m - p)) ∧ x = Cm qs (m - p) + 1) → (∀ x ∈ acc, x ∈ acc') →
            (bitN k a = true → Wh (S qs k) → Wh (S qs (m - k)) → Cm qs (m - k) + 1 ∈ acc') →
            WP (fSet 9 (eP (gImm (pOp oAnd (pOp oSub (pVar 9) (pC (.int 1))) (pVar 6)))) [some (.tup (qs.map encQ)), some (.int (qs.length : Int)), some (.lst true (pw (qs.length + 1))), x3, some (D.dk true (kz 1 (2 ^ qs.length - 1)) ((List.range (2 ^ qs.length - 1)).map fun j => D.bl (decide (Wh (S qs (j + 1)))))), some (D.dk true (kz 0 m) ((List.range m).map fun j => encO (Mv qs j))), some (.int (m : Int)), some (.int (a : Int)), some (.lst true (.non :: lotD acc')), some (.int (k : Int)), x10, none])
              (Lp (fun τ' => ∃ k' < k, ∃ (acc : List Nat), subm k' m = true ∧ acc.length + k' ≤ m ∧ (∀ x ∈ acc, ∃ p, subm p m = true ∧ p ≠ 0 ∧ Wh (S qs p) ∧ Wh (S qs (m - p)) ∧ x = Cm qs (m - p) + 1) ∧
                (∀ p, subm p m = true → bitN p a = true → Wh (S qs p) → Wh (S qs (m - p)) → k' < p → Cm qs (m - p) + 1 ∈ acc) ∧
                τ' = [some (.tup (qs.map encQ)), some (.int (qs.length : Int)), some (.lst true (pw (qs.length + 1))), x3, some (D.dk true (kz 1 (2 ^ qs.length - 1)) ((List.range (2 ^ qs.length - 1)).map fun j => D.bl (decide (Wh (S qs (j + 1)))))), some (D.dk true (kz 0 m) ((List.range m).map fun j => encO (Mv qs j))), some (.int (m : Int)), some (.int (a : Int)), some (.lst true (.non :: lotD acc)), some (.int (k' : Int)), x10, none])
              Q2) := by
          intro Q2 acc' h1 h2 h3 h4
          refine wp_setP (d := .int (((k - 1) &&& m : Nat) : Int)) (gI_run (op_run (op_run rfl rfl oSub_i) rfl ?_) rfl) (.inl rfl) ⟨(k - 1) &&& m, hnext, acc', sub_and _ _, by omega, h2, ?_, rfl⟩
          · rw [hsub]
            exact and_nat _ _
          · intro p q1 q2 q3 q4 q5
            rcases Nat.lt_trichotomy p k with z | z | z
            · have := sub_next m256 hs k0 q1 z
              omega
            · subst z
              exact h4 q2 q3 q4
            · exact h3 _ (hB p q1 q2 q3 q4 z)
        have hbit : cBl (pOp oEq (pOp oMod (pOp oDiv (pVar 9) (pOp oIx (pVar 2) (pVar 7))) (pC (.int 2))) (pC (.int 1))) [some (.tup (qs.map encQ)), some (.int (qs.length : Int)), some (.lst true (pw (qs.length + 1))), x3, some (D.dk true (kz 1 (2 ^ qs.length - 1)) ((List.range (2 ^ qs.length - 1)).map fun j => D.bl (decide (Wh (S qs (j + 1)))))), some (D.dk true (kz 0 m) ((List.range m).map fun j => encO (Mv qs j))), some (.int (m : Int)), some (.int (a : Int)), some (.lst true (.non :: lotD acc)), some (.int (k : Int)), x10, none] = some (bitN k a) := bit_run (o := true) hn an rfl rfl rfl
        have hwh : pDGet (pVar 4) (pVar 9) [some (.tup (qs.map encQ)), some (.int (qs.length : Int)), some (.lst true (pw (qs.length + 1))), x3, some (D.dk true (kz 1 (2 ^ qs.length - 1)) ((List.range (2 ^ qs.length - 1)).map fun j => D.bl (decide (Wh (S qs (j + 1)))))), some (D.dk true (kz 0 m) ((List.range m).map fun j => encO (Mv qs j))), some (.int (m : Int)), some (.int (a : Int)), some (.lst true (.non :: lotD acc)), some (.int (k : Int)), x10, none] = some (.bl (decide (Wh (S qs k)))) := by
          refine dget_run (key := ((1 + (k - 1) : Nat) : Int)) (j := k - 1) rfl (by show some (D.int (k : Int)) = _; congr 2; omega) (kAt_kz (by omega)) ?_
          rw [List.getElem?_map, List.getElem?_range (by omega), Option.map_some, Nat.sub_add_cancel k0]
        have hval : ((List.range m).map fun j => encO (Mv qs j))[m - k]? = some (encO (Mv qs (m - k))) := by
          rw [List.getElem?_map, List.getElem?_range (by omega)]
          rfl
        have hge : pDGet1 (pVar 5) (pOp oSub (pVar 6) (pVar 9)) [some (.tup (qs.map encQ)), some (.int (qs.length : Int)), some (.lst true (pw (qs.length + 1))), x3, some (D.dk true (kz 1 (2 ^ qs.length - 1)) ((List.range (2 ^ qs.length - 1)).map fun j => D.bl (decide (Wh (S qs (j + 1)))))), some (D.dk true (kz 0 m) ((List.range m).map fun j => encO (Mv qs j))), some (.int (m : Int)), some (.int (a : Int)), some (.lst true (.non :: lotD acc)), some (.int (k : Int)), x10, none] = some (encO (Mv qs (m - k))) :=
          dget2_run (key := ((0 + (m - k) : Nat) : Int)) (j := m - k) rfl (op_run rfl rfl (by rw [oSub_i, hmk])) rfl (kAt_kz (by omega)) hval
        by_cases hc : bitN k a = true ∧ Wh (S qs k) ∧ Wh (S qs (m - k))
        · obtain ⟨c1, c2, c3⟩ := hc
          have hM : Mv qs (m - k) = some (Cm qs (m - k)) := by
            unfold Mv
            rw [if_pos c3]
          rw [hM] at hge hval
          rw [decide_eq_true c2] at hwh
          rw [c1] at hbit
          refine wp_seq (wp_yes (cAnd_yes hbit (cAnd_yes (cTru_bl hwh) (cBl_run (op_run hge rfl (is_encO _))))) ?_)
          refine wp_appP (ds := .non :: lotD acc) (d := .int ((Cm qs (m - k) + 1 : Nat) : Int)) rfl (gI_run (op_run (x := .int (Cm qs (m - k) : Int)) (dget_run (key := ((0 + (m - k) : Nat) : Int)) (j := m - k) rfl (op_run rfl rfl (by rw [oSub_i, hmk])) (kAt_kz (by omega)) hval) rfl oAdd_i) rfl) (.inl rfl) (Nat.lt_of_le_of_lt (m := 1000) (by rw [List.length_cons, lotD_len]; omega) (by decide)) ?_
          have e : D.non :: lotD acc ++ [D.int ((Cm qs (m - k) + 1 : Nat) : Int)] = .non :: lotD (acc ++ [Cm qs (m - k) + 1]) := by rw [lotD_app]; rfl
          rw [e]
          exact go _ (acc ++ [Cm qs (m - k) + 1]) (by simp) (fun x hx => by
            rcases List.mem_append.mp hx with hx | hx
            · exact hA x hx
            · exact ⟨k, hs, by omega, c2, c3, List.mem_singleton.mp hx⟩) (fun x hx => List.mem_append_left _ hx) (fun _ _ _ => by simp)
        · have cf : cAnd (cBl (pOp oEq (pOp oMod (pOp oDiv (pVar 9) (pOp oIx (pVar 2) (pVar 7))) (pC (.int 2))) (pC (.int 1)))) (cAnd (cTru (pDGet (pVar 4) (pVar 9))) (cBl (pOp (oIs true) (pDGet1 (pVar 5) (pOp oSub (pVar 6) (pVar 9))) (pC .non)))) [some (.tup (qs.map encQ)), some (.int (qs.length : Int)), some (.lst true (pw (qs.length + 1))), x3, some (D.dk true (kz 1 (2 ^ qs.length - 1)) ((List.range (2 ^ qs.length - 1)).map fun j => D.bl (decide (Wh (S qs (j + 1)))))), some (D.dk true (kz 0 m) ((List.range m).map fun j => encO (Mv qs j))), some (.int (m : Int)), some (.int (a : Int)), some (.lst true (.non :: lotD acc)), some (.int (k : Int)), x10, none] = some false := by
            cases c1 : bitN k a with
            | false => rw [c1] at hbit; exact cAnd_no hbit
            | true =>
              rw [c1] at hbit
              refine cAnd_yes hbit ?_
              by_cases c2 : Wh (S qs k)
              · rw [decide_eq_true c2] at hwh
                refine cAnd_yes (cTru_bl hwh) ?_
                have c3 : ¬ Wh (S qs (m - k)) := fun c3 => hc ⟨c1, c2, c3⟩
                have hM : Mv qs (m - k) = none := by
                  unfold Mv
                  rw [if_neg c3]
                rw [hM] at hge
                exact cBl_run (op_run hge rfl (is_encO _))
              · rw [decide_eq_false c2] at hwh
                exact cAnd_no (cTru_bl hwh)
          refine wp_seq (wp_no cf (wp_nil ?_))
          exact go _ acc (by omega) hA (fun x hx => hx) (fun c1 c2 c3 => absurd ⟨c1, c2, c3⟩ hc)
      · have k0 : k = 0 := by have := of_decide_eq_false hb; omega
        subst k0
        have fz : (D.lst true (.non :: lotD acc)).frz = .lst false (.non :: lotD acc) := by simp only [D.frz, D.frzs, frzs_lotD]
        refine wp_frz rfl fz ?_
        simp only [startD, List.length_cons, List.length_nil, List.map_cons, List.map_nil, List.replicate_succ, List.replicate_zero, List.cons_append, List.nil_append, List.append_nil, List.set_cons_zero, List.set_cons_succ, Nat.reduceAdd, Nat.reduceSub]
        have im : D.imms (.non :: lotD acc) = true := by simp only [D.imms, D.imm, imms_lotD, Bool.and_self]
        have ex : (.non :: lotD acc : List D) = ((none :: acc.map some).map encO) := by
          rw [List.map_cons, List.map_map]
          rfl
        have lc2 := lc_run (g := gdN 11) (c := cBl (pOp (oIs true) (pVar 11) (pC .non))) (p := gImm (pVar 11)) (τ := [some (.tup (qs.map encQ)), some (.int (qs.length : Int)), some (.lst true (pw (qs.length + 1))), x3, some (D.dk true (kz 1 (2 ^ qs.length - 1)) ((List.range (2 ^ qs.length - 1)).map fun j => D.bl (decide (Wh (S qs (j + 1)))))), some (D.dk true (kz 0 m) ((List.range m).map fun j => encO (Mv qs j))), some (.int (m : Int)), some (.int (a : Int)), some (.lst false (.non :: lotD acc)), some (.int ((0 : Nat) : Int)), x10, none]) encO (fun o => o.isSome) encO (none :: acc.map some) fun o _ => ⟨_, rfl, cBl_run (op_run rfl rfl (is_encO o)), fun _ => gI_run rfl (imm_encO o)⟩
        rw [← ex] at lc2
        have ef : ((none :: acc.map some).filter (fun o : Option Nat => o.isSome)).map encO = lotD acc := by
          rw [List.filter_cons_of_neg (by simp), List.filter_eq_self.mpr (by simp), List.map_map]
          rfl
        rw [ef] at lc2
        refine wp_seq (wp_setP (d := .lst true (lotD acc)) (lc_eq (iSeq_lst (gI_run rfl (by simp only [D.imm, im, Bool.not_false, Bool.and_self])) im) (Nat.le_trans (m := 1000) (by rw [List.length_cons, lotD_len]; omega) (by decide)) rfl lc2) (.inr (nof_lotD _)) ?_)
        simp only [startD, List.length_cons, List.length_nil, List.map_cons, List.map_nil, List.replicate_succ, List.replicate_zero, List.cons_append, List.nil_append, List.append_nil, List.set_cons_zero, List.set_cons_succ, Nat.reduceAdd, Nat.reduceSub]
        refine wp_frz rfl (d' := .lst false (lotD acc)) (by simp only [D.frz, frzs_lotD]) ?_
        simp only [startD, List.length_cons, List.length_nil, List.map_cons, List.map_nil, List.replicate_succ, List.replicate_zero, List.cons_append, List.nil_append, List.append_nil, List.set_cons_zero, List.set_cons_succ, Nat.reduceAdd, Nat.reduceSub]
        have hne := (ie_lots (o := false) (o' := true) (xs := acc) (ys := [])).2
        have hval : pIf (cBl (pOp oNe (pVar 10) (pLst qNil))) (pCall oMaxL (qCons (pVar 10) qNil)) (pC .non) [some (.tup (qs.map encQ)), some (.int (qs.length : Int)), some (.lst true (pw (qs.length + 1))), x3, some (D.dk true (kz 1 (2 ^ qs.length - 1)) ((List.range (2 ^ qs.length - 1)).map fun j => D.bl (decide (Wh (S qs (j + 1)))))), some (D.dk true (kz 0 m) ((List.range m).map fun j => encO (Mv qs j))), some (.int (m : Int)), some (.int (a : Int)), some (.lst false (.non :: lotD acc)), some (.int ((0 : Nat) : Int)), some (.lst false (lotD acc)), none] = some (encO (Mv qs m)) := by
          by_cases w : Wh (S qs m)
          · -- whole
            obtain ⟨p, s1, s2, s3, s4⟩ := Cm_ex hn hm am w
            have p0 : 0 < p := by
              rcases Nat.eq_zero_or_pos p with z | z
              · rw [z, bit_nil] at s2; cases s2
              · exact z
            have wmp : Wh (S qs (m - p)) := by
              have e := sub_S hn hm s1
              have e2 : S qs (m - p) = S qs m - S qs p := by grind
              rw [e2]
              exact w.sub s3
            have hin := hB p s1 s2 s3 wmp p0
            have ne : acc ≠ [] := List.ne_nil_of_mem hin
            rw [decide_eq_false ne] at hne
            have hM : Mv qs m = some (Cm qs m) := by
              unfold Mv
              rw [if_pos w]
            refine pIf_yes (cBl_run (op_run rfl rfl hne)) (call_run (qC_run rfl rfl) ?_)
            rw [hM]
            have hi2 : D.ints? (lotD acc) = some (acc.map fun i : Nat => (i : Int)) := by
              rw [lotD_int]
              exact ints_map _
            have hemp : (acc.map fun i : Nat => (i : Int)).isEmpty = false := by
              cases acc with
              | nil => exact absurd rfl ne
              | cons _ _ => rfl
            show (D.ints? (lotD acc)).bind _ = _
            rw [hi2, Option.bind_some, hemp, if_neg (by decide)]
            show some (D.int _) = some (D.int _)
            congr 2
            have m1 := mxL_le (is := acc.map fun i : Nat => (i : Int)) (i := ((Cm qs (m - p) + 1 : Nat) : Int)) (List.mem_map.mpr ⟨_, hin, rfl⟩)
            have m2 := mxL_mem (is := acc.map fun i : Nat => (i : Int)) (by intro z; rw [List.map_eq_nil_iff] at z; exact ne z)
            obtain ⟨x, hx, ex⟩ := List.mem_map.mp m2
            obtain ⟨p', t1, t2, t3, t4, rfl⟩ := hA x hx
            have := Cm_le hn hm t1 t2 w
            omega
          · have ne : acc = [] := by
              rcases List.eq_nil_or_concat acc with z | ⟨b, x, z⟩
              · exact z
              · obtain ⟨p', t1, t2, t3, t4, _⟩ := hA x (by rw [z]; simp)
                have e := sub_S hn hm t1
                rw [e] at w
                exact absurd (t3.add t4) w
            rw [decide_eq_true ne] at hne
            have hM : Mv qs m = none := by
              unfold Mv
              rw [if_neg w]
            rw [hM]
            exact pIf_no (cBl_run (op_run rfl rfl hne)) rfl
        refine wp_putD (d := encO (Mv qs m)) (key := ((0 + m : Nat) : Int)) (gI_run hval (imm_encO _)) (.inl (imm_encO _)) rfl (by show some (D.int (m : Int)) = _; congr 2; omega) (kAt_new (Nat.le_refl _)) (by rw [kz_len]; omega) ⟨x3, some (.int (m : Int)), some (.int (a : Int)), some (.lst false (.non :: lotD acc)), some (.int ((0 : Nat) : Int)), some (.lst false (lotD acc)), ?_⟩
        have g1 : kz 0 (m + 1) = kz 0 m ++ [.inl ((0 + m : Nat) : Int)] := kz_snoc 0 m
        have g2 : (List.range (m + 1)).map (fun j => encO (Mv qs j)) = (List.range m).map (fun j => encO (Mv qs j)) ++ [encO (Mv qs m)] := by
          rw [List.range_succ, List.map_append]
          rfl
        simp only [startD, List.length_cons, List.length_nil, List.map_cons, List.map_nil, List.replicate_succ, List.replicate_zero, List.cons_append, List.nil_append, List.append_nil, List.set_cons_zero, List.set_cons_succ, Nat.reduceAdd, Nat.reduceSub, g1, g2]
    case h8 =>
      rintro _ ⟨x3, x6, x7, x8, x9, x10, rfl⟩
      rw [rgD_len, Nat.sub_add_cancel (by omega)]
      show WP _ _
      have hw : Mv qs (2 ^ qs.length - 1) = some (Cm qs (2 ^ qs.length - 1)) := by
        unfold Mv
        rw [S_full hn, if_pos h.wh]
      refine wp_retP (d := .int (Cm qs (2 ^ qs.length - 1) : Int)) (gI_run (dget_run (key := ((0 + (2 ^ qs.length - 1) : Nat) : Int)) (j := 2 ^ qs.length - 1) rfl (op_run (op_run rfl rfl pwn) rfl (by rw [oSub_i]; congr 2; omega)) (kAt_kz (by omega)) ?_) rfl) (.inl rfl) ⟨_, rfl⟩
      rw [List.getElem?_map, List.getElem?_range (by omega), Option.map_some, hw]
      rfl
end Mt
set_option Elab.async false
set_option linter.all false
set_option maxRecDepth 100000
set_option maxHeartbeats 2000000
/-! The law's look at pairs. -/
namespace DL
open PySem PySem.Spec PyProof.Rows L2
theorem lset_run {p : DS → Option D} {τ : DS} {o : Bool} {ds : List D} {r : List (List Int)} (h : p τ = some (.lst o ds)) (hs : D.sset ds = some r) : pLset p τ = some (.int (r.length : Nat)) := by
  unfold pLset
  rw [h]
  show (D.sset ds).bind _ = _
  rw [hs]
  rfl
theorem pCh_run {o o' : D → D → Option D} {pa pb pc : DS → Option D} {τ : DS} {x y z d : D} (h1 : pa τ = some x) (h2 : pb τ = some y) (h3 : pc τ = some z) (ho : o x y = some (.bl true)) (ho2 : o' y z = some d) : pCh o o' pa pb pc τ = some d := by
  unfold pCh
  rw [h1, h2]
  simp only [Option.bind_some, ho, h3, ho2, if_true]
theorem iEn_run {p : DS → Option D} {τ : DS} {d : D} {ds : List D} (h : p τ = some d) (hi : d.items = some ds) : iEn (qCons p qNil) τ = some (enD ds) := by
  unfold iEn qCons qNil
  rw [h]
  simp [hi]
theorem enD_map {α : Type} {f : α → D} {l : List α} : enD (l.map f) = (l.zipIdx).map fun q => D.tup [.int (q.2 : Nat), f q.1] := by
  unfold enD
  refine List.ext_getElem (by simp) fun i h1 h2 => ?_
  simp
theorem items_t {ds : List D} (h : D.imms ds = true) : (D.tup ds).items = some ds := by simp [D.items, D.seq?, h]
theorem items_l {o : Bool} {ds : List D} (h : D.imms ds = true) : (D.lst o ds).items = some ds := by simp [D.items, D.seq?, h]
end DL
namespace Mt
open DL Wk PySem L2
theorem pl_encT (t : Tri) : (encT t).pl = true := by simp [encT, D.pl, D.pls, pl_encQ]
theorem dep_encT (t : Tri) : (encT t).py.depth ≤ 60 := by simp [encT, encQ, D.py, D.pys, PyData.depth, PyData.depthAll]
theorem inj_encT (a b : Tri) (h : (encT a).py = (encT b).py) : a = b := py_encT.mp h
theorem cut2 (t : Tri) : oCut (encT t) none (some 2) = some (dRow (row2 t)) := by
  have : D.imms [.int (t.1 : Int), .int (t.2.1 : Int), encQ t.2.2] = true := imm_encT t
  unfold encT
  simp only [oCut, this, if_true]
  rfl
theorem oEq_nat (a b : Nat) : oEq (.int (a : Int)) (.int (b : Int)) = some (.bl (a == b)) := by
  rw [oEq_i]
  by_cases h : a = b
  · subst h
    simp
  · rw [decide_eq_false (by omega)]
    simp [h]
theorem wsum_twl {c : Tri → Bool} {ts : List Tri} {B : Nat} (h : ∀ t ∈ ts, 0 < t.2.2 ∧ Tw t.2.2) (hB : wsum c ts ≤ (B : Rat)) : Twl B ((ts.filter c).map (·.2.2)) := by
  refine ⟨fun q hq => ?_, fun q hq => ?_, hB⟩
  · obtain ⟨t, ht, rfl⟩ := List.mem_map.mp hq
    have := (h t (List.mem_filter.mp ht).1).1
    grind
  · obtain ⟨t, ht, rfl⟩ := List.mem_map.mp hq
    exact (h t (List.mem_filter.mp ht).1).2
theorem lare_spec {qs : List Rat} {N : Nat} {lots : List (List Nat)} {ts : List Tri} (h : Needs qs) (h24 : N ≤ 24) (ht : Told qs N lots ts) :
    g_law_are_pairs_ [.tup (qs.map encQ), .int (N : Int), .tup (ts.map encT)] = some (.bl true) := by
  have h8 := h.len
  have tw := h.twl
  have it := imms_map imm_encT ts
  have hp := ht.prs
  have l32 : ts.length ≤ 32 := by have := ht.num; omega
  have hpt : ∀ t ∈ ts, 0 < t.2.2 ∧ Tw t.2.2 := fun t h => ⟨(hp.pos t h).1, (hp.pos t h).2.1⟩
  refine g_wp rfl ?_
  unfold b_law_are_pairs_
  simp only [startD, List.length_cons, List.length_nil, List.map_cons, List.map_nil, List.replicate_succ, List.replicate_zero, List.cons_append, List.nil_append, List.append_nil, List.set_cons_zero, List.set_cons_succ, Nat.reduceAdd, Nat.reduceSub, N_law_are_pairs_]
  have so : oSorted [.tup (ts.map encT)] = some (.lst true (ts.map encT)) := by
    have z := oSorted_t (srt_tris ts)
    rw [sort_id ht.srt] at z
    exact z
  have q1 : oNe (.lst true (ts.map encT)) (.lst true (ts.map encT)) = some (.bl false) := by
    rw [(oEq_lsts pl_encT dep_encT inj_encT).2]
    simp
  have er : (ts.map fun t => dRow (row2 t)) = (ts.map row2).map dRow := by rw [List.map_map]; rfl
  have sst := sset_rows (N := N) (n := qs.length) (by omega) (by omega) (by omega) (fun t ht => ⟨(hp.pos t ht).2.2.2.1, (hp.pos t ht).2.2.2.2⟩) hp.nd ht.srt
  have lc0 : lcD (gdN 6) cYes (pCut (pVar 6) (fun _ => some none) (poS (pC (.int 2)))) [some (.tup (qs.map encQ)), some (.int (N : Int)), some (.tup (ts.map encT)), none, none, none, none, none, none, none] (ts.map encT) = some (ts.map fun t => dRow (row2 t)) := lc_all encT (fun t => dRow (row2 t)) ts fun t ht => ⟨_, rfl, cut2 t⟩
  have seq2 : ∀ x3 x4 x5 : Option D, ∀ x7 x8 x9 : Option D, iSeq (gImm (pVar 2)) [some (.tup (qs.map encQ)), some (.int (N : Int)), some (.tup (ts.map encT)), x3, x4, x5, none, x7, x8, x9] = some (ts.map encT) := fun _ _ _ _ _ _ => iSeq_tup (gI_run rfl (by simp only [D.imm, it])) it
  have e0 : pLc (iSeq (gImm (pVar 2))) (gdN 6) cYes (pCut (pVar 6) (fun _ => some none) (poS (pC (.int 2)))) [6] [some (.tup (qs.map encQ)), some (.int (N : Int)), some (.tup (ts.map encT)), none, none, none, none, none, none, none] = some (.lst true ((ts.map row2).map dRow)) := by
    rw [← er]
    exact lc_eq (seq2 _ _ _ _ _ _) (Nat.le_trans (m := 1000) (by rw [List.length_map]; omega) (by decide)) rfl lc0
  refine wp_seq (wp_no (cOr_no (cBl_run (op_run (call_run rfl (oList_t it)) (call_run rfl so) q1)) (cBl_run (op_run (lset_run e0 sst) (call_run rfl oLen_t) (by rw [oLt_i, List.length_map, List.length_map, decide_eq_false (by omega)])))) (wp_nil ?_))
  show WP _ _
  have one1 : pTup (qCons (pC (.int 1)) (qCons (pC (.int 1)) qNil)) = fun _ => some (encQ 1) := rfl
  have ne1 : oNe (encQ 1) (encQ 1) = some (.bl false) := by rw [eq_encQ.2]; simp
  -- parts
  refine wp_seq (wp_for (ds := rgD 0 N) (fun i τ => ∃ x3, τ = [some (.tup (qs.map encQ)), some (.int (N : Int)), some (.tup (ts.map encT)), x3, none, none, none, none, none, none]) (rg1_eq rfl (by omega)) ⟨none, rfl⟩ ?h3 ?h4)
  case h3 =>
    rintro i d _ hd ⟨x3, rfl⟩
    have hi : i < N := by
      have := (List.getElem?_eq_some_iff.mp hd).1
      rwa [rgD_len] at this
    rw [rgD_get hi, Int.zero_add] at hd
    cases hd
    refine ⟨_, rfl, ?_⟩
    simp only [startD, List.length_cons, List.length_nil, List.map_cons, List.map_nil, List.replicate_succ, List.replicate_zero, List.cons_append, List.nil_append, List.append_nil, List.set_cons_zero, List.set_cons_succ, Nat.reduceAdd, Nat.reduceSub]
    have lc := lc_run (g := gdTup 3 (gdCons (gdN 7) (gdCons (gdN 4) (gdCons (gdN 8) gdNil)))) (c := cBl (pOp oEq (pVar 7) (pVar 3))) (p := gImm (pVar 8)) (τ := [some (.tup (qs.map encQ)), some (.int (N : Int)), some (.tup (ts.map encT)), some (.int (i : Int)), none, none, none, none, none, none]) encT (fun t => t.1 == i) (fun t => encQ t.2.2) ts fun t _ => ⟨_, rfl, cBl_run (op_run rfl rfl (oEq_nat _ _)), fun _ => gI_run rfl (imm_encQ _)⟩
    have e1 : (ts.filter fun t => t.1 == i).map (fun t => encQ t.2.2) = ((ts.filter fun t => t.1 == i).map (·.2.2)).map encQ := by rw [List.map_map]; rfl
    rw [e1] at lc
    have hps := hp.ps i hi
    have ls := lsum_spec (qs_lst ((ts.filter fun t => t.1 == i).map (·.2.2))) ((wsum_twl (B := 60) hpt (by unfold psum at hps; rw [hps]; decide)).sm (by decide))
    have ev : qsum ((ts.filter fun t => t.1 == i).map (·.2.2)) = 1 := hps
    rw [ev] at ls
    refine wp_no (cBl_run (op_run (fn_run (qC_run (lc_eq (seq2 _ _ _ _ _ _) (Nat.le_trans (m := 1000) (by rw [List.length_map]; omega) (by decide)) rfl lc) rfl) (by simp only [D.frzs, D.frz, frzs_encQ]) ls (nof_encQ _)) (by rw [one1]) ne1)) (wp_nil ⟨some (.int (i : Int)), rfl⟩)
  case h4 =>
    rintro _ ⟨x3, rfl⟩
    show WP _ _
    -- places
    refine wp_seq (wp_for (ds := enD (qs.map encQ)) (fun i τ => ∃ x4 x5, τ = [some (.tup (qs.map encQ)), some (.int (N : Int)), some (.tup (ts.map encT)), x3, x4, x5, none, none, none, none]) (iEn_run (gI_run rfl (by simp only [D.imm, imms_encQ])) (items_t (imms_encQ qs))) ⟨none, none, rfl⟩ ?g3 ?g4)
    case g3 =>
      rintro i d _ hd ⟨x4, x5, rfl⟩
      have hi : i < qs.length := by
        have := (List.getElem?_eq_some_iff.mp hd).1
        simpa [enD] using this
      have hde : d = .tup [.int (i : Int), encQ (qAt qs i)] := by
        unfold enD at hd
        rw [List.getElem?_mapIdx, List.getElem?_map] at hd
        have e : qs[i]? = some (qAt qs i) := by simp [qAt, hi]
        rw [e] at hd
        cases hd
        rfl
      subst hde
      refine ⟨[some (.tup (qs.map encQ)), some (.int (N : Int)), some (.tup (ts.map encT)), x3, some (.int (i : Int)), some (encQ (qAt qs i)), none, none, none, none], rfl, ?_⟩
      have lc := lc_run (g := gdTup 3 (gdCons (gdN 7) (gdCons (gdN 9) (gdCons (gdN 8) gdNil)))) (c := cBl (pOp oEq (pVar 9) (pVar 4))) (p := gImm (pVar 8)) (τ := [some (.tup (qs.map encQ)), some (.int (N : Int)), some (.tup (ts.map encT)), x3, some (.int (i : Int)), some (encQ (qAt qs i)), none, none, none, none]) encT (fun t => t.2.1 == i) (fun t => encQ t.2.2) ts fun t _ => ⟨_, rfl, cBl_run (op_run rfl rfl (oEq_nat _ _)), fun _ => gI_run rfl (imm_encQ _)⟩
      have e1 : (ts.filter fun t => t.2.1 == i).map (fun t => encQ t.2.2) = ((ts.filter fun t => t.2.1 == i).map (·.2.2)).map encQ := by rw [List.map_map]; rfl
      rw [e1] at lc
      have hps := hp.ls i hi
      have le60 := Rat.le_trans (qsum_mem_le tw.pos (qAt_mem hi)) h.le
      have ls := lsum_spec (qs_lst ((ts.filter fun t => t.2.1 == i).map (·.2.2))) ((wsum_twl (B := 60) hpt (by unfold lsum at hps; rw [hps]; exact le60)).sm (by decide))
      have ev : qsum ((ts.filter fun t => t.2.1 == i).map (·.2.2)) = qAt qs i := hps
      rw [ev] at ls
      have ne2 : oNe (encQ (qAt qs i)) (encQ (qAt qs i)) = some (.bl false) := by rw [eq_encQ.2]; simp
      refine wp_no (cBl_run (op_run (fn_run (qC_run (lc_eq (seq2 _ _ _ _ _ _) (Nat.le_trans (m := 1000) (by rw [List.length_map]; omega) (by decide)) rfl lc) rfl) (by simp only [D.frzs, D.frz, frzs_encQ]) ls (nof_encQ _)) rfl ne2)) (wp_nil ⟨some (.int (i : Int)), some (encQ (qAt qs i)), rfl⟩)
    case g4 =>
      rintro _ ⟨x4, x5, rfl⟩
      show WP _ _
      have lc := lc_bl (g := gdTup 3 (gdCons (gdN 3) (gdCons (gdN 4) (gdCons (gdN 8) gdNil)))) (c := cYes) (p := gImm (pAnd (pOp oGt (pOp oIx (pVar 8) (pC (.int 0))) (pC (.int 0))) (pCh oLe oLt (pC (.int 0)) (pVar 3) (pVar 1)))) (τ := [some (.tup (qs.map encQ)), some (.int (N : Int)), some (.tup (ts.map encT)), none, none, x5, none, none, none, none]) encT true ts fun t htm => ⟨_, rfl, by
        obtain ⟨p1, _, _, p4, _⟩ := hp.pos t htm
        have num : 0 < t.2.2.num := by
          have := (Rat.lt_iff 0 t.2.2).mp p1
          simpa using this
        have i0 : oIx (encQ t.2.2) (.int 0) = some (.int t.2.2.num) := ix0
        exact gI_run (pAnd_yes (op_run (op_run rfl rfl i0) rfl (by rw [oGt_i, decide_eq_true num])) (pCh_run rfl rfl rfl (by rw [oLe_i, decide_eq_true (by omega)]) (by rw [oLt_i, decide_eq_true (by omega)]))) rfl⟩
      exact wp_retP (d := .bl true) (gI_run (call_run (qC_run (lc_eq (seq2 _ _ _ _ _ _) (Nat.le_trans (m := 1000) (by rw [List.length_map]; omega) (by decide)) rfl lc) rfl) (oAll_rep _)) rfl) (.inl rfl) ⟨_, rfl⟩
end Mt
set_option Elab.async false
set_option linter.all false
set_option maxRecDepth 100000
set_option maxHeartbeats 2000000
/-! For the law's whole look: greater sums, dicts, places called otherwise. -/
namespace Mt
open DL Wk PySem L2
/-! ### greater fractions -/
def Smb (q : Rat) : Prop := q.num.natAbs < 2 ^ 1000 ∧ q.den < 2 ^ 1000
section
variable {p q : Rat}
theorem Smb.d (h : Smb q) : (q.den : Int).natAbs < 2 ^ 1000 := by
  rw [Int.natAbs_natCast]
  exact h.2
theorem smb_cW (hp : Smb p) (hq : Smb q) : cW p.num q.den = true ∧ cW p.den q.den = true :=
  ⟨cW_of hp.1 hq.d (by decide) (by decide) (by decide), cW_of hp.d hq.d (by decide) (by decide) (by decide)⟩
theorem lplus_big (hp : Smb p) (hq : Smb q) : g_law_plus_ [encQ p, encQ q] = some (encQ (p + q)) := by
  have h1 := smb_cW hp hq
  have h2 := smb_cW hq hp
  have m := pow_mono (show 1000 + 1000 ≤ 8000 by decide)
  have hd : ((p.den : Int) * q.den).natAbs < 2 ^ 8000 := by
    have h := mul_lt_pow hp.2 hq.2
    rw [Int.natAbs_mul, Int.natAbs_natCast, Int.natAbs_natCast]
    exact Nat.lt_of_lt_of_le h m
  have hn : (p.num * q.den + q.num * p.den).natAbs < 2 ^ 8000 := by
    have g1 := mul_lt_pow hp.1 hq.2
    have g2 := mul_lt_pow hq.1 hp.2
    have g3 := add_lt_pow g1 g2
    have g4 := Int.natAbs_add_le (p.num * q.den) (q.num * p.den)
    rw [Int.natAbs_mul, Int.natAbs_mul, Int.natAbs_natCast, Int.natAbs_natCast] at g4
    exact Nat.lt_of_lt_of_le (Nat.lt_of_le_of_lt g4 g3) (pow_mono (show 1000 + 1000 + 1 ≤ 8000 by decide))
  have ts := frac_spec (p.num * q.den + q.num * p.den) (p.den * q.den) (Int.mul_pos (den_pos p) (den_pos q)) hd hn
  rw [e_add] at ts
  refine gOf_rt (τ := [some (encQ p), some (encQ q)]) rfl ?_
  unfold b_law_plus_
  conv => lhs; simp only [encQ]
  simp only [startD, List.length_cons, List.length_nil, List.map_cons, List.map_nil, List.replicate_succ, List.replicate_zero, List.cons_append, List.nil_append, List.append_nil, fSeq, fNil, fRet, fSet, fExp, fIf, fIfE, fPar, fPar3, fAsg, fFrz, eP, eN, gImm, pOp, pVar, pC, qCons, qNil, qStar, xCons, xNil, pTup, pLst, eTup, eLst, pFn, eFn, pCall, eCall, pIf, eIf, cBl, cTru, cAnd, cOr, cNot, kP, kNot, kBl, kTru, pAnd, pOr, pNot, pCh, eOp, oUsub, D.imm, D.imms, D.nof, D.nofs, D.frz, D.frzs, gdN, gdTup, gdNil, gdCons, Option.bind_some, Option.map_some, Option.join_some, List.getElem?_cons_zero, List.getElem?_cons_succ, List.set_cons_zero, List.set_cons_succ, ix0, ix1, ix2, ix3, oAdd_i, oSub_i, oMul_i, oDiv_i, oMod_i, oLt_i, oLe_i, oGt_i, oGe_i, oEq_i, oNe_i, oInt_i, oInt_b, oAbs_i, oMax2_i, oMin2_i, oIs_n, oIs_i, oIs_t, oIs_bb, tru_b, tru_i, if_true, if_false, Bool.false_eq_true, Bool.true_and, Bool.and_true, true_or, or_true, true_and, and_true, reduceIte, decide_true, decide_false, Bool.not_true, Bool.not_false, Nat.reduceAdd, Nat.reduceSub, Nat.reduceLeDiff, Nat.zero_add, Nat.le_refl, and_self, or_self, N_law_plus_, oMul_i h1.1, oMul_i h2.1, oMul_i h1.2, ts, nof_encQ, imm_encQ]
  rfl
theorem lless_big (hp : Smb p) (hq : Smb q) : g_law_is_less_ [encQ p, encQ q] = some (.bl (decide (p < q))) := by
  have h1 := smb_cW hp hq
  have h2 := smb_cW hq hp
  refine gOf_rt (τ := [some (encQ p), some (encQ q)]) rfl ?_
  unfold b_law_is_less_
  conv => lhs; simp only [encQ]
  simp only [startD, List.length_cons, List.length_nil, List.map_cons, List.map_nil, List.replicate_succ, List.replicate_zero, List.cons_append, List.nil_append, List.append_nil, fSeq, fNil, fRet, fSet, fExp, fIf, fIfE, fPar, fPar3, fAsg, fFrz, eP, eN, gImm, pOp, pVar, pC, qCons, qNil, qStar, xCons, xNil, pTup, pLst, eTup, eLst, pFn, eFn, pCall, eCall, pIf, eIf, cBl, cTru, cAnd, cOr, cNot, kP, kNot, kBl, kTru, pAnd, pOr, pNot, pCh, eOp, oUsub, D.imm, D.imms, D.nof, D.nofs, D.frz, D.frzs, gdN, gdTup, gdNil, gdCons, Option.bind_some, Option.map_some, Option.join_some, List.getElem?_cons_zero, List.getElem?_cons_succ, List.set_cons_zero, List.set_cons_succ, ix0, ix1, ix2, ix3, oAdd_i, oSub_i, oMul_i, oDiv_i, oMod_i, oLt_i, oLe_i, oGt_i, oGe_i, oEq_i, oNe_i, oInt_i, oInt_b, oAbs_i, oMax2_i, oMin2_i, oIs_n, oIs_i, oIs_t, oIs_bb, tru_b, tru_i, if_true, if_false, Bool.false_eq_true, Bool.true_and, Bool.and_true, true_or, or_true, true_and, and_true, reduceIte, decide_true, decide_false, Bool.not_true, Bool.not_false, Nat.reduceAdd, Nat.reduceSub, Nat.reduceLeDiff, Nat.zero_add, Nat.le_refl, and_self, or_self, N_law_is_less_, oMul_i h1.1, oMul_i h2.1, Rat.lt_iff]
  rfl
end
def SmAllb (qs : List Rat) : Prop := (∀ q ∈ qs, Smb q) ∧ ∀ i ≤ qs.length, Smb (qsum (qs.take i))
theorem lsum_big {d : D} {qs : List Rat} (hd : Qs d qs) (hs : SmAllb qs) : g_law_sum_ [d] = some (encQ (qsum qs)) := by
  obtain ⟨τ', e, x, rfl⟩ := for_run (g := gdN 2) (f := fSet 1 (eP (pFn g_law_plus_ (qCons (pVar 1) (qCons (pVar 2) qNil))))) (fun i τ => ∃ x, τ = [some d, some (encQ (qsum (qs.take i))), x]) (qs.map encQ) 0 [some d, some (encQ 0), none] ⟨none, by simp [qsum]⟩ (by
    rintro i c _ hc ⟨x, rfl⟩
    rw [List.getElem?_map] at hc
    obtain ⟨q, hq, rfl⟩ := Option.map_eq_some_iff.mp hc
    rw [Nat.zero_add] at *
    have hi : i < qs.length := (List.getElem?_eq_some_iff.mp hq).1
    refine ⟨_, [some d, some (encQ (qsum (qs.take (i + 1)))), some (encQ q)], rfl, .inl ?_, some (encQ q), rfl⟩
    have z := lplus_big (hs.2 i (by omega)) (hs.1 q (List.mem_of_getElem? hq))
    rw [qsum_take hq]
    simp only [startD, List.length_cons, List.length_nil, List.map_cons, List.map_nil, List.replicate_succ, List.replicate_zero, List.cons_append, List.nil_append, List.append_nil, fSeq, fNil, fRet, fSet, fExp, fIf, fIfE, fPar, fPar3, fAsg, fFrz, eP, eN, gImm, pOp, pVar, pC, qCons, qNil, qStar, xCons, xNil, pTup, pLst, eTup, eLst, pFn, eFn, pCall, eCall, pIf, eIf, cBl, cTru, cAnd, cOr, cNot, kP, kNot, kBl, kTru, pAnd, pOr, pNot, pCh, eOp, oUsub, D.imm, D.imms, D.nof, D.nofs, D.frz, D.frzs, gdN, gdTup, gdNil, gdCons, Option.bind_some, Option.map_some, Option.join_some, List.getElem?_cons_zero, List.getElem?_cons_succ, List.set_cons_zero, List.set_cons_succ, ix0, ix1, ix2, ix3, oAdd_i, oSub_i, oMul_i, oDiv_i, oMod_i, oLt_i, oLe_i, oGt_i, oGe_i, oEq_i, oNe_i, oInt_i, oInt_b, oAbs_i, oMax2_i, oMin2_i, oIs_n, oIs_i, oIs_t, oIs_bb, tru_b, tru_i, if_true, if_false, Bool.false_eq_true, Bool.true_and, Bool.and_true, true_or, or_true, true_and, and_true, reduceIte, decide_true, decide_false, Bool.not_true, Bool.not_false, Nat.reduceAdd, Nat.reduceSub, Nat.reduceLeDiff, Nat.zero_add, Nat.le_refl, and_self, or_self, z, frz_encQ, imm_encQ, nof_encQ])
  rw [List.length_map, Nat.zero_add, List.take_length] at e
  have e0 : encQ 0 = .tup [.int 0, .int 1] := rfl
  rw [e0] at e
  refine gOf_rt (τ := [some d, some (encQ (qsum qs)), x]) rfl ?_
  unfold b_law_sum_
  simp only [startD, List.length_cons, List.length_nil, List.map_cons, List.map_nil, List.replicate_succ, List.replicate_zero, List.cons_append, List.nil_append, List.append_nil, fSeq, fNil, fRet, fSet, fExp, fIf, fIfE, fPar, fPar3, fAsg, fFrz, eP, eN, gImm, pOp, pVar, pC, qCons, qNil, qStar, xCons, xNil, pTup, pLst, eTup, eLst, pFn, eFn, pCall, eCall, pIf, eIf, cBl, cTru, cAnd, cOr, cNot, kP, kNot, kBl, kTru, pAnd, pOr, pNot, pCh, eOp, oUsub, D.imm, D.imms, D.nof, D.nofs, D.frz, D.frzs, gdN, gdTup, gdNil, gdCons, Option.bind_some, Option.map_some, Option.join_some, List.getElem?_cons_zero, List.getElem?_cons_succ, List.set_cons_zero, List.set_cons_succ, ix0, ix1, ix2, ix3, oAdd_i, oSub_i, oMul_i, oDiv_i, oMod_i, oLt_i, oLe_i, oGt_i, oGe_i, oEq_i, oNe_i, oInt_i, oInt_b, oAbs_i, oMax2_i, oMin2_i, oIs_n, oIs_i, oIs_t, oIs_bb, tru_b, tru_i, if_true, if_false, Bool.false_eq_true, Bool.true_and, Bool.and_true, true_or, or_true, true_and, and_true, reduceIte, decide_true, decide_false, Bool.not_true, Bool.not_false, Nat.reduceAdd, Nat.reduceSub, Nat.reduceLeDiff, Nat.zero_add, Nat.le_refl, and_self, or_self, N_law_sum_, fFor, iSeq, hd.1, hd.2, e, imm_encQ]
/-- a bottom for q -/
def Dn (D : Nat) (q : Rat) : Prop := ∃ k : Int, q * (D : Rat) = (k : Rat)
theorem Dn.add {D : Nat} {p q : Rat} : Dn D p → Dn D q → Dn D (p + q)
  | ⟨a, ha⟩, ⟨b, hb⟩ => ⟨a + b, by rw [Rat.add_mul, ha, hb, Rat.intCast_add]⟩
theorem Dn.zero (D : Nat) : Dn D 0 := ⟨0, by rw [Rat.zero_mul]; rfl⟩
theorem Dn.mul {D E : Nat} {q : Rat} : Dn D q → Dn (D * E) q
  | ⟨a, ha⟩ => ⟨a * (E : Int), by
    have e : ((D * E : Nat) : Rat) = (D : Rat) * (E : Rat) := by simp
    have e2 : (((E : Nat) : Int) : Rat) = (E : Rat) := rfl
    rw [e, Rat.intCast_mul, ← Rat.mul_assoc, ha, e2]⟩
theorem Dn.den {D : Nat} {q : Rat} (h : Dn D q) (h0 : 0 < D) : q.den ≤ D := by
  obtain ⟨k, h⟩ := h
  have hD : (D : Rat) ≠ 0 := by
    intro z
    have : (D : Rat) = ((0 : Nat) : Rat) := z
    have : D = 0 := by exact_mod_cast this
    omega
  have e : q = Rat.divInt k (D : Int) := by
    rw [Rat.divInt_eq_div]
    have e2 : (((D : Nat) : Int) : Rat) = (D : Rat) := rfl
    rw [e2, ← h]
    exact (Rat.mul_div_cancel hD).symm
  rw [e, Rat.den_divInt, if_neg (by omega)]
  refine Nat.le_trans (Nat.div_le_self _ _) ?_
  omega
theorem qsum_dn {D : Nat} {qs : List Rat} (h : ∀ q ∈ qs, Dn D q) : Dn D (qsum qs) := by
  induction qs with
  | nil => exact Dn.zero D
  | cons q r ih => exact (h q List.mem_cons_self).add (ih fun p hp => h p (List.mem_cons_of_mem _ hp))
theorem smb_of {D : Nat} {q : Rat} (h : Dn D q) (h0 : 0 < D) (hD : D < 2 ^ 900) (q0 : 0 ≤ q) (q1 : q ≤ 100) : Smb q := by
  have hd := h.den h0
  obtain ⟨a, b⟩ := num_le (B := 100) q0 q1
  refine ⟨?_, lt_of_le_pow (Nat.lt_of_le_of_lt hd hD) (by decide)⟩
  have h1 : q.num.natAbs ≤ 100 * D := by
    have : (100 : Int) * q.den ≤ 100 * D := by omega
    have b' : q.num ≤ 100 * (q.den : Int) := b
    omega
  have h2 : 100 * D < 2 ^ 7 * 2 ^ 900 := Nat.mul_lt_mul_of_lt_of_lt (by decide) hD
  rw [← Nat.pow_add] at h2
  exact lt_of_le_pow (Nat.lt_of_le_of_lt h1 h2) (by decide)
theorem smAllb_of {D : Nat} {qs : List Rat} (h : ∀ q ∈ qs, Dn D q ∧ 0 ≤ q) (h0 : 0 < D) (hD : D < 2 ^ 900) (hs : qsum qs ≤ 100) : SmAllb qs := by
  have hp : ∀ q ∈ qs, 0 ≤ q := fun q hq => (h q hq).2
  refine ⟨fun q hq => smb_of (h q hq).1 h0 hD (h q hq).2 (Rat.le_trans (qsum_mem_le hp hq) hs), fun i hi => ?_⟩
  exact smb_of (qsum_dn fun q hq => (h q (List.mem_of_mem_take hq)).1) h0 hD (qsum_nonneg fun q hq => hp q (List.mem_of_mem_take hq)) (Rat.le_trans (qsum_take_le hp i) hs)
/-! ### counted twice -/
theorem qsum_add {f g : Nat → Rat} : ∀ l : List Nat, qsum (l.map fun i => f i + g i) = qsum (l.map f) + qsum (l.map g)
  | [] => by simp [qsum, Rat.add_zero]
  | x :: l => by
    simp only [List.map_cons, qsum, qsum_add l]
    grind
theorem qsum_zero : ∀ l : List Nat, qsum (l.map fun _ => (0 : Rat)) = 0
  | [] => rfl
  | x :: l => by simp [qsum, qsum_zero l, Rat.add_zero]
theorem qsum_one {k : Nat} {v : Rat} : ∀ {l : List Nat}, l.Nodup → k ∈ l → qsum (l.map fun i => if k = i then v else 0) = v
  | [], _, h => by cases h
  | x :: l, nd, h => by
    obtain ⟨n1, n2⟩ := List.nodup_cons.mp nd
    rw [List.map_cons, qsum]
    by_cases e : k = x
    · subst e
      rw [if_pos rfl, List.map_congr_left (g := fun _ => (0 : Rat)) fun i hi => if_neg (fun w : k = i => n1 (by rw [w]; exact hi)), qsum_zero, Rat.add_zero]
    · rw [if_neg e, Rat.zero_add, qsum_one n2 ((List.mem_cons.mp h).resolve_left e)]
theorem wsum_cons {c : Tri → Bool} {t : Tri} {ts : List Tri} : wsum c (t :: ts) = (if c t = true then t.2.2 else 0) + wsum c ts := by
  unfold wsum
  by_cases h : c t = true
  · rw [List.filter_cons_of_pos h, if_pos h]
    rfl
  · rw [List.filter_cons_of_neg h, if_neg h, Rat.zero_add]
theorem split_sum {c : Tri → Bool} {key : Tri → Nat} {n : Nat} : ∀ {ts : List Tri}, (∀ t ∈ ts, key t < n) → qsum ((List.range n).map fun i => wsum (fun t => c t && key t == i) ts) = wsum c ts
  | [], _ => by
    have : ∀ i, wsum (fun t => c t && key t == i) [] = 0 := fun _ => rfl
    simp only [this]
    rw [qsum_zero]
    rfl
  | t :: ts, h => by
    have ih := split_sum (c := c) (key := key) (ts := ts) fun u hu => h u (List.mem_cons_of_mem _ hu)
    rw [wsum_cons, ← ih, List.map_congr_left (g := fun i => (if key t = i then (if c t = true then t.2.2 else 0) else 0) + wsum (fun t => c t && key t == i) ts), qsum_add, qsum_one List.nodup_range (List.mem_range.mpr (h t List.mem_cons_self))]
    intro i _
    rw [wsum_cons]
    congr 1
    by_cases e : key t = i
    · simp [e]
    · simp [e]
theorem qsum_div {f : Nat → Rat} {c : Rat} : ∀ l : List Nat, qsum (l.map fun i => f i / c) = qsum (l.map f) / c
  | [] => by simp [qsum]; grind
  | x :: l => by
    simp only [List.map_cons, qsum, qsum_div l]
    grind
theorem qsum_mono {f g : Nat → Rat} : ∀ {l : List Nat}, (∀ i ∈ l, f i ≤ g i) → qsum (l.map f) ≤ qsum (l.map g)
  | [], _ => Rat.le_refl
  | x :: l, h => by
    have h1 := h x List.mem_cons_self
    have h2 := qsum_mono (l := l) fun i hi => h i (List.mem_cons_of_mem _ hi)
    simp only [List.map_cons, qsum]
    grind
section
variable {qs : List Rat} {N : Nat} {lots : List (List Nat)} {ts : List Tri}
theorem div_ge1 {w f : Rat} (hw : 0 ≤ w) (hf : 1 ≤ f) : 0 ≤ w / f ∧ w / f ≤ w := by
  have hp : 0 < f := by grind
  constructor
  · refine Rat.not_lt.mp fun h => ?_
    rw [Rat.div_lt_iff hp] at h
    grind
  · refine Rat.not_lt.mp fun h => ?_
    rw [Rat.lt_div_iff hp] at h
    have := Rat.mul_le_mul_of_nonneg_left hf hw
    grind
/-- need i, in twelfths -/
theorem need_tw (h : Needs qs) {i : Nat} (hi : i < qs.length) : ∃ b : Nat, 0 < b ∧ b ≤ 720 ∧ qAt qs i * 12 = (b : Rat) := by
  have h1 := h.one _ (qAt_mem hi)
  have h2 := Rat.le_trans (qsum_mem_le h.twl.pos (qAt_mem hi)) h.le
  obtain ⟨b, hb⟩ := tw_nat (h.tw _ (qAt_mem hi)) (by grind)
  refine ⟨b, ?_, ?_, hb⟩
  · have : (0 : Rat) < (b : Rat) := by rw [← hb]; grind
    exact_mod_cast this
  · have : (b : Rat) ≤ ((720 : Nat) : Rat) := by
      have e : ((720 : Nat) : Rat) = 720 := rfl
      rw [← hb, e]
      grind
    exact_mod_cast this
theorem dn_way {w f : Rat} {b : Nat} (hw : Tw w) (hb : f * 12 = (b : Rat)) (hf : 0 < f) : Dn b (w / f) := by
  obtain ⟨k, hk⟩ := hw
  refine ⟨k, ?_⟩
  rw [← hb, ← hk]
  have : w / f * f = w := Rat.div_mul_cancel (by grind)
  grind
theorem wAt_pos (h : ∀ t ∈ ts, 0 < t.2.2 ∧ Tw t.2.2) (p i : Nat) : 0 ≤ wAt ts p i ∧ Tw (wAt ts p i) := psum_le (qs := []) (N := 0) (B := 0) h
theorem col_ok (h : Needs qs) (ht : Told qs N lots ts) {i : Nat} (hi : i < qs.length) : SmAllb ((List.range N).map fun p => wAt ts p i / qAt qs i) ∧ qsum ((List.range N).map fun p => wAt ts p i / qAt qs i) = 1 := by
  have hpt : ∀ t ∈ ts, 0 < t.2.2 ∧ Tw t.2.2 := fun t h => ⟨(ht.prs.pos t h).1, (ht.prs.pos t h).2.1⟩
  have h1 := h.one _ (qAt_mem hi)
  have e : qsum ((List.range N).map fun p => wAt ts p i / qAt qs i) = 1 := by
    rw [qsum_div]
    have z := split_sum (c := fun t => t.2.1 == i) (key := fun t => t.1) (n := N) (ts := ts) fun t ht' => (ht.prs.pos t ht').2.2.2.1
    have e2 : (fun p => wAt ts p i) = fun p => wsum (fun t => t.2.1 == i && t.1 == p) ts := by
      funext p
      unfold wAt
      congr 1
      funext t
      exact Bool.and_comm _ _
    rw [e2, z]
    have := ht.prs.ls i hi
    unfold lsum at this
    rw [this]
    have hne : qAt qs i ≠ 0 := by grind
    rw [Rat.div_def]
    exact Rat.mul_inv_cancel _ hne
  obtain ⟨b, b0, b7, hb⟩ := need_tw h hi
  refine ⟨smAllb_of (D := b) (fun q hq => ?_) b0 (Nat.lt_of_le_of_lt b7 (by decide)) (by rw [e]; decide), e⟩
  obtain ⟨p, _, rfl⟩ := List.mem_map.mp hq
  obtain ⟨w0, wt⟩ := wAt_pos hpt p i
  exact ⟨dn_way wt hb (by grind), (div_ge1 w0 h1).1⟩
theorem row_ok (h : Needs qs) (ht : Told qs N lots ts) {p : Nat} (hp : p < N) : SmAllb ((List.range qs.length).map fun i => wAt ts p i / qAt qs i) ∧ qsum ((List.range qs.length).map fun i => wAt ts p i / qAt qs i) ≤ 1 ∧ Smb (qsum ((List.range qs.length).map fun i => wAt ts p i / qAt qs i)) := by
  have hpt : ∀ t ∈ ts, 0 < t.2.2 ∧ Tw t.2.2 := fun t h => ⟨(ht.prs.pos t h).1, (ht.prs.pos t h).2.1⟩
  have e : qsum ((List.range qs.length).map fun i => wAt ts p i / qAt qs i) ≤ 1 := by
    have z := split_sum (c := fun t => t.1 == p) (key := fun t => t.2.1) (n := qs.length) (ts := ts) fun t ht' => (ht.prs.pos t ht').2.2.2.2
    have z2 := ht.prs.ps p hp
    unfold psum at z2
    rw [z2] at z
    rw [← z]
    exact qsum_mono fun i hi => (div_ge1 (wAt_pos hpt p i).1 (h.one _ (qAt_mem (List.mem_range.mp hi)))).2
  have hD : ∃ D : Nat, 0 < D ∧ D < 2 ^ 900 ∧ ∀ i < qs.length, Dn D (wAt ts p i / qAt qs i) := by
    have key : ∀ m ≤ qs.length, ∃ D : Nat, 0 < D ∧ D ≤ 720 ^ m ∧ ∀ i < m, Dn D (wAt ts p i / qAt qs i) := fun m => by
      induction m with
      | zero => exact fun _ => ⟨1, by decide, by decide, fun i hi => by omega⟩
      | succ m ih =>
        intro hm
        obtain ⟨D, d0, d1, d2⟩ := ih (by omega)
        obtain ⟨b, b0, b7, hb⟩ := need_tw h (show m < qs.length by omega)
        have h1 := h.one _ (qAt_mem (show m < qs.length by omega))
        refine ⟨D * b, Nat.mul_pos d0 b0, ?_, fun i hi => ?_⟩
        · rw [Nat.pow_succ]
          exact Nat.mul_le_mul d1 b7
        · by_cases q : i = m
          · subst q
            have := (dn_way (wAt_pos hpt p i).2 hb (by grind)).mul (E := D)
            rwa [Nat.mul_comm] at this
          · exact (d2 i (by omega)).mul
    obtain ⟨D, d0, d1, d2⟩ := key qs.length (Nat.le_refl _)
    refine ⟨D, d0, Nat.lt_of_le_of_lt d1 (Nat.lt_of_le_of_lt (Nat.pow_le_pow_right (by decide) h.len.2) (by decide)), d2⟩
  obtain ⟨D, d0, d1, d2⟩ := hD
  have ok := smAllb_of (D := D) (qs := (List.range qs.length).map fun i => wAt ts p i / qAt qs i) (fun q hq => by
    obtain ⟨i, hi, rfl⟩ := List.mem_map.mp hq
    have hi := List.mem_range.mp hi
    exact ⟨d2 i hi, (div_ge1 (wAt_pos hpt p i).1 (h.one _ (qAt_mem hi))).1⟩) d0 d1 (by grind)
  refine ⟨ok, e, ?_⟩
  have := ok.2 _ (Nat.le_refl _)
  rwa [List.take_length] at this
end
end Mt
set_option Elab.async false
set_option linter.all false
set_option maxRecDepth 100000
set_option maxHeartbeats 2000000
/-! Places called otherwise; dicts of pairs. -/
namespace DL
open PySem PySem.Spec PyProof.Rows L2
section
variable {κ : Type} [DecidableEq κ]
theorem kAt_none_of {l : List κ} {k : κ} (h : k ∉ l) : kAt l k = none := by
  induction l with
  | nil => rfl
  | cons x r ih =>
    unfold kAt
    rw [if_neg (fun w => h (by rw [w]; exact List.mem_cons_self)), ih fun w => h (List.mem_cons_of_mem _ w)]
    rfl
theorem kAt_idx {l : List κ} {k : κ} (h : k ∈ l) : kAt l k = some (l.idxOf k) := by
  induction l with
  | nil => cases h
  | cons x r ih =>
    unfold kAt
    by_cases e : x = k
    · subst e
      rw [if_pos rfl, List.idxOf_cons_self]
    · rw [if_neg e, ih ((List.mem_cons.mp h).resolve_left fun w => e w.symm), List.idxOf_cons]
      have : (x == k) = false := by simp [e]
      rw [this]
      rfl
end
theorem merge_new : ∀ {ps : List (Key × D)} {r : List Key × List D}, (r.1 ++ ps.map (·.1)).Nodup → mergeD ps r = (r.1 ++ ps.map (·.1), r.2 ++ ps.map (·.2))
  | [], r, _ => by simp [mergeD]
  | p :: ps, r, h => by
    have hn : p.1 ∉ r.1 := by
      intro w
      have := (List.nodup_append.mp h).2.2
      exact this _ w _ (by simp) rfl
    unfold mergeD
    rw [kAt_none_of hn]
    rw [merge_new (r := (r.1 ++ [p.1], r.2 ++ [p.2])) (by simpa using h)]
    simp
end DL
namespace Mt
open DL Wk PySem L2
/-! ### a dict of places -/
def kvD (t : Tri) : D := .tup [.int (t.2.1 : Int), encQ t.2.2]
theorem prs_kv (ts : List Tri) : D.prs? (ts.map kvD) = some (ts.map fun t => ((.inl (t.2.1 : Int) : Key), encQ t.2.2)) := by
  induction ts with
  | nil => rfl
  | cons t r ih => simp only [List.map_cons, kvD, D.prs?, D.key?, ih, Option.bind_some] at ih ⊢
theorem imm_kvD (t : Tri) : (kvD t).imm = true := by simp [kvD, D.imm, D.imms, imm_encQ]
theorem dict_kv {ts : List Tri} (h : (ts.map (·.2.1)).Nodup) {o : Bool} : oDict [.lst o (ts.map kvD)] = some (.dk true (ts.map fun t => (.inl (t.2.1 : Int) : Key)) (ts.map fun t => encQ t.2.2)) := by
  have e1 : (ts.map fun t => ((.inl (t.2.1 : Int) : Key), encQ t.2.2)).map (·.1) = ts.map fun t => (.inl (t.2.1 : Int) : Key) := by rw [List.map_map]; rfl
  have e2 : (ts.map fun t => ((.inl (t.2.1 : Int) : Key), encQ t.2.2)).map (·.2) = ts.map fun t => encQ t.2.2 := by rw [List.map_map]; rfl
  have nd : (ts.map fun t => (.inl (t.2.1 : Int) : Key)).Nodup := by
    unfold List.Nodup at *
    rw [List.pairwise_map] at *
    refine h.imp fun q w => q ?_
    injection w with w
    omega
  show (D.prs? (ts.map kvD)).bind _ = _
  rw [prs_kv, Option.bind_some, if_pos (imms_map imm_kvD ts), merge_new (by rw [List.nil_append, e1]; exact nd), e1, e2]
  rfl
theorem kv_get {ts : List Tri} (h : (ts.map (·.2.1)).Nodup) {i : Nat} : (∃ t ∈ ts, t.2.1 = i ∧ ∃ j, kAt (ts.map fun t => (.inl (t.2.1 : Int) : Key)) (.inl (i : Int)) = some j ∧ (ts.map fun t => encQ t.2.2)[j]? = some (encQ t.2.2)) ∨
    ((∀ t ∈ ts, t.2.1 ≠ i) ∧ kAt (ts.map fun t => (.inl (t.2.1 : Int) : Key)) (.inl (i : Int)) = none) := by
  induction ts with
  | nil => exact .inr ⟨by simp, rfl⟩
  | cons t r ih =>
    rw [List.map_cons, List.nodup_cons] at h
    by_cases e : t.2.1 = i
    · refine .inl ⟨t, List.mem_cons_self, e, 0, ?_, rfl⟩
      rw [List.map_cons]
      unfold kAt
      rw [e]
      exact if_pos rfl
    · have ne : ¬ ((.inl (t.2.1 : Int) : Key) = .inl (i : Int)) := by
        intro w
        injection w with w
        omega
      rcases ih h.2 with ⟨u, hu, e2, j, h1, h2⟩ | ⟨h1, h2⟩
      · refine .inl ⟨u, List.mem_cons_of_mem _ hu, e2, j + 1, ?_, h2⟩
        rw [List.map_cons]
        unfold kAt
        rw [if_neg ne, h1]
        rfl
      · refine .inr ⟨fun u hu => ?_, ?_⟩
        · rcases List.mem_cons.mp hu with rfl | hu
          · exact e
          · exact h1 u hu
        · rw [List.map_cons]
          unfold kAt
          rw [if_neg ne, h2]
          rfl
theorem wAt_one {ts : List Tri} {p i : Nat} (nd : (ts.map nam).Nodup) {t : Tri} (ht : t ∈ ts) (h1 : t.1 = p) (h2 : t.2.1 = i) : wAt ts p i = t.2.2 := by
  induction ts with
  | nil => cases ht
  | cons u r ih =>
    rw [List.map_cons, List.nodup_cons] at nd
    unfold wAt
    rw [wsum_cons]
    rcases List.mem_cons.mp ht with rfl | ht
    · have z : wsum (fun t => t.1 == p && t.2.1 == i) r = 0 := by
        unfold wsum
        rw [List.filter_eq_nil_iff.mpr]
        · rfl
        · intro v hv
          simp only [Bool.and_eq_true, beq_iff_eq]
          rintro ⟨q1, q2⟩
          exact nd.1 (List.mem_map.mpr ⟨v, hv, by simp only [nam, q1, q2, h1, h2]⟩)
      rw [z]
      simp [h1, h2, Rat.add_zero]
    · have hne : ¬ (u.1 = p ∧ u.2.1 = i) := fun ⟨q1, q2⟩ => nd.1 (List.mem_map.mpr ⟨t, ht, by simp only [nam, q1, q2, h1, h2]⟩)
      have hf : (u.1 == p && u.2.1 == i) = false := by
        cases e : (u.1 == p && u.2.1 == i) with
        | false => rfl
        | true =>
          simp only [Bool.and_eq_true, beq_iff_eq] at e
          exact absurd e hne
      have z := ih nd.2 ht
      unfold wAt at z
      rw [hf, z]
      simp [Rat.zero_add]
theorem wAt_nil {ts : List Tri} {p i : Nat} (h : ∀ t ∈ ts, t.1 = p → t.2.1 ≠ i) : wAt ts p i = 0 := by
  unfold wAt wsum
  rw [List.filter_eq_nil_iff.mpr]
  · rfl
  · intro v hv
    simp only [Bool.and_eq_true, beq_iff_eq]
    rintro ⟨q1, q2⟩
    exact h v hv q1 q2
/-- the places of one part are unlike -/
theorem part_nodup {ts : List Tri} (nd : (ts.map nam).Nodup) (p : Nat) : ((ts.filter fun t => t.1 == p).map (·.2.1)).Nodup := by
  unfold List.Nodup at *
  rw [List.pairwise_map] at *
  refine ((List.Pairwise.filter _ nd).imp_of_mem fun {a b} ha hb h w => ?_)
  have h1 := (List.mem_filter.mp ha).2
  have h2 := (List.mem_filter.mp hb).2
  simp only [beq_iff_eq] at h1 h2
  exact h (by simp only [nam, h1, h2, w])
/-! ### places called otherwise -/
structure Turn (n : Nat) (L : List Nat) : Prop where
  perm : L.Perm (List.range n)
theorem Turn.nd {n : Nat} {L : List Nat} (h : Turn n L) : L.Nodup := h.perm.nodup_iff.mpr List.nodup_range
theorem Turn.len {n : Nat} {L : List Nat} (h : Turn n L) : L.length = n := by rw [h.perm.length_eq, List.length_range]
theorem Turn.mem {n : Nat} {L : List Nat} (h : Turn n L) {i : Nat} : i ∈ L ↔ i < n := by rw [h.perm.mem_iff, List.mem_range]
theorem Turn.idx_lt {n : Nat} {L : List Nat} (h : Turn n L) {i : Nat} (hi : i < n) : L.idxOf i < n := by
  have := List.idxOf_lt_length_of_mem (h.mem.mpr hi)
  rwa [h.len] at this
theorem Turn.get_idx {n : Nat} {L : List Nat} (h : Turn n L) {i : Nat} (hi : i < n) : L[L.idxOf i]? = some i := by
  have hl := List.idxOf_lt_length_of_mem (h.mem.mpr hi)
  rw [List.getElem?_eq_getElem hl, List.getElem_idxOf hl]
theorem Turn.idx_inj {n : Nat} {L : List Nat} (h : Turn n L) {i j : Nat} (hi : i < n) (hj : j < n) (e : L.idxOf i = L.idxOf j) : i = j := by
  have h1 := h.get_idx hi
  have h2 := h.get_idx hj
  rw [e, h2] at h1
  exact (Option.some.inj h1).symm
theorem idx_map : ∀ {L : List Nat}, L.Nodup → L.map (fun i => L.idxOf i) = List.range L.length
  | L, nd => by
    refine List.ext_getElem (by simp) fun i h1 h2 => ?_
    simp only [List.getElem_map, List.getElem_range]
    simp only [List.length_map] at h1
    exact List.Nodup.idxOf_getElem nd i h1
theorem Turn.range {n : Nat} {L : List Nat} (h : Turn n L) : ((List.range n).map fun i => L.idxOf i).Perm (List.range n) := by
  have := (h.perm.symm).map (fun i => L.idxOf i)
  rw [idx_map h.nd, h.len] at this
  exact this
theorem turned_at {qs : List Rat} {L : List Nat} {i : Nat} (h : L[L.idxOf i]? = some i) : qAt (L.map (qAt qs)) (L.idxOf i) = qAt qs i := by
  show (L.map (qAt qs)).getD _ _ = _
  rw [List.getD_eq_getElem?_getD, List.getElem?_map, h]
  rfl
def turnT (L : List Nat) (t : Tri) : Tri := (t.1, L.idxOf t.2.1, t.2.2)
theorem qsum_congr {f g : Nat → Rat} {l : List Nat} (h : ∀ i ∈ l, f i = g i) : qsum (l.map f) = qsum (l.map g) := by rw [List.map_congr_left h]
theorem turned_ok {qs : List Rat} {N : Nat} {lots : List (List Nat)} {ts : List Tri} {L : List Nat} (hT : Turn qs.length L) (ht : Told qs N lots ts) :
    ∃ lots' ts', Told (L.map (qAt qs)) N lots' ts' ∧ lots'.length = lots.length ∧ (lots.map fun l => encLot (ascN (l.map fun i => L.idxOf i))).mergeSort D.le = lots'.map encLot ∧ D.srt? (lots.map fun l => encLot (ascN (l.map fun i => L.idxOf i))) = true ∧
      (ts.map fun t => encT (turnT L t)).mergeSort D.le = ts'.map encT := by
  have len' : (L.map (qAt qs)).length = qs.length := by rw [List.length_map, hT.len]
  have hok := ht.ok
  have hmem : ∀ l ∈ lots, ∀ i ∈ l, i < qs.length := fun l hl i hi => List.mem_range.mp (hok.perm.mem_iff.mp (List.mem_flatten.mpr ⟨l, hl, hi⟩))
  have hat : ∀ i < qs.length, qAt (L.map (qAt qs)) (L.idxOf i) = qAt qs i := fun i hi => turned_at (hT.get_idx hi)
  have em : (lots.map fun l => encLot (ascN (l.map fun i => L.idxOf i))) = (lots.map fun l => ascN (l.map fun i => L.idxOf i)).map encLot := by rw [List.map_map]; rfl
  have hne : ∀ l ∈ (lots.map fun l => ascN (l.map fun i => L.idxOf i)), l ≠ [] := by
    intro l hm
    obtain ⟨l', hm', rfl⟩ := List.mem_map.mp hm
    intro e
    have := (ascN_perm (l'.map fun i => L.idxOf i)).symm
    rw [e] at this
    exact (hok.wh l' hm').1 (List.map_eq_nil_iff.mp this.eq_nil)
  obtain ⟨lots', pl, el⟩ := perm_map (sort_perm ((lots.map fun l => ascN (l.map fun i => L.idxOf i)).map encLot)) _ rfl
  have et : (ts.map fun t => encT (turnT L t)) = (ts.map (turnT L)).map encT := by rw [List.map_map]; rfl
  obtain ⟨ts', pt, et'⟩ := perm_map (sort_perm ((ts.map (turnT L)).map encT)) _ rfl
  have lok : LotsOk (L.map (qAt qs)) lots' := by
    refine ⟨?_, ?_, ?_, ?_⟩
    · rw [len']
      refine (List.Perm.flatten pl).trans (List.Perm.trans ?_ hT.range)
      refine List.Perm.trans ?_ (hok.perm.map fun i => L.idxOf i)
      clear el pl hne em hmem hok ht
      induction lots with
      | nil => exact List.Perm.refl _
      | cons x r ih =>
        rw [List.map_cons, List.flatten_cons, List.flatten_cons, List.map_append]
        exact (ascN_perm _).append ih
    · intro l hm
      refine ⟨hne l (pl.mem_iff.mp hm), ?_⟩
      obtain ⟨l', hm', rfl⟩ := List.mem_map.mp (pl.mem_iff.mp hm)
      rw [qsum_perm ((ascN_perm _).map _), List.map_map, qsum_congr (f := qAt (L.map (qAt qs)) ∘ fun i => L.idxOf i) (g := qAt qs) fun i hi => hat i (hmem l' hm' i hi)]
      exact (hok.wh l' hm').2
    · intro l hm
      obtain ⟨l', hm', rfl⟩ := List.mem_map.mp (pl.mem_iff.mp hm)
      exact ascN_pw _
    · rw [el]
      exact sort_leP _
  have llen : lots'.length = lots.length := by rw [pl.length_eq, List.length_map]
  have most : IsMost (qAt (L.map (qAt qs))) (List.range (L.map (qAt qs)).length) lots'.length := by
    rw [len', llen]
    have e : (List.range qs.length).map (fun j => L.getD j 0) = L := by
      refine List.ext_getElem (by simp [hT.len]) fun i h1 h2 => ?_
      simp [h2]
    have m1 : IsMost (qAt qs) ((List.range qs.length).map fun j => L.getD j 0) lots.length := by
      rw [e]
      exact ht.most.perm hT.perm.symm
    refine m1.map.congr fun j hj => ?_
    have hj : j < L.length := by rw [hT.len]; exact List.mem_range.mp hj
    show qAt qs (L.getD j 0) = (L.map (qAt qs)).getD j 0
    simp [List.getD_eq_getElem?_getD, hj]
  have prs : PairsOk (L.map (qAt qs)) N (ts.map (turnT L)) := by
    refine ⟨fun p hp => ?_, fun j hj => ?_, ?_, fun t htm => ?_⟩
    · rw [← ht.prs.ps p hp]
      unfold psum wsum
      rw [List.filter_map, List.map_map]
      rfl
    · rw [len'] at hj
      -- the place that is called j
      have hjL : j < L.length := by rw [hT.len]; exact hj
      have hi : L[j] < qs.length := hT.mem.mp (List.getElem_mem hjL)
      have hidx : L.idxOf L[j] = j := List.Nodup.idxOf_getElem hT.nd j hjL
      have e1 : qAt (L.map (qAt qs)) j = qAt qs L[j] := by
        have := hat _ hi
        rwa [hidx] at this
      rw [e1, ← ht.prs.ls _ hi]
      unfold lsum wsum
      rw [List.filter_map, List.map_map]
      have e2 : ts.filter ((fun t => t.2.1 == j) ∘ turnT L) = ts.filter fun t => t.2.1 == L[j] := by
        refine List.filter_congr fun t htm => ?_
        have h5 := (ht.prs.pos t htm).2.2.2.2
        simp only [Function.comp, turnT]
        rw [Bool.eq_iff_iff, beq_iff_eq, beq_iff_eq]
        constructor
        · intro z
          exact hT.idx_inj h5 hi (z.trans hidx.symm)
        · intro z
          rw [z, hidx]
      rw [e2]
      rfl
    · have nd := ht.prs.nd
      rw [List.map_map]
      unfold List.Nodup at *
      rw [List.pairwise_map] at *
      refine nd.imp_of_mem fun {a b} ha hb h w => h ?_
      simp only [Function.comp, turnT, nam, Prod.mk.injEq] at w ⊢
      exact ⟨w.1, hT.idx_inj (ht.prs.pos a ha).2.2.2.2 (ht.prs.pos b hb).2.2.2.2 w.2⟩
    · obtain ⟨u, hu, rfl⟩ := List.mem_map.mp htm
      obtain ⟨p1, p2, p3, p4, p5⟩ := ht.prs.pos u hu
      refine ⟨p1, p2, p3, p4, ?_⟩
      rw [len']
      exact hT.idx_lt p5
  refine ⟨lots', ts', ⟨lok, most, prs.perm pt.symm, ?_, ?_⟩, llen, ?_, ?_, ?_⟩
  · rw [et']
    exact sort_leP _
  · rw [pt.length_eq, List.length_map, llen, len']
    exact ht.num
  · rw [em]; exact el.symm
  · rw [em]; exact srt_lots hne
  · rw [et]; exact et'.symm
end Mt
set_option Elab.async false
set_option linter.all false
set_option maxRecDepth 100000
set_option maxHeartbeats 4000000
/-! The law's whole look at one row of needs. -/
namespace DL
open PySem PySem.Spec PyProof.Rows L2
theorem oNe_self {x : D} (h : x.pl = true) (hd : x.py.depth ≤ 64) : oNe x x = some (.bl false) := by
  have z := (oEq_pl (x := x) (y := x) (p := True) h h hd hd (by simp)).2
  simpa using z
theorem pIdx_run {p pe : DS → Option D} {τ : DS} {o : Bool} {l : List Nat} {i : Nat} (h : p τ = some (.lst o (l.map fun i : Nat => D.int (i : Int)))) (he : pe τ = some (.int (i : Int))) (hi : i ∈ l) : pIdx p pe τ = some (.int (l.idxOf i : Nat)) := by
  have e1 : D.ints? (l.map fun i : Nat => D.int (i : Int)) = some (l.map fun i : Nat => (i : Int)) := by
    have : ∀ l : List Int, D.ints? (l.map D.int) = some l := fun l => by
      induction l with
      | nil => rfl
      | cons x r ih => simp only [List.map_cons, D.ints?, ih, Option.bind_some]
    rw [← this, List.map_map]
    rfl
  have e2 : kAt (l.map fun i : Nat => (i : Int)) (i : Int) = some (l.idxOf i) := by
    rw [kAt_idx (List.mem_map.mpr ⟨i, hi, rfl⟩)]
    congr 1
    clear e1 h he hi
    induction l with
    | nil => rfl
    | cons x r ih =>
      rw [List.map_cons, List.idxOf_cons, List.idxOf_cons, ih]
      by_cases q : x = i
      · subst q; simp
      · have a1 : (x == i) = false := by simp [q]
        have a2 : ((x : Int) == (i : Int)) = false := by simp; omega
        rw [a1, a2]
  unfold pIdx
  rw [h, he]
  simp only [Option.bind_some, e1, e2]
theorem cut_run {p : DS → Option D} {l h : DS → Option (Option Int)} {τ : DS} {ds : List D} {lo hi : Option Int} (hp : p τ = some (.tup ds)) (im : D.imms ds = true) (h1 : l τ = some lo) (h2 : h τ = some hi) : pCut p l h τ = some (.tup (cutD ds lo hi)) := by
  unfold pCut
  rw [hp, Option.bind_some, h1, Option.bind_some, h2, Option.bind_some]
  simp only [oCut, im, if_true]
end DL
namespace Mt
open DL Wk PySem L2
theorem wRow_get {qs : List Rat} {ts : List Tri} {p i : Nat} (h : i < qs.length) : oIx (.tup (wRow qs ts p)) (.int (i : Int)) = some (encQ (wAt ts p i / qAt qs i)) := by
  unfold wRow
  rw [ix_nat (by rw [rowsQ_len]; exact h)]
  unfold rowsQ
  rw [List.getElem?_map, List.getElem?_range h]
  rfl
theorem enD_get {l : List D} {i : Nat} {d : D} (h : (enD l)[i]? = some d) : ∃ x, l[i]? = some x ∧ d = .tup [.int (i : Int), x] := by
  unfold enD at h
  rw [List.getElem?_mapIdx] at h
  obtain ⟨x, hx, e⟩ := Option.map_eq_some_iff.mp h
  exact ⟨x, hx, e.symm⟩
theorem is_right_spec {n : Nat} {p : D} {qs : List Rat} {N : Nat} (hp : PotOk n p) (h : Needs qs) (hN : qsum qs = (N : Rat)) (h24 : N ≤ 24) (hn : n + 1000 < 2 ^ 60) :
    ∃ r p', (r = .bl true ∧ PotOk (n + qs.length) p') ∧ g_law_is_right_ [p, .tup (qs.map encQ)] = some (r, p') := by
  have h8 := h.len
  have tw := h.twl
  obtain ⟨_, ⟨lots, ts, rfl, l1, l2, p1, p2, p3⟩, ef⟩ := fewest_spec h hN
  have ht : Told qs N lots ts := ⟨l1, l2, p1, p2, p3⟩
  have hpt : ∀ t ∈ ts, 0 < t.2.2 ∧ Tw t.2.2 := fun t h => ⟨(p1.pos t h).1, (p1.pos t h).2.1⟩
  have em := most_spec h
  have ek : Cm qs (2 ^ qs.length - 1) = lots.length := by
    have z := Cm_spec qs (2 ^ qs.length - 1)
    rw [places_full h8.2] at z
    exact z.unique l2
  rw [ek] at em
  have ls := lsum_spec (qs_tup qs) (tw.sm (by decide))
  have num : oIx (encQ (qsum qs)) (.int 0) = some (.int (N : Int)) := by
    have : (qsum qs).num = (N : Int) := by rw [hN]; rfl
    rw [← this]
    exact ix0
  have f0 := frzs_encQ qs
  have fl := frzs_map frz_encLot lots
  have ft := frzs_map frz_encT ts
  have il := imms_map imm_encLot lots
  have nl := nofs_map nof_encLot lots
  have it := imms_map imm_encT ts
  have nt := nofs_map nof_encT ts
  have l8 := lots_len h l1
  have ts32 : ts.length ≤ 32 := by omega
  have fv : D.frzs [.tup (qs.map encQ)] = [.tup (qs.map encQ)] := by simp only [D.frzs, D.frz, f0]
  have iq := imms_encQ qs
  have one1 : pTup (qCons (pC (.int 1)) (qCons (pC (.int 1)) qNil)) = fun _ => some (encQ 1) := rfl
  have ne1 : oNe (encQ 1) (encQ 1) = some (.bl false) := by rw [eq_encQ.2]; simp
  refine gI_wpx rfl ?_
  unfold b_law_is_right_
  simp only [startD, List.length_cons, List.length_nil, List.map_cons, List.map_nil, List.replicate_succ, List.replicate_zero, List.cons_append, List.nil_append, List.append_nil, List.set_cons_zero, List.set_cons_succ, Nat.reduceAdd, Nat.reduceSub, N_law_is_right_]
  refine wp_seq (wp_par3P (x := .int (qs.length : Int)) (y := .int (N : Int)) (z := .int (lots.length : Int)) (gI_run (call_run rfl (by rw [oLen_t, List.length_map])) rfl) (.inl rfl) (gI_run (op_run (fn_run rfl fv ls (nof_encQ _)) rfl num) rfl) (.inl rfl) (fn_run rfl fv em rfl) (.inl rfl) ?_)
  simp only [startD, List.length_cons, List.length_nil, List.map_cons, List.map_nil, List.replicate_succ, List.replicate_zero, List.cons_append, List.nil_append, List.append_nil, List.set_cons_zero, List.set_cons_succ, Nat.reduceAdd, Nat.reduceSub]
  have nofTD : (D.tup [.str "moved", .int ((qs.length : Int) - (lots.length : Int)), .tup (ts.map encT), encLots lots]).nof = true := by simp only [D.nof, D.nofs, nt, encLots, nl, Bool.and_self]
  have immTD : (D.tup [.str "moved", .int ((qs.length : Int) - (lots.length : Int)), .tup (ts.map encT), encLots lots]).imm = true := by simp only [D.imm, D.imms, it, encLots, il, Bool.and_self]
  have frzTD : (D.tup [.str "moved", .int ((qs.length : Int) - (lots.length : Int)), .tup (ts.map encT), encLots lots]).frz = (D.tup [.str "moved", .int ((qs.length : Int) - (lots.length : Int)), .tup (ts.map encT), encLots lots]) := by simp only [D.frz, D.frzs, ft, encLots, fl]
  refine wp_seq (wp_setP (fn_run rfl fv ef nofTD) (.inl immTD) ?_)
  simp only [startD, List.length_cons, List.length_nil, List.map_cons, List.map_nil, List.replicate_succ, List.replicate_zero, List.cons_append, List.nil_append, List.append_nil, List.set_cons_zero, List.set_cons_succ, Nat.reduceAdd, Nat.reduceSub]
  -- told
  have sh1 := shows_spec h hN h24 ht ((qs.length : Int) - (lots.length : Int))
  rw [decide_eq_true rfl] at sh1
  have cut1 : ∀ τ : DS, pVar 5 τ = some (D.tup [.str "moved", .int ((qs.length : Int) - (lots.length : Int)), .tup (ts.map encT), encLots lots]) → pCut (pVar 5) (fun _ => some none) (poS (pC (.int 2))) τ = some (.tup [.str "moved", .int ((qs.length : Int) - (lots.length : Int))]) := fun τ h5 => by
    have im : D.imms [.str "moved", .int ((qs.length : Int) - (lots.length : Int)), .tup (ts.map encT), encLots lots] = true := by simp only [D.imm, D.imms, it, encLots, il, Bool.and_self]
    exact cut_run (l := fun _ => some none) (h := poS (pC (.int 2))) (lo := none) (hi := some 2) h5 im rfl rfl
  have ne2 : oNe (.tup [.str "moved", .int ((qs.length : Int) - (lots.length : Int))]) (.tup [.str "moved", .int ((qs.length : Int) - (lots.length : Int))]) = some (.bl false) := by
    have so : PyData.strOk "moved" = true := by decide +kernel
    exact oNe_self (by simp [D.pl, D.pls, so]) (by simp [D.py, D.pys, PyData.depth, PyData.depthAll])
  refine wp_seq (wp_no (cOr_no (cBl_run (op_run (cut1 _ rfl) (pTup_run (qC_run rfl (qC_run (op_run rfl rfl oSub_i) rfl)) (show 2 ≤ 16777216 by decide)) ne2)) (cBl_run (op_run (fn_run (l' := [.tup (qs.map encQ), (D.tup [.str "moved", .int ((qs.length : Int) - (lots.length : Int)), .tup (ts.map encT), encLots lots])]) (qC_run rfl (qC_run rfl rfl)) (by simp only [D.frzs, D.frz, f0, ft, encLots, fl]) sh1 rfl) rfl oIs_bn))) (wp_nil ?_))
  show WP _ _
  refine wp_seq (wp_parP (x := .tup (ts.map encT)) (y := encLots lots) (gI_run (op_run rfl rfl ix2) (by simp only [D.imm, it])) (.inl (by simp only [D.imm, it])) (gI_run (op_run rfl rfl ix3) (by simp only [encLots, D.imm, il])) (.inl (by simp only [encLots, D.imm, il])) ?_)
  simp only [startD, List.length_cons, List.length_nil, List.map_cons, List.map_nil, List.replicate_succ, List.replicate_zero, List.cons_append, List.nil_append, List.append_nil, List.set_cons_zero, List.set_cons_succ, Nat.reduceAdd, Nat.reduceSub]
  -- pairs
  have lar := lare_spec h h24 ht
  have hN2 : oNe (.int (ts.length : Int)) (.int ((N : Int) + (qs.length : Int) - (lots.length : Int))) = some (.bl false) := by
    rw [oNe_i, decide_eq_true (by omega)]
    rfl
  refine wp_seq (wp_no (cOr_no (cBl_run (op_run (call_run rfl (by rw [oLen_t, List.length_map])) (op_run (op_run rfl rfl oAdd_i) rfl oSub_i) hN2)) (cNot_run (b := true) (cTru_bl (fn_run (l' := [.tup (qs.map encQ), .int (N : Int), .tup (ts.map encT)]) rfl (by simp only [D.frzs, D.frz, f0, ft]) lar rfl)))) (wp_nil ?_))
  show WP _ _
  refine wp_seq (wp_setP (d := .lst true []) rfl (.inr rfl) ?_)
  simp only [startD, List.length_cons, List.length_nil, List.map_cons, List.map_nil, List.replicate_succ, List.replicate_zero, List.cons_append, List.nil_append, List.append_nil, List.set_cons_zero, List.set_cons_succ, Nat.reduceAdd, Nat.reduceSub]
  have flat8 : lots.flatten.length ≤ 8 := by
    have e := l1.perm.length_eq
    rw [List.length_range] at e
    omega
  have hmem : ∀ lot ∈ lots, (∀ i ∈ lot, i < qs.length) ∧ lot.length ≤ 8 ∧ lot.Nodup := fun lot hm => lot_sum h l1 hm
  -- every
  refine wp_seq (wp_forL (enc := encLot) (xs := lots) (fun pre τ => ∃ x9, τ = [some p, some (.tup (qs.map encQ)), some (.int (qs.length : Int)), some (.int (N : Int)), some (.int (lots.length : Int)), some (D.tup [.str "moved", .int ((qs.length : Int) - (lots.length : Int)), .tup (ts.map encT), encLots lots]), some (.tup (ts.map encT)), some (encLots lots), some (.lst true (lotD pre.flatten)), x9, none, none, none, none, none, none, none, none, none, none, none, none, none]) (iSeq_tup (gI_run rfl (by simp only [encLots, D.imm, il])) il) ⟨none, rfl⟩ ?h3 ?h4)
  case h3 =>
    rintro pre lot post _ e ⟨x9, rfl⟩
    refine ⟨_, rfl, ?_⟩
    simp only [startD, List.length_cons, List.length_nil, List.map_cons, List.map_nil, List.replicate_succ, List.replicate_zero, List.cons_append, List.nil_append, List.append_nil, List.set_cons_zero, List.set_cons_succ, Nat.reduceAdd, Nat.reduceSub]
    refine wp_ext (x := .lst true (lotD lot)) (es := lotD lot) (ds := lotD pre.flatten) (call_run (qC_run rfl rfl) (oList_t (imms_lotD lot))) rfl rfl (imms_lotD _) (imms_lotD _) (Nat.le_trans (m := 1000) ?_ (by decide)) ⟨some (encLot lot), ?_⟩
    · rw [lotD_len, lotD_len]
      have : pre.flatten.length ≤ lots.flatten.length := by rw [e]; simp
      have := (hmem lot (by rw [e]; simp)).2.1
      omega
    · have e2 : lotD pre.flatten ++ lotD lot = lotD (pre ++ [lot]).flatten := by simp [lotD]
      simp only [startD, List.length_cons, List.length_nil, List.map_cons, List.map_nil, List.replicate_succ, List.replicate_zero, List.cons_append, List.nil_append, List.append_nil, List.set_cons_zero, List.set_cons_succ, Nat.reduceAdd, Nat.reduceSub, e2]
  case h4 =>
  rintro _ ⟨x9, rfl⟩
  show WP _ _
  have so : oSorted [.lst true (lotD lots.flatten)] = some (.lst true (lotD (List.range qs.length))) := by
    have z := oSorted_l (o := true) (srt_lotD lots.flatten)
    rw [sort_lotD, ascN_eq l1.perm (List.pairwise_lt_range.imp Nat.le_of_lt)] at z
    exact z
  have q1 : oNe (.lst true (lotD (List.range qs.length))) (.lst true (rgD 0 qs.length)) = some (.bl false) := by rw [rg_lotD, ie_lots.2]; simp
  have q2 : oNe (.int (lots.length : Int)) (.int (lots.length : Int)) = some (.bl false) := by rw [oNe_i]; simp
  have rg : ∀ τ : DS, pVar 2 τ = some (.int (qs.length : Int)) → pRg1 (pVar 2) τ = some (.lst true (rgD 0 qs.length)) := fun τ h2 => pRg1_run h2 (by omega)
  refine wp_seq (wp_no (cOr_no (cBl_run (op_run (call_run (l := [encLots lots]) rfl (by rw [encLots, oLen_t, List.length_map])) rfl q2)) (cBl_run (op_run (call_run rfl so) (rg _ rfl) q1))) (wp_nil ?_))
  show WP _ _
  -- all lots whole
  have lcw := lc_bl (g := gdN 9) (c := cYes) (p := gImm (pOp oEq (pOp oIx (pFn g_law_sum_ (qCons (pLc (iSeq (gImm (pVar 9))) (gdN 11) cYes (gImm (pOp oIx (pVar 1) (pVar 11))) [11]) qNil)) (pC (.int 1))) (pC (.int 1)))) (τ := [some p, some (.tup (qs.map encQ)), some (.int (qs.length : Int)), some (.int (N : Int)), some (.int (lots.length : Int)), some (D.tup [.str "moved", .int ((qs.length : Int) - (lots.length : Int)), .tup (ts.map encT), encLots lots]), some (.tup (ts.map encT)), some (encLots lots), some (.lst true (lotD lots.flatten)), none, none, none, none, none, none, none, none, none, none, none, none, none, none]) encLot true lots fun lot hm => ⟨_, rfl, by
    obtain ⟨hi, hl8, hnd⟩ := hmem lot hm
    have lc2 := lc_all (g := gdN 11) (p := gImm (pOp oIx (pVar 1) (pVar 11))) (τ := [some p, some (.tup (qs.map encQ)), some (.int (qs.length : Int)), some (.int (N : Int)), some (.int (lots.length : Int)), some (D.tup [.str "moved", .int ((qs.length : Int) - (lots.length : Int)), .tup (ts.map encT), encLots lots]), some (.tup (ts.map encT)), some (encLots lots), some (.lst true (lotD lots.flatten)), some (encLot lot), none, none, none, none, none, none, none, none, none, none, none, none, none]) (fun i : Nat => D.int (i : Int)) (fun i => encQ (qAt qs i)) lot fun i hi' => ⟨_, rfl, gI_run (op_run rfl rfl (ix_needs (hi i hi'))) (imm_encQ _)⟩
    rw [map_range_get hi] at lc2
    have twl : Twl 60 (lot.map (qAt qs)) := by
      refine ⟨fun q hq => ?_, fun q hq => ?_, ?_⟩
      · obtain ⟨i, hi', rfl⟩ := List.mem_map.mp hq
        exact tw.pos _ (qAt_mem (hi i hi'))
      · obtain ⟨i, hi', rfl⟩ := List.mem_map.mp hq
        exact tw.tw _ (qAt_mem (hi i hi'))
      · -- part of the whole
        obtain ⟨m, hm1, hmb⟩ := mask_of h8.2 hnd hi
        have z := (S_twl tw m).2.2
        unfold S at z
        rwa [qsum_perm ((places_mask h8.2 hnd hi hmb).map _)] at z
    have lsl := lsum_spec (qs_lst (lot.map (qAt qs))) (twl.sm (by decide))
    have hw := (l1.wh lot hm).2
    have den : oIx (encQ (qsum (lot.map (qAt qs)))) (.int 1) = some (.int 1) := by
      rw [den_enc]
      unfold Wh at hw
      rw [hw]
      rfl
    exact gI_run (op_run (op_run (fn_run (qC_run (lc_eq (iSeq_tup (gI_run rfl (imm_encLot lot)) (imms_lotD lot)) (Nat.le_trans (m := 1000) (by rw [lotD_len]; omega) (by decide)) rfl lc2) rfl) (by simp only [D.frzs, D.frz, frzs_encQ]) lsl (nof_encQ _)) rfl den) rfl (by rw [oEq_i, decide_eq_true rfl])) rfl⟩
  refine wp_seq (wp_no (cNot_run (b := true) (cTru_bl (call_run (qC_run (lc_eq (iSeq_tup (gI_run rfl (by simp only [encLots, D.imm, il])) il) (Nat.le_trans (m := 1000) (by rw [List.length_map]; omega) (by decide)) rfl lcw) rfl) (oAll_rep _)))) (wp_nil ?_))
  show WP _ _
  -- ways
  have wys := ways_spec h hN h24 ht
  have imW : D.imms ((List.range N).map fun p => D.tup (wRow qs ts p)) = true := imms_map (fun p => by simp only [D.imm, wRow, imms_rowsQ]) _
  have nfW : D.nofs ((List.range N).map fun p => D.tup (wRow qs ts p)) = true := nofs_map (fun p => by simp only [D.nof, wRow, nofs_rowsQ]) _
  refine wp_seq (wp_setP (d := .tup ((List.range N).map fun p => .tup (wRow qs ts p))) (fn_run (l' := [.tup (qs.map encQ), .tup (ts.map encT)]) rfl (by simp only [D.frzs, D.frz, f0, ft]) wys (by simp only [D.nof, nfW])) (.inl (by simp only [D.imm, imW])) ?_)
  simp only [startD, List.length_cons, List.length_nil, List.map_cons, List.map_nil, List.replicate_succ, List.replicate_zero, List.cons_append, List.nil_append, List.append_nil, List.set_cons_zero, List.set_cons_succ, Nat.reduceAdd, Nat.reduceSub]
  have seqW : ∀ τ : DS, pVar 10 τ = some (D.tup ((List.range N).map fun p => D.tup (wRow qs ts p))) → iSeq (gImm (pVar 10)) τ = some ((List.range N).map fun p => D.tup (wRow qs ts p)) := fun τ h10 => iSeq_tup (gI_run h10 (by simp only [D.imm, imW])) imW
  -- columns
  refine wp_seq (wp_for (ds := enD (qs.map encQ)) (fun i τ => ∃ x11 x12, τ = [some p, some (.tup (qs.map encQ)), some (.int (qs.length : Int)), some (.int (N : Int)), some (.int (lots.length : Int)), some (D.tup [.str "moved", .int ((qs.length : Int) - (lots.length : Int)), .tup (ts.map encT), encLots lots]), some (.tup (ts.map encT)), some (encLots lots), some (.lst true (lotD lots.flatten)), x9, some (D.tup ((List.range N).map fun p => D.tup (wRow qs ts p))), x11, x12, none, none, none, none, none, none, none, none, none, none]) (iEn_run (gI_run rfl (by simp only [D.imm, iq])) (items_t iq)) ⟨none, none, rfl⟩ ?c3 ?c4)
  case c3 =>
    rintro i d _ hd ⟨x11, x12, rfl⟩
    obtain ⟨x, hx, rfl⟩ := enD_get hd
    rw [List.getElem?_map] at hx
    obtain ⟨q, hq, rfl⟩ := Option.map_eq_some_iff.mp hx
    have hi : i < qs.length := (List.getElem?_eq_some_iff.mp hq).1
    refine ⟨[some p, some (.tup (qs.map encQ)), some (.int (qs.length : Int)), some (.int (N : Int)), some (.int (lots.length : Int)), some (D.tup [.str "moved", .int ((qs.length : Int) - (lots.length : Int)), .tup (ts.map encT), encLots lots]), some (.tup (ts.map encT)), some (encLots lots), some (.lst true (lotD lots.flatten)), x9, some (D.tup ((List.range N).map fun p => D.tup (wRow qs ts p))), some (.int (i : Int)), some (encQ q), none, none, none, none, none, none, none, none, none, none], rfl, ?_⟩
    have lc := lc_all (g := gdN 14) (p := gImm (pOp oIx (pVar 14) (pVar 11))) (τ := [some p, some (.tup (qs.map encQ)), some (.int (qs.length : Int)), some (.int (N : Int)), some (.int (lots.length : Int)), some (D.tup [.str "moved", .int ((qs.length : Int) - (lots.length : Int)), .tup (ts.map encT), encLots lots]), some (.tup (ts.map encT)), some (encLots lots), some (.lst true (lotD lots.flatten)), x9, some (D.tup ((List.range N).map fun p => D.tup (wRow qs ts p))), some (.int (i : Int)), some (encQ q), none, none, none, none, none, none, none, none, none, none]) (fun p => D.tup (wRow qs ts p)) (fun p => encQ (wAt ts p i / qAt qs i)) (List.range N) fun p _ => ⟨_, rfl, gI_run (op_run rfl rfl (wRow_get hi)) (imm_encQ _)⟩
    have e1 : (List.range N).map (fun p => encQ (wAt ts p i / qAt qs i)) = ((List.range N).map fun p => wAt ts p i / qAt qs i).map encQ := by rw [List.map_map]; rfl
    rw [e1] at lc
    obtain ⟨c1, c2⟩ := col_ok h ht hi
    have lsl := lsum_big (qs_lst ((List.range N).map fun p => wAt ts p i / qAt qs i)) c1
    rw [c2] at lsl
    exact wp_no (cBl_run (op_run (fn_run (qC_run (lc_eq (seqW _ rfl) (Nat.le_trans (m := 1000) (by rw [List.length_map, List.length_range]; omega) (by decide)) rfl lc) rfl) (by simp only [D.frzs, D.frz, frzs_encQ]) lsl (nof_encQ _)) (by rw [one1]) ne1)) (wp_nil ⟨some (.int (i : Int)), some (encQ q), rfl⟩)
  case c4 =>
  rintro _ ⟨x11, x12, rfl⟩
  show WP _ _
  -- rows
  refine wp_seq (wp_for (ds := enD ((List.range N).map fun p => D.tup (wRow qs ts p))) (fun i τ => ∃ x13 x14 x15, τ = [some p, some (.tup (qs.map encQ)), some (.int (qs.length : Int)), some (.int (N : Int)), some (.int (lots.length : Int)), some (D.tup [.str "moved", .int ((qs.length : Int) - (lots.length : Int)), .tup (ts.map encT), encLots lots]), some (.tup (ts.map encT)), some (encLots lots), some (.lst true (lotD lots.flatten)), x9, some (D.tup ((List.range N).map fun p => D.tup (wRow qs ts p))), x11, x12, x13, x14, x15, none, none, none, none, none, none, none]) (iEn_run (gI_run rfl (by simp only [D.imm, imW])) (items_t imW)) ⟨none, none, none, rfl⟩ ?r3 ?r4)
  case r3 =>
    rintro i d _ hd ⟨x13, x14, x15, rfl⟩
    obtain ⟨x, hx, rfl⟩ := enD_get hd
    rw [List.getElem?_map] at hx
    obtain ⟨pp, hq, rfl⟩ := Option.map_eq_some_iff.mp hx
    have hi : i < N := by
      have := (List.getElem?_eq_some_iff.mp hq).1
      rwa [List.length_range] at this
    have hpi : pp = i := by
      rw [List.getElem?_range hi] at hq
      exact (Option.some.inj hq).symm
    subst hpi
    refine ⟨[some p, some (.tup (qs.map encQ)), some (.int (qs.length : Int)), some (.int (N : Int)), some (.int (lots.length : Int)), some (D.tup [.str "moved", .int ((qs.length : Int) - (lots.length : Int)), .tup (ts.map encT), encLots lots]), some (.tup (ts.map encT)), some (encLots lots), some (.lst true (lotD lots.flatten)), x9, some (D.tup ((List.range N).map fun p => D.tup (wRow qs ts p))), x11, x12, some (.int (pp : Int)), some (.tup (wRow qs ts pp)), x15, none, none, none, none, none, none, none], rfl, ?_⟩
    have lc := lc_run (g := gdTup 3 (gdCons (gdN 20) (gdCons (gdN 11) (gdCons (gdN 21) gdNil)))) (c := cBl (pOp oEq (pVar 20) (pVar 13))) (p := gImm (pTup (qCons (pVar 11) (qCons (pVar 21) qNil)))) (τ := [some p, some (.tup (qs.map encQ)), some (.int (qs.length : Int)), some (.int (N : Int)), some (.int (lots.length : Int)), some (D.tup [.str "moved", .int ((qs.length : Int) - (lots.length : Int)), .tup (ts.map encT), encLots lots]), some (.tup (ts.map encT)), some (encLots lots), some (.lst true (lotD lots.flatten)), x9, some (D.tup ((List.range N).map fun p => D.tup (wRow qs ts p))), none, x12, some (.int (pp : Int)), some (.tup (wRow qs ts pp)), x15, none, none, none, none, none, none, none]) encT (fun t => t.1 == pp) kvD ts fun t _ => ⟨_, rfl, cBl_run (op_run rfl rfl (oEq_nat _ _)), fun _ => gI_run (pTup_run rfl (show 2 ≤ 16777216 by decide)) (imm_kvD t)⟩
    have ndk := part_nodup p1.nd pp
    have dkv := dict_kv (o := true) ndk
    refine wp_seq (wp_setP (d := (D.dk true ((ts.filter fun t => t.1 == pp).map fun t => (.inl (t.2.1 : Int) : Key)) ((ts.filter fun t => t.1 == pp).map fun t => encQ t.2.2))) (call_run (qC_run (lc_eq (iSeq_tup (gI_run rfl (by simp only [D.imm, it])) it) (Nat.le_trans (m := 1000) (by rw [List.length_map]; omega) (by decide)) rfl lc) rfl) dkv) (.inr (by simp only [D.nof, nofs_map (fun t : Tri => nof_encQ t.2.2), Bool.and_self])) ?_)
    simp only [startD, List.length_cons, List.length_nil, List.map_cons, List.map_nil, List.replicate_succ, List.replicate_zero, List.cons_append, List.nil_append, List.append_nil, List.set_cons_zero, List.set_cons_succ, Nat.reduceAdd, Nat.reduceSub]
    have lc2 := lc_all (g := gdTup 2 (gdCons (gdN 11) (gdCons (gdN 12) gdNil))) (p := pFn g_law_over_ (qCons (pDGet2 (pVar 15) (pVar 11) (pTup (qCons (pC (.int 0)) (qCons (pC (.int 1)) qNil)))) (qCons (pVar 12) qNil))) (τ := [some p, some (.tup (qs.map encQ)), some (.int (qs.length : Int)), some (.int (N : Int)), some (.int (lots.length : Int)), some (D.tup [.str "moved", .int ((qs.length : Int) - (lots.length : Int)), .tup (ts.map encT), encLots lots]), some (.tup (ts.map encT)), some (encLots lots), some (.lst true (lotD lots.flatten)), x9, some (D.tup ((List.range N).map fun p => D.tup (wRow qs ts p))), none, none, some (.int (pp : Int)), some (.tup (wRow qs ts pp)), some (D.dk true ((ts.filter fun t => t.1 == pp).map fun t => (.inl (t.2.1 : Int) : Key)) ((ts.filter fun t => t.1 == pp).map fun t => encQ t.2.2)), none, none, none, none, none, none, none])
      (fun i : Nat => D.tup [.int (i : Int), encQ (qAt qs i)]) (fun i => encQ (wAt ts pp i / qAt qs i)) (List.range qs.length) fun i hi' => ⟨_, rfl, by
        have hi2 : i < qs.length := List.mem_range.mp hi'
        have fa1 := h.one _ (qAt_mem hi2)
        have sf := (tw.sm (by decide)).1 _ (qAt_mem hi2)
        rcases kv_get ndk (i := i) with ⟨t, htm, e2, j, k1, k2⟩ | ⟨k1, k2⟩
        · have htm' := List.mem_filter.mp htm
          have e1 : t.1 = pp := by simpa using htm'.2
          have ew := wAt_one p1.nd htm'.1 e1 e2
          have := p1.pos t htm'.1
          rw [ew]
          exact fn_run (l' := [encQ t.2.2, encQ (qAt qs i)]) (qC_run (dget2_run rfl rfl rfl k1 k2) (qC_run rfl rfl)) (by simp only [D.frzs, frz_encQ]) (lover_spec (tw_sm this.2.1 (by grind) (by grind)) sf (by grind)) (nof_encQ _)
        · have ew : wAt ts pp i = 0 := wAt_nil fun t htm e1 => k1 t (List.mem_filter.mpr ⟨htm, by simp [e1]⟩)
          rw [ew]
          exact fn_run (l' := [encQ 0, encQ (qAt qs i)]) (qC_run (dget2_none (x := encQ 0) rfl rfl rfl k2) (qC_run rfl rfl)) (by simp only [D.frzs, frz_encQ]) (lover_spec sm_zero sf (by grind)) (nof_encQ _)⟩
    have een : enD (qs.map encQ) = (List.range qs.length).map fun i : Nat => D.tup [.int (i : Int), encQ (qAt qs i)] := by
      unfold enD
      refine List.ext_getElem (by simp) fun i h1 h2 => ?_
      simp only [List.length_mapIdx, List.length_map] at h1
      simp [qAt, h1]
    rw [← een] at lc2
    have er : (List.range qs.length).map (fun i => encQ (wAt ts pp i / qAt qs i)) = wRow qs ts pp := rfl
    rw [er] at lc2
    have plW : (D.tup (wRow qs ts pp)).pl = true := by simp only [wRow, rowsQ, D.pl, pls_map (fun i => pl_encQ _)]
    have dpW : (D.tup (wRow qs ts pp)).py.depth ≤ 64 := by
      have := depth_map (f := fun i => encQ (wAt ts pp i / qAt qs i)) (k := 60) (fun i => dep_encQ' _) (List.range qs.length)
      simp only [wRow, rowsQ, D.py, PyData.depth]
      omega
    refine wp_seq (wp_no (cBl_run (op_run rfl (call_run (qC_run (lc_eq (iEn_run (gI_run rfl (by simp only [D.imm, iq])) (items_t iq)) (Nat.le_trans (m := 1000) (by rw [een, List.length_map, List.length_range]; omega) (by decide)) rfl lc2) rfl) (oTuple_l (by simp only [wRow, imms_rowsQ]))) (oNe_self plW dpW))) (wp_nil ?_))
    show WP _ _
    obtain ⟨c1, c2, c3⟩ := row_ok h ht hi
    have lsl := lsum_big (qs_tup ((List.range qs.length).map fun i => wAt ts pp i / qAt qs i)) c1
    have eW : ((List.range qs.length).map fun i => wAt ts pp i / qAt qs i).map encQ = wRow qs ts pp := by rw [List.map_map]; rfl
    rw [eW] at lsl
    have sb1 : Smb 1 := ⟨by decide +kernel, by decide +kernel⟩
    have lss := lless_big sb1 c3
    rw [decide_eq_false (Rat.not_lt.mpr c2)] at lss
    have fW : D.frzs (wRow qs ts pp) = wRow qs ts pp := frzs_rowsQ
    refine wp_no (cTru_bl (fn_run (l' := [encQ 1, encQ (qsum ((List.range qs.length).map fun i => wAt ts pp i / qAt qs i))]) (qC_run rfl (qC_run (fn_run (qC_run rfl rfl) (by simp only [D.frzs, D.frz, fW]) lsl (nof_encQ _)) rfl)) (by simp only [D.frzs, frz_encQ]; rfl) lss rfl)) (wp_nil ⟨some (.int (pp : Int)), some (.tup (wRow qs ts pp)), some (D.dk true ((ts.filter fun t => t.1 == pp).map fun t => (.inl (t.2.1 : Int) : Key)) ((ts.filter fun t => t.1 == pp).map fun t => encQ t.2.2)), rfl⟩)
  case r4 =>
  rintro _ ⟨x13, x14, x15, rfl⟩
  show WP _ _
  -- another sequence
  obtain ⟨_, p', ⟨L, rfl, hL, hp'⟩, es⟩ := some_all (m := qs.length) hp (by omega) (by omega)
  have hT : Turn qs.length L := ⟨hL⟩
  have hx : xCons (eP (pRg1 (pVar 2))) (xCons (eP (gImm (pVar 2))) xNil) [some p, some (.tup (qs.map encQ)), some (.int (qs.length : Int)), some (.int (N : Int)), some (.int (lots.length : Int)), some (D.tup [.str "moved", .int ((qs.length : Int) - (lots.length : Int)), .tup (ts.map encT), encLots lots]), some (.tup (ts.map encT)), some (encLots lots), some (.lst true (lotD lots.flatten)), x9, some (D.tup ((List.range N).map fun p => D.tup (wRow qs ts p))), x11, x12, x13, x14, x15, none, none, none, none, none, none, none] = some ([.lst true (rgD 0 qs.length), .int (qs.length : Int)], [some p, some (.tup (qs.map encQ)), some (.int (qs.length : Int)), some (.int (N : Int)), some (.int (lots.length : Int)), some (D.tup [.str "moved", .int ((qs.length : Int) - (lots.length : Int)), .tup (ts.map encT), encLots lots]), some (.tup (ts.map encT)), some (encLots lots), some (.lst true (lotD lots.flatten)), x9, some (D.tup ((List.range N).map fun p => D.tup (wRow qs ts p))), x11, x12, x13, x14, x15, none, none, none, none, none, none, none]) :=
    xC_run (eP_run (rg _ rfl) (.inr (by rw [rg_lotD]; exact nof_lotD _))) (xC_run rfl rfl)
  refine wp_seq (wp_set (d := .lst true (lotD L)) (τ' := [some p', some (.tup (qs.map encQ)), some (.int (qs.length : Int)), some (.int (N : Int)), some (.int (lots.length : Int)), some (D.tup [.str "moved", .int ((qs.length : Int) - (lots.length : Int)), .tup (ts.map encT), encLots lots]), some (.tup (ts.map encT)), some (encLots lots), some (.lst true (lotD lots.flatten)), x9, some (D.tup ((List.range N).map fun p => D.tup (wRow qs ts p))), x11, x12, x13, x14, x15, none, none, none, none, none, none, none]) (fnI_run (i := 0) (τ1 := [some p, some (.tup (qs.map encQ)), some (.int (qs.length : Int)), some (.int (N : Int)), some (.int (lots.length : Int)), some (D.tup [.str "moved", .int ((qs.length : Int) - (lots.length : Int)), .tup (ts.map encT), encLots lots]), some (.tup (ts.map encT)), some (encLots lots), some (.lst true (lotD lots.flatten)), x9, some (D.tup ((List.range N).map fun p => D.tup (wRow qs ts p))), x11, x12, x13, x14, x15, none, none, none, none, none, none, none]) rfl hx rfl (by rw [rg_lotD]; simp only [D.frzs, D.frz, frzs_lotD]) es (nof_lotD _) hp'.nof) ?_)
  simp only [startD, List.length_cons, List.length_nil, List.map_cons, List.map_nil, List.replicate_succ, List.replicate_zero, List.cons_append, List.nil_append, List.append_nil, List.set_cons_zero, List.set_cons_succ, Nat.reduceAdd, Nat.reduceSub]
  refine wp_frz rfl (d' := .lst false (lotD L)) (by simp only [D.frz, frzs_lotD]) ?_
  simp only [startD, List.length_cons, List.length_nil, List.map_cons, List.map_nil, List.replicate_succ, List.replicate_zero, List.cons_append, List.nil_append, List.append_nil, List.set_cons_zero, List.set_cons_succ, Nat.reduceAdd, Nat.reduceSub]
  have iL := imms_lotD L
  have hLm : ∀ i ∈ L, i < qs.length := fun i hi => hT.mem.mp hi
  have lct := lc_all (g := gdN 22) (p := gImm (pOp oIx (pVar 1) (pVar 22))) (τ := [some p', some (.tup (qs.map encQ)), some (.int (qs.length : Int)), some (.int (N : Int)), some (.int (lots.length : Int)), some (D.tup [.str "moved", .int ((qs.length : Int) - (lots.length : Int)), .tup (ts.map encT), encLots lots]), some (.tup (ts.map encT)), some (encLots lots), some (.lst true (lotD lots.flatten)), x9, some (D.tup ((List.range N).map fun p => D.tup (wRow qs ts p))), x11, x12, x13, x14, x15, some (.lst false (lotD L)), none, none, none, none, none, none]) (fun i : Nat => D.int (i : Int)) (fun i => encQ (qAt qs i)) L fun i hi => ⟨_, rfl, gI_run (op_run rfl rfl (ix_needs (hLm i hi))) (imm_encQ _)⟩
  rw [map_range_get hLm] at lct
  refine wp_seq (wp_setP (d := .tup ((L.map (qAt qs)).map encQ)) (call_run (qC_run (lc_eq (iSeq_lst (gI_run rfl (by simp only [D.imm, iL, Bool.not_false, Bool.and_self])) iL) (Nat.le_trans (m := 1000) (by rw [lotD_len, hT.len]; omega) (by decide)) rfl lct) rfl) (oTuple_l (imms_encQ _))) (.inl (by simp only [D.imm, imms_encQ])) ?_)
  simp only [startD, List.length_cons, List.length_nil, List.map_cons, List.map_nil, List.replicate_succ, List.replicate_zero, List.cons_append, List.nil_append, List.append_nil, List.set_cons_zero, List.set_cons_succ, Nat.reduceAdd, Nat.reduceSub]
  obtain ⟨lots', ts', ht', llen, el, esl, et⟩ := turned_ok hT ht
  -- the pairs so
  have lcr := lc_all (g := gdTup 3 (gdCons (gdN 13) (gdCons (gdN 11) (gdCons (gdN 15) gdNil)))) (p := gImm (pTup (qCons (pVar 13) (qCons (pIdx (pVar 16) (pVar 11)) (qCons (pVar 15) qNil))))) (τ := [some p', some (.tup (qs.map encQ)), some (.int (qs.length : Int)), some (.int (N : Int)), some (.int (lots.length : Int)), some (D.tup [.str "moved", .int ((qs.length : Int) - (lots.length : Int)), .tup (ts.map encT), encLots lots]), some (.tup (ts.map encT)), some (encLots lots), some (.lst true (lotD lots.flatten)), x9, some (D.tup ((List.range N).map fun p => D.tup (wRow qs ts p))), none, x12, none, x14, none, some (.lst false (lotD L)), some (.tup ((L.map (qAt qs)).map encQ)), none, none, none, none, none]) encT (fun t => encT (turnT L t)) ts fun t htm => ⟨_, rfl, gI_run (pTup_run (qC_run rfl (qC_run (pIdx_run rfl rfl (hT.mem.mpr (p1.pos t htm).2.2.2.2)) (qC_run rfl rfl))) (show 3 ≤ 16777216 by decide)) (imm_encT _)⟩
  have esr : D.srt? (ts.map fun t => encT (turnT L t)) = true := by
    have : (ts.map fun t => encT (turnT L t)) = (ts.map (turnT L)).map encT := by rw [List.map_map]; rfl
    rw [this]
    exact srt_tris _
  have it' := imms_map imm_encT ts'
  refine wp_seq (wp_setP (d := .tup (ts'.map encT)) (call_run (qC_run (call_run (qC_run (lc_eq (iSeq_tup (gI_run rfl (by simp only [D.imm, it])) it) (Nat.le_trans (m := 1000) (by rw [List.length_map]; omega) (by decide)) rfl lcr) rfl) (oSorted_l esr)) rfl) (by rw [et]; exact oTuple_l it')) (.inl (by simp only [D.imm, it'])) ?_)
  simp only [startD, List.length_cons, List.length_nil, List.map_cons, List.map_nil, List.replicate_succ, List.replicate_zero, List.cons_append, List.nil_append, List.append_nil, List.set_cons_zero, List.set_cons_succ, Nat.reduceAdd, Nat.reduceSub]
  -- the lots so
  have lcl := lc_all (g := gdN 9) (p := pCall oTuple (qCons (pCall oSorted (qCons (pLc (iSeq (gImm (pVar 9))) (gdN 11) cYes (gImm (pIdx (pVar 16) (pVar 11))) [11]) qNil)) qNil)) (τ := [some p', some (.tup (qs.map encQ)), some (.int (qs.length : Int)), some (.int (N : Int)), some (.int (lots.length : Int)), some (D.tup [.str "moved", .int ((qs.length : Int) - (lots.length : Int)), .tup (ts.map encT), encLots lots]), some (.tup (ts.map encT)), some (encLots lots), some (.lst true (lotD lots.flatten)), none, some (D.tup ((List.range N).map fun p => D.tup (wRow qs ts p))), x11, x12, x13, x14, x15, some (.lst false (lotD L)), some (.tup ((L.map (qAt qs)).map encQ)), some (.tup (ts'.map encT)), none, none, none, none]) encLot (fun l => encLot (ascN (l.map fun i => L.idxOf i))) lots fun lot hm => ⟨_, rfl, by
    obtain ⟨hi, hl8, hnd⟩ := hmem lot hm
    have lc2 := lc_all (g := gdN 11) (p := gImm (pIdx (pVar 16) (pVar 11))) (τ := [some p', some (.tup (qs.map encQ)), some (.int (qs.length : Int)), some (.int (N : Int)), some (.int (lots.length : Int)), some (D.tup [.str "moved", .int ((qs.length : Int) - (lots.length : Int)), .tup (ts.map encT), encLots lots]), some (.tup (ts.map encT)), some (encLots lots), some (.lst true (lotD lots.flatten)), some (encLot lot), some (D.tup ((List.range N).map fun p => D.tup (wRow qs ts p))), none, x12, x13, x14, x15, some (.lst false (lotD L)), some (.tup ((L.map (qAt qs)).map encQ)), some (.tup (ts'.map encT)), none, none, none, none]) (fun i : Nat => D.int (i : Int)) (fun i => D.int (L.idxOf i : Nat)) lot fun i hi' => ⟨_, rfl, gI_run (pIdx_run rfl rfl (hT.mem.mpr (hi i hi'))) rfl⟩
    have e1 : lot.map (fun i => D.int (L.idxOf i : Nat)) = lotD (lot.map fun i => L.idxOf i) := by unfold lotD; rw [List.map_map]; rfl
    rw [e1] at lc2
    have s1 := oSorted_l (o := true) (srt_lotD (lot.map fun i => L.idxOf i))
    rw [sort_lotD] at s1
    exact call_run (qC_run (call_run (qC_run (lc_eq (iSeq_tup (gI_run rfl (imm_encLot lot)) (imms_lotD lot)) (Nat.le_trans (m := 1000) (by rw [lotD_len]; omega) (by decide)) rfl lc2) rfl) s1) rfl) (oTuple_l (imms_lotD _))⟩
  have il' := imms_map imm_encLot lots'
  refine wp_seq (wp_setP (d := encLots lots') (call_run (qC_run (call_run (qC_run (lc_eq (iSeq_tup (gI_run rfl (by simp only [encLots, D.imm, il])) il) (Nat.le_trans (m := 1000) (by rw [List.length_map]; omega) (by decide)) rfl lcl) rfl) (oSorted_l esl)) rfl) (by rw [el]; exact oTuple_l il')) (.inl (by simp only [encLots, D.imm, il'])) ?_)
  simp only [startD, List.length_cons, List.length_nil, List.map_cons, List.map_nil, List.replicate_succ, List.replicate_zero, List.cons_append, List.nil_append, List.append_nil, List.set_cons_zero, List.set_cons_succ, Nat.reduceAdd, Nat.reduceSub]
  -- shown so, too
  have len' : (L.map (qAt qs)).length = qs.length := by rw [List.length_map, hT.len]
  have pmq : (L.map (qAt qs)).Perm qs := by
    have := hL.map (qAt qs)
    rwa [map_qAt] at this
  have h' : Needs (L.map (qAt qs)) := ⟨by rw [len']; exact h8, fun q hq => h.one q (pmq.mem_iff.mp hq), fun q hq => h.tw q (pmq.mem_iff.mp hq), by rw [qsum_perm pmq]; exact h.wh, by rw [qsum_perm pmq]; exact h.le⟩
  have sh2 := shows_spec h' (by rw [qsum_perm pmq]; exact hN) h24 ht' ((qs.length : Int) - (lots.length : Int))
  rw [decide_eq_true (by rw [len', llen])] at sh2
  have f0' := frzs_encQ (L.map (qAt qs))
  have fl' := frzs_map frz_encLot lots'
  have ft' := frzs_map frz_encT ts'
  refine wp_seq (wp_no (cBl_run (op_run (fn_run (l' := [.tup ((L.map (qAt qs)).map encQ), .tup [.str "moved", .int ((qs.length : Int) - (lots.length : Int)), .tup (ts'.map encT), encLots lots']]) (qC_run rfl (qC_run (pTup_run (qC_run rfl (qC_run (op_run rfl rfl oSub_i) rfl)) (show 4 ≤ 16777216 by decide)) rfl)) (by simp only [D.frzs, D.frz, f0', ft', encLots, fl']) sh2 rfl) rfl oIs_bn)) (wp_nil ?_))
  show WP _ _
  have sh3 := shows_spec h hN h24 ht ((qs.length : Int) - (lots.length : Int) + 1)
  rw [decide_eq_false (by omega)] at sh3
  refine wp_retP (d := .bl true) (gI_run (op_run (fn_run (l' := [.tup (qs.map encQ), .tup [.str "moved", .int ((qs.length : Int) - (lots.length : Int) + 1), .tup (ts.map encT), encLots lots]]) (qC_run rfl (qC_run (pTup_run (qC_run rfl (qC_run (op_run (op_run rfl rfl oSub_i) rfl oAdd_i) rfl)) (show 4 ≤ 16777216 by decide)) rfl)) (by simp only [D.frzs, D.frz, f0, ft, encLots, fl]) sh3 rfl) rfl oIs_bb) rfl) (.inl rfl) ⟨_, _, ⟨rfl, hp'⟩, _, rfl, rfl⟩
end Mt
set_option Elab.async false
set_option linter.all false
set_option maxRecDepth 100000
set_option maxHeartbeats 4000000
/-! The law. -/
namespace DL
open PySem PySem.Spec PyProof.Rows L2
theorem cutD_take {ds : List D} {h : Nat} (hl : h ≤ ds.length) : cutD ds none (some (h : Int)) = ds.take h := by
  unfold cutD
  rw [HT.sIx_none, HT.sIx_nat, Nat.min_eq_left hl]
  simp
theorem cutD_drop {ds : List D} {h : Nat} (hl : h ≤ ds.length) : cutD ds (some (h : Int)) none = ds.drop h := by
  unfold cutD
  rw [HT.sIx_none, HT.sIx_nat, Nat.min_eq_left hl]
  exact List.take_of_length_le (by simp)
theorem oRepT_one {d : D} {k : Nat} (hd : d.imm = true) (h2 : 2 ≤ k) (hk : k ≤ 1000) : oRepT (.tup [d]) (.int (k : Int)) = some (.tup (List.replicate k d)) := by
  have h1 : D.imms [d] = true := by simp [D.imms, hd]
  have e : oRepT (.tup [d]) (.int (k : Int)) = if D.imms [d] = true ∧ [d] ≠ [] ∧ 2 ≤ (k : Int) ∧ (k : Int) ≤ 1000 ∧ [d].length ≤ 1000 then some (.tup (List.replicate ((k : Nat) : Int).toNat [d]).flatten) else none := rfl
  rw [e, if_pos ⟨h1, by simp, by omega, by omega, by simp⟩, Int.toNat_natCast, rep_flat k]
theorem fnT_run {g : List D → Option (D × D)} {p : DS → Option D} {q : DS → Option (List D)} {τ : DS} {d r d1 : D} {ds l : List D} (hp : p τ = some d) (hq : q τ = some ds) (hf : D.frzs ds = l) (hg : g (d :: l) = some (r, d1)) (h1 : r.nof = true) (h2 : d.nof = true) (h3 : D.imms ds = true) : pFnT g p q τ = some r := by
  unfold pFnT
  rw [hp, Option.bind_some, hq, Option.bind_some, hf, hg, Option.bind_some]
  simp only [h1, h2, h3, and_self, if_true]
end DL
namespace Mt
open DL Wk PySem L2
def cc (c : Rat) : Rat → Nat → Nat
  | _, 0 => 0
  | s, n + 1 => (if Wh (s + c) then 1 else 0) + cc c (s + c) n
theorem cnt_const {f : Nat → Rat} {c : Rat} : ∀ {L : List Nat} {s : Rat}, (∀ i ∈ L, f i = c) → cnt f s L = cc c s L.length
  | [], _, _ => rfl
  | x :: L, s, h => by
    rw [cnt, List.length_cons, cc, h x List.mem_cons_self, cnt_const fun i hi => h i (List.mem_cons_of_mem _ hi)]
theorem const_most {c : Rat} {n : Nat} : IsMost (qAt (List.replicate n c)) (List.range n) (cc c 0 n) := by
  have key : ∀ L : List Nat, L.Perm (List.range n) → cnt (qAt (List.replicate n c)) 0 L = cc c 0 n := fun L p => by
    rw [cnt_const (c := c) fun i hi => ?_, p.length_eq, List.length_range]
    have hi : i < n := List.mem_range.mp (p.mem_iff.mp hi)
    simp [qAt, hi]
  exact ⟨⟨_, List.Perm.refl _, key _ (List.Perm.refl _)⟩, fun L p => by rw [key L p]; exact Nat.le_refl _⟩
theorem qsum_rep {c : Rat} : ∀ n : Nat, qsum (List.replicate n c) = (n : Rat) * c
  | 0 => by simp [qsum]
  | n + 1 => by
    rw [List.replicate_succ, qsum, qsum_rep n]
    have e : ((n + 1 : Nat) : Rat) = (n : Rat) + 1 := by simp
    rw [e]
    grind
theorem const_fewest {c : Rat} {n N k : Nat} (h1 : 1 ≤ n ∧ n ≤ 8) (hc : 1 ≤ c) (ht : Tw c) (hN : (n : Rat) * c = (N : Rat)) (h24 : N ≤ 24) (hk : cc c 0 n = k) : ∃ x y, g_fewest_moved [.tup ((List.replicate n c).map encQ)] = some (.tup [.str "moved", .int ((n : Int) - (k : Int)), x, y]) ∧ (D.tup [.str "moved", .int ((n : Int) - (k : Int)), x, y]).nof = true := by
  have hs := qsum_rep (c := c) n
  have h : Needs (List.replicate n c) := by
    refine ⟨by simpa using h1, fun q hq => ?_, fun q hq => ?_, ?_, ?_⟩
    · rw [(List.mem_replicate.mp hq).2]; exact hc
    · rw [(List.mem_replicate.mp hq).2]; exact ht
    · rw [hs, hN]; exact wh_nat N
    · rw [hs, hN]
      have : (N : Rat) ≤ ((24 : Nat) : Rat) := by exact_mod_cast h24
      have e : ((24 : Nat) : Rat) = 24 := rfl
      grind
  obtain ⟨_, ⟨lots, ts, rfl, l1, l2, _, _, _⟩, e⟩ := fewest_spec h (hs.trans hN)
  rw [List.length_replicate] at l2 e
  have := l2.unique (const_most (c := c) (n := n))
  rw [hk] at this
  rw [this] at e
  refine ⟨_, _, e, ?_⟩
  have nl := nofs_map nof_encLot lots
  have nt := nofs_map nof_encT ts
  simp only [D.nof, D.nofs, nt, encLots, nl, Bool.and_self]
/-- two sides -/
theorem sides_le {qs : List Rat} {h k k1 k2 : Nat} (hh : h ≤ qs.length) (hk : IsMost (qAt qs) (List.range qs.length) k) (h1 : IsMost (qAt (qs.take h)) (List.range (qs.take h).length) k1) (h2 : IsMost (qAt (qs.drop h)) (List.range (qs.drop h).length) k2) (w : Wh (qsum (qs.take h))) : k1 + k2 ≤ k := by
  have l1 : (qs.take h).length = h := by rw [List.length_take]; omega
  have l2 : (qs.drop h).length = qs.length - h := by rw [List.length_drop]
  rw [l1] at h1
  rw [l2] at h2
  have e1 : ∀ i ∈ List.range h, qAt (qs.take h) i = qAt qs i := fun i hi => by
    have hi := List.mem_range.mp hi
    simp [qAt, List.getD_eq_getElem?_getD, List.getElem?_take, hi]
  have g1 : IsMost (qAt qs) (List.range h) k1 := h1.congr e1
  obtain ⟨k2', g2⟩ := most_ex (qAt qs) ((List.range (qs.length - h)).map (h + ·))
  have g3 : IsMost (qAt (qs.drop h)) (List.range (qs.length - h)) k2' := g2.map.congr fun j hj => by
    simp [qAt, List.getD_eq_getElem?_getD]
  rw [h2.unique g3]
  refine g1.app g2 ?_ ?_
  · have : (List.range h).map (qAt qs) = qs.take h := by
      rw [← List.map_congr_left e1]
      have z := map_qAt (qs.take h)
      rwa [l1] at z
    rw [this]
    exact w
  · rw [← List.range_add, show h + (qs.length - h) = qs.length by omega]
    exact hk
theorem fewest_run {qs : List Rat} {N : Nat} (h : Needs qs) (hN : qsum qs = (N : Rat)) : ∃ k, IsMost (qAt qs) (List.range qs.length) k ∧ ∀ {p : DS → Option D} {τ : DS}, p τ = some (.tup (qs.map encQ)) → pOp oIx (pFn g_fewest_moved (qCons p qNil)) (pC (.int 1)) τ = some (.int ((qs.length : Int) - (k : Int))) := by
  obtain ⟨_, ⟨lots, ts, rfl, l1, l2, _, _, _⟩, e⟩ := fewest_spec h hN
  refine ⟨lots.length, l2, fun hp => ?_⟩
  have nl := nofs_map nof_encLot lots
  have nt := nofs_map nof_encT ts
  exact op_run (fn_run (l' := [.tup (qs.map encQ)]) (qC_run hp rfl) (by simp only [D.frzs, D.frz, frzs_encQ]) e (by simp only [D.nof, D.nofs, nt, encLots, nl, Bool.and_self])) rfl ix1
theorem right_spec {n : Nat} {p : D} (hp : PotOk n p) (hn : n + 2000 < 2 ^ 60) : ∃ r p', (r = .bl true ∧ PotOk (n + 3 * 41) p') ∧ g_law_right_ [p] = some (r, p') := by
  refine gI_wpx rfl ?_
  unfold b_law_right_
  simp only [startD, List.length_cons, List.length_nil, List.map_cons, List.map_nil, List.replicate_succ, List.replicate_zero, List.cons_append, List.nil_append, List.append_nil, List.set_cons_zero, List.set_cons_succ, Nat.reduceAdd, Nat.reduceSub, N_law_right_]
  refine wp_seq (wp_for (ds := rgD 0 3) (fun i τ => ∃ (p' : D) (x1 x2 x3 x4 : Option D), PotOk (n + i * 41) p' ∧ τ = [some p', x1, x2, x3, x4]) (rg1_eq (n := 3) rfl (by omega)) ⟨p, none, none, none, none, by rw [Nat.zero_mul]; exact hp, rfl⟩ ?h3 ?h4)
  case h4 =>
    rintro _ ⟨p', x1, x2, x3, x4, hp', rfl⟩
    rw [rgD_len] at hp'
    show WP _ _
    exact wp_retP (d := .bl true) rfl (.inl rfl) ⟨_, _, ⟨rfl, hp'⟩, _, rfl, rfl⟩
  case h3 =>
    rintro i d _ hd ⟨p1, x1, x2, x3, x4, hp1, rfl⟩
    have hi : i < 3 := by
      have := (List.getElem?_eq_some_iff.mp hd).1
      rwa [rgD_len] at this
    refine ⟨_, rfl, ?_⟩
    simp only [startD, List.length_cons, List.length_nil, List.map_cons, List.map_nil, List.replicate_succ, List.replicate_zero, List.cons_append, List.nil_append, List.append_nil, List.set_cons_zero, List.set_cons_succ, Nat.reduceAdd, Nat.reduceSub]
    obtain ⟨_, p2, ⟨v, rfl, hv, hp2⟩, et⟩ := take_spec (u := 6) hp1 (by decide) (by decide) (by omega)
    obtain ⟨_, p3, ⟨qs, rfl, hlen, hD, hp3⟩, en⟩ := needs_drawn_spec (m := 3 + v) hp2 (by omega) (by omega) (by omega)
    obtain ⟨h, N, hN, h24⟩ := hD.needs (by omega) (by omega)
    have tw := h.twl
    have iq := imms_encQ qs
    have f0 := frzs_encQ qs
    have nq : D.nofs (qs.map encQ) = true := nofs_map nof_encQ qs
    have ev : (3 : Int) + (v : Int) = ((3 + v : Nat) : Int) := by omega
    refine wp_seq (wp_set (d := .tup (qs.map encQ)) (τ' := [some p3, some d, x2, x3, x4]) ?_ ?_)
    · have hx : xCons (eOp oAdd (eP (pC (.int 3))) (eCall oInt (xCons (eFnI g_law_take_ 0 (xCons (eP (pC (.int 6))) xNil)) xNil))) xNil [some p1, some d, x2, x3, x4] = some ([.int ((3 + v : Nat) : Int)], [some p2, some d, x2, x3, x4]) := by
        rw [← ev]
        exact xC_run (eOp_run rfl (eCall_run (xC_run (fnI_run (i := 0) (τ1 := [some p1, some d, x2, x3, x4]) rfl (xC_run rfl rfl) rfl rfl et rfl hp2.nof) rfl) rfl rfl) oAdd_i rfl) rfl
      exact fnI_run (i := 0) (τ1 := [some p2, some d, x2, x3, x4]) rfl hx rfl rfl en (by simp only [D.nof, nq]) hp3.nof
    simp only [startD, List.length_cons, List.length_nil, List.map_cons, List.map_nil, List.replicate_succ, List.replicate_zero, List.cons_append, List.nil_append, List.append_nil, List.set_cons_zero, List.set_cons_succ, Nat.reduceAdd, Nat.reduceSub]
    have ls := lsum_spec (qs_tup qs) (tw.sm (by decide))
    have num : oIx (encQ (qsum qs)) (.int 0) = some (.int (N : Int)) := by
      have : (qsum qs).num = (N : Int) := by rw [hN]; rfl
      rw [← this]
      exact ix0
    have fv : D.frzs [.tup (qs.map encQ)] = [.tup (qs.map encQ)] := by simp only [D.frzs, D.frz, f0]
    refine wp_seq (wp_no (cBl_run (op_run (op_run (fn_run (l := [.tup (qs.map encQ)]) rfl fv ls (nof_encQ _)) rfl num) rfl (by rw [oGt_i, decide_eq_false (by omega)]))) (wp_nil ?_))
    show WP _ _
    obtain ⟨_, p4, ⟨rfl, hp4⟩, ei⟩ := is_right_spec hp3 h hN h24 (by omega)
    have hkt : kNot (kTru (eFnI g_law_is_right_ 0 (xCons (eP (gImm (pVar 2))) xNil))) [some p3, some d, some (.tup (qs.map encQ)), x3, x4] = some (false, [some p4, some d, some (.tup (qs.map encQ)), x3, x4]) := by
      have z : eFnI g_law_is_right_ 0 (xCons (eP (gImm (pVar 2))) xNil) [some p3, some d, some (.tup (qs.map encQ)), x3, x4] = some (.bl true, [some p4, some d, some (.tup (qs.map encQ)), x3, x4]) := by
        have it : (D.tup (qs.map encQ)).imm = true := by simp only [D.imm, iq]
        exact fnI_run (i := 0) (τ1 := [some p3, some d, some (.tup (qs.map encQ)), x3, x4]) (l := [.tup (qs.map encQ)]) rfl (xC_run (eP_run (gI_run rfl it) (.inl it)) rfl) rfl fv ei rfl hp4.nof
      unfold kNot kTru
      rw [z]
      rfl
    refine wp_seq (wp_ife hkt (fun w => by cases w) fun _ => wp_nil ?_)
    show WP _ _
    obtain ⟨hf, ehf⟩ : ∃ hf : Nat, hf = qs.length / 2 := ⟨_, rfl⟩
    have hhf : 1 ≤ hf ∧ hf ≤ qs.length ∧ 1 ≤ qs.length - hf := by omega
    have half : ∀ τ : DS, pVar 2 τ = some (.tup (qs.map encQ)) → poS (pOp oDiv (pCall oLen (qCons (pVar 2) qNil)) (pC (.int 2))) τ = some (some (hf : Int)) := fun τ h2 => by
      obtain ⟨e4, _⟩ := ediv_ok (a := (qs.length : Int)) (u := 2) (by omega) (by decide) (by decide)
      have z : pOp oDiv (pCall oLen (qCons (pVar 2) qNil)) (pC (.int 2)) τ = some (.int (hf : Int)) := by
        refine op_run (call_run (qC_run h2 rfl) (by rw [oLen_t, List.length_map])) rfl (e4.trans ?_)
        rw [ehf]
        rfl
      unfold poS
      rw [z]
      rfl
    have ct : pCut (pVar 2) (fun _ => some none) (poS (pOp oDiv (pCall oLen (qCons (pVar 2) qNil)) (pC (.int 2)))) [some p4, some d, some (.tup (qs.map encQ)), x3, x4] = some (.tup ((qs.take hf).map encQ)) := by
      have z := cut_run (p := pVar 2) (l := fun _ => some none) (τ := [some p4, some d, some (.tup (qs.map encQ)), x3, x4]) (lo := none) rfl iq rfl (half _ rfl)
      rwa [cutD_take (by rw [List.length_map]; exact hhf.2.1), ← List.map_take] at z
    have cd : pCut (pVar 2) (poS (pOp oDiv (pCall oLen (qCons (pVar 2) qNil)) (pC (.int 2)))) (fun _ => some none) [some p4, some d, some (.tup (qs.map encQ)), x3, x4] = some (.tup ((qs.drop hf).map encQ)) := by
      have z := cut_run (p := pVar 2) (h := fun _ => some none) (τ := [some p4, some d, some (.tup (qs.map encQ)), x3, x4]) (hi := none) rfl iq (half _ rfl) rfl
      rwa [cutD_drop (by rw [List.length_map]; exact hhf.2.1), ← List.map_drop] at z
    refine wp_seq (wp_parP ct (.inl (by simp only [D.imm, imms_encQ])) cd (.inl (by simp only [D.imm, imms_encQ])) ?_)
    simp only [startD, List.length_cons, List.length_nil, List.map_cons, List.map_nil, List.replicate_succ, List.replicate_zero, List.cons_append, List.nil_append, List.append_nil, List.set_cons_zero, List.set_cons_succ, Nat.reduceAdd, Nat.reduceSub]
    have twt : Twl 60 (qs.take hf) := ⟨fun q hq => tw.pos q (List.mem_of_mem_take hq), fun q hq => tw.tw q (List.mem_of_mem_take hq), Rat.le_trans (qsum_take_le tw.pos hf) tw.le⟩
    have lst := lsum_spec (qs_tup (qs.take hf)) (twt.sm (by decide))
    have hp5 : PotOk (n + (i + 1) * 41) p4 := hp4.mono (by omega)
    have e1 : pOp oEq (pOp oIx (pFn g_law_sum_ (qCons (pVar 3) qNil)) (pC (.int 1))) (pC (.int 1)) [some p4, some d, some (.tup (qs.map encQ)), some (.tup ((qs.take hf).map encQ)), some (.tup ((qs.drop hf).map encQ))] = some (.bl (decide (Wh (qsum (qs.take hf))))) :=
      op_run (op_run (fn_run (l := [.tup ((qs.take hf).map encQ)]) rfl (by simp only [D.frzs, D.frz, frzs_encQ]) lst (nof_encQ _)) rfl den_enc) rfl (by rw [oEq_i, den_one])
    by_cases w : Wh (qsum (qs.take hf))
    · rw [decide_eq_true w] at e1
      have sumE : qsum qs = qsum (qs.take hf) + qsum (qs.drop hf) := by
        rw [← qsum_app, List.take_append_drop]
      have w2 : Wh (qsum (qs.drop hf)) := by
        have e : qsum (qs.drop hf) = qsum qs - qsum (qs.take hf) := by grind
        rw [e]
        exact h.wh.sub w
      have pt : 0 ≤ qsum (qs.take hf) := qsum_nonneg twt.pos
      have pd : 0 ≤ qsum (qs.drop hf) := qsum_nonneg fun q hq => tw.pos q (List.mem_of_mem_drop hq)
      have toN : ∀ x : Rat, Wh x → 0 ≤ x → ∃ M : Nat, x = (M : Rat) := fun x wx x0 => by
        rw [wx.eq] at x0
        have : 0 ≤ x.num := by exact_mod_cast x0
        obtain ⟨M, hM⟩ := Int.eq_ofNat_of_zero_le this
        exact ⟨M, by rw [wx.eq, hM]; rfl⟩
      obtain ⟨M1, hM1⟩ := toN _ w pt
      obtain ⟨M2, hM2⟩ := toN _ w2 pd
      have n1 : Needs (qs.take hf) := ⟨by rw [List.length_take]; omega, fun q hq => h.one q (List.mem_of_mem_take hq), fun q hq => h.tw q (List.mem_of_mem_take hq), w, twt.le⟩
      have n2 : Needs (qs.drop hf) := ⟨by rw [List.length_drop]; omega, fun q hq => h.one q (List.mem_of_mem_drop hq), fun q hq => h.tw q (List.mem_of_mem_drop hq), w2, by have := h.le; grind⟩
      obtain ⟨k, m0, r0⟩ := fewest_run h hN
      obtain ⟨k1, m1, r1⟩ := fewest_run n1 hM1
      obtain ⟨k2, m2, r2⟩ := fewest_run n2 hM2
      have le := sides_le hhf.2.1 m0 m1 m2 w
      have lt : (qs.take hf).length = hf := by rw [List.length_take]; omega
      have ld : (qs.drop hf).length = qs.length - hf := by rw [List.length_drop]
      rw [lt] at r1
      rw [ld] at r2
      refine wp_yes (cBl_run e1) (wp_no (cBl_run (op_run (r0 rfl) (op_run (r1 rfl) (r2 rfl) oAdd_i) (by rw [oGt_i, decide_eq_false (by omega)]))) (wp_nil ⟨p4, _, _, _, _, hp5, rfl⟩))
    · rw [decide_eq_false w] at e1
      exact wp_no (cBl_run e1) (wp_nil ⟨p4, _, _, _, _, hp5, rfl⟩)
theorem law_true (ns : List Int) (hl : ns.length ≤ 63) : g_law [.scr (ns.map D.int)] = some (.bl true) := by
  refine g_wp rfl ?_
  unfold b_law
  simp only [startD, List.length_cons, List.length_nil, List.map_cons, List.map_nil, List.replicate_succ, List.replicate_zero, List.cons_append, List.nil_append, List.append_nil, List.set_cons_zero, List.set_cons_succ, Nat.reduceAdd, Nat.reduceSub, N_law]
  have q1 : encQ (Rat.divInt 3 2) = .tup [.int 3, .int 2] := by
    have a : (Rat.divInt 3 2).num = 3 := by decide +kernel
    have b : (Rat.divInt 3 2).den = 2 := by decide +kernel
    unfold encQ
    rw [a, b]
    rfl
  have q2 : encQ (Rat.divInt 4 3) = .tup [.int 4, .int 3] := by
    have a : (Rat.divInt 4 3).num = 4 := by decide +kernel
    have b : (Rat.divInt 4 3).den = 3 := by decide +kernel
    unfold encQ
    rw [a, b]
    rfl
  have q3 : encQ (Rat.divInt 2 1) = .tup [.int 2, .int 1] := by
    have a : (Rat.divInt 2 1).num = 2 := by decide +kernel
    have b : (Rat.divInt 2 1).den = 1 := by decide +kernel
    unfold encQ
    rw [a, b]
    rfl
  obtain ⟨a1, b1, e1, n1⟩ := const_fewest (c := Rat.divInt 3 2) (n := 8) (N := 12) (k := 4) (by decide) (by decide +kernel) ⟨18, by decide +kernel⟩ (by decide +kernel) (by decide) (by decide +kernel)
  obtain ⟨a2, b2, e2, n2⟩ := const_fewest (c := Rat.divInt 4 3) (n := 6) (N := 8) (k := 2) (by decide) (by decide +kernel) ⟨16, by decide +kernel⟩ (by decide +kernel) (by decide) (by decide +kernel)
  obtain ⟨a3, b3, e3, n3⟩ := const_fewest (c := Rat.divInt 2 1) (n := 7) (N := 14) (k := 7) (by decide) (by decide +kernel) ⟨24, by decide +kernel⟩ (by decide +kernel) (by decide) (by decide +kernel)
  rw [List.map_replicate, q1] at e1
  rw [List.map_replicate, q2] at e2
  rw [List.map_replicate, q3] at e3
  have t1 := oRepT_one (d := .tup [.int 3, .int 2]) (k := 8) rfl (by decide) (by decide)
  have t2 := oRepT_one (d := .tup [.int 4, .int 3]) (k := 6) rfl (by decide) (by decide)
  have t3 := oRepT_one (d := .tup [.int 2, .int 1]) (k := 7) rfl (by decide) (by decide)
  refine wp_seq (wp_setP (d := .tup (List.replicate 8 (.tup [.int 3, .int 2]))) (op_run (x := .tup [.tup [.int 3, .int 2]]) rfl rfl t1) (.inl rfl) ?_)
  simp only [startD, List.length_cons, List.length_nil, List.map_cons, List.map_nil, List.replicate_succ, List.replicate_zero, List.cons_append, List.nil_append, List.append_nil, List.set_cons_zero, List.set_cons_succ, Nat.reduceAdd, Nat.reduceSub]
  have hfirst : cOr (cBl (pOp oNe (pOp oIx (pFn g_fewest_moved (qCons (pVar 1) qNil)) (pC (.int 1))) (pC (.int 4)))) (cOr (cBl (pOp oNe (pOp oIx (pFn g_fewest_moved (qCons (pOp oRepT (pTup (qCons (pTup (qCons (pC (.int 4)) (qCons (pC (.int 3)) qNil))) qNil)) (pC (.int 6))) qNil)) (pC (.int 1))) (pC (.int 4)))) (cBl (pOp oNe (pOp oIx (pFn g_fewest_moved (qCons (pOp oRepT (pTup (qCons (pTup (qCons (pC (.int 2)) (qCons (pC (.int 1)) qNil))) qNil)) (pC (.int 7))) qNil)) (pC (.int 1))) (pC (.int 0))))) [some (.scr (ns.map D.int)), some (.tup (List.replicate 8 (.tup [.int 3, .int 2]))), none] = some false := by
    refine cOr_no (cBl_run (op_run (op_run (fn_run (l := [.tup (List.replicate 8 (.tup [.int 3, .int 2]))]) rfl rfl e1 n1) rfl ix1) rfl rfl)) (cOr_no (cBl_run (op_run (op_run (fn_run (l := [.tup (List.replicate 6 (.tup [.int 4, .int 3]))]) (qC_run (op_run (x := .tup [.tup [.int 4, .int 3]]) rfl rfl t2) rfl) rfl e2 n2) rfl ix1) rfl rfl)) (cBl_run (op_run (op_run (fn_run (l := [.tup (List.replicate 7 (.tup [.int 2, .int 1]))]) (qC_run (op_run (x := .tup [.tup [.int 2, .int 1]]) rfl rfl t3) rfl) rfl e3 n3) rfl ix1) rfl rfl)))
  refine wp_seq (wp_no hfirst (wp_nil ?_))
  show WP _ _
  obtain ⟨m, hm⟩ : ∃ m : Nat, m = max 1 (min 2 ns.length) := ⟨_, rfl⟩
  have cs := cells_spec ns 2 (by decide)
  rw [← hm] at cs
  have icells : D.imms (rgD 0 m) = true := by rw [rg_lotD]; exact imms_lotD _
  have seqc : iSeq (pFn g_law_cells_ (qCons (pVar 0) (qCons (pC (.int 2)) qNil))) [some (.scr (ns.map D.int)), some (.tup (List.replicate 8 (.tup [.int 3, .int 2]))), none] = some (rgD 0 m) := by
    refine iSeq_lst (o := true) (fn_run (l := [.scr (ns.map D.int), .int 2]) (l' := [.scr (ns.map D.int), .int ((2 : Nat) : Int)]) rfl ?_ cs ?_) icells
    · rfl
    · rw [rg_lotD]
      exact nof_lotD _
  have lc := lc_bl (g := gdN 2) (c := cYes) (p := pFnT g_law_right_ (pFn g_law_pot_ (qCons (pVar 0) (qCons (pVar 2) qNil))) qNil) (τ := [some (.scr (ns.map D.int)), some (.tup (List.replicate 8 (.tup [.int 3, .int 2]))), none]) (fun i : Nat => D.int (i : Int)) true (List.range m) fun i hi => ⟨_, rfl, by
    have hi : i < 64 := by have := List.mem_range.mp hi; omega
    obtain ⟨r, hr, ep⟩ := pot_spec ns i hi
    obtain ⟨_, p', ⟨rfl, _⟩, er⟩ := right_spec hr (by decide)
    exact fnT_run (fn_run (l := [.scr (ns.map D.int), .int (i : Int)]) rfl rfl ep hr.nof) rfl rfl er rfl hr.nof rfl⟩
  have e0 : (List.range m).map (fun i : Nat => D.int (i : Int)) = rgD 0 m := by rw [rg_lotD]; rfl
  rw [e0] at lc
  exact wp_retP (d := .bl true) (gI_run (call_run (qC_run (lc_eq seqc (Nat.le_trans (m := 1000) (by rw [rgD_len]; omega) (by decide)) rfl lc) rfl) (oAll_rep _)) rfl) (.inl rfl) ⟨_, rfl⟩
end Mt
set_option Elab.async false
set_option linter.all false
set_option maxRecDepth 100000
set_option maxHeartbeats 0
namespace Hd
open PySem PySem.Spec PyProof.Rows L2 DL Wk
def fn : List He.DefD := [⟨("is_int", none), "is_int", "is_int", defArgs (top 5), defBody (top 5), defScope (top 5), [], []⟩,
  ⟨("is_told", none), "is_told", "is_told", defArgs (top 6), defBody (top 6), defScope (top 6), [], []⟩,
  ⟨("shared", none), "shared", "shared", defArgs (top 11), defBody (top 11), defScope (top 11), [], []⟩,
  ⟨("told_fraction", none), "told_fraction", "told_fraction", defArgs (top 12), defBody (top 12), defScope (top 12), [], []⟩,
  ⟨("is_exact", none), "is_exact", "is_exact", defArgs (top 13), defBody (top 13), defScope (top 13), [], []⟩,
  ⟨("is_exact_price", none), "is_exact_price", "is_exact_price", defArgs (top 14), defBody (top 14), defScope (top 14), [], []⟩,
  ⟨("is_fraction", none), "is_fraction", "is_fraction", defArgs (top 15), defBody (top 15), defScope (top 15), [], []⟩,
  ⟨("is_price", none), "is_price", "is_price", defArgs (top 16), defBody (top 16), defScope (top 16), [], []⟩,
  ⟨("plus", none), "plus", "plus", defArgs (top 17), defBody (top 17), defScope (top 17), [], []⟩,
  ⟨("minus", none), "minus", "minus", defArgs (top 18), defBody (top 18), defScope (top 18), [], []⟩,
  ⟨("over", none), "over", "over", defArgs (top 19), defBody (top 19), defScope (top 19), [], []⟩,
  ⟨("is_less", none), "is_less", "is_less", defArgs (top 20), defBody (top 20), defScope (top 20), [], []⟩,
  ⟨("summed", none), "summed", "summed", defArgs (top 21), defBody (top 21), defScope (top 21), [], []⟩,
  ⟨("is_need_row", none), "is_need_row", "is_need_row", defArgs (top 26), defBody (top 26), defScope (top 26), [], []⟩,
  ⟨("look_at_needs", none), "look_at_needs", "look_at_needs", defArgs (top 27), defBody (top 27), defScope (top 27), [], []⟩,
  ⟨("told_lots", none), "told_lots", "told_lots", defArgs (top 28), defBody (top 28), defScope (top 28), [], []⟩,
  ⟨("told_pairs", none), "told_pairs", "told_pairs", defArgs (top 29), defBody (top 29), defScope (top 29), [], []⟩,
  ⟨("fewest_moved", none), "fewest_moved", "fewest_moved", defArgs (top 30), defBody (top 30), defScope (top 30), [], []⟩,
  ⟨("are_pairs", none), "are_pairs", "are_pairs", defArgs (top 31), defBody (top 31), defScope (top 31), [], []⟩,
  ⟨("are_lots", none), "are_lots", "are_lots", defArgs (top 32), defBody (top 32), defScope (top 32), [], []⟩,
  ⟨("shows_fewest_moved", none), "shows_fewest_moved", "shows_fewest_moved", defArgs (top 33), defBody (top 33), defScope (top 33), [], []⟩,
  ⟨("ways_of_pairs", none), "ways_of_pairs", "ways_of_pairs", defArgs (top 34), defBody (top 34), defScope (top 34), [], []⟩,
  ⟨("_law_pot", none), "_law_pot", "_law_pot", defArgs (top 36), defBody (top 36), defScope (top 36), [], []⟩,
  ⟨("_law_take", none), "_law_take", "_law_take", defArgs (top 37), defBody (top 37), defScope (top 37), [], []⟩,
  ⟨("_law_of", none), "_law_of", "_law_of", defArgs (top 38), defBody (top 38), defScope (top 38), [], []⟩,
  ⟨("_law_cells", none), "_law_cells", "_law_cells", defArgs (top 39), defBody (top 39), defScope (top 39), [], []⟩,
  ⟨("_law_some", none), "_law_some", "_law_some", defArgs (top 40), defBody (top 40), defScope (top 40), [], []⟩,
  ⟨("_law_frac", none), "_law_frac", "_law_frac", defArgs (top 41), defBody (top 41), defScope (top 41), [], []⟩,
  ⟨("_law_plus", none), "_law_plus", "_law_plus", defArgs (top 42), defBody (top 42), defScope (top 42), [], []⟩,
  ⟨("_law_over", none), "_law_over", "_law_over", defArgs (top 43), defBody (top 43), defScope (top 43), [], []⟩,
  ⟨("_law_sum", none), "_law_sum", "_law_sum", defArgs (top 44), defBody (top 44), defScope (top 44), [], []⟩,
  ⟨("_law_is_less", none), "_law_is_less", "_law_is_less", defArgs (top 45), defBody (top 45), defScope (top 45), [], []⟩,
  ⟨("_law_needs_drawn", none), "_law_needs_drawn", "_law_needs_drawn", defArgs (top 46), defBody (top 46), defScope (top 46), [], []⟩,
  ⟨("_law_most_lots", none), "_law_most_lots", "_law_most_lots", defArgs (top 47), defBody (top 47), defScope (top 47), [], []⟩,
  ⟨("_law_are_pairs", none), "_law_are_pairs", "_law_are_pairs", defArgs (top 48), defBody (top 48), defScope (top 48), [], []⟩,
  ⟨("_law_is_right", none), "_law_is_right", "_law_is_right", defArgs (top 49), defBody (top 49), defScope (top 49), [], []⟩,
  ⟨("_law_right", none), "_law_right", "_law_right", defArgs (top 50), defBody (top 50), defScope (top 50), [], []⟩,
  ⟨("law", none), "law", "law", defArgs (top 51), defBody (top 51), defScope (top 51), [], []⟩]
def dLaw : He.DefD := ⟨("law", none), "law", "law", defArgs (top 51), defBody (top 51), defScope (top 51), [], []⟩
def fa : List He.Fa := [.glo "is_int", .glo "is_told", .glo "shared", .glo "told_fraction", .glo "is_exact", .glo "is_exact_price", .glo "is_fraction", .glo "is_price", .glo "plus", .glo "minus", .glo "over", .glo "is_less", .glo "summed", .glo "is_need_row", .glo "look_at_needs", .glo "told_lots", .glo "told_pairs", .glo "fewest_moved", .glo "are_pairs", .glo "are_lots", .glo "shows_fewest_moved", .glo "ways_of_pairs", .glo "_law_pot", .glo "_law_take", .glo "_law_of", .glo "_law_cells", .glo "_law_some", .glo "_law_frac", .glo "_law_plus", .glo "_law_over", .glo "_law_sum", .glo "_law_is_less", .glo "_law_needs_drawn", .glo "_law_most_lots", .glo "_law_are_pairs", .glo "_law_is_right", .glo "_law_right", .glo "law", .free "len", .free "abs", .free "int", .free "max", .free "min", .free "sum", .free "any", .free "all", .free "list", .free "tuple", .free "sorted", .free "range", .free "enumerate", .free "isinstance", .free "set", .free "dict", .free "bool", .free "str", .glo "NOUGHT", .glo "ONE", .int "GREATEST" 1000000, .int "MOST_NEEDS" 8, .int "MOST_WORN" 60, .str "MOVED" "moved"]
def ex (K : PySem.W.Frag) : Bool := He.tupB K "NOUGHT" [.int 0, .int 1] && He.tupB K "ONE" [.int 1, .int 1]
abbrev R : PySem.W.OpenRow := PySem.W.OpenLaw.row PySem.Challenge.rw_servedlongest_k45_whole_parts_wholly_wor
abbrev hk : PySem.W.Hook := hookX 4 ex fa fn
def ob (s : PySem.W.SharedT) : He.AlD := obsXG 4 ex fa fn (HandSHeadRun.getT s)
theorem ob_eq (s : PySem.W.SharedT) : ob s = hk.obs s.abs := obsXG_eq (HandSHeadRun.getT_eq s)
def loose : List PySem.Str := (["WearError", "BadRow", "BadTold", "is_int", "is_told", "NOUGHT", "ONE", "GREATEST", "shared", "told_fraction", "is_exact", "is_exact_price", "is_fraction", "is_price", "plus", "minus", "over", "is_less", "summed", "MOST_NEEDS", "MOST_WORN", "MOVED", "is_need_row", "look_at_needs", "told_lots", "told_pairs", "fewest_moved", "are_pairs", "are_lots", "shows_fewest_moved"] : List PySem.Str) ++ (["ways_of_pairs", "_law_pot", "_law_take", "_law_of", "_law_cells", "_law_some", "_law_frac", "_law_plus", "_law_over", "_law_sum", "_law_is_less", "_law_needs_drawn", "_law_most_lots", "_law_are_pairs", "_law_is_right", "_law_right"] : List PySem.Str)
theorem run (w : World) : HandSHeadRun.RunEq R (PySem.W.view R.prog [51]) hk ob 4000 loose w := by
  intro os
  kernel_rfl
theorem ctx {K : PySem.W.Frag} {h : Heap} {mg : Str → Option Value} (KX : K.In h) (G : h.Ns mainGlobals mg) (c : SaysX ex fa fn K) : Ctx K mg := by
  have b := c.both
  have e := b.2
  simp only [ex, Bool.and_eq_true] at e
  obtain ⟨h0, h1⟩ := e
  exact {
  d_is_int := defAt b.1 KX G 0 0 rfl rfl fun f fd F => F.bindsN fun _ _ _ _ _ _ us hl => match us, hl with | [_, _, _], _ => rfl,
  d_is_told := defAt b.1 KX G 1 1 rfl rfl fun f fd F => F.bindsN fun _ _ _ _ _ _ us hl => match us, hl with | [_, _], _ => rfl,
  d_shared := defAt b.1 KX G 2 2 rfl rfl fun f fd F => F.bindsN fun _ _ _ _ _ _ us hl => match us, hl with | [_, _], _ => rfl,
  d_told_fraction := defAt b.1 KX G 3 3 rfl rfl fun f fd F => F.bindsN fun _ _ _ _ _ _ us hl => match us, hl with | [_, _], _ => rfl,
  d_is_exact := defAt b.1 KX G 4 4 rfl rfl fun f fd F => F.bindsN fun _ _ _ _ _ _ us hl => match us, hl with | [_], _ => rfl,
  d_is_exact_price := defAt b.1 KX G 5 5 rfl rfl fun f fd F => F.bindsN fun _ _ _ _ _ _ us hl => match us, hl with | [_], _ => rfl,
  d_is_fraction := defAt b.1 KX G 6 6 rfl rfl fun f fd F => F.bindsN fun _ _ _ _ _ _ us hl => match us, hl with | [_], _ => rfl,
  d_is_price := defAt b.1 KX G 7 7 rfl rfl fun f fd F => F.bindsN fun _ _ _ _ _ _ us hl => match us, hl with | [_], _ => rfl,
  d_plus := defAt b.1 KX G 8 8 rfl rfl fun f fd F => F.bindsN fun _ _ _ _ _ _ us hl => match us, hl with | [_, _], _ => rfl,
  d_minus := defAt b.1 KX G 9 9 rfl rfl fun f fd F => F.bindsN fun _ _ _ _ _ _ us hl => match us, hl with | [_, _], _ => rfl,
  d_over := defAt b.1 KX G 10 10 rfl rfl fun f fd F => F.bindsN fun _ _ _ _ _ _ us hl => match us, hl with | [_, _], _ => rfl,
  d_is_less := defAt b.1 KX G 11 11 rfl rfl fun f fd F => F.bindsN fun _ _ _ _ _ _ us hl => match us, hl with | [_, _], _ => rfl,
  d_summed := defAt b.1 KX G 12 12 rfl rfl fun f fd F => F.bindsN fun _ _ _ _ _ _ us hl => match us, hl with | [_], _ => rfl,
  d_is_need_row := defAt b.1 KX G 13 13 rfl rfl fun f fd F => F.bindsN fun _ _ _ _ _ _ us hl => match us, hl with | [_], _ => rfl,
  d_look_at_needs := defAt b.1 KX G 14 14 rfl rfl fun f fd F => F.bindsN fun _ _ _ _ _ _ us hl => match us, hl with | [_], _ => rfl,
  d_told_lots := defAt b.1 KX G 15 15 rfl rfl fun f fd F => F.bindsN fun _ _ _ _ _ _ us hl => match us, hl with | [_], _ => rfl,
  d_told_pairs := defAt b.1 KX G 16 16 rfl rfl fun f fd F => F.bindsN fun _ _ _ _ _ _ us hl => match us, hl with | [_, _], _ => rfl,
  d_fewest_moved := defAt b.1 KX G 17 17 rfl rfl fun f fd F => F.bindsN fun _ _ _ _ _ _ us hl => match us, hl with | [_], _ => rfl,
  d_are_pairs := defAt b.1 KX G 18 18 rfl rfl fun f fd F => F.bindsN fun _ _ _ _ _ _ us hl => match us, hl with | [_, _], _ => rfl,
  d_are_lots := defAt b.1 KX G 19 19 rfl rfl fun f fd F => F.bindsN fun _ _ _ _ _ _ us hl => match us, hl with | [_, _], _ => rfl,
  d_shows_fewest_moved := defAt b.1 KX G 20 20 rfl rfl fun f fd F => F.bindsN fun _ _ _ _ _ _ us hl => match us, hl with | [_, _], _ => rfl,
  d_ways_of_pairs := defAt b.1 KX G 21 21 rfl rfl fun f fd F => F.bindsN fun _ _ _ _ _ _ us hl => match us, hl with | [_, _], _ => rfl,
  d_law_pot_ := defAt b.1 KX G 22 22 rfl rfl fun f fd F => F.bindsN fun _ _ _ _ _ _ us hl => match us, hl with | [_, _], _ => rfl,
  d_law_take_ := defAt b.1 KX G 23 23 rfl rfl fun f fd F => F.bindsN fun _ _ _ _ _ _ us hl => match us, hl with | [_, _], _ => rfl,
  d_law_of_ := defAt b.1 KX G 24 24 rfl rfl fun f fd F => F.bindsN fun _ _ _ _ _ _ us hl => match us, hl with | [_, _], _ => rfl,
  d_law_cells_ := defAt b.1 KX G 25 25 rfl rfl fun f fd F => F.bindsN fun _ _ _ _ _ _ us hl => match us, hl with | [_, _], _ => rfl,
  d_law_some_ := defAt b.1 KX G 26 26 rfl rfl fun f fd F => F.bindsN fun _ _ _ _ _ _ us hl => match us, hl with | [_, _, _], _ => rfl,
  d_law_frac_ := defAt b.1 KX G 27 27 rfl rfl fun f fd F => F.bindsN fun _ _ _ _ _ _ us hl => match us, hl with | [_, _], _ => rfl,
  d_law_plus_ := defAt b.1 KX G 28 28 rfl rfl fun f fd F => F.bindsN fun _ _ _ _ _ _ us hl => match us, hl with | [_, _], _ => rfl,
  d_law_over_ := defAt b.1 KX G 29 29 rfl rfl fun f fd F => F.bindsN fun _ _ _ _ _ _ us hl => match us, hl with | [_, _], _ => rfl,
  d_law_sum_ := defAt b.1 KX G 30 30 rfl rfl fun f fd F => F.bindsN fun _ _ _ _ _ _ us hl => match us, hl with | [_], _ => rfl,
  d_law_is_less_ := defAt b.1 KX G 31 31 rfl rfl fun f fd F => F.bindsN fun _ _ _ _ _ _ us hl => match us, hl with | [_, _], _ => rfl,
  d_law_needs_drawn_ := defAt b.1 KX G 32 32 rfl rfl fun f fd F => F.bindsN fun _ _ _ _ _ _ us hl => match us, hl with | [_, _], _ => rfl,
  d_law_most_lots_ := defAt b.1 KX G 33 33 rfl rfl fun f fd F => F.bindsN fun _ _ _ _ _ _ us hl => match us, hl with | [_], _ => rfl,
  d_law_are_pairs_ := defAt b.1 KX G 34 34 rfl rfl fun f fd F => F.bindsN fun _ _ _ _ _ _ us hl => match us, hl with | [_, _, _], _ => rfl,
  d_law_is_right_ := defAt b.1 KX G 35 35 rfl rfl fun f fd F => F.bindsN fun _ _ _ _ _ _ us hl => match us, hl with | [_, _], _ => rfl,
  d_law_right_ := defAt b.1 KX G 36 36 rfl rfl fun f fd F => F.bindsN fun _ _ _ _ _ _ us hl => match us, hl with | [_], _ => rfl,
  d_law := defAt b.1 KX G 37 37 rfl rfl fun f fd F => F.bindsN fun _ _ _ _ _ _ us hl => match us, hl with | [_], _ => rfl,
  b_len := He.free_ok KX G (b.1.fact 38 rfl),
  b_abs := He.free_ok KX G (b.1.fact 39 rfl),
  b_int := He.free_ok KX G (b.1.fact 40 rfl),
  b_max := He.free_ok KX G (b.1.fact 41 rfl),
  b_min := He.free_ok KX G (b.1.fact 42 rfl),
  b_sum := He.free_ok KX G (b.1.fact 43 rfl),
  b_any := He.free_ok KX G (b.1.fact 44 rfl),
  b_all := He.free_ok KX G (b.1.fact 45 rfl),
  b_list := He.free_ok KX G (b.1.fact 46 rfl),
  b_tuple := He.free_ok KX G (b.1.fact 47 rfl),
  b_sorted := He.free_ok KX G (b.1.fact 48 rfl),
  b_range := He.free_ok KX G (b.1.fact 49 rfl),
  b_enumerate := He.free_ok KX G (b.1.fact 50 rfl),
  b_isinstance := He.free_ok KX G (b.1.fact 51 rfl),
  b_set := He.free_ok KX G (b.1.fact 52 rfl),
  b_dict := He.free_ok KX G (b.1.fact 53 rfl),
  b_bool := He.free_ok KX G (b.1.fact 54 rfl),
  b_str := He.free_ok KX G (b.1.fact 55 rfl),
  c_NOUGHT := ⟨_, He.glo_ok KX G (b.1.fact 56 rfl), fun H => He.tupB_ok h0 H⟩,
  c_ONE := ⟨_, He.glo_ok KX G (b.1.fact 57 rfl), fun H => He.tupB_ok h1 H⟩,
  c_GREATEST := He.int_ok KX G (b.1.fact 58 rfl),
  c_MOST_NEEDS := He.int_ok KX G (b.1.fact 59 rfl),
  c_MOST_WORN := He.int_ok KX G (b.1.fact 60 rfl),
  c_MOVED := He.str_ok KX G (b.1.fact 61 rfl) }
end Hd
open PySem PySem.W PySem.Calls PyProof.Rows
theorem PySem.Challenge.cw_servedlongest_k45_whole_parts_wholly_wor_holds : PySem.Challenge.rw_servedlongest_k45_whole_parts_wholly_wor.Holds := by
  w_on; o_law
  refine HandSHeadRun.head_any (r := OpenLaw.row PySem.Challenge.rw_servedlongest_k45_whole_parts_wholly_wor) (q := view (OpenLaw.row PySem.Challenge.rw_servedlongest_k45_whole_parts_wholly_wor).prog [51]) (H := Hd.hk) (ob := Hd.ob) (M := 4000) (loose := Hd.loose) (d := HandSHeadRun.topDef (OpenLaw.row PySem.Challenge.rw_servedlongest_k45_whole_parts_wholly_wor).prog 51) (kwd := []) Hd.ob_eq
    (by kernel_rfl) (fun s => by kernel_rfl) Hd.run (by kernel_rfl) (by kernel_rfl) (by kernel_rfl) (by rfl) (by first | assumption | decide +kernel) (by decide +kernel) ⟨rfl, rfl, rfl, rfl, rfl, by decide +kernel⟩ ?hw ?hc
  case hw => w_witness2
  case hc =>
    refine L2.walk_ofE (l := PySem.Challenge.rw_servedlongest_k45_whole_parts_wholly_wor) (n := 63) (k := 11) (x := "script") (CX := L2.CX0) rfl (by decide) (by kernel_rfl) ⟨rfl, by decide, by decide⟩ ?F (fun _ _ _ _ z => z)
    intro w mg fa h Y G hmg0
    obtain ⟨K, KX, c⟩ := Y
    have hmg : mg ("law" : PySem.Str) = some (.ref fa) := by
      have e : (HandSHeadRun.topDef (OpenLaw.row PySem.Challenge.rw_servedlongest_k45_whole_parts_wholly_wor).prog 51).name = ("law" : PySem.Str) := by kernel_rfl
      rw [← e]
      exact hmg0
    have b := c.both
    obtain ⟨fd, F⟩ := b.1.def_ 37 (d := Hd.dLaw) rfl
    have e := hmg.symm.trans (He.glo_ok KX G (b.1.fact 37 (f := .glo "law") rfl))
    cases e
    have bb := L2.FunD.bindsA (ps := ["script"]) F fun _ _ _ _ _ _ us hl => match us, hl with | [_], _ => rfl
    exact ⟨K, fd, DL.spP K Wk.g_law, KX, fun s v => bb s [v] rfl, fun H a ns hl ho hS => DL.law_sp (Mt.law_true ns hl) ho hS, fun base _ _ => Wk.L_law (Hd.ctx KX G c) F⟩
