import PyProof.Rows.All
import HandS.ForMost
import HandS.ForExc
import HandS.Deep
import HandS.More
import HandS.TupAny
import HandS.TupLen
import HandS.SetKeys
import HandS.IsInst
import HandS.Zip
import KE.SortData
import KE.DataMinMax
import KE.KDictCopyH
import KE.KDictSum
import PySem.Challenge.RW_lonetrack_k39_webs_renamed
import Wide.All
import OpenK.AllK
import Wide.FinOn
set_option Elab.async false
set_option linter.all false
set_option maxRecDepth 100000
set_option maxHeartbeats 4000000
/-! VS1: data D, what a heap holds of it (RepT), its lemmas. -/
namespace VS
open PySem PySem.Spec PyProof.Rows L2

/-- data as trees. lst o: o tells that the list is owned (may be changed); else it is frozen (shared, never changed). -/
inductive D where
  | unk | hole | non | bl (b : Bool) | int (i : Int) | str (x : Str)
  | tup (ds : List D) | lst (o : Bool) (ds : List D) | scr (ds : List D) | ktp (ds : List D)
  | dK (o : Bool) (ks : List Key) (ds : List D)
  | dT (o : Bool) (ks : List (List Key)) (ds : List D)
abbrev Env := List D

mutual
def fz : D → Bool
  | .unk => false
  | .hole => false
  | .non => true
  | .bl _ => true
  | .int _ => true
  | .str _ => true
  | .tup ds => fzL ds
  | .lst o ds => !o && fzL ds
  | .scr ds => fzL ds
  | .ktp ds => fzL ds
  | .dK o _ ds => !o && fzL ds
  | .dT o _ ds => !o && fzL ds
def fzL : List D → Bool
  | [] => true
  | d :: ds => fz d && fzL ds
end
mutual
def freeze : D → D
  | .tup ds => .tup (freezeL ds)
  | .lst _ ds => .lst false (freezeL ds)
  | .scr ds => .scr (freezeL ds)
  | .ktp ds => .ktp (freezeL ds)
  | .dK _ ks ds => .dK false ks (freezeL ds)
  | .dT _ ks ds => .dT false ks (freezeL ds)
  | .hole => .unk
  | .unk => .unk
  | .non => .non
  | .bl b => .bl b
  | .int i => .int i
  | .str x => .str x
def freezeL : List D → List D
  | [] => []
  | d :: ds => freeze d :: freezeL ds
end
theorem freezeL_map : ∀ ds : List D, freezeL ds = ds.map freeze
  | [] => rfl
  | d :: ds => by rw [freezeL, freezeL_map ds]; rfl
theorem fzL_all : ∀ ds : List D, fzL ds = ds.all fz
  | [] => rfl
  | d :: ds => by rw [fzL, fzL_all ds]; rfl
mutual
theorem freeze_fz : ∀ d : D, fz d = true → freeze d = d
  | .unk, h => by simp [fz] at h
  | .hole, h => by simp [fz] at h
  | .non, _ => rfl
  | .bl _, _ => rfl
  | .int _, _ => rfl
  | .str _, _ => rfl
  | .tup ds, h => by
    rw [fz] at h
    rw [freeze, freezeL_fz ds h]
  | .lst o ds, h => by
    rw [fz, Bool.and_eq_true] at h
    obtain ⟨h1, h2⟩ := h
    have : o = false := by cases o <;> simp_all
    rw [freeze, freezeL_fz ds h2, this]
  | .scr ds, h => by
    rw [fz] at h
    rw [freeze, freezeL_fz ds h]
  | .ktp ds, h => by
    rw [fz] at h
    rw [freeze, freezeL_fz ds h]
  | .dK o ks ds, h => by
    rw [fz, Bool.and_eq_true] at h
    obtain ⟨h1, h2⟩ := h
    have : o = false := by cases o <;> simp_all
    rw [freeze, freezeL_fz ds h2, this]
  | .dT o ks ds, h => by
    rw [fz, Bool.and_eq_true] at h
    obtain ⟨h1, h2⟩ := h
    have : o = false := by cases o <;> simp_all
    rw [freeze, freezeL_fz ds h2, this]
theorem freezeL_fz : ∀ ds : List D, fzL ds = true → freezeL ds = ds
  | [], _ => rfl
  | d :: ds, h => by
    rw [fzL, Bool.and_eq_true] at h
    rw [freezeL, freeze_fz d h.1, freezeL_fz ds h.2]
end

section
variable (K : PySem.W.Frag) (F H : Hp)
mutual
/-- the value v is the data d: frozen parts in F, owned ones in H at the addresses A -/
def Ow : D → V → List Addr → Prop
  | .unk, _, A => A = []
  | .hole, v, A => ∃ a o, v = .ref a ∧ (H a = some o ∧ ∀ xs, o ≠ .tup xs) ∧ A = [a]
  | .non, v, A => v = .non ∧ A = []
  | .bl b, v, A => v = .bl b ∧ A = []
  | .int i, v, A => v = .int i ∧ A = []
  | .str x, v, A => v = .str x ∧ A = []
  | .tup ds, v, A => ∃ a vs, v = .ref a ∧ F a = some (.tup vs) ∧ OwL ds vs A
  | .ktp ds, v, A => ∃ a vs, v = .ref a ∧ SqT K F a vs ∧ OwL ds vs A
  | .lst false ds, v, A => ∃ a vs, v = .ref a ∧ F a = some (.lst vs) ∧ OwL ds vs A
  | .scr ds, v, A => ∃ a vs, v = .ref a ∧ SqL K F a vs ∧ OwL ds vs A
  | .lst true ds, v, A => ∃ a vs A', v = .ref a ∧ H a = some (.lst vs) ∧ OwL ds vs A' ∧ A = a :: A'
  | .dK false ks ds, v, A => ∃ a vs, v = .ref a ∧ F a = some (.dK (ks.zip vs)) ∧ (ks.length = ds.length ∧ ks.Nodup) ∧ OwL ds vs A
  | .dK true ks ds, v, A => ∃ a vs A', v = .ref a ∧ H a = some (.dK (ks.zip vs)) ∧ (ks.length = ds.length ∧ ks.Nodup) ∧ OwL ds vs A' ∧ A = a :: A'
  | .dT false ks ds, v, A => ∃ a vs, v = .ref a ∧ F a = some (.dT (ks.zip vs)) ∧ (ks.length = ds.length ∧ ks.Nodup) ∧ OwL ds vs A
  | .dT true ks ds, v, A => ∃ a vs A', v = .ref a ∧ H a = some (.dT (ks.zip vs)) ∧ (ks.length = ds.length ∧ ks.Nodup) ∧ OwL ds vs A' ∧ A = a :: A'
def OwL : List D → List V → List Addr → Prop
  | [], vs, A => vs = [] ∧ A = []
  | d :: ds, vs, A => ∃ v r A1 A2, vs = v :: r ∧ A = A1 ++ A2 ∧ Ow d v A1 ∧ OwL ds r A2
end
end
variable {K : PySem.W.Frag} {F F' H H' : Hp}

theorem Same.sqT {a : Addr} {xs : List V} (e : Same F H) (h : SqT K F a xs) : SqT K H a xs := by
  rcases h with (h | ⟨o, h⟩) | h
  · exact .inl (.inl (e _ _ h))
  · exact .inl (.inr ⟨o, e _ _ h⟩)
  · exact .inr h

mutual
theorem Ow.keep (sF : Same F F') : ∀ (d : D) (v : V) (A : List Addr), Ow K F H d v A → (∀ a ∈ A, H' a = H a) → Ow K F' H' d v A
  | .unk, v, A, h, _ => by rw [Ow] at h ⊢; exact h
  | .hole, v, A, h, k => by
    rw [Ow] at h ⊢
    obtain ⟨a, o, e, ho, rfl⟩ := h
    exact ⟨a, o, e, ⟨by rw [k a (by simp)]; exact ho.1, ho.2⟩, rfl⟩
  | .non, v, A, h, _ => by rw [Ow] at h ⊢; exact h
  | .bl b, v, A, h, _ => by rw [Ow] at h ⊢; exact h
  | .int i, v, A, h, _ => by rw [Ow] at h ⊢; exact h
  | .str x, v, A, h, _ => by rw [Ow] at h ⊢; exact h
  | .tup ds, v, A, h, k => by
    rw [Ow] at h ⊢
    obtain ⟨a, vs, e, q, l⟩ := h
    exact ⟨a, vs, e, sF _ _ q, OwL.keep sF ds vs A l k⟩
  | .ktp ds, v, A, h, k => by
    rw [Ow] at h ⊢
    obtain ⟨a, vs, e, q, l⟩ := h
    exact ⟨a, vs, e, Same.sqT sF q, OwL.keep sF ds vs A l k⟩
  | .lst false ds, v, A, h, k => by
    rw [Ow] at h ⊢
    obtain ⟨a, vs, e, q, l⟩ := h
    exact ⟨a, vs, e, sF _ _ q, OwL.keep sF ds vs A l k⟩
  | .scr ds, v, A, h, k => by
    rw [Ow] at h ⊢
    obtain ⟨a, vs, e, q, l⟩ := h
    exact ⟨a, vs, e, sF.seq q, OwL.keep sF ds vs A l k⟩
  | .lst true ds, v, A, h, k => by
    rw [Ow] at h ⊢
    obtain ⟨a, vs, A', e, q, l, rfl⟩ := h
    exact ⟨a, vs, A', e, by rw [k a (by simp)]; exact q, OwL.keep sF ds vs A' l fun b hb => k b (List.mem_cons_of_mem _ hb), rfl⟩
  | .dK false ks ds, v, A, h, k => by
    rw [Ow] at h ⊢
    obtain ⟨a, vs, e, q, n, l⟩ := h
    exact ⟨a, vs, e, sF _ _ q, n, OwL.keep sF ds vs A l k⟩
  | .dK true ks ds, v, A, h, k => by
    rw [Ow] at h ⊢
    obtain ⟨a, vs, A', e, q, n, l, rfl⟩ := h
    exact ⟨a, vs, A', e, by rw [k a (by simp)]; exact q, n, OwL.keep sF ds vs A' l fun b hb => k b (List.mem_cons_of_mem _ hb), rfl⟩
  | .dT false ks ds, v, A, h, k => by
    rw [Ow] at h ⊢
    obtain ⟨a, vs, e, q, n, l⟩ := h
    exact ⟨a, vs, e, sF _ _ q, n, OwL.keep sF ds vs A l k⟩
  | .dT true ks ds, v, A, h, k => by
    rw [Ow] at h ⊢
    obtain ⟨a, vs, A', e, q, n, l, rfl⟩ := h
    exact ⟨a, vs, A', e, by rw [k a (by simp)]; exact q, n, OwL.keep sF ds vs A' l fun b hb => k b (List.mem_cons_of_mem _ hb), rfl⟩
theorem OwL.keep (sF : Same F F') : ∀ (ds : List D) (vs : List V) (A : List Addr), OwL K F H ds vs A → (∀ a ∈ A, H' a = H a) → OwL K F' H' ds vs A
  | [], vs, A, h, _ => by rw [OwL] at h ⊢; exact h
  | d :: ds, vs, A, h, k => by
    rw [OwL] at h ⊢
    obtain ⟨v, r, A1, A2, e, rfl, h1, h2⟩ := h
    exact ⟨v, r, A1, A2, e, rfl, Ow.keep sF d v A1 h1 fun a ha => k a (List.mem_append_left _ ha), OwL.keep sF ds r A2 h2 fun a ha => k a (List.mem_append_right _ ha)⟩
end

mutual
/-- an owned address stands in H -/
theorem Ow.dom : ∀ (d : D) (v : V) (A : List Addr), Ow K F H d v A → ∀ a ∈ A, ∃ o, H a = some o ∧ ∀ xs, o ≠ .tup xs
  | .unk, v, A, h, a, ha => by rw [Ow] at h; subst h; cases ha
  | .hole, v, A, h, a, ha => by
    rw [Ow] at h
    obtain ⟨b, o, _, ho, rfl⟩ := h
    rw [List.mem_singleton] at ha
    subst ha
    exact ⟨o, ho⟩
  | .non, v, A, h, a, ha => by rw [Ow] at h; rw [h.2] at ha; cases ha
  | .bl b, v, A, h, a, ha => by rw [Ow] at h; rw [h.2] at ha; cases ha
  | .int i, v, A, h, a, ha => by rw [Ow] at h; rw [h.2] at ha; cases ha
  | .str x, v, A, h, a, ha => by rw [Ow] at h; rw [h.2] at ha; cases ha
  | .tup ds, v, A, h, a, ha => by
    rw [Ow] at h
    obtain ⟨_, vs, _, _, l⟩ := h
    exact OwL.dom ds vs A l a ha
  | .lst false ds, v, A, h, a, ha => by
    rw [Ow] at h
    obtain ⟨_, vs, _, _, l⟩ := h
    exact OwL.dom ds vs A l a ha
  | .scr ds, v, A, h, a, ha => by
    rw [Ow] at h
    obtain ⟨_, vs, _, _, l⟩ := h
    exact OwL.dom ds vs A l a ha
  | .ktp ds, v, A, h, a, ha => by
    rw [Ow] at h
    obtain ⟨_, vs, _, _, l⟩ := h
    exact OwL.dom ds vs A l a ha
  | .lst true ds, v, A, h, a, ha => by
    rw [Ow] at h
    obtain ⟨b, vs, A', _, q, l, rfl⟩ := h
    rcases List.mem_cons.mp ha with rfl | ha
    · exact ⟨_, q, fun xs z => by cases z⟩
    · exact OwL.dom ds vs A' l a ha
  | .dK false ks ds, v, A, h, a, ha => by
    rw [Ow] at h
    obtain ⟨_, vs, _, _, _, l⟩ := h
    exact OwL.dom ds vs A l a ha
  | .dK true ks ds, v, A, h, a, ha => by
    rw [Ow] at h
    obtain ⟨b, vs, A', _, q, _, l, rfl⟩ := h
    rcases List.mem_cons.mp ha with rfl | ha
    · exact ⟨_, q, fun xs z => by cases z⟩
    · exact OwL.dom ds vs A' l a ha
  | .dT false ks ds, v, A, h, a, ha => by
    rw [Ow] at h
    obtain ⟨_, vs, _, _, _, l⟩ := h
    exact OwL.dom ds vs A l a ha
  | .dT true ks ds, v, A, h, a, ha => by
    rw [Ow] at h
    obtain ⟨b, vs, A', _, q, _, l, rfl⟩ := h
    rcases List.mem_cons.mp ha with rfl | ha
    · exact ⟨_, q, fun xs z => by cases z⟩
    · exact OwL.dom ds vs A' l a ha
theorem OwL.dom : ∀ (ds : List D) (vs : List V) (A : List Addr), OwL K F H ds vs A → ∀ a ∈ A, ∃ o, H a = some o ∧ ∀ xs, o ≠ .tup xs
  | [], vs, A, h, a, ha => by rw [OwL] at h; rw [h.2] at ha; cases ha
  | d :: ds, vs, A, h, a, ha => by
    rw [OwL] at h
    obtain ⟨v, r, A1, A2, _, rfl, h1, h2⟩ := h
    rcases List.mem_append.mp ha with ha | ha
    · exact Ow.dom d v A1 h1 a ha
    · exact OwL.dom ds r A2 h2 a ha
end

mutual
/-- frozen data own nothing -/
theorem Ow.frozen : ∀ (d : D) (v : V) (A : List Addr), fz d = true → Ow K F H d v A → A = []
  | .unk, v, A, z, h => by rw [Ow] at h; exact h
  | .hole, v, A, z, h => by simp [fz] at z
  | .non, v, A, z, h => by rw [Ow] at h; exact h.2
  | .bl b, v, A, z, h => by rw [Ow] at h; exact h.2
  | .int i, v, A, z, h => by rw [Ow] at h; exact h.2
  | .str x, v, A, z, h => by rw [Ow] at h; exact h.2
  | .tup ds, v, A, z, h => by
    rw [Ow] at h
    obtain ⟨_, vs, _, _, l⟩ := h
    rw [fz] at z
    exact OwL.frozen ds vs A z l
  | .lst false ds, v, A, z, h => by
    rw [Ow] at h
    obtain ⟨_, vs, _, _, l⟩ := h
    rw [fz, Bool.and_eq_true] at z
    exact OwL.frozen ds vs A z.2 l
  | .lst true ds, v, A, z, h => by simp [fz] at z
  | .scr ds, v, A, z, h => by
    rw [Ow] at h
    obtain ⟨_, vs, _, _, l⟩ := h
    rw [fz] at z
    exact OwL.frozen ds vs A z l
  | .ktp ds, v, A, z, h => by
    rw [Ow] at h
    obtain ⟨_, vs, _, _, l⟩ := h
    rw [fz] at z
    exact OwL.frozen ds vs A z l
  | .dK false ks ds, v, A, z, h => by
    rw [Ow] at h
    obtain ⟨_, vs, _, _, _, l⟩ := h
    rw [fz, Bool.and_eq_true] at z
    exact OwL.frozen ds vs A z.2 l
  | .dK true ks ds, v, A, z, h => by simp [fz] at z
  | .dT false ks ds, v, A, z, h => by
    rw [Ow] at h
    obtain ⟨_, vs, _, _, _, l⟩ := h
    rw [fz, Bool.and_eq_true] at z
    exact OwL.frozen ds vs A z.2 l
  | .dT true ks ds, v, A, z, h => by simp [fz] at z
theorem OwL.frozen : ∀ (ds : List D) (vs : List V) (A : List Addr), fzL ds = true → OwL K F H ds vs A → A = []
  | [], vs, A, _, h => by rw [OwL] at h; exact h.2
  | d :: ds, vs, A, z, h => by
    rw [OwL] at h
    rw [fzL, Bool.and_eq_true] at z
    obtain ⟨v, r, A1, A2, _, rfl, h1, h2⟩ := h
    rw [Ow.frozen d v A1 z.1 h1, OwL.frozen ds r A2 z.2 h2]
    rfl
end

mutual
/-- what is owned becomes frozen -/
theorem Ow.freeze (sF : Same F F') : ∀ (d : D) (v : V) (A : List Addr), Ow K F H d v A → (∀ a ∈ A, F' a = H a) → Ow K F' H' (VS.freeze d) v []
  | .unk, v, A, h, _ => by rw [VS.freeze, Ow]
  | .hole, v, A, h, k => by rw [VS.freeze, Ow]
  | .non, v, A, h, _ => by rw [VS.freeze, Ow]; rw [Ow] at h; exact ⟨h.1, rfl⟩
  | .bl b, v, A, h, _ => by rw [VS.freeze, Ow]; rw [Ow] at h; exact ⟨h.1, rfl⟩
  | .int i, v, A, h, _ => by rw [VS.freeze, Ow]; rw [Ow] at h; exact ⟨h.1, rfl⟩
  | .str x, v, A, h, _ => by rw [VS.freeze, Ow]; rw [Ow] at h; exact ⟨h.1, rfl⟩
  | .tup ds, v, A, h, k => by
    rw [VS.freeze, Ow]
    rw [Ow] at h
    obtain ⟨a, vs, e, q, l⟩ := h
    exact ⟨a, vs, e, sF _ _ q, OwL.freeze sF ds vs A l k⟩
  | .ktp ds, v, A, h, k => by
    rw [VS.freeze, Ow]
    rw [Ow] at h
    obtain ⟨a, vs, e, q, l⟩ := h
    exact ⟨a, vs, e, Same.sqT sF q, OwL.freeze sF ds vs A l k⟩
  | .lst false ds, v, A, h, k => by
    rw [VS.freeze, Ow]
    rw [Ow] at h
    obtain ⟨a, vs, e, q, l⟩ := h
    exact ⟨a, vs, e, sF _ _ q, OwL.freeze sF ds vs A l k⟩
  | .scr ds, v, A, h, k => by
    rw [VS.freeze, Ow]
    rw [Ow] at h
    obtain ⟨a, vs, e, q, l⟩ := h
    exact ⟨a, vs, e, sF.seq q, OwL.freeze sF ds vs A l k⟩
  | .lst true ds, v, A, h, k => by
    rw [VS.freeze, Ow]
    rw [Ow] at h
    obtain ⟨a, vs, A', e, q, l, rfl⟩ := h
    exact ⟨a, vs, e, (k a (by simp)).trans q, OwL.freeze sF ds vs A' l fun b hb => k b (List.mem_cons_of_mem _ hb)⟩
  | .dK false ks ds, v, A, h, k => by
    rw [VS.freeze, Ow]
    rw [Ow] at h
    obtain ⟨a, vs, e, q, n, l⟩ := h
    exact ⟨a, vs, e, sF _ _ q, ⟨by rw [n.1, freezeL_map, List.length_map], n.2⟩, OwL.freeze sF ds vs A l k⟩
  | .dK true ks ds, v, A, h, k => by
    rw [VS.freeze, Ow]
    rw [Ow] at h
    obtain ⟨a, vs, A', e, q, n, l, rfl⟩ := h
    exact ⟨a, vs, e, (k a (by simp)).trans q, ⟨by rw [n.1, freezeL_map, List.length_map], n.2⟩, OwL.freeze sF ds vs A' l fun b hb => k b (List.mem_cons_of_mem _ hb)⟩
  | .dT false ks ds, v, A, h, k => by
    rw [VS.freeze, Ow]
    rw [Ow] at h
    obtain ⟨a, vs, e, q, n, l⟩ := h
    exact ⟨a, vs, e, sF _ _ q, ⟨by rw [n.1, freezeL_map, List.length_map], n.2⟩, OwL.freeze sF ds vs A l k⟩
  | .dT true ks ds, v, A, h, k => by
    rw [VS.freeze, Ow]
    rw [Ow] at h
    obtain ⟨a, vs, A', e, q, n, l, rfl⟩ := h
    exact ⟨a, vs, e, (k a (by simp)).trans q, ⟨by rw [n.1, freezeL_map, List.length_map], n.2⟩, OwL.freeze sF ds vs A' l fun b hb => k b (List.mem_cons_of_mem _ hb)⟩
theorem OwL.freeze (sF : Same F F') : ∀ (ds : List D) (vs : List V) (A : List Addr), OwL K F H ds vs A → (∀ a ∈ A, F' a = H a) → OwL K F' H' (freezeL ds) vs []
  | [], vs, A, h, _ => by rw [freezeL, OwL]; rw [OwL] at h; exact ⟨h.1, rfl⟩
  | d :: ds, vs, A, h, k => by
    rw [freezeL, OwL]
    rw [OwL] at h
    obtain ⟨v, r, A1, A2, e, rfl, h1, h2⟩ := h
    exact ⟨v, r, [], [], e, rfl, Ow.freeze sF d v A1 h1 fun a ha => k a (List.mem_append_left _ ha), OwL.freeze sF ds r A2 h2 fun a ha => k a (List.mem_append_right _ ha)⟩
end

theorem OwL.length : ∀ {ds : List D} {vs : List V} {A : List Addr}, OwL K F H ds vs A → ds.length = vs.length
  | [], vs, A, h => by rw [OwL] at h; rw [h.1]; rfl
  | d :: ds, vs, A, h => by
    rw [OwL] at h
    obtain ⟨v, r, A1, A2, rfl, _, _, h2⟩ := h
    simp [OwL.length h2]

/-! ### a list of values with their data -/
def OwT (K : PySem.W.Frag) (F H : Hp) : List (D × V) → List Addr → Prop
  | [], A => A = []
  | p :: T, A => ∃ A1 A2, A = A1 ++ A2 ∧ Ow K F H p.1 p.2 A1 ∧ OwT K F H T A2
theorem OwT.keep (sF : Same F F') : ∀ {T : List (D × V)} {A : List Addr}, OwT K F H T A → (∀ a ∈ A, H' a = H a) → OwT K F' H' T A
  | [], A, h, _ => h
  | p :: T, A, h, k => by
    obtain ⟨A1, A2, rfl, h1, h2⟩ := h
    exact ⟨A1, A2, rfl, h1.keep sF _ _ _ fun a ha => k a (List.mem_append_left _ ha), h2.keep sF fun a ha => k a (List.mem_append_right _ ha)⟩
theorem OwT.dom : ∀ {T : List (D × V)} {A : List Addr}, OwT K F H T A → ∀ a ∈ A, ∃ o, H a = some o ∧ ∀ xs, o ≠ .tup xs
  | [], A, h, a, ha => by rw [show A = [] from h] at ha; cases ha
  | p :: T, A, h, a, ha => by
    obtain ⟨A1, A2, rfl, h1, h2⟩ := h
    rcases List.mem_append.mp ha with ha | ha
    · exact h1.dom _ _ _ a ha
    · exact h2.dom a ha
theorem OwT.perm {T T' : List (D × V)} (p : T.Perm T') : ∀ {A : List Addr}, OwT K F H T A → ∃ A', A.Perm A' ∧ OwT K F H T' A' := by
  induction p with
  | nil => exact fun {A} h => ⟨A, .refl _, h⟩
  | cons x _ ih =>
    intro A h
    obtain ⟨A1, A2, rfl, h1, h2⟩ := h
    obtain ⟨A', q, h3⟩ := ih h2
    exact ⟨A1 ++ A', q.append_left _, A1, A', rfl, h1, h3⟩
  | swap x y l =>
    intro A h
    obtain ⟨A1, A2, rfl, h1, A3, A4, rfl, h2, h3⟩ := h
    refine ⟨A3 ++ (A1 ++ A4), ?_, A3, _, rfl, h2, A1, A4, rfl, h1, h3⟩
    rw [← List.append_assoc, ← List.append_assoc]
    exact List.perm_append_comm.append_right _
  | trans _ _ ih1 ih2 =>
    intro A h
    obtain ⟨A', q, h1⟩ := ih1 h
    obtain ⟨A'', q', h2⟩ := ih2 h1
    exact ⟨A'', q.trans q', h2⟩
theorem OwT.append : ∀ {T U : List (D × V)} {A B : List Addr}, OwT K F H T A → OwT K F H U B → OwT K F H (T ++ U) (A ++ B)
  | [], U, A, B, h, h' => by rw [show A = [] from h]; exact h'
  | p :: T, U, A, B, h, h' => by
    obtain ⟨A1, A2, rfl, h1, h2⟩ := h
    exact ⟨A1, A2 ++ B, List.append_assoc _ _ _, h1, h2.append h'⟩
theorem OwT.split : ∀ {T U : List (D × V)} {C : List Addr}, OwT K F H (T ++ U) C → ∃ A B, C = A ++ B ∧ OwT K F H T A ∧ OwT K F H U B
  | [], U, C, h => ⟨[], C, rfl, rfl, h⟩
  | p :: T, U, C, h => by
    obtain ⟨A1, A2, rfl, h1, h2⟩ := h
    obtain ⟨A, B, rfl, h3, h4⟩ := h2.split
    exact ⟨A1 ++ A, B, (List.append_assoc _ _ _).symm, ⟨A1, A, rfl, h1, h3⟩, h4⟩
theorem OwL.toT : ∀ {ds : List D} {vs : List V} {A : List Addr}, OwL K F H ds vs A → OwT K F H (ds.zip vs) A
  | [], vs, A, h => by rw [OwL] at h; rw [List.zip_nil_left]; exact h.2
  | d :: ds, vs, A, h => by
    rw [OwL] at h
    obtain ⟨v, r, A1, A2, rfl, rfl, h1, h2⟩ := h
    exact ⟨A1, A2, rfl, h1, h2.toT⟩
theorem OwT.toL : ∀ {ds : List D} {vs : List V} {A : List Addr}, ds.length = vs.length → OwT K F H (ds.zip vs) A → OwL K F H ds vs A
  | [], [], A, _, h => by rw [OwL]; exact ⟨rfl, h⟩
  | [], _ :: _, A, e, h => by cases e
  | d :: ds, [], A, e, h => by cases e
  | d :: ds, v :: vs, A, e, h => by
    rw [OwL]
    obtain ⟨A1, A2, rfl, h1, h2⟩ := h
    exact ⟨v, vs, A1, A2, rfl, rfl, h1, h2.toL (Nat.succ.inj e)⟩

/-- the heap H holds these data -/
def RepT (K : PySem.W.Frag) (H : Hp) (L : List (D × V)) : Prop := ∃ (F : Hp) (A : List Addr), Same F H ∧ A.Nodup ∧ (∀ a ∈ A, F a = none) ∧ OwT K F H L A

variable {L L' : List (D × V)} {d : D} {v : V}
theorem RepT.perm (p : L.Perm L') (h : RepT K H L) : RepT K H L' := by
  obtain ⟨F, A, sF, nd, fr, o⟩ := h
  obtain ⟨A', q, o'⟩ := o.perm p
  exact ⟨F, A', sF, q.nodup_iff.mp nd, fun a ha => fr a (q.mem_iff.mpr ha), o'⟩
theorem RepT.drop {p : D × V} (h : RepT K H (p :: L)) : RepT K H L := by
  obtain ⟨F, A, sF, nd, fr, A1, A2, rfl, _, o⟩ := h
  exact ⟨F, A2, sF, (List.nodup_append.mp nd).2.1, fun a ha => fr a (List.mem_append_right _ ha), o⟩
theorem RepT.dropL : ∀ {U : List (D × V)}, RepT K H (U ++ L) → RepT K H L
  | [], h => h
  | _ :: U, h => RepT.dropL (U := U) h.drop
theorem RepT.dup (z : fz d = true) (h : RepT K H ((d, v) :: L)) : RepT K H ((d, v) :: (d, v) :: L) := by
  obtain ⟨F, A, sF, nd, fr, A1, A2, rfl, h1, o⟩ := h
  have e := h1.frozen _ _ _ z
  subst e
  exact ⟨F, [] ++ A2, sF, nd, fr, [], [] ++ A2, rfl, h1, [], A2, rfl, h1, o⟩
theorem RepT.unk (h : RepT K H L) : RepT K H ((.unk, v) :: L) := by
  obtain ⟨F, A, sF, nd, fr, o⟩ := h
  exact ⟨F, A, sF, nd, fr, [], A, rfl, by rw [Ow], o⟩
theorem RepT.weak (h : RepT K H ((d, v) :: L)) : RepT K H ((.unk, v) :: L) := h.drop.unk
theorem RepT.non (h : RepT K H L) : RepT K H ((.non, .non) :: L) := by
  obtain ⟨F, A, sF, nd, fr, o⟩ := h
  exact ⟨F, A, sF, nd, fr, [], A, rfl, by rw [Ow]; exact ⟨rfl, rfl⟩, o⟩
theorem RepT.bl {b : Bool} (h : RepT K H L) : RepT K H ((.bl b, .bl b) :: L) := by
  obtain ⟨F, A, sF, nd, fr, o⟩ := h
  exact ⟨F, A, sF, nd, fr, [], A, rfl, by rw [Ow]; exact ⟨rfl, rfl⟩, o⟩
theorem RepT.int {i : Int} (h : RepT K H L) : RepT K H ((.int i, .int i) :: L) := by
  obtain ⟨F, A, sF, nd, fr, o⟩ := h
  exact ⟨F, A, sF, nd, fr, [], A, rfl, by rw [Ow]; exact ⟨rfl, rfl⟩, o⟩
theorem RepT.str {x : Str} (h : RepT K H L) : RepT K H ((.str x, .str x) :: L) := by
  obtain ⟨F, A, sF, nd, fr, o⟩ := h
  exact ⟨F, A, sF, nd, fr, [], A, rfl, by rw [Ow]; exact ⟨rfl, rfl⟩, o⟩
theorem RepT.eq_non (h : RepT K H ((.non, v) :: L)) : v = .non := by
  obtain ⟨F, A, sF, nd, fr, A1, A2, rfl, h1, o⟩ := h
  rw [Ow] at h1; exact h1.1
theorem RepT.eq_bl {b : Bool} (h : RepT K H ((.bl b, v) :: L)) : v = .bl b := by
  obtain ⟨F, A, sF, nd, fr, A1, A2, rfl, h1, o⟩ := h
  rw [Ow] at h1; exact h1.1
theorem RepT.eq_int {i : Int} (h : RepT K H ((.int i, v) :: L)) : v = .int i := by
  obtain ⟨F, A, sF, nd, fr, A1, A2, rfl, h1, o⟩ := h
  rw [Ow] at h1; exact h1.1
theorem RepT.eq_str {x : Str} (h : RepT K H ((.str x, v) :: L)) : v = .str x := by
  obtain ⟨F, A, sF, nd, fr, A1, A2, rfl, h1, o⟩ := h
  rw [Ow] at h1; exact h1.1
/-- no data but nothing at all: the empty one -/
theorem RepT.nil : RepT K H [] := ⟨fun _ => none, [], fun _ _ e => (by exact absurd e (by simp)), List.nodup_nil, fun _ h => (by exact absurd h (by simp)), rfl⟩

/-- a new address: neither owned nor frozen -/
theorem RepT.newL {ds : List D} {vs : List V} {p : Addr} (e : ds.length = vs.length) (hp : H p = none) (h : RepT K H (ds.zip vs ++ L)) : RepT K (upd H p (.lst vs)) ((.lst true ds, .ref p) :: L) := by
  obtain ⟨F, A, sF, nd, fr, o⟩ := h
  obtain ⟨A1, A2, rfl, o1, o2⟩ := o.split
  have np : p ∉ A1 ++ A2 := fun hm => by
    rcases List.mem_append.mp hm with hm | hm
    · obtain ⟨_, q, _⟩ := o1.dom p hm; rw [hp] at q; cases q
    · obtain ⟨_, q, _⟩ := o2.dom p hm; rw [hp] at q; cases q
  have k : ∀ a ∈ A1 ++ A2, upd H p (.lst vs) a = H a := fun a ha => upd_ne (fun z => np (by rw [← z]; exact ha))
  have fp : F p = none := by
    cases q : F p with
    | none => rfl
    | some u => have := sF _ _ q; rw [hp] at this; cases this
  refine ⟨F, (p :: A1) ++ A2, fun b o q => ?_, ?_, fun a ha => ?_, p :: A1, A2, rfl, ?_, o2.keep (Same.refl _) fun a ha => k a (List.mem_append_right _ ha)⟩
  · rw [upd_ne fun z => by rw [z, fp] at q; cases q]
    exact sF _ _ q
  · exact List.nodup_cons.mpr ⟨np, nd⟩
  · rcases List.mem_cons.mp ha with rfl | ha
    · exact fp
    · exact fr a ha
  · rw [Ow]
    exact ⟨p, vs, A1, rfl, upd_same, (o1.toL e).keep (Same.refl _) _ _ _ fun a ha => k a (List.mem_append_left _ ha), rfl⟩
theorem RepT.newT {ds : List D} {vs : List V} {p : Addr} (e : ds.length = vs.length) (hp : H p = none) (h : RepT K H (ds.zip vs ++ L)) : RepT K (upd H p (.tup vs)) ((.tup ds, .ref p) :: L) := by
  obtain ⟨F, A, sF, nd, fr, o⟩ := h
  obtain ⟨A1, A2, rfl, o1, o2⟩ := o.split
  have np : p ∉ A1 ++ A2 := fun hm => by
    rcases List.mem_append.mp hm with hm | hm
    · obtain ⟨_, q, _⟩ := o1.dom p hm; rw [hp] at q; cases q
    · obtain ⟨_, q, _⟩ := o2.dom p hm; rw [hp] at q; cases q
  have k : ∀ a ∈ A1 ++ A2, upd H p (.tup vs) a = H a := fun a ha => upd_ne (fun z => np (by rw [← z]; exact ha))
  have fp : F p = none := by
    cases q : F p with
    | none => rfl
    | some u => have := sF _ _ q; rw [hp] at this; cases this
  have sU : Same F (upd F p (.tup vs)) := fun b o q => by
    rw [upd_ne fun z => by rw [z, fp] at q; cases q]; exact q
  refine ⟨upd F p (.tup vs), A1 ++ A2, fun b o q => ?_, nd, fun a ha => ?_, A1, A2, rfl, ?_, o2.keep sU fun a ha => k a (List.mem_append_right _ ha)⟩
  · by_cases z : b = p
    · subst z; rw [upd_same] at q ⊢; exact q
    · rw [upd_ne z] at q ⊢; exact sF _ _ q
  · rw [upd_ne (fun z => np (by rw [← z]; exact ha))]; exact fr a ha
  · rw [Ow]
    exact ⟨p, vs, rfl, upd_same, (o1.toL e).keep sU _ _ _ fun a ha => k a (List.mem_append_left _ ha)⟩
/-- what stands on stays; what is tracked grows at a new place -/
theorem RepT.grow {p : Addr} {o : HO} (hp : H p = none) (h : RepT K H L) : RepT K (upd H p o) L := by
  obtain ⟨F, A, sF, nd, fr, ow⟩ := h
  refine ⟨F, A, fun b u q => ?_, nd, fr, ow.keep (Same.refl _) fun a ha => upd_ne fun z => ?_⟩
  · rw [upd_ne fun z => by rw [z] at q; have := sF _ _ q; rw [hp] at this; cases this]
    exact sF _ _ q
  · subst z
    obtain ⟨_, q, _⟩ := ow.dom a ha
    rw [hp] at q; cases q
/-- an owned list, opened -/
theorem RepT.openL {ds : List D} (h : RepT K H ((.lst true ds, v) :: L)) : ∃ a vs, v = .ref a ∧ H a = some (.lst vs) ∧ ds.length = vs.length ∧ RepT K H ((.hole, .ref a) :: (ds.zip vs ++ L)) := by
  obtain ⟨F, A, sF, nd, fr, A1, A2, rfl, h1, o⟩ := h
  rw [Ow] at h1
  obtain ⟨a, vs, A', rfl, q, l, rfl⟩ := h1
  refine ⟨a, vs, rfl, q, l.length, F, [a] ++ (A' ++ A2), sF, nd, fr, [a], A' ++ A2, rfl, ?_, l.toT.append o⟩
  rw [Ow]
  exact ⟨a, _, rfl, ⟨q, fun xs z => by cases z⟩, rfl⟩
/-- .. and closed with other items -/
theorem RepT.closeL {ds : List D} {vs : List V} {a : Addr} (e : ds.length = vs.length) (h : RepT K H ((.hole, .ref a) :: (ds.zip vs ++ L))) : RepT K (upd H a (.lst vs)) ((.lst true ds, .ref a) :: L) := by
  obtain ⟨F, A, sF, nd, fr, A1, A2, rfl, h1, o⟩ := h
  rw [Ow] at h1
  obtain ⟨b, u, e1, q, rfl⟩ := h1
  cases e1
  obtain ⟨B1, B2, rfl, o1, o2⟩ := o.split
  have fa : F a = none := fr a (by simp)
  have na : a ∉ B1 ++ B2 := (List.nodup_cons.mp nd).1
  have k : ∀ b ∈ B1 ++ B2, upd H a (.lst vs) b = H b := fun b hb => upd_ne (fun z => na (by rw [← z]; exact hb))
  refine ⟨F, (a :: B1) ++ B2, fun b o q => ?_, nd, fr, a :: B1, B2, rfl, ?_, o2.keep (Same.refl _) fun b hb => k b (List.mem_append_right _ hb)⟩
  · rw [upd_ne fun z => by rw [z, fa] at q; cases q]
    exact sF _ _ q
  · rw [Ow]
    exact ⟨a, vs, B1, rfl, upd_same, (o1.toL e).keep (Same.refl _) _ _ _ fun b hb => k b (List.mem_append_left _ hb), rfl⟩
theorem RepT.openT {ds : List D} (h : RepT K H ((.tup ds, v) :: L)) : ∃ a vs, v = .ref a ∧ H a = some (.tup vs) ∧ ds.length = vs.length ∧ RepT K H (ds.zip vs ++ L) := by
  obtain ⟨F, A, sF, nd, fr, A1, A2, rfl, h1, o⟩ := h
  rw [Ow] at h1
  obtain ⟨a, vs, rfl, q, l⟩ := h1
  exact ⟨a, vs, rfl, sF _ _ q, l.length, F, A1 ++ A2, sF, nd, fr, l.toT.append o⟩
theorem RepT.openK {ds : List D} (h : RepT K H ((.ktp ds, v) :: L)) : ∃ a vs, v = .ref a ∧ SqT K H a vs ∧ ds.length = vs.length ∧ RepT K H (ds.zip vs ++ L) := by
  obtain ⟨F, A, sF, nd, fr, A1, A2, rfl, h1, o⟩ := h
  rw [Ow] at h1
  obtain ⟨a, vs, rfl, q, l⟩ := h1
  exact ⟨a, vs, rfl, Same.sqT sF q, l.length, F, A1 ++ A2, sF, nd, fr, l.toT.append o⟩
theorem RepT.openF {ds : List D} (h : RepT K H ((.lst false ds, v) :: L)) : ∃ a vs, v = .ref a ∧ H a = some (.lst vs) ∧ ds.length = vs.length ∧ RepT K H (ds.zip vs ++ L) := by
  obtain ⟨F, A, sF, nd, fr, A1, A2, rfl, h1, o⟩ := h
  rw [Ow] at h1
  obtain ⟨a, vs, rfl, q, l⟩ := h1
  exact ⟨a, vs, rfl, sF _ _ q, l.length, F, A1 ++ A2, sF, nd, fr, l.toT.append o⟩
theorem RepT.openS {ds : List D} (h : RepT K H ((.scr ds, v) :: L)) : ∃ a vs, v = .ref a ∧ SqL K H a vs ∧ ds.length = vs.length ∧ RepT K H (ds.zip vs ++ L) := by
  obtain ⟨F, A, sF, nd, fr, A1, A2, rfl, h1, o⟩ := h
  rw [Ow] at h1
  obtain ⟨a, vs, rfl, q, l⟩ := h1
  exact ⟨a, vs, rfl, sF.seq q, l.length, F, A1 ++ A2, sF, nd, fr, l.toT.append o⟩
/-- any list, read -/
theorem RepT.readL {o : Bool} {ds : List D} (h : RepT K H ((.lst o ds, v) :: L)) : ∃ a vs, v = .ref a ∧ H a = some (.lst vs) ∧ ds.length = vs.length ∧ RepT K H (ds.zip vs ++ L) := by
  cases o with
  | false => exact h.openF
  | true =>
    obtain ⟨a, vs, e, q, l, r⟩ := h.openL
    exact ⟨a, vs, e, q, l, r.drop⟩
/-- a script's own list, at the start -/
theorem RepT.script {a : Addr} {ns : List Int} (h : SqL K H a (ns.map V.int)) : RepT K H [(.scr (ns.map D.int), .ref a)] := by
  refine ⟨H, [], Same.refl _, List.nodup_nil, fun _ h => (by exact absurd h (by simp)), [], [], rfl, ?_, rfl⟩
  rw [Ow]
  refine ⟨a, _, rfl, h, ?_⟩
  clear h
  induction ns with
  | nil => rw [List.map_nil, OwL]; exact ⟨rfl, rfl⟩
  | cons n ns ih =>
    rw [List.map_cons, OwL]
    exact ⟨.int n, ns.map V.int, [], [], rfl, rfl, by rw [Ow]; exact ⟨rfl, rfl⟩, ih⟩
theorem RepT.freeze (h : RepT K H ((d, v) :: L)) : RepT K H ((VS.freeze d, v) :: L) := by
  obtain ⟨F, A, sF, nd, fr, A1, A2, rfl, h1, o⟩ := h
  obtain ⟨n1, n2, n3⟩ := List.nodup_append.mp nd
  let F' : Hp := fun a => if a ∈ A1 then H a else F a
  have sF' : Same F F' := fun b u q => by
    have : b ∉ A1 := fun hb => by rw [fr b (List.mem_append_left _ hb)] at q; cases q
    show (if b ∈ A1 then H b else F b) = some u
    rw [if_neg this]; exact q
  have kA : ∀ a ∈ A1, F' a = H a := fun a ha => if_pos ha
  refine ⟨F', A2, fun b u q => ?_, n2, fun a ha => ?_, [], A2, rfl, h1.freeze sF' _ _ _ kA, o.keep sF' fun _ _ => rfl⟩
  · by_cases hb : b ∈ A1
    · rw [kA b hb] at q; exact q
    · have e : F' b = F b := if_neg hb
      rw [e] at q; exact sF _ _ q
  · have : a ∉ A1 := fun hb => n3 a hb a ha rfl
    show (if a ∈ A1 then H a else F a) = none
    rw [if_neg this]; exact fr a (List.mem_append_right _ ha)
/-- a tuple of scalars that stands in H may be held -/
theorem RepT.tupOf {ds : List D} {vs : List V} {a : Addr} (ha : H a = some (.tup vs)) (hs : ∀ F', OwL K F' H ds vs []) (h : RepT K H L) : RepT K H ((.tup ds, .ref a) :: L) := by
  obtain ⟨F, A, sF, nd, fr, o⟩ := h
  have na : a ∉ A := fun z => by
    obtain ⟨u, q, n⟩ := o.dom a z
    rw [ha] at q
    exact n vs (Option.some.inj q).symm
  have sU : Same F (upd F a (.tup vs)) := fun b u q => by
    by_cases z : b = a
    · subst z
      have := sF _ _ q
      rw [ha] at this
      rw [upd_same]; exact this
    · rw [upd_ne z]; exact q
  refine ⟨upd F a (.tup vs), A, fun b u q => ?_, nd, fun b hb => ?_, [], A, rfl, ?_, o.keep sU fun _ _ => rfl⟩
  · by_cases z : b = a
    · subst z; rw [upd_same] at q; rw [ha]; exact q
    · rw [upd_ne z] at q; exact sF _ _ q
  · rw [upd_ne (fun z => na (by rw [← z]; exact hb))]; exact fr b hb
  · rw [Ow]; exact ⟨a, vs, rfl, upd_same, hs _⟩
end VS

set_option Elab.async false
set_option linter.all false
set_option maxRecDepth 100000
set_option maxHeartbeats 4000000
set_option autoImplicit false
/-! VS2: slots, the judgements, blocks, loops, comprehensions, defs and their calls. -/
namespace VS
open PySem PySem.Spec PyProof.Rows L2

/-! ### slots -/
abbrev St := L2.St
def SL (ρ : Env) (σ : St) : List (D × V) := List.zipWith (fun d o => (d, o.getD .non)) ρ σ
structure Rep (K : PySem.W.Frag) (H : Hp) (T : List (D × V)) (ρ : Env) (σ : St) : Prop where
  len : ρ.length = σ.length
  nos : ∀ (i : Nat), σ[i]? = some none → ρ[i]? = some .unk
  rep : RepT K H (T ++ SL ρ σ)
theorem SL_set : ∀ (ρ : Env) (σ : St) (i : Nat) (d : D) (v : V), SL (ρ.set i d) (σ.set i (some v)) = (SL ρ σ).set i (d, v)
  | [], _, _, _, _ => by simp [SL]
  | _ :: _, [], _, _, _ => by simp [SL]
  | _ :: _, _ :: _, 0, _, _ => rfl
  | c :: ρ, o :: σ, i + 1, d, v => by
    show (c, o.getD .non) :: SL (ρ.set i d) (σ.set i (some v)) = _
    rw [SL_set ρ σ i d v]; rfl
theorem SL_setD : ∀ (ρ : Env) (σ : St) (i : Nat) (d : D) (v : V), σ[i]? = some (some v) → SL (ρ.set i d) σ = (SL ρ σ).set i (d, v)
  | [], _, _, _, _, _ => by simp [SL]
  | _ :: _, [], _, _, _, h => by simp at h
  | _ :: _, o :: _, 0, _, _, h => by
    have e : o = some _ := Option.some.inj h
    subst e; rfl
  | c :: ρ, o :: σ, i + 1, d, v, h => by
    show (c, o.getD .non) :: SL (ρ.set i d) σ = _
    rw [SL_setD ρ σ i d v h]; rfl
theorem SL_get : ∀ {ρ : Env} {σ : St} {i : Nat} {d : D} {v : V}, ρ[i]? = some d → σ[i]? = some (some v) → (SL ρ σ)[i]? = some (d, v)
  | [], _, _, _, _, h, _ => by simp at h
  | _ :: _, [], _, _, _, _, h => by simp at h
  | c :: _, o :: _, 0, _, _, h, h' => by
    have e : c = _ := Option.some.inj h
    have e' : o = some _ := Option.some.inj h'
    subst e; subst e'; rfl
  | c :: ρ, o :: σ, i + 1, d, v, h, h' => SL_get (ρ := ρ) (σ := σ) h h'
theorem perm_set {α : Type} (x : α) : ∀ {L : List α} {i : Nat} {y : α}, L[i]? = some y → (x :: L).Perm (y :: L.set i x)
  | [], _, _, h => by simp at h
  | a :: L, 0, y, h => by
    have e : a = y := Option.some.inj h
    subst e
    exact .swap _ _ _
  | a :: L, i + 1, y, h => by
    show (x :: a :: L).Perm (y :: a :: L.set i x)
    exact ((List.Perm.swap a x L).trans ((perm_set x (L := L) (i := i) h).cons a)).trans (.swap _ _ _)
theorem perm_erase {α : Type} : ∀ {L : List α} {i : Nat} {y : α}, L[i]? = some y → L.Perm (y :: L.eraseIdx i)
  | [], _, _, h => by simp at h
  | a :: L, 0, y, h => by
    have e : a = y := Option.some.inj h
    subst e
    exact .refl _
  | a :: L, i + 1, y, h => by
    show (a :: L).Perm (y :: a :: L.eraseIdx i)
    exact ((perm_erase (L := L) (i := i) h).cons a).trans (.swap _ _ _)

section
variable {K : PySem.W.Frag} {H H' : Hp} {T T' : List (D × V)} {ρ : Env} {σ σ' : St} {d : D} {v : V} {i : Nat}
theorem Rep.lift (h : Rep K H T ρ σ) (f : RepT K H (T ++ SL ρ σ) → RepT K H' (T' ++ SL ρ σ)) : Rep K H' T' ρ σ := ⟨h.len, h.nos, f h.rep⟩
theorem Rep.perm (h : Rep K H T ρ σ) (p : T.Perm T') : Rep K H T' ρ σ := h.lift fun r => r.perm (p.append_right _)
theorem Rep.drop {p : D × V} (h : Rep K H (p :: T) ρ σ) : Rep K H T ρ σ := h.lift fun r => RepT.drop (L := T ++ SL ρ σ) r
theorem Rep.dropL : ∀ {U : List (D × V)}, Rep K H (U ++ T) ρ σ → Rep K H T ρ σ
  | [], h => h
  | _ :: U, h => Rep.dropL (U := U) (Rep.drop h)
theorem Rep.slot (h : Rep K H T ρ σ) (e : ρ[i]? = some d) (n : d ≠ .unk) : ∃ v, σ[i]? = some (some v) := by
  have hi : i < σ.length := by rw [← h.len]; exact (List.getElem?_eq_some_iff.mp e).1
  cases q : σ[i] with
  | none =>
    have := h.nos i (by rw [List.getElem?_eq_getElem hi, q])
    rw [e] at this
    exact absurd (Option.some.inj this) n
  | some v => exact ⟨v, by rw [List.getElem?_eq_getElem hi, q]⟩
/-- a slot's frozen value, read -/
theorem Rep.read (h : Rep K H T ρ σ) (e : ρ[i]? = some d) (z : fz d = true) (hv : σ[i]? = some (some v)) : Rep K H ((d, v) :: T) ρ σ := by
  refine h.lift fun r => ?_
  have g := SL_get e hv
  have p : (T ++ SL ρ σ).Perm ((d, v) :: (T ++ (SL ρ σ).eraseIdx i)) := by
    exact ((perm_erase g).append_left T).trans List.perm_middle
  exact (RepT.dup z (r.perm p)).perm (p.symm.cons _)
/-- a slot's value, taken out -/
theorem Rep.take (h : Rep K H T ρ σ) (e : ρ[i]? = some d) (hv : σ[i]? = some (some v)) : Rep K H ((d, v) :: T) (ρ.set i .unk) σ := by
  refine ⟨by rw [List.length_set]; exact h.len, fun j hj => ?_, ?_⟩
  · by_cases z : i = j
    · subst z; rw [hv] at hj; cases hj
    · rw [List.getElem?_set_ne z]; exact h.nos j hj
  · rw [SL_setD ρ σ i _ v hv]
    have g := SL_get e hv
    have r := RepT.unk (v := v) h.rep
    refine r.perm ?_
    show ((D.unk, v) :: (T ++ SL ρ σ)).Perm ((d, v) :: (T ++ (SL ρ σ).set i (.unk, v)))
    exact (List.perm_middle.symm.trans ((perm_set (D.unk, v) g).append_left T)).trans List.perm_middle
theorem Rep.put (h : Rep K H ((d, v) :: T) ρ σ) (hv : σ[i]? = some (some v)) : Rep K H T (ρ.set i d) σ := by
  refine ⟨by rw [List.length_set]; exact h.len, fun j hj => ?_, ?_⟩
  · by_cases z : i = j
    · subst z; rw [hv] at hj; cases hj
    · rw [List.getElem?_set_ne z]; exact h.nos j hj
  · rw [SL_setD ρ σ i _ v hv]
    have hi : i < ρ.length := by rw [h.len]; exact (List.getElem?_eq_some_iff.mp hv).1
    have g := SL_get (List.getElem?_eq_getElem hi) hv
    have r : RepT K H ((d, v) :: (T ++ SL ρ σ)) := h.rep
    exact RepT.drop (r.perm ((List.perm_middle.symm.trans ((perm_set (d, v) g).append_left T)).trans List.perm_middle))
theorem SL_len (ρ : Env) (σ : St) (h : ρ.length = σ.length) : (SL ρ σ).length = ρ.length := by simp [SL, h]
/-- a value stored -/
theorem Rep.set (h : Rep K H ((d, v) :: T) ρ σ) : Rep K H T (ρ.set i d) (σ.set i (some v)) := by
  refine ⟨by rw [List.length_set, List.length_set]; exact h.len, fun j hj => ?_, ?_⟩
  · by_cases z : i = j
    · subst z
      by_cases hi : i < σ.length
      · rw [List.getElem?_set_self hi] at hj; cases hj
      · rw [List.getElem?_eq_none (by rw [List.length_set]; omega)] at hj; cases hj
    · rw [List.getElem?_set_ne z] at hj ⊢; exact h.nos j hj
  · rw [SL_set]
    have r : RepT K H ((d, v) :: (T ++ SL ρ σ)) := h.rep
    by_cases hi : i < (SL ρ σ).length
    · exact RepT.drop (r.perm ((List.perm_middle.symm.trans ((perm_set (d, v) (List.getElem?_eq_getElem hi)).append_left T)).trans List.perm_middle))
    · rw [List.set_eq_of_length_le (by omega)]
      exact r.drop
/-- a slot's value frozen -/
theorem Rep.frz (h : Rep K H T ρ σ) (e : ρ[i]? = some d) (n : d ≠ .unk) : Rep K H T (ρ.set i (freeze d)) σ := by
  obtain ⟨v, hv⟩ := h.slot e n
  have r := h.take e hv
  have r2 : Rep K H ((freeze d, v) :: T) (ρ.set i .unk) σ := r.lift fun q => RepT.freeze (L := T ++ SL (ρ.set i .unk) σ) q
  have r3 := r2.put hv
  rw [List.set_set] at r3
  exact r3
/-- forget a slot -/
theorem Rep.forget (h : Rep K H T ρ σ) (i : Nat) : Rep K H T (ρ.set i .unk) σ := by
  by_cases hi : i < σ.length
  · cases q : σ[i] with
    | none =>
      have e := h.nos i (by rw [List.getElem?_eq_getElem hi, q])
      have : ρ.set i .unk = ρ := by
        apply List.ext_getElem?
        intro j
        by_cases z : i = j
        · subst z
          rw [List.getElem?_set_self (by rw [h.len]; exact hi), e]
        · rw [List.getElem?_set_ne z]
      rw [this]; exact h
    | some v =>
      have hv : σ[i]? = some (some v) := by rw [List.getElem?_eq_getElem hi, q]
      exact (h.take (d := ρ[i]'(by rw [h.len]; exact hi)) (List.getElem?_eq_getElem _) hv).drop
  · rw [List.set_eq_of_length_le (by rw [h.len]; omega)]
    exact h
def wipeD (ρ : Env) : List Nat → Env
  | [] => ρ
  | i :: is => (wipeD ρ is).set i .unk
theorem wipeD_length (ρ : Env) : ∀ is : List Nat, (wipeD ρ is).length = ρ.length
  | [] => rfl
  | i :: is => by rw [wipeD, List.length_set, wipeD_length ρ is]
theorem Rep.wipe1 (h : Rep K H T ρ σ) : ∀ is : List Nat, Rep K H T (wipeD ρ is) σ
  | [] => h
  | i :: is => (h.wipe1 is).forget i
theorem wipeD_get (ρ : Env) : ∀ {is : List Nat} {i : Nat}, i ∈ is → i < ρ.length → (wipeD ρ is)[i]? = some .unk
  | [], _, h, _ => by cases h
  | j :: is, i, h, hl => by
    rw [wipeD]
    by_cases z : j = i
    · subst z; rw [List.getElem?_set_self (by rw [wipeD_length]; exact hl)]
    · rw [List.getElem?_set_ne z]
      rcases List.mem_cons.mp h with e | h
      · exact absurd e.symm z
      · exact wipeD_get ρ h hl
/-- slots that are forgotten may hold anything -/
theorem Rep.other (h : Rep K H T ρ σ) (hl : σ'.length = σ.length) (ho : ∀ (i : Nat), ρ[i]? = some .unk ∨ σ'[i]? = σ[i]?) : Rep K H T ρ σ' := by
  refine ⟨h.len.trans hl.symm, fun i hi => ?_, ?_⟩
  · rcases ho i with e | e
    · exact e
    · exact h.nos i (e ▸ hi)
  · have key : ∀ (ρ : Env) (σ σ' : St) (U : List (D × V)), ρ.length = σ.length → σ'.length = σ.length → (∀ (i : Nat), ρ[i]? = some .unk ∨ σ'[i]? = σ[i]?) → RepT K H (U ++ SL ρ σ) → RepT K H (U ++ SL ρ σ') := by
      intro ρ
      induction ρ with
      | nil => intro σ σ' U _ _ _ r; simpa [SL] using r
      | cons d ρ ih =>
        intro σ σ' U e1 e2 ho r
        cases σ with
        | nil => cases e1
        | cons o σ =>
          cases σ' with
          | nil => cases e2
          | cons o' σ' =>
            have r' : RepT K H ((U ++ [(d, o.getD .non)]) ++ SL ρ σ) := by simpa [SL] using r
            have r2 := ih σ σ' (U ++ [(d, o.getD .non)]) (Nat.succ.inj e1) (Nat.succ.inj e2) (fun i => ho (i + 1)) r'
            have r3 : RepT K H ((d, o.getD .non) :: (U ++ SL ρ σ')) := r2.perm (by
              rw [List.append_assoc]
              exact List.perm_middle)
            have r4 : RepT K H ((d, o'.getD .non) :: (U ++ SL ρ σ')) := by
              rcases ho 0 with e | e
              · have e : d = .unk := Option.some.inj e
                subst e
                exact r3.drop.unk
              · have e : o' = o := Option.some.inj e
                rw [e]; exact r3
            exact r4.perm List.perm_middle.symm
    exact key ρ σ σ' T h.len hl ho h.rep
end

/-! ### results -/
structure Xc where
  c : Str
  p : Option (Str × Int)
inductive Rv (α : Type) where
  | ok (a : α) (ρ : Env)
  | ex (x : Xc) (ρ : Env)
abbrev M (α : Type) := Env → Option (Rv α)
def bindM {α β : Type} (f : M α) (k : α → M β) : M β := fun ρ => match f ρ with
  | none => none
  | some (.ex x ρ') => some (.ex x ρ')
  | some (.ok a ρ') => k a ρ'
def retM {α : Type} (a : α) : M α := fun ρ => some (.ok a ρ)
def optM {α : Type} (o : Option α) : M α := fun ρ => match o with
  | none => none
  | some a => some (.ok a ρ)
theorem optM_some {α : Type} {o : Option α} {ρ : Env} {r : Rv α} (h : optM o ρ = some r) : ∃ a, o = some a ∧ r = .ok a ρ := by
  cases o with
  | none => cases h
  | some a => exact ⟨a, rfl, (Option.some.inj h).symm⟩
inductive Fl where
  | nx | rt (d : D) | bk | ct | ex (x : Xc)
abbrev MS := Env → Option (Fl × Env)

/-- an exception as it lies -/
def XRep (mg : Str → Option Value) (x : Xc) (cls : Value) (d : Option Addr) (H : Hp) : Prop :=
  ∃ C, cls = .ref C ∧ mg x.c = some (.ref C) ∧ match x.p with
    | none => d = none
    | some (f, n) => ∃ a, d = some a ∧ H a = some (.xd [(f, .int n)])

section
variable (K : PySem.W.Frag) (mg : Str → Option Value) (W : WX)
def exE (T : List (D × V)) (σ : St) (x : Xc) (ρ' : Env) : Prop := ∀ cls dd H', XRep mg x cls dd H' → Rep K H' T ρ' σ → W cls dd σ H'
def endR {α : Type} (T : List (D × V)) (σ : St) (okP : α → Env → Prop) : Rv α → Prop
  | .ok a ρ' => okP a ρ'
  | .ex x ρ' => exE K mg W T σ x ρ'
def okE (m : Bool) (T : List (D × V)) (σ : St) (H : Hp) (Q : VK) (d : D) (ρ' : Env) : Prop := ∀ v H', (m = false → Same H H') → Rep K H' ((d, v) :: T) ρ' σ → Q v H'
def okT (m : Bool) (T : List (D × V)) (σ : St) (H : Hp) (Q : Bool → Hp → Prop) (b : Bool) (ρ' : Env) : Prop := ∀ H', (m = false → Same H H') → Rep K H' T ρ' σ → Q b H'
def okA (m : Bool) (T : List (D × V)) (σ : St) (H : Hp) (Q : List V → Hp → Prop) (ds : List D) (ρ' : Env) : Prop := ∀ vs H', (m = false → Same H H') → ds.length = vs.length → Rep K H' (ds.zip vs ++ T) ρ' σ → Q vs H'
/-- the readings of a denotation -/
def tOf (m : Bool) (f : M D) : TE := fun σ H Q => ∃ T ρ r, Rep K H T ρ σ ∧ f ρ = some r ∧ endR K mg W T σ (okE K m T σ H Q) r
def ttOf (m : Bool) (f : M Bool) : TT := fun σ H Q => ∃ T ρ r, Rep K H T ρ σ ∧ f ρ = some r ∧ endR K mg W T σ (okT K m T σ H Q) r
def taOf (m : Bool) (f : M (List D)) : TA := fun σ H Q => ∃ T ρ r, Rep K H T ρ σ ∧ f ρ = some r ∧ endR K mg W T σ (okA K m T σ H Q) r
def Kept (asg : List Nat) (σ σ' : St) : Prop := σ'.length = σ.length ∧ ∀ (i : Nat), i ∉ asg → σ'[i]? = σ[i]?
def endS (asg : List Nat) (T : List (D × V)) (σ : St) (E : Ends) : Fl → Env → Prop
  | .nx, ρ' => ∀ σ' H', Kept asg σ σ' → Rep K H' T ρ' σ' → E.nx σ' H'
  | .bk, ρ' => ∀ σ' H', Kept asg σ σ' → Rep K H' T ρ' σ' → E.bk σ' H'
  | .ct, ρ' => ∀ σ' H', Kept asg σ σ' → Rep K H' T ρ' σ' → E.ct σ' H'
  | .rt d, ρ' => ∀ v σ' H', Kept asg σ σ' → Rep K H' ((d, v) :: T) ρ' σ' → E.rt v H'
  | .ex x, ρ' => ∀ cls dd σ' H', Kept asg σ σ' → XRep mg x cls dd H' → Rep K H' T ρ' σ' → W cls dd σ' H'
def tsOf (asg : List Nat) (g : MS) : TS := fun E σ H => ∃ T ρ fl ρ', Rep K H T ρ σ ∧ g ρ = some (fl, ρ') ∧ endS K mg W asg T σ E fl ρ'
def tgOf (asg : List Nat) (g : D → Env → Option Env) : TG := fun v σ H Q => ∃ T ρ d ρ', Rep K H ((d, v) :: T) ρ σ ∧ g d ρ = some ρ' ∧ ∀ σ' H', Kept asg σ σ' → Rep K H' T ρ' σ' → Q σ' H'
/-- an iterator that gives these data while c stands -/
structure ItOk (J : It) (c : List (D × V)) (ds : List D) : Prop where
  go : ∀ i H L, i < ds.length → RepT K H (c ++ L) → J.go i H
  stop : ∀ H L, RepT K H (c ++ L) → J.stop ds.length H
  yld : ∀ i H L x H' d, RepT K H (c ++ L) → ds[i]? = some d → J.yld i H x H' → RepT K H' ((d, x) :: (c ++ L))
def okI (T : List (D × V)) (σ : St) (H : Hp) (R : It → Hp → Prop) (ds : List D) (ρ' : Env) : Prop := ∀ J c H', ItOk K J c ds → Rep K H' (c ++ T) ρ' σ → R J H'
def tiOf (f : M (List D)) : TI := fun σ H R => ∃ T ρ r, Rep K H T ρ σ ∧ f ρ = some r ∧ endR K mg W T σ (okI K T σ H R) r
end
section
variable (X : Cx) (W : WX)
def VE (m : Bool) (e : Expr) (f : M D) : Prop := PE X e (tOf X.K X.mg W m f)
def VT (m : Bool) (e : Expr) (f : M Bool) : Prop := PT X e (ttOf X.K X.mg W m f)
def VW (m : Bool) (e : Expr) (f : M Bool) : Prop := PW X e (ttOf X.K X.mg W m f)
def VA (m : Bool) (es : List Expr) (f : M (List D)) : Prop := PA X es (taOf X.K X.mg W m f)
def VSt (asg : List Nat) (st : Stmt) (g : MS) : Prop := PS X st (tsOf X.K X.mg W asg g)
def VSs (asg : List Nat) (st : List Stmt) (g : MS) : Prop := PSs X st (tsOf X.K X.mg W asg g)
def VG (asg : List Nat) (tg : Expr) (g : D → Env → Option Env) : Prop := PG X tg (tgOf X.K asg g)
def VI (tg iter : Expr) (f : M (List D)) : Prop := PI X tg iter (tiOf X.K X.mg W f)
end

section
variable {X : Cx} {W : WX} {K : PySem.W.Frag} {mg : Str → Option Value} {H H1 : Hp} {T : List (D × V)} {ρ ρ' : Env} {σ σ' σ'' : St} {m : Bool}
theorem PE.imp {e : Expr} {t t' : TE} (h : PE X e t) (i : ∀ σ H Q, t' σ H Q → t σ H Q) : PE X e t' := ⟨fun pins s σ H Q I q => h.run pins s σ H Q I (i σ H Q q)⟩
theorem PT.imp {e : Expr} {t t' : TT} (h : PT X e t) (i : ∀ σ H Q, t' σ H Q → t σ H Q) : PT X e t' := ⟨fun pins s σ H Q I q => h.run pins s σ H Q I (i σ H Q q)⟩
theorem PW.imp {e : Expr} {t t' : TT} (h : PW X e t) (i : ∀ σ H Q, t' σ H Q → t σ H Q) : PW X e t' := ⟨fun wh pins s σ H Q I q => h.run wh pins s σ H Q I (i σ H Q q)⟩
theorem PA.imp {e : List Expr} {t t' : TA} (h : PA X e t) (i : ∀ σ H Q, t' σ H Q → t σ H Q) : PA X e t' := ⟨fun pos pins s σ H Q I q => h.run pos pins s σ H Q I (i σ H Q q)⟩
theorem PS.imp {e : Stmt} {t t' : TS} (h : PS X e t) (i : ∀ σ H Q, t' Q σ H → t Q σ H) : PS X e t' := ⟨fun pins s σ H Q I q => h.run pins s σ H Q I (i σ H Q q)⟩
theorem PSs.imp {e : List Stmt} {t t' : TS} (h : PSs X e t) (i : ∀ σ H Q, t' Q σ H → t Q σ H) : PSs X e t' := ⟨fun pins s σ H Q I q => h.run pins s σ H Q I (i σ H Q q)⟩
theorem PG.imp {e : Expr} {t t' : TG} (h : PG X e t) (i : ∀ v σ H Q, t' v σ H Q → t v σ H Q) : PG X e t' := ⟨fun pins s σ H v u Q I r q => h.run pins s σ H v u Q I r (i v σ H Q q)⟩
theorem PI.imp {tg e : Expr} {t t' : TI} (h : PI X tg e t) (i : ∀ σ H Q, t' σ H Q → t σ H Q) : PI X tg e t' := ⟨fun pins s σ H R I q => h.run pins s σ H R I (i σ H R q)⟩
theorem PE.orr {e : Expr} {t t' : TE} (h : PE X e t) (h' : PE X e t') : PE X e (fun σ H Q => t σ H Q ∨ t' σ H Q) := ⟨fun pins s σ H Q I q => q.elim (h.run pins s σ H Q I) (h'.run pins s σ H Q I)⟩
theorem PI.orr {tg e : Expr} {t t' : TI} (h : PI X tg e t) (h' : PI X tg e t') : PI X tg e (fun σ H Q => t σ H Q ∨ t' σ H Q) := ⟨fun pins s σ H Q I q => q.elim (h.run pins s σ H Q I) (h'.run pins s σ H Q I)⟩
theorem PG.orr {e : Expr} {t t' : TG} (h : PG X e t) (h' : PG X e t') : PG X e (fun v σ H Q => t v σ H Q ∨ t' v σ H Q) := ⟨fun pins s σ H v u Q I r q => q.elim (h.run pins s σ H v u Q I r) (h'.run pins s σ H v u Q I r)⟩

theorem exE.push {p : D × V} {x : Xc} (h : exE K mg W T σ x ρ) : exE K mg W (p :: T) σ x ρ := fun cls dd H' xr r => h cls dd H' xr r.drop
theorem exE.pushL {U : List (D × V)} {x : Xc} (h : exE K mg W T σ x ρ) : exE K mg W (U ++ T) σ x ρ := fun cls dd H' xr r => h cls dd H' xr r.dropL
/-- one part, then the rest -/
theorem run1 {β : Type} {f : M D} {k : D → M β} {okP : β → Env → Prop} {r : Rv β} {Q : VK} (rep : Rep K H T ρ σ) (hf : bindM f k ρ = some r) (he : endR K mg W T σ okP r)
    (cont : ∀ d ρ1 v H1, k d ρ1 = some r → (m = false → Same H H1) → Rep K H1 ((d, v) :: T) ρ1 σ → Q v H1) : tOf K mg W m f σ H Q := by
  unfold bindM at hf
  cases q : f ρ with
  | none => rw [q] at hf; cases hf
  | some u =>
    rw [q] at hf
    refine ⟨T, ρ, u, rep, q, ?_⟩
    cases u with
    | ok a ρ1 => exact fun v H1 s1 r1 => cont a ρ1 v H1 hf s1 r1
    | ex x ρ1 =>
      have : r = .ex x ρ1 := (Option.some.inj hf).symm
      subst this
      exact he
theorem runT {β : Type} {f : M Bool} {k : Bool → M β} {okP : β → Env → Prop} {r : Rv β} {Q : Bool → Hp → Prop} (rep : Rep K H T ρ σ) (hf : bindM f k ρ = some r) (he : endR K mg W T σ okP r)
    (cont : ∀ d ρ1 H1, k d ρ1 = some r → (m = false → Same H H1) → Rep K H1 T ρ1 σ → Q d H1) : ttOf K mg W m f σ H Q := by
  unfold bindM at hf
  cases q : f ρ with
  | none => rw [q] at hf; cases hf
  | some u =>
    rw [q] at hf
    refine ⟨T, ρ, u, rep, q, ?_⟩
    cases u with
    | ok a ρ1 => exact fun H1 s1 r1 => cont a ρ1 H1 hf s1 r1
    | ex x ρ1 =>
      have : r = .ex x ρ1 := (Option.some.inj hf).symm
      subst this
      exact he
theorem runA {β : Type} {f : M (List D)} {k : List D → M β} {okP : β → Env → Prop} {r : Rv β} {Q : List V → Hp → Prop} (rep : Rep K H T ρ σ) (hf : bindM f k ρ = some r) (he : endR K mg W T σ okP r)
    (cont : ∀ d ρ1 v H1, k d ρ1 = some r → (m = false → Same H H1) → d.length = v.length → Rep K H1 (d.zip v ++ T) ρ1 σ → Q v H1) : taOf K mg W m f σ H Q := by
  unfold bindM at hf
  cases q : f ρ with
  | none => rw [q] at hf; cases hf
  | some u =>
    rw [q] at hf
    refine ⟨T, ρ, u, rep, q, ?_⟩
    cases u with
    | ok a ρ1 => exact fun v H1 s1 e1 r1 => cont a ρ1 v H1 hf s1 e1 r1
    | ex x ρ1 =>
      have : r = .ex x ρ1 := (Option.some.inj hf).symm
      subst this
      exact he
theorem endR.push {α : Type} {p : D × V} {okP okP' : α → Env → Prop} {r : Rv α} (h : endR K mg W T σ okP r) (hk : ∀ a ρ', okP a ρ' → okP' a ρ') : endR K mg W (p :: T) σ okP' r := by
  cases r with
  | ok a ρ1 => exact hk a ρ1 h
  | ex x ρ1 => exact exE.push h
theorem endR.pushL {α : Type} {U : List (D × V)} {okP okP' : α → Env → Prop} {r : Rv α} (h : endR K mg W T σ okP r) (hk : ∀ a ρ', okP a ρ' → okP' a ρ') : endR K mg W (U ++ T) σ okP' r := by
  cases r with
  | ok a ρ1 => exact hk a ρ1 h
  | ex x ρ1 => exact exE.pushL h
theorem sm_or {a b : Bool} {H H1 H2 : Hp} (h1 : a = false → Same H H1) (h2 : b = false → Same H1 H2) : (a || b) = false → Same H H2 := fun e => by
  rw [Bool.or_eq_false_iff] at e
  exact (h1 e.1).trans (h2 e.2)
theorem sm_r {a : Bool} {H H1 H2 : Hp} (h1 : a = false → Same H H1) (h2 : Same H1 H2) : a = false → Same H H2 := fun e => (h1 e).trans h2

/-! ### names and constants -/
def dV (i : Nat) : M D := fun ρ => match ρ[i]? with
  | some d => if fz d = true then some (.ok d ρ) else none
  | none => none
/-- the slot's value is frozen first -/
def dF (i : Nat) : M D := fun ρ => match ρ[i]? with
  | some d => if fz (freeze d) = true then some (.ok (freeze d) (ρ.set i (freeze d))) else none
  | none => none
/-- the slot's value is taken out of it -/
def dM (i : Nat) : M D := fun ρ => match ρ[i]? with
  | some .unk => none
  | some d => some (.ok d (ρ.set i .unk))
  | none => none
def dC (d : D) : M D := fun ρ => some (.ok d ρ)
theorem fz_unk {d : D} (h : fz d = true) : d ≠ .unk := fun e => by subst e; simp [fz] at h
theorem fz_frz_unk {d : D} (h : fz (freeze d) = true) : d ≠ .unk := fun e => by subst e; simp [fz, freeze] at h
theorem ve_var {e : Expr} {i : Nat} (h : PE X e (tVar i)) : VE X W false e (dV i) := by
  refine PE.imp h fun σ H Q ⟨T, ρ, r, rep, hf, he⟩ => ?_
  unfold dV at hf
  cases q : ρ[i]? with
  | none => rw [q] at hf; cases hf
  | some d =>
    rw [q] at hf
    by_cases z : fz d = true
    · simp only [z, if_true] at hf
      have : r = .ok d ρ := (Option.some.inj hf).symm
      subst this
      obtain ⟨v, hv⟩ := rep.slot q (fz_unk z)
      exact ⟨v, hv, he v H (fun _ => Same.refl _) (rep.read q z hv)⟩
    · simp only [if_neg z] at hf
      cases hf
theorem ve_frz {e : Expr} {i : Nat} (h : PE X e (tVar i)) : VE X W false e (dF i) := by
  refine PE.imp h fun σ H Q ⟨T, ρ, r, rep, hf, he⟩ => ?_
  unfold dF at hf
  cases q : ρ[i]? with
  | none => rw [q] at hf; cases hf
  | some d =>
    rw [q] at hf
    by_cases z : fz (freeze d) = true
    · simp only [z, if_true] at hf
      have : r = .ok (freeze d) (ρ.set i (freeze d)) := (Option.some.inj hf).symm
      subst this
      obtain ⟨v, hv⟩ := rep.slot q (fz_frz_unk z)
      have r2 := rep.frz q (fz_frz_unk z)
      have hi : i < ρ.length := (List.getElem?_eq_some_iff.mp q).1
      exact ⟨v, hv, he v H (fun _ => Same.refl _) (r2.read (List.getElem?_set_self hi) z hv)⟩
    · simp only [if_neg z] at hf
      cases hf
theorem ve_mov {e : Expr} {i : Nat} (h : PE X e (tVar i)) : VE X W false e (dM i) := by
  refine PE.imp h fun σ H Q ⟨T, ρ, r, rep, hf, he⟩ => ?_
  unfold dM at hf
  cases q : ρ[i]? with
  | none => rw [q] at hf; cases hf
  | some d =>
    have n : d ≠ .unk := fun e => by rw [q, e] at hf; cases hf
    have hf' : some (Rv.ok d (ρ.set i .unk)) = some r := by
      rw [q] at hf
      cases d <;> first | exact hf | exact absurd rfl n
    have : r = .ok d (ρ.set i .unk) := (Option.some.inj hf').symm
    subst this
    obtain ⟨v, hv⟩ := rep.slot q n
    exact ⟨v, hv, he v H (fun _ => Same.refl _) (rep.take q hv)⟩
theorem ve_con {e : Expr} {d : D} {v : V} (h : PE X e (tC v)) (hr : ∀ H L, RepT X.K H L → RepT X.K H ((d, v) :: L)) : VE X W false e (dC d) := by
  refine PE.imp h fun σ H Q ⟨T, ρ, r, rep, hf, he⟩ => ?_
  have : r = .ok d ρ := (Option.some.inj hf).symm
  subst this
  exact he v H (fun _ => Same.refl _) (rep.lift fun q => hr H _ q)
theorem ve_int {i : Int} {j : Nat} {pos : Pos} : VE X W false (.Constant (.int i) j pos) (dC (.int i)) := ve_con pe_int fun _ _ h => h.int
theorem ve_bl {i : Bool} {j : Nat} {pos : Pos} : VE X W false (.Constant (.bool i) j pos) (dC (.bl i)) := ve_con pe_bl fun _ _ h => h.bl
theorem ve_non {j : Nat} {pos : Pos} : VE X W false (.Constant .none j pos) (dC .non) := ve_con pe_non fun _ _ h => h.non
theorem ve_str {i : Str} {j : Nat} {pos : Pos} : VE X W false (.Constant (.str i) j pos) (dC (.str i)) := ve_con pe_str fun _ _ h => h.str

/-! ### operators by values -/
def d1 (g : D → Option D) (fa : M D) : M D := bindM fa fun x => optM (g x)
def d2 (g : D → D → Option D) (fa fb : M D) : M D := bindM fa fun x => bindM fb fun y => optM (g x y)
def Imp1 (K : PySem.W.Frag) (r : V → Hp → VK → Prop) (g : D → Option D) : Prop := ∀ H L x d v Q, g x = some d → RepT K H ((x, v) :: L) → (∀ u H', Same H H' → RepT K H' ((d, u) :: L) → Q u H') → r v H Q
def Imp2 (K : PySem.W.Frag) (r : R2) (g : D → D → Option D) : Prop := ∀ H L x y d v w Q, g x y = some d → RepT K H ((y, w) :: (x, v) :: L) → (∀ u H', Same H H' → RepT K H' ((d, u) :: L) → Q u H') → r v w H Q
def ImpA (K : PySem.W.Frag) (r : List V → Hp → VK → Prop) (g : List D → Option D) : Prop := ∀ H L ds vs d Q, g ds = some d → ds.length = vs.length → RepT K H (ds.zip vs ++ L) → (∀ u H', Same H H' → RepT K H' ((d, u) :: L) → Q u H') → r vs H Q
theorem tOp_of {r : R2} {g : D → D → Option D} {fa fb : M D} {ma mb : Bool} (hg : Imp2 K r g) {Q : VK} (h : tOf K mg W (ma || mb) (d2 g fa fb) σ H Q) : tOp r (tOf K mg W ma fa) (tOf K mg W mb fb) σ H Q := by
  obtain ⟨T, ρ, u, rep, hf, he⟩ := h
  refine run1 rep hf he fun x ρ1 v H1 h1 s1 r1 => ?_
  refine run1 r1 h1 (he.push (okP' := okE K (ma || mb) T σ H Q) fun _ _ q => q) fun y ρ2 w H2 h2 s2 r2 => ?_
  obtain ⟨d, e, rfl⟩ := optM_some h2
  exact hg H2 (T ++ SL ρ2 σ) x y d v w Q e r2.rep fun z H3 s3 r3 => he z H3 (sm_r (sm_or s1 s2) s3) ⟨r2.len, r2.nos, r3⟩
theorem ve_op {a b : Expr} {op : Operator} {r : R2} {g : D → D → Option D} {fa fb : M D} {ma mb : Bool} {pos : Pos} (ho : OpR X (binaryOp op) r) (hg : Imp2 X.K r g) (ha : VE X W ma a fa) (hb : VE X W mb b fb) : VE X W (ma || mb) (.BinOp a op b pos) (d2 g fa fb) :=
  PE.imp (pe_op ho ha hb) fun _ _ _ h => tOp_of hg h
theorem ve_cmp {a b : Expr} {op : CmpOp} {r : R2} {g : D → D → Option D} {fa fb : M D} {ma mb : Bool} {pos : Pos} (ho : OpR X (compareOp op) r) (hg : Imp2 X.K r g) (ha : VE X W ma a fa) (hb : VE X W mb b fb) (hm : behindInMarks op b = false) : VE X W (ma || mb) (.Compare a [op] [b] pos) (d2 g fa fb) :=
  PE.imp (pe_cmpR ho ha hb hm) fun _ _ _ h => tOp_of hg h
theorem ve_un {a : Expr} {op : UnaryOp} {r : V → Hp → VK → Prop} {g : D → Option D} {fa : M D} {ma : Bool} {pos : Pos} (ho : UnR X (unaryOp op) r) (hg : Imp1 X.K r g) (ha : VE X W ma a fa) : VE X W ma (.UnaryOp op a pos) (d1 g fa) := by
  refine PE.imp (pe_un ho ha) fun σ H Q ⟨T, ρ, u, rep, hf, he⟩ => ?_
  refine run1 rep hf he fun x ρ1 v H1 h1 s1 r1 => ?_
  obtain ⟨d, e, rfl⟩ := optM_some h1
  exact hg H1 (T ++ SL ρ1 σ) x d v Q e r1.rep fun z H3 s3 r3 => he z H3 (sm_r s1 s3) ⟨r1.len, r1.nos, r3⟩
/-- a, b are asked for their truth: a bool's -/
def dTB (f : M D) : M Bool := bindM f fun d => optM (match d with | .bl b => some b | _ => none)
theorem vt_val {e : Expr} {f : M D} (h : VE X W m e f) (he : ∀ whole, isTrue e X.env whole = (do let v ← whole; standAt e.pos; holding [v] (truthy v)) := by intro _; rfl) : VT X W m e (dTB f) := by
  refine PT.imp (pt_val h he) fun σ H Q ⟨T, ρ, u, rep, hf, he⟩ => ?_
  refine run1 rep hf he fun x ρ1 v H1 h1 s1 r1 => ?_
  obtain ⟨b, e, rfl⟩ := optM_some h1
  cases x with
  | bl c =>
    have e : c = b := Option.some.inj e
    subst e
    exact ⟨c, RepT.eq_bl r1.rep, he H1 s1 r1.drop⟩
  | _ => cases e
theorem vt_cmp {a b : Expr} {op : CmpOp} {r : R2} {g : D → D → Option D} {fa fb : M D} {ma mb : Bool} {pos : Pos} (ho : OpR X (compareOp op) r) (hg : Imp2 X.K r g) (ha : VE X W ma a fa) (hb : VE X W mb b fb) (hm : behindInMarks op b = false) : VT X W (ma || mb) (.Compare a [op] [b] pos) (dTB (d2 g fa fb)) := by
  refine PT.imp (pt_cmpR ho ha hb hm) fun σ H Q ⟨T, ρ, u, rep, hf, he⟩ => ?_
  refine tOp_of hg ?_
  refine run1 rep hf he fun x ρ1 v H1 h1 s1 r1 => ?_
  obtain ⟨b, e, rfl⟩ := optM_some h1
  cases x with
  | bl c =>
    have e : c = b := Option.some.inj e
    subst e
    exact ⟨c, RepT.eq_bl r1.rep, he H1 s1 r1.drop⟩
  | _ => cases e
/-! a < b < c -/
def dChain (g g' : D → D → Option D) (fa fb fc : M D) : M D := bindM fa fun x => bindM fb fun y => bindM (optM (match g x y with | some (.bl k) => some k | _ => none)) fun k => if k = true then bindM fc fun z => optM (g' y z) else retM (.bl false)
theorem bindM_opt {α β : Type} {o : Option α} {k : α → M β} {r : Rv β} (h : bindM (optM o) k ρ = some r) : ∃ a, o = some a ∧ k a ρ = some r := by
  cases o with
  | none => cases h
  | some a => exact ⟨a, rfl, h⟩
/-- scalar data: the same in every heap -/
def scD : D → Option V
  | .non => some .non
  | .bl b => some (.bl b)
  | .int i => some (.int i)
  | .str x => some (.str x)
  | _ => none
theorem scD_eq {d : D} {v w : V} {L : List (D × V)} (h : scD d = some v) (r : RepT K H ((d, w) :: L)) : w = v := by
  cases d <;> simp only [scD, Option.some.injEq, reduceCtorEq] at h <;> subst h
  · exact r.eq_non
  · exact r.eq_bl
  · exact r.eq_int
  · exact r.eq_str
theorem scD_rep {d : D} {v : V} {L : List (D × V)} (h : scD d = some v) (r : RepT K H L) : RepT K H ((d, v) :: L) := by
  cases d <;> simp only [scD, Option.some.injEq, reduceCtorEq] at h <;> subst h
  · exact r.non
  · exact r.bl
  · exact r.int
  · exact r.str
/-- comparisons of ints, as readings -/
def rCmp (p : Int → Int → Bool) : R2 := rI0 fun i j => .bl (p i j)
def gCmp (p : Int → Int → Bool) (x y : D) : Option D := match x, y with
  | .int i, .int j => some (.bl (p i j))
  | _, _ => none
theorem impCmp (p : Int → Int → Bool) : Imp2 K (rCmp p) (gCmp p) := by
  intro H L x y d v w Q e r h
  cases x <;> cases y <;> simp only [gCmp, Option.some.injEq, reduceCtorEq] at e
  subst e
  have e2 := r.eq_int
  have e1 := r.drop.eq_int
  subst e1; subst e2
  exact ⟨_, _, rfl, rfl, h _ H (Same.refl _) r.drop.drop.bl⟩
theorem tChain_of {p p' : Int → Int → Bool} {fa fb fc : M D} {ma mb mc : Bool} {Q : VK} (h : tOf K mg W (ma || mb || mc) (dChain (gCmp p) (gCmp p') fa fb fc) σ H Q) :
    tChain (rCmp p) (rCmp p') (tOf K mg W ma fa) (tOf K mg W mb fb) (tOf K mg W mc fc) σ H Q := by
  obtain ⟨T, ρ, u, rep, hf, he⟩ := h
  refine run1 rep hf he fun x ρ1 v H1 h1 s1 r1 => ?_
  refine run1 r1 h1 (he.push (okP' := okE K (ma || mb || mc) T σ H Q) fun _ _ q => q) fun y ρ2 w H2 h2 s2 r2 => ?_
  obtain ⟨k, e, h3⟩ := bindM_opt h2
  cases x <;> cases y <;> simp only [gCmp, reduceCtorEq] at e
  rename_i i j
  have e : p i j = k := Option.some.inj e
  have e2 := r2.rep.eq_int
  have e1 := r2.drop.rep.eq_int
  subst e1; subst e2
  refine ⟨i, j, rfl, rfl, p i j, rfl, ?_⟩
  rw [e]
  cases k with
  | true =>
    rw [if_pos rfl] at h3 ⊢
    refine run1 r2 h3 ((he.push (p := (.int i, .int i)) (okP' := okE K (ma || mb || mc) T σ H Q) fun _ _ q => q).push (p := (.int j, .int j)) fun _ _ q => q) fun z ρ3 w3 H3 h4 s3 r3 => ?_
    obtain ⟨d, e4, rfl⟩ := optM_some h4
    cases z <;> simp only [gCmp, Option.some.injEq, reduceCtorEq] at e4
    subst e4
    have e5 := r3.rep.eq_int
    subst e5
    exact ⟨_, _, rfl, rfl, he _ H3 (sm_or (sm_or s1 s2) s3) (r3.drop.drop.drop.lift fun q => q.bl)⟩
  | false =>
    have : u = .ok (.bl false) ρ2 := by
      rw [if_neg (by simp)] at h3
      exact (Option.some.inj h3).symm
    subst this
    rw [if_neg (by simp)]
    exact he _ H2 (fun e => by
      rw [Bool.or_eq_false_iff] at e
      exact sm_or s1 s2 e.1) (r2.drop.drop.lift fun q => q.bl)
theorem ve_chain {a b c : Expr} {op op' : CmpOp} {p p' : Int → Int → Bool} {fa fb fc : M D} {ma mb mc : Bool} {pos : Pos} (ho : OpR X (compareOp op) (rCmp p)) (ho' : OpR X (compareOp op') (rCmp p')) (ha : VE X W ma a fa) (hb : VE X W mb b fb) (hc : VE X W mc c fc)
    (hm : lastMarks [op, op'] [b, c] = false := by with_unfolding_all rfl) : VE X W (ma || mb || mc) (.Compare a [op, op'] [b, c] pos) (dChain (gCmp p) (gCmp p') fa fb fc) := PE.imp (pe_chain ho ho' ha hb hc hm) fun _ _ _ h => tChain_of h
theorem vt_chain {a b c : Expr} {op op' : CmpOp} {p p' : Int → Int → Bool} {fa fb fc : M D} {ma mb mc : Bool} {pos : Pos} (ho : OpR X (compareOp op) (rCmp p)) (ho' : OpR X (compareOp op') (rCmp p')) (ha : VE X W ma a fa) (hb : VE X W mb b fb) (hc : VE X W mc c fc)
    (hm : lastMarks [op, op'] [b, c] = false := by with_unfolding_all rfl) : VT X W (ma || mb || mc) (.Compare a [op, op'] [b, c] pos) (dTB (dChain (gCmp p) (gCmp p') fa fb fc)) := by
  refine PT.imp (pt_chain ho ho' ha hb hc hm) fun σ H Q ⟨T, ρ, u, rep, hf, he⟩ => ?_
  refine tChain_of ?_
  refine run1 rep hf he fun x ρ1 v H1 h1 s1 r1 => ?_
  obtain ⟨b, e, rfl⟩ := optM_some h1
  cases x with
  | bl c =>
    have e : c = b := Option.some.inj e
    subst e
    exact ⟨c, RepT.eq_bl r1.rep, he H1 s1 r1.drop⟩
  | _ => cases e
/-! and, or, not -/
def dAndT (f g : M Bool) : M Bool := bindM f fun b => if b = true then g else retM false
def dOrT (f g : M Bool) : M Bool := bindM f fun b => if b = true then retM true else g
def dNotT (f : M Bool) : M Bool := bindM f fun b => retM (!b)
theorem vw_one {a : Expr} {f : M Bool} {pos : Pos} (h : VT X W m a f) : VW X W m (.BoolOp .And [a] pos) f := pw_and1 h
theorem vw_or1 {a : Expr} {f : M Bool} {pos : Pos} (h : VT X W m a f) : VW X W m (.BoolOp .Or [a] pos) f := pw_or1 h
theorem vw_and {a b : Expr} {rest : List Expr} {f g : M Bool} {ma mb : Bool} {pos : Pos} (ha : VT X W ma a f) (hb : VW X W mb (.BoolOp .And (b :: rest) pos) g) : VW X W (ma || mb) (.BoolOp .And (a :: b :: rest) pos) (dAndT f g) := by
  refine PW.imp (pw_and ha hb) fun σ H Q ⟨T, ρ, u, rep, hf, he⟩ => ?_
  refine runT rep hf he fun c ρ1 H1 h1 s1 r1 => ?_
  cases c with
  | true =>
    rw [if_pos rfl] at h1 ⊢
    refine ⟨T, ρ1, u, r1, h1, ?_⟩
    cases u with
    | ok b ρ2 => exact fun H2 s2 r2 => he H2 (sm_or s1 s2) r2
    | ex x ρ2 => exact he
  | false =>
    rw [if_neg (by simp)] at h1 ⊢
    have : u = .ok false ρ1 := (Option.some.inj h1).symm
    subst this
    exact he H1 (fun e => s1 (Bool.or_eq_false_iff.mp e).1) r1
theorem vw_or {a b : Expr} {rest : List Expr} {f g : M Bool} {ma mb : Bool} {pos : Pos} (ha : VT X W ma a f) (hb : VW X W mb (.BoolOp .Or (b :: rest) pos) g) : VW X W (ma || mb) (.BoolOp .Or (a :: b :: rest) pos) (dOrT f g) := by
  refine PW.imp (pw_or ha hb) fun σ H Q ⟨T, ρ, u, rep, hf, he⟩ => ?_
  refine runT rep hf he fun c ρ1 H1 h1 s1 r1 => ?_
  cases c with
  | true =>
    rw [if_pos rfl] at h1 ⊢
    have : u = .ok true ρ1 := (Option.some.inj h1).symm
    subst this
    exact he H1 (fun e => s1 (Bool.or_eq_false_iff.mp e).1) r1
  | false =>
    rw [if_neg (by simp)] at h1 ⊢
    refine ⟨T, ρ1, u, r1, h1, ?_⟩
    cases u with
    | ok b ρ2 => exact fun H2 s2 r2 => he H2 (sm_or s1 s2) r2
    | ex x ρ2 => exact he
theorem vt_bool {e : Expr} {f : M Bool} (h : VW X W m e f) : VT X W m e f := PW.pt h
theorem vt_not {a : Expr} {f : M Bool} {pos : Pos} (h : VT X W m a f) : VT X W m (.UnaryOp .Not a pos) (dNotT f) := by
  refine PT.imp (pt_not h) fun σ H Q ⟨T, ρ, u, rep, hf, he⟩ => ?_
  refine runT rep hf he fun c ρ1 H1 h1 s1 r1 => ?_
  have : u = .ok (!c) ρ1 := (Option.some.inj h1).symm
  subst this
  exact he H1 s1 r1
/-! .. as values -/
def dAnd (f g : M D) : M D := bindM f fun d => bindM (optM (match d with | .bl b => some b | _ => none)) fun b => if b = true then g else retM (.bl false)
def dOr (f g : M D) : M D := bindM f fun d => bindM (optM (match d with | .bl b => some b | _ => none)) fun b => if b = true then retM (.bl true) else g
def dNot (f : M D) : M D := d1 (fun d => match d with | .bl b => some (.bl (!b)) | _ => none) f
theorem ve_one {a : Expr} {f : M D} {op : BoolOp} {pos : Pos} (h : VE X W m a f) : VE X W m (.BoolOp op [a] pos) f := pe_one h
theorem ve_and {a b : Expr} {rest : List Expr} {f g : M D} {ma mb : Bool} {pos : Pos} (ha : VE X W ma a f) (hb : VE X W mb (.BoolOp .And (b :: rest) pos) g) : VE X W (ma || mb) (.BoolOp .And (a :: b :: rest) pos) (dAnd f g) := by
  refine PE.imp (pe_and ha hb) fun σ H Q ⟨T, ρ, u, rep, hf, he⟩ => ?_
  refine run1 rep hf he fun x ρ1 v H1 h1 s1 r1 => ?_
  obtain ⟨b, e, h2⟩ := bindM_opt h1
  cases x with
  | bl c =>
    have e : c = b := Option.some.inj e
    subst e
    refine ⟨c, RepT.eq_bl r1.rep, ?_⟩
    cases c with
    | true =>
      rw [if_pos rfl] at h2 ⊢
      refine ⟨T, ρ1, u, r1.drop, h2, ?_⟩
      cases u with
      | ok b ρ2 => exact fun v H2 s2 r2 => he v H2 (sm_or s1 s2) r2
      | ex x ρ2 => exact he
    | false =>
      rw [if_neg (by simp)] at h2 ⊢
      have : u = .ok (.bl false) ρ1 := (Option.some.inj h2).symm
      subst this
      exact he _ H1 (fun e => s1 (Bool.or_eq_false_iff.mp e).1) (r1.drop.lift fun q => q.bl)
  | _ => cases e
theorem ve_or {a b : Expr} {rest : List Expr} {f g : M D} {ma mb : Bool} {pos : Pos} (ha : VE X W ma a f) (hb : VE X W mb (.BoolOp .Or (b :: rest) pos) g) : VE X W (ma || mb) (.BoolOp .Or (a :: b :: rest) pos) (dOr f g) := by
  refine PE.imp (pe_or ha hb) fun σ H Q ⟨T, ρ, u, rep, hf, he⟩ => ?_
  refine run1 rep hf he fun x ρ1 v H1 h1 s1 r1 => ?_
  obtain ⟨b, e, h2⟩ := bindM_opt h1
  cases x with
  | bl c =>
    have e : c = b := Option.some.inj e
    subst e
    refine ⟨c, RepT.eq_bl r1.rep, ?_⟩
    cases c with
    | true =>
      rw [if_pos rfl] at h2 ⊢
      have : u = .ok (.bl true) ρ1 := (Option.some.inj h2).symm
      subst this
      exact he _ H1 (fun e => s1 (Bool.or_eq_false_iff.mp e).1) (r1.drop.lift fun q => q.bl)
    | false =>
      rw [if_neg (by simp)] at h2 ⊢
      refine ⟨T, ρ1, u, r1.drop, h2, ?_⟩
      cases u with
      | ok b ρ2 => exact fun v H2 s2 r2 => he v H2 (sm_or s1 s2) r2
      | ex x ρ2 => exact he
  | _ => cases e
theorem ve_not {a : Expr} {f : M D} {pos : Pos} (h : VE X W m a f) : VE X W m (.UnaryOp .Not a pos) (dNot f) := by
  refine PE.imp (pe_not h) fun σ H Q ⟨T, ρ, u, rep, hf, he⟩ => ?_
  refine run1 rep hf he fun x ρ1 v H1 h1 s1 r1 => ?_
  obtain ⟨d, e, rfl⟩ := optM_some h1
  cases x with
  | bl c =>
    have e : D.bl (!c) = d := Option.some.inj e
    subst e
    exact ⟨c, RepT.eq_bl r1.rep, he _ H1 s1 (r1.drop.lift fun q => q.bl)⟩
  | _ => cases e
def dIf (f : M Bool) (g h : M D) : M D := bindM f fun b => if b = true then g else h
theorem ve_ifExp {c a b : Expr} {f : M Bool} {g h : M D} {mc ma mb : Bool} {pos : Pos} (hc : VT X W mc c f) (ha : VE X W ma a g) (hb : VE X W mb b h) : VE X W (mc || ma || mb) (.IfExp c a b pos) (dIf f g h) := by
  refine PE.imp (pe_ifExp hc ha hb) fun σ H Q ⟨T, ρ, u, rep, hf, he⟩ => ?_
  refine runT rep hf he fun c ρ1 H1 h1 s1 r1 => ?_
  cases c with
  | true =>
    rw [if_pos rfl] at h1 ⊢
    refine ⟨T, ρ1, u, r1, h1, ?_⟩
    cases u with
    | ok b ρ2 => exact fun v H2 s2 r2 => he v H2 (fun e => sm_or s1 s2 (Bool.or_eq_false_iff.mp e).1) r2
    | ex x ρ2 => exact he
  | false =>
    rw [if_neg (by simp)] at h1 ⊢
    refine ⟨T, ρ1, u, r1, h1, ?_⟩
    cases u with
    | ok b ρ2 => exact fun v H2 s2 r2 => he v H2 (fun e => by
        have e := Bool.or_eq_false_iff.mp e
        exact (s1 (Bool.or_eq_false_iff.mp e.1).1).trans (s2 e.2)) r2
    | ex x ρ2 => exact he

/-! ### arguments, displays, calls of built-ins -/
def dNil : M (List D) := retM []
def dCons (f : M D) (g : M (List D)) : M (List D) := bindM f fun d => bindM g fun ds => retM (d :: ds)
theorem va_nil : VA X W false [] dNil := PA.imp pa_nil fun σ H Q ⟨T, ρ, u, rep, hf, he⟩ => by
  have : u = .ok [] ρ := (Option.some.inj hf).symm
  subst this
  exact he [] H (fun _ => Same.refl _) rfl rep
theorem va_cons {e : Expr} {es : List Expr} {f : M D} {g : M (List D)} {ma mb : Bool} (ha : VE X W ma e f) (hb : VA X W mb es g) (hs : starEach (e :: es) X.env = (false, eval e X.env) :: starEach es X.env := by rfl) : VA X W (ma || mb) (e :: es) (dCons f g) := by
  refine PA.imp (pa_cons ha hb hs) fun σ H Q ⟨T, ρ, u, rep, hf, he⟩ => ?_
  refine run1 rep hf he fun x ρ1 v H1 h1 s1 r1 => ?_
  refine runA r1 h1 (he.push (okP' := okA X.K (ma || mb) T σ H Q) fun _ _ q => q) fun ds ρ2 vs H2 h2 s2 l2 r2 => ?_
  have : u = .ok (x :: ds) ρ2 := (Option.some.inj h2).symm
  subst this
  exact he (v :: vs) H2 (sm_or s1 s2) (by simp [l2]) (r2.perm List.perm_middle)
def dTup (f : M (List D)) : M D := bindM f fun ds => optM (if ds.length ≤ sizeLine then some (.tup ds) else none)
def dLst (f : M (List D)) : M D := bindM f fun ds => optM (if ds.length ≤ sizeLine then some (.lst true ds) else none)
theorem ve_tup {es : List Expr} {f : M (List D)} {x1 : Nat} {pos : Pos} (h : VA X W m es f) : VE X W m (.Tuple es x1 pos) (dTup f) := by
  refine PE.imp (pe_tup h) fun σ H Q ⟨T, ρ, u, rep, hf, he⟩ => ?_
  refine runA rep hf he fun ds ρ1 vs H1 h1 s1 l1 r1 => ?_
  obtain ⟨d, e, rfl⟩ := optM_some h1
  by_cases z : ds.length ≤ sizeLine
  · rw [if_pos z] at e
    cases e
    refine ⟨by rw [← l1]; exact z, fun p hp => he _ _ (sm_r s1 fun b o q => ?_) (r1.lift fun q => ?_)⟩
    · rw [upd_ne (ne_of_none q hp)]; exact q
    · rw [List.append_assoc] at q
      exact RepT.newT l1 hp q
  · rw [if_neg z] at e; cases e
theorem ve_lst {es : List Expr} {f : M (List D)} {pos : Pos} (h : VA X W m es f) : VE X W m (.List es pos) (dLst f) := by
  refine PE.imp (pe_lst h) fun σ H Q ⟨T, ρ, u, rep, hf, he⟩ => ?_
  refine runA rep hf he fun ds ρ1 vs H1 h1 s1 l1 r1 => ?_
  obtain ⟨d, e, rfl⟩ := optM_some h1
  by_cases z : ds.length ≤ sizeLine
  · rw [if_pos z] at e
    cases e
    refine ⟨by rw [← l1]; exact z, fun p hp => he _ _ (sm_r s1 fun b o q => ?_) (r1.lift fun q => ?_)⟩
    · rw [upd_ne (ne_of_none q hp)]; exact q
    · rw [List.append_assoc] at q
      exact RepT.newL l1 hp q
  · rw [if_neg z] at e; cases e
def dCall (g : List D → Option D) (f : M (List D)) : M D := bindM f fun ds => optM (g ds)
theorem tCB_of {r : List V → Hp → VK → Prop} {g : List D → Option D} {f : M (List D)} (hg : ImpA K r g) {Q : VK} (h : tOf K mg W m (dCall g f) σ H Q) : tCB r (taOf K mg W m f) σ H Q := by
  obtain ⟨T, ρ, u, rep, hf, he⟩ := h
  refine runA rep hf he fun ds ρ1 vs H1 h1 s1 l1 r1 => ?_
  obtain ⟨d, e, rfl⟩ := optM_some h1
  refine hg H1 (T ++ SL ρ1 σ) ds vs d Q e l1 (by rw [← List.append_assoc]; exact r1.rep) fun z H3 s3 r3 => he z H3 (sm_r s1 s3) ⟨r1.len, r1.nos, r3⟩
theorem ve_callB {id : String} {r : List V → Hp → VK → Prop} {g : List D → Option D} {f : M (List D)} {x : Str} {e : Expr} {es : List Expr} {p pos : Pos} (hc : CallR X (.builtin id) r) (hi : ImpA X.K r g) (hg : Gl X x) (hm : X.mg x = none) (hv : bootBuiltins x = some (.builtin id))
    (ha : VA X W m (e :: es) f) (hn : x ≠ "__name__" := by decide) (hdb : (x == ("__debug__" : Str)) = false := by decide)
    (he : starEach (e :: es) X.env = (false, eval e X.env) :: starEach es X.env := by rfl) (hpl : (backTo pos (starEach es X.env)).any (·.1) = false := by rfl) : VE X W m (.Call (.Name x p) (e :: es) [] pos) (dCall g f) :=
  PE.imp (pe_callB hc hg hm hv ha hn hdb he hpl) fun _ _ _ h => tCB_of hi h
theorem ve_callTy {id : String} {r : List V → Hp → VK → Prop} {g : List D → Option D} {f : M (List D)} {x : Str} {e : Expr} {es : List Expr} {p pos : Pos} (hc : CallR X (.type id) r) (hi : ImpA X.K r g) (hg : Gl X x) (hm : X.mg x = none) (hv : bootBuiltins x = some (.type id))
    (ha : VA X W m (e :: es) f) (hn : x ≠ "__name__" := by decide) (hdb : (x == ("__debug__" : Str)) = false := by decide)
    (he : starEach (e :: es) X.env = (false, eval e X.env) :: starEach es X.env := by rfl) (hpl : (backTo pos (starEach es X.env)).any (·.1) = false := by rfl) : VE X W m (.Call (.Name x p) (e :: es) [] pos) (dCall g f) :=
  PE.imp (pe_callTy hc hg hm hv ha hn hdb he hpl) fun _ _ _ h => tCB_of hi h
end
end VS

set_option Elab.async false
set_option linter.all false
set_option maxRecDepth 100000
set_option maxHeartbeats 4000000
set_option autoImplicit false
/-! VS3: statements, loops, comprehensions, defs and calls. -/
namespace VS
open PySem PySem.Spec PyProof.Rows L2

def bindS {α : Type} (f : M α) (k : α → MS) : MS := fun ρ => match f ρ with
  | none => none
  | some (.ex x ρ') => some (.ex x, ρ')
  | some (.ok a ρ') => k a ρ'
def dSeq (g1 g2 : MS) : MS := fun ρ => match g1 ρ with
  | some (.nx, ρ') => g2 ρ'
  | r => r
def dSkip : MS := fun ρ => some (.nx, ρ)
def dBrk : MS := fun ρ => some (.bk, ρ)
def dCnt : MS := fun ρ => some (.ct, ρ)
def dSet (i : Nat) (f : M D) : MS := bindS f fun d ρ => some (.nx, ρ.set i d)
def dAsg (f : M D) (g : D → Env → Option Env) : MS := bindS f fun d ρ => match g d ρ with
  | none => none
  | some ρ' => some (.nx, ρ')
def dDrop (f : M D) : MS := bindS f fun _ ρ => some (.nx, ρ)
def dRet (f : M D) : MS := bindS f fun d ρ => some (.rt d, ρ)
def dRetN : MS := fun ρ => some (.rt .non, ρ)
def dIfS (t : M Bool) (a b : MS) : MS := bindS t fun c => if c = true then a else b
def dNever : MS := fun _ => none

section
variable {X : Cx} {W : WX} {K : PySem.W.Frag} {mg : Str → Option Value} {H H1 : Hp} {T : List (D × V)} {ρ ρ' : Env} {σ σ' σ'' : St} {m : Bool} {asg a1 a2 : List Nat} {fl : Fl}
theorem Kept.refl : Kept asg σ σ := ⟨rfl, fun _ _ => rfl⟩
theorem Kept.trans (h : Kept a1 σ σ') (h' : Kept a2 σ' σ'') : Kept (a1 ++ a2) σ σ'' := ⟨h'.1.trans h.1, fun i hi => (h'.2 i fun z => hi (List.mem_append_right _ z)).trans (h.2 i fun z => hi (List.mem_append_left _ z))⟩
theorem Kept.trans1 (h : Kept asg σ σ') (h' : Kept asg σ' σ'') : Kept asg σ σ'' := ⟨h'.1.trans h.1, fun i hi => (h'.2 i hi).trans (h.2 i hi)⟩
theorem Kept.mono (h : Kept a1 σ σ') (s : ∀ i ∈ a1, i ∈ a2) : Kept a2 σ σ' := ⟨h.1, fun i hi => h.2 i fun z => hi (s i z)⟩
theorem Kept.set {i : Nat} {v : V} : Kept [i] σ (σ.set i (some v)) := ⟨List.length_set, fun j hj => by
  rw [List.getElem?_set_ne fun z => hj (by simp [z])]⟩
/-- other ends that ask less -/
theorem endS.imp {E E' : Ends} {T' : List (D × V)} (h : endS K mg W a1 T σ E fl ρ) (hk : ∀ σ'', Kept a2 σ' σ'' → Kept a1 σ σ'')
    (hT : ∀ {H σ ρ}, Rep K H T' ρ σ → Rep K H T ρ σ) (hT1 : ∀ {H σ ρ p}, Rep K H (p :: T') ρ σ → Rep K H (p :: T) ρ σ)
    (hn : ∀ σ H, E.nx σ H → E'.nx σ H) (hr : ∀ v H, E.rt v H → E'.rt v H) (hb : ∀ σ H, E.bk σ H → E'.bk σ H) (hc : ∀ σ H, E.ct σ H → E'.ct σ H) : endS K mg W a2 T' σ' E' fl ρ := by
  cases fl with
  | nx => exact fun σ2 H2 k r => hn _ _ (h σ2 H2 (hk _ k) (hT r))
  | bk => exact fun σ2 H2 k r => hb _ _ (h σ2 H2 (hk _ k) (hT r))
  | ct => exact fun σ2 H2 k r => hc _ _ (h σ2 H2 (hk _ k) (hT r))
  | rt d => exact fun v σ2 H2 k r => hr _ _ (h v σ2 H2 (hk _ k) (hT1 r))
  | ex x => exact fun cls dd σ2 H2 k xr r => h cls dd σ2 H2 (hk _ k) xr (hT r)
theorem endS.shift {E : Ends} (h : endS K mg W a1 T σ E fl ρ) (hk : ∀ σ'', Kept a2 σ' σ'' → Kept a1 σ σ'') : endS K mg W a2 T σ' E fl ρ :=
  h.imp hk (fun r => r) (fun r => r) (fun _ _ q => q) (fun _ _ q => q) (fun _ _ q => q) (fun _ _ q => q)
/-- a part of a statement, then the rest -/
theorem runS {f : M D} {k : D → MS} {Q : VK} {E : Ends} (rep : Rep K H T ρ σ) (hf : bindS f k ρ = some (fl, ρ')) (he : endS K mg W asg T σ E fl ρ')
    (cont : ∀ d ρ1 v H1, k d ρ1 = some (fl, ρ') → Rep K H1 ((d, v) :: T) ρ1 σ → Q v H1) : tOf K mg W m f σ H Q := by
  unfold bindS at hf
  cases q : f ρ with
  | none => rw [q] at hf; cases hf
  | some u =>
    rw [q] at hf
    refine ⟨T, ρ, u, rep, q, ?_⟩
    cases u with
    | ok a ρ1 => exact fun v H1 s1 r1 => cont a ρ1 v H1 hf r1
    | ex x ρ1 =>
      have : (Fl.ex x, ρ1) = (fl, ρ') := Option.some.inj hf
      cases this
      exact fun cls dd H' xr r => he cls dd σ H' Kept.refl xr r
theorem runST {f : M Bool} {k : Bool → MS} {Q : Bool → Hp → Prop} {E : Ends} (rep : Rep K H T ρ σ) (hf : bindS f k ρ = some (fl, ρ')) (he : endS K mg W asg T σ E fl ρ')
    (cont : ∀ d ρ1 H1, k d ρ1 = some (fl, ρ') → Rep K H1 T ρ1 σ → Q d H1) : ttOf K mg W m f σ H Q := by
  unfold bindS at hf
  cases q : f ρ with
  | none => rw [q] at hf; cases hf
  | some u =>
    rw [q] at hf
    refine ⟨T, ρ, u, rep, q, ?_⟩
    cases u with
    | ok a ρ1 => exact fun H1 s1 r1 => cont a ρ1 H1 hf r1
    | ex x ρ1 =>
      have : (Fl.ex x, ρ1) = (fl, ρ') := Option.some.inj hf
      cases this
      exact fun cls dd H' xr r => he cls dd σ H' Kept.refl xr r
theorem vss_nil : VSs X W [] [] dSkip := PSs.imp pss_nil fun σ H E ⟨T, ρ, fl, ρ', rep, hf, he⟩ => by
  have : (Fl.nx, ρ) = (fl, ρ') := Option.some.inj hf
  cases this
  exact he σ H Kept.refl rep
theorem vss_cons {st : Stmt} {rest : List Stmt} {g1 g2 : MS} (h1 : VSt X W a1 st g1) (h2 : VSs X W a2 rest g2) : VSs X W (a1 ++ a2) (st :: rest) (dSeq g1 g2) := by
  refine PSs.imp (pss_cons h1 h2) fun σ H E ⟨T, ρ, fl, ρ', rep, hf, he⟩ => ?_
  unfold dSeq at hf
  cases q : g1 ρ with
  | none => rw [q] at hf; cases hf
  | some u =>
    obtain ⟨f1, ρ1⟩ := u
    rw [q] at hf
    have old : f1 ≠ .nx → (f1, ρ1) = (fl, ρ') := fun n => by
      cases f1 <;> first | exact absurd rfl n | exact Option.some.inj hf
    by_cases n : f1 = .nx
    · subst n
      refine ⟨T, ρ, .nx, ρ1, rep, q, fun σ1 H1 k1 r1 => ⟨T, ρ1, fl, ρ', r1, hf, he.shift fun σ2 k2 => k1.trans k2⟩⟩
    · have e := old n
      injection e with e1 e2
      subst e1
      subst e2
      refine ⟨T, ρ, f1, ρ1, rep, q, ?_⟩
      cases f1 with
      | nx => exact absurd rfl n
      | bk => exact fun σ2 H2 k r => he σ2 H2 (k.mono fun i => List.mem_append_left _) r
      | ct => exact fun σ2 H2 k r => he σ2 H2 (k.mono fun i => List.mem_append_left _) r
      | rt d => exact fun v σ2 H2 k r => he v σ2 H2 (k.mono fun i => List.mem_append_left _) r
      | ex x => exact fun c d σ2 H2 k xr r => he c d σ2 H2 (k.mono fun i => List.mem_append_left _) xr r
theorem vss_one {st : Stmt} {g : MS} (h : VSt X W asg st g) : VSs X W asg [st] g := pss_one h
theorem vs_pass {pos : Pos} : VSt X W [] (.Pass pos) dSkip := PS.imp ps_pass fun σ H E ⟨T, ρ, fl, ρ', rep, hf, he⟩ => by
  have : (Fl.nx, ρ) = (fl, ρ') := Option.some.inj hf
  cases this
  exact he σ H Kept.refl rep
theorem vs_break {pos : Pos} : VSt X W [] (.Break pos) dBrk := PS.imp ps_break fun σ H E ⟨T, ρ, fl, ρ', rep, hf, he⟩ => by
  have : (Fl.bk, ρ) = (fl, ρ') := Option.some.inj hf
  cases this
  exact he σ H Kept.refl rep
theorem vs_continue {pos : Pos} : VSt X W [] (.Continue pos) dCnt := PS.imp ps_continue fun σ H E ⟨T, ρ, fl, ρ', rep, hf, he⟩ => by
  have : (Fl.ct, ρ) = (fl, ρ') := Option.some.inj hf
  cases this
  exact he σ H Kept.refl rep
theorem vs_never {st : Stmt} : VSt X W [] st dNever := PS.imp ps_never fun σ H E ⟨T, ρ, fl, ρ', rep, hf, he⟩ => by cases hf
/-- name = value, however the store is read -/
theorem vs_setP {st : Stmt} {i : Nat} {f : M D} (h : PS X st (tAsg (tOf X.K X.mg W m f) (gName i))) : VSt X W [i] st (dSet i f) := by
  refine PS.imp h fun σ H E ⟨T, ρ, fl, ρ', rep, hf, he⟩ => ?_
  refine runS rep hf he fun d ρ1 v H1 h1 r1 => ?_
  have : (Fl.nx, ρ1.set i d) = (fl, ρ') := Option.some.inj h1
  cases this
  exact he _ H1 Kept.set r1.set
theorem vs_set {i : Nat} {x : Str} {e : Expr} {f : M D} {pos pos' : Pos} (hN : X.N.Nodup) (hi : X.N[i]? = some x) (hx : Loc X.env.scope x) (he : VE X W m e f) (hs : swapsWith e (some (.Name x pos')) pos.line X.env = pure false := by rfl)
    (hf : X.fn x = true ∨ X.env.scope.names.lookup x = some .local := by first | exact .inl rfl | exact .inr rfl | assumption) : VSt X W [i] (.Assign [.Name x pos'] e pos) (dSet i f) := vs_setP (ps_set hN hi hx he hs hf)
theorem vs_asg {tg e : Expr} {f : M D} {g : D → Env → Option Env} {pos : Pos} (he : VE X W m e f) (hg : VG X asg tg g) (hs : swapsWithSole [tg] e pos.line X.env = pure false := by rfl) (hw : swappedStores [tg] e X.env = pure none := by rfl)
    (h1 : (assignEach [tg] X.env).map (·.2) = [assign tg X.env] := by rfl) : VSt X W asg (.Assign [tg] e pos) (dAsg f g) := by
  refine PS.imp (ps_asg he hg hs hw h1) fun σ H E ⟨T, ρ, fl, ρ', rep, hf, he⟩ => ?_
  refine runS rep hf he fun d ρ1 v H1 h1 r1 => ?_
  cases q : g d ρ1 with
  | none => rw [q] at h1; cases h1
  | some ρ2 =>
    rw [q] at h1
    have : (Fl.nx, ρ2) = (fl, ρ') := Option.some.inj h1
    injection this with e1 e2
    subst e1
    subst e2
    exact ⟨T, ρ1, d, ρ2, r1, q, he⟩
theorem vs_expr {e : Expr} {f : M D} {pos : Pos} (h : VE X W m e f) (hs : swapsWith e none pos.line X.env = pure false := by rfl) : VSt X W [] (.Expr e pos) (dDrop f) := by
  refine PS.imp (ps_expr h hs) fun σ H E ⟨T, ρ, fl, ρ', rep, hf, he⟩ => ?_
  refine runS rep hf he fun d ρ1 v H1 h1 r1 => ?_
  have : (Fl.nx, ρ1) = (fl, ρ') := Option.some.inj h1
  cases this
  exact he σ H1 Kept.refl r1.drop
theorem vs_ret {e : Expr} {f : M D} {pos : Pos} (h : VE X W m e f) : VSt X W [] (.Return (some e) pos) (dRet f) := by
  refine PS.imp (ps_ret h) fun σ H E ⟨T, ρ, fl, ρ', rep, hf, he⟩ => ?_
  refine runS rep hf he fun d ρ1 v H1 h1 r1 => ?_
  have : (Fl.rt d, ρ1) = (fl, ρ') := Option.some.inj h1
  cases this
  exact he v σ H1 Kept.refl r1
theorem vs_retN {pos : Pos} : VSt X W [] (.Return none pos) dRetN := by
  refine PS.imp ps_retN fun σ H E ⟨T, ρ, fl, ρ', rep, hf, he⟩ => ?_
  have : (Fl.rt .non, ρ) = (fl, ρ') := Option.some.inj hf
  cases this
  exact he .non σ H Kept.refl (rep.lift fun q => q.non)
theorem vs_if {c : Expr} {a b : List Stmt} {t : M Bool} {g1 g2 : MS} {pos : Pos} (hc : VT X W m c t) (ha : VSs X W a1 a g1) (hb : VSs X W a2 b g2) : VSt X W (a1 ++ a2) (.If c a b pos) (dIfS t g1 g2) := by
  refine PS.imp (ps_if hc ha hb) fun σ H E ⟨T, ρ, fl, ρ', rep, hf, he⟩ => ?_
  refine runST rep hf he fun c ρ1 H1 h1 r1 => ?_
  cases c with
  | true =>
    rw [if_pos rfl] at h1 ⊢
    exact ⟨T, ρ1, fl, ρ', r1, h1, he.shift fun σ2 k => k.mono fun i => List.mem_append_left _⟩
  | false =>
    rw [if_neg (by simp)] at h1 ⊢
    exact ⟨T, ρ1, fl, ρ', r1, h1, he.shift fun σ2 k => k.mono fun i => List.mem_append_right _⟩

/-! ### targets -/
def gNm (i : Nat) : D → Env → Option Env := fun d ρ => some (ρ.set i d)
def gNms : List Nat → List D → Env → Option Env
  | [], [], ρ => some ρ
  | i :: is, d :: ds, ρ => gNms is ds (ρ.set i d)
  | _, _, _ => none
def gTp (is : List Nat) : D → Env → Option Env := fun d ρ => match d with
  | .tup ds => gNms is ds ρ
  | _ => none
theorem vg_name {i : Nat} {tg : Expr} (h : PG X tg (gName i)) : VG X [i] tg (gNm i) := by
  refine PG.imp h fun v σ H Q ⟨T, ρ, d, ρ', rep, hg, hq⟩ => ?_
  have : ρ.set i d = ρ' := Option.some.inj hg
  subst this
  exact hq _ H Kept.set rep.set
/-- names one after another -/
def VGs (X : Cx) (is : List Nat) (tgs : List Expr) : Prop := PGs X tgs (fun vs σ H Q => ∃ T ρ ds ρ', ds.length = vs.length ∧ Rep X.K H (ds.zip vs ++ T) ρ σ ∧ gNms is ds ρ = some ρ' ∧ ∀ σ', Kept is σ σ' → Rep X.K H T ρ' σ' → Q σ' H)
theorem PGs.imp {tgs : List Expr} {t t' : TGs} (h : PGs X tgs t) (i : ∀ vs σ H Q, t' vs σ H Q → t vs σ H Q) : PGs X tgs t' := ⟨fun pins s σ H vs us Q I r q => h.run pins s σ H vs us Q I r (i vs σ H Q q)⟩
theorem vgs_nil : VGs X [] [] := by
  refine PGs.imp pgs_nil fun vs σ H Q ⟨T, ρ, ds, ρ', l, rep, hg, hq⟩ => ?_
  cases ds with
  | nil =>
    cases vs with
    | nil =>
      have : ρ = ρ' := Option.some.inj hg
      subst this
      exact ⟨rfl, hq σ Kept.refl rep⟩
    | cons _ _ => cases l
  | cons _ _ => cases hg
theorem vgs_cons {i : Nat} {is : List Nat} {e : Expr} {es : List Expr} (h1 : PG X e (gName i)) (h2 : VGs X is es) (hs : (assignEach (e :: es) X.env).map (·.2) = assign e X.env :: (assignEach es X.env).map (·.2) := by rfl) : VGs X (i :: is) (e :: es) := by
  refine PGs.imp (pgs_cons h1 h2 hs) fun vs σ H Q ⟨T, ρ, ds, ρ', l, rep, hg, hq⟩ => ?_
  cases ds with
  | nil => cases hg
  | cons d ds =>
    cases vs with
    | nil => cases l
    | cons v vs =>
      have rep1 : Rep X.K H ((d, v) :: (ds.zip vs ++ T)) ρ σ := rep
      refine ⟨v, vs, rfl, T, ρ.set i d, ds, ρ', Nat.succ.inj l, rep1.set, hg, fun σ' k r => hq σ' ?_ r⟩
      exact (Kept.set (v := v) (i := i) (σ := σ)).trans k
theorem vg_tup {is : List Nat} {tgs : List Expr} {k n : Nat} {pos : Pos} (hc : X.calm = true) (h : VGs X is tgs) (hn : (assignEach tgs X.env).length = n := by rfl) (hst : (assignEach tgs X.env).findIdx? (·.1) = none := by rfl) (hl : is.length = n := by rfl) : VG X is (.Tuple tgs k pos) (gTp is) := by
  refine PG.imp (pg_tup hc h hn hst) fun v σ H Q ⟨T, ρ, d, ρ', rep, hg, hq⟩ => ?_
  cases d with
  | tup ds =>
    obtain ⟨a, vs, rfl, sq, l, r⟩ := RepT.openT rep.rep
    have len : ∀ (is : List Nat) (ds : List D) (ρ ρ' : Env), gNms is ds ρ = some ρ' → is.length = ds.length := by
      intro is
      induction is with
      | nil => intro ds ρ ρ' h; cases ds with | nil => rfl | cons _ _ => cases h
      | cons i is ih => intro ds ρ ρ' h; cases ds with | nil => cases h | cons d ds => simp [ih ds _ _ h]
    refine ⟨a, vs, rfl, .inl (.inl sq), ?_, T, ρ, ds, ρ', l, ⟨rep.len, rep.nos, by rw [List.append_assoc]; exact r⟩, hg, fun σ' k r => hq σ' H k r⟩
    rw [← l, ← len is ds _ _ hg, hl]
  | _ => cases hg

/-! ### for -/
def forD (bt : D → Env → Option Env) (body : MS) : List D → MS
  | [], ρ => some (.nx, ρ)
  | d :: ds, ρ => match bt d ρ with
    | none => none
    | some ρ1 => match body ρ1 with
      | none => none
      | some (.nx, ρ2) => forD bt body ds ρ2
      | some (.ct, ρ2) => forD bt body ds ρ2
      | some (.bk, ρ2) => some (.nx, ρ2)
      | some (.rt d, ρ2) => some (.rt d, ρ2)
      | some (.ex x, ρ2) => some (.ex x, ρ2)
def dFor (src : M (List D)) (bt : D → Env → Option Env) (body : MS) : MS := bindS src fun ds => forD bt body ds
theorem vs_for {tg iter : Expr} {body : List Stmt} {src : M (List D)} {bt : D → Env → Option Env} {g : MS} {pos : Pos} (hp : PassesOwn (model X.prog X.w) X.A X.env X.xe) (hc : X.calm = true) (hi : VI X W tg iter src) (hg : VG X a1 tg bt) (hb : VSs X W a2 body g)
    (hs : ∀ x, foldedSetIterable iter X.env x = pure x := by intro _; rfl) : VSt X W (a1 ++ a2) (.For tg iter body [] pos) (dFor src bt g) := by
  refine PS.imp (ps_for hp hc hi hg hb hs) fun σ H E ⟨T, ρ, fl, ρ', rep, hf, he⟩ => ?_
  unfold dFor bindS at hf
  cases q : src ρ with
  | none => rw [q] at hf; cases hf
  | some u =>
    rw [q] at hf
    refine ⟨T, ρ, u, rep, q, ?_⟩
    cases u with
    | ex x ρ1 =>
      have : (Fl.ex x, ρ1) = (fl, ρ') := Option.some.inj hf
      cases this
      exact fun cls dd H' xr r => he cls dd σ H' Kept.refl xr r
    | ok ds ρ0 =>
      intro J c H0 it rep0
      have hf : forD bt g ds ρ0 = some (fl, ρ') := hf
      refine ⟨fun i n σi Hi => n = ds.length - i ∧ i ≤ ds.length ∧ Kept (a1 ++ a2) σ σi ∧ ∃ ρi, Rep X.K Hi (c ++ T) ρi σi ∧ forD bt g (ds.drop i) ρi = some (fl, ρ'), ⟨ds.length, by simp, Nat.zero_le _, Kept.refl, ρ0, rep0, hf⟩, ?_⟩
      rintro i n σi Hi ⟨rfl, hi, ki, ρi, ri, fi⟩
      have ri' : RepT X.K Hi (c ++ (T ++ SL ρi σi)) := by rw [← List.append_assoc]; exact ri.rep
      by_cases hlt : i < ds.length
      · rw [List.drop_eq_getElem_cons hlt] at fi
        unfold forD at fi
        cases qb : bt ds[i] ρi with
        | none => rw [qb] at fi; cases fi
        | some ρ1 =>
          simp only [qb] at fi
          refine .inr ⟨it.go i Hi _ hlt ri', fun σ' H' => Kept (a1 ++ a2) σ σ' ∧ ∃ ρn, Rep X.K H' (c ++ T) ρn σ' ∧ forD bt g (ds.drop (i + 1)) ρn = some (fl, ρ'), fun σ' H' ⟨k, ρn, rn, fn⟩ => ⟨ds.length - (i + 1), by omega, rfl, hlt, k, ρn, rn, fn⟩, fun x H' y => ?_⟩
          have ry := it.yld i Hi _ x H' ds[i] ri' (List.getElem?_eq_getElem hlt) y
          have ry' : Rep X.K H' ((ds[i], x) :: (c ++ T)) ρi σi := ⟨ri.len, ri.nos, by
            have e : ((ds[i], x) :: (c ++ T)) ++ SL ρi σi = (ds[i], x) :: (c ++ (T ++ SL ρi σi)) := by simp
            rw [e]; exact ry⟩
          refine ⟨c ++ T, ρi, ds[i], ρ1, ry', qb, fun σ1 H1 k1 r1 => ?_⟩
          cases qg : g ρ1 with
          | none => rw [qg] at fi; cases fi
          | some u =>
            obtain ⟨f1, ρ2⟩ := u
            simp only [qg] at fi
            refine ⟨c ++ T, ρ1, f1, ρ2, r1, qg, ?_⟩
            have kk : ∀ σ2, Kept a2 σ1 σ2 → Kept (a1 ++ a2) σ σ2 := fun σ2 k2 => ki.trans1 (k1.trans k2)
            cases f1 with
            | nx => exact fun σ2 H2 k2 r2 => ⟨kk _ k2, ρ2, r2, fi⟩
            | ct => exact fun σ2 H2 k2 r2 => ⟨kk _ k2, ρ2, r2, fi⟩
            | bk =>
              have : (Fl.nx, ρ2) = (fl, ρ') := Option.some.inj fi
              cases this
              exact fun σ2 H2 k2 r2 => he σ2 H2 (kk _ k2) r2.dropL
            | rt d =>
              have : (Fl.rt d, ρ2) = (fl, ρ') := Option.some.inj fi
              cases this
              exact fun v σ2 H2 k2 r2 => he v σ2 H2 (kk _ k2) (Rep.dropL (U := c) (r2.perm List.perm_middle.symm))
            | ex x =>
              have : (Fl.ex x, ρ2) = (fl, ρ') := Option.some.inj fi
              cases this
              exact fun cls dd σ2 H2 k2 xr r2 => he cls dd σ2 H2 (kk _ k2) xr r2.dropL
      · have e : i = ds.length := by omega
        subst e
        rw [List.drop_length] at fi
        have : (Fl.nx, ρi) = (fl, ρ') := Option.some.inj fi
        cases this
        exact .inl ⟨it.stop Hi _ ri', he σi Hi ki ri.dropL⟩

/-! ### while, with a number of turns that is not come to -/
def whileD (t : M Bool) (body : MS) : Nat → MS
  | 0, _ => none
  | n + 1, ρ => match t ρ with
    | none => none
    | some (.ex x ρ1) => some (.ex x, ρ1)
    | some (.ok b ρ1) => if b = true then (match body ρ1 with
      | none => none
      | some (.nx, ρ2) => whileD t body n ρ2
      | some (.ct, ρ2) => whileD t body n ρ2
      | some (.bk, ρ2) => some (.nx, ρ2)
      | some (.rt d, ρ2) => some (.rt d, ρ2)
      | some (.ex x, ρ2) => some (.ex x, ρ2)) else some (.nx, ρ1)
theorem vs_while (N : Nat) {c : Expr} {body : List Stmt} {t : M Bool} {g : MS} {pos : Pos} (hp : PassesOwn (model X.prog X.w) X.A X.env X.xe) (hc : VT X W m c t) (hb : VSs X W asg body g) : VSt X W asg (.While c body [] pos) (whileD t g N) := by
  refine PS.imp (ps_while hp hc hb) fun σ H E ⟨T, ρ, fl, ρ', rep, hf, he⟩ => ?_
  refine ⟨fun n σi Hi => Kept asg σ σi ∧ ∃ ρi, Rep X.K Hi T ρi σi ∧ whileD t g n ρi = some (fl, ρ'), ⟨N, Kept.refl, ρ, rep, hf⟩, ?_⟩
  rintro n σi Hi ⟨ki, ρi, ri, fi⟩
  cases n with
  | zero => cases fi
  | succ n =>
    unfold whileD at fi
    cases qt : t ρi with
    | none => rw [qt] at fi; cases fi
    | some u =>
      rw [qt] at fi
      refine ⟨T, ρi, u, ri, qt, ?_⟩
      cases u with
      | ex x ρ1 =>
        have : (Fl.ex x, ρ1) = (fl, ρ') := Option.some.inj fi
        cases this
        exact fun cls dd H' xr r => he cls dd σi H' ki xr r
      | ok b ρ1 =>
        intro H1 _ r1
        cases b with
        | false =>
          have fi : some (Fl.nx, ρ1) = some (fl, ρ') := fi
          have : (Fl.nx, ρ1) = (fl, ρ') := Option.some.inj fi
          cases this
          rw [if_neg (by simp)]
          exact he σi H1 ki r1
        | true =>
          rw [if_pos rfl]
          simp only [if_true] at fi
          refine ⟨fun σ' H' => Kept asg σ σ' ∧ ∃ ρn, Rep X.K H' T ρn σ' ∧ whileD t g n ρn = some (fl, ρ'), fun σ' H' ⟨k, ρn, rn, fn⟩ => ⟨n, Nat.lt_succ_self _, k, ρn, rn, fn⟩, ?_⟩
          cases qg : g ρ1 with
          | none => rw [qg] at fi; cases fi
          | some u =>
            obtain ⟨f1, ρ2⟩ := u
            simp only [qg] at fi
            refine ⟨T, ρ1, f1, ρ2, r1, qg, ?_⟩
            cases f1 with
            | nx => exact fun σ2 H2 k2 r2 => ⟨ki.trans1 k2, ρ2, r2, fi⟩
            | ct => exact fun σ2 H2 k2 r2 => ⟨ki.trans1 k2, ρ2, r2, fi⟩
            | bk =>
              have : (Fl.nx, ρ2) = (fl, ρ') := Option.some.inj fi
              cases this
              exact fun σ2 H2 k2 r2 => he σ2 H2 (ki.trans1 k2) r2
            | rt d =>
              have : (Fl.rt d, ρ2) = (fl, ρ') := Option.some.inj fi
              cases this
              exact fun v σ2 H2 k2 r2 => he v σ2 H2 (ki.trans1 k2) r2
            | ex x =>
              have : (Fl.ex x, ρ2) = (fl, ρ') := Option.some.inj fi
              cases this
              exact fun cls dd σ2 H2 k2 xr r2 => he cls dd σ2 H2 (ki.trans1 k2) xr r2

/-! ### what is walked -/
theorem zip_take {ds : List D} {vs : List V} {i : Nat} {d : D} {v : V} (hd : ds[i]? = some d) (hv : vs[i]? = some v) : (ds.zip vs)[i]? = some (d, v) := by
  rw [List.getElem?_zip_eq_some]; exact ⟨hd, hv⟩
theorem RepT.pick {L U : List (D × V)} {i : Nat} {p : D × V} (h : RepT K H (U ++ L)) (e : U[i]? = some p) : RepT K H (p :: L) := by
  have q := h.perm (((perm_erase e).append_right L))
  have q : RepT K H (p :: (U.eraseIdx i ++ L)) := q
  exact RepT.dropL (U := U.eraseIdx i) (q.perm List.perm_middle.symm)
theorem itL {a : Addr} {ds : List D} (z : fzL ds = true) : ItOk K (Itl K a) [(.lst false ds, .ref a)] ds := by
  have zz : fz (.lst false ds) = true := by rw [fz]; simp [z]
  refine ⟨fun i H L hi h => ?_, fun H L h => ?_, fun i H L x H' d h e y => ?_⟩
  · obtain ⟨b, vs, e, sq, l, _⟩ := RepT.openF h
    cases e
    exact ⟨vs, vs[i]'(by omega), .inl (.inl sq), List.getElem?_eq_getElem _⟩
  · obtain ⟨b, vs, e, sq, l, _⟩ := RepT.openF h
    cases e
    exact ⟨vs, .inl (.inl sq), by omega⟩
  · obtain ⟨rfl, hx⟩ := y
    have h : RepT K H' ((.lst false ds, .ref a) :: L) := h
    have h2 := RepT.dup zz h
    obtain ⟨b, vs, e1, sq, l, r⟩ := RepT.openF h2
    cases e1
    exact r.pick (zip_take e (hx vs (.inl (.inl sq))))
theorem itS {a : Addr} {ds : List D} (z : fzL ds = true) : ItOk K (Itl K a) [(.scr ds, .ref a)] ds := by
  have zz : fz (.scr ds) = true := by rw [fz]; exact z
  refine ⟨fun i H L hi h => ?_, fun H L h => ?_, fun i H L x H' d h e y => ?_⟩
  · obtain ⟨b, vs, e, sq, l, _⟩ := RepT.openS h
    cases e
    exact ⟨vs, vs[i]'(by omega), sq, List.getElem?_eq_getElem _⟩
  · obtain ⟨b, vs, e, sq, l, _⟩ := RepT.openS h
    cases e
    exact ⟨vs, sq, by omega⟩
  · obtain ⟨rfl, hx⟩ := y
    have h : RepT K H' ((.scr ds, .ref a) :: L) := h
    have h2 := RepT.dup zz h
    obtain ⟨b, vs, e1, sq, l, r⟩ := RepT.openS h2
    cases e1
    exact r.pick (zip_take e (hx vs sq))
theorem itT {a : Addr} {ds : List D} (z : fzL ds = true) : ItOk K (Itt K a) [(.tup ds, .ref a)] ds := by
  have zz : fz (.tup ds) = true := by rw [fz]; exact z
  refine ⟨fun i H L hi h => ?_, fun H L h => ?_, fun i H L x H' d h e y => ?_⟩
  · obtain ⟨b, vs, e, sq, l, _⟩ := RepT.openT h
    cases e
    exact ⟨vs, vs[i]'(by omega), .inl (.inl sq), List.getElem?_eq_getElem _⟩
  · obtain ⟨b, vs, e, sq, l, _⟩ := RepT.openT h
    cases e
    exact ⟨vs, .inl (.inl sq), by omega⟩
  · obtain ⟨rfl, hx⟩ := y
    have h : RepT K H' ((.tup ds, .ref a) :: L) := h
    have h2 := RepT.dup zz h
    obtain ⟨b, vs, e1, sq, l, r⟩ := RepT.openT h2
    cases e1
    exact r.pick (zip_take e (hx vs (.inl (.inl sq))))
theorem itKT {a : Addr} {ds : List D} (z : fzL ds = true) : ItOk K (Itt K a) [(.ktp ds, .ref a)] ds := by
  have zz : fz (.ktp ds) = true := by rw [fz]; exact z
  refine ⟨fun i H L hi h => ?_, fun H L h => ?_, fun i H L x H' d h e y => ?_⟩
  · obtain ⟨b, vs, e, sq, l, _⟩ := RepT.openK h
    cases e
    exact ⟨vs, vs[i]'(by omega), sq, List.getElem?_eq_getElem _⟩
  · obtain ⟨b, vs, e, sq, l, _⟩ := RepT.openK h
    cases e
    exact ⟨vs, sq, by omega⟩
  · obtain ⟨rfl, hx⟩ := y
    have h : RepT K H' ((.ktp ds, .ref a) :: L) := h
    have h2 := RepT.dup zz h
    obtain ⟨b, vs, e1, sq, l, r⟩ := RepT.openK h2
    cases e1
    exact r.pick (zip_take e (hx vs sq))
def itemsOf (d : D) : Option (List D) := match d with
  | .lst _ ds => if fzL (freezeL ds) = true then some (freezeL ds) else none
  | .scr ds => if fzL (freezeL ds) = true then some (freezeL ds) else none
  | .tup ds => if fzL (freezeL ds) = true then some (freezeL ds) else none
  | .ktp ds => if fzL (freezeL ds) = true then some (freezeL ds) else none
  | _ => none
def dItems (f : M D) : M (List D) := bindM f fun d => optM (itemsOf d)
theorem vi_seq {tg l : Expr} {f : M D} (h : VE X W m l f) : VI X W tg l (dItems f) := by
  refine PI.imp (PI.orr (pi_list h) (pi_tup h)) fun σ H R ⟨T, ρ, u, rep, hf, he⟩ => ?_
  unfold dItems bindM at hf
  cases q : f ρ with
  | none => rw [q] at hf; cases hf
  | some w =>
    rw [q] at hf
    cases w with
    | ex x ρ1 =>
      have : u = .ex x ρ1 := (Option.some.inj hf).symm
      subst this
      exact .inl ⟨T, ρ, _, rep, q, he⟩
    | ok d ρ1 =>
      obtain ⟨ds, e, rfl⟩ := optM_some hf
      cases d with
      | lst o xs =>
        simp only [itemsOf] at e
        by_cases z : fzL (freezeL xs) = true
        · rw [if_pos z] at e
          cases e
          refine .inl ⟨T, ρ, _, rep, q, fun v H1 _ r1 => ?_⟩
          have r2 : RepT X.K H1 ((freeze (.lst o xs), v) :: (T ++ SL ρ1 σ)) := RepT.freeze r1.rep
          rw [freeze] at r2
          obtain ⟨a, vs, rfl, sq, l, _⟩ := RepT.openF r2
          exact ⟨a, rfl, ⟨vs, .inl (.inl sq)⟩, he _ _ H1 (itL z) ⟨r1.len, r1.nos, r2⟩⟩
        · rw [if_neg z] at e; cases e
      | scr xs =>
        simp only [itemsOf] at e
        by_cases z : fzL (freezeL xs) = true
        · rw [if_pos z] at e
          cases e
          refine .inl ⟨T, ρ, _, rep, q, fun v H1 _ r1 => ?_⟩
          have r2 : RepT X.K H1 ((freeze (.scr xs), v) :: (T ++ SL ρ1 σ)) := RepT.freeze r1.rep
          rw [freeze] at r2
          obtain ⟨a, vs, rfl, sq, l, _⟩ := RepT.openS r2
          exact ⟨a, rfl, ⟨vs, sq⟩, he _ _ H1 (itS z) ⟨r1.len, r1.nos, r2⟩⟩
        · rw [if_neg z] at e; cases e
      | tup xs =>
        simp only [itemsOf] at e
        by_cases z : fzL (freezeL xs) = true
        · rw [if_pos z] at e
          cases e
          refine .inr ⟨T, ρ, _, rep, q, fun v H1 _ r1 => ?_⟩
          have r2 : RepT X.K H1 ((freeze (.tup xs), v) :: (T ++ SL ρ1 σ)) := RepT.freeze r1.rep
          rw [freeze] at r2
          obtain ⟨a, vs, rfl, sq, l, _⟩ := RepT.openT r2
          exact ⟨a, rfl, ⟨vs, .inl (.inl sq)⟩, he _ _ H1 (itT z) ⟨r1.len, r1.nos, r2⟩⟩
        · rw [if_neg z] at e; cases e
      | ktp xs =>
        simp only [itemsOf] at e
        by_cases z : fzL (freezeL xs) = true
        · rw [if_pos z] at e
          cases e
          refine .inr ⟨T, ρ, _, rep, q, fun v H1 _ r1 => ?_⟩
          have r2 : RepT X.K H1 ((freeze (.ktp xs), v) :: (T ++ SL ρ1 σ)) := RepT.freeze r1.rep
          rw [freeze] at r2
          obtain ⟨a, vs, rfl, sq, l, _⟩ := RepT.openK r2
          exact ⟨a, rfl, ⟨vs, sq⟩, he _ _ H1 (itKT z) ⟨r1.len, r1.nos, r2⟩⟩
        · rw [if_neg z] at e; cases e
      | _ => cases e
/-- lo, lo + 1, .. n of them -/
def intsD (lo : Int) (n : Nat) : List D := (List.range n).map fun (i : Nat) => .int (lo + i)
theorem itR {lo : Int} {n : Nat} : ItOk K (Itr lo n) [] (intsD lo n) := by
  have len : (intsD lo n).length = n := by simp [intsD]
  refine ⟨fun i H L hi h => by rw [len] at hi; exact hi, fun H L h => by rw [len]; exact Nat.le_refl _, fun i H L x H' d h e y => ?_⟩
  obtain ⟨rfl, rfl⟩ := y
  have : d = .int (lo + i) := by
    unfold intsD at e
    rw [List.getElem?_map] at e
    cases q : (List.range n)[i]? with
    | none => rw [q] at e; cases e
    | some j =>
      rw [q] at e
      have := (List.getElem?_eq_some_iff.mp q).2
      rw [List.getElem_range] at this
      subst this
      exact (Option.some.inj e).symm
  subst this
  exact RepT.int h
def rangeD1 (ds : List D) : Option (List D) := match ds with
  | [.int j] => if -(2 ^ 62) ≤ j ∧ j < 2 ^ 62 then some (intsD 0 j.toNat) else none
  | _ => none
def rangeD2 (ds : List D) : Option (List D) := match ds with
  | [.int i, .int j] => if -(2 ^ 62) ≤ i ∧ i < 2 ^ 62 ∧ -(2 ^ 62) ≤ j ∧ j < 2 ^ 62 then some (intsD i (j - i).toNat) else none
  | _ => none
theorem rangeD1_inv {ds r : List D} (h : rangeD1 ds = some r) : ∃ j : Int, ds = [.int j] ∧ -(2 ^ 62) ≤ j ∧ j < 2 ^ 62 ∧ r = intsD 0 j.toNat := by
  unfold rangeD1 at h
  split at h
  · rename_i j
    split at h
    · rename_i z
      exact ⟨j, rfl, z.1, z.2, (Option.some.inj h).symm⟩
    · cases h
  · cases h
theorem rangeD2_inv {ds r : List D} (h : rangeD2 ds = some r) : ∃ i j : Int, ds = [.int i, .int j] ∧ (-(2 ^ 62) ≤ i ∧ i < 2 ^ 62 ∧ -(2 ^ 62) ≤ j ∧ j < 2 ^ 62) ∧ r = intsD i (j - i).toNat := by
  unfold rangeD2 at h
  split at h
  · rename_i i j
    split at h
    · rename_i z
      exact ⟨i, j, rfl, z, (Option.some.inj h).symm⟩
    · cases h
  · cases h
theorem len1 {α : Type} {vs : List α} (h : 1 = vs.length) : ∃ v, vs = [v] := by
  match vs, h with
  | [v], _ => exact ⟨v, rfl⟩
theorem len2 {α : Type} {vs : List α} (h : 2 = vs.length) : ∃ v w, vs = [v, w] := by
  match vs, h with
  | [v, w], _ => exact ⟨v, w, rfl⟩
theorem len3 {α : Type} {vs : List α} (h : 3 = vs.length) : ∃ v w u, vs = [v, w, u] := by
  match vs, h with
  | [v, w, u], _ => exact ⟨v, w, u, rfl⟩
def dRange1 (f : M (List D)) : M (List D) := bindM f fun ds => optM (rangeD1 ds)
def dRange2 (f : M (List D)) : M (List D) := bindM f fun ds => optM (rangeD2 ds)
theorem vi_range1 {tg a : Expr} {f : M (List D)} {p pos : Pos} (hg : Gl X "range") (hm : X.mg "range" = none) (ha : VA X W m [a] f) (hs : starEach [a] X.env = [(false, eval a X.env)] := by rfl) : VI X W tg (.Call (.Name "range" p) [a] [] pos) (dRange1 f) := by
  refine PI.imp (pi_range1 hg hm ha hs) fun σ H R ⟨T, ρ, u, rep, hf, he⟩ => ?_
  refine runA rep hf he fun ds ρ1 vs H1 h1 s1 l1 r1 => ?_
  obtain ⟨d, e, rfl⟩ := optM_some h1
  obtain ⟨j, rfl, z1, z2, rfl⟩ := rangeD1_inv e
  obtain ⟨v, rfl⟩ := len1 l1
  have ev := RepT.eq_int r1.rep
  subst ev
  exact ⟨j, rfl, z1, z2, he _ [] H1 itR r1.drop⟩
theorem vi_range2 {tg a b : Expr} {f : M (List D)} {p pos : Pos} (hg : Gl X "range") (hm : X.mg "range" = none) (ha : VA X W m [a, b] f) (hs : starEach [a, b] X.env = [(false, eval a X.env), (false, eval b X.env)] := by rfl) (hs2 : starEach [b] X.env = [(false, eval b X.env)] := by rfl) : VI X W tg (.Call (.Name "range" p) [a, b] [] pos) (dRange2 f) := by
  refine PI.imp (pi_range2 hg hm ha hs hs2) fun σ H R ⟨T, ρ, u, rep, hf, he⟩ => ?_
  refine runA rep hf he fun ds ρ1 vs H1 h1 s1 l1 r1 => ?_
  obtain ⟨d, e, rfl⟩ := optM_some h1
  obtain ⟨i, j, rfl, z, rfl⟩ := rangeD2_inv e
  obtain ⟨v, w, rfl⟩ := len2 l1
  have ev := RepT.eq_int r1.rep
  have ew := RepT.eq_int r1.drop.rep
  subst ev
  subst ew
  exact ⟨i, j, rfl, z, he _ [] H1 itR r1.drop.drop⟩

/-! ### comprehensions -/
theorem RepT.push {ds : List D} {y : D} {v : V} {a : Addr} {L : List (D × V)} (h : RepT K H ((y, v) :: (.lst true ds, .ref a) :: L)) : ∃ vs, H a = some (.lst vs) ∧ ds.length = vs.length ∧ RepT K (upd H a (.lst (vs ++ [v]))) ((.lst true (ds ++ [y]), .ref a) :: L) := by
  have h2 : RepT K H ((.lst true ds, .ref a) :: (y, v) :: L) := h.perm (.swap _ _ _)
  obtain ⟨b, vs, e, q, l, r⟩ := h2.openL
  cases e
  refine ⟨vs, q, l, RepT.closeL (by simp [l]) ?_⟩
  rw [List.zip_append l]
  rw [List.append_assoc]
  exact r
theorem wipe_get (σ : St) : ∀ (vs : List Nat) (i : Nat), i ∉ vs → (wipe σ vs)[i]? = σ[i]?
  | [], _, _ => rfl
  | v :: vs, i, h => by
    unfold wipe
    rw [List.getElem?_set_ne fun z => h (by simp [z]), wipe_get σ vs i fun z => h (List.mem_cons_of_mem _ z)]
theorem wipe_none (σ : St) : ∀ (vs : List Nat) (i : Nat), i ∈ vs → i < σ.length → (wipe σ vs)[i]? = some none
  | [], _, h, _ => by cases h
  | v :: vs, i, h, hl => by
    unfold wipe
    by_cases z : v = i
    · subst z; rw [List.getElem?_set_self (by rw [wipe_length]; exact hl)]
    · rw [List.getElem?_set_ne z]
      rcases List.mem_cons.mp h with e | h
      · exact absurd e.symm z
      · exact wipe_none σ vs i h hl
theorem wipe_eq {σ σ2 : St} {vs : List Nat} (hl : σ2.length = σ.length) (h : ∀ i : Nat, i ∉ vs → σ2[i]? = σ[i]?) : wipe σ2 vs = wipe σ vs := by
  apply List.ext_getElem?
  intro i
  by_cases hi : i ∈ vs
  · by_cases hl2 : i < σ.length
    · rw [wipe_none σ vs i hi hl2, wipe_none σ2 vs i hi (by omega)]
    · rw [List.getElem?_eq_none (by rw [wipe_length]; omega), List.getElem?_eq_none (by rw [wipe_length]; omega)]
  · rw [wipe_get σ vs i hi, wipe_get σ2 vs i hi, h i hi]
theorem Kept.wiped {own : List Nat} {σ2 : St} (k : Kept asg (wipe σ own) σ2) (hs : ∀ i ∈ asg, i ∈ own) : wipe σ2 own = wipe σ own := by
  refine wipe_eq (k.1.trans (wipe_length σ own)) fun i hi => ?_
  rw [k.2 i fun z => hi (hs i z), wipe_get σ own i hi]
theorem wipe_wipe {own : List Nat} : wipe (wipe σ own) own = wipe σ own := Kept.wiped (asg := []) Kept.refl fun _ z => by cases z
/-- the block's own names forgotten: over the wiped slots, and back -/
theorem Rep.wiped {own : List Nat} (h : Rep K H T ρ σ) : Rep K H T (wipeD ρ own) (wipe σ own) := by
  refine (h.wipe1 own).other (wipe_length σ own) fun i => ?_
  by_cases hi : i ∈ own
  · by_cases hl : i < ρ.length
    · exact .inl (wipeD_get ρ hi hl)
    · exact .inr (by rw [List.getElem?_eq_none (by rw [wipe_length, ← h.len]; omega), List.getElem?_eq_none (by rw [← h.len]; omega)])
  · exact .inr (wipe_get σ own i hi)
theorem Rep.unwiped {own : List Nat} {σ2 : St} (h : Rep K H T ρ σ2) (hl : σ.length = σ2.length) (e : wipe σ2 own = wipe σ own) : Rep K H T (wipeD ρ own) σ := by
  refine (h.wipe1 own).other hl fun i => ?_
  by_cases hi : i ∈ own
  · by_cases hl2 : i < ρ.length
    · exact .inl (wipeD_get ρ hi hl2)
    · exact .inr (by rw [List.getElem?_eq_none (by rw [hl, ← h.len]; omega), List.getElem?_eq_none (by rw [← h.len]; omega)])
  · exact .inr (by rw [← wipe_get σ own i hi, ← e, wipe_get σ2 own i hi])
def lcD (own : List Nat) (bt : D → Env → Option Env) (tt : M Bool) (el : M D) : List D → List D → Env → Option (List D × Env)
  | [], acc, ρ => some (acc, ρ)
  | d :: ds, acc, ρ => match bt d ρ with
    | none => none
    | some ρ1 => match tt ρ1 with
      | some (.ok b ρ2) => if b = true then (match el ρ2 with
        | some (.ok y ρ3) => if acc.length < sizeLine then lcD own bt tt el ds (acc ++ [y]) (wipeD ρ3 own) else none
        | _ => none) else lcD own bt tt el ds acc (wipeD ρ2 own)
      | _ => none
def dLc (own : List Nat) (src : M (List D)) (bt : D → Env → Option Env) (tt : M Bool) (el : M D) : M D := bindM src fun ds ρ => match lcD own bt tt el ds [] (wipeD ρ own) with
  | none => none
  | some (acc, ρ') => some (.ok (.lst true acc) (wipeD ρ' own))
def WF : WX := fun _ _ _ _ => False
theorem tLc_of {own : List Nat} {src : M (List D)} {bt : D → Env → Option Env} {tt : M Bool} {el : M D} {mt me : Bool} (hs : ∀ i ∈ asg, i ∈ own) {Q : VK} (h : tOf K mg W true (dLc own src bt tt el) σ H Q) :
    tLc (tiOf K mg W src) (tgOf K asg bt) (ttOf K mg WF mt tt) (tOf K mg WF me el) own σ H Q := by
  obtain ⟨T, ρ, u, rep, hf, he⟩ := h
  unfold dLc bindM at hf
  cases q : src ρ with
  | none => rw [q] at hf; cases hf
  | some w =>
    rw [q] at hf
    refine ⟨T, ρ, w, rep, q, ?_⟩
    cases w with
    | ex x ρ1 =>
      have : u = .ex x ρ1 := (Option.some.inj hf).symm
      subst this
      exact he
    | ok ds ρ0 =>
      intro J c H0 it rep0 p hp
      simp only at hf
      cases ql : lcD own bt tt el ds [] (wipeD ρ0 own) with
      | none => rw [ql] at hf; cases hf
      | some pr =>
        obtain ⟨accF, ρF⟩ := pr
        rw [ql] at hf
        have : u = .ok (.lst true accF) (wipeD ρF own) := (Option.some.inj hf).symm
        subst this
        refine ⟨fun i n Hi => n = ds.length - i ∧ i ≤ ds.length ∧ ∃ acc ρi, Rep K Hi ((.lst true acc, .ref p) :: (c ++ T)) ρi (wipe σ own) ∧ lcD own bt tt el (ds.drop i) acc ρi = some (accF, ρF), ⟨ds.length, by simp, Nat.zero_le _, [], wipeD ρ0 own, ?_, ql⟩, ?_⟩
        · have r0 := rep0.wiped (own := own)
          exact r0.lift fun q => RepT.newL (ds := []) (vs := []) rfl hp q
        rintro i n Hi ⟨rfl, hi, acc, ρi, ri, fi⟩
        have ri' : RepT K Hi (c ++ ((.lst true acc, .ref p) :: (T ++ SL ρi (wipe σ own)))) := by
          have r := ri.rep
          refine r.perm ?_
          have e : ((D.lst true acc, V.ref p) :: (c ++ T)) ++ SL ρi (wipe σ own) = (D.lst true acc, V.ref p) :: (c ++ (T ++ SL ρi (wipe σ own))) := by simp
          rw [e]
          exact List.perm_middle.symm
        by_cases hlt : i < ds.length
        · rw [List.drop_eq_getElem_cons hlt] at fi
          unfold lcD at fi
          cases qb : bt ds[i] ρi with
          | none => rw [qb] at fi; cases fi
          | some ρ1 =>
            simp only [qb] at fi
            refine .inr ⟨it.go i Hi _ hlt ri', fun H' => ∃ acc ρn, Rep K H' ((.lst true acc, .ref p) :: (c ++ T)) ρn (wipe σ own) ∧ lcD own bt tt el (ds.drop (i + 1)) acc ρn = some (accF, ρF), fun H' ⟨a', ρn, rn, fn⟩ => ⟨ds.length - (i + 1), by omega, rfl, hlt, a', ρn, rn, fn⟩, fun x H' y => ?_⟩
            have ry := it.yld i Hi _ x H' ds[i] ri' (List.getElem?_eq_getElem hlt) y
            have ry' : Rep K H' ((ds[i], x) :: ((.lst true acc, .ref p) :: (c ++ T))) ρi (wipe σ own) := ⟨ri.len, ri.nos, by
              have e : ((ds[i], x) :: ((D.lst true acc, V.ref p) :: (c ++ T))) ++ SL ρi (wipe σ own) = (ds[i], x) :: (D.lst true acc, V.ref p) :: (c ++ (T ++ SL ρi (wipe σ own))) := by simp
              rw [e]
              exact ry.perm (List.perm_middle.cons _)⟩
            refine ⟨_, ρi, ds[i], ρ1, ry', qb, fun σ1 H1 k1 r1 => ?_⟩
            have ew := k1.wiped hs
            have el1 : (wipe σ own).length = σ1.length := k1.1.symm
            refine ⟨ew, ?_⟩
            cases qt : tt ρ1 with
            | none => rw [qt] at fi; cases fi
            | some w =>
              cases w with
              | ex x ρ2 => rw [qt] at fi; cases fi
              | ok b ρ2 =>
                simp only [qt] at fi
                refine ⟨_, ρ1, _, r1, qt, fun H2 _ r2 => ?_⟩
                cases b with
                | false =>
                  rw [if_neg (by simp)] at fi ⊢
                  exact ⟨acc, _, r2.unwiped (σ := wipe σ own) el1 (ew.trans wipe_wipe.symm), fi⟩
                | true =>
                  rw [if_pos rfl] at fi ⊢
                  cases qe : el ρ2 with
                  | none => rw [qe] at fi; cases fi
                  | some w =>
                    cases w with
                    | ex x ρ3 => rw [qe] at fi; cases fi
                    | ok y ρ3 =>
                      simp only [qe] at fi
                      refine ⟨_, ρ2, _, r2, qe, fun v H3 _ r3 => ?_⟩
                      by_cases z : acc.length < sizeLine
                      · rw [if_pos z] at fi
                        obtain ⟨vs, hv, lv, rp⟩ := RepT.push r3.rep
                        refine ⟨vs, hv, by rw [← lv]; exact z, acc ++ [y], _, ?_, fi⟩
                        have r4 : Rep K (upd H3 p (.lst (vs ++ [v]))) ((.lst true (acc ++ [y]), .ref p) :: (c ++ T)) ρ3 σ1 := ⟨r3.len, r3.nos, rp⟩
                        exact r4.unwiped (σ := wipe σ own) el1 (ew.trans wipe_wipe.symm)
                      · rw [if_neg z] at fi; cases fi
        · have e : i = ds.length := by omega
          subst e
          rw [List.drop_length] at fi
          have : (acc, ρi) = (accF, ρF) := Option.some.inj fi
          injection this with e1 e2
          subst e1
          subst e2
          refine .inl ⟨it.stop Hi _ ri', he _ Hi (fun e => by cases e) ?_⟩
          have r5 : Rep K Hi ((.lst true acc, .ref p) :: T) ρi (wipe σ own) := Rep.dropL (U := c) (ri.perm List.perm_middle.symm)
          exact r5.unwiped (by rw [wipe_length]) wipe_wipe
def dYes : M Bool := retM true
theorem tYes_of {Q : Bool → Hp → Prop} (h : ttOf K mg W m dYes σ H Q) : tYes σ H Q := by
  obtain ⟨T, ρ, u, rep, hf, he⟩ := h
  have : u = .ok true ρ := (Option.some.inj hf).symm
  subst this
  exact he H (fun _ => Same.refl _) rep
def VTs (X : Cx) (W : WX) (m : Bool) (ifs : List Expr) (f : M Bool) : Prop := PTs X ifs (ttOf X.K X.mg W m f)
theorem vts_nil : VTs X W false [] dYes := ⟨fun pins s σ H Q I q => pts_nil.run pins s σ H Q I (tYes_of q)⟩
theorem vts_one {c : Expr} {f : M Bool} (h : VT X W m c f) : VTs X W m [c] f := pts_one h
section
variable {elt tg iter : Expr} {ifs : List Expr} {scope : Scope} {own : List (Str × Nat)} {pos spos : Pos} {src : M (List D)} {bt : D → Env → Option Env} {tt : M Bool} {el : M D} {mt me : Bool}
theorem ve_lc (hc : X.calm = true) (hN : X.N.Nodup) (hi : VI X W tg iter src) (ok : BlkOk X.N X.env.scope scope own)
    (hg : ∀ (s : Shared) (H : Hp) (C : Addr) (cl : List (Str × Addr)) (fp : List Addr), VG (X.blk s H scope (compEnvC scope cl C X.env) fp) asg tg bt)
    (ht : ∀ (s : Shared) (H : Hp) (C : Addr) (cl : List (Str × Addr)) (fp : List Addr), VTs (X.blk s H scope (compEnvC scope cl C X.env) fp) WF mt ifs tt)
    (he : ∀ (s : Shared) (H : Hp) (C : Addr) (cl : List (Str × Addr)) (fp : List Addr), VE (X.blk s H scope (compEnvC scope cl C X.env) fp) WF me elt el)
    (hsub : ∀ i ∈ asg, i ∈ own.map (·.2) := by decide) (hs : ∀ x, foldedSetIterable iter X.env x = pure x := by intro _; rfl) : VE X W true (.ListComp elt [⟨tg, iter, ifs, 0⟩] scope pos) (dLc (own.map (·.2)) src bt tt el) :=
  PE.imp (pe_lc (g := tgOf X.K asg bt) (tt := ttOf X.K X.mg WF mt tt) (te := tOf X.K X.mg WF me el) hc hN hi ok hg ht he hs) fun _ _ _ h => tLc_of hsub h
theorem vs_setLc {i : Nat} {y : Str} {py : Pos} (hc : X.calm = true) (hN : X.N.Nodup) (hy : X.N[i]? = some y) (hyl : X.env.scope.names.lookup y = some .local)
    (hsw : swapsWith (.ListComp elt [⟨tg, iter, ifs, 0⟩] scope pos) (some (.Name y py)) spos.line X.env = pure true) (hi : VI X W tg iter src) (ok : BlkOk X.N X.env.scope scope own)
    (hg : ∀ (s : Shared) (H : Hp) (C : Addr) (cl : List (Str × Addr)) (fp : List Addr), VG (X.blk s H scope (compEnvC scope cl C X.env) fp) asg tg bt)
    (ht : ∀ (s : Shared) (H : Hp) (C : Addr) (cl : List (Str × Addr)) (fp : List Addr), VTs (X.blk s H scope (compEnvC scope cl C X.env) fp) WF mt ifs tt)
    (he : ∀ (s : Shared) (H : Hp) (C : Addr) (cl : List (Str × Addr)) (fp : List Addr), VE (X.blk s H scope (compEnvC scope cl C X.env) fp) WF me elt el)
    (hsub : ∀ i ∈ asg, i ∈ own.map (·.2) := by decide) (hs : ∀ x, foldedSetIterable iter X.env x = pure x := by intro _; rfl) : VSt X W [i] (.Assign [.Name y py] (.ListComp elt [⟨tg, iter, ifs, 0⟩] scope pos) spos) (dSet i (dLc (own.map (·.2)) src bt tt el)) := by
  refine vs_setP (m := true) (PS.imp (ps_setLc (g := tgOf X.K asg bt) (tt := ttOf X.K X.mg WF mt tt) (te := tOf X.K X.mg WF me el) hc hN hy hyl hsw hi ok hg ht he hs) fun σ H E h => ?_)
  exact tLc_of hsub h
end

/-! ### defs and their calls -/
inductive Fo where
  | ok (r : D) (as : List D)
  | ex (x : Xc) (as : List D)
abbrev FnD := List D → Option Fo
def spOf (K : PySem.W.Frag) (mg : Str → Option Value) (F : FnD) : Sp := fun vs H Q E => ∃ L as o, as.length = vs.length ∧ RepT K H (as.zip vs ++ L) ∧ F as = some o ∧ match o with
  | .ok r as' => ∀ v H', as'.length = vs.length → RepT K H' ((r, v) :: (as'.zip vs ++ L)) → Q v H'
  | .ex x as' => ∀ cls dd H', as'.length = vs.length → XRep mg x cls dd H' → RepT K H' (as'.zip vs ++ L) → E cls dd H'
def outD (np : Nat) (asg : List Nat) (ρ : Env) : List D := (wipeD ρ asg).take np
def fnD (n np : Nat) (asg : List Nat) (body : MS) : FnD := fun as => if as.length = np ∧ np ≤ n then (match body (as ++ List.replicate (n - np) .unk) with
  | none => none
  | some (.nx, ρ) => if ρ.length = n then some (.ok .non (outD np asg ρ)) else none
  | some (.rt d, ρ) => if ρ.length = n then some (.ok d (outD np asg ρ)) else none
  | some (.ex x, ρ) => if ρ.length = n then some (.ex x (outD np asg ρ)) else none
  | some (.bk, _) => none
  | some (.ct, _) => none) else none
theorem SL_start : ∀ (as : List D) (vs : List V) (k : Nat), as.length = vs.length → SL (as ++ List.replicate k .unk) (vs.map some ++ List.replicate k none) = as.zip vs ++ List.replicate k (.unk, .non)
  | [], [], k, _ => by
    show List.zipWith _ (List.replicate k D.unk) (List.replicate k none) = List.replicate k (D.unk, V.non)
    rw [List.zipWith_replicate']; rfl
  | [], _ :: _, _, h => by cases h
  | _ :: _, [], _, h => by cases h
  | a :: as, v :: vs, k, h => by
    show (a, v) :: SL (as ++ List.replicate k .unk) (vs.map some ++ List.replicate k none) = _
    rw [SL_start as vs k (Nat.succ.inj h)]; rfl
theorem RepT.unks {L : List (D × V)} {v : V} : ∀ k : Nat, RepT K H L → RepT K H (List.replicate k (.unk, v) ++ L)
  | 0, h => h
  | k + 1, h => RepT.unk (RepT.unks k h)
theorem SL_split : ∀ (ρ : Env) (vs : List V) (τ : St), vs.length ≤ ρ.length → SL ρ (vs.map some ++ τ) = (ρ.take vs.length).zip vs ++ SL (ρ.drop vs.length) τ
  | ρ, [], τ, _ => by simp
  | [], _ :: _, _, h => by simp at h
  | d :: ρ, v :: vs, τ, h => by
    show (d, v) :: SL ρ (vs.map some ++ τ) = _
    rw [SL_split ρ vs τ (Nat.le_of_succ_le_succ h)]; rfl
theorem out_rep {n np : Nat} {N : List Str} {vs : List V} {L : List (D × V)} {ρ : Env} {σ' : St} {P : List (D × V)} (hn : N.length = n) (hv : vs.length = np) (hl : ρ.length = n) (hnp : np ≤ n) (k : Kept asg (L2.start N vs) σ') (r : Rep K H (P ++ L) ρ σ') :
    (outD np asg ρ).length = vs.length ∧ RepT K H (P ++ ((outD np asg ρ).zip vs ++ L)) := by
  have r1 : Rep K H (P ++ L) (wipeD ρ asg) (L2.start N vs) := by
    refine (r.wipe1 asg).other k.1.symm fun i => ?_
    by_cases hi : i ∈ asg
    · by_cases hl2 : i < ρ.length
      · exact .inl (wipeD_get ρ hi hl2)
      · exact .inr (by rw [List.getElem?_eq_none (by rw [← k.1, ← r.len]; omega), List.getElem?_eq_none (by rw [← r.len]; omega)])
    · exact .inr (k.2 i hi).symm
  have lw : (wipeD ρ asg).length = n := by rw [wipeD_length]; exact hl
  refine ⟨by unfold outD; rw [List.length_take, lw, hv]; omega, ?_⟩
  have q := r1.rep
  unfold L2.start at q
  rw [SL_split _ _ _ (by rw [lw, hv]; exact hnp), hv] at q
  have q2 : RepT K H (SL ((wipeD ρ asg).drop np) (List.replicate (N.length - np) none) ++ (P ++ ((outD np asg ρ).zip vs ++ L))) := by
    refine q.perm ?_
    refine (List.perm_append_comm (l₁ := P ++ L)).trans ?_
    unfold outD
    generalize ((wipeD ρ asg).take np).zip vs = Z
    generalize SL ((wipeD ρ asg).drop np) (List.replicate (N.length - np) none) = Y
    have e1 : (Z ++ Y ++ (P ++ L)).Perm (Y ++ Z ++ (P ++ L)) := List.perm_append_comm.append_right _
    refine e1.trans ?_
    rw [List.append_assoc]
    refine List.Perm.append_left Y ?_
    rw [← List.append_assoc, ← List.append_assoc]
    exact List.perm_append_comm.append_right L
  exact q2.dropL
theorem fn_ok {P : Program} {w : World} {base : Heap} {x qual : Str} {st : Stmt} {f : Addr} {fd : FuncData} {N ps : List Str} {k : Nat} {g : MS} (F : Fun K x qual st f fd) (S : FnScope N ps (defScope st))
    (hbody : ∀ (cdv : Value) (A : Around) (outer : List PySem.Env) (s : Shared) (H : Hp) (E : XK), Room k (A.deeper (envOfC qual (defScope st) s.heap.objs.size f cdv)) →
      VSs (cxOf (L2.CX P w) P w K mg base N qual (defScope st) f cdv A outer s H E) (fun cls d _ H => E cls d H) asg (defBody st) g) :
    FnOk P w K mg base (L2.CX P w) (k + 1) f fd ps (spOf K mg (fnD N.length ps.length asg g)) := by
  refine F.okX S (fun vs H Q E h => ?_) fun cdv A outer s H vs Q E hr h => ?_
  · obtain ⟨L, as, o, l, _, hf, _⟩ := h
    unfold fnD at hf
    by_cases z : as.length = ps.length ∧ ps.length ≤ N.length
    · rw [← l]; exact z.1
    · rw [if_neg z] at hf; cases hf
  · obtain ⟨L, as, o, l, rep, hf, ho⟩ := h
    refine ⟨_, hbody cdv A outer s H E hr, ?_⟩
    unfold fnD at hf
    by_cases z : as.length = ps.length ∧ ps.length ≤ N.length
    · rw [if_pos z] at hf
      have lv : vs.length = ps.length := by rw [← l]; exact z.1
      have rep0 : Rep K H L (as ++ List.replicate (N.length - ps.length) .unk) (L2.start N vs) := by
        unfold L2.start
        rw [lv]
        refine ⟨by simp [l], fun i hi => ?_, ?_⟩
        · by_cases hlt : i < vs.length
          · rw [List.getElem?_append_left (by simpa using hlt), List.getElem?_map] at hi
            cases q : vs[i]? with
            | none => rw [q] at hi; cases hi
            | some v => rw [q] at hi; cases hi
          · rw [List.getElem?_append_right (by simpa using Nat.le_of_not_lt hlt)] at hi
            have hb := (List.getElem?_eq_some_iff.mp hi).1
            rw [List.length_replicate, List.length_map] at hb
            rw [List.getElem?_append_right (by omega), List.getElem?_replicate, if_pos (by omega)]
        · rw [SL_start as vs _ l]
          have q := RepT.unks (v := V.non) (N.length - ps.length) rep
          refine q.perm ?_
          refine List.perm_append_comm.trans ?_
          rw [List.append_assoc]
          refine List.perm_append_comm.trans ?_
          rw [List.append_assoc]
          exact List.Perm.append_left L List.perm_append_comm
      cases qb : g (as ++ List.replicate (N.length - ps.length) .unk) with
      | none => rw [qb] at hf; cases hf
      | some pr =>
        obtain ⟨fl, ρ'⟩ := pr
        refine ⟨L, _, fl, ρ', rep0, qb, ?_⟩
        simp only [qb] at hf
        cases fl with
        | nx =>
          intro σ' H' k' r'
          simp only at hf
          split at hf
          · rename_i zl
            cases hf
            obtain ⟨l2, r2⟩ := out_rep (P := []) rfl lv zl z.2 k' r'
            exact ho .non H' l2 (RepT.non r2)
          · cases hf
        | rt d =>
          intro v σ' H' k' r'
          simp only at hf
          split at hf
          · rename_i zl
            cases hf
            obtain ⟨l2, r2⟩ := out_rep (P := [(d, v)]) rfl lv zl z.2 k' r'
            exact ho v H' l2 r2
          · cases hf
        | ex x =>
          intro cls dd σ' H' k' xr r'
          simp only at hf
          split at hf
          · rename_i zl
            cases hf
            obtain ⟨l2, r2⟩ := out_rep (P := []) rfl lv zl z.2 k' r'
            exact ho cls dd H' l2 xr r2
          · cases hf
        | bk => cases hf
        | ct => cases hf
    · rw [if_neg z] at hf; cases hf

/-! arguments: values, and names handed on as they are -/
def IOv (σ : St) : List (Option Nat) → List V → List V → Prop
  | [], tv, vs => tv = [] ∧ vs = []
  | none :: ks, tv, vs => ∃ v t r, tv = v :: t ∧ vs = v :: r ∧ IOv σ ks t r
  | some i :: ks, tv, vs => ∃ v r, σ[i]? = some (some v) ∧ vs = v :: r ∧ IOv σ ks tv r
def okIO (K : PySem.W.Frag) (m : Bool) (ks : List (Option Nat)) (T : List (D × V)) (σ : St) (H : Hp) (Q : List V → Hp → Prop) (ds : List D) (ρ' : Env) : Prop :=
  ∀ tv vs H', (m = false → Same H H') → ds.length = tv.length → IOv σ ks tv vs → Rep K H' (ds.zip tv ++ T) ρ' σ → Q vs H'
def taIO (K : PySem.W.Frag) (mg : Str → Option Value) (W : WX) (m : Bool) (ks : List (Option Nat)) (f : M (List D)) : TA := fun σ H Q => ∃ T ρ r, Rep K H T ρ σ ∧ f ρ = some r ∧ endR K mg W T σ (okIO K m ks T σ H Q) r
def VIO (X : Cx) (W : WX) (m : Bool) (ks : List (Option Nat)) (es : List Expr) (f : M (List D)) : Prop := PA X es (taIO X.K X.mg W m ks f)
theorem vio_nil : VIO X W false [] [] dNil := PA.imp pa_nil fun σ H Q ⟨T, ρ, u, rep, hf, he⟩ => by
  have : u = .ok [] ρ := (Option.some.inj hf).symm
  subst this
  exact he [] [] H (fun _ => Same.refl _) rfl ⟨rfl, rfl⟩ rep
theorem vio_cons {e : Expr} {es : List Expr} {f : M D} {g : M (List D)} {ma mb : Bool} {ks : List (Option Nat)} (ha : VE X W ma e f) (hb : VIO X W mb ks es g) (hs : starEach (e :: es) X.env = (false, eval e X.env) :: starEach es X.env := by rfl) : VIO X W (ma || mb) (none :: ks) (e :: es) (dCons f g) := by
  refine PA.imp (pa_cons ha hb hs) fun σ H Q ⟨T, ρ, u, rep, hf, he⟩ => ?_
  refine run1 rep hf he fun x ρ1 v H1 h1 s1 r1 => ?_
  unfold bindM at h1
  cases q : g ρ1 with
  | none => rw [q] at h1; cases h1
  | some w =>
    rw [q] at h1
    refine ⟨_, ρ1, w, r1, q, ?_⟩
    cases w with
    | ex x ρ2 =>
      have : u = .ex x ρ2 := (Option.some.inj h1).symm
      subst this
      exact exE.push he
    | ok ds ρ2 =>
      intro tv vs H2 s2 l2 io r2
      have : u = .ok (x :: ds) ρ2 := (Option.some.inj h1).symm
      subst this
      exact he (v :: tv) (v :: vs) H2 (sm_or s1 s2) (by simp [l2]) ⟨v, tv, vs, rfl, rfl, io⟩ (r2.perm List.perm_middle)
def dIO (i : Nat) (g : M (List D)) : M (List D) := fun ρ => match ρ[i]? with
  | none => none
  | some .unk => none
  | some _ => g ρ
theorem vio_slot {e : Expr} {es : List Expr} {g : M (List D)} {i : Nat} {ks : List (Option Nat)} (ha : PE X e (tVar i)) (hb : VIO X W m ks es g) (hs : starEach (e :: es) X.env = (false, eval e X.env) :: starEach es X.env := by rfl) : VIO X W m (some i :: ks) (e :: es) (dIO i g) := by
  refine PA.imp (pa_cons ha hb hs) fun σ H Q ⟨T, ρ, u, rep, hf, he⟩ => ?_
  unfold dIO at hf
  cases q : ρ[i]? with
  | none => rw [q] at hf; cases hf
  | some d =>
    have n : d ≠ .unk := fun e => by rw [q, e] at hf; cases hf
    have hf' : g ρ = some u := by
      rw [q] at hf
      cases d <;> first | exact hf | exact absurd rfl n
    obtain ⟨v, hv⟩ := rep.slot q n
    refine ⟨v, hv, T, ρ, u, rep, hf', ?_⟩
    cases u with
    | ex x ρ2 => exact he
    | ok ds ρ2 => exact fun tv vs H2 s2 l2 io r2 => he tv (v :: vs) H2 s2 l2 ⟨v, vs, hv, rfl, io⟩ r2
def takeIO : List (Option Nat) → List D → Env → List D × Env
  | [], _, ρ => ([], ρ)
  | none :: ks, [], ρ => ([], ρ)
  | none :: ks, d :: ds, ρ => (d :: (takeIO ks ds ρ).1, (takeIO ks ds ρ).2)
  | some i :: ks, ds, ρ => (ρ.getD i .unk :: (takeIO ks ds (ρ.set i .unk)).1, (takeIO ks ds (ρ.set i .unk)).2)
def giveIO : List (Option Nat) → List D → Env → Env
  | none :: ks, _ :: as, ρ => giveIO ks as ρ
  | some i :: ks, a :: as, ρ => giveIO ks as (ρ.set i a)
  | _, _, ρ => ρ
theorem take_rep : ∀ {ks : List (Option Nat)} {ds : List D} {tv vs : List V} {ρ : Env} {T : List (D × V)}, ds.length = tv.length → IOv σ ks tv vs → Rep K H (ds.zip tv ++ T) ρ σ →
    (takeIO ks ds ρ).1.length = vs.length ∧ Rep K H ((takeIO ks ds ρ).1.zip vs ++ T) (takeIO ks ds ρ).2 σ
  | [], ds, tv, vs, ρ, T, l, io, r => by
    obtain ⟨rfl, rfl⟩ := io
    exact ⟨rfl, r.dropL⟩
  | none :: ks, ds, tv, vs, ρ, T, l, io, r => by
    obtain ⟨v, t, r', rfl, rfl, io⟩ := io
    cases ds with
    | nil => cases l
    | cons d ds =>
      have r2 : Rep K H (ds.zip t ++ ((d, v) :: T)) ρ σ := r.perm List.perm_middle.symm
      obtain ⟨l3, r3⟩ := take_rep (ks := ks) (ds := ds) (tv := t) (vs := r') (T := (d, v) :: T) (Nat.succ.inj l) io r2
      exact ⟨by simp [takeIO, l3], r3.perm List.perm_middle⟩
  | some i :: ks, ds, tv, vs, ρ, T, l, io, r => by
    obtain ⟨v, r', hv, rfl, io⟩ := io
    have hi : i < ρ.length := by rw [r.len]; exact (List.getElem?_eq_some_iff.mp hv).1
    have e : ρ[i]? = some (ρ.getD i .unk) := by
      rw [List.getD_eq_getElem?_getD, List.getElem?_eq_getElem hi]; rfl
    have r1 := r.take e hv
    have r2 : Rep K H (ds.zip tv ++ ((ρ.getD i .unk, v) :: T)) (ρ.set i .unk) σ := r1.perm List.perm_middle.symm
    obtain ⟨l3, r3⟩ := take_rep (ks := ks) (ds := ds) (tv := tv) (vs := r') (T := (ρ.getD i .unk, v) :: T) l io r2
    exact ⟨by simp [takeIO, l3], r3.perm List.perm_middle⟩
theorem give_rep : ∀ {ks : List (Option Nat)} {as : List D} {tv vs : List V} {ρ : Env} {T : List (D × V)}, as.length = vs.length → IOv σ ks tv vs → Rep K H (as.zip vs ++ T) ρ σ → Rep K H T (giveIO ks as ρ) σ
  | [], as, tv, vs, ρ, T, l, io, r => by
    obtain ⟨rfl, rfl⟩ := io
    cases as with
    | nil => exact r
    | cons _ _ => cases l
  | none :: ks, as, tv, vs, ρ, T, l, io, r => by
    obtain ⟨v, t, r', rfl, rfl, io⟩ := io
    cases as with
    | nil => cases l
    | cons a as => exact give_rep (ks := ks) (as := as) (tv := t) (vs := r') (Nat.succ.inj l) io (Rep.drop r)
  | some i :: ks, as, tv, vs, ρ, T, l, io, r => by
    obtain ⟨v, r', hv, rfl, io⟩ := io
    cases as with
    | nil => cases l
    | cons a as =>
      have r2 : Rep K H ((a, v) :: (as.zip r' ++ T)) ρ σ := r
      exact give_rep (ks := ks) (as := as) (tv := tv) (vs := r') (Nat.succ.inj l) io (r2.put hv)
def dFn (ks : List (Option Nat)) (F : FnD) (f : M (List D)) : M D := bindM f fun ds ρ => match F (takeIO ks ds ρ).1 with
  | none => none
  | some (.ok r as) => some (.ok r (giveIO ks as (takeIO ks ds ρ).2))
  | some (.ex x as) => some (.ex x (giveIO ks as (takeIO ks ds ρ).2))
theorem tFn_of {ks : List (Option Nat)} {F : FnD} {f : M (List D)} {Q : VK} (h : tOf K mg W true (dFn ks F f) σ H Q) : tCallS (spOf K mg F) (WE W) (taIO K mg W m ks f) σ H Q := by
  obtain ⟨T, ρ, u, rep, hf, he⟩ := h
  unfold dFn bindM at hf
  cases q : f ρ with
  | none => rw [q] at hf; cases hf
  | some w =>
    rw [q] at hf
    refine ⟨T, ρ, w, rep, q, ?_⟩
    cases w with
    | ex x ρ2 =>
      have : u = .ex x ρ2 := (Option.some.inj hf).symm
      subst this
      exact he
    | ok ds ρ1 =>
      intro tv vs H1 s1 l1 io r1
      obtain ⟨l2, r2⟩ := take_rep l1 io r1
      simp only at hf
      cases qF : F (takeIO ks ds ρ1).1 with
      | none => rw [qF] at hf; cases hf
      | some o =>
        rw [qF] at hf
        refine ⟨T ++ SL (takeIO ks ds ρ1).2 σ, _, o, l2, by rw [← List.append_assoc]; exact r2.rep, qF, ?_⟩
        cases o with
        | ok r as =>
          have : u = .ok r (giveIO ks as (takeIO ks ds ρ1).2) := (Option.some.inj hf).symm
          subst this
          intro v H2 l3 r3
          refine he v H2 (fun e => by cases e) ?_
          have r4 : Rep K H2 (as.zip vs ++ ((r, v) :: T)) (takeIO ks ds ρ1).2 σ := ⟨r2.len, r2.nos, by
            refine r3.perm ?_
            rw [List.append_assoc]
            exact List.perm_middle.symm⟩
          exact give_rep l3 io r4
        | ex x as =>
          have : u = .ex x (giveIO ks as (takeIO ks ds ρ1).2) := (Option.some.inj hf).symm
          subst this
          intro cls dd H2 l3 xr r3
          refine he cls dd H2 xr ?_
          have r4 : Rep K H2 (as.zip vs ++ T) (takeIO ks ds ρ1).2 σ := ⟨r2.len, r2.nos, by rw [List.append_assoc]; exact r3⟩
          exact give_rep l3 io r4
theorem ve_call {ks : List (Option Nat)} {F : FnD} {f : M (List D)} {k : Nat} {fa : Addr} {fd : FuncData} {ps : List Str} {x : Str} {e : Expr} {es : List Expr} {p pos : Pos} (G : FnOk X.prog X.w X.K X.mg X.base (L2.CX X.prog X.w) k fa fd ps (spOf X.K X.mg F)) (hr : Room k X.A) (hg : Gl X x) (hm : X.mg x = some (.ref fa))
    (hk : PySem.W.keepIn X.K (.ref fa) = true) (hb : Binds X.K fd ps []) (tk : Takes X W) (ha : VIO X W m ks (e :: es) f) (hdb : (x == ("__debug__" : Str)) = false := by decide)
    (he : starEach (e :: es) X.env = (false, eval e X.env) :: starEach es X.env := by rfl) (hpl : (backTo pos (starEach es X.env)).any (·.1) = false := by rfl) : VE X W true (.Call (.Name x p) (e :: es) [] pos) (dFn ks F f) :=
  PE.imp (pe_callS G hr hg hm hk hb (fun σ => passAt tk σ) ha hdb he hpl) fun _ _ _ h => tFn_of h
end
end VS

set_option Elab.async false
set_option linter.all false
set_option maxRecDepth 100000
set_option maxHeartbeats 4000000
set_option autoImplicit false
/-! VS4: operators and built-ins by data. -/
namespace VS
open PySem PySem.Spec PyProof.Rows L2

/-! ### data as the library has it -/
mutual
def dat : D → Option PyData
  | .non => some .none
  | .bl b => some (.bool b)
  | .int i => some (.int i)
  | .str x => some (.str x)
  | .tup ds => (dats ds).map .tuple
  | .ktp ds => (dats ds).map .tuple
  | .lst _ ds => (dats ds).map .list
  | .scr ds => (dats ds).map .list
  | _ => none
def dats : List D → Option (List PyData)
  | [] => some []
  | d :: ds => match dat d, dats ds with
    | some x, some xs => some (x :: xs)
    | _, _ => none
end
section
variable {X : Cx} {W : WX} {K : PySem.W.Frag} {mg : Str → Option Value} {F H H1 : Hp} {T L : List (D × V)} {ρ ρ' : Env} {σ σ' σ'' : St} {m : Bool}
mutual
theorem Ow.dp (sF : Same F H) : ∀ (d : D) (v : V) (A : List Addr) (x : PyData), Ow K F H d v A → dat d = some x → Dp K H v x
  | .unk, v, A, x, h, e => by simp [dat] at e
  | .hole, v, A, x, h, e => by simp [dat] at e
  | .non, v, A, x, h, e => by
    rw [Ow] at h; rw [dat] at e; cases e; rw [h.1]; exact .non
  | .bl b, v, A, x, h, e => by
    rw [Ow] at h; rw [dat] at e; cases e; rw [h.1]; exact .bl b
  | .int i, v, A, x, h, e => by
    rw [Ow] at h; rw [dat] at e; cases e; rw [h.1]; exact .int i
  | .str z, v, A, x, h, e => by
    rw [Ow] at h; rw [dat] at e; cases e; rw [h.1]; exact .str z
  | .tup ds, v, A, x, h, e => by
    rw [Ow] at h
    obtain ⟨a, vs, rfl, q, l⟩ := h
    rw [dat] at e
    obtain ⟨xs, e1, rfl⟩ := Option.map_eq_some_iff.mp e
    exact .tup (.inl (.inl (sF _ _ q))) (OwL.dp sF ds vs A xs l e1)
  | .ktp ds, v, A, x, h, e => by
    rw [Ow] at h
    obtain ⟨a, vs, rfl, q, l⟩ := h
    rw [dat] at e
    obtain ⟨xs, e1, rfl⟩ := Option.map_eq_some_iff.mp e
    exact .tup (Same.sqT sF q) (OwL.dp sF ds vs A xs l e1)
  | .lst false ds, v, A, x, h, e => by
    rw [Ow] at h
    obtain ⟨a, vs, rfl, q, l⟩ := h
    rw [dat] at e
    obtain ⟨xs, e1, rfl⟩ := Option.map_eq_some_iff.mp e
    exact .lst (.inl (.inl (sF _ _ q))) (OwL.dp sF ds vs A xs l e1)
  | .lst true ds, v, A, x, h, e => by
    rw [Ow] at h
    obtain ⟨a, vs, A', rfl, q, l, rfl⟩ := h
    rw [dat] at e
    obtain ⟨xs, e1, rfl⟩ := Option.map_eq_some_iff.mp e
    exact .lst (.inl (.inl q)) (OwL.dp sF ds vs A' xs l e1)
  | .scr ds, v, A, x, h, e => by
    rw [Ow] at h
    obtain ⟨a, vs, rfl, q, l⟩ := h
    rw [dat] at e
    obtain ⟨xs, e1, rfl⟩ := Option.map_eq_some_iff.mp e
    exact .lst (sF.seq q) (OwL.dp sF ds vs A xs l e1)
  | .dK o ks ds, v, A, x, h, e => by simp [dat] at e
  | .dT o ks ds, v, A, x, h, e => by simp [dat] at e
theorem OwL.dp (sF : Same F H) : ∀ (ds : List D) (vs : List V) (A : List Addr) (xs : List PyData), OwL K F H ds vs A → dats ds = some xs → DpAll K H vs xs
  | [], vs, A, xs, h, e => by
    rw [OwL] at h; rw [dats] at e; cases e; rw [h.1]; exact .nil
  | d :: ds, vs, A, xs, h, e => by
    rw [OwL] at h
    obtain ⟨v, r, A1, A2, rfl, rfl, h1, h2⟩ := h
    rw [dats] at e
    cases e1 : dat d with
    | none => rw [e1] at e; cases e
    | some y =>
      cases e2 : dats ds with
      | none => rw [e1, e2] at e; cases e
      | some ys =>
        rw [e1, e2] at e
        cases e
        exact .cons (Ow.dp sF d v A1 y h1 e1) (OwL.dp sF ds r A2 ys h2 e2)
end
theorem RepT.dp {d : D} {v : V} {x : PyData} (h : RepT K H ((d, v) :: L)) (e : dat d = some x) : Dp K H v x := by
  obtain ⟨F, A, sF, nd, fr, A1, A2, rfl, h1, o⟩ := h
  exact h1.dp sF _ _ _ _ e

/-! ### ints -/
def gInt (C : Int → Int → Bool) (f : Int → Int → Int) (x y : D) : Option D := match x, y with
  | .int i, .int j => if C i j = true then some (.int (f i j)) else none
  | _, _ => none
theorem gInt_inv {C : Int → Int → Bool} {f : Int → Int → Int} {x y d : D} (h : gInt C f x y = some d) : ∃ i j, x = .int i ∧ y = .int j ∧ C i j = true ∧ d = .int (f i j) := by
  unfold gInt at h
  split at h
  · rename_i i j
    split at h
    · rename_i z
      exact ⟨i, j, rfl, rfl, z, (Option.some.inj h).symm⟩
    · cases h
  · cases h
theorem impInt {P : Int → Int → Prop} {C : Int → Int → Bool} {f : Int → Int → Int} (hC : ∀ i j, C i j = true → P i j) : Imp2 K (rI P fun i j => .int (f i j)) (gInt C f) := by
  intro H L x y d v w Q e r h
  obtain ⟨i, j, rfl, rfl, z, rfl⟩ := gInt_inv e
  have e2 := r.eq_int
  have e1 := r.drop.eq_int
  subst e1; subst e2
  exact ⟨_, _, rfl, rfl, hC _ _ z, h _ H (Same.refl _) r.drop.drop.int⟩
theorem impInt0 {C : Int → Int → Bool} {f : Int → Int → Int} : Imp2 K (rI0 fun i j => .int (f i j)) (gInt C f) := by
  intro H L x y d v w Q e r h
  obtain ⟨i, j, rfl, rfl, z, rfl⟩ := gInt_inv e
  have e2 := r.eq_int
  have e1 := r.drop.eq_int
  subst e1; subst e2
  exact ⟨_, _, rfl, rfl, h _ H (Same.refl _) r.drop.drop.int⟩
def cT : Int → Int → Bool := fun _ _ => true
def cMul : Int → Int → Bool := fun i j => (decide (-(2 ^ 64) < i) && decide (i < 2 ^ 64)) || (decide (-(2 ^ 64) < j) && decide (j < 2 ^ 64))
def cMod : Int → Int → Bool := fun _ j => decide (0 < j)
def cDiv : Int → Int → Bool := fun _ j => decide (0 < j) && decide (j < 1073741824)
def cPow : Int → Int → Bool := fun i j => decide (0 ≤ j) && decide (j ≤ 1000000) && decide (i.natAbs < 2 ^ 64)
def gMul := gInt cMul fun i j => i * j
def gMod := gInt cMod fun i j => i % j
def gDiv := gInt cDiv fun i j => i / j
def gPow := gInt cPow fun i j => i ^ j.toNat
def gSub := gInt cT fun i j => i - j
theorem impMul : Imp2 K (rI CMul fun i j => .int (i * j)) gMul := impInt fun i j h => by
  simp only [cMul, Bool.or_eq_true, Bool.and_eq_true, decide_eq_true_eq] at h
  exact h
theorem impMod : Imp2 K (rI (fun _ j => 0 < j) fun i j => .int (i % j)) gMod := impInt fun i j h => by
  simpa [cMod] using h
theorem impDiv : Imp2 K (rI CDiv fun i j => .int (i / j)) gDiv := impInt fun i j h => by
  simpa [cDiv, CDiv] using h
theorem impPow : Imp2 K (rI CPow fun i j => .int (i ^ j.toNat)) gPow := impInt fun i j h => by
  simp only [cPow, Bool.and_eq_true, decide_eq_true_eq] at h
  exact ⟨h.1.1, h.1.2, h.2⟩
theorem impSub : Imp2 K (rI0 fun i j => .int (i - j)) gSub := impInt0
/-! a + b: ints, lists, tuples -/
def gAdd (x y : D) : Option D := match x, y with
  | .int i, .int j => some (.int (i + j))
  | .lst _ xs, .lst _ ys => if xs.length + ys.length ≤ sizeLine then some (.lst true (xs ++ ys)) else none
  | .tup xs, .tup ys => if xs.length + ys.length ≤ sizeLine then some (.tup (xs ++ ys)) else none
  | _, _ => none
theorem OpR.orr {f : Value → Value → Sem Value} {r r' : R2} (h : OpR X f r) (h' : OpR X f r') : OpR X f (fun x y H Q => r x y H Q ∨ r' x y H Q) :=
  fun pins s σ H x y v u Q I rx ry q => q.elim (h pins s σ H x y v u Q I rx ry) (h' pins s σ H x y v u Q I rx ry)
theorem Same.upd {p : Addr} {o : HO} (hp : H p = none) : Same H (upd H p o) := fun b u q => by rw [upd_ne (ne_of_none q hp)]; exact q
def rAdd3 (K : PySem.W.Frag) : R2 := fun x y H Q => rI0 (fun i j => .int (i + j)) x y H Q ∨ rCat x y H Q ∨ rCatA K x y H Q
theorem op_add3 : OpR X (binaryOp .Add) (rAdd3 X.K) := OpR.orr op_add (OpR.orr op_cat op_catA)
theorem zip_app {ds es : List D} {vs ws : List V} (l : ds.length = vs.length) : (ds ++ es).zip (vs ++ ws) = ds.zip vs ++ es.zip ws := List.zip_append l
theorem impAdd : Imp2 K (rAdd3 K) gAdd := by
  intro H L x y d v w Q e r h
  unfold gAdd at e
  split at e
  · cases e
    have e2 := r.eq_int
    have e1 := r.drop.eq_int
    subst e1; subst e2
    exact .inl ⟨_, _, rfl, rfl, h _ H (Same.refl _) r.drop.drop.int⟩
  · rename_i o xs o' ys
    split at e
    · rename_i z
      cases e
      obtain ⟨b, ws, rfl, hb, lb, r1⟩ := r.readL
      have r2 : RepT K H ((.lst o xs, v) :: (ys.zip ws ++ L)) := r1.perm List.perm_middle
      obtain ⟨a, vs, rfl, ha, la, r3⟩ := r2.readL
      refine .inr (.inl ⟨a, b, vs, ws, rfl, rfl, ha, hb, by omega, fun p hp => h _ _ (Same.upd hp) ?_⟩)
      refine RepT.newL (by simp [la, lb]) hp ?_
      rw [zip_app la, List.append_assoc]
      exact r3
    · cases e
  · rename_i xs ys
    split at e
    · rename_i z
      cases e
      have r0 := r
      obtain ⟨b, ws, rfl, hb, lb, r1⟩ := r.openT
      have r2 : RepT K H ((.tup xs, v) :: (ys.zip ws ++ L)) := r1.perm List.perm_middle
      obtain ⟨a, vs, rfl, ha, la, r3⟩ := r2.openT
      refine .inr (.inr ⟨a, b, vs, ws, rfl, rfl, .inl (.inl ha), .inl (.inl hb), by omega, fun e1 => ?_, fun n1 e2 => ?_, fun n1 n2 p hp => h _ _ (Same.upd hp) ?_⟩)
      · have : xs = [] := List.eq_nil_of_length_eq_zero (by rw [la, e1]; rfl)
        subst this
        have r4 : RepT K H ((.tup ([] : List D), .ref a) :: (.tup ys, .ref b) :: L) := r0.perm (.swap _ _ _)
        exact h _ H (Same.refl _) r4.drop
      · have : ys = [] := List.eq_nil_of_length_eq_zero (by rw [lb, e2]; rfl)
        subst this
        rw [List.append_nil] at h
        exact h _ H (Same.refl _) r0.drop
      · refine RepT.newT (by simp [la, lb]) hp ?_
        rw [zip_app la, List.append_assoc]
        exact r3
    · cases e
  · cases e
/-- -a -/
def gNeg (x : D) : Option D := match x with
  | .int i => some (.int (-i))
  | _ => none
theorem impNeg : Imp1 K (rU fun i => .int (-i)) gNeg := by
  intro H L x d v Q e r h
  cases x <;> simp only [gNeg, Option.some.injEq, reduceCtorEq] at e
  subst e
  have e1 := r.eq_int
  subst e1
  exact ⟨_, rfl, h _ H (Same.refl _) r.drop.int⟩
/-! ### == and != of data -/
def eqD (x y : D) : Option Bool := match dat x, dat y with
  | some a, some b => if SeqAt.shaped a = true ∧ SeqAt.shaped b = true then some (PyData.eqv a b) else none
  | _, _ => none
def gEq (x y : D) : Option D := (eqD x y).map .bl
def gNe (x y : D) : Option D := (eqD x y).map fun b => .bl (!b)
theorem eqD_inv {x y : D} {b : Bool} (h : eqD x y = some b) : ∃ p q, dat x = some p ∧ dat y = some q ∧ SeqAt.shaped p = true ∧ SeqAt.shaped q = true ∧ b = PyData.eqv p q := by
  unfold eqD at h
  split at h
  · rename_i p q e1 e2
    split at h
    · rename_i z
      exact ⟨p, q, e1, e2, z.1, z.2, (Option.some.inj h).symm⟩
    · cases h
  · cases h
theorem impEq : Imp2 K (rEqD K) gEq := by
  intro H L x y d v w Q e r h
  obtain ⟨b, e1, rfl⟩ := Option.map_eq_some_iff.mp e
  obtain ⟨p, q, ep, eq, sp, sq, rfl⟩ := eqD_inv e1
  exact ⟨p, q, r.drop.dp ep, r.dp eq, sp, sq, h _ H (Same.refl _) r.drop.drop.bl⟩
theorem impNe : Imp2 K (rNeD K) gNe := by
  intro H L x y d v w Q e r h
  obtain ⟨b, e1, rfl⟩ := Option.map_eq_some_iff.mp e
  obtain ⟨p, q, ep, eq, sp, sq, rfl⟩ := eqD_inv e1
  exact ⟨p, q, r.drop.dp ep, r.dp eq, sp, sq, h _ H (Same.refl _) r.drop.drop.bl⟩
/-! is None -/
def gIsN (neg : Bool) (x y : D) : Option D := match x, y with
  | .unk, _ => none
  | .non, .non => some (.bl (!neg))
  | .hole, _ => none
  | _, .non => some (.bl neg)
  | _, _ => none
theorem gIsN_inv {neg : Bool} {x y d : D} {v w : V} (e : gIsN neg x y = some d) (r : RepT K H ((y, w) :: (x, v) :: L)) : w = .non ∧ d = .bl (if neg = true then !decide (v = .non) else decide (v = .non)) := by
  have r2 := r.drop
  cases y <;> cases x <;> simp only [gIsN, Option.some.injEq, reduceCtorEq] at e <;> subst e <;> refine ⟨r.eq_non, ?_⟩
  · rw [r2.eq_non]; cases neg <;> rfl
  · rw [r2.eq_bl]; cases neg <;> rfl
  · rw [r2.eq_int]; cases neg <;> rfl
  · rw [r2.eq_str]; cases neg <;> rfl
  · obtain ⟨a, _, rfl, _⟩ := r2.openT; cases neg <;> rfl
  · obtain ⟨a, _, rfl, _⟩ := r2.readL; cases neg <;> rfl
  · obtain ⟨a, _, rfl, _⟩ := r2.openS; cases neg <;> rfl
  · obtain ⟨a, _, rfl, _⟩ := r2.openK; cases neg <;> rfl
  · obtain ⟨F, A, sF, nd, fr, A1, A2, rfl, h1, o⟩ := r2
    rename_i o1 _ _
    cases o1 <;> rw [Ow] at h1
    · obtain ⟨a, _, rfl, _⟩ := h1; cases neg <;> rfl
    · obtain ⟨a, _, _, rfl, _⟩ := h1; cases neg <;> rfl
  · obtain ⟨F, A, sF, nd, fr, A1, A2, rfl, h1, o⟩ := r2
    rename_i o1 _ _
    cases o1 <;> rw [Ow] at h1
    · obtain ⟨a, _, rfl, _⟩ := h1; cases neg <;> rfl
    · obtain ⟨a, _, _, rfl, _⟩ := h1; cases neg <;> rfl
theorem impIsN : Imp2 K (fun x y H Q => y = .non ∧ Q (.bl (decide (x = .non))) H) (gIsN false) := by
  intro H L x y d v w Q e r h
  obtain ⟨e1, rfl⟩ := gIsN_inv e r
  exact ⟨e1, h _ H (Same.refl _) r.drop.drop.bl⟩
theorem impNotN : Imp2 K (fun x y H Q => y = .non ∧ Q (.bl (!decide (x = .non))) H) (gIsN true) := by
  intro H L x y d v w Q e r h
  obtain ⟨e1, rfl⟩ := gIsN_inv e r
  exact ⟨e1, h _ H (Same.refl _) r.drop.drop.bl⟩
/-! ### subscripts -/
def seqOf : D → Option (List D)
  | .lst _ ds => some ds
  | .tup ds => some ds
  | .scr ds => some ds
  | .ktp ds => some ds
  | _ => none
theorem atI_inv {α : Type} {xs : List α} {i : Int} {x : α} (e : atI xs i = some x) : ∃ j : Nat, ixN xs.length i = some j ∧ xs[j]? = some x := by
  unfold atI at e
  cases q : ixN xs.length i with
  | none => rw [q] at e; cases e
  | some j => rw [q] at e; exact ⟨j, rfl, e⟩
theorem atI_of {α β : Type} {xs : List α} {ys : List β} {i : Int} {j : Nat} {y : β} (h : xs.length = ys.length) (q : ixN xs.length i = some j) (e : ys[j]? = some y) : atI ys i = some y := by
  unfold atI
  rw [← h, q]; exact e
theorem get_len {α β : Type} {xs : List α} {ys : List β} (h : xs.length = ys.length) {j : Nat} {x : α} (e : xs[j]? = some x) : ∃ y, ys[j]? = some y := by
  have hj := (List.getElem?_eq_some_iff.mp e).1
  exact ⟨ys[j]'(by omega), List.getElem?_eq_getElem _⟩
def gIx (x y : D) : Option D := match seqOf x, y with
  | some ds, .int i => atI ds i
  | _, _ => none
/-- a sequence, read: its place as a list or as a tuple -/
theorem RepT.seq {x : D} {ds : List D} {v : V} (e : seqOf x = some ds) (r : RepT K H ((x, v) :: L)) : ∃ a vs, v = .ref a ∧ (SqL K H a vs ∨ SqT K H a vs) ∧ ds.length = vs.length ∧ RepT K H (ds.zip vs ++ L) := by
  cases x <;> simp only [seqOf, Option.some.injEq, reduceCtorEq] at e <;> subst e
  · obtain ⟨a, vs, e, q, l, r2⟩ := r.openT
    exact ⟨a, vs, e, .inr (.inl (.inl q)), l, r2⟩
  · obtain ⟨a, vs, e, q, l, r2⟩ := r.readL
    exact ⟨a, vs, e, .inl (.inl (.inl q)), l, r2⟩
  · obtain ⟨a, vs, e, q, l, r2⟩ := r.openS
    exact ⟨a, vs, e, .inl q, l, r2⟩
  · obtain ⟨a, vs, e, q, l, r2⟩ := r.openK
    exact ⟨a, vs, e, .inr q, l, r2⟩
theorem impIx : Imp2 K (rIx K) gIx := by
  intro H L x y d v w Q e r h
  unfold gIx at e
  split at e
  · rename_i ds i es
    have ew := r.eq_int
    subst ew
    obtain ⟨a, vs, rfl, sq, l, r2⟩ := r.drop.seq es
    obtain ⟨j, h0, h1⟩ := atI_inv e
    obtain ⟨u, h2⟩ := get_len l h1
    have h3 := atI_of l h0 h2
    have r3 := r2.pick (zip_take h1 h2)
    rcases sq with sq | sq
    · exact .inl ⟨a, vs, i, u, rfl, rfl, sq, h3, h u H (Same.refl _) r3⟩
    · exact .inr (.inl ⟨a, vs, i, u, rfl, rfl, sq, h3, h u H (Same.refl _) r3⟩)
  · cases e
theorem ve_ix {a b : Expr} {fa fb : M D} {ma mb : Bool} {pos : Pos} (ha : VE X W ma a fa) (hb : VE X W mb b fb) (hs : PlainIx b := by exact fun _ _ => rfl) : VE X W (ma || mb) (.Subscript a b pos) (d2 gIx fa fb) :=
  PE.imp (pe_ix ix_seq ha hb hs) fun _ _ _ h => tOp_of impIx h
theorem OwL.item : ∀ {ds : List D} {vs : List V} {A : List Addr} {j : Nat} {d : D}, OwL K F H ds vs A → ds[j]? = some d → fz d = true → ∃ u, vs[j]? = some u ∧ Ow K F H d u []
  | [], _, _, _, _, _, e, _ => by simp at e
  | x :: ds, vs, A, j, d, h, e, z => by
    rw [OwL] at h
    obtain ⟨v, r, A1, A2, rfl, rfl, h1, h2⟩ := h
    cases j with
    | zero =>
      have e : x = d := Option.some.inj e
      subst e
      have := h1.frozen _ _ _ z
      subst this
      exact ⟨v, rfl, h1⟩
    | succ j => exact OwL.item (ds := ds) (j := j) h2 (by simpa using e) z
/-- a frozen item of a sequence, held beside it -/
theorem RepT.item {x d : D} {ds : List D} {v : V} {j : Nat} (r : RepT K H ((x, v) :: L)) (e : seqOf x = some ds) (h : ds[j]? = some d) (z : fz d = true) :
    ∃ a vs u, v = .ref a ∧ (SqL K H a vs ∨ SqT K H a vs) ∧ ds.length = vs.length ∧ vs[j]? = some u ∧ RepT K H ((d, u) :: (x, v) :: L) := by
  obtain ⟨F, A, sF, nd, fr, A1, A2, rfl, h1, o⟩ := r
  have fin : ∀ u, Ow K F H d u [] → RepT K H ((d, u) :: (x, v) :: L) := fun u hu => ⟨F, [] ++ (A1 ++ A2), sF, nd, fr, [], A1 ++ A2, rfl, hu, A1, A2, rfl, h1, o⟩
  cases x with
  | tup xs =>
    simp only [seqOf, Option.some.injEq] at e
    subst e
    have h1' := h1
    rw [Ow] at h1'
    obtain ⟨a, vs, ev, q, l⟩ := h1'
    obtain ⟨u, hu, ou⟩ := l.item h z
    exact ⟨a, vs, u, ev, .inr (.inl (.inl (sF _ _ q))), l.length, hu, fin u ou⟩
  | ktp xs =>
    simp only [seqOf, Option.some.injEq] at e
    subst e
    have h1' := h1
    rw [Ow] at h1'
    obtain ⟨a, vs, ev, q, l⟩ := h1'
    obtain ⟨u, hu, ou⟩ := l.item h z
    exact ⟨a, vs, u, ev, .inr (Same.sqT sF q), l.length, hu, fin u ou⟩
  | lst b xs =>
    simp only [seqOf, Option.some.injEq] at e
    subst e
    have h1' := h1
    cases b <;> rw [Ow] at h1'
    · obtain ⟨a, vs, ev, q, l⟩ := h1'
      obtain ⟨u, hu, ou⟩ := l.item h z
      exact ⟨a, vs, u, ev, .inl (.inl (.inl (sF _ _ q))), l.length, hu, fin u ou⟩
    · obtain ⟨a, vs, A', ev, q, l, _⟩ := h1'
      obtain ⟨u, hu, ou⟩ := l.item h z
      exact ⟨a, vs, u, ev, .inl (.inl (.inl q)), l.length, hu, fin u ou⟩
  | scr xs =>
    simp only [seqOf, Option.some.injEq] at e
    subst e
    have h1' := h1
    rw [Ow] at h1'
    obtain ⟨a, vs, ev, q, l⟩ := h1'
    obtain ⟨u, hu, ou⟩ := l.item h z
    exact ⟨a, vs, u, ev, .inl (sF.seq q), l.length, hu, fin u ou⟩
  | _ => cases e
/-- x[i], x a name: its item is frozen -/
def dIxS (i : Nat) (f : M D) : M D := fun ρ0 => match ρ0[i]? with
  | none => none
  | some .unk => none
  | some _ => bindM f (fun y ρ => match (ρ.getD i .unk), y with
    | x, .int k => match seqOf x with
      | some ds => match atI ds k with
        | some d => if fz d = true then some (.ok d ρ) else none
        | none => none
      | none => none
    | _, _ => none) ρ0
theorem ve_ixS {a b : Expr} {i : Nat} {f : M D} {pos : Pos} (ha : PE X a (tVar i)) (hb : VE X W m b f) (hs : PlainIx b := by exact fun _ _ => rfl) : VE X W m (.Subscript a b pos) (dIxS i f) := by
  refine PE.imp (pe_ix ix_seq ha hb hs) fun σ H Q ⟨T, ρ, u, rep, hf, he⟩ => ?_
  unfold dIxS at hf
  cases q : ρ[i]? with
  | none => rw [q] at hf; cases hf
  | some x0 =>
    have n : x0 ≠ .unk := fun e => by rw [q, e] at hf; cases hf
    obtain ⟨v, hv⟩ := rep.slot q n
    refine ⟨v, hv, ?_⟩
    have hf' := hf
    rw [q] at hf'
    have hf2 : bindM f (fun y ρ => match (ρ.getD i .unk), y with
      | x, .int k => match seqOf x with
        | some ds => match atI ds k with
          | some d => if fz d = true then some (.ok d ρ) else none
          | none => none
        | none => none
      | _, _ => none) ρ = some u := by
      cases x0 <;> first | exact hf' | exact absurd rfl n
    refine run1 rep hf2 he fun y ρ1 w H1 h1 s1 r1 => ?_
    cases y <;> simp only [reduceCtorEq] at h1
    rename_i k
    have ew := r1.rep.eq_int
    subst ew
    cases q2 : seqOf (ρ1.getD i .unk) with
    | none => rw [q2] at h1; cases h1
    | some ds =>
      rw [q2] at h1
      simp only at h1
      cases q3 : atI ds k with
      | none => rw [q3] at h1; cases h1
      | some d =>
        rw [q3] at h1
        simp only at h1
        by_cases z : fz d = true
        · rw [if_pos z] at h1
          have : u = .ok d ρ1 := (Option.some.inj h1).symm
          subst this
          have hi : i < ρ1.length := by
            rw [r1.len]; exact (List.getElem?_eq_some_iff.mp hv).1
          have e1 : ρ1[i]? = some (ρ1.getD i .unk) := by
            rw [List.getD_eq_getElem?_getD, List.getElem?_eq_getElem hi]; rfl
          obtain ⟨j, h0, h2⟩ := atI_inv q3
          have g := SL_get e1 hv
          have p : (T ++ SL ρ1 σ).Perm ((ρ1.getD i .unk, v) :: (T ++ (SL ρ1 σ).eraseIdx i)) := ((perm_erase g).append_left T).trans List.perm_middle
          obtain ⟨a, vs, u, rfl, sq, l, h3, r6⟩ := RepT.item (r1.drop.rep.perm p) q2 h2 z
          have fin : Rep X.K H1 ((d, u) :: T) ρ1 σ := ⟨r1.len, r1.nos, r6.perm (p.symm.cons _)⟩
          have h4 := atI_of l h0 h3
          rcases sq with sq | sq
          · exact .inl ⟨a, vs, k, u, rfl, rfl, sq, h4, he u H1 s1 fin⟩
          · exact .inr (.inl ⟨a, vs, k, u, rfl, rfl, sq, h4, he u H1 s1 fin⟩)
        · rw [if_neg z] at h1; cases h1
end
end VS

set_option Elab.async false
set_option linter.all false
set_option maxRecDepth 100000
set_option maxHeartbeats 4000000
set_option autoImplicit false
/-! VS5: built-in functions, slices, sorting, walks over enumerate and zip. -/
namespace VS
open PySem PySem.Spec PyProof.Rows L2
section
variable {X : Cx} {W : WX} {K : PySem.W.Frag} {mg : Str → Option Value} {F H H1 : Hp} {T L : List (D × V)} {ρ ρ' : Env} {σ σ' σ'' : St} {m : Bool}
/-! ### len, abs, min, max, int -/
theorem CallR.orr {f : Value} {r r' : List V → Hp → VK → Prop} (h : CallR X f r) (h' : CallR X f r') : CallR X f (fun x H Q => r x H Q ∨ r' x H Q) :=
  fun pins s σ H xs us Q I rx q => q.elim (h pins s σ H xs us Q I rx) (h' pins s σ H xs us Q I rx)
def lenD : D → Option Nat
  | .str x => if x.length ≤ sizeLine then some x.length else none
  | .dK _ ks _ => some ks.length
  | .dT _ ks _ => some ks.length
  | d => (seqOf d).map List.length
def gLen (ds : List D) : Option D := match ds with
  | [d] => (lenD d).map fun (n : Nat) => D.int (n : Int)
  | _ => none
def rLen (K : PySem.W.Frag) : List V → Hp → VK → Prop := fun xs H Q => (∃ x n, xs = [x] ∧ LenV K x H n ∧ Q (.int n) H) ∨ (∃ a kvs, xs = [V.ref a] ∧ H a = some (.dK kvs) ∧ Q (.int kvs.length) H) ∨ rLenT xs H Q
theorem call_lenA : CallR X (.builtin "len") (rLen X.K) := CallR.orr call_len (CallR.orr call_lenD call_len_dT)
theorem RepT.dK {o : Bool} {ks : List Key} {ds : List D} {v : V} (h : RepT K H ((.dK o ks ds, v) :: L)) : ∃ a vs, v = .ref a ∧ H a = some (.dK (ks.zip vs)) ∧ ks.length = ds.length ∧ ks.Nodup ∧ ds.length = vs.length ∧ RepT K H (ds.zip vs ++ L) := by
  obtain ⟨F, A, sF, nd, fr, A1, A2, rfl, h1, ow⟩ := h
  cases o <;> rw [Ow] at h1
  · obtain ⟨a, vs, rfl, q, n, l⟩ := h1
    exact ⟨a, vs, rfl, sF _ _ q, n.1, n.2, l.length, F, A1 ++ A2, sF, nd, fr, l.toT.append ow⟩
  · obtain ⟨a, vs, A', rfl, q, n, l, rfl⟩ := h1
    have nd2 : (a :: (A' ++ A2)).Nodup := nd
    exact ⟨a, vs, rfl, q, n.1, n.2, l.length, F, A' ++ A2, sF, (List.nodup_cons.mp nd2).2, fun b hb => fr b (List.mem_cons_of_mem _ hb), l.toT.append ow⟩
theorem RepT.dT {o : Bool} {ks : List (List Key)} {ds : List D} {v : V} (h : RepT K H ((.dT o ks ds, v) :: L)) : ∃ a vs, v = .ref a ∧ H a = some (.dT (ks.zip vs)) ∧ ks.length = ds.length ∧ ks.Nodup ∧ ds.length = vs.length ∧ RepT K H (ds.zip vs ++ L) := by
  obtain ⟨F, A, sF, nd, fr, A1, A2, rfl, h1, ow⟩ := h
  cases o <;> rw [Ow] at h1
  · obtain ⟨a, vs, rfl, q, n, l⟩ := h1
    exact ⟨a, vs, rfl, sF _ _ q, n.1, n.2, l.length, F, A1 ++ A2, sF, nd, fr, l.toT.append ow⟩
  · obtain ⟨a, vs, A', rfl, q, n, l, rfl⟩ := h1
    have nd2 : (a :: (A' ++ A2)).Nodup := nd
    exact ⟨a, vs, rfl, q, n.1, n.2, l.length, F, A' ++ A2, sF, (List.nodup_cons.mp nd2).2, fun b hb => fr b (List.mem_cons_of_mem _ hb), l.toT.append ow⟩
theorem gLen_rd {d : D} {n : Nat} {v : V} {Q : VK} (e : lenD d = some n) (r : RepT K H ((d, v) :: L)) (h : Q (.int n) H) : rLen K [v] H Q := by
  have seq : ∀ {ds : List D}, seqOf d = some ds → n = ds.length → rLen K [v] H Q := fun {ds} es en => by
    obtain ⟨a, vs, rfl, sq, l, r2⟩ := r.seq es
    refine .inl ⟨.ref a, n, rfl, ?_, h⟩
    rcases sq with sq | sq
    · exact .inl ⟨vs, sq, by omega⟩
    · exact .inr ⟨vs, sq, by omega⟩
  cases d with
  | str x =>
    simp only [lenD] at e
    split at e
    · rename_i z
      have ev := r.eq_str
      subst ev
      exact .inl ⟨.str x, n, rfl, ⟨z, (Option.some.inj e).symm⟩, h⟩
    · cases e
  | dK o ks ds =>
    have en : n = ks.length := (Option.some.inj e).symm
    obtain ⟨a, vs, rfl, q, l1, _, l2, _⟩ := r.dK
    refine .inr (.inl ⟨a, _, rfl, q, ?_⟩)
    have : (ks.zip vs).length = n := by rw [List.length_zip]; omega
    rw [this]; exact h
  | dT o ks ds =>
    have en : n = ks.length := (Option.some.inj e).symm
    obtain ⟨a, vs, rfl, q, l1, _, l2, _⟩ := r.dT
    refine .inr (.inr ⟨a, _, rfl, q, ?_⟩)
    have : (ks.zip vs).length = n := by rw [List.length_zip]; omega
    rw [this]; exact h
  | tup ds => exact seq rfl (Option.some.inj e).symm
  | lst o ds => exact seq rfl (Option.some.inj e).symm
  | scr ds => exact seq rfl (Option.some.inj e).symm
  | ktp ds => exact seq rfl (Option.some.inj e).symm
  | _ => cases e
theorem impLen : ImpA K (rLen K) gLen := by
  intro H L ds vs d Q e l r h
  unfold gLen at e
  split at e
  · rename_i x
    obtain ⟨n, e1, rfl⟩ := Option.map_eq_some_iff.mp e
    obtain ⟨v, rfl⟩ := len1 l
    have r1 : RepT K H ((x, v) :: L) := r
    exact gLen_rd e1 r1 (h _ H (Same.refl _) r1.drop.int)
  · cases e
def gAbs (ds : List D) : Option D := match ds with
  | [.int i] => some (.int (if i < 0 then -i else i))
  | _ => none
theorem impAbs : ImpA K (fun xs H Q => ∃ i, xs = [.int i] ∧ Q (.int (if i < 0 then -i else i)) H) gAbs := by
  intro H L ds vs d Q e l r h
  unfold gAbs at e
  split at e
  · cases e
    obtain ⟨v, rfl⟩ := len1 l
    have e1 := RepT.eq_int r
    subst e1
    exact ⟨_, rfl, h _ H (Same.refl _) (RepT.int (RepT.drop r))⟩
  · cases e
def gMax2 (ds : List D) : Option D := match ds with
  | [.int i, .int j] => some (.int (if j > i then j else i))
  | _ => none
def gMin2 (ds : List D) : Option D := match ds with
  | [.int i, .int j] => some (.int (if j < i then j else i))
  | _ => none
theorem impMax2 : ImpA K (fun xs H Q => ∃ i j, xs = [.int i, .int j] ∧ Q (.int (if j > i then j else i)) H) gMax2 := by
  intro H L ds vs d Q e l r h
  unfold gMax2 at e
  split at e
  · cases e
    obtain ⟨v, w, rfl⟩ := len2 l
    have e1 := RepT.eq_int r
    have e2 := RepT.eq_int (RepT.drop r)
    subst e1; subst e2
    exact ⟨_, _, rfl, h _ H (Same.refl _) (RepT.int (RepT.drop (RepT.drop r)))⟩
  · cases e
theorem impMin2 : ImpA K (fun xs H Q => ∃ i j, xs = [.int i, .int j] ∧ Q (.int (if j < i then j else i)) H) gMin2 := by
  intro H L ds vs d Q e l r h
  unfold gMin2 at e
  split at e
  · cases e
    obtain ⟨v, w, rfl⟩ := len2 l
    have e1 := RepT.eq_int r
    have e2 := RepT.eq_int (RepT.drop r)
    subst e1; subst e2
    exact ⟨_, _, rfl, h _ H (Same.refl _) (RepT.int (RepT.drop (RepT.drop r)))⟩
  · cases e
def gIntOf (ds : List D) : Option D := match ds with
  | [.int i] => some (.int i)
  | [.bl b] => some (.int (if b then 1 else 0))
  | _ => none
theorem impIntOf : ImpA K (fun xs H Q => (∃ i, xs = [.int i] ∧ Q (.int i) H) ∨ ∃ k, xs = [.bl k] ∧ Q (.int (if k then 1 else 0)) H) gIntOf := by
  intro H L ds vs d Q e l r h
  unfold gIntOf at e
  split at e
  · cases e
    obtain ⟨v, rfl⟩ := len1 l
    have e1 := RepT.eq_int r
    subst e1
    exact .inl ⟨_, rfl, h _ H (Same.refl _) (RepT.int (RepT.drop r))⟩
  · cases e
    obtain ⟨v, rfl⟩ := len1 l
    have e1 := RepT.eq_bl r
    subst e1
    exact .inr ⟨_, rfl, h _ H (Same.refl _) (RepT.int (RepT.drop r))⟩
  · cases e
/-! ### sum, all, any of a list -/
def intOf : D → Option Int
  | .int i => some i
  | _ => none
def blOf : D → Option Bool
  | .bl b => some b
  | _ => none
def allI : List D → Option (List Int)
  | [] => some []
  | .int i :: ds => (allI ds).map (i :: ·)
  | _ => none
def allB : List D → Option (List Bool)
  | [] => some []
  | .bl i :: ds => (allB ds).map (i :: ·)
  | _ => none
theorem allI_eq : ∀ {ds : List D} {ns : List Int}, allI ds = some ns → ds = ns.map D.int
  | [], ns, h => by simp only [allI, Option.some.injEq] at h; subst h; rfl
  | .int i :: ds, ns, h => by
    rw [allI] at h
    obtain ⟨ms, e, rfl⟩ := Option.map_eq_some_iff.mp h
    rw [allI_eq e]; rfl
  | .unk :: _, _, h => by simp [allI] at h
  | .hole :: _, _, h => by simp [allI] at h
  | .non :: _, _, h => by simp [allI] at h
  | .bl _ :: _, _, h => by simp [allI] at h
  | .str _ :: _, _, h => by simp [allI] at h
  | .tup _ :: _, _, h => by simp [allI] at h
  | .lst _ _ :: _, _, h => by simp [allI] at h
  | .scr _ :: _, _, h => by simp [allI] at h
  | .ktp _ :: _, _, h => by simp [allI] at h
  | .dK _ _ _ :: _, _, h => by simp [allI] at h
  | .dT _ _ _ :: _, _, h => by simp [allI] at h
theorem allI_map : ∀ ns : List Int, allI (ns.map D.int) = some ns
  | [] => rfl
  | n :: ns => by rw [List.map_cons, allI, allI_map ns]; rfl
theorem allB_eq : ∀ {ds : List D} {ns : List Bool}, allB ds = some ns → ds = ns.map D.bl
  | [], ns, h => by simp only [allB, Option.some.injEq] at h; subst h; rfl
  | .bl i :: ds, ns, h => by
    rw [allB] at h
    obtain ⟨ms, e, rfl⟩ := Option.map_eq_some_iff.mp h
    rw [allB_eq e]; rfl
  | .unk :: _, _, h => by simp [allB] at h
  | .hole :: _, _, h => by simp [allB] at h
  | .non :: _, _, h => by simp [allB] at h
  | .int _ :: _, _, h => by simp [allB] at h
  | .str _ :: _, _, h => by simp [allB] at h
  | .tup _ :: _, _, h => by simp [allB] at h
  | .lst _ _ :: _, _, h => by simp [allB] at h
  | .scr _ :: _, _, h => by simp [allB] at h
  | .ktp _ :: _, _, h => by simp [allB] at h
  | .dK _ _ _ :: _, _, h => by simp [allB] at h
  | .dT _ _ _ :: _, _, h => by simp [allB] at h
theorem allB_map : ∀ ns : List Bool, allB (ns.map D.bl) = some ns
  | [] => rfl
  | n :: ns => by rw [List.map_cons, allB, allB_map ns]; rfl
theorem zip_int {ns : List Int} : ∀ {vs : List V} {L : List (D × V)}, ns.length = vs.length → RepT K H ((ns.map D.int).zip vs ++ L) → vs = ns.map V.int := by
  induction ns with
  | nil => intro vs L l r; exact List.eq_nil_of_length_eq_zero l.symm
  | cons n ns ih =>
    intro vs L l r
    cases vs with
    | nil => cases l
    | cons v vs =>
      have r1 : RepT K H ((.int n, v) :: ((ns.map D.int).zip vs ++ L)) := r
      rw [r1.eq_int, ih (Nat.succ.inj l) r1.drop]; rfl
theorem zip_bl {ns : List Bool} : ∀ {vs : List V} {L : List (D × V)}, ns.length = vs.length → RepT K H ((ns.map D.bl).zip vs ++ L) → vs = ns.map V.bl := by
  induction ns with
  | nil => intro vs L l r; exact List.eq_nil_of_length_eq_zero l.symm
  | cons n ns ih =>
    intro vs L l r
    cases vs with
    | nil => cases l
    | cons v vs =>
      have r1 : RepT K H ((.bl n, v) :: ((ns.map D.bl).zip vs ++ L)) := r
      rw [r1.eq_bl, ih (Nat.succ.inj l) r1.drop]; rfl
def lstOf : D → Option (List D)
  | .lst _ ds => some ds
  | .scr ds => some ds
  | _ => none
theorem RepT.list {x : D} {ds : List D} {v : V} (e : lstOf x = some ds) (r : RepT K H ((x, v) :: L)) : ∃ a vs, v = .ref a ∧ SqL K H a vs ∧ ds.length = vs.length ∧ RepT K H (ds.zip vs ++ L) := by
  cases x <;> simp only [lstOf, Option.some.injEq, reduceCtorEq] at e <;> subst e
  · obtain ⟨a, vs, e, q, l, r2⟩ := r.readL
    exact ⟨a, vs, e, .inl (.inl q), l, r2⟩
  · exact r.openS
def gSum (ds : List D) : Option D := match ds with
  | [x] => (lstOf x).bind fun xs => (allI xs).map fun ns => .int ns.sum
  | _ => none
def gAll (ds : List D) : Option D := match ds with
  | [x] => (lstOf x).bind fun xs => (allB xs).map fun ns => .bl (ns.all id)
  | _ => none
def gAny (ds : List D) : Option D := match ds with
  | [x] => (lstOf x).bind fun xs => (allB xs).map fun ns => .bl (ns.any id)
  | _ => none
theorem impSum : ImpA K (rSum K) gSum := by
  intro H L ds vs d Q e l r h
  unfold gSum at e
  split at e
  · rename_i x
    obtain ⟨xs, e1, e2⟩ := Option.bind_eq_some_iff.mp e
    obtain ⟨ns, e3, rfl⟩ := Option.map_eq_some_iff.mp e2
    obtain ⟨v, rfl⟩ := len1 l
    have r1 : RepT K H ((x, v) :: L) := r
    obtain ⟨a, ws, rfl, sq, l2, r2⟩ := r1.list e1
    rw [allI_eq e3] at l2 r2
    have := zip_int (by rw [← l2, List.length_map]) r2
    subst this
    exact ⟨a, ns, rfl, sq, h _ H (Same.refl _) (RepT.int r1.drop)⟩
  · cases e
theorem impAll : ImpA K (rAll K) gAll := by
  intro H L ds vs d Q e l r h
  unfold gAll at e
  split at e
  · rename_i x
    obtain ⟨xs, e1, e2⟩ := Option.bind_eq_some_iff.mp e
    obtain ⟨ns, e3, rfl⟩ := Option.map_eq_some_iff.mp e2
    obtain ⟨v, rfl⟩ := len1 l
    have r1 : RepT K H ((x, v) :: L) := r
    obtain ⟨a, ws, rfl, sq, l2, r2⟩ := r1.list e1
    rw [allB_eq e3] at l2 r2
    have := zip_bl (by rw [← l2, List.length_map]) r2
    subst this
    exact ⟨a, ns, rfl, sq, h _ H (Same.refl _) (RepT.bl r1.drop)⟩
  · cases e
theorem impAny : ImpA K (rAny K) gAny := by
  intro H L ds vs d Q e l r h
  unfold gAny at e
  split at e
  · rename_i x
    obtain ⟨xs, e1, e2⟩ := Option.bind_eq_some_iff.mp e
    obtain ⟨ns, e3, rfl⟩ := Option.map_eq_some_iff.mp e2
    obtain ⟨v, rfl⟩ := len1 l
    have r1 : RepT K H ((x, v) :: L) := r
    obtain ⟨a, ws, rfl, sq, l2, r2⟩ := r1.list e1
    rw [allB_eq e3] at l2 r2
    have := zip_bl (by rw [← l2, List.length_map]) r2
    subst this
    exact ⟨a, ns, rfl, sq, h _ H (Same.refl _) (RepT.bl r1.drop)⟩
  · cases e
/-! ### list(x), tuple(x) -/
def gList (ds : List D) : Option D := match ds with
  | [x] => (seqOf x).map fun xs => .lst true xs
  | _ => none
def gTuple (ds : List D) : Option D := match ds with
  | [.ktp xs] => some (.ktp xs)
  | [x] => (seqOf x).map fun xs => .tup xs
  | _ => none
theorem impList : ImpA K (fun xs H Q => ∃ p ys, xs = [.ref p] ∧ (SqL K H p ys ∨ SqT K H p ys) ∧ ∀ l, H l = none → Q (.ref l) (upd H l (.lst ys))) gList := by
  intro H L ds vs d Q e l r h
  unfold gList at e
  split at e
  · rename_i x
    obtain ⟨xs, e1, rfl⟩ := Option.map_eq_some_iff.mp e
    obtain ⟨v, rfl⟩ := len1 l
    have r1 : RepT K H ((x, v) :: L) := r
    obtain ⟨a, ws, rfl, sq, l2, r2⟩ := r1.seq e1
    exact ⟨a, ws, rfl, sq, fun p hp => h _ _ (Same.upd hp) (RepT.newL l2 hp r2)⟩
  · cases e
theorem impTuple : ImpA K (fun xs H Q => ∃ p ys, xs = [.ref p] ∧ ((SqL K H p ys ∧ ∀ l, H l = none → Q (.ref l) (upd H l (.tup ys))) ∨ (SqT K H p ys ∧ Q (.ref p) H))) gTuple := by
  intro H L ds vs d Q e l r h
  unfold gTuple at e
  split at e
  · cases e
    obtain ⟨v, rfl⟩ := len1 l
    have r1 : RepT K H ((.ktp _, v) :: L) := r
    obtain ⟨a, ws, rfl, sq, l2, r2⟩ := r1.openK
    exact ⟨a, ws, rfl, .inr ⟨sq, h _ H (Same.refl _) r1⟩⟩
  · rename_i x nk
    obtain ⟨xs, e1, rfl⟩ := Option.map_eq_some_iff.mp e
    obtain ⟨v, rfl⟩ := len1 l
    have r1 : RepT K H ((x, v) :: L) := r
    cases x with
    | tup ys =>
      simp only [seqOf, Option.some.injEq] at e1
      subst e1
      obtain ⟨a, ws, rfl, sq, l2, r2⟩ := r1.openT
      exact ⟨a, ws, rfl, .inr ⟨.inl (.inl sq), h _ H (Same.refl _) r1⟩⟩
    | lst o ys =>
      simp only [seqOf, Option.some.injEq] at e1
      subst e1
      obtain ⟨a, ws, rfl, sq, l2, r2⟩ := r1.readL
      exact ⟨a, ws, rfl, .inl ⟨.inl (.inl sq), fun p hp => h _ _ (Same.upd hp) (RepT.newT l2 hp r2)⟩⟩
    | scr ys =>
      simp only [seqOf, Option.some.injEq] at e1
      subst e1
      obtain ⟨a, ws, rfl, sq, l2, r2⟩ := r1.openS
      exact ⟨a, ws, rfl, .inl ⟨sq, fun p hp => h _ _ (Same.upd hp) (RepT.newT l2 hp r2)⟩⟩
    | ktp ys => exact absurd rfl (nk ys)
    | _ => cases e1
  · cases e
/-! ### slices -/
def cutD (xs : List D) (lo hi : Option Int) : List D := (xs.drop (HT.sIx xs.length 0 lo)).take (HT.sIx xs.length xs.length hi - HT.sIx xs.length 0 lo)
def gSlice (x : D) (lo hi : Option Int) : Option D := match x with
  | .lst _ ds => some (.lst true (cutD ds lo hi))
  | .scr ds => some (.lst true (cutD ds lo hi))
  | .tup ds => some (.tup (cutD ds lo hi))
  | _ => none
theorem cut_perm {xs : List D} {vs : List V} (l : xs.length = vs.length) (lo hi : Option Int) : (cutD xs lo hi).length = (cutV vs lo hi).length ∧ ∃ R, (xs.zip vs).Perm ((cutD xs lo hi).zip (cutV vs lo hi) ++ R) := by
  unfold cutD cutV
  rw [l]
  generalize HT.sIx vs.length 0 lo = a
  generalize HT.sIx vs.length vs.length hi - a = n
  refine ⟨by simp [l], (xs.zip vs).take a ++ ((xs.zip vs).drop a).drop n, ?_⟩
  have e1 : ((xs.drop a).take n).zip ((vs.drop a).take n) = ((xs.zip vs).drop a).take n := by
    unfold List.zip
    rw [List.drop_zipWith, List.take_zipWith]
  rw [e1]
  have e2 : xs.zip vs = (xs.zip vs).take a ++ (((xs.zip vs).drop a).take n ++ ((xs.zip vs).drop a).drop n) := by
    rw [List.take_append_drop, List.take_append_drop]
  rw (occs := .pos [1]) [e2]
  rw [← List.append_assoc, ← List.append_assoc]
  exact List.perm_append_comm.append_right _
theorem cut_rep {xs : List D} {vs : List V} {lo hi : Option Int} (l : xs.length = vs.length) (r : RepT K H (xs.zip vs ++ L)) : RepT K H ((cutD xs lo hi).zip (cutV vs lo hi) ++ L) := by
  obtain ⟨_, R, p⟩ := cut_perm l lo hi
  have r2 := r.perm (p.append_right L)
  have r3 : RepT K H (R ++ ((cutD xs lo hi).zip (cutV vs lo hi) ++ L)) := r2.perm (by
    rw [← List.append_assoc]
    exact List.perm_append_comm.append_right L)
  exact r3.dropL
theorem SlR.orr {r r' : V → Option Int → Option Int → Hp → VK → Prop} (h : L2.SlR X r) (h' : L2.SlR X r') : L2.SlR X (fun x lo hi H Q => r x lo hi H Q ∨ r' x lo hi H Q) := L2.SlR.or h h'
/-- the ends of a slice -/
def VO (X : Cx) (W : WX) (m : Bool) (e : Option Expr) (f : M (Option Int)) : Prop := PO X e (fun σ H Q => ∃ T ρ r, Rep X.K H T ρ σ ∧ f ρ = some r ∧ endR X.K X.mg W T σ (fun o ρ' => ∀ H', (m = false → Same H H') → Rep X.K H' T ρ' σ → Q o H') r)
theorem PO.imp {e : Option Expr} {t t' : TO} (h : PO X e t) (i : ∀ σ H Q, t' σ H Q → t σ H Q) : PO X e t' := ⟨fun pins s σ H Q I q => h.run pins s σ H Q I (i σ H Q q)⟩
def dNo : M (Option Int) := retM none
def dEnd (f : M D) : M (Option Int) := bindM f fun d => optM ((intOf d).map some)
theorem vo_none : VO X W false none dNo := PO.imp po_none fun σ H Q ⟨T, ρ, u, rep, hf, he⟩ => by
  have : u = .ok none ρ := (Option.some.inj hf).symm
  subst this
  exact he H (fun _ => Same.refl _) rep
theorem vo_some {e : Expr} {f : M D} (h : VE X W m e f) : VO X W m (some e) (dEnd f) := by
  refine PO.imp (po_some h) fun σ H Q ⟨T, ρ, u, rep, hf, he⟩ => ?_
  refine run1 rep hf he fun d ρ1 v H1 h1 s1 r1 => ?_
  obtain ⟨o, e, rfl⟩ := optM_some h1
  cases d <;> simp only [intOf, Option.map_none, Option.map_some, Option.some.injEq, reduceCtorEq] at e
  subst e
  have e1 := r1.rep.eq_int
  subst e1
  exact ⟨_, rfl, he H1 s1 r1.drop⟩
def dSl (fa : M D) (fl fh : M (Option Int)) : M D := bindM fa fun x => bindM fl fun lo => bindM fh fun hi => optM (gSlice x lo hi)
theorem ve_slice {e : Expr} {lo hi : Option Expr} {fa : M D} {fl fh : M (Option Int)} {ma ml mh : Bool} {p2 pos : Pos} (ha : VE X W ma e fa) (hl : VO X W ml lo fl) (hh : VO X W mh hi fh) : VE X W (ma || ml || mh) (.Subscript e (.Slice lo hi none p2) pos) (dSl fa fl fh) := by
  refine PE.imp (pe_slice (SlR.orr sl_list sl_tupA) ha hl hh) fun σ H Q ⟨T, ρ, u, rep, hf, he⟩ => ?_
  refine run1 rep hf he fun x ρ1 v H1 h1 s1 r1 => ?_
  unfold bindM at h1
  cases q1 : fl ρ1 with
  | none => rw [q1] at h1; cases h1
  | some w1 =>
    rw [q1] at h1
    refine ⟨_, ρ1, w1, r1, q1, ?_⟩
    cases w1 with
    | ex z ρ2 =>
      have : u = .ex z ρ2 := (Option.some.inj h1).symm
      subst this
      exact exE.push he
    | ok lo ρ2 =>
      intro H2 s2 r2
      simp only at h1
      cases q2 : fh ρ2 with
      | none => rw [q2] at h1; cases h1
      | some w2 =>
        rw [q2] at h1
        refine ⟨_, ρ2, w2, r2, q2, ?_⟩
        cases w2 with
        | ex z ρ3 =>
          have : u = .ex z ρ3 := (Option.some.inj h1).symm
          subst this
          exact exE.push he
        | ok hi ρ3 =>
          intro H3 s3 r3
          obtain ⟨d, e, rfl⟩ := optM_some h1
          have sm := sm_or (sm_or s1 s2) s3
          cases x with
          | lst o ds =>
            simp only [gSlice, Option.some.injEq] at e
            subst e
            obtain ⟨a, vs, rfl, sq, l, rr⟩ := RepT.readL r3.rep
            exact .inl ⟨a, vs, rfl, .inl (.inl sq), fun p hp => he _ _ (sm_r sm (Same.upd hp)) ⟨r3.len, r3.nos, RepT.newL (cut_perm l lo hi).1 hp (cut_rep l rr)⟩⟩
          | scr ds =>
            simp only [gSlice, Option.some.injEq] at e
            subst e
            obtain ⟨a, vs, rfl, sq, l, rr⟩ := RepT.openS r3.rep
            exact .inl ⟨a, vs, rfl, sq, fun p hp => he _ _ (sm_r sm (Same.upd hp)) ⟨r3.len, r3.nos, RepT.newL (cut_perm l lo hi).1 hp (cut_rep l rr)⟩⟩
          | tup ds =>
            simp only [gSlice, Option.some.injEq] at e
            subst e
            obtain ⟨a, vs, rfl, sq, l, rr⟩ := RepT.openT r3.rep
            refine .inr ⟨a, vs, rfl, .inl (.inl sq), fun z => ?_, fun z p hp => he _ _ (sm_r sm (Same.upd hp)) ⟨r3.len, r3.nos, RepT.newT (cut_perm l lo hi).1 hp (cut_rep l rr)⟩⟩
            have : cutD ds lo hi = ds := by
              unfold cutD
              rw [l, z.1, z.2]
              rw [List.drop_zero, Nat.sub_zero, ← l, List.take_length]
            rw [this] at he
            exact he _ H3 sm r3
          | _ => cases e
/-! ### sorted -/
def leD (x y : D) : Bool := PySem.W.dataLe false (fun d => (dat d).getD .none) x y
def alikeB (es : List PyData) : Bool := es.all fun x => es.all fun y => PySem.W.alike x y
def sortB (es : List PyData) : Bool := (es.all fun d => match d with | .tuple (_ :: _) => true | _ => false) || es.all fun d => match d with | .none => false | .tuple _ => false | _ => true
def sortD (ds : List D) : Option (List D) := match dats ds with
  | none => none
  | some es => if (alikeB es && sortB es && es.all fun e => decide (e.depth ≤ 60)) = true ∧ ds.length ≤ sizeLine then some (ds.mergeSort leD) else none
theorem alikeB_ok {es : List PyData} (h : alikeB es = true) : PySem.W.AllAlike es := fun d hd d' hd' => by
  unfold alikeB at h
  rw [List.all_eq_true] at h
  have := h d hd
  rw [List.all_eq_true] at this
  exact this d' hd'
theorem sortB_ok {es : List PyData} (h : sortB es = true) : PySem.W.Sortable es := by
  unfold sortB at h
  rw [Bool.or_eq_true, List.all_eq_true, List.all_eq_true] at h
  rcases h with h | h
  · refine .inl fun d hd => ?_
    have := h d hd
    split at this
    · exact ⟨_, _, rfl⟩
    · cases this
  · refine .inr fun d hd => ?_
    have := h d hd
    split at this
    · cases this
    · cases this
    · rename_i n1 n2
      exact ⟨n1, n2⟩
def rSortA (K : PySem.W.Frag) : List V → Hp → VK → Prop := fun xs H Q => ∃ (a : Addr) (ps : List (D × V)) (es : List PyData), xs = [.ref a] ∧ SqL K H a (ps.map (·.2)) ∧ ps.length ≤ sizeLine ∧
  dats (ps.map (·.1)) = some es ∧ DpAll K H (ps.map (·.2)) es ∧ PySem.W.AllAlike es ∧ PySem.W.Sortable es ∧ (∀ e ∈ es, e.depth ≤ 60) ∧ ∀ p, H p = none → Q (.ref p) (upd H p (.lst ((ps.mergeSort fun x y => leD x.1 y.1).map (·.2))))
theorem dats_eq : ∀ {ds : List D} {es : List PyData}, dats ds = some es → es = ds.map fun d => (dat d).getD .none
  | [], es, h => by rw [dats] at h; cases h; rfl
  | d :: ds, es, h => by
    rw [dats] at h
    cases e1 : dat d with
    | none => rw [e1] at h; cases h
    | some y =>
      cases e2 : dats ds with
      | none => rw [e1, e2] at h; cases h
      | some ys =>
        rw [e1, e2] at h
        cases h
        rw [List.map_cons, e1, dats_eq e2]; rfl
theorem each_rel : ∀ {ps : List (D × V)} {its : List Value}, Vals (ps.map (·.2)) its → PySem.W.EachIs (fun v (p : D × V) => RelV p.2 v) its ps
  | [], _, .nil => .nil
  | p :: ps, _, .cons r t => .cons r (each_rel t)
theorem each_back : ∀ {ps : List (D × V)} {its : List Value}, PySem.W.EachIs (fun v (p : D × V) => RelV p.2 v) its ps → Vals (ps.map (·.2)) its
  | _, _, .nil => .nil
  | _, _, .cons r t => .cons r (each_back t)
theorem each_reads {pins : List (Addr × Obj)} {s : Shared} (I : Inv X pins σ H s) : ∀ {ps : List (D × V)} {its : List Value} {es : List PyData}, dats (ps.map (·.1)) = some es → DpAll X.K H (ps.map (·.2)) es → Vals (ps.map (·.2)) its →
    PySem.W.EachIs (fun v (p : D × V) => ∃ as, Reads s.heap v ((dat p.1).getD .none) as) its ps
  | [], _, _, _, _, .nil => .nil
  | p :: ps, _, es, h, hd, .cons r t => by
    rw [List.map_cons, dats] at h
    cases e1 : dat p.1 with
    | none => rw [e1] at h; cases h
    | some y =>
      cases e2 : dats (ps.map (·.1)) with
      | none => rw [e1, e2] at h; cases h
      | some ys =>
        rw [e1, e2] at h
        cases h
        cases hd with
        | cons d1 d2 => exact .cons (by rw [e1]; exact Dp.reads I _ _ _ d1 r) (each_reads I e2 d2 t)
theorem cr_sortA (hu : X.A.units + 64 < cLine) : CallR X (.builtin "sorted") (rSortA X.K) := by
  intro pins s σ H xs us Q I r h
  obtain ⟨a, ps, es, rfl, hs, hz, he, hd, hal, hso, hdp, q⟩ := h
  obtain ⟨its, rv, hl, _⟩ := I.list hs
  rw [Vals.ref1 r]
  have ee := dats_eq he
  have em : ps.map (fun p : D × V => (dat p.1).getD .none) = es := by rw [ee, List.map_map]; rfl
  refine PySem.W.sorted_data (R := fun v (p : D × V) => RelV p.2 v) (enc := fun p : D × V => (dat p.1).getD .none) (bs := ps) hl.isList (each_rel rv) (each_reads I he hd rv) (by rw [em]; exact hal) (by rw [em]; exact hso) hz (fun b hb => ?_) fun out hlen ho => ?_
  · have : (dat b.1).getD .none ∈ es := by rw [← em]; exact List.mem_map.mpr ⟨b, hb, rfl⟩
    have := hdp _ this
    omega
  · obtain ⟨ep, he'⟩ := PyProof.Rows.sortedAll_at s.heap its out.toArray
    have vo := each_back ho
    have hlen2 : ((ps.mergeSort fun x y => leD x.1 y.1).map (·.2)).length ≤ sizeLine := by rw [List.length_map, List.length_mergeSort]; exact hz
    exact ⟨.ref _, upd H (s.heap.objs.size + 1) (.lst ((ps.mergeSort fun x y => leD x.1 y.1).map (·.2))), I.laid (t' := s.toks) (fun _ _ => PyProof.Rows.sortedAll_old) (Nat.le_succ _) ⟨hlen2, out, ep, vo, he'⟩, rfl, q _ (I.hok.fresh (Nat.le_succ _))⟩
def gSort (ds : List D) : Option D := match ds with
  | [x] => (lstOf x).bind fun xs => (sortD xs).map fun ys => .lst true ys
  | _ => none
theorem zip_fst {ds : List D} {vs : List V} (l : ds.length = vs.length) : (ds.zip vs).map (·.1) = ds := by
  rw [List.map_fst_zip (by omega)]
theorem zip_snd {ds : List D} {vs : List V} (l : ds.length = vs.length) : (ds.zip vs).map (·.2) = vs := by
  rw [List.map_snd_zip (by omega)]
theorem zip_maps (ps : List (D × V)) : (ps.map (·.1)).zip (ps.map (·.2)) = ps := by
  induction ps with
  | nil => rfl
  | cons p ps ih => rw [List.map_cons, List.map_cons, List.zip_cons_cons, ih]
theorem RepT.dpAll {ds : List D} {vs : List V} {es : List PyData} (l : ds.length = vs.length) (r : RepT K H (ds.zip vs ++ L)) (e : dats ds = some es) : DpAll K H vs es := by
  obtain ⟨F, A, sF, nd, fr, o⟩ := r
  obtain ⟨A1, A2, rfl, o1, _⟩ := o.split
  exact (o1.toL l).dp sF _ _ _ _ e
theorem impSort : ImpA K (rSortA K) gSort := by
  intro H L ds vs d Q e l r h
  unfold gSort at e
  split at e
  · rename_i x
    obtain ⟨xs, e1, e2⟩ := Option.bind_eq_some_iff.mp e
    obtain ⟨ys, e3, rfl⟩ := Option.map_eq_some_iff.mp e2
    obtain ⟨v, rfl⟩ := len1 l
    have r1 : RepT K H ((x, v) :: L) := r
    obtain ⟨a, ws, rfl, sq, l2, r2⟩ := r1.list e1
    unfold sortD at e3
    split at e3
    · cases e3
    · rename_i es ed
      split at e3
      · rename_i z
        cases e3
        obtain ⟨z1, z2⟩ := z
        rw [Bool.and_eq_true, Bool.and_eq_true, List.all_eq_true] at z1
        have es1 : (xs.zip ws).map (·.1) = xs := zip_fst l2
        have es2 : (xs.zip ws).map (·.2) = ws := zip_snd l2
        refine ⟨a, xs.zip ws, es, rfl, by rw [es2]; exact sq, by rw [List.length_zip]; omega, by rw [es1]; exact ed, by rw [es2]; exact r2.dpAll l2 ed, alikeB_ok z1.1.1, sortB_ok z1.1.2, fun e he => of_decide_eq_true (z1.2 e he), fun p hp => h _ _ (Same.upd hp) ?_⟩
        have em : xs.mergeSort leD = ((xs.zip ws).mergeSort fun x y => leD x.1 y.1).map (·.1) := by
          have := List.map_mergeSort (f := fun p : D × V => p.1) (r := fun x y => leD x.1 y.1) (s := leD) (l := xs.zip ws) (fun _ _ _ _ => rfl)
          rw [this, es1]
        rw [em]
        refine RepT.newL (by rw [List.length_map, List.length_map]) hp ?_
        rw [zip_maps]
        exact r2.perm ((List.mergeSort_perm _ _).symm.append_right L)
      · cases e3
  · cases e
/-! ### what enumerate and zip give -/
def enumD (ds : List D) : List D := (List.range ds.length).map fun (i : Nat) => .tup [.int i, ds.getD i .unk]
theorem enum_get {ds : List D} {i : Nat} {d : D} (h : (enumD ds)[i]? = some d) : ∃ x, ds[i]? = some x ∧ d = .tup [.int i, x] := by
  unfold enumD at h
  rw [List.getElem?_map] at h
  cases q : (List.range ds.length)[i]? with
  | none => rw [q] at h; cases h
  | some j =>
    rw [q] at h
    have ⟨h1, h2⟩ := List.getElem?_eq_some_iff.mp q
    rw [List.getElem_range] at h2
    subst h2
    rw [List.length_range] at h1
    refine ⟨ds[i], List.getElem?_eq_getElem h1, ?_⟩
    have := Option.some.inj h
    rw [← this]
    show D.tup [D.int i, ds.getD i D.unk] = _
    rw [List.getD_eq_getElem?_getD, List.getElem?_eq_getElem h1]; rfl
theorem itE {a : Addr} {ds : List D} {x : D} (z : fz x = true) (hx : lstOf x = some ds) (zl : fzL ds = true) : ItOk K (Ite K a) [(x, .ref a)] (enumD ds) := by
  have len : (enumD ds).length = ds.length := by simp [enumD]
  have rd : ∀ H L, RepT K H ((x, .ref a) :: L) → ∃ vs, SqL K H a vs ∧ ds.length = vs.length ∧ RepT K H (ds.zip vs ++ ((x, .ref a) :: L)) := fun H L h => by
    obtain ⟨b, vs, e, sq, l, r⟩ := RepT.list hx (RepT.dup z h)
    cases e
    exact ⟨vs, sq, l, r⟩
  refine ⟨fun i H L hi h => ?_, fun H L h => ?_, fun i H L y H' d h e yl => ?_⟩
  · obtain ⟨vs, sq, l, _⟩ := rd H L h
    rw [len] at hi
    exact ⟨vs, vs[i]'(by omega), sq, List.getElem?_eq_getElem _⟩
  · obtain ⟨vs, sq, l, _⟩ := rd H L h
    exact ⟨vs, sq, by omega⟩
  · obtain ⟨T, w, rfl, nT, rfl, hw⟩ := yl
    obtain ⟨vs, sq, l, r⟩ := rd H L h
    obtain ⟨u, hu, rfl⟩ := enum_get e
    have r2 := r.pick (zip_take hu (hw vs sq))
    exact RepT.newT (ds := [.int i, u]) (vs := [.int i, w]) rfl nT (RepT.int r2)
def dEnum (f : M (List D)) : M (List D) := bindM f fun ds => optM (match ds with
  | [x] => (lstOf (freeze x)).bind fun xs => if fzL xs = true ∧ fz (freeze x) = true then some (enumD xs) else none
  | _ => none)
theorem vi_enum {elts : List Expr} {kk : Nat} {e : Expr} {f : M (List D)} {p pos tpos : Pos} (hg : Gl X "enumerate") (hm : X.mg "enumerate" = none) (ha : VA X W m [e] f) (hs : starEach [e] X.env = [(false, eval e X.env)] := by rfl) : VI X W (.Tuple elts kk tpos) (.Call (.Name "enumerate" p) [e] [] pos) (dEnum f) := by
  refine PI.imp (pi_enum hg hm ha hs) fun σ H R ⟨T, ρ, u, rep, hf, he⟩ => ?_
  refine runA rep hf he fun ds ρ1 vs H1 h1 s1 l1 r1 => ?_
  obtain ⟨out, e, rfl⟩ := optM_some h1
  split at e
  · rename_i x
    obtain ⟨xs, e1, e2⟩ := Option.bind_eq_some_iff.mp e
    split at e2
    · rename_i z
      cases e2
      obtain ⟨v, rfl⟩ := len1 l1
      have r2 : RepT X.K H1 ((freeze x, v) :: (T ++ SL ρ1 σ)) := RepT.freeze r1.rep
      obtain ⟨a, vs, rfl, sq, l, _⟩ := r2.list e1
      exact ⟨a, vs, rfl, sq, he _ _ H1 (itE z.2 e1 z.1) ⟨r1.len, r1.nos, r2⟩⟩
    · cases e2
  · cases e
def zipD : List D → List D → List D
  | x :: xs, y :: ys => .tup [x, y] :: zipD xs ys
  | _, _ => []
theorem zipD_len : ∀ (xs ys : List D), (zipD xs ys).length = min xs.length ys.length
  | [], _ => by simp [zipD]
  | _ :: _, [] => by simp [zipD]
  | x :: xs, y :: ys => by simp [zipD, zipD_len xs ys, Nat.succ_min_succ]
theorem zipD_get : ∀ {xs ys : List D} {i : Nat} {d : D}, (zipD xs ys)[i]? = some d → ∃ x y, xs[i]? = some x ∧ ys[i]? = some y ∧ d = .tup [x, y]
  | [], _, _, _, h => by simp [zipD] at h
  | _ :: _, [], _, _, h => by simp [zipD] at h
  | x :: xs, y :: ys, 0, d, h => ⟨x, y, rfl, rfl, (Option.some.inj h).symm⟩
  | x :: xs, y :: ys, i + 1, d, h => zipD_get (xs := xs) (ys := ys) h
theorem itZ {a b : Addr} {xs ys : List D} {x y : D} (zx : fz x = true) (zy : fz y = true) (hx : lstOf x = some xs) (hy : lstOf y = some ys) : ItOk K (Itz K a b) [(x, .ref a), (y, .ref b)] (zipD xs ys) := by
  have rd : ∀ H L, RepT K H ((x, .ref a) :: (y, .ref b) :: L) → ∃ vs ws, SqL K H a vs ∧ SqL K H b ws ∧ xs.length = vs.length ∧ ys.length = ws.length ∧ RepT K H (xs.zip vs ++ (ys.zip ws ++ ((x, .ref a) :: (y, .ref b) :: L))) := fun H L h => by
    have h1 := RepT.dup zx h
    have h2 : RepT K H ((y, .ref b) :: (x, .ref a) :: (x, .ref a) :: L) := h1.perm (by
      exact ((List.Perm.swap (y, V.ref b) (x, V.ref a) L).cons _).trans (List.Perm.swap _ _ _))
    have h3 := RepT.dup zy h2
    obtain ⟨b', ws, e, sq, l, r⟩ := RepT.list hy h3
    cases e
    have h4 : RepT K H ((x, .ref a) :: (ys.zip ws ++ ((y, .ref b) :: (x, .ref a) :: L))) := r.perm (by
      refine ((List.Perm.append_left _ ((List.Perm.swap (x, V.ref a) (y, V.ref b) ((x, V.ref a) :: L)))).trans ?_)
      exact List.perm_middle)
    obtain ⟨a', vs, e, sq', l', r'⟩ := RepT.list hx h4
    cases e
    exact ⟨vs, ws, sq', sq, l', l, r'.perm (List.Perm.append_left _ (List.Perm.append_left _ (.swap _ _ _)))⟩
  refine ⟨fun i H L hi h => ?_, fun H L h => ?_, fun i H L v H' d h e yl => ?_⟩
  · obtain ⟨vs, ws, sq, sq', l, l', _⟩ := rd H L h
    rw [zipD_len] at hi
    exact ⟨vs, ws, vs[i]'(by omega), ws[i]'(by omega), sq, sq', List.getElem?_eq_getElem _, List.getElem?_eq_getElem _⟩
  · obtain ⟨vs, ws, sq, sq', l, l', _⟩ := rd H L h
    rw [zipD_len]
    exact ⟨vs, ws, sq, sq', by omega⟩
  · obtain ⟨T, v1, v2, rfl, nT, rfl, hw, hw'⟩ := yl
    obtain ⟨vs, ws, sq, sq', l, l', r⟩ := rd H L h
    obtain ⟨u, u', hu, hu', rfl⟩ := zipD_get e
    have r2 := r.pick (zip_take hu (hw vs sq))
    have r3 : RepT K H (ys.zip ws ++ ((u, v1) :: (x, .ref a) :: (y, .ref b) :: L)) := r2.perm List.perm_middle.symm
    have r4 := r3.pick (zip_take hu' (hw' ws sq'))
    exact RepT.newT (ds := [u, u']) (vs := [v1, v2]) rfl nT (r4.perm (.swap _ _ _))
theorem itZT {a b : Addr} {xs ys : List D} (zx : fzL xs = true) (zy : fzL ys = true) : ItOk K (RZ.ItzT K a b) [(.tup xs, .ref a), (.tup ys, .ref b)] (zipD xs ys) := by
  have zx : fz (.tup xs) = true := by rw [fz]; exact zx
  have zy : fz (.tup ys) = true := by rw [fz]; exact zy
  have rd : ∀ H L, RepT K H ((.tup xs, .ref a) :: (.tup ys, .ref b) :: L) → ∃ vs ws, SqT K H a vs ∧ SqT K H b ws ∧ xs.length = vs.length ∧ ys.length = ws.length ∧ RepT K H (xs.zip vs ++ (ys.zip ws ++ ((.tup xs, .ref a) :: (.tup ys, .ref b) :: L))) := fun H L h => by
    have h1 := RepT.dup zx h
    have h2 : RepT K H ((.tup ys, .ref b) :: (.tup xs, .ref a) :: (.tup xs, .ref a) :: L) := h1.perm (by
      exact ((List.Perm.swap (D.tup ys, V.ref b) (D.tup xs, V.ref a) L).cons _).trans (List.Perm.swap _ _ _))
    have h3 := RepT.dup zy h2
    obtain ⟨b', ws, e, sq, l, r⟩ := RepT.openT h3
    cases e
    have h4 : RepT K H ((.tup xs, .ref a) :: (ys.zip ws ++ ((.tup ys, .ref b) :: (.tup xs, .ref a) :: L))) := r.perm (by
      refine ((List.Perm.append_left _ ((List.Perm.swap (D.tup xs, V.ref a) (D.tup ys, V.ref b) ((D.tup xs, V.ref a) :: L)))).trans ?_)
      exact List.perm_middle)
    obtain ⟨a', vs, e, sq', l', r'⟩ := RepT.openT h4
    cases e
    exact ⟨vs, ws, .inl (.inl sq'), .inl (.inl sq), l', l, r'.perm (List.Perm.append_left _ (List.Perm.append_left _ (.swap _ _ _)))⟩
  refine ⟨fun i H L hi h => ?_, fun H L h => ?_, fun i H L v H' d h e yl => ?_⟩
  · obtain ⟨vs, ws, sq, sq', l, l', _⟩ := rd H L h
    rw [zipD_len] at hi
    exact ⟨vs, ws, vs[i]'(by omega), ws[i]'(by omega), sq, sq', List.getElem?_eq_getElem _, List.getElem?_eq_getElem _⟩
  · obtain ⟨vs, ws, sq, sq', l, l', _⟩ := rd H L h
    rw [zipD_len]
    exact ⟨vs, ws, sq, sq', by omega⟩
  · obtain ⟨T, v1, v2, rfl, nT, rfl, hw, hw'⟩ := yl
    obtain ⟨vs, ws, sq, sq', l, l', r⟩ := rd H L h
    obtain ⟨u, u', hu, hu', rfl⟩ := zipD_get e
    have r2 := r.pick (zip_take hu (hw vs sq))
    have r3 : RepT K H (ys.zip ws ++ ((u, v1) :: (.tup xs, .ref a) :: (.tup ys, .ref b) :: L)) := r2.perm List.perm_middle.symm
    have r4 := r3.pick (zip_take hu' (hw' ws sq'))
    exact RepT.newT (ds := [u, u']) (vs := [v1, v2]) rfl nT (r4.perm (.swap _ _ _))
def zipOf (ds : List D) : Option (List D) := match ds with
  | [x, y] => match freeze x, freeze y with
    | .tup xs, .tup ys => if fzL xs = true ∧ fzL ys = true then some (zipD xs ys) else none
    | x', y' => match lstOf x', lstOf y' with
      | some xs, some ys => if fz x' = true ∧ fz y' = true then some (zipD xs ys) else none
      | _, _ => none
  | _ => none
def dZip (f : M (List D)) : M (List D) := bindM f fun ds => optM (zipOf ds)
theorem zipOf_inv {ds out : List D} (h : zipOf ds = some out) : ∃ x y xs ys, ds = [x, y] ∧ out = zipD xs ys ∧ fz (freeze x) = true ∧ fz (freeze y) = true ∧ ((freeze x = .tup xs ∧ freeze y = .tup ys) ∨ (lstOf (freeze x) = some xs ∧ lstOf (freeze y) = some ys)) := by
  unfold zipOf at h
  split at h
  · rename_i x y
    split at h
    · rename_i xs ys e1 e2
      split at h
      · rename_i z
        cases h
        exact ⟨x, y, xs, ys, rfl, rfl, by rw [e1, fz]; exact z.1, by rw [e2, fz]; exact z.2, .inl ⟨e1, e2⟩⟩
      · cases h
    · split at h
      · rename_i xs ys e1 e2
        split at h
        · rename_i z
          cases h
          exact ⟨x, y, xs, ys, rfl, rfl, z.1, z.2, .inr ⟨e1, e2⟩⟩
        · cases h
      · cases h
  · cases h
theorem vi_zip {elts : List Expr} {kk : Nat} {e e2 : Expr} {f : M (List D)} {p pos tpos : Pos} (hg : Gl X "zip") (hm : X.mg "zip" = none) (ha : VA X W m [e, e2] f)
    (hs : starEach [e, e2] X.env = (false, eval e X.env) :: starEach [e2] X.env := by rfl) (hpl : (backTo pos (starEach [e2] X.env)).any (·.1) = false := by rfl) : VI X W (.Tuple elts kk tpos) (.Call (.Name "zip" p) [e, e2] [] pos) (dZip f) := by
  refine PI.imp (RZ.pi_zipA hg hm ha hs hpl) fun σ H R ⟨T, ρ, u, rep, hf, he⟩ => ?_
  refine runA rep hf he fun ds ρ1 vs H1 h1 s1 l1 r1 => ?_
  obtain ⟨out, e, rfl⟩ := optM_some h1
  obtain ⟨x, y, xs, ys, rfl, rfl, zx, zy, hh⟩ := zipOf_inv e
  obtain ⟨v, w, rfl⟩ := len2 l1
  have r2 : RepT X.K H1 ((freeze x, v) :: (y, w) :: (T ++ SL ρ1 σ)) := RepT.freeze r1.rep
  have r3 : RepT X.K H1 ((freeze y, w) :: (freeze x, v) :: (T ++ SL ρ1 σ)) := RepT.freeze (r2.perm (.swap _ _ _))
  have r4 : RepT X.K H1 ((freeze x, v) :: (freeze y, w) :: (T ++ SL ρ1 σ)) := r3.perm (.swap _ _ _)
  rcases hh with ⟨e1, e2⟩ | ⟨e1, e2⟩
  · rw [e1, e2] at r3 r4
    rw [e1, fz] at zx
    rw [e2, fz] at zy
    obtain ⟨a, vs1, rfl, sq1, _, _⟩ := r4.openT
    obtain ⟨b, vs2, rfl, sq2, _, _⟩ := r3.openT
    exact ⟨a, b, vs1, vs2, rfl, .inr ⟨.inl (.inl sq1), .inl (.inl sq2), he _ _ H1 (itZT zx zy) ⟨r1.len, r1.nos, r4⟩⟩⟩
  · obtain ⟨a, vs1, rfl, sq1, _, _⟩ := r4.list e1
    obtain ⟨b, vs2, rfl, sq2, _, _⟩ := r3.list e2
    exact ⟨a, b, vs1, vs2, rfl, .inl ⟨sq1, sq2, he _ _ H1 (itZ zx zy e1 e2) ⟨r1.len, r1.nos, r4⟩⟩⟩
end
end VS

set_option Elab.async false
set_option linter.all false
set_option maxRecDepth 100000
set_option maxHeartbeats 4000000
set_option autoImplicit false
/-! VS6: lists changed at a name, dicts, isinstance. -/
namespace VS
open PySem PySem.Spec PyProof.Rows L2
section
variable {X : Cx} {W : WX} {K : PySem.W.Frag} {mg : Str → Option Value} {F H H1 : Hp} {T L : List (D × V)} {ρ ρ' : Env} {σ σ' σ'' : St} {m : Bool}
/-! ### methods of a list at a name -/
def ImpM (K : PySem.W.Frag) (r : V → List V → Hp → VK → Prop) (g : List D → List D → Option (D × List D)) : Prop :=
  ∀ H L xs xs' ds vs d a Q, g xs ds = some (d, xs') → ds.length = vs.length → RepT K H ((.lst true xs, .ref a) :: (ds.zip vs ++ L)) → (∀ u H', RepT K H' ((d, u) :: (.lst true xs', .ref a) :: L) → Q u H') → r (.ref a) vs H Q
def isLst : Option D → Bool
  | some (.lst _ _) => true
  | _ => false
def mutL (i : Nat) (g : List D → List D → Option (D × List D)) (ds : List D) : M D := fun ρ => match ρ[i]? with
  | some (.lst true xs) => match g xs ds with
    | some (d, xs') => some (.ok d (ρ.set i (.lst true xs')))
    | none => none
  | _ => none
def dMt (i : Nat) (g : List D → List D → Option (D × List D)) (f : M (List D)) : M D := fun ρ0 => if isLst ρ0[i]? = true then bindM f (mutL i g) ρ0 else none
theorem mutL_inv {i : Nat} {g : List D → List D → Option (D × List D)} {ds : List D} {u : Rv D} (h : mutL i g ds ρ = some u) : ∃ xs d xs', ρ[i]? = some (.lst true xs) ∧ g xs ds = some (d, xs') ∧ u = .ok d (ρ.set i (.lst true xs')) := by
  unfold mutL at h
  split at h
  · rename_i xs e
    split at h
    · rename_i d xs' e2
      exact ⟨xs, d, xs', e, e2, (Option.some.inj h).symm⟩
    · cases h
  · cases h
theorem mut_rep {i : Nat} {g : List D → List D → Option (D × List D)} {r : V → List V → Hp → VK → Prop} {xs xs' ds : List D} {d : D} {vs : List V} {v : V} {Q : VK} (hg : ImpM K r g) (rep : Rep K H (ds.zip vs ++ T) ρ σ) (hi : ρ[i]? = some (.lst true xs)) (hv : σ[i]? = some (some v)) (l : ds.length = vs.length)
    (e : g xs ds = some (d, xs')) (q : ∀ u H', Rep K H' ((d, u) :: T) (ρ.set i (.lst true xs')) σ → Q u H') : r v vs H Q := by
  have r1 := rep.take hi hv
  have hv1 := hv
  obtain ⟨a, _, rfl, _⟩ := RepT.openL r1.rep
  refine hg H (T ++ SL (ρ.set i .unk) σ) xs xs' ds vs d a Q e l (by
    have := r1.rep
    rw [show ((D.lst true xs, V.ref a) :: (ds.zip vs ++ T)) ++ SL (ρ.set i .unk) σ = (D.lst true xs, V.ref a) :: (ds.zip vs ++ (T ++ SL (ρ.set i .unk) σ)) by simp] at this
    exact this) fun u H' r2 => ?_
  have r3 : Rep K H' ((.lst true xs', .ref a) :: (d, u) :: T) (ρ.set i .unk) σ := ⟨r1.len, r1.nos, r2.perm (.swap _ _ _)⟩
  have r4 := r3.put hv
  rw [List.set_set] at r4
  exact q u H' r4
theorem ve_mt {name id : String} {o : Expr} {i : Nat} {r : V → List V → Hp → VK → Prop} {g : List D → List D → Option (D × List D)} {f : M (List D)} {e : Expr} {es : List Expr} {apos cpos : Pos} (slot : Slot "list" (Str.ofString name) id) (hty : typeOf (.builtin id) = pure (.type "method_descriptor")) (hm : MtR X id r) (hg : ImpM X.K r g)
    (ho : PE X o (tVar i)) (ha : VA X W m (e :: es) f) (hbase : attributeBase o (Str.ofString name) X.env (eval o X.env) = eval o X.env := by rfl)
    (hfew : ((backTo cpos (starEach (e :: es) X.env)).all (fun x => !x.1) && (backToKw cpos (keywordEach [] X.env)).all (fun x => x.1.isSome)
      && decide ((e :: es).length + ([] : List Keyword).length + (if ([] : List Keyword).isEmpty then 0 else 1) < 30)) = true := by rfl)
    (hline : (apos.endLine == cpos.line) = true := by rfl) (hs : starEach (e :: es) X.env = (false, eval e X.env) :: starEach es X.env := by rfl) (hplain : (backTo cpos (starEach es X.env)).any (·.1) = false := by rfl) :
    VE X W true (.Call (.Attribute o (Str.ofString name) apos) (e :: es) [] cpos) (dMt i g f) := by
  refine PE.imp (pe_bm PySem.F.plainAttrs_list slot hty hm ho ha hbase hfew hline hs hplain) fun σ H Q ⟨T, ρ, u, rep, hf, he⟩ => ?_
  unfold dMt at hf
  cases q : ρ[i]? with
  | none => rw [q] at hf; cases hf
  | some x =>
    rw [q] at hf
    cases x <;> simp only [isLst, Bool.false_eq_true, if_false, reduceCtorEq] at hf
    rename_i o xs0
    simp only [if_true] at hf
    obtain ⟨v, hv⟩ := rep.slot q (by intro z; cases z)
    obtain ⟨a, vs0, rfl, hq, _, _⟩ := RepT.readL (rep.take q hv).rep
    refine ⟨.ref a, hv, .inl ⟨rfl, _, .inl (.inl hq)⟩, ?_⟩
    refine runA rep hf he fun ds ρ1 vs H1 h1 s1 l1 r1 => ?_
    obtain ⟨xs, d, xs', e1, e2, rfl⟩ := mutL_inv h1
    exact mut_rep hg r1 e1 hv l1 e2 fun u H' r2 => he u H' (fun z => by cases z) r2
theorem ve_mt0 {name id : String} {o : Expr} {i : Nat} {r : V → List V → Hp → VK → Prop} {g : List D → List D → Option (D × List D)} {apos cpos : Pos} (slot : Slot "list" (Str.ofString name) id) (hty : typeOf (.builtin id) = pure (.type "method_descriptor")) (hm : MtR X id r) (hg : ImpM X.K r g)
    (ho : PE X o (tVar i)) (hbase : attributeBase o (Str.ofString name) X.env (eval o X.env) = eval o X.env := by rfl) (hline : (apos.endLine == cpos.line) = true := by rfl) :
    VE X W true (.Call (.Attribute o (Str.ofString name) apos) [] [] cpos) (dMt i g dNil) := by
  refine PE.imp (pe_bm0 PySem.F.plainAttrs_list slot hty hm ho hbase hline) fun σ H Q ⟨T, ρ, u, rep, hf, he⟩ => ?_
  unfold dMt at hf
  cases q : ρ[i]? with
  | none => rw [q] at hf; cases hf
  | some x =>
    rw [q] at hf
    cases x <;> simp only [isLst, Bool.false_eq_true, if_false, reduceCtorEq] at hf
    rename_i o xs0
    simp only [if_true] at hf
    obtain ⟨v, hv⟩ := rep.slot q (by intro z; cases z)
    obtain ⟨a, vs0, rfl, hq, _, _⟩ := RepT.readL (rep.take q hv).rep
    refine ⟨.ref a, hv, .inl ⟨rfl, _, .inl (.inl hq)⟩, ?_⟩
    have hf : mutL i g [] ρ = some u := hf
    obtain ⟨xs, d, xs', e1, e2, rfl⟩ := mutL_inv hf
    exact mut_rep (ds := []) (vs := []) hg rep e1 hv rfl e2 fun u H' r2 => he u H' (fun z => by cases z) r2
def gApp (xs ds : List D) : Option (D × List D) := match ds with
  | [d] => if xs.length < sizeLine then some (.non, xs ++ [d]) else none
  | _ => none
theorem impApp : ImpM K rAppend gApp := by
  intro H L xs xs' ds vs d a Q e l r h
  unfold gApp at e
  split at e
  · rename_i y
    split at e
    · rename_i z
      cases e
      obtain ⟨v, rfl⟩ := len1 l
      have r0 : RepT K H ((.lst true xs, .ref a) :: (y, v) :: L) := r
      obtain ⟨ws, hq, lw, r2⟩ := RepT.push (r0.perm (.swap _ _ _))
      exact ⟨a, ws, v, rfl, rfl, hq, by omega, h _ _ (RepT.non r2)⟩
    · cases e
  · cases e
def gIns (xs ds : List D) : Option (D × List D) := match ds with
  | [.int i, d] => if xs.length < sizeLine ∧ 0 ≤ i ∧ i < 2 ^ 63 then some (.non, xs.take i.toNat ++ [d] ++ xs.drop i.toNat) else none
  | _ => none
theorem impIns : ImpM K (fun x vs H Q => ∃ (l : Addr) (xs : List V) (i : Int) (y : V), x = .ref l ∧ vs = [.int i, y] ∧ H l = some (.lst xs) ∧ xs.length < sizeLine ∧ 0 ≤ i ∧ i < 2 ^ 63 ∧
    Q .non (upd H l (.lst (xs.take i.toNat ++ [y] ++ xs.drop i.toNat)))) gIns := by
  intro H L xs xs' ds vs d a Q e l r h
  unfold gIns at e
  split at e
  · rename_i i y
    split at e
    · rename_i z
      cases e
      obtain ⟨v, w, rfl⟩ := len2 l
      have r0 : RepT K H ((.lst true xs, .ref a) :: (.int i, v) :: (y, w) :: L) := r
      have r1 : RepT K H ((.int i, v) :: (.lst true xs, .ref a) :: (y, w) :: L) := r0.perm (.swap _ _ _)
      have ev := r1.eq_int
      subst ev
      obtain ⟨b, ws, eb, hq, lw, r2⟩ := r1.drop.openL
      cases eb
      refine ⟨a, ws, i, w, rfl, rfl, hq, by omega, z.2.1, z.2.2, h _ _ (RepT.non (RepT.closeL (by simp [lw]) ?_))⟩
      refine r2.perm (List.Perm.cons _ ?_)
      have ez : xs.zip ws = (xs.take i.toNat).zip (ws.take i.toNat) ++ (xs.drop i.toNat).zip (ws.drop i.toNat) := by
        rw [← zip_app (by simp [lw]), List.take_append_drop, List.take_append_drop]
      rw [ez, zip_app (by simp [lw]), zip_app (by simp [lw])]
      rw [List.append_assoc, List.append_assoc, List.append_assoc]
      refine List.Perm.append_left _ ?_
      show ((xs.drop i.toNat).zip (ws.drop i.toNat) ++ ((y, w) :: L)).Perm ((y, w) :: ((xs.drop i.toNat).zip (ws.drop i.toNat) ++ L))
      exact List.perm_middle
    · cases e
  · cases e
def gExt (xs ds : List D) : Option (D × List D) := match ds with
  | [.lst _ ys] => if xs.length + ys.length ≤ sizeLine then some (.non, xs ++ ys) else none
  | _ => none
theorem impExt : ImpM K rExtend gExt := by
  intro H L xs xs' ds vs d a Q e l r h
  unfold gExt at e
  split at e
  · rename_i o ys
    split at e
    · rename_i z
      cases e
      obtain ⟨v, rfl⟩ := len1 l
      have r0 : RepT K H ((.lst o ys, v) :: (.lst true xs, .ref a) :: L) := (show RepT K H ((.lst true xs, .ref a) :: (.lst o ys, v) :: L) from r).perm (.swap _ _ _)
      obtain ⟨b, zs, rfl, hb, lz, r1⟩ := r0.readL
      have r2 : RepT K H ((.lst true xs, .ref a) :: (ys.zip zs ++ L)) := r1.perm List.perm_middle
      obtain ⟨a', ws, ea, hq, lw, r3⟩ := r2.openL
      cases ea
      refine ⟨a, b, ws, zs, rfl, rfl, hq, hb, by omega, h _ _ (RepT.non (RepT.closeL (by simp [lw, lz]) ?_))⟩
      rw [zip_app lw, List.append_assoc]
      exact r3
    · cases e
  · cases e
def gPop (xs ds : List D) : Option (D × List D) := match ds with
  | [.int i] => if -(2 ^ 63) ≤ i ∧ i < 2 ^ 63 then (match ixN xs.length i with
    | some k => (xs[k]?).map fun y => (y, xs.eraseIdx k)
    | none => none) else none
  | _ => none
theorem impPop : ImpM K rPopAt gPop := by
  intro H L xs xs' ds vs d a Q e l r h
  unfold gPop at e
  split at e
  · rename_i i
    split at e
    · rename_i z
      split at e
      · rename_i k ek
        obtain ⟨y, ey, ee⟩ := Option.map_eq_some_iff.mp e
        injection ee with ee1 ee2
        subst ee1
        subst ee2
        obtain ⟨v, rfl⟩ := len1 l
        have r0 : RepT K H ((.int i, v) :: (.lst true xs, .ref a) :: L) := (show RepT K H ((.lst true xs, .ref a) :: (.int i, v) :: L) from r).perm (.swap _ _ _)
        have ev := r0.eq_int
        subst ev
        obtain ⟨a', ws, ea, hq, lw, r3⟩ := r0.drop.openL
        cases ea
        obtain ⟨w, hw⟩ := get_len lw ey
        have sx := (ixN_seq ek).1
        refine ⟨a, ws, i, k, w, rfl, rfl, hq, z.1, z.2, by rw [← lw]; exact sx, hw, h _ _ ?_⟩
        have p := (perm_erase (zip_take ey hw)).append_right L
        have r4 : RepT K H ((.hole, .ref a) :: (y, w) :: ((xs.zip ws).eraseIdx k ++ L)) := r3.perm (p.cons _)
        have r5 : RepT K H ((.hole, .ref a) :: ((xs.eraseIdx k).zip (ws.eraseIdx k) ++ ((y, w) :: L))) := by
          refine r4.perm (List.Perm.cons _ ?_)
          have ez : (xs.zip ws).eraseIdx k = (xs.eraseIdx k).zip (ws.eraseIdx k) := by
            rw [List.eraseIdx_eq_take_drop_succ, List.eraseIdx_eq_take_drop_succ, List.eraseIdx_eq_take_drop_succ, zip_app (by simp [lw])]
            unfold List.zip
            rw [List.take_zipWith, List.drop_zipWith]
          rw [ez]
          exact List.perm_middle.symm
        have lk : (xs.eraseIdx k).length = (ws.eraseIdx k).length := by rw [List.length_eraseIdx, List.length_eraseIdx, lw]
        exact (RepT.closeL lk r5).perm (.swap _ _ _)
      · cases e
    · cases e
  · cases e
def gRev (xs ds : List D) : Option (D × List D) := match ds with
  | [] => some (.non, xs.reverse)
  | _ => none
def gClr (xs ds : List D) : Option (D × List D) := match ds with
  | [] => some (.non, [])
  | _ => none
/-! ### keys -/
def keyD : D → Option Key
  | .int i => some (.inl i)
  | .str x => some (.inr x)
  | _ => none
def keysD : List D → Option (List Key)
  | [] => some []
  | d :: ds => match keyD d, keysD ds with
    | some k, some ks => some (k :: ks)
    | _, _ => none
theorem keyD_rep {d : D} {k : Key} {v : V} (e : keyD d = some k) (r : RepT K H ((d, v) :: L)) : v = kV k := by
  cases d <;> simp only [keyD, Option.some.injEq, reduceCtorEq] at e <;> subst e
  · exact r.eq_int
  · exact r.eq_str
theorem keysD_rep : ∀ {ds : List D} {ks : List Key} {vs : List V} {L : List (D × V)}, keysD ds = some ks → ds.length = vs.length → RepT K H (ds.zip vs ++ L) → vs = ks.map kV
  | [], ks, vs, L, e, l, r => by
    rw [keysD] at e; cases e
    exact List.eq_nil_of_length_eq_zero l.symm
  | d :: ds, ks, [], L, e, l, r => by cases l
  | d :: ds, ks, v :: vs, L, e, l, r => by
    rw [keysD] at e
    cases e1 : keyD d with
    | none => rw [e1] at e; cases e
    | some k =>
      cases e2 : keysD ds with
      | none => rw [e1, e2] at e; cases e
      | some k2 =>
        rw [e1, e2] at e
        cases e
        have r1 : RepT K H ((d, v) :: (ds.zip vs ++ L)) := r
        rw [keyD_rep e1 r1, keysD_rep e2 (Nat.succ.inj l) r1.drop]; rfl
def look {κ α : Type} [DecidableEq κ] : List κ → List α → κ → Option α
  | k' :: ks, a :: as, k => if k' = k then some a else look ks as k
  | _, _, _ => none
def putL {κ α : Type} [DecidableEq κ] : List κ → List α → κ → α → List κ × List α
  | k' :: ks, a :: as, k, v => if k' = k then (k' :: ks, v :: as) else (k' :: (putL ks as k v).1, a :: (putL ks as k v).2)
  | _, _, k, v => ([k], [v])
section
variable {κ : Type} [DecidableEq κ]
theorem valV_look : ∀ (ks : List κ) (vs : List V) (k : κ), valV (ks.zip vs) k = look ks vs k
  | [], _, _ => by simp [look, valV]
  | _ :: _, [], _ => by simp [look, valV]
  | k' :: ks, v :: vs, k => by
    rw [List.zip_cons_cons, look]
    by_cases e : k' = k
    · rw [valV_pos (p := (k', v)) e, if_pos e]
    · rw [valV_neg (p := (k', v)) e, if_neg e, valV_look ks vs k]
theorem putL_keys {α : Type} : ∀ (ks : List κ) (as : List α) (k : κ) (a : α), ks.length = as.length → (putL ks as k a).1 = if k ∈ ks then ks else ks ++ [k]
  | [], [], k, a, _ => by simp [putL]
  | [], _ :: _, k, a, h => by cases h
  | _ :: _, [], k, a, h => by cases h
  | k' :: ks, x :: as, k, a, h => by
    rw [putL]
    by_cases e : k' = k
    · rw [if_pos e, if_pos (by simp [e])]
    · have e' : ¬ k = k' := fun z => e z.symm
      rw [if_neg e]
      show k' :: (putL ks as k a).1 = _
      rw [putL_keys ks as k a (Nat.succ.inj h)]
      by_cases hm : k ∈ ks
      · rw [if_pos hm, if_pos (List.mem_cons_of_mem _ hm)]
      · rw [if_neg hm, if_neg (by simp [e', hm])]; rfl
theorem putL_len {α : Type} : ∀ (ks : List κ) (as : List α) (k : κ) (a : α), ks.length = as.length → (putL ks as k a).1.length = (putL ks as k a).2.length
  | [], [], k, a, _ => by simp [putL]
  | [], _ :: _, k, a, h => by cases h
  | _ :: _, [], k, a, h => by cases h
  | k' :: ks, x :: as, k, a, h => by
    rw [putL]
    by_cases e : k' = k
    · rw [if_pos e]; exact h
    · rw [if_neg e]
      show ((putL ks as k a).1.length + 1) = ((putL ks as k a).2.length + 1)
      rw [putL_len ks as k a (Nat.succ.inj h)]
theorem putK_putL : ∀ (ks : List κ) (vs : List V) (k : κ) (v : V), ks.length = vs.length → ks.Nodup → putK (ks.zip vs) k v = (putL ks vs k v).1.zip (putL ks vs k v).2
  | [], [], k, v, _, _ => by simp [putL, putK]
  | [], _ :: _, k, v, h, _ => by cases h
  | _ :: _, [], k, v, h, _ => by cases h
  | k' :: ks, x :: vs, k, v, h, nd => by
    obtain ⟨n1, n2⟩ := List.nodup_cons.mp nd
    have ih := putK_putL ks vs k v (Nat.succ.inj h) n2
    rw [putL]
    by_cases e : k' = k
    · subst e
      rw [if_pos rfl]
      unfold putK
      rw [if_pos (by simp)]
      show (if k' = k' then (k', v) else (k', x)) :: _ = (k', v) :: ks.zip vs
      rw [if_pos rfl]
      congr 1
      have : ∀ p ∈ ks.zip vs, (if p.1 = k' then (p.1, v) else p) = p := fun p hp => by
        rw [if_neg]
        intro z
        exact n1 (z ▸ (List.of_mem_zip (a := p.1) (b := p.2) hp).1)
      show List.map (fun kv : κ × V => if kv.1 = k' then (kv.1, v) else kv) (ks.zip vs) = ks.zip vs
      rw [List.map_congr_left this]
      simp
    · rw [if_neg e]
      show _ = (k', x) :: (putL ks vs k v).1.zip (putL ks vs k v).2
      rw [← ih]
      unfold putK
      have ea : ((k' :: ks).zip (x :: vs)).any (fun kv => decide (kv.1 = k)) = (ks.zip vs).any fun kv => decide (kv.1 = k) := by simp [e]
      rw [ea]
      by_cases hm : ((ks.zip vs).any fun kv => decide (kv.1 = k)) = true
      · rw [if_pos hm, if_pos hm]
        show (if k' = k then (k', v) else (k', x)) :: _ = _
        rw [if_neg e]
        rfl
      · rw [if_neg hm, if_neg hm]; rfl
theorem putL_nodup {α : Type} {ks : List κ} {as : List α} {k : κ} {a : α} (h : ks.length = as.length) (nd : ks.Nodup) : (putL ks as k a).1.Nodup := by
  rw [putL_keys ks as k a h]
  by_cases hm : k ∈ ks
  · rw [if_pos hm]; exact nd
  · rw [if_neg hm]
    exact List.nodup_append.mpr ⟨nd, by simp, fun a ha b hb => by
      rw [List.mem_singleton] at hb
      subst hb
      intro z
      subst z
      exact hm ha⟩
theorem look_pair {ks : List κ} : ∀ {ds : List D} {vs : List V} {k : κ} {d : D}, ks.length = ds.length → ds.length = vs.length → look ks ds k = some d → ∃ (j : Nat) (v : V), ds[j]? = some d ∧ vs[j]? = some v ∧ look ks vs k = some v := by
  induction ks with
  | nil => intro ds vs k d h1 h2 e; cases ds <;> simp [look] at e
  | cons k' ks ih =>
    intro ds vs k d h1 h2 e
    cases ds with
    | nil => cases h1
    | cons x ds =>
      cases vs with
      | nil => cases h2
      | cons v vs =>
        rw [look] at e
        by_cases ek : k' = k
        · rw [if_pos ek] at e
          cases e
          exact ⟨0, v, rfl, rfl, by rw [look, if_pos ek]⟩
        · rw [if_neg ek] at e
          obtain ⟨j, w, h3, h4, h5⟩ := ih (Nat.succ.inj h1) (Nat.succ.inj h2) e
          exact ⟨j + 1, w, h3, h4, by rw [look, if_neg ek]; exact h5⟩
theorem look_none {ks : List κ} : ∀ {ds : List D} {vs : List V} {k : κ}, ks.length = ds.length → ds.length = vs.length → look ks ds k = none → look ks vs k = none := by
  induction ks with
  | nil => intro ds vs k h1 h2 e; simp [look]
  | cons k' ks ih =>
    intro ds vs k h1 h2 e
    cases ds with
    | nil => cases h1
    | cons x ds =>
      cases vs with
      | nil => cases h2
      | cons v vs =>
        rw [look] at e ⊢
        by_cases ek : k' = k
        · rw [if_pos ek] at e; cases e
        · rw [if_neg ek] at e ⊢
          exact ih (Nat.succ.inj h1) (Nat.succ.inj h2) e
/-- what is stored takes its place; what stood there is let go -/
theorem putL_perm {ks : List κ} {k : κ} {d : D} {v : V} : ∀ {ds : List D} {vs : List V}, ks.length = ds.length → ds.length = vs.length → (putL ks ds k d).1 = (putL ks vs k v).1 ∧ (putL ks ds k d).2.length = (putL ks vs k v).2.length ∧ ∃ R, ((d, v) :: ds.zip vs).Perm (R ++ (putL ks ds k d).2.zip (putL ks vs k v).2) := by
  induction ks with
  | nil =>
    intro ds vs h1 h2
    have e1 : ds = [] := List.eq_nil_of_length_eq_zero h1.symm
    subst e1
    have e2 : vs = [] := List.eq_nil_of_length_eq_zero h2.symm
    subst e2
    exact ⟨rfl, rfl, [], .refl _⟩
  | cons k' ks ih =>
    intro ds vs h1 h2
    cases ds with
    | nil => cases h1
    | cons x ds =>
      cases vs with
      | nil => cases h2
      | cons w vs =>
        rw [putL, putL]
        by_cases ek : k' = k
        · rw [if_pos ek, if_pos ek]
          exact ⟨rfl, h2, [(x, w)], .swap _ _ _⟩
        · rw [if_neg ek, if_neg ek]
          obtain ⟨i1, i2, R, p⟩ := ih (Nat.succ.inj h1) (Nat.succ.inj h2)
          refine ⟨?_, ?_, R, ?_⟩
          · show k' :: _ = k' :: _
            rw [i1]
          · show _ + 1 = _ + 1
            rw [i2]
          · show ((d, v) :: (x, w) :: ds.zip vs).Perm (R ++ ((x, w) :: (putL ks ds k d).2.zip (putL ks vs k v).2))
            exact ((List.Perm.swap _ _ _).trans (p.cons _)).trans List.perm_middle.symm
end
/-! an owned dict, opened and closed -/
theorem RepT.openDT {ks : List (List Key)} {ds : List D} {v : V} (h : RepT K H ((.dT true ks ds, v) :: L)) : ∃ a vs, v = .ref a ∧ H a = some (.dT (ks.zip vs)) ∧ ks.length = ds.length ∧ ks.Nodup ∧ ds.length = vs.length ∧ RepT K H ((.hole, .ref a) :: (ds.zip vs ++ L)) := by
  obtain ⟨F, A, sF, nd, fr, A1, A2, rfl, h1, o⟩ := h
  rw [Ow] at h1
  obtain ⟨a, vs, A', rfl, q, n, l, rfl⟩ := h1
  refine ⟨a, vs, rfl, q, n.1, n.2, l.length, F, [a] ++ (A' ++ A2), sF, nd, fr, [a], A' ++ A2, rfl, ?_, l.toT.append o⟩
  rw [Ow]
  exact ⟨a, _, rfl, ⟨q, fun xs z => by cases z⟩, rfl⟩
theorem RepT.closeDT {ks : List (List Key)} {ds : List D} {vs : List V} {a : Addr} (n1 : ks.length = ds.length) (n2 : ks.Nodup) (e : ds.length = vs.length) (h : RepT K H ((.hole, .ref a) :: (ds.zip vs ++ L))) : RepT K (upd H a (.dT (ks.zip vs))) ((.dT true ks ds, .ref a) :: L) := by
  obtain ⟨F, A, sF, nd, fr, A1, A2, rfl, h1, o⟩ := h
  rw [Ow] at h1
  obtain ⟨b, u, e1, q, rfl⟩ := h1
  cases e1
  obtain ⟨B1, B2, rfl, o1, o2⟩ := o.split
  have fa : F a = none := fr a (by simp)
  have na : a ∉ B1 ++ B2 := (List.nodup_cons.mp nd).1
  have k : ∀ b ∈ B1 ++ B2, upd H a (.dT (ks.zip vs)) b = H b := fun b hb => upd_ne (fun z => na (by rw [← z]; exact hb))
  refine ⟨F, (a :: B1) ++ B2, fun b o q => ?_, nd, fr, a :: B1, B2, rfl, ?_, o2.keep (Same.refl _) fun b hb => k b (List.mem_append_right _ hb)⟩
  · rw [upd_ne fun z => by rw [z, fa] at q; cases q]
    exact sF _ _ q
  · rw [Ow]
    exact ⟨a, vs, B1, rfl, upd_same, ⟨n1, n2⟩, (o1.toL e).keep (Same.refl _) _ _ _ fun b hb => k b (List.mem_append_left _ hb), rfl⟩
theorem RepT.openDK {ks : List Key} {ds : List D} {v : V} (h : RepT K H ((.dK true ks ds, v) :: L)) : ∃ a vs, v = .ref a ∧ H a = some (.dK (ks.zip vs)) ∧ ks.length = ds.length ∧ ks.Nodup ∧ ds.length = vs.length ∧ RepT K H ((.hole, .ref a) :: (ds.zip vs ++ L)) := by
  obtain ⟨F, A, sF, nd, fr, A1, A2, rfl, h1, o⟩ := h
  rw [Ow] at h1
  obtain ⟨a, vs, A', rfl, q, n, l, rfl⟩ := h1
  refine ⟨a, vs, rfl, q, n.1, n.2, l.length, F, [a] ++ (A' ++ A2), sF, nd, fr, [a], A' ++ A2, rfl, ?_, l.toT.append o⟩
  rw [Ow]
  exact ⟨a, _, rfl, ⟨q, fun xs z => by cases z⟩, rfl⟩
theorem RepT.closeDK {ks : List Key} {ds : List D} {vs : List V} {a : Addr} (n1 : ks.length = ds.length) (n2 : ks.Nodup) (e : ds.length = vs.length) (h : RepT K H ((.hole, .ref a) :: (ds.zip vs ++ L))) : RepT K (upd H a (.dK (ks.zip vs))) ((.dK true ks ds, .ref a) :: L) := by
  obtain ⟨F, A, sF, nd, fr, A1, A2, rfl, h1, o⟩ := h
  rw [Ow] at h1
  obtain ⟨b, u, e1, q, rfl⟩ := h1
  cases e1
  obtain ⟨B1, B2, rfl, o1, o2⟩ := o.split
  have fa : F a = none := fr a (by simp)
  have na : a ∉ B1 ++ B2 := (List.nodup_cons.mp nd).1
  have k : ∀ b ∈ B1 ++ B2, upd H a (.dK (ks.zip vs)) b = H b := fun b hb => upd_ne (fun z => na (by rw [← z]; exact hb))
  refine ⟨F, (a :: B1) ++ B2, fun b o q => ?_, nd, fr, a :: B1, B2, rfl, ?_, o2.keep (Same.refl _) fun b hb => k b (List.mem_append_right _ hb)⟩
  · rw [upd_ne fun z => by rw [z, fa] at q; cases q]
    exact sF _ _ q
  · rw [Ow]
    exact ⟨a, vs, B1, rfl, upd_same, ⟨n1, n2⟩, (o1.toL e).keep (Same.refl _) _ _ _ fun b hb => k b (List.mem_append_left _ hb), rfl⟩
theorem RepT.putDT {ks : List (List Key)} {ds : List D} {k : List Key} {d : D} {v : V} {a : Addr} (h : RepT K H ((d, v) :: (.dT true ks ds, .ref a) :: L)) : ∃ vs, H a = some (.dT (ks.zip vs)) ∧ ks.length = ds.length ∧ ds.length = vs.length ∧ RepT K (upd H a (.dT (putK (ks.zip vs) k v))) ((.dT true (putL ks ds k d).1 (putL ks ds k d).2, .ref a) :: L) := by
  obtain ⟨a', vs, e, q, n1, n2, l, r⟩ := RepT.openDT (h.perm (.swap _ _ _))
  cases e
  obtain ⟨p1, p2, R, p⟩ := putL_perm (ks := ks) (k := k) (d := d) (v := v) n1 l
  refine ⟨vs, q, n1, l, ?_⟩
  rw [putK_putL ks vs k v (n1.trans l) n2, ← p1]
  refine RepT.closeDT (putL_len ks ds k d n1) (putL_nodup n1 n2) p2 ?_
  have r2 : RepT K H ((.hole, .ref a) :: (((d, v) :: ds.zip vs) ++ L)) := r.perm (List.Perm.cons _ List.perm_middle)
  have r3 : RepT K H ((.hole, .ref a) :: ((R ++ (putL ks ds k d).2.zip (putL ks vs k v).2) ++ L)) := r2.perm (List.Perm.cons _ (p.append_right L))
  have r4 : RepT K H (R ++ ((.hole, .ref a) :: ((putL ks ds k d).2.zip (putL ks vs k v).2 ++ L))) := r3.perm (by
    rw [List.append_assoc]
    exact List.perm_middle.symm)
  exact r4.dropL
theorem RepT.putDK {ks : List Key} {ds : List D} {k : Key} {d : D} {v : V} {a : Addr} (h : RepT K H ((d, v) :: (.dK true ks ds, .ref a) :: L)) : ∃ vs, H a = some (.dK (ks.zip vs)) ∧ ks.length = ds.length ∧ ds.length = vs.length ∧ RepT K (upd H a (.dK (putK (ks.zip vs) k v))) ((.dK true (putL ks ds k d).1 (putL ks ds k d).2, .ref a) :: L) := by
  obtain ⟨a', vs, e, q, n1, n2, l, r⟩ := RepT.openDK (h.perm (.swap _ _ _))
  cases e
  obtain ⟨p1, p2, R, p⟩ := putL_perm (ks := ks) (k := k) (d := d) (v := v) n1 l
  refine ⟨vs, q, n1, l, ?_⟩
  rw [putK_putL ks vs k v (n1.trans l) n2, ← p1]
  refine RepT.closeDK (putL_len ks ds k d n1) (putL_nodup n1 n2) p2 ?_
  have r2 : RepT K H ((.hole, .ref a) :: (((d, v) :: ds.zip vs) ++ L)) := r.perm (List.Perm.cons _ List.perm_middle)
  have r3 : RepT K H ((.hole, .ref a) :: ((R ++ (putL ks ds k d).2.zip (putL ks vs k v).2) ++ L)) := r2.perm (List.Perm.cons _ (p.append_right L))
  have r4 : RepT K H (R ++ ((.hole, .ref a) :: ((putL ks ds k d).2.zip (putL ks vs k v).2 ++ L))) := r3.perm (by
    rw [List.append_assoc]
    exact List.perm_middle.symm)
  exact r4.dropL
end
end VS

set_option Elab.async false
set_option linter.all false
set_option maxRecDepth 100000
set_option maxHeartbeats 4000000
set_option autoImplicit false
/-! VS7: dicts by rules, isinstance, sorted of a dict. -/
namespace VS
open PySem PySem.Spec PyProof.Rows L2
section
variable {X : Cx} {W : WX} {K : PySem.W.Frag} {mg : Str → Option Value} {F H H1 : Hp} {T L : List (D × V)} {ρ ρ' : Env} {σ σ' σ'' : St} {m : Bool}
/-! ### a new dict: its keys ints and texts, or tuples -/
theorem RepT.newDK {p : Addr} (hp : H p = none) (h : RepT K H L) : RepT K (upd H p (.dK [])) ((.dK true [] [], .ref p) :: L) := by
  have h1 := RepT.newL (ds := []) (vs := []) rfl hp h
  obtain ⟨a, vs, e, _, _, r⟩ := h1.openL
  cases e
  have r2 : RepT K (upd H p (.lst [])) ((.hole, .ref p) :: (([] : List D).zip ([] : List V) ++ L)) := r
  have r3 := RepT.closeDK (ks := []) (ds := []) (vs := []) rfl List.nodup_nil rfl r2
  rw [upd_upd] at r3
  exact r3
theorem RepT.newDT {p : Addr} (hp : H p = none) (h : RepT K H L) : RepT K (upd H p (.dT [])) ((.dT true [] [], .ref p) :: L) := by
  have h1 := RepT.newL (ds := []) (vs := []) rfl hp h
  obtain ⟨a, vs, e, _, _, r⟩ := h1.openL
  cases e
  have r2 : RepT K (upd H p (.lst [])) ((.hole, .ref p) :: (([] : List D).zip ([] : List V) ++ L)) := r
  have r3 := RepT.closeDT (ks := []) (ds := []) (vs := []) rfl List.nodup_nil rfl r2
  rw [upd_upd] at r3
  exact r3
theorem ve_dnewK {pos : Pos} : VE X W false (.Dict [] [] pos) (dC (.dK true [] [])) := by
  refine PE.imp pe_dnewK fun σ H Q ⟨T, ρ, u, rep, hf, he⟩ => ?_
  have : u = .ok (.dK true [] []) ρ := (Option.some.inj hf).symm
  subst this
  exact fun p hp => he _ _ (fun _ => Same.upd hp) ⟨rep.len, rep.nos, RepT.newDK hp rep.rep⟩
theorem ve_dnewT {pos : Pos} : VE X W false (.Dict [] [] pos) (dC (.dT true [] [])) := by
  refine PE.imp pe_dnewT fun σ H Q ⟨T, ρ, u, rep, hf, he⟩ => ?_
  have : u = .ok (.dT true [] []) ρ := (Option.some.inj hf).symm
  subst this
  exact fun p hp => he _ _ (fun _ => Same.upd hp) ⟨rep.len, rep.nos, RepT.newDT hp rep.rep⟩
/-! ### d[k] -/
def lookD (x y : D) : Option D := match x with
  | .dK _ ks ds => match keyD y with
    | some k => look ks ds k
    | none => none
  | .dT _ ks ds => match y with
    | .tup es => match keysD es with
      | some k => look ks ds k
      | none => none
    | _ => none
  | _ => none
/-- whether a dict has a key -/
def hasD (x y : D) : Option Bool := match x with
  | .dK _ ks ds => match keyD y with
    | some k => some (look ks ds k).isSome
    | none => none
  | .dT _ ks ds => match y with
    | .tup es => match keysD es with
      | some k => some (look ks ds k).isSome
      | none => none
    | _ => none
  | _ => none
theorem OwL.at {ds : List D} {vs : List V} {A : List Addr} {j : Nat} {d : D} {u : V} (h : OwL K F H ds vs A) (e : ds[j]? = some d) (z : fz d = true) (e' : vs[j]? = some u) : Ow K F H d u [] := by
  obtain ⟨w, hw, o⟩ := h.item e z
  rw [hw] at e'
  cases e'
  exact o
/-- a dict read at a key: the dict and the key stay -/
theorem dget_rep {x y : D} {v w : V} (r : RepT K H ((y, w) :: (x, v) :: L)) :
    (∀ d, lookD x y = some d → fz d = true → ∃ a u, v = .ref a ∧ DGet H a w (some u) ∧ RepT K H ((d, u) :: (y, w) :: (x, v) :: L)) ∧ (∀ b, hasD x y = some b → ∃ a o, v = .ref a ∧ DGet H a w o ∧ o.isSome = b) := by
  cases x with
  | dK o ks ds =>
    have main : ∀ k, keyD y = some k → ∃ a vs, v = .ref a ∧ H a = some (.dK (ks.zip vs)) ∧ ks.length = ds.length ∧ ds.length = vs.length ∧ w = kV k := fun k ek => by
      have rx := r.drop
      obtain ⟨a, vs, rfl, q, n1, _, l, _⟩ := rx.dK
      exact ⟨a, vs, rfl, q, n1, l, keyD_rep ek r⟩
    constructor
    · intro d e z
      simp only [lookD] at e
      cases ek : keyD y with
      | none => rw [ek] at e; cases e
      | some k =>
        rw [ek] at e
        have r0 := r
        obtain ⟨F, A, sF, nd, fr, A1, A2, rfl, hy, A3, A4, rfl, hx, o2⟩ := r
        have e : look ks ds k = some d := e
        have hx' := hx
        have fin : ∀ u, Ow K F H d u [] → RepT K H ((d, u) :: (y, w) :: (.dK o ks ds, v) :: L) := fun u hu => ⟨F, [] ++ (A1 ++ (A3 ++ A4)), sF, nd, fr, [], _, rfl, hu, A1, _, rfl, hy, A3, A4, rfl, hx, o2⟩
        have wk := keyD_rep ek r0
        cases o <;> rw [Ow] at hx'
        · obtain ⟨a, vs, rfl, q, n, l⟩ := hx'
          obtain ⟨j, u, h1, h2, h3⟩ := look_pair n.1 l.length e
          exact ⟨a, u, rfl, .inl ⟨_, k, .inl (sF _ _ q), wk, by rw [valV_look]; exact h3.symm⟩, fin u (l.at h1 z h2)⟩
        · obtain ⟨a, vs, A', rfl, q, n, l, rfl⟩ := hx'
          obtain ⟨j, u, h1, h2, h3⟩ := look_pair n.1 l.length e
          exact ⟨a, u, rfl, .inl ⟨_, k, .inl q, wk, by rw [valV_look]; exact h3.symm⟩, fin u (l.at h1 z h2)⟩
    · intro b e
      simp only [hasD] at e
      cases ek : keyD y with
      | none => rw [ek] at e; cases e
      | some k =>
        rw [ek] at e
        have e : (look ks ds k).isSome = b := Option.some.inj e
        obtain ⟨a, vs, rfl, q, n1, l, wk⟩ := main k ek
        refine ⟨a, look ks vs k, rfl, .inl ⟨_, k, .inl q, wk, by rw [valV_look]⟩, ?_⟩
        rw [← e]
        cases q2 : look ks ds k with
        | none => rw [look_none n1 l q2]; rfl
        | some d =>
          obtain ⟨j, u, _, _, h3⟩ := look_pair n1 l q2
          rw [h3]; rfl
  | dT o ks ds =>
    have main : ∀ es k, y = .tup es → keysD es = some k → ∃ b, w = .ref b ∧ H b = some (.tup (k.map kV)) := fun es k ey ek => by
      subst ey
      obtain ⟨b, vs, rfl, q, l, r2⟩ := r.openT
      refine ⟨b, rfl, ?_⟩
      rw [← keysD_rep ek l r2]; exact q
    constructor
    · intro d e z
      simp only [lookD] at e
      cases y with
      | tup es =>
        simp only at e
        cases ek : keysD es with
        | none => rw [ek] at e; cases e
        | some k =>
          rw [ek] at e
          obtain ⟨b, rfl, hb⟩ := main es k rfl ek
          obtain ⟨F, A, sF, nd, fr, A1, A2, rfl, hy, A3, A4, rfl, hx, o2⟩ := r
          have e : look ks ds k = some d := e
          have hx' := hx
          have fin : ∀ u, Ow K F H d u [] → RepT K H ((d, u) :: (.tup es, .ref b) :: (.dT o ks ds, v) :: L) := fun u hu => ⟨F, [] ++ (A1 ++ (A3 ++ A4)), sF, nd, fr, [], _, rfl, hu, A1, _, rfl, hy, A3, A4, rfl, hx, o2⟩
          cases o <;> rw [Ow] at hx'
          · obtain ⟨a, vs, rfl, q, n, l⟩ := hx'
            obtain ⟨j, u, h1, h2, h3⟩ := look_pair n.1 l.length e
            exact ⟨a, u, rfl, .inr ⟨_, k, b, .inl (sF _ _ q), rfl, hb, by rw [valV_look]; exact h3.symm⟩, fin u (l.at h1 z h2)⟩
          · obtain ⟨a, vs, A', rfl, q, n, l, rfl⟩ := hx'
            obtain ⟨j, u, h1, h2, h3⟩ := look_pair n.1 l.length e
            exact ⟨a, u, rfl, .inr ⟨_, k, b, .inl q, rfl, hb, by rw [valV_look]; exact h3.symm⟩, fin u (l.at h1 z h2)⟩
      | _ => cases e
    · intro bb e
      simp only [hasD] at e
      cases y with
      | tup es =>
        simp only at e
        cases ek : keysD es with
        | none => rw [ek] at e; cases e
        | some k =>
          rw [ek] at e
          have e : (look ks ds k).isSome = bb := Option.some.inj e
          obtain ⟨b, rfl, hb⟩ := main es k rfl ek
          obtain ⟨a, vs, rfl, q, n1, _, l, _⟩ := r.drop.dT
          refine ⟨a, look ks vs k, rfl, .inr ⟨_, k, b, .inl q, rfl, hb, by rw [valV_look]⟩, ?_⟩
          rw [← e]
          cases q2 : look ks ds k with
          | none => rw [look_none n1 l q2]; rfl
          | some d =>
            obtain ⟨j, u, _, _, h3⟩ := look_pair n1 l q2
            rw [h3]; rfl
      | _ => cases e
  | _ => exact ⟨fun d e => (by cases e), fun b e => (by cases e)⟩
def getS (i : Nat) (y : D) : M D := fun ρ => match lookD (ρ.getD i .unk) y with
  | some d => if fz d = true then some (.ok d ρ) else none
  | none => none
def dGetS (i : Nat) (f : M D) : M D := fun ρ0 => match ρ0[i]? with
  | none => none
  | some .unk => none
  | some _ => bindM f (getS i) ρ0
theorem slot_perm {i : Nat} {x : D} {v : V} (e : ρ[i]? = some x) (hv : σ[i]? = some (some v)) : (T ++ SL ρ σ).Perm ((x, v) :: (T ++ (SL ρ σ).eraseIdx i)) := ((perm_erase (SL_get e hv)).append_left T).trans List.perm_middle
theorem getD_at {i : Nat} (h : i < ρ.length) : ρ[i]? = some (ρ.getD i .unk) := by
  rw [List.getD_eq_getElem?_getD, List.getElem?_eq_getElem h]; rfl
theorem ve_getS {a b : Expr} {i : Nat} {f : M D} {pos : Pos} (hu : X.A.units + 1 < cLine) (ha : PE X a (tVar i)) (hb : VE X W m b f) (hs : NoSl b := by exact fun _ _ => rfl) : VE X W m (.Subscript a b pos) (dGetS i f) := by
  refine PE.imp (pe_dget hu ha hb hs) fun σ H Q ⟨T, ρ, u, rep, hf, he⟩ => ?_
  unfold dGetS at hf
  cases q : ρ[i]? with
  | none => rw [q] at hf; cases hf
  | some x0 =>
    have n : x0 ≠ .unk := fun e => by rw [q, e] at hf; cases hf
    obtain ⟨v, hv⟩ := rep.slot q n
    refine ⟨v, hv, ?_⟩
    rw [q] at hf
    have hf2 : bindM f (getS i) ρ = some u := by
      cases x0 <;> first | exact hf | exact absurd rfl n
    refine run1 rep hf2 he fun y ρ1 w H1 h1 s1 r1 => ?_
    unfold getS at h1
    split at h1
    · rename_i d ed
      split at h1
      · rename_i z
        have : u = .ok d ρ1 := (Option.some.inj h1).symm
        subst this
        have hi : i < ρ1.length := by rw [r1.len]; exact (List.getElem?_eq_some_iff.mp hv).1
        have p := slot_perm (T := T) (getD_at hi) hv
        have r2 : RepT X.K H1 ((y, w) :: (ρ1.getD i .unk, v) :: (T ++ (SL ρ1 σ).eraseIdx i)) := r1.rep.perm (p.cons _)
        obtain ⟨a, u, e1, g, r3⟩ := (dget_rep r2).1 d ed z
        refine ⟨a, u, e1, g, he u H1 s1 ⟨r1.len, r1.nos, ?_⟩⟩
        have r4 : RepT X.K H1 ((y, w) :: (d, u) :: (ρ1.getD i .unk, v) :: (T ++ (SL ρ1 σ).eraseIdx i)) := r3.perm (.swap _ _ _)
        exact r4.drop.perm (p.symm.cons _)
      · cases h1
    · cases h1
/-- x[y], x a name: a list, a tuple or a dict -/
def isDct : Option D → Bool
  | some (.dK _ _ _) => true
  | some (.dT _ _ _) => true
  | _ => false
def dAt (i : Nat) (f : M D) : M D := fun ρ0 => if isDct ρ0[i]? = true then dGetS i f ρ0 else dIxS i f ρ0
theorem ve_at {a b : Expr} {i : Nat} {f : M D} {pos : Pos} (hu : X.A.units + 1 < cLine) (ha : PE X a (tVar i)) (hb : VE X W m b f) (hs : PlainIx b := by exact fun _ _ => rfl) : VE X W m (.Subscript a b pos) (dAt i f) := by
  refine PE.imp (PE.orr (ve_getS (W := W) hu ha hb hs) (ve_ixS (W := W) ha hb hs)) fun σ H Q ⟨T, ρ, u, rep, hf, he⟩ => ?_
  unfold dAt at hf
  split at hf
  · exact .inl ⟨T, ρ, u, rep, hf, he⟩
  · exact .inr ⟨T, ρ, u, rep, hf, he⟩
/-! ### k in d, d at a name; x in a sequence -/
def hasS (neg : Bool) (i : Nat) (y : D) : M D := fun ρ => match hasD (ρ.getD i .unk) y with
  | some b => some (.ok (.bl (if neg = true then !b else b)) ρ)
  | none => none
def dHasS (neg : Bool) (i : Nat) (f : M D) : M D := bindM f fun y ρ => match ρ[i]? with
  | none => none
  | some .unk => none
  | some _ => hasS neg i y ρ
theorem has_of {neg : Bool} {i : Nat} {f : M D} {Q : VK} (h : tOf K mg W m (dHasS neg i f) σ H Q) : tOf K mg W m f σ H fun y H1 => tVar i σ H1 fun x H2 => ∃ a o, x = .ref a ∧ DGet H2 a y o ∧ Q (.bl (if neg = true then !o.isSome else o.isSome)) H2 := by
  obtain ⟨T, ρ, u, rep, hf, he⟩ := h
  refine run1 rep hf he fun y ρ1 w H1 h1 s1 r1 => ?_
  cases q : ρ1[i]? with
  | none => rw [q] at h1; cases h1
  | some x0 =>
    have n : x0 ≠ .unk := fun e => by rw [q, e] at h1; cases h1
    obtain ⟨v, hv⟩ := r1.slot q n
    refine ⟨v, hv, ?_⟩
    rw [q] at h1
    have h2 : hasS neg i y ρ1 = some u := by
      cases x0 <;> first | exact h1 | exact absurd rfl n
    unfold hasS at h2
    split at h2
    · rename_i b eb
      have : u = .ok (.bl (if neg = true then !b else b)) ρ1 := (Option.some.inj h2).symm
      subst this
      have hi : i < ρ1.length := (List.getElem?_eq_some_iff.mp q).1
      have p := slot_perm (T := T) (getD_at hi) hv
      have r2 : RepT K H1 ((y, w) :: (ρ1.getD i .unk, v) :: (T ++ (SL ρ1 σ).eraseIdx i)) := r1.rep.perm (p.cons _)
      obtain ⟨a, o, e1, g, eo⟩ := (dget_rep r2).2 b eb
      refine ⟨a, o, e1, g, ?_⟩
      rw [eo]
      exact he _ H1 s1 (r1.drop.lift fun q => q.bl)
    · cases h2
theorem ve_inD {a b : Expr} {i : Nat} {f : M D} {pos : Pos} (hu : X.A.units + 1 < cLine) (ha : VE X W m a f) (hb : PE X b (tVar i)) (h1 : behindInMarks .In b = false := by first | exact nobehind _ (by decide) (by decide) | rfl) : VE X W m (.Compare a [.In] [b] pos) (dHasS false i f) :=
  PE.imp (pe_cmp (pc_din hu ha hb) h1) fun _ _ _ h => has_of h
theorem ve_ninD {a b : Expr} {i : Nat} {f : M D} {pos : Pos} (hu : X.A.units + 1 < cLine) (ha : VE X W m a f) (hb : PE X b (tVar i)) (h1 : behindInMarks .NotIn b = false := by first | exact nobehind _ (by decide) (by decide) | rfl) : VE X W m (.Compare a [.NotIn] [b] pos) (dHasS true i f) :=
  PE.imp (pe_cmp (pc_dnotin hu ha hb) h1) fun _ _ _ h => has_of h
theorem vt_inD {a b : Expr} {i : Nat} {f : M D} {pos : Pos} (hu : X.A.units + 1 < cLine) (ha : VE X W m a f) (hb : PE X b (tVar i)) (h1 : behindInMarks .In b = false := by first | exact nobehind _ (by decide) (by decide) | rfl) : VT X W m (.Compare a [.In] [b] pos) (dTB (dHasS false i f)) := by
  refine PT.imp (pt_cmp (pc_din hu ha hb) h1) fun σ H Q ⟨T, ρ, u, rep, hf, he⟩ => ?_
  refine has_of (neg := false) (Q := fun x H1 => ∃ c, x = .bl c ∧ Q c H1) (run1 rep hf he fun x ρ1 v H1 h1 s1 r1 => ?_)
  obtain ⟨b, e, rfl⟩ := optM_some h1
  cases x with
  | bl c =>
    have e : c = b := Option.some.inj e
    subst e
    exact ⟨c, RepT.eq_bl r1.rep, he H1 s1 r1.drop⟩
  | _ => cases e
theorem vt_ninD {a b : Expr} {i : Nat} {f : M D} {pos : Pos} (hu : X.A.units + 1 < cLine) (ha : VE X W m a f) (hb : PE X b (tVar i)) (h1 : behindInMarks .NotIn b = false := by first | exact nobehind _ (by decide) (by decide) | rfl) : VT X W m (.Compare a [.NotIn] [b] pos) (dTB (dHasS true i f)) := by
  refine PT.imp (pt_cmp (pc_dnotin hu ha hb) h1) fun σ H Q ⟨T, ρ, u, rep, hf, he⟩ => ?_
  refine has_of (neg := true) (Q := fun x H1 => ∃ c, x = .bl c ∧ Q c H1) (run1 rep hf he fun x ρ1 v H1 h1 s1 r1 => ?_)
  obtain ⟨b, e, rfl⟩ := optM_some h1
  cases x with
  | bl c =>
    have e : c = b := Option.some.inj e
    subst e
    exact ⟨c, RepT.eq_bl r1.rep, he H1 s1 r1.drop⟩
  | _ => cases e
/-! ### x[k] = e -/
theorem PS.orr {st : Stmt} {t t' : TS} (h : PS X st t) (h' : PS X st t') : PS X st (fun E σ H => t E σ H ∨ t' E σ H) := ⟨fun pins s σ H E I q => q.elim (h.run pins s σ H E I) (h'.run pins s σ H E I)⟩
def putAt (x y d : D) : Option D := match x with
  | .lst true xs => match y with
    | .int n => (ixN xs.length n).map fun j => .lst true (xs.set j d)
    | _ => none
  | .dK true ks ds => match keyD y with
    | some k => if ks.length < sizeLine then some (.dK true (putL ks ds k d).1 (putL ks ds k d).2) else none
    | none => none
  | .dT true ks ds => match y with
    | .tup es => match keysD es with
      | some k => if ks.length < sizeLine then some (.dT true (putL ks ds k d).1 (putL ks ds k d).2) else none
      | none => none
    | _ => none
  | _ => none
def putS (i : Nat) (d y : D) : MS := fun ρ => match putAt (ρ.getD i .unk) y d with
  | some x => some (.nx, ρ.set i x)
  | none => none
def dPut (i : Nat) (fk fe : M D) : MS := bindS fe fun d ρ1 => match ρ1[i]? with
  | none => none
  | some .unk => none
  | some _ => bindS fk (putS i d) ρ1
theorem set_rep {xs : List D} {vs : List V} {j : Nat} {d x : D} {v w : V} (hx : xs[j]? = some x) (hw : vs[j]? = some w) : ((d, v) :: xs.zip vs).Perm ((x, w) :: (xs.set j d).zip (vs.set j v)) := by
  have e : (xs.set j d).zip (vs.set j v) = (xs.zip vs).set j (d, v) := by
    clear hx hw
    induction xs generalizing vs j with
    | nil => simp
    | cons a xs ih =>
      cases vs with
      | nil => simp
      | cons b vs =>
        cases j with
        | zero => rfl
        | succ j => simp [ih]
  rw [e]
  exact perm_set (d, v) (zip_take hx hw)
theorem put_rep {x y d x' : D} {v w u : V} (e : putAt x y d = some x') (r : RepT K H ((y, w) :: (x, v) :: (d, u) :: L)) :
    (∃ a xs j k, v = .ref a ∧ w = .int k ∧ H a = some (.lst xs) ∧ ixN xs.length k = some j ∧ RepT K (upd H a (.lst (xs.set j u))) ((x', v) :: L)) ∨ (∃ a H', v = .ref a ∧ DPut H a w u H' ∧ RepT K H' ((x', v) :: L)) := by
  have rswap : RepT K H ((d, u) :: (x, v) :: L) := r.drop.perm (.swap _ _ _)
  cases x with
  | lst o xs =>
    cases o with
    | false => cases e
    | true =>
      cases y with
      | int n =>
        simp only [putAt] at e
        obtain ⟨j, ej, rfl⟩ := Option.map_eq_some_iff.mp e
        have ew := r.eq_int
        subst ew
        obtain ⟨a, vs, rfl, hq, l, r2⟩ := RepT.openL (r.drop)
        have hj := (ixN_seq ej).2.1
        obtain ⟨w, hw⟩ := get_len l (List.getElem?_eq_getElem hj)
        refine .inl ⟨a, vs, j, n, rfl, rfl, hq, by rw [← l]; exact ej, RepT.closeL (by simp [l]) ?_⟩
        have r3 : RepT K H ((.hole, .ref a) :: (((d, u) :: xs.zip vs) ++ L)) := r2.perm (List.Perm.cons _ List.perm_middle)
        have r4 : RepT K H ((.hole, .ref a) :: (xs[j], w) :: ((xs.set j d).zip (vs.set j u) ++ L)) := r3.perm (List.Perm.cons _ ((set_rep (List.getElem?_eq_getElem hj) hw).append_right L))
        exact (r4.perm (.swap _ _ _)).drop
      | _ => cases e
  | dK o ks ds =>
    cases o with
    | false => cases e
    | true =>
      simp only [putAt] at e
      cases ek : keyD y with
      | none => rw [ek] at e; cases e
      | some k =>
        rw [ek] at e
        simp only at e
        split at e
        · rename_i z
          cases e
          have wk := keyD_rep ek r
          have rx := r.drop.dK
          obtain ⟨a, _, rfl, _⟩ := rx
          obtain ⟨vs, hq, n1, l, r2⟩ := RepT.putDK (k := k) rswap
          exact .inr ⟨a, _, rfl, .inl ⟨_, k, hq, wk, by rw [List.length_zip]; omega, rfl⟩, r2⟩
        · cases e
  | dT o ks ds =>
    cases o with
    | false => cases e
    | true =>
      cases y with
      | tup es =>
        simp only [putAt] at e
        cases ek : keysD es with
        | none => rw [ek] at e; cases e
        | some k =>
          rw [ek] at e
          simp only at e
          split at e
          · rename_i z
            cases e
            obtain ⟨b, bs, rfl, hb, lb, rb⟩ := r.openT
            have wk := keysD_rep ek lb rb
            subst wk
            obtain ⟨a, _, rfl, _⟩ := r.drop.dT
            obtain ⟨vs, hq, n1, l, r2⟩ := RepT.putDT (k := k) rswap
            exact .inr ⟨a, _, rfl, .inr ⟨_, k, b, hq, rfl, hb, by rw [List.length_zip]; omega, rfl⟩, r2⟩
          · cases e
      | _ => cases e
  | _ => cases e
theorem vs_put {o k value : Expr} {i : Nat} {fk fe : M D} {mk me : Bool} {pos pos' : Pos} (hu : X.A.units + 1 < cLine) (ho : PE X o (tVar i)) (hk : VE X W mk k fk) (hv : VE X W me value fe) (hs : swapsWith value (some (.Subscript o k pos')) pos.line X.env = pure false := by rfl)
    (hs1 : swapsWithSole [.Subscript o k pos'] value pos.line X.env = pure false := by rfl) (hw : swappedStores [.Subscript o k pos'] value X.env = pure none := by rfl) (h1 : (assignEach [.Subscript o k pos'] X.env).map (·.2) = [assign (.Subscript o k pos') X.env] := by rfl)
    (ha : ∀ v, assign (.Subscript o k pos') X.env v = (do
      let ov ← holding [v] (eval o X.env)
      let iv ← holding [v, ov] (eval k X.env)
      standAt pos'
      holding [v, ov, iv] (setItem ov iv v)
      release [v, ov, iv] []) := by intro _; rfl) : VSt X W [] (.Assign [.Subscript o k pos'] value pos) (dPut i fk fe) := by
  refine PS.imp (PS.orr (ps_asg hv (pg_sub ho hk set_list ha) hs1 hw h1) (ps_dput hu ho hk hv hs)) fun σ H E ⟨T, ρ, fl, ρ', rep, hf, he⟩ => ?_
  unfold dPut bindS at hf
  have fin : ∀ {x y d : D} {v w u : V} {H1 : Hp} {ρ1 : Env}, Rep X.K H1 ((y, w) :: (d, u) :: T) ρ1 σ → σ[i]? = some (some v) → ρ1.getD i .unk = x → (∃ x', putAt x y d = some x' ∧ fl = .nx ∧ ρ' = ρ1.set i x') →
      (∃ a xs j k, v = .ref a ∧ w = .int k ∧ H1 a = some (.lst xs) ∧ ixN xs.length k = some j ∧ E.nx σ (upd H1 a (.lst (xs.set j u)))) ∨ (∃ a H', v = .ref a ∧ DPut H1 a w u H' ∧ E.nx σ H') := by
    intro x y d v w u H1 ρ1 r1 hv hx ⟨x', e, e1, e2⟩
    subst e1 e2
    have hi : i < ρ1.length := by rw [r1.len]; exact (List.getElem?_eq_some_iff.mp hv).1
    have r2 := r1.take (getD_at hi) hv
    rw [hx] at r2
    have r3 : RepT X.K H1 ((y, w) :: (x, v) :: (d, u) :: (T ++ SL (ρ1.set i .unk) σ)) := r2.rep.perm (.swap _ _ _)
    have close : ∀ {H2 : Hp}, RepT X.K H2 ((x', v) :: (T ++ SL (ρ1.set i .unk) σ)) → E.nx σ H2 := fun {H2} rr => by
      have r4 : Rep X.K H2 ((x', v) :: T) (ρ1.set i .unk) σ := ⟨r2.len, r2.nos, rr⟩
      have r5 := r4.put hv
      rw [List.set_set] at r5
      exact he σ H2 Kept.refl r5
    rcases put_rep e r3 with ⟨a, xs, j, k, h1, h2, h3, h4, h5⟩ | ⟨a, H', h1, h2, h3⟩
    · exact .inl ⟨a, xs, j, k, h1, h2, h3, h4, close h5⟩
    · exact .inr ⟨a, H', h1, h2, close h3⟩
  cases qe : fe ρ with
  | none => rw [qe] at hf; cases hf
  | some re =>
    rw [qe] at hf
    cases re with
    | ex x ρ1 =>
      have : (Fl.ex x, ρ1) = (fl, ρ') := Option.some.inj hf
      injection this with e1 e2
      subst e1 e2
      exact .inl ⟨T, ρ, _, rep, qe, fun cls dd H' xr r => he cls dd σ H' Kept.refl xr r⟩
    | ok d ρ1 =>
      simp only at hf
      cases q : ρ1[i]? with
      | none => rw [q] at hf; cases hf
      | some x0 =>
        have n : x0 ≠ .unk := fun e => by rw [q, e] at hf; cases hf
        rw [q] at hf
        have h2 : bindS fk (putS i d) ρ1 = some (fl, ρ') := by
          cases x0 <;> first | exact hf | exact absurd rfl n
        unfold bindS at h2
        cases qk : fk ρ1 with
        | none => rw [qk] at h2; cases h2
        | some rk =>
          rw [qk] at h2
          cases rk with
          | ex x ρ2 =>
            have : (Fl.ex x, ρ2) = (fl, ρ') := Option.some.inj h2
            injection this with e1 e2
            subst e1 e2
            refine .inl ⟨T, ρ, _, rep, qe, fun u H1 _ r1 => ?_⟩
            obtain ⟨v, hv⟩ := r1.slot q n
            exact ⟨v, hv, _, ρ1, _, r1, qk, fun cls dd H' xr r => he cls dd σ H' Kept.refl xr r.drop⟩
          | ok y ρ2 =>
            simp only [putS] at h2
            split at h2
            · rename_i x' ex
              have : (Fl.nx, ρ2.set i x') = (fl, ρ') := Option.some.inj h2
              injection this with e1 e2
              have fin2 : ∀ {u v w : V} {H2 : Hp}, Rep X.K H2 ((y, w) :: (d, u) :: T) ρ2 σ → σ[i]? = some (some v) → _ := fun {u v w H2} r2 hv => fin r2 hv rfl ⟨x', ex, e1.symm, e2.symm⟩
              by_cases il : isLst (some (ρ2.getD i .unk)) = true
              · refine .inl ⟨T, ρ, _, rep, qe, fun u H1 _ r1 => ?_⟩
                obtain ⟨v, hv⟩ := r1.slot q n
                refine ⟨v, hv, _, ρ1, _, r1, qk, fun w H2 _ r2 => ?_⟩
                rcases fin2 r2 hv with ⟨a, xs, j, k, h1, h3, h4, h5, h6⟩ | ⟨a, H', h1, h3, h4⟩
                · exact ⟨a, xs, k, j, h1, h3, h4, h5, h6⟩
                · exfalso
                  have hi : i < ρ2.length := by rw [r2.len]; exact (List.getElem?_eq_some_iff.mp hv).1
                  have r3 := r2.take (getD_at hi) hv
                  cases xx : ρ2.getD i .unk <;> rw [xx] at il <;> simp only [isLst, Bool.false_eq_true] at il
                  rw [xx] at r3
                  obtain ⟨a', vs, e', hq, _⟩ := RepT.readL r3.rep
                  rw [h1] at e'
                  cases e'
                  rcases h3 with ⟨_, _, z, _⟩ | ⟨_, _, _, z, _⟩ <;> rw [hq] at z <;> cases z
              · refine .inr ⟨T, ρ, _, rep, qe, fun u H1 _ r1 => ?_⟩
                obtain ⟨v, hv⟩ := r1.slot q n
                refine ⟨v, hv, _, ρ1, _, r1, qk, fun w H2 _ r2 => ?_⟩
                rcases fin2 r2 hv with ⟨a, xs, j, k, h1, h3, h4, h5, h6⟩ | ⟨a, H', h1, h3, h4⟩
                · exfalso
                  have hi : i < ρ2.length := by rw [r2.len]; exact (List.getElem?_eq_some_iff.mp hv).1
                  have r3 := r2.take (getD_at hi) hv
                  cases xx : ρ2.getD i .unk <;> rw [xx] at il ex r3 <;> first | (cases ex; done) | skip
                  · exact il rfl
                  · obtain ⟨a', vs, e', hq, _⟩ := RepT.dK r3.rep
                    rw [h1] at e'
                    cases e'
                    rw [hq] at h4; cases h4
                  · obtain ⟨a', vs, e', hq, _⟩ := RepT.dT r3.rep
                    rw [h1] at e'
                    cases e'
                    rw [hq] at h4; cases h4
                · exact ⟨a, H', h1, h3, h4⟩
            · cases h2
end
end VS

set_option Elab.async false
set_option linter.all false
set_option maxRecDepth 100000
set_option maxHeartbeats 4000000
set_option autoImplicit false
/-! VS8: setdefault, sorted(dict), isinstance, index, min and max of one sequence. -/
namespace VS
open PySem PySem.Spec PyProof.Rows L2
section
variable {X : Cx} {W : WX} {K : PySem.W.Frag} {mg : Str → Option Value} {F H H1 : Hp} {T L : List (D × V)} {ρ ρ' : Env} {σ σ' σ'' : St} {m : Bool}
/-! ### d.setdefault(k, x), the keys of d tuples -/
theorem d_setdT {pins : List (Addr × Obj)} {s : Shared} {a b : Addr} {k : List Key} {d : V} {r : Value} {E : Value → Shared → Prop} {kvs : List (List Key × V)} {Q : Value → Shared → Prop} (hu : X.A.units + 1 < cLine) (I : Inv X pins σ H s) (e : H a = some (.dT kvs)) (eb : H b = some (.tup (k.map kV))) (rd : RelV d r) (hl : kvs.length < sizeLine)
    (h1 : ∀ v, valV kvs k = some v → ∀ (w' : Value) (s' : Shared), Inv X pins σ H s' → RelV v w' → Q w' s') (h2 : valV kvs k = none → ∀ (w' : Value) (s' : Shared), Inv X pins σ (upd H a (.dT (putK kvs k d))) s' → RelV d w' → Q w' s') :
    wpAny (model X.prog X.w) X.A (call (.builtin "dict.setdefault") [.ref a, .ref b, r]) Q E s := by
  obtain ⟨z, hd, xs, rel, dd⟩ := dt_of I.hok e
  have hz : xs.length ≤ sizeLine := by rw [← Paired.length rel]; exact z
  have hl2 : (putK kvs k d).length ≤ sizeLine := by have := length_putK kvs k d; omega
  refine call_setdefault_heap (hsz := hz) (tupleKind_room_in1 hu) (key_of I.hok eb) hd dd (fun p hp => ?_) fun hn h' dd' hs => ?_
  · have q := rel.val k
    rw [hp] at q
    cases q0 : valV kvs k with
    | none => rw [q0] at q; exact (show False from q).elim
    | some v0 => rw [q0] at q; exact h1 v0 q0 _ _ (I.tok _) q
  · have q := rel.val k
    rw [hn] at q
    cases q0 : valV kvs k with
    | some v0 => rw [q0] at q; exact (show False from q).elim
    | none =>
      refine h2 q0 _ _ ?_ rd
      obtain ⟨q, es, ep, hq, g2, g3, g4, _, g5⟩ := dd'
      refine d_write I (by rw [e]; exact True.intro) hs ⟨q, hq⟩ ⟨hl2, hd, _, (rel.put k eb rd).keeps fun c ys ec => ?_, q, es, ep, hq, g2, g3, g4, g5⟩
      rw [upd_ne (ne_of ec e (fun z => nomatch z))]
      exact ec
def tDSetT (td ty tx : TE) : TE := fun σ H Q => td σ H fun x H1 => ∃ a, x = .ref a ∧ IsD H1 a ∧ ty σ H1 fun y H2 => tx σ H2 fun z H3 => ∃ (kvs : List (List Key × V)) (k : List Key) (b : Addr), H3 a = some (.dT kvs) ∧ y = .ref b ∧ H3 b = some (.tup (k.map kV)) ∧ kvs.length < sizeLine ∧
  (∀ v, valV kvs k = some v → Q v H3) ∧ (valV kvs k = none → Q z (upd H3 a (.dT (putK kvs k z))))
theorem pe_dsetT {o e f : Expr} {td ty tx : TE} {apos cpos : Pos} (hu : X.A.units + 1 < cLine) (ho : PE X o td) (he : PE X e ty) (hf : PE X f tx) (m : M2 X o "setdefault" apos e f cpos) : PE X (.Call (.Attribute o "setdefault" apos) [e, f] [] cpos) (tDSetT td ty tx) := by
  refine ⟨fun pins s σ H Q I h => ?_⟩
  refine wpAny_Call_method m.base m.few m.line PySem.F.plainAttrs_dict PySem.F.slot_dict_setdefault PySem.F.type_dict_setdefault (thn (ho.run pins s σ H _ I h) fun u s1 ⟨x, H1, I1, rx, a, ex, d, q1⟩ => ?_)
  subst ex
  obtain rfl : u = Value.ref a := rx
  obtain ⟨t1, t2, _⟩ := isD_at I1 d
  refine ⟨t1, t2, ?_⟩
  rw [m.trees]
  refine Calls.callWith_builtin rfl (Calls.evalArgs_plain (Calls.spliced_cons (thn (he.run pins s1 σ H1 _ I1 q1) fun iv s2 ⟨y, H2, I2, ry, q2⟩ =>
    Calls.spliced_cons (thn (hf.run pins s2 σ H2 _ I2 q2) fun fv s3 ⟨z, H3, I3, rz, kvs, k, b, ea, ey, eb, hl, q3, q4⟩ => Calls.spliced_nil ?_))))
  subst ey
  cases (show iv = Value.ref b from ry)
  exact d_setdT hu I3 ea eb rz hl (fun v hv w' s4 I4 rw' => ⟨v, _, I4, rw', q3 v hv⟩) fun hn w' s4 I4 rw' => ⟨z, _, I4, rw', q4 hn⟩
/-- what is stored is frozen; the answer is not looked at -/
def setdS (i : Nat) (y d : D) : M D := fun ρ => match ρ.getD i .unk, y with
  | .dT true ks ds, .tup es => match keysD es with
    | some k => if ks.length < sizeLine ∧ fz d = true then (match look ks ds k with
      | some _ => some (.ok .unk ρ)
      | none => some (.ok .unk (ρ.set i (.dT true (putL ks ds k d).1 (putL ks ds k d).2)))) else none
    | none => none
  | _, _ => none
def dSetd (i : Nat) (fy fd : M D) : M D := fun ρ0 => if isDct ρ0[i]? = true then bindM fy (fun y => bindM fd (setdS i y)) ρ0 else none
theorem isDct_rep {i : Nat} (h : isDct ρ[i]? = true) (rep : Rep K H T ρ σ) : ∃ a, σ[i]? = some (some (.ref a)) ∧ IsD H a := by
  cases q : ρ[i]? with
  | none => rw [q] at h; cases h
  | some x =>
    rw [q] at h
    cases x <;> simp only [isDct, Bool.false_eq_true] at h
    · obtain ⟨v, hv⟩ := rep.slot q (by intro z; cases z)
      obtain ⟨a, vs, rfl, hq, _⟩ := RepT.dK (rep.take q hv).rep
      exact ⟨a, hv, .inl ⟨_, .inl hq⟩⟩
    · obtain ⟨v, hv⟩ := rep.slot q (by intro z; cases z)
      obtain ⟨a, vs, rfl, hq, _⟩ := RepT.dT (rep.take q hv).rep
      exact ⟨a, hv, .inr ⟨_, .inl hq⟩⟩
theorem ve_setdT {o e f : Expr} {i : Nat} {fy fd : M D} {my md : Bool} {apos cpos : Pos} (hu : X.A.units + 1 < cLine) (ho : PE X o (tVar i)) (he : VE X W my e fy) (hf : VE X W md f fd) (mm : M2 X o "setdefault" apos e f cpos) : VE X W true (.Call (.Attribute o "setdefault" apos) [e, f] [] cpos) (dSetd i fy fd) := by
  refine PE.imp (pe_dsetT hu ho he hf mm) fun σ H Q ⟨T, ρ, u, rep, hf, he⟩ => ?_
  unfold dSetd at hf
  by_cases z : isDct ρ[i]? = true
  · rw [if_pos z] at hf
    obtain ⟨a, hv, hd⟩ := isDct_rep z rep
    refine ⟨.ref a, hv, a, rfl, hd, ?_⟩
    refine run1 rep hf he fun y ρ1 w H1 h1 s1 r1 => ?_
    refine run1 r1 h1 (he.push (okP' := okE X.K true T σ H Q) fun _ _ q => q) fun d ρ2 v H2 h2 s2 r2 => ?_
    unfold setdS at h2
    split at h2
    · rename_i ks ds es ex
      split at h2
      · rename_i k ek
        split at h2
        · rename_i zz
          have hi : i < ρ2.length := by rw [r2.len]; exact (List.getElem?_eq_some_iff.mp hv).1
          have r3 : Rep X.K H2 ((d, v) :: (.tup es, w) :: T) ρ2 σ := r2
          have r4 := r3.take (getD_at hi) hv
          rw [ex] at r4
          obtain ⟨a', vs, ea, hq, n1, nd, l, _⟩ := RepT.dT r4.rep
          cases ea
          have ry : Rep X.K H2 ((.tup es, w) :: (d, v) :: T) ρ2 σ := r3.perm (.swap _ _ _)
          obtain ⟨b, bs, rfl, hb, lb, rb⟩ := RepT.openT ry.rep
          have wk := keysD_rep ek lb rb
          subst wk
          refine ⟨ks.zip vs, k, b, hq, rfl, hb, by rw [List.length_zip]; omega, fun v0 hv0 => ?_, fun hn => ?_⟩
          · rw [valV_look] at hv0
            split at h2
            · have : u = .ok .unk ρ2 := (Option.some.inj h2).symm
              subst this
              exact he _ H2 (fun z => by cases z) (r3.drop.drop.lift fun q => q.unk)
            · rename_i en
              rw [look_none n1 l en] at hv0; cases hv0
          · rw [valV_look] at hn
            split at h2
            · rename_i x0 en
              obtain ⟨j, u0, _, _, h3⟩ := look_pair n1 l en
              rw [hn] at h3; cases h3
            · have : u = .ok .unk (ρ2.set i (.dT true (putL ks ds k d).1 (putL ks ds k d).2)) := (Option.some.inj h2).symm
              subst this
              have rA : RepT X.K H2 ((d, v) :: (.dT true ks ds, .ref a) :: (.tup es, .ref b) :: (T ++ SL (ρ2.set i .unk) σ)) := r4.rep.perm (.swap _ _ _)
              obtain ⟨vs', hq', _, _, r5⟩ := RepT.putDT (k := k) rA
              rw [hq] at hq'
              have ez : ks.zip vs = ks.zip vs' := by injection hq' with e1; injection e1
              rw [← ez] at r5
              have r6 : Rep X.K (upd H2 a (.dT (putK (ks.zip vs) k v))) ((.dT true (putL ks ds k d).1 (putL ks ds k d).2, .ref a) :: (.tup es, .ref b) :: T) (ρ2.set i .unk) σ := ⟨r4.len, r4.nos, r5⟩
              have r7 := r6.put hv
              rw [List.set_set] at r7
              exact he _ _ (fun z => by cases z) (r7.drop.lift fun q => q.unk)
        · cases h2
      · cases h2
    · cases h2
  · rw [if_neg z] at hf; cases hf
/-! ### isinstance -/
def tyD : D → Option String
  | .non => some "NoneType"
  | .bl _ => some "bool"
  | .int _ => some "int"
  | .str _ => some "str"
  | .tup _ => some "tuple"
  | .ktp _ => some "tuple"
  | .lst _ _ => some "list"
  | .scr _ => some "list"
  | .dK _ _ _ => some "dict"
  | .dT _ _ _ => some "dict"
  | _ => none
theorem tyD_rep {d : D} {n : String} {v : V} (e : tyD d = some n) (r : RepT K H ((d, v) :: L)) : TyX K H v (.type n) := by
  cases d <;> simp only [tyD, Option.some.injEq, reduceCtorEq] at e <;> subst e
  · rw [r.eq_non]; exact .base .non
  · rw [r.eq_bl]; exact .base (.bl _)
  · rw [r.eq_int]; exact .base (.int _)
  · rw [r.eq_str]; exact .base (.str _)
  · obtain ⟨a, vs, rfl, q, _⟩ := r.openT; exact .base (.tup q)
  · obtain ⟨a, vs, rfl, q, _⟩ := r.readL; exact .base (.lst q)
  · obtain ⟨a, vs, rfl, q, _⟩ := r.openS
    rcases q with (q | ⟨o, q⟩) | ⟨o, its, n, h1, h2, _⟩
    · exact .base (.lst q)
    · exact .base (.frz q)
    · exact .kList h1 h2
  · obtain ⟨a, vs, rfl, q, _⟩ := r.openK
    rcases q with (q | ⟨o, q⟩) | ⟨o, its, n, h1, h2, _⟩
    · exact .base (.tup q)
    · exact .fTuple q
    · exact .kTuple h1 h2
  · obtain ⟨a, vs, rfl, q, _⟩ := r.dK; exact .base (.dK q)
  · obtain ⟨a, vs, rfl, q, _⟩ := r.dT; exact .base (.dT q)
/-- whether a built-in class is another one's -/
def isaB : String → List String → Option Bool
  | _, [] => some false
  | a, n :: ns => match kitB a n with
    | none => none
    | some true => some true
    | some false => isaB a ns
def gIsa (ns : List String) (d : D) : Option D := match tyD d with
  | none => none
  | some a => (isaB a ns).map .bl
theorem isaB_any {a : String} : ∀ {ns : List String} {b : Bool}, isaB a ns = some b → PySem.W.kitAny K (.type a) (ns.map Value.type) = some b
  | [], b, h => by
    have : false = b := Option.some.inj h
    subst this
    rfl
  | n :: ns, b, h => by
    rw [isaB] at h
    cases q : kitB a n with
    | none => rw [q] at h; cases h
    | some c =>
      rw [q] at h
      refine kitAny_cons (kit_ty q) (fun e => ?_) fun e => ?_
      · subst e; exact isaB_any h
      · subst e
        exact (Option.some.inj h).symm
def dIsa (ns : List String) (f : M D) : M D := bindM f fun d => optM (gIsa ns d)
theorem gIsa_inv {ns : List String} {d x : D} (h : gIsa ns d = some x) : ∃ a b, tyD d = some a ∧ isaB a ns = some b ∧ x = .bl b := by
  unfold gIsa at h
  split at h
  · cases h
  · rename_i a ea
    obtain ⟨b, eb, rfl⟩ := Option.map_eq_some_iff.mp h
    exact ⟨a, b, ea, eb, rfl⟩
theorem ve_isa {e c : Expr} {n : String} {f : M D} {p pos : Pos} (hg : Gl X "isinstance") (hm : X.mg "isinstance" = none) (he : VE X W m e f) (hc : PE X c (tC (.ty n)))
    (hs1 : starEach [c] X.env = (false, eval c X.env) :: starEach [] X.env := by rfl) (hs : starEach [e, c] X.env = (false, eval e X.env) :: starEach [c] X.env := by rfl) (hpl : (backTo pos (starEach [c] X.env)).any (·.1) = false := by rfl) : VE X W m (.Call (.Name "isinstance" p) [e, c] [] pos) (dIsa [n] f) := by
  refine PE.imp (pe_callB call_isi hg hm (by decide +kernel) (pa_cons he (pa_cons hc pa_nil hs1) hs) (by decide) (by decide) hs hpl) fun σ H Q ⟨T, ρ, u, rep, hf, hend⟩ => ?_
  refine run1 rep hf hend fun d ρ1 v H1 h1 s1 r1 => ?_
  obtain ⟨x, ex, rfl⟩ := optM_some h1
  obtain ⟨a, b, e1, e2, rfl⟩ := gIsa_inv ex
  refine ⟨v, .ty n, .type a, .type n, b, rfl, .ty n, tyD_rep e1 r1.rep, ?_, hend _ H1 s1 (r1.drop.lift fun q => q.bl)⟩
  rw [isaB] at e2
  cases q : kitB a n with
  | none => rw [q] at e2; cases e2
  | some c =>
    rw [q] at e2
    cases c with
    | true => rw [kit_ty q]; exact e2
    | false => rw [kit_ty q]; exact e2
theorem ve_isa2 {e c c2 : Expr} {n n2 : String} {f : M D} {k : Nat} {p pos tpos : Pos} (hg : Gl X "isinstance") (hm : X.mg "isinstance" = none) (he : VE X W m e f) (hc : PE X c (tC (.ty n))) (hc2 : PE X c2 (tC (.ty n2)))
    (hs0 : starEach [c2] X.env = (false, eval c2 X.env) :: starEach [] X.env := by rfl) (hs3 : starEach [c, c2] X.env = (false, eval c X.env) :: starEach [c2] X.env := by rfl)
    (hs1 : starEach [.Tuple [c, c2] k tpos] X.env = (false, eval (.Tuple [c, c2] k tpos) X.env) :: starEach [] X.env := by rfl) (hs : starEach [e, .Tuple [c, c2] k tpos] X.env = (false, eval e X.env) :: starEach [.Tuple [c, c2] k tpos] X.env := by rfl) (hpl : (backTo pos (starEach [.Tuple [c, c2] k tpos] X.env)).any (·.1) = false := by rfl) : VE X W m (.Call (.Name "isinstance" p) [e, .Tuple [c, c2] k tpos] [] pos) (dIsa [n, n2] f) := by
  refine PE.imp (pe_callB call_isiT hg hm (by decide +kernel) (pa_cons he (pa_cons (pe_tup (pa_cons hc (pa_cons hc2 pa_nil hs0) hs3)) pa_nil hs1) hs) (by decide) (by decide) hs hpl) fun σ H Q ⟨T, ρ, u, rep, hf, hend⟩ => ?_
  refine run1 rep hf hend fun d ρ1 v H1 h1 s1 r1 => ?_
  obtain ⟨x, ex, rfl⟩ := optM_some h1
  obtain ⟨a, b, e1, e2, rfl⟩ := gIsa_inv ex
  refine ⟨(by show 2 ≤ sizeLine; decide), fun tp htp => ?_⟩
  have r2 : RepT X.K (upd H1 tp (.tup [.ty n, .ty n2])) ((d, v) :: (T ++ SL ρ1 σ)) := RepT.grow htp r1.rep
  refine ⟨v, tp, _, .type a, [.type n, .type n2], b, rfl, upd_same, .cons (.ty n) (.cons (.ty n2) .nil), tyD_rep e1 r2, isaB_any e2, hend _ _ (sm_r s1 (Same.upd htp)) ⟨r1.len, r1.nos, RepT.bl r2.drop⟩⟩
end
end VS

set_option Elab.async false
set_option linter.all false
set_option maxRecDepth 100000
set_option maxHeartbeats 4000000
set_option autoImplicit false
/-! VS9: min, max of a sequence of ints; list.index; sorted(dict with tuple keys). -/
namespace VS
open PySem PySem.Spec PyProof.Rows L2
section
variable {X : Cx} {W : WX} {K : PySem.W.Frag} {mg : Str → Option Value} {F H H1 : Hp} {T L : List (D × V)} {ρ ρ' : Env} {σ σ' σ'' : St} {m : Bool}
theorem ints_reads {h : Heap} : ∀ {ns : List Int} {its : List Value}, Vals (ns.map V.int) its → ∃ as, ReadsAll h its (ns.map PyData.int) as
  | [], _, .nil => ⟨_, .nil⟩
  | n :: ns, _, .cons r t => by
    obtain ⟨u, rfl⟩ := r
    obtain ⟨as, q⟩ := ints_reads t
    exact ⟨_, .cons (.int n u) q⟩
theorem ints_alike (n : Int) (ns : List Int) : PySem.W.AlikeAll ((.int n : PyData) :: ns.map PyData.int) := by
  have key : ∀ x ∈ ((.int n : PyData) :: ns.map PyData.int), ∃ i, x = .int i := fun x hx => by
    rcases List.mem_cons.mp hx with rfl | hx
    · exact ⟨n, rfl⟩
    · obtain ⟨i, _, rfl⟩ := List.mem_map.mp hx
      exact ⟨i, rfl⟩
  refine ⟨fun x hx y hy => ?_, fun x hx => ?_⟩
  · obtain ⟨i, rfl⟩ := key x hx
    obtain ⟨j, rfl⟩ := key y hy
    rfl
  · obtain ⟨i, rfl⟩ := key x hx
    intro z; cases z
theorem ints_depth : ∀ ns : List Int, PyData.depthAll (ns.map PyData.int) = 0
  | [] => rfl
  | n :: ns => by rw [List.map_cons, PyData.depthAll, ints_depth ns]; rfl
def rBest (K : PySem.W.Frag) (f : Int → List Int → Int) : List V → Hp → VK → Prop := fun xs H Q => ∃ (a : Addr) (n : Int) (ns : List Int), xs = [.ref a] ∧ (SqL K H a ((n :: ns).map V.int) ∨ SqT K H a ((n :: ns).map V.int)) ∧ Q (.int (f n ns)) H
theorem reads_int {h : Heap} {v : Value} {i : Int} {as : List Addr} (r : Reads h v (.int i) as) : ∃ t, v = .int i t := by
  cases r with
  | int i t => exact ⟨t, rfl⟩
theorem cr_minI (hc : X.calm = true) (hu : X.A.units + 64 < cLine) : CallR X (.builtin "min") (rBest X.K fun n ns => ns.foldl min n) := by
  intro pins s σ H vs us Q I r h
  obtain ⟨a, n, ns, rfl, hs, q⟩ := h
  rw [Vals.ref1 r]
  have hd : X.A.units + 1 + PyData.depthAll ((.int n : PyData) :: ns.map PyData.int) < cLine := by
    have := ints_depth (n :: ns)
    rw [List.map_cons] at this
    rw [this]; omega
  rcases hs with hs | hs
  · obtain ⟨its, rv, hl, _⟩ := I.list hs
    obtain ⟨as, hr⟩ := ints_reads (h := s.heap) rv
    refine PySem.W.min_list_data (x := .int n) (xs := ns.map PyData.int) (I.ok.hd hc) hl.isList (by simpa using hr) (ints_alike n ns) hd fun i v h' tk bs _ rr hk => ?_
    rw [PySem.W.minD_ints] at rr
    obtain ⟨t, rfl⟩ := reads_int rr
    exact ⟨.int _, H, I.kept hk, ⟨_, rfl⟩, q⟩
  · obtain ⟨its, rv, hl, _⟩ := I.tuple hs
    obtain ⟨as, hr⟩ := ints_reads (h := s.heap) rv
    refine PySem.W.min_tuple_data (x := .int n) (xs := ns.map PyData.int) (I.ok.hd hc) hl (by simpa using hr) (ints_alike n ns) hd fun i v h' tk bs _ rr hk => ?_
    rw [PySem.W.minD_ints] at rr
    obtain ⟨t, rfl⟩ := reads_int rr
    exact ⟨.int _, H, I.kept hk, ⟨_, rfl⟩, q⟩
theorem cr_maxI (hc : X.calm = true) (hu : X.A.units + 64 < cLine) : CallR X (.builtin "max") (rBest X.K fun n ns => ns.foldl max n) := by
  intro pins s σ H vs us Q I r h
  obtain ⟨a, n, ns, rfl, hs, q⟩ := h
  rw [Vals.ref1 r]
  have hd : X.A.units + 1 + PyData.depthAll ((.int n : PyData) :: ns.map PyData.int) < cLine := by
    have := ints_depth (n :: ns)
    rw [List.map_cons] at this
    rw [this]; omega
  rcases hs with hs | hs
  · obtain ⟨its, rv, hl, _⟩ := I.list hs
    obtain ⟨as, hr⟩ := ints_reads (h := s.heap) rv
    refine PySem.W.max_list_data (x := .int n) (xs := ns.map PyData.int) (I.ok.hd hc) hl.isList (by simpa using hr) (ints_alike n ns) hd fun i v h' tk bs _ rr hk => ?_
    rw [PySem.W.maxD_ints] at rr
    obtain ⟨t, rfl⟩ := reads_int rr
    exact ⟨.int _, H, I.kept hk, ⟨_, rfl⟩, q⟩
  · obtain ⟨its, rv, hl, _⟩ := I.tuple hs
    obtain ⟨as, hr⟩ := ints_reads (h := s.heap) rv
    refine PySem.W.max_tuple_data (x := .int n) (xs := ns.map PyData.int) (I.ok.hd hc) hl (by simpa using hr) (ints_alike n ns) hd fun i v h' tk bs _ rr hk => ?_
    rw [PySem.W.maxD_ints] at rr
    obtain ⟨t, rfl⟩ := reads_int rr
    exact ⟨.int _, H, I.kept hk, ⟨_, rfl⟩, q⟩
def gBest (f : Int → List Int → Int) (ds : List D) : Option D := match ds with
  | [x] => (seqOf x).bind fun xs => match allI xs with
    | some (n :: ns) => some (.int (f n ns))
    | _ => none
  | _ => none
def gMin1 := gBest fun n ns => ns.foldl min n
def gMax1 := gBest fun n ns => ns.foldl max n
theorem impBest {f : Int → List Int → Int} : ImpA K (rBest K f) (gBest f) := by
  intro H L ds vs d Q e l r h
  unfold gBest at e
  split at e
  · rename_i x
    obtain ⟨xs, e1, e2⟩ := Option.bind_eq_some_iff.mp e
    split at e2
    · rename_i n ns e3
      cases e2
      obtain ⟨v, rfl⟩ := len1 l
      have r1 : RepT K H ((x, v) :: L) := r
      obtain ⟨a, ws, rfl, sq, l2, r2⟩ := r1.seq e1
      rw [allI_eq e3] at l2 r2
      have := zip_int (by rw [← l2, List.length_map]) r2
      subst this
      exact ⟨a, n, ns, rfl, sq, h _ H (Same.refl _) (RepT.int r1.drop)⟩
    · cases e2
  · cases e
/-- min, max of one sequence or of two ints -/
def gMin (ds : List D) : Option D := match ds with
  | [_] => gMin1 ds
  | _ => gMin2 ds
def gMax (ds : List D) : Option D := match ds with
  | [_] => gMax1 ds
  | _ => gMax2 ds
def rMinA (K : PySem.W.Frag) : List V → Hp → VK → Prop := fun xs H Q => rBest K (fun n ns => ns.foldl min n) xs H Q ∨ (∃ i j, xs = [.int i, .int j] ∧ Q (.int (if j < i then j else i)) H)
def rMaxA (K : PySem.W.Frag) : List V → Hp → VK → Prop := fun xs H Q => rBest K (fun n ns => ns.foldl max n) xs H Q ∨ (∃ i j, xs = [.int i, .int j] ∧ Q (.int (if j > i then j else i)) H)
theorem cr_minA (hc : X.calm = true) (hu : X.A.units + 64 < cLine) : CallR X (.builtin "min") (rMinA X.K) := CallR.orr (cr_minI hc hu) (call_min2 hc)
theorem cr_maxA (hc : X.calm = true) (hu : X.A.units + 64 < cLine) : CallR X (.builtin "max") (rMaxA X.K) := CallR.orr (cr_maxI hc hu) (call_max2 hc)
theorem impMin : ImpA K (rMinA K) gMin := by
  intro H L ds vs d Q e l r h
  unfold gMin at e
  split at e
  · exact .inl (impBest H L _ vs d Q e l r h)
  · exact .inr (impMin2 H L ds vs d Q e l r h)
theorem impMax : ImpA K (rMaxA K) gMax := by
  intro H L ds vs d Q e l r h
  unfold gMax at e
  split at e
  · exact .inl (impBest H L _ vs d Q e l r h)
  · exact .inr (impMax2 H L ds vs d Q e l r h)
/-! ### list.index at a name -/
def idxP (d : PyData) : List PyData → Option Nat
  | [] => none
  | z :: zs => if PyData.eqv z d = true then some 0 else (idxP d zs).map (· + 1)
theorem idxP_ok {d : PyData} : ∀ {zs : List PyData} {j : Nat}, idxP d zs = some j → ∃ z, zs[j]? = some z ∧ PyData.eqv z d = true ∧ ∀ (m : Nat) (z' : PyData), m < j → zs[m]? = some z' → PyData.eqv z' d = false
  | [], j, h => by cases h
  | z :: zs, j, h => by
    rw [idxP] at h
    by_cases e : PyData.eqv z d = true
    · rw [if_pos e] at h
      cases h
      exact ⟨z, rfl, e, fun m z' hm => by omega⟩
    · rw [if_neg e] at h
      obtain ⟨i, hi, rfl⟩ := Option.map_eq_some_iff.mp h
      obtain ⟨y, h1, h2, h3⟩ := idxP_ok hi
      refine ⟨y, h1, h2, fun m z' hm hz => ?_⟩
      cases m with
      | zero =>
        have : z = z' := Option.some.inj hz
        subst this
        cases q : PyData.eqv z d
        · rfl
        · exact absurd q e
      | succ m => exact h3 m z' (by omega) hz
def idxD (x y : D) : Option D := match lstOf x with
  | none => none
  | some ds => match dats ds, dat y with
    | some es, some e => if SeqAt.shaped (.list es) = true ∧ SeqAt.shaped e = true then (idxP e es).map fun (j : Nat) => D.int (j : Int) else none
    | _, _ => none
def idxS (i : Nat) (ys : List D) : M D := fun ρ => match ys with
  | [y] => match idxD (ρ.getD i .unk) y with
    | some d => some (.ok d ρ)
    | none => none
  | _ => none
def dIdx (i : Nat) (f : M (List D)) : M D := fun ρ0 => if isLst ρ0[i]? = true then bindM f (idxS i) ρ0 else none
theorem ve_index {o : Expr} {i : Nat} {f : M (List D)} {e : Expr} {apos cpos : Pos} (hu : X.A.units + 65 < cLine) (ho : PE X o (tVar i)) (ha : VA X W m [e] f) (hbase : attributeBase o "index" X.env (eval o X.env) = eval o X.env := by rfl)
    (hfew : ((backTo cpos (starEach [e] X.env)).all (fun x => !x.1) && (backToKw cpos (keywordEach [] X.env)).all (fun x => x.1.isSome)
      && decide (([e] : List Expr).length + ([] : List Keyword).length + (if ([] : List Keyword).isEmpty then 0 else 1) < 30)) = true := by rfl)
    (hline : (apos.endLine == cpos.line) = true := by rfl) (hs : starEach [e] X.env = (false, eval e X.env) :: starEach [] X.env := by rfl) (hplain : (backTo cpos (starEach [] X.env)).any (·.1) = false := by rfl) :
    VE X W m (.Call (.Attribute o "index" apos) [e] [] cpos) (dIdx i f) := by
  refine PE.imp (pe_bm PySem.F.plainAttrs_list PySem.F.slot_list_index PySem.F.type_list_index (mt_indexD hu) ho ha hbase hfew hline hs hplain) fun σ H Q ⟨T, ρ, u, rep, hf, he⟩ => ?_
  unfold dIdx at hf
  by_cases z : isLst ρ[i]? = true
  · rw [if_pos z] at hf
    cases q : ρ[i]? with
    | none => rw [q] at z; cases z
    | some x =>
      rw [q] at z
      cases x <;> simp only [isLst, Bool.false_eq_true] at z
      obtain ⟨v, hv⟩ := rep.slot q (by intro z; cases z)
      obtain ⟨a, vs0, rfl, hq, _, _⟩ := RepT.readL (rep.take q hv).rep
      refine ⟨.ref a, hv, .inl ⟨rfl, _, .inl (.inl hq)⟩, ?_⟩
      refine runA rep hf he fun ds ρ1 vs H1 h1 s1 l1 r1 => ?_
      unfold idxS at h1
      split at h1
      · rename_i y
        split at h1
        · rename_i d ed
          have : u = .ok d ρ1 := (Option.some.inj h1).symm
          subst this
          obtain ⟨w, rfl⟩ := len1 l1
          have r2 : Rep X.K H1 ((y, w) :: T) ρ1 σ := r1
          unfold idxD at ed
          split at ed
          · cases ed
          · rename_i xs ex
            split at ed
            · rename_i es e ee ey
              split at ed
              · rename_i zz
                obtain ⟨j, ej, rfl⟩ := Option.map_eq_some_iff.mp ed
                obtain ⟨z, h2, h3, h4⟩ := idxP_ok ej
                have hi : i < ρ1.length := by rw [r1.len]; exact (List.getElem?_eq_some_iff.mp hv).1
                have r3 := r2.take (getD_at hi) hv
                have dl : Dp X.K H1 (.ref a) (.list es) := by
                  refine RepT.dp r3.rep ?_
                  cases xx : ρ1.getD i .unk <;> rw [xx] at ex <;> simp only [lstOf, Option.some.injEq, reduceCtorEq] at ex <;> subst ex <;> simp only [dat, ee, Option.map_some]
                exact ⟨a, w, e, es, j, z, rfl, rfl, dl, r2.rep.dp ey, zz.1, zz.2, h2, h3, h4, he _ H1 s1 (r2.drop.lift fun q => q.int)⟩
              · cases ed
            · cases ed
        · cases h1
      · cases h1
  · rw [if_neg z] at hf; cases hf
/-! ### sorted(d), d's keys tuples -/
def keyB : Key → D
  | .inl i => .int i
  | .inr x => .str x
def tupK (k : List Key) : D := .tup (k.map keyB)
def keyP : Key → PyData
  | .inl i => .int i
  | .inr x => .str x
def tupP (k : List Key) : PyData := .tuple (k.map keyP)
theorem dats_key : ∀ k : List Key, dats (k.map keyB) = some (k.map keyP)
  | [] => rfl
  | .inl i :: k => by rw [List.map_cons, dats, dats_key k]; rfl
  | .inr x :: k => by rw [List.map_cons, dats, dats_key k]; rfl
theorem dat_key (k : List Key) : dat (tupK k) = some (tupP k) := by
  unfold tupK tupP
  rw [dat, dats_key]; rfl
theorem dats_keys : ∀ ks : List (List Key), dats (ks.map tupK) = some (ks.map tupP)
  | [] => rfl
  | k :: ks => by rw [List.map_cons, dats, dat_key, dats_keys ks]; rfl
theorem key_own {F' : Hp} : ∀ k : List Key, OwL K F' H (k.map keyB) (k.map kV) []
  | [] => by rw [List.map_nil, List.map_nil, OwL]; exact ⟨rfl, rfl⟩
  | .inl i :: k => by
    rw [List.map_cons, List.map_cons, OwL]
    exact ⟨_, _, [], [], rfl, rfl, by rw [keyB, Ow]; exact ⟨rfl, rfl⟩, key_own k⟩
  | .inr i :: k => by
    rw [List.map_cons, List.map_cons, OwL]
    exact ⟨_, _, [], [], rfl, rfl, by rw [keyB, Ow]; exact ⟨rfl, rfl⟩, key_own k⟩
def leK (x y : List Key) : Bool := PySem.W.dataLe false tupP x y
def rSortDT : List V → Hp → VK → Prop := fun xs H Q => ∃ (a : Addr) (kvs : List (List Key × V)), xs = [.ref a] ∧ H a = some (.dT kvs) ∧ PySem.W.AllAlike (kvs.map fun p => tupP p.1) ∧ PySem.W.Sortable (kvs.map fun p => tupP p.1) ∧ (∀ p ∈ kvs, (tupP p.1).depth ≤ 60) ∧
  ∀ bs : List (List Key × Addr), bs.map (·.1) = kvs.map (·.1) → (∀ b ∈ bs, H b.2 = some (.tup (b.1.map kV))) → ∀ p, H p = none → Q (.ref p) (upd H p (.lst ((bs.mergeSort fun x y => leK x.1 y.1).map fun b => V.ref b.2)))
theorem keyP_reads {pins : List (Addr × Obj)} {s : Shared} (I : Inv X pins σ H s) {b : Addr} {k : List Key} (hb : H b = some (.tup (k.map kV))) : ∃ as, Reads s.heap (.ref b) (tupP k) as := by
  have key : ∀ k : List Key, DpAll X.K H (k.map kV) (k.map keyP) := by
    intro k
    induction k with
    | nil => exact .nil
    | cons c k ih =>
      cases c with
      | inl i => exact .cons (.int i) ih
      | inr x => exact .cons (.str x) ih
  exact Dp.reads I _ (.ref b) _ (.tup (.inl (.inl hb)) (key k)) rfl
theorem keyAll_nil {h : Heap} : ∀ {k : List Key} {vs : List Value} {as : List Addr}, ReadsAll h vs (k.map keyP) as → as = []
  | [], _, _, r => by cases r; rfl
  | .inl i :: k, _, _, r => by
    cases r with
    | cons r1 r2 =>
      have e := keyAll_nil (k := k) r2
      cases r1
      rw [e]; rfl
  | .inr i :: k, _, _, r => by
    cases r with
    | cons r1 r2 =>
      have e := keyAll_nil (k := k) r2
      cases r1
      rw [e]; rfl
theorem tupP_nil {h : Heap} {k : List Key} {v : Value} {as : List Addr} (r : Reads h v (tupP k) as) : as = [] := by
  unfold tupP at r
  cases r with
  | tuple _ _ _ r => exact keyAll_nil r
theorem refs_each {s : Shared} {a : Addr} {h2 : Heap} : ∀ {bs : List (List Key × Addr)}, (∀ b ∈ bs, ∃ as, Reads h2 (.ref b.2) (tupP b.1) as) →
    PySem.W.EachIs (fun v (b : List Key × Addr) => v = Value.ref b.2) (bs.map fun b => Value.ref b.2) bs ∧ PySem.W.EachIs (fun v (b : List Key × Addr) => ∃ as, Reads h2 v (tupP b.1) as ∧ a ∉ as) (bs.map fun b => Value.ref b.2) bs
  | [], _ => ⟨.nil, .nil⟩
  | b :: bs, h => by
    obtain ⟨h1, h2⟩ := refs_each (s := s) (a := a) (bs := bs) fun c hc => h c (List.mem_cons_of_mem _ hc)
    obtain ⟨as, r⟩ := h b (by simp)
    exact ⟨.cons rfl h1, .cons ⟨as, r, by rw [tupP_nil r]; simp⟩ h2⟩
theorem refs_vals : ∀ {bs : List (List Key × Addr)} {out : List Value}, PySem.W.EachIs (fun v (b : List Key × Addr) => v = Value.ref b.2) out bs → Vals (bs.map fun b => V.ref b.2) out
  | _, _, .nil => .nil
  | _, _, .cons h t => .cons h (refs_vals t)
theorem cr_sortDT (hcalm : X.calm = true) (hu : X.A.units + 64 < cLine) : CallR X (.builtin "sorted") rSortDT := by
  intro pins s σ H xs us Q I r q
  obtain ⟨a, kvs, rfl, hd, hal, hso, hdp, q⟩ := q
  rw [Vals.ref1 r]
  obtain ⟨z, lo, ys, rel, dd⟩ := dt_of I.hok hd
  obtain ⟨es, ep, hraw, hsz, hent⟩ := dd.raw
  have hl : ys.length = kvs.length := (Paired.length rel).symm
  have h16 : es.size ≤ sizeLine := by rw [hsz, hl]; exact z
  -- the keys as they stand
  let bs : List (List Key × Addr) := ys.map fun y => (y.1, y.2.1)
  have hbk : bs.map (·.1) = kvs.map (·.1) := by
    have : ∀ {l : List (List Key × V)} {m : List (List Key × Addr × Value)}, KT H l m → (m.map fun y => (y.1, y.2.1)).map (·.1) = l.map (·.1) := by
      intro l m q
      induction q with
      | nil => rfl
      | cons h _ ih => rw [List.map_cons, List.map_cons, List.map_cons, ih, h.1]
    exact this rel
  have hbt : ∀ b ∈ bs, H b.2 = some (.tup (b.1.map kV)) := by
    have : ∀ {l : List (List Key × V)} {m : List (List Key × Addr × Value)}, KT H l m → ∀ b ∈ (m.map fun y => (y.1, y.2.1)), H b.2 = some (.tup (b.1.map kV)) := by
      intro l m q
      induction q with
      | nil => intro b hb; cases hb
      | cons h _ ih =>
        intro b hb
        rcases List.mem_cons.mp hb with rfl | hb
        · rw [← h.1]; exact h.2.1
        · exact ih b hb
    exact this rel
  refine Calls.call_function_entry PyProof.Rows.kind_sorted PyProof.Rows.plain_sorted PyProof.Rows.entry_sorted (PyProof.Rows.args_sorted1 _) ?_
  unfold Builtin.«sorted»
  refine wpAny_bind (m := checkCount "sorted" 1 1 _) (wpAny_pure ?_)
  refine wpAny_bind (PySem.W.kdu_collect (A := X.A.in1) (PySem.KdlSrc.rawDict (es := es) (ep := ep) lo) (I.ok.hd hcalm) hraw h16 fun h' tk acc hk hacc => ?_)
  have ea : acc.toList = bs.map fun b => Value.ref b.2 := by
    apply List.ext_getElem?
    intro j
    by_cases hj : j < acc.size
    · have e1 : acc.toList[j]? = some acc[j] := by rw [Array.getElem?_toList, Array.getElem?_eq_getElem hj]
      obtain ⟨hi, e2⟩ := hacc.2 j acc[j] (Array.getElem?_eq_getElem hj)
      obtain ⟨y, hy, e3, _⟩ := hent j hi
      rw [e1, e2, e3]
      show _ = ((ys.map fun y => (y.1, y.2.1)).map fun b => Value.ref b.2)[j]?
      rw [List.getElem?_map, List.getElem?_map, hy]; rfl
    · rw [List.getElem?_eq_none (by rw [Array.length_toList]; omega), List.getElem?_eq_none]
      show ((ys.map fun y => (y.1, y.2.1)).map fun b => Value.ref b.2).length ≤ j
      rw [List.length_map, List.length_map, ← hsz]
      have := hacc.1
      omega
  have hbl : bs.length ≤ sizeLine := by
    show (ys.map fun y => (y.1, y.2.1)).length ≤ sizeLine
    rw [List.length_map, ← hsz]; exact h16
  have I1 : Inv X pins σ H { s with heap := h', toks := tk } := I.kept hk
  rw [ea]
  refine wpAny_bind (wpAny_newList ?_ (by rw [List.length_map]; exact hbl))
  have hoL : (h'.push (seqObj "list" (bs.map fun b => Value.ref b.2).toArray 0)).get? h'.objs.size = some (seqObj "list" (bs.map fun b => Value.ref b.2).toArray 0) := Heap.get?_push_size _ rfl
  show wpAny _ _ _ _ _ { s with heap := h'.push (seqObj "list" (bs.map fun b => Value.ref b.2).toArray 0), toks := tk }
  have hreads : ∀ b ∈ bs, ∃ as, Reads (h'.push (seqObj "list" (bs.map fun b => Value.ref b.2).toArray 0)) (.ref b.2) (tupP b.1) as := fun b hb => by
    obtain ⟨as, r⟩ := keyP_reads I1 (hbt b hb)
    exact ⟨as, PyProof.Rows.Reads.keeps (fun _ _ e => Heap.get?_push_of_some _ e) r⟩
  obtain ⟨er0, er⟩ := refs_each (s := s) (a := h'.objs.size) hreads
  have em : bs.map (fun b => tupP b.1) = kvs.map fun p => tupP p.1 := by
    have := congrArg (List.map tupP) hbk
    simpa [List.map_map, Function.comp_def] using this
  refine wpAny_bind (wpAny_holding (PySem.W.list_sort_data (s := { s with heap := h'.push (seqObj "list" (bs.map fun b => Value.ref b.2).toArray 0), toks := tk }) (enc := fun b : List Key × Addr => tupP b.1) hoL er0 er (by rw [em]; exact hal) (by rw [em]; exact hso) hbl (fun b hb => ?_) fun out hlen ho => ?_))
  · have : (tupP b.1) ∈ kvs.map fun p => tupP p.1 := by rw [← em]; exact List.mem_map.mpr ⟨b, hb, rfl⟩
    obtain ⟨p, hp, e⟩ := List.mem_map.mp this
    have := hdp p hp
    rw [e] at this
    show X.A.units + 1 + 1 + _ < _
    omega
  · obtain ⟨e', he'⟩ := PyProof.Rows.sortedHeap_at (vs := bs.map fun b => Value.ref b.2) (out := out.toArray) hoL
    have vo := refs_vals ho
    have hlen2 : ((bs.mergeSort fun x y => leK x.1 y.1).map fun b => V.ref b.2).length ≤ sizeLine := by rw [List.length_map, List.length_mergeSort]; exact hbl
    refine wpAny_pure ⟨_, rfl, .ref h'.objs.size, upd H h'.objs.size (.lst ((bs.mergeSort fun x y => leK x.1 y.1).map fun b => V.ref b.2)), I1.laid (t' := tk) (fun b u e => ?_) (Nat.le_refl _)
      (show ObjOk X.prog X.w _ _ _ (.lst _) from ⟨hlen2, out, e', vo, he'⟩), rfl, q bs hbk hbt _ (I1.hok.fresh (Nat.le_refl _))⟩
    have hb : b < h'.objs.size := Heap.lt_size e
    rw [PyProof.Rows.sortedHeap_old (Nat.ne_of_lt hb) (by rw [size_push']; exact Nat.lt_succ_of_lt hb)]
    exact Heap.get?_push_of_some _ e
/-- sorted of a list, or of a dict whose keys are tuples -/
def gSorted (ds : List D) : Option D := match ds with
  | [.dT _ ks _] => (sortD (ks.map tupK)).map fun ys => .lst true ys
  | _ => gSort ds
def rSorted2 (K : PySem.W.Frag) : List V → Hp → VK → Prop := fun xs H Q => rSortDT xs H Q ∨ rSortA K xs H Q
theorem cr_sorted2 (hcalm : X.calm = true) (hu : X.A.units + 64 < cLine) : CallR X (.builtin "sorted") (rSorted2 X.K) := CallR.orr (cr_sortDT hcalm hu) (cr_sortA hu)
theorem RepT.tups {bs : List (List Key × Addr)} : (∀ b ∈ bs, H b.2 = some (.tup (b.1.map kV))) → RepT K H L → RepT K H ((bs.map fun b => tupK b.1).zip (bs.map fun b => V.ref b.2) ++ L) := by
  intro hb r
  induction bs with
  | nil => exact r
  | cons b bs ih => exact RepT.tupOf (hb b (by simp)) (fun F' => key_own b.1) (ih fun c hc => hb c (List.mem_cons_of_mem _ hc))
theorem impSorted : ImpA K (rSorted2 K) gSorted := by
  intro H L ds vs d Q e l r h
  unfold gSorted at e
  split at e
  · rename_i o ks xs
    obtain ⟨ys, e3, rfl⟩ := Option.map_eq_some_iff.mp e
    obtain ⟨v, rfl⟩ := len1 l
    have r1 : RepT K H ((.dT o ks xs, v) :: L) := r
    obtain ⟨a, ws, rfl, hq, n1, nd, l2, r2⟩ := r1.dT
    unfold sortD at e3
    rw [dats_keys] at e3
    simp only at e3
    split at e3
    · rename_i z
      cases e3
      obtain ⟨z1, z2⟩ := z
      rw [Bool.and_eq_true, Bool.and_eq_true, List.all_eq_true] at z1
      have ek : (ks.zip ws).map (fun p => tupP p.1) = ks.map tupP := by
        have : (ks.zip ws).map (·.1) = ks := List.map_fst_zip (by omega)
        have := congrArg (List.map tupP) this
        simpa [List.map_map, Function.comp_def] using this
      refine .inl ⟨a, ks.zip ws, rfl, hq, by rw [ek]; exact alikeB_ok z1.1.1, by rw [ek]; exact sortB_ok z1.1.2, fun p hp => ?_, fun bs hb1 hb2 p hp => h _ _ (Same.upd hp) ?_⟩
      · have : tupP p.1 ∈ ks.map tupP := by rw [← ek]; exact List.mem_map.mpr ⟨p, hp, rfl⟩
        exact of_decide_eq_true (z1.2 _ this)
      · have hk : bs.map (·.1) = ks := by rw [hb1]; exact List.map_fst_zip (by omega)
        have e1 : (ks.map tupK).mergeSort leD = ((bs.mergeSort fun x y => leK x.1 y.1).map fun b => tupK b.1) := by
          have := List.map_mergeSort (f := fun b : List Key × Addr => tupK b.1) (r := fun x y => leK x.1 y.1) (s := leD) (l := bs) (fun x _ y _ => by
            unfold leK leD PySem.W.dataLe PySem.W.sortLe
            simp only [dat_key, Option.getD_some])
          rw [this]
          have e2 : bs.map (fun b => tupK b.1) = ks.map tupK := by
            have := congrArg (List.map tupK) hk
            simpa [List.map_map, Function.comp_def] using this
          rw [e2]
        rw [e1]
        refine RepT.newL (by simp) hp ?_
        refine RepT.tups (fun b hb => hb2 b ?_) r1.drop
        exact (List.mergeSort_perm bs _).mem_iff.mp hb
    · cases e3
  · exact .inr (impSort H L ds vs d Q e l r h)
end
end VS

set_option Elab.async false
set_option linter.all false
set_option maxRecDepth 100000
set_option maxHeartbeats 4000000
set_option autoImplicit false
/-! VS10: built-ins that give a scalar and change nothing; [x] * n; defs as they stand; words for the printed derivations. -/
namespace VS
open PySem PySem.Spec PyProof.Rows L2
section
variable {X : Cx} {W : WX} {K : PySem.W.Frag} {mg : Str → Option Value} {F H H1 : Hp} {T L : List (D × V)} {ρ ρ' : Env} {σ σ' σ'' : St} {m : Bool}
/-- a scalar is given, the heap stays -/
def ImpS (K : PySem.W.Frag) (r : List V → Hp → VK → Prop) (g : List D → Option D) : Prop := ∀ H L ds vs d Q, g ds = some d → ds.length = vs.length → RepT K H (ds.zip vs ++ L) → (∀ u, scD d = some u → Q u H) → r vs H Q
theorem sc_int {i : Int} {Q : V → Hp → Prop} (h : ∀ u, scD (.int i) = some u → Q u H) : Q (.int i) H := h _ rfl
theorem sc_bl {i : Bool} {Q : V → Hp → Prop} (h : ∀ u, scD (.bl i) = some u → Q u H) : Q (.bl i) H := h _ rfl
theorem sLen : ImpS K (rLen K) gLen := by
  intro H L ds vs d Q e l r h
  unfold gLen at e
  split at e
  · obtain ⟨n, e1, rfl⟩ := Option.map_eq_some_iff.mp e
    obtain ⟨v, rfl⟩ := len1 l
    exact gLen_rd e1 r (h _ rfl)
  · cases e
theorem sAbs : ImpS K (fun xs H Q => ∃ i, xs = [.int i] ∧ Q (.int (if i < 0 then -i else i)) H) gAbs := by
  intro H L ds vs d Q e l r h
  unfold gAbs at e
  split at e
  · cases e
    obtain ⟨v, rfl⟩ := len1 l
    have e1 := RepT.eq_int r
    subst e1
    exact ⟨_, rfl, h _ rfl⟩
  · cases e
theorem sIntOf : ImpS K (fun xs H Q => (∃ i, xs = [.int i] ∧ Q (.int i) H) ∨ ∃ k, xs = [.bl k] ∧ Q (.int (if k then 1 else 0)) H) gIntOf := by
  intro H L ds vs d Q e l r h
  unfold gIntOf at e
  split at e
  · cases e
    obtain ⟨v, rfl⟩ := len1 l
    have e1 := RepT.eq_int r
    subst e1
    exact .inl ⟨_, rfl, h _ rfl⟩
  · cases e
    obtain ⟨v, rfl⟩ := len1 l
    have e1 := RepT.eq_bl r
    subst e1
    exact .inr ⟨_, rfl, h _ rfl⟩
  · cases e
theorem sSum : ImpS K (rSum K) gSum := by
  intro H L ds vs d Q e l r h
  unfold gSum at e
  split at e
  · rename_i x
    obtain ⟨xs, e1, e2⟩ := Option.bind_eq_some_iff.mp e
    obtain ⟨ns, e3, rfl⟩ := Option.map_eq_some_iff.mp e2
    obtain ⟨v, rfl⟩ := len1 l
    have r1 : RepT K H ((x, v) :: L) := r
    obtain ⟨a, ws, rfl, sq, l2, r2⟩ := r1.list e1
    rw [allI_eq e3] at l2 r2
    have := zip_int (by rw [← l2, List.length_map]) r2
    subst this
    exact ⟨a, ns, rfl, sq, h _ rfl⟩
  · cases e
theorem sAll : ImpS K (rAll K) gAll := by
  intro H L ds vs d Q e l r h
  unfold gAll at e
  split at e
  · rename_i x
    obtain ⟨xs, e1, e2⟩ := Option.bind_eq_some_iff.mp e
    obtain ⟨ns, e3, rfl⟩ := Option.map_eq_some_iff.mp e2
    obtain ⟨v, rfl⟩ := len1 l
    have r1 : RepT K H ((x, v) :: L) := r
    obtain ⟨a, ws, rfl, sq, l2, r2⟩ := r1.list e1
    rw [allB_eq e3] at l2 r2
    have := zip_bl (by rw [← l2, List.length_map]) r2
    subst this
    exact ⟨a, ns, rfl, sq, h _ rfl⟩
  · cases e
theorem sAny : ImpS K (rAny K) gAny := by
  intro H L ds vs d Q e l r h
  unfold gAny at e
  split at e
  · rename_i x
    obtain ⟨xs, e1, e2⟩ := Option.bind_eq_some_iff.mp e
    obtain ⟨ns, e3, rfl⟩ := Option.map_eq_some_iff.mp e2
    obtain ⟨v, rfl⟩ := len1 l
    have r1 : RepT K H ((x, v) :: L) := r
    obtain ⟨a, ws, rfl, sq, l2, r2⟩ := r1.list e1
    rw [allB_eq e3] at l2 r2
    have := zip_bl (by rw [← l2, List.length_map]) r2
    subst this
    exact ⟨a, ns, rfl, sq, h _ rfl⟩
  · cases e
theorem sBest {f : Int → List Int → Int} : ImpS K (rBest K f) (gBest f) := by
  intro H L ds vs d Q e l r h
  unfold gBest at e
  split at e
  · rename_i x
    obtain ⟨xs, e1, e2⟩ := Option.bind_eq_some_iff.mp e
    split at e2
    · rename_i n ns e3
      cases e2
      obtain ⟨v, rfl⟩ := len1 l
      have r1 : RepT K H ((x, v) :: L) := r
      obtain ⟨a, ws, rfl, sq, l2, r2⟩ := r1.seq e1
      rw [allI_eq e3] at l2 r2
      have := zip_int (by rw [← l2, List.length_map]) r2
      subst this
      exact ⟨a, n, ns, rfl, sq, h _ rfl⟩
    · cases e2
  · cases e
theorem sMin : ImpS K (rMinA K) gMin := by
  intro H L ds vs d Q e l r h
  unfold gMin at e
  split at e
  · exact .inl (sBest H L _ vs d Q e l r h)
  · unfold gMin2 at e
    split at e
    · cases e
      obtain ⟨v, w, rfl⟩ := len2 l
      have e1 := RepT.eq_int r
      have e2 := RepT.eq_int (RepT.drop r)
      subst e1; subst e2
      exact .inr ⟨_, _, rfl, h _ rfl⟩
    · cases e
theorem sMax : ImpS K (rMaxA K) gMax := by
  intro H L ds vs d Q e l r h
  unfold gMax at e
  split at e
  · exact .inl (sBest H L _ vs d Q e l r h)
  · unfold gMax2 at e
    split at e
    · cases e
      obtain ⟨v, w, rfl⟩ := len2 l
      have e1 := RepT.eq_int r
      have e2 := RepT.eq_int (RepT.drop r)
      subst e1; subst e2
      exact .inr ⟨_, _, rfl, h _ rfl⟩
    · cases e
def isSc (d : D) : Bool := (scD d).isSome
def dCallS (ks : List (Option Nat)) (g : List D → Option D) (f : M (List D)) : M D := bindM f fun ds ρ => match g (takeIO ks ds ρ).1 with
  | none => none
  | some d => if isSc d = true then some (.ok d ρ) else none
theorem tCBS_of {ks : List (Option Nat)} {r : List V → Hp → VK → Prop} {g : List D → Option D} {f : M (List D)} (hg : ImpS K r g) {Q : VK} (h : tOf K mg W m (dCallS ks g f) σ H Q) : tCB r (taIO K mg W m ks f) σ H Q := by
  obtain ⟨T, ρ, u, rep, hf, he⟩ := h
  unfold dCallS bindM at hf
  cases q : f ρ with
  | none => rw [q] at hf; cases hf
  | some w =>
    rw [q] at hf
    refine ⟨T, ρ, w, rep, q, ?_⟩
    cases w with
    | ex x ρ2 =>
      have : u = .ex x ρ2 := (Option.some.inj hf).symm
      subst this
      exact he
    | ok ds ρ1 =>
      intro tv vs H1 s1 l1 io r1
      obtain ⟨l2, r2⟩ := take_rep l1 io r1
      simp only at hf
      cases qg : g (takeIO ks ds ρ1).1 with
      | none => rw [qg] at hf; cases hf
      | some d =>
        rw [qg] at hf
        simp only at hf
        split at hf
        · have : u = .ok d ρ1 := (Option.some.inj hf).symm
          subst this
          refine hg H1 (T ++ SL (takeIO ks ds ρ1).2 σ) _ vs d Q qg l2 (by rw [← List.append_assoc]; exact r2.rep) fun z ez => ?_
          exact he z H1 s1 ((Rep.dropL r1).lift fun q => scD_rep ez q)
        · cases hf
theorem ve_callS {id : String} {ks : List (Option Nat)} {r : List V → Hp → VK → Prop} {g : List D → Option D} {f : M (List D)} {x : Str} {e : Expr} {es : List Expr} {p pos : Pos} (hc : CallR X (.builtin id) r) (hi : ImpS X.K r g) (hg : Gl X x) (hm : X.mg x = none) (hv : bootBuiltins x = some (.builtin id))
    (ha : VIO X W m ks (e :: es) f) (hn : x ≠ "__name__" := by decide) (hdb : (x == ("__debug__" : Str)) = false := by decide)
    (he : starEach (e :: es) X.env = (false, eval e X.env) :: starEach es X.env := by rfl) (hpl : (backTo pos (starEach es X.env)).any (·.1) = false := by rfl) : VE X W m (.Call (.Name x p) (e :: es) [] pos) (dCallS ks g f) :=
  PE.imp (pe_callB hc hg hm hv ha hn hdb he hpl) fun _ _ _ h => tCBS_of hi h
theorem ve_callST {id : String} {ks : List (Option Nat)} {r : List V → Hp → VK → Prop} {g : List D → Option D} {f : M (List D)} {x : Str} {e : Expr} {es : List Expr} {p pos : Pos} (hc : CallR X (.type id) r) (hi : ImpS X.K r g) (hg : Gl X x) (hm : X.mg x = none) (hv : bootBuiltins x = some (.type id))
    (ha : VIO X W m ks (e :: es) f) (hn : x ≠ "__name__" := by decide) (hdb : (x == ("__debug__" : Str)) = false := by decide)
    (he : starEach (e :: es) X.env = (false, eval e X.env) :: starEach es X.env := by rfl) (hpl : (backTo pos (starEach es X.env)).any (·.1) = false := by rfl) : VE X W m (.Call (.Name x p) (e :: es) [] pos) (dCallS ks g f) :=
  PE.imp (pe_callTy hc hg hm hv ha hn hdb he hpl) fun _ _ _ h => tCBS_of hi h
/-! ### a * b: ints; a list of scalars times an int -/
def scAll (xs : List D) : Bool := xs.all isSc
def gMulA (x y : D) : Option D := match x, y with
  | .lst _ xs, .int k => if -(2 ^ 63) ≤ k ∧ k < 2 ^ 63 ∧ xs.length * k.toNat ≤ sizeLine ∧ scAll xs = true then some (.lst true (List.replicate k.toNat xs).flatten) else none
  | _, _ => gMul x y
theorem sc_zip : ∀ {xs : List D} {vs : List V} {L : List (D × V)}, scAll xs = true → xs.length = vs.length → RepT K H (xs.zip vs ++ L) → xs.map scD = vs.map some
  | [], [], _, _, _, _ => rfl
  | [], _ :: _, _, _, l, _ => by cases l
  | _ :: _, [], _, _, l, _ => by cases l
  | x :: xs, v :: vs, L, z, l, r => by
    have z' : isSc x = true ∧ scAll xs = true := by simpa [scAll] using z
    have r1 : RepT K H ((x, v) :: (xs.zip vs ++ L)) := r
    obtain ⟨u, hu⟩ := Option.isSome_iff_exists.mp (show (scD x).isSome = true from z'.1)
    have := scD_eq hu r1
    subst this
    rw [List.map_cons, List.map_cons, hu, sc_zip z'.2 (Nat.succ.inj l) r1.drop]
theorem sc_reps : ∀ {xs : List D} {vs : List V} {L : List (D × V)}, xs.map scD = vs.map some → RepT K H L → RepT K H (xs.zip vs ++ L)
  | [], [], _, _, r => r
  | [], _ :: _, _, e, _ => by cases e
  | _ :: _, [], _, e, _ => by cases e
  | x :: xs, v :: vs, L, e, r => by
    rw [List.map_cons, List.map_cons] at e
    injection e with e1 e2
    exact scD_rep e1 (sc_reps e2 r)
theorem op_mulA : OpR X (binaryOp .Mult) (fun x y H Q => rRep x y H Q ∨ rI CMul (fun i j => .int (i * j)) x y H Q) := OpR.orr op_rep op_mul
theorem impMulA : Imp2 K (fun x y H Q => rRep x y H Q ∨ rI CMul (fun i j => .int (i * j)) x y H Q) gMulA := by
  intro H L x y d v w Q e r h
  unfold gMulA at e
  split at e
  · rename_i o xs k
    split at e
    · rename_i z
      cases e
      have ew := r.eq_int
      subst ew
      obtain ⟨a, vs, rfl, hq, l, r2⟩ := r.drop.readL
      have es := sc_zip z.2.2.2 l r2
      refine .inl ⟨a, k, vs, rfl, rfl, hq, z.1, z.2.1, by rw [← l]; exact z.2.2.1, fun p hp => h _ _ (Same.upd hp) (RepT.newL ?_ hp (sc_reps ?_ r.drop.drop))⟩
      · simp [l]
      · generalize k.toNat = n
        induction n with
        | zero => rfl
        | succ n ih => rw [List.replicate_succ, List.replicate_succ, List.flatten_cons, List.flatten_cons, List.map_append, List.map_append, ih, es]
    · cases e
  · exact .inr (impMul H L x y d v w Q e r h)
/-! ### comparisons by name -/
def cLt (i j : Int) : Bool := decide (i < j)
def cLe (i j : Int) : Bool := decide (i ≤ j)
def cGt (i j : Int) : Bool := decide (j < i)
def cGe (i j : Int) : Bool := decide (j ≤ i)
theorem op_ltC : OpR X (compareOp .Lt) (rCmp cLt) := op_lt
theorem op_leC : OpR X (compareOp .LtE) (rCmp cLe) := op_le
theorem op_gtC : OpR X (compareOp .Gt) (rCmp cGt) := op_gt
theorem op_geC : OpR X (compareOp .GtE) (rCmp cGe) := op_ge
/-! ### defs as they stand -/
structure Def (K : PySem.W.Frag) (mg : Str → Option Value) (x : Str) (st : Stmt) (ps : List Str) : Prop where
  ex : ∃ (f : Addr) (fd : FuncData), Fun K x x st f fd ∧ mg x = some (.ref f) ∧ Binds K fd ps []
structure Cal (P : Program) (w : World) (K : PySem.W.Frag) (mg : Str → Option Value) (base : Heap) (k : Nat) (x : Str) (ps : List Str) (F : FnD) : Prop where
  ex : ∃ (fa : Addr) (fd : FuncData), FnOk P w K mg base (L2.CX P w) k fa fd ps (spOf K mg F) ∧ mg x = some (.ref fa) ∧ PySem.W.keepIn K (.ref fa) = true ∧ Binds K fd ps []
theorem Cal.mono {P : Program} {w : World} {base : Heap} {j k : Nat} {x : Str} {ps : List Str} {Fd : FnD} (c : Cal P w K mg base j x ps Fd) (h : j ≤ k) : Cal P w K mg base k x ps Fd := by
  obtain ⟨fa, fd, G, h1, h2, h3⟩ := c.ex
  exact ⟨fa, fd, G.mono h, h1, h2, h3⟩
theorem cal_mk {P : Program} {w : World} {base : Heap} {x : Str} {st : Stmt} {N ps : List Str} {k : Nat} {asg : List Nat} {g : MS} (D : Def K mg x st ps) (S : FnScope N ps (defScope st))
    (hbody : ∀ (f : Addr) (cdv : Value) (A : Around) (outer : List PySem.Env) (s : Shared) (H : Hp) (E : XK), Room k (A.deeper (envOfC x (defScope st) s.heap.objs.size f cdv)) →
      VSs (cxOf (L2.CX P w) P w K mg base N x (defScope st) f cdv A outer s H E) (fun cls d _ H => E cls d H) asg (defBody st) g) :
    Cal P w K mg base (k + 1) x ps (fnD N.length ps.length asg g) := by
  obtain ⟨f, fd, F, hm, hb⟩ := D.ex
  exact ⟨f, fd, fn_ok F S (fun cdv A outer s H E hr => hbody f cdv A outer s H E hr), hm, F.kp, hb⟩
/-- a def that promises nothing -/
theorem cal_none {P : Program} {w : World} {base : Heap} {x : Str} {st : Stmt} {ps : List Str} {k : Nat} (D : Def K mg x st ps) : Cal P w K mg base k x ps (fun _ => none) := by
  obtain ⟨f, fd, F, hm, hb⟩ := D.ex
  refine ⟨f, fd, ⟨fun vs H Q E h => ?_, fun A outer s H args us vs Q E hr e0 hb r h => ?_⟩, hm, F.kp, hb⟩
  · obtain ⟨_, _, _, _, _, z, _⟩ := h; cases z
  · obtain ⟨_, _, _, _, _, z, _⟩ := h; cases z
theorem ve_fn {ks : List (Option Nat)} {Fd : FnD} {f : M (List D)} {k : Nat} {ps : List Str} {x : Str} {e : Expr} {es : List Expr} {p pos : Pos} (C : Cal X.prog X.w X.K X.mg X.base k x ps Fd) (hr : Room k X.A) (hg : Gl X x) (tk : Takes X W) (ha : VIO X W m ks (e :: es) f) (hdb : (x == ("__debug__" : Str)) = false := by decide)
    (he : starEach (e :: es) X.env = (false, eval e X.env) :: starEach es X.env := by rfl) (hpl : (backTo pos (starEach es X.env)).any (·.1) = false := by rfl) : VE X W true (.Call (.Name x p) (e :: es) [] pos) (dFn ks Fd f) := by
  obtain ⟨fa, fd, G, h1, h2, h3⟩ := C.ex
  exact ve_call G hr hg h1 h2 h3 tk ha hdb he hpl
end
end VS

set_option Elab.async false
set_option linter.all false
set_option maxRecDepth 100000
set_option maxHeartbeats 4000000
set_option autoImplicit false
/-! VS11: names of built-ins; a def read off the top; the end of a law. -/
namespace VS
open PySem PySem.Spec PyProof.Rows L2
theorem b_len : bootBuiltins "len" = some (.builtin "len") := by decide +kernel
theorem b_sum : bootBuiltins "sum" = some (.builtin "sum") := by decide +kernel
theorem b_all : bootBuiltins "all" = some (.builtin "all") := by decide +kernel
theorem b_any : bootBuiltins "any" = some (.builtin "any") := by decide +kernel
theorem b_min : bootBuiltins "min" = some (.builtin "min") := by decide +kernel
theorem b_max : bootBuiltins "max" = some (.builtin "max") := by decide +kernel
theorem b_abs : bootBuiltins "abs" = some (.builtin "abs") := by decide +kernel
theorem b_sorted : bootBuiltins "sorted" = some (.builtin "sorted") := by decide +kernel
theorem b_int : bootBuiltins "int" = some (.type "int") := by decide +kernel
theorem b_list : bootBuiltins "list" = some (.type "list") := by decide +kernel
theorem b_tuple : bootBuiltins "tuple" = some (.type "tuple") := by decide +kernel
theorem b_bool : bootBuiltins "bool" = some (.type "bool") := by decide +kernel
theorem b_str : bootBuiltins "str" = some (.type "str") := by decide +kernel
theorem b_dict : bootBuiltins "dict" = some (.type "dict") := by decide +kernel
theorem room65 {k : Nat} {A : Around} (hr : Room k A) : A.units + 65 < cLine := by have := hr.un; omega
/-- what is made is frozen at once -/
def frzO (d : D) : Option D := if fz (freeze d) = true then some (freeze d) else none
def dFz (f : M D) : M D := bindM f fun d => optM (frzO d)
theorem ve_fz {X : Cx} {W : WX} {m : Bool} {e : Expr} {f : M D} (h : VE X W m e f) : VE X W m e (dFz f) := by
  refine PE.imp h fun σ H Q ⟨T, ρ, u, rep, hf, he⟩ => ?_
  refine run1 rep hf he fun x ρ1 v H1 h1 s1 r1 => ?_
  obtain ⟨d, e, rfl⟩ := optM_some h1
  unfold frzO at e
  split at e
  · cases e
    exact he v H1 s1 ⟨r1.len, r1.nos, RepT.freeze r1.rep⟩
  · cases e
theorem takesF {X : Cx} : Takes X WF := takes0
section
variable {K : PySem.W.Frag} {mg : Str → Option Value}
theorem def_mk {h : Heap} {f : Addr} {x : Str} {st : Stmt} {ps : List Str} {oc kV dc pm cd ct : Value} {od an : Option Addr} {sl : Array (Option Value)} (X : K.In h) (G : h.Ns mainGlobals mg)
    (a : PySem.W.nsIn K mainGlobals x = some (some (.ref f))) (l : K.lookup f = some ⟨oc, od, .func (PySem.W.fnOf x x (defArgs st) (defBody st) (defScope st) .none kV dc pm an cd ct), sl⟩) (c : PySem.W.codeIn K cd x = true) (k : PySem.W.keepIn K (.ref f) = true)
    (hb : ∀ (kV doc pm : Value) (an : Option Addr) (cdv ct : Value) (us : List Value), us.length = ps.length → bindArgs (PySem.W.fnOf x x (defArgs st) (defBody st) (defScope st) .none kV doc pm an cdv ct) ⟨us, []⟩ = pure (ps.zip us)) : Def K mg x st ps := by
  have F := fun_mk (st := st) l c k
  exact ⟨f, _, F, PySem.W.mg_of X G a, F.binds hb⟩
/-- what a law's def must keep -/
def spTrue (K : PySem.W.Frag) : Sp := fun vs H Q _ => ∃ (a : Addr) (ns : List Int), vs = [.ref a] ∧ SqL K H a (ns.map V.int) ∧ ns.length ≤ 63 ∧ ∀ H', Q (.bl true) H'
/-- the law gives True at every script -/
def Always (F : FnD) : Prop := ∀ ns : List Int, ns.length ≤ 63 → ∃ as, F [.scr (ns.map D.int)] = some (.ok (.bl true) as)
theorem law_sp {F : FnD} (h : Always F) {vs : List V} {H : Hp} {Q : VK} {E : XK} (hs : spTrue K vs H Q E) : spOf K mg F vs H Q E := by
  obtain ⟨a, ns, rfl, sq, hl, q⟩ := hs
  obtain ⟨as, e⟩ := h ns hl
  refine ⟨[], [.scr (ns.map D.int)], _, rfl, RepT.script sq, e, ?_⟩
  intro v H' l r
  have := r.eq_bl
  subst this
  exact q H'
theorem law_fn {P : Program} {w : World} {base : Heap} {k : Nat} {fa : Addr} {F : FnD} {ps : List Str} {x : Str} (h : Always F) (C : Cal P w K mg base k x ps F) (hm : mg x = some (.ref fa)) (hp : ps = [("script" : Str)]) :
    ∃ fd : FuncData, FnOk P w K mg base (L2.CX P w) k fa fd ["script"] (spTrue K) ∧ Binds K fd ["script"] [] := by
  obtain ⟨f, fd, G, h1, _, h3⟩ := C.ex
  rw [hm] at h1
  cases h1
  subst hp
  exact ⟨fd, G.imp fun vs H Q E hs => law_sp h hs, h3⟩
theorem cx_end {P : Program} {w : World} {H : Hp} {s : Shared} {e : Value} {s' : Shared} (h : L2.CX P w [] H s (fun _ _ _ => False) e s') : False := by
  obtain ⟨_, _, _, _, _, _, _, _, _, _, _, _, z⟩ := h
  exact z
end
end VS

set_option Elab.async false
set_option linter.all false
set_option maxRecDepth 100000
set_option maxHeartbeats 4000000
set_option autoImplicit false
/-! VS12: how denotations are reckoned. -/
namespace VS
open PySem PySem.Spec L2
section
variable {α β : Type} {ρ ρ1 ρ2 : Env} {r : Option (Fl × Env)}
theorem seq_nx {g1 g2 : MS} (h : g1 ρ = some (.nx, ρ1)) (h2 : g2 ρ1 = r) : dSeq g1 g2 ρ = r := by unfold dSeq; rw [h]; exact h2
theorem seq_rt {g1 g2 : MS} {d : D} (h : g1 ρ = some (.rt d, ρ1)) : dSeq g1 g2 ρ = some (.rt d, ρ1) := by unfold dSeq; rw [h]
theorem bindM_ok {f : M α} {k : α → M β} {a : α} {q : Option (Rv β)} (h : f ρ = some (.ok a ρ1)) (h2 : k a ρ1 = q) : bindM f k ρ = q := by unfold bindM; rw [h]; exact h2
theorem bindS_ok {f : M α} {k : α → MS} {a : α} (h : f ρ = some (.ok a ρ1)) (h2 : k a ρ1 = r) : bindS f k ρ = r := by unfold bindS; rw [h]; exact h2
theorem set_ok {f : M D} {i : Nat} {d : D} (h : f ρ = some (.ok d ρ1)) : dSet i f ρ = some (.nx, ρ1.set i d) := bindS_ok h rfl
theorem ret_ok {f : M D} {d : D} (h : f ρ = some (.ok d ρ1)) : dRet f ρ = some (.rt d, ρ1) := bindS_ok h rfl
theorem drop_ok {f : M D} {d : D} (h : f ρ = some (.ok d ρ1)) : dDrop f ρ = some (.nx, ρ1) := bindS_ok h rfl
theorem ifS_t {t : M Bool} {a b : MS} (h : t ρ = some (.ok true ρ1)) (h2 : a ρ1 = r) : dIfS t a b ρ = r := bindS_ok h (by rw [if_pos rfl]; exact h2)
theorem ifS_f {t : M Bool} {a b : MS} (h : t ρ = some (.ok false ρ1)) (h2 : b ρ1 = r) : dIfS t a b ρ = r := bindS_ok h (by rw [if_neg (by simp)]; exact h2)
theorem for_ok {src : M (List D)} {bt : D → Env → Option Env} {body : MS} {ds : List D} (h : src ρ = some (.ok ds ρ1)) (h2 : forD bt body ds ρ1 = r) : dFor src bt body ρ = r := bindS_ok h h2
/-- a loop whose turns all go on: an invariant by the turn -/
theorem for_inv {bt : D → Env → Option Env} {body : MS} (I : Nat → Env → Prop) : ∀ (ds : List D) (k : Nat) (ρ : Env), I k ρ →
    (∀ i d ρ, ds[i]? = some d → I (k + i) ρ → ∃ ρ1 ρ2, bt d ρ = some ρ1 ∧ (body ρ1 = some (.nx, ρ2) ∨ body ρ1 = some (.ct, ρ2)) ∧ I (k + i + 1) ρ2) → ∃ ρ', forD bt body ds ρ = some (.nx, ρ') ∧ I (k + ds.length) ρ'
  | [], k, ρ, h, _ => ⟨ρ, rfl, h⟩
  | d :: ds, k, ρ, h, hs => by
    obtain ⟨ρ1, ρ2, e1, e2, h2⟩ := hs 0 d ρ rfl h
    obtain ⟨ρ', e3, h3⟩ := for_inv I ds (k + 1) ρ2 h2 fun i d' ρ hi hI => by
      have := hs (i + 1) d' ρ hi (by rw [show k + (i + 1) = k + 1 + i by omega]; exact hI)
      rw [show k + (i + 1) + 1 = k + 1 + i + 1 by omega] at this
      exact this
    refine ⟨ρ', ?_, by rw [List.length_cons, show k + (ds.length + 1) = k + 1 + ds.length by omega]; exact h3⟩
    unfold forD
    rw [e1]
    rcases e2 with e2 | e2 <;> simp only [e2] <;> exact e3
/-- over a, a + 1, .. : the turn's number is the item -/
theorem for_ints {bt : D → Env → Option Env} {body : MS} {lo : Int} {n : Nat} (I : Nat → Env → Prop) (h0 : I 0 ρ)
    (hs : ∀ i ρ, i < n → I i ρ → ∃ ρ1 ρ2, bt (.int (lo + i)) ρ = some ρ1 ∧ (body ρ1 = some (.nx, ρ2) ∨ body ρ1 = some (.ct, ρ2)) ∧ I (i + 1) ρ2) : ∃ ρ', forD bt body (intsD lo n) ρ = some (.nx, ρ') ∧ I n ρ' := by
  have len : (intsD lo n).length = n := by simp [intsD]
  obtain ⟨ρ', e, h⟩ := for_inv (bt := bt) (body := body) I (intsD lo n) 0 ρ h0 fun i d ρ hi hI => by
    have hl := (List.getElem?_eq_some_iff.mp hi).1
    rw [len] at hl
    have ed : d = .int (lo + i) := by
      unfold intsD at hi
      rw [List.getElem?_map, List.getElem?_range hl] at hi
      exact (Option.some.inj hi).symm
    subst ed
    rw [Nat.zero_add] at hI ⊢
    exact hs i ρ hl hI
  rw [len, Nat.zero_add] at h
  exact ⟨ρ', e, h⟩
/-- a comprehension whose turns all keep: an invariant by the turn; the list grows by y i -/
theorem lc_inv {own : List Nat} {bt : D → Env → Option Env} {el : M D} (I : Nat → Env → Prop) (y : Nat → D) : ∀ (ds : List D) (k : Nat) (acc : List D) (ρ : Env), I k ρ → acc.length + ds.length ≤ sizeLine →
    (∀ i d ρ, ds[i]? = some d → I (k + i) ρ → ∃ ρ1 ρ2, bt d ρ = some ρ1 ∧ el ρ1 = some (.ok (y (k + i)) ρ2) ∧ I (k + i + 1) (wipeD ρ2 own)) → ∃ ρ', lcD own bt dYes el ds acc ρ = some (acc ++ (List.range ds.length).map (fun i => y (k + i)), ρ') ∧ I (k + ds.length) ρ'
  | [], k, acc, ρ, h, _, _ => ⟨ρ, by simp [lcD], h⟩
  | d :: ds, k, acc, ρ, h, hz, hs => by
    obtain ⟨ρ1, ρ2, e1, e2, h2⟩ := hs 0 d ρ rfl h
    obtain ⟨ρ', e3, h3⟩ := lc_inv I y ds (k + 1) (acc ++ [y k]) (wipeD ρ2 own) h2 (by simp at hz ⊢; omega) fun i d' ρ hi hI => by
      have := hs (i + 1) d' ρ hi (by rw [show k + (i + 1) = k + 1 + i by omega]; exact hI)
      rw [show k + (i + 1) = k + 1 + i by omega] at this
      exact this
    refine ⟨ρ', ?_, by rw [List.length_cons, show k + (ds.length + 1) = k + 1 + ds.length by omega]; exact h3⟩
    unfold lcD
    rw [e1]
    simp only [show dYes ρ1 = some (.ok true ρ1) from rfl, if_true]
    rw [show el ρ1 = some (.ok (y k) ρ2) from e2]
    simp only
    rw [if_pos (by simp at hz; omega), e3]
    simp only [List.length_cons, List.range_succ_eq_map, List.map_cons, List.map_map, List.append_assoc, List.singleton_append, Nat.add_zero]
    congr 4
    apply List.map_congr_left
    intro i _
    show y (k + 1 + i) = y (k + (i + 1))
    congr 1
    omega
theorem lc_ok {own : List Nat} {src : M (List D)} {bt : D → Env → Option Env} {tt : M Bool} {el : M D} {ds acc : List D} (h : src ρ = some (.ok ds ρ1)) (h2 : lcD own bt tt el ds [] (wipeD ρ1 own) = some (acc, ρ2)) : dLc own src bt tt el ρ = some (.ok (.lst true acc) (wipeD ρ2 own)) := by
  unfold dLc
  refine bindM_ok h ?_
  rw [h2]
theorem atI_0 {x : α} {xs : List α} : atI (x :: xs) 0 = some x := by simp [atI, ixN]
theorem atI_1 {x y : α} {xs : List α} : atI (x :: y :: xs) 1 = some y := by
  unfold atI ixN
  rw [if_pos (by decide), if_pos (by simp only [List.length_cons]; omega)]; rfl
theorem atI_2 {x y z : α} {xs : List α} : atI (x :: y :: z :: xs) 2 = some z := by
  unfold atI ixN
  rw [if_pos (by decide), if_pos (by simp only [List.length_cons]; omega)]; rfl
theorem atI_3 {x y z u : α} {xs : List α} : atI (x :: y :: z :: u :: xs) 3 = some u := by
  unfold atI ixN
  rw [if_pos (by decide), if_pos (by simp only [List.length_cons]; omega)]; rfl
theorem atI_lt {xs : List α} {i : Int} {x : α} (h0 : 0 ≤ i) (h : xs[i.toNat]? = some x) : atI xs i = some x := by
  have hl := (List.getElem?_eq_some_iff.mp h).1
  unfold atI ixN
  rw [if_pos h0, if_pos (by omega)]; exact h
theorem ixN_lt {n : Nat} {i : Int} (h0 : 0 ≤ i) (h : i < n) : ixN n i = some i.toNat := by
  unfold ixN
  rw [if_pos h0, if_pos h]
theorem fzL_ints (ns : List Int) : fzL (ns.map D.int) = true := by rw [fzL_all]; simp [fz]
theorem freezeL_ints (ns : List Int) : freezeL (ns.map D.int) = ns.map D.int := freezeL_fz _ (fzL_ints ns)
theorem lt_size {n : Nat} (h : n < 16000000) : n < sizeLine := by rw [PySem.sizeLine_eq]; omega
theorem le_size {n : Nat} (h : n ≤ 16000000) : n ≤ sizeLine := by rw [PySem.sizeLine_eq]; omega
/-- tuples of ints -/
def tI (xs : List Int) : D := .tup (xs.map D.int)
theorem dats_ints : ∀ xs : List Int, dats (xs.map D.int) = some (xs.map PyData.int)
  | [] => rfl
  | x :: xs => by rw [List.map_cons, dats, dats_ints xs]; rfl
theorem dat_tI (xs : List Int) : dat (tI xs) = some (.tuple (xs.map PyData.int)) := by unfold tI; rw [dat, dats_ints]; rfl
theorem leD_tI (xs ys : List Int) : leD (tI xs) (tI ys) = decide (xs ≤ ys) := by
  unfold leD
  have h := congrFun (congrFun (PySem.W.dataLe_rows (β := List Int) (fun b => b)) xs) ys
  rw [← h]
  unfold PySem.W.dataLe PySem.W.sortLe
  dsimp only
  rw [dat_tI, dat_tI]
  simp only [Option.getD_some, PySem.W.keyToks]
theorem fz_tI (xs : List Int) : fz (tI xs) = true := by unfold tI; rw [fz]; exact fzL_ints xs
theorem freeze_tI (xs : List Int) : freeze (tI xs) = tI xs := freeze_fz _ (fz_tI xs)
theorem dats_tIs : ∀ l : List (List Int), dats (l.map tI) = some (l.map fun xs => .tuple (xs.map PyData.int))
  | [] => rfl
  | x :: l => by rw [List.map_cons, dats, dats_tIs l, dat_tI]; rfl
theorem alike_ints : ∀ xs ys : List Int, PySem.W.alikeAll (xs.map PyData.int) (ys.map PyData.int) = true
  | [], _ => by simp [PySem.W.alikeAll]
  | _ :: _, [] => by simp [PySem.W.alikeAll]
  | x :: xs, y :: ys => by simp [PySem.W.alikeAll, PySem.W.alike, alike_ints xs ys]
theorem depth_ints : ∀ xs : List Int, PyData.depthAll (xs.map PyData.int) = 0
  | [] => rfl
  | x :: xs => by rw [List.map_cons, PyData.depthAll, depth_ints xs]; rfl
def leL (x y : List Int) : Bool := decide (x ≤ y)
/-- rows of ints, none empty, sorted -/
theorem sortD_tI {l : List (List Int)} (hne : ∀ x ∈ l, x ≠ []) (hl : l.length ≤ sizeLine) : sortD (l.map tI) = some ((l.mergeSort leL).map tI) := by
  unfold sortD
  rw [dats_tIs]
  simp only
  rw [if_pos]
  · congr 1
    have := List.map_mergeSort (f := tI) (r := leL) (s := leD) (l := l) (fun x _ y _ => (leD_tI x y).symm)
    exact this.symm
  · refine ⟨?_, by rw [List.length_map]; exact hl⟩
    rw [Bool.and_eq_true, Bool.and_eq_true]
    refine ⟨⟨?_, ?_⟩, ?_⟩
    · unfold alikeB
      rw [List.all_eq_true]
      intro x hx
      rw [List.all_eq_true]
      intro y hy
      obtain ⟨a, _, rfl⟩ := List.mem_map.mp hx
      obtain ⟨b, _, rfl⟩ := List.mem_map.mp hy
      rw [PySem.W.alike]
      exact alike_ints a b
    · unfold sortB
      rw [Bool.or_eq_true]
      left
      rw [List.all_eq_true]
      intro x hx
      obtain ⟨a, ha, rfl⟩ := List.mem_map.mp hx
      cases a with
      | nil => exact absurd rfl (hne [] ha)
      | cons c a => rfl
    · rw [List.all_eq_true]
      intro x hx
      obtain ⟨a, _, rfl⟩ := List.mem_map.mp hx
      rw [PyData.depth, depth_ints]
      decide
end
end VS

set_option Elab.async false
set_option linter.all false
set_option maxRecDepth 100000
set_option maxHeartbeats 4000000
set_option autoImplicit false
/-! VS13: rules by which simp reckons denotations of straight code. -/
namespace VS
open PySem PySem.Spec L2
section
variable {α β : Type} {ρ : Env}
@[simp] theorem u_bindM {f : M α} {k : α → M β} : bindM f k ρ = (match f ρ with
  | none => none
  | some (.ex x ρ') => some (.ex x ρ')
  | some (.ok a ρ') => k a ρ') := rfl
@[simp] theorem u_bindS {f : M α} {k : α → MS} : bindS f k ρ = (match f ρ with
  | none => none
  | some (.ex x ρ') => some (.ex x, ρ')
  | some (.ok a ρ') => k a ρ') := rfl
@[simp] theorem u_optN : optM (none : Option α) ρ = none := rfl
@[simp] theorem u_optS {a : α} : optM (some a) ρ = some (.ok a ρ) := rfl
@[simp] theorem u_retM {a : α} : retM a ρ = some (.ok a ρ) := rfl
@[simp] theorem u_dC {d : D} : dC d ρ = some (.ok d ρ) := rfl
@[simp] theorem u_dV {i : Nat} : dV i ρ = (match ρ[i]? with
  | some d => if fz d = true then some (.ok d ρ) else none
  | none => none) := rfl
@[simp] theorem u_dF {i : Nat} : dF i ρ = (match ρ[i]? with
  | some d => if fz (freeze d) = true then some (.ok (freeze d) (ρ.set i (freeze d))) else none
  | none => none) := rfl
@[simp] theorem u_dM {i : Nat} : dM i ρ = (match ρ[i]? with
  | some .unk => none
  | some d => some (.ok d (ρ.set i .unk))
  | none => none) := rfl
@[simp] theorem u_d1 {g : D → Option D} {f : M D} : d1 g f ρ = bindM f (fun x => optM (g x)) ρ := rfl
@[simp] theorem u_d2 {g : D → D → Option D} {f h : M D} : d2 g f h ρ = bindM f (fun x => bindM h fun y => optM (g x y)) ρ := rfl
@[simp] theorem u_dTB {f : M D} : dTB f ρ = bindM f (fun d => optM (match d with | .bl b => some b | _ => none)) ρ := rfl
@[simp] theorem u_dChain {g g' : D → D → Option D} {a b c : M D} : dChain g g' a b c ρ = bindM a (fun x => bindM b fun y => bindM (optM (match g x y with | some (.bl k) => some k | _ => none)) fun k => if k = true then bindM c fun z => optM (g' y z) else retM (.bl false)) ρ := rfl
@[simp] theorem u_dAndT {f g : M Bool} : dAndT f g ρ = bindM f (fun b => if b = true then g else retM false) ρ := rfl
@[simp] theorem u_dOrT {f g : M Bool} : dOrT f g ρ = bindM f (fun b => if b = true then retM true else g) ρ := rfl
@[simp] theorem u_dNotT {f : M Bool} : dNotT f ρ = bindM f (fun b => retM (!b)) ρ := rfl
@[simp] theorem u_dAnd {f g : M D} : dAnd f g ρ = bindM f (fun d => bindM (optM (match d with | .bl b => some b | _ => none)) fun b => if b = true then g else retM (.bl false)) ρ := rfl
@[simp] theorem u_dOr {f g : M D} : dOr f g ρ = bindM f (fun d => bindM (optM (match d with | .bl b => some b | _ => none)) fun b => if b = true then retM (.bl true) else g) ρ := rfl
@[simp] theorem u_dNot {f : M D} : dNot f ρ = d1 (fun d => match d with | .bl b => some (.bl (!b)) | _ => none) f ρ := rfl
@[simp] theorem u_dIf {t : M Bool} {f g : M D} : dIf t f g ρ = bindM t (fun b => if b = true then f else g) ρ := rfl
@[simp] theorem u_dNil : dNil ρ = some (.ok [] ρ) := rfl
@[simp] theorem u_dCons {f : M D} {g : M (List D)} : dCons f g ρ = bindM f (fun d => bindM g fun ds => retM (d :: ds)) ρ := rfl
@[simp] theorem u_dTup {f : M (List D)} : dTup f ρ = bindM f (fun ds => optM (if ds.length ≤ sizeLine then some (.tup ds) else none)) ρ := rfl
@[simp] theorem u_dLst {f : M (List D)} : dLst f ρ = bindM f (fun ds => optM (if ds.length ≤ sizeLine then some (.lst true ds) else none)) ρ := rfl
@[simp] theorem u_dCall {g : List D → Option D} {f : M (List D)} : dCall g f ρ = bindM f (fun ds => optM (g ds)) ρ := rfl
@[simp] theorem u_dCallS {ks : List (Option Nat)} {g : List D → Option D} {f : M (List D)} : dCallS ks g f ρ = bindM f (fun ds ρ => match g (takeIO ks ds ρ).1 with
  | none => none
  | some d => if isSc d = true then some (.ok d ρ) else none) ρ := rfl
@[simp] theorem u_dFn {ks : List (Option Nat)} {F : FnD} {f : M (List D)} : dFn ks F f ρ = bindM f (fun ds ρ => match F (takeIO ks ds ρ).1 with
  | none => none
  | some (.ok r as) => some (.ok r (giveIO ks as (takeIO ks ds ρ).2))
  | some (.ex x as) => some (.ex x (giveIO ks as (takeIO ks ds ρ).2))) ρ := rfl
def nunk : Option D → Bool
  | none => false
  | some .unk => false
  | some _ => true
@[simp] theorem nu_non : nunk (some .non) = true := rfl
@[simp] theorem nu_hole : nunk (some .hole) = true := rfl
@[simp] theorem nu_bl {b : Bool} : nunk (some (.bl b)) = true := rfl
@[simp] theorem nu_int {b : Int} : nunk (some (.int b)) = true := rfl
@[simp] theorem nu_str {b : Str} : nunk (some (.str b)) = true := rfl
@[simp] theorem nu_tup {b : List D} : nunk (some (.tup b)) = true := rfl
@[simp] theorem nu_lst {o : Bool} {b : List D} : nunk (some (.lst o b)) = true := rfl
@[simp] theorem nu_scr {b : List D} : nunk (some (.scr b)) = true := rfl
@[simp] theorem nu_ktp {b : List D} : nunk (some (.ktp b)) = true := rfl
@[simp] theorem nu_dK {o : Bool} {k : List Key} {b : List D} : nunk (some (.dK o k b)) = true := rfl
@[simp] theorem nu_dT {o : Bool} {k : List (List Key)} {b : List D} : nunk (some (.dT o k b)) = true := rfl
@[simp] theorem nu_unk : nunk (some .unk) = false := rfl
@[simp] theorem u_dIO {i : Nat} {g : M (List D)} : dIO i g ρ = (if nunk ρ[i]? = true then g ρ else none) := by
  unfold dIO
  cases ρ[i]? with
  | none => rfl
  | some d => cases d <;> rfl
@[simp] theorem u_take0 {ds : List D} : takeIO [] ds ρ = ([], ρ) := rfl
@[simp] theorem u_takeN {ks : List (Option Nat)} {d : D} {ds : List D} : takeIO (none :: ks) (d :: ds) ρ = (d :: (takeIO ks ds ρ).1, (takeIO ks ds ρ).2) := rfl
@[simp] theorem u_takeS {ks : List (Option Nat)} {i : Nat} {ds : List D} : takeIO (some i :: ks) ds ρ = (ρ.getD i .unk :: (takeIO ks ds (ρ.set i .unk)).1, (takeIO ks ds (ρ.set i .unk)).2) := rfl
@[simp] theorem u_give0 {as : List D} : giveIO [] as ρ = ρ := by cases as <;> rfl
@[simp] theorem u_giveN {ks : List (Option Nat)} {d : D} {ds : List D} : giveIO (none :: ks) (d :: ds) ρ = giveIO ks ds ρ := rfl
@[simp] theorem u_giveS {ks : List (Option Nat)} {i : Nat} {d : D} {ds : List D} : giveIO (some i :: ks) (d :: ds) ρ = giveIO ks ds (ρ.set i d) := rfl
@[simp] theorem u_dFz {f : M D} : dFz f ρ = bindM f (fun d => optM (frzO d)) ρ := rfl
@[simp] theorem u_frzO {d : D} : frzO d = if fz (freeze d) = true then some (freeze d) else none := rfl
@[simp] theorem u_dAt {i : Nat} {f : M D} : dAt i f ρ = (if isDct ρ[i]? = true then dGetS i f ρ else dIxS i f ρ) := rfl
@[simp] theorem u_dIxS {i : Nat} {f : M D} : dIxS i f ρ = (if nunk ρ[i]? = true then bindM f (fun y ρ => match (ρ.getD i .unk), y with
    | x, .int k => match seqOf x with
      | some ds => match atI ds k with
        | some d => if fz d = true then some (.ok d ρ) else none
        | none => none
      | none => none
    | _, _ => none) ρ else none) := by
  unfold dIxS
  cases ρ[i]? with
  | none => rfl
  | some d => cases d <;> rfl
@[simp] theorem u_dGetS {i : Nat} {f : M D} : dGetS i f ρ = (if nunk ρ[i]? = true then bindM f (getS i) ρ else none) := by
  unfold dGetS
  cases ρ[i]? with
  | none => rfl
  | some d => cases d <;> rfl
@[simp] theorem u_getS {i : Nat} {y : D} : getS i y ρ = (match lookD (ρ.getD i .unk) y with
  | some d => if fz d = true then some (.ok d ρ) else none
  | none => none) := rfl
@[simp] theorem u_isDct0 : isDct none = false := rfl
@[simp] theorem u_isDctL {o : Bool} {ds : List D} : isDct (some (.lst o ds)) = false := rfl
@[simp] theorem u_isDctT {ds : List D} : isDct (some (.tup ds)) = false := rfl
@[simp] theorem u_isDctS {ds : List D} : isDct (some (.scr ds)) = false := rfl
@[simp] theorem u_isDctK {o : Bool} {ks : List Key} {ds : List D} : isDct (some (.dK o ks ds)) = true := rfl
@[simp] theorem u_isDctT2 {o : Bool} {ks : List (List Key)} {ds : List D} : isDct (some (.dT o ks ds)) = true := rfl
@[simp] theorem u_seqL {o : Bool} {ds : List D} : seqOf (.lst o ds) = some ds := rfl
@[simp] theorem u_seqT {ds : List D} : seqOf (.tup ds) = some ds := rfl
@[simp] theorem u_seqS {ds : List D} : seqOf (.scr ds) = some ds := rfl
@[simp] theorem u_seqK {ds : List D} : seqOf (.ktp ds) = some ds := rfl
@[simp] theorem u_lstL {o : Bool} {ds : List D} : lstOf (.lst o ds) = some ds := rfl
@[simp] theorem u_lstS {ds : List D} : lstOf (.scr ds) = some ds := rfl
@[simp] theorem u_lstT {ds : List D} : lstOf (.tup ds) = none := rfl
@[simp] theorem u_gIx {x y : D} : gIx x y = (match seqOf x, y with
  | some ds, .int i => atI ds i
  | _, _ => none) := rfl
@[simp] theorem u_fzI {i : Int} : fz (.int i) = true := by rw [fz]
@[simp] theorem u_fzB {i : Bool} : fz (.bl i) = true := by rw [fz]
@[simp] theorem u_fzN : fz .non = true := by rw [fz]
@[simp] theorem u_fzS {x : Str} : fz (.str x) = true := by rw [fz]
@[simp] theorem u_fzT {ds : List D} : fz (.tup ds) = fzL ds := by rw [fz]
@[simp] theorem u_fzL {o : Bool} {ds : List D} : fz (.lst o ds) = (!o && fzL ds) := by rw [fz]
@[simp] theorem u_fzC {ds : List D} : fz (.scr ds) = fzL ds := by rw [fz]
@[simp] theorem u_fzD {o : Bool} {ks : List (List Key)} {ds : List D} : fz (.dT o ks ds) = (!o && fzL ds) := by rw [fz]
@[simp] theorem u_fzDK {o : Bool} {ks : List Key} {ds : List D} : fz (.dK o ks ds) = (!o && fzL ds) := by rw [fz]
@[simp] theorem u_fzL0 : fzL [] = true := by rw [fzL]
@[simp] theorem u_fzL1 {d : D} {ds : List D} : fzL (d :: ds) = (fz d && fzL ds) := by rw [fzL]
@[simp] theorem u_fzLi {ns : List Int} : fzL (ns.map D.int) = true := fzL_ints ns
@[simp] theorem u_frI {i : Int} : freeze (.int i) = .int i := by rw [freeze]
@[simp] theorem u_frB {i : Bool} : freeze (.bl i) = .bl i := by rw [freeze]
@[simp] theorem u_frN : freeze .non = .non := by rw [freeze]
@[simp] theorem u_frS {x : Str} : freeze (.str x) = .str x := by rw [freeze]
@[simp] theorem u_frT {ds : List D} : freeze (.tup ds) = .tup (freezeL ds) := by rw [freeze]
@[simp] theorem u_frL {o : Bool} {ds : List D} : freeze (.lst o ds) = .lst false (freezeL ds) := by rw [freeze]
@[simp] theorem u_frC {ds : List D} : freeze (.scr ds) = .scr (freezeL ds) := by rw [freeze]
@[simp] theorem u_frD {o : Bool} {ks : List (List Key)} {ds : List D} : freeze (.dT o ks ds) = .dT false ks (freezeL ds) := by rw [freeze]
@[simp] theorem u_frDK {o : Bool} {ks : List Key} {ds : List D} : freeze (.dK o ks ds) = .dK false ks (freezeL ds) := by rw [freeze]
@[simp] theorem u_frL0 : freezeL [] = [] := by rw [freezeL]
@[simp] theorem u_frL1 {d : D} {ds : List D} : freezeL (d :: ds) = freeze d :: freezeL ds := by rw [freezeL]
@[simp] theorem u_frLi {ns : List Int} : freezeL (ns.map D.int) = ns.map D.int := freezeL_ints ns
@[simp] theorem u_at0 {x : α} {xs : List α} : atI (x :: xs) 0 = some x := atI_0
@[simp] theorem u_at1 {x y : α} {xs : List α} : atI (x :: y :: xs) 1 = some y := atI_1
@[simp] theorem u_at2 {x y z : α} {xs : List α} : atI (x :: y :: z :: xs) 2 = some z := atI_2
@[simp] theorem u_at3 {x y z u : α} {xs : List α} : atI (x :: y :: z :: u :: xs) 3 = some u := atI_3
@[simp] theorem u_add {i j : Int} : gAdd (.int i) (.int j) = some (.int (i + j)) := rfl
@[simp] theorem u_addL {o o' : Bool} {xs ys : List D} : gAdd (.lst o xs) (.lst o' ys) = if xs.length + ys.length ≤ sizeLine then some (.lst true (xs ++ ys)) else none := rfl
@[simp] theorem u_addT {xs ys : List D} : gAdd (.tup xs) (.tup ys) = if xs.length + ys.length ≤ sizeLine then some (.tup (xs ++ ys)) else none := rfl
@[simp] theorem u_sub {i j : Int} : gSub (.int i) (.int j) = some (.int (i - j)) := rfl
@[simp] theorem u_mod {i j : Int} : gMod (.int i) (.int j) = if 0 < j then some (.int (i % j)) else none := by
  unfold gMod gInt cMod
  simp only [decide_eq_true_eq]
@[simp] theorem u_div {i j : Int} : gDiv (.int i) (.int j) = if 0 < j ∧ j < 1073741824 then some (.int (i / j)) else none := by
  unfold gDiv gInt cDiv
  simp only [Bool.and_eq_true, decide_eq_true_eq]
@[simp] theorem u_mulA {i j : Int} : gMulA (.int i) (.int j) = if (-(2 ^ 64) < i ∧ i < 2 ^ 64) ∨ (-(2 ^ 64) < j ∧ j < 2 ^ 64) then some (.int (i * j)) else none := by
  show gMul _ _ = _
  unfold gMul gInt cMul
  simp only [Bool.or_eq_true, Bool.and_eq_true, decide_eq_true_eq]
@[simp] theorem u_pow {i j : Int} : gPow (.int i) (.int j) = if 0 ≤ j ∧ j ≤ 1000000 ∧ i.natAbs < 2 ^ 64 then some (.int (i ^ j.toNat)) else none := by
  unfold gPow gInt cPow
  simp only [Bool.and_eq_true, decide_eq_true_eq, and_assoc]
@[simp] theorem u_neg {i : Int} : gNeg (.int i) = some (.int (-i)) := rfl
@[simp] theorem u_cmp {p : Int → Int → Bool} {i j : Int} : gCmp p (.int i) (.int j) = some (.bl (p i j)) := rfl
@[simp] theorem u_cLt {i j : Int} : cLt i j = decide (i < j) := rfl
@[simp] theorem u_cLe {i j : Int} : cLe i j = decide (i ≤ j) := rfl
@[simp] theorem u_cGt {i j : Int} : cGt i j = decide (j < i) := rfl
@[simp] theorem u_cGe {i j : Int} : cGe i j = decide (j ≤ i) := rfl
theorem sh_int {i : Int} : SeqAt.shaped (.int i) = true := by unfold SeqAt.shaped; rw [PyData.canLay0, PyData.depth]; rfl
theorem sh_bl {i : Bool} : SeqAt.shaped (.bool i) = true := by unfold SeqAt.shaped; rw [PyData.canLay0, PyData.depth]; rfl
@[simp] theorem u_eqI {i j : Int} : gEq (.int i) (.int j) = some (.bl (decide (i = j))) := by
  unfold gEq eqD
  simp only [dat, sh_int, and_self, if_true, Option.map_some, PyData.eqv]
  congr 2
@[simp] theorem u_neI {i j : Int} : gNe (.int i) (.int j) = some (.bl (!decide (i = j))) := by
  unfold gNe eqD
  simp only [dat, sh_int, and_self, if_true, Option.map_some, PyData.eqv]
  congr 3
@[simp] theorem u_eqB {i j : Bool} : gEq (.bl i) (.bl j) = some (.bl (i == j)) := by
  unfold gEq eqD
  simp only [dat, sh_bl, and_self, if_true, Option.map_some, PyData.eqv]
@[simp] theorem u_neB {i j : Bool} : gNe (.bl i) (.bl j) = some (.bl (!(i == j))) := by
  unfold gNe eqD
  simp only [dat, sh_bl, and_self, if_true, Option.map_some, PyData.eqv]
@[simp] theorem u_scI {i : Int} : isSc (.int i) = true := rfl
@[simp] theorem u_scB {i : Bool} : isSc (.bl i) = true := rfl
@[simp] theorem u_len {d : D} : gLen [d] = (lenD d).map fun (n : Nat) => D.int (n : Int) := rfl
@[simp] theorem u_lenL {o : Bool} {ds : List D} : lenD (.lst o ds) = some ds.length := rfl
@[simp] theorem u_lenT {ds : List D} : lenD (.tup ds) = some ds.length := rfl
@[simp] theorem u_lenS {ds : List D} : lenD (.scr ds) = some ds.length := rfl
@[simp] theorem u_lenD {o : Bool} {ks : List (List Key)} {ds : List D} : lenD (.dT o ks ds) = some ks.length := rfl
@[simp] theorem u_lenDK {o : Bool} {ks : List Key} {ds : List D} : lenD (.dK o ks ds) = some ks.length := rfl
@[simp] theorem u_abs {i : Int} : gAbs [.int i] = some (.int (if i < 0 then -i else i)) := rfl
@[simp] theorem u_intI {i : Int} : gIntOf [.int i] = some (.int i) := rfl
@[simp] theorem u_intB {i : Bool} : gIntOf [.bl i] = some (.int (if i then 1 else 0)) := rfl
@[simp] theorem u_min2 {i j : Int} : gMin [.int i, .int j] = some (.int (min i j)) := by
  unfold gMin
  show gMin2 [.int i, .int j] = some (.int (min i j))
  unfold gMin2
  have : (if j < i then j else i) = min i j := by split <;> omega
  show some (D.int (if j < i then j else i)) = _
  rw [this]
@[simp] theorem u_max2 {i j : Int} : gMax [.int i, .int j] = some (.int (max i j)) := by
  unfold gMax
  show gMax2 [.int i, .int j] = some (.int (max i j))
  unfold gMax2
  have : (if j > i then j else i) = max i j := by split <;> omega
  show some (D.int (if j > i then j else i)) = _
  rw [this]
@[simp] theorem u_minT {i j : Int} : gMin [.tup [.int i, .int j]] = some (.int (min i j)) := rfl
@[simp] theorem u_maxT {i j : Int} : gMax [.tup [.int i, .int j]] = some (.int (max i j)) := rfl
@[simp] theorem u_sum {o : Bool} {ns : List Int} : gSum [.lst o (ns.map D.int)] = some (.int ns.sum) := by
  unfold gSum
  simp only [u_lstL, Option.bind_some, allI_map, Option.map_some]
@[simp] theorem u_tupleL {o : Bool} {ds : List D} : gTuple [.lst o ds] = some (.tup ds) := rfl
@[simp] theorem u_tupleT {ds : List D} : gTuple [.tup ds] = some (.tup ds) := rfl
@[simp] theorem u_listL {o : Bool} {ds : List D} : gList [.lst o ds] = some (.lst true ds) := rfl
@[simp] theorem u_listT {ds : List D} : gList [.tup ds] = some (.lst true ds) := rfl
@[simp] theorem u_dSkip : dSkip ρ = some (.nx, ρ) := rfl
@[simp] theorem u_dSet {i : Nat} {f : M D} : dSet i f ρ = bindS f (fun d ρ => some (.nx, ρ.set i d)) ρ := rfl
@[simp] theorem u_dRet {f : M D} : dRet f ρ = bindS f (fun d ρ => some (.rt d, ρ)) ρ := rfl
@[simp] theorem u_dDrop {f : M D} : dDrop f ρ = bindS f (fun _ ρ => some (.nx, ρ)) ρ := rfl
@[simp] theorem u_dAsg {f : M D} {g : D → Env → Option Env} : dAsg f g ρ = bindS f (fun d ρ => match g d ρ with
  | none => none
  | some ρ' => some (.nx, ρ')) ρ := rfl
@[simp] theorem u_dIfS {t : M Bool} {a b : MS} : dIfS t a b ρ = bindS t (fun c => if c = true then a else b) ρ := rfl
@[simp] theorem u_dSeq {g1 g2 : MS} : dSeq g1 g2 ρ = (match g1 ρ with
  | some (.nx, ρ') => g2 ρ'
  | r => r) := rfl
@[simp] theorem u_gNm {i : Nat} {d : D} : gNm i d ρ = some (ρ.set i d) := rfl
@[simp] theorem u_gTp {is : List Nat} {ds : List D} : gTp is (.tup ds) ρ = gNms is ds ρ := rfl
@[simp] theorem u_gNms0 : gNms [] [] ρ = some ρ := rfl
@[simp] theorem u_gNms1 {i : Nat} {is : List Nat} {d : D} {ds : List D} : gNms (i :: is) (d :: ds) ρ = gNms is ds (ρ.set i d) := rfl
@[simp] theorem u_dMt {i : Nat} {g : List D → List D → Option (D × List D)} {f : M (List D)} : dMt i g f ρ = (if isLst ρ[i]? = true then bindM f (mutL i g) ρ else none) := rfl
@[simp] theorem u_isLst {o : Bool} {ds : List D} : isLst (some (.lst o ds)) = true := rfl
@[simp] theorem u_mutL {i : Nat} {g : List D → List D → Option (D × List D)} {ds : List D} : mutL i g ds ρ = (match ρ[i]? with
  | some (.lst true xs) => match g xs ds with
    | some (d, xs') => some (.ok d (ρ.set i (.lst true xs')))
    | none => none
  | _ => none) := rfl
@[simp] theorem u_gApp {xs : List D} {d : D} : gApp xs [d] = if xs.length < sizeLine then some (.non, xs ++ [d]) else none := rfl
@[simp] theorem u_gIns {xs : List D} {i : Int} {d : D} : gIns xs [.int i, d] = if xs.length < sizeLine ∧ 0 ≤ i ∧ i < 2 ^ 63 then some (.non, xs.take i.toNat ++ [d] ++ xs.drop i.toNat) else none := rfl
@[simp] theorem u_gExt {xs ys : List D} {o : Bool} : gExt xs [.lst o ys] = if xs.length + ys.length ≤ sizeLine then some (.non, xs ++ ys) else none := rfl
@[simp] theorem u_dPut {i : Nat} {fk fe : M D} : dPut i fk fe ρ = bindS fe (fun d ρ1 => if nunk ρ1[i]? = true then bindS fk (putS i d) ρ1 else none) ρ := by
  unfold dPut
  congr 1
  funext d ρ1
  cases ρ1[i]? with
  | none => rfl
  | some d => cases d <;> rfl
@[simp] theorem u_putS {i : Nat} {d y : D} : putS i d y ρ = (match VS.putAt (ρ.getD i .unk) y d with
  | some x => some (.nx, ρ.set i x)
  | none => none) := rfl
@[simp] theorem u_putL {xs : List D} {n : Int} {d : D} : VS.putAt (.lst true xs) (.int n) d = (ixN xs.length n).map fun j => .lst true (xs.set j d) := rfl
@[simp] theorem u_dRange1 {f : M (List D)} : dRange1 f ρ = bindM f (fun ds => optM (rangeD1 ds)) ρ := rfl
@[simp] theorem u_dRange2 {f : M (List D)} : dRange2 f ρ = bindM f (fun ds => optM (rangeD2 ds)) ρ := rfl
structure inR (i : Int) : Prop where
  lo : -(2 ^ 62) ≤ i
  hi : i < 2 ^ 62
noncomputable instance inR_dec {i : Int} : Decidable (inR i) := Classical.propDecidable _
theorem inR_le {i : Int} (h : 0 ≤ i) (g : i ≤ 1000000) : inR i := ⟨Int.le_trans (by decide) h, Int.lt_of_le_of_lt g (by decide)⟩
theorem inR_bd {i : Int} (h : -1000000 ≤ i) (g : i ≤ 1000000) : inR i := ⟨Int.le_trans (by decide) h, Int.lt_of_le_of_lt g (by decide)⟩
@[simp] theorem inR_0 : inR 0 := inR_le (by decide) (by decide)
@[simp] theorem inR_1 : inR 1 := inR_le (by decide) (by decide)
@[simp] theorem inR_2 : inR 2 := inR_le (by decide) (by decide)
@[simp] theorem inR_3 : inR 3 := inR_le (by decide) (by decide)
@[simp] theorem inR_4 : inR 4 := inR_le (by decide) (by decide)
@[simp] theorem inR_5 : inR 5 := inR_le (by decide) (by decide)
@[simp] theorem inR_6 : inR 6 := inR_le (by decide) (by decide)
@[simp] theorem inR_7 : inR 7 := inR_le (by decide) (by decide)
@[simp] theorem inR_8 : inR 8 := inR_le (by decide) (by decide)
@[simp] theorem inR_9 : inR 9 := inR_le (by decide) (by decide)
@[simp] theorem inR_10 : inR 10 := inR_le (by decide) (by decide)
@[simp] theorem inR_11 : inR 11 := inR_le (by decide) (by decide)
@[simp] theorem inR_12 : inR 12 := inR_le (by decide) (by decide)
@[simp] theorem inR_13 : inR 13 := inR_le (by decide) (by decide)
@[simp] theorem inR_14 : inR 14 := inR_le (by decide) (by decide)
@[simp] theorem inR_15 : inR 15 := inR_le (by decide) (by decide)
@[simp] theorem inR_16 : inR 16 := inR_le (by decide) (by decide)
@[simp] theorem inR_18 : inR 18 := inR_le (by decide) (by decide)
@[simp] theorem inR_20 : inR 20 := inR_le (by decide) (by decide)
@[simp] theorem inR_24 : inR 24 := inR_le (by decide) (by decide)
@[simp] theorem inR_30 : inR 30 := inR_le (by decide) (by decide)
@[simp] theorem inR_32 : inR 32 := inR_le (by decide) (by decide)
@[simp] theorem inR_40 : inR 40 := inR_le (by decide) (by decide)
@[simp] theorem inR_48 : inR 48 := inR_le (by decide) (by decide)
@[simp] theorem inR_50 : inR 50 := inR_le (by decide) (by decide)
@[simp] theorem inR_60 : inR 60 := inR_le (by decide) (by decide)
@[simp] theorem inR_63 : inR 63 := inR_le (by decide) (by decide)
@[simp] theorem inR_64 : inR 64 := inR_le (by decide) (by decide)
@[simp] theorem inR_100 : inR 100 := inR_le (by decide) (by decide)
@[simp] theorem inR_200 : inR 200 := inR_le (by decide) (by decide)
@[simp] theorem inR_220 : inR 220 := inR_le (by decide) (by decide)
@[simp] theorem inR_900 : inR 900 := inR_le (by decide) (by decide)
@[simp] theorem u_range1 {j : Int} : rangeD1 [.int j] = if inR j then some (intsD 0 j.toNat) else none := by
  show (if -(2 ^ 62) ≤ j ∧ j < 2 ^ 62 then some (intsD 0 j.toNat) else none) = _
  by_cases h : inR j
  · rw [if_pos h, if_pos ⟨h.lo, h.hi⟩]
  · rw [if_neg h, if_neg (fun z => h ⟨z.1, z.2⟩)]
@[simp] theorem u_range2 {i j : Int} : rangeD2 [.int i, .int j] = if inR i ∧ inR j then some (intsD i (j - i).toNat) else none := by
  show (if -(2 ^ 62) ≤ i ∧ i < 2 ^ 62 ∧ -(2 ^ 62) ≤ j ∧ j < 2 ^ 62 then some (intsD i (j - i).toNat) else none) = _
  by_cases h : inR i ∧ inR j
  · rw [if_pos h, if_pos ⟨h.1.lo, h.1.hi, h.2.lo, h.2.hi⟩]
  · rw [if_neg h, if_neg (fun z => h ⟨⟨z.1, z.2.1⟩, ⟨z.2.2.1, z.2.2.2⟩⟩)]
@[simp] theorem u_dItems {f : M D} : dItems f ρ = bindM f (fun d => optM (itemsOf d)) ρ := rfl
@[simp] theorem u_itemsL {o : Bool} {ds : List D} : itemsOf (.lst o ds) = if fzL (freezeL ds) = true then some (freezeL ds) else none := rfl
@[simp] theorem u_itemsT {ds : List D} : itemsOf (.tup ds) = if fzL (freezeL ds) = true then some (freezeL ds) else none := rfl
@[simp] theorem u_itemsS {ds : List D} : itemsOf (.scr ds) = if fzL (freezeL ds) = true then some (freezeL ds) else none := rfl
@[simp] theorem u_dSl {fa : M D} {fl fh : M (Option Int)} : dSl fa fl fh ρ = bindM fa (fun x => bindM fl fun lo => bindM fh fun hi => optM (gSlice x lo hi)) ρ := rfl
@[simp] theorem u_dNo : dNo ρ = some (.ok none ρ) := rfl
@[simp] theorem u_dEnd {f : M D} : dEnd f ρ = bindM f (fun d => optM ((intOf d).map some)) ρ := rfl
@[simp] theorem u_intOf {i : Int} : intOf (.int i) = some i := rfl
@[simp] theorem u_slL {o : Bool} {ds : List D} {lo hi : Option Int} : gSlice (.lst o ds) lo hi = some (.lst true (cutD ds lo hi)) := rfl
@[simp] theorem u_slS {ds : List D} {lo hi : Option Int} : gSlice (.scr ds) lo hi = some (.lst true (cutD ds lo hi)) := rfl
@[simp] theorem u_slT {ds : List D} {lo hi : Option Int} : gSlice (.tup ds) lo hi = some (.tup (cutD ds lo hi)) := rfl
@[simp] theorem u_dIsa {ns : List String} {f : M D} : dIsa ns f ρ = bindM f (fun d => optM (gIsa ns d)) ρ := rfl
@[simp] theorem u_dEnum {f : M (List D)} : dEnum f ρ = bindM f (fun ds => optM (match ds with
  | [x] => (lstOf (freeze x)).bind fun xs => if fzL xs = true ∧ fz (freeze x) = true then some (enumD xs) else none
  | _ => none)) ρ := rfl
@[simp] theorem u_dZip {f : M (List D)} : dZip f ρ = bindM f (fun ds => optM (zipOf ds)) ρ := rfl
@[simp] theorem u_outD {np : Nat} {asg : List Nat} : outD np asg ρ = (wipeD ρ asg).take np := rfl
@[simp] theorem u_wipe0 : wipeD ρ [] = ρ := rfl
@[simp] theorem u_wipe1 {i : Nat} {is : List Nat} : wipeD ρ (i :: is) = (wipeD ρ is).set i .unk := rfl
@[simp] theorem u_sz0 : (0 : Nat) ≤ sizeLine := Nat.zero_le _
@[simp] theorem u_sz1 : (1 : Nat) ≤ sizeLine := by decide
@[simp] theorem u_sz2 : (2 : Nat) ≤ sizeLine := by decide
@[simp] theorem u_sz3 : (3 : Nat) ≤ sizeLine := by decide
@[simp] theorem u_sz4 : (4 : Nat) ≤ sizeLine := by decide
@[simp] theorem u_sz5 : (5 : Nat) ≤ sizeLine := by decide
@[simp] theorem u_sz6 : (6 : Nat) ≤ sizeLine := by decide
@[simp] theorem u_sz8 : (8 : Nat) ≤ sizeLine := by decide
end
end VS

set_option Elab.async false
set_option linter.all false
set_option maxRecDepth 100000
set_option maxHeartbeats 4000000
set_option autoImplicit false
/-! VS14: sorted rows of ints, dicts keyed by pairs of ints, permutations. -/
namespace VS
open PySem PySem.Spec L2
section
variable {ρ : Env}
def k2 (p : Int × Int) : List Key := [.inl p.1, .inl p.2]
theorem k2_inj {p q : Int × Int} (h : k2 p = k2 q) : p = q := by
  unfold k2 at h
  simp at h
  exact Prod.ext h.1 h.2
theorem look_k2 : ∀ (ks : List (Int × Int)) (ls : List Int) (p : Int × Int), look (ks.map k2) (ls.map D.int) (k2 p) = (look ks ls p).map D.int
  | [], _, _ => by simp [look]
  | _ :: _, [], _ => by simp [look]
  | k :: ks, l :: ls, p => by
    rw [List.map_cons, List.map_cons, look, look]
    by_cases e : k = p
    · rw [if_pos (by rw [e]), if_pos e]; rfl
    · rw [if_neg (fun h => e (k2_inj h)), if_neg e, look_k2 ks ls p]
theorem putL_k2 : ∀ (ks : List (Int × Int)) (ls : List Int) (p : Int × Int) (l : Int), putL (ks.map k2) (ls.map D.int) (k2 p) (D.int l) = ((putL ks ls p l).1.map k2, (putL ks ls p l).2.map D.int)
  | [], _, _, _ => by simp [putL]
  | _ :: _, [], _, _ => by simp [putL]
  | k :: ks, a :: ls, p, l => by
    rw [List.map_cons, List.map_cons, putL, putL]
    by_cases e : k = p
    · rw [if_pos (by rw [e]), if_pos e]; rfl
    · rw [if_neg (fun h => e (k2_inj h)), if_neg e, putL_k2 ks ls p l]; rfl
theorem putL_len2 {κ α : Type} [DecidableEq κ] : ∀ (ks : List κ) (as : List α) (k : κ) (a : α), ks.length = as.length → (putL ks as k a).1.length = (putL ks as k a).2.length
  | [], [], k, a, _ => rfl
  | [], _ :: _, k, a, h => by cases h
  | _ :: _, [], k, a, h => by cases h
  | k' :: ks, b :: as, k, a, h => by
    rw [putL]
    split
    · exact h
    · simp only [List.length_cons]; rw [putL_len2 ks as k a (Nat.succ.inj h)]
theorem look_mem {κ α : Type} [DecidableEq κ] : ∀ (ks : List κ) (as : List α) (k : κ), ks.length = as.length → k ∈ ks → ∃ a, look ks as k = some a
  | [], _, _, _, h => by cases h
  | _ :: _, [], _, h, _ => by cases h
  | k' :: ks, b :: as, k, h, hk => by
    rw [look]
    by_cases e : k' = k
    · exact ⟨b, if_pos e⟩
    · rw [if_neg e]
      rcases List.mem_cons.mp hk with z | z
      · exact absurd z.symm e
      · exact look_mem ks as k (Nat.succ.inj h) z
theorem look_no {κ α : Type} [DecidableEq κ] : ∀ (ks : List κ) (as : List α) (k : κ), k ∉ ks → look ks as k = none
  | [], _, _, _ => by simp [look]
  | _ :: _, [], _, _ => by simp [look]
  | k' :: ks, b :: as, k, h => by
    rw [look, if_neg (fun e => h (by rw [e]; exact List.mem_cons_self)), look_no ks as k (fun z => h (List.mem_cons_of_mem _ z))]
/-- a dict keyed by pairs -/
def dP (o : Bool) (ks : List (Int × Int)) (ls : List Int) : D := .dT o (ks.map k2) (ls.map D.int)
@[simp] theorem u_isDctP {o : Bool} {ks : List (Int × Int)} {ls : List Int} : isDct (some (dP o ks ls)) = true := rfl
@[simp] theorem nu_P {o : Bool} {ks : List (Int × Int)} {ls : List Int} : nunk (some (dP o ks ls)) = true := rfl
@[simp] theorem u_lenP {o : Bool} {ks : List (Int × Int)} {ls : List Int} : lenD (dP o ks ls) = some ks.length := by show some (ks.map k2).length = _; rw [List.length_map]
@[simp] theorem u_fzP {ks : List (Int × Int)} {ls : List Int} : fz (dP false ks ls) = true := by unfold dP; rw [u_fzD]; simp
@[simp] theorem u_frP {o : Bool} {ks : List (Int × Int)} {ls : List Int} : freeze (dP o ks ls) = dP false ks ls := by unfold dP; rw [u_frD]; simp
@[simp] theorem u_putP {ks : List (Int × Int)} {ls : List Int} {a b l : Int} : VS.putAt (dP true ks ls) (.tup [.int a, .int b]) (.int l) = if ks.length < sizeLine then some (dP true (putL ks ls (a, b) l).1 (putL ks ls (a, b) l).2) else none := by
  unfold dP
  show (if (ks.map k2).length < sizeLine then some (D.dT true (putL (ks.map k2) (ls.map D.int) (k2 (a, b)) (D.int l)).1 (putL (ks.map k2) (ls.map D.int) (k2 (a, b)) (D.int l)).2) else none) = _
  rw [List.length_map, putL_k2]
@[simp] theorem u_lookP {o : Bool} {ks : List (Int × Int)} {ls : List Int} {a b : Int} : lookD (dP o ks ls) (.tup [.int a, .int b]) = (look ks ls (a, b)).map D.int := by
  unfold dP
  show look (ks.map k2) (ls.map D.int) (k2 (a, b)) = _
  rw [look_k2]
@[simp] theorem u_dSetd {i : Nat} {fy fd : M D} : dSetd i fy fd ρ = (if isDct ρ[i]? = true then bindM fy (fun y => bindM fd (setdS i y)) ρ else none) := rfl
theorem setd_P {i : Nat} {ks : List (Int × Int)} {ls : List Int} {a b l : Int} (h : ρ[i]? = some (dP true ks ls)) (hs : ks.length < sizeLine) : setdS i (.tup [.int a, .int b]) (.int l) ρ = some (.ok .unk (ρ.set i (if (a, b) ∈ ks then dP true ks ls else dP true (putL ks ls (a, b) l).1 (putL ks ls (a, b) l).2))) ∨ ks.length ≠ ls.length := by
  by_cases hl : ks.length = ls.length
  · left
    have e : setdS i (.tup [.int a, .int b]) (.int l) ρ = (match ρ.getD i .unk, D.tup [.int a, .int b] with
      | .dT true ks ds, .tup es => match keysD es with
        | some k => if ks.length < sizeLine ∧ fz (D.int l) = true then (match look ks ds k with
          | some _ => some (.ok .unk ρ)
          | none => some (.ok .unk (ρ.set i (.dT true (putL ks ds k (.int l)).1 (putL ks ds k (.int l)).2)))) else none
        | none => none
      | _, _ => none) := rfl
    rw [e, List.getD, h, Option.getD_some]
    unfold dP
    simp only [show keysD [D.int a, D.int b] = some (k2 (a, b)) from rfl]
    rw [if_pos ⟨by rw [List.length_map]; exact hs, u_fzI⟩, look_k2, putL_k2]
    by_cases hm : (a, b) ∈ ks
    · obtain ⟨x, hx⟩ := look_mem ks ls (a, b) hl hm
      rw [hx, if_pos hm]
      simp only [Option.map_some]
      congr 2
      obtain ⟨hi, hv⟩ := List.getElem?_eq_some_iff.mp h
      have := List.set_getElem_self hi
      rw [hv] at this
      exact this.symm
    · rw [look_no ks ls (a, b) hm, if_neg hm]
      rfl
  · exact .inr hl
/-- order of rows -/
theorem leL_trans (x y z : List Int) (h : leL x y = true) (h2 : leL y z = true) : leL x z = true := by
  unfold leL at *
  rw [decide_eq_true_eq] at *
  exact List.le_trans h h2
theorem leL_total (x y : List Int) : (leL x y || leL y x) = true := by
  unfold leL
  rw [Bool.or_eq_true, decide_eq_true_eq, decide_eq_true_eq]
  exact List.le_total x y
theorem leL_anti (x y : List Int) (h : leL x y = true) (h2 : leL y x = true) : x = y := by
  unfold leL at *
  rw [decide_eq_true_eq] at *
  exact List.le_antisymm h h2
/-- one sorted list for all orders of its items -/
theorem sort_perm {l m : List (List Int)} (h : l.Perm m) (hs : m.Pairwise (fun x y => leL x y = true)) : l.mergeSort leL = m := by
  refine List.Perm.eq_of_pairwise (le := fun x y => leL x y = true) (fun a b _ _ h1 h2 => leL_anti a b h1 h2) (List.pairwise_mergeSort leL_trans leL_total l) hs ?_
  exact (List.mergeSort_perm l leL).trans h
def p2 (p : Int × Int) : List Int := [p.1, p.2]
theorem leL_p2 {p q : Int × Int} : leL (p2 p) (p2 q) = true ↔ p.1 < q.1 ∨ (p.1 = q.1 ∧ p.2 ≤ q.2) := by
  unfold leL p2
  rw [decide_eq_true_eq, List.cons_le_cons_iff, List.cons_le_cons_iff]
  have : ([] : List Int) ≤ [] := List.nil_le _
  constructor
  · rintro (h | ⟨h, h2⟩)
    · exact .inl h
    · right; refine ⟨h, ?_⟩; rcases h2 with h2 | h2 <;> omega
  · rintro (h | ⟨h, h2⟩)
    · exact .inl h
    · right; refine ⟨h, ?_⟩
      by_cases e : p.2 = q.2
      · exact .inr ⟨e, this⟩
      · left; omega
abbrev R3 := Int × Int × Int
def r3 (r : R3) : List Int := [r.1, r.2.1, r.2.2]
def lt3 (r s : R3) : Prop := r.1 < s.1 ∨ (r.1 = s.1 ∧ r.2.1 < s.2.1)
theorem leL_r3 {r s : R3} (h : lt3 r s) : leL (r3 r) (r3 s) = true := by
  unfold leL r3
  rw [decide_eq_true_eq, List.cons_le_cons_iff, List.cons_le_cons_iff]
  rcases h with h | ⟨h, h2⟩
  · exact .inl h
  · exact .inr ⟨h, .inl h2⟩
theorem r3_inj {r s : R3} (h : r3 r = r3 s) : r = s := by
  unfold r3 at h
  simp at h
  exact Prod.ext h.1 (Prod.ext h.2.1 h.2.2)
/-- the sorted keys of a dict by pairs -/
def sP (ks : List (Int × Int)) : List (Int × Int) := ks.mergeSort fun x y => leL (p2 x) (p2 y)
theorem sP_perm (ks : List (Int × Int)) : (sP ks).Perm ks := List.mergeSort_perm _ _
theorem sP_map (ks : List (Int × Int)) : (ks.map p2).mergeSort leL = (sP ks).map p2 := (List.map_mergeSort (f := p2) (r := fun x y => leL (p2 x) (p2 y)) (s := leL) (l := ks) (fun x _ y _ => rfl)).symm
theorem sP_lt {ks : List (Int × Int)} (h : ks.Nodup) : (sP ks).Pairwise fun p q => p.1 < q.1 ∨ (p.1 = q.1 ∧ p.2 < q.2) := by
  have h1 : (sP ks).Pairwise fun x y => leL (p2 x) (p2 y) = true := List.pairwise_mergeSort (le := fun x y => leL (p2 x) (p2 y)) (fun x y z => leL_trans (p2 x) (p2 y) (p2 z)) (fun x y => leL_total (p2 x) (p2 y)) ks
  have h2 : (sP ks).Nodup := (sP_perm ks).nodup_iff.mpr h
  refine (h1.and h2).imp ?_
  rintro ⟨a, b⟩ ⟨c, d⟩ ⟨h3, h4⟩
  rcases leL_p2.mp h3 with h5 | ⟨h5, h6⟩
  · exact .inl h5
  · right
    refine ⟨h5, ?_⟩
    by_cases e : b = d
    · exfalso; apply h4; dsimp only at h5; rw [h5, e]
    · dsimp only at h6 ⊢; omega
theorem u_sortP {o : Bool} {ks : List (Int × Int)} {ls : List Int} (hl : ks.length ≤ sizeLine) : gSorted [dP o ks ls] = some (.lst true ((sP ks).map fun p => tI (p2 p))) := by
  unfold dP
  show (sortD ((ks.map k2).map tupK)).map (fun ys => D.lst true ys) = _
  have e : (ks.map k2).map tupK = (ks.map p2).map tI := by
    rw [List.map_map, List.map_map]
    apply List.map_congr_left
    intro p _
    rfl
  rw [e, sortD_tI (by
    intro x hx
    obtain ⟨p, _, rfl⟩ := List.mem_map.mp hx
    intro z
    cases z) (by rw [List.length_map]; exact hl), sP_map, List.map_map]
  rfl
theorem ins_perm {α : Type} (l : List α) (n : Nat) (d : α) : (l.take n ++ [d] ++ l.drop n).Perm (d :: l) := by
  rw [List.append_assoc]
  refine (List.perm_middle (l₁ := l.take n) (a := d) (l₂ := l.drop n)).trans ?_
  rw [List.take_append_drop]
/-- 0, .., n - 1 in some order -/
def rangeI (n : Nat) : List Int := (List.range n).map fun (i : Nat) => (i : Int)
theorem rangeI_succ (n : Nat) : (rangeI (n + 1)).Perm ((n : Int) :: rangeI n) := by
  unfold rangeI
  rw [List.range_succ, List.map_append]
  exact List.perm_append_comm
theorem mem_rangeI {n : Nat} {x : Int} : x ∈ rangeI n ↔ 0 ≤ x ∧ x < n := by
  unfold rangeI
  rw [List.mem_map]
  constructor
  · rintro ⟨i, hi, rfl⟩
    rw [List.mem_range] at hi
    omega
  · rintro ⟨h0, h1⟩
    exact ⟨x.toNat, by rw [List.mem_range]; omega, by omega⟩
theorem nodup_rangeI (n : Nat) : (rangeI n).Nodup := by
  unfold rangeI
  unfold List.Nodup
  rw [List.pairwise_map]
  exact List.nodup_range.imp fun h z => h (by omega)
theorem len_rangeI (n : Nat) : (rangeI n).length = n := by unfold rangeI; simp
theorem lc_map {α : Type} {own : List Nat} {bt : D → Env → Option Env} {el : M D} {g h : α → D} : ∀ (xs : List α) (acc : List D), acc.length + xs.length ≤ sizeLine → (∀ x ∈ xs, ∃ ρ1 ρ2, bt (g x) ρ = some ρ1 ∧ el ρ1 = some (.ok (h x) ρ2) ∧ wipeD ρ2 own = ρ) → lcD own bt dYes el (xs.map g) acc ρ = some (acc ++ xs.map h, ρ)
  | [], acc, _, _ => by simp [lcD]
  | x :: xs, acc, hz, hs => by
    obtain ⟨ρ1, ρ2, e1, e2, e3⟩ := hs x List.mem_cons_self
    rw [List.map_cons]
    unfold lcD
    rw [e1]
    simp only [show dYes ρ1 = some (.ok true ρ1) from rfl, if_true]
    rw [e2]
    simp only
    rw [if_pos (by simp at hz; omega), e3, lc_map xs (acc ++ [h x]) (by simp at hz ⊢; omega) fun y hy => hs y (List.mem_cons_of_mem _ hy)]
    simp
end
end VS

set_option Elab.async false
set_option linter.all false
set_option maxRecDepth 100000
set_option maxHeartbeats 4000000
namespace G
open PySem PySem.Spec PyProof.Rows L2 VS
def topS (i : Nat) : Stmt := PySem.Challenge.pw_lonetrack_k39_webs_renamed.main.body.getD i (.Pass ⟨0, 0, 0, 0⟩)
structure Tops (mg : Str → Option Value) : Prop where
  abs : mg "abs" = none
  all : mg "all" = none
  bool : mg "bool" = none
  enumerate : mg "enumerate" = none
  int : mg "int" = none
  isinstance : mg "isinstance" = none
  len : mg "len" = none
  list : mg "list" = none
  max : mg "max" = none
  min : mg "min" = none
  range : mg "range" = none
  sorted : mg "sorted" = none
  sum : mg "sum" = none
  tuple : mg "tuple" = none
  zip : mg "zip" = none
/-! renamed_web -/
abbrev s_renamed_web : Stmt := topS 1
abbrev N_renamed_web : List Str := ["web", "order", "found", "a", "b", "length"]
abbrev p_renamed_web : List Str := ["web", "order"]
theorem sc_renamed_web : FnScope N_renamed_web p_renamed_web (defScope s_renamed_web) := ⟨rfl, rfl, rfl, by decide +kernel, rfl, by decide +kernel, by decide +kernel⟩
abbrev a_renamed_web : List Nat := ([2] ++ [])
def body_renamed_web : MS :=
    (dSeq (dSet 2 (dLc [3, 4, 5] (dItems (dAt 0 (dC (.int 1)))) (gTp [3, 4, 5]) dYes (dTup (dCons (dCallS [none, none] gMin (dCons (dAt 1 (dV 3)) (dCons (dAt 1 (dV 4)) dNil))) (dCons (dCallS [none, none] gMax (dCons (dAt 1 (dV 3)) (dCons (dAt 1 (dV 4)) dNil))) (dCons (dV 5) dNil))))))
    (dRet (dTup (dCons (dAt 0 (dC (.int 0))) (dCons (dCall gTuple (dCons (dCall gSorted (dCons (dF 2) dNil)) dNil)) dNil)))))
def F_renamed_web : FnD := fnD 6 2 a_renamed_web body_renamed_web
theorem cal_renamed_web {P : Program} {w : World} {K : PySem.W.Frag} {mg : Str → Option Value} {base : Heap} (T : Tops mg) (D : Def K mg "renamed_web" s_renamed_web p_renamed_web)  : Cal P w K mg base 1 "renamed_web" p_renamed_web F_renamed_web :=
  cal_mk (k := 0) D sc_renamed_web fun f cdv A outer s H E hr =>
    (vss_cons (vs_setLc (i := 2) (own := [("a", 3), ("b", 4), ("length", 5)]) rfl sc_renamed_web.nd rfl rfl (sw_true rfl rfl rfl (by decide +kernel)) (vi_seq (ve_at (hu_of hr) (pv 0) ve_int)) (blkOk_by (own := [("a", 3), ("b", 4), ("length", 5)]) (N := N_renamed_web) (sc := defScope s_renamed_web) (by decide +kernel)) (fun _ _ _ _ _ => (vg_tup rfl (vgs_cons (pg_name (i := 3) sc_renamed_web.nd rfl (by first | exact .inl rfl | exact .inr rfl)) (vgs_cons (pg_name (i := 4) sc_renamed_web.nd rfl (by first | exact .inl rfl | exact .inr rfl)) (vgs_cons (pg_name (i := 5) sc_renamed_web.nd rfl (by first | exact .inl rfl | exact .inr rfl)) vgs_nil))))) (fun _ _ _ _ _ => vts_nil) (fun _ _ _ _ _ => (ve_tup (va_cons (ve_callS (cr_minA rfl hr.units) sMin (by rfl) T.min b_min (vio_cons (ve_at (hu_of hr) (pv 1) (ve_var (pv 3))) (vio_cons (ve_at (hu_of hr) (pv 1) (ve_var (pv 4))) vio_nil))) (va_cons (ve_callS (cr_maxA rfl hr.units) sMax (by rfl) T.max b_max (vio_cons (ve_at (hu_of hr) (pv 1) (ve_var (pv 3))) (vio_cons (ve_at (hu_of hr) (pv 1) (ve_var (pv 4))) vio_nil))) (va_cons (ve_var (pv 5)) va_nil))))))
    (vss_one (vs_ret (ve_tup (va_cons (ve_at (hu_of hr) (pv 0) ve_int) (va_cons (ve_callTy call_tuple_of impTuple (by rfl) T.tuple b_tuple (va_cons (ve_callB (cr_sorted2 rfl hr.units) impSorted (by rfl) T.sorted b_sorted (va_cons (ve_frz (pv 2)) va_nil)) va_nil)) va_nil))))))
/-! law_draws -/
abbrev s_law_draws : Stmt := topS 3
abbrev N_law_draws : List Str := ["script", "many", "found", "at", "cell", "stir", "turn", "left", "one"]
abbrev p_law_draws : List Str := ["script", "many"]
theorem sc_law_draws : FnScope N_law_draws p_law_draws (defScope s_law_draws) := ⟨rfl, rfl, rfl, by decide +kernel, rfl, by decide +kernel, by decide +kernel⟩
abbrev a_law_draws : List Nat := ([2] ++ (([3, 4] ++ ([7] ++ (([6] ++ (([] ++ []) ++ [7])) ++ ([6] ++ ([8] ++ []))))) ++ ([5] ++ (([6] ++ ([5] ++ [])) ++ []))))
def body_law_draws : MS :=
    (dSeq (dSet 2 (dLst dNil))
    (dSeq (dFor (dEnum (dCons (dSl (dV 0) dNo (dEnd (dC (.int 63)))) dNil)) (gTp [3, 4])
    (dSeq (dSet 7 (dCallS [none] gAbs (dCons (dV 4) dNil)))
    (dIfS (dTB (d2 (gCmp cGe) (dV 7) (d2 gPow (dC (.int 10)) (dC (.int 18)))))
    (dFor (dRange1 (dCons (dC (.int 16)) dNil)) (gNm 6)
    (dSeq (dIfS (dTB (d2 (gCmp cGt) (dV 7) (dC (.int 0))))
    (dDrop (dMt 2 gApp (dCons (d2 gMod (dV 7) (dC (.int 1000003))) dNil))) dSkip)
    (dSet 7 (d2 gDiv (dV 7) (dC (.int 1000003)))))) (dFor (dRange1 (dCons (dC (.int 4)) dNil)) (gNm 6)
    (dSeq (dSet 8 (d2 gMod (d2 gAdd (d2 gAdd (d2 gAdd (d2 gMulA (dV 4) (dC (.int 48271))) (d2 gMulA (d2 gMulA (dC (.int 977)) (dV 6)) (dV 6))) (d2 gMulA (dC (.int 131)) (dV 3))) (dC (.int 1))) (dC (.int 2147483647))))
    (dDrop (dMt 2 gApp (dCons (d2 gDiv (d2 gMod (d2 gMulA (dV 8) (dV 8)) (dC (.int 2147483629))) (dC (.int 64))) dNil))))))))
    (dSeq (dSet 5 (d2 gMod (d2 gAdd (dC (.int 7919)) (d2 gMulA (dC (.int 40693)) (dCallS [some 2] gSum (dIO 2 dNil)))) (dC (.int 2147483629))))
    (dSeq (dFor (dRange2 (dCons (dCallS [some 2] gLen (dIO 2 dNil)) (dCons (dV 1) dNil))) (gNm 6)
    (dSeq (dSet 5 (d2 gMod (d2 gAdd (d2 gAdd (d2 gMulA (dV 5) (dV 5)) (dC (.int 40692))) (dV 6)) (dC (.int 2147483629))))
    (dDrop (dMt 2 gApp (dCons (d2 gDiv (dV 5) (dC (.int 8))) dNil)))))
    (dRet (dLst (dCons (dF 2) (dCons (dC (.int 0)) dNil))))))))
def F_law_draws : FnD := fnD 9 2 a_law_draws body_law_draws
theorem cal_law_draws {P : Program} {w : World} {K : PySem.W.Frag} {mg : Str → Option Value} {base : Heap} (T : Tops mg) (D : Def K mg "_law_draws" s_law_draws p_law_draws)  : Cal P w K mg base 1 "_law_draws" p_law_draws F_law_draws :=
  cal_mk (k := 0) D sc_law_draws fun f cdv A outer s H E hr =>
    (vss_cons (vs_set (i := 2) sc_law_draws.nd rfl (by first | exact .inl rfl | exact .inr rfl) (ve_lst va_nil))
    (vss_cons (vs_for (passes_of rfl) rfl (vi_enum (by rfl) T.enumerate (va_cons (ve_slice (ve_var (pv 0)) vo_none (vo_some ve_int)) va_nil)) (vg_tup rfl (vgs_cons (pg_name (i := 3) sc_law_draws.nd rfl (by first | exact .inl rfl | exact .inr rfl)) (vgs_cons (pg_name (i := 4) sc_law_draws.nd rfl (by first | exact .inl rfl | exact .inr rfl)) vgs_nil)))
    (vss_cons (vs_set (i := 7) sc_law_draws.nd rfl (by first | exact .inl rfl | exact .inr rfl) (ve_callS call_abs sAbs (by rfl) T.abs b_abs (vio_cons (ve_var (pv 4)) vio_nil)))
    (vss_one (vs_if (vt_cmp op_geC (impCmp cGe) (ve_var (pv 7)) (ve_op op_pow impPow ve_int ve_int) (nomark _)) (vss_one (vs_for (passes_of rfl) rfl (vi_range1 (by rfl) T.range (va_cons ve_int va_nil)) (vg_name (pg_name (i := 6) sc_law_draws.nd rfl (by first | exact .inl rfl | exact .inr rfl)))
    (vss_cons (vs_if (vt_cmp op_gtC (impCmp cGt) (ve_var (pv 7)) ve_int (nomark _)) (vss_one (vs_expr (ve_mt (name := "append") PySem.F.slot_list_append PySem.F.type_list_append mt_append impApp (pv 2) (va_cons (ve_op op_mod impMod (ve_var (pv 7)) ve_int) va_nil)))) vss_nil)
    (vss_one (vs_set (i := 7) sc_law_draws.nd rfl (by first | exact .inl rfl | exact .inr rfl) (ve_op op_fdiv impDiv (ve_var (pv 7)) ve_int)))))) (vss_one (vs_for (passes_of rfl) rfl (vi_range1 (by rfl) T.range (va_cons ve_int va_nil)) (vg_name (pg_name (i := 6) sc_law_draws.nd rfl (by first | exact .inl rfl | exact .inr rfl)))
    (vss_cons (vs_set (i := 8) sc_law_draws.nd rfl (by first | exact .inl rfl | exact .inr rfl) (ve_op op_mod impMod (ve_op op_add3 impAdd (ve_op op_add3 impAdd (ve_op op_add3 impAdd (ve_op op_mulA impMulA (ve_var (pv 4)) ve_int) (ve_op op_mulA impMulA (ve_op op_mulA impMulA ve_int (ve_var (pv 6))) (ve_var (pv 6)))) (ve_op op_mulA impMulA ve_int (ve_var (pv 3)))) ve_int) ve_int))
    (vss_one (vs_expr (ve_mt (name := "append") PySem.F.slot_list_append PySem.F.type_list_append mt_append impApp (pv 2) (va_cons (ve_op op_fdiv impDiv (ve_op op_mod impMod (ve_op op_mulA impMulA (ve_var (pv 8)) (ve_var (pv 8))) ve_int) ve_int) va_nil)))))))))))
    (vss_cons (vs_set (i := 5) sc_law_draws.nd rfl (by first | exact .inl rfl | exact .inr rfl) (ve_op op_mod impMod (ve_op op_add3 impAdd ve_int (ve_op op_mulA impMulA ve_int (ve_callS (cr_sum rfl) sSum (by rfl) T.sum b_sum (vio_slot (pv 2) vio_nil)))) ve_int))
    (vss_cons (vs_for (passes_of rfl) rfl (vi_range2 (by rfl) T.range (va_cons (ve_callS call_lenA sLen (by rfl) T.len b_len (vio_slot (pv 2) vio_nil)) (va_cons (ve_var (pv 1)) va_nil))) (vg_name (pg_name (i := 6) sc_law_draws.nd rfl (by first | exact .inl rfl | exact .inr rfl)))
    (vss_cons (vs_set (i := 5) sc_law_draws.nd rfl (by first | exact .inl rfl | exact .inr rfl) (ve_op op_mod impMod (ve_op op_add3 impAdd (ve_op op_add3 impAdd (ve_op op_mulA impMulA (ve_var (pv 5)) (ve_var (pv 5))) ve_int) (ve_var (pv 6))) ve_int))
    (vss_one (vs_expr (ve_mt (name := "append") PySem.F.slot_list_append PySem.F.type_list_append mt_append impApp (pv 2) (va_cons (ve_op op_fdiv impDiv (ve_var (pv 5)) ve_int) va_nil))))))
    (vss_one (vs_ret (ve_lst (va_cons (ve_frz (pv 2)) (va_cons ve_int va_nil)))))))))
/-! law_take -/
abbrev s_law_take : Stmt := topS 4
abbrev N_law_take : List Str := ["pot", "many", "number"]
abbrev p_law_take : List Str := ["pot", "many"]
theorem sc_law_take : FnScope N_law_take p_law_take (defScope s_law_take) := ⟨rfl, rfl, rfl, by decide +kernel, rfl, by decide +kernel, by decide +kernel⟩
abbrev a_law_take : List Nat := ([2] ++ ([] ++ []))
def body_law_take : MS :=
    (dSeq (dSet 2 (d2 gIx (dAt 0 (dC (.int 0))) (d2 gMod (dAt 0 (dC (.int 1))) (dCallS [none] gLen (dCons (dAt 0 (dC (.int 0))) dNil)))))
    (dSeq (dPut 0 (dC (.int 1)) (d2 gAdd (dAt 0 (dC (.int 1))) (dC (.int 1))))
    (dRet (d2 gMod (dV 2) (dV 1)))))
def F_law_take : FnD := fnD 3 2 a_law_take body_law_take
theorem cal_law_take {P : Program} {w : World} {K : PySem.W.Frag} {mg : Str → Option Value} {base : Heap} (T : Tops mg) (D : Def K mg "_law_take" s_law_take p_law_take)  : Cal P w K mg base 1 "_law_take" p_law_take F_law_take :=
  cal_mk (k := 0) D sc_law_take fun f cdv A outer s H E hr =>
    (vss_cons (vs_set (i := 2) sc_law_take.nd rfl (by first | exact .inl rfl | exact .inr rfl) (ve_ix (ve_at (hu_of hr) (pv 0) ve_int) (ve_op op_mod impMod (ve_at (hu_of hr) (pv 0) ve_int) (ve_callS call_lenA sLen (by rfl) T.len b_len (vio_cons (ve_at (hu_of hr) (pv 0) ve_int) vio_nil)))))
    (vss_cons (vs_put (hu_of hr) (pv 0) ve_int (ve_op op_add3 impAdd (ve_at (hu_of hr) (pv 0) ve_int) ve_int))
    (vss_one (vs_ret (ve_op op_mod impMod (ve_var (pv 2)) (ve_var (pv 1)))))))
/-! law_length -/
abbrev s_law_length : Stmt := topS 5
abbrev N_law_length : List Str := ["pot", "scale", "low", "far"]
abbrev p_law_length : List Str := ["pot", "scale"]
theorem sc_law_length : FnScope N_law_length p_law_length (defScope s_law_length) := ⟨rfl, rfl, rfl, by decide +kernel, rfl, by decide +kernel, by decide +kernel⟩
abbrev a_law_length : List Nat := ([2] ++ ([3] ++ []))
def body_law_length : MS :=
    (dSeq (dSet 2 (d2 gAdd (dC (.int 1)) (dFn [some 0, none] F_law_take (dIO 0 (dCons (dC (.int 9)) dNil)))))
    (dSeq (dSet 3 (d2 gIx (dLst (dCons (dC (.int 1)) (dCons (d2 gPow (dC (.int 10)) (dC (.int 7))) (dCons (d2 gPow (dC (.int 10)) (dC (.int 14))) (dCons (d2 gPow (dC (.int 10)) (dC (.int 21))) (dCons (d2 gPow (dC (.int 10)) (dC (.int 28))) dNil)))))) (dFn [some 0, none] F_law_take (dIO 0 (dCons (dC (.int 5)) dNil)))))
    (dRet (d2 gIx (dLst (dCons (dC (.int 1)) (dCons (dV 2) (dCons (d2 gMulA (dV 2) (d2 gIx (dLst (dCons (dC (.int 1)) (dCons (d2 gPow (dC (.int 10)) (dC (.int 3))) (dCons (d2 gPow (dC (.int 10)) (dC (.int 15))) (dCons (d2 gPow (dC (.int 10)) (dC (.int 29))) dNil))))) (d2 gMod (dAt 1 (dC (.int 1))) (dC (.int 4))))) (dCons (d2 gMulA (d2 gAdd (dC (.int 1)) (d2 gMod (dV 2) (dC (.int 3)))) (dV 3)) dNil))))) (dAt 1 (dC (.int 0)))))))
def F_law_length : FnD := fnD 4 2 a_law_length body_law_length
theorem cal_law_length {P : Program} {w : World} {K : PySem.W.Frag} {mg : Str → Option Value} {base : Heap} (T : Tops mg) (D : Def K mg "_law_length" s_law_length p_law_length) (c_law_take : Cal P w K mg base 1 "_law_take" p_law_take F_law_take) : Cal P w K mg base 2 "_law_length" p_law_length F_law_length :=
  cal_mk (k := 1) D sc_law_length fun f cdv A outer s H E hr =>
    (vss_cons (vs_set (i := 2) sc_law_length.nd rfl (by first | exact .inl rfl | exact .inr rfl) (ve_op op_add3 impAdd ve_int (ve_fn (c_law_take.mono (by decide)) hr (by rfl) (takes_of rfl rfl rfl rfl) (vio_slot (pv 0) (vio_cons ve_int vio_nil)))))
    (vss_cons (vs_set (i := 3) sc_law_length.nd rfl (by first | exact .inl rfl | exact .inr rfl) (ve_ix (ve_lst (va_cons ve_int (va_cons (ve_op op_pow impPow ve_int ve_int) (va_cons (ve_op op_pow impPow ve_int ve_int) (va_cons (ve_op op_pow impPow ve_int ve_int) (va_cons (ve_op op_pow impPow ve_int ve_int) va_nil)))))) (ve_fn (c_law_take.mono (by decide)) hr (by rfl) (takes_of rfl rfl rfl rfl) (vio_slot (pv 0) (vio_cons ve_int vio_nil)))))
    (vss_one (vs_ret (ve_ix (ve_lst (va_cons ve_int (va_cons (ve_var (pv 2)) (va_cons (ve_op op_mulA impMulA (ve_var (pv 2)) (ve_ix (ve_lst (va_cons ve_int (va_cons (ve_op op_pow impPow ve_int ve_int) (va_cons (ve_op op_pow impPow ve_int ve_int) (va_cons (ve_op op_pow impPow ve_int ve_int) va_nil))))) (ve_op op_mod impMod (ve_at (hu_of hr) (pv 1) ve_int) ve_int))) (va_cons (ve_op op_mulA impMulA (ve_op op_add3 impAdd ve_int (ve_op op_mod impMod (ve_var (pv 2)) ve_int)) (ve_var (pv 3))) va_nil))))) (ve_at (hu_of hr) (pv 1) ve_int))))))
/-! law_web -/
abbrev s_law_web : Stmt := topS 6
abbrev N_law_web : List Str := ["pot", "many", "extra", "scale", "names", "place", "found", "turn", "pair", "one", "other", "length"]
abbrev p_law_web : List Str := ["pot", "many", "extra", "scale"]
theorem sc_law_web : FnScope N_law_web p_law_web (defScope s_law_web) := ⟨rfl, rfl, rfl, by decide +kernel, rfl, by decide +kernel, by decide +kernel⟩
abbrev a_law_web : List Nat := ([4] ++ (([5] ++ []) ++ ([6] ++ (([5] ++ ([8] ++ [])) ++ (([7] ++ ([9] ++ ([10] ++ ([11] ++ ([] ++ []))))) ++ [])))))
def body_law_web : MS :=
    (dSeq (dSet 4 (dLst dNil))
    (dSeq (dFor (dRange1 (dCons (dV 1) dNil)) (gNm 5)
    (dDrop (dMt 4 gIns (dCons (dFn [some 0, none] F_law_take (dIO 0 (dCons (d2 gAdd (dV 5) (dC (.int 1))) dNil))) (dCons (dV 5) dNil)))))
    (dSeq (dSet 6 (dC (.dT true [] [])))
    (dSeq (dFor (dRange2 (dCons (dC (.int 1)) (dCons (dV 1) dNil))) (gNm 5)
    (dSeq (dSet 8 (dTup (dCons (dAt 4 (dFn [some 0, none] F_law_take (dIO 0 (dCons (dV 5) dNil)))) (dCons (dAt 4 (dV 5)) dNil))))
    (dPut 6 (dTup (dCons (dCallS [none] gMin (dCons (dV 8) dNil)) (dCons (dCallS [none] gMax (dCons (dV 8) dNil)) dNil))) (dFn [some 0, none] F_law_length (dIO 0 (dCons (dV 3) dNil))))))
    (dSeq (dFor (dRange1 (dCons (d2 gMulA (dV 2) (dCallS [none] gIntOf (dCons (d2 (gCmp cGt) (dV 1) (dC (.int 1))) dNil))) dNil)) (gNm 7)
    (dSeq (dSet 9 (dFn [some 0, none] F_law_take (dIO 0 (dCons (dV 1) dNil))))
    (dSeq (dSet 10 (d2 gMod (d2 gAdd (d2 gAdd (dV 9) (dC (.int 1))) (dFn [some 0, none] F_law_take (dIO 0 (dCons (dCallS [none, none] gMax (dCons (dC (.int 1)) (dCons (d2 gSub (dV 1) (dC (.int 1))) dNil))) dNil)))) (dV 1)))
    (dSeq (dSet 11 (dFn [some 0, none] F_law_length (dIO 0 (dCons (dV 3) dNil))))
    (dIfS (dAndT (dTB (d2 gNe (dV 9) (dV 10))) (dTB (d2 (gCmp cLt) (dCallS [some 6] gLen (dIO 6 dNil)) (dC (.int 220)))))
    (dDrop (dSetd 6 (dTup (dCons (dCallS [none, none] gMin (dCons (dV 9) (dCons (dV 10) dNil))) (dCons (dCallS [none, none] gMax (dCons (dV 9) (dCons (dV 10) dNil))) dNil))) (dV 11))) dSkip)))))
    (dRet (dTup (dCons (dV 1) (dCons (dCall gTuple (dCons (dLc [8] (dItems (dCall gSorted (dCons (dF 6) dNil))) (gNm 8) dYes (d2 gAdd (dV 8) (dTup (dCons (dAt 6 (dV 8)) dNil)))) dNil)) dNil)))))))))
def F_law_web : FnD := fnD 12 4 a_law_web body_law_web
theorem cal_law_web {P : Program} {w : World} {K : PySem.W.Frag} {mg : Str → Option Value} {base : Heap} (T : Tops mg) (D : Def K mg "_law_web" s_law_web p_law_web) (c_law_length : Cal P w K mg base 2 "_law_length" p_law_length F_law_length) (c_law_take : Cal P w K mg base 1 "_law_take" p_law_take F_law_take) : Cal P w K mg base 3 "_law_web" p_law_web F_law_web :=
  cal_mk (k := 2) D sc_law_web fun f cdv A outer s H E hr =>
    (vss_cons (vs_set (i := 4) sc_law_web.nd rfl (by first | exact .inl rfl | exact .inr rfl) (ve_lst va_nil))
    (vss_cons (vs_for (passes_of rfl) rfl (vi_range1 (by rfl) T.range (va_cons (ve_var (pv 1)) va_nil)) (vg_name (pg_name (i := 5) sc_law_web.nd rfl (by first | exact .inl rfl | exact .inr rfl)))
    (vss_one (vs_expr (ve_mt (name := "insert") PySem.F.slot_list_insert PySem.F.type_list_insert mt_insert impIns (pv 4) (va_cons (ve_fn (c_law_take.mono (by decide)) hr (by rfl) (takes_of rfl rfl rfl rfl) (vio_slot (pv 0) (vio_cons (ve_op op_add3 impAdd (ve_var (pv 5)) ve_int) vio_nil))) (va_cons (ve_var (pv 5)) va_nil))))))
    (vss_cons (vs_set (i := 6) sc_law_web.nd rfl (by first | exact .inl rfl | exact .inr rfl) ve_dnewT)
    (vss_cons (vs_for (passes_of rfl) rfl (vi_range2 (by rfl) T.range (va_cons ve_int (va_cons (ve_var (pv 1)) va_nil))) (vg_name (pg_name (i := 5) sc_law_web.nd rfl (by first | exact .inl rfl | exact .inr rfl)))
    (vss_cons (vs_set (i := 8) sc_law_web.nd rfl (by first | exact .inl rfl | exact .inr rfl) (ve_tup (va_cons (ve_at (hu_of hr) (pv 4) (ve_fn (c_law_take.mono (by decide)) hr (by rfl) (takes_of rfl rfl rfl rfl) (vio_slot (pv 0) (vio_cons (ve_var (pv 5)) vio_nil)))) (va_cons (ve_at (hu_of hr) (pv 4) (ve_var (pv 5))) va_nil))))
    (vss_one (vs_put (hu_of hr) (pv 6) (ve_tup (va_cons (ve_callS (cr_minA rfl hr.units) sMin (by rfl) T.min b_min (vio_cons (ve_var (pv 8)) vio_nil)) (va_cons (ve_callS (cr_maxA rfl hr.units) sMax (by rfl) T.max b_max (vio_cons (ve_var (pv 8)) vio_nil)) va_nil))) (ve_fn (c_law_length.mono (by decide)) hr (by rfl) (takes_of rfl rfl rfl rfl) (vio_slot (pv 0) (vio_cons (ve_var (pv 3)) vio_nil)))))))
    (vss_cons (vs_for (passes_of rfl) rfl (vi_range1 (by rfl) T.range (va_cons (ve_op op_mulA impMulA (ve_var (pv 2)) (ve_callST call_int1 sIntOf (by rfl) T.int b_int (vio_cons (ve_cmp op_gtC (impCmp cGt) (ve_var (pv 1)) ve_int (nomark _)) vio_nil))) va_nil)) (vg_name (pg_name (i := 7) sc_law_web.nd rfl (by first | exact .inl rfl | exact .inr rfl)))
    (vss_cons (vs_set (i := 9) sc_law_web.nd rfl (by first | exact .inl rfl | exact .inr rfl) (ve_fn (c_law_take.mono (by decide)) hr (by rfl) (takes_of rfl rfl rfl rfl) (vio_slot (pv 0) (vio_cons (ve_var (pv 1)) vio_nil))))
    (vss_cons (vs_set (i := 10) sc_law_web.nd rfl (by first | exact .inl rfl | exact .inr rfl) (ve_op op_mod impMod (ve_op op_add3 impAdd (ve_op op_add3 impAdd (ve_var (pv 9)) ve_int) (ve_fn (c_law_take.mono (by decide)) hr (by rfl) (takes_of rfl rfl rfl rfl) (vio_slot (pv 0) (vio_cons (ve_callS (cr_maxA rfl hr.units) sMax (by rfl) T.max b_max (vio_cons ve_int (vio_cons (ve_op op_sub impSub (ve_var (pv 1)) ve_int) vio_nil))) vio_nil)))) (ve_var (pv 1))))
    (vss_cons (vs_set (i := 11) sc_law_web.nd rfl (by first | exact .inl rfl | exact .inr rfl) (ve_fn (c_law_length.mono (by decide)) hr (by rfl) (takes_of rfl rfl rfl rfl) (vio_slot (pv 0) (vio_cons (ve_var (pv 3)) vio_nil))))
    (vss_one (vs_if (vt_bool (vw_and (vt_cmp (op_neD hr.units) impNe (ve_var (pv 9)) (ve_var (pv 10)) (nomark _)) (vw_one (vt_cmp op_ltC (impCmp cLt) (ve_callS call_lenA sLen (by rfl) T.len b_len (vio_slot (pv 6) vio_nil)) ve_int (nomark _))))) (vss_one (vs_expr (ve_setdT (hu_of hr) (pv 6) (ve_tup (va_cons (ve_callS (cr_minA rfl hr.units) sMin (by rfl) T.min b_min (vio_cons (ve_var (pv 9)) (vio_cons (ve_var (pv 10)) vio_nil))) (va_cons (ve_callS (cr_maxA rfl hr.units) sMax (by rfl) T.max b_max (vio_cons (ve_var (pv 9)) (vio_cons (ve_var (pv 10)) vio_nil))) va_nil))) (ve_var (pv 11)) ⟨rfl, rfl, rfl, rfl⟩))) vss_nil))))))
    (vss_one (vs_ret (ve_tup (va_cons (ve_var (pv 1)) (va_cons (ve_callTy call_tuple_of impTuple (by rfl) T.tuple b_tuple (va_cons (ve_lc (own := [("pair", 8)]) rfl sc_law_web.nd (vi_seq (ve_callB (cr_sorted2 rfl hr.units) impSorted (by rfl) T.sorted b_sorted (va_cons (ve_frz (pv 6)) va_nil))) (blkOk_by (own := [("pair", 8)]) (N := N_law_web) (sc := defScope s_law_web) (by decide +kernel)) (fun _ _ _ _ _ => (vg_name (pg_name (i := 8) sc_law_web.nd rfl (by first | exact .inl rfl | exact .inr rfl)))) (fun _ _ _ _ _ => vts_nil) (fun _ _ _ _ _ => (ve_op op_add3 impAdd (ve_var (pv 8)) (ve_tup (va_cons (ve_at (hu_of hr) (pv 6) (ve_var (pv 8))) va_nil))))) va_nil)) va_nil))))))))))
/-! law_renamed -/
abbrev s_law_renamed : Stmt := topS 7
abbrev N_law_renamed : List Str := ["web", "order", "found", "a", "b", "length"]
abbrev p_law_renamed : List Str := ["web", "order"]
theorem sc_law_renamed : FnScope N_law_renamed p_law_renamed (defScope s_law_renamed) := ⟨rfl, rfl, rfl, by decide +kernel, rfl, by decide +kernel, by decide +kernel⟩
abbrev a_law_renamed : List Nat := ([2] ++ (([3, 4, 5] ++ []) ++ []))
def body_law_renamed : MS :=
    (dSeq (dSet 2 (dLst dNil))
    (dSeq (dFor (dItems (dAt 0 (dC (.int 1)))) (gTp [3, 4, 5])
    (dDrop (dMt 2 gApp (dCons (dTup (dCons (dCallS [none, none] gMin (dCons (dAt 1 (dV 3)) (dCons (dAt 1 (dV 4)) dNil))) (dCons (dCallS [none, none] gMax (dCons (dAt 1 (dV 3)) (dCons (dAt 1 (dV 4)) dNil))) (dCons (dV 5) dNil)))) dNil))))
    (dRet (dTup (dCons (dAt 0 (dC (.int 0))) (dCons (dCall gTuple (dCons (dCall gSorted (dCons (dF 2) dNil)) dNil)) dNil))))))
def F_law_renamed : FnD := fnD 6 2 a_law_renamed body_law_renamed
theorem cal_law_renamed {P : Program} {w : World} {K : PySem.W.Frag} {mg : Str → Option Value} {base : Heap} (T : Tops mg) (D : Def K mg "_law_renamed" s_law_renamed p_law_renamed)  : Cal P w K mg base 1 "_law_renamed" p_law_renamed F_law_renamed :=
  cal_mk (k := 0) D sc_law_renamed fun f cdv A outer s H E hr =>
    (vss_cons (vs_set (i := 2) sc_law_renamed.nd rfl (by first | exact .inl rfl | exact .inr rfl) (ve_lst va_nil))
    (vss_cons (vs_for (passes_of rfl) rfl (vi_seq (ve_at (hu_of hr) (pv 0) ve_int)) (vg_tup rfl (vgs_cons (pg_name (i := 3) sc_law_renamed.nd rfl (by first | exact .inl rfl | exact .inr rfl)) (vgs_cons (pg_name (i := 4) sc_law_renamed.nd rfl (by first | exact .inl rfl | exact .inr rfl)) (vgs_cons (pg_name (i := 5) sc_law_renamed.nd rfl (by first | exact .inl rfl | exact .inr rfl)) vgs_nil))))
    (vss_one (vs_expr (ve_mt (name := "append") PySem.F.slot_list_append PySem.F.type_list_append mt_append impApp (pv 2) (va_cons (ve_tup (va_cons (ve_callS (cr_minA rfl hr.units) sMin (by rfl) T.min b_min (vio_cons (ve_at (hu_of hr) (pv 1) (ve_var (pv 3))) (vio_cons (ve_at (hu_of hr) (pv 1) (ve_var (pv 4))) vio_nil))) (va_cons (ve_callS (cr_maxA rfl hr.units) sMax (by rfl) T.max b_max (vio_cons (ve_at (hu_of hr) (pv 1) (ve_var (pv 3))) (vio_cons (ve_at (hu_of hr) (pv 1) (ve_var (pv 4))) vio_nil))) (va_cons (ve_var (pv 5)) va_nil)))) va_nil)))))
    (vss_one (vs_ret (ve_tup (va_cons (ve_at (hu_of hr) (pv 0) ve_int) (va_cons (ve_callTy call_tuple_of impTuple (by rfl) T.tuple b_tuple (va_cons (ve_callB (cr_sorted2 rfl hr.units) impSorted (by rfl) T.sorted b_sorted (va_cons (ve_frz (pv 2)) va_nil)) va_nil)) va_nil)))))))
/-! law_order -/
abbrev s_law_order : Stmt := topS 8
abbrev N_law_order : List Str := ["pot", "many", "order", "place"]
abbrev p_law_order : List Str := ["pot", "many"]
theorem sc_law_order : FnScope N_law_order p_law_order (defScope s_law_order) := ⟨rfl, rfl, rfl, by decide +kernel, rfl, by decide +kernel, by decide +kernel⟩
abbrev a_law_order : List Nat := ([2] ++ (([3] ++ []) ++ []))
def body_law_order : MS :=
    (dSeq (dSet 2 (dLst dNil))
    (dSeq (dFor (dRange1 (dCons (dV 1) dNil)) (gNm 3)
    (dDrop (dMt 2 gIns (dCons (dFn [some 0, none] F_law_take (dIO 0 (dCons (d2 gAdd (dV 3) (dC (.int 1))) dNil))) (dCons (dV 3) dNil)))))
    (dRet (dM 2))))
def F_law_order : FnD := fnD 4 2 a_law_order body_law_order
theorem cal_law_order {P : Program} {w : World} {K : PySem.W.Frag} {mg : Str → Option Value} {base : Heap} (T : Tops mg) (D : Def K mg "_law_order" s_law_order p_law_order) (c_law_take : Cal P w K mg base 1 "_law_take" p_law_take F_law_take) : Cal P w K mg base 2 "_law_order" p_law_order F_law_order :=
  cal_mk (k := 1) D sc_law_order fun f cdv A outer s H E hr =>
    (vss_cons (vs_set (i := 2) sc_law_order.nd rfl (by first | exact .inl rfl | exact .inr rfl) (ve_lst va_nil))
    (vss_cons (vs_for (passes_of rfl) rfl (vi_range1 (by rfl) T.range (va_cons (ve_var (pv 1)) va_nil)) (vg_name (pg_name (i := 3) sc_law_order.nd rfl (by first | exact .inl rfl | exact .inr rfl)))
    (vss_one (vs_expr (ve_mt (name := "insert") PySem.F.slot_list_insert PySem.F.type_list_insert mt_insert impIns (pv 2) (va_cons (ve_fn (c_law_take.mono (by decide)) hr (by rfl) (takes_of rfl rfl rfl rfl) (vio_slot (pv 0) (vio_cons (ve_op op_add3 impAdd (ve_var (pv 3)) ve_int) vio_nil))) (va_cons (ve_var (pv 3)) va_nil))))))
    (vss_one (vs_ret (ve_mov (pv 2))))))
/-! law_alike -/
abbrev s_law_alike : Stmt := topS 9
abbrev N_law_alike : List Str := ["found", "due", "one", "other"]
abbrev p_law_alike : List Str := ["found", "due"]
theorem sc_law_alike : FnScope N_law_alike p_law_alike (defScope s_law_alike) := ⟨rfl, rfl, rfl, by decide +kernel, rfl, by decide +kernel, by decide +kernel⟩
abbrev a_law_alike : List Nat := (((([] ++ []) ++ []) ++ []) ++ (([] ++ []) ++ (([] ++ []) ++ [])))
def body_law_alike (R : FnD) : MS :=
    (dSeq (dIfS (dTB (dIsa ["list", "tuple"] (dV 1)))
    (dSeq (dIfS (dOrT (dTB (d2 gNe (dIsa ["list"] (dV 0)) (dIsa ["list"] (dV 1)))) (dTB (d2 gNe (dIsa ["tuple"] (dV 0)) (dIsa ["tuple"] (dV 1)))))
    (dRet (dC (.bl false))) dSkip)
    (dRet (dAnd (d2 gEq (dCallS [none] gLen (dCons (dV 0) dNil)) (dCallS [none] gLen (dCons (dV 1) dNil))) (dCallS [none] gAll (dCons (dLc [2, 3] (dZip (dCons (dV 0) (dCons (dV 1) dNil))) (gTp [2, 3]) dYes (dFn [none, none] R (dCons (dV 2) (dCons (dV 3) dNil)))) dNil))))) dSkip)
    (dSeq (dIfS (dOrT (dTB (dIsa ["bool"] (dV 1))) (dTB (dIsa ["bool"] (dV 0))))
    (dRet (dAnd (dIsa ["bool"] (dV 1)) (dAnd (dIsa ["bool"] (dV 0)) (d2 gEq (dV 0) (dV 1))))) dSkip)
    (dSeq (dIfS (dTB (dIsa ["int"] (dV 1)))
    (dRet (dAnd (dIsa ["int"] (dV 0)) (d2 gEq (dV 0) (dV 1)))) dSkip)
    (dRet (d2 gEq (dV 0) (dV 1))))))
def F_law_alike : Nat → FnD
  | 0 => fun _ => none
  | n + 1 => fnD 4 2 a_law_alike (body_law_alike (F_law_alike n))
theorem cal_law_alike {P : Program} {w : World} {K : PySem.W.Frag} {mg : Str → Option Value} {base : Heap} (T : Tops mg) (D : Def K mg "_law_alike" s_law_alike p_law_alike)  : ∀ n, Cal P w K mg base (n + 0) "_law_alike" p_law_alike (F_law_alike n)
  | 0 => cal_none D
  | n + 1 => by
    have c_self := cal_law_alike (P := P) (w := w) (base := base) T D  n
    have e : n + 1 + 0 = (n + 0) + 1 := by omega
    rw [e]
    exact cal_mk (k := n + 0) D sc_law_alike fun f cdv A outer s H E hr =>
    (vss_cons (vs_if (vt_val (ve_isa2 (by rfl) T.isinstance (ve_var (pv 1)) (pe_bltn (v := .ty "list") (by rfl) T.list b_list rfl) (pe_bltn (v := .ty "tuple") (by rfl) T.tuple b_tuple rfl))) (vss_cons (vs_if (vt_bool (vw_or (vt_cmp (op_neD hr.units) impNe (ve_isa (by rfl) T.isinstance (ve_var (pv 0)) (pe_bltn (v := .ty "list") (by rfl) T.list b_list rfl)) (ve_isa (by rfl) T.isinstance (ve_var (pv 1)) (pe_bltn (v := .ty "list") (by rfl) T.list b_list rfl)) (nomark _)) (vw_or1 (vt_cmp (op_neD hr.units) impNe (ve_isa (by rfl) T.isinstance (ve_var (pv 0)) (pe_bltn (v := .ty "tuple") (by rfl) T.tuple b_tuple rfl)) (ve_isa (by rfl) T.isinstance (ve_var (pv 1)) (pe_bltn (v := .ty "tuple") (by rfl) T.tuple b_tuple rfl)) (nomark _))))) (vss_one (vs_ret ve_bl)) vss_nil)
    (vss_one (vs_ret (ve_and (ve_cmp (op_eqD hr.units) impEq (ve_callS call_lenA sLen (by rfl) T.len b_len (vio_cons (ve_var (pv 0)) vio_nil)) (ve_callS call_lenA sLen (by rfl) T.len b_len (vio_cons (ve_var (pv 1)) vio_nil)) (nomark _)) (ve_one (ve_callS (cr_all rfl) sAll (by rfl) T.all b_all (vio_cons (ve_lc (own := [("one", 2), ("other", 3)]) rfl sc_law_alike.nd (vi_zip (by rfl) T.zip (va_cons (ve_var (pv 0)) (va_cons (ve_var (pv 1)) va_nil))) (blkOk_by (own := [("one", 2), ("other", 3)]) (N := N_law_alike) (sc := defScope s_law_alike) (by decide +kernel)) (fun _ _ _ _ _ => (vg_tup rfl (vgs_cons (pg_name (i := 2) sc_law_alike.nd rfl (by first | exact .inl rfl | exact .inr rfl)) (vgs_cons (pg_name (i := 3) sc_law_alike.nd rfl (by first | exact .inl rfl | exact .inr rfl)) vgs_nil)))) (fun _ _ _ _ _ => vts_nil) (fun _ _ _ _ _ => (ve_fn c_self hr (by rfl) takesF (vio_cons (ve_var (pv 2)) (vio_cons (ve_var (pv 3)) vio_nil))))) vio_nil))))))) vss_nil)
    (vss_cons (vs_if (vt_bool (vw_or (vt_val (ve_isa (by rfl) T.isinstance (ve_var (pv 1)) (pe_bltn (v := .ty "bool") (by rfl) T.bool b_bool rfl))) (vw_or1 (vt_val (ve_isa (by rfl) T.isinstance (ve_var (pv 0)) (pe_bltn (v := .ty "bool") (by rfl) T.bool b_bool rfl)))))) (vss_one (vs_ret (ve_and (ve_isa (by rfl) T.isinstance (ve_var (pv 1)) (pe_bltn (v := .ty "bool") (by rfl) T.bool b_bool rfl)) (ve_and (ve_isa (by rfl) T.isinstance (ve_var (pv 0)) (pe_bltn (v := .ty "bool") (by rfl) T.bool b_bool rfl)) (ve_one (ve_cmp (op_eqD hr.units) impEq (ve_var (pv 0)) (ve_var (pv 1)) (nomark _))))))) vss_nil)
    (vss_cons (vs_if (vt_val (ve_isa (by rfl) T.isinstance (ve_var (pv 1)) (pe_bltn (v := .ty "int") (by rfl) T.int b_int rfl))) (vss_one (vs_ret (ve_and (ve_isa (by rfl) T.isinstance (ve_var (pv 0)) (pe_bltn (v := .ty "int") (by rfl) T.int b_int rfl)) (ve_one (ve_cmp (op_eqD hr.units) impEq (ve_var (pv 0)) (ve_var (pv 1)) (nomark _)))))) vss_nil)
    (vss_one (vs_ret (ve_cmp (op_eqD hr.units) impEq (ve_var (pv 0)) (ve_var (pv 1)) (nomark _)))))))
/-! law_copied -/
abbrev s_law_copied : Stmt := topS 10
abbrev N_law_copied : List Str := ["thing", "one"]
abbrev p_law_copied : List Str := ["thing"]
theorem sc_law_copied : FnScope N_law_copied p_law_copied (defScope s_law_copied) := ⟨rfl, rfl, rfl, by decide +kernel, rfl, by decide +kernel, by decide +kernel⟩
abbrev a_law_copied : List Nat := (([] ++ []) ++ (([] ++ []) ++ []))
def body_law_copied (R : FnD) : MS :=
    (dSeq (dIfS (dTB (dIsa ["list"] (dV 0)))
    (dRet (dLc [1] (dItems (dV 0)) (gNm 1) dYes (dFn [none] R (dCons (dV 1) dNil)))) dSkip)
    (dSeq (dIfS (dTB (dIsa ["tuple"] (dV 0)))
    (dRet (dCall gTuple (dCons (dLc [1] (dItems (dV 0)) (gNm 1) dYes (dFn [none] R (dCons (dV 1) dNil))) dNil))) dSkip)
    (dRet (dV 0))))
def F_law_copied : Nat → FnD
  | 0 => fun _ => none
  | n + 1 => fnD 2 1 a_law_copied (body_law_copied (F_law_copied n))
theorem cal_law_copied {P : Program} {w : World} {K : PySem.W.Frag} {mg : Str → Option Value} {base : Heap} (T : Tops mg) (D : Def K mg "_law_copied" s_law_copied p_law_copied)  : ∀ n, Cal P w K mg base (n + 0) "_law_copied" p_law_copied (F_law_copied n)
  | 0 => cal_none D
  | n + 1 => by
    have c_self := cal_law_copied (P := P) (w := w) (base := base) T D  n
    have e : n + 1 + 0 = (n + 0) + 1 := by omega
    rw [e]
    exact cal_mk (k := n + 0) D sc_law_copied fun f cdv A outer s H E hr =>
    (vss_cons (vs_if (vt_val (ve_isa (by rfl) T.isinstance (ve_var (pv 0)) (pe_bltn (v := .ty "list") (by rfl) T.list b_list rfl))) (vss_one (vs_ret (ve_lc (own := [("one", 1)]) rfl sc_law_copied.nd (vi_seq (ve_var (pv 0))) (blkOk_by (own := [("one", 1)]) (N := N_law_copied) (sc := defScope s_law_copied) (by decide +kernel)) (fun _ _ _ _ _ => (vg_name (pg_name (i := 1) sc_law_copied.nd rfl (by first | exact .inl rfl | exact .inr rfl)))) (fun _ _ _ _ _ => vts_nil) (fun _ _ _ _ _ => (ve_fn c_self hr (by rfl) takesF (vio_cons (ve_var (pv 1)) vio_nil)))))) vss_nil)
    (vss_cons (vs_if (vt_val (ve_isa (by rfl) T.isinstance (ve_var (pv 0)) (pe_bltn (v := .ty "tuple") (by rfl) T.tuple b_tuple rfl))) (vss_one (vs_ret (ve_callTy call_tuple_of impTuple (by rfl) T.tuple b_tuple (va_cons (ve_lc (own := [("one", 1)]) rfl sc_law_copied.nd (vi_seq (ve_var (pv 0))) (blkOk_by (own := [("one", 1)]) (N := N_law_copied) (sc := defScope s_law_copied) (by decide +kernel)) (fun _ _ _ _ _ => (vg_name (pg_name (i := 1) sc_law_copied.nd rfl (by first | exact .inl rfl | exact .inr rfl)))) (fun _ _ _ _ _ => vts_nil) (fun _ _ _ _ _ => (ve_fn c_self hr (by rfl) takesF (vio_cons (ve_var (pv 1)) vio_nil)))) va_nil)))) vss_nil)
    (vss_one (vs_ret (ve_var (pv 0))))))
/-! law -/
abbrev s_law : Stmt := topS 11
abbrev N_law : List Str := ["script", "pot", "turn", "many", "web", "order", "back", "handed", "found", "a", "b", "length", "place"]
abbrev p_law : List Str := ["script"]
theorem sc_law : FnScope N_law p_law (defScope s_law) := ⟨rfl, rfl, rfl, by decide +kernel, rfl, by decide +kernel, by decide +kernel⟩
abbrev a_law : List Nat := ([1] ++ (([2] ++ ([3] ++ ([4] ++ ((([9, 10, 11] ++ [4]) ++ []) ++ ([5] ++ ([6] ++ (([5] ++ []) ++ ([7] ++ ([8] ++ (([] ++ []) ++ ([] ++ []))))))))))) ++ []))
def body_law : MS :=
    (dSeq (dSet 1 (dFn [none, none] F_law_draws (dCons (dV 0) (dCons (dC (.int 900)) dNil))))
    (dSeq (dFor (dRange1 (dCons (d2 gAdd (dC (.int 1)) (dCallS [none, none] gMin (dCons (dC (.int 6)) (dCons (dCallS [none] gLen (dCons (dV 0) dNil)) dNil)))) dNil)) (gNm 2)
    (dSeq (dSet 3 (d2 gIx (dLst (dCons (d2 gAdd (dC (.int 1)) (dFn [some 1, none] F_law_take (dIO 1 (dCons (dC (.int 12)) dNil)))) (dCons (d2 gAdd (dC (.int 13)) (dFn [some 1, none] F_law_take (dIO 1 (dCons (dC (.int 48)) dNil)))) dNil))) (dCallS [none] gIntOf (dCons (dAnd (d2 gEq (dFn [some 1, none] F_law_take (dIO 1 (dCons (dC (.int 8)) dNil))) (dC (.int 7))) (d2 gEq (dV 2) (dC (.int 0)))) dNil))))
    (dSeq (dSet 4 (dFn [some 1, none, none, none] F_law_web (dIO 1 (dCons (dV 3) (dCons (d2 gIx (dLst (dCons (dFn [some 1, none] F_law_take (dIO 1 (dCons (dC (.int 12)) dNil))) (dCons (dC (.int 220)) dNil))) (dCallS [none] gIntOf (dCons (d2 (gCmp cGt) (dV 3) (dC (.int 12))) dNil))) (dCons (dFz (dLst (dCons (dFn [some 1, none] F_law_take (dIO 1 (dCons (dC (.int 4)) dNil))) (dCons (dFn [some 1, none] F_law_take (dIO 1 (dCons (dC (.int 4)) dNil))) dNil)))) dNil))))))
    (dSeq (dIfS (dAndT (dTB (d2 gNe (dAt 4 (dC (.int 1))) (dTup dNil))) (dTB (d2 gEq (dFn [some 1, none] F_law_take (dIO 1 (dCons (dC (.int 4)) dNil))) (dC (.int 0)))))
    (dSeq (dAsg (d2 gIx (dAt 4 (dC (.int 1))) (d1 gNeg (dC (.int 1)))) (gTp [9, 10, 11]))
    (dSet 4 (dTup (dCons (dV 3) (dCons (d2 gAdd (dSl (dAt 4 (dC (.int 1))) dNo (dEnd (d1 gNeg (dC (.int 1))))) (dTup (dCons (dTup (dCons (dV 9) (dCons (dV 10) (dCons (d2 gPow (dC (.int 10)) (dC (.int 30))) dNil)))) dNil))) dNil))))) dSkip)
    (dSeq (dSet 5 (dFn [some 1, none] F_law_order (dIO 1 (dCons (dV 3) dNil))))
    (dSeq (dSet 6 (dLc [12] (dRange1 (dCons (dV 3) dNil)) (gNm 12) dYes (dIdx 5 (dCons (dV 12) dNil))))
    (dSeq (dIfS (dTB (d2 gEq (dFn [some 1, none] F_law_take (dIO 1 (dCons (dC (.int 2)) dNil))) (dC (.int 1))))
    (dSet 5 (dCall gTuple (dCons (dF 5) dNil))) dSkip)
    (dSeq (dSet 7 (dLst (dCons (dFz (dFn [none] (F_law_copied 20) (dCons (dV 4) dNil))) (dCons (dFz (dFn [none] (F_law_copied 20) (dCons (dF 5) dNil))) dNil))))
    (dSeq (dSet 8 (dFn [none, none] F_renamed_web (dCons (dAt 7 (dC (.int 0))) (dCons (dAt 7 (dC (.int 1))) dNil))))
    (dSeq (dIfS (dOrT (dNotT (dTB (dFn [none, none] (F_law_alike 20) (dCons (dV 8) (dCons (dFn [none, none] F_law_renamed (dCons (dV 4) (dCons (dF 5) dNil))) dNil))))) (dNotT (dTB (dFn [none, none] (F_law_alike 20) (dCons (dF 7) (dCons (dFz (dLst (dCons (dV 4) (dCons (dF 5) dNil)))) dNil))))))
    (dRet (dC (.bl false))) dSkip)
    (dIfS (dNotT (dTB (dFn [none, none] (F_law_alike 20) (dCons (dFn [none, none] F_renamed_web (dCons (dV 8) (dCons (dF 6) dNil))) (dCons (dV 4) dNil)))))
    (dRet (dC (.bl false))) dSkip)))))))))))
    (dRet (dC (.bl true)))))
def F_law : FnD := fnD 13 1 a_law body_law
theorem cal_law {P : Program} {w : World} {K : PySem.W.Frag} {mg : Str → Option Value} {base : Heap} (T : Tops mg) {f : Addr} {fd : FuncData} (D : Fun K "law" "law" s_law f fd) (c_renamed_web : Cal P w K mg base 1 "renamed_web" p_renamed_web F_renamed_web) (c_law_alike : Cal P w K mg base 20 "_law_alike" p_law_alike (F_law_alike 20)) (c_law_renamed : Cal P w K mg base 1 "_law_renamed" p_law_renamed F_law_renamed) (c_law_copied : Cal P w K mg base 20 "_law_copied" p_law_copied (F_law_copied 20)) (c_law_take : Cal P w K mg base 1 "_law_take" p_law_take F_law_take) (c_law_order : Cal P w K mg base 2 "_law_order" p_law_order F_law_order) (c_law_web : Cal P w K mg base 3 "_law_web" p_law_web F_law_web) (c_law_draws : Cal P w K mg base 1 "_law_draws" p_law_draws F_law_draws) : FnOk P w K mg base (L2.CX P w) 21 f fd p_law (spOf K mg F_law) :=
  fn_ok (k := 20) D sc_law fun cdv A outer s H E hr =>
    (vss_cons (vs_set (i := 1) sc_law.nd rfl (by first | exact .inl rfl | exact .inr rfl) (ve_fn (c_law_draws.mono (by decide)) hr (by rfl) (takes_of rfl rfl rfl rfl) (vio_cons (ve_var (pv 0)) (vio_cons ve_int vio_nil))))
    (vss_cons (vs_for (passes_of rfl) rfl (vi_range1 (by rfl) T.range (va_cons (ve_op op_add3 impAdd ve_int (ve_callS (cr_minA rfl hr.units) sMin (by rfl) T.min b_min (vio_cons ve_int (vio_cons (ve_callS call_lenA sLen (by rfl) T.len b_len (vio_cons (ve_var (pv 0)) vio_nil)) vio_nil)))) va_nil)) (vg_name (pg_name (i := 2) sc_law.nd rfl (by first | exact .inl rfl | exact .inr rfl)))
    (vss_cons (vs_set (i := 3) sc_law.nd rfl (by first | exact .inl rfl | exact .inr rfl) (ve_ix (ve_lst (va_cons (ve_op op_add3 impAdd ve_int (ve_fn (c_law_take.mono (by decide)) hr (by rfl) (takes_of rfl rfl rfl rfl) (vio_slot (pv 1) (vio_cons ve_int vio_nil)))) (va_cons (ve_op op_add3 impAdd ve_int (ve_fn (c_law_take.mono (by decide)) hr (by rfl) (takes_of rfl rfl rfl rfl) (vio_slot (pv 1) (vio_cons ve_int vio_nil)))) va_nil))) (ve_callST call_int1 sIntOf (by rfl) T.int b_int (vio_cons (ve_and (ve_cmp (op_eqD hr.units) impEq (ve_fn (c_law_take.mono (by decide)) hr (by rfl) (takes_of rfl rfl rfl rfl) (vio_slot (pv 1) (vio_cons ve_int vio_nil))) ve_int (nomark _)) (ve_one (ve_cmp (op_eqD hr.units) impEq (ve_var (pv 2)) ve_int (nomark _)))) vio_nil))))
    (vss_cons (vs_set (i := 4) sc_law.nd rfl (by first | exact .inl rfl | exact .inr rfl) (ve_fn (c_law_web.mono (by decide)) hr (by rfl) (takes_of rfl rfl rfl rfl) (vio_slot (pv 1) (vio_cons (ve_var (pv 3)) (vio_cons (ve_ix (ve_lst (va_cons (ve_fn (c_law_take.mono (by decide)) hr (by rfl) (takes_of rfl rfl rfl rfl) (vio_slot (pv 1) (vio_cons ve_int vio_nil))) (va_cons ve_int va_nil))) (ve_callST call_int1 sIntOf (by rfl) T.int b_int (vio_cons (ve_cmp op_gtC (impCmp cGt) (ve_var (pv 3)) ve_int (nomark _)) vio_nil))) (vio_cons (ve_fz (ve_lst (va_cons (ve_fn (c_law_take.mono (by decide)) hr (by rfl) (takes_of rfl rfl rfl rfl) (vio_slot (pv 1) (vio_cons ve_int vio_nil))) (va_cons (ve_fn (c_law_take.mono (by decide)) hr (by rfl) (takes_of rfl rfl rfl rfl) (vio_slot (pv 1) (vio_cons ve_int vio_nil))) va_nil)))) vio_nil))))))
    (vss_cons (vs_if (vt_bool (vw_and (vt_cmp (op_neD hr.units) impNe (ve_at (hu_of hr) (pv 4) ve_int) (ve_tup va_nil) (nomark _)) (vw_one (vt_cmp (op_eqD hr.units) impEq (ve_fn (c_law_take.mono (by decide)) hr (by rfl) (takes_of rfl rfl rfl rfl) (vio_slot (pv 1) (vio_cons ve_int vio_nil))) ve_int (nomark _))))) (vss_cons (vs_asg (ve_ix (ve_at (hu_of hr) (pv 4) ve_int) (ve_un un_neg impNeg ve_int)) (vg_tup rfl (vgs_cons (pg_name (i := 9) sc_law.nd rfl (by first | exact .inl rfl | exact .inr rfl)) (vgs_cons (pg_name (i := 10) sc_law.nd rfl (by first | exact .inl rfl | exact .inr rfl)) (vgs_cons (pg_name (i := 11) sc_law.nd rfl (by first | exact .inl rfl | exact .inr rfl)) vgs_nil)))))
    (vss_one (vs_set (i := 4) sc_law.nd rfl (by first | exact .inl rfl | exact .inr rfl) (ve_tup (va_cons (ve_var (pv 3)) (va_cons (ve_op op_add3 impAdd (ve_slice (ve_at (hu_of hr) (pv 4) ve_int) vo_none (vo_some (ve_un un_neg impNeg ve_int))) (ve_tup (va_cons (ve_tup (va_cons (ve_var (pv 9)) (va_cons (ve_var (pv 10)) (va_cons (ve_op op_pow impPow ve_int ve_int) va_nil)))) va_nil))) va_nil)))))) vss_nil)
    (vss_cons (vs_set (i := 5) sc_law.nd rfl (by first | exact .inl rfl | exact .inr rfl) (ve_fn (c_law_order.mono (by decide)) hr (by rfl) (takes_of rfl rfl rfl rfl) (vio_slot (pv 1) (vio_cons (ve_var (pv 3)) vio_nil))))
    (vss_cons (vs_setLc (i := 6) (own := [("place", 12)]) rfl sc_law.nd rfl rfl (sw_true rfl rfl rfl (by decide +kernel)) (vi_range1 (by rfl) T.range (va_cons (ve_var (pv 3)) va_nil)) (blkOk_by (own := [("place", 12)]) (N := N_law) (sc := defScope s_law) (by decide +kernel)) (fun _ _ _ _ _ => (vg_name (pg_name (i := 12) sc_law.nd rfl (by first | exact .inl rfl | exact .inr rfl)))) (fun _ _ _ _ _ => vts_nil) (fun _ _ _ _ _ => (ve_index (room65 hr) (pv 5) (va_cons (ve_var (pv 12)) va_nil))))
    (vss_cons (vs_if (vt_cmp (op_eqD hr.units) impEq (ve_fn (c_law_take.mono (by decide)) hr (by rfl) (takes_of rfl rfl rfl rfl) (vio_slot (pv 1) (vio_cons ve_int vio_nil))) ve_int (nomark _)) (vss_one (vs_set (i := 5) sc_law.nd rfl (by first | exact .inl rfl | exact .inr rfl) (ve_callTy call_tuple_of impTuple (by rfl) T.tuple b_tuple (va_cons (ve_frz (pv 5)) va_nil)))) vss_nil)
    (vss_cons (vs_set (i := 7) sc_law.nd rfl (by first | exact .inl rfl | exact .inr rfl) (ve_lst (va_cons (ve_fz (ve_fn (c_law_copied.mono (by decide)) hr (by rfl) (takes_of rfl rfl rfl rfl) (vio_cons (ve_var (pv 4)) vio_nil))) (va_cons (ve_fz (ve_fn (c_law_copied.mono (by decide)) hr (by rfl) (takes_of rfl rfl rfl rfl) (vio_cons (ve_frz (pv 5)) vio_nil))) va_nil))))
    (vss_cons (vs_set (i := 8) sc_law.nd rfl (by first | exact .inl rfl | exact .inr rfl) (ve_fn (c_renamed_web.mono (by decide)) hr (by rfl) (takes_of rfl rfl rfl rfl) (vio_cons (ve_at (hu_of hr) (pv 7) ve_int) (vio_cons (ve_at (hu_of hr) (pv 7) ve_int) vio_nil))))
    (vss_cons (vs_if (vt_bool (vw_or (vt_not (vt_val (ve_fn (c_law_alike.mono (by decide)) hr (by rfl) (takes_of rfl rfl rfl rfl) (vio_cons (ve_var (pv 8)) (vio_cons (ve_fn (c_law_renamed.mono (by decide)) hr (by rfl) (takes_of rfl rfl rfl rfl) (vio_cons (ve_var (pv 4)) (vio_cons (ve_frz (pv 5)) vio_nil))) vio_nil))))) (vw_or1 (vt_not (vt_val (ve_fn (c_law_alike.mono (by decide)) hr (by rfl) (takes_of rfl rfl rfl rfl) (vio_cons (ve_frz (pv 7)) (vio_cons (ve_fz (ve_lst (va_cons (ve_var (pv 4)) (va_cons (ve_frz (pv 5)) va_nil)))) vio_nil)))))))) (vss_one (vs_ret ve_bl)) vss_nil)
    (vss_one (vs_if (vt_not (vt_val (ve_fn (c_law_alike.mono (by decide)) hr (by rfl) (takes_of rfl rfl rfl rfl) (vio_cons (ve_fn (c_renamed_web.mono (by decide)) hr (by rfl) (takes_of rfl rfl rfl rfl) (vio_cons (ve_var (pv 8)) (vio_cons (ve_frz (pv 6)) vio_nil))) (vio_cons (ve_var (pv 4)) vio_nil))))) (vss_one (vs_ret ve_bl)) vss_nil))))))))))))
    (vss_one (vs_ret ve_bl))))
end G

set_option Elab.async false
set_option linter.all false
set_option maxRecDepth 100000
set_option maxHeartbeats 4000000
namespace G
open PySem PySem.Spec L2 VS
abbrev pot (ns : List Int) (i : Int) : D := .lst true [.lst false (ns.map D.int), .int i]
theorem take_ok {ns : List Int} {i m : Int} (hn : ns ≠ []) (hi : 0 ≤ i) (hm : 0 < m) : ∃ x, 0 ≤ x ∧ x < m ∧ F_law_take [pot ns i, .int m] = some (.ok (.int x) [pot ns (i + 1), .int m]) := by
  have hl : 0 < ns.length := List.length_pos_iff.mpr hn
  have h1 := Int.emod_nonneg i (show (ns.length : Int) ≠ 0 by omega)
  have h2 := Int.emod_lt_of_pos i (show (0 : Int) < ns.length by omega)
  have ha : atI (ns.map D.int) (i % (ns.length : Int)) = some (.int (ns[(i % (ns.length : Int)).toNat]'(by omega))) := atI_lt h1 (by simp)
  refine ⟨ns[(i % (ns.length : Int)).toNat]'(by omega) % m, Int.emod_nonneg _ (by omega), Int.emod_lt_of_pos _ hm, ?_⟩
  simp [F_law_take, fnD, body_law_take, a_law_take, hl, hm, ha, ixN]
theorem length_ok {ns : List Int} {i s0 s1 : Int} (o : Bool) (hn : ns ≠ []) (hi : 0 ≤ i) (h0 : 0 ≤ s0) (h4 : s0 < 4) : ∃ x j, i ≤ j ∧ F_law_length [pot ns i, .lst o [.int s0, .int s1]] = some (.ok (.int x) [pot ns j, .lst o [.int s0, .int s1]]) := by
  obtain ⟨x, x0, x1, ex⟩ := take_ok (m := 9) hn hi (by decide)
  obtain ⟨y, y0, y1, ey⟩ := take_ok (i := i + 1) (m := 5) hn (by omega) (by decide)
  have e1 : ∃ f : Int, atI [D.int 1, D.int 10000000, D.int 100000000000000, D.int 1000000000000000000000, D.int 10000000000000000000000000000] y = some (D.int f) := by
    rcases (show y = 0 ∨ y = 1 ∨ y = 2 ∨ y = 3 ∨ y = 4 by omega) with h | h | h | h | h <;> subst h <;> exact ⟨_, rfl⟩
  obtain ⟨f, ef⟩ := e1
  have m0 := Int.emod_nonneg s1 (show (4 : Int) ≠ 0 by decide)
  have m1 := Int.emod_lt_of_pos s1 (show (0 : Int) < 4 by decide)
  have e2 : ∃ g : Int, atI [D.int 1, D.int 1000, D.int 1000000000000000, D.int 100000000000000000000000000000] (s1 % 4) = some (D.int g) := by
    rcases (show s1 % 4 = 0 ∨ s1 % 4 = 1 ∨ s1 % 4 = 2 ∨ s1 % 4 = 3 by omega) with h | h | h | h <;> rw [h] <;> exact ⟨_, rfl⟩
  obtain ⟨g, eg⟩ := e2
  have e3 : ∃ z : Int, atI [D.int 1, D.int (1 + x), D.int ((1 + x) * g), D.int ((1 + (1 + x) % 3) * f)] s0 = some (D.int z) := by
    rcases (show s0 = 0 ∨ s0 = 1 ∨ s0 = 2 ∨ s0 = 3 by omega) with h | h | h | h <;> subst h <;> exact ⟨_, rfl⟩
  obtain ⟨z, ez⟩ := e3
  refine ⟨z, i + 1 + 1, by omega, ?_⟩
  have r0 := Int.emod_nonneg (1 + x) (show (3 : Int) ≠ 0 by decide)
  have r1 := Int.emod_lt_of_pos (1 + x) (show (0 : Int) < 3 by decide)
  have c1 : (-18446744073709551616 < 1 + x ∧ 1 + x < 18446744073709551616) := by omega
  have c2 : (-18446744073709551616 < 1 + (1 + x) % 3 ∧ 1 + (1 + x) % 3 < 18446744073709551616) := by omega
  simp [F_law_length, fnD, body_law_length, a_law_length, ex, ey, ef, eg, ez, c1, c2]
end G

set_option Elab.async false
set_option linter.all false
set_option maxRecDepth 100000
set_option maxHeartbeats 4000000
namespace G
open PySem PySem.Spec L2 VS
theorem cutD_ints (l : List Int) (lo hi : Option Int) : ∃ m : List Int, cutD (l.map D.int) lo hi = m.map D.int ∧ m.length ≤ l.length := by
  unfold cutD
  refine ⟨(l.drop (HT.sIx (l.map D.int).length 0 lo)).take (HT.sIx (l.map D.int).length (l.map D.int).length hi - HT.sIx (l.map D.int).length 0 lo), ?_, ?_⟩
  · rw [List.map_take, List.map_drop]
  · rw [List.length_take, List.length_drop]; omega
theorem enum_ints {l : List Int} {i : Nat} {d : D} (h : (enumD (l.map D.int))[i]? = some d) : ∃ c : Int, d = .tup [.int i, .int c] := by
  obtain ⟨x, hx, rfl⟩ := enum_get h
  rw [List.getElem?_map] at hx
  cases q : l[i]? with
  | none => rw [q] at hx; cases hx
  | some c => rw [q] at hx; cases hx; exact ⟨c, rfl⟩
abbrev B16 : MS := (dSeq (dIfS (dTB (d2 (gCmp cGt) (dV 7) (dC (.int 0))))
    (dDrop (dMt 2 gApp (dCons (d2 gMod (dV 7) (dC (.int 1000003))) dNil))) dSkip)
    (dSet 7 (d2 gDiv (dV 7) (dC (.int 1000003)))))
theorem in16 {S x5 x6 x8 : D} {i c l : Int} {fs : List Int} (hz : fs.length ≤ 10000) : ∃ (fs' : List Int) (l' : Int) (x6' : D), fs'.length ≤ fs.length + 16 ∧
    forD (gNm 6) B16 (intsD 0 16) [S, .int 900, .lst true (fs.map D.int), .int i, .int c, x5, x6, .int l, x8] = some (.nx, [S, .int 900, .lst true (fs'.map D.int), .int i, .int c, x5, x6', .int l', x8]) := by
  obtain ⟨ρ', e, f', l', y, rfl, hf⟩ := for_ints (bt := gNm 6) (body := B16) (lo := 0) (n := 16) (ρ := [S, .int 900, .lst true (fs.map D.int), .int i, .int c, x5, x6, .int l, x8])
    (fun k ρ => ∃ (f : List Int) (l' : Int) (y : D), ρ = [S, .int 900, .lst true (f.map D.int), .int i, .int c, x5, y, .int l', x8] ∧ f.length ≤ fs.length + k) ⟨fs, l, x6, rfl, by omega⟩ (by
    rintro k ρ hk ⟨f, l', y, rfl, hf⟩
    by_cases hl : 0 < l'
    · refine ⟨_, [S, .int 900, .lst true ((f ++ [l' % 1000003]).map D.int), .int i, .int c, x5, .int (0 + k), .int (l' / 1000003), x8], rfl, .inl ?_, f ++ [l' % 1000003], l' / 1000003, _, rfl, by simp; omega⟩
      have hs : f.length < sizeLine := lt_size (by omega)
      simp [hl, hs]
    · refine ⟨_, [S, .int 900, .lst true (f.map D.int), .int i, .int c, x5, .int (0 + k), .int (l' / 1000003), x8], rfl, .inl ?_, f, l' / 1000003, _, rfl, by omega⟩
      simp [hl])
  exact ⟨f', l', y, hf, e⟩
abbrev B4 : MS := (dSeq (dSet 8 (d2 gMod (d2 gAdd (d2 gAdd (d2 gAdd (d2 gMulA (dV 4) (dC (.int 48271))) (d2 gMulA (d2 gMulA (dC (.int 977)) (dV 6)) (dV 6))) (d2 gMulA (dC (.int 131)) (dV 3))) (dC (.int 1))) (dC (.int 2147483647))))
    (dDrop (dMt 2 gApp (dCons (d2 gDiv (d2 gMod (d2 gMulA (dV 8) (dV 8)) (dC (.int 2147483629))) (dC (.int 64))) dNil))))
theorem b4a (c k i : Int) : ∃ one, one = (c * 48271 + 977 * (k : Int) * (k : Int) + 131 * i + 1) % 2147483647 ∧ -18446744073709551616 < one ∧ one < 18446744073709551616 := by
  refine ⟨_, rfl, ?_⟩
  generalize (c * 48271 + 977 * (k : Int) * (k : Int) + 131 * i + 1) = z
  omega
theorem b4b (k : Nat) (h : k < 4) : (-18446744073709551616 < (977 : Int) * k ∧ (977 : Int) * k < 18446744073709551616) := by omega
theorem b4c {one : Int} {S x5 x6 x7 x8 : D} {f : List Int} {c k i : Int} (kc : (-18446744073709551616 < (977 : Int) * k ∧ (977 : Int) * k < 18446744073709551616)) (hs : f.length < sizeLine) (ho : one = (c * 48271 + 977 * (k : Int) * (k : Int) + 131 * i + 1) % 2147483647) (oc : (-18446744073709551616 < one ∧ one < 18446744073709551616)) : B4 [S, .int 900, .lst true (f.map D.int), .int i, .int c, x5, .int k, x7, x8] = some (.nx, [S, .int 900, .lst true ((f ++ [one * one % 2147483629 / 64]).map D.int), .int i, .int c, x5, .int (k), x7, .int one]) := by
    simp [hs, kc, oc, ← ho]
theorem b4d (x : Int) : 0 ≤ x % 2147483629 ∧ x % 2147483629 < 2147483629 := by
  generalize hx : x % 2147483629 = y
  omega
theorem b4e {st : Int} (h : 0 ≤ st ∧ st < 2147483629) : (-18446744073709551616 < st ∧ st < 18446744073709551616) := by omega
theorem in4 {S x5 x6 x7 x8 : D} {i c : Int} {fs : List Int} (hz : fs.length ≤ 10000) : ∃ (fs' : List Int) (x6' x8' : D), fs'.length ≤ fs.length + 16 ∧
    forD (gNm 6) B4 (intsD 0 4) [S, .int 900, .lst true (fs.map D.int), .int i, .int c, x5, x6, x7, x8] = some (.nx, [S, .int 900, .lst true (fs'.map D.int), .int i, .int c, x5, x6', x7, x8']) := by
  obtain ⟨ρ', e, f', y, z, rfl, hf⟩ := for_ints (bt := gNm 6) (body := B4) (lo := 0) (n := 4) (ρ := [S, .int 900, .lst true (fs.map D.int), .int i, .int c, x5, x6, x7, x8])
    (fun k ρ => ∃ (f : List Int) (y z : D), ρ = [S, .int 900, .lst true (f.map D.int), .int i, .int c, x5, y, x7, z] ∧ f.length ≤ fs.length + k) ⟨fs, x6, x8, rfl, by omega⟩ (by
    rintro k ρ hk ⟨f, y, z, rfl, hf⟩
    have hs : f.length < sizeLine := lt_size (by omega)
    obtain ⟨one, ho, oc⟩ := b4a c k i
    refine ⟨_, [S, .int 900, .lst true ((f ++ [one * one % 2147483629 / 64]).map D.int), .int i, .int c, x5, .int (0 + k), x7, .int one], rfl, .inl ?_, f ++ [one * one % 2147483629 / 64], _, _, rfl, by rw [List.length_append]; exact Nat.add_le_add_right hf 1⟩
    have := b4c (S := S) (x5 := x5) (x6 := y) (x7 := x7) (x8 := z) (b4b k hk) hs ho oc
    simp only [Int.zero_add]
    exact this)
  exact ⟨f', y, z, by omega, e⟩
abbrev BD1 : MS := (dSeq (dSet 7 (dCallS [none] gAbs (dCons (dV 4) dNil)))
    (dIfS (dTB (d2 (gCmp cGe) (dV 7) (d2 gPow (dC (.int 10)) (dC (.int 18)))))
    (dFor (dRange1 (dCons (dC (.int 16)) dNil)) (gNm 6) B16) (dFor (dRange1 (dCons (dC (.int 4)) dNil)) (gNm 6) B4)))
theorem draws1 (ns cs : List Int) (lc : cs.length ≤ 63) : ∃ (f1 : List Int) (x3 x4 x6 x7 x8 : D), f1.length ≤ 16 * 63 ∧ forD (gTp [3, 4]) BD1 (enumD (cs.map D.int)) [.scr (ns.map D.int), .int 900, .lst true [], .unk, .unk, .unk, .unk, .unk, .unk] = some (.nx, [.scr (ns.map D.int), .int 900, .lst true (f1.map D.int), x3, x4, .unk, x6, x7, x8]) := by
  obtain ⟨ρ1, e1, f1, x3, x4, x6, x7, x8, rfl, h1⟩ := for_inv (bt := gTp [3, 4]) (body := BD1)
    (fun k ρ => ∃ (f : List Int) (x3 x4 x6 x7 x8 : D), ρ = [.scr (ns.map D.int), .int 900, .lst true (f.map D.int), x3, x4, .unk, x6, x7, x8] ∧ f.length ≤ 16 * k)
    (enumD (cs.map D.int)) 0 [.scr (ns.map D.int), .int 900, .lst true [], .unk, .unk, .unk, .unk, .unk, .unk] ⟨[], _, _, _, _, _, rfl, by simp⟩ (by
    rintro i d ρ hi ⟨f, x3, x4, x6, x7, x8, rfl, hf⟩
    have li : i < cs.length := by
      have := (List.getElem?_eq_some_iff.mp hi).1
      simpa [enumD] using this
    obtain ⟨c, rfl⟩ := enum_ints hi
    have hz : f.length ≤ 10000 := by omega
    by_cases hc' : (1000000000000000000 : Int) ≤ (if c < 0 then -c else c)
    · obtain ⟨f2, l2, y, hf2, e2⟩ := in16 (S := .scr (ns.map D.int)) (x5 := .unk) (x6 := x6) (x8 := x8) (i := i) (c := c) (l := if c < 0 then -c else c) hz
      refine ⟨_, [.scr (ns.map D.int), .int 900, .lst true (f2.map D.int), .int i, .int c, .unk, y, .int l2, x8], rfl, .inl ?_, f2, .int i, .int c, y, .int l2, x8, rfl, Nat.le_trans hf2 (by rw [Nat.mul_succ]; exact Nat.add_le_add_right hf 16)⟩
      refine seq_nx (ρ1 := [.scr (ns.map D.int), .int 900, .lst true (f.map D.int), .int i, .int c, .unk, x6, .int (if c < 0 then -c else c), x8]) (by simp) ?_
      refine ifS_t (ρ1 := [.scr (ns.map D.int), .int 900, .lst true (f.map D.int), .int i, .int c, .unk, x6, .int (if c < 0 then -c else c), x8]) (by simp [hc']) ?_
      exact for_ok (by simp) e2
    · obtain ⟨f2, y, z, hf2, e2⟩ := in4 (S := .scr (ns.map D.int)) (x5 := .unk) (x6 := x6) (x7 := .int (if c < 0 then -c else c)) (x8 := x8) (i := i) (c := c) hz
      refine ⟨_, [.scr (ns.map D.int), .int 900, .lst true (f2.map D.int), .int i, .int c, .unk, y, .int (if c < 0 then -c else c), z], rfl, .inl ?_, f2, .int i, .int c, y, .int (if c < 0 then -c else c), z, rfl, Nat.le_trans hf2 (by rw [Nat.mul_succ]; exact Nat.add_le_add_right hf 16)⟩
      refine seq_nx (ρ1 := [.scr (ns.map D.int), .int 900, .lst true (f.map D.int), .int i, .int c, .unk, x6, .int (if c < 0 then -c else c), x8]) (by simp) ?_
      refine ifS_f (ρ1 := [.scr (ns.map D.int), .int 900, .lst true (f.map D.int), .int i, .int c, .unk, x6, .int (if c < 0 then -c else c), x8]) (by simp [hc']) ?_
      exact for_ok (by simp) e2)
  refine ⟨f1, x3, x4, x6, x7, x8, ?_, e1⟩
  have : (enumD (cs.map D.int)).length = cs.length := by simp [enumD]
  rw [this] at h1
  omega
abbrev BD2 : MS := (dSeq (dSet 5 (d2 gMod (d2 gAdd (d2 gAdd (d2 gMulA (dV 5) (dV 5)) (dC (.int 40692))) (dV 6)) (dC (.int 2147483629))))
    (dDrop (dMt 2 gApp (dCons (d2 gDiv (dV 5) (dC (.int 8))) dNil))))
theorem draws2 (S x3 x4 x6 x7 x8 : D) (f1 : List Int) (n : Nat) (hn : f1.length + n ≤ 2000) (stir0 : Int) (hst0 : 0 ≤ stir0 ∧ stir0 < 2147483629) : ∃ (f2 : List Int) (st : Int) (y6 : D), f2.length = f1.length + n ∧ forD (gNm 6) BD2 (intsD f1.length n) [S, .int 900, .lst true (f1.map D.int), x3, x4, .int stir0, x6, x7, x8] = some (.nx, [S, .int 900, .lst true (f2.map D.int), x3, x4, .int st, y6, x7, x8]) := by
  obtain ⟨ρ2, e2, f2, st, y6, rfl, hb, h2⟩ := for_ints (bt := gNm 6) (body := BD2) (lo := (f1.length : Int)) (n := n) (ρ := [S, .int 900, .lst true (f1.map D.int), x3, x4, .int stir0, x6, x7, x8])
    (fun k ρ => ∃ (f : List Int) (st : Int) (y : D), ρ = [S, .int 900, .lst true (f.map D.int), x3, x4, .int st, y, x7, x8] ∧ (0 ≤ st ∧ st < 2147483629) ∧ f.length = f1.length + k) ⟨f1, stir0, x6, rfl, hst0, rfl⟩ (by
    rintro k ρ hk ⟨f, st, y, rfl, hb, hf⟩
    have hs : f.length < sizeLine := lt_size (by clear hb hst0; omega)
    have sc := b4e hb
    obtain ⟨s2, hs2⟩ : ∃ s2, s2 = (st * st + 40692 + ((f1.length : Int) + k)) % 2147483629 := ⟨_, rfl⟩
    refine ⟨_, [S, .int 900, .lst true ((f ++ [s2 / 8]).map D.int), x3, x4, .int s2, .int ((f1.length : Int) + k), x7, x8], rfl, .inl ?_, f ++ [s2 / 8], s2, _, rfl, by rw [hs2]; exact b4d _, by rw [List.length_append]; exact congrArg (· + 1) hf⟩
    simp [hs, sc, ← hs2])
  exact ⟨f2, st, y6, h2, e2⟩
theorem ra (S x3 x4 x5 x6 x7 x8 : D) (f1 : List Int) : dCons (dCallS [some 2] gLen (dIO 2 dNil)) (dCons (dV 1) dNil) [S, .int 900, .lst true (f1.map D.int), x3, x4, x5, x6, x7, x8] = some (.ok [.int f1.length, .int 900] [S, .int 900, .lst true (f1.map D.int), x3, x4, x5, x6, x7, x8]) := by
  simp
theorem rb (f1 : List Int) (n : Nat) (b : inR (f1.length : Int)) (e : n = ((900 : Int) - f1.length).toNat) : rangeD2 [.int f1.length, .int 900] = some (intsD f1.length n) := by
  rw [u_range2, if_pos ⟨b, inR_900⟩, e]
theorem rc {f1 : List Int} (lf1 : f1.length ≤ 16 * 63) : inR (f1.length : Int) := inR_le (by omega) (by omega)
theorem rg_ok (S x3 x4 x5 x6 x7 x8 : D) (f1 : List Int) (lf1 : f1.length ≤ 16 * 63) : dRange2 (dCons (dCallS [some 2] gLen (dIO 2 dNil)) (dCons (dV 1) dNil)) [S, .int 900, .lst true (f1.map D.int), x3, x4, x5, x6, x7, x8] = some (.ok (intsD f1.length ((900 : Int) - f1.length).toNat) [S, .int 900, .lst true (f1.map D.int), x3, x4, x5, x6, x7, x8]) := by
  rw [u_dRange2, bindM, ra]
  dsimp only
  rw [rb f1 _ (rc lf1) rfl]
  rfl
theorem ne2 {f1 f2 : List Int} (lf1 : f1.length ≤ 16 * 63) (h2 : f2.length = f1.length + ((900 : Int) - f1.length).toNat) : f2 ≠ [] := by
  intro z
  subst z
  simp only [List.length_nil] at h2
  omega
theorem st_ok (S x3 x4 x5 x6 x7 x8 : D) (f1 : List Int) (stir0 : Int) (hst0 : stir0 = (7919 + 40693 * f1.sum) % 2147483629) : dSet 5 (d2 gMod (d2 gAdd (dC (.int 7919)) (d2 gMulA (dC (.int 40693)) (dCallS [some 2] gSum (dIO 2 dNil)))) (dC (.int 2147483629))) [S, .int 900, .lst true (f1.map D.int), x3, x4, x5, x6, x7, x8] = some (.nx, [S, .int 900, .lst true (f1.map D.int), x3, x4, .int stir0, x6, x7, x8]) := by
  simp [← hst0]
theorem draws_ok (ns : List Int) (hl : ns.length ≤ 63) : ∃ fs : List Int, fs ≠ [] ∧ F_law_draws [.scr (ns.map D.int), .int 900] = some (.ok (pot fs 0) [.scr (ns.map D.int), .int 900]) := by
  obtain ⟨cs, ec, lc⟩ := cutD_ints ns none (some 63)
  obtain ⟨f1, x3, x4, x6, x7, x8, lf1, e1⟩ := draws1 ns cs (by omega)
  obtain ⟨stir0, hst0⟩ : ∃ s, s = (7919 + 40693 * f1.sum) % 2147483629 := ⟨_, rfl⟩
  obtain ⟨f2, st, y6, h2, e2⟩ := draws2 (.scr (ns.map D.int)) x3 x4 x6 x7 x8 f1 ((900 : Int) - f1.length).toNat (by clear hst0; omega) stir0 (by rw [hst0]; exact b4d _)
  refine ⟨f2, ?_, ?_⟩
  · exact ne2 lf1 h2
  · have body : body_law_draws [.scr (ns.map D.int), .int 900, .unk, .unk, .unk, .unk, .unk, .unk, .unk] = some (.rt (pot f2 0), [.scr (ns.map D.int), .int 900, .lst false (f2.map D.int), x3, x4, .int st, y6, x7, x8]) := by
      unfold body_law_draws
      refine seq_nx (ρ1 := [.scr (ns.map D.int), .int 900, .lst true [], .unk, .unk, .unk, .unk, .unk, .unk]) (by simp) ?_
      refine seq_nx (for_ok (ds := enumD (cs.map D.int)) (by simp [ec]) e1) ?_
      refine seq_nx (st_ok _ _ _ _ _ _ _ _ _ hst0) ?_
      refine seq_nx (for_ok (rg_ok _ _ _ _ _ _ _ _ lf1) e2) ?_
      simp
    simp [F_law_draws, fnD, body, a_law_draws]
end G

set_option Elab.async false
set_option linter.all false
set_option maxRecDepth 100000
set_option maxHeartbeats 4000000
namespace G
open PySem PySem.Spec L2 VS
theorem ins_map (l : List Int) (n : Nat) (d : Int) : (l.map D.int).take n ++ [D.int d] ++ (l.map D.int).drop n = (l.take n ++ [d] ++ l.drop n).map D.int := by
  rw [List.map_append, List.map_append, List.map_take, List.map_drop]; rfl
theorem ins_map' (l : List Int) (n : Nat) (d : Int) : (l.map D.int).take n ++ D.int d :: (l.map D.int).drop n = (l.take n ++ [d] ++ l.drop n).map D.int := by
  rw [← ins_map, List.append_assoc]; rfl
theorem order_ok {ns : List Int} {i many : Int} (hn : ns ≠ []) (hi : 0 ≤ i) (hm : 0 ≤ many) (hM : many ≤ 1000) : ∃ (os : List Int) (j : Int), i ≤ j ∧ os.Perm (rangeI many.toNat) ∧ F_law_order [pot ns i, .int many] = some (.ok (.lst true (os.map D.int)) [pot ns j, .int many]) := by
  obtain ⟨ρ', e, os, j, y, rfl, hj, hp⟩ := for_ints (bt := gNm 3) (body := (dDrop (dMt 2 gIns (dCons (dFn [some 0, none] F_law_take (dIO 0 (dCons (d2 gAdd (dV 3) (dC (.int 1))) dNil))) (dCons (dV 3) dNil))))) (lo := 0) (n := many.toNat) (ρ := [pot ns i, .int many, .lst true [], .unk])
    (fun k ρ => ∃ (os : List Int) (j : Int) (y : D), ρ = [pot ns j, .int many, .lst true (os.map D.int), y] ∧ i ≤ j ∧ os.Perm (rangeI k)) ⟨[], i, .unk, rfl, by omega, .nil⟩ (by
    rintro k ρ hk ⟨os, j, y, rfl, hj, hp⟩
    obtain ⟨x, x0, x1, ex⟩ := take_ok (ns := ns) (i := j) (m := (0 + (k : Int)) + 1) hn (by omega) (by omega)
    have hl : os.length = k := by rw [hp.length_eq, len_rangeI]
    refine ⟨_, [pot ns (j + 1), .int many, .lst true ((os.take x.toNat ++ [0 + (k : Int)] ++ os.drop x.toNat).map D.int), .int (0 + (k : Int))], rfl, .inl ?_, _, j + 1, _, rfl, by omega, ?_⟩
    · have hs : os.length < sizeLine := lt_size (by omega)
      have x2 : x < 9223372036854775808 := by omega
      simp only [← ins_map]
      generalize (0 + (k : Int)) = kk at *
      simp [ex, hs, x0, x2]
    · refine (ins_perm _ _ _).trans (.trans ?_ (rangeI_succ k).symm)
      rw [Int.zero_add]
      exact hp.cons _)
  refine ⟨os, j, hj, hp, ?_⟩
  have hR := inR_le hm (by omega)
  have body : body_law_order [pot ns i, .int many, .unk, .unk] = some (.rt (.lst true (os.map D.int)), [pot ns j, .int many, .unk, y]) := by
    unfold body_law_order
    refine seq_nx (ρ1 := [pot ns i, .int many, .lst true [], .unk]) (by simp) ?_
    refine seq_nx (for_ok (by simp [hR]) e) ?_
    simp
  simp [F_law_order, fnD, body, a_law_order]
/-- the web's dict: keys in bounds, none twice -/
def GoodK (many : Int) (ks : List (Int × Int)) (ls : List Int) : Prop := ks.length = ls.length ∧ ks.Nodup ∧ ∀ p ∈ ks, 0 ≤ p.1 ∧ p.1 ≤ p.2 ∧ p.2 < many
theorem goodK_put {many : Int} {ks : List (Int × Int)} {ls : List Int} {a b l : Int} (h : GoodK many ks ls) (h0 : 0 ≤ a) (h1 : a ≤ b) (h2 : b < many) : GoodK many (putL ks ls (a, b) l).1 (putL ks ls (a, b) l).2 ∧ (putL ks ls (a, b) l).1.length ≤ ks.length + 1 := by
  obtain ⟨g1, g2, g3⟩ := h
  have e := putL_keys ks ls (a, b) l g1
  refine ⟨⟨putL_len2 ks ls (a, b) l g1, ?_, ?_⟩, ?_⟩
  · rw [e]
    split
    · exact g2
    · rename_i z
      refine List.nodup_append.mpr ⟨g2, by simp, ?_⟩
      intro x hx y hy he
      rw [List.mem_singleton] at hy
      subst hy
      subst he
      exact z hx
  · rw [e]
    split
    · exact g3
    · intro p hp
      rcases List.mem_append.mp hp with q | q
      · exact g3 p q
      · rw [List.mem_singleton] at q
        subst q
        exact ⟨h0, h1, h2⟩
  · rw [e]
    split
    · omega
    · simp
abbrev WB1 : MS := (dDrop (dMt 4 gIns (dCons (dFn [some 0, none] F_law_take (dIO 0 (dCons (d2 gAdd (dV 5) (dC (.int 1))) dNil))) (dCons (dV 5) dNil))))
theorem web1 {ns : List Int} {i many : Int} {x2 x3 x6 x7 x8 x9 x10 x11 : D} (hn : ns ≠ []) (hi : 0 ≤ i) (hm : 0 ≤ many) (hM : many ≤ 1000) : ∃ (os : List Int) (j : Int) (y : D), i ≤ j ∧ os.Perm (rangeI many.toNat) ∧
    forD (gNm 5) WB1 (intsD 0 many.toNat) [pot ns i, .int many, x2, x3, .lst true [], .unk, x6, x7, x8, x9, x10, x11] = some (.nx, [pot ns j, .int many, x2, x3, .lst true (os.map D.int), y, x6, x7, x8, x9, x10, x11]) := by
  obtain ⟨ρ', e, os, j, y, rfl, hj, hp⟩ := for_ints (bt := gNm 5) (body := WB1) (lo := 0) (n := many.toNat) (ρ := [pot ns i, .int many, x2, x3, .lst true [], .unk, x6, x7, x8, x9, x10, x11])
    (fun k ρ => ∃ (os : List Int) (j : Int) (y : D), ρ = [pot ns j, .int many, x2, x3, .lst true (os.map D.int), y, x6, x7, x8, x9, x10, x11] ∧ i ≤ j ∧ os.Perm (rangeI k)) ⟨[], i, .unk, rfl, by omega, .nil⟩ (by
    rintro k ρ hk ⟨os, j, y, rfl, hj, hp⟩
    obtain ⟨x, x0, x1, ex⟩ := take_ok (ns := ns) (i := j) (m := (0 + (k : Int)) + 1) hn (by omega) (by omega)
    have hl : os.length = k := by rw [hp.length_eq, len_rangeI]
    refine ⟨_, [pot ns (j + 1), .int many, x2, x3, .lst true ((os.take x.toNat ++ [0 + (k : Int)] ++ os.drop x.toNat).map D.int), .int (0 + (k : Int)), x6, x7, x8, x9, x10, x11], rfl, .inl ?_, _, j + 1, _, rfl, by omega, ?_⟩
    · have hs : os.length < sizeLine := lt_size (by omega)
      have x2 : x < 9223372036854775808 := by omega
      simp only [← ins_map]
      generalize (0 + (k : Int)) = kk at *
      simp [ex, hs, x0, x2]
    · refine (ins_perm _ _ _).trans (.trans ?_ (rangeI_succ k).symm)
      rw [Int.zero_add]
      exact hp.cons _)
  exact ⟨os, j, y, hj, hp, e⟩
theorem perm_at {os : List Int} {n : Nat} {x : Int} (hp : os.Perm (rangeI n)) (h0 : 0 ≤ x) (h1 : x < n) : ∃ z : Int, 0 ≤ z ∧ z < n ∧ atI (os.map D.int) x = some (.int z) := by
  have hl : os.length = n := by rw [hp.length_eq, len_rangeI]
  refine ⟨os[x.toNat]'(by omega), ?_, ?_, atI_lt h0 (by simp)⟩
  · exact (mem_rangeI.mp (hp.mem_iff.mp (List.getElem_mem _))).1
  · exact (mem_rangeI.mp (hp.mem_iff.mp (List.getElem_mem _))).2
abbrev WB2 : MS := (dSeq (dSet 8 (dTup (dCons (dAt 4 (dFn [some 0, none] F_law_take (dIO 0 (dCons (dV 5) dNil)))) (dCons (dAt 4 (dV 5)) dNil))))
    (dPut 6 (dTup (dCons (dCallS [none] gMin (dCons (dV 8) dNil)) (dCons (dCallS [none] gMax (dCons (dV 8) dNil)) dNil))) (dFn [some 0, none] F_law_length (dIO 0 (dCons (dV 3) dNil)))))
theorem web2 {ns os : List Int} {i many s0 s1 : Int} {x2 x5 x7 x8 x9 x10 x11 : D} (hn : ns ≠ []) (hi : 0 ≤ i) (hm : 0 ≤ many) (hM : many ≤ 1000) (hp : os.Perm (rangeI many.toNat)) (h0 : 0 ≤ s0) (h4 : s0 < 4) : ∃ (ks : List (Int × Int)) (ls : List Int) (j : Int) (y y8 : D), i ≤ j ∧ GoodK many ks ls ∧ ks.length ≤ many.toNat ∧
    forD (gNm 5) WB2 (intsD 1 (many - 1).toNat) [pot ns i, .int many, x2, .lst false [.int s0, .int s1], .lst true (os.map D.int), x5, dP true [] [], x7, x8, x9, x10, x11] = some (.nx, [pot ns j, .int many, x2, .lst false [.int s0, .int s1], .lst true (os.map D.int), y, dP true ks ls, x7, y8, x9, x10, x11]) := by
  obtain ⟨ρ', e, ks, ls, j, y, y8, rfl, hj, hk, hz⟩ := for_ints (bt := gNm 5) (body := WB2) (lo := 1) (n := (many - 1).toNat) (ρ := [pot ns i, .int many, x2, .lst false [.int s0, .int s1], .lst true (os.map D.int), x5, dP true [] [], x7, x8, x9, x10, x11])
    (fun k ρ => ∃ (ks : List (Int × Int)) (ls : List Int) (j : Int) (y y8 : D), ρ = [pot ns j, .int many, x2, .lst false [.int s0, .int s1], .lst true (os.map D.int), y, dP true ks ls, x7, y8, x9, x10, x11] ∧ i ≤ j ∧ GoodK many ks ls ∧ ks.length ≤ k) ⟨[], [], i, x5, x8, rfl, by omega, ⟨rfl, by simp, by simp⟩, by simp⟩ (by
    rintro k ρ hk ⟨ks, ls, j, y, y8, rfl, hj, hg, hl⟩
    obtain ⟨x, x0, x1, ex⟩ := take_ok (ns := ns) (i := j) (m := 1 + (k : Int)) hn (by omega) (by omega)
    obtain ⟨z, jj, hjj, ez⟩ := length_ok (ns := ns) (i := j + 1) (s1 := s1) false hn (by omega) h0 h4
    obtain ⟨p, p0, p1, ep⟩ := perm_at (x := x) hp x0 (by omega)
    obtain ⟨q, q0, q1, eq⟩ := perm_at (x := 1 + (k : Int)) hp (by omega) (by omega)
    have hs : ks.length < sizeLine := lt_size (by omega)
    obtain ⟨g1, g2⟩ := goodK_put (a := min p q) (b := max p q) (l := z) hg (by omega) (by omega) (by omega)
    refine ⟨_, [pot ns jj, .int many, x2, .lst false [.int s0, .int s1], .lst true (os.map D.int), .int (1 + (k : Int)), dP true (putL ks ls (min p q, max p q) z).1 (putL ks ls (min p q, max p q) z).2, x7, .tup [.int p, .int q], x9, x10, x11], rfl, .inl ?_, _, _, jj, _, _, rfl, by omega, g1, by omega⟩
    generalize (1 + (k : Int)) = kk at *
    simp [ex, ez, ep, eq, hs])
  exact ⟨ks, ls, j, y, y8, hj, hk, by omega, e⟩
abbrev WB3 : MS := (dSeq (dSet 9 (dFn [some 0, none] F_law_take (dIO 0 (dCons (dV 1) dNil))))
    (dSeq (dSet 10 (d2 gMod (d2 gAdd (d2 gAdd (dV 9) (dC (.int 1))) (dFn [some 0, none] F_law_take (dIO 0 (dCons (dCallS [none, none] gMax (dCons (dC (.int 1)) (dCons (d2 gSub (dV 1) (dC (.int 1))) dNil))) dNil)))) (dV 1)))
    (dSeq (dSet 11 (dFn [some 0, none] F_law_length (dIO 0 (dCons (dV 3) dNil))))
    (dIfS (dAndT (dTB (d2 gNe (dV 9) (dV 10))) (dTB (d2 (gCmp cLt) (dCallS [some 6] gLen (dIO 6 dNil)) (dC (.int 220)))))
    (dDrop (dSetd 6 (dTup (dCons (dCallS [none, none] gMin (dCons (dV 9) (dCons (dV 10) dNil))) (dCons (dCallS [none, none] gMax (dCons (dV 9) (dCons (dV 10) dNil))) dNil))) (dV 11))) dSkip))))
theorem web3 {ns : List Int} {n : Nat} {i many s0 s1 : Int} {x2 x4 x5 x7 x8 x9 x10 x11 : D} {ks : List (Int × Int)} {ls : List Int} (hn : ns ≠ []) (hi : 0 ≤ i) (hm : 1 ≤ many) (h0 : 0 ≤ s0) (h4 : s0 < 4) (hg : GoodK many ks ls) (hz : ks.length + n ≤ 100000) : ∃ (ks' : List (Int × Int)) (ls' : List Int) (j : Int) (y7 y9 y10 y11 : D), i ≤ j ∧ GoodK many ks' ls' ∧ ks'.length ≤ ks.length + n ∧
    forD (gNm 7) WB3 (intsD 0 n) [pot ns i, .int many, x2, .lst false [.int s0, .int s1], x4, x5, dP true ks ls, x7, x8, x9, x10, x11] = some (.nx, [pot ns j, .int many, x2, .lst false [.int s0, .int s1], x4, x5, dP true ks' ls', y7, x8, y9, y10, y11]) := by
  obtain ⟨ρ', e, ks', ls', j, y7, y9, y10, y11, rfl, hj, hk, hz⟩ := for_ints (bt := gNm 7) (body := WB3) (lo := 0) (n := n) (ρ := [pot ns i, .int many, x2, .lst false [.int s0, .int s1], x4, x5, dP true ks ls, x7, x8, x9, x10, x11])
    (fun k ρ => ∃ (ks' : List (Int × Int)) (ls' : List Int) (j : Int) (y7 y9 y10 y11 : D), ρ = [pot ns j, .int many, x2, .lst false [.int s0, .int s1], x4, x5, dP true ks' ls', y7, x8, y9, y10, y11] ∧ i ≤ j ∧ GoodK many ks' ls' ∧ ks'.length ≤ ks.length + k) ⟨ks, ls, i, x7, x9, x10, x11, rfl, by omega, hg, by simp⟩ (by
    rintro k ρ hk ⟨ks', ls', j, y7, y9, y10, y11, rfl, hj, hg, hl⟩
    obtain ⟨x, x0, x1, ex⟩ := take_ok (ns := ns) (i := j) (m := many) hn (by omega) (by omega)
    obtain ⟨w, w0, w1, ew⟩ := take_ok (ns := ns) (i := j + 1) (m := max 1 (many - 1)) hn (by omega) (by omega)
    obtain ⟨z, jj, hjj, ez⟩ := length_ok (ns := ns) (i := j + 1 + 1) (s1 := s1) false hn (by omega) h0 h4
    have hs : ks'.length < sizeLine := lt_size (by omega)
    have hm0 : 0 < many := by omega
    have o0 := Int.emod_nonneg (x + 1 + w) (show many ≠ 0 by omega)
    have o1 := Int.emod_lt_of_pos (x + 1 + w) hm0
    obtain ⟨o, ho⟩ : ∃ o, o = (x + 1 + w) % many := ⟨_, rfl⟩
    rw [← ho] at o0 o1
    obtain ⟨g1, g2⟩ := goodK_put (a := min x o) (b := max x o) (l := z) hg (by omega) (by omega) (by omega)
    by_cases c : (x = o) ∨ ¬ ((ks'.length : Int) < 220)
    · refine ⟨_, [pot ns jj, .int many, x2, .lst false [.int s0, .int s1], x4, x5, dP true ks' ls', .int (0 + (k : Int)), x8, .int x, .int o, .int z], rfl, .inl ?_, ks', ls', jj, _, _, _, _, rfl, by omega, hg, by omega⟩
      refine seq_nx (ρ1 := [pot ns (j + 1), .int many, x2, .lst false [.int s0, .int s1], x4, x5, dP true ks' ls', .int (0 + (k : Int)), x8, .int x, y10, y11]) (by simp [ex]) ?_
      refine seq_nx (ρ1 := [pot ns (j + 1 + 1), .int many, x2, .lst false [.int s0, .int s1], x4, x5, dP true ks' ls', .int (0 + (k : Int)), x8, .int x, .int o, y11]) (by simp [ew, hm0, ← ho]) ?_
      refine seq_nx (ρ1 := [pot ns jj, .int many, x2, .lst false [.int s0, .int s1], x4, x5, dP true ks' ls', .int (0 + (k : Int)), x8, .int x, .int o, .int z]) (by simp [ez]) ?_
      refine ifS_f (ρ1 := [pot ns jj, .int many, x2, .lst false [.int s0, .int s1], x4, x5, dP true ks' ls', .int (0 + (k : Int)), x8, .int x, .int o, .int z]) ?_ rfl
      by_cases hxo : x = o
      · simp [hxo]
      · rcases c with c | c
        · exact absurd c hxo
        · have c' : ¬ ((ks'.length : Int) < 220) := c
          simp [hxo, c']
    · have c1 : ¬ x = o := fun h => c (.inl h)
      have c2 : (ks'.length : Int) < 220 := by
        by_cases q : (ks'.length : Int) < 220
        · exact q
        · exact absurd (.inr q) c
      obtain ⟨kk, ll, hd, hgg, hlen⟩ : ∃ kk ll, (if (min x o, max x o) ∈ ks' then dP true ks' ls' else dP true (putL ks' ls' (min x o, max x o) z).1 (putL ks' ls' (min x o, max x o) z).2) = dP true kk ll ∧ GoodK many kk ll ∧ kk.length ≤ ks'.length + 1 := by
        by_cases q : (min x o, max x o) ∈ ks'
        · exact ⟨ks', ls', if_pos q, hg, by omega⟩
        · exact ⟨_, _, if_neg q, g1, g2⟩
      refine ⟨_, [pot ns jj, .int many, x2, .lst false [.int s0, .int s1], x4, x5, dP true kk ll, .int (0 + (k : Int)), x8, .int x, .int o, .int z], rfl, .inl ?_, kk, ll, jj, _, _, _, _, rfl, by omega, hgg, by omega⟩
      refine seq_nx (ρ1 := [pot ns (j + 1), .int many, x2, .lst false [.int s0, .int s1], x4, x5, dP true ks' ls', .int (0 + (k : Int)), x8, .int x, y10, y11]) (by simp [ex]) ?_
      refine seq_nx (ρ1 := [pot ns (j + 1 + 1), .int many, x2, .lst false [.int s0, .int s1], x4, x5, dP true ks' ls', .int (0 + (k : Int)), x8, .int x, .int o, y11]) (by simp [ew, hm0, ← ho]) ?_
      refine seq_nx (ρ1 := [pot ns jj, .int many, x2, .lst false [.int s0, .int s1], x4, x5, dP true ks' ls', .int (0 + (k : Int)), x8, .int x, .int o, .int z]) (by simp [ez]) ?_
      refine ifS_t (ρ1 := [pot ns jj, .int many, x2, .lst false [.int s0, .int s1], x4, x5, dP true ks' ls', .int (0 + (k : Int)), x8, .int x, .int o, .int z]) ?_ ?_
      · simp [c1, c2]
      · have sd := setd_P (ρ := [pot ns jj, .int many, x2, .lst false [.int s0, .int s1], x4, x5, dP true ks' ls', .int (0 + (k : Int)), x8, .int x, .int o, .int z]) (i := 6) (a := min x o) (b := max x o) (l := z) rfl hs
        rcases sd with sd | sd
        · rw [hd] at sd
          generalize (0 + (k : Int)) = kx at *
          simp [sd]
        · exact absurd hg.1 sd)
  exact ⟨ks', ls', j, y7, y9, y10, y11, hj, hk, hz, e⟩
def webD (many : Int) (rows : List R3) : D := .tup [.int many, .tup (rows.map fun r => tI (r3 r))]
def GoodW (many : Int) (rows : List R3) : Prop := (∀ r ∈ rows, 0 ≤ r.1 ∧ r.1 ≤ r.2.1 ∧ r.2.1 < many) ∧ rows.Pairwise lt3 ∧ rows.length ≤ 100000
theorem fzL_tIs {α : Type} (l : List α) (f : α → List Int) : fzL (l.map fun r => tI (f r)) = true := by
  rw [fzL_all, List.all_eq_true]
  intro x hx
  obtain ⟨p, _, rfl⟩ := List.mem_map.mp hx
  exact fz_tI _
theorem freezeL_tIs {α : Type} (l : List α) (f : α → List Int) : freezeL (l.map fun r => tI (f r)) = l.map fun r => tI (f r) := freezeL_fz _ (fzL_tIs l f)
theorem web4 {ks : List (Int × Int)} {ls : List Int} {x0 x1 x2 x3 x4 x5 x7 x9 x10 x11 : D} (hl : ks.length = ls.length) (hz : ks.length ≤ 100000) : ∃ rows : List R3, rows.map (fun r => (r.1, r.2.1)) = sP ks ∧
    lcD [8] (gNm 8) dYes (d2 gAdd (dV 8) (dTup (dCons (dAt 6 (dV 8)) dNil))) ((sP ks).map fun p => tI (p2 p)) [] [x0, x1, x2, x3, x4, x5, dP false ks ls, x7, .unk, x9, x10, x11] = some (rows.map (fun r => tI (r3 r)), [x0, x1, x2, x3, x4, x5, dP false ks ls, x7, .unk, x9, x10, x11]) := by
  obtain ⟨v, hv⟩ : ∃ v : Int × Int → Int, ∀ p ∈ ks, look ks ls p = some (v p) := ⟨fun p => (look ks ls p).getD 0, fun p hp => by
    obtain ⟨a, ha⟩ := look_mem ks ls p hl hp
    dsimp only; rw [ha]; rfl⟩
  have hsz : (sP ks).length = ks.length := (sP_perm ks).length_eq
  refine ⟨(sP ks).map fun p => (p.1, p.2, v p), by rw [List.map_map]; exact List.map_id _, ?_⟩
  rw [List.map_map]
  refine lc_map (h := fun p => tI [p.1, p.2, v p]) (sP ks) [] (by rw [hsz]; exact le_size (by simp; omega)) ?_
  intro p hp
  have ha : look ks ls (p.1, p.2) = some (v p) := hv p ((sP_perm ks).mem_iff.mp hp)
  refine ⟨_, [x0, x1, x2, x3, x4, x5, dP false ks ls, x7, tI (p2 p), x9, x10, x11], rfl, ?_, rfl⟩
  unfold tI p2
  simp [ha]
theorem web_ok {ns : List Int} {i many extra s0 s1 : Int} (hn : ns ≠ []) (hi : 0 ≤ i) (hm : 1 ≤ many) (hM : many ≤ 1000) (he : 0 ≤ extra) (hE : extra ≤ 1000) (h0 : 0 ≤ s0) (h4 : s0 < 4) : ∃ (rows : List R3) (j : Int), i ≤ j ∧ GoodW many rows ∧
    F_law_web [pot ns i, .int many, .int extra, .lst false [.int s0, .int s1]] = some (.ok (webD many rows) [pot ns j, .int many, .int extra, .lst false [.int s0, .int s1]]) := by
  obtain ⟨os, j1, y5, hj1, hp, e1⟩ := web1 (x2 := .int extra) (x3 := .lst false [.int s0, .int s1]) (x6 := .unk) (x7 := .unk) (x8 := .unk) (x9 := .unk) (x10 := .unk) (x11 := .unk) hn hi (by omega : 0 ≤ many) hM
  obtain ⟨ks, ls, j2, z5, y8, hj2, hk, hz, e2⟩ := web2 (s1 := s1) (x2 := .int extra) (x5 := y5) (x7 := .unk) (x8 := .unk) (x9 := .unk) (x10 := .unk) (x11 := .unk) hn (by omega : 0 ≤ j1) (by omega : 0 ≤ many) hM hp h0 h4
  obtain ⟨c, hc0, hc1, hc⟩ : ∃ c : Int, 0 ≤ c ∧ c ≤ 1 ∧ (if 1 < many then (1 : Int) else 0) = c := by
    by_cases q : 1 < many
    · exact ⟨1, by decide, by decide, if_pos q⟩
    · exact ⟨0, by decide, by decide, if_neg q⟩
  obtain ⟨n, hN⟩ : ∃ n, n = (extra * c).toNat := ⟨_, rfl⟩
  have hn2 : n ≤ 1000 := by
    rcases (show c = 0 ∨ c = 1 by omega) with h | h <;> subst h <;> simp at hN <;> omega
  have hc3 : 0 ≤ extra * c ∧ extra * c ≤ 1000 := by
    rcases (show c = 0 ∨ c = 1 by omega) with h | h <;> subst h <;> simp <;> omega
  obtain ⟨ks', ls', j3, y7, y9, y10, y11, hj3, hk', hz', e3⟩ := web3 (s1 := s1) (n := n) (x2 := .int extra) (x4 := .lst true (os.map D.int)) (x5 := z5) (x7 := .unk) (x8 := y8) (x9 := .unk) (x10 := .unk) (x11 := .unk) hn (by omega : 0 ≤ j2) hm h0 h4 hk (by omega)
  obtain ⟨rows, hr, e4⟩ := web4 (ks := ks') (ls := ls') (x0 := pot ns j3) (x1 := .int many) (x2 := .int extra) (x3 := .lst false [.int s0, .int s1]) (x4 := .lst true (os.map D.int)) (x5 := z5) (x7 := y7) (x9 := y9) (x10 := y10) (x11 := y11) hk'.1 (by omega)
  have hlen : rows.length = ks'.length := by
    have := congrArg List.length hr
    rw [List.length_map, (sP_perm ks').length_eq] at this
    exact this
  refine ⟨rows, j3, by omega, ⟨?_, ?_, by omega⟩, ?_⟩
  · intro r hr'
    have : (r.1, r.2.1) ∈ sP ks' := by rw [← hr]; exact List.mem_map.mpr ⟨r, hr', rfl⟩
    exact hk'.2.2 _ ((sP_perm ks').mem_iff.mp this)
  · have := sP_lt hk'.2.1
    rw [← hr, List.pairwise_map] at this
    exact this
  · have hR := inR_le (by omega : 0 ≤ many) (by omega)
    have hR2 := inR_le hc3.1 (by omega)
    have sz : ks'.length ≤ sizeLine := le_size (by omega)
    have body : body_law_web [pot ns i, .int many, .int extra, .lst false [.int s0, .int s1], .unk, .unk, .unk, .unk, .unk, .unk, .unk, .unk] = some (.rt (webD many rows), [pot ns j3, .int many, .int extra, .lst false [.int s0, .int s1], .lst true (os.map D.int), z5, dP false ks' ls', y7, .unk, y9, y10, y11]) := by
      unfold body_law_web
      refine seq_nx (ρ1 := [pot ns i, .int many, .int extra, .lst false [.int s0, .int s1], .lst true [], .unk, .unk, .unk, .unk, .unk, .unk, .unk]) (by simp) ?_
      refine seq_nx (for_ok (by simp [hR]) e1) ?_
      refine seq_nx (ρ1 := [pot ns j1, .int many, .int extra, .lst false [.int s0, .int s1], .lst true (os.map D.int), y5, dP true [] [], .unk, .unk, .unk, .unk, .unk]) (by simp [dP]) ?_
      refine seq_nx (for_ok (by simp [hR]) e2) ?_
      refine seq_nx (for_ok (ds := intsD 0 n) (ρ1 := [pot ns j2, .int many, .int extra, .lst false [.int s0, .int s1], .lst true (os.map D.int), z5, dP true ks ls, .unk, y8, .unk, .unk, .unk]) (by
        have hb : (-18446744073709551616 < c ∧ c < 18446744073709551616) := ⟨Int.lt_of_lt_of_le (by decide) hc0, Int.lt_of_le_of_lt hc1 (by decide)⟩
        simp [hc, hR2, hb, ← hN]) e3) ?_
      have el : dLc [8] (dItems (dCall gSorted (dCons (dF 6) dNil))) (gNm 8) dYes (d2 gAdd (dV 8) (dTup (dCons (dAt 6 (dV 8)) dNil))) [pot ns j3, .int many, .int extra, .lst false [.int s0, .int s1], .lst true (os.map D.int), z5, dP true ks' ls', y7, y8, y9, y10, y11] = some (.ok (.lst true (rows.map fun r => tI (r3 r))) [pot ns j3, .int many, .int extra, .lst false [.int s0, .int s1], .lst true (os.map D.int), z5, dP false ks' ls', y7, .unk, y9, y10, y11]) := by
        refine lc_ok (ρ1 := [pot ns j3, .int many, .int extra, .lst false [.int s0, .int s1], .lst true (os.map D.int), z5, dP false ks' ls', y7, y8, y9, y10, y11]) ?_ e4
        simp [u_sortP sz, freezeL_tIs, fzL_tIs]
      simp [el, webD]
    simp [F_law_web, fnD, body, a_law_web]
end G

set_option Elab.async false
set_option linter.all false
set_option maxRecDepth 100000
set_option maxHeartbeats 4000000
namespace VS
open PySem PySem.Spec L2
/-! data alike -/
@[simp] theorem isa_tl {ds : List D} : gIsa ["list"] (.tup ds) = some (.bl false) := rfl
@[simp] theorem isa_ll {o : Bool} {ds : List D} : gIsa ["list"] (.lst o ds) = some (.bl true) := rfl
@[simp] theorem isa_il {i : Int} : gIsa ["list"] (.int i) = some (.bl false) := rfl
@[simp] theorem isa_bl {i : Bool} : gIsa ["list"] (.bl i) = some (.bl false) := rfl
@[simp] theorem isa_tt {ds : List D} : gIsa ["tuple"] (.tup ds) = some (.bl true) := rfl
@[simp] theorem isa_lt {o : Bool} {ds : List D} : gIsa ["tuple"] (.lst o ds) = some (.bl false) := rfl
@[simp] theorem isa_it {i : Int} : gIsa ["tuple"] (.int i) = some (.bl false) := rfl
@[simp] theorem isa_bt {i : Bool} : gIsa ["tuple"] (.bl i) = some (.bl false) := rfl
@[simp] theorem isa_tlt {ds : List D} : gIsa ["list", "tuple"] (.tup ds) = some (.bl true) := rfl
@[simp] theorem isa_llt {o : Bool} {ds : List D} : gIsa ["list", "tuple"] (.lst o ds) = some (.bl true) := rfl
@[simp] theorem isa_ilt {i : Int} : gIsa ["list", "tuple"] (.int i) = some (.bl false) := rfl
@[simp] theorem isa_blt {i : Bool} : gIsa ["list", "tuple"] (.bl i) = some (.bl false) := rfl
@[simp] theorem isa_ib {i : Int} : gIsa ["bool"] (.int i) = some (.bl false) := rfl
@[simp] theorem isa_bb {i : Bool} : gIsa ["bool"] (.bl i) = some (.bl true) := rfl
@[simp] theorem isa_ii {i : Int} : gIsa ["int"] (.int i) = some (.bl true) := rfl
theorem allB_true {α : Type} (l : List α) : allB (l.map fun _ => D.bl true) = some (l.map fun _ => true) := by
  induction l with
  | nil => rfl
  | cons x l ih => rw [List.map_cons, allB, ih]; rfl
theorem all_true {α : Type} (l : List α) {o : Bool} : gAll [.lst o (l.map fun _ => D.bl true)] = some (.bl true) := by
  unfold gAll
  simp only [u_lstL, Option.bind_some, allB_true, Option.map_some]
  congr 2
  rw [List.all_eq_true]
  intro x hx
  obtain ⟨_, _, rfl⟩ := List.mem_map.mp hx
  rfl
/-- frozen data of ints, bools, lists and tuples, n deep -/
inductive Pl : Nat → D → Prop
  | int {n : Nat} {i : Int} : Pl (n + 1) (.int i)
  | bl {n : Nat} {i : Bool} : Pl (n + 1) (.bl i)
  | tup {n : Nat} {ds : List D} : (∀ d ∈ ds, Pl n d) → ds.length ≤ sizeLine → Pl (n + 1) (.tup ds)
  | lst {n : Nat} {ds : List D} : (∀ d ∈ ds, Pl n d) → ds.length ≤ sizeLine → Pl (n + 1) (.lst false ds)
theorem Pl.fz : ∀ {n : Nat} {d : D}, Pl n d → VS.fz d = true
  | _, _, .int => u_fzI
  | _, _, .bl => u_fzB
  | n + 1, _, .tup h _ => by
    rw [u_fzT, fzL_all, List.all_eq_true]
    intro x hx
    exact (h x hx).fz
  | n + 1, _, .lst h _ => by
    rw [u_fzL, fzL_all, Bool.and_eq_true, List.all_eq_true]
    exact ⟨rfl, fun x hx => (h x hx).fz⟩
theorem Pl.fzL {n : Nat} {ds : List D} (h : ∀ d ∈ ds, Pl n d) : VS.fzL ds = true := by
  rw [fzL_all, List.all_eq_true]
  exact fun x hx => (h x hx).fz
theorem Pl.up : ∀ {n : Nat} {d : D}, Pl n d → ∀ {m : Nat}, n ≤ m → Pl m d
  | _, _, .int, m, h => by
    cases m with
    | zero => omega
    | succ m => exact .int
  | _, _, .bl, m, h => by
    cases m with
    | zero => omega
    | succ m => exact .bl
  | n + 1, _, .tup h z, m, hm => by
    cases m with
    | zero => omega
    | succ m => exact .tup (fun d hd => (h d hd).up (by omega)) z
  | n + 1, _, .lst h z, m, hm => by
    cases m with
    | zero => omega
    | succ m => exact .lst (fun d hd => (h d hd).up (by omega)) z
theorem Pl.tI {xs : List Int} (h : xs.length ≤ sizeLine) : Pl 2 (VS.tI xs) := .tup (fun d hd => by
  obtain ⟨i, _, rfl⟩ := List.mem_map.mp hd
  exact .int) (by rw [List.length_map]; exact h)
theorem zipD_self : ∀ ds : List D, zipD ds ds = ds.map fun d => .tup [d, d]
  | [] => rfl
  | d :: ds => by rw [zipD, zipD_self ds]; rfl
theorem zip_tt {ds : List D} (h : fzL ds = true) : zipOf [.tup ds, .tup ds] = some (ds.map fun d => .tup [d, d]) := by
  unfold zipOf
  simp only [u_frT, freezeL_fz _ h]
  rw [if_pos ⟨h, h⟩, zipD_self]
theorem zip_ll {ds : List D} (h : fzL ds = true) : zipOf [.lst false ds, .lst false ds] = some (ds.map fun d => .tup [d, d]) := by
  unfold zipOf
  simp only [u_frL, freezeL_fz _ h, u_lstL, u_fzL, h]
  simp [zipD_self]
end VS
namespace G
open PySem PySem.Spec L2 VS
theorem alike_ok : ∀ {n : Nat} {d : D}, Pl n d → F_law_alike n [d, d] = some (.ok (.bl true) [d, d])
  | n + 1, _, .int => by simp [F_law_alike, fnD, body_law_alike, a_law_alike]
  | n + 1, _, .bl => by simp [F_law_alike, fnD, body_law_alike, a_law_alike]
  | n + 1, .tup ds, .tup h z => by
    have hf := Pl.fzL h
    have e : lcD [2, 3] (gTp [2, 3]) dYes (dFn [none, none] (F_law_alike n) (dCons (dV 2) (dCons (dV 3) dNil))) (ds.map fun d => .tup [d, d]) [] [.tup ds, .tup ds, .unk, .unk] = some (ds.map fun _ => D.bl true, [.tup ds, .tup ds, .unk, .unk]) := by
      have := lc_map (own := [2, 3]) (bt := gTp [2, 3]) (el := dFn [none, none] (F_law_alike n) (dCons (dV 2) (dCons (dV 3) dNil))) (ρ := [.tup ds, .tup ds, .unk, .unk]) (g := fun d => .tup [d, d]) (h := fun _ => D.bl true) ds [] (by simpa using z) (by
        intro d hd
        refine ⟨_, [.tup ds, .tup ds, d, d], rfl, ?_, rfl⟩
        simp [(h d hd).fz, alike_ok (h d hd)])
      exact this
    simp [F_law_alike, fnD, body_law_alike, a_law_alike, hf, zip_tt hf, dLc, e, all_true]
  | n + 1, .lst false ds, .lst h z => by
    have hf := Pl.fzL h
    have e : lcD [2, 3] (gTp [2, 3]) dYes (dFn [none, none] (F_law_alike n) (dCons (dV 2) (dCons (dV 3) dNil))) (ds.map fun d => .tup [d, d]) [] [.lst false ds, .lst false ds, .unk, .unk] = some (ds.map fun _ => D.bl true, [.lst false ds, .lst false ds, .unk, .unk]) := by
      have := lc_map (own := [2, 3]) (bt := gTp [2, 3]) (el := dFn [none, none] (F_law_alike n) (dCons (dV 2) (dCons (dV 3) dNil))) (ρ := [.lst false ds, .lst false ds, .unk, .unk]) (g := fun d => .tup [d, d]) (h := fun _ => D.bl true) ds [] (by simpa using z) (by
        intro d hd
        refine ⟨_, [.lst false ds, .lst false ds, d, d], rfl, ?_, rfl⟩
        simp [(h d hd).fz, alike_ok (h d hd)])
      exact this
    simp [F_law_alike, fnD, body_law_alike, a_law_alike, hf, zip_ll hf, dLc, e, all_true]
/-- a copy of data, frozen, is the data -/
theorem copied_ok : ∀ {n : Nat} {d : D}, Pl n d → ∃ d', freeze d' = d ∧ F_law_copied n [d] = some (.ok d' [d])
  | n + 1, _, .int => ⟨_, u_frI, by simp [F_law_copied, fnD, body_law_copied, a_law_copied]⟩
  | n + 1, _, .bl => ⟨_, u_frB, by simp [F_law_copied, fnD, body_law_copied, a_law_copied]⟩
  | n + 1, .tup ds, .tup h z => by
    have hf := Pl.fzL h
    have hff := freezeL_fz _ hf
    obtain ⟨c, hc⟩ : ∃ c : D → D, ∀ d ∈ ds, freeze (c d) = d ∧ F_law_copied n [d] = some (.ok (c d) [d]) := by
      classical
      refine ⟨fun d => if h : ∃ d', freeze d' = d ∧ F_law_copied n [d] = some (.ok d' [d]) then h.choose else d, fun d hd => ?_⟩
      have q := copied_ok (h d hd)
      dsimp only
      rw [dif_pos q]
      exact q.choose_spec
    have e : lcD [1] (gNm 1) dYes (dFn [none] (F_law_copied n) (dCons (dV 1) dNil)) ds [] [.tup ds, .unk] = some (ds.map c, [.tup ds, .unk]) := by
      have := lc_map (own := [1]) (bt := gNm 1) (el := dFn [none] (F_law_copied n) (dCons (dV 1) dNil)) (ρ := [.tup ds, .unk]) (g := fun d => d) (h := c) ds [] (by simpa using z) (by
        intro d hd
        refine ⟨_, [.tup ds, d], rfl, ?_, rfl⟩
        simp [(h d hd).fz, (hc d hd).2])
      rw [List.map_id'] at this
      exact this
    refine ⟨.tup (ds.map c), ?_, by simp [F_law_copied, fnD, body_law_copied, a_law_copied, hf, hff, dLc, e]⟩
    rw [u_frT, freezeL_map, List.map_map]
    congr 1
    conv => rhs; rw [← List.map_id ds]
    exact List.map_congr_left fun d hd => (hc d hd).1
  | n + 1, .lst false ds, .lst h z => by
    have hf := Pl.fzL h
    have hff := freezeL_fz _ hf
    obtain ⟨c, hc⟩ : ∃ c : D → D, ∀ d ∈ ds, freeze (c d) = d ∧ F_law_copied n [d] = some (.ok (c d) [d]) := by
      classical
      refine ⟨fun d => if h : ∃ d', freeze d' = d ∧ F_law_copied n [d] = some (.ok d' [d]) then h.choose else d, fun d hd => ?_⟩
      have q := copied_ok (h d hd)
      dsimp only
      rw [dif_pos q]
      exact q.choose_spec
    have e : lcD [1] (gNm 1) dYes (dFn [none] (F_law_copied n) (dCons (dV 1) dNil)) ds [] [.lst false ds, .unk] = some (ds.map c, [.lst false ds, .unk]) := by
      have := lc_map (own := [1]) (bt := gNm 1) (el := dFn [none] (F_law_copied n) (dCons (dV 1) dNil)) (ρ := [.lst false ds, .unk]) (g := fun d => d) (h := c) ds [] (by simpa using z) (by
        intro d hd
        refine ⟨_, [.lst false ds, d], rfl, ?_, rfl⟩
        simp [(h d hd).fz, (hc d hd).2])
      rw [List.map_id'] at this
      exact this
    refine ⟨.lst true (ds.map c), ?_, by simp [F_law_copied, fnD, body_law_copied, a_law_copied, hf, hff, dLc, e]⟩
    rw [u_frL, freezeL_map, List.map_map]
    congr 1
    conv => rhs; rw [← List.map_id ds]
    exact List.map_congr_left fun d hd => (hc d hd).1
end G

set_option Elab.async false
set_option linter.all false
set_option maxRecDepth 100000
set_option maxHeartbeats 4000000
namespace VS
open PySem PySem.Spec L2
def sR (l : List R3) : List R3 := l.mergeSort fun x y => leL (r3 x) (r3 y)
theorem sR_perm (l : List R3) : (sR l).Perm l := List.mergeSort_perm _ _
theorem sR_map (l : List R3) : (l.map r3).mergeSort leL = (sR l).map r3 := (List.map_mergeSort (f := r3) (r := fun x y => leL (r3 x) (r3 y)) (s := leL) (l := l) (fun x _ y _ => rfl)).symm
theorem sR_eq {l m : List R3} (h : l.Perm m) (hs : m.Pairwise lt3) : sR l = m := by
  refine List.Perm.eq_of_pairwise (le := fun x y => leL (r3 x) (r3 y) = true) (fun a b _ _ h1 h2 => r3_inj (leL_anti _ _ h1 h2)) (List.pairwise_mergeSort (le := fun x y => leL (r3 x) (r3 y)) (fun x y z => leL_trans (r3 x) (r3 y) (r3 z)) (fun x y => leL_total (r3 x) (r3 y)) l) (hs.imp leL_r3) ?_
  exact (sR_perm l).trans h
theorem u_sortR {o : Bool} {l : List R3} (hl : l.length ≤ sizeLine) : gSorted [.lst o (l.map fun r => tI (r3 r))] = some (.lst true ((sR l).map fun r => tI (r3 r))) := by
  show (sortD (l.map fun r => tI (r3 r))).map (fun ys => D.lst true ys) = _
  have e : (l.map fun r => tI (r3 r)) = (l.map r3).map tI := by rw [List.map_map]; rfl
  rw [e, sortD_tI (by
    intro x hx
    obtain ⟨p, _, rfl⟩ := List.mem_map.mp hx
    intro z
    cases z) (by rw [List.length_map]; exact hl), sR_map, List.map_map]
  rfl
def oAt (os : List Int) (x : Int) : Int := os.getD x.toNat 0
def ren (os : List Int) (r : R3) : R3 := (min (oAt os r.1) (oAt os r.2.1), max (oAt os r.1) (oAt os r.2.1), r.2.2)
theorem oAt_at {os : List Int} {x : Int} (h0 : 0 ≤ x) (h1 : x < os.length) : atI (os.map D.int) x = some (.int (oAt os x)) := by
  refine atI_lt h0 ?_
  rw [List.getElem?_map]
  unfold oAt List.getD
  rw [List.getElem?_eq_getElem (by omega)]
  rfl
theorem oAt_mem {os : List Int} {x : Int} (h0 : 0 ≤ x) (h1 : x < os.length) : oAt os x ∈ os := by
  unfold oAt List.getD
  rw [List.getElem?_eq_getElem (by omega)]
  exact List.getElem_mem _
/-- renamed there and back -/
theorem ren_ren {os bs : List Int} {r : R3} (h : ∀ x : Int, 0 ≤ x → x < os.length → oAt bs (oAt os x) = x) (h0 : 0 ≤ r.1) (h1 : r.1 ≤ r.2.1) (h2 : r.2.1 < os.length) : ren bs (ren os r) = r := by
  obtain ⟨a, b, l⟩ := r
  dsimp only at h0 h1 h2
  have ea := h a h0 (by omega)
  have eb := h b (by omega) h2
  unfold ren
  dsimp only
  rcases Int.le_total (oAt os a) (oAt os b) with q | q
  · rw [Int.min_eq_left q, Int.max_eq_right q, ea, eb, Int.min_eq_left h1, Int.max_eq_right h1]
  · rw [Int.min_eq_right q, Int.max_eq_left q, ea, eb, Int.min_eq_right h1, Int.max_eq_left h1]
theorem sR_ren {os bs : List Int} {rows : List R3} (h : ∀ x : Int, 0 ≤ x → x < os.length → oAt bs (oAt os x) = x) (hr : ∀ r ∈ rows, 0 ≤ r.1 ∧ r.1 ≤ r.2.1 ∧ r.2.1 < os.length) (hp : rows.Pairwise lt3) : sR ((sR (rows.map (ren os))).map (ren bs)) = rows := by
  refine sR_eq (((sR_perm (rows.map (ren os))).map (ren bs)).trans ?_) hp
  rw [List.map_map]
  have : rows.map (ren bs ∘ ren os) = rows := by
    conv => rhs; rw [← List.map_id rows]
    exact List.map_congr_left fun r hq => ren_ren h (hr r hq).1 (hr r hq).2.1 (hr r hq).2.2
  rw [this]
/-- where an int lies first -/
def fI (k : Int) : List Int → Nat
  | [] => 0
  | x :: xs => if x = k then 0 else fI k xs + 1
theorem fI_lt {k : Int} : ∀ {xs : List Int}, k ∈ xs → fI k xs < xs.length ∧ xs[fI k xs]? = some k
  | [], h => by cases h
  | x :: xs, h => by
    rw [fI]
    by_cases e : x = k
    · rw [if_pos e, e]; exact ⟨by simp, rfl⟩
    · rw [if_neg e]
      rcases List.mem_cons.mp h with q | q
      · exact absurd q.symm e
      · obtain ⟨h1, h2⟩ := fI_lt q
        refine ⟨by simp; exact h1, ?_⟩
        rw [List.getElem?_cons_succ]; exact h2
theorem idxP_ints {k : Int} : ∀ {xs : List Int}, k ∈ xs → idxP (.int k) (xs.map PyData.int) = some (fI k xs)
  | [], h => by cases h
  | x :: xs, h => by
    rw [List.map_cons, idxP, fI, PyData.eqv]
    by_cases e : x = k
    · rw [if_pos (by rw [e]; simp), if_pos e]
    · rw [if_neg (by simp [e]), if_neg e]
      rcases List.mem_cons.mp h with q | q
      · exact absurd q.symm e
      · rw [idxP_ints q]; rfl
theorem lay_ints : ∀ xs : List Int, PyData.canLayAll0 (xs.map PyData.int) = true
  | [] => by rw [List.map_nil, PyData.canLayAll0]
  | x :: xs => by rw [List.map_cons, PyData.canLayAll0, lay_ints xs, PyData.canLay0]; rfl
theorem sh_ints (xs : List Int) : SeqAt.shaped (.list (xs.map PyData.int)) = true := by
  unfold SeqAt.shaped
  rw [PyData.canLay0, lay_ints, PyData.depth, depth_ints]; rfl
theorem idx_ok {o : Bool} {os : List Int} {k : Int} (h : k ∈ os) : idxD (.lst o (os.map D.int)) (.int k) = some (.int (fI k os)) := by
  unfold idxD
  simp only [u_lstL, dats_ints, show dat (.int k) = some (.int k) from rfl]
  rw [if_pos ⟨sh_ints os, sh_int⟩, idxP_ints h]; rfl
def backs (os : List Int) : List Int := (rangeI os.length).map fun k => (fI k os : Int)
theorem backs_back {os : List Int} (hp : os.Perm (rangeI os.length)) : ∀ x : Int, 0 ≤ x → x < os.length → oAt (backs os) (oAt os x) = x := by
  intro x h0 h1
  have hm := oAt_mem h0 h1
  have hb := mem_rangeI.mp (hp.mem_iff.mp hm)
  obtain ⟨f1, f2⟩ := fI_lt hm
  have hn : os.Nodup := hp.nodup_iff.mpr (nodup_rangeI _)
  have e : fI (oAt os x) os = x.toNat := by
    have g : os[x.toNat]? = some (oAt os x) := by
      unfold oAt List.getD
      rw [List.getElem?_eq_getElem (by omega)]; rfl
    have := (List.getElem?_inj f1 hn).mp (f2.trans g.symm)
    exact this
  unfold oAt at e hb ⊢
  rw [show (backs os).getD (os.getD x.toNat 0).toNat 0 = (fI ((os.getD x.toNat 0).toNat : Int) os : Int) by
    unfold backs rangeI
    rw [List.getD, List.map_map, List.getElem?_map, List.getElem?_range (by omega)]
    rfl]
  rw [Int.toNat_of_nonneg hb.1, e]
  omega
theorem len_backs (os : List Int) : (backs os).length = os.length := by unfold backs; rw [List.length_map, len_rangeI]
theorem lay_tIs : ∀ l : List (List Int), PyData.canLayAll0 (l.map fun xs => PyData.tuple (xs.map PyData.int)) = true
  | [] => by rw [List.map_nil, PyData.canLayAll0]
  | x :: l => by rw [List.map_cons, PyData.canLayAll0, lay_tIs l, PyData.canLay0, lay_ints]; rfl
theorem depth_tIs : ∀ l : List (List Int), PyData.depthAll (l.map fun xs => PyData.tuple (xs.map PyData.int)) ≤ 1
  | [] => by rw [List.map_nil, PyData.depthAll]; exact Nat.zero_le _
  | x :: l => by
    rw [List.map_cons, PyData.depthAll, PyData.depth, depth_ints]
    have := depth_tIs l
    omega
theorem ne_empty (l : List R3) : gNe (.tup (l.map fun r => tI (r3 r))) (.tup []) = some (.bl (!l.isEmpty)) := by
  unfold gNe eqD
  have e : (l.map fun r => tI (r3 r)) = (l.map r3).map tI := by rw [List.map_map]; rfl
  have hd : dat (.tup (l.map fun r => tI (r3 r))) = some (.tuple ((l.map r3).map fun xs => .tuple (xs.map PyData.int))) := by
    rw [dat, e, dats_tIs]; rfl
  have hs : SeqAt.shaped (.tuple ((l.map r3).map fun xs => .tuple (xs.map PyData.int))) = true := by
    unfold SeqAt.shaped
    rw [PyData.canLay0, lay_tIs, PyData.depth, Bool.and_eq_true, decide_eq_true_eq]
    have := depth_tIs (l.map r3)
    refine ⟨rfl, by omega⟩
  have hs0 : SeqAt.shaped (.tuple []) = true := by
    unfold SeqAt.shaped
    rw [PyData.canLay0, PyData.canLayAll0, PyData.depth, PyData.depthAll]; rfl
  have hd0 : dat (.tup []) = some (.tuple []) := by rw [dat, dats]; rfl
  rw [hd, hd0]
  simp only [hs, hs0, and_self, if_true, Option.map_some]
  congr 2
  rw [PyData.eqv]
  cases l with
  | nil => rw [List.map_nil, List.map_nil, PyData.eqvAll]; rfl
  | cons x l => rw [List.map_cons, List.map_cons, PyData.eqvAll]; rfl
end VS
namespace G
open PySem PySem.Spec L2 VS
def ordD (t : Bool) (os : List Int) : D := if t = true then .tup (os.map D.int) else .lst false (os.map D.int)
theorem GoodW.pl {many : Int} {rows : List R3} (h : rows.length ≤ 100000) : Pl 4 (webD many rows) := by
  refine .tup (fun d hd => ?_) (by show 2 ≤ sizeLine; simp)
  rcases List.mem_cons.mp hd with rfl | hd
  · exact .int
  · rw [List.mem_singleton] at hd
    subst hd
    refine .tup (fun d hd => ?_) (by rw [List.length_map]; exact le_size (by omega))
    obtain ⟨r, _, rfl⟩ := List.mem_map.mp hd
    exact Pl.tI (by show 3 ≤ sizeLine; simp)
theorem ordD_pl {t : Bool} {os : List Int} (h : os.length ≤ 1000) : Pl 2 (ordD t os) := by
  unfold ordD
  cases t with
  | true => exact Pl.tI (le_size (by omega))
  | false => exact .lst (fun d hd => by obtain ⟨i, _, rfl⟩ := List.mem_map.mp hd; exact .int) (by rw [List.length_map]; exact le_size (by omega))
theorem fz_web {many : Int} {rows : List R3} (h : rows.length ≤ 100000) : fz (webD many rows) = true := (GoodW.pl h).fz
theorem renamed_ok {many : Int} {rows : List R3} {t : Bool} {os : List Int} (hz : rows.length ≤ 100000) (hr : ∀ r ∈ rows, 0 ≤ r.1 ∧ r.1 < os.length ∧ 0 ≤ r.2.1 ∧ r.2.1 < os.length) :
    F_renamed_web [webD many rows, ordD t os] = some (.ok (webD many (sR (rows.map (ren os)))) [webD many rows, ordD t os]) := by
  have e : lcD [3, 4, 5] (gTp [3, 4, 5]) dYes (dTup (dCons (dCallS [none, none] gMin (dCons (dAt 1 (dV 3)) (dCons (dAt 1 (dV 4)) dNil))) (dCons (dCallS [none, none] gMax (dCons (dAt 1 (dV 3)) (dCons (dAt 1 (dV 4)) dNil))) (dCons (dV 5) dNil)))) (rows.map fun r => tI (r3 r)) [] [webD many rows, ordD t os, .unk, .unk, .unk, .unk] = some ((rows.map (ren os)).map fun r => tI (r3 r), [webD many rows, ordD t os, .unk, .unk, .unk, .unk]) := by
    rw [List.map_map]
    refine lc_map (h := fun r => tI (r3 (ren os r))) rows [] (le_size (by simp; omega)) ?_
    intro r hq
    obtain ⟨h0, h1, h2, h3⟩ := hr r hq
    have e1 := oAt_at h0 h1
    have e2 := oAt_at h2 h3
    refine ⟨_, [webD many rows, ordD t os, .unk, .int r.1, .int r.2.1, .int r.2.2], rfl, ?_, rfl⟩
    unfold tI r3 ren ordD
    cases t <;> simp [e1, e2]
  have sz : (rows.map (ren os)).length ≤ sizeLine := by rw [List.length_map]; exact le_size (by omega)
  have fz1 := fz_web (many := many) hz
  have fz2 := (ordD_pl (t := t) (os := []) (by simp)).fz
  have fr : freeze (webD many rows) = webD many rows := freeze_fz _ fz1
  have e' : dLc [3, 4, 5] (dItems (dAt 0 (dC (.int 1)))) (gTp [3, 4, 5]) dYes (dTup (dCons (dCallS [none, none] gMin (dCons (dAt 1 (dV 3)) (dCons (dAt 1 (dV 4)) dNil))) (dCons (dCallS [none, none] gMax (dCons (dAt 1 (dV 3)) (dCons (dAt 1 (dV 4)) dNil))) (dCons (dV 5) dNil)))) [webD many rows, ordD t os, .unk, .unk, .unk, .unk] = some (.ok (.lst true ((rows.map (ren os)).map fun r => tI (r3 r))) [webD many rows, ordD t os, .unk, .unk, .unk, .unk]) := by
    refine lc_ok (ρ1 := [webD many rows, ordD t os, .unk, .unk, .unk, .unk]) ?_ e
    simp [webD, freezeL_tIs, fzL_tIs]
  have body : body_renamed_web [webD many rows, ordD t os, .unk, .unk, .unk, .unk] = some (.rt (webD many (sR (rows.map (ren os)))), [webD many rows, ordD t os, .lst false ((rows.map (ren os)).map fun r => tI (r3 r)), .unk, .unk, .unk]) := by
    unfold body_renamed_web
    refine seq_nx (set_ok e') ?_
    generalize hrows : rows.map (ren os) = rr at *
    simp [webD, freezeL_tIs, fzL_tIs, u_sortR sz]
  simp [F_renamed_web, fnD, body, a_renamed_web]
theorem law_renamed_ok {many : Int} {rows : List R3} {t : Bool} {os : List Int} (hz : rows.length ≤ 100000) (hr : ∀ r ∈ rows, 0 ≤ r.1 ∧ r.1 < os.length ∧ 0 ≤ r.2.1 ∧ r.2.1 < os.length) :
    F_law_renamed [webD many rows, ordD t os] = some (.ok (webD many (sR (rows.map (ren os)))) [webD many rows, ordD t os]) := by
  obtain ⟨ρ', e, y3, y4, y5, h⟩ := for_inv (bt := gTp [3, 4, 5]) (body := (dDrop (dMt 2 gApp (dCons (dTup (dCons (dCallS [none, none] gMin (dCons (dAt 1 (dV 3)) (dCons (dAt 1 (dV 4)) dNil))) (dCons (dCallS [none, none] gMax (dCons (dAt 1 (dV 3)) (dCons (dAt 1 (dV 4)) dNil))) (dCons (dV 5) dNil)))) dNil))))
    (fun k ρ => ∃ y3 y4 y5, ρ = [webD many rows, ordD t os, .lst true (((rows.take k).map (ren os)).map fun r => tI (r3 r)), y3, y4, y5]) (rows.map fun r => tI (r3 r)) 0 [webD many rows, ordD t os, .lst true [], .unk, .unk, .unk] ⟨_, _, _, rfl⟩ (by
    rintro i d ρ hi ⟨y3, y4, y5, rfl⟩
    rw [List.getElem?_map] at hi
    cases q : rows[i]? with
    | none => rw [q] at hi; cases hi
    | some r =>
      rw [q] at hi
      cases hi
      have hil := (List.getElem?_eq_some_iff.mp q).1
      obtain ⟨h0, h1, h2, h3⟩ := hr r (List.mem_of_getElem? q)
      have e1 := oAt_at h0 h1
      have e2 := oAt_at h2 h3
      have et : rows.take (i + 1) = rows.take i ++ [r] := by
        rw [List.take_add_one, q]; rfl
      have es : min i rows.length < sizeLine := lt_size (by omega)
      refine ⟨_, [webD many rows, ordD t os, .lst true (((rows.take (0 + i + 1)).map (ren os)).map fun r => tI (r3 r)), .int r.1, .int r.2.1, .int r.2.2], rfl, .inl ?_, _, _, _, rfl⟩
      rw [Nat.zero_add, et]
      unfold tI r3 ordD
      cases t <;> simp [e1, e2, es, ren])
  have sz : (rows.map (ren os)).length ≤ sizeLine := by rw [List.length_map]; exact le_size (by omega)
  rw [List.length_map, Nat.zero_add, List.take_length] at h
  subst h
  have body : body_law_renamed [webD many rows, ordD t os, .unk, .unk, .unk, .unk] = some (.rt (webD many (sR (rows.map (ren os)))), [webD many rows, ordD t os, .lst false ((rows.map (ren os)).map fun r => tI (r3 r)), y3, y4, y5]) := by
    unfold body_law_renamed
    refine seq_nx (ρ1 := [webD many rows, ordD t os, .lst true [], .unk, .unk, .unk]) (by simp) ?_
    refine seq_nx (for_ok (ds := rows.map fun r => tI (r3 r)) (ρ1 := [webD many rows, ordD t os, .lst true [], .unk, .unk, .unk]) (by simp [webD, freezeL_tIs, fzL_tIs]) e) ?_
    generalize hrows : rows.map (ren os) = rr at *
    simp [webD, freezeL_tIs, fzL_tIs, u_sortR sz]
  simp [F_law_renamed, fnD, body, a_law_renamed]
end G

set_option Elab.async false
set_option linter.all false
set_option maxRecDepth 100000
set_option maxHeartbeats 4000000
namespace VS
open PySem PySem.Spec L2
theorem atI_last {xs : List D} {x : D} : atI (xs ++ [x]) (-1) = some x := by
  have : ixN (xs ++ [x]).length (-1) = some xs.length := by
    unfold ixN
    rw [if_neg (by decide), List.length_append, List.length_singleton]
    rw [if_pos (by omega)]
    congr 1
    omega
  unfold atI
  rw [this]
  simp
theorem cutD_init {xs : List D} {x : D} : cutD (xs ++ [x]) none (some (-1)) = xs := by
  unfold cutD HT.sIx
  simp only
  rw [if_pos (by decide), List.length_append, List.length_singleton, List.drop_zero, show (-1 + ((xs.length + 1 : Nat) : Int)).toNat - 0 = xs.length by omega, List.take_left']
  rfl
theorem ints_range (n : Nat) : intsD 0 n = (rangeI n).map D.int := by
  unfold intsD rangeI
  rw [List.map_map]
  apply List.map_congr_left
  intro i _
  simp
end VS
namespace G
open PySem PySem.Spec L2 VS
abbrev L3 : MS := (dSet 3 (d2 gIx (dLst (dCons (d2 gAdd (dC (.int 1)) (dFn [some 1, none] F_law_take (dIO 1 (dCons (dC (.int 12)) dNil)))) (dCons (d2 gAdd (dC (.int 13)) (dFn [some 1, none] F_law_take (dIO 1 (dCons (dC (.int 48)) dNil)))) dNil))) (dCallS [none] gIntOf (dCons (dAnd (d2 gEq (dFn [some 1, none] F_law_take (dIO 1 (dCons (dC (.int 8)) dNil))) (dC (.int 7))) (d2 gEq (dV 2) (dC (.int 0)))) dNil))))
theorem l3_ok {ns : List Int} {i t : Int} {S x3 x4 x5 x6 x7 x8 x9 x10 x11 x12 : D} (hn : ns ≠ []) (hi : 0 ≤ i) : ∃ many j : Int, 1 ≤ many ∧ many ≤ 60 ∧ i ≤ j ∧ L3 [S, pot ns i, .int t, x3, x4, x5, x6, x7, x8, x9, x10, x11, x12] = some (.nx, [S, pot ns j, .int t, .int many, x4, x5, x6, x7, x8, x9, x10, x11, x12]) := by
  obtain ⟨x, x0, x1, ex⟩ := take_ok (ns := ns) (i := i) (m := 12) hn hi (by omega)
  obtain ⟨y, y0, y1, ey⟩ := take_ok (ns := ns) (i := i + 1) (m := 48) hn (by omega) (by omega)
  obtain ⟨z, z0, z1, ez⟩ := take_ok (ns := ns) (i := i + 1 + 1) (m := 8) hn (by omega) (by omega)
  by_cases c : z = 7 ∧ t = 0
  · refine ⟨13 + y, i + 1 + 1 + 1, by omega, by omega, by omega, ?_⟩
    simp [ex, ey, ez, c.1, c.2]
  · refine ⟨1 + x, i + 1 + 1 + 1, by omega, by omega, by omega, ?_⟩
    by_cases c1 : z = 7
    · have c2 : ¬ t = 0 := fun h => c ⟨c1, h⟩
      simp [ex, ey, ez, c1, c2]
    · simp [ex, ey, ez, c1]
abbrev L4 : MS := (dSet 4 (dFn [some 1, none, none, none] F_law_web (dIO 1 (dCons (dV 3) (dCons (d2 gIx (dLst (dCons (dFn [some 1, none] F_law_take (dIO 1 (dCons (dC (.int 12)) dNil))) (dCons (dC (.int 220)) dNil))) (dCallS [none] gIntOf (dCons (d2 (gCmp cGt) (dV 3) (dC (.int 12))) dNil))) (dCons (dFz (dLst (dCons (dFn [some 1, none] F_law_take (dIO 1 (dCons (dC (.int 4)) dNil))) (dCons (dFn [some 1, none] F_law_take (dIO 1 (dCons (dC (.int 4)) dNil))) dNil)))) dNil))))))
theorem l4_ok {ns : List Int} {i many : Int} {S x2 x4 x5 x6 x7 x8 x9 x10 x11 x12 : D} (hn : ns ≠ []) (hi : 0 ≤ i) (h1 : 1 ≤ many) (h2 : many ≤ 60) : ∃ (rows : List R3) (j : Int), i ≤ j ∧ GoodW many rows ∧ L4 [S, pot ns i, x2, .int many, x4, x5, x6, x7, x8, x9, x10, x11, x12] = some (.nx, [S, pot ns j, x2, .int many, webD many rows, x5, x6, x7, x8, x9, x10, x11, x12]) := by
  obtain ⟨x, x0, x1, ex⟩ := take_ok (ns := ns) (i := i) (m := 12) hn hi (by omega)
  obtain ⟨y, y0, y1, ey⟩ := take_ok (ns := ns) (i := i + 1) (m := 4) hn (by omega) (by omega)
  obtain ⟨z, z0, z1, ez⟩ := take_ok (ns := ns) (i := i + 1 + 1) (m := 4) hn (by omega) (by omega)
  by_cases c : 12 < many
  · obtain ⟨rows, j, hj, hg, e⟩ := web_ok (ns := ns) (i := i + 1 + 1 + 1) (many := many) (extra := 220) (s0 := y) (s1 := z) hn (by omega) h1 (by omega) (by omega) (by omega) y0 y1
    exact ⟨rows, j, by omega, hg, by simp [ex, ey, ez, c, e]⟩
  · obtain ⟨rows, j, hj, hg, e⟩ := web_ok (ns := ns) (i := i + 1 + 1 + 1) (many := many) (extra := x) (s0 := y) (s1 := z) hn (by omega) h1 (by omega) (by omega) (by omega) y0 y1
    exact ⟨rows, j, by omega, hg, by simp [ex, ey, ez, c, e]⟩
abbrev L5 : MS := (dIfS (dAndT (dTB (d2 gNe (dAt 4 (dC (.int 1))) (dTup dNil))) (dTB (d2 gEq (dFn [some 1, none] F_law_take (dIO 1 (dCons (dC (.int 4)) dNil))) (dC (.int 0)))))
    (dSeq (dAsg (d2 gIx (dAt 4 (dC (.int 1))) (d1 gNeg (dC (.int 1)))) (gTp [9, 10, 11]))
    (dSet 4 (dTup (dCons (dV 3) (dCons (d2 gAdd (dSl (dAt 4 (dC (.int 1))) dNo (dEnd (d1 gNeg (dC (.int 1))))) (dTup (dCons (dTup (dCons (dV 9) (dCons (dV 10) (dCons (d2 gPow (dC (.int 10)) (dC (.int 30))) dNil)))) dNil))) dNil))))) dSkip)
theorem goodW_last {many : Int} {rows : List R3} {r : R3} {l : Int} (h : GoodW many (rows ++ [r])) : GoodW many (rows ++ [(r.1, r.2.1, l)]) := by
  obtain ⟨h1, h2, h3⟩ := h
  refine ⟨?_, ?_, by simpa using h3⟩
  · intro s hs
    rcases List.mem_append.mp hs with q | q
    · exact h1 s (List.mem_append_left _ q)
    · rw [List.mem_singleton] at q
      subst q
      exact h1 r (List.mem_append_right _ List.mem_cons_self)
  · rw [List.pairwise_append] at h2 ⊢
    refine ⟨h2.1, by simp, ?_⟩
    intro a ha b hb
    rw [List.mem_singleton] at hb
    subst hb
    exact h2.2.2 a ha r List.mem_cons_self
theorem l5_ok {ns : List Int} {i many : Int} {S x2 x5 x6 x7 x8 x9 x10 x11 x12 : D} {rows : List R3} (hn : ns ≠ []) (hi : 0 ≤ i) (hg : GoodW many rows) : ∃ (rows' : List R3) (j : Int) (y9 y10 y11 : D), i ≤ j ∧ GoodW many rows' ∧ L5 [S, pot ns i, x2, .int many, webD many rows, x5, x6, x7, x8, x9, x10, x11, x12] = some (.nx, [S, pot ns j, x2, .int many, webD many rows', x5, x6, x7, x8, y9, y10, y11, x12]) := by
  obtain ⟨x, x0, x1, ex⟩ := take_ok (ns := ns) (i := i) (m := 4) hn hi (by omega)
  have ne := ne_empty rows
  by_cases c : rows = []
  · subst c
    refine ⟨[], i, x9, x10, x11, by omega, hg, ?_⟩
    rw [List.map_nil] at ne
    simp [webD, ne]
  · have ce : rows.isEmpty = false := by simpa using c
    by_cases c2 : x = 0
    · obtain ⟨init, r, rfl⟩ : ∃ init r, rows = init ++ [r] := ⟨rows.dropLast, rows.getLast c, (List.dropLast_concat_getLast c).symm⟩
      refine ⟨init ++ [(r.1, r.2.1, 10 ^ 30)], i + 1, .int r.1, .int r.2.1, .int r.2.2, by omega, goodW_last hg, ?_⟩
      rw [ce] at ne
      have hsz : init.length + 1 ≤ sizeLine := by
        have := hg.2.2
        simp at this
        exact le_size (by omega)
      have el : (init ++ [r]).map (fun r => tI (r3 r)) = init.map (fun r => tI (r3 r)) ++ [tI (r3 r)] := by simp
      have a1 := atI_last (xs := init.map (fun r => tI (r3 r))) (x := tI (r3 r))
      have a2 := cutD_init (xs := init.map (fun r => tI (r3 r))) (x := tI (r3 r))
      have a3 : fzL (init.map (fun r => tI (r3 r)) ++ [tI (r3 r)]) = true := by rw [← el]; exact fzL_tIs _ _
      rw [el] at ne
      refine ifS_t (ρ1 := [S, pot ns (i + 1), x2, .int many, webD many (init ++ [r]), x5, x6, x7, x8, x9, x10, x11, x12]) ?_ ?_
      · unfold webD
        rw [el]
        simp only [u_dAndT, u_bindM, u_dTB, u_d2]
        simp [ne, ex, c2, a3]
      · refine seq_nx (ρ1 := [S, pot ns (i + 1), x2, .int many, webD many (init ++ [r]), x5, x6, x7, x8, .int r.1, .int r.2.1, .int r.2.2, x12]) ?_ ?_
        · unfold webD
          rw [el]
          simp [a1, a3]
          simp [tI, r3]
        · unfold webD
          rw [el]
          simp [a2, a3, hsz]
          simp [tI, r3]
    · refine ⟨rows, i + 1, x9, x10, x11, by omega, hg, ?_⟩
      simp [webD, ne, ce, ex, c2, fzL_tIs]
theorem back_ok {os : List Int} {n : Int} {S x1 x2 x4 x6 x7 x8 x9 x10 x11 : D} {x12 : D} (hp : os.Perm (rangeI n.toNat)) (h0 : 0 ≤ n) (hn : n ≤ 1000) : dLc [12] (dRange1 (dCons (dV 3) dNil)) (gNm 12) dYes (dIdx 5 (dCons (dV 12) dNil)) [S, x1, x2, .int n, x4, .lst true (os.map D.int), x6, x7, x8, x9, x10, x11, x12] = some (.ok (.lst true ((backs os).map D.int)) [S, x1, x2, .int n, x4, .lst true (os.map D.int), x6, x7, x8, x9, x10, x11, .unk]) := by
  have hR : inR n := inR_le (by omega) (by omega)
  have hl : os.length = n.toNat := by rw [hp.length_eq, len_rangeI]
  refine lc_ok (ds := (rangeI n.toNat).map D.int) (ρ1 := [S, x1, x2, .int n, x4, .lst true (os.map D.int), x6, x7, x8, x9, x10, x11, x12]) (ρ2 := [S, x1, x2, .int n, x4, .lst true (os.map D.int), x6, x7, x8, x9, x10, x11, .unk]) ?_ ?_
  · rw [← ints_range]
    simp [hR]
  · unfold backs
    rw [hl, List.map_map]
    refine lc_map (h := fun k => .int (fI k os)) (rangeI n.toNat) [] (by rw [len_rangeI]; exact le_size (by simp; omega)) ?_
    intro k hk
    have hm := hp.mem_iff.mpr hk
    refine ⟨_, [S, x1, x2, .int n, x4, .lst true (os.map D.int), x6, x7, x8, x9, x10, x11, .int k], rfl, ?_, rfl⟩
    simp [dIdx, idxS, idx_ok hm]
abbrev L9 : MS := (dSeq (dSet 7 (dLst (dCons (dFz (dFn [none] (F_law_copied 20) (dCons (dV 4) dNil))) (dCons (dFz (dFn [none] (F_law_copied 20) (dCons (dF 5) dNil))) dNil))))
    (dSeq (dSet 8 (dFn [none, none] F_renamed_web (dCons (dAt 7 (dC (.int 0))) (dCons (dAt 7 (dC (.int 1))) dNil))))
    (dSeq (dIfS (dOrT (dNotT (dTB (dFn [none, none] (F_law_alike 20) (dCons (dV 8) (dCons (dFn [none, none] F_law_renamed (dCons (dV 4) (dCons (dF 5) dNil))) dNil))))) (dNotT (dTB (dFn [none, none] (F_law_alike 20) (dCons (dF 7) (dCons (dFz (dLst (dCons (dV 4) (dCons (dF 5) dNil)))) dNil))))))
    (dRet (dC (.bl false))) dSkip)
    (dIfS (dNotT (dTB (dFn [none, none] (F_law_alike 20) (dCons (dFn [none, none] F_renamed_web (dCons (dV 8) (dCons (dF 6) dNil))) (dCons (dV 4) dNil)))))
    (dRet (dC (.bl false))) dSkip))))
theorem l9_ok {os : List Int} {n : Int} {S x1 x2 x5 x7 x8 x9 x10 x11 x12 : D} {rows : List R3} {t : Bool} (hp : os.Perm (rangeI n.toNat)) (h0 : 0 ≤ n) (hn : n ≤ 1000) (hg : GoodW n rows) (h5 : freeze x5 = ordD t os) (h5' : nunk (some x5) = true) :
    L9 [S, x1, x2, .int n, webD n rows, x5, .lst true ((backs os).map D.int), x7, x8, x9, x10, x11, x12] = some (.nx, [S, x1, x2, .int n, webD n rows, ordD t os, ordD false (backs os), .lst false [webD n rows, ordD t os], webD n (sR (rows.map (ren os))), x9, x10, x11, x12]) := by
  have hl : os.length = n.toNat := by rw [hp.length_eq, len_rangeI]
  obtain ⟨g1, g2, g3⟩ := hg
  have pw : Pl 4 (webD n rows) := GoodW.pl g3
  have po : Pl 2 (ordD t os) := ordD_pl (by omega)
  have fw := pw.fz
  have fo := po.fz
  have ffw := freeze_fz _ fw
  have ffo := freeze_fz _ fo
  obtain ⟨c1, f1, e1⟩ := copied_ok (pw.up (by decide : 4 ≤ 20))
  obtain ⟨c2, f2, e2⟩ := copied_ok (po.up (by decide : 2 ≤ 20))
  have hr : ∀ r ∈ rows, 0 ≤ r.1 ∧ r.1 < os.length ∧ 0 ≤ r.2.1 ∧ r.2.1 < os.length := by
    intro r hq
    have := g1 r hq
    rw [hl]
    omega
  have r1 := renamed_ok (many := n) (t := t) g3 hr
  have r2 := law_renamed_ok (many := n) (t := t) g3 hr
  obtain ⟨rr, hrr⟩ : ∃ rr, rr = sR (rows.map (ren os)) := ⟨_, rfl⟩
  have lrr : rr.length = rows.length := by rw [hrr, (sR_perm _).length_eq, List.length_map]
  have prr : Pl 4 (webD n rr) := GoodW.pl (by omega)
  have a1 := alike_ok (prr.up (by decide : 4 ≤ 20))
  have frr := prr.fz
  have ph : Pl 5 (.lst false [webD n rows, ordD t os]) := .lst (fun d hd => by
    rcases List.mem_cons.mp hd with rfl | hd
    · exact pw
    · rw [List.mem_singleton] at hd
      subst hd
      exact po.up (by decide)) (by show 2 ≤ sizeLine; simp)
  have a2 := alike_ok (ph.up (by decide : 5 ≤ 20))
  have hrb : ∀ r ∈ rr, 0 ≤ r.1 ∧ r.1 < (backs os).length ∧ 0 ≤ r.2.1 ∧ r.2.1 < (backs os).length := by
    intro r hq
    rw [hrr] at hq
    obtain ⟨s, hs, rfl⟩ := List.mem_map.mp ((sR_perm _).mem_iff.mp hq)
    obtain ⟨q0, q1, q2, q3⟩ := hr s hs
    have m1 := mem_rangeI.mp (hp.mem_iff.mp (oAt_mem q0 q1))
    have m2 := mem_rangeI.mp (hp.mem_iff.mp (oAt_mem q2 q3))
    rw [len_backs, hl]
    unfold ren
    dsimp only
    omega
  have r3' := renamed_ok (many := n) (t := false) (rows := rr) (os := backs os) (by omega) hrb
  rw [hrr] at r3'
  rw [sR_ren (backs_back (by rw [hl]; exact hp)) (fun r hq => by have := g1 r hq; rw [hl]; omega) g2, ← hrr] at r3'
  rw [← hrr] at r1 r2 ⊢
  have a3 := alike_ok (pw.up (by decide : 4 ≤ 20))
  have hod : ordD false (backs os) = .lst false ((backs os).map D.int) := rfl
  rw [hod] at r3' ⊢
  have n1 : nunk (some (ordD t os)) = true := by unfold ordD; cases t <;> rfl
  generalize hW : webD n rows = W at *
  generalize hO : ordD t os = O at *
  generalize hB : (backs os).map D.int = B at *
  have fB : fzL B = true := by rw [← hB]; exact fzL_ints _
  have ffB : freezeL B = B := freezeL_fz _ fB
  refine seq_nx (ρ1 := [S, x1, x2, .int n, W, O, .lst true B, .lst true [W, O], x8, x9, x10, x11, x12]) ?_ ?_
  · simp [fw, h5, fo, e1, e2, f1, f2]
  refine seq_nx (ρ1 := [S, x1, x2, .int n, W, O, .lst true B, .lst true [W, O], webD n rr, x9, x10, x11, x12]) ?_ ?_
  · simp [fw, fo, r1]
  refine seq_nx (ρ1 := [S, x1, x2, .int n, W, O, .lst true B, .lst false [W, O], webD n rr, x9, x10, x11, x12]) ?_ ?_
  · simp [fw, fo, r2, frr, a1, a2, ffw, ffo]
  · simp [frr, fB, ffB, r3', a3, fw]
abbrev BT : MS := (dSeq L3 (dSeq L4 (dSeq L5 (dSeq (dSet 5 (dFn [some 1, none] F_law_order (dIO 1 (dCons (dV 3) dNil))))
    (dSeq (dSet 6 (dLc [12] (dRange1 (dCons (dV 3) dNil)) (gNm 12) dYes (dIdx 5 (dCons (dV 12) dNil))))
    (dSeq (dIfS (dTB (d2 gEq (dFn [some 1, none] F_law_take (dIO 1 (dCons (dC (.int 2)) dNil))) (dC (.int 1))))
    (dSet 5 (dCall gTuple (dCons (dF 5) dNil))) dSkip) L9))))))
theorem turn_ok {ns : List Int} {i t : Int} {S x3 x4 x5 x6 x7 x8 x9 x10 x11 x12 : D} (hn : ns ≠ []) (hi : 0 ≤ i) : ∃ (j : Int) (y3 y4 y5 y6 y7 y8 y9 y10 y11 y12 : D), i ≤ j ∧ BT [S, pot ns i, .int t, x3, x4, x5, x6, x7, x8, x9, x10, x11, x12] = some (.nx, [S, pot ns j, .int t, y3, y4, y5, y6, y7, y8, y9, y10, y11, y12]) := by
  obtain ⟨many, j1, m1, m2, hj1, e1⟩ := l3_ok (t := t) (S := S) (x3 := x3) (x4 := x4) (x5 := x5) (x6 := x6) (x7 := x7) (x8 := x8) (x9 := x9) (x10 := x10) (x11 := x11) (x12 := x12) hn hi
  obtain ⟨rows0, j2, hj2, hg0, e2⟩ := l4_ok (i := j1) (S := S) (x2 := .int t) (x4 := x4) (x5 := x5) (x6 := x6) (x7 := x7) (x8 := x8) (x9 := x9) (x10 := x10) (x11 := x11) (x12 := x12) hn (by omega) m1 m2
  obtain ⟨rows, j3, y9, y10, y11, hj3, hg, e3⟩ := l5_ok (i := j2) (S := S) (x2 := .int t) (x5 := x5) (x6 := x6) (x7 := x7) (x8 := x8) (x9 := x9) (x10 := x10) (x11 := x11) (x12 := x12) hn (by omega) hg0
  obtain ⟨os, j4, hj4, hp, e4⟩ := order_ok (i := j3) (many := many) hn (by omega) (by omega) (by omega)
  obtain ⟨z, z0, z1, ez⟩ := take_ok (ns := ns) (i := j4) (m := 2) hn (by omega) (by omega)
  have fin : ∀ (tt : Bool) (x5 : D), freeze x5 = ordD tt os → nunk (some x5) = true → ∃ (j : Int) (w3 w4 w5 w6 w7 w8 w9 w10 w11 w12 : D), i ≤ j ∧ L9 [S, pot ns (j4 + 1), .int t, .int many, webD many rows, x5, .lst true ((backs os).map D.int), x7, x8, y9, y10, y11, .unk] = some (.nx, [S, pot ns j, .int t, w3, w4, w5, w6, w7, w8, w9, w10, w11, w12]) := by
    intro tt x5 h1 h2
    exact ⟨j4 + 1, _, _, _, _, _, _, _, _, _, _, by omega, l9_ok hp (by omega) (by omega) hg h1 h2⟩
  have go : ∀ {r}, (dSeq (dIfS (dTB (d2 gEq (dFn [some 1, none] F_law_take (dIO 1 (dCons (dC (.int 2)) dNil))) (dC (.int 1))))
    (dSet 5 (dCall gTuple (dCons (dF 5) dNil))) dSkip) L9) [S, pot ns j4, .int t, .int many, webD many rows, .lst true (os.map D.int), .lst true ((backs os).map D.int), x7, x8, y9, y10, y11, .unk] = r → BT [S, pot ns i, .int t, x3, x4, x5, x6, x7, x8, x9, x10, x11, x12] = r := by
    intro r h
    refine seq_nx e1 (seq_nx e2 (seq_nx e3 ?_))
    refine seq_nx (ρ1 := [S, pot ns j4, .int t, .int many, webD many rows, .lst true (os.map D.int), x6, x7, x8, y9, y10, y11, x12]) (by simp [e4]) ?_
    refine seq_nx (set_ok (back_ok hp (by omega) (by omega))) ?_
    exact h
  by_cases c : z = 1
  · obtain ⟨j, y3, y4, y5, y6, y7, y8, y9, y10, y11, y12, hj, e⟩ := fin true (.tup (os.map D.int)) (by simp [ordD]) rfl
    refine ⟨j, y3, y4, y5, y6, y7, y8, y9, y10, y11, y12, hj, go ?_⟩
    refine seq_nx (ρ1 := _) ?_ e
    simp [ez, c]
  · obtain ⟨j, y3, y4, y5, y6, y7, y8, y9, y10, y11, y12, hj, e⟩ := fin false (.lst true (os.map D.int)) (by simp [ordD]) rfl
    refine ⟨j, y3, y4, y5, y6, y7, y8, y9, y10, y11, y12, hj, go ?_⟩
    refine seq_nx (ρ1 := _) ?_ e
    simp [ez, c]
theorem good : Always F_law := by
  intro cs hl
  refine ⟨[.scr (cs.map D.int)], ?_⟩
  obtain ⟨ns, hn, e0⟩ := draws_ok cs hl
  obtain ⟨m, hm, h0, h7⟩ : ∃ m : Int, m = 1 + min 6 (cs.length : Int) ∧ 0 ≤ m ∧ m ≤ 7 := ⟨_, rfl, by omega, by omega⟩
  obtain ⟨ρ', e1, j, y2, y3, y4, y5, y6, y7, y8, y9, y10, y11, y12, rfl, hj⟩ := for_ints (bt := gNm 2) (body := BT) (lo := 0) (n := m.toNat) (ρ := [.scr (cs.map D.int), pot ns 0, .unk, .unk, .unk, .unk, .unk, .unk, .unk, .unk, .unk, .unk, .unk])
    (fun k ρ => ∃ (j : Int) (y2 y3 y4 y5 y6 y7 y8 y9 y10 y11 y12 : D), ρ = [.scr (cs.map D.int), pot ns j, y2, y3, y4, y5, y6, y7, y8, y9, y10, y11, y12] ∧ 0 ≤ j) ⟨0, _, _, _, _, _, _, _, _, _, _, _, rfl, by omega⟩ (by
    rintro k ρ hk ⟨j, y2, y3, y4, y5, y6, y7, y8, y9, y10, y11, y12, rfl, hj⟩
    obtain ⟨j', z3, z4, z5, z6, z7, z8, z9, z10, z11, z12, hj', e⟩ := turn_ok (t := 0 + (k : Int)) (S := .scr (cs.map D.int)) (x3 := y3) (x4 := y4) (x5 := y5) (x6 := y6) (x7 := y7) (x8 := y8) (x9 := y9) (x10 := y10) (x11 := y11) (x12 := y12) hn hj
    exact ⟨_, _, rfl, .inl e, j', _, _, _, _, _, _, _, _, _, _, _, rfl, by omega⟩)
  have hR := inR_le h0 (by omega)
  have el : (dCons (d2 gAdd (dC (.int 1)) (dCallS [none, none] gMin (dCons (dC (.int 6)) (dCons (dCallS [none] gLen (dCons (dV 0) dNil)) dNil)))) dNil) [.scr (cs.map D.int), pot ns 0, .unk, .unk, .unk, .unk, .unk, .unk, .unk, .unk, .unk, .unk, .unk] = some (.ok [.int m] [.scr (cs.map D.int), pot ns 0, .unk, .unk, .unk, .unk, .unk, .unk, .unk, .unk, .unk, .unk, .unk]) := by
    simp [hm]
  have body : body_law [.scr (cs.map D.int), .unk, .unk, .unk, .unk, .unk, .unk, .unk, .unk, .unk, .unk, .unk, .unk] = some (.rt (.bl true), [.scr (cs.map D.int), pot ns j, y2, y3, y4, y5, y6, y7, y8, y9, y10, y11, y12]) := by
    unfold body_law
    refine seq_nx (ρ1 := [.scr (cs.map D.int), pot ns 0, .unk, .unk, .unk, .unk, .unk, .unk, .unk, .unk, .unk, .unk, .unk]) (by simp [e0]) ?_
    refine seq_nx (for_ok (ds := intsD 0 m.toNat) (bindM_ok el (by rw [u_range1, if_pos hR]; rfl)) e1) ?_
    simp
  simp [F_law, fnD, body, a_law]
end G

set_option Elab.async false
set_option linter.all false
set_option maxRecDepth 100000
set_option maxHeartbeats 4000000
namespace G
open PySem PySem.Spec PyProof.Rows L2 VS
theorem all_mk {P : Program} {w : World} {K : PySem.W.Frag} {h : Heap} {mg : Str → Option Value} {fa : Addr} (X : K.In h) (G : h.Ns mainGlobals mg) (hfa : mg "law" = some (.ref fa)) (good : Always F_law)
    {f_renamed_web : Addr} {oc_renamed_web kV_renamed_web dc_renamed_web pm_renamed_web cd_renamed_web ct_renamed_web : Value} {od_renamed_web an_renamed_web : Option Addr} {sl_renamed_web : Array (Option Value)} (a_renamed_web : PySem.W.nsIn K mainGlobals "renamed_web" = some (some (.ref f_renamed_web))) (l_renamed_web : K.lookup f_renamed_web = some ⟨oc_renamed_web, od_renamed_web, .func (PySem.W.fnOf "renamed_web" "renamed_web" (defArgs s_renamed_web) (defBody s_renamed_web) (defScope s_renamed_web) .none kV_renamed_web dc_renamed_web pm_renamed_web an_renamed_web cd_renamed_web ct_renamed_web), sl_renamed_web⟩) (c_renamed_web : PySem.W.codeIn K cd_renamed_web "renamed_web" = true) (k_renamed_web : PySem.W.keepIn K (.ref f_renamed_web) = true)
    {f_law_draws : Addr} {oc_law_draws kV_law_draws dc_law_draws pm_law_draws cd_law_draws ct_law_draws : Value} {od_law_draws an_law_draws : Option Addr} {sl_law_draws : Array (Option Value)} (a_law_draws : PySem.W.nsIn K mainGlobals "_law_draws" = some (some (.ref f_law_draws))) (l_law_draws : K.lookup f_law_draws = some ⟨oc_law_draws, od_law_draws, .func (PySem.W.fnOf "_law_draws" "_law_draws" (defArgs s_law_draws) (defBody s_law_draws) (defScope s_law_draws) .none kV_law_draws dc_law_draws pm_law_draws an_law_draws cd_law_draws ct_law_draws), sl_law_draws⟩) (c_law_draws : PySem.W.codeIn K cd_law_draws "_law_draws" = true) (k_law_draws : PySem.W.keepIn K (.ref f_law_draws) = true)
    {f_law_take : Addr} {oc_law_take kV_law_take dc_law_take pm_law_take cd_law_take ct_law_take : Value} {od_law_take an_law_take : Option Addr} {sl_law_take : Array (Option Value)} (a_law_take : PySem.W.nsIn K mainGlobals "_law_take" = some (some (.ref f_law_take))) (l_law_take : K.lookup f_law_take = some ⟨oc_law_take, od_law_take, .func (PySem.W.fnOf "_law_take" "_law_take" (defArgs s_law_take) (defBody s_law_take) (defScope s_law_take) .none kV_law_take dc_law_take pm_law_take an_law_take cd_law_take ct_law_take), sl_law_take⟩) (c_law_take : PySem.W.codeIn K cd_law_take "_law_take" = true) (k_law_take : PySem.W.keepIn K (.ref f_law_take) = true)
    {f_law_length : Addr} {oc_law_length kV_law_length dc_law_length pm_law_length cd_law_length ct_law_length : Value} {od_law_length an_law_length : Option Addr} {sl_law_length : Array (Option Value)} (a_law_length : PySem.W.nsIn K mainGlobals "_law_length" = some (some (.ref f_law_length))) (l_law_length : K.lookup f_law_length = some ⟨oc_law_length, od_law_length, .func (PySem.W.fnOf "_law_length" "_law_length" (defArgs s_law_length) (defBody s_law_length) (defScope s_law_length) .none kV_law_length dc_law_length pm_law_length an_law_length cd_law_length ct_law_length), sl_law_length⟩) (c_law_length : PySem.W.codeIn K cd_law_length "_law_length" = true) (k_law_length : PySem.W.keepIn K (.ref f_law_length) = true)
    {f_law_web : Addr} {oc_law_web kV_law_web dc_law_web pm_law_web cd_law_web ct_law_web : Value} {od_law_web an_law_web : Option Addr} {sl_law_web : Array (Option Value)} (a_law_web : PySem.W.nsIn K mainGlobals "_law_web" = some (some (.ref f_law_web))) (l_law_web : K.lookup f_law_web = some ⟨oc_law_web, od_law_web, .func (PySem.W.fnOf "_law_web" "_law_web" (defArgs s_law_web) (defBody s_law_web) (defScope s_law_web) .none kV_law_web dc_law_web pm_law_web an_law_web cd_law_web ct_law_web), sl_law_web⟩) (c_law_web : PySem.W.codeIn K cd_law_web "_law_web" = true) (k_law_web : PySem.W.keepIn K (.ref f_law_web) = true)
    {f_law_renamed : Addr} {oc_law_renamed kV_law_renamed dc_law_renamed pm_law_renamed cd_law_renamed ct_law_renamed : Value} {od_law_renamed an_law_renamed : Option Addr} {sl_law_renamed : Array (Option Value)} (a_law_renamed : PySem.W.nsIn K mainGlobals "_law_renamed" = some (some (.ref f_law_renamed))) (l_law_renamed : K.lookup f_law_renamed = some ⟨oc_law_renamed, od_law_renamed, .func (PySem.W.fnOf "_law_renamed" "_law_renamed" (defArgs s_law_renamed) (defBody s_law_renamed) (defScope s_law_renamed) .none kV_law_renamed dc_law_renamed pm_law_renamed an_law_renamed cd_law_renamed ct_law_renamed), sl_law_renamed⟩) (c_law_renamed : PySem.W.codeIn K cd_law_renamed "_law_renamed" = true) (k_law_renamed : PySem.W.keepIn K (.ref f_law_renamed) = true)
    {f_law_order : Addr} {oc_law_order kV_law_order dc_law_order pm_law_order cd_law_order ct_law_order : Value} {od_law_order an_law_order : Option Addr} {sl_law_order : Array (Option Value)} (a_law_order : PySem.W.nsIn K mainGlobals "_law_order" = some (some (.ref f_law_order))) (l_law_order : K.lookup f_law_order = some ⟨oc_law_order, od_law_order, .func (PySem.W.fnOf "_law_order" "_law_order" (defArgs s_law_order) (defBody s_law_order) (defScope s_law_order) .none kV_law_order dc_law_order pm_law_order an_law_order cd_law_order ct_law_order), sl_law_order⟩) (c_law_order : PySem.W.codeIn K cd_law_order "_law_order" = true) (k_law_order : PySem.W.keepIn K (.ref f_law_order) = true)
    {f_law_alike : Addr} {oc_law_alike kV_law_alike dc_law_alike pm_law_alike cd_law_alike ct_law_alike : Value} {od_law_alike an_law_alike : Option Addr} {sl_law_alike : Array (Option Value)} (a_law_alike : PySem.W.nsIn K mainGlobals "_law_alike" = some (some (.ref f_law_alike))) (l_law_alike : K.lookup f_law_alike = some ⟨oc_law_alike, od_law_alike, .func (PySem.W.fnOf "_law_alike" "_law_alike" (defArgs s_law_alike) (defBody s_law_alike) (defScope s_law_alike) .none kV_law_alike dc_law_alike pm_law_alike an_law_alike cd_law_alike ct_law_alike), sl_law_alike⟩) (c_law_alike : PySem.W.codeIn K cd_law_alike "_law_alike" = true) (k_law_alike : PySem.W.keepIn K (.ref f_law_alike) = true)
    {f_law_copied : Addr} {oc_law_copied kV_law_copied dc_law_copied pm_law_copied cd_law_copied ct_law_copied : Value} {od_law_copied an_law_copied : Option Addr} {sl_law_copied : Array (Option Value)} (a_law_copied : PySem.W.nsIn K mainGlobals "_law_copied" = some (some (.ref f_law_copied))) (l_law_copied : K.lookup f_law_copied = some ⟨oc_law_copied, od_law_copied, .func (PySem.W.fnOf "_law_copied" "_law_copied" (defArgs s_law_copied) (defBody s_law_copied) (defScope s_law_copied) .none kV_law_copied dc_law_copied pm_law_copied an_law_copied cd_law_copied ct_law_copied), sl_law_copied⟩) (c_law_copied : PySem.W.codeIn K cd_law_copied "_law_copied" = true) (k_law_copied : PySem.W.keepIn K (.ref f_law_copied) = true)
    {f_law : Addr} {oc_law kV_law dc_law pm_law cd_law ct_law : Value} {od_law an_law : Option Addr} {sl_law : Array (Option Value)} (a_law : PySem.W.nsIn K mainGlobals "law" = some (some (.ref f_law))) (l_law : K.lookup f_law = some ⟨oc_law, od_law, .func (PySem.W.fnOf "law" "law" (defArgs s_law) (defBody s_law) (defScope s_law) .none kV_law dc_law pm_law an_law cd_law ct_law), sl_law⟩) (c_law : PySem.W.codeIn K cd_law "law" = true) (k_law : PySem.W.keepIn K (.ref f_law) = true)
    (z_abs : PySem.W.nsIn K mainGlobals "abs" = some none)
    (z_all : PySem.W.nsIn K mainGlobals "all" = some none)
    (z_bool : PySem.W.nsIn K mainGlobals "bool" = some none)
    (z_enumerate : PySem.W.nsIn K mainGlobals "enumerate" = some none)
    (z_int : PySem.W.nsIn K mainGlobals "int" = some none)
    (z_isinstance : PySem.W.nsIn K mainGlobals "isinstance" = some none)
    (z_len : PySem.W.nsIn K mainGlobals "len" = some none)
    (z_list : PySem.W.nsIn K mainGlobals "list" = some none)
    (z_max : PySem.W.nsIn K mainGlobals "max" = some none)
    (z_min : PySem.W.nsIn K mainGlobals "min" = some none)
    (z_range : PySem.W.nsIn K mainGlobals "range" = some none)
    (z_sorted : PySem.W.nsIn K mainGlobals "sorted" = some none)
    (z_sum : PySem.W.nsIn K mainGlobals "sum" = some none)
    (z_tuple : PySem.W.nsIn K mainGlobals "tuple" = some none)
    (z_zip : PySem.W.nsIn K mainGlobals "zip" = some none) :
    ∃ fd : FuncData, (∀ (s : Shared) (v : Value), BindsTo s fd ⟨[v], []⟩ [("script", v)]) ∧ ∀ base : Heap, K.In base → base.Ns mainGlobals mg → FnOk P w K mg base (L2.CX P w) 21 fa fd ["script"] (spTrue K) := by
  have T : Tops mg := ⟨PySem.W.mg_none_of X G z_abs, PySem.W.mg_none_of X G z_all, PySem.W.mg_none_of X G z_bool, PySem.W.mg_none_of X G z_enumerate, PySem.W.mg_none_of X G z_int, PySem.W.mg_none_of X G z_isinstance, PySem.W.mg_none_of X G z_len, PySem.W.mg_none_of X G z_list, PySem.W.mg_none_of X G z_max, PySem.W.mg_none_of X G z_min, PySem.W.mg_none_of X G z_range, PySem.W.mg_none_of X G z_sorted, PySem.W.mg_none_of X G z_sum, PySem.W.mg_none_of X G z_tuple, PySem.W.mg_none_of X G z_zip⟩
  have D_renamed_web : Def K mg "renamed_web" s_renamed_web p_renamed_web := def_mk X G a_renamed_web l_renamed_web c_renamed_web k_renamed_web fun _ _ _ _ _ _ us hl => match us, hl with | [_, _], _ => rfl
  have D_law_draws : Def K mg "_law_draws" s_law_draws p_law_draws := def_mk X G a_law_draws l_law_draws c_law_draws k_law_draws fun _ _ _ _ _ _ us hl => match us, hl with | [_, _], _ => rfl
  have D_law_take : Def K mg "_law_take" s_law_take p_law_take := def_mk X G a_law_take l_law_take c_law_take k_law_take fun _ _ _ _ _ _ us hl => match us, hl with | [_, _], _ => rfl
  have D_law_length : Def K mg "_law_length" s_law_length p_law_length := def_mk X G a_law_length l_law_length c_law_length k_law_length fun _ _ _ _ _ _ us hl => match us, hl with | [_, _], _ => rfl
  have D_law_web : Def K mg "_law_web" s_law_web p_law_web := def_mk X G a_law_web l_law_web c_law_web k_law_web fun _ _ _ _ _ _ us hl => match us, hl with | [_, _, _, _], _ => rfl
  have D_law_renamed : Def K mg "_law_renamed" s_law_renamed p_law_renamed := def_mk X G a_law_renamed l_law_renamed c_law_renamed k_law_renamed fun _ _ _ _ _ _ us hl => match us, hl with | [_, _], _ => rfl
  have D_law_order : Def K mg "_law_order" s_law_order p_law_order := def_mk X G a_law_order l_law_order c_law_order k_law_order fun _ _ _ _ _ _ us hl => match us, hl with | [_, _], _ => rfl
  have D_law_alike : Def K mg "_law_alike" s_law_alike p_law_alike := def_mk X G a_law_alike l_law_alike c_law_alike k_law_alike fun _ _ _ _ _ _ us hl => match us, hl with | [_, _], _ => rfl
  have D_law_copied : Def K mg "_law_copied" s_law_copied p_law_copied := def_mk X G a_law_copied l_law_copied c_law_copied k_law_copied fun _ _ _ _ _ _ us hl => match us, hl with | [_], _ => rfl
  have e := hfa.symm.trans (PySem.W.mg_of X G a_law)
  cases e
  refine ⟨PySem.W.fnOf "law" "law" (defArgs s_law) (defBody s_law) (defScope s_law) .none kV_law dc_law pm_law an_law cd_law ct_law, fun s v => .of_eq rfl, fun base _ _ => ?_⟩
  have C_renamed_web := cal_renamed_web (P := P) (w := w) (base := base) T D_renamed_web 
  have C_law_draws := cal_law_draws (P := P) (w := w) (base := base) T D_law_draws 
  have C_law_take := cal_law_take (P := P) (w := w) (base := base) T D_law_take 
  have C_law_length := cal_law_length (P := P) (w := w) (base := base) T D_law_length C_law_take
  have C_law_web := cal_law_web (P := P) (w := w) (base := base) T D_law_web C_law_length C_law_take
  have C_law_renamed := cal_law_renamed (P := P) (w := w) (base := base) T D_law_renamed 
  have C_law_order := cal_law_order (P := P) (w := w) (base := base) T D_law_order C_law_take
  have C_law_alike := cal_law_alike (P := P) (w := w) (base := base) T D_law_alike  20
  have C_law_copied := cal_law_copied (P := P) (w := w) (base := base) T D_law_copied  20
  exact (cal_law (P := P) (w := w) (base := base) T (fun_mk (st := s_law) l_law c_law k_law) C_renamed_web C_law_alike C_law_renamed C_law_copied C_law_take C_law_order C_law_web C_law_draws).imp fun vs H Q E hs => law_sp good hs
end G
open PySem PySem.W PyProof.Rows
set_option maxHeartbeats 0 in
theorem PySem.Challenge.cw_lonetrack_k39_webs_renamed_holds : PySem.Challenge.rw_lonetrack_k39_webs_renamed.Holds := by
  w_on; o_law; k_head; (case hw => w_witness2)
  k_fill
  refine L2.walk_of (l := PySem.Challenge.rw_lonetrack_k39_webs_renamed) (n := 63) (k := 21) (x := "script") (CX := fun w => L2.CX PySem.Challenge.rw_lonetrack_k39_webs_renamed.prog w) (sp := fun w => VS.spTrue _) rfl (by decide) rfl ⟨rfl, by decide, by decide⟩ (fun w h Y => PySem.W.kIn_of Y) ?F (fun _ _ a ns hl _ hS => ⟨a, ns, rfl, hS, hl, fun _ => rfl⟩) (fun _ _ _ _ _ h => VS.cx_end h)
  case F =>
    intro w mg fa h KX GX hmg
    refine' G.all_mk KX GX hmg G.good ?a_renamed_web ?l_renamed_web ?c_renamed_web ?k_renamed_web ?a_law_draws ?l_law_draws ?c_law_draws ?k_law_draws ?a_law_take ?l_law_take ?c_law_take ?k_law_take ?a_law_length ?l_law_length ?c_law_length ?k_law_length ?a_law_web ?l_law_web ?c_law_web ?k_law_web ?a_law_renamed ?l_law_renamed ?c_law_renamed ?k_law_renamed ?a_law_order ?l_law_order ?c_law_order ?k_law_order ?a_law_alike ?l_law_alike ?c_law_alike ?k_law_alike ?a_law_copied ?l_law_copied ?c_law_copied ?k_law_copied ?a_law ?l_law ?c_law ?k_law ?z_abs ?z_all ?z_bool ?z_enumerate ?z_int ?z_isinstance ?z_len ?z_list ?z_max ?z_min ?z_range ?z_sorted ?z_sum ?z_tuple ?z_zip
    (case a_renamed_web => k_is); (case l_renamed_web => k_is); (case c_renamed_web => k_is); (case k_renamed_web => k_is); (case a_law_draws => k_is); (case l_law_draws => k_is); (case c_law_draws => k_is); (case k_law_draws => k_is); (case a_law_take => k_is); (case l_law_take => k_is); (case c_law_take => k_is); (case k_law_take => k_is); (case a_law_length => k_is); (case l_law_length => k_is); (case c_law_length => k_is); (case k_law_length => k_is); (case a_law_web => k_is); (case l_law_web => k_is); (case c_law_web => k_is); (case k_law_web => k_is); (case a_law_renamed => k_is); (case l_law_renamed => k_is); (case c_law_renamed => k_is); (case k_law_renamed => k_is); (case a_law_order => k_is); (case l_law_order => k_is); (case c_law_order => k_is); (case k_law_order => k_is); (case a_law_alike => k_is); (case l_law_alike => k_is); (case c_law_alike => k_is); (case k_law_alike => k_is); (case a_law_copied => k_is); (case l_law_copied => k_is); (case c_law_copied => k_is); (case k_law_copied => k_is); (case a_law => k_is); (case l_law => k_is); (case c_law => k_is); (case k_law => k_is); (case z_abs => k_is); (case z_all => k_is); (case z_bool => k_is); (case z_enumerate => k_is); (case z_int => k_is); (case z_isinstance => k_is); (case z_len => k_is); (case z_list => k_is); (case z_max => k_is); (case z_min => k_is); (case z_range => k_is); (case z_sorted => k_is); (case z_sum => k_is); (case z_tuple => k_is); (case z_zip => k_is)

