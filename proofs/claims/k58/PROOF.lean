import PyProof.Rows.All
import HandS.ForMost
import HandS.ForExc
import HandS.HotCalls
import HandS.Deep
import HandS.More
import HandS.TupAny
import HandS.TupLen
import HandS.SetKeys
import HandS.IsInst
import HandS.Zip
import KE.SortData
import KE.DataMinMax
import KE.KDictCopyH
import KE.KDictSum
import HandS.Conv
import HandS.TryOnly
import HandS.ExcIs
import PyProof.SumAnyB
import HandS.TupMul
import KE.GoesEnum
import HandS.SetFor
import HandS.TupSets
import HandS.Style
import HandS.Sort
import KE.KRevSl
import PyProof.TupleOfSeq
import PySem.Challenge.RW_lonetrack_k58_ties_put
import Wide.All
import OpenK.AllK
import Wide.FinOn
set_option Elab.async false
set_option linter.all false
set_option maxRecDepth 100000
set_option maxHeartbeats 4000000
/-! VS1: data D, what a heap holds of it (RepT), its lemmas. -/
noncomputable section
/-! bounds of ints, told so that nothing unfolds them -/
structure VS.inR (i : Int) : Prop where
  lo : -(2 ^ 62) ≤ i
  hi : i < 2 ^ 62
structure VS.in63 (i : Int) : Prop where
  lo : -(2 ^ 63) ≤ i
  hi : i < 2 ^ 63
structure VS.in64 (i : Int) : Prop where
  lo : -(2 ^ 64) < i
  hi : i < 2 ^ 64
structure VS.in30 (i : Int) : Prop where
  lo : 0 < i
  hi : i < 1073741824
noncomputable instance VS.inR_dec {i : Int} : Decidable (VS.inR i) := Classical.propDecidable _
noncomputable instance VS.in63_dec {i : Int} : Decidable (VS.in63 i) := Classical.propDecidable _
noncomputable instance VS.in64_dec {i : Int} : Decidable (VS.in64 i) := Classical.propDecidable _
noncomputable instance VS.in30_dec {i : Int} : Decidable (VS.in30 i) := Classical.propDecidable _
namespace VS
open PySem PySem.Spec PyProof.Rows L2

/-- data as trees. lst o: o tells that the list is owned (may be changed); else it is frozen (shared, never changed). -/
inductive D where
  | unk | hole | non | bl (b : Bool) | int (i : Int) | str (x : Str) | adr (a : Addr) | exo (c : Str) (p : Option (Str × Int))
  | tup (ds : List D) | lst (o : Bool) (ds : List D) | scr (ds : List D) | ktp (ds : List D)
  | dK (o : Bool) (ks : List Key) (ds : List D)
  | dT (o : Bool) (ks : List (List Key)) (ds : List D)
  | lK (ks : List Key) (ds : List D)
  | lT (ks : List (List Key)) (ds : List D)
  | lck (o : HO)
abbrev Env := List D

mutual
def fz : D → Bool
  | .unk => false
  | .hole => false
  | .non => true
  | .bl _ => true
  | .int _ => true
  | .str _ => true
  | .adr _ => true
  | .exo _ _ => true
  | .tup ds => fzL ds
  | .lst o ds => !o && fzL ds
  | .scr ds => fzL ds
  | .ktp ds => fzL ds
  | .dK o _ ds => !o && fzL ds
  | .dT o _ ds => !o && fzL ds
  | .lK _ ds => fzL ds
  | .lT _ ds => fzL ds
  | .lck _ => true
def fzL : List D → Bool
  | [] => true
  | d :: ds => fz d && fzL ds
end
mutual
def freeze : D → D
  | .tup ds => .tup (freezeL ds)
  | .lst _ ds => .lst false (freezeL ds)
  | .scr ds => .scr (freezeL ds)
  | .ktp ds => .ktp (freezeL ds)
  | .dK _ ks ds => .dK false ks (freezeL ds)
  | .dT _ ks ds => .dT false ks (freezeL ds)
  | .lK ks ds => .lK ks (freezeL ds)
  | .lT ks ds => .lT ks (freezeL ds)
  | .lck o => .lck o
  | .hole => .unk
  | .unk => .unk
  | .non => .non
  | .bl b => .bl b
  | .int i => .int i
  | .str x => .str x
  | .adr a => .adr a
  | .exo c p => .exo c p
def freezeL : List D → List D
  | [] => []
  | d :: ds => freeze d :: freezeL ds
end
theorem freezeL_map : ∀ ds : List D, freezeL ds = ds.map freeze
  | [] => rfl
  | d :: ds => by rw [freezeL, freezeL_map ds]; rfl
theorem fzL_all : ∀ ds : List D, fzL ds = ds.all fz
  | [] => rfl
  | d :: ds => by rw [fzL, fzL_all ds]; rfl
mutual
theorem freeze_fz : ∀ d : D, fz d = true → freeze d = d
  | .unk, h => by simp [fz] at h
  | .hole, h => by simp [fz] at h
  | .non, _ => rfl
  | .bl _, _ => rfl
  | .int _, _ => rfl
  | .str _, _ => rfl
  | .adr _, _ => rfl
  | .exo _ _, _ => rfl
  | .tup ds, h => by
    rw [fz] at h
    rw [freeze, freezeL_fz ds h]
  | .lst o ds, h => by
    rw [fz, Bool.and_eq_true] at h
    obtain ⟨h1, h2⟩ := h
    have : o = false := by cases o <;> simp_all
    rw [freeze, freezeL_fz ds h2, this]
  | .scr ds, h => by
    rw [fz] at h
    rw [freeze, freezeL_fz ds h]
  | .ktp ds, h => by
    rw [fz] at h
    rw [freeze, freezeL_fz ds h]
  | .dK o ks ds, h => by
    rw [fz, Bool.and_eq_true] at h
    obtain ⟨h1, h2⟩ := h
    have : o = false := by cases o <;> simp_all
    rw [freeze, freezeL_fz ds h2, this]
  | .dT o ks ds, h => by
    rw [fz, Bool.and_eq_true] at h
    obtain ⟨h1, h2⟩ := h
    have : o = false := by cases o <;> simp_all
    rw [freeze, freezeL_fz ds h2, this]
  | .lK ks ds, h => by
    rw [fz] at h
    rw [freeze, freezeL_fz ds h]
  | .lT ks ds, h => by
    rw [fz] at h
    rw [freeze, freezeL_fz ds h]
  | .lck _, _ => rfl
theorem freezeL_fz : ∀ ds : List D, fzL ds = true → freezeL ds = ds
  | [], _ => rfl
  | d :: ds, h => by
    rw [fzL, Bool.and_eq_true] at h
    rw [freezeL, freeze_fz d h.1, freezeL_fz ds h.2]
end

/-- an exception's object, by its class and its dict -/
def exHO (a C : Addr) (d : Option Addr) : HO := .ext fun h => ∃ (oe : Obj) (vs : Array Value), h.get? a = some oe ∧ oe.cls = .ref C ∧ oe.dict = d ∧ oe.data = .fields vs
section
variable (K : PySem.W.Frag) (F H : Hp)
mutual
/-- the value v is the data d: frozen parts in F, owned ones in H at the addresses A -/
def Ow : D → V → List Addr → Prop
  | .unk, _, A => A = []
  | .hole, v, A => ∃ a o, v = .ref a ∧ (H a = some o ∧ ∀ xs, o ≠ .tup xs) ∧ A = [a]
  | .non, v, A => v = .non ∧ A = []
  | .bl b, v, A => v = .bl b ∧ A = []
  | .int i, v, A => v = .int i ∧ A = []
  | .str x, v, A => v = .str x ∧ A = []
  | .adr a, v, A => v = .ref a ∧ A = []
  | .exo c p, v, A => (∃ a C d, v = .ref a ∧ F a = some (exHO a C d) ∧ PySem.W.nsIn K mainGlobals c = some (some (.ref C)) ∧ match p with
      | none => d = none
      | some (f, n) => ∃ b, d = some b ∧ F b = some (.xd [(f, .int n)])) ∧ A = []
  | .tup ds, v, A => ∃ a vs, v = .ref a ∧ F a = some (.tup vs) ∧ OwL ds vs A
  | .ktp ds, v, A => ∃ a vs, v = .ref a ∧ SqT K F a vs ∧ OwL ds vs A
  | .lst false ds, v, A => ∃ a vs, v = .ref a ∧ F a = some (.lst vs) ∧ OwL ds vs A
  | .scr ds, v, A => ∃ a vs, v = .ref a ∧ SqL K F a vs ∧ OwL ds vs A
  | .lst true ds, v, A => ∃ a vs A', v = .ref a ∧ H a = some (.lst vs) ∧ OwL ds vs A' ∧ A = a :: A'
  | .dK false ks ds, v, A => ∃ a vs, v = .ref a ∧ F a = some (.dK (ks.zip vs)) ∧ (ks.length = ds.length ∧ ks.Nodup) ∧ OwL ds vs A
  | .dK true ks ds, v, A => ∃ a vs A', v = .ref a ∧ H a = some (.dK (ks.zip vs)) ∧ (ks.length = ds.length ∧ ks.Nodup) ∧ OwL ds vs A' ∧ A = a :: A'
  | .dT false ks ds, v, A => ∃ a vs, v = .ref a ∧ F a = some (.dT (ks.zip vs)) ∧ (ks.length = ds.length ∧ ks.Nodup) ∧ OwL ds vs A
  | .dT true ks ds, v, A => ∃ a vs A', v = .ref a ∧ H a = some (.dT (ks.zip vs)) ∧ (ks.length = ds.length ∧ ks.Nodup) ∧ OwL ds vs A' ∧ A = a :: A'
  | .lK ks ds, v, A => ∃ a vs, v = .ref a ∧ (∃ o, F a = some (.frz o (.dK (ks.zip vs)))) ∧ (ks.length = ds.length ∧ ks.Nodup) ∧ OwL ds vs A
  | .lT ks ds, v, A => ∃ a vs, v = .ref a ∧ (∃ o, F a = some (.frz o (.dT (ks.zip vs)))) ∧ (ks.length = ds.length ∧ ks.Nodup) ∧ OwL ds vs A
  | .lck o, v, A => (∃ a, v = .ref a ∧ F a = some o) ∧ A = []
def OwL : List D → List V → List Addr → Prop
  | [], vs, A => vs = [] ∧ A = []
  | d :: ds, vs, A => ∃ v r A1 A2, vs = v :: r ∧ A = A1 ++ A2 ∧ Ow d v A1 ∧ OwL ds r A2
end
end
variable {K : PySem.W.Frag} {F F' H H' : Hp}

theorem Same.sqT {a : Addr} {xs : List V} (e : Same F H) (h : SqT K F a xs) : SqT K H a xs := by
  rcases h with (h | ⟨o, h⟩) | h
  · exact .inl (.inl (e _ _ h))
  · exact .inl (.inr ⟨o, e _ _ h⟩)
  · exact .inr h

mutual
theorem Ow.keep (sF : Same F F') : ∀ (d : D) (v : V) (A : List Addr), Ow K F H d v A → (∀ a ∈ A, H' a = H a) → Ow K F' H' d v A
  | .unk, v, A, h, _ => by rw [Ow] at h ⊢; exact h
  | .hole, v, A, h, k => by
    rw [Ow] at h ⊢
    obtain ⟨a, o, e, ho, rfl⟩ := h
    exact ⟨a, o, e, ⟨by rw [k a (by simp)]; exact ho.1, ho.2⟩, rfl⟩
  | .non, v, A, h, _ => by rw [Ow] at h ⊢; exact h
  | .bl b, v, A, h, _ => by rw [Ow] at h ⊢; exact h
  | .int i, v, A, h, _ => by rw [Ow] at h ⊢; exact h
  | .str x, v, A, h, _ => by rw [Ow] at h ⊢; exact h
  | .adr x, v, A, h, _ => by rw [Ow] at h ⊢; exact h
  | .exo c p, v, A, h, _ => by
    rw [Ow] at h ⊢
    obtain ⟨⟨a, C, d, e, q, n, k⟩, z⟩ := h
    refine ⟨⟨a, C, d, e, sF _ _ q, n, ?_⟩, z⟩
    cases p with
    | none => exact k
    | some p =>
      obtain ⟨b, e1, e2⟩ := k
      exact ⟨b, e1, sF _ _ e2⟩
  | .tup ds, v, A, h, k => by
    rw [Ow] at h ⊢
    obtain ⟨a, vs, e, q, l⟩ := h
    exact ⟨a, vs, e, sF _ _ q, OwL.keep sF ds vs A l k⟩
  | .ktp ds, v, A, h, k => by
    rw [Ow] at h ⊢
    obtain ⟨a, vs, e, q, l⟩ := h
    exact ⟨a, vs, e, Same.sqT sF q, OwL.keep sF ds vs A l k⟩
  | .lst false ds, v, A, h, k => by
    rw [Ow] at h ⊢
    obtain ⟨a, vs, e, q, l⟩ := h
    exact ⟨a, vs, e, sF _ _ q, OwL.keep sF ds vs A l k⟩
  | .scr ds, v, A, h, k => by
    rw [Ow] at h ⊢
    obtain ⟨a, vs, e, q, l⟩ := h
    exact ⟨a, vs, e, sF.seq q, OwL.keep sF ds vs A l k⟩
  | .lst true ds, v, A, h, k => by
    rw [Ow] at h ⊢
    obtain ⟨a, vs, A', e, q, l, rfl⟩ := h
    exact ⟨a, vs, A', e, by rw [k a (by simp)]; exact q, OwL.keep sF ds vs A' l fun b hb => k b (List.mem_cons_of_mem _ hb), rfl⟩
  | .dK false ks ds, v, A, h, k => by
    rw [Ow] at h ⊢
    obtain ⟨a, vs, e, q, n, l⟩ := h
    exact ⟨a, vs, e, sF _ _ q, n, OwL.keep sF ds vs A l k⟩
  | .dK true ks ds, v, A, h, k => by
    rw [Ow] at h ⊢
    obtain ⟨a, vs, A', e, q, n, l, rfl⟩ := h
    exact ⟨a, vs, A', e, by rw [k a (by simp)]; exact q, n, OwL.keep sF ds vs A' l fun b hb => k b (List.mem_cons_of_mem _ hb), rfl⟩
  | .dT false ks ds, v, A, h, k => by
    rw [Ow] at h ⊢
    obtain ⟨a, vs, e, q, n, l⟩ := h
    exact ⟨a, vs, e, sF _ _ q, n, OwL.keep sF ds vs A l k⟩
  | .dT true ks ds, v, A, h, k => by
    rw [Ow] at h ⊢
    obtain ⟨a, vs, A', e, q, n, l, rfl⟩ := h
    exact ⟨a, vs, A', e, by rw [k a (by simp)]; exact q, n, OwL.keep sF ds vs A' l fun b hb => k b (List.mem_cons_of_mem _ hb), rfl⟩
  | .lK ks ds, v, A, h, k => by
    rw [Ow] at h ⊢
    obtain ⟨a, vs, e, q, n, l⟩ := h
    exact ⟨a, vs, e, q.imp fun _ q => sF _ _ q, n, OwL.keep sF ds vs A l k⟩
  | .lT ks ds, v, A, h, k => by
    rw [Ow] at h ⊢
    obtain ⟨a, vs, e, q, n, l⟩ := h
    exact ⟨a, vs, e, q.imp fun _ q => sF _ _ q, n, OwL.keep sF ds vs A l k⟩
  | .lck o, v, A, h, k => by
    rw [Ow] at h ⊢
    exact ⟨h.1.imp fun _ q => ⟨q.1, sF _ _ q.2⟩, h.2⟩
theorem OwL.keep (sF : Same F F') : ∀ (ds : List D) (vs : List V) (A : List Addr), OwL K F H ds vs A → (∀ a ∈ A, H' a = H a) → OwL K F' H' ds vs A
  | [], vs, A, h, _ => by rw [OwL] at h ⊢; exact h
  | d :: ds, vs, A, h, k => by
    rw [OwL] at h ⊢
    obtain ⟨v, r, A1, A2, e, rfl, h1, h2⟩ := h
    exact ⟨v, r, A1, A2, e, rfl, Ow.keep sF d v A1 h1 fun a ha => k a (List.mem_append_left _ ha), OwL.keep sF ds r A2 h2 fun a ha => k a (List.mem_append_right _ ha)⟩
end

mutual
/-- an owned address stands in H -/
theorem Ow.dom : ∀ (d : D) (v : V) (A : List Addr), Ow K F H d v A → ∀ a ∈ A, ∃ o, H a = some o ∧ ∀ xs, o ≠ .tup xs
  | .unk, v, A, h, a, ha => by rw [Ow] at h; subst h; cases ha
  | .hole, v, A, h, a, ha => by
    rw [Ow] at h
    obtain ⟨b, o, _, ho, rfl⟩ := h
    rw [List.mem_singleton] at ha
    subst ha
    exact ⟨o, ho⟩
  | .non, v, A, h, a, ha => by rw [Ow] at h; rw [h.2] at ha; cases ha
  | .bl b, v, A, h, a, ha => by rw [Ow] at h; rw [h.2] at ha; cases ha
  | .int i, v, A, h, a, ha => by rw [Ow] at h; rw [h.2] at ha; cases ha
  | .str x, v, A, h, a, ha => by rw [Ow] at h; rw [h.2] at ha; cases ha
  | .adr x, v, A, h, a, ha => by rw [Ow] at h; rw [h.2] at ha; cases ha
  | .exo x p, v, A, h, a, ha => by rw [Ow] at h; rw [h.2] at ha; cases ha
  | .tup ds, v, A, h, a, ha => by
    rw [Ow] at h
    obtain ⟨_, vs, _, _, l⟩ := h
    exact OwL.dom ds vs A l a ha
  | .lst false ds, v, A, h, a, ha => by
    rw [Ow] at h
    obtain ⟨_, vs, _, _, l⟩ := h
    exact OwL.dom ds vs A l a ha
  | .scr ds, v, A, h, a, ha => by
    rw [Ow] at h
    obtain ⟨_, vs, _, _, l⟩ := h
    exact OwL.dom ds vs A l a ha
  | .ktp ds, v, A, h, a, ha => by
    rw [Ow] at h
    obtain ⟨_, vs, _, _, l⟩ := h
    exact OwL.dom ds vs A l a ha
  | .lst true ds, v, A, h, a, ha => by
    rw [Ow] at h
    obtain ⟨b, vs, A', _, q, l, rfl⟩ := h
    rcases List.mem_cons.mp ha with rfl | ha
    · exact ⟨_, q, fun xs z => by cases z⟩
    · exact OwL.dom ds vs A' l a ha
  | .dK false ks ds, v, A, h, a, ha => by
    rw [Ow] at h
    obtain ⟨_, vs, _, _, _, l⟩ := h
    exact OwL.dom ds vs A l a ha
  | .dK true ks ds, v, A, h, a, ha => by
    rw [Ow] at h
    obtain ⟨b, vs, A', _, q, _, l, rfl⟩ := h
    rcases List.mem_cons.mp ha with rfl | ha
    · exact ⟨_, q, fun xs z => by cases z⟩
    · exact OwL.dom ds vs A' l a ha
  | .dT false ks ds, v, A, h, a, ha => by
    rw [Ow] at h
    obtain ⟨_, vs, _, _, _, l⟩ := h
    exact OwL.dom ds vs A l a ha
  | .dT true ks ds, v, A, h, a, ha => by
    rw [Ow] at h
    obtain ⟨b, vs, A', _, q, _, l, rfl⟩ := h
    rcases List.mem_cons.mp ha with rfl | ha
    · exact ⟨_, q, fun xs z => by cases z⟩
    · exact OwL.dom ds vs A' l a ha
  | .lK ks ds, v, A, h, a, ha => by
    rw [Ow] at h
    obtain ⟨_, vs, _, _, _, l⟩ := h
    exact OwL.dom ds vs A l a ha
  | .lT ks ds, v, A, h, a, ha => by
    rw [Ow] at h
    obtain ⟨_, vs, _, _, _, l⟩ := h
    exact OwL.dom ds vs A l a ha
  | .lck o, v, A, h, a, ha => by rw [Ow] at h; rw [h.2] at ha; cases ha
theorem OwL.dom : ∀ (ds : List D) (vs : List V) (A : List Addr), OwL K F H ds vs A → ∀ a ∈ A, ∃ o, H a = some o ∧ ∀ xs, o ≠ .tup xs
  | [], vs, A, h, a, ha => by rw [OwL] at h; rw [h.2] at ha; cases ha
  | d :: ds, vs, A, h, a, ha => by
    rw [OwL] at h
    obtain ⟨v, r, A1, A2, _, rfl, h1, h2⟩ := h
    rcases List.mem_append.mp ha with ha | ha
    · exact Ow.dom d v A1 h1 a ha
    · exact OwL.dom ds r A2 h2 a ha
end

mutual
/-- frozen data own nothing -/
theorem Ow.frozen : ∀ (d : D) (v : V) (A : List Addr), fz d = true → Ow K F H d v A → A = []
  | .unk, v, A, z, h => by rw [Ow] at h; exact h
  | .hole, v, A, z, h => by simp [fz] at z
  | .non, v, A, z, h => by rw [Ow] at h; exact h.2
  | .bl b, v, A, z, h => by rw [Ow] at h; exact h.2
  | .int i, v, A, z, h => by rw [Ow] at h; exact h.2
  | .str x, v, A, z, h => by rw [Ow] at h; exact h.2
  | .adr x, v, A, z, h => by rw [Ow] at h; exact h.2
  | .exo x p, v, A, z, h => by rw [Ow] at h; exact h.2
  | .tup ds, v, A, z, h => by
    rw [Ow] at h
    obtain ⟨_, vs, _, _, l⟩ := h
    rw [fz] at z
    exact OwL.frozen ds vs A z l
  | .lst false ds, v, A, z, h => by
    rw [Ow] at h
    obtain ⟨_, vs, _, _, l⟩ := h
    rw [fz, Bool.and_eq_true] at z
    exact OwL.frozen ds vs A z.2 l
  | .lst true ds, v, A, z, h => by simp [fz] at z
  | .scr ds, v, A, z, h => by
    rw [Ow] at h
    obtain ⟨_, vs, _, _, l⟩ := h
    rw [fz] at z
    exact OwL.frozen ds vs A z l
  | .ktp ds, v, A, z, h => by
    rw [Ow] at h
    obtain ⟨_, vs, _, _, l⟩ := h
    rw [fz] at z
    exact OwL.frozen ds vs A z l
  | .dK false ks ds, v, A, z, h => by
    rw [Ow] at h
    obtain ⟨_, vs, _, _, _, l⟩ := h
    rw [fz, Bool.and_eq_true] at z
    exact OwL.frozen ds vs A z.2 l
  | .dK true ks ds, v, A, z, h => by simp [fz] at z
  | .dT false ks ds, v, A, z, h => by
    rw [Ow] at h
    obtain ⟨_, vs, _, _, _, l⟩ := h
    rw [fz, Bool.and_eq_true] at z
    exact OwL.frozen ds vs A z.2 l
  | .dT true ks ds, v, A, z, h => by simp [fz] at z
  | .lK ks ds, v, A, z, h => by
    rw [Ow] at h
    obtain ⟨_, vs, _, _, _, l⟩ := h
    rw [fz] at z
    exact OwL.frozen ds vs A z l
  | .lT ks ds, v, A, z, h => by
    rw [Ow] at h
    obtain ⟨_, vs, _, _, _, l⟩ := h
    rw [fz] at z
    exact OwL.frozen ds vs A z l
  | .lck o, v, A, z, h => by rw [Ow] at h; exact h.2
theorem OwL.frozen : ∀ (ds : List D) (vs : List V) (A : List Addr), fzL ds = true → OwL K F H ds vs A → A = []
  | [], vs, A, _, h => by rw [OwL] at h; exact h.2
  | d :: ds, vs, A, z, h => by
    rw [OwL] at h
    rw [fzL, Bool.and_eq_true] at z
    obtain ⟨v, r, A1, A2, _, rfl, h1, h2⟩ := h
    rw [Ow.frozen d v A1 z.1 h1, OwL.frozen ds r A2 z.2 h2]
    rfl
end

mutual
/-- what is owned becomes frozen -/
theorem Ow.freeze (sF : Same F F') : ∀ (d : D) (v : V) (A : List Addr), Ow K F H d v A → (∀ a ∈ A, F' a = H a) → Ow K F' H' (VS.freeze d) v []
  | .unk, v, A, h, _ => by rw [VS.freeze, Ow]
  | .hole, v, A, h, k => by rw [VS.freeze, Ow]
  | .non, v, A, h, _ => by rw [VS.freeze, Ow]; rw [Ow] at h; exact ⟨h.1, rfl⟩
  | .bl b, v, A, h, _ => by rw [VS.freeze, Ow]; rw [Ow] at h; exact ⟨h.1, rfl⟩
  | .int i, v, A, h, _ => by rw [VS.freeze, Ow]; rw [Ow] at h; exact ⟨h.1, rfl⟩
  | .str x, v, A, h, _ => by rw [VS.freeze, Ow]; rw [Ow] at h; exact ⟨h.1, rfl⟩
  | .adr x, v, A, h, _ => by rw [VS.freeze, Ow]; rw [Ow] at h; exact ⟨h.1, rfl⟩
  | .exo c p, v, A, h, _ => by
    rw [VS.freeze, Ow]
    rw [Ow] at h
    obtain ⟨⟨a, C, d, e, q, n, k⟩, z⟩ := h
    refine ⟨⟨a, C, d, e, sF _ _ q, n, ?_⟩, rfl⟩
    cases p with
    | none => exact k
    | some p =>
      obtain ⟨b, e1, e2⟩ := k
      exact ⟨b, e1, sF _ _ e2⟩
  | .tup ds, v, A, h, k => by
    rw [VS.freeze, Ow]
    rw [Ow] at h
    obtain ⟨a, vs, e, q, l⟩ := h
    exact ⟨a, vs, e, sF _ _ q, OwL.freeze sF ds vs A l k⟩
  | .ktp ds, v, A, h, k => by
    rw [VS.freeze, Ow]
    rw [Ow] at h
    obtain ⟨a, vs, e, q, l⟩ := h
    exact ⟨a, vs, e, Same.sqT sF q, OwL.freeze sF ds vs A l k⟩
  | .lst false ds, v, A, h, k => by
    rw [VS.freeze, Ow]
    rw [Ow] at h
    obtain ⟨a, vs, e, q, l⟩ := h
    exact ⟨a, vs, e, sF _ _ q, OwL.freeze sF ds vs A l k⟩
  | .scr ds, v, A, h, k => by
    rw [VS.freeze, Ow]
    rw [Ow] at h
    obtain ⟨a, vs, e, q, l⟩ := h
    exact ⟨a, vs, e, sF.seq q, OwL.freeze sF ds vs A l k⟩
  | .lst true ds, v, A, h, k => by
    rw [VS.freeze, Ow]
    rw [Ow] at h
    obtain ⟨a, vs, A', e, q, l, rfl⟩ := h
    exact ⟨a, vs, e, (k a (by simp)).trans q, OwL.freeze sF ds vs A' l fun b hb => k b (List.mem_cons_of_mem _ hb)⟩
  | .dK false ks ds, v, A, h, k => by
    rw [VS.freeze, Ow]
    rw [Ow] at h
    obtain ⟨a, vs, e, q, n, l⟩ := h
    exact ⟨a, vs, e, sF _ _ q, ⟨by rw [n.1, freezeL_map, List.length_map], n.2⟩, OwL.freeze sF ds vs A l k⟩
  | .dK true ks ds, v, A, h, k => by
    rw [VS.freeze, Ow]
    rw [Ow] at h
    obtain ⟨a, vs, A', e, q, n, l, rfl⟩ := h
    exact ⟨a, vs, e, (k a (by simp)).trans q, ⟨by rw [n.1, freezeL_map, List.length_map], n.2⟩, OwL.freeze sF ds vs A' l fun b hb => k b (List.mem_cons_of_mem _ hb)⟩
  | .dT false ks ds, v, A, h, k => by
    rw [VS.freeze, Ow]
    rw [Ow] at h
    obtain ⟨a, vs, e, q, n, l⟩ := h
    exact ⟨a, vs, e, sF _ _ q, ⟨by rw [n.1, freezeL_map, List.length_map], n.2⟩, OwL.freeze sF ds vs A l k⟩
  | .dT true ks ds, v, A, h, k => by
    rw [VS.freeze, Ow]
    rw [Ow] at h
    obtain ⟨a, vs, A', e, q, n, l, rfl⟩ := h
    exact ⟨a, vs, e, (k a (by simp)).trans q, ⟨by rw [n.1, freezeL_map, List.length_map], n.2⟩, OwL.freeze sF ds vs A' l fun b hb => k b (List.mem_cons_of_mem _ hb)⟩
  | .lK ks ds, v, A, h, k => by
    rw [VS.freeze, Ow]
    rw [Ow] at h
    obtain ⟨a, vs, e, q, n, l⟩ := h
    exact ⟨a, vs, e, q.imp fun _ q => sF _ _ q, ⟨by rw [n.1, freezeL_map, List.length_map], n.2⟩, OwL.freeze sF ds vs A l k⟩
  | .lT ks ds, v, A, h, k => by
    rw [VS.freeze, Ow]
    rw [Ow] at h
    obtain ⟨a, vs, e, q, n, l⟩ := h
    exact ⟨a, vs, e, q.imp fun _ q => sF _ _ q, ⟨by rw [n.1, freezeL_map, List.length_map], n.2⟩, OwL.freeze sF ds vs A l k⟩
  | .lck o, v, A, h, k => by
    rw [VS.freeze, Ow]
    rw [Ow] at h
    exact ⟨h.1.imp fun _ q => ⟨q.1, sF _ _ q.2⟩, rfl⟩
theorem OwL.freeze (sF : Same F F') : ∀ (ds : List D) (vs : List V) (A : List Addr), OwL K F H ds vs A → (∀ a ∈ A, F' a = H a) → OwL K F' H' (freezeL ds) vs []
  | [], vs, A, h, _ => by rw [freezeL, OwL]; rw [OwL] at h; exact ⟨h.1, rfl⟩
  | d :: ds, vs, A, h, k => by
    rw [freezeL, OwL]
    rw [OwL] at h
    obtain ⟨v, r, A1, A2, e, rfl, h1, h2⟩ := h
    exact ⟨v, r, [], [], e, rfl, Ow.freeze sF d v A1 h1 fun a ha => k a (List.mem_append_left _ ha), OwL.freeze sF ds r A2 h2 fun a ha => k a (List.mem_append_right _ ha)⟩
end

theorem OwL.length : ∀ {ds : List D} {vs : List V} {A : List Addr}, OwL K F H ds vs A → ds.length = vs.length
  | [], vs, A, h => by rw [OwL] at h; rw [h.1]; rfl
  | d :: ds, vs, A, h => by
    rw [OwL] at h
    obtain ⟨v, r, A1, A2, rfl, _, _, h2⟩ := h
    simp [OwL.length h2]

/-! ### a list of values with their data -/
def OwT (K : PySem.W.Frag) (F H : Hp) : List (D × V) → List Addr → Prop
  | [], A => A = []
  | p :: T, A => ∃ A1 A2, A = A1 ++ A2 ∧ Ow K F H p.1 p.2 A1 ∧ OwT K F H T A2
theorem OwT.keep (sF : Same F F') : ∀ {T : List (D × V)} {A : List Addr}, OwT K F H T A → (∀ a ∈ A, H' a = H a) → OwT K F' H' T A
  | [], A, h, _ => h
  | p :: T, A, h, k => by
    obtain ⟨A1, A2, rfl, h1, h2⟩ := h
    exact ⟨A1, A2, rfl, h1.keep sF _ _ _ fun a ha => k a (List.mem_append_left _ ha), h2.keep sF fun a ha => k a (List.mem_append_right _ ha)⟩
theorem OwT.dom : ∀ {T : List (D × V)} {A : List Addr}, OwT K F H T A → ∀ a ∈ A, ∃ o, H a = some o ∧ ∀ xs, o ≠ .tup xs
  | [], A, h, a, ha => by rw [show A = [] from h] at ha; cases ha
  | p :: T, A, h, a, ha => by
    obtain ⟨A1, A2, rfl, h1, h2⟩ := h
    rcases List.mem_append.mp ha with ha | ha
    · exact h1.dom _ _ _ a ha
    · exact h2.dom a ha
theorem OwT.perm {T T' : List (D × V)} (p : T.Perm T') : ∀ {A : List Addr}, OwT K F H T A → ∃ A', A.Perm A' ∧ OwT K F H T' A' := by
  induction p with
  | nil => exact fun {A} h => ⟨A, .refl _, h⟩
  | cons x _ ih =>
    intro A h
    obtain ⟨A1, A2, rfl, h1, h2⟩ := h
    obtain ⟨A', q, h3⟩ := ih h2
    exact ⟨A1 ++ A', q.append_left _, A1, A', rfl, h1, h3⟩
  | swap x y l =>
    intro A h
    obtain ⟨A1, A2, rfl, h1, A3, A4, rfl, h2, h3⟩ := h
    refine ⟨A3 ++ (A1 ++ A4), ?_, A3, _, rfl, h2, A1, A4, rfl, h1, h3⟩
    rw [← List.append_assoc, ← List.append_assoc]
    exact List.perm_append_comm.append_right _
  | trans _ _ ih1 ih2 =>
    intro A h
    obtain ⟨A', q, h1⟩ := ih1 h
    obtain ⟨A'', q', h2⟩ := ih2 h1
    exact ⟨A'', q.trans q', h2⟩
theorem OwT.append : ∀ {T U : List (D × V)} {A B : List Addr}, OwT K F H T A → OwT K F H U B → OwT K F H (T ++ U) (A ++ B)
  | [], U, A, B, h, h' => by rw [show A = [] from h]; exact h'
  | p :: T, U, A, B, h, h' => by
    obtain ⟨A1, A2, rfl, h1, h2⟩ := h
    exact ⟨A1, A2 ++ B, List.append_assoc _ _ _, h1, h2.append h'⟩
theorem OwT.split : ∀ {T U : List (D × V)} {C : List Addr}, OwT K F H (T ++ U) C → ∃ A B, C = A ++ B ∧ OwT K F H T A ∧ OwT K F H U B
  | [], U, C, h => ⟨[], C, rfl, rfl, h⟩
  | p :: T, U, C, h => by
    obtain ⟨A1, A2, rfl, h1, h2⟩ := h
    obtain ⟨A, B, rfl, h3, h4⟩ := h2.split
    exact ⟨A1 ++ A, B, (List.append_assoc _ _ _).symm, ⟨A1, A, rfl, h1, h3⟩, h4⟩
theorem OwL.toT : ∀ {ds : List D} {vs : List V} {A : List Addr}, OwL K F H ds vs A → OwT K F H (ds.zip vs) A
  | [], vs, A, h => by rw [OwL] at h; rw [List.zip_nil_left]; exact h.2
  | d :: ds, vs, A, h => by
    rw [OwL] at h
    obtain ⟨v, r, A1, A2, rfl, rfl, h1, h2⟩ := h
    exact ⟨A1, A2, rfl, h1, h2.toT⟩
theorem OwT.toL : ∀ {ds : List D} {vs : List V} {A : List Addr}, ds.length = vs.length → OwT K F H (ds.zip vs) A → OwL K F H ds vs A
  | [], [], A, _, h => by rw [OwL]; exact ⟨rfl, h⟩
  | [], _ :: _, A, e, h => by cases e
  | d :: ds, [], A, e, h => by cases e
  | d :: ds, v :: vs, A, e, h => by
    rw [OwL]
    obtain ⟨A1, A2, rfl, h1, h2⟩ := h
    exact ⟨v, vs, A1, A2, rfl, rfl, h1, h2.toL (Nat.succ.inj e)⟩

/-- the heap H holds these data -/
def RepT (K : PySem.W.Frag) (H : Hp) (L : List (D × V)) : Prop := ∃ (F : Hp) (A : List Addr), Same F H ∧ A.Nodup ∧ (∀ a ∈ A, F a = none) ∧ OwT K F H L A

variable {L L' : List (D × V)} {d : D} {v : V}
theorem RepT.perm (p : L.Perm L') (h : RepT K H L) : RepT K H L' := by
  obtain ⟨F, A, sF, nd, fr, o⟩ := h
  obtain ⟨A', q, o'⟩ := o.perm p
  exact ⟨F, A', sF, q.nodup_iff.mp nd, fun a ha => fr a (q.mem_iff.mpr ha), o'⟩
theorem RepT.drop {p : D × V} (h : RepT K H (p :: L)) : RepT K H L := by
  obtain ⟨F, A, sF, nd, fr, A1, A2, rfl, _, o⟩ := h
  exact ⟨F, A2, sF, (List.nodup_append.mp nd).2.1, fun a ha => fr a (List.mem_append_right _ ha), o⟩
theorem RepT.dropL : ∀ {U : List (D × V)}, RepT K H (U ++ L) → RepT K H L
  | [], h => h
  | _ :: U, h => RepT.dropL (U := U) h.drop
theorem RepT.dup (z : fz d = true) (h : RepT K H ((d, v) :: L)) : RepT K H ((d, v) :: (d, v) :: L) := by
  obtain ⟨F, A, sF, nd, fr, A1, A2, rfl, h1, o⟩ := h
  have e := h1.frozen _ _ _ z
  subst e
  exact ⟨F, [] ++ A2, sF, nd, fr, [], [] ++ A2, rfl, h1, [], A2, rfl, h1, o⟩
theorem RepT.unk (h : RepT K H L) : RepT K H ((.unk, v) :: L) := by
  obtain ⟨F, A, sF, nd, fr, o⟩ := h
  exact ⟨F, A, sF, nd, fr, [], A, rfl, by rw [Ow], o⟩
theorem RepT.weak (h : RepT K H ((d, v) :: L)) : RepT K H ((.unk, v) :: L) := h.drop.unk
theorem RepT.non (h : RepT K H L) : RepT K H ((.non, .non) :: L) := by
  obtain ⟨F, A, sF, nd, fr, o⟩ := h
  exact ⟨F, A, sF, nd, fr, [], A, rfl, by rw [Ow]; exact ⟨rfl, rfl⟩, o⟩
theorem RepT.bl {b : Bool} (h : RepT K H L) : RepT K H ((.bl b, .bl b) :: L) := by
  obtain ⟨F, A, sF, nd, fr, o⟩ := h
  exact ⟨F, A, sF, nd, fr, [], A, rfl, by rw [Ow]; exact ⟨rfl, rfl⟩, o⟩
theorem RepT.int {i : Int} (h : RepT K H L) : RepT K H ((.int i, .int i) :: L) := by
  obtain ⟨F, A, sF, nd, fr, o⟩ := h
  exact ⟨F, A, sF, nd, fr, [], A, rfl, by rw [Ow]; exact ⟨rfl, rfl⟩, o⟩
theorem RepT.str {x : Str} (h : RepT K H L) : RepT K H ((.str x, .str x) :: L) := by
  obtain ⟨F, A, sF, nd, fr, o⟩ := h
  exact ⟨F, A, sF, nd, fr, [], A, rfl, by rw [Ow]; exact ⟨rfl, rfl⟩, o⟩
theorem RepT.eq_non (h : RepT K H ((.non, v) :: L)) : v = .non := by
  obtain ⟨F, A, sF, nd, fr, A1, A2, rfl, h1, o⟩ := h
  rw [Ow] at h1; exact h1.1
theorem RepT.eq_bl {b : Bool} (h : RepT K H ((.bl b, v) :: L)) : v = .bl b := by
  obtain ⟨F, A, sF, nd, fr, A1, A2, rfl, h1, o⟩ := h
  rw [Ow] at h1; exact h1.1
theorem RepT.eq_int {i : Int} (h : RepT K H ((.int i, v) :: L)) : v = .int i := by
  obtain ⟨F, A, sF, nd, fr, A1, A2, rfl, h1, o⟩ := h
  rw [Ow] at h1; exact h1.1
theorem RepT.adr {a : Addr} (h : RepT K H L) : RepT K H ((.adr a, .ref a) :: L) := by
  obtain ⟨F, A, sF, nd, fr, o⟩ := h
  exact ⟨F, A, sF, nd, fr, [], A, rfl, by rw [Ow]; exact ⟨rfl, rfl⟩, o⟩
theorem RepT.eq_adr {a : Addr} (h : RepT K H ((.adr a, v) :: L)) : v = .ref a := by
  obtain ⟨F, A, sF, nd, fr, A1, A2, e, h1, o⟩ := h
  rw [Ow] at h1
  exact h1.1
theorem RepT.eq_str {x : Str} (h : RepT K H ((.str x, v) :: L)) : v = .str x := by
  obtain ⟨F, A, sF, nd, fr, A1, A2, rfl, h1, o⟩ := h
  rw [Ow] at h1; exact h1.1
/-- no data but nothing at all: the empty one -/
theorem RepT.nil : RepT K H [] := ⟨fun _ => none, [], fun _ _ e => (by exact absurd e (by simp)), List.nodup_nil, fun _ h => (by exact absurd h (by simp)), rfl⟩

/-- a new address: neither owned nor frozen -/
theorem RepT.newL {ds : List D} {vs : List V} {p : Addr} (e : ds.length = vs.length) (hp : H p = none) (h : RepT K H (ds.zip vs ++ L)) : RepT K (upd H p (.lst vs)) ((.lst true ds, .ref p) :: L) := by
  obtain ⟨F, A, sF, nd, fr, o⟩ := h
  obtain ⟨A1, A2, rfl, o1, o2⟩ := o.split
  have np : p ∉ A1 ++ A2 := fun hm => by
    rcases List.mem_append.mp hm with hm | hm
    · obtain ⟨_, q, _⟩ := o1.dom p hm; rw [hp] at q; cases q
    · obtain ⟨_, q, _⟩ := o2.dom p hm; rw [hp] at q; cases q
  have k : ∀ a ∈ A1 ++ A2, upd H p (.lst vs) a = H a := fun a ha => upd_ne (fun z => np (by rw [← z]; exact ha))
  have fp : F p = none := by
    cases q : F p with
    | none => rfl
    | some u => have := sF _ _ q; rw [hp] at this; cases this
  refine ⟨F, (p :: A1) ++ A2, fun b o q => ?_, ?_, fun a ha => ?_, p :: A1, A2, rfl, ?_, o2.keep (Same.refl _) fun a ha => k a (List.mem_append_right _ ha)⟩
  · rw [upd_ne fun z => by rw [z, fp] at q; cases q]
    exact sF _ _ q
  · exact List.nodup_cons.mpr ⟨np, nd⟩
  · rcases List.mem_cons.mp ha with rfl | ha
    · exact fp
    · exact fr a ha
  · rw [Ow]
    exact ⟨p, vs, A1, rfl, upd_same, (o1.toL e).keep (Same.refl _) _ _ _ fun a ha => k a (List.mem_append_left _ ha), rfl⟩
theorem RepT.newT {ds : List D} {vs : List V} {p : Addr} (e : ds.length = vs.length) (hp : H p = none) (h : RepT K H (ds.zip vs ++ L)) : RepT K (upd H p (.tup vs)) ((.tup ds, .ref p) :: L) := by
  obtain ⟨F, A, sF, nd, fr, o⟩ := h
  obtain ⟨A1, A2, rfl, o1, o2⟩ := o.split
  have np : p ∉ A1 ++ A2 := fun hm => by
    rcases List.mem_append.mp hm with hm | hm
    · obtain ⟨_, q, _⟩ := o1.dom p hm; rw [hp] at q; cases q
    · obtain ⟨_, q, _⟩ := o2.dom p hm; rw [hp] at q; cases q
  have k : ∀ a ∈ A1 ++ A2, upd H p (.tup vs) a = H a := fun a ha => upd_ne (fun z => np (by rw [← z]; exact ha))
  have fp : F p = none := by
    cases q : F p with
    | none => rfl
    | some u => have := sF _ _ q; rw [hp] at this; cases this
  have sU : Same F (upd F p (.tup vs)) := fun b o q => by
    rw [upd_ne fun z => by rw [z, fp] at q; cases q]; exact q
  refine ⟨upd F p (.tup vs), A1 ++ A2, fun b o q => ?_, nd, fun a ha => ?_, A1, A2, rfl, ?_, o2.keep sU fun a ha => k a (List.mem_append_right _ ha)⟩
  · by_cases z : b = p
    · subst z; rw [upd_same] at q ⊢; exact q
    · rw [upd_ne z] at q ⊢; exact sF _ _ q
  · rw [upd_ne (fun z => np (by rw [← z]; exact ha))]; exact fr a ha
  · rw [Ow]
    exact ⟨p, vs, rfl, upd_same, (o1.toL e).keep sU _ _ _ fun a ha => k a (List.mem_append_left _ ha)⟩
/-- what stands on stays; what is tracked grows at a new place -/
theorem RepT.grow {p : Addr} {o : HO} (hp : H p = none) (h : RepT K H L) : RepT K (upd H p o) L := by
  obtain ⟨F, A, sF, nd, fr, ow⟩ := h
  refine ⟨F, A, fun b u q => ?_, nd, fr, ow.keep (Same.refl _) fun a ha => upd_ne fun z => ?_⟩
  · rw [upd_ne fun z => by rw [z] at q; have := sF _ _ q; rw [hp] at this; cases this]
    exact sF _ _ q
  · subst z
    obtain ⟨_, q, _⟩ := ow.dom a ha
    rw [hp] at q; cases q
/-- an owned list, opened -/
theorem RepT.openL {ds : List D} (h : RepT K H ((.lst true ds, v) :: L)) : ∃ a vs, v = .ref a ∧ H a = some (.lst vs) ∧ ds.length = vs.length ∧ RepT K H ((.hole, .ref a) :: (ds.zip vs ++ L)) := by
  obtain ⟨F, A, sF, nd, fr, A1, A2, rfl, h1, o⟩ := h
  rw [Ow] at h1
  obtain ⟨a, vs, A', rfl, q, l, rfl⟩ := h1
  refine ⟨a, vs, rfl, q, l.length, F, [a] ++ (A' ++ A2), sF, nd, fr, [a], A' ++ A2, rfl, ?_, l.toT.append o⟩
  rw [Ow]
  exact ⟨a, _, rfl, ⟨q, fun xs z => by cases z⟩, rfl⟩
/-- .. and closed with other items -/
theorem RepT.closeL {ds : List D} {vs : List V} {a : Addr} (e : ds.length = vs.length) (h : RepT K H ((.hole, .ref a) :: (ds.zip vs ++ L))) : RepT K (upd H a (.lst vs)) ((.lst true ds, .ref a) :: L) := by
  obtain ⟨F, A, sF, nd, fr, A1, A2, rfl, h1, o⟩ := h
  rw [Ow] at h1
  obtain ⟨b, u, e1, q, rfl⟩ := h1
  cases e1
  obtain ⟨B1, B2, rfl, o1, o2⟩ := o.split
  have fa : F a = none := fr a (by simp)
  have na : a ∉ B1 ++ B2 := (List.nodup_cons.mp nd).1
  have k : ∀ b ∈ B1 ++ B2, upd H a (.lst vs) b = H b := fun b hb => upd_ne (fun z => na (by rw [← z]; exact hb))
  refine ⟨F, (a :: B1) ++ B2, fun b o q => ?_, nd, fr, a :: B1, B2, rfl, ?_, o2.keep (Same.refl _) fun b hb => k b (List.mem_append_right _ hb)⟩
  · rw [upd_ne fun z => by rw [z, fa] at q; cases q]
    exact sF _ _ q
  · rw [Ow]
    exact ⟨a, vs, B1, rfl, upd_same, (o1.toL e).keep (Same.refl _) _ _ _ fun b hb => k b (List.mem_append_left _ hb), rfl⟩
theorem RepT.openT {ds : List D} (h : RepT K H ((.tup ds, v) :: L)) : ∃ a vs, v = .ref a ∧ H a = some (.tup vs) ∧ ds.length = vs.length ∧ RepT K H (ds.zip vs ++ L) := by
  obtain ⟨F, A, sF, nd, fr, A1, A2, rfl, h1, o⟩ := h
  rw [Ow] at h1
  obtain ⟨a, vs, rfl, q, l⟩ := h1
  exact ⟨a, vs, rfl, sF _ _ q, l.length, F, A1 ++ A2, sF, nd, fr, l.toT.append o⟩
theorem RepT.openK {ds : List D} (h : RepT K H ((.ktp ds, v) :: L)) : ∃ a vs, v = .ref a ∧ SqT K H a vs ∧ ds.length = vs.length ∧ RepT K H (ds.zip vs ++ L) := by
  obtain ⟨F, A, sF, nd, fr, A1, A2, rfl, h1, o⟩ := h
  rw [Ow] at h1
  obtain ⟨a, vs, rfl, q, l⟩ := h1
  exact ⟨a, vs, rfl, Same.sqT sF q, l.length, F, A1 ++ A2, sF, nd, fr, l.toT.append o⟩
theorem RepT.openF {ds : List D} (h : RepT K H ((.lst false ds, v) :: L)) : ∃ a vs, v = .ref a ∧ H a = some (.lst vs) ∧ ds.length = vs.length ∧ RepT K H (ds.zip vs ++ L) := by
  obtain ⟨F, A, sF, nd, fr, A1, A2, rfl, h1, o⟩ := h
  rw [Ow] at h1
  obtain ⟨a, vs, rfl, q, l⟩ := h1
  exact ⟨a, vs, rfl, sF _ _ q, l.length, F, A1 ++ A2, sF, nd, fr, l.toT.append o⟩
theorem RepT.openS {ds : List D} (h : RepT K H ((.scr ds, v) :: L)) : ∃ a vs, v = .ref a ∧ SqL K H a vs ∧ ds.length = vs.length ∧ RepT K H (ds.zip vs ++ L) := by
  obtain ⟨F, A, sF, nd, fr, A1, A2, rfl, h1, o⟩ := h
  rw [Ow] at h1
  obtain ⟨a, vs, rfl, q, l⟩ := h1
  exact ⟨a, vs, rfl, sF.seq q, l.length, F, A1 ++ A2, sF, nd, fr, l.toT.append o⟩
/-- any list, read -/
theorem RepT.readL {o : Bool} {ds : List D} (h : RepT K H ((.lst o ds, v) :: L)) : ∃ a vs, v = .ref a ∧ H a = some (.lst vs) ∧ ds.length = vs.length ∧ RepT K H (ds.zip vs ++ L) := by
  cases o with
  | false => exact h.openF
  | true =>
    obtain ⟨a, vs, e, q, l, r⟩ := h.openL
    exact ⟨a, vs, e, q, l, r.drop⟩
/-- a script's own list, at the start -/
theorem RepT.script {a : Addr} {ns : List Int} (h : SqL K H a (ns.map V.int)) : RepT K H [(.scr (ns.map D.int), .ref a)] := by
  refine ⟨H, [], Same.refl _, List.nodup_nil, fun _ h => (by exact absurd h (by simp)), [], [], rfl, ?_, rfl⟩
  rw [Ow]
  refine ⟨a, _, rfl, h, ?_⟩
  clear h
  induction ns with
  | nil => rw [List.map_nil, OwL]; exact ⟨rfl, rfl⟩
  | cons n ns ih =>
    rw [List.map_cons, OwL]
    exact ⟨.int n, ns.map V.int, [], [], rfl, rfl, by rw [Ow]; exact ⟨rfl, rfl⟩, ih⟩
theorem RepT.freeze (h : RepT K H ((d, v) :: L)) : RepT K H ((VS.freeze d, v) :: L) := by
  obtain ⟨F, A, sF, nd, fr, A1, A2, rfl, h1, o⟩ := h
  obtain ⟨n1, n2, n3⟩ := List.nodup_append.mp nd
  let F' : Hp := fun a => if a ∈ A1 then H a else F a
  have sF' : Same F F' := fun b u q => by
    have : b ∉ A1 := fun hb => by rw [fr b (List.mem_append_left _ hb)] at q; cases q
    show (if b ∈ A1 then H b else F b) = some u
    rw [if_neg this]; exact q
  have kA : ∀ a ∈ A1, F' a = H a := fun a ha => if_pos ha
  refine ⟨F', A2, fun b u q => ?_, n2, fun a ha => ?_, [], A2, rfl, h1.freeze sF' _ _ _ kA, o.keep sF' fun _ _ => rfl⟩
  · by_cases hb : b ∈ A1
    · rw [kA b hb] at q; exact q
    · have e : F' b = F b := if_neg hb
      rw [e] at q; exact sF _ _ q
  · have : a ∉ A1 := fun hb => n3 a hb a ha rfl
    show (if a ∈ A1 then H a else F a) = none
    rw [if_neg this]; exact fr a (List.mem_append_right _ ha)
/-- a tuple of scalars that stands in H may be held -/
theorem RepT.tupOf {ds : List D} {vs : List V} {a : Addr} (ha : H a = some (.tup vs)) (hs : ∀ F', OwL K F' H ds vs []) (h : RepT K H L) : RepT K H ((.tup ds, .ref a) :: L) := by
  obtain ⟨F, A, sF, nd, fr, o⟩ := h
  have na : a ∉ A := fun z => by
    obtain ⟨u, q, n⟩ := o.dom a z
    rw [ha] at q
    exact n vs (Option.some.inj q).symm
  have sU : Same F (upd F a (.tup vs)) := fun b u q => by
    by_cases z : b = a
    · subst z
      have := sF _ _ q
      rw [ha] at this
      rw [upd_same]; exact this
    · rw [upd_ne z]; exact q
  refine ⟨upd F a (.tup vs), A, fun b u q => ?_, nd, fun b hb => ?_, [], A, rfl, ?_, o.keep sU fun _ _ => rfl⟩
  · by_cases z : b = a
    · subst z; rw [upd_same] at q; rw [ha]; exact q
    · rw [upd_ne z] at q; exact sF _ _ q
  · rw [upd_ne (fun z => na (by rw [← z]; exact hb))]; exact fr b hb
  · rw [Ow]; exact ⟨a, vs, rfl, upd_same, hs _⟩
end VS

set_option Elab.async false
set_option linter.all false
set_option maxRecDepth 100000
set_option maxHeartbeats 4000000
set_option autoImplicit false
/-! VS2: slots, the judgements, blocks, loops, comprehensions, defs and their calls. -/
noncomputable section
namespace VS
open PySem PySem.Spec PyProof.Rows L2

/-! ### slots -/
abbrev St := L2.St
def SL (ρ : Env) (σ : St) : List (D × V) := List.zipWith (fun d o => (d, o.getD .non)) ρ σ
structure Rep (K : PySem.W.Frag) (H : Hp) (T : List (D × V)) (ρ : Env) (σ : St) : Prop where
  len : ρ.length = σ.length
  nos : ∀ (i : Nat), σ[i]? = some none → ρ[i]? = some .unk
  rep : RepT K H (T ++ SL ρ σ)
theorem SL_set : ∀ (ρ : Env) (σ : St) (i : Nat) (d : D) (v : V), SL (ρ.set i d) (σ.set i (some v)) = (SL ρ σ).set i (d, v)
  | [], _, _, _, _ => by simp [SL]
  | _ :: _, [], _, _, _ => by simp [SL]
  | _ :: _, _ :: _, 0, _, _ => rfl
  | c :: ρ, o :: σ, i + 1, d, v => by
    show (c, o.getD .non) :: SL (ρ.set i d) (σ.set i (some v)) = _
    rw [SL_set ρ σ i d v]; rfl
theorem SL_setD : ∀ (ρ : Env) (σ : St) (i : Nat) (d : D) (v : V), σ[i]? = some (some v) → SL (ρ.set i d) σ = (SL ρ σ).set i (d, v)
  | [], _, _, _, _, _ => by simp [SL]
  | _ :: _, [], _, _, _, h => by simp at h
  | _ :: _, o :: _, 0, _, _, h => by
    have e : o = some _ := Option.some.inj h
    subst e; rfl
  | c :: ρ, o :: σ, i + 1, d, v, h => by
    show (c, o.getD .non) :: SL (ρ.set i d) σ = _
    rw [SL_setD ρ σ i d v h]; rfl
theorem SL_get : ∀ {ρ : Env} {σ : St} {i : Nat} {d : D} {v : V}, ρ[i]? = some d → σ[i]? = some (some v) → (SL ρ σ)[i]? = some (d, v)
  | [], _, _, _, _, h, _ => by simp at h
  | _ :: _, [], _, _, _, _, h => by simp at h
  | c :: _, o :: _, 0, _, _, h, h' => by
    have e : c = _ := Option.some.inj h
    have e' : o = some _ := Option.some.inj h'
    subst e; subst e'; rfl
  | c :: ρ, o :: σ, i + 1, d, v, h, h' => SL_get (ρ := ρ) (σ := σ) h h'
theorem perm_set {α : Type} (x : α) : ∀ {L : List α} {i : Nat} {y : α}, L[i]? = some y → (x :: L).Perm (y :: L.set i x)
  | [], _, _, h => by simp at h
  | a :: L, 0, y, h => by
    have e : a = y := Option.some.inj h
    subst e
    exact .swap _ _ _
  | a :: L, i + 1, y, h => by
    show (x :: a :: L).Perm (y :: a :: L.set i x)
    exact ((List.Perm.swap a x L).trans ((perm_set x (L := L) (i := i) h).cons a)).trans (.swap _ _ _)
theorem perm_erase {α : Type} : ∀ {L : List α} {i : Nat} {y : α}, L[i]? = some y → L.Perm (y :: L.eraseIdx i)
  | [], _, _, h => by simp at h
  | a :: L, 0, y, h => by
    have e : a = y := Option.some.inj h
    subst e
    exact .refl _
  | a :: L, i + 1, y, h => by
    show (a :: L).Perm (y :: a :: L.eraseIdx i)
    exact ((perm_erase (L := L) (i := i) h).cons a).trans (.swap _ _ _)

section
variable {K : PySem.W.Frag} {H H' : Hp} {T T' : List (D × V)} {ρ : Env} {σ σ' : St} {d : D} {v : V} {i : Nat}
theorem Rep.lift (h : Rep K H T ρ σ) (f : RepT K H (T ++ SL ρ σ) → RepT K H' (T' ++ SL ρ σ)) : Rep K H' T' ρ σ := ⟨h.len, h.nos, f h.rep⟩
theorem Rep.perm (h : Rep K H T ρ σ) (p : T.Perm T') : Rep K H T' ρ σ := h.lift fun r => r.perm (p.append_right _)
theorem Rep.drop {p : D × V} (h : Rep K H (p :: T) ρ σ) : Rep K H T ρ σ := h.lift fun r => RepT.drop (L := T ++ SL ρ σ) r
theorem Rep.dropL : ∀ {U : List (D × V)}, Rep K H (U ++ T) ρ σ → Rep K H T ρ σ
  | [], h => h
  | _ :: U, h => Rep.dropL (U := U) (Rep.drop h)
theorem Rep.slot (h : Rep K H T ρ σ) (e : ρ[i]? = some d) (n : d ≠ .unk) : ∃ v, σ[i]? = some (some v) := by
  have hi : i < σ.length := by rw [← h.len]; exact (List.getElem?_eq_some_iff.mp e).1
  cases q : σ[i] with
  | none =>
    have := h.nos i (by rw [List.getElem?_eq_getElem hi, q])
    rw [e] at this
    exact absurd (Option.some.inj this) n
  | some v => exact ⟨v, by rw [List.getElem?_eq_getElem hi, q]⟩
/-- a slot's frozen value, read -/
theorem Rep.read (h : Rep K H T ρ σ) (e : ρ[i]? = some d) (z : fz d = true) (hv : σ[i]? = some (some v)) : Rep K H ((d, v) :: T) ρ σ := by
  refine h.lift fun r => ?_
  have g := SL_get e hv
  have p : (T ++ SL ρ σ).Perm ((d, v) :: (T ++ (SL ρ σ).eraseIdx i)) := by
    exact ((perm_erase g).append_left T).trans List.perm_middle
  exact (RepT.dup z (r.perm p)).perm (p.symm.cons _)
/-- a slot's value, taken out -/
theorem Rep.take (h : Rep K H T ρ σ) (e : ρ[i]? = some d) (hv : σ[i]? = some (some v)) : Rep K H ((d, v) :: T) (ρ.set i .unk) σ := by
  refine ⟨by rw [List.length_set]; exact h.len, fun j hj => ?_, ?_⟩
  · by_cases z : i = j
    · subst z; rw [hv] at hj; cases hj
    · rw [List.getElem?_set_ne z]; exact h.nos j hj
  · rw [SL_setD ρ σ i _ v hv]
    have g := SL_get e hv
    have r := RepT.unk (v := v) h.rep
    refine r.perm ?_
    show ((D.unk, v) :: (T ++ SL ρ σ)).Perm ((d, v) :: (T ++ (SL ρ σ).set i (.unk, v)))
    exact (List.perm_middle.symm.trans ((perm_set (D.unk, v) g).append_left T)).trans List.perm_middle
theorem Rep.put (h : Rep K H ((d, v) :: T) ρ σ) (hv : σ[i]? = some (some v)) : Rep K H T (ρ.set i d) σ := by
  refine ⟨by rw [List.length_set]; exact h.len, fun j hj => ?_, ?_⟩
  · by_cases z : i = j
    · subst z; rw [hv] at hj; cases hj
    · rw [List.getElem?_set_ne z]; exact h.nos j hj
  · rw [SL_setD ρ σ i _ v hv]
    have hi : i < ρ.length := by rw [h.len]; exact (List.getElem?_eq_some_iff.mp hv).1
    have g := SL_get (List.getElem?_eq_getElem hi) hv
    have r : RepT K H ((d, v) :: (T ++ SL ρ σ)) := h.rep
    exact RepT.drop (r.perm ((List.perm_middle.symm.trans ((perm_set (d, v) g).append_left T)).trans List.perm_middle))
theorem SL_len (ρ : Env) (σ : St) (h : ρ.length = σ.length) : (SL ρ σ).length = ρ.length := by simp [SL, h]
/-- a value stored -/
theorem Rep.set (h : Rep K H ((d, v) :: T) ρ σ) : Rep K H T (ρ.set i d) (σ.set i (some v)) := by
  refine ⟨by rw [List.length_set, List.length_set]; exact h.len, fun j hj => ?_, ?_⟩
  · by_cases z : i = j
    · subst z
      by_cases hi : i < σ.length
      · rw [List.getElem?_set_self hi] at hj; cases hj
      · rw [List.getElem?_eq_none (by rw [List.length_set]; omega)] at hj; cases hj
    · rw [List.getElem?_set_ne z] at hj ⊢; exact h.nos j hj
  · rw [SL_set]
    have r : RepT K H ((d, v) :: (T ++ SL ρ σ)) := h.rep
    by_cases hi : i < (SL ρ σ).length
    · exact RepT.drop (r.perm ((List.perm_middle.symm.trans ((perm_set (d, v) (List.getElem?_eq_getElem hi)).append_left T)).trans List.perm_middle))
    · rw [List.set_eq_of_length_le (by omega)]
      exact r.drop
/-- a slot's value frozen -/
theorem Rep.frz (h : Rep K H T ρ σ) (e : ρ[i]? = some d) (n : d ≠ .unk) : Rep K H T (ρ.set i (freeze d)) σ := by
  obtain ⟨v, hv⟩ := h.slot e n
  have r := h.take e hv
  have r2 : Rep K H ((freeze d, v) :: T) (ρ.set i .unk) σ := r.lift fun q => RepT.freeze (L := T ++ SL (ρ.set i .unk) σ) q
  have r3 := r2.put hv
  rw [List.set_set] at r3
  exact r3
/-- forget a slot -/
theorem Rep.forget (h : Rep K H T ρ σ) (i : Nat) : Rep K H T (ρ.set i .unk) σ := by
  by_cases hi : i < σ.length
  · cases q : σ[i] with
    | none =>
      have e := h.nos i (by rw [List.getElem?_eq_getElem hi, q])
      have : ρ.set i .unk = ρ := by
        apply List.ext_getElem?
        intro j
        by_cases z : i = j
        · subst z
          rw [List.getElem?_set_self (by rw [h.len]; exact hi), e]
        · rw [List.getElem?_set_ne z]
      rw [this]; exact h
    | some v =>
      have hv : σ[i]? = some (some v) := by rw [List.getElem?_eq_getElem hi, q]
      exact (h.take (d := ρ[i]'(by rw [h.len]; exact hi)) (List.getElem?_eq_getElem _) hv).drop
  · rw [List.set_eq_of_length_le (by rw [h.len]; omega)]
    exact h
def wipeD (ρ : Env) : List Nat → Env
  | [] => ρ
  | i :: is => (wipeD ρ is).set i .unk
theorem wipeD_length (ρ : Env) : ∀ is : List Nat, (wipeD ρ is).length = ρ.length
  | [] => rfl
  | i :: is => by rw [wipeD, List.length_set, wipeD_length ρ is]
theorem Rep.wipe1 (h : Rep K H T ρ σ) : ∀ is : List Nat, Rep K H T (wipeD ρ is) σ
  | [] => h
  | i :: is => (h.wipe1 is).forget i
theorem wipeD_get (ρ : Env) : ∀ {is : List Nat} {i : Nat}, i ∈ is → i < ρ.length → (wipeD ρ is)[i]? = some .unk
  | [], _, h, _ => by cases h
  | j :: is, i, h, hl => by
    rw [wipeD]
    by_cases z : j = i
    · subst z; rw [List.getElem?_set_self (by rw [wipeD_length]; exact hl)]
    · rw [List.getElem?_set_ne z]
      rcases List.mem_cons.mp h with e | h
      · exact absurd e.symm z
      · exact wipeD_get ρ h hl
/-- slots that are forgotten may hold anything -/
theorem Rep.other (h : Rep K H T ρ σ) (hl : σ'.length = σ.length) (ho : ∀ (i : Nat), ρ[i]? = some .unk ∨ σ'[i]? = σ[i]?) : Rep K H T ρ σ' := by
  refine ⟨h.len.trans hl.symm, fun i hi => ?_, ?_⟩
  · rcases ho i with e | e
    · exact e
    · exact h.nos i (e ▸ hi)
  · have key : ∀ (ρ : Env) (σ σ' : St) (U : List (D × V)), ρ.length = σ.length → σ'.length = σ.length → (∀ (i : Nat), ρ[i]? = some .unk ∨ σ'[i]? = σ[i]?) → RepT K H (U ++ SL ρ σ) → RepT K H (U ++ SL ρ σ') := by
      intro ρ
      induction ρ with
      | nil => intro σ σ' U _ _ _ r; simpa [SL] using r
      | cons d ρ ih =>
        intro σ σ' U e1 e2 ho r
        cases σ with
        | nil => cases e1
        | cons o σ =>
          cases σ' with
          | nil => cases e2
          | cons o' σ' =>
            have r' : RepT K H ((U ++ [(d, o.getD .non)]) ++ SL ρ σ) := by simpa [SL] using r
            have r2 := ih σ σ' (U ++ [(d, o.getD .non)]) (Nat.succ.inj e1) (Nat.succ.inj e2) (fun i => ho (i + 1)) r'
            have r3 : RepT K H ((d, o.getD .non) :: (U ++ SL ρ σ')) := r2.perm (by
              rw [List.append_assoc]
              exact List.perm_middle)
            have r4 : RepT K H ((d, o'.getD .non) :: (U ++ SL ρ σ')) := by
              rcases ho 0 with e | e
              · have e : d = .unk := Option.some.inj e
                subst e
                exact r3.drop.unk
              · have e : o' = o := Option.some.inj e
                rw [e]; exact r3
            exact r4.perm List.perm_middle.symm
    exact key ρ σ σ' T h.len hl ho h.rep
end

/-! ### results -/
structure Xc where
  c : Str
  p : Option (Str × Int)
inductive Rv (α : Type) where
  | ok (a : α) (ρ : Env)
  | ex (x : Xc) (ρ : Env)
abbrev M (α : Type) := Env → Option (Rv α)
def bindM {α β : Type} (f : M α) (k : α → M β) : M β := fun ρ => match f ρ with
  | none => none
  | some (.ex x ρ') => some (.ex x ρ')
  | some (.ok a ρ') => k a ρ'
def retM {α : Type} (a : α) : M α := fun ρ => some (.ok a ρ)
def optM {α : Type} (o : Option α) : M α := fun ρ => match o with
  | none => none
  | some a => some (.ok a ρ)
theorem optM_some {α : Type} {o : Option α} {ρ : Env} {r : Rv α} (h : optM o ρ = some r) : ∃ a, o = some a ∧ r = .ok a ρ := by
  cases o with
  | none => cases h
  | some a => exact ⟨a, rfl, (Option.some.inj h).symm⟩
inductive Fl where
  | nx | rt (d : D) | bk | ct | ex (x : Xc)
abbrev MS := Env → Option (Fl × Env)

/-- an exception as it lies -/
def XRep (mg : Str → Option Value) (x : Xc) (cls : Value) (d : Option Addr) (H : Hp) : Prop :=
  ∃ C, cls = .ref C ∧ mg x.c = some (.ref C) ∧ match x.p with
    | none => d = none
    | some (f, n) => ∃ a, d = some a ∧ H a = some (.xd [(f, .int n)])

section
variable (K : PySem.W.Frag) (mg : Str → Option Value) (W : WX)
def exE (T : List (D × V)) (σ : St) (x : Xc) (ρ' : Env) : Prop := ∀ cls dd H', XRep mg x cls dd H' → Rep K H' T ρ' σ → W cls dd σ H'
def endR {α : Type} (T : List (D × V)) (σ : St) (okP : α → Env → Prop) : Rv α → Prop
  | .ok a ρ' => okP a ρ'
  | .ex x ρ' => exE K mg W T σ x ρ'
def okE (m : Bool) (T : List (D × V)) (σ : St) (H : Hp) (Q : VK) (d : D) (ρ' : Env) : Prop := ∀ v H', (m = false → Same H H') → Rep K H' ((d, v) :: T) ρ' σ → Q v H'
def okT (m : Bool) (T : List (D × V)) (σ : St) (H : Hp) (Q : Bool → Hp → Prop) (b : Bool) (ρ' : Env) : Prop := ∀ H', (m = false → Same H H') → Rep K H' T ρ' σ → Q b H'
def okA (m : Bool) (T : List (D × V)) (σ : St) (H : Hp) (Q : List V → Hp → Prop) (ds : List D) (ρ' : Env) : Prop := ∀ vs H', (m = false → Same H H') → ds.length = vs.length → Rep K H' (ds.zip vs ++ T) ρ' σ → Q vs H'
/-- the readings of a denotation -/
def tOf (m : Bool) (f : M D) : TE := fun σ H Q => ∃ T ρ r, Rep K H T ρ σ ∧ f ρ = some r ∧ endR K mg W T σ (okE K m T σ H Q) r
def ttOf (m : Bool) (f : M Bool) : TT := fun σ H Q => ∃ T ρ r, Rep K H T ρ σ ∧ f ρ = some r ∧ endR K mg W T σ (okT K m T σ H Q) r
def taOf (m : Bool) (f : M (List D)) : TA := fun σ H Q => ∃ T ρ r, Rep K H T ρ σ ∧ f ρ = some r ∧ endR K mg W T σ (okA K m T σ H Q) r
def Kept (asg : List Nat) (σ σ' : St) : Prop := σ'.length = σ.length ∧ ∀ (i : Nat), i ∉ asg → σ'[i]? = σ[i]?
def endS (asg : List Nat) (T : List (D × V)) (σ : St) (E : Ends) : Fl → Env → Prop
  | .nx, ρ' => ∀ σ' H', Kept asg σ σ' → Rep K H' T ρ' σ' → E.nx σ' H'
  | .bk, ρ' => ∀ σ' H', Kept asg σ σ' → Rep K H' T ρ' σ' → E.bk σ' H'
  | .ct, ρ' => ∀ σ' H', Kept asg σ σ' → Rep K H' T ρ' σ' → E.ct σ' H'
  | .rt d, ρ' => ∀ v σ' H', Kept asg σ σ' → Rep K H' ((d, v) :: T) ρ' σ' → E.rt v H'
  | .ex x, ρ' => ∀ cls dd σ' H', Kept asg σ σ' → XRep mg x cls dd H' → Rep K H' T ρ' σ' → W cls dd σ' H'
def tsOf (asg : List Nat) (g : MS) : TS := fun E σ H => ∃ T ρ fl ρ', Rep K H T ρ σ ∧ g ρ = some (fl, ρ') ∧ endS K mg W asg T σ E fl ρ'
def tgOf (asg : List Nat) (g : D → Env → Option Env) : TG := fun v σ H Q => ∃ T ρ d ρ', Rep K H ((d, v) :: T) ρ σ ∧ g d ρ = some ρ' ∧ ∀ σ' H', Kept asg σ σ' → Rep K H' T ρ' σ' → Q σ' H'
/-- an iterator that gives these data while c stands -/
structure ItOk (J : It) (c : List (D × V)) (ds : List D) : Prop where
  go : ∀ i H L, i < ds.length → RepT K H (c ++ L) → J.go i H
  stop : ∀ H L, RepT K H (c ++ L) → J.stop ds.length H
  yld : ∀ i H L x H' d, RepT K H (c ++ L) → ds[i]? = some d → J.yld i H x H' → RepT K H' ((d, x) :: (c ++ L))
def okI (T : List (D × V)) (σ : St) (H : Hp) (R : It → Hp → Prop) (ds : List D) (ρ' : Env) : Prop := ∀ J c H', ItOk K J c ds → Rep K H' (c ++ T) ρ' σ → R J H'
def tiOf (f : M (List D)) : TI := fun σ H R => ∃ T ρ r, Rep K H T ρ σ ∧ f ρ = some r ∧ endR K mg W T σ (okI K T σ H R) r
end
section
variable (X : Cx) (W : WX)
def VE (m : Bool) (e : Expr) (f : M D) : Prop := PE X e (tOf X.K X.mg W m f)
def VT (m : Bool) (e : Expr) (f : M Bool) : Prop := PT X e (ttOf X.K X.mg W m f)
def VW (m : Bool) (e : Expr) (f : M Bool) : Prop := PW X e (ttOf X.K X.mg W m f)
def VA (m : Bool) (es : List Expr) (f : M (List D)) : Prop := PA X es (taOf X.K X.mg W m f)
def VSt (asg : List Nat) (st : Stmt) (g : MS) : Prop := PS X st (tsOf X.K X.mg W asg g)
def VSs (asg : List Nat) (st : List Stmt) (g : MS) : Prop := PSs X st (tsOf X.K X.mg W asg g)
def VG (asg : List Nat) (tg : Expr) (g : D → Env → Option Env) : Prop := PG X tg (tgOf X.K asg g)
def VI (tg iter : Expr) (f : M (List D)) : Prop := PI X tg iter (tiOf X.K X.mg W f)
end

section
variable {X : Cx} {W : WX} {K : PySem.W.Frag} {mg : Str → Option Value} {H H1 : Hp} {T : List (D × V)} {ρ ρ' : Env} {σ σ' σ'' : St} {m : Bool}
theorem PE.imp {e : Expr} {t t' : TE} (h : PE X e t) (i : ∀ σ H Q, t' σ H Q → t σ H Q) : PE X e t' := ⟨fun pins s σ H Q I q => h.run pins s σ H Q I (i σ H Q q)⟩
theorem PT.imp {e : Expr} {t t' : TT} (h : PT X e t) (i : ∀ σ H Q, t' σ H Q → t σ H Q) : PT X e t' := ⟨fun pins s σ H Q I q => h.run pins s σ H Q I (i σ H Q q)⟩
theorem PW.imp {e : Expr} {t t' : TT} (h : PW X e t) (i : ∀ σ H Q, t' σ H Q → t σ H Q) : PW X e t' := ⟨fun wh pins s σ H Q I q => h.run wh pins s σ H Q I (i σ H Q q)⟩
theorem PA.imp {e : List Expr} {t t' : TA} (h : PA X e t) (i : ∀ σ H Q, t' σ H Q → t σ H Q) : PA X e t' := ⟨fun pos pins s σ H Q I q => h.run pos pins s σ H Q I (i σ H Q q)⟩
theorem PS.imp {e : Stmt} {t t' : TS} (h : PS X e t) (i : ∀ σ H Q, t' Q σ H → t Q σ H) : PS X e t' := ⟨fun pins s σ H Q I q => h.run pins s σ H Q I (i σ H Q q)⟩
theorem PSs.imp {e : List Stmt} {t t' : TS} (h : PSs X e t) (i : ∀ σ H Q, t' Q σ H → t Q σ H) : PSs X e t' := ⟨fun pins s σ H Q I q => h.run pins s σ H Q I (i σ H Q q)⟩
theorem PG.imp {e : Expr} {t t' : TG} (h : PG X e t) (i : ∀ v σ H Q, t' v σ H Q → t v σ H Q) : PG X e t' := ⟨fun pins s σ H v u Q I r q => h.run pins s σ H v u Q I r (i v σ H Q q)⟩
theorem PI.imp {tg e : Expr} {t t' : TI} (h : PI X tg e t) (i : ∀ σ H Q, t' σ H Q → t σ H Q) : PI X tg e t' := ⟨fun pins s σ H R I q => h.run pins s σ H R I (i σ H R q)⟩
theorem PE.orr {e : Expr} {t t' : TE} (h : PE X e t) (h' : PE X e t') : PE X e (fun σ H Q => t σ H Q ∨ t' σ H Q) := ⟨fun pins s σ H Q I q => q.elim (h.run pins s σ H Q I) (h'.run pins s σ H Q I)⟩
theorem PI.orr {tg e : Expr} {t t' : TI} (h : PI X tg e t) (h' : PI X tg e t') : PI X tg e (fun σ H Q => t σ H Q ∨ t' σ H Q) := ⟨fun pins s σ H Q I q => q.elim (h.run pins s σ H Q I) (h'.run pins s σ H Q I)⟩
theorem PG.orr {e : Expr} {t t' : TG} (h : PG X e t) (h' : PG X e t') : PG X e (fun v σ H Q => t v σ H Q ∨ t' v σ H Q) := ⟨fun pins s σ H v u Q I r q => q.elim (h.run pins s σ H v u Q I r) (h'.run pins s σ H v u Q I r)⟩

theorem exE.push {p : D × V} {x : Xc} (h : exE K mg W T σ x ρ) : exE K mg W (p :: T) σ x ρ := fun cls dd H' xr r => h cls dd H' xr r.drop
theorem exE.pushL {U : List (D × V)} {x : Xc} (h : exE K mg W T σ x ρ) : exE K mg W (U ++ T) σ x ρ := fun cls dd H' xr r => h cls dd H' xr r.dropL
/-- one part, then the rest -/
theorem run1 {β : Type} {f : M D} {k : D → M β} {okP : β → Env → Prop} {r : Rv β} {Q : VK} (rep : Rep K H T ρ σ) (hf : bindM f k ρ = some r) (he : endR K mg W T σ okP r)
    (cont : ∀ d ρ1 v H1, k d ρ1 = some r → (m = false → Same H H1) → Rep K H1 ((d, v) :: T) ρ1 σ → Q v H1) : tOf K mg W m f σ H Q := by
  unfold bindM at hf
  cases q : f ρ with
  | none => rw [q] at hf; cases hf
  | some u =>
    rw [q] at hf
    refine ⟨T, ρ, u, rep, q, ?_⟩
    cases u with
    | ok a ρ1 => exact fun v H1 s1 r1 => cont a ρ1 v H1 hf s1 r1
    | ex x ρ1 =>
      have : r = .ex x ρ1 := (Option.some.inj hf).symm
      subst this
      exact he
theorem runT {β : Type} {f : M Bool} {k : Bool → M β} {okP : β → Env → Prop} {r : Rv β} {Q : Bool → Hp → Prop} (rep : Rep K H T ρ σ) (hf : bindM f k ρ = some r) (he : endR K mg W T σ okP r)
    (cont : ∀ d ρ1 H1, k d ρ1 = some r → (m = false → Same H H1) → Rep K H1 T ρ1 σ → Q d H1) : ttOf K mg W m f σ H Q := by
  unfold bindM at hf
  cases q : f ρ with
  | none => rw [q] at hf; cases hf
  | some u =>
    rw [q] at hf
    refine ⟨T, ρ, u, rep, q, ?_⟩
    cases u with
    | ok a ρ1 => exact fun H1 s1 r1 => cont a ρ1 H1 hf s1 r1
    | ex x ρ1 =>
      have : r = .ex x ρ1 := (Option.some.inj hf).symm
      subst this
      exact he
theorem runA {β : Type} {f : M (List D)} {k : List D → M β} {okP : β → Env → Prop} {r : Rv β} {Q : List V → Hp → Prop} (rep : Rep K H T ρ σ) (hf : bindM f k ρ = some r) (he : endR K mg W T σ okP r)
    (cont : ∀ d ρ1 v H1, k d ρ1 = some r → (m = false → Same H H1) → d.length = v.length → Rep K H1 (d.zip v ++ T) ρ1 σ → Q v H1) : taOf K mg W m f σ H Q := by
  unfold bindM at hf
  cases q : f ρ with
  | none => rw [q] at hf; cases hf
  | some u =>
    rw [q] at hf
    refine ⟨T, ρ, u, rep, q, ?_⟩
    cases u with
    | ok a ρ1 => exact fun v H1 s1 e1 r1 => cont a ρ1 v H1 hf s1 e1 r1
    | ex x ρ1 =>
      have : r = .ex x ρ1 := (Option.some.inj hf).symm
      subst this
      exact he
theorem endR.push {α : Type} {p : D × V} {okP okP' : α → Env → Prop} {r : Rv α} (h : endR K mg W T σ okP r) (hk : ∀ a ρ', okP a ρ' → okP' a ρ') : endR K mg W (p :: T) σ okP' r := by
  cases r with
  | ok a ρ1 => exact hk a ρ1 h
  | ex x ρ1 => exact exE.push h
theorem endR.pushL {α : Type} {U : List (D × V)} {okP okP' : α → Env → Prop} {r : Rv α} (h : endR K mg W T σ okP r) (hk : ∀ a ρ', okP a ρ' → okP' a ρ') : endR K mg W (U ++ T) σ okP' r := by
  cases r with
  | ok a ρ1 => exact hk a ρ1 h
  | ex x ρ1 => exact exE.pushL h
theorem sm_or {a b : Bool} {H H1 H2 : Hp} (h1 : a = false → Same H H1) (h2 : b = false → Same H1 H2) : (a || b) = false → Same H H2 := fun e => by
  rw [Bool.or_eq_false_iff] at e
  exact (h1 e.1).trans (h2 e.2)
theorem sm_r {a : Bool} {H H1 H2 : Hp} (h1 : a = false → Same H H1) (h2 : Same H1 H2) : a = false → Same H H2 := fun e => (h1 e).trans h2

/-! ### names and constants -/
def dV (i : Nat) : M D := fun ρ => match ρ[i]? with
  | some d => if fz d = true then some (.ok d ρ) else none
  | none => none
/-- the slot's value is frozen first -/
def dF (i : Nat) : M D := fun ρ => match ρ[i]? with
  | some d => if fz (freeze d) = true then some (.ok (freeze d) (ρ.set i (freeze d))) else none
  | none => none
/-- the slot's value is taken out of it -/
def dM (i : Nat) : M D := fun ρ => match ρ[i]? with
  | some .unk => none
  | some d => some (.ok d (ρ.set i .unk))
  | none => none
def dC (d : D) : M D := fun ρ => some (.ok d ρ)
theorem fz_unk {d : D} (h : fz d = true) : d ≠ .unk := fun e => by subst e; simp [fz] at h
theorem fz_frz_unk {d : D} (h : fz (freeze d) = true) : d ≠ .unk := fun e => by subst e; simp [fz, freeze] at h
theorem ve_var {e : Expr} {i : Nat} (h : PE X e (tVar i)) : VE X W false e (dV i) := by
  refine PE.imp h fun σ H Q ⟨T, ρ, r, rep, hf, he⟩ => ?_
  unfold dV at hf
  cases q : ρ[i]? with
  | none => rw [q] at hf; cases hf
  | some d =>
    rw [q] at hf
    by_cases z : fz d = true
    · simp only [z, if_true] at hf
      have : r = .ok d ρ := (Option.some.inj hf).symm
      subst this
      obtain ⟨v, hv⟩ := rep.slot q (fz_unk z)
      exact ⟨v, hv, he v H (fun _ => Same.refl _) (rep.read q z hv)⟩
    · simp only [if_neg z] at hf
      cases hf
theorem ve_frz {e : Expr} {i : Nat} (h : PE X e (tVar i)) : VE X W false e (dF i) := by
  refine PE.imp h fun σ H Q ⟨T, ρ, r, rep, hf, he⟩ => ?_
  unfold dF at hf
  cases q : ρ[i]? with
  | none => rw [q] at hf; cases hf
  | some d =>
    rw [q] at hf
    by_cases z : fz (freeze d) = true
    · simp only [z, if_true] at hf
      have : r = .ok (freeze d) (ρ.set i (freeze d)) := (Option.some.inj hf).symm
      subst this
      obtain ⟨v, hv⟩ := rep.slot q (fz_frz_unk z)
      have r2 := rep.frz q (fz_frz_unk z)
      have hi : i < ρ.length := (List.getElem?_eq_some_iff.mp q).1
      exact ⟨v, hv, he v H (fun _ => Same.refl _) (r2.read (List.getElem?_set_self hi) z hv)⟩
    · simp only [if_neg z] at hf
      cases hf
theorem ve_mov {e : Expr} {i : Nat} (h : PE X e (tVar i)) : VE X W false e (dM i) := by
  refine PE.imp h fun σ H Q ⟨T, ρ, r, rep, hf, he⟩ => ?_
  unfold dM at hf
  cases q : ρ[i]? with
  | none => rw [q] at hf; cases hf
  | some d =>
    have n : d ≠ .unk := fun e => by rw [q, e] at hf; cases hf
    have hf' : some (Rv.ok d (ρ.set i .unk)) = some r := by
      rw [q] at hf
      cases d <;> first | exact hf | exact absurd rfl n
    have : r = .ok d (ρ.set i .unk) := (Option.some.inj hf').symm
    subst this
    obtain ⟨v, hv⟩ := rep.slot q n
    exact ⟨v, hv, he v H (fun _ => Same.refl _) (rep.take q hv)⟩
theorem ve_con {e : Expr} {d : D} {v : V} (h : PE X e (tC v)) (hr : ∀ H L, RepT X.K H L → RepT X.K H ((d, v) :: L)) : VE X W false e (dC d) := by
  refine PE.imp h fun σ H Q ⟨T, ρ, r, rep, hf, he⟩ => ?_
  have : r = .ok d ρ := (Option.some.inj hf).symm
  subst this
  exact he v H (fun _ => Same.refl _) (rep.lift fun q => hr H _ q)
theorem ve_int {i : Int} {j : Nat} {pos : Pos} : VE X W false (.Constant (.int i) j pos) (dC (.int i)) := ve_con pe_int fun _ _ h => h.int
theorem ve_bl {i : Bool} {j : Nat} {pos : Pos} : VE X W false (.Constant (.bool i) j pos) (dC (.bl i)) := ve_con pe_bl fun _ _ h => h.bl
theorem ve_non {j : Nat} {pos : Pos} : VE X W false (.Constant .none j pos) (dC .non) := ve_con pe_non fun _ _ h => h.non
theorem ve_str {i : Str} {j : Nat} {pos : Pos} : VE X W false (.Constant (.str i) j pos) (dC (.str i)) := ve_con pe_str fun _ _ h => h.str

/-! ### operators by values -/
def d1 (g : D → Option D) (fa : M D) : M D := bindM fa fun x => optM (g x)
def d2 (g : D → D → Option D) (fa fb : M D) : M D := bindM fa fun x => bindM fb fun y => optM (g x y)
def Imp1 (K : PySem.W.Frag) (r : V → Hp → VK → Prop) (g : D → Option D) : Prop := ∀ H L x d v Q, g x = some d → RepT K H ((x, v) :: L) → (∀ u H', Same H H' → RepT K H' ((d, u) :: L) → Q u H') → r v H Q
def Imp2 (K : PySem.W.Frag) (r : R2) (g : D → D → Option D) : Prop := ∀ H L x y d v w Q, g x y = some d → RepT K H ((y, w) :: (x, v) :: L) → (∀ u H', Same H H' → RepT K H' ((d, u) :: L) → Q u H') → r v w H Q
def ImpA (K : PySem.W.Frag) (r : List V → Hp → VK → Prop) (g : List D → Option D) : Prop := ∀ H L ds vs d Q, g ds = some d → ds.length = vs.length → RepT K H (ds.zip vs ++ L) → (∀ u H', Same H H' → RepT K H' ((d, u) :: L) → Q u H') → r vs H Q
theorem tOp_of {r : R2} {g : D → D → Option D} {fa fb : M D} {ma mb : Bool} (hg : Imp2 K r g) {Q : VK} (h : tOf K mg W (ma || mb) (d2 g fa fb) σ H Q) : tOp r (tOf K mg W ma fa) (tOf K mg W mb fb) σ H Q := by
  obtain ⟨T, ρ, u, rep, hf, he⟩ := h
  refine run1 rep hf he fun x ρ1 v H1 h1 s1 r1 => ?_
  refine run1 r1 h1 (he.push (okP' := okE K (ma || mb) T σ H Q) fun _ _ q => q) fun y ρ2 w H2 h2 s2 r2 => ?_
  obtain ⟨d, e, rfl⟩ := optM_some h2
  exact hg H2 (T ++ SL ρ2 σ) x y d v w Q e r2.rep fun z H3 s3 r3 => he z H3 (sm_r (sm_or s1 s2) s3) ⟨r2.len, r2.nos, r3⟩
theorem ve_op {a b : Expr} {op : Operator} {r : R2} {g : D → D → Option D} {fa fb : M D} {ma mb : Bool} {pos : Pos} (ho : OpR X (binaryOp op) r) (hg : Imp2 X.K r g) (ha : VE X W ma a fa) (hb : VE X W mb b fb) : VE X W (ma || mb) (.BinOp a op b pos) (d2 g fa fb) :=
  PE.imp (pe_op ho ha hb) fun _ _ _ h => tOp_of hg h
theorem ve_cmp {a b : Expr} {op : CmpOp} {r : R2} {g : D → D → Option D} {fa fb : M D} {ma mb : Bool} {pos : Pos} (ho : OpR X (compareOp op) r) (hg : Imp2 X.K r g) (ha : VE X W ma a fa) (hb : VE X W mb b fb) (hm : behindInMarks op b = false) : VE X W (ma || mb) (.Compare a [op] [b] pos) (d2 g fa fb) :=
  PE.imp (pe_cmpR ho ha hb hm) fun _ _ _ h => tOp_of hg h
theorem ve_un {a : Expr} {op : UnaryOp} {r : V → Hp → VK → Prop} {g : D → Option D} {fa : M D} {ma : Bool} {pos : Pos} (ho : UnR X (unaryOp op) r) (hg : Imp1 X.K r g) (ha : VE X W ma a fa) : VE X W ma (.UnaryOp op a pos) (d1 g fa) := by
  refine PE.imp (pe_un ho ha) fun σ H Q ⟨T, ρ, u, rep, hf, he⟩ => ?_
  refine run1 rep hf he fun x ρ1 v H1 h1 s1 r1 => ?_
  obtain ⟨d, e, rfl⟩ := optM_some h1
  exact hg H1 (T ++ SL ρ1 σ) x d v Q e r1.rep fun z H3 s3 r3 => he z H3 (sm_r s1 s3) ⟨r1.len, r1.nos, r3⟩
/-- a, b are asked for their truth: a bool's -/
def dTB (f : M D) : M Bool := bindM f fun d => optM (match d with | .bl b => some b | _ => none)
theorem vt_val {e : Expr} {f : M D} (h : VE X W m e f) (he : ∀ whole, isTrue e X.env whole = (do let v ← whole; standAt e.pos; holding [v] (truthy v)) := by intro _; rfl) : VT X W m e (dTB f) := by
  refine PT.imp (pt_val h he) fun σ H Q ⟨T, ρ, u, rep, hf, he⟩ => ?_
  refine run1 rep hf he fun x ρ1 v H1 h1 s1 r1 => ?_
  obtain ⟨b, e, rfl⟩ := optM_some h1
  cases x with
  | bl c =>
    have e : c = b := Option.some.inj e
    subst e
    exact ⟨c, RepT.eq_bl r1.rep, he H1 s1 r1.drop⟩
  | _ => cases e
theorem vt_cmp {a b : Expr} {op : CmpOp} {r : R2} {g : D → D → Option D} {fa fb : M D} {ma mb : Bool} {pos : Pos} (ho : OpR X (compareOp op) r) (hg : Imp2 X.K r g) (ha : VE X W ma a fa) (hb : VE X W mb b fb) (hm : behindInMarks op b = false) : VT X W (ma || mb) (.Compare a [op] [b] pos) (dTB (d2 g fa fb)) := by
  refine PT.imp (pt_cmpR ho ha hb hm) fun σ H Q ⟨T, ρ, u, rep, hf, he⟩ => ?_
  refine tOp_of hg ?_
  refine run1 rep hf he fun x ρ1 v H1 h1 s1 r1 => ?_
  obtain ⟨b, e, rfl⟩ := optM_some h1
  cases x with
  | bl c =>
    have e : c = b := Option.some.inj e
    subst e
    exact ⟨c, RepT.eq_bl r1.rep, he H1 s1 r1.drop⟩
  | _ => cases e
/-! a < b < c -/
def dChain (g g' : D → D → Option D) (fa fb fc : M D) : M D := bindM fa fun x => bindM fb fun y => bindM (optM (match g x y with | some (.bl k) => some k | _ => none)) fun k => if k = true then bindM fc fun z => optM (g' y z) else retM (.bl false)
theorem bindM_opt {α β : Type} {o : Option α} {k : α → M β} {r : Rv β} (h : bindM (optM o) k ρ = some r) : ∃ a, o = some a ∧ k a ρ = some r := by
  cases o with
  | none => cases h
  | some a => exact ⟨a, rfl, h⟩
/-- scalar data: the same in every heap -/
def scD : D → Option V
  | .non => some .non
  | .bl b => some (.bl b)
  | .int i => some (.int i)
  | .str x => some (.str x)
  | .adr a => some (.ref a)
  | _ => none
theorem scD_eq {d : D} {v w : V} {L : List (D × V)} (h : scD d = some v) (r : RepT K H ((d, w) :: L)) : w = v := by
  cases d <;> simp only [scD, Option.some.injEq, reduceCtorEq] at h <;> subst h
  · exact r.eq_non
  · exact r.eq_bl
  · exact r.eq_int
  · exact r.eq_str
  · exact r.eq_adr
theorem scD_rep {d : D} {v : V} {L : List (D × V)} (h : scD d = some v) (r : RepT K H L) : RepT K H ((d, v) :: L) := by
  cases d <;> simp only [scD, Option.some.injEq, reduceCtorEq] at h <;> subst h
  · exact r.non
  · exact r.bl
  · exact r.int
  · exact r.str
  · exact r.adr
/-- comparisons of ints, as readings -/
def rCmp (p : Int → Int → Bool) : R2 := rI0 fun i j => .bl (p i j)
def gCmp (p : Int → Int → Bool) (x y : D) : Option D := match x, y with
  | .int i, .int j => some (.bl (p i j))
  | _, _ => none
theorem impCmp (p : Int → Int → Bool) : Imp2 K (rCmp p) (gCmp p) := by
  intro H L x y d v w Q e r h
  cases x <;> cases y <;> simp only [gCmp, Option.some.injEq, reduceCtorEq] at e
  subst e
  have e2 := r.eq_int
  have e1 := r.drop.eq_int
  subst e1; subst e2
  exact ⟨_, _, rfl, rfl, h _ H (Same.refl _) r.drop.drop.bl⟩
theorem tChain_of {p p' : Int → Int → Bool} {fa fb fc : M D} {ma mb mc : Bool} {Q : VK} (h : tOf K mg W (ma || mb || mc) (dChain (gCmp p) (gCmp p') fa fb fc) σ H Q) :
    tChain (rCmp p) (rCmp p') (tOf K mg W ma fa) (tOf K mg W mb fb) (tOf K mg W mc fc) σ H Q := by
  obtain ⟨T, ρ, u, rep, hf, he⟩ := h
  refine run1 rep hf he fun x ρ1 v H1 h1 s1 r1 => ?_
  refine run1 r1 h1 (he.push (okP' := okE K (ma || mb || mc) T σ H Q) fun _ _ q => q) fun y ρ2 w H2 h2 s2 r2 => ?_
  obtain ⟨k, e, h3⟩ := bindM_opt h2
  cases x <;> cases y <;> simp only [gCmp, reduceCtorEq] at e
  rename_i i j
  have e : p i j = k := Option.some.inj e
  have e2 := r2.rep.eq_int
  have e1 := r2.drop.rep.eq_int
  subst e1; subst e2
  refine ⟨i, j, rfl, rfl, p i j, rfl, ?_⟩
  rw [e]
  cases k with
  | true =>
    rw [if_pos rfl] at h3 ⊢
    refine run1 r2 h3 ((he.push (p := (.int i, .int i)) (okP' := okE K (ma || mb || mc) T σ H Q) fun _ _ q => q).push (p := (.int j, .int j)) fun _ _ q => q) fun z ρ3 w3 H3 h4 s3 r3 => ?_
    obtain ⟨d, e4, rfl⟩ := optM_some h4
    cases z <;> simp only [gCmp, Option.some.injEq, reduceCtorEq] at e4
    subst e4
    have e5 := r3.rep.eq_int
    subst e5
    exact ⟨_, _, rfl, rfl, he _ H3 (sm_or (sm_or s1 s2) s3) (r3.drop.drop.drop.lift fun q => q.bl)⟩
  | false =>
    have : u = .ok (.bl false) ρ2 := by
      rw [if_neg (by simp)] at h3
      exact (Option.some.inj h3).symm
    subst this
    rw [if_neg (by simp)]
    exact he _ H2 (fun e => by
      rw [Bool.or_eq_false_iff] at e
      exact sm_or s1 s2 e.1) (r2.drop.drop.lift fun q => q.bl)
theorem ve_chain {a b c : Expr} {op op' : CmpOp} {p p' : Int → Int → Bool} {fa fb fc : M D} {ma mb mc : Bool} {pos : Pos} (ho : OpR X (compareOp op) (rCmp p)) (ho' : OpR X (compareOp op') (rCmp p')) (ha : VE X W ma a fa) (hb : VE X W mb b fb) (hc : VE X W mc c fc)
    (hm : lastMarks [op, op'] [b, c] = false := by with_unfolding_all rfl) : VE X W (ma || mb || mc) (.Compare a [op, op'] [b, c] pos) (dChain (gCmp p) (gCmp p') fa fb fc) := PE.imp (pe_chain ho ho' ha hb hc hm) fun _ _ _ h => tChain_of h
theorem vt_chain {a b c : Expr} {op op' : CmpOp} {p p' : Int → Int → Bool} {fa fb fc : M D} {ma mb mc : Bool} {pos : Pos} (ho : OpR X (compareOp op) (rCmp p)) (ho' : OpR X (compareOp op') (rCmp p')) (ha : VE X W ma a fa) (hb : VE X W mb b fb) (hc : VE X W mc c fc)
    (hm : lastMarks [op, op'] [b, c] = false := by with_unfolding_all rfl) : VT X W (ma || mb || mc) (.Compare a [op, op'] [b, c] pos) (dTB (dChain (gCmp p) (gCmp p') fa fb fc)) := by
  refine PT.imp (pt_chain ho ho' ha hb hc hm) fun σ H Q ⟨T, ρ, u, rep, hf, he⟩ => ?_
  refine tChain_of ?_
  refine run1 rep hf he fun x ρ1 v H1 h1 s1 r1 => ?_
  obtain ⟨b, e, rfl⟩ := optM_some h1
  cases x with
  | bl c =>
    have e : c = b := Option.some.inj e
    subst e
    exact ⟨c, RepT.eq_bl r1.rep, he H1 s1 r1.drop⟩
  | _ => cases e
/-! and, or, not -/
def dAndT (f g : M Bool) : M Bool := bindM f fun b => if b = true then g else retM false
def dOrT (f g : M Bool) : M Bool := bindM f fun b => if b = true then retM true else g
def dNotT (f : M Bool) : M Bool := bindM f fun b => retM (!b)
theorem vw_one {a : Expr} {f : M Bool} {pos : Pos} (h : VT X W m a f) : VW X W m (.BoolOp .And [a] pos) f := pw_and1 h
theorem vw_or1 {a : Expr} {f : M Bool} {pos : Pos} (h : VT X W m a f) : VW X W m (.BoolOp .Or [a] pos) f := pw_or1 h
theorem vw_and {a b : Expr} {rest : List Expr} {f g : M Bool} {ma mb : Bool} {pos : Pos} (ha : VT X W ma a f) (hb : VW X W mb (.BoolOp .And (b :: rest) pos) g) : VW X W (ma || mb) (.BoolOp .And (a :: b :: rest) pos) (dAndT f g) := by
  refine PW.imp (pw_and ha hb) fun σ H Q ⟨T, ρ, u, rep, hf, he⟩ => ?_
  refine runT rep hf he fun c ρ1 H1 h1 s1 r1 => ?_
  cases c with
  | true =>
    rw [if_pos rfl] at h1 ⊢
    refine ⟨T, ρ1, u, r1, h1, ?_⟩
    cases u with
    | ok b ρ2 => exact fun H2 s2 r2 => he H2 (sm_or s1 s2) r2
    | ex x ρ2 => exact he
  | false =>
    rw [if_neg (by simp)] at h1 ⊢
    have : u = .ok false ρ1 := (Option.some.inj h1).symm
    subst this
    exact he H1 (fun e => s1 (Bool.or_eq_false_iff.mp e).1) r1
theorem vw_or {a b : Expr} {rest : List Expr} {f g : M Bool} {ma mb : Bool} {pos : Pos} (ha : VT X W ma a f) (hb : VW X W mb (.BoolOp .Or (b :: rest) pos) g) : VW X W (ma || mb) (.BoolOp .Or (a :: b :: rest) pos) (dOrT f g) := by
  refine PW.imp (pw_or ha hb) fun σ H Q ⟨T, ρ, u, rep, hf, he⟩ => ?_
  refine runT rep hf he fun c ρ1 H1 h1 s1 r1 => ?_
  cases c with
  | true =>
    rw [if_pos rfl] at h1 ⊢
    have : u = .ok true ρ1 := (Option.some.inj h1).symm
    subst this
    exact he H1 (fun e => s1 (Bool.or_eq_false_iff.mp e).1) r1
  | false =>
    rw [if_neg (by simp)] at h1 ⊢
    refine ⟨T, ρ1, u, r1, h1, ?_⟩
    cases u with
    | ok b ρ2 => exact fun H2 s2 r2 => he H2 (sm_or s1 s2) r2
    | ex x ρ2 => exact he
theorem vt_bool {e : Expr} {f : M Bool} (h : VW X W m e f) : VT X W m e f := PW.pt h
theorem vt_not {a : Expr} {f : M Bool} {pos : Pos} (h : VT X W m a f) : VT X W m (.UnaryOp .Not a pos) (dNotT f) := by
  refine PT.imp (pt_not h) fun σ H Q ⟨T, ρ, u, rep, hf, he⟩ => ?_
  refine runT rep hf he fun c ρ1 H1 h1 s1 r1 => ?_
  have : u = .ok (!c) ρ1 := (Option.some.inj h1).symm
  subst this
  exact he H1 s1 r1
/-! .. as values -/
def dAnd (f g : M D) : M D := bindM f fun d => bindM (optM (match d with | .bl b => some b | _ => none)) fun b => if b = true then g else retM (.bl false)
def dOr (f g : M D) : M D := bindM f fun d => bindM (optM (match d with | .bl b => some b | _ => none)) fun b => if b = true then retM (.bl true) else g
def dNot (f : M D) : M D := d1 (fun d => match d with | .bl b => some (.bl (!b)) | _ => none) f
theorem ve_one {a : Expr} {f : M D} {op : BoolOp} {pos : Pos} (h : VE X W m a f) : VE X W m (.BoolOp op [a] pos) f := pe_one h
theorem ve_and {a b : Expr} {rest : List Expr} {f g : M D} {ma mb : Bool} {pos : Pos} (ha : VE X W ma a f) (hb : VE X W mb (.BoolOp .And (b :: rest) pos) g) : VE X W (ma || mb) (.BoolOp .And (a :: b :: rest) pos) (dAnd f g) := by
  refine PE.imp (pe_and ha hb) fun σ H Q ⟨T, ρ, u, rep, hf, he⟩ => ?_
  refine run1 rep hf he fun x ρ1 v H1 h1 s1 r1 => ?_
  obtain ⟨b, e, h2⟩ := bindM_opt h1
  cases x with
  | bl c =>
    have e : c = b := Option.some.inj e
    subst e
    refine ⟨c, RepT.eq_bl r1.rep, ?_⟩
    cases c with
    | true =>
      rw [if_pos rfl] at h2 ⊢
      refine ⟨T, ρ1, u, r1.drop, h2, ?_⟩
      cases u with
      | ok b ρ2 => exact fun v H2 s2 r2 => he v H2 (sm_or s1 s2) r2
      | ex x ρ2 => exact he
    | false =>
      rw [if_neg (by simp)] at h2 ⊢
      have : u = .ok (.bl false) ρ1 := (Option.some.inj h2).symm
      subst this
      exact he _ H1 (fun e => s1 (Bool.or_eq_false_iff.mp e).1) (r1.drop.lift fun q => q.bl)
  | _ => cases e
theorem ve_or {a b : Expr} {rest : List Expr} {f g : M D} {ma mb : Bool} {pos : Pos} (ha : VE X W ma a f) (hb : VE X W mb (.BoolOp .Or (b :: rest) pos) g) : VE X W (ma || mb) (.BoolOp .Or (a :: b :: rest) pos) (dOr f g) := by
  refine PE.imp (pe_or ha hb) fun σ H Q ⟨T, ρ, u, rep, hf, he⟩ => ?_
  refine run1 rep hf he fun x ρ1 v H1 h1 s1 r1 => ?_
  obtain ⟨b, e, h2⟩ := bindM_opt h1
  cases x with
  | bl c =>
    have e : c = b := Option.some.inj e
    subst e
    refine ⟨c, RepT.eq_bl r1.rep, ?_⟩
    cases c with
    | true =>
      rw [if_pos rfl] at h2 ⊢
      have : u = .ok (.bl true) ρ1 := (Option.some.inj h2).symm
      subst this
      exact he _ H1 (fun e => s1 (Bool.or_eq_false_iff.mp e).1) (r1.drop.lift fun q => q.bl)
    | false =>
      rw [if_neg (by simp)] at h2 ⊢
      refine ⟨T, ρ1, u, r1.drop, h2, ?_⟩
      cases u with
      | ok b ρ2 => exact fun v H2 s2 r2 => he v H2 (sm_or s1 s2) r2
      | ex x ρ2 => exact he
  | _ => cases e
theorem ve_not {a : Expr} {f : M D} {pos : Pos} (h : VE X W m a f) : VE X W m (.UnaryOp .Not a pos) (dNot f) := by
  refine PE.imp (pe_not h) fun σ H Q ⟨T, ρ, u, rep, hf, he⟩ => ?_
  refine run1 rep hf he fun x ρ1 v H1 h1 s1 r1 => ?_
  obtain ⟨d, e, rfl⟩ := optM_some h1
  cases x with
  | bl c =>
    have e : D.bl (!c) = d := Option.some.inj e
    subst e
    exact ⟨c, RepT.eq_bl r1.rep, he _ H1 s1 (r1.drop.lift fun q => q.bl)⟩
  | _ => cases e
def dIf (f : M Bool) (g h : M D) : M D := bindM f fun b => if b = true then g else h
theorem ve_ifExp {c a b : Expr} {f : M Bool} {g h : M D} {mc ma mb : Bool} {pos : Pos} (hc : VT X W mc c f) (ha : VE X W ma a g) (hb : VE X W mb b h) : VE X W (mc || ma || mb) (.IfExp c a b pos) (dIf f g h) := by
  refine PE.imp (pe_ifExp hc ha hb) fun σ H Q ⟨T, ρ, u, rep, hf, he⟩ => ?_
  refine runT rep hf he fun c ρ1 H1 h1 s1 r1 => ?_
  cases c with
  | true =>
    rw [if_pos rfl] at h1 ⊢
    refine ⟨T, ρ1, u, r1, h1, ?_⟩
    cases u with
    | ok b ρ2 => exact fun v H2 s2 r2 => he v H2 (fun e => sm_or s1 s2 (Bool.or_eq_false_iff.mp e).1) r2
    | ex x ρ2 => exact he
  | false =>
    rw [if_neg (by simp)] at h1 ⊢
    refine ⟨T, ρ1, u, r1, h1, ?_⟩
    cases u with
    | ok b ρ2 => exact fun v H2 s2 r2 => he v H2 (fun e => by
        have e := Bool.or_eq_false_iff.mp e
        exact (s1 (Bool.or_eq_false_iff.mp e.1).1).trans (s2 e.2)) r2
    | ex x ρ2 => exact he

/-! ### arguments, displays, calls of built-ins -/
def dNil : M (List D) := retM []
def dCons (f : M D) (g : M (List D)) : M (List D) := bindM f fun d => bindM g fun ds => retM (d :: ds)
theorem va_nil : VA X W false [] dNil := PA.imp pa_nil fun σ H Q ⟨T, ρ, u, rep, hf, he⟩ => by
  have : u = .ok [] ρ := (Option.some.inj hf).symm
  subst this
  exact he [] H (fun _ => Same.refl _) rfl rep
theorem va_cons {e : Expr} {es : List Expr} {f : M D} {g : M (List D)} {ma mb : Bool} (ha : VE X W ma e f) (hb : VA X W mb es g) (hs : starEach (e :: es) X.env = (false, eval e X.env) :: starEach es X.env := by rfl) : VA X W (ma || mb) (e :: es) (dCons f g) := by
  refine PA.imp (pa_cons ha hb hs) fun σ H Q ⟨T, ρ, u, rep, hf, he⟩ => ?_
  refine run1 rep hf he fun x ρ1 v H1 h1 s1 r1 => ?_
  refine runA r1 h1 (he.push (okP' := okA X.K (ma || mb) T σ H Q) fun _ _ q => q) fun ds ρ2 vs H2 h2 s2 l2 r2 => ?_
  have : u = .ok (x :: ds) ρ2 := (Option.some.inj h2).symm
  subst this
  exact he (v :: vs) H2 (sm_or s1 s2) (by simp [l2]) (r2.perm List.perm_middle)
def dTup (f : M (List D)) : M D := bindM f fun ds => optM (if ds.length ≤ sizeLine then some (.tup ds) else none)
def dLst (f : M (List D)) : M D := bindM f fun ds => optM (if ds.length ≤ sizeLine then some (.lst true ds) else none)
theorem ve_tup {es : List Expr} {f : M (List D)} {x1 : Nat} {pos : Pos} (h : VA X W m es f) : VE X W m (.Tuple es x1 pos) (dTup f) := by
  refine PE.imp (pe_tup h) fun σ H Q ⟨T, ρ, u, rep, hf, he⟩ => ?_
  refine runA rep hf he fun ds ρ1 vs H1 h1 s1 l1 r1 => ?_
  obtain ⟨d, e, rfl⟩ := optM_some h1
  by_cases z : ds.length ≤ sizeLine
  · rw [if_pos z] at e
    cases e
    refine ⟨by rw [← l1]; exact z, fun p hp => he _ _ (sm_r s1 fun b o q => ?_) (r1.lift fun q => ?_)⟩
    · rw [upd_ne (ne_of_none q hp)]; exact q
    · rw [List.append_assoc] at q
      exact RepT.newT l1 hp q
  · rw [if_neg z] at e; cases e
theorem ve_lst {es : List Expr} {f : M (List D)} {pos : Pos} (h : VA X W m es f) : VE X W m (.List es pos) (dLst f) := by
  refine PE.imp (pe_lst h) fun σ H Q ⟨T, ρ, u, rep, hf, he⟩ => ?_
  refine runA rep hf he fun ds ρ1 vs H1 h1 s1 l1 r1 => ?_
  obtain ⟨d, e, rfl⟩ := optM_some h1
  by_cases z : ds.length ≤ sizeLine
  · rw [if_pos z] at e
    cases e
    refine ⟨by rw [← l1]; exact z, fun p hp => he _ _ (sm_r s1 fun b o q => ?_) (r1.lift fun q => ?_)⟩
    · rw [upd_ne (ne_of_none q hp)]; exact q
    · rw [List.append_assoc] at q
      exact RepT.newL l1 hp q
  · rw [if_neg z] at e; cases e
def dCall (g : List D → Option D) (f : M (List D)) : M D := bindM f fun ds => optM (g ds)
theorem tCB_of {r : List V → Hp → VK → Prop} {g : List D → Option D} {f : M (List D)} (hg : ImpA K r g) {Q : VK} (h : tOf K mg W m (dCall g f) σ H Q) : tCB r (taOf K mg W m f) σ H Q := by
  obtain ⟨T, ρ, u, rep, hf, he⟩ := h
  refine runA rep hf he fun ds ρ1 vs H1 h1 s1 l1 r1 => ?_
  obtain ⟨d, e, rfl⟩ := optM_some h1
  refine hg H1 (T ++ SL ρ1 σ) ds vs d Q e l1 (by rw [← List.append_assoc]; exact r1.rep) fun z H3 s3 r3 => he z H3 (sm_r s1 s3) ⟨r1.len, r1.nos, r3⟩
theorem ve_callB {id : String} {r : List V → Hp → VK → Prop} {g : List D → Option D} {f : M (List D)} {x : Str} {e : Expr} {es : List Expr} {p pos : Pos} (hc : CallR X (.builtin id) r) (hi : ImpA X.K r g) (hg : Gl X x) (hm : X.mg x = none) (hv : bootBuiltins x = some (.builtin id))
    (ha : VA X W m (e :: es) f) (hn : x ≠ "__name__" := by decide) (hdb : (x == ("__debug__" : Str)) = false := by decide)
    (he : starEach (e :: es) X.env = (false, eval e X.env) :: starEach es X.env := by rfl) (hpl : (backTo pos (starEach es X.env)).any (·.1) = false := by rfl) : VE X W m (.Call (.Name x p) (e :: es) [] pos) (dCall g f) :=
  PE.imp (pe_callB hc hg hm hv ha hn hdb he hpl) fun _ _ _ h => tCB_of hi h
theorem ve_callTy {id : String} {r : List V → Hp → VK → Prop} {g : List D → Option D} {f : M (List D)} {x : Str} {e : Expr} {es : List Expr} {p pos : Pos} (hc : CallR X (.type id) r) (hi : ImpA X.K r g) (hg : Gl X x) (hm : X.mg x = none) (hv : bootBuiltins x = some (.type id))
    (ha : VA X W m (e :: es) f) (hn : x ≠ "__name__" := by decide) (hdb : (x == ("__debug__" : Str)) = false := by decide)
    (he : starEach (e :: es) X.env = (false, eval e X.env) :: starEach es X.env := by rfl) (hpl : (backTo pos (starEach es X.env)).any (·.1) = false := by rfl) : VE X W m (.Call (.Name x p) (e :: es) [] pos) (dCall g f) :=
  PE.imp (pe_callTy hc hg hm hv ha hn hdb he hpl) fun _ _ _ h => tCB_of hi h
end
end VS

set_option Elab.async false
set_option linter.all false
set_option maxRecDepth 100000
set_option maxHeartbeats 4000000
set_option autoImplicit false
/-! VS3: statements, loops, comprehensions, defs and calls. -/
noncomputable section
namespace VS
open PySem PySem.Spec PyProof.Rows L2

def bindS {α : Type} (f : M α) (k : α → MS) : MS := fun ρ => match f ρ with
  | none => none
  | some (.ex x ρ') => some (.ex x, ρ')
  | some (.ok a ρ') => k a ρ'
def dSeq (g1 g2 : MS) : MS := fun ρ => match g1 ρ with
  | some (.nx, ρ') => g2 ρ'
  | r => r
def dSkip : MS := fun ρ => some (.nx, ρ)
def dBrk : MS := fun ρ => some (.bk, ρ)
def dCnt : MS := fun ρ => some (.ct, ρ)
def dSet (i : Nat) (f : M D) : MS := bindS f fun d ρ => some (.nx, ρ.set i d)
def dAsg (f : M D) (g : D → Env → Option Env) : MS := bindS f fun d ρ => match g d ρ with
  | none => none
  | some ρ' => some (.nx, ρ')
def dDrop (f : M D) : MS := bindS f fun _ ρ => some (.nx, ρ)
def dRet (f : M D) : MS := bindS f fun d ρ => some (.rt d, ρ)
def dRetN : MS := fun ρ => some (.rt .non, ρ)
def dIfS (t : M Bool) (a b : MS) : MS := bindS t fun c => if c = true then a else b
def dNever : MS := fun _ => none

section
variable {X : Cx} {W : WX} {K : PySem.W.Frag} {mg : Str → Option Value} {H H1 : Hp} {T : List (D × V)} {ρ ρ' : Env} {σ σ' σ'' : St} {m : Bool} {asg a1 a2 : List Nat} {fl : Fl}
theorem Kept.refl : Kept asg σ σ := ⟨rfl, fun _ _ => rfl⟩
theorem Kept.trans (h : Kept a1 σ σ') (h' : Kept a2 σ' σ'') : Kept (a1 ++ a2) σ σ'' := ⟨h'.1.trans h.1, fun i hi => (h'.2 i fun z => hi (List.mem_append_right _ z)).trans (h.2 i fun z => hi (List.mem_append_left _ z))⟩
theorem Kept.trans1 (h : Kept asg σ σ') (h' : Kept asg σ' σ'') : Kept asg σ σ'' := ⟨h'.1.trans h.1, fun i hi => (h'.2 i hi).trans (h.2 i hi)⟩
theorem Kept.mono (h : Kept a1 σ σ') (s : ∀ i ∈ a1, i ∈ a2) : Kept a2 σ σ' := ⟨h.1, fun i hi => h.2 i fun z => hi (s i z)⟩
theorem Kept.set {i : Nat} {v : V} : Kept [i] σ (σ.set i (some v)) := ⟨List.length_set, fun j hj => by
  rw [List.getElem?_set_ne fun z => hj (by simp [z])]⟩
/-- other ends that ask less -/
theorem endS.imp {E E' : Ends} {T' : List (D × V)} (h : endS K mg W a1 T σ E fl ρ) (hk : ∀ σ'', Kept a2 σ' σ'' → Kept a1 σ σ'')
    (hT : ∀ {H σ ρ}, Rep K H T' ρ σ → Rep K H T ρ σ) (hT1 : ∀ {H σ ρ p}, Rep K H (p :: T') ρ σ → Rep K H (p :: T) ρ σ)
    (hn : ∀ σ H, E.nx σ H → E'.nx σ H) (hr : ∀ v H, E.rt v H → E'.rt v H) (hb : ∀ σ H, E.bk σ H → E'.bk σ H) (hc : ∀ σ H, E.ct σ H → E'.ct σ H) : endS K mg W a2 T' σ' E' fl ρ := by
  cases fl with
  | nx => exact fun σ2 H2 k r => hn _ _ (h σ2 H2 (hk _ k) (hT r))
  | bk => exact fun σ2 H2 k r => hb _ _ (h σ2 H2 (hk _ k) (hT r))
  | ct => exact fun σ2 H2 k r => hc _ _ (h σ2 H2 (hk _ k) (hT r))
  | rt d => exact fun v σ2 H2 k r => hr _ _ (h v σ2 H2 (hk _ k) (hT1 r))
  | ex x => exact fun cls dd σ2 H2 k xr r => h cls dd σ2 H2 (hk _ k) xr (hT r)
theorem endS.shift {E : Ends} (h : endS K mg W a1 T σ E fl ρ) (hk : ∀ σ'', Kept a2 σ' σ'' → Kept a1 σ σ'') : endS K mg W a2 T σ' E fl ρ :=
  h.imp hk (fun r => r) (fun r => r) (fun _ _ q => q) (fun _ _ q => q) (fun _ _ q => q) (fun _ _ q => q)
/-- a part of a statement, then the rest -/
theorem runS {f : M D} {k : D → MS} {Q : VK} {E : Ends} (rep : Rep K H T ρ σ) (hf : bindS f k ρ = some (fl, ρ')) (he : endS K mg W asg T σ E fl ρ')
    (cont : ∀ d ρ1 v H1, k d ρ1 = some (fl, ρ') → Rep K H1 ((d, v) :: T) ρ1 σ → Q v H1) : tOf K mg W m f σ H Q := by
  unfold bindS at hf
  cases q : f ρ with
  | none => rw [q] at hf; cases hf
  | some u =>
    rw [q] at hf
    refine ⟨T, ρ, u, rep, q, ?_⟩
    cases u with
    | ok a ρ1 => exact fun v H1 s1 r1 => cont a ρ1 v H1 hf r1
    | ex x ρ1 =>
      have : (Fl.ex x, ρ1) = (fl, ρ') := Option.some.inj hf
      cases this
      exact fun cls dd H' xr r => he cls dd σ H' Kept.refl xr r
theorem runST {f : M Bool} {k : Bool → MS} {Q : Bool → Hp → Prop} {E : Ends} (rep : Rep K H T ρ σ) (hf : bindS f k ρ = some (fl, ρ')) (he : endS K mg W asg T σ E fl ρ')
    (cont : ∀ d ρ1 H1, k d ρ1 = some (fl, ρ') → Rep K H1 T ρ1 σ → Q d H1) : ttOf K mg W m f σ H Q := by
  unfold bindS at hf
  cases q : f ρ with
  | none => rw [q] at hf; cases hf
  | some u =>
    rw [q] at hf
    refine ⟨T, ρ, u, rep, q, ?_⟩
    cases u with
    | ok a ρ1 => exact fun H1 s1 r1 => cont a ρ1 H1 hf r1
    | ex x ρ1 =>
      have : (Fl.ex x, ρ1) = (fl, ρ') := Option.some.inj hf
      cases this
      exact fun cls dd H' xr r => he cls dd σ H' Kept.refl xr r
theorem vss_nil : VSs X W [] [] dSkip := PSs.imp pss_nil fun σ H E ⟨T, ρ, fl, ρ', rep, hf, he⟩ => by
  have : (Fl.nx, ρ) = (fl, ρ') := Option.some.inj hf
  cases this
  exact he σ H Kept.refl rep
theorem vss_cons {st : Stmt} {rest : List Stmt} {g1 g2 : MS} (h1 : VSt X W a1 st g1) (h2 : VSs X W a2 rest g2) : VSs X W (a1 ++ a2) (st :: rest) (dSeq g1 g2) := by
  refine PSs.imp (pss_cons h1 h2) fun σ H E ⟨T, ρ, fl, ρ', rep, hf, he⟩ => ?_
  unfold dSeq at hf
  cases q : g1 ρ with
  | none => rw [q] at hf; cases hf
  | some u =>
    obtain ⟨f1, ρ1⟩ := u
    rw [q] at hf
    have old : f1 ≠ .nx → (f1, ρ1) = (fl, ρ') := fun n => by
      cases f1 <;> first | exact absurd rfl n | exact Option.some.inj hf
    by_cases n : f1 = .nx
    · subst n
      refine ⟨T, ρ, .nx, ρ1, rep, q, fun σ1 H1 k1 r1 => ⟨T, ρ1, fl, ρ', r1, hf, he.shift fun σ2 k2 => k1.trans k2⟩⟩
    · have e := old n
      injection e with e1 e2
      subst e1
      subst e2
      refine ⟨T, ρ, f1, ρ1, rep, q, ?_⟩
      cases f1 with
      | nx => exact absurd rfl n
      | bk => exact fun σ2 H2 k r => he σ2 H2 (k.mono fun i => List.mem_append_left _) r
      | ct => exact fun σ2 H2 k r => he σ2 H2 (k.mono fun i => List.mem_append_left _) r
      | rt d => exact fun v σ2 H2 k r => he v σ2 H2 (k.mono fun i => List.mem_append_left _) r
      | ex x => exact fun c d σ2 H2 k xr r => he c d σ2 H2 (k.mono fun i => List.mem_append_left _) xr r
theorem vss_one {st : Stmt} {g : MS} (h : VSt X W asg st g) : VSs X W asg [st] g := pss_one h
theorem vs_pass {pos : Pos} : VSt X W [] (.Pass pos) dSkip := PS.imp ps_pass fun σ H E ⟨T, ρ, fl, ρ', rep, hf, he⟩ => by
  have : (Fl.nx, ρ) = (fl, ρ') := Option.some.inj hf
  cases this
  exact he σ H Kept.refl rep
theorem vs_break {pos : Pos} : VSt X W [] (.Break pos) dBrk := PS.imp ps_break fun σ H E ⟨T, ρ, fl, ρ', rep, hf, he⟩ => by
  have : (Fl.bk, ρ) = (fl, ρ') := Option.some.inj hf
  cases this
  exact he σ H Kept.refl rep
theorem vs_continue {pos : Pos} : VSt X W [] (.Continue pos) dCnt := PS.imp ps_continue fun σ H E ⟨T, ρ, fl, ρ', rep, hf, he⟩ => by
  have : (Fl.ct, ρ) = (fl, ρ') := Option.some.inj hf
  cases this
  exact he σ H Kept.refl rep
theorem vs_never {st : Stmt} : VSt X W [] st dNever := PS.imp ps_never fun σ H E ⟨T, ρ, fl, ρ', rep, hf, he⟩ => by cases hf
/-- name = value, however the store is read -/
theorem vs_setP {st : Stmt} {i : Nat} {f : M D} (h : PS X st (tAsg (tOf X.K X.mg W m f) (gName i))) : VSt X W [i] st (dSet i f) := by
  refine PS.imp h fun σ H E ⟨T, ρ, fl, ρ', rep, hf, he⟩ => ?_
  refine runS rep hf he fun d ρ1 v H1 h1 r1 => ?_
  have : (Fl.nx, ρ1.set i d) = (fl, ρ') := Option.some.inj h1
  cases this
  exact he _ H1 Kept.set r1.set
theorem vs_set {i : Nat} {x : Str} {e : Expr} {f : M D} {pos pos' : Pos} (hN : X.N.Nodup) (hi : X.N[i]? = some x) (hx : Loc X.env.scope x) (he : VE X W m e f) (hs : swapsWith e (some (.Name x pos')) pos.line X.env = pure false := by rfl)
    (hf : X.fn x = true ∨ X.env.scope.names.lookup x = some .local := by first | exact .inl rfl | exact .inr rfl | assumption) : VSt X W [i] (.Assign [.Name x pos'] e pos) (dSet i f) := vs_setP (ps_set hN hi hx he hs hf)
theorem vs_asg {tg e : Expr} {f : M D} {g : D → Env → Option Env} {pos : Pos} (he : VE X W m e f) (hg : VG X asg tg g) (hs : swapsWithSole [tg] e pos.line X.env = pure false := by rfl) (hw : swappedStores [tg] e X.env = pure none := by rfl)
    (h1 : (assignEach [tg] X.env).map (·.2) = [assign tg X.env] := by rfl) : VSt X W asg (.Assign [tg] e pos) (dAsg f g) := by
  refine PS.imp (ps_asg he hg hs hw h1) fun σ H E ⟨T, ρ, fl, ρ', rep, hf, he⟩ => ?_
  refine runS rep hf he fun d ρ1 v H1 h1 r1 => ?_
  cases q : g d ρ1 with
  | none => rw [q] at h1; cases h1
  | some ρ2 =>
    rw [q] at h1
    have : (Fl.nx, ρ2) = (fl, ρ') := Option.some.inj h1
    injection this with e1 e2
    subst e1
    subst e2
    exact ⟨T, ρ1, d, ρ2, r1, q, he⟩
theorem vs_expr {e : Expr} {f : M D} {pos : Pos} (h : VE X W m e f) (hs : swapsWith e none pos.line X.env = pure false := by rfl) : VSt X W [] (.Expr e pos) (dDrop f) := by
  refine PS.imp (ps_expr h hs) fun σ H E ⟨T, ρ, fl, ρ', rep, hf, he⟩ => ?_
  refine runS rep hf he fun d ρ1 v H1 h1 r1 => ?_
  have : (Fl.nx, ρ1) = (fl, ρ') := Option.some.inj h1
  cases this
  exact he σ H1 Kept.refl r1.drop
theorem vs_ret {e : Expr} {f : M D} {pos : Pos} (h : VE X W m e f) : VSt X W [] (.Return (some e) pos) (dRet f) := by
  refine PS.imp (ps_ret h) fun σ H E ⟨T, ρ, fl, ρ', rep, hf, he⟩ => ?_
  refine runS rep hf he fun d ρ1 v H1 h1 r1 => ?_
  have : (Fl.rt d, ρ1) = (fl, ρ') := Option.some.inj h1
  cases this
  exact he v σ H1 Kept.refl r1
theorem vs_retN {pos : Pos} : VSt X W [] (.Return none pos) dRetN := by
  refine PS.imp ps_retN fun σ H E ⟨T, ρ, fl, ρ', rep, hf, he⟩ => ?_
  have : (Fl.rt .non, ρ) = (fl, ρ') := Option.some.inj hf
  cases this
  exact he .non σ H Kept.refl (rep.lift fun q => q.non)
theorem vs_if {c : Expr} {a b : List Stmt} {t : M Bool} {g1 g2 : MS} {pos : Pos} (hc : VT X W m c t) (ha : VSs X W a1 a g1) (hb : VSs X W a2 b g2) : VSt X W (a1 ++ a2) (.If c a b pos) (dIfS t g1 g2) := by
  refine PS.imp (ps_if hc ha hb) fun σ H E ⟨T, ρ, fl, ρ', rep, hf, he⟩ => ?_
  refine runST rep hf he fun c ρ1 H1 h1 r1 => ?_
  cases c with
  | true =>
    rw [if_pos rfl] at h1 ⊢
    exact ⟨T, ρ1, fl, ρ', r1, h1, he.shift fun σ2 k => k.mono fun i => List.mem_append_left _⟩
  | false =>
    rw [if_neg (by simp)] at h1 ⊢
    exact ⟨T, ρ1, fl, ρ', r1, h1, he.shift fun σ2 k => k.mono fun i => List.mem_append_right _⟩

/-! ### targets -/
def gNm (i : Nat) : D → Env → Option Env := fun d ρ => some (ρ.set i d)
def gNms : List Nat → List D → Env → Option Env
  | [], [], ρ => some ρ
  | i :: is, d :: ds, ρ => gNms is ds (ρ.set i d)
  | _, _, _ => none
def gTp (is : List Nat) : D → Env → Option Env := fun d ρ => match d with
  | .tup ds => gNms is ds ρ
  | _ => none
theorem vg_name {i : Nat} {tg : Expr} (h : PG X tg (gName i)) : VG X [i] tg (gNm i) := by
  refine PG.imp h fun v σ H Q ⟨T, ρ, d, ρ', rep, hg, hq⟩ => ?_
  have : ρ.set i d = ρ' := Option.some.inj hg
  subst this
  exact hq _ H Kept.set rep.set
/-- names one after another -/
def VGs (X : Cx) (is : List Nat) (tgs : List Expr) : Prop := PGs X tgs (fun vs σ H Q => ∃ T ρ ds ρ', ds.length = vs.length ∧ Rep X.K H (ds.zip vs ++ T) ρ σ ∧ gNms is ds ρ = some ρ' ∧ ∀ σ', Kept is σ σ' → Rep X.K H T ρ' σ' → Q σ' H)
theorem PGs.imp {tgs : List Expr} {t t' : TGs} (h : PGs X tgs t) (i : ∀ vs σ H Q, t' vs σ H Q → t vs σ H Q) : PGs X tgs t' := ⟨fun pins s σ H vs us Q I r q => h.run pins s σ H vs us Q I r (i vs σ H Q q)⟩
theorem vgs_nil : VGs X [] [] := by
  refine PGs.imp pgs_nil fun vs σ H Q ⟨T, ρ, ds, ρ', l, rep, hg, hq⟩ => ?_
  cases ds with
  | nil =>
    cases vs with
    | nil =>
      have : ρ = ρ' := Option.some.inj hg
      subst this
      exact ⟨rfl, hq σ Kept.refl rep⟩
    | cons _ _ => cases l
  | cons _ _ => cases hg
theorem vgs_cons {i : Nat} {is : List Nat} {e : Expr} {es : List Expr} (h1 : PG X e (gName i)) (h2 : VGs X is es) (hs : (assignEach (e :: es) X.env).map (·.2) = assign e X.env :: (assignEach es X.env).map (·.2) := by rfl) : VGs X (i :: is) (e :: es) := by
  refine PGs.imp (pgs_cons h1 h2 hs) fun vs σ H Q ⟨T, ρ, ds, ρ', l, rep, hg, hq⟩ => ?_
  cases ds with
  | nil => cases hg
  | cons d ds =>
    cases vs with
    | nil => cases l
    | cons v vs =>
      have rep1 : Rep X.K H ((d, v) :: (ds.zip vs ++ T)) ρ σ := rep
      refine ⟨v, vs, rfl, T, ρ.set i d, ds, ρ', Nat.succ.inj l, rep1.set, hg, fun σ' k r => hq σ' ?_ r⟩
      exact (Kept.set (v := v) (i := i) (σ := σ)).trans k
theorem vg_tup {is : List Nat} {tgs : List Expr} {k n : Nat} {pos : Pos} (hc : X.calm = true) (h : VGs X is tgs) (hn : (assignEach tgs X.env).length = n := by rfl) (hst : (assignEach tgs X.env).findIdx? (·.1) = none := by rfl) (hl : is.length = n := by rfl) : VG X is (.Tuple tgs k pos) (gTp is) := by
  refine PG.imp (pg_tup hc h hn hst) fun v σ H Q ⟨T, ρ, d, ρ', rep, hg, hq⟩ => ?_
  cases d with
  | tup ds =>
    obtain ⟨a, vs, rfl, sq, l, r⟩ := RepT.openT rep.rep
    have len : ∀ (is : List Nat) (ds : List D) (ρ ρ' : Env), gNms is ds ρ = some ρ' → is.length = ds.length := by
      intro is
      induction is with
      | nil => intro ds ρ ρ' h; cases ds with | nil => rfl | cons _ _ => cases h
      | cons i is ih => intro ds ρ ρ' h; cases ds with | nil => cases h | cons d ds => simp [ih ds _ _ h]
    refine ⟨a, vs, rfl, .inl (.inl sq), ?_, T, ρ, ds, ρ', l, ⟨rep.len, rep.nos, by rw [List.append_assoc]; exact r⟩, hg, fun σ' k r => hq σ' H k r⟩
    rw [← l, ← len is ds _ _ hg, hl]
  | _ => cases hg

/-! ### for -/
def forD (bt : D → Env → Option Env) (body : MS) : List D → MS
  | [], ρ => some (.nx, ρ)
  | d :: ds, ρ => match bt d ρ with
    | none => none
    | some ρ1 => match body ρ1 with
      | none => none
      | some (.nx, ρ2) => forD bt body ds ρ2
      | some (.ct, ρ2) => forD bt body ds ρ2
      | some (.bk, ρ2) => some (.nx, ρ2)
      | some (.rt d, ρ2) => some (.rt d, ρ2)
      | some (.ex x, ρ2) => some (.ex x, ρ2)
def dFor (src : M (List D)) (bt : D → Env → Option Env) (body : MS) : MS := bindS src fun ds => forD bt body ds
theorem vs_for {tg iter : Expr} {body : List Stmt} {src : M (List D)} {bt : D → Env → Option Env} {g : MS} {pos : Pos} (hp : PassesOwn (model X.prog X.w) X.A X.env X.xe) (hc : X.calm = true) (hi : VI X W tg iter src) (hg : VG X a1 tg bt) (hb : VSs X W a2 body g)
    (hs : ∀ x, foldedSetIterable iter X.env x = pure x := by intro _; rfl) : VSt X W (a1 ++ a2) (.For tg iter body [] pos) (dFor src bt g) := by
  refine PS.imp (ps_for hp hc hi hg hb hs) fun σ H E ⟨T, ρ, fl, ρ', rep, hf, he⟩ => ?_
  unfold dFor bindS at hf
  cases q : src ρ with
  | none => rw [q] at hf; cases hf
  | some u =>
    rw [q] at hf
    refine ⟨T, ρ, u, rep, q, ?_⟩
    cases u with
    | ex x ρ1 =>
      have : (Fl.ex x, ρ1) = (fl, ρ') := Option.some.inj hf
      cases this
      exact fun cls dd H' xr r => he cls dd σ H' Kept.refl xr r
    | ok ds ρ0 =>
      intro J c H0 it rep0
      have hf : forD bt g ds ρ0 = some (fl, ρ') := hf
      refine ⟨fun i n σi Hi => n = ds.length - i ∧ i ≤ ds.length ∧ Kept (a1 ++ a2) σ σi ∧ ∃ ρi, Rep X.K Hi (c ++ T) ρi σi ∧ forD bt g (ds.drop i) ρi = some (fl, ρ'), ⟨ds.length, by simp, Nat.zero_le _, Kept.refl, ρ0, rep0, hf⟩, ?_⟩
      rintro i n σi Hi ⟨rfl, hi, ki, ρi, ri, fi⟩
      have ri' : RepT X.K Hi (c ++ (T ++ SL ρi σi)) := by rw [← List.append_assoc]; exact ri.rep
      by_cases hlt : i < ds.length
      · rw [List.drop_eq_getElem_cons hlt] at fi
        unfold forD at fi
        cases qb : bt ds[i] ρi with
        | none => rw [qb] at fi; cases fi
        | some ρ1 =>
          simp only [qb] at fi
          refine .inr ⟨it.go i Hi _ hlt ri', fun σ' H' => Kept (a1 ++ a2) σ σ' ∧ ∃ ρn, Rep X.K H' (c ++ T) ρn σ' ∧ forD bt g (ds.drop (i + 1)) ρn = some (fl, ρ'), fun σ' H' ⟨k, ρn, rn, fn⟩ => ⟨ds.length - (i + 1), by omega, rfl, hlt, k, ρn, rn, fn⟩, fun x H' y => ?_⟩
          have ry := it.yld i Hi _ x H' ds[i] ri' (List.getElem?_eq_getElem hlt) y
          have ry' : Rep X.K H' ((ds[i], x) :: (c ++ T)) ρi σi := ⟨ri.len, ri.nos, by
            have e : ((ds[i], x) :: (c ++ T)) ++ SL ρi σi = (ds[i], x) :: (c ++ (T ++ SL ρi σi)) := by simp
            rw [e]; exact ry⟩
          refine ⟨c ++ T, ρi, ds[i], ρ1, ry', qb, fun σ1 H1 k1 r1 => ?_⟩
          cases qg : g ρ1 with
          | none => rw [qg] at fi; cases fi
          | some u =>
            obtain ⟨f1, ρ2⟩ := u
            simp only [qg] at fi
            refine ⟨c ++ T, ρ1, f1, ρ2, r1, qg, ?_⟩
            have kk : ∀ σ2, Kept a2 σ1 σ2 → Kept (a1 ++ a2) σ σ2 := fun σ2 k2 => ki.trans1 (k1.trans k2)
            cases f1 with
            | nx => exact fun σ2 H2 k2 r2 => ⟨kk _ k2, ρ2, r2, fi⟩
            | ct => exact fun σ2 H2 k2 r2 => ⟨kk _ k2, ρ2, r2, fi⟩
            | bk =>
              have : (Fl.nx, ρ2) = (fl, ρ') := Option.some.inj fi
              cases this
              exact fun σ2 H2 k2 r2 => he σ2 H2 (kk _ k2) r2.dropL
            | rt d =>
              have : (Fl.rt d, ρ2) = (fl, ρ') := Option.some.inj fi
              cases this
              exact fun v σ2 H2 k2 r2 => he v σ2 H2 (kk _ k2) (Rep.dropL (U := c) (r2.perm List.perm_middle.symm))
            | ex x =>
              have : (Fl.ex x, ρ2) = (fl, ρ') := Option.some.inj fi
              cases this
              exact fun cls dd σ2 H2 k2 xr r2 => he cls dd σ2 H2 (kk _ k2) xr r2.dropL
      · have e : i = ds.length := by omega
        subst e
        rw [List.drop_length] at fi
        have : (Fl.nx, ρi) = (fl, ρ') := Option.some.inj fi
        cases this
        exact .inl ⟨it.stop Hi _ ri', he σi Hi ki ri.dropL⟩

/-! ### while, with a number of turns that is not come to -/
def whileD (t : M Bool) (body : MS) : Nat → MS
  | 0, _ => none
  | n + 1, ρ => match t ρ with
    | none => none
    | some (.ex x ρ1) => some (.ex x, ρ1)
    | some (.ok b ρ1) => if b = true then (match body ρ1 with
      | none => none
      | some (.nx, ρ2) => whileD t body n ρ2
      | some (.ct, ρ2) => whileD t body n ρ2
      | some (.bk, ρ2) => some (.nx, ρ2)
      | some (.rt d, ρ2) => some (.rt d, ρ2)
      | some (.ex x, ρ2) => some (.ex x, ρ2)) else some (.nx, ρ1)
theorem vs_while (N : Nat) {c : Expr} {body : List Stmt} {t : M Bool} {g : MS} {pos : Pos} (hp : PassesOwn (model X.prog X.w) X.A X.env X.xe) (hc : VT X W m c t) (hb : VSs X W asg body g) : VSt X W asg (.While c body [] pos) (whileD t g N) := by
  refine PS.imp (ps_while hp hc hb) fun σ H E ⟨T, ρ, fl, ρ', rep, hf, he⟩ => ?_
  refine ⟨fun n σi Hi => Kept asg σ σi ∧ ∃ ρi, Rep X.K Hi T ρi σi ∧ whileD t g n ρi = some (fl, ρ'), ⟨N, Kept.refl, ρ, rep, hf⟩, ?_⟩
  rintro n σi Hi ⟨ki, ρi, ri, fi⟩
  cases n with
  | zero => cases fi
  | succ n =>
    unfold whileD at fi
    cases qt : t ρi with
    | none => rw [qt] at fi; cases fi
    | some u =>
      rw [qt] at fi
      refine ⟨T, ρi, u, ri, qt, ?_⟩
      cases u with
      | ex x ρ1 =>
        have : (Fl.ex x, ρ1) = (fl, ρ') := Option.some.inj fi
        cases this
        exact fun cls dd H' xr r => he cls dd σi H' ki xr r
      | ok b ρ1 =>
        intro H1 _ r1
        cases b with
        | false =>
          have fi : some (Fl.nx, ρ1) = some (fl, ρ') := fi
          have : (Fl.nx, ρ1) = (fl, ρ') := Option.some.inj fi
          cases this
          rw [if_neg (by simp)]
          exact he σi H1 ki r1
        | true =>
          rw [if_pos rfl]
          simp only [if_true] at fi
          refine ⟨fun σ' H' => Kept asg σ σ' ∧ ∃ ρn, Rep X.K H' T ρn σ' ∧ whileD t g n ρn = some (fl, ρ'), fun σ' H' ⟨k, ρn, rn, fn⟩ => ⟨n, Nat.lt_succ_self _, k, ρn, rn, fn⟩, ?_⟩
          cases qg : g ρ1 with
          | none => rw [qg] at fi; cases fi
          | some u =>
            obtain ⟨f1, ρ2⟩ := u
            simp only [qg] at fi
            refine ⟨T, ρ1, f1, ρ2, r1, qg, ?_⟩
            cases f1 with
            | nx => exact fun σ2 H2 k2 r2 => ⟨ki.trans1 k2, ρ2, r2, fi⟩
            | ct => exact fun σ2 H2 k2 r2 => ⟨ki.trans1 k2, ρ2, r2, fi⟩
            | bk =>
              have : (Fl.nx, ρ2) = (fl, ρ') := Option.some.inj fi
              cases this
              exact fun σ2 H2 k2 r2 => he σ2 H2 (ki.trans1 k2) r2
            | rt d =>
              have : (Fl.rt d, ρ2) = (fl, ρ') := Option.some.inj fi
              cases this
              exact fun v σ2 H2 k2 r2 => he v σ2 H2 (ki.trans1 k2) r2
            | ex x =>
              have : (Fl.ex x, ρ2) = (fl, ρ') := Option.some.inj fi
              cases this
              exact fun cls dd σ2 H2 k2 xr r2 => he cls dd σ2 H2 (ki.trans1 k2) xr r2

/-! ### what is walked -/
theorem zip_take {ds : List D} {vs : List V} {i : Nat} {d : D} {v : V} (hd : ds[i]? = some d) (hv : vs[i]? = some v) : (ds.zip vs)[i]? = some (d, v) := by
  rw [List.getElem?_zip_eq_some]; exact ⟨hd, hv⟩
theorem RepT.pick {L U : List (D × V)} {i : Nat} {p : D × V} (h : RepT K H (U ++ L)) (e : U[i]? = some p) : RepT K H (p :: L) := by
  have q := h.perm (((perm_erase e).append_right L))
  have q : RepT K H (p :: (U.eraseIdx i ++ L)) := q
  exact RepT.dropL (U := U.eraseIdx i) (q.perm List.perm_middle.symm)
theorem itL {a : Addr} {ds : List D} (z : fzL ds = true) : ItOk K (Itl K a) [(.lst false ds, .ref a)] ds := by
  have zz : fz (.lst false ds) = true := by rw [fz]; simp [z]
  refine ⟨fun i H L hi h => ?_, fun H L h => ?_, fun i H L x H' d h e y => ?_⟩
  · obtain ⟨b, vs, e, sq, l, _⟩ := RepT.openF h
    cases e
    exact ⟨vs, vs[i]'(by omega), .inl (.inl sq), List.getElem?_eq_getElem _⟩
  · obtain ⟨b, vs, e, sq, l, _⟩ := RepT.openF h
    cases e
    exact ⟨vs, .inl (.inl sq), by omega⟩
  · obtain ⟨rfl, hx⟩ := y
    have h : RepT K H' ((.lst false ds, .ref a) :: L) := h
    have h2 := RepT.dup zz h
    obtain ⟨b, vs, e1, sq, l, r⟩ := RepT.openF h2
    cases e1
    exact r.pick (zip_take e (hx vs (.inl (.inl sq))))
theorem itS {a : Addr} {ds : List D} (z : fzL ds = true) : ItOk K (Itl K a) [(.scr ds, .ref a)] ds := by
  have zz : fz (.scr ds) = true := by rw [fz]; exact z
  refine ⟨fun i H L hi h => ?_, fun H L h => ?_, fun i H L x H' d h e y => ?_⟩
  · obtain ⟨b, vs, e, sq, l, _⟩ := RepT.openS h
    cases e
    exact ⟨vs, vs[i]'(by omega), sq, List.getElem?_eq_getElem _⟩
  · obtain ⟨b, vs, e, sq, l, _⟩ := RepT.openS h
    cases e
    exact ⟨vs, sq, by omega⟩
  · obtain ⟨rfl, hx⟩ := y
    have h : RepT K H' ((.scr ds, .ref a) :: L) := h
    have h2 := RepT.dup zz h
    obtain ⟨b, vs, e1, sq, l, r⟩ := RepT.openS h2
    cases e1
    exact r.pick (zip_take e (hx vs sq))
theorem itT {a : Addr} {ds : List D} (z : fzL ds = true) : ItOk K (Itt K a) [(.tup ds, .ref a)] ds := by
  have zz : fz (.tup ds) = true := by rw [fz]; exact z
  refine ⟨fun i H L hi h => ?_, fun H L h => ?_, fun i H L x H' d h e y => ?_⟩
  · obtain ⟨b, vs, e, sq, l, _⟩ := RepT.openT h
    cases e
    exact ⟨vs, vs[i]'(by omega), .inl (.inl sq), List.getElem?_eq_getElem _⟩
  · obtain ⟨b, vs, e, sq, l, _⟩ := RepT.openT h
    cases e
    exact ⟨vs, .inl (.inl sq), by omega⟩
  · obtain ⟨rfl, hx⟩ := y
    have h : RepT K H' ((.tup ds, .ref a) :: L) := h
    have h2 := RepT.dup zz h
    obtain ⟨b, vs, e1, sq, l, r⟩ := RepT.openT h2
    cases e1
    exact r.pick (zip_take e (hx vs (.inl (.inl sq))))
theorem itKT {a : Addr} {ds : List D} (z : fzL ds = true) : ItOk K (Itt K a) [(.ktp ds, .ref a)] ds := by
  have zz : fz (.ktp ds) = true := by rw [fz]; exact z
  refine ⟨fun i H L hi h => ?_, fun H L h => ?_, fun i H L x H' d h e y => ?_⟩
  · obtain ⟨b, vs, e, sq, l, _⟩ := RepT.openK h
    cases e
    exact ⟨vs, vs[i]'(by omega), sq, List.getElem?_eq_getElem _⟩
  · obtain ⟨b, vs, e, sq, l, _⟩ := RepT.openK h
    cases e
    exact ⟨vs, sq, by omega⟩
  · obtain ⟨rfl, hx⟩ := y
    have h : RepT K H' ((.ktp ds, .ref a) :: L) := h
    have h2 := RepT.dup zz h
    obtain ⟨b, vs, e1, sq, l, r⟩ := RepT.openK h2
    cases e1
    exact r.pick (zip_take e (hx vs sq))
def itemsOf (d : D) : Option (List D) := match d with
  | .lst _ ds => if fzL (freezeL ds) = true then some (freezeL ds) else none
  | .scr ds => if fzL (freezeL ds) = true then some (freezeL ds) else none
  | .tup ds => if fzL (freezeL ds) = true then some (freezeL ds) else none
  | .ktp ds => if fzL (freezeL ds) = true then some (freezeL ds) else none
  | _ => none
def dItems (f : M D) : M (List D) := bindM f fun d => optM (itemsOf d)
theorem vi_seq {tg l : Expr} {f : M D} (h : VE X W m l f) : VI X W tg l (dItems f) := by
  refine PI.imp (PI.orr (pi_list h) (pi_tup h)) fun σ H R ⟨T, ρ, u, rep, hf, he⟩ => ?_
  unfold dItems bindM at hf
  cases q : f ρ with
  | none => rw [q] at hf; cases hf
  | some w =>
    rw [q] at hf
    cases w with
    | ex x ρ1 =>
      have : u = .ex x ρ1 := (Option.some.inj hf).symm
      subst this
      exact .inl ⟨T, ρ, _, rep, q, he⟩
    | ok d ρ1 =>
      obtain ⟨ds, e, rfl⟩ := optM_some hf
      cases d with
      | lst o xs =>
        simp only [itemsOf] at e
        by_cases z : fzL (freezeL xs) = true
        · rw [if_pos z] at e
          cases e
          refine .inl ⟨T, ρ, _, rep, q, fun v H1 _ r1 => ?_⟩
          have r2 : RepT X.K H1 ((freeze (.lst o xs), v) :: (T ++ SL ρ1 σ)) := RepT.freeze r1.rep
          rw [freeze] at r2
          obtain ⟨a, vs, rfl, sq, l, _⟩ := RepT.openF r2
          exact ⟨a, rfl, ⟨vs, .inl (.inl sq)⟩, he _ _ H1 (itL z) ⟨r1.len, r1.nos, r2⟩⟩
        · rw [if_neg z] at e; cases e
      | scr xs =>
        simp only [itemsOf] at e
        by_cases z : fzL (freezeL xs) = true
        · rw [if_pos z] at e
          cases e
          refine .inl ⟨T, ρ, _, rep, q, fun v H1 _ r1 => ?_⟩
          have r2 : RepT X.K H1 ((freeze (.scr xs), v) :: (T ++ SL ρ1 σ)) := RepT.freeze r1.rep
          rw [freeze] at r2
          obtain ⟨a, vs, rfl, sq, l, _⟩ := RepT.openS r2
          exact ⟨a, rfl, ⟨vs, sq⟩, he _ _ H1 (itS z) ⟨r1.len, r1.nos, r2⟩⟩
        · rw [if_neg z] at e; cases e
      | tup xs =>
        simp only [itemsOf] at e
        by_cases z : fzL (freezeL xs) = true
        · rw [if_pos z] at e
          cases e
          refine .inr ⟨T, ρ, _, rep, q, fun v H1 _ r1 => ?_⟩
          have r2 : RepT X.K H1 ((freeze (.tup xs), v) :: (T ++ SL ρ1 σ)) := RepT.freeze r1.rep
          rw [freeze] at r2
          obtain ⟨a, vs, rfl, sq, l, _⟩ := RepT.openT r2
          exact ⟨a, rfl, ⟨vs, .inl (.inl sq)⟩, he _ _ H1 (itT z) ⟨r1.len, r1.nos, r2⟩⟩
        · rw [if_neg z] at e; cases e
      | ktp xs =>
        simp only [itemsOf] at e
        by_cases z : fzL (freezeL xs) = true
        · rw [if_pos z] at e
          cases e
          refine .inr ⟨T, ρ, _, rep, q, fun v H1 _ r1 => ?_⟩
          have r2 : RepT X.K H1 ((freeze (.ktp xs), v) :: (T ++ SL ρ1 σ)) := RepT.freeze r1.rep
          rw [freeze] at r2
          obtain ⟨a, vs, rfl, sq, l, _⟩ := RepT.openK r2
          exact ⟨a, rfl, ⟨vs, sq⟩, he _ _ H1 (itKT z) ⟨r1.len, r1.nos, r2⟩⟩
        · rw [if_neg z] at e; cases e
      | _ => cases e
/-- lo, lo + 1, .. n of them -/
def intsD (lo : Int) (n : Nat) : List D := (List.range n).map fun (i : Nat) => .int (lo + i)
theorem itR {lo : Int} {n : Nat} : ItOk K (Itr lo n) [] (intsD lo n) := by
  have len : (intsD lo n).length = n := by simp [intsD]
  refine ⟨fun i H L hi h => by rw [len] at hi; exact hi, fun H L h => by rw [len]; exact Nat.le_refl _, fun i H L x H' d h e y => ?_⟩
  obtain ⟨rfl, rfl⟩ := y
  have : d = .int (lo + i) := by
    unfold intsD at e
    rw [List.getElem?_map] at e
    cases q : (List.range n)[i]? with
    | none => rw [q] at e; cases e
    | some j =>
      rw [q] at e
      have := (List.getElem?_eq_some_iff.mp q).2
      rw [List.getElem_range] at this
      subst this
      exact (Option.some.inj e).symm
  subst this
  exact RepT.int h
def rangeD1 (ds : List D) : Option (List D) := match ds with
  | [.int j] => if inR j then some (intsD 0 j.toNat) else none
  | _ => none
def rangeD2 (ds : List D) : Option (List D) := match ds with
  | [.int i, .int j] => if inR i ∧ inR j then some (intsD i (j - i).toNat) else none
  | _ => none
theorem rangeD1_inv {ds r : List D} (h : rangeD1 ds = some r) : ∃ j : Int, ds = [.int j] ∧ -(2 ^ 62) ≤ j ∧ j < 2 ^ 62 ∧ r = intsD 0 j.toNat := by
  unfold rangeD1 at h
  split at h
  · rename_i j
    split at h
    · rename_i z
      exact ⟨j, rfl, z.lo, z.hi, (Option.some.inj h).symm⟩
    · cases h
  · cases h
theorem rangeD2_inv {ds r : List D} (h : rangeD2 ds = some r) : ∃ i j : Int, ds = [.int i, .int j] ∧ (-(2 ^ 62) ≤ i ∧ i < 2 ^ 62 ∧ -(2 ^ 62) ≤ j ∧ j < 2 ^ 62) ∧ r = intsD i (j - i).toNat := by
  unfold rangeD2 at h
  split at h
  · rename_i i j
    split at h
    · rename_i z
      exact ⟨i, j, rfl, ⟨z.1.lo, z.1.hi, z.2.lo, z.2.hi⟩, (Option.some.inj h).symm⟩
    · cases h
  · cases h
theorem len1 {α : Type} {vs : List α} (h : 1 = vs.length) : ∃ v, vs = [v] := by
  match vs, h with
  | [v], _ => exact ⟨v, rfl⟩
theorem len2 {α : Type} {vs : List α} (h : 2 = vs.length) : ∃ v w, vs = [v, w] := by
  match vs, h with
  | [v, w], _ => exact ⟨v, w, rfl⟩
theorem len3 {α : Type} {vs : List α} (h : 3 = vs.length) : ∃ v w u, vs = [v, w, u] := by
  match vs, h with
  | [v, w, u], _ => exact ⟨v, w, u, rfl⟩
def dRange1 (f : M (List D)) : M (List D) := bindM f fun ds => optM (rangeD1 ds)
def dRange2 (f : M (List D)) : M (List D) := bindM f fun ds => optM (rangeD2 ds)
theorem vi_range1 {tg a : Expr} {f : M (List D)} {p pos : Pos} (hg : Gl X "range") (hm : X.mg "range" = none) (ha : VA X W m [a] f) (hs : starEach [a] X.env = [(false, eval a X.env)] := by rfl) : VI X W tg (.Call (.Name "range" p) [a] [] pos) (dRange1 f) := by
  refine PI.imp (pi_range1 hg hm ha hs) fun σ H R ⟨T, ρ, u, rep, hf, he⟩ => ?_
  refine runA rep hf he fun ds ρ1 vs H1 h1 s1 l1 r1 => ?_
  obtain ⟨d, e, rfl⟩ := optM_some h1
  obtain ⟨j, rfl, z1, z2, rfl⟩ := rangeD1_inv e
  obtain ⟨v, rfl⟩ := len1 l1
  have ev := RepT.eq_int r1.rep
  subst ev
  exact ⟨j, rfl, z1, z2, he _ [] H1 itR r1.drop⟩
theorem vi_range2 {tg a b : Expr} {f : M (List D)} {p pos : Pos} (hg : Gl X "range") (hm : X.mg "range" = none) (ha : VA X W m [a, b] f) (hs : starEach [a, b] X.env = [(false, eval a X.env), (false, eval b X.env)] := by rfl) (hs2 : starEach [b] X.env = [(false, eval b X.env)] := by rfl) : VI X W tg (.Call (.Name "range" p) [a, b] [] pos) (dRange2 f) := by
  refine PI.imp (pi_range2 hg hm ha hs hs2) fun σ H R ⟨T, ρ, u, rep, hf, he⟩ => ?_
  refine runA rep hf he fun ds ρ1 vs H1 h1 s1 l1 r1 => ?_
  obtain ⟨d, e, rfl⟩ := optM_some h1
  obtain ⟨i, j, rfl, z, rfl⟩ := rangeD2_inv e
  obtain ⟨v, w, rfl⟩ := len2 l1
  have ev := RepT.eq_int r1.rep
  have ew := RepT.eq_int r1.drop.rep
  subst ev
  subst ew
  exact ⟨i, j, rfl, z, he _ [] H1 itR r1.drop.drop⟩

/-! ### comprehensions -/
theorem RepT.push {ds : List D} {y : D} {v : V} {a : Addr} {L : List (D × V)} (h : RepT K H ((y, v) :: (.lst true ds, .ref a) :: L)) : ∃ vs, H a = some (.lst vs) ∧ ds.length = vs.length ∧ RepT K (upd H a (.lst (vs ++ [v]))) ((.lst true (ds ++ [y]), .ref a) :: L) := by
  have h2 : RepT K H ((.lst true ds, .ref a) :: (y, v) :: L) := h.perm (.swap _ _ _)
  obtain ⟨b, vs, e, q, l, r⟩ := h2.openL
  cases e
  refine ⟨vs, q, l, RepT.closeL (by simp [l]) ?_⟩
  rw [List.zip_append l]
  rw [List.append_assoc]
  exact r
theorem wipe_get (σ : St) : ∀ (vs : List Nat) (i : Nat), i ∉ vs → (wipe σ vs)[i]? = σ[i]?
  | [], _, _ => rfl
  | v :: vs, i, h => by
    unfold wipe
    rw [List.getElem?_set_ne fun z => h (by simp [z]), wipe_get σ vs i fun z => h (List.mem_cons_of_mem _ z)]
theorem wipe_none (σ : St) : ∀ (vs : List Nat) (i : Nat), i ∈ vs → i < σ.length → (wipe σ vs)[i]? = some none
  | [], _, h, _ => by cases h
  | v :: vs, i, h, hl => by
    unfold wipe
    by_cases z : v = i
    · subst z; rw [List.getElem?_set_self (by rw [wipe_length]; exact hl)]
    · rw [List.getElem?_set_ne z]
      rcases List.mem_cons.mp h with e | h
      · exact absurd e.symm z
      · exact wipe_none σ vs i h hl
theorem wipe_eq {σ σ2 : St} {vs : List Nat} (hl : σ2.length = σ.length) (h : ∀ i : Nat, i ∉ vs → σ2[i]? = σ[i]?) : wipe σ2 vs = wipe σ vs := by
  apply List.ext_getElem?
  intro i
  by_cases hi : i ∈ vs
  · by_cases hl2 : i < σ.length
    · rw [wipe_none σ vs i hi hl2, wipe_none σ2 vs i hi (by omega)]
    · rw [List.getElem?_eq_none (by rw [wipe_length]; omega), List.getElem?_eq_none (by rw [wipe_length]; omega)]
  · rw [wipe_get σ vs i hi, wipe_get σ2 vs i hi, h i hi]
theorem Kept.wiped {own : List Nat} {σ2 : St} (k : Kept asg (wipe σ own) σ2) (hs : ∀ i ∈ asg, i ∈ own) : wipe σ2 own = wipe σ own := by
  refine wipe_eq (k.1.trans (wipe_length σ own)) fun i hi => ?_
  rw [k.2 i fun z => hi (hs i z), wipe_get σ own i hi]
theorem wipe_wipe {own : List Nat} : wipe (wipe σ own) own = wipe σ own := Kept.wiped (asg := []) Kept.refl fun _ z => by cases z
/-- the block's own names forgotten: over the wiped slots, and back -/
theorem Rep.wiped {own : List Nat} (h : Rep K H T ρ σ) : Rep K H T (wipeD ρ own) (wipe σ own) := by
  refine (h.wipe1 own).other (wipe_length σ own) fun i => ?_
  by_cases hi : i ∈ own
  · by_cases hl : i < ρ.length
    · exact .inl (wipeD_get ρ hi hl)
    · exact .inr (by rw [List.getElem?_eq_none (by rw [wipe_length, ← h.len]; omega), List.getElem?_eq_none (by rw [← h.len]; omega)])
  · exact .inr (wipe_get σ own i hi)
theorem Rep.unwiped {own : List Nat} {σ2 : St} (h : Rep K H T ρ σ2) (hl : σ.length = σ2.length) (e : wipe σ2 own = wipe σ own) : Rep K H T (wipeD ρ own) σ := by
  refine (h.wipe1 own).other hl fun i => ?_
  by_cases hi : i ∈ own
  · by_cases hl2 : i < ρ.length
    · exact .inl (wipeD_get ρ hi hl2)
    · exact .inr (by rw [List.getElem?_eq_none (by rw [hl, ← h.len]; omega), List.getElem?_eq_none (by rw [← h.len]; omega)])
  · exact .inr (by rw [← wipe_get σ own i hi, ← e, wipe_get σ2 own i hi])
def lcD (own : List Nat) (bt : D → Env → Option Env) (tt : M Bool) (el : M D) : List D → List D → Env → Option (List D × Env)
  | [], acc, ρ => some (acc, ρ)
  | d :: ds, acc, ρ => match bt d ρ with
    | none => none
    | some ρ1 => match tt ρ1 with
      | some (.ok b ρ2) => if b = true then (match el ρ2 with
        | some (.ok y ρ3) => if acc.length < sizeLine then lcD own bt tt el ds (acc ++ [y]) (wipeD ρ3 own) else none
        | _ => none) else lcD own bt tt el ds acc (wipeD ρ2 own)
      | _ => none
def dLc (own : List Nat) (src : M (List D)) (bt : D → Env → Option Env) (tt : M Bool) (el : M D) : M D := bindM src fun ds ρ => match lcD own bt tt el ds [] (wipeD ρ own) with
  | none => none
  | some (acc, ρ') => some (.ok (.lst true acc) (wipeD ρ' own))
def WF : WX := fun _ _ _ _ => False
theorem tLc_of {own : List Nat} {src : M (List D)} {bt : D → Env → Option Env} {tt : M Bool} {el : M D} {mt me : Bool} (hs : ∀ i ∈ asg, i ∈ own) {Q : VK} (h : tOf K mg W true (dLc own src bt tt el) σ H Q) :
    tLc (tiOf K mg W src) (tgOf K asg bt) (ttOf K mg WF mt tt) (tOf K mg WF me el) own σ H Q := by
  obtain ⟨T, ρ, u, rep, hf, he⟩ := h
  unfold dLc bindM at hf
  cases q : src ρ with
  | none => rw [q] at hf; cases hf
  | some w =>
    rw [q] at hf
    refine ⟨T, ρ, w, rep, q, ?_⟩
    cases w with
    | ex x ρ1 =>
      have : u = .ex x ρ1 := (Option.some.inj hf).symm
      subst this
      exact he
    | ok ds ρ0 =>
      intro J c H0 it rep0 p hp
      simp only at hf
      cases ql : lcD own bt tt el ds [] (wipeD ρ0 own) with
      | none => rw [ql] at hf; cases hf
      | some pr =>
        obtain ⟨accF, ρF⟩ := pr
        rw [ql] at hf
        have : u = .ok (.lst true accF) (wipeD ρF own) := (Option.some.inj hf).symm
        subst this
        refine ⟨fun i n Hi => n = ds.length - i ∧ i ≤ ds.length ∧ ∃ acc ρi, Rep K Hi ((.lst true acc, .ref p) :: (c ++ T)) ρi (wipe σ own) ∧ lcD own bt tt el (ds.drop i) acc ρi = some (accF, ρF), ⟨ds.length, by simp, Nat.zero_le _, [], wipeD ρ0 own, ?_, ql⟩, ?_⟩
        · have r0 := rep0.wiped (own := own)
          exact r0.lift fun q => RepT.newL (ds := []) (vs := []) rfl hp q
        rintro i n Hi ⟨rfl, hi, acc, ρi, ri, fi⟩
        have ri' : RepT K Hi (c ++ ((.lst true acc, .ref p) :: (T ++ SL ρi (wipe σ own)))) := by
          have r := ri.rep
          refine r.perm ?_
          have e : ((D.lst true acc, V.ref p) :: (c ++ T)) ++ SL ρi (wipe σ own) = (D.lst true acc, V.ref p) :: (c ++ (T ++ SL ρi (wipe σ own))) := by simp
          rw [e]
          exact List.perm_middle.symm
        by_cases hlt : i < ds.length
        · rw [List.drop_eq_getElem_cons hlt] at fi
          unfold lcD at fi
          cases qb : bt ds[i] ρi with
          | none => rw [qb] at fi; cases fi
          | some ρ1 =>
            simp only [qb] at fi
            refine .inr ⟨it.go i Hi _ hlt ri', fun H' => ∃ acc ρn, Rep K H' ((.lst true acc, .ref p) :: (c ++ T)) ρn (wipe σ own) ∧ lcD own bt tt el (ds.drop (i + 1)) acc ρn = some (accF, ρF), fun H' ⟨a', ρn, rn, fn⟩ => ⟨ds.length - (i + 1), by omega, rfl, hlt, a', ρn, rn, fn⟩, fun x H' y => ?_⟩
            have ry := it.yld i Hi _ x H' ds[i] ri' (List.getElem?_eq_getElem hlt) y
            have ry' : Rep K H' ((ds[i], x) :: ((.lst true acc, .ref p) :: (c ++ T))) ρi (wipe σ own) := ⟨ri.len, ri.nos, by
              have e : ((ds[i], x) :: ((D.lst true acc, V.ref p) :: (c ++ T))) ++ SL ρi (wipe σ own) = (ds[i], x) :: (D.lst true acc, V.ref p) :: (c ++ (T ++ SL ρi (wipe σ own))) := by simp
              rw [e]
              exact ry.perm (List.perm_middle.cons _)⟩
            refine ⟨_, ρi, ds[i], ρ1, ry', qb, fun σ1 H1 k1 r1 => ?_⟩
            have ew := k1.wiped hs
            have el1 : (wipe σ own).length = σ1.length := k1.1.symm
            refine ⟨ew, ?_⟩
            cases qt : tt ρ1 with
            | none => rw [qt] at fi; cases fi
            | some w =>
              cases w with
              | ex x ρ2 => rw [qt] at fi; cases fi
              | ok b ρ2 =>
                simp only [qt] at fi
                refine ⟨_, ρ1, _, r1, qt, fun H2 _ r2 => ?_⟩
                cases b with
                | false =>
                  rw [if_neg (by simp)] at fi ⊢
                  exact ⟨acc, _, r2.unwiped (σ := wipe σ own) el1 (ew.trans wipe_wipe.symm), fi⟩
                | true =>
                  rw [if_pos rfl] at fi ⊢
                  cases qe : el ρ2 with
                  | none => rw [qe] at fi; cases fi
                  | some w =>
                    cases w with
                    | ex x ρ3 => rw [qe] at fi; cases fi
                    | ok y ρ3 =>
                      simp only [qe] at fi
                      refine ⟨_, ρ2, _, r2, qe, fun v H3 _ r3 => ?_⟩
                      by_cases z : acc.length < sizeLine
                      · rw [if_pos z] at fi
                        obtain ⟨vs, hv, lv, rp⟩ := RepT.push r3.rep
                        refine ⟨vs, hv, by rw [← lv]; exact z, acc ++ [y], _, ?_, fi⟩
                        have r4 : Rep K (upd H3 p (.lst (vs ++ [v]))) ((.lst true (acc ++ [y]), .ref p) :: (c ++ T)) ρ3 σ1 := ⟨r3.len, r3.nos, rp⟩
                        exact r4.unwiped (σ := wipe σ own) el1 (ew.trans wipe_wipe.symm)
                      · rw [if_neg z] at fi; cases fi
        · have e : i = ds.length := by omega
          subst e
          rw [List.drop_length] at fi
          have : (acc, ρi) = (accF, ρF) := Option.some.inj fi
          injection this with e1 e2
          subst e1
          subst e2
          refine .inl ⟨it.stop Hi _ ri', he _ Hi (fun e => by cases e) ?_⟩
          have r5 : Rep K Hi ((.lst true acc, .ref p) :: T) ρi (wipe σ own) := Rep.dropL (U := c) (ri.perm List.perm_middle.symm)
          exact r5.unwiped (by rw [wipe_length]) wipe_wipe
def dYes : M Bool := retM true
theorem tYes_of {Q : Bool → Hp → Prop} (h : ttOf K mg W m dYes σ H Q) : tYes σ H Q := by
  obtain ⟨T, ρ, u, rep, hf, he⟩ := h
  have : u = .ok true ρ := (Option.some.inj hf).symm
  subst this
  exact he H (fun _ => Same.refl _) rep
def VTs (X : Cx) (W : WX) (m : Bool) (ifs : List Expr) (f : M Bool) : Prop := PTs X ifs (ttOf X.K X.mg W m f)
theorem vts_nil : VTs X W false [] dYes := ⟨fun pins s σ H Q I q => pts_nil.run pins s σ H Q I (tYes_of q)⟩
theorem vts_one {c : Expr} {f : M Bool} (h : VT X W m c f) : VTs X W m [c] f := pts_one h
section
variable {elt tg iter : Expr} {ifs : List Expr} {scope : Scope} {own : List (Str × Nat)} {pos spos : Pos} {src : M (List D)} {bt : D → Env → Option Env} {tt : M Bool} {el : M D} {mt me : Bool}
theorem ve_lc (hc : X.calm = true) (hN : X.N.Nodup) (hi : VI X W tg iter src) (ok : BlkOk X.N X.env.scope scope own)
    (hg : ∀ (s : Shared) (H : Hp) (C : Addr) (cl : List (Str × Addr)) (fp : List Addr), VG (X.blk s H scope (compEnvC scope cl C X.env) fp) asg tg bt)
    (ht : ∀ (s : Shared) (H : Hp) (C : Addr) (cl : List (Str × Addr)) (fp : List Addr), VTs (X.blk s H scope (compEnvC scope cl C X.env) fp) WF mt ifs tt)
    (he : ∀ (s : Shared) (H : Hp) (C : Addr) (cl : List (Str × Addr)) (fp : List Addr), VE (X.blk s H scope (compEnvC scope cl C X.env) fp) WF me elt el)
    (hsub : ∀ i ∈ asg, i ∈ own.map (·.2) := by decide) (hs : ∀ x, foldedSetIterable iter X.env x = pure x := by intro _; rfl) : VE X W true (.ListComp elt [⟨tg, iter, ifs, 0⟩] scope pos) (dLc (own.map (·.2)) src bt tt el) :=
  PE.imp (pe_lc (g := tgOf X.K asg bt) (tt := ttOf X.K X.mg WF mt tt) (te := tOf X.K X.mg WF me el) hc hN hi ok hg ht he hs) fun _ _ _ h => tLc_of hsub h
theorem vs_setLc {i : Nat} {y : Str} {py : Pos} (hc : X.calm = true) (hN : X.N.Nodup) (hy : X.N[i]? = some y) (hyl : X.env.scope.names.lookup y = some .local)
    (hsw : swapsWith (.ListComp elt [⟨tg, iter, ifs, 0⟩] scope pos) (some (.Name y py)) spos.line X.env = pure true) (hi : VI X W tg iter src) (ok : BlkOk X.N X.env.scope scope own)
    (hg : ∀ (s : Shared) (H : Hp) (C : Addr) (cl : List (Str × Addr)) (fp : List Addr), VG (X.blk s H scope (compEnvC scope cl C X.env) fp) asg tg bt)
    (ht : ∀ (s : Shared) (H : Hp) (C : Addr) (cl : List (Str × Addr)) (fp : List Addr), VTs (X.blk s H scope (compEnvC scope cl C X.env) fp) WF mt ifs tt)
    (he : ∀ (s : Shared) (H : Hp) (C : Addr) (cl : List (Str × Addr)) (fp : List Addr), VE (X.blk s H scope (compEnvC scope cl C X.env) fp) WF me elt el)
    (hsub : ∀ i ∈ asg, i ∈ own.map (·.2) := by decide) (hs : ∀ x, foldedSetIterable iter X.env x = pure x := by intro _; rfl) : VSt X W [i] (.Assign [.Name y py] (.ListComp elt [⟨tg, iter, ifs, 0⟩] scope pos) spos) (dSet i (dLc (own.map (·.2)) src bt tt el)) := by
  refine vs_setP (m := true) (PS.imp (ps_setLc (g := tgOf X.K asg bt) (tt := ttOf X.K X.mg WF mt tt) (te := tOf X.K X.mg WF me el) hc hN hy hyl hsw hi ok hg ht he hs) fun σ H E h => ?_)
  exact tLc_of hsub h
end

/-! ### defs and their calls -/
inductive Fo where
  | ok (r : D) (as : List D)
  | ex (x : Xc) (as : List D)
abbrev FnD := List D → Option Fo
def spOf (K : PySem.W.Frag) (mg : Str → Option Value) (F : FnD) : Sp := fun vs H Q E => ∃ L as o, as.length = vs.length ∧ RepT K H (as.zip vs ++ L) ∧ F as = some o ∧ match o with
  | .ok r as' => ∀ v H', as'.length = vs.length → RepT K H' ((r, v) :: (as'.zip vs ++ L)) → Q v H'
  | .ex x as' => ∀ cls dd H', as'.length = vs.length → XRep mg x cls dd H' → RepT K H' (as'.zip vs ++ L) → E cls dd H'
def outD (np : Nat) (asg : List Nat) (ρ : Env) : List D := (wipeD ρ asg).take np
def fnD (n np : Nat) (asg : List Nat) (body : MS) : FnD := fun as => if as.length = np ∧ np ≤ n then (match body (as ++ List.replicate (n - np) .unk) with
  | none => none
  | some (.nx, ρ) => if ρ.length = n then some (.ok .non (outD np asg ρ)) else none
  | some (.rt d, ρ) => if ρ.length = n then some (.ok d (outD np asg ρ)) else none
  | some (.ex x, ρ) => if ρ.length = n then some (.ex x (outD np asg ρ)) else none
  | some (.bk, _) => none
  | some (.ct, _) => none) else none
theorem SL_start : ∀ (as : List D) (vs : List V) (k : Nat), as.length = vs.length → SL (as ++ List.replicate k .unk) (vs.map some ++ List.replicate k none) = as.zip vs ++ List.replicate k (.unk, .non)
  | [], [], k, _ => by
    show List.zipWith _ (List.replicate k D.unk) (List.replicate k none) = List.replicate k (D.unk, V.non)
    rw [List.zipWith_replicate']; rfl
  | [], _ :: _, _, h => by cases h
  | _ :: _, [], _, h => by cases h
  | a :: as, v :: vs, k, h => by
    show (a, v) :: SL (as ++ List.replicate k .unk) (vs.map some ++ List.replicate k none) = _
    rw [SL_start as vs k (Nat.succ.inj h)]; rfl
theorem RepT.unks {L : List (D × V)} {v : V} : ∀ k : Nat, RepT K H L → RepT K H (List.replicate k (.unk, v) ++ L)
  | 0, h => h
  | k + 1, h => RepT.unk (RepT.unks k h)
theorem SL_split : ∀ (ρ : Env) (vs : List V) (τ : St), vs.length ≤ ρ.length → SL ρ (vs.map some ++ τ) = (ρ.take vs.length).zip vs ++ SL (ρ.drop vs.length) τ
  | ρ, [], τ, _ => by simp
  | [], _ :: _, _, h => by simp at h
  | d :: ρ, v :: vs, τ, h => by
    show (d, v) :: SL ρ (vs.map some ++ τ) = _
    rw [SL_split ρ vs τ (Nat.le_of_succ_le_succ h)]; rfl
theorem out_rep {n np : Nat} {N : List Str} {vs : List V} {L : List (D × V)} {ρ : Env} {σ' : St} {P : List (D × V)} (hn : N.length = n) (hv : vs.length = np) (hl : ρ.length = n) (hnp : np ≤ n) (k : Kept asg (L2.start N vs) σ') (r : Rep K H (P ++ L) ρ σ') :
    (outD np asg ρ).length = vs.length ∧ RepT K H (P ++ ((outD np asg ρ).zip vs ++ L)) := by
  have r1 : Rep K H (P ++ L) (wipeD ρ asg) (L2.start N vs) := by
    refine (r.wipe1 asg).other k.1.symm fun i => ?_
    by_cases hi : i ∈ asg
    · by_cases hl2 : i < ρ.length
      · exact .inl (wipeD_get ρ hi hl2)
      · exact .inr (by rw [List.getElem?_eq_none (by rw [← k.1, ← r.len]; omega), List.getElem?_eq_none (by rw [← r.len]; omega)])
    · exact .inr (k.2 i hi).symm
  have lw : (wipeD ρ asg).length = n := by rw [wipeD_length]; exact hl
  refine ⟨by unfold outD; rw [List.length_take, lw, hv]; omega, ?_⟩
  have q := r1.rep
  unfold L2.start at q
  rw [SL_split _ _ _ (by rw [lw, hv]; exact hnp), hv] at q
  have q2 : RepT K H (SL ((wipeD ρ asg).drop np) (List.replicate (N.length - np) none) ++ (P ++ ((outD np asg ρ).zip vs ++ L))) := by
    refine q.perm ?_
    refine (List.perm_append_comm (l₁ := P ++ L)).trans ?_
    unfold outD
    generalize ((wipeD ρ asg).take np).zip vs = Z
    generalize SL ((wipeD ρ asg).drop np) (List.replicate (N.length - np) none) = Y
    have e1 : (Z ++ Y ++ (P ++ L)).Perm (Y ++ Z ++ (P ++ L)) := List.perm_append_comm.append_right _
    refine e1.trans ?_
    rw [List.append_assoc]
    refine List.Perm.append_left Y ?_
    rw [← List.append_assoc, ← List.append_assoc]
    exact List.perm_append_comm.append_right L
  exact q2.dropL
/-- from a body's denotation to the def's promise -/
theorem body_sp {X : Cx} {N ps : List Str} {g : MS} {vs : List V} {Q : VK} {E : XK} (h : spOf X.K X.mg (fnD N.length ps.length asg g) vs H Q E) :
    tsOf X.K X.mg (fun cls d _ H => E cls d H) asg g { nx := fun _ H' => Q .non H', rt := Q } (L2.start N vs) H := by
  obtain ⟨L, as, o, l, rep, hf, ho⟩ := h
  unfold fnD at hf
  by_cases z : as.length = ps.length ∧ ps.length ≤ N.length
  · rw [if_pos z] at hf
    have lv : vs.length = ps.length := by rw [← l]; exact z.1
    have rep0 : Rep X.K H L (as ++ List.replicate (N.length - ps.length) .unk) (L2.start N vs) := by
      unfold L2.start
      rw [lv]
      refine ⟨by simp [l], fun i hi => ?_, ?_⟩
      · by_cases hlt : i < vs.length
        · rw [List.getElem?_append_left (by simpa using hlt), List.getElem?_map] at hi
          cases q : vs[i]? with
          | none => rw [q] at hi; cases hi
          | some v => rw [q] at hi; cases hi
        · rw [List.getElem?_append_right (by simpa using Nat.le_of_not_lt hlt)] at hi
          have hb := (List.getElem?_eq_some_iff.mp hi).1
          rw [List.length_replicate, List.length_map] at hb
          rw [List.getElem?_append_right (by omega), List.getElem?_replicate, if_pos (by omega)]
      · rw [SL_start as vs _ l]
        have q := RepT.unks (v := V.non) (N.length - ps.length) rep
        refine q.perm ?_
        refine List.perm_append_comm.trans ?_
        rw [List.append_assoc]
        refine List.perm_append_comm.trans ?_
        rw [List.append_assoc]
        exact List.Perm.append_left L List.perm_append_comm
    cases qb : g (as ++ List.replicate (N.length - ps.length) .unk) with
    | none => rw [qb] at hf; cases hf
    | some pr =>
      obtain ⟨fl, ρ'⟩ := pr
      refine ⟨L, _, fl, ρ', rep0, qb, ?_⟩
      simp only [qb] at hf
      cases fl with
      | nx =>
        intro σ' H' k' r'
        simp only at hf
        split at hf
        · rename_i zl
          cases hf
          obtain ⟨l2, r2⟩ := out_rep (P := []) rfl lv zl z.2 k' r'
          exact ho .non H' l2 (RepT.non r2)
        · cases hf
      | rt d =>
        intro v σ' H' k' r'
        simp only at hf
        split at hf
        · rename_i zl
          cases hf
          obtain ⟨l2, r2⟩ := out_rep (P := [(d, v)]) rfl lv zl z.2 k' r'
          exact ho v H' l2 r2
        · cases hf
      | ex x =>
        intro cls dd σ' H' k' xr r'
        simp only at hf
        split at hf
        · rename_i zl
          cases hf
          obtain ⟨l2, r2⟩ := out_rep (P := []) rfl lv zl z.2 k' r'
          exact ho cls dd H' l2 xr r2
        · cases hf
      | bk => cases hf
      | ct => cases hf
  · rw [if_neg z] at hf; cases hf
theorem fn_ok {P : Program} {w : World} {base : Heap} {x qual : Str} {st : Stmt} {f : Addr} {fd : FuncData} {N ps : List Str} {k : Nat} {g : MS} (F : Fun K x qual st f fd) (S : FnScope N ps (defScope st))
    (hbody : ∀ (cdv : Value) (A : Around) (outer : List PySem.Env) (s : Shared) (H : Hp) (E : XK), Room k (A.deeper (envOfC qual (defScope st) s.heap.objs.size f cdv)) →
      VSs (cxOf (L2N.CX P w) P w K mg base N qual (defScope st) f cdv A outer s H E) (fun cls d _ H => E cls d H) asg (defBody st) g) :
    FnOk P w K mg base (L2N.CX P w) (k + 1) f fd ps (spOf K mg (fnD N.length ps.length asg g)) := by
  obtain ⟨oc, od, kV, doc, pm, an, cd, ct, osl, rfl, lk, hcd⟩ := F.ex
  refine fn_of lk hcd S (fun vs H Q E h => ?_) fun A outer s H vs Q E hr h => ?_
  · obtain ⟨L, as, o, l, _, hf, _⟩ := h
    unfold fnD at hf
    by_cases z : as.length = ps.length ∧ ps.length ≤ N.length
    · rw [← l]; exact z.1
    · rw [if_neg z] at hf; cases hf
  · exact ⟨_, hbody cd A outer s H E hr, body_sp (X := cxOf (L2N.CX P w) P w K mg base N qual (defScope st) f cd A outer s H E) h⟩

/-! arguments: values, and names handed on as they are -/
def IOv (σ : St) : List (Option Nat) → List V → List V → Prop
  | [], tv, vs => tv = [] ∧ vs = []
  | none :: ks, tv, vs => ∃ v t r, tv = v :: t ∧ vs = v :: r ∧ IOv σ ks t r
  | some i :: ks, tv, vs => ∃ v r, σ[i]? = some (some v) ∧ vs = v :: r ∧ IOv σ ks tv r
def okIO (K : PySem.W.Frag) (m : Bool) (ks : List (Option Nat)) (T : List (D × V)) (σ : St) (H : Hp) (Q : List V → Hp → Prop) (ds : List D) (ρ' : Env) : Prop :=
  ∀ tv vs H', (m = false → Same H H') → ds.length = tv.length → IOv σ ks tv vs → Rep K H' (ds.zip tv ++ T) ρ' σ → Q vs H'
def taIO (K : PySem.W.Frag) (mg : Str → Option Value) (W : WX) (m : Bool) (ks : List (Option Nat)) (f : M (List D)) : TA := fun σ H Q => ∃ T ρ r, Rep K H T ρ σ ∧ f ρ = some r ∧ endR K mg W T σ (okIO K m ks T σ H Q) r
def VIO (X : Cx) (W : WX) (m : Bool) (ks : List (Option Nat)) (es : List Expr) (f : M (List D)) : Prop := PA X es (taIO X.K X.mg W m ks f)
theorem vio_nil : VIO X W false [] [] dNil := PA.imp pa_nil fun σ H Q ⟨T, ρ, u, rep, hf, he⟩ => by
  have : u = .ok [] ρ := (Option.some.inj hf).symm
  subst this
  exact he [] [] H (fun _ => Same.refl _) rfl ⟨rfl, rfl⟩ rep
theorem vio_cons {e : Expr} {es : List Expr} {f : M D} {g : M (List D)} {ma mb : Bool} {ks : List (Option Nat)} (ha : VE X W ma e f) (hb : VIO X W mb ks es g) (hs : starEach (e :: es) X.env = (false, eval e X.env) :: starEach es X.env := by rfl) : VIO X W (ma || mb) (none :: ks) (e :: es) (dCons f g) := by
  refine PA.imp (pa_cons ha hb hs) fun σ H Q ⟨T, ρ, u, rep, hf, he⟩ => ?_
  refine run1 rep hf he fun x ρ1 v H1 h1 s1 r1 => ?_
  unfold bindM at h1
  cases q : g ρ1 with
  | none => rw [q] at h1; cases h1
  | some w =>
    rw [q] at h1
    refine ⟨_, ρ1, w, r1, q, ?_⟩
    cases w with
    | ex x ρ2 =>
      have : u = .ex x ρ2 := (Option.some.inj h1).symm
      subst this
      exact exE.push he
    | ok ds ρ2 =>
      intro tv vs H2 s2 l2 io r2
      have : u = .ok (x :: ds) ρ2 := (Option.some.inj h1).symm
      subst this
      exact he (v :: tv) (v :: vs) H2 (sm_or s1 s2) (by simp [l2]) ⟨v, tv, vs, rfl, rfl, io⟩ (r2.perm List.perm_middle)
def dIO (i : Nat) (g : M (List D)) : M (List D) := fun ρ => match ρ[i]? with
  | none => none
  | some .unk => none
  | some _ => g ρ
theorem vio_slot {e : Expr} {es : List Expr} {g : M (List D)} {i : Nat} {ks : List (Option Nat)} (ha : PE X e (tVar i)) (hb : VIO X W m ks es g) (hs : starEach (e :: es) X.env = (false, eval e X.env) :: starEach es X.env := by rfl) : VIO X W m (some i :: ks) (e :: es) (dIO i g) := by
  refine PA.imp (pa_cons ha hb hs) fun σ H Q ⟨T, ρ, u, rep, hf, he⟩ => ?_
  unfold dIO at hf
  cases q : ρ[i]? with
  | none => rw [q] at hf; cases hf
  | some d =>
    have n : d ≠ .unk := fun e => by rw [q, e] at hf; cases hf
    have hf' : g ρ = some u := by
      rw [q] at hf
      cases d <;> first | exact hf | exact absurd rfl n
    obtain ⟨v, hv⟩ := rep.slot q n
    refine ⟨v, hv, T, ρ, u, rep, hf', ?_⟩
    cases u with
    | ex x ρ2 => exact he
    | ok ds ρ2 => exact fun tv vs H2 s2 l2 io r2 => he tv (v :: vs) H2 s2 l2 ⟨v, vs, hv, rfl, io⟩ r2
def takeIO : List (Option Nat) → List D → Env → List D × Env
  | [], _, ρ => ([], ρ)
  | none :: ks, [], ρ => ([], ρ)
  | none :: ks, d :: ds, ρ => (d :: (takeIO ks ds ρ).1, (takeIO ks ds ρ).2)
  | some i :: ks, ds, ρ => (ρ.getD i .unk :: (takeIO ks ds (ρ.set i .unk)).1, (takeIO ks ds (ρ.set i .unk)).2)
def giveIO : List (Option Nat) → List D → Env → Env
  | none :: ks, _ :: as, ρ => giveIO ks as ρ
  | some i :: ks, a :: as, ρ => giveIO ks as (ρ.set i a)
  | _, _, ρ => ρ
theorem take_rep : ∀ {ks : List (Option Nat)} {ds : List D} {tv vs : List V} {ρ : Env} {T : List (D × V)}, ds.length = tv.length → IOv σ ks tv vs → Rep K H (ds.zip tv ++ T) ρ σ →
    (takeIO ks ds ρ).1.length = vs.length ∧ Rep K H ((takeIO ks ds ρ).1.zip vs ++ T) (takeIO ks ds ρ).2 σ
  | [], ds, tv, vs, ρ, T, l, io, r => by
    obtain ⟨rfl, rfl⟩ := io
    exact ⟨rfl, r.dropL⟩
  | none :: ks, ds, tv, vs, ρ, T, l, io, r => by
    obtain ⟨v, t, r', rfl, rfl, io⟩ := io
    cases ds with
    | nil => cases l
    | cons d ds =>
      have r2 : Rep K H (ds.zip t ++ ((d, v) :: T)) ρ σ := r.perm List.perm_middle.symm
      obtain ⟨l3, r3⟩ := take_rep (ks := ks) (ds := ds) (tv := t) (vs := r') (T := (d, v) :: T) (Nat.succ.inj l) io r2
      exact ⟨by simp [takeIO, l3], r3.perm List.perm_middle⟩
  | some i :: ks, ds, tv, vs, ρ, T, l, io, r => by
    obtain ⟨v, r', hv, rfl, io⟩ := io
    have hi : i < ρ.length := by rw [r.len]; exact (List.getElem?_eq_some_iff.mp hv).1
    have e : ρ[i]? = some (ρ.getD i .unk) := by
      rw [List.getD_eq_getElem?_getD, List.getElem?_eq_getElem hi]; rfl
    have r1 := r.take e hv
    have r2 : Rep K H (ds.zip tv ++ ((ρ.getD i .unk, v) :: T)) (ρ.set i .unk) σ := r1.perm List.perm_middle.symm
    obtain ⟨l3, r3⟩ := take_rep (ks := ks) (ds := ds) (tv := tv) (vs := r') (T := (ρ.getD i .unk, v) :: T) l io r2
    exact ⟨by simp [takeIO, l3], r3.perm List.perm_middle⟩
theorem give_rep : ∀ {ks : List (Option Nat)} {as : List D} {tv vs : List V} {ρ : Env} {T : List (D × V)}, as.length = vs.length → IOv σ ks tv vs → Rep K H (as.zip vs ++ T) ρ σ → Rep K H T (giveIO ks as ρ) σ
  | [], as, tv, vs, ρ, T, l, io, r => by
    obtain ⟨rfl, rfl⟩ := io
    cases as with
    | nil => exact r
    | cons _ _ => cases l
  | none :: ks, as, tv, vs, ρ, T, l, io, r => by
    obtain ⟨v, t, r', rfl, rfl, io⟩ := io
    cases as with
    | nil => cases l
    | cons a as => exact give_rep (ks := ks) (as := as) (tv := t) (vs := r') (Nat.succ.inj l) io (Rep.drop r)
  | some i :: ks, as, tv, vs, ρ, T, l, io, r => by
    obtain ⟨v, r', hv, rfl, io⟩ := io
    cases as with
    | nil => cases l
    | cons a as =>
      have r2 : Rep K H ((a, v) :: (as.zip r' ++ T)) ρ σ := r
      exact give_rep (ks := ks) (as := as) (tv := tv) (vs := r') (Nat.succ.inj l) io (r2.put hv)
def dFn (ks : List (Option Nat)) (F : FnD) (f : M (List D)) : M D := bindM f fun ds ρ => match F (takeIO ks ds ρ).1 with
  | none => none
  | some (.ok r as) => some (.ok r (giveIO ks as (takeIO ks ds ρ).2))
  | some (.ex x as) => some (.ex x (giveIO ks as (takeIO ks ds ρ).2))
theorem tFn_of {ks : List (Option Nat)} {F : FnD} {f : M (List D)} {Q : VK} (h : tOf K mg W true (dFn ks F f) σ H Q) : tCallS (spOf K mg F) (WE W) (taIO K mg W m ks f) σ H Q := by
  obtain ⟨T, ρ, u, rep, hf, he⟩ := h
  unfold dFn bindM at hf
  cases q : f ρ with
  | none => rw [q] at hf; cases hf
  | some w =>
    rw [q] at hf
    refine ⟨T, ρ, w, rep, q, ?_⟩
    cases w with
    | ex x ρ2 =>
      have : u = .ex x ρ2 := (Option.some.inj hf).symm
      subst this
      exact he
    | ok ds ρ1 =>
      intro tv vs H1 s1 l1 io r1
      obtain ⟨l2, r2⟩ := take_rep l1 io r1
      simp only at hf
      cases qF : F (takeIO ks ds ρ1).1 with
      | none => rw [qF] at hf; cases hf
      | some o =>
        rw [qF] at hf
        refine ⟨T ++ SL (takeIO ks ds ρ1).2 σ, _, o, l2, by rw [← List.append_assoc]; exact r2.rep, qF, ?_⟩
        cases o with
        | ok r as =>
          have : u = .ok r (giveIO ks as (takeIO ks ds ρ1).2) := (Option.some.inj hf).symm
          subst this
          intro v H2 l3 r3
          refine he v H2 (fun e => by cases e) ?_
          have r4 : Rep K H2 (as.zip vs ++ ((r, v) :: T)) (takeIO ks ds ρ1).2 σ := ⟨r2.len, r2.nos, by
            refine r3.perm ?_
            rw [List.append_assoc]
            exact List.perm_middle.symm⟩
          exact give_rep l3 io r4
        | ex x as =>
          have : u = .ex x (giveIO ks as (takeIO ks ds ρ1).2) := (Option.some.inj hf).symm
          subst this
          intro cls dd H2 l3 xr r3
          refine he cls dd H2 xr ?_
          have r4 : Rep K H2 (as.zip vs ++ T) (takeIO ks ds ρ1).2 σ := ⟨r2.len, r2.nos, by rw [List.append_assoc]; exact r3⟩
          exact give_rep l3 io r4
theorem ve_call {ks : List (Option Nat)} {F : FnD} {f : M (List D)} {k : Nat} {fa : Addr} {fd : FuncData} {ps : List Str} {x : Str} {e : Expr} {es : List Expr} {p pos : Pos} (G : FnOk X.prog X.w X.K X.mg X.base (L2N.CX X.prog X.w) k fa fd ps (spOf X.K X.mg F)) (hr : Room k X.A) (hg : Gl X x) (hm : X.mg x = some (.ref fa))
    (hk : PySem.W.keepIn X.K (.ref fa) = true) (hb : Binds X.K fd ps []) (tk : L2N.Takes X W) (ha : VIO X W m ks (e :: es) f) (hdb : (x == ("__debug__" : Str)) = false := by decide)
    (he : starEach (e :: es) X.env = (false, eval e X.env) :: starEach es X.env := by rfl) (hpl : (backTo pos (starEach es X.env)).any (·.1) = false := by rfl) : VE X W true (.Call (.Name x p) (e :: es) [] pos) (dFn ks F f) :=
  PE.imp (pe_callS G hr hg hm hk hb (fun σ => L2N.passAt tk σ) ha hdb he hpl) fun _ _ _ h => tFn_of h
end
end VS

set_option Elab.async false
set_option linter.all false
set_option maxRecDepth 100000
set_option maxHeartbeats 4000000
set_option autoImplicit false
/-! VS4: operators and built-ins by data. -/
noncomputable section
namespace VS
open PySem PySem.Spec PyProof.Rows L2

/-! ### data as the library has it -/
mutual
def dat : D → Option PyData
  | .non => some .none
  | .bl b => some (.bool b)
  | .int i => some (.int i)
  | .str x => some (.str x)
  | .tup ds => (dats ds).map .tuple
  | .ktp ds => (dats ds).map .tuple
  | .lst _ ds => (dats ds).map .list
  | .scr ds => (dats ds).map .list
  | _ => none
def dats : List D → Option (List PyData)
  | [] => some []
  | d :: ds => match dat d, dats ds with
    | some x, some xs => some (x :: xs)
    | _, _ => none
end
section
variable {X : Cx} {W : WX} {K : PySem.W.Frag} {mg : Str → Option Value} {F H H1 : Hp} {T L : List (D × V)} {ρ ρ' : Env} {σ σ' σ'' : St} {m : Bool}
mutual
theorem Ow.dp (sF : Same F H) : ∀ (d : D) (v : V) (A : List Addr) (x : PyData), Ow K F H d v A → dat d = some x → Dp K H v x
  | .unk, v, A, x, h, e => by simp [dat] at e
  | .hole, v, A, x, h, e => by simp [dat] at e
  | .non, v, A, x, h, e => by
    rw [Ow] at h; rw [dat] at e; cases e; rw [h.1]; exact .non
  | .bl b, v, A, x, h, e => by
    rw [Ow] at h; rw [dat] at e; cases e; rw [h.1]; exact .bl b
  | .int i, v, A, x, h, e => by
    rw [Ow] at h; rw [dat] at e; cases e; rw [h.1]; exact .int i
  | .str z, v, A, x, h, e => by
    rw [Ow] at h; rw [dat] at e; cases e; rw [h.1]; exact .str z
  | .tup ds, v, A, x, h, e => by
    rw [Ow] at h
    obtain ⟨a, vs, rfl, q, l⟩ := h
    rw [dat] at e
    obtain ⟨xs, e1, rfl⟩ := Option.map_eq_some_iff.mp e
    exact .tup (.inl (.inl (sF _ _ q))) (OwL.dp sF ds vs A xs l e1)
  | .ktp ds, v, A, x, h, e => by
    rw [Ow] at h
    obtain ⟨a, vs, rfl, q, l⟩ := h
    rw [dat] at e
    obtain ⟨xs, e1, rfl⟩ := Option.map_eq_some_iff.mp e
    exact .tup (Same.sqT sF q) (OwL.dp sF ds vs A xs l e1)
  | .lst false ds, v, A, x, h, e => by
    rw [Ow] at h
    obtain ⟨a, vs, rfl, q, l⟩ := h
    rw [dat] at e
    obtain ⟨xs, e1, rfl⟩ := Option.map_eq_some_iff.mp e
    exact .lst (.inl (.inl (sF _ _ q))) (OwL.dp sF ds vs A xs l e1)
  | .lst true ds, v, A, x, h, e => by
    rw [Ow] at h
    obtain ⟨a, vs, A', rfl, q, l, rfl⟩ := h
    rw [dat] at e
    obtain ⟨xs, e1, rfl⟩ := Option.map_eq_some_iff.mp e
    exact .lst (.inl (.inl q)) (OwL.dp sF ds vs A' xs l e1)
  | .scr ds, v, A, x, h, e => by
    rw [Ow] at h
    obtain ⟨a, vs, rfl, q, l⟩ := h
    rw [dat] at e
    obtain ⟨xs, e1, rfl⟩ := Option.map_eq_some_iff.mp e
    exact .lst (sF.seq q) (OwL.dp sF ds vs A xs l e1)
  | .dK o ks ds, v, A, x, h, e => by simp [dat] at e
  | .dT o ks ds, v, A, x, h, e => by simp [dat] at e
  | .lK ks ds, v, A, x, h, e => by simp [dat] at e
  | .lT ks ds, v, A, x, h, e => by simp [dat] at e
  | .lck o, v, A, x, h, e => by simp [dat] at e
theorem OwL.dp (sF : Same F H) : ∀ (ds : List D) (vs : List V) (A : List Addr) (xs : List PyData), OwL K F H ds vs A → dats ds = some xs → DpAll K H vs xs
  | [], vs, A, xs, h, e => by
    rw [OwL] at h; rw [dats] at e; cases e; rw [h.1]; exact .nil
  | d :: ds, vs, A, xs, h, e => by
    rw [OwL] at h
    obtain ⟨v, r, A1, A2, rfl, rfl, h1, h2⟩ := h
    rw [dats] at e
    cases e1 : dat d with
    | none => rw [e1] at e; cases e
    | some y =>
      cases e2 : dats ds with
      | none => rw [e1, e2] at e; cases e
      | some ys =>
        rw [e1, e2] at e
        cases e
        exact .cons (Ow.dp sF d v A1 y h1 e1) (OwL.dp sF ds r A2 ys h2 e2)
end
theorem RepT.dp {d : D} {v : V} {x : PyData} (h : RepT K H ((d, v) :: L)) (e : dat d = some x) : Dp K H v x := by
  obtain ⟨F, A, sF, nd, fr, A1, A2, rfl, h1, o⟩ := h
  exact h1.dp sF _ _ _ _ e

/-! ### ints -/
def gInt (C : Int → Int → Bool) (f : Int → Int → Int) (x y : D) : Option D := match x, y with
  | .int i, .int j => if C i j = true then some (.int (f i j)) else none
  | _, _ => none
theorem gInt_inv {C : Int → Int → Bool} {f : Int → Int → Int} {x y d : D} (h : gInt C f x y = some d) : ∃ i j, x = .int i ∧ y = .int j ∧ C i j = true ∧ d = .int (f i j) := by
  unfold gInt at h
  split at h
  · rename_i i j
    split at h
    · rename_i z
      exact ⟨i, j, rfl, rfl, z, (Option.some.inj h).symm⟩
    · cases h
  · cases h
theorem impInt {P : Int → Int → Prop} {C : Int → Int → Bool} {f : Int → Int → Int} (hC : ∀ i j, C i j = true → P i j) : Imp2 K (rI P fun i j => .int (f i j)) (gInt C f) := by
  intro H L x y d v w Q e r h
  obtain ⟨i, j, rfl, rfl, z, rfl⟩ := gInt_inv e
  have e2 := r.eq_int
  have e1 := r.drop.eq_int
  subst e1; subst e2
  exact ⟨_, _, rfl, rfl, hC _ _ z, h _ H (Same.refl _) r.drop.drop.int⟩
theorem impInt0 {C : Int → Int → Bool} {f : Int → Int → Int} : Imp2 K (rI0 fun i j => .int (f i j)) (gInt C f) := by
  intro H L x y d v w Q e r h
  obtain ⟨i, j, rfl, rfl, z, rfl⟩ := gInt_inv e
  have e2 := r.eq_int
  have e1 := r.drop.eq_int
  subst e1; subst e2
  exact ⟨_, _, rfl, rfl, h _ H (Same.refl _) r.drop.drop.int⟩
def cT : Int → Int → Bool := fun _ _ => true
def cMul : Int → Int → Bool := fun i j => decide (in64 i) || decide (in64 j)
def cMod : Int → Int → Bool := fun _ j => decide (0 < j)
def cDiv : Int → Int → Bool := fun _ j => decide (in30 j)
def cPow : Int → Int → Bool := fun i j => decide (0 ≤ j) && decide (j ≤ 1000000) && decide (i.natAbs < 2 ^ 64)
def gMul := gInt cMul fun i j => i * j
def gMod := gInt cMod fun i j => i % j
def gDiv := gInt cDiv fun i j => i / j
def gPow := gInt cPow fun i j => i ^ j.toNat
def gSub := gInt cT fun i j => i - j
theorem impMul : Imp2 K (rI CMul fun i j => .int (i * j)) gMul := impInt fun i j h => by
  simp only [cMul, Bool.or_eq_true, decide_eq_true_eq] at h
  exact h.imp (fun z => ⟨z.lo, z.hi⟩) (fun z => ⟨z.lo, z.hi⟩)
theorem impMod : Imp2 K (rI (fun _ j => 0 < j) fun i j => .int (i % j)) gMod := impInt fun i j h => by
  simpa [cMod] using h
theorem impDiv : Imp2 K (rI CDiv fun i j => .int (i / j)) gDiv := impInt fun i j h => by
  simp only [cDiv, decide_eq_true_eq] at h
  exact ⟨h.lo, h.hi⟩
theorem impPow : Imp2 K (rI CPow fun i j => .int (i ^ j.toNat)) gPow := impInt fun i j h => by
  simp only [cPow, Bool.and_eq_true, decide_eq_true_eq] at h
  exact ⟨h.1.1, h.1.2, h.2⟩
theorem impSub : Imp2 K (rI0 fun i j => .int (i - j)) gSub := impInt0
/-! a + b: ints, lists, tuples -/
def gAdd (x y : D) : Option D := match x, y with
  | .int i, .int j => some (.int (i + j))
  | .lst _ xs, .lst _ ys => if xs.length + ys.length ≤ sizeLine then some (.lst true (xs ++ ys)) else none
  | .tup xs, .tup ys => if xs.length + ys.length ≤ sizeLine then some (.tup (xs ++ ys)) else none
  | _, _ => none
theorem OpR.orr {f : Value → Value → Sem Value} {r r' : R2} (h : OpR X f r) (h' : OpR X f r') : OpR X f (fun x y H Q => r x y H Q ∨ r' x y H Q) :=
  fun pins s σ H x y v u Q I rx ry q => q.elim (h pins s σ H x y v u Q I rx ry) (h' pins s σ H x y v u Q I rx ry)
theorem Same.upd {p : Addr} {o : HO} (hp : H p = none) : Same H (upd H p o) := fun b u q => by rw [upd_ne (ne_of_none q hp)]; exact q
def rAdd3 (K : PySem.W.Frag) : R2 := fun x y H Q => rI0 (fun i j => .int (i + j)) x y H Q ∨ rCat x y H Q ∨ rCatA K x y H Q
theorem op_add3 : OpR X (binaryOp .Add) (rAdd3 X.K) := OpR.orr op_add (OpR.orr op_cat op_catA)
theorem zip_app {ds es : List D} {vs ws : List V} (l : ds.length = vs.length) : (ds ++ es).zip (vs ++ ws) = ds.zip vs ++ es.zip ws := List.zip_append l
theorem impAdd : Imp2 K (rAdd3 K) gAdd := by
  intro H L x y d v w Q e r h
  unfold gAdd at e
  split at e
  · cases e
    have e2 := r.eq_int
    have e1 := r.drop.eq_int
    subst e1; subst e2
    exact .inl ⟨_, _, rfl, rfl, h _ H (Same.refl _) r.drop.drop.int⟩
  · rename_i o xs o' ys
    split at e
    · rename_i z
      cases e
      obtain ⟨b, ws, rfl, hb, lb, r1⟩ := r.readL
      have r2 : RepT K H ((.lst o xs, v) :: (ys.zip ws ++ L)) := r1.perm List.perm_middle
      obtain ⟨a, vs, rfl, ha, la, r3⟩ := r2.readL
      refine .inr (.inl ⟨a, b, vs, ws, rfl, rfl, ha, hb, by omega, fun p hp => h _ _ (Same.upd hp) ?_⟩)
      refine RepT.newL (by simp [la, lb]) hp ?_
      rw [zip_app la, List.append_assoc]
      exact r3
    · cases e
  · rename_i xs ys
    split at e
    · rename_i z
      cases e
      have r0 := r
      obtain ⟨b, ws, rfl, hb, lb, r1⟩ := r.openT
      have r2 : RepT K H ((.tup xs, v) :: (ys.zip ws ++ L)) := r1.perm List.perm_middle
      obtain ⟨a, vs, rfl, ha, la, r3⟩ := r2.openT
      refine .inr (.inr ⟨a, b, vs, ws, rfl, rfl, .inl (.inl ha), .inl (.inl hb), by omega, fun e1 => ?_, fun n1 e2 => ?_, fun n1 n2 p hp => h _ _ (Same.upd hp) ?_⟩)
      · have : xs = [] := List.eq_nil_of_length_eq_zero (by rw [la, e1]; rfl)
        subst this
        have r4 : RepT K H ((.tup ([] : List D), .ref a) :: (.tup ys, .ref b) :: L) := r0.perm (.swap _ _ _)
        exact h _ H (Same.refl _) r4.drop
      · have : ys = [] := List.eq_nil_of_length_eq_zero (by rw [lb, e2]; rfl)
        subst this
        rw [List.append_nil] at h
        exact h _ H (Same.refl _) r0.drop
      · refine RepT.newT (by simp [la, lb]) hp ?_
        rw [zip_app la, List.append_assoc]
        exact r3
    · cases e
  · cases e
/-- -a -/
def gNeg (x : D) : Option D := match x with
  | .int i => some (.int (-i))
  | _ => none
theorem impNeg : Imp1 K (rU fun i => .int (-i)) gNeg := by
  intro H L x d v Q e r h
  cases x <;> simp only [gNeg, Option.some.injEq, reduceCtorEq] at e
  subst e
  have e1 := r.eq_int
  subst e1
  exact ⟨_, rfl, h _ H (Same.refl _) r.drop.int⟩
/-! ### == and != of data -/
def eqD (x y : D) : Option Bool := match dat x, dat y with
  | some a, some b => if SeqAt.shaped a = true ∧ SeqAt.shaped b = true then some (PyData.eqv a b) else none
  | _, _ => none
def gEq (x y : D) : Option D := (eqD x y).map .bl
def gNe (x y : D) : Option D := (eqD x y).map fun b => .bl (!b)
theorem eqD_inv {x y : D} {b : Bool} (h : eqD x y = some b) : ∃ p q, dat x = some p ∧ dat y = some q ∧ SeqAt.shaped p = true ∧ SeqAt.shaped q = true ∧ b = PyData.eqv p q := by
  unfold eqD at h
  split at h
  · rename_i p q e1 e2
    split at h
    · rename_i z
      exact ⟨p, q, e1, e2, z.1, z.2, (Option.some.inj h).symm⟩
    · cases h
  · cases h
theorem impEq : Imp2 K (rEqD K) gEq := by
  intro H L x y d v w Q e r h
  obtain ⟨b, e1, rfl⟩ := Option.map_eq_some_iff.mp e
  obtain ⟨p, q, ep, eq, sp, sq, rfl⟩ := eqD_inv e1
  exact ⟨p, q, r.drop.dp ep, r.dp eq, sp, sq, h _ H (Same.refl _) r.drop.drop.bl⟩
theorem impNe : Imp2 K (rNeD K) gNe := by
  intro H L x y d v w Q e r h
  obtain ⟨b, e1, rfl⟩ := Option.map_eq_some_iff.mp e
  obtain ⟨p, q, ep, eq, sp, sq, rfl⟩ := eqD_inv e1
  exact ⟨p, q, r.drop.dp ep, r.dp eq, sp, sq, h _ H (Same.refl _) r.drop.drop.bl⟩
/-! is None -/
def gIsN (neg : Bool) (x y : D) : Option D := match x, y with
  | .unk, _ => none
  | .non, .non => some (.bl (!neg))
  | .hole, _ => none
  | _, .non => some (.bl neg)
  | _, _ => none
theorem gIsN_inv {neg : Bool} {x y d : D} {v w : V} (e : gIsN neg x y = some d) (r : RepT K H ((y, w) :: (x, v) :: L)) : w = .non ∧ d = .bl (if neg = true then !decide (v = .non) else decide (v = .non)) := by
  have r2 := r.drop
  cases y <;> cases x <;> simp only [gIsN, Option.some.injEq, reduceCtorEq] at e <;> subst e <;> refine ⟨r.eq_non, ?_⟩
  · rw [r2.eq_non]; cases neg <;> rfl
  · rw [r2.eq_bl]; cases neg <;> rfl
  · rw [r2.eq_int]; cases neg <;> rfl
  · rw [r2.eq_str]; cases neg <;> rfl
  · rw [r2.eq_adr]; cases neg <;> rfl
  · obtain ⟨F, A, sF, nd, fr, A1, A2, rfl, h1, o⟩ := r2
    rw [Ow] at h1
    obtain ⟨⟨a, _, _, rfl, _⟩, _⟩ := h1
    cases neg <;> rfl
  · obtain ⟨a, _, rfl, _⟩ := r2.openT; cases neg <;> rfl
  · obtain ⟨a, _, rfl, _⟩ := r2.readL; cases neg <;> rfl
  · obtain ⟨a, _, rfl, _⟩ := r2.openS; cases neg <;> rfl
  · obtain ⟨a, _, rfl, _⟩ := r2.openK; cases neg <;> rfl
  · obtain ⟨F, A, sF, nd, fr, A1, A2, rfl, h1, o⟩ := r2
    rename_i o1 _ _
    cases o1 <;> rw [Ow] at h1
    · obtain ⟨a, _, rfl, _⟩ := h1; cases neg <;> rfl
    · obtain ⟨a, _, _, rfl, _⟩ := h1; cases neg <;> rfl
  · obtain ⟨F, A, sF, nd, fr, A1, A2, rfl, h1, o⟩ := r2
    rename_i o1 _ _
    cases o1 <;> rw [Ow] at h1
    · obtain ⟨a, _, rfl, _⟩ := h1; cases neg <;> rfl
    · obtain ⟨a, _, _, rfl, _⟩ := h1; cases neg <;> rfl
  · obtain ⟨F, A, sF, nd, fr, A1, A2, rfl, h1, o⟩ := r2
    rw [Ow] at h1
    obtain ⟨a, _, rfl, _⟩ := h1; cases neg <;> rfl
  · obtain ⟨F, A, sF, nd, fr, A1, A2, rfl, h1, o⟩ := r2
    rw [Ow] at h1
    obtain ⟨a, _, rfl, _⟩ := h1; cases neg <;> rfl
  · obtain ⟨F, A, sF, nd, fr, A1, A2, rfl, h1, o⟩ := r2
    rw [Ow] at h1
    obtain ⟨⟨a, rfl, _⟩, _⟩ := h1; cases neg <;> rfl
theorem impIsN : Imp2 K (fun x y H Q => y = .non ∧ Q (.bl (decide (x = .non))) H) (gIsN false) := by
  intro H L x y d v w Q e r h
  obtain ⟨e1, rfl⟩ := gIsN_inv e r
  exact ⟨e1, h _ H (Same.refl _) r.drop.drop.bl⟩
theorem impNotN : Imp2 K (fun x y H Q => y = .non ∧ Q (.bl (!decide (x = .non))) H) (gIsN true) := by
  intro H L x y d v w Q e r h
  obtain ⟨e1, rfl⟩ := gIsN_inv e r
  exact ⟨e1, h _ H (Same.refl _) r.drop.drop.bl⟩
/-! ### subscripts -/
def seqOf : D → Option (List D)
  | .lst _ ds => some ds
  | .tup ds => some ds
  | .scr ds => some ds
  | .ktp ds => some ds
  | _ => none
theorem atI_inv {α : Type} {xs : List α} {i : Int} {x : α} (e : atI xs i = some x) : ∃ j : Nat, ixN xs.length i = some j ∧ xs[j]? = some x := by
  unfold atI at e
  cases q : ixN xs.length i with
  | none => rw [q] at e; cases e
  | some j => rw [q] at e; exact ⟨j, rfl, e⟩
theorem atI_of {α β : Type} {xs : List α} {ys : List β} {i : Int} {j : Nat} {y : β} (h : xs.length = ys.length) (q : ixN xs.length i = some j) (e : ys[j]? = some y) : atI ys i = some y := by
  unfold atI
  rw [← h, q]; exact e
theorem get_len {α β : Type} {xs : List α} {ys : List β} (h : xs.length = ys.length) {j : Nat} {x : α} (e : xs[j]? = some x) : ∃ y, ys[j]? = some y := by
  have hj := (List.getElem?_eq_some_iff.mp e).1
  exact ⟨ys[j]'(by omega), List.getElem?_eq_getElem _⟩
def gIx (x y : D) : Option D := match seqOf x, y with
  | some ds, .int i => atI ds i
  | _, _ => none
/-- a sequence, read: its place as a list or as a tuple -/
theorem RepT.seq {x : D} {ds : List D} {v : V} (e : seqOf x = some ds) (r : RepT K H ((x, v) :: L)) : ∃ a vs, v = .ref a ∧ (SqL K H a vs ∨ SqT K H a vs) ∧ ds.length = vs.length ∧ RepT K H (ds.zip vs ++ L) := by
  cases x <;> simp only [seqOf, Option.some.injEq, reduceCtorEq] at e <;> subst e
  · obtain ⟨a, vs, e, q, l, r2⟩ := r.openT
    exact ⟨a, vs, e, .inr (.inl (.inl q)), l, r2⟩
  · obtain ⟨a, vs, e, q, l, r2⟩ := r.readL
    exact ⟨a, vs, e, .inl (.inl (.inl q)), l, r2⟩
  · obtain ⟨a, vs, e, q, l, r2⟩ := r.openS
    exact ⟨a, vs, e, .inl q, l, r2⟩
  · obtain ⟨a, vs, e, q, l, r2⟩ := r.openK
    exact ⟨a, vs, e, .inr q, l, r2⟩
theorem impIx : Imp2 K (rIx K) gIx := by
  intro H L x y d v w Q e r h
  unfold gIx at e
  split at e
  · rename_i ds i es
    have ew := r.eq_int
    subst ew
    obtain ⟨a, vs, rfl, sq, l, r2⟩ := r.drop.seq es
    obtain ⟨j, h0, h1⟩ := atI_inv e
    obtain ⟨u, h2⟩ := get_len l h1
    have h3 := atI_of l h0 h2
    have r3 := r2.pick (zip_take h1 h2)
    rcases sq with sq | sq
    · exact .inl ⟨a, vs, i, u, rfl, rfl, sq, h3, h u H (Same.refl _) r3⟩
    · exact .inr (.inl ⟨a, vs, i, u, rfl, rfl, sq, h3, h u H (Same.refl _) r3⟩)
  · cases e
theorem ve_ix {a b : Expr} {fa fb : M D} {ma mb : Bool} {pos : Pos} (ha : VE X W ma a fa) (hb : VE X W mb b fb) (hs : PlainIx b := by exact fun _ _ => rfl) : VE X W (ma || mb) (.Subscript a b pos) (d2 gIx fa fb) :=
  PE.imp (pe_ix ix_seq ha hb hs) fun _ _ _ h => tOp_of impIx h
theorem OwL.item : ∀ {ds : List D} {vs : List V} {A : List Addr} {j : Nat} {d : D}, OwL K F H ds vs A → ds[j]? = some d → fz d = true → ∃ u, vs[j]? = some u ∧ Ow K F H d u []
  | [], _, _, _, _, _, e, _ => by simp at e
  | x :: ds, vs, A, j, d, h, e, z => by
    rw [OwL] at h
    obtain ⟨v, r, A1, A2, rfl, rfl, h1, h2⟩ := h
    cases j with
    | zero =>
      have e : x = d := Option.some.inj e
      subst e
      have := h1.frozen _ _ _ z
      subst this
      exact ⟨v, rfl, h1⟩
    | succ j => exact OwL.item (ds := ds) (j := j) h2 (by simpa using e) z
/-- a frozen item of a sequence, held beside it -/
theorem RepT.item {x d : D} {ds : List D} {v : V} {j : Nat} (r : RepT K H ((x, v) :: L)) (e : seqOf x = some ds) (h : ds[j]? = some d) (z : fz d = true) :
    ∃ a vs u, v = .ref a ∧ (SqL K H a vs ∨ SqT K H a vs) ∧ ds.length = vs.length ∧ vs[j]? = some u ∧ RepT K H ((d, u) :: (x, v) :: L) := by
  obtain ⟨F, A, sF, nd, fr, A1, A2, rfl, h1, o⟩ := r
  have fin : ∀ u, Ow K F H d u [] → RepT K H ((d, u) :: (x, v) :: L) := fun u hu => ⟨F, [] ++ (A1 ++ A2), sF, nd, fr, [], A1 ++ A2, rfl, hu, A1, A2, rfl, h1, o⟩
  cases x with
  | tup xs =>
    simp only [seqOf, Option.some.injEq] at e
    subst e
    have h1' := h1
    rw [Ow] at h1'
    obtain ⟨a, vs, ev, q, l⟩ := h1'
    obtain ⟨u, hu, ou⟩ := l.item h z
    exact ⟨a, vs, u, ev, .inr (.inl (.inl (sF _ _ q))), l.length, hu, fin u ou⟩
  | ktp xs =>
    simp only [seqOf, Option.some.injEq] at e
    subst e
    have h1' := h1
    rw [Ow] at h1'
    obtain ⟨a, vs, ev, q, l⟩ := h1'
    obtain ⟨u, hu, ou⟩ := l.item h z
    exact ⟨a, vs, u, ev, .inr (Same.sqT sF q), l.length, hu, fin u ou⟩
  | lst b xs =>
    simp only [seqOf, Option.some.injEq] at e
    subst e
    have h1' := h1
    cases b <;> rw [Ow] at h1'
    · obtain ⟨a, vs, ev, q, l⟩ := h1'
      obtain ⟨u, hu, ou⟩ := l.item h z
      exact ⟨a, vs, u, ev, .inl (.inl (.inl (sF _ _ q))), l.length, hu, fin u ou⟩
    · obtain ⟨a, vs, A', ev, q, l, _⟩ := h1'
      obtain ⟨u, hu, ou⟩ := l.item h z
      exact ⟨a, vs, u, ev, .inl (.inl (.inl q)), l.length, hu, fin u ou⟩
  | scr xs =>
    simp only [seqOf, Option.some.injEq] at e
    subst e
    have h1' := h1
    rw [Ow] at h1'
    obtain ⟨a, vs, ev, q, l⟩ := h1'
    obtain ⟨u, hu, ou⟩ := l.item h z
    exact ⟨a, vs, u, ev, .inl (sF.seq q), l.length, hu, fin u ou⟩
  | _ => cases e
/-- x[i], x a name: its item is frozen -/
def dIxS (i : Nat) (f : M D) : M D := fun ρ0 => match ρ0[i]? with
  | none => none
  | some .unk => none
  | some _ => bindM f (fun y ρ => match (ρ.getD i .unk), y with
    | x, .int k => match seqOf x with
      | some ds => match atI ds k with
        | some d => if fz d = true then some (.ok d ρ) else none
        | none => none
      | none => none
    | _, _ => none) ρ0
theorem ve_ixS {a b : Expr} {i : Nat} {f : M D} {pos : Pos} (ha : PE X a (tVar i)) (hb : VE X W m b f) (hs : PlainIx b := by exact fun _ _ => rfl) : VE X W m (.Subscript a b pos) (dIxS i f) := by
  refine PE.imp (pe_ix ix_seq ha hb hs) fun σ H Q ⟨T, ρ, u, rep, hf, he⟩ => ?_
  unfold dIxS at hf
  cases q : ρ[i]? with
  | none => rw [q] at hf; cases hf
  | some x0 =>
    have n : x0 ≠ .unk := fun e => by rw [q, e] at hf; cases hf
    obtain ⟨v, hv⟩ := rep.slot q n
    refine ⟨v, hv, ?_⟩
    have hf' := hf
    rw [q] at hf'
    have hf2 : bindM f (fun y ρ => match (ρ.getD i .unk), y with
      | x, .int k => match seqOf x with
        | some ds => match atI ds k with
          | some d => if fz d = true then some (.ok d ρ) else none
          | none => none
        | none => none
      | _, _ => none) ρ = some u := by
      cases x0 <;> first | exact hf' | exact absurd rfl n
    refine run1 rep hf2 he fun y ρ1 w H1 h1 s1 r1 => ?_
    cases y <;> simp only [reduceCtorEq] at h1
    rename_i k
    have ew := r1.rep.eq_int
    subst ew
    cases q2 : seqOf (ρ1.getD i .unk) with
    | none => rw [q2] at h1; cases h1
    | some ds =>
      rw [q2] at h1
      simp only at h1
      cases q3 : atI ds k with
      | none => rw [q3] at h1; cases h1
      | some d =>
        rw [q3] at h1
        simp only at h1
        by_cases z : fz d = true
        · rw [if_pos z] at h1
          have : u = .ok d ρ1 := (Option.some.inj h1).symm
          subst this
          have hi : i < ρ1.length := by
            rw [r1.len]; exact (List.getElem?_eq_some_iff.mp hv).1
          have e1 : ρ1[i]? = some (ρ1.getD i .unk) := by
            rw [List.getD_eq_getElem?_getD, List.getElem?_eq_getElem hi]; rfl
          obtain ⟨j, h0, h2⟩ := atI_inv q3
          have g := SL_get e1 hv
          have p : (T ++ SL ρ1 σ).Perm ((ρ1.getD i .unk, v) :: (T ++ (SL ρ1 σ).eraseIdx i)) := ((perm_erase g).append_left T).trans List.perm_middle
          obtain ⟨a, vs, u, rfl, sq, l, h3, r6⟩ := RepT.item (r1.drop.rep.perm p) q2 h2 z
          have fin : Rep X.K H1 ((d, u) :: T) ρ1 σ := ⟨r1.len, r1.nos, r6.perm (p.symm.cons _)⟩
          have h4 := atI_of l h0 h3
          rcases sq with sq | sq
          · exact .inl ⟨a, vs, k, u, rfl, rfl, sq, h4, he u H1 s1 fin⟩
          · exact .inr (.inl ⟨a, vs, k, u, rfl, rfl, sq, h4, he u H1 s1 fin⟩)
        · rw [if_neg z] at h1; cases h1
end
end VS

set_option Elab.async false
set_option linter.all false
set_option maxRecDepth 100000
set_option maxHeartbeats 4000000
set_option autoImplicit false
/-! VS5: built-in functions, slices, sorting, walks over enumerate and zip. -/
noncomputable section
namespace VS
open PySem PySem.Spec PyProof.Rows L2
section
variable {X : Cx} {W : WX} {K : PySem.W.Frag} {mg : Str → Option Value} {F H H1 : Hp} {T L : List (D × V)} {ρ ρ' : Env} {σ σ' σ'' : St} {m : Bool}
/-! ### len, abs, min, max, int -/
theorem CallR.orr {f : Value} {r r' : List V → Hp → VK → Prop} (h : CallR X f r) (h' : CallR X f r') : CallR X f (fun x H Q => r x H Q ∨ r' x H Q) :=
  fun pins s σ H xs us Q I rx q => q.elim (h pins s σ H xs us Q I rx) (h' pins s σ H xs us Q I rx)
def lenD : D → Option Nat
  | .str x => if x.length ≤ sizeLine then some x.length else none
  | .dK _ ks _ => some ks.length
  | .dT _ ks _ => some ks.length
  | d => (seqOf d).map List.length
def gLen (ds : List D) : Option D := match ds with
  | [d] => (lenD d).map fun (n : Nat) => D.int (n : Int)
  | _ => none
def rLen (K : PySem.W.Frag) : List V → Hp → VK → Prop := fun xs H Q => (∃ x n, xs = [x] ∧ LenV K x H n ∧ Q (.int n) H) ∨ (∃ a kvs, xs = [V.ref a] ∧ H a = some (.dK kvs) ∧ Q (.int kvs.length) H) ∨ rLenT xs H Q
theorem call_lenA : CallR X (.builtin "len") (rLen X.K) := CallR.orr call_len (CallR.orr call_lenD call_len_dT)
theorem RepT.dK {o : Bool} {ks : List Key} {ds : List D} {v : V} (h : RepT K H ((.dK o ks ds, v) :: L)) : ∃ a vs, v = .ref a ∧ H a = some (.dK (ks.zip vs)) ∧ ks.length = ds.length ∧ ks.Nodup ∧ ds.length = vs.length ∧ RepT K H (ds.zip vs ++ L) := by
  obtain ⟨F, A, sF, nd, fr, A1, A2, rfl, h1, ow⟩ := h
  cases o <;> rw [Ow] at h1
  · obtain ⟨a, vs, rfl, q, n, l⟩ := h1
    exact ⟨a, vs, rfl, sF _ _ q, n.1, n.2, l.length, F, A1 ++ A2, sF, nd, fr, l.toT.append ow⟩
  · obtain ⟨a, vs, A', rfl, q, n, l, rfl⟩ := h1
    have nd2 : (a :: (A' ++ A2)).Nodup := nd
    exact ⟨a, vs, rfl, q, n.1, n.2, l.length, F, A' ++ A2, sF, (List.nodup_cons.mp nd2).2, fun b hb => fr b (List.mem_cons_of_mem _ hb), l.toT.append ow⟩
theorem RepT.dT {o : Bool} {ks : List (List Key)} {ds : List D} {v : V} (h : RepT K H ((.dT o ks ds, v) :: L)) : ∃ a vs, v = .ref a ∧ H a = some (.dT (ks.zip vs)) ∧ ks.length = ds.length ∧ ks.Nodup ∧ ds.length = vs.length ∧ RepT K H (ds.zip vs ++ L) := by
  obtain ⟨F, A, sF, nd, fr, A1, A2, rfl, h1, ow⟩ := h
  cases o <;> rw [Ow] at h1
  · obtain ⟨a, vs, rfl, q, n, l⟩ := h1
    exact ⟨a, vs, rfl, sF _ _ q, n.1, n.2, l.length, F, A1 ++ A2, sF, nd, fr, l.toT.append ow⟩
  · obtain ⟨a, vs, A', rfl, q, n, l, rfl⟩ := h1
    have nd2 : (a :: (A' ++ A2)).Nodup := nd
    exact ⟨a, vs, rfl, q, n.1, n.2, l.length, F, A' ++ A2, sF, (List.nodup_cons.mp nd2).2, fun b hb => fr b (List.mem_cons_of_mem _ hb), l.toT.append ow⟩
theorem gLen_rd {d : D} {n : Nat} {v : V} {Q : VK} (e : lenD d = some n) (r : RepT K H ((d, v) :: L)) (h : Q (.int n) H) : rLen K [v] H Q := by
  have seq : ∀ {ds : List D}, seqOf d = some ds → n = ds.length → rLen K [v] H Q := fun {ds} es en => by
    obtain ⟨a, vs, rfl, sq, l, r2⟩ := r.seq es
    refine .inl ⟨.ref a, n, rfl, ?_, h⟩
    rcases sq with sq | sq
    · exact .inl ⟨vs, sq, by omega⟩
    · exact .inr ⟨vs, sq, by omega⟩
  cases d with
  | str x =>
    simp only [lenD] at e
    split at e
    · rename_i z
      have ev := r.eq_str
      subst ev
      exact .inl ⟨.str x, n, rfl, ⟨z, (Option.some.inj e).symm⟩, h⟩
    · cases e
  | dK o ks ds =>
    have en : n = ks.length := (Option.some.inj e).symm
    obtain ⟨a, vs, rfl, q, l1, _, l2, _⟩ := r.dK
    refine .inr (.inl ⟨a, _, rfl, q, ?_⟩)
    have : (ks.zip vs).length = n := by rw [List.length_zip]; omega
    rw [this]; exact h
  | dT o ks ds =>
    have en : n = ks.length := (Option.some.inj e).symm
    obtain ⟨a, vs, rfl, q, l1, _, l2, _⟩ := r.dT
    refine .inr (.inr ⟨a, _, rfl, q, ?_⟩)
    have : (ks.zip vs).length = n := by rw [List.length_zip]; omega
    rw [this]; exact h
  | tup ds => exact seq rfl (Option.some.inj e).symm
  | lst o ds => exact seq rfl (Option.some.inj e).symm
  | scr ds => exact seq rfl (Option.some.inj e).symm
  | ktp ds => exact seq rfl (Option.some.inj e).symm
  | _ => cases e
theorem impLen : ImpA K (rLen K) gLen := by
  intro H L ds vs d Q e l r h
  unfold gLen at e
  split at e
  · rename_i x
    obtain ⟨n, e1, rfl⟩ := Option.map_eq_some_iff.mp e
    obtain ⟨v, rfl⟩ := len1 l
    have r1 : RepT K H ((x, v) :: L) := r
    exact gLen_rd e1 r1 (h _ H (Same.refl _) r1.drop.int)
  · cases e
def gAbs (ds : List D) : Option D := match ds with
  | [.int i] => some (.int (if i < 0 then -i else i))
  | _ => none
theorem impAbs : ImpA K (fun xs H Q => ∃ i, xs = [.int i] ∧ Q (.int (if i < 0 then -i else i)) H) gAbs := by
  intro H L ds vs d Q e l r h
  unfold gAbs at e
  split at e
  · cases e
    obtain ⟨v, rfl⟩ := len1 l
    have e1 := RepT.eq_int r
    subst e1
    exact ⟨_, rfl, h _ H (Same.refl _) (RepT.int (RepT.drop r))⟩
  · cases e
def gMax2 (ds : List D) : Option D := match ds with
  | [.int i, .int j] => some (.int (if j > i then j else i))
  | _ => none
def gMin2 (ds : List D) : Option D := match ds with
  | [.int i, .int j] => some (.int (if j < i then j else i))
  | _ => none
theorem impMax2 : ImpA K (fun xs H Q => ∃ i j, xs = [.int i, .int j] ∧ Q (.int (if j > i then j else i)) H) gMax2 := by
  intro H L ds vs d Q e l r h
  unfold gMax2 at e
  split at e
  · cases e
    obtain ⟨v, w, rfl⟩ := len2 l
    have e1 := RepT.eq_int r
    have e2 := RepT.eq_int (RepT.drop r)
    subst e1; subst e2
    exact ⟨_, _, rfl, h _ H (Same.refl _) (RepT.int (RepT.drop (RepT.drop r)))⟩
  · cases e
theorem impMin2 : ImpA K (fun xs H Q => ∃ i j, xs = [.int i, .int j] ∧ Q (.int (if j < i then j else i)) H) gMin2 := by
  intro H L ds vs d Q e l r h
  unfold gMin2 at e
  split at e
  · cases e
    obtain ⟨v, w, rfl⟩ := len2 l
    have e1 := RepT.eq_int r
    have e2 := RepT.eq_int (RepT.drop r)
    subst e1; subst e2
    exact ⟨_, _, rfl, h _ H (Same.refl _) (RepT.int (RepT.drop (RepT.drop r)))⟩
  · cases e
def gIntOf (ds : List D) : Option D := match ds with
  | [.int i] => some (.int i)
  | [.bl b] => some (.int (if b then 1 else 0))
  | _ => none
theorem impIntOf : ImpA K (fun xs H Q => (∃ i, xs = [.int i] ∧ Q (.int i) H) ∨ ∃ k, xs = [.bl k] ∧ Q (.int (if k then 1 else 0)) H) gIntOf := by
  intro H L ds vs d Q e l r h
  unfold gIntOf at e
  split at e
  · cases e
    obtain ⟨v, rfl⟩ := len1 l
    have e1 := RepT.eq_int r
    subst e1
    exact .inl ⟨_, rfl, h _ H (Same.refl _) (RepT.int (RepT.drop r))⟩
  · cases e
    obtain ⟨v, rfl⟩ := len1 l
    have e1 := RepT.eq_bl r
    subst e1
    exact .inr ⟨_, rfl, h _ H (Same.refl _) (RepT.int (RepT.drop r))⟩
  · cases e
/-! ### sum, all, any of a list -/
def intOf : D → Option Int
  | .int i => some i
  | _ => none
def blOf : D → Option Bool
  | .bl b => some b
  | _ => none
def allI : List D → Option (List Int)
  | [] => some []
  | .int i :: ds => (allI ds).map (i :: ·)
  | _ => none
def allB : List D → Option (List Bool)
  | [] => some []
  | .bl i :: ds => (allB ds).map (i :: ·)
  | _ => none
theorem allI_eq : ∀ {ds : List D} {ns : List Int}, allI ds = some ns → ds = ns.map D.int
  | [], ns, h => by simp only [allI, Option.some.injEq] at h; subst h; rfl
  | .int i :: ds, ns, h => by
    rw [allI] at h
    obtain ⟨ms, e, rfl⟩ := Option.map_eq_some_iff.mp h
    rw [allI_eq e]; rfl
  | .unk :: _, _, h => by simp [allI] at h
  | .hole :: _, _, h => by simp [allI] at h
  | .non :: _, _, h => by simp [allI] at h
  | .bl _ :: _, _, h => by simp [allI] at h
  | .str _ :: _, _, h => by simp [allI] at h
  | .adr _ :: _, _, h => by simp [allI] at h
  | .exo _ _ :: _, _, h => by simp [allI] at h
  | .tup _ :: _, _, h => by simp [allI] at h
  | .lst _ _ :: _, _, h => by simp [allI] at h
  | .scr _ :: _, _, h => by simp [allI] at h
  | .ktp _ :: _, _, h => by simp [allI] at h
  | .dK _ _ _ :: _, _, h => by simp [allI] at h
  | .dT _ _ _ :: _, _, h => by simp [allI] at h
theorem allI_map : ∀ ns : List Int, allI (ns.map D.int) = some ns
  | [] => rfl
  | n :: ns => by rw [List.map_cons, allI, allI_map ns]; rfl
theorem allB_eq : ∀ {ds : List D} {ns : List Bool}, allB ds = some ns → ds = ns.map D.bl
  | [], ns, h => by simp only [allB, Option.some.injEq] at h; subst h; rfl
  | .bl i :: ds, ns, h => by
    rw [allB] at h
    obtain ⟨ms, e, rfl⟩ := Option.map_eq_some_iff.mp h
    rw [allB_eq e]; rfl
  | .unk :: _, _, h => by simp [allB] at h
  | .hole :: _, _, h => by simp [allB] at h
  | .non :: _, _, h => by simp [allB] at h
  | .int _ :: _, _, h => by simp [allB] at h
  | .str _ :: _, _, h => by simp [allB] at h
  | .adr _ :: _, _, h => by simp [allB] at h
  | .exo _ _ :: _, _, h => by simp [allB] at h
  | .tup _ :: _, _, h => by simp [allB] at h
  | .lst _ _ :: _, _, h => by simp [allB] at h
  | .scr _ :: _, _, h => by simp [allB] at h
  | .ktp _ :: _, _, h => by simp [allB] at h
  | .dK _ _ _ :: _, _, h => by simp [allB] at h
  | .dT _ _ _ :: _, _, h => by simp [allB] at h
theorem allB_map : ∀ ns : List Bool, allB (ns.map D.bl) = some ns
  | [] => rfl
  | n :: ns => by rw [List.map_cons, allB, allB_map ns]; rfl
theorem zip_int {ns : List Int} : ∀ {vs : List V} {L : List (D × V)}, ns.length = vs.length → RepT K H ((ns.map D.int).zip vs ++ L) → vs = ns.map V.int := by
  induction ns with
  | nil => intro vs L l r; exact List.eq_nil_of_length_eq_zero l.symm
  | cons n ns ih =>
    intro vs L l r
    cases vs with
    | nil => cases l
    | cons v vs =>
      have r1 : RepT K H ((.int n, v) :: ((ns.map D.int).zip vs ++ L)) := r
      rw [r1.eq_int, ih (Nat.succ.inj l) r1.drop]; rfl
theorem zip_bl {ns : List Bool} : ∀ {vs : List V} {L : List (D × V)}, ns.length = vs.length → RepT K H ((ns.map D.bl).zip vs ++ L) → vs = ns.map V.bl := by
  induction ns with
  | nil => intro vs L l r; exact List.eq_nil_of_length_eq_zero l.symm
  | cons n ns ih =>
    intro vs L l r
    cases vs with
    | nil => cases l
    | cons v vs =>
      have r1 : RepT K H ((.bl n, v) :: ((ns.map D.bl).zip vs ++ L)) := r
      rw [r1.eq_bl, ih (Nat.succ.inj l) r1.drop]; rfl
def lstOf : D → Option (List D)
  | .lst _ ds => some ds
  | .scr ds => some ds
  | _ => none
theorem RepT.list {x : D} {ds : List D} {v : V} (e : lstOf x = some ds) (r : RepT K H ((x, v) :: L)) : ∃ a vs, v = .ref a ∧ SqL K H a vs ∧ ds.length = vs.length ∧ RepT K H (ds.zip vs ++ L) := by
  cases x <;> simp only [lstOf, Option.some.injEq, reduceCtorEq] at e <;> subst e
  · obtain ⟨a, vs, e, q, l, r2⟩ := r.readL
    exact ⟨a, vs, e, .inl (.inl q), l, r2⟩
  · exact r.openS
def gSum (ds : List D) : Option D := match ds with
  | [x] => (lstOf x).bind fun xs => (allI xs).map fun ns => .int ns.sum
  | _ => none
def gAll (ds : List D) : Option D := match ds with
  | [x] => (lstOf x).bind fun xs => (allB xs).map fun ns => .bl (ns.all id)
  | _ => none
def gAny (ds : List D) : Option D := match ds with
  | [x] => (lstOf x).bind fun xs => (allB xs).map fun ns => .bl (ns.any id)
  | _ => none
theorem impSum : ImpA K (rSum K) gSum := by
  intro H L ds vs d Q e l r h
  unfold gSum at e
  split at e
  · rename_i x
    obtain ⟨xs, e1, e2⟩ := Option.bind_eq_some_iff.mp e
    obtain ⟨ns, e3, rfl⟩ := Option.map_eq_some_iff.mp e2
    obtain ⟨v, rfl⟩ := len1 l
    have r1 : RepT K H ((x, v) :: L) := r
    obtain ⟨a, ws, rfl, sq, l2, r2⟩ := r1.list e1
    rw [allI_eq e3] at l2 r2
    have := zip_int (by rw [← l2, List.length_map]) r2
    subst this
    exact ⟨a, ns, rfl, sq, h _ H (Same.refl _) (RepT.int r1.drop)⟩
  · cases e
theorem impAll : ImpA K (rAll K) gAll := by
  intro H L ds vs d Q e l r h
  unfold gAll at e
  split at e
  · rename_i x
    obtain ⟨xs, e1, e2⟩ := Option.bind_eq_some_iff.mp e
    obtain ⟨ns, e3, rfl⟩ := Option.map_eq_some_iff.mp e2
    obtain ⟨v, rfl⟩ := len1 l
    have r1 : RepT K H ((x, v) :: L) := r
    obtain ⟨a, ws, rfl, sq, l2, r2⟩ := r1.list e1
    rw [allB_eq e3] at l2 r2
    have := zip_bl (by rw [← l2, List.length_map]) r2
    subst this
    exact ⟨a, ns, rfl, sq, h _ H (Same.refl _) (RepT.bl r1.drop)⟩
  · cases e
theorem impAny : ImpA K (rAny K) gAny := by
  intro H L ds vs d Q e l r h
  unfold gAny at e
  split at e
  · rename_i x
    obtain ⟨xs, e1, e2⟩ := Option.bind_eq_some_iff.mp e
    obtain ⟨ns, e3, rfl⟩ := Option.map_eq_some_iff.mp e2
    obtain ⟨v, rfl⟩ := len1 l
    have r1 : RepT K H ((x, v) :: L) := r
    obtain ⟨a, ws, rfl, sq, l2, r2⟩ := r1.list e1
    rw [allB_eq e3] at l2 r2
    have := zip_bl (by rw [← l2, List.length_map]) r2
    subst this
    exact ⟨a, ns, rfl, sq, h _ H (Same.refl _) (RepT.bl r1.drop)⟩
  · cases e
/-! ### list(x), tuple(x) -/
def gList (ds : List D) : Option D := match ds with
  | [x] => (seqOf x).map fun xs => .lst true xs
  | _ => none
def gTuple (ds : List D) : Option D := match ds with
  | [.ktp xs] => some (.ktp xs)
  | [x] => (seqOf x).map fun xs => .tup xs
  | _ => none
theorem impList : ImpA K (fun xs H Q => ∃ p ys, xs = [.ref p] ∧ (SqL K H p ys ∨ SqT K H p ys) ∧ ∀ l, H l = none → Q (.ref l) (upd H l (.lst ys))) gList := by
  intro H L ds vs d Q e l r h
  unfold gList at e
  split at e
  · rename_i x
    obtain ⟨xs, e1, rfl⟩ := Option.map_eq_some_iff.mp e
    obtain ⟨v, rfl⟩ := len1 l
    have r1 : RepT K H ((x, v) :: L) := r
    obtain ⟨a, ws, rfl, sq, l2, r2⟩ := r1.seq e1
    exact ⟨a, ws, rfl, sq, fun p hp => h _ _ (Same.upd hp) (RepT.newL l2 hp r2)⟩
  · cases e
theorem impTuple : ImpA K (fun xs H Q => ∃ p ys, xs = [.ref p] ∧ ((SqL K H p ys ∧ ∀ l, H l = none → Q (.ref l) (upd H l (.tup ys))) ∨ (SqT K H p ys ∧ Q (.ref p) H))) gTuple := by
  intro H L ds vs d Q e l r h
  unfold gTuple at e
  split at e
  · cases e
    obtain ⟨v, rfl⟩ := len1 l
    have r1 : RepT K H ((.ktp _, v) :: L) := r
    obtain ⟨a, ws, rfl, sq, l2, r2⟩ := r1.openK
    exact ⟨a, ws, rfl, .inr ⟨sq, h _ H (Same.refl _) r1⟩⟩
  · rename_i x nk
    obtain ⟨xs, e1, rfl⟩ := Option.map_eq_some_iff.mp e
    obtain ⟨v, rfl⟩ := len1 l
    have r1 : RepT K H ((x, v) :: L) := r
    cases x with
    | tup ys =>
      simp only [seqOf, Option.some.injEq] at e1
      subst e1
      obtain ⟨a, ws, rfl, sq, l2, r2⟩ := r1.openT
      exact ⟨a, ws, rfl, .inr ⟨.inl (.inl sq), h _ H (Same.refl _) r1⟩⟩
    | lst o ys =>
      simp only [seqOf, Option.some.injEq] at e1
      subst e1
      obtain ⟨a, ws, rfl, sq, l2, r2⟩ := r1.readL
      exact ⟨a, ws, rfl, .inl ⟨.inl (.inl sq), fun p hp => h _ _ (Same.upd hp) (RepT.newT l2 hp r2)⟩⟩
    | scr ys =>
      simp only [seqOf, Option.some.injEq] at e1
      subst e1
      obtain ⟨a, ws, rfl, sq, l2, r2⟩ := r1.openS
      exact ⟨a, ws, rfl, .inl ⟨sq, fun p hp => h _ _ (Same.upd hp) (RepT.newT l2 hp r2)⟩⟩
    | ktp ys => exact absurd rfl (nk ys)
    | _ => cases e1
  · cases e
/-! ### slices -/
def cutD (xs : List D) (lo hi : Option Int) : List D := (xs.drop (HT.sIx xs.length 0 lo)).take (HT.sIx xs.length xs.length hi - HT.sIx xs.length 0 lo)
def gSlice (x : D) (lo hi : Option Int) : Option D := match x with
  | .lst _ ds => some (.lst true (cutD ds lo hi))
  | .scr ds => some (.lst true (cutD ds lo hi))
  | .tup ds => some (.tup (cutD ds lo hi))
  | _ => none
theorem cut_perm {xs : List D} {vs : List V} (l : xs.length = vs.length) (lo hi : Option Int) : (cutD xs lo hi).length = (cutV vs lo hi).length ∧ ∃ R, (xs.zip vs).Perm ((cutD xs lo hi).zip (cutV vs lo hi) ++ R) := by
  unfold cutD cutV
  rw [l]
  generalize HT.sIx vs.length 0 lo = a
  generalize HT.sIx vs.length vs.length hi - a = n
  refine ⟨by simp [l], (xs.zip vs).take a ++ ((xs.zip vs).drop a).drop n, ?_⟩
  have e1 : ((xs.drop a).take n).zip ((vs.drop a).take n) = ((xs.zip vs).drop a).take n := by
    unfold List.zip
    rw [List.drop_zipWith, List.take_zipWith]
  rw [e1]
  have e2 : xs.zip vs = (xs.zip vs).take a ++ (((xs.zip vs).drop a).take n ++ ((xs.zip vs).drop a).drop n) := by
    rw [List.take_append_drop, List.take_append_drop]
  rw (occs := .pos [1]) [e2]
  rw [← List.append_assoc, ← List.append_assoc]
  exact List.perm_append_comm.append_right _
theorem cut_rep {xs : List D} {vs : List V} {lo hi : Option Int} (l : xs.length = vs.length) (r : RepT K H (xs.zip vs ++ L)) : RepT K H ((cutD xs lo hi).zip (cutV vs lo hi) ++ L) := by
  obtain ⟨_, R, p⟩ := cut_perm l lo hi
  have r2 := r.perm (p.append_right L)
  have r3 : RepT K H (R ++ ((cutD xs lo hi).zip (cutV vs lo hi) ++ L)) := r2.perm (by
    rw [← List.append_assoc]
    exact List.perm_append_comm.append_right L)
  exact r3.dropL
theorem SlR.orr {r r' : V → Option Int → Option Int → Hp → VK → Prop} (h : L2.SlR X r) (h' : L2.SlR X r') : L2.SlR X (fun x lo hi H Q => r x lo hi H Q ∨ r' x lo hi H Q) := L2.SlR.or h h'
/-- the ends of a slice -/
def VO (X : Cx) (W : WX) (m : Bool) (e : Option Expr) (f : M (Option Int)) : Prop := PO X e (fun σ H Q => ∃ T ρ r, Rep X.K H T ρ σ ∧ f ρ = some r ∧ endR X.K X.mg W T σ (fun o ρ' => ∀ H', (m = false → Same H H') → Rep X.K H' T ρ' σ → Q o H') r)
theorem PO.imp {e : Option Expr} {t t' : TO} (h : PO X e t) (i : ∀ σ H Q, t' σ H Q → t σ H Q) : PO X e t' := ⟨fun pins s σ H Q I q => h.run pins s σ H Q I (i σ H Q q)⟩
def dNo : M (Option Int) := retM none
def dEnd (f : M D) : M (Option Int) := bindM f fun d => optM ((intOf d).map some)
theorem vo_none : VO X W false none dNo := PO.imp po_none fun σ H Q ⟨T, ρ, u, rep, hf, he⟩ => by
  have : u = .ok none ρ := (Option.some.inj hf).symm
  subst this
  exact he H (fun _ => Same.refl _) rep
theorem vo_some {e : Expr} {f : M D} (h : VE X W m e f) : VO X W m (some e) (dEnd f) := by
  refine PO.imp (po_some h) fun σ H Q ⟨T, ρ, u, rep, hf, he⟩ => ?_
  refine run1 rep hf he fun d ρ1 v H1 h1 s1 r1 => ?_
  obtain ⟨o, e, rfl⟩ := optM_some h1
  cases d <;> simp only [intOf, Option.map_none, Option.map_some, Option.some.injEq, reduceCtorEq] at e
  subst e
  have e1 := r1.rep.eq_int
  subst e1
  exact ⟨_, rfl, he H1 s1 r1.drop⟩
def dSl (fa : M D) (fl fh : M (Option Int)) : M D := bindM fa fun x => bindM fl fun lo => bindM fh fun hi => optM (gSlice x lo hi)
theorem ve_slice {e : Expr} {lo hi : Option Expr} {fa : M D} {fl fh : M (Option Int)} {ma ml mh : Bool} {p2 pos : Pos} (ha : VE X W ma e fa) (hl : VO X W ml lo fl) (hh : VO X W mh hi fh) : VE X W (ma || ml || mh) (.Subscript e (.Slice lo hi none p2) pos) (dSl fa fl fh) := by
  refine PE.imp (pe_slice (SlR.orr sl_list sl_tupA) ha hl hh) fun σ H Q ⟨T, ρ, u, rep, hf, he⟩ => ?_
  refine run1 rep hf he fun x ρ1 v H1 h1 s1 r1 => ?_
  unfold bindM at h1
  cases q1 : fl ρ1 with
  | none => rw [q1] at h1; cases h1
  | some w1 =>
    rw [q1] at h1
    refine ⟨_, ρ1, w1, r1, q1, ?_⟩
    cases w1 with
    | ex z ρ2 =>
      have : u = .ex z ρ2 := (Option.some.inj h1).symm
      subst this
      exact exE.push he
    | ok lo ρ2 =>
      intro H2 s2 r2
      simp only at h1
      cases q2 : fh ρ2 with
      | none => rw [q2] at h1; cases h1
      | some w2 =>
        rw [q2] at h1
        refine ⟨_, ρ2, w2, r2, q2, ?_⟩
        cases w2 with
        | ex z ρ3 =>
          have : u = .ex z ρ3 := (Option.some.inj h1).symm
          subst this
          exact exE.push he
        | ok hi ρ3 =>
          intro H3 s3 r3
          obtain ⟨d, e, rfl⟩ := optM_some h1
          have sm := sm_or (sm_or s1 s2) s3
          cases x with
          | lst o ds =>
            simp only [gSlice, Option.some.injEq] at e
            subst e
            obtain ⟨a, vs, rfl, sq, l, rr⟩ := RepT.readL r3.rep
            exact .inl ⟨a, vs, rfl, .inl (.inl sq), fun p hp => he _ _ (sm_r sm (Same.upd hp)) ⟨r3.len, r3.nos, RepT.newL (cut_perm l lo hi).1 hp (cut_rep l rr)⟩⟩
          | scr ds =>
            simp only [gSlice, Option.some.injEq] at e
            subst e
            obtain ⟨a, vs, rfl, sq, l, rr⟩ := RepT.openS r3.rep
            exact .inl ⟨a, vs, rfl, sq, fun p hp => he _ _ (sm_r sm (Same.upd hp)) ⟨r3.len, r3.nos, RepT.newL (cut_perm l lo hi).1 hp (cut_rep l rr)⟩⟩
          | tup ds =>
            simp only [gSlice, Option.some.injEq] at e
            subst e
            obtain ⟨a, vs, rfl, sq, l, rr⟩ := RepT.openT r3.rep
            refine .inr ⟨a, vs, rfl, .inl (.inl sq), fun z => ?_, fun z p hp => he _ _ (sm_r sm (Same.upd hp)) ⟨r3.len, r3.nos, RepT.newT (cut_perm l lo hi).1 hp (cut_rep l rr)⟩⟩
            have : cutD ds lo hi = ds := by
              unfold cutD
              rw [l, z.1, z.2]
              rw [List.drop_zero, Nat.sub_zero, ← l, List.take_length]
            rw [this] at he
            exact he _ H3 sm r3
          | _ => cases e
/-! ### sorted -/
def leD (x y : D) : Bool := PySem.W.dataLe false (fun d => (dat d).getD .none) x y
def alikeB (es : List PyData) : Bool := es.all fun x => es.all fun y => PySem.W.alike x y
def sortB (es : List PyData) : Bool := (es.all fun d => match d with | .tuple (_ :: _) => true | _ => false) || es.all fun d => match d with | .none => false | .tuple _ => false | _ => true
def sortD (ds : List D) : Option (List D) := match dats ds with
  | none => none
  | some es => if (alikeB es && sortB es && es.all fun e => decide (e.depth ≤ 60)) = true ∧ ds.length ≤ sizeLine then some (ds.mergeSort leD) else none
theorem alikeB_ok {es : List PyData} (h : alikeB es = true) : PySem.W.AllAlike es := fun d hd d' hd' => by
  unfold alikeB at h
  rw [List.all_eq_true] at h
  have := h d hd
  rw [List.all_eq_true] at this
  exact this d' hd'
theorem sortB_ok {es : List PyData} (h : sortB es = true) : PySem.W.Sortable es := by
  unfold sortB at h
  rw [Bool.or_eq_true, List.all_eq_true, List.all_eq_true] at h
  rcases h with h | h
  · refine .inl fun d hd => ?_
    have := h d hd
    split at this
    · exact ⟨_, _, rfl⟩
    · cases this
  · refine .inr fun d hd => ?_
    have := h d hd
    split at this
    · cases this
    · cases this
    · rename_i n1 n2
      exact ⟨n1, n2⟩
def rSortA (K : PySem.W.Frag) : List V → Hp → VK → Prop := fun xs H Q => ∃ (a : Addr) (ps : List (D × V)) (es : List PyData), xs = [.ref a] ∧ SqL K H a (ps.map (·.2)) ∧ ps.length ≤ sizeLine ∧
  dats (ps.map (·.1)) = some es ∧ DpAll K H (ps.map (·.2)) es ∧ PySem.W.AllAlike es ∧ PySem.W.Sortable es ∧ (∀ e ∈ es, e.depth ≤ 60) ∧ ∀ p, H p = none → Q (.ref p) (upd H p (.lst ((ps.mergeSort fun x y => leD x.1 y.1).map (·.2))))
theorem dats_eq : ∀ {ds : List D} {es : List PyData}, dats ds = some es → es = ds.map fun d => (dat d).getD .none
  | [], es, h => by rw [dats] at h; cases h; rfl
  | d :: ds, es, h => by
    rw [dats] at h
    cases e1 : dat d with
    | none => rw [e1] at h; cases h
    | some y =>
      cases e2 : dats ds with
      | none => rw [e1, e2] at h; cases h
      | some ys =>
        rw [e1, e2] at h
        cases h
        rw [List.map_cons, e1, dats_eq e2]; rfl
theorem each_rel : ∀ {ps : List (D × V)} {its : List Value}, Vals (ps.map (·.2)) its → PySem.W.EachIs (fun v (p : D × V) => RelV p.2 v) its ps
  | [], _, .nil => .nil
  | p :: ps, _, .cons r t => .cons r (each_rel t)
theorem each_back : ∀ {ps : List (D × V)} {its : List Value}, PySem.W.EachIs (fun v (p : D × V) => RelV p.2 v) its ps → Vals (ps.map (·.2)) its
  | _, _, .nil => .nil
  | _, _, .cons r t => .cons r (each_back t)
theorem each_reads {pins : List (Addr × Obj)} {s : Shared} (I : Inv X pins σ H s) : ∀ {ps : List (D × V)} {its : List Value} {es : List PyData}, dats (ps.map (·.1)) = some es → DpAll X.K H (ps.map (·.2)) es → Vals (ps.map (·.2)) its →
    PySem.W.EachIs (fun v (p : D × V) => ∃ as, Reads s.heap v ((dat p.1).getD .none) as) its ps
  | [], _, _, _, _, .nil => .nil
  | p :: ps, _, es, h, hd, .cons r t => by
    rw [List.map_cons, dats] at h
    cases e1 : dat p.1 with
    | none => rw [e1] at h; cases h
    | some y =>
      cases e2 : dats (ps.map (·.1)) with
      | none => rw [e1, e2] at h; cases h
      | some ys =>
        rw [e1, e2] at h
        cases h
        cases hd with
        | cons d1 d2 => exact .cons (by rw [e1]; exact Dp.reads I _ _ _ d1 r) (each_reads I e2 d2 t)
theorem cr_sortA (hu : X.A.units + 64 < cLine) : CallR X (.builtin "sorted") (rSortA X.K) := by
  intro pins s σ H xs us Q I r h
  obtain ⟨a, ps, es, rfl, hs, hz, he, hd, hal, hso, hdp, q⟩ := h
  obtain ⟨its, rv, hl, _⟩ := I.list hs
  rw [Vals.ref1 r]
  have ee := dats_eq he
  have em : ps.map (fun p : D × V => (dat p.1).getD .none) = es := by rw [ee, List.map_map]; rfl
  refine PySem.W.sorted_data (R := fun v (p : D × V) => RelV p.2 v) (enc := fun p : D × V => (dat p.1).getD .none) (bs := ps) hl.isList (each_rel rv) (each_reads I he hd rv) (by rw [em]; exact hal) (by rw [em]; exact hso) hz (fun b hb => ?_) fun out hlen ho => ?_
  · have : (dat b.1).getD .none ∈ es := by rw [← em]; exact List.mem_map.mpr ⟨b, hb, rfl⟩
    have := hdp _ this
    omega
  · obtain ⟨ep, he'⟩ := PyProof.Rows.sortedAll_at s.heap its out.toArray
    have vo := each_back ho
    have hlen2 : ((ps.mergeSort fun x y => leD x.1 y.1).map (·.2)).length ≤ sizeLine := by rw [List.length_map, List.length_mergeSort]; exact hz
    exact ⟨.ref _, upd H (s.heap.objs.size + 1) (.lst ((ps.mergeSort fun x y => leD x.1 y.1).map (·.2))), I.laid (t' := s.toks) (fun _ _ => PyProof.Rows.sortedAll_old) (Nat.le_succ _) ⟨hlen2, out, ep, vo, he'⟩, rfl, q _ (I.hok.fresh (Nat.le_succ _))⟩
def gSort (ds : List D) : Option D := match ds with
  | [x] => (lstOf x).bind fun xs => (sortD xs).map fun ys => .lst true ys
  | _ => none
theorem zip_fst {ds : List D} {vs : List V} (l : ds.length = vs.length) : (ds.zip vs).map (·.1) = ds := by
  rw [List.map_fst_zip (by omega)]
theorem zip_snd {ds : List D} {vs : List V} (l : ds.length = vs.length) : (ds.zip vs).map (·.2) = vs := by
  rw [List.map_snd_zip (by omega)]
theorem zip_maps (ps : List (D × V)) : (ps.map (·.1)).zip (ps.map (·.2)) = ps := by
  induction ps with
  | nil => rfl
  | cons p ps ih => rw [List.map_cons, List.map_cons, List.zip_cons_cons, ih]
theorem RepT.dpAll {ds : List D} {vs : List V} {es : List PyData} (l : ds.length = vs.length) (r : RepT K H (ds.zip vs ++ L)) (e : dats ds = some es) : DpAll K H vs es := by
  obtain ⟨F, A, sF, nd, fr, o⟩ := r
  obtain ⟨A1, A2, rfl, o1, _⟩ := o.split
  exact (o1.toL l).dp sF _ _ _ _ e
theorem impSort : ImpA K (rSortA K) gSort := by
  intro H L ds vs d Q e l r h
  unfold gSort at e
  split at e
  · rename_i x
    obtain ⟨xs, e1, e2⟩ := Option.bind_eq_some_iff.mp e
    obtain ⟨ys, e3, rfl⟩ := Option.map_eq_some_iff.mp e2
    obtain ⟨v, rfl⟩ := len1 l
    have r1 : RepT K H ((x, v) :: L) := r
    obtain ⟨a, ws, rfl, sq, l2, r2⟩ := r1.list e1
    unfold sortD at e3
    split at e3
    · cases e3
    · rename_i es ed
      split at e3
      · rename_i z
        cases e3
        obtain ⟨z1, z2⟩ := z
        rw [Bool.and_eq_true, Bool.and_eq_true, List.all_eq_true] at z1
        have es1 : (xs.zip ws).map (·.1) = xs := zip_fst l2
        have es2 : (xs.zip ws).map (·.2) = ws := zip_snd l2
        refine ⟨a, xs.zip ws, es, rfl, by rw [es2]; exact sq, by rw [List.length_zip]; omega, by rw [es1]; exact ed, by rw [es2]; exact r2.dpAll l2 ed, alikeB_ok z1.1.1, sortB_ok z1.1.2, fun e he => of_decide_eq_true (z1.2 e he), fun p hp => h _ _ (Same.upd hp) ?_⟩
        have em : xs.mergeSort leD = ((xs.zip ws).mergeSort fun x y => leD x.1 y.1).map (·.1) := by
          have := List.map_mergeSort (f := fun p : D × V => p.1) (r := fun x y => leD x.1 y.1) (s := leD) (l := xs.zip ws) (fun _ _ _ _ => rfl)
          rw [this, es1]
        rw [em]
        refine RepT.newL (by rw [List.length_map, List.length_map]) hp ?_
        rw [zip_maps]
        exact r2.perm ((List.mergeSort_perm _ _).symm.append_right L)
      · cases e3
  · cases e
/-! ### what enumerate and zip give -/
def enumD (ds : List D) : List D := (List.range ds.length).map fun (i : Nat) => .tup [.int i, ds.getD i .unk]
theorem enum_get {ds : List D} {i : Nat} {d : D} (h : (enumD ds)[i]? = some d) : ∃ x, ds[i]? = some x ∧ d = .tup [.int i, x] := by
  unfold enumD at h
  rw [List.getElem?_map] at h
  cases q : (List.range ds.length)[i]? with
  | none => rw [q] at h; cases h
  | some j =>
    rw [q] at h
    have ⟨h1, h2⟩ := List.getElem?_eq_some_iff.mp q
    rw [List.getElem_range] at h2
    subst h2
    rw [List.length_range] at h1
    refine ⟨ds[i], List.getElem?_eq_getElem h1, ?_⟩
    have := Option.some.inj h
    rw [← this]
    show D.tup [D.int i, ds.getD i D.unk] = _
    rw [List.getD_eq_getElem?_getD, List.getElem?_eq_getElem h1]; rfl
theorem itE {a : Addr} {ds : List D} {x : D} (z : fz x = true) (hx : lstOf x = some ds) (zl : fzL ds = true) : ItOk K (Ite K a) [(x, .ref a)] (enumD ds) := by
  have len : (enumD ds).length = ds.length := by simp [enumD]
  have rd : ∀ H L, RepT K H ((x, .ref a) :: L) → ∃ vs, SqL K H a vs ∧ ds.length = vs.length ∧ RepT K H (ds.zip vs ++ ((x, .ref a) :: L)) := fun H L h => by
    obtain ⟨b, vs, e, sq, l, r⟩ := RepT.list hx (RepT.dup z h)
    cases e
    exact ⟨vs, sq, l, r⟩
  refine ⟨fun i H L hi h => ?_, fun H L h => ?_, fun i H L y H' d h e yl => ?_⟩
  · obtain ⟨vs, sq, l, _⟩ := rd H L h
    rw [len] at hi
    exact ⟨vs, vs[i]'(by omega), sq, List.getElem?_eq_getElem _⟩
  · obtain ⟨vs, sq, l, _⟩ := rd H L h
    exact ⟨vs, sq, by omega⟩
  · obtain ⟨T, w, rfl, nT, rfl, hw⟩ := yl
    obtain ⟨vs, sq, l, r⟩ := rd H L h
    obtain ⟨u, hu, rfl⟩ := enum_get e
    have r2 := r.pick (zip_take hu (hw vs sq))
    exact RepT.newT (ds := [.int i, u]) (vs := [.int i, w]) rfl nT (RepT.int r2)
def dEnum (f : M (List D)) : M (List D) := bindM f fun ds => optM (match ds with
  | [x] => (lstOf (freeze x)).bind fun xs => if fzL xs = true ∧ fz (freeze x) = true then some (enumD xs) else none
  | _ => none)
theorem vi_enum {elts : List Expr} {kk : Nat} {e : Expr} {f : M (List D)} {p pos tpos : Pos} (hg : Gl X "enumerate") (hm : X.mg "enumerate" = none) (ha : VA X W m [e] f) (hs : starEach [e] X.env = [(false, eval e X.env)] := by rfl) : VI X W (.Tuple elts kk tpos) (.Call (.Name "enumerate" p) [e] [] pos) (dEnum f) := by
  refine PI.imp (pi_enum hg hm ha hs) fun σ H R ⟨T, ρ, u, rep, hf, he⟩ => ?_
  refine runA rep hf he fun ds ρ1 vs H1 h1 s1 l1 r1 => ?_
  obtain ⟨out, e, rfl⟩ := optM_some h1
  split at e
  · rename_i x
    obtain ⟨xs, e1, e2⟩ := Option.bind_eq_some_iff.mp e
    split at e2
    · rename_i z
      cases e2
      obtain ⟨v, rfl⟩ := len1 l1
      have r2 : RepT X.K H1 ((freeze x, v) :: (T ++ SL ρ1 σ)) := RepT.freeze r1.rep
      obtain ⟨a, vs, rfl, sq, l, _⟩ := r2.list e1
      exact ⟨a, vs, rfl, sq, he _ _ H1 (itE z.2 e1 z.1) ⟨r1.len, r1.nos, r2⟩⟩
    · cases e2
  · cases e
def zipD : List D → List D → List D
  | x :: xs, y :: ys => .tup [x, y] :: zipD xs ys
  | _, _ => []
theorem zipD_len : ∀ (xs ys : List D), (zipD xs ys).length = min xs.length ys.length
  | [], _ => by simp [zipD]
  | _ :: _, [] => by simp [zipD]
  | x :: xs, y :: ys => by simp [zipD, zipD_len xs ys, Nat.succ_min_succ]
theorem zipD_get : ∀ {xs ys : List D} {i : Nat} {d : D}, (zipD xs ys)[i]? = some d → ∃ x y, xs[i]? = some x ∧ ys[i]? = some y ∧ d = .tup [x, y]
  | [], _, _, _, h => by simp [zipD] at h
  | _ :: _, [], _, _, h => by simp [zipD] at h
  | x :: xs, y :: ys, 0, d, h => ⟨x, y, rfl, rfl, (Option.some.inj h).symm⟩
  | x :: xs, y :: ys, i + 1, d, h => zipD_get (xs := xs) (ys := ys) h
theorem itZ {a b : Addr} {xs ys : List D} {x y : D} (zx : fz x = true) (zy : fz y = true) (hx : lstOf x = some xs) (hy : lstOf y = some ys) : ItOk K (Itz K a b) [(x, .ref a), (y, .ref b)] (zipD xs ys) := by
  have rd : ∀ H L, RepT K H ((x, .ref a) :: (y, .ref b) :: L) → ∃ vs ws, SqL K H a vs ∧ SqL K H b ws ∧ xs.length = vs.length ∧ ys.length = ws.length ∧ RepT K H (xs.zip vs ++ (ys.zip ws ++ ((x, .ref a) :: (y, .ref b) :: L))) := fun H L h => by
    have h1 := RepT.dup zx h
    have h2 : RepT K H ((y, .ref b) :: (x, .ref a) :: (x, .ref a) :: L) := h1.perm (by
      exact ((List.Perm.swap (y, V.ref b) (x, V.ref a) L).cons _).trans (List.Perm.swap _ _ _))
    have h3 := RepT.dup zy h2
    obtain ⟨b', ws, e, sq, l, r⟩ := RepT.list hy h3
    cases e
    have h4 : RepT K H ((x, .ref a) :: (ys.zip ws ++ ((y, .ref b) :: (x, .ref a) :: L))) := r.perm (by
      refine ((List.Perm.append_left _ ((List.Perm.swap (x, V.ref a) (y, V.ref b) ((x, V.ref a) :: L)))).trans ?_)
      exact List.perm_middle)
    obtain ⟨a', vs, e, sq', l', r'⟩ := RepT.list hx h4
    cases e
    exact ⟨vs, ws, sq', sq, l', l, r'.perm (List.Perm.append_left _ (List.Perm.append_left _ (.swap _ _ _)))⟩
  refine ⟨fun i H L hi h => ?_, fun H L h => ?_, fun i H L v H' d h e yl => ?_⟩
  · obtain ⟨vs, ws, sq, sq', l, l', _⟩ := rd H L h
    rw [zipD_len] at hi
    exact ⟨vs, ws, vs[i]'(by omega), ws[i]'(by omega), sq, sq', List.getElem?_eq_getElem _, List.getElem?_eq_getElem _⟩
  · obtain ⟨vs, ws, sq, sq', l, l', _⟩ := rd H L h
    rw [zipD_len]
    exact ⟨vs, ws, sq, sq', by omega⟩
  · obtain ⟨T, v1, v2, rfl, nT, rfl, hw, hw'⟩ := yl
    obtain ⟨vs, ws, sq, sq', l, l', r⟩ := rd H L h
    obtain ⟨u, u', hu, hu', rfl⟩ := zipD_get e
    have r2 := r.pick (zip_take hu (hw vs sq))
    have r3 : RepT K H (ys.zip ws ++ ((u, v1) :: (x, .ref a) :: (y, .ref b) :: L)) := r2.perm List.perm_middle.symm
    have r4 := r3.pick (zip_take hu' (hw' ws sq'))
    exact RepT.newT (ds := [u, u']) (vs := [v1, v2]) rfl nT (r4.perm (.swap _ _ _))
theorem itZT {a b : Addr} {xs ys : List D} (zx : fzL xs = true) (zy : fzL ys = true) : ItOk K (RZ.ItzT K a b) [(.tup xs, .ref a), (.tup ys, .ref b)] (zipD xs ys) := by
  have zx : fz (.tup xs) = true := by rw [fz]; exact zx
  have zy : fz (.tup ys) = true := by rw [fz]; exact zy
  have rd : ∀ H L, RepT K H ((.tup xs, .ref a) :: (.tup ys, .ref b) :: L) → ∃ vs ws, SqT K H a vs ∧ SqT K H b ws ∧ xs.length = vs.length ∧ ys.length = ws.length ∧ RepT K H (xs.zip vs ++ (ys.zip ws ++ ((.tup xs, .ref a) :: (.tup ys, .ref b) :: L))) := fun H L h => by
    have h1 := RepT.dup zx h
    have h2 : RepT K H ((.tup ys, .ref b) :: (.tup xs, .ref a) :: (.tup xs, .ref a) :: L) := h1.perm (by
      exact ((List.Perm.swap (D.tup ys, V.ref b) (D.tup xs, V.ref a) L).cons _).trans (List.Perm.swap _ _ _))
    have h3 := RepT.dup zy h2
    obtain ⟨b', ws, e, sq, l, r⟩ := RepT.openT h3
    cases e
    have h4 : RepT K H ((.tup xs, .ref a) :: (ys.zip ws ++ ((.tup ys, .ref b) :: (.tup xs, .ref a) :: L))) := r.perm (by
      refine ((List.Perm.append_left _ ((List.Perm.swap (D.tup xs, V.ref a) (D.tup ys, V.ref b) ((D.tup xs, V.ref a) :: L)))).trans ?_)
      exact List.perm_middle)
    obtain ⟨a', vs, e, sq', l', r'⟩ := RepT.openT h4
    cases e
    exact ⟨vs, ws, .inl (.inl sq'), .inl (.inl sq), l', l, r'.perm (List.Perm.append_left _ (List.Perm.append_left _ (.swap _ _ _)))⟩
  refine ⟨fun i H L hi h => ?_, fun H L h => ?_, fun i H L v H' d h e yl => ?_⟩
  · obtain ⟨vs, ws, sq, sq', l, l', _⟩ := rd H L h
    rw [zipD_len] at hi
    exact ⟨vs, ws, vs[i]'(by omega), ws[i]'(by omega), sq, sq', List.getElem?_eq_getElem _, List.getElem?_eq_getElem _⟩
  · obtain ⟨vs, ws, sq, sq', l, l', _⟩ := rd H L h
    rw [zipD_len]
    exact ⟨vs, ws, sq, sq', by omega⟩
  · obtain ⟨T, v1, v2, rfl, nT, rfl, hw, hw'⟩ := yl
    obtain ⟨vs, ws, sq, sq', l, l', r⟩ := rd H L h
    obtain ⟨u, u', hu, hu', rfl⟩ := zipD_get e
    have r2 := r.pick (zip_take hu (hw vs sq))
    have r3 : RepT K H (ys.zip ws ++ ((u, v1) :: (.tup xs, .ref a) :: (.tup ys, .ref b) :: L)) := r2.perm List.perm_middle.symm
    have r4 := r3.pick (zip_take hu' (hw' ws sq'))
    exact RepT.newT (ds := [u, u']) (vs := [v1, v2]) rfl nT (r4.perm (.swap _ _ _))
def zipOf (ds : List D) : Option (List D) := match ds with
  | [x, y] => match freeze x, freeze y with
    | .tup xs, .tup ys => if fzL xs = true ∧ fzL ys = true then some (zipD xs ys) else none
    | x', y' => match lstOf x', lstOf y' with
      | some xs, some ys => if fz x' = true ∧ fz y' = true then some (zipD xs ys) else none
      | _, _ => none
  | _ => none
def dZip (f : M (List D)) : M (List D) := bindM f fun ds => optM (zipOf ds)
theorem zipOf_inv {ds out : List D} (h : zipOf ds = some out) : ∃ x y xs ys, ds = [x, y] ∧ out = zipD xs ys ∧ fz (freeze x) = true ∧ fz (freeze y) = true ∧ ((freeze x = .tup xs ∧ freeze y = .tup ys) ∨ (lstOf (freeze x) = some xs ∧ lstOf (freeze y) = some ys)) := by
  unfold zipOf at h
  split at h
  · rename_i x y
    split at h
    · rename_i xs ys e1 e2
      split at h
      · rename_i z
        cases h
        exact ⟨x, y, xs, ys, rfl, rfl, by rw [e1, fz]; exact z.1, by rw [e2, fz]; exact z.2, .inl ⟨e1, e2⟩⟩
      · cases h
    · split at h
      · rename_i xs ys e1 e2
        split at h
        · rename_i z
          cases h
          exact ⟨x, y, xs, ys, rfl, rfl, z.1, z.2, .inr ⟨e1, e2⟩⟩
        · cases h
      · cases h
  · cases h
theorem vi_zip {elts : List Expr} {kk : Nat} {e e2 : Expr} {f : M (List D)} {p pos tpos : Pos} (hg : Gl X "zip") (hm : X.mg "zip" = none) (ha : VA X W m [e, e2] f)
    (hs : starEach [e, e2] X.env = (false, eval e X.env) :: starEach [e2] X.env := by rfl) (hpl : (backTo pos (starEach [e2] X.env)).any (·.1) = false := by rfl) : VI X W (.Tuple elts kk tpos) (.Call (.Name "zip" p) [e, e2] [] pos) (dZip f) := by
  refine PI.imp (RZ.pi_zipA hg hm ha hs hpl) fun σ H R ⟨T, ρ, u, rep, hf, he⟩ => ?_
  refine runA rep hf he fun ds ρ1 vs H1 h1 s1 l1 r1 => ?_
  obtain ⟨out, e, rfl⟩ := optM_some h1
  obtain ⟨x, y, xs, ys, rfl, rfl, zx, zy, hh⟩ := zipOf_inv e
  obtain ⟨v, w, rfl⟩ := len2 l1
  have r2 : RepT X.K H1 ((freeze x, v) :: (y, w) :: (T ++ SL ρ1 σ)) := RepT.freeze r1.rep
  have r3 : RepT X.K H1 ((freeze y, w) :: (freeze x, v) :: (T ++ SL ρ1 σ)) := RepT.freeze (r2.perm (.swap _ _ _))
  have r4 : RepT X.K H1 ((freeze x, v) :: (freeze y, w) :: (T ++ SL ρ1 σ)) := r3.perm (.swap _ _ _)
  rcases hh with ⟨e1, e2⟩ | ⟨e1, e2⟩
  · rw [e1, e2] at r3 r4
    rw [e1, fz] at zx
    rw [e2, fz] at zy
    obtain ⟨a, vs1, rfl, sq1, _, _⟩ := r4.openT
    obtain ⟨b, vs2, rfl, sq2, _, _⟩ := r3.openT
    exact ⟨a, b, vs1, vs2, rfl, .inr ⟨.inl (.inl sq1), .inl (.inl sq2), he _ _ H1 (itZT zx zy) ⟨r1.len, r1.nos, r4⟩⟩⟩
  · obtain ⟨a, vs1, rfl, sq1, _, _⟩ := r4.list e1
    obtain ⟨b, vs2, rfl, sq2, _, _⟩ := r3.list e2
    exact ⟨a, b, vs1, vs2, rfl, .inl ⟨sq1, sq2, he _ _ H1 (itZ zx zy e1 e2) ⟨r1.len, r1.nos, r4⟩⟩⟩
end
end VS

set_option Elab.async false
set_option linter.all false
set_option maxRecDepth 100000
set_option maxHeartbeats 4000000
set_option autoImplicit false
/-! VS6: lists changed at a name, dicts, isinstance. -/
noncomputable section
namespace VS
open PySem PySem.Spec PyProof.Rows L2
section
variable {X : Cx} {W : WX} {K : PySem.W.Frag} {mg : Str → Option Value} {F H H1 : Hp} {T L : List (D × V)} {ρ ρ' : Env} {σ σ' σ'' : St} {m : Bool}
/-! ### methods of a list at a name -/
def ImpM (K : PySem.W.Frag) (r : V → List V → Hp → VK → Prop) (g : List D → List D → Option (D × List D)) : Prop :=
  ∀ H L xs xs' ds vs d a Q, g xs ds = some (d, xs') → ds.length = vs.length → RepT K H ((.lst true xs, .ref a) :: (ds.zip vs ++ L)) → (∀ u H', RepT K H' ((d, u) :: (.lst true xs', .ref a) :: L) → Q u H') → r (.ref a) vs H Q
def isLst : Option D → Bool
  | some (.lst _ _) => true
  | _ => false
def mutL (i : Nat) (g : List D → List D → Option (D × List D)) (ds : List D) : M D := fun ρ => match ρ[i]? with
  | some (.lst true xs) => match g xs ds with
    | some (d, xs') => some (.ok d (ρ.set i (.lst true xs')))
    | none => none
  | _ => none
def dMt (i : Nat) (g : List D → List D → Option (D × List D)) (f : M (List D)) : M D := fun ρ0 => if isLst ρ0[i]? = true then bindM f (mutL i g) ρ0 else none
theorem mutL_inv {i : Nat} {g : List D → List D → Option (D × List D)} {ds : List D} {u : Rv D} (h : mutL i g ds ρ = some u) : ∃ xs d xs', ρ[i]? = some (.lst true xs) ∧ g xs ds = some (d, xs') ∧ u = .ok d (ρ.set i (.lst true xs')) := by
  unfold mutL at h
  split at h
  · rename_i xs e
    split at h
    · rename_i d xs' e2
      exact ⟨xs, d, xs', e, e2, (Option.some.inj h).symm⟩
    · cases h
  · cases h
theorem mut_rep {i : Nat} {g : List D → List D → Option (D × List D)} {r : V → List V → Hp → VK → Prop} {xs xs' ds : List D} {d : D} {vs : List V} {v : V} {Q : VK} (hg : ImpM K r g) (rep : Rep K H (ds.zip vs ++ T) ρ σ) (hi : ρ[i]? = some (.lst true xs)) (hv : σ[i]? = some (some v)) (l : ds.length = vs.length)
    (e : g xs ds = some (d, xs')) (q : ∀ u H', Rep K H' ((d, u) :: T) (ρ.set i (.lst true xs')) σ → Q u H') : r v vs H Q := by
  have r1 := rep.take hi hv
  have hv1 := hv
  obtain ⟨a, _, rfl, _⟩ := RepT.openL r1.rep
  refine hg H (T ++ SL (ρ.set i .unk) σ) xs xs' ds vs d a Q e l (by
    have := r1.rep
    rw [show ((D.lst true xs, V.ref a) :: (ds.zip vs ++ T)) ++ SL (ρ.set i .unk) σ = (D.lst true xs, V.ref a) :: (ds.zip vs ++ (T ++ SL (ρ.set i .unk) σ)) by simp] at this
    exact this) fun u H' r2 => ?_
  have r3 : Rep K H' ((.lst true xs', .ref a) :: (d, u) :: T) (ρ.set i .unk) σ := ⟨r1.len, r1.nos, r2.perm (.swap _ _ _)⟩
  have r4 := r3.put hv
  rw [List.set_set] at r4
  exact q u H' r4
theorem ve_mt {name id : String} {o : Expr} {i : Nat} {r : V → List V → Hp → VK → Prop} {g : List D → List D → Option (D × List D)} {f : M (List D)} {e : Expr} {es : List Expr} {apos cpos : Pos} (slot : Slot "list" (Str.ofString name) id) (hty : typeOf (.builtin id) = pure (.type "method_descriptor")) (hm : MtR X id r) (hg : ImpM X.K r g)
    (ho : PE X o (tVar i)) (ha : VA X W m (e :: es) f) (hbase : attributeBase o (Str.ofString name) X.env (eval o X.env) = eval o X.env := by rfl)
    (hfew : ((backTo cpos (starEach (e :: es) X.env)).all (fun x => !x.1) && (backToKw cpos (keywordEach [] X.env)).all (fun x => x.1.isSome)
      && decide ((e :: es).length + ([] : List Keyword).length + (if ([] : List Keyword).isEmpty then 0 else 1) < 30)) = true := by rfl)
    (hline : (apos.endLine == cpos.line) = true := by rfl) (hs : starEach (e :: es) X.env = (false, eval e X.env) :: starEach es X.env := by rfl) (hplain : (backTo cpos (starEach es X.env)).any (·.1) = false := by rfl) :
    VE X W true (.Call (.Attribute o (Str.ofString name) apos) (e :: es) [] cpos) (dMt i g f) := by
  refine PE.imp (pe_bm PySem.F.plainAttrs_list slot hty hm ho ha hbase hfew hline hs hplain) fun σ H Q ⟨T, ρ, u, rep, hf, he⟩ => ?_
  unfold dMt at hf
  cases q : ρ[i]? with
  | none => rw [q] at hf; cases hf
  | some x =>
    rw [q] at hf
    cases x <;> simp only [isLst, Bool.false_eq_true, if_false, reduceCtorEq] at hf
    rename_i o xs0
    simp only [if_true] at hf
    obtain ⟨v, hv⟩ := rep.slot q (by intro z; cases z)
    obtain ⟨a, vs0, rfl, hq, _, _⟩ := RepT.readL (rep.take q hv).rep
    refine ⟨.ref a, hv, .inl ⟨rfl, _, .inl (.inl hq)⟩, ?_⟩
    refine runA rep hf he fun ds ρ1 vs H1 h1 s1 l1 r1 => ?_
    obtain ⟨xs, d, xs', e1, e2, rfl⟩ := mutL_inv h1
    exact mut_rep hg r1 e1 hv l1 e2 fun u H' r2 => he u H' (fun z => by cases z) r2
theorem ve_mt0 {name id : String} {o : Expr} {i : Nat} {r : V → List V → Hp → VK → Prop} {g : List D → List D → Option (D × List D)} {apos cpos : Pos} (slot : Slot "list" (Str.ofString name) id) (hty : typeOf (.builtin id) = pure (.type "method_descriptor")) (hm : MtR X id r) (hg : ImpM X.K r g)
    (ho : PE X o (tVar i)) (hbase : attributeBase o (Str.ofString name) X.env (eval o X.env) = eval o X.env := by rfl) (hline : (apos.endLine == cpos.line) = true := by rfl) :
    VE X W true (.Call (.Attribute o (Str.ofString name) apos) [] [] cpos) (dMt i g dNil) := by
  refine PE.imp (pe_bm0 PySem.F.plainAttrs_list slot hty hm ho hbase hline) fun σ H Q ⟨T, ρ, u, rep, hf, he⟩ => ?_
  unfold dMt at hf
  cases q : ρ[i]? with
  | none => rw [q] at hf; cases hf
  | some x =>
    rw [q] at hf
    cases x <;> simp only [isLst, Bool.false_eq_true, if_false, reduceCtorEq] at hf
    rename_i o xs0
    simp only [if_true] at hf
    obtain ⟨v, hv⟩ := rep.slot q (by intro z; cases z)
    obtain ⟨a, vs0, rfl, hq, _, _⟩ := RepT.readL (rep.take q hv).rep
    refine ⟨.ref a, hv, .inl ⟨rfl, _, .inl (.inl hq)⟩, ?_⟩
    have hf : mutL i g [] ρ = some u := hf
    obtain ⟨xs, d, xs', e1, e2, rfl⟩ := mutL_inv hf
    exact mut_rep (ds := []) (vs := []) hg rep e1 hv rfl e2 fun u H' r2 => he u H' (fun z => by cases z) r2
def gApp (xs ds : List D) : Option (D × List D) := match ds with
  | [d] => if xs.length < sizeLine then some (.non, xs ++ [d]) else none
  | _ => none
theorem impApp : ImpM K rAppend gApp := by
  intro H L xs xs' ds vs d a Q e l r h
  unfold gApp at e
  split at e
  · rename_i y
    split at e
    · rename_i z
      cases e
      obtain ⟨v, rfl⟩ := len1 l
      have r0 : RepT K H ((.lst true xs, .ref a) :: (y, v) :: L) := r
      obtain ⟨ws, hq, lw, r2⟩ := RepT.push (r0.perm (.swap _ _ _))
      exact ⟨a, ws, v, rfl, rfl, hq, by omega, h _ _ (RepT.non r2)⟩
    · cases e
  · cases e
def gIns (xs ds : List D) : Option (D × List D) := match ds with
  | [.int i, d] => if xs.length < sizeLine ∧ 0 ≤ i ∧ in63 i then some (.non, xs.take i.toNat ++ [d] ++ xs.drop i.toNat) else none
  | _ => none
theorem impIns : ImpM K (fun x vs H Q => ∃ (l : Addr) (xs : List V) (i : Int) (y : V), x = .ref l ∧ vs = [.int i, y] ∧ H l = some (.lst xs) ∧ xs.length < sizeLine ∧ 0 ≤ i ∧ i < 2 ^ 63 ∧
    Q .non (upd H l (.lst (xs.take i.toNat ++ [y] ++ xs.drop i.toNat)))) gIns := by
  intro H L xs xs' ds vs d a Q e l r h
  unfold gIns at e
  split at e
  · rename_i i y
    split at e
    · rename_i z
      cases e
      obtain ⟨v, w, rfl⟩ := len2 l
      have r0 : RepT K H ((.lst true xs, .ref a) :: (.int i, v) :: (y, w) :: L) := r
      have r1 : RepT K H ((.int i, v) :: (.lst true xs, .ref a) :: (y, w) :: L) := r0.perm (.swap _ _ _)
      have ev := r1.eq_int
      subst ev
      obtain ⟨b, ws, eb, hq, lw, r2⟩ := r1.drop.openL
      cases eb
      refine ⟨a, ws, i, w, rfl, rfl, hq, by omega, z.2.1, z.2.2.hi, h _ _ (RepT.non (RepT.closeL (by simp [lw]) ?_))⟩
      refine r2.perm (List.Perm.cons _ ?_)
      have ez : xs.zip ws = (xs.take i.toNat).zip (ws.take i.toNat) ++ (xs.drop i.toNat).zip (ws.drop i.toNat) := by
        rw [← zip_app (by simp [lw]), List.take_append_drop, List.take_append_drop]
      rw [ez, zip_app (by simp [lw]), zip_app (by simp [lw])]
      rw [List.append_assoc, List.append_assoc, List.append_assoc]
      refine List.Perm.append_left _ ?_
      show ((xs.drop i.toNat).zip (ws.drop i.toNat) ++ ((y, w) :: L)).Perm ((y, w) :: ((xs.drop i.toNat).zip (ws.drop i.toNat) ++ L))
      exact List.perm_middle
    · cases e
  · cases e
def gExt (xs ds : List D) : Option (D × List D) := match ds with
  | [.lst _ ys] => if xs.length + ys.length ≤ sizeLine then some (.non, xs ++ ys) else none
  | _ => none
theorem impExt : ImpM K rExtend gExt := by
  intro H L xs xs' ds vs d a Q e l r h
  unfold gExt at e
  split at e
  · rename_i o ys
    split at e
    · rename_i z
      cases e
      obtain ⟨v, rfl⟩ := len1 l
      have r0 : RepT K H ((.lst o ys, v) :: (.lst true xs, .ref a) :: L) := (show RepT K H ((.lst true xs, .ref a) :: (.lst o ys, v) :: L) from r).perm (.swap _ _ _)
      obtain ⟨b, zs, rfl, hb, lz, r1⟩ := r0.readL
      have r2 : RepT K H ((.lst true xs, .ref a) :: (ys.zip zs ++ L)) := r1.perm List.perm_middle
      obtain ⟨a', ws, ea, hq, lw, r3⟩ := r2.openL
      cases ea
      refine ⟨a, b, ws, zs, rfl, rfl, hq, hb, by omega, h _ _ (RepT.non (RepT.closeL (by simp [lw, lz]) ?_))⟩
      rw [zip_app lw, List.append_assoc]
      exact r3
    · cases e
  · cases e
def gPop (xs ds : List D) : Option (D × List D) := match ds with
  | [.int i] => if in63 i then (match ixN xs.length i with
    | some k => (xs[k]?).map fun y => (y, xs.eraseIdx k)
    | none => none) else none
  | _ => none
theorem impPop : ImpM K rPopAt gPop := by
  intro H L xs xs' ds vs d a Q e l r h
  unfold gPop at e
  split at e
  · rename_i i
    split at e
    · rename_i z
      split at e
      · rename_i k ek
        obtain ⟨y, ey, ee⟩ := Option.map_eq_some_iff.mp e
        injection ee with ee1 ee2
        subst ee1
        subst ee2
        obtain ⟨v, rfl⟩ := len1 l
        have r0 : RepT K H ((.int i, v) :: (.lst true xs, .ref a) :: L) := (show RepT K H ((.lst true xs, .ref a) :: (.int i, v) :: L) from r).perm (.swap _ _ _)
        have ev := r0.eq_int
        subst ev
        obtain ⟨a', ws, ea, hq, lw, r3⟩ := r0.drop.openL
        cases ea
        obtain ⟨w, hw⟩ := get_len lw ey
        have sx := (ixN_seq ek).1
        refine ⟨a, ws, i, k, w, rfl, rfl, hq, z.lo, z.hi, by rw [← lw]; exact sx, hw, h _ _ ?_⟩
        have p := (perm_erase (zip_take ey hw)).append_right L
        have r4 : RepT K H ((.hole, .ref a) :: (y, w) :: ((xs.zip ws).eraseIdx k ++ L)) := r3.perm (p.cons _)
        have r5 : RepT K H ((.hole, .ref a) :: ((xs.eraseIdx k).zip (ws.eraseIdx k) ++ ((y, w) :: L))) := by
          refine r4.perm (List.Perm.cons _ ?_)
          have ez : (xs.zip ws).eraseIdx k = (xs.eraseIdx k).zip (ws.eraseIdx k) := by
            rw [List.eraseIdx_eq_take_drop_succ, List.eraseIdx_eq_take_drop_succ, List.eraseIdx_eq_take_drop_succ, zip_app (by simp [lw])]
            unfold List.zip
            rw [List.take_zipWith, List.drop_zipWith]
          rw [ez]
          exact List.perm_middle.symm
        have lk : (xs.eraseIdx k).length = (ws.eraseIdx k).length := by rw [List.length_eraseIdx, List.length_eraseIdx, lw]
        exact (RepT.closeL lk r5).perm (.swap _ _ _)
      · cases e
    · cases e
  · cases e
def gRev (xs ds : List D) : Option (D × List D) := match ds with
  | [] => some (.non, xs.reverse)
  | _ => none
def gClr (xs ds : List D) : Option (D × List D) := match ds with
  | [] => some (.non, [])
  | _ => none
/-! ### keys -/
def keyD : D → Option Key
  | .int i => some (.inl i)
  | .str x => some (.inr x)
  | _ => none
def keysD : List D → Option (List Key)
  | [] => some []
  | d :: ds => match keyD d, keysD ds with
    | some k, some ks => some (k :: ks)
    | _, _ => none
theorem keyD_rep {d : D} {k : Key} {v : V} (e : keyD d = some k) (r : RepT K H ((d, v) :: L)) : v = kV k := by
  cases d <;> simp only [keyD, Option.some.injEq, reduceCtorEq] at e <;> subst e
  · exact r.eq_int
  · exact r.eq_str
theorem keysD_rep : ∀ {ds : List D} {ks : List Key} {vs : List V} {L : List (D × V)}, keysD ds = some ks → ds.length = vs.length → RepT K H (ds.zip vs ++ L) → vs = ks.map kV
  | [], ks, vs, L, e, l, r => by
    rw [keysD] at e; cases e
    exact List.eq_nil_of_length_eq_zero l.symm
  | d :: ds, ks, [], L, e, l, r => by cases l
  | d :: ds, ks, v :: vs, L, e, l, r => by
    rw [keysD] at e
    cases e1 : keyD d with
    | none => rw [e1] at e; cases e
    | some k =>
      cases e2 : keysD ds with
      | none => rw [e1, e2] at e; cases e
      | some k2 =>
        rw [e1, e2] at e
        cases e
        have r1 : RepT K H ((d, v) :: (ds.zip vs ++ L)) := r
        rw [keyD_rep e1 r1, keysD_rep e2 (Nat.succ.inj l) r1.drop]; rfl
def look {κ α : Type} [DecidableEq κ] : List κ → List α → κ → Option α
  | k' :: ks, a :: as, k => if k' = k then some a else look ks as k
  | _, _, _ => none
def putL {κ α : Type} [DecidableEq κ] : List κ → List α → κ → α → List κ × List α
  | k' :: ks, a :: as, k, v => if k' = k then (k' :: ks, v :: as) else (k' :: (putL ks as k v).1, a :: (putL ks as k v).2)
  | _, _, k, v => ([k], [v])
section
variable {κ : Type} [DecidableEq κ]
theorem valV_look : ∀ (ks : List κ) (vs : List V) (k : κ), valV (ks.zip vs) k = look ks vs k
  | [], _, _ => by simp [look, valV]
  | _ :: _, [], _ => by simp [look, valV]
  | k' :: ks, v :: vs, k => by
    rw [List.zip_cons_cons, look]
    by_cases e : k' = k
    · rw [valV_pos (p := (k', v)) e, if_pos e]
    · rw [valV_neg (p := (k', v)) e, if_neg e, valV_look ks vs k]
theorem putL_keys {α : Type} : ∀ (ks : List κ) (as : List α) (k : κ) (a : α), ks.length = as.length → (putL ks as k a).1 = if k ∈ ks then ks else ks ++ [k]
  | [], [], k, a, _ => by simp [putL]
  | [], _ :: _, k, a, h => by cases h
  | _ :: _, [], k, a, h => by cases h
  | k' :: ks, x :: as, k, a, h => by
    rw [putL]
    by_cases e : k' = k
    · rw [if_pos e, if_pos (by simp [e])]
    · have e' : ¬ k = k' := fun z => e z.symm
      rw [if_neg e]
      show k' :: (putL ks as k a).1 = _
      rw [putL_keys ks as k a (Nat.succ.inj h)]
      by_cases hm : k ∈ ks
      · rw [if_pos hm, if_pos (List.mem_cons_of_mem _ hm)]
      · rw [if_neg hm, if_neg (by simp [e', hm])]; rfl
theorem putL_len {α : Type} : ∀ (ks : List κ) (as : List α) (k : κ) (a : α), ks.length = as.length → (putL ks as k a).1.length = (putL ks as k a).2.length
  | [], [], k, a, _ => by simp [putL]
  | [], _ :: _, k, a, h => by cases h
  | _ :: _, [], k, a, h => by cases h
  | k' :: ks, x :: as, k, a, h => by
    rw [putL]
    by_cases e : k' = k
    · rw [if_pos e]; exact h
    · rw [if_neg e]
      show ((putL ks as k a).1.length + 1) = ((putL ks as k a).2.length + 1)
      rw [putL_len ks as k a (Nat.succ.inj h)]
theorem putK_putL : ∀ (ks : List κ) (vs : List V) (k : κ) (v : V), ks.length = vs.length → ks.Nodup → putK (ks.zip vs) k v = (putL ks vs k v).1.zip (putL ks vs k v).2
  | [], [], k, v, _, _ => by simp [putL, putK]
  | [], _ :: _, k, v, h, _ => by cases h
  | _ :: _, [], k, v, h, _ => by cases h
  | k' :: ks, x :: vs, k, v, h, nd => by
    obtain ⟨n1, n2⟩ := List.nodup_cons.mp nd
    have ih := putK_putL ks vs k v (Nat.succ.inj h) n2
    rw [putL]
    by_cases e : k' = k
    · subst e
      rw [if_pos rfl]
      unfold putK
      rw [if_pos (by simp)]
      show (if k' = k' then (k', v) else (k', x)) :: _ = (k', v) :: ks.zip vs
      rw [if_pos rfl]
      congr 1
      have : ∀ p ∈ ks.zip vs, (if p.1 = k' then (p.1, v) else p) = p := fun p hp => by
        rw [if_neg]
        intro z
        exact n1 (z ▸ (List.of_mem_zip (a := p.1) (b := p.2) hp).1)
      show List.map (fun kv : κ × V => if kv.1 = k' then (kv.1, v) else kv) (ks.zip vs) = ks.zip vs
      rw [List.map_congr_left this]
      simp
    · rw [if_neg e]
      show _ = (k', x) :: (putL ks vs k v).1.zip (putL ks vs k v).2
      rw [← ih]
      unfold putK
      have ea : ((k' :: ks).zip (x :: vs)).any (fun kv => decide (kv.1 = k)) = (ks.zip vs).any fun kv => decide (kv.1 = k) := by simp [e]
      rw [ea]
      by_cases hm : ((ks.zip vs).any fun kv => decide (kv.1 = k)) = true
      · rw [if_pos hm, if_pos hm]
        show (if k' = k then (k', v) else (k', x)) :: _ = _
        rw [if_neg e]
        rfl
      · rw [if_neg hm, if_neg hm]; rfl
theorem putL_nodup {α : Type} {ks : List κ} {as : List α} {k : κ} {a : α} (h : ks.length = as.length) (nd : ks.Nodup) : (putL ks as k a).1.Nodup := by
  rw [putL_keys ks as k a h]
  by_cases hm : k ∈ ks
  · rw [if_pos hm]; exact nd
  · rw [if_neg hm]
    exact List.nodup_append.mpr ⟨nd, by simp, fun a ha b hb => by
      rw [List.mem_singleton] at hb
      subst hb
      intro z
      subst z
      exact hm ha⟩
theorem look_pair {ks : List κ} : ∀ {ds : List D} {vs : List V} {k : κ} {d : D}, ks.length = ds.length → ds.length = vs.length → look ks ds k = some d → ∃ (j : Nat) (v : V), ds[j]? = some d ∧ vs[j]? = some v ∧ look ks vs k = some v := by
  induction ks with
  | nil => intro ds vs k d h1 h2 e; cases ds <;> simp [look] at e
  | cons k' ks ih =>
    intro ds vs k d h1 h2 e
    cases ds with
    | nil => cases h1
    | cons x ds =>
      cases vs with
      | nil => cases h2
      | cons v vs =>
        rw [look] at e
        by_cases ek : k' = k
        · rw [if_pos ek] at e
          cases e
          exact ⟨0, v, rfl, rfl, by rw [look, if_pos ek]⟩
        · rw [if_neg ek] at e
          obtain ⟨j, w, h3, h4, h5⟩ := ih (Nat.succ.inj h1) (Nat.succ.inj h2) e
          exact ⟨j + 1, w, h3, h4, by rw [look, if_neg ek]; exact h5⟩
theorem look_none {ks : List κ} : ∀ {ds : List D} {vs : List V} {k : κ}, ks.length = ds.length → ds.length = vs.length → look ks ds k = none → look ks vs k = none := by
  induction ks with
  | nil => intro ds vs k h1 h2 e; simp [look]
  | cons k' ks ih =>
    intro ds vs k h1 h2 e
    cases ds with
    | nil => cases h1
    | cons x ds =>
      cases vs with
      | nil => cases h2
      | cons v vs =>
        rw [look] at e ⊢
        by_cases ek : k' = k
        · rw [if_pos ek] at e; cases e
        · rw [if_neg ek] at e ⊢
          exact ih (Nat.succ.inj h1) (Nat.succ.inj h2) e
/-- what is stored takes its place; what stood there is let go -/
theorem putL_perm {ks : List κ} {k : κ} {d : D} {v : V} : ∀ {ds : List D} {vs : List V}, ks.length = ds.length → ds.length = vs.length → (putL ks ds k d).1 = (putL ks vs k v).1 ∧ (putL ks ds k d).2.length = (putL ks vs k v).2.length ∧ ∃ R, ((d, v) :: ds.zip vs).Perm (R ++ (putL ks ds k d).2.zip (putL ks vs k v).2) := by
  induction ks with
  | nil =>
    intro ds vs h1 h2
    have e1 : ds = [] := List.eq_nil_of_length_eq_zero h1.symm
    subst e1
    have e2 : vs = [] := List.eq_nil_of_length_eq_zero h2.symm
    subst e2
    exact ⟨rfl, rfl, [], .refl _⟩
  | cons k' ks ih =>
    intro ds vs h1 h2
    cases ds with
    | nil => cases h1
    | cons x ds =>
      cases vs with
      | nil => cases h2
      | cons w vs =>
        rw [putL, putL]
        by_cases ek : k' = k
        · rw [if_pos ek, if_pos ek]
          exact ⟨rfl, h2, [(x, w)], .swap _ _ _⟩
        · rw [if_neg ek, if_neg ek]
          obtain ⟨i1, i2, R, p⟩ := ih (Nat.succ.inj h1) (Nat.succ.inj h2)
          refine ⟨?_, ?_, R, ?_⟩
          · show k' :: _ = k' :: _
            rw [i1]
          · show _ + 1 = _ + 1
            rw [i2]
          · show ((d, v) :: (x, w) :: ds.zip vs).Perm (R ++ ((x, w) :: (putL ks ds k d).2.zip (putL ks vs k v).2))
            exact ((List.Perm.swap _ _ _).trans (p.cons _)).trans List.perm_middle.symm
end
/-! an owned dict, opened and closed -/
theorem RepT.openDT {ks : List (List Key)} {ds : List D} {v : V} (h : RepT K H ((.dT true ks ds, v) :: L)) : ∃ a vs, v = .ref a ∧ H a = some (.dT (ks.zip vs)) ∧ ks.length = ds.length ∧ ks.Nodup ∧ ds.length = vs.length ∧ RepT K H ((.hole, .ref a) :: (ds.zip vs ++ L)) := by
  obtain ⟨F, A, sF, nd, fr, A1, A2, rfl, h1, o⟩ := h
  rw [Ow] at h1
  obtain ⟨a, vs, A', rfl, q, n, l, rfl⟩ := h1
  refine ⟨a, vs, rfl, q, n.1, n.2, l.length, F, [a] ++ (A' ++ A2), sF, nd, fr, [a], A' ++ A2, rfl, ?_, l.toT.append o⟩
  rw [Ow]
  exact ⟨a, _, rfl, ⟨q, fun xs z => by cases z⟩, rfl⟩
theorem RepT.closeDT {ks : List (List Key)} {ds : List D} {vs : List V} {a : Addr} (n1 : ks.length = ds.length) (n2 : ks.Nodup) (e : ds.length = vs.length) (h : RepT K H ((.hole, .ref a) :: (ds.zip vs ++ L))) : RepT K (upd H a (.dT (ks.zip vs))) ((.dT true ks ds, .ref a) :: L) := by
  obtain ⟨F, A, sF, nd, fr, A1, A2, rfl, h1, o⟩ := h
  rw [Ow] at h1
  obtain ⟨b, u, e1, q, rfl⟩ := h1
  cases e1
  obtain ⟨B1, B2, rfl, o1, o2⟩ := o.split
  have fa : F a = none := fr a (by simp)
  have na : a ∉ B1 ++ B2 := (List.nodup_cons.mp nd).1
  have k : ∀ b ∈ B1 ++ B2, upd H a (.dT (ks.zip vs)) b = H b := fun b hb => upd_ne (fun z => na (by rw [← z]; exact hb))
  refine ⟨F, (a :: B1) ++ B2, fun b o q => ?_, nd, fr, a :: B1, B2, rfl, ?_, o2.keep (Same.refl _) fun b hb => k b (List.mem_append_right _ hb)⟩
  · rw [upd_ne fun z => by rw [z, fa] at q; cases q]
    exact sF _ _ q
  · rw [Ow]
    exact ⟨a, vs, B1, rfl, upd_same, ⟨n1, n2⟩, (o1.toL e).keep (Same.refl _) _ _ _ fun b hb => k b (List.mem_append_left _ hb), rfl⟩
theorem RepT.openDK {ks : List Key} {ds : List D} {v : V} (h : RepT K H ((.dK true ks ds, v) :: L)) : ∃ a vs, v = .ref a ∧ H a = some (.dK (ks.zip vs)) ∧ ks.length = ds.length ∧ ks.Nodup ∧ ds.length = vs.length ∧ RepT K H ((.hole, .ref a) :: (ds.zip vs ++ L)) := by
  obtain ⟨F, A, sF, nd, fr, A1, A2, rfl, h1, o⟩ := h
  rw [Ow] at h1
  obtain ⟨a, vs, A', rfl, q, n, l, rfl⟩ := h1
  refine ⟨a, vs, rfl, q, n.1, n.2, l.length, F, [a] ++ (A' ++ A2), sF, nd, fr, [a], A' ++ A2, rfl, ?_, l.toT.append o⟩
  rw [Ow]
  exact ⟨a, _, rfl, ⟨q, fun xs z => by cases z⟩, rfl⟩
theorem RepT.closeDK {ks : List Key} {ds : List D} {vs : List V} {a : Addr} (n1 : ks.length = ds.length) (n2 : ks.Nodup) (e : ds.length = vs.length) (h : RepT K H ((.hole, .ref a) :: (ds.zip vs ++ L))) : RepT K (upd H a (.dK (ks.zip vs))) ((.dK true ks ds, .ref a) :: L) := by
  obtain ⟨F, A, sF, nd, fr, A1, A2, rfl, h1, o⟩ := h
  rw [Ow] at h1
  obtain ⟨b, u, e1, q, rfl⟩ := h1
  cases e1
  obtain ⟨B1, B2, rfl, o1, o2⟩ := o.split
  have fa : F a = none := fr a (by simp)
  have na : a ∉ B1 ++ B2 := (List.nodup_cons.mp nd).1
  have k : ∀ b ∈ B1 ++ B2, upd H a (.dK (ks.zip vs)) b = H b := fun b hb => upd_ne (fun z => na (by rw [← z]; exact hb))
  refine ⟨F, (a :: B1) ++ B2, fun b o q => ?_, nd, fr, a :: B1, B2, rfl, ?_, o2.keep (Same.refl _) fun b hb => k b (List.mem_append_right _ hb)⟩
  · rw [upd_ne fun z => by rw [z, fa] at q; cases q]
    exact sF _ _ q
  · rw [Ow]
    exact ⟨a, vs, B1, rfl, upd_same, ⟨n1, n2⟩, (o1.toL e).keep (Same.refl _) _ _ _ fun b hb => k b (List.mem_append_left _ hb), rfl⟩
theorem RepT.putDT {ks : List (List Key)} {ds : List D} {k : List Key} {d : D} {v : V} {a : Addr} (h : RepT K H ((d, v) :: (.dT true ks ds, .ref a) :: L)) : ∃ vs, H a = some (.dT (ks.zip vs)) ∧ ks.length = ds.length ∧ ds.length = vs.length ∧ RepT K (upd H a (.dT (putK (ks.zip vs) k v))) ((.dT true (putL ks ds k d).1 (putL ks ds k d).2, .ref a) :: L) := by
  obtain ⟨a', vs, e, q, n1, n2, l, r⟩ := RepT.openDT (h.perm (.swap _ _ _))
  cases e
  obtain ⟨p1, p2, R, p⟩ := putL_perm (ks := ks) (k := k) (d := d) (v := v) n1 l
  refine ⟨vs, q, n1, l, ?_⟩
  rw [putK_putL ks vs k v (n1.trans l) n2, ← p1]
  refine RepT.closeDT (putL_len ks ds k d n1) (putL_nodup n1 n2) p2 ?_
  have r2 : RepT K H ((.hole, .ref a) :: (((d, v) :: ds.zip vs) ++ L)) := r.perm (List.Perm.cons _ List.perm_middle)
  have r3 : RepT K H ((.hole, .ref a) :: ((R ++ (putL ks ds k d).2.zip (putL ks vs k v).2) ++ L)) := r2.perm (List.Perm.cons _ (p.append_right L))
  have r4 : RepT K H (R ++ ((.hole, .ref a) :: ((putL ks ds k d).2.zip (putL ks vs k v).2 ++ L))) := r3.perm (by
    rw [List.append_assoc]
    exact List.perm_middle.symm)
  exact r4.dropL
theorem RepT.putDK {ks : List Key} {ds : List D} {k : Key} {d : D} {v : V} {a : Addr} (h : RepT K H ((d, v) :: (.dK true ks ds, .ref a) :: L)) : ∃ vs, H a = some (.dK (ks.zip vs)) ∧ ks.length = ds.length ∧ ds.length = vs.length ∧ RepT K (upd H a (.dK (putK (ks.zip vs) k v))) ((.dK true (putL ks ds k d).1 (putL ks ds k d).2, .ref a) :: L) := by
  obtain ⟨a', vs, e, q, n1, n2, l, r⟩ := RepT.openDK (h.perm (.swap _ _ _))
  cases e
  obtain ⟨p1, p2, R, p⟩ := putL_perm (ks := ks) (k := k) (d := d) (v := v) n1 l
  refine ⟨vs, q, n1, l, ?_⟩
  rw [putK_putL ks vs k v (n1.trans l) n2, ← p1]
  refine RepT.closeDK (putL_len ks ds k d n1) (putL_nodup n1 n2) p2 ?_
  have r2 : RepT K H ((.hole, .ref a) :: (((d, v) :: ds.zip vs) ++ L)) := r.perm (List.Perm.cons _ List.perm_middle)
  have r3 : RepT K H ((.hole, .ref a) :: ((R ++ (putL ks ds k d).2.zip (putL ks vs k v).2) ++ L)) := r2.perm (List.Perm.cons _ (p.append_right L))
  have r4 : RepT K H (R ++ ((.hole, .ref a) :: ((putL ks ds k d).2.zip (putL ks vs k v).2 ++ L))) := r3.perm (by
    rw [List.append_assoc]
    exact List.perm_middle.symm)
  exact r4.dropL
end
end VS

set_option Elab.async false
set_option linter.all false
set_option maxRecDepth 100000
set_option maxHeartbeats 4000000
set_option autoImplicit false
/-! VS7: dicts by rules, isinstance, sorted of a dict. -/
noncomputable section
namespace VS
open PySem PySem.Spec PyProof.Rows L2
section
variable {X : Cx} {W : WX} {K : PySem.W.Frag} {mg : Str → Option Value} {F H H1 : Hp} {T L : List (D × V)} {ρ ρ' : Env} {σ σ' σ'' : St} {m : Bool}
/-! ### a new dict: its keys ints and texts, or tuples -/
theorem RepT.newDK {p : Addr} (hp : H p = none) (h : RepT K H L) : RepT K (upd H p (.dK [])) ((.dK true [] [], .ref p) :: L) := by
  have h1 := RepT.newL (ds := []) (vs := []) rfl hp h
  obtain ⟨a, vs, e, _, _, r⟩ := h1.openL
  cases e
  have r2 : RepT K (upd H p (.lst [])) ((.hole, .ref p) :: (([] : List D).zip ([] : List V) ++ L)) := r
  have r3 := RepT.closeDK (ks := []) (ds := []) (vs := []) rfl List.nodup_nil rfl r2
  rw [upd_upd] at r3
  exact r3
theorem RepT.newDT {p : Addr} (hp : H p = none) (h : RepT K H L) : RepT K (upd H p (.dT [])) ((.dT true [] [], .ref p) :: L) := by
  have h1 := RepT.newL (ds := []) (vs := []) rfl hp h
  obtain ⟨a, vs, e, _, _, r⟩ := h1.openL
  cases e
  have r2 : RepT K (upd H p (.lst [])) ((.hole, .ref p) :: (([] : List D).zip ([] : List V) ++ L)) := r
  have r3 := RepT.closeDT (ks := []) (ds := []) (vs := []) rfl List.nodup_nil rfl r2
  rw [upd_upd] at r3
  exact r3
theorem ve_dnewK {pos : Pos} : VE X W false (.Dict [] [] pos) (dC (.dK true [] [])) := by
  refine PE.imp pe_dnewK fun σ H Q ⟨T, ρ, u, rep, hf, he⟩ => ?_
  have : u = .ok (.dK true [] []) ρ := (Option.some.inj hf).symm
  subst this
  exact fun p hp => he _ _ (fun _ => Same.upd hp) ⟨rep.len, rep.nos, RepT.newDK hp rep.rep⟩
theorem ve_dnewT {pos : Pos} : VE X W false (.Dict [] [] pos) (dC (.dT true [] [])) := by
  refine PE.imp pe_dnewT fun σ H Q ⟨T, ρ, u, rep, hf, he⟩ => ?_
  have : u = .ok (.dT true [] []) ρ := (Option.some.inj hf).symm
  subst this
  exact fun p hp => he _ _ (fun _ => Same.upd hp) ⟨rep.len, rep.nos, RepT.newDT hp rep.rep⟩
/-! ### d[k] -/
def lookD (x y : D) : Option D := match x with
  | .dK _ ks ds => match keyD y with
    | some k => look ks ds k
    | none => none
  | .dT _ ks ds => match y with
    | .tup es => match keysD es with
      | some k => look ks ds k
      | none => none
    | _ => none
  | .lK ks ds => match keyD y with
    | some k => look ks ds k
    | none => none
  | .lT ks ds => match y with
    | .tup es => match keysD es with
      | some k => look ks ds k
      | none => none
    | _ => none
  | _ => none
/-- whether a dict has a key -/
def hasD (x y : D) : Option Bool := match x with
  | .dK _ ks ds => match keyD y with
    | some k => some (look ks ds k).isSome
    | none => none
  | .dT _ ks ds => match y with
    | .tup es => match keysD es with
      | some k => some (look ks ds k).isSome
      | none => none
    | _ => none
  | .lK ks ds => match keyD y with
    | some k => some (look ks ds k).isSome
    | none => none
  | .lT ks ds => match y with
    | .tup es => match keysD es with
      | some k => some (look ks ds k).isSome
      | none => none
    | _ => none
  | _ => none
theorem OwL.at {ds : List D} {vs : List V} {A : List Addr} {j : Nat} {d : D} {u : V} (h : OwL K F H ds vs A) (e : ds[j]? = some d) (z : fz d = true) (e' : vs[j]? = some u) : Ow K F H d u [] := by
  obtain ⟨w, hw, o⟩ := h.item e z
  rw [hw] at e'
  cases e'
  exact o
theorem RepT.lK {ks : List Key} {ds : List D} {v : V} (h : RepT K H ((.lK ks ds, v) :: L)) : ∃ a vs o, v = .ref a ∧ H a = some (.frz o (.dK (ks.zip vs))) ∧ ks.length = ds.length ∧ ks.Nodup ∧ ds.length = vs.length := by
  obtain ⟨F, A, sF, nd, fr, A1, A2, rfl, h1, o2⟩ := h
  rw [Ow] at h1
  obtain ⟨a, vs, rfl, ⟨o, q⟩, n, l⟩ := h1
  exact ⟨a, vs, o, rfl, sF _ _ q, n.1, n.2, l.length⟩
theorem RepT.lT {ks : List (List Key)} {ds : List D} {v : V} (h : RepT K H ((.lT ks ds, v) :: L)) : ∃ a vs o, v = .ref a ∧ H a = some (.frz o (.dT (ks.zip vs))) ∧ ks.length = ds.length ∧ ks.Nodup ∧ ds.length = vs.length := by
  obtain ⟨F, A, sF, nd, fr, A1, A2, rfl, h1, o2⟩ := h
  rw [Ow] at h1
  obtain ⟨a, vs, rfl, ⟨o, q⟩, n, l⟩ := h1
  exact ⟨a, vs, o, rfl, sF _ _ q, n.1, n.2, l.length⟩
/-- a dict read at a key: the dict and the key stay -/
theorem dget_rep {x y : D} {v w : V} (r : RepT K H ((y, w) :: (x, v) :: L)) :
    (∀ d, lookD x y = some d → fz d = true → ∃ a u, v = .ref a ∧ DGet H a w (some u) ∧ RepT K H ((d, u) :: (y, w) :: (x, v) :: L)) ∧ (∀ b, hasD x y = some b → ∃ a o, v = .ref a ∧ DGet H a w o ∧ o.isSome = b) := by
  cases x with
  | dK o ks ds =>
    have main : ∀ k, keyD y = some k → ∃ a vs, v = .ref a ∧ H a = some (.dK (ks.zip vs)) ∧ ks.length = ds.length ∧ ds.length = vs.length ∧ w = kV k := fun k ek => by
      have rx := r.drop
      obtain ⟨a, vs, rfl, q, n1, _, l, _⟩ := rx.dK
      exact ⟨a, vs, rfl, q, n1, l, keyD_rep ek r⟩
    constructor
    · intro d e z
      simp only [lookD] at e
      cases ek : keyD y with
      | none => rw [ek] at e; cases e
      | some k =>
        rw [ek] at e
        have r0 := r
        obtain ⟨F, A, sF, nd, fr, A1, A2, rfl, hy, A3, A4, rfl, hx, o2⟩ := r
        have e : look ks ds k = some d := e
        have hx' := hx
        have fin : ∀ u, Ow K F H d u [] → RepT K H ((d, u) :: (y, w) :: (.dK o ks ds, v) :: L) := fun u hu => ⟨F, [] ++ (A1 ++ (A3 ++ A4)), sF, nd, fr, [], _, rfl, hu, A1, _, rfl, hy, A3, A4, rfl, hx, o2⟩
        have wk := keyD_rep ek r0
        cases o <;> rw [Ow] at hx'
        · obtain ⟨a, vs, rfl, q, n, l⟩ := hx'
          obtain ⟨j, u, h1, h2, h3⟩ := look_pair n.1 l.length e
          exact ⟨a, u, rfl, .inl ⟨_, k, .inl (sF _ _ q), wk, by rw [valV_look]; exact h3.symm⟩, fin u (l.at h1 z h2)⟩
        · obtain ⟨a, vs, A', rfl, q, n, l, rfl⟩ := hx'
          obtain ⟨j, u, h1, h2, h3⟩ := look_pair n.1 l.length e
          exact ⟨a, u, rfl, .inl ⟨_, k, .inl q, wk, by rw [valV_look]; exact h3.symm⟩, fin u (l.at h1 z h2)⟩
    · intro b e
      simp only [hasD] at e
      cases ek : keyD y with
      | none => rw [ek] at e; cases e
      | some k =>
        rw [ek] at e
        have e : (look ks ds k).isSome = b := Option.some.inj e
        obtain ⟨a, vs, rfl, q, n1, l, wk⟩ := main k ek
        refine ⟨a, look ks vs k, rfl, .inl ⟨_, k, .inl q, wk, by rw [valV_look]⟩, ?_⟩
        rw [← e]
        cases q2 : look ks ds k with
        | none => rw [look_none n1 l q2]; rfl
        | some d =>
          obtain ⟨j, u, _, _, h3⟩ := look_pair n1 l q2
          rw [h3]; rfl
  | dT o ks ds =>
    have main : ∀ es k, y = .tup es → keysD es = some k → ∃ b, w = .ref b ∧ H b = some (.tup (k.map kV)) := fun es k ey ek => by
      subst ey
      obtain ⟨b, vs, rfl, q, l, r2⟩ := r.openT
      refine ⟨b, rfl, ?_⟩
      rw [← keysD_rep ek l r2]; exact q
    constructor
    · intro d e z
      simp only [lookD] at e
      cases y with
      | tup es =>
        simp only at e
        cases ek : keysD es with
        | none => rw [ek] at e; cases e
        | some k =>
          rw [ek] at e
          obtain ⟨b, rfl, hb⟩ := main es k rfl ek
          obtain ⟨F, A, sF, nd, fr, A1, A2, rfl, hy, A3, A4, rfl, hx, o2⟩ := r
          have e : look ks ds k = some d := e
          have hx' := hx
          have fin : ∀ u, Ow K F H d u [] → RepT K H ((d, u) :: (.tup es, .ref b) :: (.dT o ks ds, v) :: L) := fun u hu => ⟨F, [] ++ (A1 ++ (A3 ++ A4)), sF, nd, fr, [], _, rfl, hu, A1, _, rfl, hy, A3, A4, rfl, hx, o2⟩
          cases o <;> rw [Ow] at hx'
          · obtain ⟨a, vs, rfl, q, n, l⟩ := hx'
            obtain ⟨j, u, h1, h2, h3⟩ := look_pair n.1 l.length e
            exact ⟨a, u, rfl, .inr ⟨_, k, b, .inl (sF _ _ q), rfl, hb, by rw [valV_look]; exact h3.symm⟩, fin u (l.at h1 z h2)⟩
          · obtain ⟨a, vs, A', rfl, q, n, l, rfl⟩ := hx'
            obtain ⟨j, u, h1, h2, h3⟩ := look_pair n.1 l.length e
            exact ⟨a, u, rfl, .inr ⟨_, k, b, .inl q, rfl, hb, by rw [valV_look]; exact h3.symm⟩, fin u (l.at h1 z h2)⟩
      | _ => cases e
    · intro bb e
      simp only [hasD] at e
      cases y with
      | tup es =>
        simp only at e
        cases ek : keysD es with
        | none => rw [ek] at e; cases e
        | some k =>
          rw [ek] at e
          have e : (look ks ds k).isSome = bb := Option.some.inj e
          obtain ⟨b, rfl, hb⟩ := main es k rfl ek
          obtain ⟨a, vs, rfl, q, n1, _, l, _⟩ := r.drop.dT
          refine ⟨a, look ks vs k, rfl, .inr ⟨_, k, b, .inl q, rfl, hb, by rw [valV_look]⟩, ?_⟩
          rw [← e]
          cases q2 : look ks ds k with
          | none => rw [look_none n1 l q2]; rfl
          | some d =>
            obtain ⟨j, u, _, _, h3⟩ := look_pair n1 l q2
            rw [h3]; rfl
      | _ => cases e
  | lK ks ds =>
    have main : ∀ k, keyD y = some k → ∃ a vs o, v = .ref a ∧ H a = some (.frz o (.dK (ks.zip vs))) ∧ ks.length = ds.length ∧ ds.length = vs.length ∧ w = kV k := fun k ek => by
      have rx := r.drop
      obtain ⟨a, vs, o, rfl, q, n1, _, l⟩ := rx.lK
      exact ⟨a, vs, o, rfl, q, n1, l, keyD_rep ek r⟩
    constructor
    · intro d e z
      simp only [lookD] at e
      cases ek : keyD y with
      | none => rw [ek] at e; cases e
      | some k =>
        rw [ek] at e
        have r0 := r
        obtain ⟨F, A, sF, nd, fr, A1, A2, rfl, hy, A3, A4, rfl, hx, o2⟩ := r
        have e : look ks ds k = some d := e
        have hx' := hx
        have fin : ∀ u, Ow K F H d u [] → RepT K H ((d, u) :: (y, w) :: (.lK ks ds, v) :: L) := fun u hu => ⟨F, [] ++ (A1 ++ (A3 ++ A4)), sF, nd, fr, [], _, rfl, hu, A1, _, rfl, hy, A3, A4, rfl, hx, o2⟩
        have wk := keyD_rep ek r0
        rw [Ow] at hx'
        obtain ⟨a, vs, rfl, ⟨o, q⟩, n, l⟩ := hx'
        obtain ⟨j, u, h1, h2, h3⟩ := look_pair n.1 l.length e
        exact ⟨a, u, rfl, .inl ⟨_, k, .inr ⟨o, sF _ _ q⟩, wk, by rw [valV_look]; exact h3.symm⟩, fin u (l.at h1 z h2)⟩
    · intro b e
      simp only [hasD] at e
      cases ek : keyD y with
      | none => rw [ek] at e; cases e
      | some k =>
        rw [ek] at e
        have e : (look ks ds k).isSome = b := Option.some.inj e
        obtain ⟨a, vs, o, rfl, q, n1, l, wk⟩ := main k ek
        refine ⟨a, look ks vs k, rfl, .inl ⟨_, k, .inr ⟨o, q⟩, wk, by rw [valV_look]⟩, ?_⟩
        rw [← e]
        cases q2 : look ks ds k with
        | none => rw [look_none n1 l q2]; rfl
        | some d =>
          obtain ⟨j, u, _, _, h3⟩ := look_pair n1 l q2
          rw [h3]; rfl
  | lT ks ds =>
    have main : ∀ es k, y = .tup es → keysD es = some k → ∃ b, w = .ref b ∧ H b = some (.tup (k.map kV)) := fun es k ey ek => by
      subst ey
      obtain ⟨b, vs, rfl, q, l, r2⟩ := r.openT
      refine ⟨b, rfl, ?_⟩
      rw [← keysD_rep ek l r2]; exact q
    constructor
    · intro d e z
      simp only [lookD] at e
      cases y with
      | tup es =>
        simp only at e
        cases ek : keysD es with
        | none => rw [ek] at e; cases e
        | some k =>
          rw [ek] at e
          obtain ⟨b, rfl, hb⟩ := main es k rfl ek
          obtain ⟨F, A, sF, nd, fr, A1, A2, rfl, hy, A3, A4, rfl, hx, o2⟩ := r
          have e : look ks ds k = some d := e
          have hx' := hx
          have fin : ∀ u, Ow K F H d u [] → RepT K H ((d, u) :: (.tup es, .ref b) :: (.lT ks ds, v) :: L) := fun u hu => ⟨F, [] ++ (A1 ++ (A3 ++ A4)), sF, nd, fr, [], _, rfl, hu, A1, _, rfl, hy, A3, A4, rfl, hx, o2⟩
          rw [Ow] at hx'
          obtain ⟨a, vs, rfl, ⟨o, q⟩, n, l⟩ := hx'
          obtain ⟨j, u, h1, h2, h3⟩ := look_pair n.1 l.length e
          exact ⟨a, u, rfl, .inr ⟨_, k, b, .inr ⟨o, sF _ _ q⟩, rfl, hb, by rw [valV_look]; exact h3.symm⟩, fin u (l.at h1 z h2)⟩
      | _ => cases e
    · intro bb e
      simp only [hasD] at e
      cases y with
      | tup es =>
        simp only at e
        cases ek : keysD es with
        | none => rw [ek] at e; cases e
        | some k =>
          rw [ek] at e
          have e : (look ks ds k).isSome = bb := Option.some.inj e
          obtain ⟨b, rfl, hb⟩ := main es k rfl ek
          obtain ⟨a, vs, o, rfl, q, n1, _, l⟩ := r.drop.lT
          refine ⟨a, look ks vs k, rfl, .inr ⟨_, k, b, .inr ⟨o, q⟩, rfl, hb, by rw [valV_look]⟩, ?_⟩
          rw [← e]
          cases q2 : look ks ds k with
          | none => rw [look_none n1 l q2]; rfl
          | some d =>
            obtain ⟨j, u, _, _, h3⟩ := look_pair n1 l q2
            rw [h3]; rfl
      | _ => cases e
  | _ => exact ⟨fun d e => (by cases e), fun b e => (by cases e)⟩
def getS (i : Nat) (y : D) : M D := fun ρ => match lookD (ρ.getD i .unk) y with
  | some d => if fz d = true then some (.ok d ρ) else none
  | none => none
def dGetS (i : Nat) (f : M D) : M D := fun ρ0 => match ρ0[i]? with
  | none => none
  | some .unk => none
  | some _ => bindM f (getS i) ρ0
theorem slot_perm {i : Nat} {x : D} {v : V} (e : ρ[i]? = some x) (hv : σ[i]? = some (some v)) : (T ++ SL ρ σ).Perm ((x, v) :: (T ++ (SL ρ σ).eraseIdx i)) := ((perm_erase (SL_get e hv)).append_left T).trans List.perm_middle
theorem getD_at {i : Nat} (h : i < ρ.length) : ρ[i]? = some (ρ.getD i .unk) := by
  rw [List.getD_eq_getElem?_getD, List.getElem?_eq_getElem h]; rfl
theorem ve_getS {a b : Expr} {i : Nat} {f : M D} {pos : Pos} (hu : X.A.units + 1 < cLine) (ha : PE X a (tVar i)) (hb : VE X W m b f) (hs : NoSl b := by exact fun _ _ => rfl) : VE X W m (.Subscript a b pos) (dGetS i f) := by
  refine PE.imp (pe_dget hu ha hb hs) fun σ H Q ⟨T, ρ, u, rep, hf, he⟩ => ?_
  unfold dGetS at hf
  cases q : ρ[i]? with
  | none => rw [q] at hf; cases hf
  | some x0 =>
    have n : x0 ≠ .unk := fun e => by rw [q, e] at hf; cases hf
    obtain ⟨v, hv⟩ := rep.slot q n
    refine ⟨v, hv, ?_⟩
    rw [q] at hf
    have hf2 : bindM f (getS i) ρ = some u := by
      cases x0 <;> first | exact hf | exact absurd rfl n
    refine run1 rep hf2 he fun y ρ1 w H1 h1 s1 r1 => ?_
    unfold getS at h1
    split at h1
    · rename_i d ed
      split at h1
      · rename_i z
        have : u = .ok d ρ1 := (Option.some.inj h1).symm
        subst this
        have hi : i < ρ1.length := by rw [r1.len]; exact (List.getElem?_eq_some_iff.mp hv).1
        have p := slot_perm (T := T) (getD_at hi) hv
        have r2 : RepT X.K H1 ((y, w) :: (ρ1.getD i .unk, v) :: (T ++ (SL ρ1 σ).eraseIdx i)) := r1.rep.perm (p.cons _)
        obtain ⟨a, u, e1, g, r3⟩ := (dget_rep r2).1 d ed z
        refine ⟨a, u, e1, g, he u H1 s1 ⟨r1.len, r1.nos, ?_⟩⟩
        have r4 : RepT X.K H1 ((y, w) :: (d, u) :: (ρ1.getD i .unk, v) :: (T ++ (SL ρ1 σ).eraseIdx i)) := r3.perm (.swap _ _ _)
        exact r4.drop.perm (p.symm.cons _)
      · cases h1
    · cases h1
/-- x[y], x a name: a list, a tuple or a dict -/
def isDct : Option D → Bool
  | some (.dK _ _ _) => true
  | some (.dT _ _ _) => true
  | some (.lK _ _) => true
  | some (.lT _ _) => true
  | _ => false
def dAt (i : Nat) (f : M D) : M D := fun ρ0 => if isDct ρ0[i]? = true then dGetS i f ρ0 else dIxS i f ρ0
theorem ve_at {a b : Expr} {i : Nat} {f : M D} {pos : Pos} (hu : X.A.units + 1 < cLine) (ha : PE X a (tVar i)) (hb : VE X W m b f) (hs : PlainIx b := by exact fun _ _ => rfl) : VE X W m (.Subscript a b pos) (dAt i f) := by
  refine PE.imp (PE.orr (ve_getS (W := W) hu ha hb hs) (ve_ixS (W := W) ha hb hs)) fun σ H Q ⟨T, ρ, u, rep, hf, he⟩ => ?_
  unfold dAt at hf
  split at hf
  · exact .inl ⟨T, ρ, u, rep, hf, he⟩
  · exact .inr ⟨T, ρ, u, rep, hf, he⟩
/-! ### k in d, d at a name; x in a sequence -/
def hasS (neg : Bool) (i : Nat) (y : D) : M D := fun ρ => match hasD (ρ.getD i .unk) y with
  | some b => some (.ok (.bl (if neg = true then !b else b)) ρ)
  | none => none
def dHasS (neg : Bool) (i : Nat) (f : M D) : M D := bindM f fun y ρ => match ρ[i]? with
  | none => none
  | some .unk => none
  | some _ => hasS neg i y ρ
theorem has_of {neg : Bool} {i : Nat} {f : M D} {Q : VK} (h : tOf K mg W m (dHasS neg i f) σ H Q) : tOf K mg W m f σ H fun y H1 => tVar i σ H1 fun x H2 => ∃ a o, x = .ref a ∧ DGet H2 a y o ∧ Q (.bl (if neg = true then !o.isSome else o.isSome)) H2 := by
  obtain ⟨T, ρ, u, rep, hf, he⟩ := h
  refine run1 rep hf he fun y ρ1 w H1 h1 s1 r1 => ?_
  cases q : ρ1[i]? with
  | none => rw [q] at h1; cases h1
  | some x0 =>
    have n : x0 ≠ .unk := fun e => by rw [q, e] at h1; cases h1
    obtain ⟨v, hv⟩ := r1.slot q n
    refine ⟨v, hv, ?_⟩
    rw [q] at h1
    have h2 : hasS neg i y ρ1 = some u := by
      cases x0 <;> first | exact h1 | exact absurd rfl n
    unfold hasS at h2
    split at h2
    · rename_i b eb
      have : u = .ok (.bl (if neg = true then !b else b)) ρ1 := (Option.some.inj h2).symm
      subst this
      have hi : i < ρ1.length := (List.getElem?_eq_some_iff.mp q).1
      have p := slot_perm (T := T) (getD_at hi) hv
      have r2 : RepT K H1 ((y, w) :: (ρ1.getD i .unk, v) :: (T ++ (SL ρ1 σ).eraseIdx i)) := r1.rep.perm (p.cons _)
      obtain ⟨a, o, e1, g, eo⟩ := (dget_rep r2).2 b eb
      refine ⟨a, o, e1, g, ?_⟩
      rw [eo]
      exact he _ H1 s1 (r1.drop.lift fun q => q.bl)
    · cases h2
theorem ve_inD {a b : Expr} {i : Nat} {f : M D} {pos : Pos} (hu : X.A.units + 1 < cLine) (ha : VE X W m a f) (hb : PE X b (tVar i)) (h1 : behindInMarks .In b = false := by first | exact nobehind _ (by decide) (by decide) | rfl) : VE X W m (.Compare a [.In] [b] pos) (dHasS false i f) :=
  PE.imp (pe_cmp (pc_din hu ha hb) h1) fun _ _ _ h => has_of h
theorem ve_ninD {a b : Expr} {i : Nat} {f : M D} {pos : Pos} (hu : X.A.units + 1 < cLine) (ha : VE X W m a f) (hb : PE X b (tVar i)) (h1 : behindInMarks .NotIn b = false := by first | exact nobehind _ (by decide) (by decide) | rfl) : VE X W m (.Compare a [.NotIn] [b] pos) (dHasS true i f) :=
  PE.imp (pe_cmp (pc_dnotin hu ha hb) h1) fun _ _ _ h => has_of h
theorem vt_inD {a b : Expr} {i : Nat} {f : M D} {pos : Pos} (hu : X.A.units + 1 < cLine) (ha : VE X W m a f) (hb : PE X b (tVar i)) (h1 : behindInMarks .In b = false := by first | exact nobehind _ (by decide) (by decide) | rfl) : VT X W m (.Compare a [.In] [b] pos) (dTB (dHasS false i f)) := by
  refine PT.imp (pt_cmp (pc_din hu ha hb) h1) fun σ H Q ⟨T, ρ, u, rep, hf, he⟩ => ?_
  refine has_of (neg := false) (Q := fun x H1 => ∃ c, x = .bl c ∧ Q c H1) (run1 rep hf he fun x ρ1 v H1 h1 s1 r1 => ?_)
  obtain ⟨b, e, rfl⟩ := optM_some h1
  cases x with
  | bl c =>
    have e : c = b := Option.some.inj e
    subst e
    exact ⟨c, RepT.eq_bl r1.rep, he H1 s1 r1.drop⟩
  | _ => cases e
theorem vt_ninD {a b : Expr} {i : Nat} {f : M D} {pos : Pos} (hu : X.A.units + 1 < cLine) (ha : VE X W m a f) (hb : PE X b (tVar i)) (h1 : behindInMarks .NotIn b = false := by first | exact nobehind _ (by decide) (by decide) | rfl) : VT X W m (.Compare a [.NotIn] [b] pos) (dTB (dHasS true i f)) := by
  refine PT.imp (pt_cmp (pc_dnotin hu ha hb) h1) fun σ H Q ⟨T, ρ, u, rep, hf, he⟩ => ?_
  refine has_of (neg := true) (Q := fun x H1 => ∃ c, x = .bl c ∧ Q c H1) (run1 rep hf he fun x ρ1 v H1 h1 s1 r1 => ?_)
  obtain ⟨b, e, rfl⟩ := optM_some h1
  cases x with
  | bl c =>
    have e : c = b := Option.some.inj e
    subst e
    exact ⟨c, RepT.eq_bl r1.rep, he H1 s1 r1.drop⟩
  | _ => cases e
/-! ### x[k] = e -/
theorem PS.orr {st : Stmt} {t t' : TS} (h : PS X st t) (h' : PS X st t') : PS X st (fun E σ H => t E σ H ∨ t' E σ H) := ⟨fun pins s σ H E I q => q.elim (h.run pins s σ H E I) (h'.run pins s σ H E I)⟩
def putAt (x y d : D) : Option D := match x with
  | .lst true xs => match y with
    | .int n => (ixN xs.length n).map fun j => .lst true (xs.set j d)
    | _ => none
  | .dK true ks ds => match keyD y with
    | some k => if ks.length < sizeLine then some (.dK true (putL ks ds k d).1 (putL ks ds k d).2) else none
    | none => none
  | .dT true ks ds => match y with
    | .tup es => match keysD es with
      | some k => if ks.length < sizeLine then some (.dT true (putL ks ds k d).1 (putL ks ds k d).2) else none
      | none => none
    | _ => none
  | _ => none
def putS (i : Nat) (d y : D) : MS := fun ρ => match putAt (ρ.getD i .unk) y d with
  | some x => some (.nx, ρ.set i x)
  | none => none
def dPut (i : Nat) (fk fe : M D) : MS := bindS fe fun d ρ1 => match ρ1[i]? with
  | none => none
  | some .unk => none
  | some _ => bindS fk (putS i d) ρ1
theorem set_rep {xs : List D} {vs : List V} {j : Nat} {d x : D} {v w : V} (hx : xs[j]? = some x) (hw : vs[j]? = some w) : ((d, v) :: xs.zip vs).Perm ((x, w) :: (xs.set j d).zip (vs.set j v)) := by
  have e : (xs.set j d).zip (vs.set j v) = (xs.zip vs).set j (d, v) := by
    clear hx hw
    induction xs generalizing vs j with
    | nil => simp
    | cons a xs ih =>
      cases vs with
      | nil => simp
      | cons b vs =>
        cases j with
        | zero => rfl
        | succ j => simp [ih]
  rw [e]
  exact perm_set (d, v) (zip_take hx hw)
theorem put_rep {x y d x' : D} {v w u : V} (e : putAt x y d = some x') (r : RepT K H ((y, w) :: (x, v) :: (d, u) :: L)) :
    (∃ a xs j k, v = .ref a ∧ w = .int k ∧ H a = some (.lst xs) ∧ ixN xs.length k = some j ∧ RepT K (upd H a (.lst (xs.set j u))) ((x', v) :: L)) ∨ (∃ a H', v = .ref a ∧ DPut H a w u H' ∧ RepT K H' ((x', v) :: L)) := by
  have rswap : RepT K H ((d, u) :: (x, v) :: L) := r.drop.perm (.swap _ _ _)
  cases x with
  | lst o xs =>
    cases o with
    | false => cases e
    | true =>
      cases y with
      | int n =>
        simp only [putAt] at e
        obtain ⟨j, ej, rfl⟩ := Option.map_eq_some_iff.mp e
        have ew := r.eq_int
        subst ew
        obtain ⟨a, vs, rfl, hq, l, r2⟩ := RepT.openL (r.drop)
        have hj := (ixN_seq ej).2.1
        obtain ⟨w, hw⟩ := get_len l (List.getElem?_eq_getElem hj)
        refine .inl ⟨a, vs, j, n, rfl, rfl, hq, by rw [← l]; exact ej, RepT.closeL (by simp [l]) ?_⟩
        have r3 : RepT K H ((.hole, .ref a) :: (((d, u) :: xs.zip vs) ++ L)) := r2.perm (List.Perm.cons _ List.perm_middle)
        have r4 : RepT K H ((.hole, .ref a) :: (xs[j], w) :: ((xs.set j d).zip (vs.set j u) ++ L)) := r3.perm (List.Perm.cons _ ((set_rep (List.getElem?_eq_getElem hj) hw).append_right L))
        exact (r4.perm (.swap _ _ _)).drop
      | _ => cases e
  | dK o ks ds =>
    cases o with
    | false => cases e
    | true =>
      simp only [putAt] at e
      cases ek : keyD y with
      | none => rw [ek] at e; cases e
      | some k =>
        rw [ek] at e
        simp only at e
        split at e
        · rename_i z
          cases e
          have wk := keyD_rep ek r
          have rx := r.drop.dK
          obtain ⟨a, _, rfl, _⟩ := rx
          obtain ⟨vs, hq, n1, l, r2⟩ := RepT.putDK (k := k) rswap
          exact .inr ⟨a, _, rfl, .inl ⟨_, k, hq, wk, by rw [List.length_zip]; omega, rfl⟩, r2⟩
        · cases e
  | dT o ks ds =>
    cases o with
    | false => cases e
    | true =>
      cases y with
      | tup es =>
        simp only [putAt] at e
        cases ek : keysD es with
        | none => rw [ek] at e; cases e
        | some k =>
          rw [ek] at e
          simp only at e
          split at e
          · rename_i z
            cases e
            obtain ⟨b, bs, rfl, hb, lb, rb⟩ := r.openT
            have wk := keysD_rep ek lb rb
            subst wk
            obtain ⟨a, _, rfl, _⟩ := r.drop.dT
            obtain ⟨vs, hq, n1, l, r2⟩ := RepT.putDT (k := k) rswap
            exact .inr ⟨a, _, rfl, .inr ⟨_, k, b, hq, rfl, hb, by rw [List.length_zip]; omega, rfl⟩, r2⟩
          · cases e
      | _ => cases e
  | _ => cases e
theorem vs_put {o k value : Expr} {i : Nat} {fk fe : M D} {mk me : Bool} {pos pos' : Pos} (hu : X.A.units + 1 < cLine) (ho : PE X o (tVar i)) (hk : VE X W mk k fk) (hv : VE X W me value fe) (hs : swapsWith value (some (.Subscript o k pos')) pos.line X.env = pure false := by rfl)
    (hs1 : swapsWithSole [.Subscript o k pos'] value pos.line X.env = pure false := by rfl) (hw : swappedStores [.Subscript o k pos'] value X.env = pure none := by rfl) (h1 : (assignEach [.Subscript o k pos'] X.env).map (·.2) = [assign (.Subscript o k pos') X.env] := by rfl)
    (ha : ∀ v, assign (.Subscript o k pos') X.env v = (do
      let ov ← holding [v] (eval o X.env)
      let iv ← holding [v, ov] (eval k X.env)
      standAt pos'
      holding [v, ov, iv] (setItem ov iv v)
      release [v, ov, iv] []) := by intro _; rfl) : VSt X W [] (.Assign [.Subscript o k pos'] value pos) (dPut i fk fe) := by
  refine PS.imp (PS.orr (ps_asg hv (pg_sub ho hk set_list ha) hs1 hw h1) (ps_dput hu ho hk hv hs)) fun σ H E ⟨T, ρ, fl, ρ', rep, hf, he⟩ => ?_
  unfold dPut bindS at hf
  have fin : ∀ {x y d : D} {v w u : V} {H1 : Hp} {ρ1 : Env}, Rep X.K H1 ((y, w) :: (d, u) :: T) ρ1 σ → σ[i]? = some (some v) → ρ1.getD i .unk = x → (∃ x', putAt x y d = some x' ∧ fl = .nx ∧ ρ' = ρ1.set i x') →
      (∃ a xs j k, v = .ref a ∧ w = .int k ∧ H1 a = some (.lst xs) ∧ ixN xs.length k = some j ∧ E.nx σ (upd H1 a (.lst (xs.set j u)))) ∨ (∃ a H', v = .ref a ∧ DPut H1 a w u H' ∧ E.nx σ H') := by
    intro x y d v w u H1 ρ1 r1 hv hx ⟨x', e, e1, e2⟩
    subst e1 e2
    have hi : i < ρ1.length := by rw [r1.len]; exact (List.getElem?_eq_some_iff.mp hv).1
    have r2 := r1.take (getD_at hi) hv
    rw [hx] at r2
    have r3 : RepT X.K H1 ((y, w) :: (x, v) :: (d, u) :: (T ++ SL (ρ1.set i .unk) σ)) := r2.rep.perm (.swap _ _ _)
    have close : ∀ {H2 : Hp}, RepT X.K H2 ((x', v) :: (T ++ SL (ρ1.set i .unk) σ)) → E.nx σ H2 := fun {H2} rr => by
      have r4 : Rep X.K H2 ((x', v) :: T) (ρ1.set i .unk) σ := ⟨r2.len, r2.nos, rr⟩
      have r5 := r4.put hv
      rw [List.set_set] at r5
      exact he σ H2 Kept.refl r5
    rcases put_rep e r3 with ⟨a, xs, j, k, h1, h2, h3, h4, h5⟩ | ⟨a, H', h1, h2, h3⟩
    · exact .inl ⟨a, xs, j, k, h1, h2, h3, h4, close h5⟩
    · exact .inr ⟨a, H', h1, h2, close h3⟩
  cases qe : fe ρ with
  | none => rw [qe] at hf; cases hf
  | some re =>
    rw [qe] at hf
    cases re with
    | ex x ρ1 =>
      have : (Fl.ex x, ρ1) = (fl, ρ') := Option.some.inj hf
      injection this with e1 e2
      subst e1 e2
      exact .inl ⟨T, ρ, _, rep, qe, fun cls dd H' xr r => he cls dd σ H' Kept.refl xr r⟩
    | ok d ρ1 =>
      simp only at hf
      cases q : ρ1[i]? with
      | none => rw [q] at hf; cases hf
      | some x0 =>
        have n : x0 ≠ .unk := fun e => by rw [q, e] at hf; cases hf
        rw [q] at hf
        have h2 : bindS fk (putS i d) ρ1 = some (fl, ρ') := by
          cases x0 <;> first | exact hf | exact absurd rfl n
        unfold bindS at h2
        cases qk : fk ρ1 with
        | none => rw [qk] at h2; cases h2
        | some rk =>
          rw [qk] at h2
          cases rk with
          | ex x ρ2 =>
            have : (Fl.ex x, ρ2) = (fl, ρ') := Option.some.inj h2
            injection this with e1 e2
            subst e1 e2
            refine .inl ⟨T, ρ, _, rep, qe, fun u H1 _ r1 => ?_⟩
            obtain ⟨v, hv⟩ := r1.slot q n
            exact ⟨v, hv, _, ρ1, _, r1, qk, fun cls dd H' xr r => he cls dd σ H' Kept.refl xr r.drop⟩
          | ok y ρ2 =>
            simp only [putS] at h2
            split at h2
            · rename_i x' ex
              have : (Fl.nx, ρ2.set i x') = (fl, ρ') := Option.some.inj h2
              injection this with e1 e2
              have fin2 : ∀ {u v w : V} {H2 : Hp}, Rep X.K H2 ((y, w) :: (d, u) :: T) ρ2 σ → σ[i]? = some (some v) → _ := fun {u v w H2} r2 hv => fin r2 hv rfl ⟨x', ex, e1.symm, e2.symm⟩
              by_cases il : isLst (some (ρ2.getD i .unk)) = true
              · refine .inl ⟨T, ρ, _, rep, qe, fun u H1 _ r1 => ?_⟩
                obtain ⟨v, hv⟩ := r1.slot q n
                refine ⟨v, hv, _, ρ1, _, r1, qk, fun w H2 _ r2 => ?_⟩
                rcases fin2 r2 hv with ⟨a, xs, j, k, h1, h3, h4, h5, h6⟩ | ⟨a, H', h1, h3, h4⟩
                · exact ⟨a, xs, k, j, h1, h3, h4, h5, h6⟩
                · exfalso
                  have hi : i < ρ2.length := by rw [r2.len]; exact (List.getElem?_eq_some_iff.mp hv).1
                  have r3 := r2.take (getD_at hi) hv
                  cases xx : ρ2.getD i .unk <;> rw [xx] at il <;> simp only [isLst, Bool.false_eq_true] at il
                  rw [xx] at r3
                  obtain ⟨a', vs, e', hq, _⟩ := RepT.readL r3.rep
                  rw [h1] at e'
                  cases e'
                  rcases h3 with ⟨_, _, z, _⟩ | ⟨_, _, _, z, _⟩ <;> rw [hq] at z <;> cases z
              · refine .inr ⟨T, ρ, _, rep, qe, fun u H1 _ r1 => ?_⟩
                obtain ⟨v, hv⟩ := r1.slot q n
                refine ⟨v, hv, _, ρ1, _, r1, qk, fun w H2 _ r2 => ?_⟩
                rcases fin2 r2 hv with ⟨a, xs, j, k, h1, h3, h4, h5, h6⟩ | ⟨a, H', h1, h3, h4⟩
                · exfalso
                  have hi : i < ρ2.length := by rw [r2.len]; exact (List.getElem?_eq_some_iff.mp hv).1
                  have r3 := r2.take (getD_at hi) hv
                  cases xx : ρ2.getD i .unk <;> rw [xx] at il ex r3 <;> first | (cases ex; done) | skip
                  · exact il rfl
                  · obtain ⟨a', vs, e', hq, _⟩ := RepT.dK r3.rep
                    rw [h1] at e'
                    cases e'
                    rw [hq] at h4; cases h4
                  · obtain ⟨a', vs, e', hq, _⟩ := RepT.dT r3.rep
                    rw [h1] at e'
                    cases e'
                    rw [hq] at h4; cases h4
                · exact ⟨a, H', h1, h3, h4⟩
            · cases h2
end
end VS

set_option Elab.async false
set_option linter.all false
set_option maxRecDepth 100000
set_option maxHeartbeats 4000000
set_option autoImplicit false
/-! VS8: setdefault, sorted(dict), isinstance, index, min and max of one sequence. -/
noncomputable section
namespace VS
open PySem PySem.Spec PyProof.Rows L2
section
variable {X : Cx} {W : WX} {K : PySem.W.Frag} {mg : Str → Option Value} {F H H1 : Hp} {T L : List (D × V)} {ρ ρ' : Env} {σ σ' σ'' : St} {m : Bool}
/-! ### d.setdefault(k, x), the keys of d tuples -/
theorem d_setdT {pins : List (Addr × Obj)} {s : Shared} {a b : Addr} {k : List Key} {d : V} {r : Value} {E : Value → Shared → Prop} {kvs : List (List Key × V)} {Q : Value → Shared → Prop} (hu : X.A.units + 1 < cLine) (I : Inv X pins σ H s) (e : H a = some (.dT kvs)) (eb : H b = some (.tup (k.map kV))) (rd : RelV d r) (hl : kvs.length < sizeLine)
    (h1 : ∀ v, valV kvs k = some v → ∀ (w' : Value) (s' : Shared), Inv X pins σ H s' → RelV v w' → Q w' s') (h2 : valV kvs k = none → ∀ (w' : Value) (s' : Shared), Inv X pins σ (upd H a (.dT (putK kvs k d))) s' → RelV d w' → Q w' s') :
    wpAny (model X.prog X.w) X.A (call (.builtin "dict.setdefault") [.ref a, .ref b, r]) Q E s := by
  obtain ⟨z, hd, xs, rel, dd⟩ := dt_of I.hok e
  have hz : xs.length ≤ sizeLine := by rw [← Paired.length rel]; exact z
  have hl2 : (putK kvs k d).length ≤ sizeLine := by have := length_putK kvs k d; omega
  refine call_setdefault_heap (hsz := hz) (tupleKind_room_in1 hu) (key_of I.hok eb) hd dd (fun p hp => ?_) fun hn h' dd' hs => ?_
  · have q := rel.val k
    rw [hp] at q
    cases q0 : valV kvs k with
    | none => rw [q0] at q; exact (show False from q).elim
    | some v0 => rw [q0] at q; exact h1 v0 q0 _ _ (I.tok _) q
  · have q := rel.val k
    rw [hn] at q
    cases q0 : valV kvs k with
    | some v0 => rw [q0] at q; exact (show False from q).elim
    | none =>
      refine h2 q0 _ _ ?_ rd
      obtain ⟨q, es, ep, hq, g2, g3, g4, _, g5⟩ := dd'
      refine d_write I (by rw [e]; exact True.intro) hs ⟨q, hq⟩ ⟨hl2, hd, _, (rel.put k eb rd).keeps fun c ys ec => ?_, q, es, ep, hq, g2, g3, g4, g5⟩
      rw [upd_ne (ne_of ec e (fun z => nomatch z))]
      exact ec
def tDSetT (td ty tx : TE) : TE := fun σ H Q => td σ H fun x H1 => ∃ a, x = .ref a ∧ IsD H1 a ∧ ty σ H1 fun y H2 => tx σ H2 fun z H3 => ∃ (kvs : List (List Key × V)) (k : List Key) (b : Addr), H3 a = some (.dT kvs) ∧ y = .ref b ∧ H3 b = some (.tup (k.map kV)) ∧ kvs.length < sizeLine ∧
  (∀ v, valV kvs k = some v → Q v H3) ∧ (valV kvs k = none → Q z (upd H3 a (.dT (putK kvs k z))))
theorem pe_dsetT {o e f : Expr} {td ty tx : TE} {apos cpos : Pos} (hu : X.A.units + 1 < cLine) (ho : PE X o td) (he : PE X e ty) (hf : PE X f tx) (m : M2 X o "setdefault" apos e f cpos) : PE X (.Call (.Attribute o "setdefault" apos) [e, f] [] cpos) (tDSetT td ty tx) := by
  refine ⟨fun pins s σ H Q I h => ?_⟩
  refine wpAny_Call_method m.base m.few m.line PySem.F.plainAttrs_dict PySem.F.slot_dict_setdefault PySem.F.type_dict_setdefault (thn (ho.run pins s σ H _ I h) fun u s1 ⟨x, H1, I1, rx, a, ex, d, q1⟩ => ?_)
  subst ex
  obtain rfl : u = Value.ref a := rx
  obtain ⟨t1, t2, _⟩ := isD_at I1 d
  refine ⟨t1, t2, ?_⟩
  rw [m.trees]
  refine Calls.callWith_builtin rfl (Calls.evalArgs_plain (Calls.spliced_cons (thn (he.run pins s1 σ H1 _ I1 q1) fun iv s2 ⟨y, H2, I2, ry, q2⟩ =>
    Calls.spliced_cons (thn (hf.run pins s2 σ H2 _ I2 q2) fun fv s3 ⟨z, H3, I3, rz, kvs, k, b, ea, ey, eb, hl, q3, q4⟩ => Calls.spliced_nil ?_))))
  subst ey
  cases (show iv = Value.ref b from ry)
  exact d_setdT hu I3 ea eb rz hl (fun v hv w' s4 I4 rw' => ⟨v, _, I4, rw', q3 v hv⟩) fun hn w' s4 I4 rw' => ⟨z, _, I4, rw', q4 hn⟩
/-- what is stored is frozen; the answer is not looked at -/
def setdS (i : Nat) (y d : D) : M D := fun ρ => match ρ.getD i .unk, y with
  | .dT true ks ds, .tup es => match keysD es with
    | some k => if ks.length < sizeLine ∧ fz d = true then (match look ks ds k with
      | some _ => some (.ok .unk ρ)
      | none => some (.ok .unk (ρ.set i (.dT true (putL ks ds k d).1 (putL ks ds k d).2)))) else none
    | none => none
  | _, _ => none
def dSetd (i : Nat) (fy fd : M D) : M D := fun ρ0 => if isDct ρ0[i]? = true then bindM fy (fun y => bindM fd (setdS i y)) ρ0 else none
theorem isDct_rep {i : Nat} (h : isDct ρ[i]? = true) (rep : Rep K H T ρ σ) : ∃ a, σ[i]? = some (some (.ref a)) ∧ IsD H a := by
  cases q : ρ[i]? with
  | none => rw [q] at h; cases h
  | some x =>
    rw [q] at h
    cases x <;> simp only [isDct, Bool.false_eq_true] at h
    · obtain ⟨v, hv⟩ := rep.slot q (by intro z; cases z)
      obtain ⟨a, vs, rfl, hq, _⟩ := RepT.dK (rep.take q hv).rep
      exact ⟨a, hv, .inl ⟨_, .inl hq⟩⟩
    · obtain ⟨v, hv⟩ := rep.slot q (by intro z; cases z)
      obtain ⟨a, vs, rfl, hq, _⟩ := RepT.dT (rep.take q hv).rep
      exact ⟨a, hv, .inr ⟨_, .inl hq⟩⟩
    · obtain ⟨v, hv⟩ := rep.slot q (by intro z; cases z)
      obtain ⟨a, vs, o, rfl, hq, _⟩ := RepT.lK (rep.take q hv).rep
      exact ⟨a, hv, .inl ⟨_, .inr ⟨o, hq⟩⟩⟩
    · obtain ⟨v, hv⟩ := rep.slot q (by intro z; cases z)
      obtain ⟨a, vs, o, rfl, hq, _⟩ := RepT.lT (rep.take q hv).rep
      exact ⟨a, hv, .inr ⟨_, .inr ⟨o, hq⟩⟩⟩
theorem ve_setdT {o e f : Expr} {i : Nat} {fy fd : M D} {my md : Bool} {apos cpos : Pos} (hu : X.A.units + 1 < cLine) (ho : PE X o (tVar i)) (he : VE X W my e fy) (hf : VE X W md f fd) (mm : M2 X o "setdefault" apos e f cpos) : VE X W true (.Call (.Attribute o "setdefault" apos) [e, f] [] cpos) (dSetd i fy fd) := by
  refine PE.imp (pe_dsetT hu ho he hf mm) fun σ H Q ⟨T, ρ, u, rep, hf, he⟩ => ?_
  unfold dSetd at hf
  by_cases z : isDct ρ[i]? = true
  · rw [if_pos z] at hf
    obtain ⟨a, hv, hd⟩ := isDct_rep z rep
    refine ⟨.ref a, hv, a, rfl, hd, ?_⟩
    refine run1 rep hf he fun y ρ1 w H1 h1 s1 r1 => ?_
    refine run1 r1 h1 (he.push (okP' := okE X.K true T σ H Q) fun _ _ q => q) fun d ρ2 v H2 h2 s2 r2 => ?_
    unfold setdS at h2
    split at h2
    · rename_i ks ds es ex
      split at h2
      · rename_i k ek
        split at h2
        · rename_i zz
          have hi : i < ρ2.length := by rw [r2.len]; exact (List.getElem?_eq_some_iff.mp hv).1
          have r3 : Rep X.K H2 ((d, v) :: (.tup es, w) :: T) ρ2 σ := r2
          have r4 := r3.take (getD_at hi) hv
          rw [ex] at r4
          obtain ⟨a', vs, ea, hq, n1, nd, l, _⟩ := RepT.dT r4.rep
          cases ea
          have ry : Rep X.K H2 ((.tup es, w) :: (d, v) :: T) ρ2 σ := r3.perm (.swap _ _ _)
          obtain ⟨b, bs, rfl, hb, lb, rb⟩ := RepT.openT ry.rep
          have wk := keysD_rep ek lb rb
          subst wk
          refine ⟨ks.zip vs, k, b, hq, rfl, hb, by rw [List.length_zip]; omega, fun v0 hv0 => ?_, fun hn => ?_⟩
          · rw [valV_look] at hv0
            split at h2
            · have : u = .ok .unk ρ2 := (Option.some.inj h2).symm
              subst this
              exact he _ H2 (fun z => by cases z) (r3.drop.drop.lift fun q => q.unk)
            · rename_i en
              rw [look_none n1 l en] at hv0; cases hv0
          · rw [valV_look] at hn
            split at h2
            · rename_i x0 en
              obtain ⟨j, u0, _, _, h3⟩ := look_pair n1 l en
              rw [hn] at h3; cases h3
            · have : u = .ok .unk (ρ2.set i (.dT true (putL ks ds k d).1 (putL ks ds k d).2)) := (Option.some.inj h2).symm
              subst this
              have rA : RepT X.K H2 ((d, v) :: (.dT true ks ds, .ref a) :: (.tup es, .ref b) :: (T ++ SL (ρ2.set i .unk) σ)) := r4.rep.perm (.swap _ _ _)
              obtain ⟨vs', hq', _, _, r5⟩ := RepT.putDT (k := k) rA
              rw [hq] at hq'
              have ez : ks.zip vs = ks.zip vs' := by injection hq' with e1; injection e1
              rw [← ez] at r5
              have r6 : Rep X.K (upd H2 a (.dT (putK (ks.zip vs) k v))) ((.dT true (putL ks ds k d).1 (putL ks ds k d).2, .ref a) :: (.tup es, .ref b) :: T) (ρ2.set i .unk) σ := ⟨r4.len, r4.nos, r5⟩
              have r7 := r6.put hv
              rw [List.set_set] at r7
              exact he _ _ (fun z => by cases z) (r7.drop.lift fun q => q.unk)
        · cases h2
      · cases h2
    · cases h2
  · rw [if_neg z] at hf; cases hf
/-! ### isinstance -/
def tyD : D → Option String
  | .non => some "NoneType"
  | .bl _ => some "bool"
  | .int _ => some "int"
  | .str _ => some "str"
  | .tup _ => some "tuple"
  | .ktp _ => some "tuple"
  | .lst _ _ => some "list"
  | .scr _ => some "list"
  | .dK _ _ _ => some "dict"
  | .dT _ _ _ => some "dict"
  | _ => none
theorem tyD_rep {d : D} {n : String} {v : V} (e : tyD d = some n) (r : RepT K H ((d, v) :: L)) : TyX K H v (.type n) := by
  cases d <;> simp only [tyD, Option.some.injEq, reduceCtorEq] at e <;> subst e
  · rw [r.eq_non]; exact .base .non
  · rw [r.eq_bl]; exact .base (.bl _)
  · rw [r.eq_int]; exact .base (.int _)
  · rw [r.eq_str]; exact .base (.str _)
  · obtain ⟨a, vs, rfl, q, _⟩ := r.openT; exact .base (.tup q)
  · obtain ⟨a, vs, rfl, q, _⟩ := r.readL; exact .base (.lst q)
  · obtain ⟨a, vs, rfl, q, _⟩ := r.openS
    rcases q with (q | ⟨o, q⟩) | ⟨o, its, n, h1, h2, _⟩
    · exact .base (.lst q)
    · exact .base (.frz q)
    · exact .kList h1 h2
  · obtain ⟨a, vs, rfl, q, _⟩ := r.openK
    rcases q with (q | ⟨o, q⟩) | ⟨o, its, n, h1, h2, _⟩
    · exact .base (.tup q)
    · exact .fTuple q
    · exact .kTuple h1 h2
  · obtain ⟨a, vs, rfl, q, _⟩ := r.dK; exact .base (.dK q)
  · obtain ⟨a, vs, rfl, q, _⟩ := r.dT; exact .base (.dT q)
/-- whether a built-in class is another one's -/
def isaB : String → List String → Option Bool
  | _, [] => some false
  | a, n :: ns => match kitB a n with
    | none => none
    | some true => some true
    | some false => isaB a ns
def gIsa (ns : List String) (d : D) : Option D := match tyD d with
  | none => none
  | some a => (isaB a ns).map .bl
theorem isaB_any {a : String} : ∀ {ns : List String} {b : Bool}, isaB a ns = some b → PySem.W.kitAny K (.type a) (ns.map Value.type) = some b
  | [], b, h => by
    have : false = b := Option.some.inj h
    subst this
    rfl
  | n :: ns, b, h => by
    rw [isaB] at h
    cases q : kitB a n with
    | none => rw [q] at h; cases h
    | some c =>
      rw [q] at h
      refine kitAny_cons (kit_ty q) (fun e => ?_) fun e => ?_
      · subst e; exact isaB_any h
      · subst e
        exact (Option.some.inj h).symm
def dIsa (ns : List String) (f : M D) : M D := bindM f fun d => optM (gIsa ns d)
theorem gIsa_inv {ns : List String} {d x : D} (h : gIsa ns d = some x) : ∃ a b, tyD d = some a ∧ isaB a ns = some b ∧ x = .bl b := by
  unfold gIsa at h
  split at h
  · cases h
  · rename_i a ea
    obtain ⟨b, eb, rfl⟩ := Option.map_eq_some_iff.mp h
    exact ⟨a, b, ea, eb, rfl⟩
theorem ve_isa {e c : Expr} {n : String} {f : M D} {p pos : Pos} (hg : Gl X "isinstance") (hm : X.mg "isinstance" = none) (he : VE X W m e f) (hc : PE X c (tC (.ty n)))
    (hs1 : starEach [c] X.env = (false, eval c X.env) :: starEach [] X.env := by rfl) (hs : starEach [e, c] X.env = (false, eval e X.env) :: starEach [c] X.env := by rfl) (hpl : (backTo pos (starEach [c] X.env)).any (·.1) = false := by rfl) : VE X W m (.Call (.Name "isinstance" p) [e, c] [] pos) (dIsa [n] f) := by
  refine PE.imp (pe_callB call_isi hg hm (by decide +kernel) (pa_cons he (pa_cons hc pa_nil hs1) hs) (by decide) (by decide) hs hpl) fun σ H Q ⟨T, ρ, u, rep, hf, hend⟩ => ?_
  refine run1 rep hf hend fun d ρ1 v H1 h1 s1 r1 => ?_
  obtain ⟨x, ex, rfl⟩ := optM_some h1
  obtain ⟨a, b, e1, e2, rfl⟩ := gIsa_inv ex
  refine ⟨v, .ty n, .type a, .type n, b, rfl, .ty n, tyD_rep e1 r1.rep, ?_, hend _ H1 s1 (r1.drop.lift fun q => q.bl)⟩
  rw [isaB] at e2
  cases q : kitB a n with
  | none => rw [q] at e2; cases e2
  | some c =>
    rw [q] at e2
    cases c with
    | true => rw [kit_ty q]; exact e2
    | false => rw [kit_ty q]; exact e2
theorem ve_isa2 {e c c2 : Expr} {n n2 : String} {f : M D} {k : Nat} {p pos tpos : Pos} (hg : Gl X "isinstance") (hm : X.mg "isinstance" = none) (he : VE X W m e f) (hc : PE X c (tC (.ty n))) (hc2 : PE X c2 (tC (.ty n2)))
    (hs0 : starEach [c2] X.env = (false, eval c2 X.env) :: starEach [] X.env := by rfl) (hs3 : starEach [c, c2] X.env = (false, eval c X.env) :: starEach [c2] X.env := by rfl)
    (hs1 : starEach [.Tuple [c, c2] k tpos] X.env = (false, eval (.Tuple [c, c2] k tpos) X.env) :: starEach [] X.env := by rfl) (hs : starEach [e, .Tuple [c, c2] k tpos] X.env = (false, eval e X.env) :: starEach [.Tuple [c, c2] k tpos] X.env := by rfl) (hpl : (backTo pos (starEach [.Tuple [c, c2] k tpos] X.env)).any (·.1) = false := by rfl) : VE X W m (.Call (.Name "isinstance" p) [e, .Tuple [c, c2] k tpos] [] pos) (dIsa [n, n2] f) := by
  refine PE.imp (pe_callB call_isiT hg hm (by decide +kernel) (pa_cons he (pa_cons (pe_tup (pa_cons hc (pa_cons hc2 pa_nil hs0) hs3)) pa_nil hs1) hs) (by decide) (by decide) hs hpl) fun σ H Q ⟨T, ρ, u, rep, hf, hend⟩ => ?_
  refine run1 rep hf hend fun d ρ1 v H1 h1 s1 r1 => ?_
  obtain ⟨x, ex, rfl⟩ := optM_some h1
  obtain ⟨a, b, e1, e2, rfl⟩ := gIsa_inv ex
  refine ⟨(by show 2 ≤ sizeLine; decide), fun tp htp => ?_⟩
  have r2 : RepT X.K (upd H1 tp (.tup [.ty n, .ty n2])) ((d, v) :: (T ++ SL ρ1 σ)) := RepT.grow htp r1.rep
  refine ⟨v, tp, _, .type a, [.type n, .type n2], b, rfl, upd_same, .cons (.ty n) (.cons (.ty n2) .nil), tyD_rep e1 r2, isaB_any e2, hend _ _ (sm_r s1 (Same.upd htp)) ⟨r1.len, r1.nos, RepT.bl r2.drop⟩⟩
end
end VS

set_option Elab.async false
set_option linter.all false
set_option maxRecDepth 100000
set_option maxHeartbeats 4000000
set_option autoImplicit false
/-! VS9: min, max of a sequence of ints; list.index; sorted(dict with tuple keys). -/
noncomputable section
namespace VS
open PySem PySem.Spec PyProof.Rows L2
section
variable {X : Cx} {W : WX} {K : PySem.W.Frag} {mg : Str → Option Value} {F H H1 : Hp} {T L : List (D × V)} {ρ ρ' : Env} {σ σ' σ'' : St} {m : Bool}
theorem ints_reads {h : Heap} : ∀ {ns : List Int} {its : List Value}, Vals (ns.map V.int) its → ∃ as, ReadsAll h its (ns.map PyData.int) as
  | [], _, .nil => ⟨_, .nil⟩
  | n :: ns, _, .cons r t => by
    obtain ⟨u, rfl⟩ := r
    obtain ⟨as, q⟩ := ints_reads t
    exact ⟨_, .cons (.int n u) q⟩
theorem ints_alike (n : Int) (ns : List Int) : PySem.W.AlikeAll ((.int n : PyData) :: ns.map PyData.int) := by
  have key : ∀ x ∈ ((.int n : PyData) :: ns.map PyData.int), ∃ i, x = .int i := fun x hx => by
    rcases List.mem_cons.mp hx with rfl | hx
    · exact ⟨n, rfl⟩
    · obtain ⟨i, _, rfl⟩ := List.mem_map.mp hx
      exact ⟨i, rfl⟩
  refine ⟨fun x hx y hy => ?_, fun x hx => ?_⟩
  · obtain ⟨i, rfl⟩ := key x hx
    obtain ⟨j, rfl⟩ := key y hy
    rfl
  · obtain ⟨i, rfl⟩ := key x hx
    intro z; cases z
theorem ints_depth : ∀ ns : List Int, PyData.depthAll (ns.map PyData.int) = 0
  | [] => rfl
  | n :: ns => by rw [List.map_cons, PyData.depthAll, ints_depth ns]; rfl
def rBest (K : PySem.W.Frag) (f : Int → List Int → Int) : List V → Hp → VK → Prop := fun xs H Q => ∃ (a : Addr) (n : Int) (ns : List Int), xs = [.ref a] ∧ (SqL K H a ((n :: ns).map V.int) ∨ SqT K H a ((n :: ns).map V.int)) ∧ Q (.int (f n ns)) H
theorem reads_int {h : Heap} {v : Value} {i : Int} {as : List Addr} (r : Reads h v (.int i) as) : ∃ t, v = .int i t := by
  cases r with
  | int i t => exact ⟨t, rfl⟩
theorem cr_minI (hc : X.calm = true) (hu : X.A.units + 64 < cLine) : CallR X (.builtin "min") (rBest X.K fun n ns => ns.foldl min n) := by
  intro pins s σ H vs us Q I r h
  obtain ⟨a, n, ns, rfl, hs, q⟩ := h
  rw [Vals.ref1 r]
  have hd : X.A.units + 1 + PyData.depthAll ((.int n : PyData) :: ns.map PyData.int) < cLine := by
    have := ints_depth (n :: ns)
    rw [List.map_cons] at this
    rw [this]; omega
  rcases hs with hs | hs
  · obtain ⟨its, rv, hl, _⟩ := I.list hs
    obtain ⟨as, hr⟩ := ints_reads (h := s.heap) rv
    refine PySem.W.min_list_data (x := .int n) (xs := ns.map PyData.int) (I.ok.hd hc) hl.isList (by simpa using hr) (ints_alike n ns) hd fun i v h' tk bs _ rr hk => ?_
    rw [PySem.W.minD_ints] at rr
    obtain ⟨t, rfl⟩ := reads_int rr
    exact ⟨.int _, H, I.kept hk, ⟨_, rfl⟩, q⟩
  · obtain ⟨its, rv, hl, _⟩ := I.tuple hs
    obtain ⟨as, hr⟩ := ints_reads (h := s.heap) rv
    refine PySem.W.min_tuple_data (x := .int n) (xs := ns.map PyData.int) (I.ok.hd hc) hl (by simpa using hr) (ints_alike n ns) hd fun i v h' tk bs _ rr hk => ?_
    rw [PySem.W.minD_ints] at rr
    obtain ⟨t, rfl⟩ := reads_int rr
    exact ⟨.int _, H, I.kept hk, ⟨_, rfl⟩, q⟩
theorem cr_maxI (hc : X.calm = true) (hu : X.A.units + 64 < cLine) : CallR X (.builtin "max") (rBest X.K fun n ns => ns.foldl max n) := by
  intro pins s σ H vs us Q I r h
  obtain ⟨a, n, ns, rfl, hs, q⟩ := h
  rw [Vals.ref1 r]
  have hd : X.A.units + 1 + PyData.depthAll ((.int n : PyData) :: ns.map PyData.int) < cLine := by
    have := ints_depth (n :: ns)
    rw [List.map_cons] at this
    rw [this]; omega
  rcases hs with hs | hs
  · obtain ⟨its, rv, hl, _⟩ := I.list hs
    obtain ⟨as, hr⟩ := ints_reads (h := s.heap) rv
    refine PySem.W.max_list_data (x := .int n) (xs := ns.map PyData.int) (I.ok.hd hc) hl.isList (by simpa using hr) (ints_alike n ns) hd fun i v h' tk bs _ rr hk => ?_
    rw [PySem.W.maxD_ints] at rr
    obtain ⟨t, rfl⟩ := reads_int rr
    exact ⟨.int _, H, I.kept hk, ⟨_, rfl⟩, q⟩
  · obtain ⟨its, rv, hl, _⟩ := I.tuple hs
    obtain ⟨as, hr⟩ := ints_reads (h := s.heap) rv
    refine PySem.W.max_tuple_data (x := .int n) (xs := ns.map PyData.int) (I.ok.hd hc) hl (by simpa using hr) (ints_alike n ns) hd fun i v h' tk bs _ rr hk => ?_
    rw [PySem.W.maxD_ints] at rr
    obtain ⟨t, rfl⟩ := reads_int rr
    exact ⟨.int _, H, I.kept hk, ⟨_, rfl⟩, q⟩
def gBest (f : Int → List Int → Int) (ds : List D) : Option D := match ds with
  | [x] => (seqOf x).bind fun xs => match allI xs with
    | some (n :: ns) => some (.int (f n ns))
    | _ => none
  | _ => none
def gMin1 := gBest fun n ns => ns.foldl min n
def gMax1 := gBest fun n ns => ns.foldl max n
theorem impBest {f : Int → List Int → Int} : ImpA K (rBest K f) (gBest f) := by
  intro H L ds vs d Q e l r h
  unfold gBest at e
  split at e
  · rename_i x
    obtain ⟨xs, e1, e2⟩ := Option.bind_eq_some_iff.mp e
    split at e2
    · rename_i n ns e3
      cases e2
      obtain ⟨v, rfl⟩ := len1 l
      have r1 : RepT K H ((x, v) :: L) := r
      obtain ⟨a, ws, rfl, sq, l2, r2⟩ := r1.seq e1
      rw [allI_eq e3] at l2 r2
      have := zip_int (by rw [← l2, List.length_map]) r2
      subst this
      exact ⟨a, n, ns, rfl, sq, h _ H (Same.refl _) (RepT.int r1.drop)⟩
    · cases e2
  · cases e
/-- min, max of one sequence or of two ints -/
def gMin (ds : List D) : Option D := match ds with
  | [_] => gMin1 ds
  | _ => gMin2 ds
def gMax (ds : List D) : Option D := match ds with
  | [_] => gMax1 ds
  | _ => gMax2 ds
def rMinA (K : PySem.W.Frag) : List V → Hp → VK → Prop := fun xs H Q => rBest K (fun n ns => ns.foldl min n) xs H Q ∨ (∃ i j, xs = [.int i, .int j] ∧ Q (.int (if j < i then j else i)) H)
def rMaxA (K : PySem.W.Frag) : List V → Hp → VK → Prop := fun xs H Q => rBest K (fun n ns => ns.foldl max n) xs H Q ∨ (∃ i j, xs = [.int i, .int j] ∧ Q (.int (if j > i then j else i)) H)
theorem cr_minA (hc : X.calm = true) (hu : X.A.units + 64 < cLine) : CallR X (.builtin "min") (rMinA X.K) := CallR.orr (cr_minI hc hu) (call_min2 hc)
theorem cr_maxA (hc : X.calm = true) (hu : X.A.units + 64 < cLine) : CallR X (.builtin "max") (rMaxA X.K) := CallR.orr (cr_maxI hc hu) (call_max2 hc)
theorem impMin : ImpA K (rMinA K) gMin := by
  intro H L ds vs d Q e l r h
  unfold gMin at e
  split at e
  · exact .inl (impBest H L _ vs d Q e l r h)
  · exact .inr (impMin2 H L ds vs d Q e l r h)
theorem impMax : ImpA K (rMaxA K) gMax := by
  intro H L ds vs d Q e l r h
  unfold gMax at e
  split at e
  · exact .inl (impBest H L _ vs d Q e l r h)
  · exact .inr (impMax2 H L ds vs d Q e l r h)
/-! ### list.index at a name -/
def idxP (d : PyData) : List PyData → Option Nat
  | [] => none
  | z :: zs => if PyData.eqv z d = true then some 0 else (idxP d zs).map (· + 1)
theorem idxP_ok {d : PyData} : ∀ {zs : List PyData} {j : Nat}, idxP d zs = some j → ∃ z, zs[j]? = some z ∧ PyData.eqv z d = true ∧ ∀ (m : Nat) (z' : PyData), m < j → zs[m]? = some z' → PyData.eqv z' d = false
  | [], j, h => by cases h
  | z :: zs, j, h => by
    rw [idxP] at h
    by_cases e : PyData.eqv z d = true
    · rw [if_pos e] at h
      cases h
      exact ⟨z, rfl, e, fun m z' hm => by omega⟩
    · rw [if_neg e] at h
      obtain ⟨i, hi, rfl⟩ := Option.map_eq_some_iff.mp h
      obtain ⟨y, h1, h2, h3⟩ := idxP_ok hi
      refine ⟨y, h1, h2, fun m z' hm hz => ?_⟩
      cases m with
      | zero =>
        have : z = z' := Option.some.inj hz
        subst this
        cases q : PyData.eqv z d
        · rfl
        · exact absurd q e
      | succ m => exact h3 m z' (by omega) hz
def idxD (x y : D) : Option D := match lstOf x with
  | none => none
  | some ds => match dats ds, dat y with
    | some es, some e => if SeqAt.shaped (.list es) = true ∧ SeqAt.shaped e = true then (idxP e es).map fun (j : Nat) => D.int (j : Int) else none
    | _, _ => none
def idxS (i : Nat) (ys : List D) : M D := fun ρ => match ys with
  | [y] => match idxD (ρ.getD i .unk) y with
    | some d => some (.ok d ρ)
    | none => none
  | _ => none
def dIdx (i : Nat) (f : M (List D)) : M D := fun ρ0 => if isLst ρ0[i]? = true then bindM f (idxS i) ρ0 else none
theorem ve_index {o : Expr} {i : Nat} {f : M (List D)} {e : Expr} {apos cpos : Pos} (hu : X.A.units + 65 < cLine) (ho : PE X o (tVar i)) (ha : VA X W m [e] f) (hbase : attributeBase o "index" X.env (eval o X.env) = eval o X.env := by rfl)
    (hfew : ((backTo cpos (starEach [e] X.env)).all (fun x => !x.1) && (backToKw cpos (keywordEach [] X.env)).all (fun x => x.1.isSome)
      && decide (([e] : List Expr).length + ([] : List Keyword).length + (if ([] : List Keyword).isEmpty then 0 else 1) < 30)) = true := by rfl)
    (hline : (apos.endLine == cpos.line) = true := by rfl) (hs : starEach [e] X.env = (false, eval e X.env) :: starEach [] X.env := by rfl) (hplain : (backTo cpos (starEach [] X.env)).any (·.1) = false := by rfl) :
    VE X W m (.Call (.Attribute o "index" apos) [e] [] cpos) (dIdx i f) := by
  refine PE.imp (pe_bm PySem.F.plainAttrs_list PySem.F.slot_list_index PySem.F.type_list_index (mt_indexD hu) ho ha hbase hfew hline hs hplain) fun σ H Q ⟨T, ρ, u, rep, hf, he⟩ => ?_
  unfold dIdx at hf
  by_cases z : isLst ρ[i]? = true
  · rw [if_pos z] at hf
    cases q : ρ[i]? with
    | none => rw [q] at z; cases z
    | some x =>
      rw [q] at z
      cases x <;> simp only [isLst, Bool.false_eq_true] at z
      obtain ⟨v, hv⟩ := rep.slot q (by intro z; cases z)
      obtain ⟨a, vs0, rfl, hq, _, _⟩ := RepT.readL (rep.take q hv).rep
      refine ⟨.ref a, hv, .inl ⟨rfl, _, .inl (.inl hq)⟩, ?_⟩
      refine runA rep hf he fun ds ρ1 vs H1 h1 s1 l1 r1 => ?_
      unfold idxS at h1
      split at h1
      · rename_i y
        split at h1
        · rename_i d ed
          have : u = .ok d ρ1 := (Option.some.inj h1).symm
          subst this
          obtain ⟨w, rfl⟩ := len1 l1
          have r2 : Rep X.K H1 ((y, w) :: T) ρ1 σ := r1
          unfold idxD at ed
          split at ed
          · cases ed
          · rename_i xs ex
            split at ed
            · rename_i es e ee ey
              split at ed
              · rename_i zz
                obtain ⟨j, ej, rfl⟩ := Option.map_eq_some_iff.mp ed
                obtain ⟨z, h2, h3, h4⟩ := idxP_ok ej
                have hi : i < ρ1.length := by rw [r1.len]; exact (List.getElem?_eq_some_iff.mp hv).1
                have r3 := r2.take (getD_at hi) hv
                have dl : Dp X.K H1 (.ref a) (.list es) := by
                  refine RepT.dp r3.rep ?_
                  cases xx : ρ1.getD i .unk <;> rw [xx] at ex <;> simp only [lstOf, Option.some.injEq, reduceCtorEq] at ex <;> subst ex <;> simp only [dat, ee, Option.map_some]
                exact ⟨a, w, e, es, j, z, rfl, rfl, dl, r2.rep.dp ey, zz.1, zz.2, h2, h3, h4, he _ H1 s1 (r2.drop.lift fun q => q.int)⟩
              · cases ed
            · cases ed
        · cases h1
      · cases h1
  · rw [if_neg z] at hf; cases hf
/-! ### sorted(d), d's keys tuples -/
def keyB : Key → D
  | .inl i => .int i
  | .inr x => .str x
def tupK (k : List Key) : D := .tup (k.map keyB)
def keyP : Key → PyData
  | .inl i => .int i
  | .inr x => .str x
def tupP (k : List Key) : PyData := .tuple (k.map keyP)
theorem dats_key : ∀ k : List Key, dats (k.map keyB) = some (k.map keyP)
  | [] => rfl
  | .inl i :: k => by rw [List.map_cons, dats, dats_key k]; rfl
  | .inr x :: k => by rw [List.map_cons, dats, dats_key k]; rfl
theorem dat_key (k : List Key) : dat (tupK k) = some (tupP k) := by
  unfold tupK tupP
  rw [dat, dats_key]; rfl
theorem dats_keys : ∀ ks : List (List Key), dats (ks.map tupK) = some (ks.map tupP)
  | [] => rfl
  | k :: ks => by rw [List.map_cons, dats, dat_key, dats_keys ks]; rfl
theorem key_own {F' : Hp} : ∀ k : List Key, OwL K F' H (k.map keyB) (k.map kV) []
  | [] => by rw [List.map_nil, List.map_nil, OwL]; exact ⟨rfl, rfl⟩
  | .inl i :: k => by
    rw [List.map_cons, List.map_cons, OwL]
    exact ⟨_, _, [], [], rfl, rfl, by rw [keyB, Ow]; exact ⟨rfl, rfl⟩, key_own k⟩
  | .inr i :: k => by
    rw [List.map_cons, List.map_cons, OwL]
    exact ⟨_, _, [], [], rfl, rfl, by rw [keyB, Ow]; exact ⟨rfl, rfl⟩, key_own k⟩
def leK (x y : List Key) : Bool := PySem.W.dataLe false tupP x y
def rSortDT : List V → Hp → VK → Prop := fun xs H Q => ∃ (a : Addr) (kvs : List (List Key × V)), xs = [.ref a] ∧ H a = some (.dT kvs) ∧ PySem.W.AllAlike (kvs.map fun p => tupP p.1) ∧ PySem.W.Sortable (kvs.map fun p => tupP p.1) ∧ (∀ p ∈ kvs, (tupP p.1).depth ≤ 60) ∧
  ∀ bs : List (List Key × Addr), bs.map (·.1) = kvs.map (·.1) → (∀ b ∈ bs, H b.2 = some (.tup (b.1.map kV))) → ∀ p, H p = none → Q (.ref p) (upd H p (.lst ((bs.mergeSort fun x y => leK x.1 y.1).map fun b => V.ref b.2)))
theorem keyP_reads {pins : List (Addr × Obj)} {s : Shared} (I : Inv X pins σ H s) {b : Addr} {k : List Key} (hb : H b = some (.tup (k.map kV))) : ∃ as, Reads s.heap (.ref b) (tupP k) as := by
  have key : ∀ k : List Key, DpAll X.K H (k.map kV) (k.map keyP) := by
    intro k
    induction k with
    | nil => exact .nil
    | cons c k ih =>
      cases c with
      | inl i => exact .cons (.int i) ih
      | inr x => exact .cons (.str x) ih
  exact Dp.reads I _ (.ref b) _ (.tup (.inl (.inl hb)) (key k)) rfl
theorem keyAll_nil {h : Heap} : ∀ {k : List Key} {vs : List Value} {as : List Addr}, ReadsAll h vs (k.map keyP) as → as = []
  | [], _, _, r => by cases r; rfl
  | .inl i :: k, _, _, r => by
    cases r with
    | cons r1 r2 =>
      have e := keyAll_nil (k := k) r2
      cases r1
      rw [e]; rfl
  | .inr i :: k, _, _, r => by
    cases r with
    | cons r1 r2 =>
      have e := keyAll_nil (k := k) r2
      cases r1
      rw [e]; rfl
theorem tupP_nil {h : Heap} {k : List Key} {v : Value} {as : List Addr} (r : Reads h v (tupP k) as) : as = [] := by
  unfold tupP at r
  cases r with
  | tuple _ _ _ r => exact keyAll_nil r
theorem refs_each {s : Shared} {a : Addr} {h2 : Heap} : ∀ {bs : List (List Key × Addr)}, (∀ b ∈ bs, ∃ as, Reads h2 (.ref b.2) (tupP b.1) as) →
    PySem.W.EachIs (fun v (b : List Key × Addr) => v = Value.ref b.2) (bs.map fun b => Value.ref b.2) bs ∧ PySem.W.EachIs (fun v (b : List Key × Addr) => ∃ as, Reads h2 v (tupP b.1) as ∧ a ∉ as) (bs.map fun b => Value.ref b.2) bs
  | [], _ => ⟨.nil, .nil⟩
  | b :: bs, h => by
    obtain ⟨h1, h2⟩ := refs_each (s := s) (a := a) (bs := bs) fun c hc => h c (List.mem_cons_of_mem _ hc)
    obtain ⟨as, r⟩ := h b (by simp)
    exact ⟨.cons rfl h1, .cons ⟨as, r, by rw [tupP_nil r]; simp⟩ h2⟩
theorem refs_vals : ∀ {bs : List (List Key × Addr)} {out : List Value}, PySem.W.EachIs (fun v (b : List Key × Addr) => v = Value.ref b.2) out bs → Vals (bs.map fun b => V.ref b.2) out
  | _, _, .nil => .nil
  | _, _, .cons h t => .cons h (refs_vals t)
theorem cr_sortDT (hcalm : X.calm = true) (hu : X.A.units + 64 < cLine) : CallR X (.builtin "sorted") rSortDT := by
  intro pins s σ H xs us Q I r q
  obtain ⟨a, kvs, rfl, hd, hal, hso, hdp, q⟩ := q
  rw [Vals.ref1 r]
  obtain ⟨z, lo, ys, rel, dd⟩ := dt_of I.hok hd
  obtain ⟨es, ep, hraw, hsz, hent⟩ := dd.raw
  have hl : ys.length = kvs.length := (Paired.length rel).symm
  have h16 : es.size ≤ sizeLine := by rw [hsz, hl]; exact z
  -- the keys as they stand
  let bs : List (List Key × Addr) := ys.map fun y => (y.1, y.2.1)
  have hbk : bs.map (·.1) = kvs.map (·.1) := by
    have : ∀ {l : List (List Key × V)} {m : List (List Key × Addr × Value)}, KT H l m → (m.map fun y => (y.1, y.2.1)).map (·.1) = l.map (·.1) := by
      intro l m q
      induction q with
      | nil => rfl
      | cons h _ ih => rw [List.map_cons, List.map_cons, List.map_cons, ih, h.1]
    exact this rel
  have hbt : ∀ b ∈ bs, H b.2 = some (.tup (b.1.map kV)) := by
    have : ∀ {l : List (List Key × V)} {m : List (List Key × Addr × Value)}, KT H l m → ∀ b ∈ (m.map fun y => (y.1, y.2.1)), H b.2 = some (.tup (b.1.map kV)) := by
      intro l m q
      induction q with
      | nil => intro b hb; cases hb
      | cons h _ ih =>
        intro b hb
        rcases List.mem_cons.mp hb with rfl | hb
        · rw [← h.1]; exact h.2.1
        · exact ih b hb
    exact this rel
  refine Calls.call_function_entry PyProof.Rows.kind_sorted PyProof.Rows.plain_sorted PyProof.Rows.entry_sorted (PyProof.Rows.args_sorted1 _) ?_
  unfold Builtin.«sorted»
  refine wpAny_bind (m := checkCount "sorted" 1 1 _) (wpAny_pure ?_)
  refine wpAny_bind (PySem.W.kdu_collect (A := X.A.in1) (PySem.KdlSrc.rawDict (es := es) (ep := ep) lo) (I.ok.hd hcalm) hraw h16 fun h' tk acc hk hacc => ?_)
  have ea : acc.toList = bs.map fun b => Value.ref b.2 := by
    apply List.ext_getElem?
    intro j
    by_cases hj : j < acc.size
    · have e1 : acc.toList[j]? = some acc[j] := by rw [Array.getElem?_toList, Array.getElem?_eq_getElem hj]
      obtain ⟨hi, e2⟩ := hacc.2 j acc[j] (Array.getElem?_eq_getElem hj)
      obtain ⟨y, hy, e3, _⟩ := hent j hi
      rw [e1, e2, e3]
      show _ = ((ys.map fun y => (y.1, y.2.1)).map fun b => Value.ref b.2)[j]?
      rw [List.getElem?_map, List.getElem?_map, hy]; rfl
    · rw [List.getElem?_eq_none (by rw [Array.length_toList]; omega), List.getElem?_eq_none]
      show ((ys.map fun y => (y.1, y.2.1)).map fun b => Value.ref b.2).length ≤ j
      rw [List.length_map, List.length_map, ← hsz]
      have := hacc.1
      omega
  have hbl : bs.length ≤ sizeLine := by
    show (ys.map fun y => (y.1, y.2.1)).length ≤ sizeLine
    rw [List.length_map, ← hsz]; exact h16
  have I1 : Inv X pins σ H { s with heap := h', toks := tk } := I.kept hk
  rw [ea]
  refine wpAny_bind (wpAny_newList ?_ (by rw [List.length_map]; exact hbl))
  have hoL : (h'.push (seqObj "list" (bs.map fun b => Value.ref b.2).toArray 0)).get? h'.objs.size = some (seqObj "list" (bs.map fun b => Value.ref b.2).toArray 0) := Heap.get?_push_size _ rfl
  show wpAny _ _ _ _ _ { s with heap := h'.push (seqObj "list" (bs.map fun b => Value.ref b.2).toArray 0), toks := tk }
  have hreads : ∀ b ∈ bs, ∃ as, Reads (h'.push (seqObj "list" (bs.map fun b => Value.ref b.2).toArray 0)) (.ref b.2) (tupP b.1) as := fun b hb => by
    obtain ⟨as, r⟩ := keyP_reads I1 (hbt b hb)
    exact ⟨as, PyProof.Rows.Reads.keeps (fun _ _ e => Heap.get?_push_of_some _ e) r⟩
  obtain ⟨er0, er⟩ := refs_each (s := s) (a := h'.objs.size) hreads
  have em : bs.map (fun b => tupP b.1) = kvs.map fun p => tupP p.1 := by
    have := congrArg (List.map tupP) hbk
    simpa [List.map_map, Function.comp_def] using this
  refine wpAny_bind (wpAny_holding (PySem.W.list_sort_data (s := { s with heap := h'.push (seqObj "list" (bs.map fun b => Value.ref b.2).toArray 0), toks := tk }) (enc := fun b : List Key × Addr => tupP b.1) hoL er0 er (by rw [em]; exact hal) (by rw [em]; exact hso) hbl (fun b hb => ?_) fun out hlen ho => ?_))
  · have : (tupP b.1) ∈ kvs.map fun p => tupP p.1 := by rw [← em]; exact List.mem_map.mpr ⟨b, hb, rfl⟩
    obtain ⟨p, hp, e⟩ := List.mem_map.mp this
    have := hdp p hp
    rw [e] at this
    show X.A.units + 1 + 1 + _ < _
    omega
  · obtain ⟨e', he'⟩ := PyProof.Rows.sortedHeap_at (vs := bs.map fun b => Value.ref b.2) (out := out.toArray) hoL
    have vo := refs_vals ho
    have hlen2 : ((bs.mergeSort fun x y => leK x.1 y.1).map fun b => V.ref b.2).length ≤ sizeLine := by rw [List.length_map, List.length_mergeSort]; exact hbl
    refine wpAny_pure ⟨_, rfl, .ref h'.objs.size, upd H h'.objs.size (.lst ((bs.mergeSort fun x y => leK x.1 y.1).map fun b => V.ref b.2)), I1.laid (t' := tk) (fun b u e => ?_) (Nat.le_refl _)
      (show ObjOk X.prog X.w _ _ _ (.lst _) from ⟨hlen2, out, e', vo, he'⟩), rfl, q bs hbk hbt _ (I1.hok.fresh (Nat.le_refl _))⟩
    have hb : b < h'.objs.size := Heap.lt_size e
    rw [PyProof.Rows.sortedHeap_old (Nat.ne_of_lt hb) (by rw [size_push']; exact Nat.lt_succ_of_lt hb)]
    exact Heap.get?_push_of_some _ e
/-- sorted of a list, or of a dict whose keys are tuples -/
def gSorted (ds : List D) : Option D := match ds with
  | [.dT _ ks _] => (sortD (ks.map tupK)).map fun ys => .lst true ys
  | _ => gSort ds
def rSorted2 (K : PySem.W.Frag) : List V → Hp → VK → Prop := fun xs H Q => rSortDT xs H Q ∨ rSortA K xs H Q
theorem cr_sorted2 (hcalm : X.calm = true) (hu : X.A.units + 64 < cLine) : CallR X (.builtin "sorted") (rSorted2 X.K) := CallR.orr (cr_sortDT hcalm hu) (cr_sortA hu)
theorem RepT.tups {bs : List (List Key × Addr)} : (∀ b ∈ bs, H b.2 = some (.tup (b.1.map kV))) → RepT K H L → RepT K H ((bs.map fun b => tupK b.1).zip (bs.map fun b => V.ref b.2) ++ L) := by
  intro hb r
  induction bs with
  | nil => exact r
  | cons b bs ih => exact RepT.tupOf (hb b (by simp)) (fun F' => key_own b.1) (ih fun c hc => hb c (List.mem_cons_of_mem _ hc))
theorem impSorted : ImpA K (rSorted2 K) gSorted := by
  intro H L ds vs d Q e l r h
  unfold gSorted at e
  split at e
  · rename_i o ks xs
    obtain ⟨ys, e3, rfl⟩ := Option.map_eq_some_iff.mp e
    obtain ⟨v, rfl⟩ := len1 l
    have r1 : RepT K H ((.dT o ks xs, v) :: L) := r
    obtain ⟨a, ws, rfl, hq, n1, nd, l2, r2⟩ := r1.dT
    unfold sortD at e3
    rw [dats_keys] at e3
    simp only at e3
    split at e3
    · rename_i z
      cases e3
      obtain ⟨z1, z2⟩ := z
      rw [Bool.and_eq_true, Bool.and_eq_true, List.all_eq_true] at z1
      have ek : (ks.zip ws).map (fun p => tupP p.1) = ks.map tupP := by
        have : (ks.zip ws).map (·.1) = ks := List.map_fst_zip (by omega)
        have := congrArg (List.map tupP) this
        simpa [List.map_map, Function.comp_def] using this
      refine .inl ⟨a, ks.zip ws, rfl, hq, by rw [ek]; exact alikeB_ok z1.1.1, by rw [ek]; exact sortB_ok z1.1.2, fun p hp => ?_, fun bs hb1 hb2 p hp => h _ _ (Same.upd hp) ?_⟩
      · have : tupP p.1 ∈ ks.map tupP := by rw [← ek]; exact List.mem_map.mpr ⟨p, hp, rfl⟩
        exact of_decide_eq_true (z1.2 _ this)
      · have hk : bs.map (·.1) = ks := by rw [hb1]; exact List.map_fst_zip (by omega)
        have e1 : (ks.map tupK).mergeSort leD = ((bs.mergeSort fun x y => leK x.1 y.1).map fun b => tupK b.1) := by
          have := List.map_mergeSort (f := fun b : List Key × Addr => tupK b.1) (r := fun x y => leK x.1 y.1) (s := leD) (l := bs) (fun x _ y _ => by
            unfold leK leD PySem.W.dataLe PySem.W.sortLe
            simp only [dat_key, Option.getD_some])
          rw [this]
          have e2 : bs.map (fun b => tupK b.1) = ks.map tupK := by
            have := congrArg (List.map tupK) hk
            simpa [List.map_map, Function.comp_def] using this
          rw [e2]
        rw [e1]
        refine RepT.newL (by simp) hp ?_
        refine RepT.tups (fun b hb => hb2 b ?_) r1.drop
        exact (List.mergeSort_perm bs _).mem_iff.mp hb
    · cases e3
  · exact .inr (impSort H L ds vs d Q e l r h)
end
end VS

set_option Elab.async false
set_option linter.all false
set_option maxRecDepth 100000
set_option maxHeartbeats 4000000
set_option autoImplicit false
/-! VS10: built-ins that give a scalar and change nothing; [x] * n; defs as they stand; words for the printed derivations. -/
noncomputable section
namespace VS
open PySem PySem.Spec PyProof.Rows L2
section
variable {X : Cx} {W : WX} {K : PySem.W.Frag} {mg : Str → Option Value} {F H H1 : Hp} {T L : List (D × V)} {ρ ρ' : Env} {σ σ' σ'' : St} {m : Bool}
/-- a scalar is given, the heap stays -/
def ImpS (K : PySem.W.Frag) (r : List V → Hp → VK → Prop) (g : List D → Option D) : Prop := ∀ H L ds vs d Q, g ds = some d → ds.length = vs.length → RepT K H (ds.zip vs ++ L) → (∀ u, scD d = some u → Q u H) → r vs H Q
theorem sc_int {i : Int} {Q : V → Hp → Prop} (h : ∀ u, scD (.int i) = some u → Q u H) : Q (.int i) H := h _ rfl
theorem sc_bl {i : Bool} {Q : V → Hp → Prop} (h : ∀ u, scD (.bl i) = some u → Q u H) : Q (.bl i) H := h _ rfl
theorem sLen : ImpS K (rLen K) gLen := by
  intro H L ds vs d Q e l r h
  unfold gLen at e
  split at e
  · obtain ⟨n, e1, rfl⟩ := Option.map_eq_some_iff.mp e
    obtain ⟨v, rfl⟩ := len1 l
    exact gLen_rd e1 r (h _ rfl)
  · cases e
theorem sAbs : ImpS K (fun xs H Q => ∃ i, xs = [.int i] ∧ Q (.int (if i < 0 then -i else i)) H) gAbs := by
  intro H L ds vs d Q e l r h
  unfold gAbs at e
  split at e
  · cases e
    obtain ⟨v, rfl⟩ := len1 l
    have e1 := RepT.eq_int r
    subst e1
    exact ⟨_, rfl, h _ rfl⟩
  · cases e
theorem sIntOf : ImpS K (fun xs H Q => (∃ i, xs = [.int i] ∧ Q (.int i) H) ∨ ∃ k, xs = [.bl k] ∧ Q (.int (if k then 1 else 0)) H) gIntOf := by
  intro H L ds vs d Q e l r h
  unfold gIntOf at e
  split at e
  · cases e
    obtain ⟨v, rfl⟩ := len1 l
    have e1 := RepT.eq_int r
    subst e1
    exact .inl ⟨_, rfl, h _ rfl⟩
  · cases e
    obtain ⟨v, rfl⟩ := len1 l
    have e1 := RepT.eq_bl r
    subst e1
    exact .inr ⟨_, rfl, h _ rfl⟩
  · cases e
theorem sSum : ImpS K (rSum K) gSum := by
  intro H L ds vs d Q e l r h
  unfold gSum at e
  split at e
  · rename_i x
    obtain ⟨xs, e1, e2⟩ := Option.bind_eq_some_iff.mp e
    obtain ⟨ns, e3, rfl⟩ := Option.map_eq_some_iff.mp e2
    obtain ⟨v, rfl⟩ := len1 l
    have r1 : RepT K H ((x, v) :: L) := r
    obtain ⟨a, ws, rfl, sq, l2, r2⟩ := r1.list e1
    rw [allI_eq e3] at l2 r2
    have := zip_int (by rw [← l2, List.length_map]) r2
    subst this
    exact ⟨a, ns, rfl, sq, h _ rfl⟩
  · cases e
theorem sAll : ImpS K (rAll K) gAll := by
  intro H L ds vs d Q e l r h
  unfold gAll at e
  split at e
  · rename_i x
    obtain ⟨xs, e1, e2⟩ := Option.bind_eq_some_iff.mp e
    obtain ⟨ns, e3, rfl⟩ := Option.map_eq_some_iff.mp e2
    obtain ⟨v, rfl⟩ := len1 l
    have r1 : RepT K H ((x, v) :: L) := r
    obtain ⟨a, ws, rfl, sq, l2, r2⟩ := r1.list e1
    rw [allB_eq e3] at l2 r2
    have := zip_bl (by rw [← l2, List.length_map]) r2
    subst this
    exact ⟨a, ns, rfl, sq, h _ rfl⟩
  · cases e
theorem sAny : ImpS K (rAny K) gAny := by
  intro H L ds vs d Q e l r h
  unfold gAny at e
  split at e
  · rename_i x
    obtain ⟨xs, e1, e2⟩ := Option.bind_eq_some_iff.mp e
    obtain ⟨ns, e3, rfl⟩ := Option.map_eq_some_iff.mp e2
    obtain ⟨v, rfl⟩ := len1 l
    have r1 : RepT K H ((x, v) :: L) := r
    obtain ⟨a, ws, rfl, sq, l2, r2⟩ := r1.list e1
    rw [allB_eq e3] at l2 r2
    have := zip_bl (by rw [← l2, List.length_map]) r2
    subst this
    exact ⟨a, ns, rfl, sq, h _ rfl⟩
  · cases e
theorem sBest {f : Int → List Int → Int} : ImpS K (rBest K f) (gBest f) := by
  intro H L ds vs d Q e l r h
  unfold gBest at e
  split at e
  · rename_i x
    obtain ⟨xs, e1, e2⟩ := Option.bind_eq_some_iff.mp e
    split at e2
    · rename_i n ns e3
      cases e2
      obtain ⟨v, rfl⟩ := len1 l
      have r1 : RepT K H ((x, v) :: L) := r
      obtain ⟨a, ws, rfl, sq, l2, r2⟩ := r1.seq e1
      rw [allI_eq e3] at l2 r2
      have := zip_int (by rw [← l2, List.length_map]) r2
      subst this
      exact ⟨a, n, ns, rfl, sq, h _ rfl⟩
    · cases e2
  · cases e
theorem sMin : ImpS K (rMinA K) gMin := by
  intro H L ds vs d Q e l r h
  unfold gMin at e
  split at e
  · exact .inl (sBest H L _ vs d Q e l r h)
  · unfold gMin2 at e
    split at e
    · cases e
      obtain ⟨v, w, rfl⟩ := len2 l
      have e1 := RepT.eq_int r
      have e2 := RepT.eq_int (RepT.drop r)
      subst e1; subst e2
      exact .inr ⟨_, _, rfl, h _ rfl⟩
    · cases e
theorem sMax : ImpS K (rMaxA K) gMax := by
  intro H L ds vs d Q e l r h
  unfold gMax at e
  split at e
  · exact .inl (sBest H L _ vs d Q e l r h)
  · unfold gMax2 at e
    split at e
    · cases e
      obtain ⟨v, w, rfl⟩ := len2 l
      have e1 := RepT.eq_int r
      have e2 := RepT.eq_int (RepT.drop r)
      subst e1; subst e2
      exact .inr ⟨_, _, rfl, h _ rfl⟩
    · cases e
def isSc (d : D) : Bool := (scD d).isSome
def dCallS (ks : List (Option Nat)) (g : List D → Option D) (f : M (List D)) : M D := bindM f fun ds ρ => match g (takeIO ks ds ρ).1 with
  | none => none
  | some d => if isSc d = true then some (.ok d ρ) else none
theorem tCBS_of {ks : List (Option Nat)} {r : List V → Hp → VK → Prop} {g : List D → Option D} {f : M (List D)} (hg : ImpS K r g) {Q : VK} (h : tOf K mg W m (dCallS ks g f) σ H Q) : tCB r (taIO K mg W m ks f) σ H Q := by
  obtain ⟨T, ρ, u, rep, hf, he⟩ := h
  unfold dCallS bindM at hf
  cases q : f ρ with
  | none => rw [q] at hf; cases hf
  | some w =>
    rw [q] at hf
    refine ⟨T, ρ, w, rep, q, ?_⟩
    cases w with
    | ex x ρ2 =>
      have : u = .ex x ρ2 := (Option.some.inj hf).symm
      subst this
      exact he
    | ok ds ρ1 =>
      intro tv vs H1 s1 l1 io r1
      obtain ⟨l2, r2⟩ := take_rep l1 io r1
      simp only at hf
      cases qg : g (takeIO ks ds ρ1).1 with
      | none => rw [qg] at hf; cases hf
      | some d =>
        rw [qg] at hf
        simp only at hf
        split at hf
        · have : u = .ok d ρ1 := (Option.some.inj hf).symm
          subst this
          refine hg H1 (T ++ SL (takeIO ks ds ρ1).2 σ) _ vs d Q qg l2 (by rw [← List.append_assoc]; exact r2.rep) fun z ez => ?_
          exact he z H1 s1 ((Rep.dropL r1).lift fun q => scD_rep ez q)
        · cases hf
theorem ve_callS {id : String} {ks : List (Option Nat)} {r : List V → Hp → VK → Prop} {g : List D → Option D} {f : M (List D)} {x : Str} {e : Expr} {es : List Expr} {p pos : Pos} (hc : CallR X (.builtin id) r) (hi : ImpS X.K r g) (hg : Gl X x) (hm : X.mg x = none) (hv : bootBuiltins x = some (.builtin id))
    (ha : VIO X W m ks (e :: es) f) (hn : x ≠ "__name__" := by decide) (hdb : (x == ("__debug__" : Str)) = false := by decide)
    (he : starEach (e :: es) X.env = (false, eval e X.env) :: starEach es X.env := by rfl) (hpl : (backTo pos (starEach es X.env)).any (·.1) = false := by rfl) : VE X W m (.Call (.Name x p) (e :: es) [] pos) (dCallS ks g f) :=
  PE.imp (pe_callB hc hg hm hv ha hn hdb he hpl) fun _ _ _ h => tCBS_of hi h
theorem ve_callST {id : String} {ks : List (Option Nat)} {r : List V → Hp → VK → Prop} {g : List D → Option D} {f : M (List D)} {x : Str} {e : Expr} {es : List Expr} {p pos : Pos} (hc : CallR X (.type id) r) (hi : ImpS X.K r g) (hg : Gl X x) (hm : X.mg x = none) (hv : bootBuiltins x = some (.type id))
    (ha : VIO X W m ks (e :: es) f) (hn : x ≠ "__name__" := by decide) (hdb : (x == ("__debug__" : Str)) = false := by decide)
    (he : starEach (e :: es) X.env = (false, eval e X.env) :: starEach es X.env := by rfl) (hpl : (backTo pos (starEach es X.env)).any (·.1) = false := by rfl) : VE X W m (.Call (.Name x p) (e :: es) [] pos) (dCallS ks g f) :=
  PE.imp (pe_callTy hc hg hm hv ha hn hdb he hpl) fun _ _ _ h => tCBS_of hi h
/-! ### a * b: ints; a list of scalars times an int -/
def scAll (xs : List D) : Bool := xs.all isSc
def gMulA (x y : D) : Option D := match x, y with
  | .lst _ xs, .int k => if in63 k ∧ xs.length * k.toNat ≤ sizeLine ∧ scAll xs = true then some (.lst true (List.replicate k.toNat xs).flatten) else none
  | _, _ => gMul x y
theorem sc_zip : ∀ {xs : List D} {vs : List V} {L : List (D × V)}, scAll xs = true → xs.length = vs.length → RepT K H (xs.zip vs ++ L) → xs.map scD = vs.map some
  | [], [], _, _, _, _ => rfl
  | [], _ :: _, _, _, l, _ => by cases l
  | _ :: _, [], _, _, l, _ => by cases l
  | x :: xs, v :: vs, L, z, l, r => by
    have z' : isSc x = true ∧ scAll xs = true := by simpa [scAll] using z
    have r1 : RepT K H ((x, v) :: (xs.zip vs ++ L)) := r
    obtain ⟨u, hu⟩ := Option.isSome_iff_exists.mp (show (scD x).isSome = true from z'.1)
    have := scD_eq hu r1
    subst this
    rw [List.map_cons, List.map_cons, hu, sc_zip z'.2 (Nat.succ.inj l) r1.drop]
theorem sc_reps : ∀ {xs : List D} {vs : List V} {L : List (D × V)}, xs.map scD = vs.map some → RepT K H L → RepT K H (xs.zip vs ++ L)
  | [], [], _, _, r => r
  | [], _ :: _, _, e, _ => by cases e
  | _ :: _, [], _, e, _ => by cases e
  | x :: xs, v :: vs, L, e, r => by
    rw [List.map_cons, List.map_cons] at e
    injection e with e1 e2
    exact scD_rep e1 (sc_reps e2 r)
theorem op_mulA : OpR X (binaryOp .Mult) (fun x y H Q => rRep x y H Q ∨ rI CMul (fun i j => .int (i * j)) x y H Q) := OpR.orr op_rep op_mul
theorem impMulA : Imp2 K (fun x y H Q => rRep x y H Q ∨ rI CMul (fun i j => .int (i * j)) x y H Q) gMulA := by
  intro H L x y d v w Q e r h
  unfold gMulA at e
  split at e
  · rename_i o xs k
    split at e
    · rename_i z
      cases e
      have ew := r.eq_int
      subst ew
      obtain ⟨a, vs, rfl, hq, l, r2⟩ := r.drop.readL
      have es := sc_zip z.2.2 l r2
      refine .inl ⟨a, k, vs, rfl, rfl, hq, z.1.lo, z.1.hi, by rw [← l]; exact z.2.1, fun p hp => h _ _ (Same.upd hp) (RepT.newL ?_ hp (sc_reps ?_ r.drop.drop))⟩
      · simp [l]
      · generalize k.toNat = n
        induction n with
        | zero => rfl
        | succ n ih => rw [List.replicate_succ, List.replicate_succ, List.flatten_cons, List.flatten_cons, List.map_append, List.map_append, ih, es]
    · cases e
  · exact .inr (impMul H L x y d v w Q e r h)
/-! ### comparisons by name -/
def cLt (i j : Int) : Bool := decide (i < j)
def cLe (i j : Int) : Bool := decide (i ≤ j)
def cGt (i j : Int) : Bool := decide (j < i)
def cGe (i j : Int) : Bool := decide (j ≤ i)
theorem op_ltC : OpR X (compareOp .Lt) (rCmp cLt) := op_lt
theorem op_leC : OpR X (compareOp .LtE) (rCmp cLe) := op_le
theorem op_gtC : OpR X (compareOp .Gt) (rCmp cGt) := op_gt
theorem op_geC : OpR X (compareOp .GtE) (rCmp cGe) := op_ge
/-! ### defs as they stand -/
structure Def (K : PySem.W.Frag) (mg : Str → Option Value) (x : Str) (st : Stmt) (ps : List Str) : Prop where
  ex : ∃ (f : Addr) (fd : FuncData), Fun K x x st f fd ∧ mg x = some (.ref f) ∧ Binds K fd ps []
structure Cal (P : Program) (w : World) (K : PySem.W.Frag) (mg : Str → Option Value) (base : Heap) (k : Nat) (x : Str) (ps : List Str) (F : FnD) : Prop where
  ex : ∃ (fa : Addr) (fd : FuncData), FnOk P w K mg base (L2N.CX P w) k fa fd ps (spOf K mg F) ∧ mg x = some (.ref fa) ∧ PySem.W.keepIn K (.ref fa) = true ∧ Binds K fd ps []
theorem Cal.mono {P : Program} {w : World} {base : Heap} {j k : Nat} {x : Str} {ps : List Str} {Fd : FnD} (c : Cal P w K mg base j x ps Fd) (h : j ≤ k) : Cal P w K mg base k x ps Fd := by
  obtain ⟨fa, fd, G, h1, h2, h3⟩ := c.ex
  exact ⟨fa, fd, G.mono h, h1, h2, h3⟩
theorem cal_mk {P : Program} {w : World} {base : Heap} {x : Str} {st : Stmt} {N ps : List Str} {k : Nat} {asg : List Nat} {g : MS} (D : Def K mg x st ps) (S : FnScope N ps (defScope st))
    (hbody : ∀ (f : Addr) (cdv : Value) (A : Around) (outer : List PySem.Env) (s : Shared) (H : Hp) (E : XK), Room k (A.deeper (envOfC x (defScope st) s.heap.objs.size f cdv)) →
      VSs (cxOf (L2N.CX P w) P w K mg base N x (defScope st) f cdv A outer s H E) (fun cls d _ H => E cls d H) asg (defBody st) g) :
    Cal P w K mg base (k + 1) x ps (fnD N.length ps.length asg g) := by
  obtain ⟨f, fd, F, hm, hb⟩ := D.ex
  exact ⟨f, fd, fn_ok F S (fun cdv A outer s H E hr => hbody f cdv A outer s H E hr), hm, F.kp, hb⟩
/-- a def that promises nothing -/
theorem cal_none {P : Program} {w : World} {base : Heap} {x : Str} {st : Stmt} {ps : List Str} {k : Nat} (D : Def K mg x st ps) : Cal P w K mg base k x ps (fun _ => none) := by
  obtain ⟨f, fd, F, hm, hb⟩ := D.ex
  refine ⟨f, fd, ⟨fun vs H Q E h => ?_, fun A outer s H args us vs Q E hr e0 hb r h => ?_⟩, hm, F.kp, hb⟩
  · obtain ⟨_, _, _, _, _, z, _⟩ := h; cases z
  · obtain ⟨_, _, _, _, _, z, _⟩ := h; cases z
theorem ve_fn {ks : List (Option Nat)} {Fd : FnD} {f : M (List D)} {k : Nat} {ps : List Str} {x : Str} {e : Expr} {es : List Expr} {p pos : Pos} (C : Cal X.prog X.w X.K X.mg X.base k x ps Fd) (hr : Room k X.A) (hg : Gl X x) (tk : L2N.Takes X W) (ha : VIO X W m ks (e :: es) f) (hdb : (x == ("__debug__" : Str)) = false := by decide)
    (he : starEach (e :: es) X.env = (false, eval e X.env) :: starEach es X.env := by rfl) (hpl : (backTo pos (starEach es X.env)).any (·.1) = false := by rfl) : VE X W true (.Call (.Name x p) (e :: es) [] pos) (dFn ks Fd f) := by
  obtain ⟨fa, fd, G, h1, h2, h3⟩ := C.ex
  exact ve_call G hr hg h1 h2 h3 tk ha hdb he hpl
end
end VS

set_option Elab.async false
set_option linter.all false
set_option maxRecDepth 100000
set_option maxHeartbeats 4000000
set_option autoImplicit false
/-! VS11: names of built-ins; a def read off the top; the end of a law. -/
noncomputable section
namespace VS
open PySem PySem.Spec PyProof.Rows L2
theorem b_len : bootBuiltins "len" = some (.builtin "len") := by decide +kernel
theorem b_sum : bootBuiltins "sum" = some (.builtin "sum") := by decide +kernel
theorem b_all : bootBuiltins "all" = some (.builtin "all") := by decide +kernel
theorem b_any : bootBuiltins "any" = some (.builtin "any") := by decide +kernel
theorem b_min : bootBuiltins "min" = some (.builtin "min") := by decide +kernel
theorem b_max : bootBuiltins "max" = some (.builtin "max") := by decide +kernel
theorem b_abs : bootBuiltins "abs" = some (.builtin "abs") := by decide +kernel
theorem b_sorted : bootBuiltins "sorted" = some (.builtin "sorted") := by decide +kernel
theorem b_int : bootBuiltins "int" = some (.type "int") := by decide +kernel
theorem b_list : bootBuiltins "list" = some (.type "list") := by decide +kernel
theorem b_tuple : bootBuiltins "tuple" = some (.type "tuple") := by decide +kernel
theorem b_bool : bootBuiltins "bool" = some (.type "bool") := by decide +kernel
theorem b_str : bootBuiltins "str" = some (.type "str") := by decide +kernel
theorem b_dict : bootBuiltins "dict" = some (.type "dict") := by decide +kernel
theorem room65 {k : Nat} {A : Around} (hr : Room k A) : A.units + 65 < cLine := by have := hr.un; omega
/-- what is made is frozen at once -/
def frzO (d : D) : Option D := if fz (freeze d) = true then some (freeze d) else none
def dFz (f : M D) : M D := bindM f fun d => optM (frzO d)
theorem ve_fz {X : Cx} {W : WX} {m : Bool} {e : Expr} {f : M D} (h : VE X W m e f) : VE X W m e (dFz f) := by
  refine PE.imp h fun σ H Q ⟨T, ρ, u, rep, hf, he⟩ => ?_
  refine run1 rep hf he fun x ρ1 v H1 h1 s1 r1 => ?_
  obtain ⟨d, e, rfl⟩ := optM_some h1
  unfold frzO at e
  split at e
  · cases e
    exact he v H1 s1 ⟨r1.len, r1.nos, RepT.freeze r1.rep⟩
  · cases e
theorem takesF {X : Cx} : L2N.Takes X WF := fun _ _ x => by
  obtain ⟨_, _, _, _, _, _, _, _, _, _, _, _, _, _, _, _, z⟩ := x
  exact z.elim
section
variable {K : PySem.W.Frag} {mg : Str → Option Value}
theorem def_mk {h : Heap} {f : Addr} {x : Str} {st : Stmt} {ps : List Str} {oc kV dc pm cd ct : Value} {od an : Option Addr} {sl : Array (Option Value)} (X : K.In h) (G : h.Ns mainGlobals mg)
    (a : PySem.W.nsIn K mainGlobals x = some (some (.ref f))) (l : K.lookup f = some ⟨oc, od, .func (PySem.W.fnOf x x (defArgs st) (defBody st) (defScope st) .none kV dc pm an cd ct), sl⟩) (c : PySem.W.codeIn K cd x = true) (k : PySem.W.keepIn K (.ref f) = true)
    (hb : ∀ (kV doc pm : Value) (an : Option Addr) (cdv ct : Value) (us : List Value), us.length = ps.length → bindArgs (PySem.W.fnOf x x (defArgs st) (defBody st) (defScope st) .none kV doc pm an cdv ct) ⟨us, []⟩ = pure (ps.zip us)) : Def K mg x st ps := by
  have F := fun_mk (st := st) l c k
  exact ⟨f, _, F, PySem.W.mg_of X G a, F.binds hb⟩
/-- what a law's def must keep -/
def spTrue (K : PySem.W.Frag) : Sp := fun vs H Q _ => ∃ (a : Addr) (ns : List Int), vs = [.ref a] ∧ SqL K H a (ns.map V.int) ∧ ns.length ≤ 63 ∧ ∀ H', Q (.bl true) H'
/-- the law gives True at every script -/
def Always (F : FnD) : Prop := ∀ ns : List Int, ns.length ≤ 63 → ∃ as, F [.scr (ns.map D.int)] = some (.ok (.bl true) as)
theorem law_sp {F : FnD} (h : Always F) {vs : List V} {H : Hp} {Q : VK} {E : XK} (hs : spTrue K vs H Q E) : spOf K mg F vs H Q E := by
  obtain ⟨a, ns, rfl, sq, hl, q⟩ := hs
  obtain ⟨as, e⟩ := h ns hl
  refine ⟨[], [.scr (ns.map D.int)], _, rfl, RepT.script sq, e, ?_⟩
  intro v H' l r
  have := r.eq_bl
  subst this
  exact q H'
theorem law_fn {P : Program} {w : World} {base : Heap} {k : Nat} {fa : Addr} {F : FnD} {ps : List Str} {x : Str} (h : Always F) (C : Cal P w K mg base k x ps F) (hm : mg x = some (.ref fa)) (hp : ps = [("script" : Str)]) :
    ∃ fd : FuncData, FnOk P w K mg base (L2N.CX P w) k fa fd ["script"] (spTrue K) ∧ Binds K fd ["script"] [] := by
  obtain ⟨f, fd, G, h1, _, h3⟩ := C.ex
  rw [hm] at h1
  cases h1
  subst hp
  exact ⟨fd, G.imp fun vs H Q E hs => law_sp h hs, h3⟩
theorem cx_end {P : Program} {w : World} {H : Hp} {s : Shared} {e : Value} {s' : Shared} (h : L2N.CX P w [] H s (fun _ _ _ => False) e s') : False := by
  obtain ⟨_, _, _, _, _, _, _, _, _, _, _, _, z⟩ := h
  exact z
end
end VS

set_option Elab.async false
set_option linter.all false
set_option maxRecDepth 100000
set_option maxHeartbeats 4000000
set_option autoImplicit false
/-! VS12: how denotations are reckoned. -/
noncomputable section
namespace VS
open PySem PySem.Spec L2
section
variable {α β : Type} {ρ ρ1 ρ2 : Env} {r : Option (Fl × Env)}
theorem seq_nx {g1 g2 : MS} (h : g1 ρ = some (.nx, ρ1)) (h2 : g2 ρ1 = r) : dSeq g1 g2 ρ = r := by unfold dSeq; rw [h]; exact h2
theorem seq_rt {g1 g2 : MS} {d : D} (h : g1 ρ = some (.rt d, ρ1)) : dSeq g1 g2 ρ = some (.rt d, ρ1) := by unfold dSeq; rw [h]
theorem bindM_ok {f : M α} {k : α → M β} {a : α} {q : Option (Rv β)} (h : f ρ = some (.ok a ρ1)) (h2 : k a ρ1 = q) : bindM f k ρ = q := by unfold bindM; rw [h]; exact h2
theorem bindS_ok {f : M α} {k : α → MS} {a : α} (h : f ρ = some (.ok a ρ1)) (h2 : k a ρ1 = r) : bindS f k ρ = r := by unfold bindS; rw [h]; exact h2
theorem set_ok {f : M D} {i : Nat} {d : D} (h : f ρ = some (.ok d ρ1)) : dSet i f ρ = some (.nx, ρ1.set i d) := bindS_ok h rfl
theorem ret_ok {f : M D} {d : D} (h : f ρ = some (.ok d ρ1)) : dRet f ρ = some (.rt d, ρ1) := bindS_ok h rfl
theorem drop_ok {f : M D} {d : D} (h : f ρ = some (.ok d ρ1)) : dDrop f ρ = some (.nx, ρ1) := bindS_ok h rfl
theorem ifS_t {t : M Bool} {a b : MS} (h : t ρ = some (.ok true ρ1)) (h2 : a ρ1 = r) : dIfS t a b ρ = r := bindS_ok h (by rw [if_pos rfl]; exact h2)
theorem ifS_f {t : M Bool} {a b : MS} (h : t ρ = some (.ok false ρ1)) (h2 : b ρ1 = r) : dIfS t a b ρ = r := bindS_ok h (by rw [if_neg (by simp)]; exact h2)
theorem for_ok {src : M (List D)} {bt : D → Env → Option Env} {body : MS} {ds : List D} (h : src ρ = some (.ok ds ρ1)) (h2 : forD bt body ds ρ1 = r) : dFor src bt body ρ = r := bindS_ok h h2
/-- a loop whose turns all go on: an invariant by the turn -/
theorem for_inv {bt : D → Env → Option Env} {body : MS} (I : Nat → Env → Prop) : ∀ (ds : List D) (k : Nat) (ρ : Env), I k ρ →
    (∀ i d ρ, ds[i]? = some d → I (k + i) ρ → ∃ ρ1 ρ2, bt d ρ = some ρ1 ∧ (body ρ1 = some (.nx, ρ2) ∨ body ρ1 = some (.ct, ρ2)) ∧ I (k + i + 1) ρ2) → ∃ ρ', forD bt body ds ρ = some (.nx, ρ') ∧ I (k + ds.length) ρ'
  | [], k, ρ, h, _ => ⟨ρ, rfl, h⟩
  | d :: ds, k, ρ, h, hs => by
    obtain ⟨ρ1, ρ2, e1, e2, h2⟩ := hs 0 d ρ rfl h
    obtain ⟨ρ', e3, h3⟩ := for_inv I ds (k + 1) ρ2 h2 fun i d' ρ hi hI => by
      have := hs (i + 1) d' ρ hi (by rw [show k + (i + 1) = k + 1 + i by omega]; exact hI)
      rw [show k + (i + 1) + 1 = k + 1 + i + 1 by omega] at this
      exact this
    refine ⟨ρ', ?_, by rw [List.length_cons, show k + (ds.length + 1) = k + 1 + ds.length by omega]; exact h3⟩
    unfold forD
    rw [e1]
    rcases e2 with e2 | e2 <;> simp only [e2] <;> exact e3
/-- over a, a + 1, .. : the turn's number is the item -/
theorem for_ints {bt : D → Env → Option Env} {body : MS} {lo : Int} {n : Nat} (I : Nat → Env → Prop) (h0 : I 0 ρ)
    (hs : ∀ i ρ, i < n → I i ρ → ∃ ρ1 ρ2, bt (.int (lo + i)) ρ = some ρ1 ∧ (body ρ1 = some (.nx, ρ2) ∨ body ρ1 = some (.ct, ρ2)) ∧ I (i + 1) ρ2) : ∃ ρ', forD bt body (intsD lo n) ρ = some (.nx, ρ') ∧ I n ρ' := by
  have len : (intsD lo n).length = n := by simp [intsD]
  obtain ⟨ρ', e, h⟩ := for_inv (bt := bt) (body := body) I (intsD lo n) 0 ρ h0 fun i d ρ hi hI => by
    have hl := (List.getElem?_eq_some_iff.mp hi).1
    rw [len] at hl
    have ed : d = .int (lo + i) := by
      unfold intsD at hi
      rw [List.getElem?_map, List.getElem?_range hl] at hi
      exact (Option.some.inj hi).symm
    subst ed
    rw [Nat.zero_add] at hI ⊢
    exact hs i ρ hl hI
  rw [len, Nat.zero_add] at h
  exact ⟨ρ', e, h⟩
/-- a comprehension whose turns all keep: an invariant by the turn; the list grows by y i -/
theorem lc_inv {own : List Nat} {bt : D → Env → Option Env} {el : M D} (I : Nat → Env → Prop) (y : Nat → D) : ∀ (ds : List D) (k : Nat) (acc : List D) (ρ : Env), I k ρ → acc.length + ds.length ≤ sizeLine →
    (∀ i d ρ, ds[i]? = some d → I (k + i) ρ → ∃ ρ1 ρ2, bt d ρ = some ρ1 ∧ el ρ1 = some (.ok (y (k + i)) ρ2) ∧ I (k + i + 1) (wipeD ρ2 own)) → ∃ ρ', lcD own bt dYes el ds acc ρ = some (acc ++ (List.range ds.length).map (fun i => y (k + i)), ρ') ∧ I (k + ds.length) ρ'
  | [], k, acc, ρ, h, _, _ => ⟨ρ, by simp [lcD], h⟩
  | d :: ds, k, acc, ρ, h, hz, hs => by
    obtain ⟨ρ1, ρ2, e1, e2, h2⟩ := hs 0 d ρ rfl h
    obtain ⟨ρ', e3, h3⟩ := lc_inv I y ds (k + 1) (acc ++ [y k]) (wipeD ρ2 own) h2 (by simp at hz ⊢; omega) fun i d' ρ hi hI => by
      have := hs (i + 1) d' ρ hi (by rw [show k + (i + 1) = k + 1 + i by omega]; exact hI)
      rw [show k + (i + 1) = k + 1 + i by omega] at this
      exact this
    refine ⟨ρ', ?_, by rw [List.length_cons, show k + (ds.length + 1) = k + 1 + ds.length by omega]; exact h3⟩
    unfold lcD
    rw [e1]
    simp only [show dYes ρ1 = some (.ok true ρ1) from rfl, if_true]
    rw [show el ρ1 = some (.ok (y k) ρ2) from e2]
    simp only
    rw [if_pos (by simp at hz; omega), e3]
    simp only [List.length_cons, List.range_succ_eq_map, List.map_cons, List.map_map, List.append_assoc, List.singleton_append, Nat.add_zero]
    congr 4
    apply List.map_congr_left
    intro i _
    show y (k + 1 + i) = y (k + (i + 1))
    congr 1
    omega
theorem lc_ok {own : List Nat} {src : M (List D)} {bt : D → Env → Option Env} {tt : M Bool} {el : M D} {ds acc : List D} (h : src ρ = some (.ok ds ρ1)) (h2 : lcD own bt tt el ds [] (wipeD ρ1 own) = some (acc, ρ2)) : dLc own src bt tt el ρ = some (.ok (.lst true acc) (wipeD ρ2 own)) := by
  unfold dLc
  refine bindM_ok h ?_
  rw [h2]
theorem atI_0 {x : α} {xs : List α} : atI (x :: xs) 0 = some x := by simp [atI, ixN]
theorem atI_1 {x y : α} {xs : List α} : atI (x :: y :: xs) 1 = some y := by
  unfold atI ixN
  rw [if_pos (by decide), if_pos (by simp only [List.length_cons]; omega)]; rfl
theorem atI_2 {x y z : α} {xs : List α} : atI (x :: y :: z :: xs) 2 = some z := by
  unfold atI ixN
  rw [if_pos (by decide), if_pos (by simp only [List.length_cons]; omega)]; rfl
theorem atI_3 {x y z u : α} {xs : List α} : atI (x :: y :: z :: u :: xs) 3 = some u := by
  unfold atI ixN
  rw [if_pos (by decide), if_pos (by simp only [List.length_cons]; omega)]; rfl
theorem atI_lt {xs : List α} {i : Int} {x : α} (h0 : 0 ≤ i) (h : xs[i.toNat]? = some x) : atI xs i = some x := by
  have hl := (List.getElem?_eq_some_iff.mp h).1
  unfold atI ixN
  rw [if_pos h0, if_pos (by omega)]; exact h
theorem ixN_lt {n : Nat} {i : Int} (h0 : 0 ≤ i) (h : i < n) : ixN n i = some i.toNat := by
  unfold ixN
  rw [if_pos h0, if_pos h]
theorem fzL_ints (ns : List Int) : fzL (ns.map D.int) = true := by rw [fzL_all]; simp [fz]
theorem freezeL_ints (ns : List Int) : freezeL (ns.map D.int) = ns.map D.int := freezeL_fz _ (fzL_ints ns)
theorem lt_size {n : Nat} (h : n < 16000000) : n < sizeLine := by rw [PySem.sizeLine_eq]; omega
theorem le_size {n : Nat} (h : n ≤ 16000000) : n ≤ sizeLine := by rw [PySem.sizeLine_eq]; omega
/-- tuples of ints -/
def tI (xs : List Int) : D := .tup (xs.map D.int)
theorem dats_ints : ∀ xs : List Int, dats (xs.map D.int) = some (xs.map PyData.int)
  | [] => rfl
  | x :: xs => by rw [List.map_cons, dats, dats_ints xs]; rfl
theorem dat_tI (xs : List Int) : dat (tI xs) = some (.tuple (xs.map PyData.int)) := by unfold tI; rw [dat, dats_ints]; rfl
theorem leD_tI (xs ys : List Int) : leD (tI xs) (tI ys) = decide (xs ≤ ys) := by
  unfold leD
  have h := congrFun (congrFun (PySem.W.dataLe_rows (β := List Int) (fun b => b)) xs) ys
  rw [← h]
  unfold PySem.W.dataLe PySem.W.sortLe
  dsimp only
  rw [dat_tI, dat_tI]
  simp only [Option.getD_some, PySem.W.keyToks]
theorem fz_tI (xs : List Int) : fz (tI xs) = true := by unfold tI; rw [fz]; exact fzL_ints xs
theorem freeze_tI (xs : List Int) : freeze (tI xs) = tI xs := freeze_fz _ (fz_tI xs)
theorem dats_tIs : ∀ l : List (List Int), dats (l.map tI) = some (l.map fun xs => .tuple (xs.map PyData.int))
  | [] => rfl
  | x :: l => by rw [List.map_cons, dats, dats_tIs l, dat_tI]; rfl
theorem alike_ints : ∀ xs ys : List Int, PySem.W.alikeAll (xs.map PyData.int) (ys.map PyData.int) = true
  | [], _ => by simp [PySem.W.alikeAll]
  | _ :: _, [] => by simp [PySem.W.alikeAll]
  | x :: xs, y :: ys => by simp [PySem.W.alikeAll, PySem.W.alike, alike_ints xs ys]
theorem depth_ints : ∀ xs : List Int, PyData.depthAll (xs.map PyData.int) = 0
  | [] => rfl
  | x :: xs => by rw [List.map_cons, PyData.depthAll, depth_ints xs]; rfl
def leL (x y : List Int) : Bool := decide (x ≤ y)
/-- rows of ints, none empty, sorted -/
theorem sortD_tI {l : List (List Int)} (hne : ∀ x ∈ l, x ≠ []) (hl : l.length ≤ sizeLine) : sortD (l.map tI) = some ((l.mergeSort leL).map tI) := by
  unfold sortD
  rw [dats_tIs]
  simp only
  rw [if_pos]
  · congr 1
    have := List.map_mergeSort (f := tI) (r := leL) (s := leD) (l := l) (fun x _ y _ => (leD_tI x y).symm)
    exact this.symm
  · refine ⟨?_, by rw [List.length_map]; exact hl⟩
    rw [Bool.and_eq_true, Bool.and_eq_true]
    refine ⟨⟨?_, ?_⟩, ?_⟩
    · unfold alikeB
      rw [List.all_eq_true]
      intro x hx
      rw [List.all_eq_true]
      intro y hy
      obtain ⟨a, _, rfl⟩ := List.mem_map.mp hx
      obtain ⟨b, _, rfl⟩ := List.mem_map.mp hy
      rw [PySem.W.alike]
      exact alike_ints a b
    · unfold sortB
      rw [Bool.or_eq_true]
      left
      rw [List.all_eq_true]
      intro x hx
      obtain ⟨a, ha, rfl⟩ := List.mem_map.mp hx
      cases a with
      | nil => exact absurd rfl (hne [] ha)
      | cons c a => rfl
    · rw [List.all_eq_true]
      intro x hx
      obtain ⟨a, _, rfl⟩ := List.mem_map.mp hx
      rw [PyData.depth, depth_ints]
      decide
end
end VS

set_option Elab.async false
set_option linter.all false
set_option maxRecDepth 100000
set_option maxHeartbeats 4000000
set_option autoImplicit false
/-! VS13: rules by which simp reckons denotations of straight code. -/
noncomputable section
namespace VS
open PySem PySem.Spec L2
section
variable {α β : Type} {ρ : Env}
theorem u_bindM {f : M α} {k : α → M β} : bindM f k ρ = (match f ρ with
  | none => none
  | some (.ex x ρ') => some (.ex x ρ')
  | some (.ok a ρ') => k a ρ') := rfl
theorem u_bindS {f : M α} {k : α → MS} : bindS f k ρ = (match f ρ with
  | none => none
  | some (.ex x ρ') => some (.ex x, ρ')
  | some (.ok a ρ') => k a ρ') := rfl
theorem u_optN : optM (none : Option α) ρ = none := rfl
theorem u_optS {a : α} : optM (some a) ρ = some (.ok a ρ) := rfl
theorem u_retM {a : α} : retM a ρ = some (.ok a ρ) := rfl
theorem u_dC {d : D} : dC d ρ = some (.ok d ρ) := rfl
theorem u_dV {i : Nat} : dV i ρ = (match ρ[i]? with
  | some d => if fz d = true then some (.ok d ρ) else none
  | none => none) := rfl
theorem u_dF {i : Nat} : dF i ρ = (match ρ[i]? with
  | some d => if fz (freeze d) = true then some (.ok (freeze d) (ρ.set i (freeze d))) else none
  | none => none) := rfl
theorem u_dM {i : Nat} : dM i ρ = (match ρ[i]? with
  | some .unk => none
  | some d => some (.ok d (ρ.set i .unk))
  | none => none) := rfl
theorem u_d1 {g : D → Option D} {f : M D} : d1 g f ρ = bindM f (fun x => optM (g x)) ρ := rfl
theorem u_d2 {g : D → D → Option D} {f h : M D} : d2 g f h ρ = bindM f (fun x => bindM h fun y => optM (g x y)) ρ := rfl
theorem u_dTB {f : M D} : dTB f ρ = bindM f (fun d => optM (match d with | .bl b => some b | _ => none)) ρ := rfl
theorem u_dChain {g g' : D → D → Option D} {a b c : M D} : dChain g g' a b c ρ = bindM a (fun x => bindM b fun y => bindM (optM (match g x y with | some (.bl k) => some k | _ => none)) fun k => if k = true then bindM c fun z => optM (g' y z) else retM (.bl false)) ρ := rfl
theorem u_dAndT {f g : M Bool} : dAndT f g ρ = bindM f (fun b => if b = true then g else retM false) ρ := rfl
theorem u_dOrT {f g : M Bool} : dOrT f g ρ = bindM f (fun b => if b = true then retM true else g) ρ := rfl
theorem u_dNotT {f : M Bool} : dNotT f ρ = bindM f (fun b => retM (!b)) ρ := rfl
theorem u_dAnd {f g : M D} : dAnd f g ρ = bindM f (fun d => bindM (optM (match d with | .bl b => some b | _ => none)) fun b => if b = true then g else retM (.bl false)) ρ := rfl
theorem u_dOr {f g : M D} : dOr f g ρ = bindM f (fun d => bindM (optM (match d with | .bl b => some b | _ => none)) fun b => if b = true then retM (.bl true) else g) ρ := rfl
theorem u_dNot {f : M D} : dNot f ρ = d1 (fun d => match d with | .bl b => some (.bl (!b)) | _ => none) f ρ := rfl
theorem u_dIf {t : M Bool} {f g : M D} : dIf t f g ρ = bindM t (fun b => if b = true then f else g) ρ := rfl
theorem u_dNil : dNil ρ = some (.ok [] ρ) := rfl
theorem u_dCons {f : M D} {g : M (List D)} : dCons f g ρ = bindM f (fun d => bindM g fun ds => retM (d :: ds)) ρ := rfl
theorem u_dTup {f : M (List D)} : dTup f ρ = bindM f (fun ds => optM (if ds.length ≤ sizeLine then some (.tup ds) else none)) ρ := rfl
theorem u_dLst {f : M (List D)} : dLst f ρ = bindM f (fun ds => optM (if ds.length ≤ sizeLine then some (.lst true ds) else none)) ρ := rfl
theorem u_dCall {g : List D → Option D} {f : M (List D)} : dCall g f ρ = bindM f (fun ds => optM (g ds)) ρ := rfl
theorem u_dCallS {ks : List (Option Nat)} {g : List D → Option D} {f : M (List D)} : dCallS ks g f ρ = bindM f (fun ds ρ => match g (takeIO ks ds ρ).1 with
  | none => none
  | some d => if isSc d = true then some (.ok d ρ) else none) ρ := rfl
theorem u_dFn {ks : List (Option Nat)} {F : FnD} {f : M (List D)} : dFn ks F f ρ = bindM f (fun ds ρ => match F (takeIO ks ds ρ).1 with
  | none => none
  | some (.ok r as) => some (.ok r (giveIO ks as (takeIO ks ds ρ).2))
  | some (.ex x as) => some (.ex x (giveIO ks as (takeIO ks ds ρ).2))) ρ := rfl
def nunk : Option D → Bool
  | none => false
  | some .unk => false
  | some _ => true
@[simp] theorem nu_non : nunk (some .non) = true := rfl
@[simp] theorem nu_hole : nunk (some .hole) = true := rfl
@[simp] theorem nu_bl {b : Bool} : nunk (some (.bl b)) = true := rfl
@[simp] theorem nu_int {b : Int} : nunk (some (.int b)) = true := rfl
@[simp] theorem nu_str {b : Str} : nunk (some (.str b)) = true := rfl
@[simp] theorem nu_adr {b : Addr} : nunk (some (.adr b)) = true := rfl
@[simp] theorem nu_exo {c : Str} {p : Option (Str × Int)} : nunk (some (.exo c p)) = true := rfl
@[simp] theorem nu_tup {b : List D} : nunk (some (.tup b)) = true := rfl
@[simp] theorem nu_lst {o : Bool} {b : List D} : nunk (some (.lst o b)) = true := rfl
@[simp] theorem nu_scr {b : List D} : nunk (some (.scr b)) = true := rfl
@[simp] theorem nu_ktp {b : List D} : nunk (some (.ktp b)) = true := rfl
@[simp] theorem nu_dK {o : Bool} {k : List Key} {b : List D} : nunk (some (.dK o k b)) = true := rfl
@[simp] theorem nu_dT {o : Bool} {k : List (List Key)} {b : List D} : nunk (some (.dT o k b)) = true := rfl
@[simp] theorem nu_lK {k : List Key} {b : List D} : nunk (some (.lK k b)) = true := rfl
@[simp] theorem nu_lT {k : List (List Key)} {b : List D} : nunk (some (.lT k b)) = true := rfl
@[simp] theorem nu_lck {o : HO} : nunk (some (.lck o)) = true := rfl
@[simp] theorem nu_unk : nunk (some .unk) = false := rfl
theorem u_dIO {i : Nat} {g : M (List D)} : dIO i g ρ = (if nunk ρ[i]? = true then g ρ else none) := by
  unfold dIO
  cases ρ[i]? with
  | none => rfl
  | some d => cases d <;> rfl
@[simp] theorem u_take0 {ds : List D} : takeIO [] ds ρ = ([], ρ) := rfl
@[simp] theorem u_takeN {ks : List (Option Nat)} {d : D} {ds : List D} : takeIO (none :: ks) (d :: ds) ρ = (d :: (takeIO ks ds ρ).1, (takeIO ks ds ρ).2) := rfl
@[simp] theorem u_takeS {ks : List (Option Nat)} {i : Nat} {ds : List D} : takeIO (some i :: ks) ds ρ = (ρ.getD i .unk :: (takeIO ks ds (ρ.set i .unk)).1, (takeIO ks ds (ρ.set i .unk)).2) := rfl
@[simp] theorem u_give0 {as : List D} : giveIO [] as ρ = ρ := by cases as <;> rfl
@[simp] theorem u_giveN {ks : List (Option Nat)} {d : D} {ds : List D} : giveIO (none :: ks) (d :: ds) ρ = giveIO ks ds ρ := rfl
@[simp] theorem u_giveS {ks : List (Option Nat)} {i : Nat} {d : D} {ds : List D} : giveIO (some i :: ks) (d :: ds) ρ = giveIO ks ds (ρ.set i d) := rfl
theorem u_dFz {f : M D} : dFz f ρ = bindM f (fun d => optM (frzO d)) ρ := rfl
@[simp] theorem u_frzO {d : D} : frzO d = if fz (freeze d) = true then some (freeze d) else none := rfl
theorem u_dAt {i : Nat} {f : M D} : dAt i f ρ = (if isDct ρ[i]? = true then dGetS i f ρ else dIxS i f ρ) := rfl
theorem u_dIxS {i : Nat} {f : M D} : dIxS i f ρ = (if nunk ρ[i]? = true then bindM f (fun y ρ => match (ρ.getD i .unk), y with
    | x, .int k => match seqOf x with
      | some ds => match atI ds k with
        | some d => if fz d = true then some (.ok d ρ) else none
        | none => none
      | none => none
    | _, _ => none) ρ else none) := by
  unfold dIxS
  cases ρ[i]? with
  | none => rfl
  | some d => cases d <;> rfl
theorem u_dGetS {i : Nat} {f : M D} : dGetS i f ρ = (if nunk ρ[i]? = true then bindM f (getS i) ρ else none) := by
  unfold dGetS
  cases ρ[i]? with
  | none => rfl
  | some d => cases d <;> rfl
theorem u_getS {i : Nat} {y : D} : getS i y ρ = (match lookD (ρ.getD i .unk) y with
  | some d => if fz d = true then some (.ok d ρ) else none
  | none => none) := rfl
@[simp] theorem u_isDct0 : isDct none = false := rfl
@[simp] theorem u_isDctL {o : Bool} {ds : List D} : isDct (some (.lst o ds)) = false := rfl
@[simp] theorem u_isDctT {ds : List D} : isDct (some (.tup ds)) = false := rfl
@[simp] theorem u_isDctS {ds : List D} : isDct (some (.scr ds)) = false := rfl
@[simp] theorem u_isDctK {o : Bool} {ks : List Key} {ds : List D} : isDct (some (.dK o ks ds)) = true := rfl
@[simp] theorem u_isDctT2 {o : Bool} {ks : List (List Key)} {ds : List D} : isDct (some (.dT o ks ds)) = true := rfl
@[simp] theorem u_seqL {o : Bool} {ds : List D} : seqOf (.lst o ds) = some ds := rfl
@[simp] theorem u_seqT {ds : List D} : seqOf (.tup ds) = some ds := rfl
@[simp] theorem u_seqS {ds : List D} : seqOf (.scr ds) = some ds := rfl
@[simp] theorem u_seqK {ds : List D} : seqOf (.ktp ds) = some ds := rfl
@[simp] theorem u_lstL {o : Bool} {ds : List D} : lstOf (.lst o ds) = some ds := rfl
@[simp] theorem u_lstS {ds : List D} : lstOf (.scr ds) = some ds := rfl
@[simp] theorem u_lstT {ds : List D} : lstOf (.tup ds) = none := rfl
@[simp] theorem u_gIx {x y : D} : gIx x y = (match seqOf x, y with
  | some ds, .int i => atI ds i
  | _, _ => none) := rfl
@[simp] theorem u_fzI {i : Int} : fz (.int i) = true := by rw [fz]
@[simp] theorem u_fzB {i : Bool} : fz (.bl i) = true := by rw [fz]
@[simp] theorem u_fzN : fz .non = true := by rw [fz]
@[simp] theorem u_fzS {x : Str} : fz (.str x) = true := by rw [fz]
@[simp] theorem u_fzAdr {a : Addr} : fz (.adr a) = true := by rw [fz]
@[simp] theorem u_fzExo {c : Str} {p : Option (Str × Int)} : fz (.exo c p) = true := by rw [fz]
@[simp] theorem u_frAdr {a : Addr} : freeze (.adr a) = .adr a := by rw [freeze]
@[simp] theorem u_frExo {c : Str} {p : Option (Str × Int)} : freeze (.exo c p) = .exo c p := by rw [freeze]
@[simp] theorem u_fzT {ds : List D} : fz (.tup ds) = fzL ds := by rw [fz]
@[simp] theorem u_fzL {o : Bool} {ds : List D} : fz (.lst o ds) = (!o && fzL ds) := by rw [fz]
@[simp] theorem u_fzC {ds : List D} : fz (.scr ds) = fzL ds := by rw [fz]
@[simp] theorem u_fzD {o : Bool} {ks : List (List Key)} {ds : List D} : fz (.dT o ks ds) = (!o && fzL ds) := by rw [fz]
@[simp] theorem u_fzDK {o : Bool} {ks : List Key} {ds : List D} : fz (.dK o ks ds) = (!o && fzL ds) := by rw [fz]
@[simp] theorem u_fzL0 : fzL [] = true := by rw [fzL]
@[simp] theorem u_fzL1 {d : D} {ds : List D} : fzL (d :: ds) = (fz d && fzL ds) := by rw [fzL]
@[simp] theorem u_fzLi {ns : List Int} : fzL (ns.map D.int) = true := fzL_ints ns
@[simp] theorem u_frI {i : Int} : freeze (.int i) = .int i := by rw [freeze]
@[simp] theorem u_frB {i : Bool} : freeze (.bl i) = .bl i := by rw [freeze]
@[simp] theorem u_frN : freeze .non = .non := by rw [freeze]
@[simp] theorem u_frS {x : Str} : freeze (.str x) = .str x := by rw [freeze]
@[simp] theorem u_frT {ds : List D} : freeze (.tup ds) = .tup (freezeL ds) := by rw [freeze]
@[simp] theorem u_frL {o : Bool} {ds : List D} : freeze (.lst o ds) = .lst false (freezeL ds) := by rw [freeze]
@[simp] theorem u_frC {ds : List D} : freeze (.scr ds) = .scr (freezeL ds) := by rw [freeze]
@[simp] theorem u_frD {o : Bool} {ks : List (List Key)} {ds : List D} : freeze (.dT o ks ds) = .dT false ks (freezeL ds) := by rw [freeze]
@[simp] theorem u_frDK {o : Bool} {ks : List Key} {ds : List D} : freeze (.dK o ks ds) = .dK false ks (freezeL ds) := by rw [freeze]
@[simp] theorem u_frL0 : freezeL [] = [] := by rw [freezeL]
@[simp] theorem u_frL1 {d : D} {ds : List D} : freezeL (d :: ds) = freeze d :: freezeL ds := by rw [freezeL]
@[simp] theorem u_frLi {ns : List Int} : freezeL (ns.map D.int) = ns.map D.int := freezeL_ints ns
@[simp] theorem u_at0 {x : α} {xs : List α} : atI (x :: xs) 0 = some x := atI_0
@[simp] theorem u_at1 {x y : α} {xs : List α} : atI (x :: y :: xs) 1 = some y := atI_1
@[simp] theorem u_at2 {x y z : α} {xs : List α} : atI (x :: y :: z :: xs) 2 = some z := atI_2
@[simp] theorem u_at3 {x y z u : α} {xs : List α} : atI (x :: y :: z :: u :: xs) 3 = some u := atI_3
@[simp] theorem u_add {i j : Int} : gAdd (.int i) (.int j) = some (.int (i + j)) := rfl
@[simp] theorem u_addL {o o' : Bool} {xs ys : List D} : gAdd (.lst o xs) (.lst o' ys) = if xs.length + ys.length ≤ sizeLine then some (.lst true (xs ++ ys)) else none := rfl
@[simp] theorem u_addT {xs ys : List D} : gAdd (.tup xs) (.tup ys) = if xs.length + ys.length ≤ sizeLine then some (.tup (xs ++ ys)) else none := rfl
@[simp] theorem u_sub {i j : Int} : gSub (.int i) (.int j) = some (.int (i - j)) := rfl
@[simp] theorem u_mod {i j : Int} : gMod (.int i) (.int j) = if 0 < j then some (.int (i % j)) else none := by
  unfold gMod gInt cMod
  simp only [decide_eq_true_eq]
@[simp] theorem u_div {i j : Int} : gDiv (.int i) (.int j) = if in30 j then some (.int (i / j)) else none := by
  unfold gDiv gInt cDiv
  simp only [decide_eq_true_eq]
@[simp] theorem u_mulA {i j : Int} : gMulA (.int i) (.int j) = if in64 i ∨ in64 j then some (.int (i * j)) else none := by
  show gMul _ _ = _
  unfold gMul gInt cMul
  simp only [Bool.or_eq_true, decide_eq_true_eq]
@[simp] theorem u_pow {i j : Int} : gPow (.int i) (.int j) = if 0 ≤ j ∧ j ≤ 1000000 ∧ i.natAbs < 2 ^ 64 then some (.int (i ^ j.toNat)) else none := by
  unfold gPow gInt cPow
  simp only [Bool.and_eq_true, decide_eq_true_eq, and_assoc]
@[simp] theorem u_neg {i : Int} : gNeg (.int i) = some (.int (-i)) := rfl
@[simp] theorem u_cmp {p : Int → Int → Bool} {i j : Int} : gCmp p (.int i) (.int j) = some (.bl (p i j)) := rfl
@[simp] theorem u_cLt {i j : Int} : cLt i j = decide (i < j) := rfl
@[simp] theorem u_cLe {i j : Int} : cLe i j = decide (i ≤ j) := rfl
@[simp] theorem u_cGt {i j : Int} : cGt i j = decide (j < i) := rfl
@[simp] theorem u_cGe {i j : Int} : cGe i j = decide (j ≤ i) := rfl
theorem sh_int {i : Int} : SeqAt.shaped (.int i) = true := by unfold SeqAt.shaped; rw [PyData.canLay0, PyData.depth]; rfl
theorem sh_bl {i : Bool} : SeqAt.shaped (.bool i) = true := by unfold SeqAt.shaped; rw [PyData.canLay0, PyData.depth]; rfl
@[simp] theorem u_eqI {i j : Int} : gEq (.int i) (.int j) = some (.bl (decide (i = j))) := by
  unfold gEq eqD
  simp only [dat, sh_int, and_self, if_true, Option.map_some, PyData.eqv]
  congr 2
@[simp] theorem u_neI {i j : Int} : gNe (.int i) (.int j) = some (.bl (!decide (i = j))) := by
  unfold gNe eqD
  simp only [dat, sh_int, and_self, if_true, Option.map_some, PyData.eqv]
  congr 3
@[simp] theorem u_eqB {i j : Bool} : gEq (.bl i) (.bl j) = some (.bl (i == j)) := by
  unfold gEq eqD
  simp only [dat, sh_bl, and_self, if_true, Option.map_some, PyData.eqv]
@[simp] theorem u_neB {i j : Bool} : gNe (.bl i) (.bl j) = some (.bl (!(i == j))) := by
  unfold gNe eqD
  simp only [dat, sh_bl, and_self, if_true, Option.map_some, PyData.eqv]
@[simp] theorem u_scI {i : Int} : isSc (.int i) = true := rfl
@[simp] theorem u_scB {i : Bool} : isSc (.bl i) = true := rfl
@[simp] theorem u_len {d : D} : gLen [d] = (lenD d).map fun (n : Nat) => D.int (n : Int) := rfl
@[simp] theorem u_lenL {o : Bool} {ds : List D} : lenD (.lst o ds) = some ds.length := rfl
@[simp] theorem u_lenT {ds : List D} : lenD (.tup ds) = some ds.length := rfl
@[simp] theorem u_lenS {ds : List D} : lenD (.scr ds) = some ds.length := rfl
@[simp] theorem u_lenD {o : Bool} {ks : List (List Key)} {ds : List D} : lenD (.dT o ks ds) = some ks.length := rfl
@[simp] theorem u_lenDK {o : Bool} {ks : List Key} {ds : List D} : lenD (.dK o ks ds) = some ks.length := rfl
@[simp] theorem u_abs {i : Int} : gAbs [.int i] = some (.int (if i < 0 then -i else i)) := rfl
@[simp] theorem u_intI {i : Int} : gIntOf [.int i] = some (.int i) := rfl
@[simp] theorem u_intB {i : Bool} : gIntOf [.bl i] = some (.int (if i then 1 else 0)) := rfl
@[simp] theorem u_min2 {i j : Int} : gMin [.int i, .int j] = some (.int (min i j)) := by
  unfold gMin
  show gMin2 [.int i, .int j] = some (.int (min i j))
  unfold gMin2
  have : (if j < i then j else i) = min i j := by split <;> omega
  show some (D.int (if j < i then j else i)) = _
  rw [this]
@[simp] theorem u_max2 {i j : Int} : gMax [.int i, .int j] = some (.int (max i j)) := by
  unfold gMax
  show gMax2 [.int i, .int j] = some (.int (max i j))
  unfold gMax2
  have : (if j > i then j else i) = max i j := by split <;> omega
  show some (D.int (if j > i then j else i)) = _
  rw [this]
@[simp] theorem u_minT {i j : Int} : gMin [.tup [.int i, .int j]] = some (.int (min i j)) := rfl
@[simp] theorem u_maxT {i j : Int} : gMax [.tup [.int i, .int j]] = some (.int (max i j)) := rfl
@[simp] theorem u_sum {o : Bool} {ns : List Int} : gSum [.lst o (ns.map D.int)] = some (.int ns.sum) := by
  unfold gSum
  simp only [u_lstL, Option.bind_some, allI_map, Option.map_some]
@[simp] theorem u_tupleL {o : Bool} {ds : List D} : gTuple [.lst o ds] = some (.tup ds) := rfl
@[simp] theorem u_tupleT {ds : List D} : gTuple [.tup ds] = some (.tup ds) := rfl
@[simp] theorem u_listL {o : Bool} {ds : List D} : gList [.lst o ds] = some (.lst true ds) := rfl
@[simp] theorem u_listT {ds : List D} : gList [.tup ds] = some (.lst true ds) := rfl
theorem u_dSkip : dSkip ρ = some (.nx, ρ) := rfl
theorem u_dSet {i : Nat} {f : M D} : dSet i f ρ = bindS f (fun d ρ => some (.nx, ρ.set i d)) ρ := rfl
theorem u_dRet {f : M D} : dRet f ρ = bindS f (fun d ρ => some (.rt d, ρ)) ρ := rfl
theorem u_dDrop {f : M D} : dDrop f ρ = bindS f (fun _ ρ => some (.nx, ρ)) ρ := rfl
theorem u_dAsg {f : M D} {g : D → Env → Option Env} : dAsg f g ρ = bindS f (fun d ρ => match g d ρ with
  | none => none
  | some ρ' => some (.nx, ρ')) ρ := rfl
theorem u_dIfS {t : M Bool} {a b : MS} : dIfS t a b ρ = bindS t (fun c => if c = true then a else b) ρ := rfl
theorem u_dSeq {g1 g2 : MS} : dSeq g1 g2 ρ = (match g1 ρ with
  | some (.nx, ρ') => g2 ρ'
  | r => r) := rfl
theorem u_gNm {i : Nat} {d : D} : gNm i d ρ = some (ρ.set i d) := rfl
theorem u_gTp {is : List Nat} {ds : List D} : gTp is (.tup ds) ρ = gNms is ds ρ := rfl
@[simp] theorem u_gNms0 : gNms [] [] ρ = some ρ := rfl
@[simp] theorem u_gNms1 {i : Nat} {is : List Nat} {d : D} {ds : List D} : gNms (i :: is) (d :: ds) ρ = gNms is ds (ρ.set i d) := rfl
theorem u_dMt {i : Nat} {g : List D → List D → Option (D × List D)} {f : M (List D)} : dMt i g f ρ = (if isLst ρ[i]? = true then bindM f (mutL i g) ρ else none) := rfl
@[simp] theorem u_isLst {o : Bool} {ds : List D} : isLst (some (.lst o ds)) = true := rfl
theorem u_mutL {i : Nat} {g : List D → List D → Option (D × List D)} {ds : List D} : mutL i g ds ρ = (match ρ[i]? with
  | some (.lst true xs) => match g xs ds with
    | some (d, xs') => some (.ok d (ρ.set i (.lst true xs')))
    | none => none
  | _ => none) := rfl
@[simp] theorem u_gApp {xs : List D} {d : D} : gApp xs [d] = if xs.length < sizeLine then some (.non, xs ++ [d]) else none := rfl
@[simp] theorem u_gIns {xs : List D} {i : Int} {d : D} : gIns xs [.int i, d] = if xs.length < sizeLine ∧ 0 ≤ i ∧ in63 i then some (.non, xs.take i.toNat ++ [d] ++ xs.drop i.toNat) else none := rfl
@[simp] theorem u_gExt {xs ys : List D} {o : Bool} : gExt xs [.lst o ys] = if xs.length + ys.length ≤ sizeLine then some (.non, xs ++ ys) else none := rfl
theorem u_dPut {i : Nat} {fk fe : M D} : dPut i fk fe ρ = bindS fe (fun d ρ1 => if nunk ρ1[i]? = true then bindS fk (putS i d) ρ1 else none) ρ := by
  unfold dPut
  congr 1
  funext d ρ1
  cases ρ1[i]? with
  | none => rfl
  | some d => cases d <;> rfl
theorem u_putS {i : Nat} {d y : D} : putS i d y ρ = (match VS.putAt (ρ.getD i .unk) y d with
  | some x => some (.nx, ρ.set i x)
  | none => none) := rfl
@[simp] theorem u_putL {xs : List D} {n : Int} {d : D} : VS.putAt (.lst true xs) (.int n) d = (ixN xs.length n).map fun j => .lst true (xs.set j d) := rfl
theorem u_dRange1 {f : M (List D)} : dRange1 f ρ = bindM f (fun ds => optM (rangeD1 ds)) ρ := rfl
theorem u_dRange2 {f : M (List D)} : dRange2 f ρ = bindM f (fun ds => optM (rangeD2 ds)) ρ := rfl
theorem inR_le {i : Int} (h : 0 ≤ i) (g : i ≤ 1000000) : inR i := ⟨Int.le_trans (by decide) h, Int.lt_of_le_of_lt g (by decide)⟩
theorem inR_bd {i : Int} (h : -1000000 ≤ i) (g : i ≤ 1000000) : inR i := ⟨Int.le_trans (by decide) h, Int.lt_of_le_of_lt g (by decide)⟩
@[simp] theorem inR_0 : inR 0 := inR_le (by decide) (by decide)
@[simp] theorem inR_1 : inR 1 := inR_le (by decide) (by decide)
@[simp] theorem inR_2 : inR 2 := inR_le (by decide) (by decide)
@[simp] theorem inR_3 : inR 3 := inR_le (by decide) (by decide)
@[simp] theorem inR_4 : inR 4 := inR_le (by decide) (by decide)
@[simp] theorem inR_5 : inR 5 := inR_le (by decide) (by decide)
@[simp] theorem inR_6 : inR 6 := inR_le (by decide) (by decide)
@[simp] theorem inR_7 : inR 7 := inR_le (by decide) (by decide)
@[simp] theorem inR_8 : inR 8 := inR_le (by decide) (by decide)
@[simp] theorem inR_9 : inR 9 := inR_le (by decide) (by decide)
@[simp] theorem inR_10 : inR 10 := inR_le (by decide) (by decide)
@[simp] theorem inR_11 : inR 11 := inR_le (by decide) (by decide)
@[simp] theorem inR_12 : inR 12 := inR_le (by decide) (by decide)
@[simp] theorem inR_13 : inR 13 := inR_le (by decide) (by decide)
@[simp] theorem inR_14 : inR 14 := inR_le (by decide) (by decide)
@[simp] theorem inR_15 : inR 15 := inR_le (by decide) (by decide)
@[simp] theorem inR_16 : inR 16 := inR_le (by decide) (by decide)
@[simp] theorem inR_18 : inR 18 := inR_le (by decide) (by decide)
@[simp] theorem inR_20 : inR 20 := inR_le (by decide) (by decide)
@[simp] theorem inR_24 : inR 24 := inR_le (by decide) (by decide)
@[simp] theorem inR_30 : inR 30 := inR_le (by decide) (by decide)
@[simp] theorem inR_32 : inR 32 := inR_le (by decide) (by decide)
@[simp] theorem inR_40 : inR 40 := inR_le (by decide) (by decide)
@[simp] theorem inR_48 : inR 48 := inR_le (by decide) (by decide)
@[simp] theorem inR_50 : inR 50 := inR_le (by decide) (by decide)
@[simp] theorem inR_60 : inR 60 := inR_le (by decide) (by decide)
@[simp] theorem inR_63 : inR 63 := inR_le (by decide) (by decide)
@[simp] theorem inR_64 : inR 64 := inR_le (by decide) (by decide)
@[simp] theorem inR_100 : inR 100 := inR_le (by decide) (by decide)
@[simp] theorem inR_200 : inR 200 := inR_le (by decide) (by decide)
@[simp] theorem inR_220 : inR 220 := inR_le (by decide) (by decide)
@[simp] theorem inR_900 : inR 900 := inR_le (by decide) (by decide)
@[simp] theorem u_range1 {j : Int} : rangeD1 [.int j] = if inR j then some (intsD 0 j.toNat) else none := rfl
@[simp] theorem u_range2 {i j : Int} : rangeD2 [.int i, .int j] = if inR i ∧ inR j then some (intsD i (j - i).toNat) else none := rfl
theorem in64_bd {i : Int} (h : -1000000000000000000 ≤ i) (g : i ≤ 1000000000000000000) : in64 i := ⟨Int.lt_of_lt_of_le (by decide) h, Int.lt_of_le_of_lt g (by decide)⟩
theorem in63_bd {i : Int} (h : -1000000000000000000 ≤ i) (g : i ≤ 1000000000000000000) : in63 i := ⟨Int.le_trans (by decide) h, Int.lt_of_le_of_lt g (by decide)⟩
theorem in30_bd {i : Int} (h : 0 < i) (g : i ≤ 1000000000) : in30 i := ⟨h, Int.lt_of_le_of_lt g (by decide)⟩
@[simp] theorem in64_0 : in64 (0) := ⟨by decide, by decide⟩
@[simp] theorem in64_1 : in64 (1) := ⟨by decide, by decide⟩
@[simp] theorem in64_m1 : in64 (-1) := ⟨by decide, by decide⟩
@[simp] theorem in64_2 : in64 (2) := ⟨by decide, by decide⟩
@[simp] theorem in64_3 : in64 (3) := ⟨by decide, by decide⟩
@[simp] theorem in64_4 : in64 (4) := ⟨by decide, by decide⟩
@[simp] theorem in64_5 : in64 (5) := ⟨by decide, by decide⟩
@[simp] theorem in64_6 : in64 (6) := ⟨by decide, by decide⟩
@[simp] theorem in64_7 : in64 (7) := ⟨by decide, by decide⟩
@[simp] theorem in64_8 : in64 (8) := ⟨by decide, by decide⟩
@[simp] theorem in64_9 : in64 (9) := ⟨by decide, by decide⟩
@[simp] theorem in64_10 : in64 (10) := ⟨by decide, by decide⟩
@[simp] theorem in64_12 : in64 (12) := ⟨by decide, by decide⟩
@[simp] theorem in64_16 : in64 (16) := ⟨by decide, by decide⟩
@[simp] theorem in64_64 : in64 (64) := ⟨by decide, by decide⟩
@[simp] theorem in64_100 : in64 (100) := ⟨by decide, by decide⟩
@[simp] theorem in64_131 : in64 (131) := ⟨by decide, by decide⟩
@[simp] theorem in64_977 : in64 (977) := ⟨by decide, by decide⟩
@[simp] theorem in64_1000 : in64 (1000) := ⟨by decide, by decide⟩
@[simp] theorem in64_48271 : in64 (48271) := ⟨by decide, by decide⟩
@[simp] theorem in64_40693 : in64 (40693) := ⟨by decide, by decide⟩
@[simp] theorem in64_40692 : in64 (40692) := ⟨by decide, by decide⟩
@[simp] theorem in64_69621 : in64 (69621) := ⟨by decide, by decide⟩
@[simp] theorem in64_100000 : in64 (100000) := ⟨by decide, by decide⟩
@[simp] theorem in64_1000000 : in64 (1000000) := ⟨by decide, by decide⟩
@[simp] theorem in64_1000003 : in64 (1000003) := ⟨by decide, by decide⟩
@[simp] theorem in30_1 : in30 1 := ⟨by decide, by decide⟩
@[simp] theorem in30_2 : in30 2 := ⟨by decide, by decide⟩
@[simp] theorem in30_3 : in30 3 := ⟨by decide, by decide⟩
@[simp] theorem in30_4 : in30 4 := ⟨by decide, by decide⟩
@[simp] theorem in30_5 : in30 5 := ⟨by decide, by decide⟩
@[simp] theorem in30_6 : in30 6 := ⟨by decide, by decide⟩
@[simp] theorem in30_7 : in30 7 := ⟨by decide, by decide⟩
@[simp] theorem in30_8 : in30 8 := ⟨by decide, by decide⟩
@[simp] theorem in30_9 : in30 9 := ⟨by decide, by decide⟩
@[simp] theorem in30_10 : in30 10 := ⟨by decide, by decide⟩
@[simp] theorem in30_64 : in30 64 := ⟨by decide, by decide⟩
@[simp] theorem in30_100 : in30 100 := ⟨by decide, by decide⟩
@[simp] theorem in30_1000 : in30 1000 := ⟨by decide, by decide⟩
@[simp] theorem in30_100000 : in30 100000 := ⟨by decide, by decide⟩
@[simp] theorem in30_1000000 : in30 1000000 := ⟨by decide, by decide⟩
@[simp] theorem in30_1000003 : in30 1000003 := ⟨by decide, by decide⟩
theorem u_dItems {f : M D} : dItems f ρ = bindM f (fun d => optM (itemsOf d)) ρ := rfl
@[simp] theorem u_itemsL {o : Bool} {ds : List D} : itemsOf (.lst o ds) = if fzL (freezeL ds) = true then some (freezeL ds) else none := rfl
@[simp] theorem u_itemsT {ds : List D} : itemsOf (.tup ds) = if fzL (freezeL ds) = true then some (freezeL ds) else none := rfl
@[simp] theorem u_itemsS {ds : List D} : itemsOf (.scr ds) = if fzL (freezeL ds) = true then some (freezeL ds) else none := rfl
theorem u_dSl {fa : M D} {fl fh : M (Option Int)} : dSl fa fl fh ρ = bindM fa (fun x => bindM fl fun lo => bindM fh fun hi => optM (gSlice x lo hi)) ρ := rfl
theorem u_dNo : dNo ρ = some (.ok none ρ) := rfl
theorem u_dEnd {f : M D} : dEnd f ρ = bindM f (fun d => optM ((intOf d).map some)) ρ := rfl
@[simp] theorem u_intOf {i : Int} : intOf (.int i) = some i := rfl
@[simp] theorem u_slL {o : Bool} {ds : List D} {lo hi : Option Int} : gSlice (.lst o ds) lo hi = some (.lst true (cutD ds lo hi)) := rfl
@[simp] theorem u_slS {ds : List D} {lo hi : Option Int} : gSlice (.scr ds) lo hi = some (.lst true (cutD ds lo hi)) := rfl
@[simp] theorem u_slT {ds : List D} {lo hi : Option Int} : gSlice (.tup ds) lo hi = some (.tup (cutD ds lo hi)) := rfl
theorem u_dIsa {ns : List String} {f : M D} : dIsa ns f ρ = bindM f (fun d => optM (gIsa ns d)) ρ := rfl
theorem u_dEnum {f : M (List D)} : dEnum f ρ = bindM f (fun ds => optM (match ds with
  | [x] => (lstOf (freeze x)).bind fun xs => if fzL xs = true ∧ fz (freeze x) = true then some (enumD xs) else none
  | _ => none)) ρ := rfl
theorem u_dZip {f : M (List D)} : dZip f ρ = bindM f (fun ds => optM (zipOf ds)) ρ := rfl
@[simp] theorem u_outD {np : Nat} {asg : List Nat} : outD np asg ρ = (wipeD ρ asg).take np := rfl
@[simp] theorem u_wipe0 : wipeD ρ [] = ρ := rfl
@[simp] theorem u_wipe1 {i : Nat} {is : List Nat} : wipeD ρ (i :: is) = (wipeD ρ is).set i .unk := rfl
@[simp] theorem u_sz0 : (0 : Nat) ≤ sizeLine := Nat.zero_le _
@[simp] theorem u_sz1 : (1 : Nat) ≤ sizeLine := by decide
@[simp] theorem u_sz2 : (2 : Nat) ≤ sizeLine := by decide
@[simp] theorem u_sz3 : (3 : Nat) ≤ sizeLine := by decide
@[simp] theorem u_sz4 : (4 : Nat) ≤ sizeLine := by decide
@[simp] theorem u_sz5 : (5 : Nat) ≤ sizeLine := by decide
@[simp] theorem u_sz6 : (6 : Nat) ≤ sizeLine := by decide
@[simp] theorem u_sz8 : (8 : Nat) ≤ sizeLine := by decide
end
end VS

set_option Elab.async false
set_option linter.all false
set_option maxRecDepth 100000
set_option maxHeartbeats 4000000
set_option autoImplicit false
/-! VS14: sorted rows of ints, dicts keyed by pairs of ints, permutations. -/
noncomputable section
namespace VS
open PySem PySem.Spec L2
section
variable {ρ : Env}
def k2 (p : Int × Int) : List Key := [.inl p.1, .inl p.2]
theorem k2_inj {p q : Int × Int} (h : k2 p = k2 q) : p = q := by
  unfold k2 at h
  simp at h
  exact Prod.ext h.1 h.2
theorem look_k2 : ∀ (ks : List (Int × Int)) (ls : List Int) (p : Int × Int), look (ks.map k2) (ls.map D.int) (k2 p) = (look ks ls p).map D.int
  | [], _, _ => by simp [look]
  | _ :: _, [], _ => by simp [look]
  | k :: ks, l :: ls, p => by
    rw [List.map_cons, List.map_cons, look, look]
    by_cases e : k = p
    · rw [if_pos (by rw [e]), if_pos e]; rfl
    · rw [if_neg (fun h => e (k2_inj h)), if_neg e, look_k2 ks ls p]
theorem putL_k2 : ∀ (ks : List (Int × Int)) (ls : List Int) (p : Int × Int) (l : Int), putL (ks.map k2) (ls.map D.int) (k2 p) (D.int l) = ((putL ks ls p l).1.map k2, (putL ks ls p l).2.map D.int)
  | [], _, _, _ => by simp [putL]
  | _ :: _, [], _, _ => by simp [putL]
  | k :: ks, a :: ls, p, l => by
    rw [List.map_cons, List.map_cons, putL, putL]
    by_cases e : k = p
    · rw [if_pos (by rw [e]), if_pos e]; rfl
    · rw [if_neg (fun h => e (k2_inj h)), if_neg e, putL_k2 ks ls p l]; rfl
theorem putL_len2 {κ α : Type} [DecidableEq κ] : ∀ (ks : List κ) (as : List α) (k : κ) (a : α), ks.length = as.length → (putL ks as k a).1.length = (putL ks as k a).2.length
  | [], [], k, a, _ => rfl
  | [], _ :: _, k, a, h => by cases h
  | _ :: _, [], k, a, h => by cases h
  | k' :: ks, b :: as, k, a, h => by
    rw [putL]
    split
    · exact h
    · simp only [List.length_cons]; rw [putL_len2 ks as k a (Nat.succ.inj h)]
theorem look_mem {κ α : Type} [DecidableEq κ] : ∀ (ks : List κ) (as : List α) (k : κ), ks.length = as.length → k ∈ ks → ∃ a, look ks as k = some a
  | [], _, _, _, h => by cases h
  | _ :: _, [], _, h, _ => by cases h
  | k' :: ks, b :: as, k, h, hk => by
    rw [look]
    by_cases e : k' = k
    · exact ⟨b, if_pos e⟩
    · rw [if_neg e]
      rcases List.mem_cons.mp hk with z | z
      · exact absurd z.symm e
      · exact look_mem ks as k (Nat.succ.inj h) z
theorem look_no {κ α : Type} [DecidableEq κ] : ∀ (ks : List κ) (as : List α) (k : κ), k ∉ ks → look ks as k = none
  | [], _, _, _ => by simp [look]
  | _ :: _, [], _, _ => by simp [look]
  | k' :: ks, b :: as, k, h => by
    rw [look, if_neg (fun e => h (by rw [e]; exact List.mem_cons_self)), look_no ks as k (fun z => h (List.mem_cons_of_mem _ z))]
/-- a dict keyed by pairs -/
def dP (o : Bool) (ks : List (Int × Int)) (ls : List Int) : D := .dT o (ks.map k2) (ls.map D.int)
@[simp] theorem u_isDctP {o : Bool} {ks : List (Int × Int)} {ls : List Int} : isDct (some (dP o ks ls)) = true := rfl
@[simp] theorem nu_P {o : Bool} {ks : List (Int × Int)} {ls : List Int} : nunk (some (dP o ks ls)) = true := rfl
@[simp] theorem u_lenP {o : Bool} {ks : List (Int × Int)} {ls : List Int} : lenD (dP o ks ls) = some ks.length := by show some (ks.map k2).length = _; rw [List.length_map]
@[simp] theorem u_fzP {ks : List (Int × Int)} {ls : List Int} : fz (dP false ks ls) = true := by unfold dP; rw [u_fzD]; simp
@[simp] theorem u_frP {o : Bool} {ks : List (Int × Int)} {ls : List Int} : freeze (dP o ks ls) = dP false ks ls := by unfold dP; rw [u_frD]; simp
@[simp] theorem u_putP {ks : List (Int × Int)} {ls : List Int} {a b l : Int} : VS.putAt (dP true ks ls) (.tup [.int a, .int b]) (.int l) = if ks.length < sizeLine then some (dP true (putL ks ls (a, b) l).1 (putL ks ls (a, b) l).2) else none := by
  unfold dP
  show (if (ks.map k2).length < sizeLine then some (D.dT true (putL (ks.map k2) (ls.map D.int) (k2 (a, b)) (D.int l)).1 (putL (ks.map k2) (ls.map D.int) (k2 (a, b)) (D.int l)).2) else none) = _
  rw [List.length_map, putL_k2]
@[simp] theorem u_lookP {o : Bool} {ks : List (Int × Int)} {ls : List Int} {a b : Int} : lookD (dP o ks ls) (.tup [.int a, .int b]) = (look ks ls (a, b)).map D.int := by
  unfold dP
  show look (ks.map k2) (ls.map D.int) (k2 (a, b)) = _
  rw [look_k2]
@[simp] theorem u_dSetd {i : Nat} {fy fd : M D} : dSetd i fy fd ρ = (if isDct ρ[i]? = true then bindM fy (fun y => bindM fd (setdS i y)) ρ else none) := rfl
theorem setd_P {i : Nat} {ks : List (Int × Int)} {ls : List Int} {a b l : Int} (h : ρ[i]? = some (dP true ks ls)) (hs : ks.length < sizeLine) : setdS i (.tup [.int a, .int b]) (.int l) ρ = some (.ok .unk (ρ.set i (if (a, b) ∈ ks then dP true ks ls else dP true (putL ks ls (a, b) l).1 (putL ks ls (a, b) l).2))) ∨ ks.length ≠ ls.length := by
  by_cases hl : ks.length = ls.length
  · left
    have e : setdS i (.tup [.int a, .int b]) (.int l) ρ = (match ρ.getD i .unk, D.tup [.int a, .int b] with
      | .dT true ks ds, .tup es => match keysD es with
        | some k => if ks.length < sizeLine ∧ fz (D.int l) = true then (match look ks ds k with
          | some _ => some (.ok .unk ρ)
          | none => some (.ok .unk (ρ.set i (.dT true (putL ks ds k (.int l)).1 (putL ks ds k (.int l)).2)))) else none
        | none => none
      | _, _ => none) := rfl
    rw [e, List.getD, h, Option.getD_some]
    unfold dP
    simp only [show keysD [D.int a, D.int b] = some (k2 (a, b)) from rfl]
    rw [if_pos ⟨by rw [List.length_map]; exact hs, u_fzI⟩, look_k2, putL_k2]
    by_cases hm : (a, b) ∈ ks
    · obtain ⟨x, hx⟩ := look_mem ks ls (a, b) hl hm
      rw [hx, if_pos hm]
      simp only [Option.map_some]
      congr 2
      obtain ⟨hi, hv⟩ := List.getElem?_eq_some_iff.mp h
      have := List.set_getElem_self hi
      rw [hv] at this
      exact this.symm
    · rw [look_no ks ls (a, b) hm, if_neg hm]
      rfl
  · exact .inr hl
/-- order of rows -/
theorem leL_trans (x y z : List Int) (h : leL x y = true) (h2 : leL y z = true) : leL x z = true := by
  unfold leL at *
  rw [decide_eq_true_eq] at *
  exact List.le_trans h h2
theorem leL_total (x y : List Int) : (leL x y || leL y x) = true := by
  unfold leL
  rw [Bool.or_eq_true, decide_eq_true_eq, decide_eq_true_eq]
  exact List.le_total x y
theorem leL_anti (x y : List Int) (h : leL x y = true) (h2 : leL y x = true) : x = y := by
  unfold leL at *
  rw [decide_eq_true_eq] at *
  exact List.le_antisymm h h2
/-- one sorted list for all orders of its items -/
theorem sort_perm {l m : List (List Int)} (h : l.Perm m) (hs : m.Pairwise (fun x y => leL x y = true)) : l.mergeSort leL = m := by
  refine List.Perm.eq_of_pairwise (le := fun x y => leL x y = true) (fun a b _ _ h1 h2 => leL_anti a b h1 h2) (List.pairwise_mergeSort leL_trans leL_total l) hs ?_
  exact (List.mergeSort_perm l leL).trans h
def p2 (p : Int × Int) : List Int := [p.1, p.2]
theorem leL_p2 {p q : Int × Int} : leL (p2 p) (p2 q) = true ↔ p.1 < q.1 ∨ (p.1 = q.1 ∧ p.2 ≤ q.2) := by
  unfold leL p2
  rw [decide_eq_true_eq, List.cons_le_cons_iff, List.cons_le_cons_iff]
  have : ([] : List Int) ≤ [] := List.nil_le _
  constructor
  · rintro (h | ⟨h, h2⟩)
    · exact .inl h
    · right; refine ⟨h, ?_⟩; rcases h2 with h2 | h2 <;> omega
  · rintro (h | ⟨h, h2⟩)
    · exact .inl h
    · right; refine ⟨h, ?_⟩
      by_cases e : p.2 = q.2
      · exact .inr ⟨e, this⟩
      · left; omega
abbrev R3 := Int × Int × Int
def r3 (r : R3) : List Int := [r.1, r.2.1, r.2.2]
def lt3 (r s : R3) : Prop := r.1 < s.1 ∨ (r.1 = s.1 ∧ r.2.1 < s.2.1)
theorem leL_r3 {r s : R3} (h : lt3 r s) : leL (r3 r) (r3 s) = true := by
  unfold leL r3
  rw [decide_eq_true_eq, List.cons_le_cons_iff, List.cons_le_cons_iff]
  rcases h with h | ⟨h, h2⟩
  · exact .inl h
  · exact .inr ⟨h, .inl h2⟩
theorem r3_inj {r s : R3} (h : r3 r = r3 s) : r = s := by
  unfold r3 at h
  simp at h
  exact Prod.ext h.1 (Prod.ext h.2.1 h.2.2)
/-- the sorted keys of a dict by pairs -/
def sP (ks : List (Int × Int)) : List (Int × Int) := ks.mergeSort fun x y => leL (p2 x) (p2 y)
theorem sP_perm (ks : List (Int × Int)) : (sP ks).Perm ks := List.mergeSort_perm _ _
theorem sP_map (ks : List (Int × Int)) : (ks.map p2).mergeSort leL = (sP ks).map p2 := (List.map_mergeSort (f := p2) (r := fun x y => leL (p2 x) (p2 y)) (s := leL) (l := ks) (fun x _ y _ => rfl)).symm
theorem sP_lt {ks : List (Int × Int)} (h : ks.Nodup) : (sP ks).Pairwise fun p q => p.1 < q.1 ∨ (p.1 = q.1 ∧ p.2 < q.2) := by
  have h1 : (sP ks).Pairwise fun x y => leL (p2 x) (p2 y) = true := List.pairwise_mergeSort (le := fun x y => leL (p2 x) (p2 y)) (fun x y z => leL_trans (p2 x) (p2 y) (p2 z)) (fun x y => leL_total (p2 x) (p2 y)) ks
  have h2 : (sP ks).Nodup := (sP_perm ks).nodup_iff.mpr h
  refine (h1.and h2).imp ?_
  rintro ⟨a, b⟩ ⟨c, d⟩ ⟨h3, h4⟩
  rcases leL_p2.mp h3 with h5 | ⟨h5, h6⟩
  · exact .inl h5
  · right
    refine ⟨h5, ?_⟩
    by_cases e : b = d
    · exfalso; apply h4; dsimp only at h5; rw [h5, e]
    · dsimp only at h6 ⊢; omega
theorem u_sortP {o : Bool} {ks : List (Int × Int)} {ls : List Int} (hl : ks.length ≤ sizeLine) : gSorted [dP o ks ls] = some (.lst true ((sP ks).map fun p => tI (p2 p))) := by
  unfold dP
  show (sortD ((ks.map k2).map tupK)).map (fun ys => D.lst true ys) = _
  have e : (ks.map k2).map tupK = (ks.map p2).map tI := by
    rw [List.map_map, List.map_map]
    apply List.map_congr_left
    intro p _
    rfl
  rw [e, sortD_tI (by
    intro x hx
    obtain ⟨p, _, rfl⟩ := List.mem_map.mp hx
    intro z
    cases z) (by rw [List.length_map]; exact hl), sP_map, List.map_map]
  rfl
theorem ins_perm {α : Type} (l : List α) (n : Nat) (d : α) : (l.take n ++ [d] ++ l.drop n).Perm (d :: l) := by
  rw [List.append_assoc]
  refine (List.perm_middle (l₁ := l.take n) (a := d) (l₂ := l.drop n)).trans ?_
  rw [List.take_append_drop]
/-- 0, .., n - 1 in some order -/
def rangeI (n : Nat) : List Int := (List.range n).map fun (i : Nat) => (i : Int)
theorem rangeI_succ (n : Nat) : (rangeI (n + 1)).Perm ((n : Int) :: rangeI n) := by
  unfold rangeI
  rw [List.range_succ, List.map_append]
  exact List.perm_append_comm
theorem mem_rangeI {n : Nat} {x : Int} : x ∈ rangeI n ↔ 0 ≤ x ∧ x < n := by
  unfold rangeI
  rw [List.mem_map]
  constructor
  · rintro ⟨i, hi, rfl⟩
    rw [List.mem_range] at hi
    omega
  · rintro ⟨h0, h1⟩
    exact ⟨x.toNat, by rw [List.mem_range]; omega, by omega⟩
theorem nodup_rangeI (n : Nat) : (rangeI n).Nodup := by
  unfold rangeI
  unfold List.Nodup
  rw [List.pairwise_map]
  exact List.nodup_range.imp fun h z => h (by omega)
theorem len_rangeI (n : Nat) : (rangeI n).length = n := by unfold rangeI; simp
theorem lc_map {α : Type} {own : List Nat} {bt : D → Env → Option Env} {el : M D} {g h : α → D} : ∀ (xs : List α) (acc : List D), acc.length + xs.length ≤ sizeLine → (∀ x ∈ xs, ∃ ρ1 ρ2, bt (g x) ρ = some ρ1 ∧ el ρ1 = some (.ok (h x) ρ2) ∧ wipeD ρ2 own = ρ) → lcD own bt dYes el (xs.map g) acc ρ = some (acc ++ xs.map h, ρ)
  | [], acc, _, _ => by simp [lcD]
  | x :: xs, acc, hz, hs => by
    obtain ⟨ρ1, ρ2, e1, e2, e3⟩ := hs x List.mem_cons_self
    rw [List.map_cons]
    unfold lcD
    rw [e1]
    simp only [show dYes ρ1 = some (.ok true ρ1) from rfl, if_true]
    rw [e2]
    simp only
    rw [if_pos (by simp at hz; omega), e3, lc_map xs (acc ++ [h x]) (by simp at hz ⊢; omega) fun y hy => hs y (List.mem_cons_of_mem _ hy)]
    simp
end
end VS

set_option Elab.async false
set_option linter.all false
set_option maxRecDepth 100000
set_option maxHeartbeats 4000000
set_option autoImplicit false
/-! VS15: list(range), x in a list, unpacking a list. -/
noncomputable section
namespace VS
open PySem PySem.Spec PyProof.Rows L2
section
variable {X : Cx} {W : WX} {K : PySem.W.Frag} {mg : Str → Option Value} {F H H1 : Hp} {T L : List (D × V)} {ρ ρ' : Env} {σ σ' σ'' : St} {m : Bool}
/-! ### list(range(a)), list(range(a, b)) -/
noncomputable instance rgOk_dec {a b : Int} : Decidable (RgOk a b) := Classical.propDecidable _
theorem RepT.rg (a : Int) : ∀ n : Nat, RepT K H L → RepT K H ((intsD a n).zip ((List.range n).map fun i => V.int (a + (i : Nat))) ++ L) := by
  intro n r
  unfold intsD
  generalize List.range n = l
  induction l with
  | nil => exact r
  | cons x l ih => exact RepT.int ih
noncomputable def lr1 (x : D) : Option D := match x with
  | .int n => if RgOk 0 n then some (.lst true (intsD 0 n.toNat)) else none
  | _ => none
noncomputable def lr2 (x y : D) : Option D := match x, y with
  | .int i, .int j => if RgOk i j then some (.lst true (intsD i (j - i).toNat)) else none
  | _, _ => none
theorem ve_listR1 {a : Expr} {f : M D} {p p2 pos pos2 : Pos} (hc : X.calm = true) (hl : Gl X "list") (hml : X.mg "list" = none) (hg : Gl X "range") (hm : X.mg "range" = none) (ha : VE X W m a f)
    (na : starEach [a] X.env = (false, eval a X.env) :: starEach [] X.env := by rfl) (nb : starEach [.Call (.Name "range" p) [a] [] pos] X.env = (false, eval (.Call (.Name "range" p) [a] [] pos) X.env) :: starEach [] X.env := by rfl) :
    VE X W m (.Call (.Name "list" p2) [.Call (.Name "range" p) [a] [] pos] [] pos2) (d1 lr1 f) := by
  refine PE.imp (pe_listRg hc hl hml (prg_1 hg hm ha na) nb) fun σ H Q ⟨T, ρ, u, rep, hf, he⟩ => ?_
  refine run1 rep hf he fun x ρ1 v H1 h1 s1 r1 => ?_
  obtain ⟨d, e, rfl⟩ := optM_some h1
  cases x <;> simp only [lr1, reduceCtorEq] at e
  rename_i n
  have ev := r1.rep.eq_int
  subst ev
  by_cases z : RgOk 0 n
  · rw [if_pos z] at e
    cases e
    refine ⟨n, rfl, z, fun q hq => he _ _ (sm_r s1 fun b o w => ?_) (r1.drop.lift fun r => ?_)⟩
    · rw [upd_ne (ne_of_none w hq)]; exact w
    · have := RepT.rg (L := T ++ SL ρ1 σ) 0 n.toNat r
      refine RepT.newL (by simp [rgV, intsD]) hq ?_
      unfold rgV
      rw [show (n - 0).toNat = n.toNat by simp]
      exact this
  · rw [if_neg z] at e; cases e
theorem ve_listR2 {a b : Expr} {f g : M D} {ma mb : Bool} {p p2 pos pos2 : Pos} (hc : X.calm = true) (hl : Gl X "list") (hml : X.mg "list" = none) (hg : Gl X "range") (hm : X.mg "range" = none) (ha : VE X W ma a f) (hb : VE X W mb b g)
    (na : starEach [a, b] X.env = (false, eval a X.env) :: starEach [b] X.env := by rfl) (nb : starEach [b] X.env = (false, eval b X.env) :: starEach [] X.env := by rfl) (hp : (backTo pos (starEach [b] X.env)).any (·.1) = false := by rfl)
    (nc : starEach [.Call (.Name "range" p) [a, b] [] pos] X.env = (false, eval (.Call (.Name "range" p) [a, b] [] pos) X.env) :: starEach [] X.env := by rfl) :
    VE X W (ma || mb) (.Call (.Name "list" p2) [.Call (.Name "range" p) [a, b] [] pos] [] pos2) (d2 lr2 f g) := by
  refine PE.imp (pe_listRg hc hl hml (prg_2 hg hm ha hb na nb hp) nc) fun σ H Q ⟨T, ρ, u, rep, hf, he⟩ => ?_
  refine run1 rep hf he fun x ρ1 v H1 h1 s1 r1 => ?_
  refine run1 r1 h1 (he.push fun _ _ h => h) fun y ρ2 w H2 h2 s2 r2 => ?_
  obtain ⟨d, e, rfl⟩ := optM_some h2
  cases x <;> cases y <;> simp only [lr2, reduceCtorEq] at e
  rename_i i j
  have ew := r2.rep.eq_int
  subst ew
  have ev := r2.drop.rep.eq_int
  subst ev
  by_cases z : RgOk i j
  · rw [if_pos z] at e
    cases e
    refine ⟨i, j, rfl, rfl, z, fun q hq => he _ _ (sm_r (sm_or s1 s2) fun b o w => ?_) (r2.drop.drop.lift fun r => ?_)⟩
    · rw [upd_ne (ne_of_none w hq)]; exact w
    · refine RepT.newL (by simp [rgV, intsD]) hq ?_
      unfold rgV
      exact RepT.rg (L := T ++ SL ρ2 σ) i (j - i).toNat r
  · rw [if_neg z] at e; cases e
/-! ### x in l, l a list of data -/
def inB (x y : D) : Option Bool := match dat x, dat y with
  | some a, some (.list es) => if SeqAt.shaped a = true ∧ SeqAt.shaped (.list es) = true then some (es.any fun z => PyData.eqv z a) else none
  | _, _ => none
def gIn (neg : Bool) (x y : D) : Option D := (inB x y).map fun b => .bl (if neg = true then !b else b)
theorem inB_inv {x y : D} {b : Bool} (h : inB x y = some b) : ∃ a es, dat x = some a ∧ dat y = some (.list es) ∧ SeqAt.shaped a = true ∧ SeqAt.shaped (.list es) = true ∧ b = es.any fun z => PyData.eqv z a := by
  unfold inB at h
  split at h
  · rename_i a es e1 e2
    split at h
    · rename_i z
      exact ⟨a, es, e1, e2, z.1, z.2, (Option.some.inj h).symm⟩
    · cases h
  · cases h
theorem impIn : Imp2 K (rInD K) (gIn false) := by
  intro H L x y d v w Q e r h
  obtain ⟨b, eb, rfl⟩ := Option.map_eq_some_iff.mp e
  obtain ⟨a, es, e1, e2, h1, h2, rfl⟩ := inB_inv eb
  exact ⟨a, es, (r.perm (.swap _ _ _)).dp e1, r.dp e2, h1, h2, h _ _ (Same.refl _) (r.drop.drop.bl)⟩
theorem impInN : Imp2 K (rNotInD K) (gIn true) := by
  intro H L x y d v w Q e r h
  obtain ⟨b, eb, rfl⟩ := Option.map_eq_some_iff.mp e
  obtain ⟨a, es, e1, e2, h1, h2, rfl⟩ := inB_inv eb
  exact ⟨a, es, (r.perm (.swap _ _ _)).dp e1, r.dp e2, h1, h2, h _ _ (Same.refl _) (r.drop.drop.bl)⟩
theorem op_inA (hu : X.A.units + 64 < cLine) (hu' : X.A.units + 65 < cLine) : OpR X (compareOp .In) (rInD X.K) := op_inD hu'
/-- l at a name -/
def inS (neg : Bool) (i : Nat) (x : D) : M D := fun ρ => match gIn neg x (ρ.getD i .unk) with
  | some d => some (.ok d ρ)
  | none => none
def dInS (neg : Bool) (i : Nat) (f : M D) : M D := bindM f (inS neg i)
theorem in_of {neg : Bool} {r : R2} {i : Nat} {f : M D} {Q : VK} (hi : Imp2 K r (gIn neg)) (hr : ∀ x y H Q, (r x y H fun v H' => ∃ b, v = .bl b ∧ H' = H ∧ Q v H') → r x y H Q)
    (hq : ∀ x y b H L v w (Q : VK), inB x y = some b → RepT K H ((y, w) :: (x, v) :: L) → Q (.bl (if neg = true then !b else b)) H → r v w H Q)
    (h : tOf K mg W m (dInS neg i f) σ H Q) : tOf K mg W m f σ H fun x H1 => tVar i σ H1 fun y H2 => r x y H2 Q := by
  obtain ⟨T, ρ, u, rep, hf, he⟩ := h
  refine run1 rep hf he fun x ρ1 w H1 h1 s1 r1 => ?_
  unfold inS at h1
  cases q : gIn neg x (ρ1.getD i .unk) with
  | none => rw [q] at h1; cases h1
  | some d =>
    rw [q] at h1
    have : u = .ok d ρ1 := (Option.some.inj h1).symm
    subst this
    obtain ⟨b, eb, rfl⟩ := Option.map_eq_some_iff.mp q
    have hlt : i < ρ1.length := by
      by_cases c : i < ρ1.length
      · exact c
      · obtain ⟨a, es, _, e2, _⟩ := inB_inv eb
        rw [List.getD, List.getElem?_eq_none (by omega)] at e2
        cases e2
    have n : ρ1.getD i .unk ≠ .unk := by
      intro z
      obtain ⟨a, es, _, e2, _⟩ := inB_inv eb
      rw [z] at e2
      cases e2
    obtain ⟨v, hv⟩ := r1.slot (getD_at hlt) n
    refine ⟨v, hv, ?_⟩
    have p := slot_perm (T := T) (getD_at hlt) hv
    have r2 : RepT K H1 ((x, w) :: (ρ1.getD i .unk, v) :: (T ++ (SL ρ1 σ).eraseIdx i)) := r1.rep.perm (p.cons _)
    exact hq x _ b H1 _ w v Q eb (r2.perm (.swap _ _ _)) (he _ H1 s1 (r1.drop.lift fun q => q.bl))
theorem inS_in {i : Nat} {f : M D} {Q : VK} (h : tOf K mg W m (dInS false i f) σ H Q) : tOf K mg W m f σ H fun x H1 => tVar i σ H1 fun y H2 => rInD K x y H2 Q := by
  refine in_of (neg := false) impIn (fun x y H Q ⟨d, ds, h1, h2, h3, h4, b, e, _, h5⟩ => ⟨d, ds, h1, h2, h3, h4, h5⟩) ?_ h
  intro x y b H L v w Q eb r q
  obtain ⟨a, es, e1, e2, h1, h2, rfl⟩ := inB_inv eb
  exact ⟨a, es, (r.perm (.swap _ _ _)).dp e1, r.dp e2, h1, h2, q⟩
theorem inS_nin {i : Nat} {f : M D} {Q : VK} (h : tOf K mg W m (dInS true i f) σ H Q) : tOf K mg W m f σ H fun x H1 => tVar i σ H1 fun y H2 => rNotInD K x y H2 Q := by
  refine in_of (neg := true) impInN (fun x y H Q ⟨d, ds, h1, h2, h3, h4, b, e, _, h5⟩ => ⟨d, ds, h1, h2, h3, h4, h5⟩) ?_ h
  intro x y b H L v w Q eb r q
  obtain ⟨a, es, e1, e2, h1, h2, rfl⟩ := inB_inv eb
  exact ⟨a, es, (r.perm (.swap _ _ _)).dp e1, r.dp e2, h1, h2, q⟩
theorem ve_inL {a b : Expr} {i : Nat} {f : M D} {pos : Pos} (hu : X.A.units + 65 < cLine) (ha : VE X W m a f) (hb : PE X b (tVar i)) (h1 : behindInMarks .In b = false := by first | exact nobehind _ (by decide) (by decide) | rfl) : VE X W m (.Compare a [.In] [b] pos) (dInS false i f) :=
  PE.imp (pe_cmpR (op_inD hu) ha hb h1) fun _ _ _ h => inS_in h
theorem ve_ninL {a b : Expr} {i : Nat} {f : M D} {pos : Pos} (hu : X.A.units + 65 < cLine) (ha : VE X W m a f) (hb : PE X b (tVar i)) (h1 : behindInMarks .NotIn b = false := by first | exact nobehind _ (by decide) (by decide) | rfl) : VE X W m (.Compare a [.NotIn] [b] pos) (dInS true i f) :=
  PE.imp (pe_cmpR (op_notInD hu) ha hb h1) fun _ _ _ h => inS_nin h
theorem vt_inL {a b : Expr} {i : Nat} {f : M D} {pos : Pos} (hu : X.A.units + 65 < cLine) (ha : VE X W m a f) (hb : PE X b (tVar i)) (h1 : behindInMarks .In b = false := by first | exact nobehind _ (by decide) (by decide) | rfl) : VT X W m (.Compare a [.In] [b] pos) (dTB (dInS false i f)) := by
  refine PT.imp (pt_cmpR (op_inD hu) ha hb h1) fun σ H Q ⟨T, ρ, u, rep, hf, he⟩ => ?_
  refine inS_in (Q := fun x H1 => ∃ c, x = .bl c ∧ Q c H1) (run1 rep hf he fun x ρ1 v H1 h1 s1 r1 => ?_)
  obtain ⟨b, e, rfl⟩ := optM_some h1
  cases x with
  | bl c =>
    have e : c = b := Option.some.inj e
    subst e
    exact ⟨c, RepT.eq_bl r1.rep, he H1 s1 r1.drop⟩
  | _ => cases e
theorem vt_ninL {a b : Expr} {i : Nat} {f : M D} {pos : Pos} (hu : X.A.units + 65 < cLine) (ha : VE X W m a f) (hb : PE X b (tVar i)) (h1 : behindInMarks .NotIn b = false := by first | exact nobehind _ (by decide) (by decide) | rfl) : VT X W m (.Compare a [.NotIn] [b] pos) (dTB (dInS true i f)) := by
  refine PT.imp (pt_cmpR (op_notInD hu) ha hb h1) fun σ H Q ⟨T, ρ, u, rep, hf, he⟩ => ?_
  refine inS_nin (Q := fun x H1 => ∃ c, x = .bl c ∧ Q c H1) (run1 rep hf he fun x ρ1 v H1 h1 s1 r1 => ?_)
  obtain ⟨b, e, rfl⟩ := optM_some h1
  cases x with
  | bl c =>
    have e : c = b := Option.some.inj e
    subst e
    exact ⟨c, RepT.eq_bl r1.rep, he H1 s1 r1.drop⟩
  | _ => cases e
/-! ### a, b, .. = a sequence -/
theorem OwL.allF : ∀ {ds : List D} {vs : List V} {A : List Addr}, OwL K F H ds vs A → fzL ds = true → OwT K F H (ds.zip vs) []
  | [], _, _, _, _ => rfl
  | d :: ds, vs, A, h, z => by
    rw [OwL] at h
    obtain ⟨v, r, A1, A2, rfl, rfl, h1, h2⟩ := h
    rw [u_fzL1, Bool.and_eq_true] at z
    have e := h1.frozen _ _ _ z.1
    subst e
    exact ⟨[], [], rfl, h1, OwL.allF h2 z.2⟩
theorem OwT.app : ∀ {T U : List (D × V)} {A : List Addr}, OwT K F H T [] → OwT K F H U A → OwT K F H (T ++ U) A
  | [], _, _, _, h => h
  | p :: T, U, A, h, g => by
    obtain ⟨A1, A2, e, h1, h2⟩ := h
    obtain ⟨e1, e2⟩ := List.append_eq_nil_iff.mp e.symm
    subst e1
    subst e2
    exact ⟨[], A, rfl, h1, OwT.app h2 g⟩
/-- the frozen items of a sequence, held beside it -/
theorem RepT.itemsF {x : D} {ds : List D} {v : V} (r : RepT K H ((x, v) :: L)) (e : seqOf x = some ds) (z : fzL ds = true) :
    ∃ a vs, v = .ref a ∧ (SqL K H a vs ∨ SqT K H a vs) ∧ ds.length = vs.length ∧ RepT K H (ds.zip vs ++ (x, v) :: L) := by
  obtain ⟨F, A, sF, nd, fr, A1, A2, rfl, h1, o⟩ := r
  have fin : ∀ (vs : List V) (B : List Addr), OwL K F H ds vs B → RepT K H (ds.zip vs ++ (x, v) :: L) := fun vs B hu => ⟨F, A1 ++ A2, sF, nd, fr, OwT.app (hu.allF z) ⟨A1, A2, rfl, h1, o⟩⟩
  cases x with
  | tup xs =>
    simp only [seqOf, Option.some.injEq] at e
    subst e
    have h1' := h1
    rw [Ow] at h1'
    obtain ⟨a, vs, ev, q, l⟩ := h1'
    exact ⟨a, vs, ev, .inr (.inl (.inl (sF _ _ q))), l.length, fin _ _ l⟩
  | ktp xs =>
    simp only [seqOf, Option.some.injEq] at e
    subst e
    have h1' := h1
    rw [Ow] at h1'
    obtain ⟨a, vs, ev, q, l⟩ := h1'
    exact ⟨a, vs, ev, .inr (Same.sqT sF q), l.length, fin _ _ l⟩
  | lst b xs =>
    simp only [seqOf, Option.some.injEq] at e
    subst e
    have h1' := h1
    cases b <;> rw [Ow] at h1'
    · obtain ⟨a, vs, ev, q, l⟩ := h1'
      exact ⟨a, vs, ev, .inl (.inl (.inl (sF _ _ q))), l.length, fin _ _ l⟩
    · obtain ⟨a, vs, A', ev, q, l, _⟩ := h1'
      exact ⟨a, vs, ev, .inl (.inl (.inl q)), l.length, fin _ _ l⟩
  | scr xs =>
    simp only [seqOf, Option.some.injEq] at e
    subst e
    have h1' := h1
    rw [Ow] at h1'
    obtain ⟨a, vs, ev, q, l⟩ := h1'
    exact ⟨a, vs, ev, .inl (sF.seq q), l.length, fin _ _ l⟩
  | _ => cases e
theorem gNms_len : ∀ (is : List Nat) (ds : List D) (ρ ρ' : Env), gNms is ds ρ = some ρ' → is.length = ds.length
  | [], [], _, _, _ => rfl
  | [], _ :: _, _, _, h => by cases h
  | _ :: _, [], _, _, h => by cases h
  | i :: is, d :: ds, ρ, ρ', h => by simp [gNms_len is ds _ _ h]
/-- a, b, .. = a tuple or a list, its items handed on -/
def gSq (is : List Nat) : D → Env → Option Env := fun d ρ => match seqOf d with
  | some ds => gNms is ds ρ
  | none => none
theorem vg_seq {is : List Nat} {tgs : List Expr} {k n : Nat} {pos : Pos} (hc : X.calm = true) (h : VGs X is tgs) (hn : (assignEach tgs X.env).length = n := by rfl) (hst : (assignEach tgs X.env).findIdx? (·.1) = none := by rfl) (hl : is.length = n := by rfl) : VG X is (.Tuple tgs k pos) (gSq is) := by
  refine PG.imp (PG.orr (pg_tup hc h hn hst) (pg_lst hc h hn hst)) fun v σ H Q ⟨T, ρ, d, ρ', rep, hg, hq⟩ => ?_
  unfold gSq at hg
  cases q : seqOf d with
  | none => rw [q] at hg; cases hg
  | some ds =>
    rw [q] at hg
    obtain ⟨a, vs, rfl, sq, l, r⟩ := RepT.seq q rep.rep
    have le := gNms_len is ds ρ ρ' hg
    rcases sq with sq | sq
    · exact .inr ⟨a, vs, rfl, sq, by omega, T, ρ, ds, ρ', l, ⟨rep.len, rep.nos, by rw [List.append_assoc]; exact r⟩, hg, fun σ' k r => hq σ' H k r⟩
    · exact .inl ⟨a, vs, rfl, sq, by omega, T, ρ, ds, ρ', l, ⟨rep.len, rep.nos, by rw [List.append_assoc]; exact r⟩, hg, fun σ' k r => hq σ' H k r⟩
/-- a, b, .. = x, x a name whose items are frozen -/
def dUnp (i : Nat) (is : List Nat) : MS := fun ρ => match seqOf (ρ.getD i .unk) with
  | none => none
  | some ds => if fzL ds = true then (match gNms is ds ρ with
    | some ρ' => some (.nx, ρ')
    | none => none) else none
theorem vs_unp {i : Nat} {is : List Nat} {tgs : List Expr} {e : Expr} {k n : Nat} {p pos : Pos} (hc : X.calm = true) (he : PE X e (tVar i)) (h : VGs X is tgs) (hn : (assignEach tgs X.env).length = n := by rfl) (hst : (assignEach tgs X.env).findIdx? (·.1) = none := by rfl) (hl : is.length = n := by rfl)
    (hs : swapsWithSole [.Tuple tgs k p] e pos.line X.env = pure false := by rfl) (hw : swappedStores [.Tuple tgs k p] e X.env = pure none := by rfl)
    (h1 : (assignEach [.Tuple tgs k p] X.env).map (·.2) = [assign (.Tuple tgs k p) X.env] := by rfl) : VSt X W is (.Assign [.Tuple tgs k p] e pos) (dUnp i is) := by
  refine PS.imp (ps_asg he (PG.orr (pg_tup hc h hn hst) (pg_lst hc h hn hst)) hs hw h1) fun σ H E ⟨T, ρ, fl, ρ', rep, hf, hE⟩ => ?_
  unfold dUnp at hf
  cases q : seqOf (ρ.getD i .unk) with
  | none => rw [q] at hf; cases hf
  | some ds =>
    rw [q] at hf
    simp only at hf
    by_cases z : fzL ds = true
    · rw [if_pos z] at hf
      cases q2 : gNms is ds ρ with
      | none => rw [q2] at hf; cases hf
      | some ρ2 =>
        rw [q2] at hf
        have e2 : (Fl.nx, ρ2) = (fl, ρ') := Option.some.inj hf
        injection e2 with e3 e4
        subst e3
        subst e4
        have hlt : i < ρ.length := by
          by_cases c : i < ρ.length
          · exact c
          · rw [List.getD, List.getElem?_eq_none (by omega)] at q; cases q
        have nu : ρ.getD i .unk ≠ .unk := by intro z; rw [z] at q; cases q
        obtain ⟨v, hv⟩ := rep.slot (getD_at hlt) nu
        refine ⟨v, hv, ?_⟩
        have pm := slot_perm (T := T) (getD_at hlt) hv
        obtain ⟨a, vs, rfl, sq, l, r⟩ := RepT.itemsF (rep.rep.perm pm) q z
        have le := gNms_len is ds ρ ρ2 q2
        have rp : Rep X.K H (ds.zip vs ++ T) ρ σ := ⟨rep.len, rep.nos, by rw [List.append_assoc]; exact r.perm (pm.symm.append_left _)⟩
        rcases sq with sq | sq
        · exact .inr ⟨a, vs, rfl, sq, by omega, T, ρ, ds, ρ2, l, rp, q2, fun σ' k r => hE σ' H k r⟩
        · exact .inl ⟨a, vs, rfl, sq, by omega, T, ρ, ds, ρ2, l, rp, q2, fun σ' k r => hE σ' H k r⟩
    · rw [if_neg z] at hf; cases hf
end
end VS

set_option Elab.async false
set_option linter.all false
set_option maxRecDepth 100000
set_option maxHeartbeats 4000000
set_option autoImplicit false
/-! VX0: the end of a list's walk while an exception is handled; sum of truths there. -/
noncomputable section
namespace VS
open PySem PySem.Spec PyProof.Rows L2
section
variable {prog : Program} {w : World} {A : Around} {E : Value → Shared → Prop} {s : Shared}
theorem hot_ne {it l x1 : Addr} {i : Nat} {h : Heap} (hot : HotX.HotAt A x1 h) (hit : h.IsListIter it l i) : x1 ≠ it := by
  intro z
  subst z
  obtain ⟨_, o1, v1, e1, d1, c1⟩ := hot
  obtain ⟨o, ho, _, hd⟩ := hit
  rw [e1] at ho
  cases ho
  rw [d1] at hd
  cases hd
  cases c1
open PySem.SeqAt in
theorem list_end_hot {it l x1 : Addr} {i : Nat} {its : Array Value} {Q : Option Value → Shared → Prop} (hot : HotX.HotAt A x1 s.heap) (hit : s.heap.IsListIter it l i) (hl : s.heap.IsList l its) (hx : its[i]? = none)
    (hQ : ∀ h', (∀ b o, b ≠ it → s.heap.get? b = some o → h'.get? b = some o) → Q none { s with heap := h' }) : wpAny (model prog w) A (pyNext (.ref it)) Q E s := by
  have hne := hot_ne hot hit
  obtain ⟨hh, o1, v1, h1, d1, c1⟩ := hot
  obtain ⟨o, ho, hc, hd⟩ := id hit
  obtain ⟨ol, hol, _, nl, hdl⟩ := hl
  unfold pyNext
  refine wpAny_bind (wpAny_attempt (wpAny_callSpecial?_slot (name := Str.ofString "__next__") hit.typeIs slot_listiter_next (wpAny_call_entry slot_listiter_next hit.typeIs entry_listiter_next ?_ (args_listiter_next _))))
  (show wpAny _ _ (field (.ref it) 0 >>= _) _ _ s); refine wpAny_bind (wpAny_field ho hd (x := .ref l) rfl ?_)
  (show wpAny _ _ (if (Value.ref l == Value.none) = true then _ else _) _ _ s); rw [if_neg (show ¬ ((Value.ref l == Value.none) = true) from Bool.false_ne_true)]
  (show wpAny _ _ (field (.ref it) 1 >>= _) _ _ s); refine wpAny_bind (wpAny_field ho hd (x := .int i 0) rfl ?_)
  (show wpAny _ _ (seqItems? (.ref l) >>= _) _ _ s); refine wpAny_bind (wpAny_seqItems hol hdl ?_)
  simp only [Int.toNat_natCast, hx]
  refine wpAny_bind (wpAny_rule (wpAny_bind (wpAny_setField ho hd (by simp) ?_)))
  (show wpAny _ _ (newExc (.type "StopIteration") [] >>= _) _ _ _); (refine wpAny_bind ?_)
  simp only [newExc, newTuple]; (refine wpAny_bind (wpAny_newObj_type ?_ (by size_fits)))
  refine wpAny_bind (m := firstArgMember _ _) (wpAny_of_eq (a := Value.none) (by first | rfl | (simp only [firstArgMember]; rfl)) (wpAny_newObj_type ?_ (by size_fits)))
  have k1 : ∀ (b : Addr) (u : Obj), b ≠ it → s.heap.get? b = some u → ((s.heap.update it (Obj.mapFields (·.setIfInBounds 0 Value.none))).get? b) = some u := fun b u hb e => by
    rw [Heap.get?_update_other _ _ (Ne.symm hb)]; exact e
  refine HotX.raiseNew_hot ⟨hh, o1, v1, Heap.get?_push_of_some _ (Heap.get?_push_of_some _ (k1 _ _ hne h1)), d1, c1⟩ (Nat.ne_of_lt (Heap.lt_size (Heap.get?_push_of_some _ (k1 _ _ hne h1)))) (Heap.get?_push_size _ rfl) rfl (by first | (simp; done) | (simp; omega) | (simp only [Array.size_append]; simp; omega)) ?_
  refine wpAny_bind (wpAny_isInstance (T := "StopIteration") (b := true) ⟨_, Heap.get?_update_self _ (Heap.get?_push_size _ rfl) rfl, rfl⟩ isSubtype_stop (wpAny_pure (hQ _ fun b u hb e => ?_)))
  have e2 := Heap.get?_push_of_some { cls := .type "tuple", data := .seq #[] 0 } (k1 b u hb e)
  rw [Heap.get?_update_other _ _ (Nat.ne_of_gt (Heap.lt_size e2))]
  exact Heap.get?_push_of_some _ e2
end
end VS
namespace VS
open PySem PySem.Spec PyProof.Rows L2
section
variable {prog : Program} {w : World} {A : Around} {E : Value → Shared → Prop} {s : Shared}
theorem walks_hot {x1 I ax : Addr} (hh : A.handled = some (.ref x1)) (hne : ax ≠ I) (its : Array Value) :
    Walks prog w A I [I, ax, x1] [I] its.size (fun i v => its[i]? = some v) (fun i h => h.IsListIter I ax i ∧ h.IsList ax its ∧ HotX.HotAt A x1 h) where
  sub := fun b hb => by
    rw [List.mem_singleton] at hb
    rw [hb]
    exact List.mem_cons_self
  frame := fun i h h' st hk => by
    obtain ⟨s1, s2, s3, o1, v1, e1, d1⟩ := st
    exact ⟨s1.at fun o e => hk I (by simp) o e, s2.at fun o e => hk ax (by simp) o e, s3, o1, v1, hk x1 (by simp) _ e1, d1⟩
  item := fun i s Q E hi st hQ => by
    have n1 := hot_ne st.2.2 st.1
    obtain ⟨s1, s2, s3, o1, v1, e1, d1⟩ := st
    refine wpAny_pyNext_list_item s1 s2 (x := its[i]) (by simp [hi]) fun h' it' sb => ?_
    exact hQ _ h' s.toks (by simp [hi]) ⟨it', s2.extBut sb.extBut hne, s3, o1, v1, sb.extBut _ _ n1 e1, d1⟩ fun b o hb e => sb.extBut b o (fun z => hb (by simp [z])) e
  done := fun s Q E st hQ => list_end_hot st.2.2 st.1 st.2.1 (by simp) fun h' k => hQ h' s.toks fun b o hb e => k b o (fun z => hb (by simp [z])) e
  self := fun _ _ _ _ st hQ => wpAny_pyIter_listiter st.1 hQ
end
end VS

set_option Elab.async false
set_option linter.all false
set_option maxRecDepth 100000
set_option maxHeartbeats 4000000
set_option autoImplicit false
/-! VX1: sum of truths, isinstance of a handled exception, defs called there, raise, try. -/
noncomputable section
namespace VS
open PySem PySem.Spec PyProof.Rows L2
section
variable {X : Cx} {W : WX} {K : PySem.W.Frag} {mg : Str → Option Value} {F H H1 : Hp} {T L : List (D × V)} {ρ ρ' : Env} {σ σ' σ'' : St} {m : Bool} {asg a1 a2 : List Nat}
/-! ### sum of truths -/
def b2I (b : Bool) : Int := if b = true then 1 else 0
theorem preSum_bls (bs : List Bool) : ∀ n, n ≤ bs.length → preSum (fun i => b2I (bs.getD i false)) n = ((bs.take n).map b2I).sum
  | 0, _ => rfl
  | n + 1, h => by
    rw [preSum, preSum_bls bs n (by omega), List.take_add_one, List.map_append, List.sum_append, List.getElem?_eq_getElem (by omega)]
    simp [List.getD, List.getElem?_eq_getElem (show n < bs.length by omega)]
theorem bls_num : ∀ {bs : List Bool} {its : List Value}, Vals (bs.map V.bl) its → its.length = bs.length ∧ ∀ i v, its[i]? = some v → NumOf (b2I (bs.getD i false)) v
  | [], _, .nil => ⟨rfl, fun i v h => by simp at h⟩
  | b :: bs, _, .cons r t => by
    obtain ⟨l, k⟩ := bls_num t
    refine ⟨by simp [l], fun i v h => ?_⟩
    cases i with
    | zero =>
      simp at h
      subst h
      exact .inr ⟨b, r, rfl⟩
    | succ i =>
      have := k i v (by simpa using h)
      simpa using this
def rSumB (K : PySem.W.Frag) : List V → Hp → VK → Prop := fun xs H Q => ∃ (a : Addr) (bs : List Bool), xs = [.ref a] ∧ SqL K H a (bs.map V.bl) ∧ Q (.int (bs.map b2I).sum) H
theorem sumB_of {pins : List (Addr × Obj)} {s : Shared} {Q : VK} {a : Addr} {bs : List Bool} {its : List Value} {fp : List Addr} {St : Nat → Heap → Prop} (I : Inv X pins σ H s) (rv : Vals (bs.map V.bl) its) (hl : s.heap.IsList a its.toArray)
    (Wk : Walks X.prog X.w X.A.in1 s.heap.objs.size fp [s.heap.objs.size] its.toArray.size (fun i v => its.toArray[i]? = some v) St) (h0 : St 0 (s.heap.push { cls := .type "list_iterator", data := .fields #[.ref a, .int 0 0] }))
    (hfp : ∀ b ∈ fp, b < s.heap.objs.size + 1) (q : Q (.int (bs.map b2I).sum) H) : wpAny (model X.prog X.w) X.A (call (.builtin "sum") [.ref a]) (EP X pins σ Q) X.xe s := by
  obtain ⟨l, k⟩ := bls_num rv
  refine call_sum_walkAnyB (wpAny_pyIter_list hl ⟨_, fp, _, _, its.toArray.size, _, _, fun i => b2I (bs.getD i false), rfl, Wk.toS, h0, fun b hb => by rw [Heap.size_push]; exact hfp b hb, fun i v hv => k i v (by simpa using hv), fun s' t' mv => ?_⟩)
  obtain ⟨h', tk, rfl, hk⟩ := PySem.W.moved_old rfl rfl mv
  have e : preSum (fun i => b2I (bs.getD i false)) its.toArray.size = (bs.map b2I).sum := by
    rw [preSum_bls bs _ (by simp [l]), List.take_of_length_le (by simp [l])]
  exact ⟨.int _, H, I.kept hk, ⟨t', by rw [e]⟩, q⟩
theorem cr_sumB (hc : X.calm = true) : CallR X (.builtin "sum") (rSumB X.K) := by
  intro pins s σ H vs us Q I r h
  obtain ⟨a, bs, rfl, hs, q⟩ := h
  obtain ⟨its, rv, hl, _⟩ := I.list hs
  rw [Vals.ref1 r]
  have hlt : a < s.heap.objs.size := by obtain ⟨_, e, _⟩ := hl.isList; exact Heap.lt_size e
  refine sumB_of I rv hl.isList (Walks.list (A := X.A.in1) (I.ok.hd hc) _ a (Nat.ne_of_lt hlt) _) ⟨⟨_, Heap.get?_push_size _ rfl, rfl, rfl⟩, hl.isList.push _⟩ (fun b hb => ?_) q
  rcases List.mem_cons.mp hb with rfl | hb
  · exact Nat.lt_succ_self _
  · rw [List.mem_singleton] at hb
    rw [hb]
    exact Nat.lt_succ_of_lt hlt
theorem cr_sumBH (hc : L2H.HotC X) : CallR X (.builtin "sum") (rSumB X.K) := by
  intro pins s σ H vs us Q I r h
  obtain ⟨a, bs, rfl, hs, q⟩ := h
  obtain ⟨its, rv, hl, _⟩ := I.list hs
  rw [Vals.ref1 r]
  obtain ⟨x1, hot⟩ := hc.at I
  have hlt : a < s.heap.objs.size := by obtain ⟨_, e, _⟩ := hl.isList; exact Heap.lt_size e
  have hx : x1 < s.heap.objs.size := by obtain ⟨_, _, _, e, _⟩ := hot; exact Heap.lt_size e
  obtain ⟨hh, o1, v1, e1, d1⟩ := hot
  refine sumB_of I rv hl.isList (walks_hot (A := X.A.in1) (x1 := x1) hh (Nat.ne_of_lt hlt) _) ⟨⟨_, Heap.get?_push_size _ rfl, rfl, rfl⟩, hl.isList.push _, hh, o1, v1, Heap.get?_push_of_some _ e1, d1⟩ (fun b hb => ?_) q
  rcases List.mem_cons.mp hb with rfl | hb
  · exact Nat.lt_succ_self _
  · rcases List.mem_cons.mp hb with rfl | hb
    · exact Nat.lt_succ_of_lt hlt
    · rw [List.mem_singleton] at hb
      rw [hb]
      exact Nat.lt_succ_of_lt hx
def gSumB (ds : List D) : Option D := match ds with
  | [x] => (lstOf x).bind fun xs => (allB xs).map fun bs => .int (bs.map b2I).sum
  | _ => none
theorem sSumB : ImpS K (rSumB K) gSumB := by
  intro H L ds vs d Q e l r h
  unfold gSumB at e
  split at e
  · rename_i x
    obtain ⟨xs, e1, e2⟩ := Option.bind_eq_some_iff.mp e
    obtain ⟨bs, e3, rfl⟩ := Option.map_eq_some_iff.mp e2
    obtain ⟨v, rfl⟩ := len1 l
    have r1 : RepT K H ((x, v) :: L) := r
    obtain ⟨a, ws, rfl, sq, l2, r2⟩ := r1.list e1
    rw [allB_eq e3] at l2 r2
    have := zip_bl (by rw [← l2, List.length_map]) r2
    subst this
    exact ⟨a, bs, rfl, sq, h _ rfl⟩
  · cases e
/-- sum of ints or of truths -/
def gSumA (ds : List D) : Option D := match gSum ds with
  | some d => some d
  | none => gSumB ds
theorem cr_sumA (hc : X.calm = true) : CallR X (.builtin "sum") (fun xs H Q => rSum X.K xs H Q ∨ rSumB X.K xs H Q) := CallR.orr (cr_sum hc) (cr_sumB hc)
theorem sSumA : ImpS K (fun xs H Q => rSum K xs H Q ∨ rSumB K xs H Q) gSumA := by
  intro H L ds vs d Q e l r h
  unfold gSumA at e
  split at e
  · rename_i d' e1
    cases e
    exact .inl (sSum H L ds vs _ Q e1 l r h)
  · exact .inr (sSumB H L ds vs d Q e l r h)
end
end VS

set_option Elab.async false
set_option linter.all false
set_option maxRecDepth 100000
set_option maxHeartbeats 4000000
set_option autoImplicit false
/-! VX2: isinstance of the handled exception; defs that are called while it is handled. -/
noncomputable section
namespace VS
open PySem PySem.Spec PyProof.Rows L2
section
variable {X : Cx} {W : WX} {K : PySem.W.Frag} {mg : Str → Option Value} {F H H1 : Hp} {T L : List (D × V)} {ρ ρ' : Env} {σ σ' σ'' : St} {m : Bool} {asg a1 a2 : List Nat}
/-- a class of the program over ValueError, without an __init__ of its own -/
structure ExcF (K : PySem.W.Frag) (mg : Str → Option Value) (x : Str) : Prop where
  ex : ∃ C, mg x = some (.ref C) ∧ PySem.W.nsIn K mainGlobals x = some (some (.ref C)) ∧ PySem.W.excIn K C [.type "ValueError", .type "Exception", .type "BaseException", .type "object"] "ValueError.__new__" = true ∧ PySem.W.keepIn K (.ref C) = true ∧
    PySem.W.subIn K (.ref C) (.type "BaseException") = some true ∧ PySem.W.typeIn K (.ref C) = some (.type "type") ∧ ExcC K C
/-- the object p is an exception of the class named c, without attributes, its context None -/
structure OfC (K : PySem.W.Frag) (mg : Str → Option Value) (c : Str) (p : Addr × Obj) : Prop where
  ex : ∃ C, mg c = some (.ref C) ∧ ExcC K C ∧ p.2.cls = .ref C ∧ p.2.dict = none ∧ ∃ vs, p.2.data = .fields vs ∧ vs[2]? = some .none
/-- the value of a class's name -/
def ClsOf (mg : Str → Option Value) (T : Str) (u : Value) : Prop := mg T = some u ∨ (mg T = none ∧ bootBuiltins T = some u)
/-- what isinstance tells, by the names of the classes -/
abbrev Tab := List (Str × Str × Bool)
def tabL : Tab → Str → Str → Option Bool
  | [], _, _ => none
  | (c, t, b) :: r, c', t' => if c = c' ∧ t = t' then some b else tabL r c' t'
def TabOk (K : PySem.W.Frag) (mg : Str → Option Value) (tab : Tab) : Prop := ∀ e ∈ tab, ∀ C, mg e.1 = some (.ref C) → ∃ u, ClsOf mg e.2.1 u ∧ PySem.W.kitOne K (.ref C) u = some e.2.2
theorem tabL_mem : ∀ {tab : Tab} {c t : Str} {b : Bool}, tabL tab c t = some b → (c, t, b) ∈ tab
  | [], _, _, _, h => by cases h
  | (c, t, b) :: r, c', t', b', h => by
    rw [tabL] at h
    split at h
    · rename_i z
      obtain ⟨rfl, rfl⟩ := z
      cases h
      exact List.mem_cons_self
    · exact List.mem_cons_of_mem _ (tabL_mem h)
theorem ClsOf.eq {T : Str} {u u' : Value} (h : ClsOf mg T u) (h' : ClsOf mg T u') : u = u' := by
  rcases h with h | ⟨h, k⟩
  · rcases h' with h' | ⟨h', _⟩
    · rw [h] at h'; exact Option.some.inj h'
    · rw [h] at h'; cases h'
  · rcases h' with h' | ⟨h', k'⟩
    · rw [h] at h'; cases h'
    · rw [k] at k'; exact Option.some.inj k'
theorem TabOk.one {tab : Tab} (ok : TabOk K mg tab) {c t : Str} {b : Bool} {C : Addr} {u : Value} (h : tabL tab c t = some b) (hC : mg c = some (.ref C)) (hu : ClsOf mg t u) : PySem.W.kitOne K (.ref C) u = some b := by
  obtain ⟨u', h1, h2⟩ := ok _ (tabL_mem h) C hC
  rw [hu.eq h1]
  exact h2
def tabAny (tab : Tab) (c : Str) : List Str → Option Bool
  | [] => some false
  | t :: r => match tabL tab c t with
    | some true => some true
    | some false => tabAny tab c r
    | none => none
theorem TabOk.any {tab : Tab} (ok : TabOk K mg tab) {c : Str} {C : Addr} (hC : mg c = some (.ref C)) : ∀ {ts : List Str} {us : List Value} {b : Bool}, tabAny tab c ts = some b → Paired (ClsOf mg) ts us → PySem.W.kitAny K (.ref C) us = some b
  | [], _, b, h, .nil => h
  | t :: ts, _, b, h, .cons q r => by
    rw [tabAny] at h
    cases e : tabL tab c t with
    | none => rw [e] at h; cases h
    | some k =>
      rw [e] at h
      refine kitAny_cons (ok.one e hC q) (fun z => ?_) fun z => ?_
      · subst z; exact ok.any hC h r
      · subst z; exact (Option.some.inj h).symm
/-- an expression that names a class -/
structure CE (X : Cx) (e : Expr) (t : Str) : Prop where
  ex : ∃ cv u, PE X e (tC cv) ∧ ClsV cv u ∧ ClsOf X.mg t u
theorem ce_own {t : Str} {C : Addr} {pos : Pos} (hm : X.mg t = some (.ref C)) (hg : Gl X t) (hd : (t == ("__debug__" : Str)) = false := by decide) : CE X (.Name t pos) t := ⟨.ref C, .ref C, pe_glob hg hm rfl hd, .own C, .inl hm⟩
theorem ce_blt {t : Str} {n : String} {pos : Pos} (hm : X.mg t = none) (hv : bootBuiltins t = some (.type n)) (hg : Gl X t) (hn : t ≠ "__name__" := by decide) (hd : (t == ("__debug__" : Str)) = false := by decide) : CE X (.Name t pos) t := ⟨.ty n, .type n, pe_bltn hg hm hv rfl hn hd, .ty n, .inr ⟨hm, hv⟩⟩
def rIsX (K : PySem.W.Frag) (D a : Addr) : List V → Hp → VK → Prop := fun xs H Q => ∃ (c : V) (u : Value) (b : Bool), xs = [.ref a, c] ∧ ClsV c u ∧ PySem.W.kitOne K (.ref D) u = some b ∧ Q (.bl b) H
def rIsXT (K : PySem.W.Frag) (D a : Addr) : List V → Hp → VK → Prop := fun xs H Q => ∃ (tp : Addr) (cs : List V) (us : List Value) (b : Bool), xs = [.ref a, .ref tp] ∧ H tp = some (.tup cs) ∧ Paired ClsV cs us ∧ PySem.W.kitAny K (.ref D) us = some b ∧ Q (.bl b) H
theorem inst_of {D : Addr} {oe : Obj} {h : Heap} {a : Addr} (hc : oe.cls = .ref D) (hd : oe.dict = none) (hf : ∃ vs, oe.data = .fields vs) (hget : h.get? a = some oe) : PySem.W.InstAt h a oe D none := by
  obtain ⟨vs, hv⟩ := hf
  obtain ⟨oc, od, oda, osl⟩ := oe
  dsimp only at hc hd hv
  subst hc hd hv
  exact ⟨hget, rfl, rfl, trivial⟩
theorem call_isX {a D : Addr} {oe : Obj} (hp : (a, oe) ∈ X.pn) (C : ExcC X.K D) (hc : oe.cls = .ref D) (hd : oe.dict = none) (hf : ∃ vs, oe.data = .fields vs) : CallR X (.builtin "isinstance") (rIsX X.K D a) := by
  intro pins s σ H xs us Q I r h
  obtain ⟨c, u, b, rfl, k, e, q⟩ := h
  cases r with
  | cons rx rr =>
    cases rr with
    | cons rt rr =>
      cases rr
      cases rx
      cases k.eq rt
      exact PySem.W.kia_one (PySem.W.handS_kitx_exc C.hg C.hk C.hs C.hd C.ha C.hn C.ht C.hm) I.kIn (inst_of hc hd hf (I.pin (a, oe) (List.mem_append_left _ hp)).1) e (fun z => nomatch z) fun tk => ⟨.bl b, H, I.tok tk, rfl, q⟩
theorem call_isXT {a D : Addr} {oe : Obj} (hp : (a, oe) ∈ X.pn) (C : ExcC X.K D) (hc : oe.cls = .ref D) (hd : oe.dict = none) (hf : ∃ vs, oe.data = .fields vs) : CallR X (.builtin "isinstance") (rIsXT X.K D a) := by
  intro pins s σ H xs us Q I r h
  obtain ⟨tp, cs, ws, b, rfl, hT, k, e, q⟩ := h
  cases r with
  | cons rx rr =>
    cases rr with
    | cons rt rr =>
      cases rr
      cases rx
      cases rt
      obtain ⟨_, its, rv, o, h1, h2, n, h3⟩ := (show ObjOk X.prog X.w H s.heap tp (.tup cs) from I.hok tp _ hT)
      cases ClsV.all k rv
      obtain ⟨oc, od, dt, sl⟩ := o
      dsimp only at h2 h3
      subst h2 h3
      exact PySem.W.kia_tup (PySem.W.handS_kitx_exc C.hg C.hk C.hs C.hd C.ha C.hn C.ht C.hm) I.kIn (inst_of hc hd hf (I.pin (a, oe) (List.mem_append_left _ hp)).1) h1 e (fun z => nomatch z) fun tk => ⟨.bl b, H, I.tok tk, rfl, q⟩
def isxD (a : Addr) (tab : Tab) (c : Str) (ts : List Str) (d : D) : Option D := match d with
  | .adr a' => if a' = a then (tabAny tab c ts).map D.bl else none
  | _ => none
def dIsx (a : Addr) (tab : Tab) (c : Str) (ts : List Str) (f : M D) : M D := bindM f fun d => optM (isxD a tab c ts d)
theorem isxD_inv {a : Addr} {tab : Tab} {c : Str} {ts : List Str} {d x : D} (h : isxD a tab c ts d = some x) : d = .adr a ∧ ∃ b, tabAny tab c ts = some b ∧ x = .bl b := by
  unfold isxD at h
  split at h
  · split at h
    · rename_i z
      obtain ⟨b, e, rfl⟩ := Option.map_eq_some_iff.mp h
      exact ⟨by rw [z], b, e, rfl⟩
    · cases h
  · cases h
theorem ve_isx1 {a : Addr} {oe : Obj} {tab : Tab} {c t : Str} {e ct : Expr} {f : M D} {p pos : Pos} (hp : (a, oe) ∈ X.pn) (ho : OfC X.K X.mg c (a, oe)) (ok : TabOk X.K X.mg tab) (hg : Gl X "isinstance") (hm : X.mg "isinstance" = none) (he : VE X W m e f) (hc : CE X ct t)
    (hs1 : starEach [ct] X.env = (false, eval ct X.env) :: starEach [] X.env := by rfl) (hs : starEach [e, ct] X.env = (false, eval e X.env) :: starEach [ct] X.env := by rfl) (hpl : (backTo pos (starEach [ct] X.env)).any (·.1) = false := by rfl) : VE X W m (.Call (.Name "isinstance" p) [e, ct] [] pos) (dIsx a tab c [t] f) := by
  obtain ⟨C, hC, xc, o1, o2, vs, o3, _⟩ := ho.ex
  obtain ⟨cv, u, pc, kc, ku⟩ := hc.ex
  refine PE.imp (pe_callB (call_isX hp xc o1 o2 ⟨vs, o3⟩) hg hm (by decide +kernel) (pa_cons he (pa_cons pc pa_nil hs1) hs) (by decide) (by decide) hs hpl) fun σ H Q ⟨T, ρ, w, rep, hf, hend⟩ => ?_
  refine run1 rep hf hend fun d ρ1 v H1 h1 s1 r1 => ?_
  obtain ⟨x, ex, rfl⟩ := optM_some h1
  obtain ⟨rfl, b, eb, rfl⟩ := isxD_inv ex
  have ev := RepT.eq_adr r1.rep
  subst ev
  refine ⟨cv, u, b, rfl, kc, ?_, hend _ H1 s1 (r1.drop.lift fun q => q.bl)⟩
  rw [tabAny] at eb
  cases e1 : tabL tab c t with
  | none => rw [e1] at eb; cases eb
  | some k =>
    rw [e1] at eb
    rw [ok.one e1 hC ku]
    cases k
    · exact eb
    · exact eb
/-- expressions that name classes -/
structure CEs (X : Cx) (es : List Expr) (ts : List Str) : Prop where
  ex : ∃ cvs us t, PA X es t ∧ (∀ σ H Q, Q cvs H → t σ H Q) ∧ Paired ClsV cvs us ∧ Paired (ClsOf X.mg) ts us ∧ cvs.length = ts.length
theorem ces_nil : CEs X [] [] := ⟨[], [], tNil, pa_nil, fun _ _ _ h => h, .nil, .nil, rfl⟩
theorem ces_cons {e : Expr} {es : List Expr} {t : Str} {ts : List Str} (h : CE X e t) (hs : CEs X es ts) (he : starEach (e :: es) X.env = (false, eval e X.env) :: starEach es X.env := by rfl) : CEs X (e :: es) (t :: ts) := by
  obtain ⟨cv, u, pc, kc, ku⟩ := h.ex
  obtain ⟨cvs, us, tr, p, q, k1, k2, l⟩ := hs.ex
  exact ⟨cv :: cvs, u :: us, _, pa_cons pc p he, fun σ H Q h => q σ H _ h, .cons kc k1, .cons ku k2, by simp [l]⟩
theorem ve_isxN {a : Addr} {oe : Obj} {tab : Tab} {c : Str} {ts : List Str} {e : Expr} {es : List Expr} {k : Nat} {f : M D} {p pos tpos : Pos} (hp : (a, oe) ∈ X.pn) (ho : OfC X.K X.mg c (a, oe)) (ok : TabOk X.K X.mg tab) (hg : Gl X "isinstance") (hm : X.mg "isinstance" = none) (he : VE X W m e f) (hc : CEs X es ts) (hl : ts.length ≤ sizeLine := by decide)
    (hs1 : starEach [.Tuple es k tpos] X.env = (false, eval (.Tuple es k tpos) X.env) :: starEach [] X.env := by rfl) (hs : starEach [e, .Tuple es k tpos] X.env = (false, eval e X.env) :: starEach [.Tuple es k tpos] X.env := by rfl) (hpl : (backTo pos (starEach [.Tuple es k tpos] X.env)).any (·.1) = false := by rfl) : VE X W m (.Call (.Name "isinstance" p) [e, .Tuple es k tpos] [] pos) (dIsx a tab c ts f) := by
  obtain ⟨C, hC, xc, o1, o2, vs, o3, _⟩ := ho.ex
  obtain ⟨cvs, us, tr, pc, qc, k1, k2, l⟩ := hc.ex
  refine PE.imp (pe_callB (call_isXT hp xc o1 o2 ⟨vs, o3⟩) hg hm (by decide +kernel) (pa_cons he (pa_cons (pe_tup pc) pa_nil hs1) hs) (by decide) (by decide) hs hpl) fun σ H Q ⟨T, ρ, w, rep, hf, hend⟩ => ?_
  refine run1 rep hf hend fun d ρ1 v H1 h1 s1 r1 => ?_
  obtain ⟨x, ex, rfl⟩ := optM_some h1
  obtain ⟨rfl, b, eb, rfl⟩ := isxD_inv ex
  have ev := RepT.eq_adr r1.rep
  subst ev
  refine qc _ _ _ ⟨by rw [l]; exact hl, fun tp htp => ?_⟩
  have r2 : RepT X.K (upd H1 tp (.tup cvs)) ((.adr a, .ref a) :: (T ++ SL ρ1 σ)) := RepT.grow htp r1.rep
  exact ⟨tp, cvs, us, b, rfl, upd_same, k1, ok.any hC eb k2, hend _ _ (sm_r s1 (Same.upd htp)) ⟨r1.len, r1.nos, RepT.bl r2.drop⟩⟩
/-! ### defs called while an exception is handled, which is handed to them -/
structure FnE (P : Program) (w : World) (K : PySem.W.Frag) (mg : Str → Option Value) (base : Heap) (CX : CXT) (k : Nat) (f : Addr) (fd : FuncData) (ps : List Str) (sp : Addr × Obj → Sp) : Prop where
  len : ∀ p vs H Q E, sp p vs H Q E → vs.length = ps.length
  run : ∀ (p : Addr × Obj) (A : Around) (outer : List PySem.Env) (s : Shared) (H : Hp) (args : Args) (us : List Value) (vs : List V) (Q : VK) (E : XK), L2H.RoomH k A → L2H.Hot1 A p → L2H.PinOk outer H s p → Env0 P w K mg base A outer s H → BindsTo s fd args (ps.zip us) → Vals vs us → sp p vs H Q E →
    codeAny (model P w) A (.call (.ref f) args) (CR CX outer P w H s Q E) s
theorem fnE_of {CX : CXT} {P : Program} {w : World} {base : Heap} {k : Nat} {x qual : Str} {st : Stmt} {f : Addr} {fd : FuncData} {N ps : List Str} {sp : Addr × Obj → Sp} (F : Fun K x qual st f fd) (S : FnScope N ps (defScope st)) (len : ∀ p vs H Q E, sp p vs H Q E → vs.length = ps.length)
    (hbody : ∀ (cdv : Value) (A : Around) (outer : List PySem.Env) (s : Shared) (H : Hp) (vs : List V) (Q : VK) (E : XK) (p : Addr × Obj), L2H.Hot1 A p → L2H.RoomH k (A.deeper (envOfC qual (defScope st) s.heap.objs.size f cdv)) → sp p vs H Q E →
      ∃ t, PSs (L2H.cxH CX P w K mg base N qual (defScope st) f cdv A outer s H E p) (defBody st) t ∧ t { nx := fun _ H' => Q .non H', rt := Q } (L2.start N vs) H) :
    FnE P w K mg base CX (k + 1) f fd ps sp := by
  obtain ⟨oc, od, kV, doc, pm, an, cdv, ct, osl, rfl, lk, hcd⟩ := F.ex
  refine ⟨len, fun p A outer s H args us vs Q E hr hot hpin e0 hb r hsp => ?_⟩
  have hl := len _ _ _ _ _ hsp
  have kin : K.In s.heap := e0.mod.kin.keeps fun b o e => (e0.bs b o e).1
  have lim := e0.mod.nolimit.keeps fun b o e => (e0.bs b o e).1
  refine codeAny_call_function hr.depth (kin _ _ lk) rfl S.co S.gen rfl (PySem.W.codeRec_of kin hcd) (hb _ _ _ _ (wpAny_newFunctionEnv_cells S.kind (fun ⟨n, v⟩ hy => ?_) fun env he s1 x => ?_))
  · rcases S.par n (List.of_mem_zip hy).1 with q | q
    · exact .inl q
    · exact .inr ⟨q, PySem.W.cellsFrom_some _ _ _ (.inl q)⟩
  · subst he
    obtain ⟨t, ht, hq⟩ := hbody cdv A outer s H vs Q E p hot (hr.deeper _) hsp
    have J := L2H.inv_startH (E := E) (CX := CX) S hpin e0 hl r x
    refine ⟨lim.keeps x.toInCall.keep, codeAny_func (wpAny_mono (ht.run [] s1 (L2.start N vs) H _ J hq) (fun fl s' hs => ?_) fun e s' hs => hs)⟩
    cases fl with
    | ret u =>
      obtain ⟨v, σ1, H', J1, rv, q⟩ := hs
      exact ⟨v, H', J1.os, J1.bare, J1.base, J1.hok, rv, q⟩
    | next =>
      obtain ⟨σ1, H', J1, q⟩ := hs
      exact ⟨.non, H', J1.os, J1.bare, J1.base, J1.hok, rfl, q⟩
    | brk => obtain ⟨_, _, _, q⟩ := hs; exact q.elim
    | cont => obtain ⟨_, _, _, q⟩ := hs; exact q.elim
theorem run_fnE {CX : CXT} {k : Nat} {f : Addr} {fd : FuncData} {ps : List Str} {sp : Addr × Obj → Sp} {E : St → XK} {pins : List (Addr × Obj)} {s : Shared} {Q : VK} {us : List Value} {vs : List V} {p : Addr × Obj} (F : FnE X.prog X.w X.K X.mg X.base CX k f fd ps sp) (hr : L2H.RoomH k X.A) (hot : L2H.Hot1 X.A p) (hp : p ∈ X.pn) (hb : Binds X.K fd ps []) (hx : PassesAt CX X σ (E σ))
    (I : Inv X pins σ H s) (r : Vals vs us) (h : sp p vs H Q (E σ)) : wpAny (model X.prog X.w) X.A (call (.ref f) us) (EP X pins σ Q) X.xe s := by
  have hl : us.length = ps.length := by rw [← r.length]; exact F.len _ _ _ _ _ h
  have b := hb s us I.kIn (by rw [List.append_nil]; exact hl)
  rw [List.append_nil] at b
  obtain ⟨p1, p2, p3, p4, p5⟩ := I.pin p (List.mem_append_left _ hp)
  refine wpAny_call (codeAny_mono (F.run p X.A X.stack s H ⟨us, []⟩ us vs Q (E σ) hr hot ⟨p1, p2, fun hm => (List.mem_cons.mp (I.stkSub p.1 hm)).elim p3 p4, p5⟩ I.env0 b r h) fun r s' hq => ?_)
  cases r with
  | error e => exact hx pins H s e s' I hq
  | ok fl =>
    cases fl with
    | ret u => exact I.after hq
    | next => exact hq.elim
    | brk => exact hq.elim
    | cont => exact hq.elim
/-- a def of the program that looks at the exception in hand: its denotation by that one's address and class -/
abbrev FnX := Addr → Str → FnD
def spX (K : PySem.W.Frag) (mg : Str → Option Value) (Fd : FnX) : Addr × Obj → Sp := fun p vs H Q E => ∃ c, OfC K mg c p ∧ spOf K mg (Fd p.1 c) vs H Q E
structure CalX (P : Program) (w : World) (K : PySem.W.Frag) (mg : Str → Option Value) (base : Heap) (k : Nat) (x : Str) (ps : List Str) (Fd : FnX) : Prop where
  ex : ∃ (fa : Addr) (fd : FuncData), FnE P w K mg base (L2N.CX P w) k fa fd ps (spX K mg Fd) ∧ mg x = some (.ref fa) ∧ PySem.W.keepIn K (.ref fa) = true ∧ Binds K fd ps []
theorem calX_mk {P : Program} {w : World} {base : Heap} {x : Str} {st : Stmt} {N ps : List Str} {k : Nat} {g : Addr → Str → MS} (D : Def K mg x st ps) (S : FnScope N ps (defScope st))
    (hbody : ∀ (f : Addr) (cdv : Value) (A : Around) (outer : List PySem.Env) (s : Shared) (H : Hp) (E : XK) (a : Addr) (oe : Obj) (c : Str), OfC K mg c (a, oe) → L2H.Hot1 A (a, oe) → L2H.RoomH k (A.deeper (envOfC x (defScope st) s.heap.objs.size f cdv)) →
      VSs (L2H.cxH (L2N.CX P w) P w K mg base N x (defScope st) f cdv A outer s H E (a, oe)) (fun cls d _ H => E cls d H) asg (defBody st) (g a c)) :
    CalX P w K mg base (k + 1) x ps (fun a c => fnD N.length ps.length asg (g a c)) := by
  obtain ⟨f, fd, F, hm, hb⟩ := D.ex
  refine ⟨f, fd, fnE_of F S (fun p vs H Q E ⟨c, _, h⟩ => ?_) (fun cdv A outer s H vs Q E p hot hr ⟨c, hc, h⟩ => ?_), hm, F.kp, hb⟩
  · obtain ⟨L, as, o, l, _, hf, _⟩ := h
    have hf : fnD N.length ps.length asg (g p.1 c) as = some o := hf
    unfold fnD at hf
    by_cases z : as.length = ps.length ∧ ps.length ≤ N.length
    · rw [← l]; exact z.1
    · rw [if_neg z] at hf; cases hf
  · obtain ⟨a, oe⟩ := p
    exact ⟨_, hbody f cdv A outer s H E a oe c hc hot hr, body_sp (X := L2H.cxH (L2N.CX P w) P w K mg base N x (defScope st) f cdv A outer s H E (a, oe)) h⟩
/-- its call, in the suite -/
theorem ve_fnX {ks : List (Option Nat)} {Fd : FnX} {f : M (List D)} {k : Nat} {ps : List Str} {x c : Str} {a : Addr} {oe : Obj} {e : Expr} {es : List Expr} {p pos : Pos} (C : CalX X.prog X.w X.K X.mg X.base k x ps Fd) (hr : L2H.RoomH k X.A) (hot : L2H.Hot1 X.A (a, oe)) (hp : (a, oe) ∈ X.pn) (ho : OfC X.K X.mg c (a, oe)) (hg : Gl X x) (tk : L2N.Takes X W) (ha : VIO X W m ks (e :: es) f) (hdb : (x == ("__debug__" : Str)) = false := by decide)
    (he : starEach (e :: es) X.env = (false, eval e X.env) :: starEach es X.env := by rfl) (hpl : (backTo pos (starEach es X.env)).any (·.1) = false := by rfl) : VE X W true (.Call (.Name x p) (e :: es) [] pos) (dFn ks (Fd a c) f) := by
  obtain ⟨fa, fd, G, h1, h2, h3⟩ := C.ex
  have pe : PE X (.Call (.Name x p) (e :: es) [] pos) (tCallS (spX X.K X.mg Fd (a, oe)) (WE W) (taIO X.K X.mg W m ks f)) := ⟨fun pins s σ H Q I h => by
    refine wpAny_Call_Name_kw (ld_glob I hg h1 ?_ hdb)
    refine PySem.W.callWith_K (h₀ := X.base) I.ok.mod.kin h2 (thn (ha.run pos pins s σ H _ I h) fun us s1 ⟨vs, H1, I1, r, q⟩ => ⟨I1.kIn, ?_⟩) he hpl
    exact run_fnE G hr hot hp h3 (L2N.passAt tk σ) I1 r q⟩
  refine PE.imp pe fun σ H Q h => ?_
  obtain ⟨T0, ρ0, r0, rep0, e0, k0⟩ := tFn_of h
  refine ⟨T0, ρ0, r0, rep0, e0, ?_⟩
  cases r0 with
  | ex x ρ1 => exact k0
  | ok ds ρ1 => exact fun tv vs H1 s1 l1 io r1 => ⟨c, ho, k0 tv vs H1 s1 l1 io r1⟩
end
end VS

set_option Elab.async false
set_option linter.all false
set_option maxRecDepth 100000
set_option maxHeartbeats 4000000
set_option autoImplicit false
/-! VX3: raise, try. -/
noncomputable section
namespace VS
open PySem PySem.Spec PyProof.Rows L2
section
variable {X : Cx} {W : WX} {K : PySem.W.Frag} {mg : Str → Option Value} {F H H1 : Hp} {T L : List (D × V)} {ρ ρ' : Env} {σ σ' σ'' : St} {m : Bool} {asg a1 a2 : List Nat}
/-! ### room, in a hot def -/
theorem hu_ofH {k : Nat} {A : Around} (r : L2H.RoomH k A) : A.units + 1 < cLine := by have := r.un; omega
theorem room65H {k : Nat} {A : Around} (r : L2H.RoomH k A) : A.units + 65 < cLine := by have := r.un; omega
theorem unitsH {k : Nat} {A : Around} (r : L2H.RoomH k A) : A.units + 64 < cLine := by have := r.un; omega
theorem roomS {j k : Nat} {A : Around} {v : Option Value} (r : Room k A) (h : j ≤ k) : L2H.RoomH j (A.mark v) := by
  have q := L2H.RoomH.mono (L2H.roomH_of r) h
  exact ⟨q.dp, q.un⟩
theorem kit_own {c T : Addr} {b : Bool} (hd : PySem.W.hasDictIn K T = true) (ht : PySem.W.typeIn K (.ref T) = some (.type "type")) (hs : PySem.W.subIn K (.ref c) (.ref T) = some b) (hn : b = true ∨ (Value.ref c == Value.ref T) = false) : PySem.W.kitOne K (.ref c) (.ref T) = some b := by
  unfold PySem.W.kitOne
  by_cases h : (Value.ref c == Value.ref T) = true
  · rw [if_pos h]
    rcases hn with hn | hn
    · rw [hn]
    · rw [hn] at h; cases h
  · rw [if_neg h]
    obtain ⟨cd, hc, _⟩ := PySem.W.any_some hd
    have e2 : ((PySem.W.clsIn K T).isSome && PySem.W.typeIn K (.ref T) == some (.type "type")) = true := by rw [hc, ht]; rfl
    show (if ((PySem.W.clsIn K T).isSome && PySem.W.typeIn K (.ref T) == some (.type "type")) = true then PySem.W.subIn K (.ref c) (.ref T) else none) = some b
    rw [if_pos e2]
    exact hs
theorem kit_blt {c : Addr} {T : String} {b : Bool} (hk : PySem.W.kitMeta T = true) (hs : PySem.W.subIn K (.ref c) (.type T) = some b) : PySem.W.kitOne K (.ref c) (.type T) = some b := by
  unfold PySem.W.kitOne
  rw [if_neg (show ¬ ((Value.ref c == Value.type T) = true) from Bool.false_ne_true)]
  show (if PySem.W.kitMeta T = true then PySem.W.subIn K (.ref c) (.type T) else none) = some b
  rw [if_pos hk]
  exact hs
theorem b_ValueError : bootBuiltins "ValueError" = some (.type "ValueError") := by decide +kernel
/-! ### raise X('..') -/
def dRaise (c : Str) : MS := fun ρ => some (.ex ⟨c, none⟩, ρ)
theorem vs_raise {x z : Str} {j : Nat} {p p2 p3 pos : Pos} (hc : X.calm = true) (tk : L2N.Takes X W) (F : ExcF X.K X.mg x) (hg : Gl X x) (hdb : (x == ("__debug__" : Str)) = false := by decide) : VSt X W [] (.Raise (some (.Call (.Name x p) [.Constant (.str z) j p2] [] p3)) none pos) (dRaise x) := by
  obtain ⟨C, gC, _, q, kp, sb, ty, _⟩ := F.ex
  refine PS.imp (L2N.ps_raise hc tk (L2N.pmk_own PySem.F.excBase_ValueError q gC kp (raises_own sb ty) hg hdb)) fun σ H E ⟨T, ρ, fl, ρ', rep, hf, he⟩ => ?_
  have e : (Fl.ex ⟨x, none⟩, ρ) = (fl, ρ') := Option.some.inj hf
  cases e
  exact he (.ref C) none σ H Kept.refl ⟨C, rfl, gC, rfl⟩ rep
/-! ### try: .. except X as n: .. -/
def notEx : Fl → Prop
  | .ex _ => False
  | _ => True
/-- what a suite comes to, wherever the exception lies -/
def OnAll (i : Nat) (g : Addr → MS) (ρ : Env) (r : Fl × Env) : Prop := notEx r.1 ∧ ∀ a, ∃ ρ2, g a (ρ.set i (.adr a)) = some (r.1, ρ2) ∧ ρ2.set i .unk = r.2
theorem OnAll.eq {i : Nat} {g : Addr → MS} {r r' : Fl × Env} (h : OnAll i g ρ r) (h' : OnAll i g ρ r') : r = r' := by
  obtain ⟨ρ2, e, k⟩ := h.2 0
  obtain ⟨ρ3, e', k'⟩ := h'.2 0
  rw [e] at e'
  injection e' with e'
  injection e' with e1 e2
  subst e2
  exact Prod.ext e1 (k.symm.trans k')
open Classical in
def onAll (i : Nat) (g : Addr → MS) : MS := fun ρ => if h : ∃ r, OnAll i g ρ r then some h.choose else none
theorem onAll_some {i : Nat} {g : Addr → MS} {r : Fl × Env} (h : onAll i g ρ = some r) : OnAll i g ρ r := by
  unfold onAll at h
  split at h
  · rename_i z
    rw [← Option.some.inj h]
    exact z.choose_spec
  · cases h
theorem onAll_of {i : Nat} {g : Addr → MS} {r : Fl × Env} (h : OnAll i g ρ r) : onAll i g ρ = some r := by
  unfold onAll
  have z : ∃ r, OnAll i g ρ r := ⟨r, h⟩
  rw [dif_pos z, z.choose_spec.eq h]
def dTry (i : Nat) (yes no : List Str) (body : MS) (suite : Addr → Str → MS) : MS := fun ρ => match body ρ with
  | some (.ex x, ρ1) => if x.p.isNone = true ∧ x.c ∈ yes then onAll i (fun a => suite a x.c) ρ1 else if x.c ∈ no then some (.ex x, ρ1) else none
  | r => r
theorem Rep.unset (h : Rep K H T ρ σ) (i : Nat) : Rep K H T (ρ.set i .unk) (σ.set i none) := by
  refine (h.forget i).other (by simp) fun j => ?_
  by_cases z : i = j
  · subst z
    by_cases hl : i < ρ.length
    · exact .inl (by rw [List.getElem?_set_self hl])
    · refine .inr ?_
      have hl2 : ¬ i < σ.length := by rw [← h.len]; exact hl
      rw [List.getElem?_eq_none (by rw [List.length_set]; omega), List.getElem?_eq_none (by omega)]
  · exact .inr (by rw [List.getElem?_set_ne z])
theorem Kept.tryS {i : Nat} {v : V} {σ1 σ2 : St} (h1 : Kept a1 σ σ1) (h2 : Kept a2 (σ1.set i (some v)) σ2) : Kept (a1 ++ ([i] ++ a2)) σ (σ2.set i none) := by
  refine ⟨by rw [List.length_set, h2.1, List.length_set, h1.1], fun j hj => ?_⟩
  rw [List.mem_append, not_or] at hj
  obtain ⟨j1, j2⟩ := hj
  rw [List.mem_append, not_or, List.mem_singleton] at j2
  rw [List.getElem?_set_ne (Ne.symm j2.1), h2.2 j j2.2, List.getElem?_set_ne (Ne.symm j2.1), h1.2 j j1]
theorem Kept.tryR {i : Nat} {v : V} {σ1 σ2 : St} (h1 : Kept a1 σ σ1) (h2 : Kept a2 (σ1.set i (some v)) σ2) : Kept (a1 ++ ([i] ++ a2)) σ σ2 := by
  refine ⟨by rw [h2.1, List.length_set, h1.1], fun j hj => ?_⟩
  rw [List.mem_append, not_or] at hj
  obtain ⟨j1, j2⟩ := hj
  rw [List.mem_append, not_or, List.mem_singleton] at j2
  rw [h2.2 j j2.2, List.getElem?_set_ne (Ne.symm j2.1), h1.2 j j1]
theorem Kept.left {σ1 : St} (h1 : Kept a1 σ σ1) : Kept (a1 ++ a2) σ σ1 := ⟨h1.1, fun j hj => h1.2 j fun z => hj (List.mem_append_left _ z)⟩
theorem vs_try {x n : Str} {cL : Value} {i : Nat} {body suite : List Stmt} {b0 : Stmt} {np pos pos' : Pos} {yes no : List Str} {gb : MS} {gs : Addr → Str → MS} (hs : X.stack = X.env :: X.outer) (hfr : X.env.frame = some X.env.locals) (nd : X.N.Nodup) (hi : X.N[i]? = some n) (hln : X.env.kindOf n = some .local) (hx : Names X x cL) (tk : L2N.Takes X W)
    (hyes : ∀ c ∈ yes, ∀ C, X.mg c = some (.ref C) → ExcC X.K C ∧ PySem.W.exmOne X.K (.ref C) cL = some true) (hno : ∀ c ∈ no, ∀ C, X.mg c = some (.ref C) → PySem.W.exmOne X.K (.ref C) cL = some false)
    (hb : ∀ (W' : WX) (pn : List (Addr × Obj)) (xe : Value → Shared → Prop), L2N.Takes (X.tr pn xe) W' → PassesOwn (model X.prog X.w) X.A X.env xe → VSs (X.tr pn xe) W' a1 body gb)
    (hsu : ∀ (a : Addr) (oe : Obj) (c : Str) (pn : List (Addr × Obj)), OfC X.K X.mg c (a, oe) → L2H.Hot1 (X.suite a ((a, oe) :: pn)).A (a, oe) → VSs (X.suite a ((a, oe) :: pn)) WF a2 (b0 :: suite) (gs a c)) :
    VSt X W (a1 ++ ([i] ++ a2)) (.Try body [.ExceptHandler (some (.Name x np)) (some n) (b0 :: suite) pos'] [] [] pos) (dTry i yes no gb gs) := by
  refine PS.imp (L2N.ps_try_as (tb := fun W' => tsOf X.K X.mg W' a1 gb) (ts := fun a cls d D σ H => ∃ c C, cls = .ref C ∧ X.mg c = some (.ref C) ∧ d = none ∧ ExcC X.K C ∧ tsOf X.K X.mg WF a2 (gs a c) D σ H) hs hfr nd hi hln hx tk hb ?_) ?_
  · intro a oe cls d pn zn hv
    refine ⟨fun pins s σ H D I ⟨c, C, e1, e2, e3, xc, h⟩ => ?_⟩
    obtain ⟨vs, hv⟩ := hv
    obtain ⟨z1, z2, z3⟩ := zn
    have cn := z3 vs hv
    exact (hsu a oe c pn ⟨C, e2, xc, z1.trans e1, z2.trans e3, vs, hv, cn⟩ ⟨rfl, vs, hv, cn⟩).run pins s σ H D I h
  · intro σ H E ⟨T, ρ, fl, ρ', rep, hf, he⟩
    unfold dTry at hf
    cases q : gb ρ with
    | none => rw [q] at hf; cases hf
    | some u =>
      obtain ⟨fb, ρ1⟩ := u
      rw [q] at hf
      refine ⟨T, ρ, fb, ρ1, rep, q, ?_⟩
      cases fb with
      | nx =>
        have e : (Fl.nx, ρ1) = (fl, ρ') := Option.some.inj hf
        cases e
        exact fun σ' H' k r => he σ' H' k.left r
      | bk =>
        have e : (Fl.bk, ρ1) = (fl, ρ') := Option.some.inj hf
        cases e
        exact fun σ' H' k r => he σ' H' k.left r
      | ct =>
        have e : (Fl.ct, ρ1) = (fl, ρ') := Option.some.inj hf
        cases e
        exact fun σ' H' k r => he σ' H' k.left r
      | rt d =>
        have e : (Fl.rt d, ρ1) = (fl, ρ') := Option.some.inj hf
        cases e
        exact fun v σ' H' k r => he v σ' H' k.left r
      | ex x =>
        intro cls dd σ1 H1 k1 xr r1
        obtain ⟨C, rfl, hm, hp⟩ := id xr
        simp only at hf
        split at hf
        · rename_i z
          obtain ⟨z1, z2⟩ := z
          have hp0 : x.p = none := Option.isNone_iff_eq_none.mp z1
          have hd : dd = none := by rw [hp0] at hp; exact hp
          obtain ⟨xc, ex⟩ := hyes _ z2 C hm
          obtain ⟨ne, al⟩ := onAll_some hf
          refine ⟨true, ex, fun _ a na => ?_, (fun q => by cases q)⟩
          obtain ⟨ρ2, e2, e3⟩ := al a
          simp only at e2 e3 ne
          have r2 : Rep X.K H1 T (ρ1.set i (.adr a)) (σ1.set i (some (.ref a))) := Rep.set (d := .adr a) (v := .ref a) (r1.lift fun q => q.adr)
          refine ⟨x.c, C, rfl, hm, hd, xc, T, _, fl, ρ2, r2, e2, ?_⟩
          cases fl with
          | nx =>
            intro σ2 H2 k2 r3
            have r4 := r3.unset i
            rw [e3] at r4
            exact he _ H2 (k1.tryS k2) r4
          | bk =>
            intro σ2 H2 k2 r3
            have r4 := r3.unset i
            rw [e3] at r4
            exact he _ H2 (k1.tryS k2) r4
          | ct =>
            intro σ2 H2 k2 r3
            have r4 := r3.unset i
            rw [e3] at r4
            exact he _ H2 (k1.tryS k2) r4
          | rt d =>
            intro v σ2 H2 k2 r3
            have r4 := r3.forget i
            rw [e3] at r4
            exact he v σ2 H2 (k1.tryR k2) r4
          | ex y => exact ne.elim
        · split at hf
          · rename_i z
            have e : (Fl.ex x, ρ1) = (fl, ρ') := Option.some.inj hf
            cases e
            exact ⟨false, hno _ z C hm, (fun q => by cases q), fun _ => he _ dd σ1 H1 k1.left xr r1⟩
          · cases hf
end
end VS

set_option Elab.async false
set_option linter.all false
set_option maxRecDepth 100000
set_option maxHeartbeats 4000000
set_option autoImplicit false
/-! VX4: a tuple of scalars times an int. -/
noncomputable section
namespace VS
open PySem PySem.Spec PyProof.Rows L2
section
variable {X : Cx} {W : WX} {K : PySem.W.Frag} {mg : Str → Option Value} {F H H1 : Hp} {T L : List (D × V)} {ρ ρ' : Env} {σ σ' σ'' : St} {m : Bool} {asg a1 a2 : List Nat}
def gMulT (x y : D) : Option D := match x, y with
  | .tup xs, .int k => if 2 ≤ k ∧ k ≤ 1000 ∧ xs.length ≤ 1000 ∧ scAll xs = true ∧ 0 < xs.length then some (.tup (List.replicate k.toNat xs).flatten) else none
  | _, _ => none
theorem impMulT : Imp2 K (rRepT K) gMulT := by
  intro H L x y d v w Q e r h
  unfold gMulT at e
  split at e
  · rename_i xs k
    split at e
    · rename_i z
      cases e
      have ew := r.eq_int
      subst ew
      obtain ⟨a, vs, rfl, hq, l, r2⟩ := r.drop.openT
      have es := sc_zip z.2.2.2.1 l r2
      refine ⟨a, k, vs, rfl, rfl, .inl (.inl hq), fun q => ?_, z.1, z.2.1, by rw [← l]; exact z.2.2.1, fun p hp => h _ _ (Same.upd hp) (RepT.newT ?_ hp (sc_reps ?_ r.drop.drop))⟩
      · have hz := z.2.2.2.2
        rw [l, q] at hz
        cases hz
      · simp [l]
      · generalize k.toNat = n
        induction n with
        | zero => rfl
        | succ n ih => rw [List.replicate_succ, List.replicate_succ, List.flatten_cons, List.flatten_cons, List.map_append, List.map_append, ih, es]
    · cases e
  · cases e
end
end VS

set_option Elab.async false
set_option linter.all false
set_option maxRecDepth 100000
set_option maxHeartbeats 4000000
set_option autoImplicit false
/-! VX5: displays of dicts, a, b = c, d. -/
noncomputable section
namespace VS
open PySem PySem.Spec PyProof.Rows L2
section
variable {X : Cx} {W : WX} {K : PySem.W.Frag} {mg : Str → Option Value} {F H H1 : Hp} {T L : List (D × V)} {ρ ρ' : Env} {σ σ' σ'' : St} {m : Bool} {asg a1 a2 : List Nat}
/-! ### {k: v, ..} -/
def pairUp : List V → List (V × V)
  | a :: b :: r => (a, b) :: pairUp r
  | _ => []
/-- keys and values, one by one -/
structure VP (X : Cx) (W : WX) (m : Bool) (pos : Pos) (keys : List (Option Expr)) (values : List Expr) (f : M (List D)) : Prop where
  ex : ∃ trs, PPs X pos keys values trs ∧ ∀ σ H (Q : List (V × V) → Hp → Prop), taOf X.K X.mg W m f σ H (fun vs H' => Q (pairUp vs) H') → tPairs trs σ H Q
theorem vp_nil {pos : Pos} : VP X W false pos [] [] dNil := ⟨[], pps_nil, fun σ H Q ⟨T, ρ, u, rep, hf, he⟩ => by
  have e : u = .ok [] ρ := (Option.some.inj hf).symm
  subst e
  exact he [] H (fun _ => Same.refl _) rfl rep⟩
theorem vp_cons {pos : Pos} {k v : Expr} {keys : List (Option Expr)} {values : List Expr} {f g : M D} {r : M (List D)} {m1 m2 m3 : Bool} (hk : VE X W m1 k f) (hv : VE X W m2 v g) (hr : VP X W m3 pos keys values r) : VP X W (m1 || (m2 || m3)) pos (some k :: keys) (v :: values) (dCons f (dCons g r)) := by
  obtain ⟨trs, hp, ht⟩ := hr.ex
  refine ⟨_, pps_cons hk hv hp, fun σ H Q ⟨T, ρ, u, rep, hf, he⟩ => ?_⟩
  refine run1 rep hf he fun x ρ1 v H1 h1 s1 r1 => ?_
  unfold bindM at h1
  cases q : dCons g r ρ1 with
  | none => rw [q] at h1; cases h1
  | some w =>
    rw [q] at h1
    have he1 : endR X.K X.mg W ((x, v) :: T) σ (okA X.K (m2 || m3) ((x, v) :: T) σ H1 fun vs H' => Q (pairUp (v :: vs)) H') w := by
      cases w with
      | ex e ρ2 =>
        have : u = .ex e ρ2 := (Option.some.inj h1).symm
        subst this
        exact exE.push he
      | ok ds ρ2 =>
        have : u = .ok (x :: ds) ρ2 := (Option.some.inj h1).symm
        subst this
        exact fun vs H' s' l' r' => he (v :: vs) H' (sm_or s1 s') (by simp [l']) (r'.perm List.perm_middle)
    refine run1 r1 q he1 fun y ρ2 z H2 h2 s2 r2 => ht σ H2 _ ?_
    refine runA r2 h2 (he1.push (okP' := okA X.K (m2 || m3) ((x, v) :: T) σ H1 fun vs H' => Q (pairUp (v :: vs)) H') fun _ _ q => q) fun ds ρ3 vs H3 h3 s3 l3 r3 => ?_
    have : w = .ok (y :: ds) ρ3 := (Option.some.inj h3).symm
    subst this
    exact he1 (z :: vs) H3 (sm_or s2 s3) (by simp [l3]) (r3.perm List.perm_middle)
def dispD : List D → List Key → List D → Option D
  | [], ks, es => some (.dK true ks es)
  | [_], _, _ => none
  | k :: v :: r, ks, es => match keyD k with
    | some key => dispD r (putL ks es key v).1 (putL ks es key v).2
    | none => none
def dDisp (f : M (List D)) : M D := bindM f fun ds => optM (if ds.length ≤ 30 then dispD ds [] [] else none)
theorem disp_rep {p : Addr} : ∀ (n : Nat) (ds : List D) (ks : List Key) (es : List D) (d : D) (vs : List V) (H : Hp) (L : List (D × V)), ds.length ≤ n → dispD ds ks es = some d → ds.length = vs.length → RepT K H (ds.zip vs ++ (.dK true ks es, .ref p) :: L) →
    ∃ (o kvs : List (Key × V)), H p = some (.dK o) ∧ pairUp vs = kvs.map (fun kv => (kV kv.1, kv.2)) ∧ kvs.length * 2 = ds.length ∧ RepT K (upd H p (.dK (mergeK o kvs))) ((d, .ref p) :: L)
  | n, [], ks, es, d, vs, H, L, _, e, l, r => by
    cases vs with
    | cons _ _ => cases l
    | nil =>
      rw [dispD] at e
      cases e
      have r1 : RepT K H ((.dK true ks es, .ref p) :: L) := r
      obtain ⟨a, us, e1, q, _⟩ := r1.dK
      cases e1
      refine ⟨ks.zip us, [], q, rfl, rfl, ?_⟩
      have e2 : upd H p (.dK (mergeK (ks.zip us) [])) = H := by
        funext b
        unfold upd
        split
        · rename_i z; rw [z, q]; rfl
        · rfl
      rw [e2]
      exact r1
  | n, [_], ks, es, d, vs, H, L, _, e, l, r => by rw [dispD] at e; cases e
  | 0, k :: v :: ds, ks, es, d, vs, H, L, hn, e, l, r => by simp at hn
  | n + 1, k :: v :: ds, ks, es, d, vs, H, L, hn, e, l, r => by
    match vs, l with
    | kv :: vv :: vs, l =>
      rw [dispD] at e
      cases q : keyD k with
      | none => rw [q] at e; cases e
      | some key =>
        rw [q] at e
        have r1 : RepT K H ((k, kv) :: (v, vv) :: (ds.zip vs ++ (.dK true ks es, .ref p) :: L)) := r
        have ek := keyD_rep q r1
        have r2 : RepT K H ((v, vv) :: (.dK true ks es, .ref p) :: (ds.zip vs ++ L)) := r1.drop.perm (List.Perm.cons _ List.perm_middle)
        obtain ⟨us, h1, h2, h3, r3⟩ := RepT.putDK (k := key) r2
        have r4 := r3.perm (List.perm_middle (l₁ := ds.zip vs) (a := (D.dK true (putL ks es key v).1 (putL ks es key v).2, V.ref p)) (l₂ := L)).symm
        obtain ⟨o, kvs, g1, g2, g3, g4⟩ := disp_rep n ds _ _ d vs _ L (by simp at hn; omega) e (by simpa using l) r4
        rw [upd_same] at g1
        cases g1
        rw [upd_upd] at g4
        exact ⟨ks.zip us, (key, vv) :: kvs, h1, by rw [pairUp, g2, ek]; rfl, by simp; omega, g4⟩
theorem ve_disp {pos : Pos} {keys : List (Option Expr)} {values : List Expr} {f : M (List D)} (h : VP X W m pos keys values f) (hall : keys.all (·.isSome) = true) (hl : keys.length = values.length) (h0 : keys ≠ []) (h15 : keys.length ≤ 15) : VE X W true (.Dict keys values pos) (dDisp f) := by
  obtain ⟨trs, hp, ht⟩ := h.ex
  refine PE.imp (pe_disp hp hall hl h0 h15) fun σ H Q ⟨T, ρ, u, rep, hf, he⟩ => ?_
  intro p hfree
  refine ht σ _ _ ?_
  have rep' : Rep X.K (upd H p (.dK [])) ((.dK true [] [], .ref p) :: T) ρ σ := rep.lift fun r => RepT.newDK hfree r
  unfold dDisp bindM at hf
  cases q : f ρ with
  | none => rw [q] at hf; cases hf
  | some w =>
    rw [q] at hf
    refine ⟨(.dK true [] [], .ref p) :: T, ρ, w, rep', q, ?_⟩
    cases w with
    | ex e ρ2 =>
      have : u = .ex e ρ2 := (Option.some.inj hf).symm
      subst this
      exact exE.push he
    | ok ds ρ1 =>
      obtain ⟨d, ed, rfl⟩ := optM_some hf
      intro vs H' s' l' r'
      by_cases z : ds.length ≤ 30
      · rw [if_pos z] at ed
        have r2 : RepT X.K H' (ds.zip vs ++ (.dK true [] [], .ref p) :: (T ++ SL ρ1 σ)) := by
          have := r'.rep
          rw [List.append_assoc] at this
          exact this
        obtain ⟨o, kvs, g1, g2, g3, g4⟩ := disp_rep _ ds [] [] d vs H' _ (Nat.le_refl _) ed l' r2
        have ho : o = [] := by
          obtain ⟨a, us, e1, q1, _⟩ := (RepT.dropL r2).dK
          cases e1
          rw [q1] at g1
          cases g1
          rfl
        subst ho
        exact ⟨g1, kvs, g2, by omega, he _ _ (fun z => by cases z) ⟨r'.len, r'.nos, g4⟩⟩
      · rw [if_neg z] at ed; cases ed
/-! ### a, b = c, d -/
def dPar (i j : Nat) (f : M (List D)) : MS := bindS f fun ds ρ => match ds with
  | [x, y] => some (.nx, (ρ.set i x).set j y)
  | _ => none
theorem vs_par {i j : Nat} {x y : Str} {a b : Expr} {f : M (List D)} {px py pt : Pos} {pos : Pos} {kt k2 : Nat} {pt2 : Pos} (hc : X.calm = true) (hN : X.N.Nodup) (hi : X.N[i]? = some x) (hj : X.N[j]? = some y) (hij : i ≠ j)
    (hx : X.env.scope.names.lookup x = some .local) (hy : X.env.scope.names.lookup y = some .local) (ha : VA X W m [a, b] f)
    (hw : swappedStores [.Tuple [.Name x px, .Name y py] kt pt] (.Tuple [a, b] k2 pt2) X.env = pure (some [x, y]))
    (hs : swapsWithSole [.Tuple [.Name x px, .Name y py] kt pt] (.Tuple [a, b] k2 pt2) pos.line X.env = pure false := by rfl) :
    VSt X W [i, j] (.Assign [.Tuple [.Name x px, .Name y py] kt pt] (.Tuple [a, b] k2 pt2) pos) (dPar i j f) := by
  refine PS.imp (ps_par hc hN hi hj hij hx hy ha hw hs) fun σ H E ⟨T, ρ, fl, ρ', rep, hf, he⟩ => ?_
  unfold dPar bindS at hf
  cases q : f ρ with
  | none => rw [q] at hf; cases hf
  | some w =>
    rw [q] at hf
    refine ⟨T, ρ, w, rep, q, ?_⟩
    cases w with
    | ex e ρ2 =>
      have : (Fl.ex e, ρ2) = (fl, ρ') := Option.some.inj hf
      cases this
      exact fun cls dd H' xr r => he cls dd σ H' Kept.refl xr r
    | ok ds ρ1 =>
      intro vs H1 s1 l1 r1
      match ds, hf, l1, r1 with
      | [u, v], hf, l1, r1 =>
        have e : (Fl.nx, (ρ1.set i u).set j v) = (fl, ρ') := Option.some.inj hf
        cases e
        match vs, l1, r1 with
        | [p, q], l1, r1 =>
          refine ⟨p, q, rfl, he _ H1 ⟨by simp, fun k hk => ?_⟩ ?_⟩
          · simp at hk
            rw [List.getElem?_set_ne (Ne.symm hk.2), List.getElem?_set_ne (Ne.symm hk.1)]
          · have r2 : Rep X.K H1 ((u, p) :: (v, q) :: T) ρ1 σ := r1
            exact Rep.set (Rep.set r2)
end
end VS

set_option Elab.async false
set_option linter.all false
set_option maxRecDepth 100000
set_option maxHeartbeats 4000000
set_option autoImplicit false
/-! VX6: an int in a sequence of ints; a tuple of the top. -/
noncomputable section
namespace VS
open PySem PySem.Spec PyProof.Rows L2
section
variable {X : Cx} {W : WX} {K : PySem.W.Frag} {mg : Str → Option Value} {F H H1 : Hp} {T L : List (D × V)} {ρ ρ' : Env} {σ σ' σ'' : St} {m : Bool} {asg a1 a2 : List Nat}
def gInI (neg : Bool) (x y : D) : Option D := match x, seqOf y with
  | .int i, some ds => match allI ds with
    | some ns => some (.bl (if neg = true then !decide (i ∈ ns) else decide (i ∈ ns)))
    | none => none
  | _, _ => none
theorem inV_ints {i : Int} : ∀ ns : List Int, inV (.int i) (ns.map V.int) = decide (i ∈ ns)
  | [] => by simp [inV]
  | n :: ns => by
    have ih := inV_ints (i := i) ns
    unfold inV at *
    rw [List.map_cons, List.any_cons, ih]
    rw [Bool.eq_iff_iff]
    simp [eqV]
    constructor
    · rintro (h | h)
      · exact .inl h.symm
      · exact .inr h
    · rintro (h | h)
      · exact .inl h.symm
      · exact .inr h
theorem impInI (neg : Bool) : Imp2 K (rIn K neg) (gInI neg) := by
  intro H L x y d v w Q e r h
  unfold gInI at e
  split at e
  · rename_i i ds e1
    split at e
    · rename_i ns e2
      cases e
      have ev := RepT.eq_int r.drop
      subst ev
      obtain ⟨a, vs, rfl, sq, l, r2⟩ := RepT.seq e1 r
      rw [allI_eq e2] at l r2
      have := zip_int (by rw [← l, List.length_map]) r2
      subst this
      refine ⟨a, _, rfl, sq, rfl, ?_, ?_⟩
      · rw [List.all_eq_true]
        intro z hz
        obtain ⟨n, _, rfl⟩ := List.mem_map.mp hz
        rfl
      · rw [inV_ints]
        exact h _ _ (Same.refl _) (r.drop.drop.bl)
    · cases e
  · cases e
theorem RepT.ktpI {a : Addr} {ns : List Int} (hk : ∀ F, SqT K F a (ns.map V.int)) (h : RepT K H L) : RepT K H ((.ktp (ns.map D.int), .ref a) :: L) := by
  obtain ⟨F, A, sF, nd, fr, o⟩ := h
  refine ⟨F, A, sF, nd, fr, [], A, rfl, ?_, o⟩
  rw [Ow]
  refine ⟨a, ns.map V.int, rfl, hk F, ?_⟩
  induction ns with
  | nil => rw [List.map_nil, OwL]; exact ⟨rfl, rfl⟩
  | cons n ns ih =>
    rw [List.map_cons, List.map_cons, OwL]
    refine ⟨_, _, [], [], rfl, rfl, by rw [Ow]; exact ⟨rfl, rfl⟩, ?_⟩
    have key : ∀ ms : List Int, OwL K F H (ms.map D.int) (ms.map V.int) [] := by
      intro ms
      induction ms with
      | nil => rw [List.map_nil, OwL]; exact ⟨rfl, rfl⟩
      | cons k ms ih => rw [List.map_cons, List.map_cons, OwL]; exact ⟨_, _, [], [], rfl, rfl, by rw [Ow]; exact ⟨rfl, rfl⟩, ih⟩
    exact key ns
/-- a tuple of ints that stands at the top -/
structure TopT (K : PySem.W.Frag) (mg : Str → Option Value) (x : Str) (ns : List Int) : Prop where
  ex : ∃ a, mg x = some (.ref a) ∧ ∀ F, SqT K F a (ns.map V.int)
theorem ve_topT {x : Str} {ns : List Int} {pos : Pos} (h : TopT X.K X.mg x ns) (hg : Gl X x) (hd : (x == ("__debug__" : Str)) = false := by decide) : VE X W false (.Name x pos) (dC (.ktp (ns.map D.int))) := by
  obtain ⟨a, hm, hk⟩ := h.ex
  exact ve_con (pe_glob (v := .ref a) hg hm rfl hd) fun H L r => RepT.ktpI hk r
theorem topT_3 {x : Str} {a : Addr} {i j k : Int} {t1 t2 t3 : Tok} {dd : Option Addr} {n : Nat} {sl : Array (Option Value)} (hm : mg x = some (.ref a)) (hl : K.lookup a = some ⟨.type "tuple", dd, .seq #[.int i t1, .int j t2, .int k t3] n, sl⟩) : TopT K mg x [i, j, k] :=
  ⟨a, hm, fun F => .inr ⟨_, _, _, hl, rfl, rfl, (by show 3 ≤ sizeLine; decide), .cons ⟨t1, rfl⟩ (.cons ⟨t2, rfl⟩ (.cons ⟨t3, rfl⟩ .nil))⟩⟩
end
end VS

set_option Elab.async false
set_option linter.all false
set_option maxRecDepth 100000
set_option maxHeartbeats 4000000
set_option autoImplicit false
/-! VX7: l.count(x) at a name, calm or not. -/
noncomputable section
namespace VS
open PySem PySem.Spec PyProof.Rows L2
section
variable {X : Cx} {W : WX} {K : PySem.W.Frag} {mg : Str → Option Value} {F H H1 : Hp} {T L : List (D × V)} {ρ ρ' : Env} {σ σ' σ'' : St} {m : Bool} {asg a1 a2 : List Nat}
def rCount (K : PySem.W.Frag) : V → List V → Hp → VK → Prop := fun x xs H Q => ∃ (a : Addr) (y : V) (d : PyData) (ds : List PyData), x = V.ref a ∧ xs = [y] ∧ Dp K H (V.ref a) (.list ds) ∧ Dp K H y d ∧
  SeqAt.shaped (.list ds) = true ∧ SeqAt.shaped d = true ∧ Q (.int ((ds.countP fun z => PyData.eqv z d : Nat) : Int)) H
theorem mt_countL (hu : X.A.units + 65 < cLine) : MtR X "list.count" (rCount X.K) := by
  intro pins s σ H x xs v us Q I rx rxs h
  obtain ⟨a, y, d, ds, rfl, rfl, hl, hy, sl, sd, q⟩ := h
  cases rx
  cases rxs with
  | cons ry rt =>
    rename_i uy ut
    cases rt
    obtain ⟨bs, r1⟩ := Dp.reads I d y uy hy ry
    have hlay : PyData.canLayAll0 ds = true := SeqAt.canLay_of_shaped sl
    cases hl with
    | lst hs ha =>
      obtain ⟨its, rv, ⟨⟨cls, dd, data, sls⟩, n, ho, hc, hdn, hdt⟩, hlen⟩ := I.list hs
      simp only at hc hdt
      subst hc hdt
      obtain ⟨as, h4⟩ := Dp.readsAll I ds _ its ha rv
      have hm : its.map (SeqAt.readOf s.heap) = ds := SeqAt.readsAll_map ds its as hlay h4
      refine call_meets PySem.F.slot_list_count ⟨_, ho, rfl⟩ PySem.F.entry_list_count (PySem.F.args_list_count_2 _ _)
        (SeqAt.list_countAt a its.toArray n dd sls uy (fun u => PyData.eqv (SeqAt.readOf s.heap u) d)) ⟨ho, SeqAt.items_eqAt (vs := its.toArray) (show ReadsAll s.heap its.toArray.toList ds as from h4) r1 hlay (SeqAt.canLay_of_shaped sd) (room_in_shaped sd hu), ?_⟩
      have e : its.toArray.toList.countP (fun u => PyData.eqv (SeqAt.readOf s.heap u) d) = ds.countP fun z => PyData.eqv z d := by
        rw [← hm, List.countP_map]
        rfl
      rw [e]
      exact ⟨.int _, H, I.tok _, ⟨_, rfl⟩, q⟩
def cntD (x y : D) : Option D := match lstOf x with
  | none => none
  | some ds => match dats ds, dat y with
    | some es, some e => if SeqAt.shaped (.list es) = true ∧ SeqAt.shaped e = true then some (.int ((es.countP fun z => PyData.eqv z e : Nat) : Int)) else none
    | _, _ => none
def cntS (i : Nat) (ys : List D) : M D := fun ρ => match ys with
  | [y] => match cntD (ρ.getD i .unk) y with
    | some d => some (.ok d ρ)
    | none => none
  | _ => none
def dCnt1 (i : Nat) (f : M (List D)) : M D := fun ρ0 => if isLst ρ0[i]? = true then bindM f (cntS i) ρ0 else none
theorem ve_count {o : Expr} {i : Nat} {f : M (List D)} {e : Expr} {apos cpos : Pos} (hu : X.A.units + 65 < cLine) (ho : PE X o (tVar i)) (ha : VA X W m [e] f) (hbase : attributeBase o "count" X.env (eval o X.env) = eval o X.env := by rfl)
    (hfew : ((backTo cpos (starEach [e] X.env)).all (fun x => !x.1) && (backToKw cpos (keywordEach [] X.env)).all (fun x => x.1.isSome)
      && decide (([e] : List Expr).length + ([] : List Keyword).length + (if ([] : List Keyword).isEmpty then 0 else 1) < 30)) = true := by rfl)
    (hline : (apos.endLine == cpos.line) = true := by rfl) (hs : starEach [e] X.env = (false, eval e X.env) :: starEach [] X.env := by rfl) (hplain : (backTo cpos (starEach [] X.env)).any (·.1) = false := by rfl) :
    VE X W m (.Call (.Attribute o "count" apos) [e] [] cpos) (dCnt1 i f) := by
  refine PE.imp (pe_bm PySem.F.plainAttrs_list PySem.F.slot_list_count PySem.F.type_list_count (mt_countL hu) ho ha hbase hfew hline hs hplain) fun σ H Q ⟨T, ρ, u, rep, hf, he⟩ => ?_
  unfold dCnt1 at hf
  by_cases z : isLst ρ[i]? = true
  · rw [if_pos z] at hf
    cases q : ρ[i]? with
    | none => rw [q] at z; cases z
    | some x =>
      rw [q] at z
      cases x <;> simp only [isLst, Bool.false_eq_true] at z
      obtain ⟨v, hv⟩ := rep.slot q (by intro z; cases z)
      obtain ⟨a, vs0, rfl, hq, _, _⟩ := RepT.readL (rep.take q hv).rep
      refine ⟨.ref a, hv, .inl ⟨rfl, _, .inl (.inl hq)⟩, ?_⟩
      refine runA rep hf he fun ds ρ1 vs H1 h1 s1 l1 r1 => ?_
      unfold cntS at h1
      split at h1
      · rename_i y
        split at h1
        · rename_i d ed
          have : u = .ok d ρ1 := (Option.some.inj h1).symm
          subst this
          obtain ⟨w, rfl⟩ := len1 l1
          have r2 : Rep X.K H1 ((y, w) :: T) ρ1 σ := r1
          unfold cntD at ed
          split at ed
          · cases ed
          · rename_i xs ex
            split at ed
            · rename_i es e ee ey
              split at ed
              · rename_i zz
                cases ed
                have hi : i < ρ1.length := by rw [r1.len]; exact (List.getElem?_eq_some_iff.mp hv).1
                have r3 := r2.take (getD_at hi) hv
                have dl : Dp X.K H1 (.ref a) (.list es) := by
                  refine RepT.dp r3.rep ?_
                  cases xx : ρ1.getD i .unk <;> rw [xx] at ex <;> simp only [lstOf, Option.some.injEq, reduceCtorEq] at ex <;> subst ex <;> simp only [dat, ee, Option.map_some]
                exact ⟨a, w, e, es, rfl, rfl, dl, r2.rep.dp ey, zz.1, zz.2, he _ H1 s1 (r2.drop.lift fun q => q.int)⟩
              · cases ed
            · cases ed
        · cases h1
      · cases h1
  · rw [if_neg z] at hf; cases hf
end
end VS

set_option Elab.async false
set_option linter.all false
set_option maxRecDepth 100000
set_option maxHeartbeats 4000000
set_option autoImplicit false
/-! VX8: xs[n].append(v), the inner lists owned. -/
noncomputable section
namespace VS
open PySem PySem.Spec PyProof.Rows L2
section
variable {X : Cx} {W : WX} {K : PySem.W.Frag} {mg : Str → Option Value} {F H H1 : Hp} {T L : List (D × V)} {ρ ρ' : Env} {σ σ' σ'' : St} {m : Bool} {asg a1 a2 : List Nat}
theorem RepT.ne_hole {xs : List D} {a b : Addr} (h : RepT K H ((.lst true xs, .ref b) :: (.hole, .ref a) :: L)) : b ≠ a := by
  obtain ⟨F, A, sF, nd, fr, A1, A2, rfl, h1, A3, A4, rfl, h2, o⟩ := h
  rw [Ow] at h1
  rw [Ow] at h2
  obtain ⟨b', vs, A', e1, _, _, rfl⟩ := h1
  obtain ⟨a', u, e2, _, rfl⟩ := h2
  cases e1
  cases e2
  intro e
  subst e
  simp at nd
theorem zip_set_erase {α β : Type} (n : α) : ∀ (xs : List α) (vs : List β) (j : Nat), ((xs.set j n).zip vs).eraseIdx j = (xs.zip vs).eraseIdx j
  | [], vs, j => by simp
  | x :: xs, [], j => by cases j <;> simp
  | x :: xs, v :: vs, 0 => by simp
  | x :: xs, v :: vs, j + 1 => by simp [zip_set_erase n xs vs j]
theorem app_in {xss xs : List D} {vs : List V} {a b : Addr} {j : Nat} {y : D} {w : V} (r : RepT K H ((y, w) :: (.lst true xss, .ref a) :: L)) (hj : xss[j]? = some (.lst true xs)) (hb : H a = some (.lst vs)) (hvb : vs[j]? = some (.ref b)) :
    ∃ us, H b = some (.lst us) ∧ us.length = xs.length ∧ RepT K (upd H b (.lst (us ++ [w]))) ((.lst true (xss.set j (.lst true (xs ++ [y]))), .ref a) :: L) := by
  obtain ⟨a', vs', e1, q, l, r2⟩ := RepT.openL (r.perm (.swap _ _ _))
  cases e1
  rw [hb] at q
  have : vs = vs' := by injection q with q; injection q
  subst this
  have hz : (xss.zip vs)[j]? = some (D.lst true xs, V.ref b) := by rw [List.getElem?_zip_eq_some]; exact ⟨hj, hvb⟩
  have pz := perm_erase hz
  have r3 : RepT K H ((y, w) :: (.lst true xs, .ref b) :: (.hole, .ref a) :: ((xss.zip vs).eraseIdx j ++ L)) := r2.perm ((List.Perm.cons _ (List.perm_middle.trans (List.Perm.cons _ (pz.append_right L)))).trans ((List.Perm.swap _ _ _).trans (List.Perm.cons _ (List.Perm.swap _ _ _))))
  obtain ⟨us, hq, lw, r4⟩ := RepT.push r3
  have hne := r4.ne_hole
  refine ⟨us, hq, by omega, ?_⟩
  have hlt : j < xss.length := (List.getElem?_eq_some_iff.mp hj).1
  have hz2 : ((xss.set j (.lst true (xs ++ [y]))).zip vs)[j]? = some (D.lst true (xs ++ [y]), V.ref b) := by rw [List.getElem?_zip_eq_some]; exact ⟨by simp [hlt], hvb⟩
  have pz2 := perm_erase hz2
  rw [zip_set_erase] at pz2
  have r5 : RepT K (upd H b (.lst (us ++ [w]))) ((.hole, .ref a) :: ((xss.set j (.lst true (xs ++ [y]))).zip vs ++ L)) := r4.perm ((List.Perm.swap _ _ _).trans (List.Perm.cons _ (pz2.append_right L).symm))
  have r6 := RepT.closeL (by rw [List.length_set]; exact l) r5
  have e2 : upd (upd H b (.lst (us ++ [w]))) a (.lst vs) = upd H b (.lst (us ++ [w])) := by
    funext c
    by_cases z : c = a
    · have z2 : ¬ a = b := fun q => hne q.symm
      subst z
      unfold upd
      simp [z2, hb]
    · unfold upd
      simp [z]
  rw [e2] at r6
  exact r6
def appA (i k : Nat) (ds : List D) : M D := fun ρ => match ρ.getD i .unk, ρ.getD k .unk, ds with
  | .lst true xss, .int n, [y] => match ixN xss.length n with
    | some j => match xss[j]? with
      | some (.lst true xs) => if xs.length < sizeLine then some (.ok .non (ρ.set i (.lst true (xss.set j (.lst true (xs ++ [y])))))) else none
      | _ => none
    | none => none
  | _, _, _ => none
def okN (i k : Nat) (ρ : Env) : Bool := match ρ.getD i .unk, ρ.getD k .unk with
  | .lst true xss, .int n => match ixN xss.length n with
    | some j => match xss[j]? with
      | some (.lst true _) => true
      | _ => false
    | none => false
  | _, _ => false
def dAppA (i k : Nat) (f : M (List D)) : M D := fun ρ0 => if okN i k ρ0 = true then bindM f (appA i k) ρ0 else none
theorem okN_inv {i k : Nat} (h : okN i k ρ = true) : ∃ xss n j xs, ρ.getD i .unk = .lst true xss ∧ ρ.getD k .unk = .int n ∧ ixN xss.length n = some j ∧ xss[j]? = some (.lst true xs) := by
  unfold okN at h
  split at h
  · rename_i xss n e1 e2
    split at h
    · rename_i j e3
      split at h
      · rename_i xs e4
        exact ⟨xss, n, j, xs, e1, e2, e3, e4⟩
      · cases h
    · cases h
  · cases h
theorem appA_inv {i k : Nat} {ds : List D} {u : Rv D} (h : appA i k ds ρ = some u) : ∃ xss n j xs y, ρ.getD i .unk = .lst true xss ∧ ρ.getD k .unk = .int n ∧ ixN xss.length n = some j ∧ xss[j]? = some (.lst true xs) ∧ ds = [y] ∧ xs.length < sizeLine ∧ u = .ok .non (ρ.set i (.lst true (xss.set j (.lst true (xs ++ [y]))))) := by
  unfold appA at h
  split at h
  · rename_i xss n y e1 e2
    split at h
    · rename_i j e3
      split at h
      · rename_i xs e4
        split at h
        · rename_i z
          exact ⟨xss, n, j, xs, y, e1, e2, e3, e4, rfl, z, (Option.some.inj h).symm⟩
        · cases h
      · cases h
    · cases h
  · cases h
theorem getD_some {i : Nat} {d : D} (h : ρ.getD i .unk = d) (n : d ≠ .unk) : ρ[i]? = some d := by
  rw [List.getD_eq_getElem?_getD] at h
  cases q : ρ[i]? with
  | none => rw [q] at h; exact absurd h.symm n
  | some x => rw [q] at h; exact congrArg some h
theorem inner_ref {xss xs : List D} {vs : List V} {a : Addr} {j : Nat} (r : RepT K H ((.lst true xss, .ref a) :: L)) (hb : H a = some (.lst vs)) (hj : xss[j]? = some (.lst true xs)) : xss.length = vs.length ∧ ∃ b us, vs[j]? = some (.ref b) ∧ H b = some (.lst us) := by
  obtain ⟨a', vs', e1, q, l, r2⟩ := RepT.openL r
  cases e1
  rw [hb] at q
  have : vs = vs' := by injection q with q; injection q
  subst this
  have hlt : j < xss.length := (List.getElem?_eq_some_iff.mp hj).1
  obtain ⟨v, hv⟩ : ∃ v, vs[j]? = some v := ⟨_, List.getElem?_eq_getElem (by omega)⟩
  have hz : (xss.zip vs)[j]? = some (D.lst true xs, v) := by rw [List.getElem?_zip_eq_some]; exact ⟨hj, hv⟩
  have r3 := r2.drop.perm ((perm_erase hz).append_right L)
  obtain ⟨b, us, rfl, hq, _⟩ := RepT.openL r3
  exact ⟨l, b, us, hv, hq⟩
theorem ve_appA {a b : Expr} {i k : Nat} {f : M (List D)} {e : Expr} {apos cpos spos : Pos} (ha : PE X a (tVar i)) (hb : PE X b (tVar k)) (hargs : VA X W false [e] f) (hsl : PlainIx b := by exact fun _ _ => rfl)
    (hbase : attributeBase (.Subscript a b spos) "append" X.env (eval (.Subscript a b spos) X.env) = eval (.Subscript a b spos) X.env := by rfl)
    (hfew : ((backTo cpos (starEach [e] X.env)).all (fun x => !x.1) && (backToKw cpos (keywordEach [] X.env)).all (fun x => x.1.isSome)
      && decide (([e] : List Expr).length + ([] : List Keyword).length + (if ([] : List Keyword).isEmpty then 0 else 1) < 30)) = true := by rfl)
    (hline : (apos.endLine == cpos.line) = true := by rfl) (hs : starEach [e] X.env = (false, eval e X.env) :: starEach [] X.env := by rfl) (hplain : (backTo cpos (starEach [] X.env)).any (·.1) = false := by rfl) :
    VE X W true (.Call (.Attribute (.Subscript a b spos) "append" apos) [e] [] cpos) (dAppA i k f) := by
  refine PE.imp (pe_bm PySem.F.plainAttrs_list PySem.F.slot_list_append PySem.F.type_list_append mt_append (pe_ix ix_seq ha hb hsl) hargs hbase hfew hline hs hplain) fun σ H Q ⟨T, ρ, u, rep, hf, he⟩ => ?_
  unfold dAppA at hf
  by_cases ok : okN i k ρ = true
  · rw [if_pos ok] at hf
    obtain ⟨xss, n, j, xs, e1, e2, e3, e4⟩ := okN_inv ok
    have g1 := getD_some e1 (by intro z; cases z)
    have g2 := getD_some e2 (by intro z; cases z)
    obtain ⟨v, hv⟩ := rep.slot g1 (by intro z; cases z)
    obtain ⟨w, hw⟩ := rep.slot g2 (by intro z; cases z)
    have ew := (rep.take g2 hw).rep.eq_int
    subst ew
    obtain ⟨A, vs, rfl, hq, _, _⟩ := RepT.readL (rep.take g1 hv).rep
    obtain ⟨hl, B, us, hB, hBq⟩ := inner_ref (rep.take g1 hv).rep hq e4
    refine ⟨.ref A, hv, .int n, hw, .inl ⟨A, vs, n, .ref B, rfl, rfl, .inl (.inl hq), atI_of hl e3 hB, .inl ⟨rfl, _, .inl (.inl hBq)⟩, ?_⟩⟩
    refine runA rep hf he fun ds ρ1 ws H1 h1 s1 l1 r1 => ?_
    obtain ⟨xss1, n1, j1, xs1, y, d1, d2, d3, d4, rfl, d5, rfl⟩ := appA_inv h1
    have k1 := getD_some d1 (by intro z; cases z)
    have k2 := getD_some d2 (by intro z; cases z)
    have en := (r1.take k2 hw).rep.eq_int
    have en' : n = n1 := by injection en
    subst en'
    have hq1 : H1 A = some (.lst vs) := s1 rfl _ _ hq
    have t1 := r1.take k1 hv
    obtain ⟨hl1, B1, us1, hB1, hBq1⟩ := inner_ref t1.rep hq1 d4
    have ej : j = j1 := by rw [hl] at e3; rw [hl1, e3] at d3; exact Option.some.inj d3
    subst ej
    rw [hB] at hB1
    have eB : B = B1 := by injection hB1 with q; injection q
    subst eB
    obtain ⟨z, rfl⟩ := len1 l1
    have t2 : RepT X.K H1 ((y, z) :: (.lst true xss1, .ref A) :: (T ++ SL (ρ1.set i .unk) σ)) := t1.rep.perm (.swap _ _ _)
    obtain ⟨us2, q2, l2, r6⟩ := app_in t2 d4 hq1 hB
    refine ⟨B, us2, z, rfl, rfl, q2, by omega, he _ _ (fun q => by cases q) ?_⟩
    have t3 : Rep X.K (upd H1 B (.lst (us2 ++ [z]))) ((.lst true (xss1.set j (.lst true (xs1 ++ [y]))), .ref A) :: (.non, .non) :: T) (ρ1.set i .unk) σ := ⟨t1.len, t1.nos, (RepT.non r6).perm (.swap _ _ _)⟩
    have t4 := t3.put hv
    rw [List.set_set] at t4
    exact t4
  · rw [if_neg ok] at hf; cases hf
end
end VS

set_option Elab.async false
set_option linter.all false
set_option maxRecDepth 100000
set_option maxHeartbeats 4000000
set_option autoImplicit false
/-! VX9: pins (each cell held by itself), lending: an owned slot read as a frozen one, and owned again behind it. -/
noncomputable section
namespace VS
open PySem PySem.Spec PyProof.Rows L2
section
variable {K : PySem.W.Frag} {F F1 F2 H H' : Hp}
/-- a value by itself, as data -/
def exV : V → D
  | .non => .non
  | .bl b => .bl b
  | .int i => .int i
  | .str x => .str x
  | .ref a => .adr a
  | _ => .unk
/-- what may be taken out -/
def isC : HO → Bool
  | .lst _ => true
  | .dK _ => true
  | .dT _ => true
  | _ => false
structure Agr (F F1 F2 : Hp) : Prop where
  old : ∀ b o, F b = some o → F2 b = F1 b
  oth : ∀ b o, F1 b = some o → isC o = false → F2 b = some o
theorem ow_ex {v v' : V} {A : List Addr} (h : Ow K F H (exV v) v' A) : A = [] ∧ (exV v = .unk ∨ v' = v) := by
  cases v <;> simp only [exV, Ow] at h ⊢ <;> simp_all
theorem ow_exs {v : V} : Ow K F H (exV v) v [] := by
  cases v <;> simp [exV, Ow]
theorem owL_ex : ∀ {vs vs' : List V} {A : List Addr}, OwL K F H (vs.map exV) vs' A → A = []
  | [], vs', A, h => by rw [List.map_nil, OwL] at h; exact h.2
  | v :: vs, vs', A, h => by
    rw [List.map_cons, OwL] at h
    obtain ⟨w, r, A1, A2, _, rfl, h1, h2⟩ := h
    rw [(ow_ex h1).1, owL_ex h2]; rfl
theorem owL_exs : ∀ {vs : List V}, OwL K F H (vs.map exV) vs []
  | [] => by rw [List.map_nil, OwL]; exact ⟨rfl, rfl⟩
  | v :: vs => by
    rw [List.map_cons, OwL]
    exact ⟨v, vs, [], [], rfl, rfl, ow_exs, owL_exs⟩
theorem unk_of {v : V} {A : List Addr} (e : exV v = .unk) : ∀ (d : D), Ow K F H d v A → d = .unk
  | .unk, _ => rfl
  | .non, h => by rw [Ow] at h; rw [h.1] at e; cases e
  | .bl b, h => by rw [Ow] at h; rw [h.1] at e; cases e
  | .int i, h => by rw [Ow] at h; rw [h.1] at e; cases e
  | .str x, h => by rw [Ow] at h; rw [h.1] at e; cases e
  | .adr x, h => by rw [Ow] at h; rw [h.1] at e; cases e
  | .hole, h => by rw [Ow] at h; obtain ⟨a, o, e1, _⟩ := h; rw [e1] at e; cases e
  | .exo c q, h => by rw [Ow] at h; obtain ⟨⟨a, C, d, e1, _⟩, _⟩ := h; rw [e1] at e; cases e
  | .tup ds, h => by rw [Ow] at h; obtain ⟨a, vs, h⟩ := h; rw [h.1] at e; cases e
  | .ktp ds, h => by rw [Ow] at h; obtain ⟨a, vs, h⟩ := h; rw [h.1] at e; cases e
  | .lst false ds, h => by rw [Ow] at h; obtain ⟨a, vs, h⟩ := h; rw [h.1] at e; cases e
  | .scr ds, h => by rw [Ow] at h; obtain ⟨a, vs, h⟩ := h; rw [h.1] at e; cases e
  | .lst true ds, h => by rw [Ow] at h; obtain ⟨a, vs, h⟩ := h; obtain ⟨A', h⟩ := h; rw [h.1] at e; cases e
  | .dK false ks ds, h => by rw [Ow] at h; obtain ⟨a, vs, h⟩ := h; rw [h.1] at e; cases e
  | .dK true ks ds, h => by rw [Ow] at h; obtain ⟨a, vs, h⟩ := h; obtain ⟨A', h⟩ := h; rw [h.1] at e; cases e
  | .dT false ks ds, h => by rw [Ow] at h; obtain ⟨a, vs, h⟩ := h; rw [h.1] at e; cases e
  | .dT true ks ds, h => by rw [Ow] at h; obtain ⟨a, vs, h⟩ := h; obtain ⟨A', h⟩ := h; rw [h.1] at e; cases e
  | .lK ks ds, h => by rw [Ow] at h; obtain ⟨a, vs, h⟩ := h; rw [h.1] at e; cases e
  | .lT ks ds, h => by rw [Ow] at h; obtain ⟨a, vs, h⟩ := h; rw [h.1] at e; cases e
  | .lck u, h => by rw [Ow] at h; obtain ⟨⟨a, h⟩, _⟩ := h; rw [h.1] at e; cases e
theorem exo_agr {c : Str} {q : Option (Str × Int)} {v : V} {A : List Addr} (g : Agr F F1 F2) (k : Ow K F1 H' (.exo c q) v A) : Ow K F2 H' (.exo c q) v A := by
  rw [Ow] at k ⊢
  obtain ⟨⟨a, C, d, e, w, n, k⟩, z⟩ := k
  refine ⟨⟨a, C, d, e, g.oth _ _ w rfl, n, ?_⟩, z⟩
  cases q with
  | none => exact k
  | some q =>
    obtain ⟨b, e1, e2⟩ := k
    exact ⟨b, e1, g.oth _ _ e2 rfl⟩
mutual
theorem Ow.pin : ∀ (d : D) (v : V) (A : List Addr), Ow K F H d v A → ∃ P, OwT K F H P A ∧ ∀ F1 F2 H' A', Agr F F1 F2 → OwT K F1 H' P A' → Ow K F2 H' d v A'
  | .unk, v, A, h => ⟨[(.unk, v)], ⟨A, [], by simp, h, rfl⟩, fun F1 F2 H' A' _ k => by obtain ⟨A1, A2, rfl, k, e⟩ := k; have e : A2 = [] := e; subst e; rw [List.append_nil, Ow]; rw [Ow] at k; exact k⟩
  | .non, v, A, h => ⟨[(.non, v)], ⟨A, [], by simp, h, rfl⟩, fun F1 F2 H' A' _ k => by obtain ⟨A1, A2, rfl, k, e⟩ := k; have e : A2 = [] := e; subst e; rw [List.append_nil, Ow]; rw [Ow] at k; exact k⟩
  | .bl b, v, A, h => ⟨[(.bl b, v)], ⟨A, [], by simp, h, rfl⟩, fun F1 F2 H' A' _ k => by obtain ⟨A1, A2, rfl, k, e⟩ := k; have e : A2 = [] := e; subst e; rw [List.append_nil, Ow]; rw [Ow] at k; exact k⟩
  | .int i, v, A, h => ⟨[(.int i, v)], ⟨A, [], by simp, h, rfl⟩, fun F1 F2 H' A' _ k => by obtain ⟨A1, A2, rfl, k, e⟩ := k; have e : A2 = [] := e; subst e; rw [List.append_nil, Ow]; rw [Ow] at k; exact k⟩
  | .str x, v, A, h => ⟨[(.str x, v)], ⟨A, [], by simp, h, rfl⟩, fun F1 F2 H' A' _ k => by obtain ⟨A1, A2, rfl, k, e⟩ := k; have e : A2 = [] := e; subst e; rw [List.append_nil, Ow]; rw [Ow] at k; exact k⟩
  | .adr x, v, A, h => ⟨[(.adr x, v)], ⟨A, [], by simp, h, rfl⟩, fun F1 F2 H' A' _ k => by obtain ⟨A1, A2, rfl, k, e⟩ := k; have e : A2 = [] := e; subst e; rw [List.append_nil, Ow]; rw [Ow] at k; exact k⟩
  | .hole, v, A, h => ⟨[(.hole, v)], ⟨A, [], by simp, h, rfl⟩, fun F1 F2 H' A' _ k => by obtain ⟨A1, A2, rfl, k, e⟩ := k; have e : A2 = [] := e; subst e; rw [List.append_nil, Ow]; rw [Ow] at k; exact k⟩
  | .exo c q, v, A, h => ⟨[(.exo c q, v)], ⟨A, [], by simp, h, rfl⟩, fun F1 F2 H' A' g k => by
    obtain ⟨A1, A2, rfl, k, e⟩ := k
    have e : A2 = [] := e
    subst e
    rw [List.append_nil]
    exact exo_agr g k⟩
  | .tup ds, v, A, h => by
    rw [Ow] at h
    obtain ⟨a, vs, rfl, q, l⟩ := h
    obtain ⟨P, h1, h2⟩ := OwL.pin ds vs _ l
    refine ⟨(.tup (vs.map exV), .ref a) :: P, ⟨[], A, rfl, by rw [Ow]; exact ⟨a, vs, rfl, q, owL_exs⟩, h1⟩, fun F1 F2 H' B g k => ?_⟩
    obtain ⟨A1, A2, rfl, k, o⟩ := k
    rw [Ow] at k ⊢
    obtain ⟨a', vs', e, q', l'⟩ := k
    cases e
    have e := owL_ex l'
    subst e
    exact ⟨a, vs', rfl, by rw [g.old _ _ q]; exact q', h2 F1 F2 H' _ vs' g l' o⟩
  | .ktp ds, v, A, h => by
    rw [Ow] at h
    obtain ⟨a, vs, rfl, q, l⟩ := h
    obtain ⟨P, h1, h2⟩ := OwL.pin ds vs _ l
    rcases q with q0 | q0
    · refine ⟨(.ktp (vs.map exV), .ref a) :: P, ⟨[], A, rfl, by rw [Ow]; exact ⟨a, vs, rfl, .inl q0, owL_exs⟩, h1⟩, fun F1 F2 H' B g k => ?_⟩
      obtain ⟨A1, A2, rfl, k, o⟩ := k
      rw [Ow] at k ⊢
      obtain ⟨a', vs', e, q', l'⟩ := k
      cases e
      have e := owL_ex l'
      subst e
      refine ⟨a, vs', rfl, ?_, h2 F1 F2 H' _ vs' g l' o⟩
      rcases q' with (q' | ⟨u, q'⟩) | q'
      · exact .inl (.inl (by rcases q0 with q | ⟨_, q⟩ <;> (rw [g.old _ _ q]; exact q')))
      · exact .inl (.inr ⟨u, by rcases q0 with q | ⟨_, q⟩ <;> (rw [g.old _ _ q]; exact q')⟩)
      · exact .inr q'
    · refine ⟨P, h1, fun F1 F2 H' B g k => ?_⟩
      rw [Ow]
      exact ⟨a, vs, rfl, .inr q0, h2 F1 F2 H' _ vs g owL_exs k⟩
  | .lst false ds, v, A, h => by
    rw [Ow] at h
    obtain ⟨a, vs, rfl, q, l⟩ := h
    obtain ⟨P, h1, h2⟩ := OwL.pin ds vs _ l
    refine ⟨(.lst false (vs.map exV), .ref a) :: P, ⟨[], A, rfl, by rw [Ow]; exact ⟨a, vs, rfl, q, owL_exs⟩, h1⟩, fun F1 F2 H' B g k => ?_⟩
    obtain ⟨A1, A2, rfl, k, o⟩ := k
    rw [Ow] at k ⊢
    obtain ⟨a', vs', e, q', l'⟩ := k
    cases e
    have e := owL_ex l'
    subst e
    exact ⟨a, vs', rfl, by rw [g.old _ _ q]; exact q', h2 F1 F2 H' _ vs' g l' o⟩
  | .scr ds, v, A, h => by
    rw [Ow] at h
    obtain ⟨a, vs, rfl, q, l⟩ := h
    obtain ⟨P, h1, h2⟩ := OwL.pin ds vs _ l
    rcases q with q0 | q0
    · refine ⟨(.scr (vs.map exV), .ref a) :: P, ⟨[], A, rfl, by rw [Ow]; exact ⟨a, vs, rfl, .inl q0, owL_exs⟩, h1⟩, fun F1 F2 H' B g k => ?_⟩
      obtain ⟨A1, A2, rfl, k, o⟩ := k
      rw [Ow] at k ⊢
      obtain ⟨a', vs', e, q', l'⟩ := k
      cases e
      have e := owL_ex l'
      subst e
      refine ⟨a, vs', rfl, ?_, h2 F1 F2 H' _ vs' g l' o⟩
      rcases q' with (q' | ⟨u, q'⟩) | q'
      · exact .inl (.inl (by rcases q0 with q | ⟨_, q⟩ <;> (rw [g.old _ _ q]; exact q')))
      · exact .inl (.inr ⟨u, by rcases q0 with q | ⟨_, q⟩ <;> (rw [g.old _ _ q]; exact q')⟩)
      · exact .inr q'
    · refine ⟨P, h1, fun F1 F2 H' B g k => ?_⟩
      rw [Ow]
      exact ⟨a, vs, rfl, .inr q0, h2 F1 F2 H' _ vs g owL_exs k⟩
  | .lst true ds, v, A, h => by
    rw [Ow] at h
    obtain ⟨a, vs, A', rfl, q, l, rfl⟩ := h
    obtain ⟨P, h1, h2⟩ := OwL.pin ds vs _ l
    refine ⟨(.lst true (vs.map exV), .ref a) :: P, ⟨[a], A', rfl, by rw [Ow]; exact ⟨a, vs, [], rfl, q, owL_exs, rfl⟩, h1⟩, fun F1 F2 H' B g k => ?_⟩
    obtain ⟨A1, A2, rfl, k, o⟩ := k
    rw [Ow] at k ⊢
    obtain ⟨a', vs', B', e, q', l', rfl⟩ := k
    cases e
    have e := owL_ex l'
    subst e
    exact ⟨a, vs', A2, rfl, q', h2 F1 F2 H' _ vs' g l' o, rfl⟩
  | .dK false ks ds, v, A, h => by
    rw [Ow] at h
    obtain ⟨a, vs, rfl, q, n, l⟩ := h
    obtain ⟨P, h1, h2⟩ := OwL.pin ds vs _ l
    refine ⟨(.dK false ks (vs.map exV), .ref a) :: P, ⟨[], A, rfl, by rw [Ow]; exact ⟨a, vs, rfl, q, ⟨by rw [List.length_map, ← l.length]; exact n.1, n.2⟩, owL_exs⟩, h1⟩, fun F1 F2 H' B g k => ?_⟩
    obtain ⟨A1, A2, rfl, k, o⟩ := k
    rw [Ow] at k ⊢
    obtain ⟨a', vs', e, q', n', l'⟩ := k
    cases e
    have e := owL_ex l'
    subst e
    exact ⟨a, vs', rfl, by rw [g.old _ _ q]; exact q', n, h2 F1 F2 H' _ vs' g l' o⟩
  | .dK true ks ds, v, A, h => by
    rw [Ow] at h
    obtain ⟨a, vs, A', rfl, q, n, l, rfl⟩ := h
    obtain ⟨P, h1, h2⟩ := OwL.pin ds vs _ l
    refine ⟨(.dK true ks (vs.map exV), .ref a) :: P, ⟨[a], A', rfl, by rw [Ow]; exact ⟨a, vs, [], rfl, q, ⟨by rw [List.length_map, ← l.length]; exact n.1, n.2⟩, owL_exs, rfl⟩, h1⟩, fun F1 F2 H' B g k => ?_⟩
    obtain ⟨A1, A2, rfl, k, o⟩ := k
    rw [Ow] at k ⊢
    obtain ⟨a', vs', B', e, q', n', l', rfl⟩ := k
    cases e
    have e := owL_ex l'
    subst e
    exact ⟨a, vs', A2, rfl, q', n, h2 F1 F2 H' _ vs' g l' o, rfl⟩
  | .dT false ks ds, v, A, h => by
    rw [Ow] at h
    obtain ⟨a, vs, rfl, q, n, l⟩ := h
    obtain ⟨P, h1, h2⟩ := OwL.pin ds vs _ l
    refine ⟨(.dT false ks (vs.map exV), .ref a) :: P, ⟨[], A, rfl, by rw [Ow]; exact ⟨a, vs, rfl, q, ⟨by rw [List.length_map, ← l.length]; exact n.1, n.2⟩, owL_exs⟩, h1⟩, fun F1 F2 H' B g k => ?_⟩
    obtain ⟨A1, A2, rfl, k, o⟩ := k
    rw [Ow] at k ⊢
    obtain ⟨a', vs', e, q', n', l'⟩ := k
    cases e
    have e := owL_ex l'
    subst e
    exact ⟨a, vs', rfl, by rw [g.old _ _ q]; exact q', n, h2 F1 F2 H' _ vs' g l' o⟩
  | .dT true ks ds, v, A, h => by
    rw [Ow] at h
    obtain ⟨a, vs, A', rfl, q, n, l, rfl⟩ := h
    obtain ⟨P, h1, h2⟩ := OwL.pin ds vs _ l
    refine ⟨(.dT true ks (vs.map exV), .ref a) :: P, ⟨[a], A', rfl, by rw [Ow]; exact ⟨a, vs, [], rfl, q, ⟨by rw [List.length_map, ← l.length]; exact n.1, n.2⟩, owL_exs, rfl⟩, h1⟩, fun F1 F2 H' B g k => ?_⟩
    obtain ⟨A1, A2, rfl, k, o⟩ := k
    rw [Ow] at k ⊢
    obtain ⟨a', vs', B', e, q', n', l', rfl⟩ := k
    cases e
    have e := owL_ex l'
    subst e
    exact ⟨a, vs', A2, rfl, q', n, h2 F1 F2 H' _ vs' g l' o, rfl⟩
  | .lK ks ds, v, A, h => by
    rw [Ow] at h
    obtain ⟨a, vs, rfl, ⟨o, q⟩, n, l⟩ := h
    obtain ⟨P, h1, h2⟩ := OwL.pin ds vs _ l
    refine ⟨(.lck (.frz o (.dK (ks.zip vs))), .ref a) :: P, ⟨[], A, rfl, by rw [Ow]; exact ⟨⟨a, rfl, q⟩, rfl⟩, h1⟩, fun F1 F2 H' B g k => ?_⟩
    obtain ⟨A1, A2, rfl, k, o2⟩ := k
    rw [Ow] at k
    rw [Ow]
    obtain ⟨⟨a', e, q'⟩, e2⟩ := k
    cases e
    subst e2
    exact ⟨a, vs, rfl, ⟨o, g.oth _ _ q' rfl⟩, n, h2 F1 F2 H' _ vs g owL_exs o2⟩
  | .lT ks ds, v, A, h => by
    rw [Ow] at h
    obtain ⟨a, vs, rfl, ⟨o, q⟩, n, l⟩ := h
    obtain ⟨P, h1, h2⟩ := OwL.pin ds vs _ l
    refine ⟨(.lck (.frz o (.dT (ks.zip vs))), .ref a) :: P, ⟨[], A, rfl, by rw [Ow]; exact ⟨⟨a, rfl, q⟩, rfl⟩, h1⟩, fun F1 F2 H' B g k => ?_⟩
    obtain ⟨A1, A2, rfl, k, o2⟩ := k
    rw [Ow] at k
    rw [Ow]
    obtain ⟨⟨a', e, q'⟩, e2⟩ := k
    cases e
    subst e2
    exact ⟨a, vs, rfl, ⟨o, g.oth _ _ q' rfl⟩, n, h2 F1 F2 H' _ vs g owL_exs o2⟩
  | .lck u, v, A, h => by
    have h0 := h
    rw [Ow] at h
    obtain ⟨⟨a, rfl, q⟩, rfl⟩ := h
    refine ⟨[(.lck u, .ref a)], ⟨[], [], rfl, h0, rfl⟩, fun F1 F2 H' B g k => ?_⟩
    obtain ⟨A1, A2, rfl, k, e⟩ := k
    have e : A2 = [] := e
    subst e
    rw [Ow] at k
    rw [Ow]
    obtain ⟨⟨a', e, q'⟩, e2⟩ := k
    cases e
    subst e2
    exact ⟨⟨a, rfl, by rw [g.old _ _ q]; exact q'⟩, rfl⟩
theorem OwL.pin : ∀ (ds : List D) (vs : List V) (A : List Addr), OwL K F H ds vs A → ∃ P, OwT K F H P A ∧ ∀ F1 F2 H' A' vs', Agr F F1 F2 → OwL K F1 H' (vs.map exV) vs' [] → OwT K F1 H' P A' → OwL K F2 H' ds vs' A'
  | [], vs, A, h => by
    rw [OwL] at h
    obtain ⟨rfl, rfl⟩ := h
    refine ⟨[], rfl, fun F1 F2 H' A' vs' _ l k => ?_⟩
    rw [List.map_nil, OwL] at l
    rw [OwL]
    exact ⟨l.1, k⟩
  | d :: ds, vs, A, h => by
    rw [OwL] at h
    obtain ⟨v, r, A1, A2, rfl, rfl, h1, h2⟩ := h
    obtain ⟨P1, p1, k1⟩ := Ow.pin d v A1 h1
    obtain ⟨P2, p2, k2⟩ := OwL.pin ds r A2 h2
    refine ⟨P1 ++ P2, p1.append p2, fun F1 F2 H' A' vs' g l k => ?_⟩
    obtain ⟨B1, B2, rfl, o1, o2⟩ := k.split
    rw [List.map_cons, OwL] at l
    obtain ⟨w, r', C1, C2, rfl, e, l1, l2⟩ := l
    obtain ⟨rfl, rfl⟩ := List.append_eq_nil_iff.mp e.symm
    rw [OwL]
    refine ⟨w, r', B1, B2, rfl, rfl, ?_, k2 F1 F2 H' B2 r' g l2 o2⟩
    have m := k1 F1 F2 H' B1 g o1
    rcases (ow_ex l1).2 with z | rfl
    · have e := unk_of z d h1
      subst e
      rw [Ow] at m ⊢
      exact m
    · exact m
end
theorem fzzT {ds : List D} (h : fz (VS.freeze (.tup ds)) = true) : fzL (freezeL ds) = true := by rw [VS.freeze, fz] at h; exact h
theorem fzzK {ds : List D} (h : fz (VS.freeze (.ktp ds)) = true) : fzL (freezeL ds) = true := by rw [VS.freeze, fz] at h; exact h
theorem fzzS {ds : List D} (h : fz (VS.freeze (.scr ds)) = true) : fzL (freezeL ds) = true := by rw [VS.freeze, fz] at h; exact h
theorem fzzL {o : Bool} {ds : List D} (h : fz (VS.freeze (.lst o ds)) = true) : fzL (freezeL ds) = true := by rw [VS.freeze, fz] at h; simpa using h
theorem fzzD {o : Bool} {ks : List Key} {ds : List D} (h : fz (VS.freeze (.dK o ks ds)) = true) : fzL (freezeL ds) = true := by rw [VS.freeze, fz] at h; simpa using h
theorem fzzE {o : Bool} {ks : List (List Key)} {ds : List D} (h : fz (VS.freeze (.dT o ks ds)) = true) : fzL (freezeL ds) = true := by rw [VS.freeze, fz] at h; simpa using h
theorem fzzlK {ks : List Key} {ds : List D} (h : fz (VS.freeze (.lK ks ds)) = true) : fzL (freezeL ds) = true := by rw [VS.freeze, fz] at h; exact h
theorem fzzlT {ks : List (List Key)} {ds : List D} (h : fz (VS.freeze (.lT ks ds)) = true) : fzL (freezeL ds) = true := by rw [VS.freeze, fz] at h; exact h
mutual
theorem Ow.pinF : ∀ (d : D) (v : V) (A : List Addr), fz (VS.freeze d) = true → Ow K F H d v A → ∃ P, (∀ F' H1, Same F F' → (∀ a ∈ A, F' a = H a) → OwT K F' H1 P []) ∧ ∀ F1 F2 H', Agr F F1 F2 → Same F1 H' → ∀ B, OwT K F1 H' P B → Ow K F2 H' d v A ∧ ∀ a ∈ A, ∃ o, F1 a = some o ∧ isC o = true
  | .unk, v, A, z, h => by simp [VS.freeze, fz] at z
  | .non, v, A, z, h => ⟨[(.non, v)], fun F' H1 _ _ => ⟨[], [], rfl, by rw [Ow] at h ⊢; exact ⟨h.1, rfl⟩, rfl⟩, fun F1 F2 H' _ _ B k => by rw [Ow] at h ⊢; exact ⟨h, fun a ha => by rw [h.2] at ha; cases ha⟩⟩
  | .bl b, v, A, z, h => ⟨[(.bl b, v)], fun F' H1 _ _ => ⟨[], [], rfl, by rw [Ow] at h ⊢; exact ⟨h.1, rfl⟩, rfl⟩, fun F1 F2 H' _ _ B k => by rw [Ow] at h ⊢; exact ⟨h, fun a ha => by rw [h.2] at ha; cases ha⟩⟩
  | .int i, v, A, z, h => ⟨[(.int i, v)], fun F' H1 _ _ => ⟨[], [], rfl, by rw [Ow] at h ⊢; exact ⟨h.1, rfl⟩, rfl⟩, fun F1 F2 H' _ _ B k => by rw [Ow] at h ⊢; exact ⟨h, fun a ha => by rw [h.2] at ha; cases ha⟩⟩
  | .str x, v, A, z, h => ⟨[(.str x, v)], fun F' H1 _ _ => ⟨[], [], rfl, by rw [Ow] at h ⊢; exact ⟨h.1, rfl⟩, rfl⟩, fun F1 F2 H' _ _ B k => by rw [Ow] at h ⊢; exact ⟨h, fun a ha => by rw [h.2] at ha; cases ha⟩⟩
  | .adr x, v, A, z, h => ⟨[(.adr x, v)], fun F' H1 _ _ => ⟨[], [], rfl, by rw [Ow] at h ⊢; exact ⟨h.1, rfl⟩, rfl⟩, fun F1 F2 H' _ _ B k => by rw [Ow] at h ⊢; exact ⟨h, fun a ha => by rw [h.2] at ha; cases ha⟩⟩
  | .hole, v, A, z, h => by simp [VS.freeze, fz] at z
  | .exo c q, v, A, z, h => ⟨[(.exo c q, v)], fun F' H1 sF _ => ⟨[], [], rfl, by
      have e := h.frozen _ _ _ (by rfl)
      subst e
      exact h.keep sF _ _ _ (fun a ha => by cases ha), rfl⟩, fun F1 F2 H' g _ B k => by
    obtain ⟨A1, A2, rfl, k, e⟩ := k
    have e1 := h.frozen _ _ _ (by rfl)
    have e2 := k.frozen _ _ _ (by rfl)
    subst e1
    have k : Ow K F1 H' (.exo c q) v A1 := k
    rw [e2] at k
    exact ⟨exo_agr g k, fun a ha => by cases ha⟩⟩
  | .tup ds, v, A, z, h => by
    rw [Ow] at h
    have z := fzzT z
    obtain ⟨a, vs, rfl, q, l⟩ := h
    obtain ⟨P, h1, h2⟩ := OwL.pinF ds vs _ z l
    refine ⟨(.tup (vs.map exV), .ref a) :: P, fun F' H1 sF kA => ⟨[], [], rfl, by rw [Ow]; exact ⟨a, vs, rfl, sF _ _ q, owL_exs⟩, h1 F' H1 sF kA⟩, fun F1 F2 H' g sH B k => ?_⟩
    obtain ⟨A1, A2, rfl, k, o⟩ := k
    rw [Ow] at k ⊢
    obtain ⟨a', vs', e, q', l'⟩ := k
    cases e
    have e := owL_ex l'
    subst e
    obtain ⟨m1, m2⟩ := h2 F1 F2 H' g sH vs' l' _ o
    exact ⟨⟨a, vs', rfl, by rw [g.old _ _ q]; exact q', m1⟩, m2⟩
  | .ktp ds, v, A, z, h => by
    rw [Ow] at h
    have z := fzzK z
    obtain ⟨a, vs, rfl, q, l⟩ := h
    obtain ⟨P, h1, h2⟩ := OwL.pinF ds vs _ z l
    rcases q with q0 | q0
    · refine ⟨(.ktp (vs.map exV), .ref a) :: P, fun F' H1 sF kA => ⟨[], [], rfl, by rw [Ow]; exact ⟨a, vs, rfl, Same.sqT sF (.inl q0), owL_exs⟩, h1 F' H1 sF kA⟩, fun F1 F2 H' g sH B k => ?_⟩
      obtain ⟨A1, A2, rfl, k, o⟩ := k
      rw [Ow] at k ⊢
      obtain ⟨a', vs', e, q', l'⟩ := k
      cases e
      have e := owL_ex l'
      subst e
      obtain ⟨m1, m2⟩ := h2 F1 F2 H' g sH vs' l' _ o
      refine ⟨⟨a, vs', rfl, ?_, m1⟩, m2⟩
      rcases q' with (q' | ⟨u, q'⟩) | q'
      · exact .inl (.inl (by rcases q0 with q | ⟨_, q⟩ <;> (rw [g.old _ _ q]; exact q')))
      · exact .inl (.inr ⟨u, by rcases q0 with q | ⟨_, q⟩ <;> (rw [g.old _ _ q]; exact q')⟩)
      · exact .inr q'
    · refine ⟨P, h1, fun F1 F2 H' g sH B k => ?_⟩
      rw [Ow]
      obtain ⟨m1, m2⟩ := h2 F1 F2 H' g sH vs owL_exs _ k
      exact ⟨⟨a, vs, rfl, .inr q0, m1⟩, m2⟩
  | .lst false ds, v, A, z, h => by
    rw [Ow] at h
    have z := fzzL z
    obtain ⟨a, vs, rfl, q, l⟩ := h
    obtain ⟨P, h1, h2⟩ := OwL.pinF ds vs _ z l
    refine ⟨(.lst false (vs.map exV), .ref a) :: P, fun F' H1 sF kA => ⟨[], [], rfl, by rw [Ow]; exact ⟨a, vs, rfl, sF _ _ q, owL_exs⟩, h1 F' H1 sF kA⟩, fun F1 F2 H' g sH B k => ?_⟩
    obtain ⟨A1, A2, rfl, k, o⟩ := k
    rw [Ow] at k ⊢
    obtain ⟨a', vs', e, q', l'⟩ := k
    cases e
    have e := owL_ex l'
    subst e
    obtain ⟨m1, m2⟩ := h2 F1 F2 H' g sH vs' l' _ o
    exact ⟨⟨a, vs', rfl, by rw [g.old _ _ q]; exact q', m1⟩, m2⟩
  | .scr ds, v, A, z, h => by
    rw [Ow] at h
    have z := fzzS z
    obtain ⟨a, vs, rfl, q, l⟩ := h
    obtain ⟨P, h1, h2⟩ := OwL.pinF ds vs _ z l
    rcases q with q0 | q0
    · refine ⟨(.scr (vs.map exV), .ref a) :: P, fun F' H1 sF kA => ⟨[], [], rfl, by rw [Ow]; exact ⟨a, vs, rfl, sF.seq (.inl q0), owL_exs⟩, h1 F' H1 sF kA⟩, fun F1 F2 H' g sH B k => ?_⟩
      obtain ⟨A1, A2, rfl, k, o⟩ := k
      rw [Ow] at k ⊢
      obtain ⟨a', vs', e, q', l'⟩ := k
      cases e
      have e := owL_ex l'
      subst e
      obtain ⟨m1, m2⟩ := h2 F1 F2 H' g sH vs' l' _ o
      refine ⟨⟨a, vs', rfl, ?_, m1⟩, m2⟩
      rcases q' with (q' | ⟨u, q'⟩) | q'
      · exact .inl (.inl (by rcases q0 with q | ⟨_, q⟩ <;> (rw [g.old _ _ q]; exact q')))
      · exact .inl (.inr ⟨u, by rcases q0 with q | ⟨_, q⟩ <;> (rw [g.old _ _ q]; exact q')⟩)
      · exact .inr q'
    · refine ⟨P, h1, fun F1 F2 H' g sH B k => ?_⟩
      rw [Ow]
      obtain ⟨m1, m2⟩ := h2 F1 F2 H' g sH vs owL_exs _ k
      exact ⟨⟨a, vs, rfl, .inr q0, m1⟩, m2⟩
  | .lst true ds, v, A, z, h => by
    rw [Ow] at h
    have z := fzzL z
    obtain ⟨a, vs, A', rfl, q, l, rfl⟩ := h
    obtain ⟨P, h1, h2⟩ := OwL.pinF ds vs _ z l
    refine ⟨(.lst false (vs.map exV), .ref a) :: P, fun F' H1 sF kA => ⟨[], [], rfl, by rw [Ow]; exact ⟨a, vs, rfl, by rw [kA a (by simp)]; exact q, owL_exs⟩, h1 F' H1 sF fun b hb => kA b (List.mem_cons_of_mem _ hb)⟩, fun F1 F2 H' g sH B k => ?_⟩
    obtain ⟨A1, A2, rfl, k, o⟩ := k
    rw [Ow] at k
    rw [Ow]
    obtain ⟨a', vs', e, q', l'⟩ := k
    cases e
    have e := owL_ex l'
    subst e
    obtain ⟨m1, m2⟩ := h2 F1 F2 H' g sH vs' l' _ o
    exact ⟨⟨a, vs', A', rfl, sH _ _ q', m1, rfl⟩, fun b hb => (List.mem_cons.mp hb).elim (fun e => ⟨_, (congrArg F1 e).trans q', rfl⟩) (m2 b)⟩
  | .dK false ks ds, v, A, z, h => by
    rw [Ow] at h
    have z := fzzD z
    obtain ⟨a, vs, rfl, q, n, l⟩ := h
    obtain ⟨P, h1, h2⟩ := OwL.pinF ds vs _ z l
    refine ⟨(.dK false ks (vs.map exV), .ref a) :: P, fun F' H1 sF kA => ⟨[], [], rfl, by rw [Ow]; exact ⟨a, vs, rfl, sF _ _ q, ⟨by rw [List.length_map, ← l.length]; exact n.1, n.2⟩, owL_exs⟩, h1 F' H1 sF kA⟩, fun F1 F2 H' g sH B k => ?_⟩
    obtain ⟨A1, A2, rfl, k, o⟩ := k
    rw [Ow] at k ⊢
    obtain ⟨a', vs', e, q', n', l'⟩ := k
    cases e
    have e := owL_ex l'
    subst e
    obtain ⟨m1, m2⟩ := h2 F1 F2 H' g sH vs' l' _ o
    exact ⟨⟨a, vs', rfl, by rw [g.old _ _ q]; exact q', n, m1⟩, m2⟩
  | .dK true ks ds, v, A, z, h => by
    rw [Ow] at h
    have z := fzzD z
    obtain ⟨a, vs, A', rfl, q, n, l, rfl⟩ := h
    obtain ⟨P, h1, h2⟩ := OwL.pinF ds vs _ z l
    refine ⟨(.dK false ks (vs.map exV), .ref a) :: P, fun F' H1 sF kA => ⟨[], [], rfl, by rw [Ow]; exact ⟨a, vs, rfl, by rw [kA a (by simp)]; exact q, ⟨by rw [List.length_map, ← l.length]; exact n.1, n.2⟩, owL_exs⟩, h1 F' H1 sF fun b hb => kA b (List.mem_cons_of_mem _ hb)⟩, fun F1 F2 H' g sH B k => ?_⟩
    obtain ⟨A1, A2, rfl, k, o⟩ := k
    rw [Ow] at k
    rw [Ow]
    obtain ⟨a', vs', e, q', n', l'⟩ := k
    cases e
    have e := owL_ex l'
    subst e
    obtain ⟨m1, m2⟩ := h2 F1 F2 H' g sH vs' l' _ o
    exact ⟨⟨a, vs', A', rfl, sH _ _ q', n, m1, rfl⟩, fun b hb => (List.mem_cons.mp hb).elim (fun e => ⟨_, (congrArg F1 e).trans q', rfl⟩) (m2 b)⟩
  | .dT false ks ds, v, A, z, h => by
    rw [Ow] at h
    have z := fzzE z
    obtain ⟨a, vs, rfl, q, n, l⟩ := h
    obtain ⟨P, h1, h2⟩ := OwL.pinF ds vs _ z l
    refine ⟨(.dT false ks (vs.map exV), .ref a) :: P, fun F' H1 sF kA => ⟨[], [], rfl, by rw [Ow]; exact ⟨a, vs, rfl, sF _ _ q, ⟨by rw [List.length_map, ← l.length]; exact n.1, n.2⟩, owL_exs⟩, h1 F' H1 sF kA⟩, fun F1 F2 H' g sH B k => ?_⟩
    obtain ⟨A1, A2, rfl, k, o⟩ := k
    rw [Ow] at k ⊢
    obtain ⟨a', vs', e, q', n', l'⟩ := k
    cases e
    have e := owL_ex l'
    subst e
    obtain ⟨m1, m2⟩ := h2 F1 F2 H' g sH vs' l' _ o
    exact ⟨⟨a, vs', rfl, by rw [g.old _ _ q]; exact q', n, m1⟩, m2⟩
  | .dT true ks ds, v, A, z, h => by
    rw [Ow] at h
    have z := fzzE z
    obtain ⟨a, vs, A', rfl, q, n, l, rfl⟩ := h
    obtain ⟨P, h1, h2⟩ := OwL.pinF ds vs _ z l
    refine ⟨(.dT false ks (vs.map exV), .ref a) :: P, fun F' H1 sF kA => ⟨[], [], rfl, by rw [Ow]; exact ⟨a, vs, rfl, by rw [kA a (by simp)]; exact q, ⟨by rw [List.length_map, ← l.length]; exact n.1, n.2⟩, owL_exs⟩, h1 F' H1 sF fun b hb => kA b (List.mem_cons_of_mem _ hb)⟩, fun F1 F2 H' g sH B k => ?_⟩
    obtain ⟨A1, A2, rfl, k, o⟩ := k
    rw [Ow] at k
    rw [Ow]
    obtain ⟨a', vs', e, q', n', l'⟩ := k
    cases e
    have e := owL_ex l'
    subst e
    obtain ⟨m1, m2⟩ := h2 F1 F2 H' g sH vs' l' _ o
    exact ⟨⟨a, vs', A', rfl, sH _ _ q', n, m1, rfl⟩, fun b hb => (List.mem_cons.mp hb).elim (fun e => ⟨_, (congrArg F1 e).trans q', rfl⟩) (m2 b)⟩
  | .lK ks ds, v, A, z, h => by
    rw [Ow] at h
    have z := fzzlK z
    obtain ⟨a, vs, rfl, ⟨o, q⟩, n, l⟩ := h
    obtain ⟨P, h1, h2⟩ := OwL.pinF ds vs _ z l
    refine ⟨(.lck (.frz o (.dK (ks.zip vs))), .ref a) :: P, fun F' H1 sF kA => ⟨[], [], rfl, by rw [Ow]; exact ⟨⟨a, rfl, sF _ _ q⟩, rfl⟩, h1 F' H1 sF kA⟩, fun F1 F2 H' g sH B k => ?_⟩
    obtain ⟨A1, A2, rfl, k, o2⟩ := k
    rw [Ow] at k
    rw [Ow]
    obtain ⟨⟨a', e, q'⟩, e2⟩ := k
    cases e
    subst e2
    obtain ⟨m1, m2⟩ := h2 F1 F2 H' g sH vs owL_exs _ o2
    exact ⟨⟨a, vs, rfl, ⟨o, g.oth _ _ q' rfl⟩, n, m1⟩, m2⟩
  | .lT ks ds, v, A, z, h => by
    rw [Ow] at h
    have z := fzzlT z
    obtain ⟨a, vs, rfl, ⟨o, q⟩, n, l⟩ := h
    obtain ⟨P, h1, h2⟩ := OwL.pinF ds vs _ z l
    refine ⟨(.lck (.frz o (.dT (ks.zip vs))), .ref a) :: P, fun F' H1 sF kA => ⟨[], [], rfl, by rw [Ow]; exact ⟨⟨a, rfl, sF _ _ q⟩, rfl⟩, h1 F' H1 sF kA⟩, fun F1 F2 H' g sH B k => ?_⟩
    obtain ⟨A1, A2, rfl, k, o2⟩ := k
    rw [Ow] at k
    rw [Ow]
    obtain ⟨⟨a', e, q'⟩, e2⟩ := k
    cases e
    subst e2
    obtain ⟨m1, m2⟩ := h2 F1 F2 H' g sH vs owL_exs _ o2
    exact ⟨⟨a, vs, rfl, ⟨o, g.oth _ _ q' rfl⟩, n, m1⟩, m2⟩
  | .lck u, v, A, z, h => by
    rw [Ow] at h
    obtain ⟨⟨a, rfl, q⟩, rfl⟩ := h
    refine ⟨[(.lck u, .ref a)], fun F' H1 sF _ => ⟨[], [], rfl, by rw [Ow]; exact ⟨⟨a, rfl, sF _ _ q⟩, rfl⟩, rfl⟩, fun F1 F2 H' g sH B k => ?_⟩
    obtain ⟨A1, A2, rfl, k, e⟩ := k
    rw [Ow] at k
    rw [Ow]
    obtain ⟨⟨a', e, q'⟩, e2⟩ := k
    cases e
    exact ⟨⟨⟨a, rfl, by rw [g.old _ _ q]; exact q'⟩, rfl⟩, fun a ha => by cases ha⟩
theorem OwL.pinF : ∀ (ds : List D) (vs : List V) (A : List Addr), fzL (freezeL ds) = true → OwL K F H ds vs A → ∃ P, (∀ F' H1, Same F F' → (∀ a ∈ A, F' a = H a) → OwT K F' H1 P []) ∧ ∀ F1 F2 H', Agr F F1 F2 → Same F1 H' → ∀ vs', OwL K F1 H' (vs.map exV) vs' [] → ∀ B, OwT K F1 H' P B → OwL K F2 H' ds vs' A ∧ ∀ a ∈ A, ∃ o, F1 a = some o ∧ isC o = true
  | [], vs, A, z, h => by
    rw [OwL] at h
    obtain ⟨rfl, rfl⟩ := h
    refine ⟨[], fun _ _ _ _ => rfl, fun F1 F2 H' _ _ vs' l B k => ?_⟩
    rw [List.map_nil, OwL] at l
    rw [OwL]
    exact ⟨⟨l.1, rfl⟩, fun a ha => by cases ha⟩
  | d :: ds, vs, A, z, h => by
    rw [OwL] at h
    rw [freezeL, fzL, Bool.and_eq_true] at z
    obtain ⟨v, r, A1, A2, rfl, rfl, h1, h2⟩ := h
    obtain ⟨P1, p1, k1⟩ := Ow.pinF d v A1 z.1 h1
    obtain ⟨P2, p2, k2⟩ := OwL.pinF ds r A2 z.2 h2
    refine ⟨P1 ++ P2, fun F' H1 sF kA => (p1 F' H1 sF fun b hb => kA b (List.mem_append_left _ hb)).append (p2 F' H1 sF fun b hb => kA b (List.mem_append_right _ hb)), fun F1 F2 H' g sH vs' l B k => ?_⟩
    obtain ⟨B1, B2, rfl, o1, o2⟩ := k.split
    rw [List.map_cons, OwL] at l
    obtain ⟨w, r', C1, C2, rfl, e, l1, l2⟩ := l
    obtain ⟨rfl, rfl⟩ := List.append_eq_nil_iff.mp e.symm
    rw [OwL]
    obtain ⟨n1, n2⟩ := k2 F1 F2 H' g sH r' l2 B2 o2
    obtain ⟨m, m2⟩ := k1 F1 F2 H' g sH B1 o1
    refine ⟨⟨w, r', A1, A2, rfl, rfl, ?_, n1⟩, fun b hb => (List.mem_append.mp hb).elim (m2 b) (n2 b)⟩
    rcases (ow_ex l1).2 with y | rfl
    · have e := unk_of y d h1
      subst e
      rw [Ow] at m ⊢
      exact m
    · exact m
end
end
end VS

set_option Elab.async false
set_option linter.all false
set_option maxRecDepth 100000
set_option maxHeartbeats 4000000
set_option autoImplicit false
/-! VX10: lending a slot. -/
noncomputable section
namespace VS
open PySem PySem.Spec PyProof.Rows L2
section
variable {K : PySem.W.Frag} {F F1 F2 H H' : Hp} {L : List (D × V)}
theorem OwT.pin : ∀ {L : List (D × V)} {A : List Addr}, OwT K F H L A → ∃ P, OwT K F H P A ∧ ∀ F1 F2 H' A', Agr F F1 F2 → OwT K F1 H' P A' → OwT K F2 H' L A'
  | [], A, h => ⟨[], h, fun _ _ _ _ _ k => k⟩
  | p :: L, A, h => by
    obtain ⟨A1, A2, rfl, h1, h2⟩ := h
    obtain ⟨P1, p1, k1⟩ := h1.pin
    obtain ⟨P2, p2, k2⟩ := OwT.pin h2
    refine ⟨P1 ++ P2, p1.append p2, fun F1 F2 H' A' g k => ?_⟩
    obtain ⟨B1, B2, rfl, o1, o2⟩ := k.split
    exact ⟨B1, B2, rfl, k1 F1 F2 H' B1 g o1, k2 F1 F2 H' B2 g o2⟩
theorem OwT.mem : ∀ {L : List (D × V)} {A : List Addr} {p : D × V}, OwT K F H L A → p ∈ L → ∃ B, Ow K F H p.1 p.2 B
  | [], A, p, h, hp => by cases hp
  | q :: L, A, p, h, hp => by
    obtain ⟨A1, A2, rfl, h1, h2⟩ := h
    rcases List.mem_cons.mp hp with rfl | hp
    · exact ⟨_, h1⟩
    · exact OwT.mem h2 hp
mutual
/-- no frozen list or dict in it, and no script -/
def pl : D → Bool
  | .tup ds => plL ds
  | .ktp ds => plL ds
  | .lst o ds => o && plL ds
  | .scr _ => false
  | .dK o _ ds => o && plL ds
  | .dT o _ ds => o && plL ds
  | .lK _ _ => false
  | .lT _ _ => false
  | .lck _ => false
  | _ => true
def plL : List D → Bool
  | [] => true
  | d :: ds => pl d && plL ds
end
mutual
theorem Ow.pl (g : ∀ b o, F1 b = some o → isC o = false → F2 b = some o) : ∀ (d : D) (v : V) (A : List Addr), VS.pl d = true → Ow K F1 H d v A → Ow K F2 H d v A
  | .unk, v, A, z, h => by rw [Ow] at h ⊢; exact h
  | .hole, v, A, z, h => by rw [Ow] at h ⊢; exact h
  | .non, v, A, z, h => by rw [Ow] at h ⊢; exact h
  | .bl b, v, A, z, h => by rw [Ow] at h ⊢; exact h
  | .int b, v, A, z, h => by rw [Ow] at h ⊢; exact h
  | .str b, v, A, z, h => by rw [Ow] at h ⊢; exact h
  | .adr b, v, A, z, h => by rw [Ow] at h ⊢; exact h
  | .exo c q, v, A, z, h => exo_agr (F := fun _ => none) ⟨fun b o e => (by cases e), g⟩ h
  | .scr ds, v, A, z, h => by simp [VS.pl] at z
  | .lK ks ds, v, A, z, h => by simp [VS.pl] at z
  | .lT ks ds, v, A, z, h => by simp [VS.pl] at z
  | .lck u, v, A, z, h => by simp [VS.pl] at z
  | .lst false ds, v, A, z, h => by simp [VS.pl] at z
  | .dK false ks ds, v, A, z, h => by simp [VS.pl] at z
  | .dT false ks ds, v, A, z, h => by simp [VS.pl] at z
  | .tup ds, v, A, z, h => by
    rw [VS.pl] at z
    rw [Ow] at h ⊢
    obtain ⟨a, vs, e, q, l⟩ := h
    exact ⟨a, vs, e, g _ _ q rfl, OwL.pl g ds vs A z l⟩
  | .ktp ds, v, A, z, h => by
    rw [VS.pl] at z
    rw [Ow] at h ⊢
    obtain ⟨a, vs, e, q, l⟩ := h
    refine ⟨a, vs, e, ?_, OwL.pl g ds vs A z l⟩
    rcases q with (q | ⟨u, q⟩) | q
    · exact .inl (.inl (g _ _ q rfl))
    · exact .inl (.inr ⟨u, g _ _ q rfl⟩)
    · exact .inr q
  | .lst true ds, v, A, z, h => by
    have z : VS.plL ds = true := by rw [VS.pl] at z; simpa using z
    rw [Ow] at h ⊢
    obtain ⟨a, vs, A', e, q, l, rfl⟩ := h
    exact ⟨a, vs, A', e, q, OwL.pl g ds vs A' z l, rfl⟩
  | .dK true ks ds, v, A, z, h => by
    have z : VS.plL ds = true := by rw [VS.pl] at z; simpa using z
    rw [Ow] at h ⊢
    obtain ⟨a, vs, A', e, q, n, l, rfl⟩ := h
    exact ⟨a, vs, A', e, q, n, OwL.pl g ds vs A' z l, rfl⟩
  | .dT true ks ds, v, A, z, h => by
    have z : VS.plL ds = true := by rw [VS.pl] at z; simpa using z
    rw [Ow] at h ⊢
    obtain ⟨a, vs, A', e, q, n, l, rfl⟩ := h
    exact ⟨a, vs, A', e, q, n, OwL.pl g ds vs A' z l, rfl⟩
theorem OwL.pl (g : ∀ b o, F1 b = some o → isC o = false → F2 b = some o) : ∀ (ds : List D) (vs : List V) (A : List Addr), VS.plL ds = true → OwL K F1 H ds vs A → OwL K F2 H ds vs A
  | [], vs, A, z, h => by rw [OwL] at h ⊢; exact h
  | d :: ds, vs, A, z, h => by
    rw [VS.plL, Bool.and_eq_true] at z
    rw [OwL] at h ⊢
    obtain ⟨v, r, A1, A2, e, rfl, h1, h2⟩ := h
    exact ⟨v, r, A1, A2, e, rfl, Ow.pl g d v A1 z.1 h1, OwL.pl g ds r A2 z.2 h2⟩
end
/-! data that can't lie at one place -/
def dif : D → D → Bool
  | .int a, .int b => a != b
  | .int _, .lst _ _ => true
  | .int _, .tup _ => true
  | .lst _ _, .int _ => true
  | .tup _, .int _ => true
  | _, _ => false
def difL : List D → List D → Bool
  | [], [] => false
  | y :: ys, x :: xs => dif y x || difL ys xs
  | _, _ => true
theorem ow_lst {o : Bool} {ds : List D} {v : V} {A : List Addr} (h : Ow K F H (.lst o ds) v A) : ∃ a, v = .ref a := by
  cases o <;> rw [Ow] at h
  · obtain ⟨a, vs, e, _⟩ := h; exact ⟨a, e⟩
  · obtain ⟨a, vs, A', e, _⟩ := h; exact ⟨a, e⟩
theorem ow_tup {ds : List D} {v : V} {A : List Addr} (h : Ow K F H (.tup ds) v A) : ∃ a, v = .ref a := by
  rw [Ow] at h
  obtain ⟨a, vs, e, _⟩ := h; exact ⟨a, e⟩
theorem dif_no {y x : D} {v : V} {A B : List Addr} (h : dif y x = true) (hy : Ow K F1 H y v A) (hx : Ow K F2 H' x v B) : False := by
  cases y <;> cases x <;> simp only [dif, Bool.false_eq_true] at h
  · rw [Ow] at hx hy
    have := hx.1.symm.trans hy.1
    injection this with e
    subst e
    simp at h
  · rw [Ow] at hy
    obtain ⟨a, e⟩ := ow_tup hx
    rw [hy.1] at e; cases e
  · rw [Ow] at hy
    obtain ⟨a, e⟩ := ow_lst hx
    rw [hy.1] at e; cases e
  · rw [Ow] at hx
    obtain ⟨a, e⟩ := ow_tup hy
    rw [hx.1] at e; cases e
  · rw [Ow] at hx
    obtain ⟨a, e⟩ := ow_lst hy
    rw [hx.1] at e; cases e
theorem difL_no : ∀ {ys xs : List D} {vs : List V} {A B : List Addr}, difL ys xs = true → OwL K F1 H ys vs A → OwL K F2 H' xs vs B → False
  | [], [], vs, A, B, h, _, _ => by simp [difL] at h
  | [], x :: xs, vs, A, B, h, hy, hx => by
    rw [OwL] at hy
    rw [OwL] at hx
    obtain ⟨v, r, _, _, e, _⟩ := hx
    rw [hy.1] at e; cases e
  | y :: ys, [], vs, A, B, h, hy, hx => by
    rw [OwL] at hy
    rw [OwL] at hx
    obtain ⟨v, r, _, _, e, _⟩ := hy
    rw [hx.1] at e; cases e
  | y :: ys, x :: xs, vs, A, B, h, hy, hx => by
    rw [difL, Bool.or_eq_true] at h
    rw [OwL] at hy
    rw [OwL] at hx
    obtain ⟨v, r, A1, A2, e1, _, y1, y2⟩ := hy
    obtain ⟨v', r', B1, B2, e2, _, x1, x2⟩ := hx
    rw [e1] at e2
    injection e2 with ea eb
    subst ea; subst eb
    rcases h with h | h
    · exact dif_no h y1 x1
    · exact difL_no h y2 x2
mutual
/-- no frozen list in it can be the list xs -/
def avo (xs : List D) : D → Bool
  | .tup ds => avoL xs ds
  | .ktp ds => avoL xs ds
  | .lst o ds => (o || difL ds xs) && avoL xs ds
  | .scr _ => false
  | .dK _ _ ds => avoL xs ds
  | .dT _ _ ds => avoL xs ds
  | .lK _ _ => false
  | .lT _ _ => false
  | .lck _ => false
  | _ => true
def avoL (xs : List D) : List D → Bool
  | [] => true
  | d :: ds => avo xs d && avoL xs ds
end
section
variable {a : Addr} {xs : List D} {ws : List V} {B : List Addr}
mutual
theorem Ow.avo (q0 : F1 a = some (.lst ws)) (hx : OwL K F1 H' xs ws B) (g : ∀ b, b ≠ a → F2 b = F1 b) : ∀ (d : D) (v : V) (A : List Addr), VS.avo xs d = true → Ow K F1 H d v A → Ow K F2 H d v A
  | .unk, v, A, z, h => by rw [Ow] at h ⊢; exact h
  | .hole, v, A, z, h => by rw [Ow] at h ⊢; exact h
  | .non, v, A, z, h => by rw [Ow] at h ⊢; exact h
  | .bl b, v, A, z, h => by rw [Ow] at h ⊢; exact h
  | .int b, v, A, z, h => by rw [Ow] at h ⊢; exact h
  | .str b, v, A, z, h => by rw [Ow] at h ⊢; exact h
  | .adr b, v, A, z, h => by rw [Ow] at h ⊢; exact h
  | .exo c q, v, A, z, h => exo_agr (F := fun _ => none) ⟨fun b o e => (by cases e), fun b o e n => (by
      have nb : b ≠ a := fun z => by
        rw [z, q0] at e
        cases e
        cases n
      rw [g b nb]
      exact e)⟩ h
  | .scr ds, v, A, z, h => by simp [VS.avo] at z
  | .lK ks ds, v, A, z, h => by simp [VS.avo] at z
  | .lT ks ds, v, A, z, h => by simp [VS.avo] at z
  | .lck u, v, A, z, h => by simp [VS.avo] at z
  | .tup ds, v, A, z, h => by
    rw [VS.avo] at z
    rw [Ow] at h ⊢
    obtain ⟨b, vs, e, q, l⟩ := h
    exact ⟨b, vs, e, by rw [g b fun z => by rw [z, q0] at q; cases q]; exact q, OwL.avo q0 hx g ds vs A z l⟩
  | .ktp ds, v, A, z, h => by
    rw [VS.avo] at z
    rw [Ow] at h ⊢
    obtain ⟨b, vs, e, q, l⟩ := h
    refine ⟨b, vs, e, ?_, OwL.avo q0 hx g ds vs A z l⟩
    rcases q with (q | ⟨u, q⟩) | q
    · exact .inl (.inl (by rw [g b fun z => by rw [z, q0] at q; cases q]; exact q))
    · exact .inl (.inr ⟨u, by rw [g b fun z => by rw [z, q0] at q; cases q]; exact q⟩)
    · exact .inr q
  | .lst false ds, v, A, z, h => by
    rw [VS.avo, Bool.and_eq_true] at z
    obtain ⟨z1, z2⟩ := z
    have z1 : difL ds xs = true := by simpa using z1
    rw [Ow] at h ⊢
    obtain ⟨b, vs, e, q, l⟩ := h
    have nb : b ≠ a := fun z => by
      rw [z, q0] at q
      injection q with q
      injection q with q
      subst q
      exact difL_no z1 l hx
    exact ⟨b, vs, e, by rw [g b nb]; exact q, OwL.avo q0 hx g ds vs A z2 l⟩
  | .lst true ds, v, A, z, h => by
    rw [VS.avo, Bool.and_eq_true] at z
    rw [Ow] at h ⊢
    obtain ⟨b, vs, A', e, q, l, rfl⟩ := h
    exact ⟨b, vs, A', e, q, OwL.avo q0 hx g ds vs A' z.2 l, rfl⟩
  | .dK false ks ds, v, A, z, h => by
    rw [VS.avo] at z
    rw [Ow] at h ⊢
    obtain ⟨b, vs, e, q, n, l⟩ := h
    exact ⟨b, vs, e, by rw [g b fun z => by rw [z, q0] at q; cases q]; exact q, n, OwL.avo q0 hx g ds vs A z l⟩
  | .dT false ks ds, v, A, z, h => by
    rw [VS.avo] at z
    rw [Ow] at h ⊢
    obtain ⟨b, vs, e, q, n, l⟩ := h
    exact ⟨b, vs, e, by rw [g b fun z => by rw [z, q0] at q; cases q]; exact q, n, OwL.avo q0 hx g ds vs A z l⟩
  | .dK true ks ds, v, A, z, h => by
    rw [VS.avo] at z
    rw [Ow] at h ⊢
    obtain ⟨b, vs, A', e, q, n, l, rfl⟩ := h
    exact ⟨b, vs, A', e, q, n, OwL.avo q0 hx g ds vs A' z l, rfl⟩
  | .dT true ks ds, v, A, z, h => by
    rw [VS.avo] at z
    rw [Ow] at h ⊢
    obtain ⟨b, vs, A', e, q, n, l, rfl⟩ := h
    exact ⟨b, vs, A', e, q, n, OwL.avo q0 hx g ds vs A' z l, rfl⟩
theorem OwL.avo (q0 : F1 a = some (.lst ws)) (hx : OwL K F1 H' xs ws B) (g : ∀ b, b ≠ a → F2 b = F1 b) : ∀ (ds : List D) (vs : List V) (A : List Addr), VS.avoL xs ds = true → OwL K F1 H ds vs A → OwL K F2 H ds vs A
  | [], vs, A, z, h => by rw [OwL] at h ⊢; exact h
  | d :: ds, vs, A, z, h => by
    rw [VS.avoL, Bool.and_eq_true] at z
    rw [OwL] at h ⊢
    obtain ⟨v, r, A1, A2, e, rfl, h1, h2⟩ := h
    exact ⟨v, r, A1, A2, e, rfl, Ow.avo q0 hx g d v A1 z.1 h1, OwL.avo q0 hx g ds r A2 z.2 h2⟩
end
end
def avoG (d0 d : D) : Bool := pl d || (match d0 with
  | .lst true xs => fzL xs && avo xs d
  | _ => false)
theorem lend_core {d0 : D} {v0 : V} (z : fz (VS.freeze d0) = true) (r : RepT K H ((d0, v0) :: L)) :
    ∃ P, (∀ S : List (D × V), (∀ p ∈ S, p = (VS.freeze d0, v0) ∨ (p ∈ L ∧ fz p.1 = true) ∨ p.1 = .unk) → RepT K H (P ++ S)) ∧
      ∀ H' d v, avoG d0 d = true → RepT K H' ((d, v) :: P) → RepT K H' ((d, v) :: (d0, v0) :: L) := by
  obtain ⟨F, A, sF, nd, fr, A1, A2, rfl, h1, o⟩ := r
  obtain ⟨n1, n2, n3⟩ := List.nodup_append.mp nd
  obtain ⟨P0, p0, k0⟩ := Ow.pinF _ _ _ z h1
  obtain ⟨P1, p1, k1⟩ := OwT.pin o
  refine ⟨P0 ++ P1, fun S hS => ?_, fun H' d v hd r' => ?_⟩
  · let F' : Hp := fun a => if a ∈ A1 then H a else F a
    have sF' : Same F F' := fun b u q => by
      have : b ∉ A1 := fun hb => by rw [fr b (List.mem_append_left _ hb)] at q; cases q
      show (if b ∈ A1 then H b else F b) = some u
      rw [if_neg this]; exact q
    have kA : ∀ a ∈ A1, F' a = H a := fun a ha => if_pos ha
    have oS : OwT K F' H S [] := by
      clear p0 k0 p1 k1
      induction S with
      | nil => rfl
      | cons p S ih =>
        refine ⟨[], [], rfl, ?_, ih fun q hq => hS q (List.mem_cons_of_mem _ hq)⟩
        rcases hS p List.mem_cons_self with e | ⟨e1, e2⟩ | e
        · rw [e]
          exact h1.freeze sF' _ _ _ kA
        · obtain ⟨B, hB⟩ := o.mem e1
          have := hB.frozen _ _ _ e2
          subst this
          exact hB.keep sF' _ _ _ fun a ha => by cases ha
        · rw [e, Ow]
    refine ⟨F', A2, fun b u q => ?_, n2, fun a ha => ?_, ?_⟩
    · by_cases hb : b ∈ A1
      · rw [kA b hb] at q; exact q
      · have e : F' b = F b := if_neg hb
        rw [e] at q; exact sF _ _ q
    · have : a ∉ A1 := fun hb => n3 a hb a ha rfl
      show (if a ∈ A1 then H a else F a) = none
      rw [if_neg this]; exact fr a (List.mem_append_right _ ha)
    · have := ((p0 F' H sF' kA).append (p1.keep sF' fun _ _ => rfl)).append oS
      simpa using this
  · obtain ⟨F1, A', sF1, nd', fr', Ad, C, rfl, hd1, o'⟩ := r'
    obtain ⟨B0, B1, rfl, o0, o1⟩ := o'.split
    let F2 : Hp := fun b => if b ∈ A1 then none else F1 b
    have ne2 : ∀ b, b ∉ A1 → F2 b = F1 b := fun b hb => if_neg hb
    have in2 : ∀ b, b ∈ A1 → F2 b = none := fun b hb => if_pos hb
    have c1 := (k0 F1 F1 H' ⟨fun _ _ _ => rfl, fun _ _ e _ => e⟩ sF1 B0 o0).2
    have oth : ∀ b o, F1 b = some o → isC o = false → F2 b = some o := fun b o e n => by
      rw [ne2 b fun hb => by
        obtain ⟨o', e', n'⟩ := c1 b hb
        rw [e] at e'
        injection e' with e'
        subst e'
        rw [n] at n'; cases n']
      exact e
    have g : Agr F F1 F2 := ⟨fun b o e => ne2 b fun hb => (by rw [fr b (List.mem_append_left _ hb)] at e; cases e), oth⟩
    have w0 := (k0 F1 F2 H' g sF1 B0 o0).1
    have w1 := k1 F1 F2 H' B1 g o1
    have hd2 : Ow K F2 H' d v Ad := by
      unfold avoG at hd
      rw [Bool.or_eq_true] at hd
      rcases hd with hd | hd
      · exact hd1.pl oth _ _ _ hd
      · cases d0 with
        | lst ob xs =>
          cases ob with
          | false => simp at hd
          | true =>
            simp only [Bool.and_eq_true] at hd
            have w := (k0 F1 F1 H' ⟨fun _ _ _ => rfl, fun _ _ e _ => e⟩ sF1 B0 o0).1
            rw [Ow] at w
            obtain ⟨a, vs, A'', e, q, l, e2⟩ := w
            have e3 := l.frozen _ _ _ hd.1
            subst e3
            subst e2
            obtain ⟨o, q1, _⟩ := c1 a (by simp)
            have q2 : F1 a = some (.lst vs) := by
              have := sF1 _ _ q1
              rw [q] at this
              rw [q1, ← this]
            exact hd1.avo q2 l (fun b hb => ne2 b (by simpa using hb)) _ _ _ hd.2
        | _ => simp at hd
    obtain ⟨m1, m2, m3⟩ := List.nodup_append.mp nd'
    obtain ⟨m4, m5, m6⟩ := List.nodup_append.mp m2
    have nA : ∀ b, b ∈ A1 → F1 b ≠ none := fun b hb e => by
      obtain ⟨o, q, _⟩ := c1 b hb
      rw [e] at q; cases q
    refine ⟨F2, Ad ++ (A1 ++ B1), fun b u q => ?_, ?_, fun b hb => ?_, Ad, _, rfl, hd2, A1, B1, rfl, w0, w1⟩
    · by_cases hb : b ∈ A1
      · rw [in2 b hb] at q; cases q
      · rw [ne2 b hb] at q; exact sF1 _ _ q
    · refine List.nodup_append.mpr ⟨m1, List.nodup_append.mpr ⟨n1, m5, fun b hb c hc e => ?_⟩, fun b hb c hc e => ?_⟩
      · subst e
        exact nA b hb (fr' b (by simp [hc]))
      · subst e
        rcases List.mem_append.mp hc with hc | hc
        · exact nA b hc (fr' b (by simp [hb]))
        · exact m3 b hb b (List.mem_append_right _ hc) rfl
    · by_cases hb1 : b ∈ A1
      · exact in2 b hb1
      · rw [ne2 b hb1]
        refine fr' b ?_
        simp only [List.mem_append] at hb ⊢
        rcases hb with hb | hb | hb
        · exact .inl hb
        · exact absurd hb hb1
        · exact .inr (.inr hb)
end
end VS

set_option Elab.async false
set_option linter.all false
set_option maxRecDepth 100000
set_option maxHeartbeats 4000000
set_option autoImplicit false
/-! VX11: an expression, or a store of one, that reads an owned slot as a frozen one. -/
noncomputable section
namespace VS
open PySem PySem.Spec PyProof.Rows L2
section
variable {X : Cx} {W : WX} {K : PySem.W.Frag} {mg : Str → Option Value} {H H1 : Hp} {T L : List (D × V)} {ρ ρ' : Env} {σ σ' : St} {m : Bool}
def hid (d : D) : D := if fz d = true then d else .unk
def lendEnv (i : Nat) (d : D) (ρ : Env) : Env := (ρ.map hid).set i (freeze d)
/-- the slot i is lent while f is reckoned -/
def dLend (i : Nat) (f : M D) : M D := fun ρ => if fz (freeze (ρ.getD i .unk)) = true then match f (lendEnv i (ρ.getD i .unk) ρ) with
    | some (.ok d _) => if avoG (ρ.getD i .unk) d = true then some (.ok d ρ) else none
    | _ => none
  else none
theorem SL_mem {i : Nat} : ∀ {ρ ρ' : Env} {σ : St}, ρ.length = σ.length → ρ'.length = σ.length → (∀ j d, j ≠ i → ρ'[j]? = some d → d = .unk ∨ (fz d = true ∧ ρ[j]? = some d)) → ∀ {p : D × V} (j : Nat), (SL ρ' σ)[j]? = some p → j ≠ i → (p ∈ (SL ρ σ).eraseIdx i ∧ fz p.1 = true) ∨ p.1 = .unk := by
  intro ρ ρ' σ l l' h p j hp hj
  have hl : j < ρ'.length := by
    have := (List.getElem?_eq_some_iff.mp hp).1
    simp [SL] at this
    omega
  have hs : j < σ.length := by omega
  have e : (SL ρ' σ)[j]? = some (ρ'[j], (σ[j]).getD .non) := by
    rw [SL, List.getElem?_zipWith, List.getElem?_eq_getElem hl, List.getElem?_eq_getElem hs]
  rw [hp] at e
  have e : p = (ρ'[j], (σ[j]).getD .non) := Option.some.inj e
  rcases h j ρ'[j] hj (List.getElem?_eq_getElem hl) with q | ⟨q1, q2⟩
  · right
    rw [e]; exact q
  · left
    rw [e]
    refine ⟨?_, q1⟩
    have e2 : (SL ρ σ)[j]? = some (ρ'[j], (σ[j]).getD .non) := by
      rw [SL, List.getElem?_zipWith, q2, List.getElem?_eq_getElem hs]
    by_cases z : j < i
    · exact List.mem_of_getElem? (i := j) (by rw [List.getElem?_eraseIdx, if_pos z]; exact e2)
    · have hj2 : i < j := by omega
      exact List.mem_of_getElem? (i := j - 1) (by rw [List.getElem?_eraseIdx, if_neg (by omega), show j - 1 + 1 = j by omega]; exact e2)
theorem lendEnv_at {i j : Nat} {d0 d : D} (hj : j ≠ i) (h : (lendEnv i d0 ρ)[j]? = some d) : d = .unk ∨ (fz d = true ∧ ρ[j]? = some d) := by
  unfold lendEnv at h
  rw [List.getElem?_set_ne (Ne.symm hj), List.getElem?_map] at h
  cases q : ρ[j]? with
  | none => rw [q] at h; cases h
  | some x =>
    rw [q] at h
    have h : hid x = d := Option.some.inj h
    unfold hid at h
    split at h
    · rename_i z
      subst h
      exact .inr ⟨z, rfl⟩
    · exact .inl h.symm
/-- the world in which the slot is lent -/
theorem lend_rep {i : Nat} (rep : Rep K H T ρ σ) (z : fz (freeze (ρ.getD i .unk)) = true) :
    ∃ P v, σ[i]? = some (some v) ∧ Rep K H P (lendEnv i (ρ.getD i .unk) ρ) σ ∧ ∀ H' d w, avoG (ρ.getD i .unk) d = true → RepT K H' ((d, w) :: P) → Rep K H' ((d, w) :: T) ρ σ := by
  have hn : ρ.getD i .unk ≠ .unk := fun e => by rw [e] at z; simp [freeze, fz] at z
  have g1 := getD_some rfl hn
  obtain ⟨v, hv⟩ := rep.slot g1 hn
  have hi : i < ρ.length := (List.getElem?_eq_some_iff.mp g1).1
  have r1 := rep.rep.perm (slot_perm (T := T) g1 hv)
  obtain ⟨P, p1, p2⟩ := lend_core z r1
  have hlen : (lendEnv i (ρ.getD i .unk) ρ).length = ρ.length := by simp [lendEnv]
  refine ⟨P, v, hv, ⟨hlen.trans rep.len, fun j hj => ?_, p1 _ fun p hp => ?_⟩, fun H' d w a r => ?_⟩
  · have hji : j ≠ i := fun e => by rw [e, hv] at hj; cases hj
    have := rep.nos j hj
    unfold lendEnv
    rw [List.getElem?_set_ne (Ne.symm hji), List.getElem?_map, this]
    rfl
  · obtain ⟨j, hj⟩ := List.getElem?_of_mem hp
    by_cases e : j = i
    · subst e
      left
      have : (lendEnv j (ρ.getD j .unk) ρ)[j]? = some (freeze (ρ.getD j .unk)) := by
        unfold lendEnv
        rw [List.getElem?_set_self (by simpa using hi)]
      rw [SL_get this hv] at hj
      exact (Option.some.inj hj).symm
    · right
      rcases SL_mem rep.len (hlen.trans rep.len) (fun j d hj hd => lendEnv_at hj hd) j hj e with q | q
      · exact .inl ⟨List.mem_append_right _ q.1, q.2⟩
      · exact .inr q
  · have r2 := p2 H' d w a r
    exact ⟨rep.len, rep.nos, r2.perm ((slot_perm (T := T) g1 hv).symm.cons _)⟩
theorem ve_lend {e : Expr} {f : M D} (i : Nat) (h : VE X W m e f) : VE X W m e (dLend i f) := by
  refine PE.imp h fun σ H Q ⟨T, ρ, u, rep, hf, he⟩ => ?_
  unfold dLend at hf
  split at hf
  · rename_i z
    obtain ⟨P, v, hv, rp, back⟩ := lend_rep rep z
    split at hf
    · rename_i d ρ1 q
      split at hf
      · rename_i a
        have : u = .ok d ρ := (Option.some.inj hf).symm
        subst this
        refine ⟨P, _, _, rp, q, fun w H' s r => he w H' s (back H' d w a ?_)⟩
        have r2 : RepT X.K H' (((d, w) :: P) ++ SL ρ1 σ) := r.rep
        exact RepT.dropL (U := SL ρ1 σ) (r2.perm List.perm_append_comm)
      · cases hf
    · cases hf
  · cases hf
/-- .. a test -/
def dLendT (i : Nat) (f : M Bool) : M Bool := fun ρ => if fz (freeze (ρ.getD i .unk)) = true then match f (lendEnv i (ρ.getD i .unk) ρ) with
    | some (.ok b _) => some (.ok b ρ)
    | _ => none
  else none
theorem vt_lend {e : Expr} {f : M Bool} (i : Nat) (h : VT X W m e f) : VT X W m e (dLendT i f) := by
  refine PT.imp h fun σ H Q ⟨T, ρ, u, rep, hf, he⟩ => ?_
  unfold dLendT at hf
  split at hf
  · rename_i z
    obtain ⟨P, v, hv, rp, back⟩ := lend_rep rep z
    split at hf
    · rename_i b ρ1 q
      have : u = .ok b ρ := (Option.some.inj hf).symm
      subst this
      refine ⟨P, _, _, rp, q, fun H' s r => he H' s ?_⟩
      have r2 : RepT X.K H' (P ++ SL ρ1 σ) := r.rep
      have r3 : RepT X.K H' P := RepT.dropL (U := SL ρ1 σ) (r2.perm List.perm_append_comm)
      exact (back H' (.bl b) (.bl b) (by simp [avoG, pl]) r3.bl).drop
    · cases hf
  · cases hf
/-- .. a store -/
def dLendS (i k : Nat) (g : MS) : MS := fun ρ => if fz (freeze (ρ.getD i .unk)) = true ∧ i ≠ k then match g (lendEnv i (ρ.getD i .unk) (ρ.set k .unk)) with
    | some (.nx, ρ') => if avoG (ρ.getD i .unk) (ρ'.getD k .unk) = true ∧ nunk ρ'[k]? = true then some (.nx, ρ.set k (ρ'.getD k .unk)) else none
    | _ => none
  else none
theorem vs_lend {st : Stmt} {g : MS} (i k : Nat) (h : VSt X W [k] st g) : VSt X W [k] st (dLendS i k g) := by
  refine PS.imp h fun σ H E ⟨T, ρ, fl, ρ2, rep, hf, he⟩ => ?_
  unfold dLendS at hf
  split at hf
  · rename_i z
    obtain ⟨z, hik⟩ := z
    have rep2 := rep.forget k
    have eg : (ρ.set k .unk).getD i .unk = ρ.getD i .unk := by
      rw [List.getD_eq_getElem?_getD, List.getD_eq_getElem?_getD, List.getElem?_set_ne (Ne.symm hik)]
    rw [← eg] at z hf
    obtain ⟨P, v, hv, rp, back⟩ := lend_rep rep2 z
    split at hf
    · rename_i ρ1 q
      split at hf
      · rename_i a
        obtain ⟨a, nz⟩ := a
        have e := Option.some.inj hf
        have e1 : Fl.nx = fl := congrArg Prod.fst e
        have e2 : ρ.set k (ρ1.getD k .unk) = ρ2 := congrArg Prod.snd e
        subst e1
        subst e2
        refine ⟨P, _, _, _, rp, q, fun σ' H' kp r => he σ' H' kp ?_⟩
        have hk : ∃ d, ρ1[k]? = some d ∧ d ≠ .unk := by
          cases q2 : ρ1[k]? with
          | none => rw [q2] at nz; cases nz
          | some d => exact ⟨d, rfl, fun e => by rw [q2, e] at nz; cases nz⟩
        obtain ⟨d, hd, dn⟩ := hk
        have ed : ρ1.getD k .unk = d := by rw [List.getD_eq_getElem?_getD, hd]; rfl
        rw [ed] at a ⊢
        obtain ⟨w, hw⟩ := r.slot hd dn
        have r1 : RepT X.K H' (P ++ SL ρ1 σ') := r.rep
        have r2 : RepT X.K H' ((d, w) :: P) := by
          have p := slot_perm (T := P) hd hw
          have := r1.perm p
          exact RepT.dropL (U := (SL ρ1 σ').eraseIdx k) (this.perm ((List.perm_append_comm.cons _).trans List.perm_middle.symm))
        have r3 := back H' d w a r2
        have r4 := r3.set (i := k)
        rw [List.set_set] at r4
        have es : σ.set k (some w) = σ' := by
          apply List.ext_getElem?
          intro j
          by_cases z : j = k
          · subst z
            rw [List.getElem?_set_self (by rw [← kp.1]; exact (List.getElem?_eq_some_iff.mp hw).1), hw]
          · rw [List.getElem?_set_ne (Ne.symm z), kp.2 j (by simpa using z)]
        rw [es] at r4
        exact r4
      · cases hf
    · cases hf
  · cases hf
end
end VS

set_option Elab.async false
set_option linter.all false
set_option maxRecDepth 100000
set_option maxHeartbeats 4000000
set_option autoImplicit false
/-! VX12: d['k'].pop(n) and the like: a list owned by a dict of the slot i. -/
noncomputable section
namespace VS
open PySem PySem.Spec PyProof.Rows L2
section
variable {X : Cx} {W : WX} {K : PySem.W.Frag} {mg : Str → Option Value} {F H H1 : Hp} {T L : List (D × V)} {ρ ρ' : Env} {σ σ' : St} {m : Bool}
theorem owL_move : ∀ {ds : List D} {vs vs' : List V} {A B : List Addr}, OwL K F H ds vs A → OwL K F H (vs.map exV) vs' B → OwL K F H ds vs' A
  | [], vs, vs', A, B, h, k => by
    rw [OwL] at h
    obtain ⟨rfl, rfl⟩ := h
    rw [List.map_nil, OwL] at k
    rw [OwL]
    exact ⟨k.1, rfl⟩
  | d :: ds, vs, vs', A, B, h, k => by
    rw [OwL] at h
    obtain ⟨v, r, A1, A2, rfl, rfl, h1, h2⟩ := h
    rw [List.map_cons, OwL] at k
    obtain ⟨w, r', C1, C2, rfl, e, l1, l2⟩ := k
    rw [OwL]
    refine ⟨w, r', A1, A2, rfl, rfl, ?_, owL_move h2 l2⟩
    rcases (ow_ex l1).2 with z | rfl
    · have e := unk_of z d h1
      subst e
      rw [Ow] at h1 ⊢
      exact h1
    · exact h1
theorem RepT.pinK {ks : List Key} {ds : List D} {v : V} (h : RepT K H ((.dK true ks ds, v) :: L)) : ∃ a vs, v = .ref a ∧ H a = some (.dK (ks.zip vs)) ∧ ks.length = ds.length ∧ ks.Nodup ∧ ds.length = vs.length ∧ RepT K H ((.dK true ks (vs.map exV), .ref a) :: (ds.zip vs ++ L)) := by
  obtain ⟨F, A, sF, nd, fr, A1, A2, rfl, h1, o⟩ := h
  rw [Ow] at h1
  obtain ⟨a, vs, A', rfl, q, n, l, rfl⟩ := h1
  refine ⟨a, vs, rfl, q, n.1, n.2, l.length, F, [a] ++ (A' ++ A2), sF, nd, fr, [a], A' ++ A2, rfl, ?_, l.toT.append o⟩
  rw [Ow]
  exact ⟨a, vs, [], rfl, q, ⟨by rw [List.length_map, ← l.length]; exact n.1, n.2⟩, owL_exs, rfl⟩
theorem RepT.unpinK {ks : List Key} {ds : List D} {vs : List V} {a : Addr} (e : ds.length = vs.length) (h : RepT K H ((.dK true ks (vs.map exV), .ref a) :: (ds.zip vs ++ L))) : RepT K H ((.dK true ks ds, .ref a) :: L) := by
  obtain ⟨F, A, sF, nd, fr, A1, A2, rfl, h1, o⟩ := h
  rw [Ow] at h1
  obtain ⟨b, vs', B', e1, q, n, l, rfl⟩ := h1
  cases e1
  have eb := owL_ex l
  subst eb
  obtain ⟨B1, B2, rfl, o1, o2⟩ := o.split
  refine ⟨F, (a :: B1) ++ B2, sF, nd, fr, a :: B1, B2, rfl, ?_, o2⟩
  rw [Ow]
  have n1 : ks.length = ds.length := by rw [n.1, List.length_map, e]
  exact ⟨a, vs', B1, rfl, q, ⟨n1, n.2⟩, owL_move (o1.toL e) l, rfl⟩
theorem look_pairP {κ : Type} [DecidableEq κ] (x : D) : ∀ {ks : List κ} {ds : List D} {vs : List V} {k : κ} {d : D}, ks.length = ds.length → ds.length = vs.length → look ks ds k = some d → ∃ (j : Nat) (v : V), ds[j]? = some d ∧ vs[j]? = some v ∧ look ks vs k = some v ∧ (putL ks ds k x).2 = ds.set j x
  | [], ds, vs, k, d, h1, h2, e => by cases ds <;> simp [look] at e
  | k' :: ks, [], vs, k, d, h1, h2, e => by cases h1
  | k' :: ks, y :: ds, [], k, d, h1, h2, e => by cases h2
  | k' :: ks, y :: ds, v :: vs, k, d, h1, h2, e => by
    rw [look] at e
    by_cases ek : k' = k
    · rw [if_pos ek] at e
      exact ⟨0, v, by simpa using e, rfl, by rw [look, if_pos ek], by rw [putL, if_pos ek]; rfl⟩
    · rw [if_neg ek] at e
      obtain ⟨j, w, a1, a2, a3, a4⟩ := look_pairP x (Nat.succ.inj h1) (Nat.succ.inj h2) e
      exact ⟨j + 1, w, a1, a2, by rw [look, if_neg ek]; exact a3, by rw [putL, if_neg ek, a4]; rfl⟩
def okK (i : Nat) (k : Key) (ρ : Env) : Bool := match ρ.getD i .unk with
  | .dK true ks ds => match look ks ds k with
    | some (.lst true _) => true
    | _ => false
  | _ => false
def mtK (i : Nat) (k : Key) (g : List D → List D → Option (D × List D)) (es : List D) : M D := fun ρ => match ρ.getD i .unk with
  | .dK true ks ds => match look ks ds k with
    | some (.lst true xs) => match g xs es with
      | some (d, xs') => some (.ok d (ρ.set i (.dK true ks (putL ks ds k (.lst true xs')).2)))
      | none => none
    | _ => none
  | _ => none
def dMtK (i : Nat) (k : Key) (g : List D → List D → Option (D × List D)) (f : M (List D)) : M D := fun ρ0 => if okK i k ρ0 = true then bindM f (mtK i k g) ρ0 else none
theorem okK_inv {i : Nat} {k : Key} (h : okK i k ρ = true) : ∃ ks ds xs, ρ.getD i .unk = .dK true ks ds ∧ look ks ds k = some (.lst true xs) := by
  unfold okK at h
  split at h
  · rename_i ks ds e1
    split at h
    · rename_i xs e2
      exact ⟨ks, ds, xs, e1, e2⟩
    · cases h
  · cases h
theorem mtK_inv {i : Nat} {k : Key} {g : List D → List D → Option (D × List D)} {es : List D} {u : Rv D} (h : mtK i k g es ρ = some u) : ∃ ks ds xs d xs', ρ.getD i .unk = .dK true ks ds ∧ look ks ds k = some (.lst true xs) ∧ g xs es = some (d, xs') ∧ u = .ok d (ρ.set i (.dK true ks (putL ks ds k (.lst true xs')).2)) := by
  unfold mtK at h
  split at h
  · rename_i ks ds e1
    split at h
    · rename_i xs e2
      split at h
      · rename_i d xs' e3
        exact ⟨ks, ds, xs, d, xs', e1, e2, e3, (Option.some.inj h).symm⟩
      · cases h
    · cases h
  · cases h
theorem zip_set_perm {xs : List D} {vs : List V} {j : Nat} {x n : D} {v : V} (hx : xs[j]? = some x) (hv : vs[j]? = some v) : ((xs.set j n).zip vs).Perm ((n, v) :: (xs.zip vs).eraseIdx j) := by
  have hlt : j < xs.length := (List.getElem?_eq_some_iff.mp hx).1
  have hz : ((xs.set j n).zip vs)[j]? = some (n, v) := by rw [List.getElem?_zip_eq_some]; exact ⟨by simp [hlt], hv⟩
  have := perm_erase hz
  rw [zip_set_erase] at this
  exact this
theorem ve_mtK {name id : String} {r : V → List V → Hp → VK → Prop} {g : List D → List D → Option (D × List D)} {a b e : Expr} {es : List Expr} {i : Nat} {key : Str} {f : M (List D)} {apos cpos spos : Pos} (slot : Slot "list" (Str.ofString name) id) (hty : typeOf (.builtin id) = pure (.type "method_descriptor")) (hm : MtR X id r) (hg : ImpM X.K r g)
    (hu : X.A.units + 1 < cLine) (ha : PE X a (tVar i)) (hb : VE X W false b (dC (.str key))) (hargs : VA X W false (e :: es) f) (hsl : NoSl b := by exact fun _ _ => rfl)
    (hbase : attributeBase (.Subscript a b spos) (Str.ofString name) X.env (eval (.Subscript a b spos) X.env) = eval (.Subscript a b spos) X.env := by rfl)
    (hfew : ((backTo cpos (starEach (e :: es) X.env)).all (fun x => !x.1) && (backToKw cpos (keywordEach [] X.env)).all (fun x => x.1.isSome)
      && decide ((e :: es).length + ([] : List Keyword).length + (if ([] : List Keyword).isEmpty then 0 else 1) < 30)) = true := by rfl)
    (hline : (apos.endLine == cpos.line) = true := by rfl) (hs : starEach (e :: es) X.env = (false, eval e X.env) :: starEach es X.env := by rfl) (hplain : (backTo cpos (starEach es X.env)).any (·.1) = false := by rfl) :
    VE X W true (.Call (.Attribute (.Subscript a b spos) (Str.ofString name) apos) (e :: es) [] cpos) (dMtK i (.inr key) g f) := by
  refine PE.imp (pe_bm PySem.F.plainAttrs_list slot hty hm (pe_dget hu ha hb hsl) hargs hbase hfew hline hs hplain) fun σ H Q ⟨T, ρ, u, rep, hf, he⟩ => ?_
  unfold dMtK at hf
  by_cases ok : okK i (.inr key) ρ = true
  · rw [if_pos ok] at hf
    obtain ⟨ks, ds, xs, e1, e2⟩ := okK_inv ok
    have g1 := getD_some e1 (by intro z; cases z)
    obtain ⟨v, hv⟩ := rep.slot g1 (by intro z; cases z)
    refine ⟨v, hv, T, ρ, .ok (.str key) ρ, rep, rfl, fun w H1 s1 r1 => ?_⟩
    have ew : w = .str key := RepT.eq_str (L := T ++ SL ρ σ) r1.rep
    obtain ⟨A, vs, rfl, q, n1, nd, l, r2⟩ := (r1.drop.take g1 hv).rep.dK
    obtain ⟨j, b, hj, hbv, hl, _⟩ := look_pairP .non n1 l e2
    have hz : (ds.zip vs)[j]? = some (D.lst true xs, b) := by rw [List.getElem?_zip_eq_some]; exact ⟨hj, hbv⟩
    obtain ⟨B, us, rfl, hBq, _⟩ := RepT.openL (r2.perm ((perm_erase hz).append_right _))
    refine ⟨A, .ref B, rfl, .inl ⟨_, .inr key, .inl q, ew, by rw [valV_look]; exact hl.symm⟩, .inl ⟨rfl, _, .inl (.inl hBq)⟩, ?_⟩
    refine runA r1.drop hf he fun es ρ1 ws H2 h1 s2 l1 r3 => ?_
    obtain ⟨ks', ds', xs', d, xs'', d1, d2, d3, rfl⟩ := mtK_inv h1
    have k1 := getD_some d1 (by intro z; cases z)
    have t1 := r3.take k1 hv
    obtain ⟨A', vs', eA, q', n1', nd', l', r4⟩ := t1.rep.pinK
    cases eA
    have eq : ks'.zip vs' = ks.zip vs := by
      have := s2 rfl _ _ q
      rw [q'] at this
      injection this with this
      injection this
    obtain ⟨j', b', hj', hb', hl', hp'⟩ := look_pairP (.lst true xs'') n1' l' d2
    have eb : b' = .ref B := by
      have : look ks' vs' (.inr key) = look ks vs (.inr key) := by rw [← valV_look, ← valV_look, eq]
      rw [hl', hl] at this
      exact Option.some.inj this
    subst eb
    have hz' : (ds'.zip vs')[j']? = some (D.lst true xs', .ref B) := by rw [List.getElem?_zip_eq_some]; exact ⟨hj', hb'⟩
    have r5 : RepT X.K H2 ((.lst true xs', .ref B) :: (es.zip ws ++ ((.dK true ks' (vs'.map exV), .ref A) :: ((ds'.zip vs').eraseIdx j' ++ (T ++ SL (ρ1.set i .unk) σ))))) := by
      refine r4.perm ?_
      refine (((perm_erase hz').append_right _).cons _).trans ((List.Perm.swap _ _ _).trans (List.Perm.cons _ ?_))
      show List.Perm ((D.dK true ks' (vs'.map exV), V.ref A) :: ((ds'.zip vs').eraseIdx j' ++ ((es.zip ws ++ T) ++ SL (ρ1.set i .unk) σ))) _
      refine List.Perm.trans ?_ List.perm_middle.symm
      refine List.Perm.cons _ ?_
      rw [List.append_assoc (es.zip ws)]
      generalize T ++ SL (ρ1.set i .unk) σ = Z
      rw [← List.append_assoc, ← List.append_assoc]
      exact List.perm_append_comm.append_right _
    refine hg H2 _ xs' xs'' es ws d B _ d3 l1 r5 fun u H3 r6 => he u H3 (fun z => by cases z) ?_
    have r7 : RepT X.K H3 ((.dK true ks' (vs'.map exV), .ref A) :: ((putL ks' ds' (.inr key) (.lst true xs'')).2.zip vs' ++ ((d, u) :: (T ++ SL (ρ1.set i .unk) σ)))) := by
      rw [hp']
      refine r6.perm ?_
      have p1 := zip_set_perm (n := .lst true xs'') hj' hb'
      refine List.Perm.trans ?_ ((List.Perm.append_right _ p1.symm).cons _)
      show List.Perm ((d, u) :: (D.lst true xs'', V.ref B) :: (D.dK true ks' (vs'.map exV), V.ref A) :: ((ds'.zip vs').eraseIdx j' ++ (T ++ SL (ρ1.set i .unk) σ))) ((D.dK true ks' (vs'.map exV), V.ref A) :: (D.lst true xs'', V.ref B) :: ((ds'.zip vs').eraseIdx j' ++ ((d, u) :: (T ++ SL (ρ1.set i .unk) σ))))
      refine ((List.Perm.swap _ _ _).cons _).trans ?_
      refine (List.Perm.swap _ _ _).trans (List.Perm.cons _ ?_)
      refine (List.Perm.swap _ _ _).trans (List.Perm.cons _ ?_)
      exact List.perm_middle.symm
    have r8 := RepT.unpinK (by rw [hp', List.length_set]; exact l') r7
    have t3 : Rep X.K H3 ((.dK true ks' (putL ks' ds' (.inr key) (.lst true xs'')).2, .ref A) :: (d, u) :: T) (ρ1.set i .unk) σ := ⟨t1.len, t1.nos, r8⟩
    have t4 := t3.put hv
    rw [List.set_set] at t4
    exact t4
  · rw [if_neg ok] at hf; cases hf
end
end VS

set_option Elab.async false
set_option linter.all false
set_option maxRecDepth 100000
set_option maxHeartbeats 4000000
set_option autoImplicit false
/-! VX13: enumerate of a tuple. -/
noncomputable section
namespace VS
open PySem PySem.Spec PyProof.Rows L2
theorem meets_enT (l : Addr) (its : Array Value) (n : Nat) (dc : Option Addr) (sl : Array (Option Value)) :
    Meets (Builtin.«enumerate.__new__» ⟨[.type "enumerate", .ref l], []⟩) (fun _ R s => s.heap.get? l = some ⟨.type "tuple", dc, .seq its n, sl⟩ ∧
      R (.ok (.ret (.ref (s.heap.push { cls := .type "tuple_iterator", data := .fields #[.ref l, .int 0 0] }).objs.size)))
        { s with heap := (s.heap.push { cls := .type "tuple_iterator", data := .fields #[.ref l, .int 0 0] }).push { cls := .type "enumerate", data := .fields #[.none, .bool false, .ref s.heap.objs.size, rawInt 0, .none, .none] } }) :=
  .of_wp fun prog w A R s hR => by
    obtain ⟨hp, gl, dd, tk, os⟩ := s
    obtain ⟨hl, hR⟩ := hR
    have hsub := sub_enumerate
    have hT : Heap.IsTuple (Shared.heap ⟨hp, gl, dd, tk, os⟩) l its := ⟨_, hl, rfl, n, rfl⟩
    have q1 : ∀ {A' : Around} {E' : Value → Shared → Prop} {Q' : Value → Shared → Prop}, Q' (.ref hp.objs.size) ⟨hp.push { cls := .type "tuple_iterator", data := .fields #[.ref l, .int 0 0] }, gl, dd, tk, os⟩ → wpAny (model prog w) A' (pyIter (.ref l)) Q' E' ⟨hp, gl, dd, tk, os⟩ := fun q => wpAny_pyIter_tuple hT q
    wp_walk using AutoSeq1.wpAny_loadPart' hl, q1
    refine wpAny_stack_any fun sk => wpAny_pure ?_
    split
    · rename_i cc _ _ _ _ _
      cases (cc == Value.type "enumerate") <;> (wp_walk using AutoSeq1.wpAny_loadPart' hl, q1; exact ⟨_, rfl, hR⟩)
    · wp_walk using AutoSeq1.wpAny_loadPart' hl, q1
      exact ⟨_, rfl, hR⟩
theorem call_enT {prog : Program} {w : World} {A : Around} {E : Value → Shared → Prop} {s : Shared} {l : Addr} {its : Array Value} {Q : Value → Shared → Prop} (hL : s.heap.IsTuple l its)
    (k : ∀ h', IsEnum h' (s.heap.objs.size + 1) s.heap.objs.size 0 .none → h'.IsTupleIter s.heap.objs.size l 0 →
      (∀ b o, s.heap.get? b = some o → h'.get? b = some o) → Q (.ref (s.heap.objs.size + 1)) { s with heap := h' }) :
    wpAny (model prog w) A (call (.type "enumerate") [.ref l]) Q E s := by
  obtain ⟨⟨cl, dct, dt, sl⟩, hl, hc, n, hd⟩ := hL
  replace hc : cl = .type "tuple" := hc
  replace hd : dt = .seq its n := hd
  subst hc hd
  refine callType_new F.called_enumerate (by decide) (F.typeCall_enumerate_1 _) (F.newCall_enumerate_1 _) (fun ob => F.args_object_init_2 ob _) F.entry_enumerate_new (meets_enT l its n dct sl) ⟨hl, ?_⟩
  have hz : (s.heap.push { cls := .type "tuple_iterator", data := .fields #[.ref l, .int 0 0] }).objs.size = s.heap.objs.size + 1 := Heap.size_push ..
  show _ ∧ _
  rw [hz]
  have he : IsEnum ((s.heap.push { cls := .type "tuple_iterator", data := .fields #[.ref l, .int 0 0] }).push { cls := .type "enumerate", data := .fields #[.none, .bool false, .ref s.heap.objs.size, rawInt 0, .none, .none] }) (s.heap.objs.size + 1) s.heap.objs.size 0 .none := by
    have q := Heap.get?_push_size (s.heap.push { cls := .type "tuple_iterator", data := .fields #[.ref l, .int 0 0] }) (o := { cls := .type "enumerate", data := .fields #[.none, .bool false, .ref s.heap.objs.size, rawInt 0, .none, .none] }) rfl
    rw [hz] at q
    exact q
  exact ⟨⟨_, he, rfl⟩, k _ he ⟨_, Heap.get?_push_of_some _ (Heap.get?_push_size _ rfl), rfl, rfl⟩ fun b o x => Heap.get?_push_of_some _ (Heap.get?_push_of_some _ x)⟩
theorem next_enT {prog : Program} {w : World} {A : Around} {E : Value → Shared → Prop} {s : Shared} {e it l : Addr} {i : Nat} {its : Array Value} {old : Value} {Q : Option Value → Shared → Prop} (hh : A.handled = none)
    (he : IsEnum s.heap e it i old) (hit : s.heap.IsTupleIter it l i) (hl : s.heap.IsTuple l its) (hx : its[i]? = none)
    (k : ∀ h', Heap.ExtBut it s.heap h' → Q none { s with heap := h' }) : wpAny (model prog w) A (pyNext (.ref e)) Q E s := by
  have ty : s.TypeIs (.ref e) "enumerate" := ⟨_, he, rfl⟩
  unfold pyNext
  refine wpAny_bind (wpAny_attempt (wpAny_callSpecial?_slot (name := Str.ofString "__next__") ty F.slot_enumerate_next (wpAny_call_entry F.slot_enumerate_next ty F.entry_enumerate_next ?_ (F.args_enumerate_next_1 _))))
  show wpAny _ _ (field (.ref e) 2 >>= _) _ _ _
  refine wpAny_bind (wpAny_field he rfl (x := .ref it) rfl (wpAny_bind (wpAny_nextOf_tuple_end hh hit hl hx fun h' x he' hx' => ?_)))
  obtain ⟨o, ho, hc⟩ := hx'
  exact wpAny_bind (wpAny_isInstance (T := "StopIteration") (b := true) ⟨o, ho, hc⟩ isSubtype_stop (wpAny_pure (k _ he')))
def IteT (K : PySem.W.Frag) (a : Addr) : It :=
  ⟨fun i H => ∃ (xs : List V) (x : V), SqT K H a xs ∧ xs[i]? = some x, fun i H v H' => ∃ T x, v = .ref T ∧ H T = none ∧ H' = upd H T (.tup [.int (i : Nat), x]) ∧ ∀ xs, SqT K H a xs → xs[i]? = some x, fun i H => ∃ xs : List V, SqT K H a xs ∧ xs.length ≤ i⟩
theorem turn_enT {P : Program} {w : World} {K : PySem.W.Frag} {elts : List Expr} {kk : Nat} {tpos : Pos} (a e it : Addr) :
    Turn P w K (.Tuple elts kk tpos) (IteT K a) [e, it] e (fun i h => (∃ old, IsEnum h e it ((i : Nat) : Int) old) ∧ h.IsTupleIter it a i ∧ e ≠ it) where
  mem := by simp
  obj := fun i h st b hb => by
    obtain ⟨⟨old, he⟩, ⟨o, ho, hc, hd⟩, _⟩ := st
    rcases (by simpa using hb : b = e ∨ b = it) with z | z
    · rw [z]
      exact ⟨_, he, fun v q => nomatch q⟩
    · rw [z]
      exact ⟨o, ho, fun v q => by rw [hd] at q; cases q⟩
  keep := fun i h h' st k => ⟨⟨st.1.choose, k e (by simp) _ st.1.choose_spec⟩, st.2.1.at fun o q => k it (by simp) o q, st.2.2⟩
  item := by
    intro X hP hw hK hc i pins s σ H E I hf st hg
    subst hP hw hK
    obtain ⟨⟨old, he⟩, hit, hne⟩ := st
    obtain ⟨xs, x, hq, hx⟩ := hg
    obtain ⟨its, rv, p, hz⟩ := I.tuple hq
    obtain ⟨u, hu, ru⟩ := rv.get hx
    have p2 : s.heap.IsTuple a its.toArray := p
    have hel : e < s.heap.objs.size := Heap.lt_size he
    have hil : it < s.heap.objs.size := by obtain ⟨_, q, _⟩ := hit; exact Heap.lt_size q
    have nai : a ≠ it := fun z => by
      obtain ⟨o1, q1, c1, _⟩ := hit
      obtain ⟨o2, q2, c2, _⟩ := p2
      rw [z, q1] at q2
      cases q2
      rw [c1] at c2
      exact absurd c2 (by decide)
    have nea : e ≠ a := fun z => by
      obtain ⟨o2, q2, c2, _⟩ := p2
      rw [← z] at q2
      have he' : s.heap.get? e = some _ := he
      rw [he'] at q2
      cases q2
      exact absurd (show Value.type "enumerate" = Value.type "tuple" from c2) (by decide)
    have hh : X.A.in1.handled = none := I.ok.hd hc
    have hi : i < its.toArray.size := by
      have := (List.getElem?_eq_some_iff.mp hu).1
      simpa using this
    refine wpAny_pyNext_enum_itemD (Draws.tuple hh it a nai its.toArray) he ⟨hit, p2⟩ hi hne (by simp [hne, nea]) fun y h' tk hP ho hs' hT hsz hk => ?_
    have ey : y = u := by
      have hu2 : its.toArray[i]? = some u := by simpa using hu
      rw [hu2] at hP
      exact (Option.some.inj hP).symm
    subst ey
    refine ⟨_, rfl, wpAny_letOwnedTupleGo_enum (s := { s with heap := h', toks := tk + 1 }) ho fun h'' he' sb => ?_⟩
    have hT2 : h''.get? s.heap.objs.size = some { cls := .type "tuple", data := .seq #[.int i tk, y] } := (sb.2 _ (Nat.ne_of_gt hel)).trans hT
    have nw : ObjOk X.prog X.w (upd H s.heap.objs.size (.tup [.int (i : Nat), x])) h'' s.heap.objs.size (.tup [.int (i : Nat), x]) :=
      ⟨by show 2 ≤ sizeLine; decide, [.int i tk, y], .cons ⟨_, rfl⟩ (.cons ru .nil), ⟨_, hT2, rfl, _, rfl⟩⟩
    have I1 : Inv X pins σ (upd H s.heap.objs.size (.tup [.int (i : Nat), x])) { s with heap := h'', toks := tk + 1 } :=
      I.turnedNew (ch := [e, it]) (fun b ob hb q => (sb.2 b (fun z => hb (by simp [z]))).trans (hk b ob (fun z => hb (by simp [z])) (fun z => hb (by simp [z])) q)) hf (Nat.le_refl _) nw
    refine ⟨.ref s.heap.objs.size, _, I1, rfl, ⟨_, x, rfl, I.hok.fresh (Nat.le_refl _), rfl, fun ys hy => by rw [I.tuple_inj hy hq]; exact hx⟩, ⟨⟨y, ?_⟩, hs'.1.at fun o q => (sb.2 it (Ne.symm hne)).trans q, hne⟩, fun b hb => ?_⟩
    · have e1 : ((i + 1 : Nat) : Int) = (i : Int) + 1 := by omega
      rw [e1]
      exact he'
    · have hb' : b < s.heap.objs.size := by
        rcases (by simpa using hb : b = e ∨ b = it) with z | z
        · rw [z]; exact hel
        · rw [z]; exact hil
      rw [upd_ne (Nat.ne_of_lt hb')]
      exact (hf b hb).1
  done := by
    intro X hP hw hK hc i pins s σ H E I hf st hg
    subst hP hw hK
    obtain ⟨⟨old, he⟩, hit, hne⟩ := st
    obtain ⟨xs, hq, hx⟩ := hg
    obtain ⟨its, rv, p, hz⟩ := I.tuple hq
    obtain ⟨g0, g1, g2, g3, g4, g5⟩ := hf it (by simp)
    have hl := rv.length
    exact next_enT (I.ok.hd hc) he hit p (by simp; omega) fun h' eb => ⟨rfl, I.turned (t' := s.toks) (fun b o hb q => eb b o hb q) g0 g1 g3 g4 g5⟩
  self := fun A i s Q E st h => wpAny_pyIter_enum st.1.choose_spec h
def iEnT (K : PySem.W.Frag) (ta : TA) : TI := fun σ H R => ta σ H fun vs H1 => ∃ a xs, vs = [.ref a] ∧ SqT K H1 a xs ∧ R (IteT K a) H1
theorem pi_enT {X : Cx} {e : Expr} {ta : TA} {p pos tpos : Pos} {elts : List Expr} {kk : Nat} (hg : Gl X "enumerate") (hm : X.mg "enumerate" = none) (ha : PA X [e] ta) (hs : starEach [e] X.env = [(false, eval e X.env)] := by rfl) :
    PI X (.Tuple elts kk tpos) (.Call (.Name "enumerate" p) [e] [] pos) (iEnT X.K ta) := by
  refine ⟨fun pins s σ H R I h => Call_ (ld_blt I hg hm boot_enumerate (PyProof.Rows.callWith_type1 (thn (ha.run pos pins s σ H _ I h) fun us s1 ⟨vs, H1, I1, r1, q1⟩ => ?_) hs rfl))⟩
  obtain ⟨a, xs, ee, hq, q⟩ := q1
  subst ee
  cases r1 with
  | cons r rr =>
    cases rr
    cases r
    obtain ⟨its, rv, p', hz⟩ := I1.tuple hq
    refine call_enT p' fun h' he hit hk => wpAny_pyIter_enum he ?_
    have I2 : Inv X pins σ H1 { s1 with heap := h' } := I1.kept (t' := s1.toks) hk
    refine ⟨s1.heap.objs.size + 1, [s1.heap.objs.size + 1, s1.heap.objs.size], _, _, H1, rfl, I2, turn_enT a (s1.heap.objs.size + 1) s1.heap.objs.size, ⟨⟨.none, he⟩, hit, Nat.succ_ne_self _⟩, fun b hb => ?_, q⟩
    have hle : s1.heap.objs.size ≤ b := by
      rcases (by simpa using hb : b = s1.heap.objs.size + 1 ∨ b = s1.heap.objs.size) with z | z
      · rw [z]; exact Nat.le_succ _
      · rw [z]; exact Nat.le_refl _
    exact I1.fpOk hle (I1.hok.fresh hle)
section
variable {X : Cx} {W : WX} {K : PySem.W.Frag} {m : Bool}
def seqE : D → Option (List D)
  | .tup ds => some ds
  | .ktp ds => some ds
  | _ => none
theorem RepT.tuples {H : Hp} {L : List (D × V)} {x : D} {ds : List D} {v : V} (e : seqE x = some ds) (r : RepT K H ((x, v) :: L)) : ∃ a vs, v = .ref a ∧ SqT K H a vs ∧ ds.length = vs.length ∧ RepT K H (ds.zip vs ++ L) := by
  cases x <;> simp only [seqE, Option.some.injEq, reduceCtorEq] at e <;> subst e
  · obtain ⟨a, vs, e, q, l, r2⟩ := r.openT
    exact ⟨a, vs, e, .inl (.inl q), l, r2⟩
  · obtain ⟨a, vs, e, q, l, r2⟩ := r.openK
    exact ⟨a, vs, e, q, l, r2⟩
theorem itET {a : Addr} {ds : List D} {x : D} (z : fz x = true) (hx : seqE x = some ds) : ItOk K (IteT K a) [(x, .ref a)] (enumD ds) := by
  have len : (enumD ds).length = ds.length := by simp [enumD]
  have rd : ∀ H L, RepT K H ((x, .ref a) :: L) → ∃ vs, SqT K H a vs ∧ ds.length = vs.length ∧ RepT K H (ds.zip vs ++ ((x, .ref a) :: L)) := fun H L h => by
    obtain ⟨b, vs, e, sq, l, r⟩ := RepT.tuples hx (RepT.dup z h)
    cases e
    exact ⟨vs, sq, l, r⟩
  refine ⟨fun i H L hi h => ?_, fun H L h => ?_, fun i H L y H' d h e yl => ?_⟩
  · obtain ⟨vs, sq, l, _⟩ := rd H L h
    rw [len] at hi
    exact ⟨vs, vs[i]'(by omega), sq, List.getElem?_eq_getElem _⟩
  · obtain ⟨vs, sq, l, _⟩ := rd H L h
    exact ⟨vs, sq, by omega⟩
  · obtain ⟨T, w, rfl, nT, rfl, hw⟩ := yl
    obtain ⟨vs, sq, l, r⟩ := rd H L h
    obtain ⟨u, hu, rfl⟩ := enum_get e
    have r2 := r.pick (zip_take hu (hw vs sq))
    exact RepT.newT (ds := [.int i, u]) (vs := [.int i, w]) rfl nT (RepT.int r2)
/-- enumerate of a list or a tuple -/
def isTp : D → Bool
  | .tup _ => true
  | .ktp _ => true
  | _ => false
def enumA : List D → Option (List D)
  | [x] => if isTp x = true then (if fz (freeze x) = true then (seqE (freeze x)).map enumD else none) else (lstOf (freeze x)).bind fun xs => if fzL xs = true ∧ fz (freeze x) = true then some (enumD xs) else none
  | _ => none
def dEnA (f : M (List D)) : M (List D) := bindM f fun ds => optM (enumA ds)
theorem vi_enA {elts : List Expr} {kk : Nat} {e : Expr} {f : M (List D)} {p pos tpos : Pos} (hg : Gl X "enumerate") (hm : X.mg "enumerate" = none) (ha : VA X W m [e] f) (hs : starEach [e] X.env = [(false, eval e X.env)] := by rfl) : VI X W (.Tuple elts kk tpos) (.Call (.Name "enumerate" p) [e] [] pos) (dEnA f) := by
  refine PI.imp (PI.orr (pi_enum hg hm ha hs) (pi_enT hg hm ha hs)) fun σ H R ⟨T, ρ, u, rep, hf, he⟩ => ?_
  unfold dEnA bindM at hf
  cases q : f ρ with
  | none => rw [q] at hf; cases hf
  | some w =>
    rw [q] at hf
    cases w with
    | ex x ρ1 =>
      have : u = .ex x ρ1 := (Option.some.inj hf).symm
      subst this
      exact .inl ⟨T, ρ, _, rep, q, he⟩
    | ok ds ρ1 =>
      obtain ⟨out, e, rfl⟩ := optM_some hf
      unfold enumA at e
      split at e
      · rename_i x
        split at e
        · split at e
          · rename_i z
            obtain ⟨xs, e1, e2⟩ := Option.map_eq_some_iff.mp e
            subst e2
            refine .inr ⟨T, ρ, _, rep, q, fun vs H1 s1 l1 r1 => ?_⟩
            obtain ⟨v, rfl⟩ := len1 l1
            have r2 : RepT X.K H1 ((freeze x, v) :: (T ++ SL ρ1 σ)) := RepT.freeze r1.rep
            obtain ⟨a, vs, rfl, sq, l, _⟩ := RepT.tuples e1 r2
            exact ⟨a, vs, rfl, sq, he _ _ H1 (itET z e1) ⟨r1.len, r1.nos, r2⟩⟩
          · cases e
        · obtain ⟨xs, e1, e2⟩ := Option.bind_eq_some_iff.mp e
          split at e2
          · rename_i z
            cases e2
            refine .inl ⟨T, ρ, _, rep, q, fun vs H1 s1 l1 r1 => ?_⟩
            obtain ⟨v, rfl⟩ := len1 l1
            have r2 : RepT X.K H1 ((freeze x, v) :: (T ++ SL ρ1 σ)) := RepT.freeze r1.rep
            obtain ⟨a, vs, rfl, sq, l, _⟩ := r2.list e1
            exact ⟨a, vs, rfl, sq, he _ _ H1 (itE z.2 e1 z.1) ⟨r1.len, r1.nos, r2⟩⟩
          · cases e2
      · cases e
end
end VS

set_option Elab.async false
set_option linter.all false
set_option maxRecDepth 100000
set_option maxHeartbeats 4000000
set_option autoImplicit false
/-! VX14: a slot frozen ahead of a statement. -/
noncomputable section
namespace VS
open PySem PySem.Spec PyProof.Rows L2
section
variable {X : Cx} {W : WX} {asg : List Nat}
def dPreS (k : Nat) (g : MS) : MS := fun ρ => if nunk ρ[k]? = true then g (ρ.set k (freeze (ρ.getD k .unk))) else none
theorem vs_pre {st : Stmt} {g : MS} (k : Nat) (h : VSt X W asg st g) : VSt X W asg st (dPreS k g) := by
  refine PS.imp h fun σ H E ⟨T, ρ, fl, ρ', rep, hf, he⟩ => ?_
  unfold dPreS at hf
  split at hf
  · rename_i nz
    have hk : ∃ d, ρ[k]? = some d ∧ d ≠ .unk := by
      cases q2 : ρ[k]? with
      | none => rw [q2] at nz; cases nz
      | some d => exact ⟨d, rfl, fun e => by rw [q2, e] at nz; cases nz⟩
    obtain ⟨d, hd, dn⟩ := hk
    have ed : ρ.getD k .unk = d := by rw [List.getD_eq_getElem?_getD, hd]; rfl
    rw [ed] at hf
    exact ⟨T, _, fl, ρ', rep.frz hd dn, hf, he⟩
  · cases hf
end
end VS

set_option Elab.async false
set_option linter.all false
set_option maxRecDepth 100000
set_option maxHeartbeats 4000000
set_option autoImplicit false
/-! VX15: min of a list of pairs of ints. -/
noncomputable section
namespace VS
open PySem PySem.Spec PyProof.Rows L2
section
variable {X : Cx} {W : WX} {K : PySem.W.Frag} {H : Hp} {σ : St} {L : List (D × V)}
def minP (p : Int × Int) (ps : List (Int × Int)) : Int × Int := ps.foldl (fun a y => if leL (p2 a) (p2 y) = true then a else y) p
def prP (p : Int × Int) : PyData := tupP (k2 p)
def PairAt (H : Hp) (w : V) (p : Int × Int) : Prop := ∃ b, w = .ref b ∧ H b = some (.tup ((k2 p).map kV))
theorem lt_prP (p q : Int × Int) : PySem.W.dataLt (prP q) (prP p) = !leL (p2 p) (p2 q) := by
  have h := leD_tI (p2 p) (p2 q)
  unfold leD PySem.W.dataLe at h
  simp only [dat_tI, Option.getD_some] at h
  unfold leL
  rw [← h]
  show PySem.W.dataLt (.tuple ((p2 q).map PyData.int)) (.tuple ((p2 p).map PyData.int)) = !(!PySem.W.dataLt (.tuple ((p2 q).map PyData.int)) (.tuple ((p2 p).map PyData.int)))
  rw [Bool.not_not]
theorem minD_prP (p : Int × Int) : ∀ ps : List (Int × Int), PySem.W.minD (prP p) (ps.map prP) = prP (minP p ps) := by
  intro ps
  unfold PySem.W.minD minP
  induction ps generalizing p with
  | nil => rfl
  | cons q ps ih =>
    rw [List.map_cons, List.foldl_cons, List.foldl_cons, lt_prP]
    cases leL (p2 p) (p2 q)
    · simp only [Bool.not_false, if_true, Bool.false_eq_true, if_false]
      exact ih q
    · simp only [Bool.not_true, if_true, Bool.false_eq_true, if_false]
      exact ih p
theorem prP_inj {p q : Int × Int} (h : prP p = prP q) : p = q := by
  unfold prP tupP k2 at h
  obtain ⟨a, b⟩ := p
  obtain ⟨c, d⟩ := q
  simp only [List.map_cons, List.map_nil] at h
  injection h with h
  injection h with h1 h2
  injection h2 with h2 _
  injection h1 with h1
  injection h2 with h2
  rw [h1, h2]
inductive PairsAt (H : Hp) : List V → List (Int × Int) → Prop
  | nil : PairsAt H [] []
  | cons {w : V} {p : Int × Int} {ws : List V} {ps : List (Int × Int)} : PairAt H w p → PairsAt H ws ps → PairsAt H (w :: ws) (p :: ps)
theorem PairsAt.get : ∀ {ws : List V} {ps : List (Int × Int)} {i : Nat} {w : V}, PairsAt H ws ps → ws[i]? = some w → ∃ p, PairAt H w p
  | _, _, _, _, .nil, h => by simp at h
  | _, _, 0, w, .cons (p := p) a t, h => by
    have e := Option.some.inj h
    subst e
    exact ⟨p, a⟩
  | _, _, i + 1, w, .cons a t, h => PairsAt.get (i := i) t h
def rMinP (K : PySem.W.Frag) : List V → Hp → VK → Prop := fun xs H Q => ∃ (a : Addr) (ws : List V) (p : Int × Int) (ps : List (Int × Int)), xs = [.ref a] ∧ SqL K H a ws ∧ PairsAt H ws (p :: ps) ∧ ∀ w, PairAt H w (minP p ps) → Q w H
theorem pairs_reads {pins : List (Addr × Obj)} {s : Shared} (I : Inv X pins σ H s) : ∀ {ws : List V} {ps : List (Int × Int)} {its : List Value}, PairsAt H ws ps → Vals ws its → ∃ as, ReadsAll s.heap its (ps.map prP) as
  | _, _, _, .nil, .nil => ⟨_, .nil⟩
  | _, _, _, .cons a t, .cons r rs => by
    obtain ⟨b, rfl, hb⟩ := a
    cases r
    obtain ⟨as, q⟩ := keyP_reads I hb
    obtain ⟨bs, q2⟩ := pairs_reads I t rs
    exact ⟨_, .cons q q2⟩
theorem depth_prP (ps : List (Int × Int)) : PyData.depthAll (ps.map prP) ≤ 2 := by
  induction ps with
  | nil => simp [PyData.depthAll]
  | cons p ps ih =>
    rw [List.map_cons, PyData.depthAll]
    have : (prP p).depth ≤ 2 := by simp [prP, tupP, k2, keyP, PyData.depth, PyData.depthAll]
    omega
theorem alike_prP (ps : List (Int × Int)) : PySem.W.AlikeAll (ps.map prP) := by
  refine ⟨fun x hx y hy => ?_, fun x hx => ?_⟩
  · obtain ⟨p, _, rfl⟩ := List.mem_map.mp hx
    obtain ⟨q, _, rfl⟩ := List.mem_map.mp hy
    rfl
  · obtain ⟨p, _, rfl⟩ := List.mem_map.mp hx
    intro z
    cases z
theorem cr_minP (hc : X.calm = true) (hu : X.A.units + 64 < cLine) : CallR X (.builtin "min") (rMinP X.K) := by
  intro pins s σ H vs us Q I r h
  obtain ⟨a, ws, p, ps, rfl, hs, hp, q⟩ := h
  rw [Vals.ref1 r]
  obtain ⟨its, rv, hl, _⟩ := I.list hs
  obtain ⟨as, hr⟩ := pairs_reads I hp rv
  have hd : X.A.units + 1 + PyData.depthAll (prP p :: ps.map prP) < cLine := by
    have := depth_prP (p :: ps)
    rw [List.map_cons] at this
    omega
  refine PySem.W.min_list_data (x := prP p) (xs := ps.map prP) (I.ok.hd hc) hl.isList (by simpa using hr) (by have := alike_prP (p :: ps); rwa [List.map_cons] at this) hd fun i v h' tk bs hi rr hk => ?_
  rw [minD_prP] at rr
  have hi2 : its[i]? = some v := by simpa using hi
  obtain ⟨w, hw, rw'⟩ : ∃ w, ws[i]? = some w ∧ RelV w v := by
    clear hr hp hs hl hi rr q
    rename_i zz
    clear zz
    induction rv generalizing i with
    | nil => simp at hi2
    | cons r1 _ ih =>
      cases i with
      | zero =>
        have e := Option.some.inj hi2
        subst e
        exact ⟨_, rfl, r1⟩
      | succ i => exact ih i hi2
  obtain ⟨p', b, rfl, hb⟩ := hp.get hw
  have I2 := I.kept (t' := tk) hk
  cases rw'
  obtain ⟨cs, r2⟩ := keyP_reads I2 hb
  have e : prP (minP p ps) = prP p' := PySem.Reads.unique rr _ _ r2 |>.1
  have e2 := prP_inj e
  exact ⟨.ref b, H, I2, rfl, q _ ⟨b, rfl, by rw [e2]; exact hb⟩⟩
def prOf : D → Option (Int × Int)
  | .tup [.int a, .int b] => some (a, b)
  | _ => none
def prsOf : List D → Option (List (Int × Int))
  | [] => some []
  | d :: ds => match prOf d, prsOf ds with
    | some p, some ps => some (p :: ps)
    | _, _ => none
def gMinP (ds : List D) : Option D := match ds with
  | [.lst _ xs] => match prsOf xs with
    | some (p :: ps) => some (.tup [.int (minP p ps).1, .int (minP p ps).2])
    | _ => none
  | _ => none
theorem prOf_eq {d : D} {p : Int × Int} (h : prOf d = some p) : d = .tup [.int p.1, .int p.2] := by
  unfold prOf at h
  split at h
  · cases h; rfl
  · cases h
theorem prs_at : ∀ {xs : List D} {ws : List V} {ps : List (Int × Int)}, prsOf xs = some ps → xs.length = ws.length → RepT K H (xs.zip ws ++ L) → PairsAt H ws ps
  | [], [], ps, e, _, _ => by cases e; exact .nil
  | [], _ :: _, ps, e, l, _ => by cases l
  | _ :: _, [], ps, e, l, _ => by cases l
  | x :: xs, w :: ws, ps, e, l, r => by
    rw [prsOf] at e
    cases e1 : prOf x with
    | none => rw [e1] at e; cases e
    | some p =>
      cases e2 : prsOf xs with
      | none => rw [e1, e2] at e; cases e
      | some qs =>
        rw [e1, e2] at e
        cases e
        have r1 : RepT K H ((x, w) :: (xs.zip ws ++ L)) := r
        refine .cons ?_ (prs_at e2 (Nat.succ.inj l) r1.drop)
        rw [prOf_eq e1] at r1
        obtain ⟨b, vs, rfl, q, l2, r2⟩ := r1.openT
        match vs, l2 with
        | [u, v], _ =>
          have r3 : RepT K H ((.int p.1, u) :: (.int p.2, v) :: (xs.zip ws ++ L)) := r2
          have h1 := r3.eq_int
          have h2 := r3.drop.eq_int
          subst h1
          subst h2
          exact ⟨b, rfl, q⟩
theorem impMinP : ImpA K (rMinP K) gMinP := by
  intro H L ds vs d Q e l r h
  unfold gMinP at e
  split at e
  · rename_i o xs
    split at e
    · rename_i p ps e2
      cases e
      obtain ⟨v, rfl⟩ := len1 l
      have r1 : RepT K H ((.lst o xs, v) :: L) := r
      obtain ⟨a, ws, rfl, q, l2, r2⟩ := r1.readL
      refine ⟨a, ws, p, ps, rfl, .inl (.inl q), prs_at e2 l2 r2, fun w hw => ?_⟩
      obtain ⟨b, rfl, hb⟩ := hw
      refine h _ H (Same.refl _) (RepT.tupOf hb (fun F' => ?_) r1.drop)
      exact key_own (k2 (minP p ps))
    · cases e
  · cases e
end
end VS

set_option Elab.async false
set_option linter.all false
set_option maxRecDepth 100000
set_option maxHeartbeats 4000000
set_option autoImplicit false
/-! VX16: l.reverse(). -/
noncomputable section
namespace VS
open PySem PySem.Spec PyProof.Rows L2
theorem zip_snoc {α β : Type} : ∀ {xs : List α} {ws : List β} {x : α} {w : β}, xs.length = ws.length → (xs ++ [x]).zip (ws ++ [w]) = xs.zip ws ++ [(x, w)]
  | [], [], _, _, _ => rfl
  | [], _ :: _, _, _, h => by cases h
  | _ :: _, [], _, _, h => by cases h
  | a :: xs, b :: ws, x, w, h => by
    rw [List.cons_append, List.cons_append, List.zip_cons_cons, zip_snoc (Nat.succ.inj h)]
    rfl
theorem zip_rev {α β : Type} : ∀ {xs : List α} {ws : List β}, xs.length = ws.length → xs.reverse.zip ws.reverse = (xs.zip ws).reverse
  | [], [], _ => rfl
  | [], _ :: _, h => by cases h
  | _ :: _, [], h => by cases h
  | a :: xs, b :: ws, h => by
    rw [List.reverse_cons, List.reverse_cons, List.zip_cons_cons, List.reverse_cons, zip_snoc (by simpa using h), zip_rev (Nat.succ.inj h)]
theorem impRev {K : PySem.W.Frag} : ImpM K rReverse gRev := by
  intro H L xs xs' ds vs d a Q e l r h
  unfold gRev at e
  split at e
  · cases e
    have hv : vs = [] := List.eq_nil_of_length_eq_zero (by simpa using l.symm)
    subst hv
    have r0 : RepT K H ((.lst true xs, .ref a) :: L) := r
    obtain ⟨a', ws, ea, hq, lw, r3⟩ := r0.openL
    cases ea
    refine ⟨a, ws, rfl, rfl, hq, h _ _ (RepT.non (RepT.closeL (by simp [lw]) ?_))⟩
    rw [zip_rev lw]
    exact r3.perm (((List.reverse_perm _).symm.append_right L).cons _)
  · cases e
end VS

set_option Elab.async false
set_option linter.all false
set_option maxRecDepth 100000
set_option maxHeartbeats 4000000
set_option autoImplicit false
/-! VX17: a list of frozen data, so many times. -/
noncomputable section
namespace VS
open PySem PySem.Spec PyProof.Rows L2
section
variable {K : PySem.W.Frag} {H : Hp} {L : List (D × V)}
theorem RepT.dupL {xs : List D} {vs : List V} (z : fzL xs = true) (l : xs.length = vs.length) (r : RepT K H (xs.zip vs ++ L)) : RepT K H (xs.zip vs ++ (xs.zip vs ++ L)) := by
  obtain ⟨F, A, sF, nd, fr, o⟩ := r
  obtain ⟨A1, A2, rfl, o1, o2⟩ := o.split
  have e := (o1.toL l).frozen _ _ _ z
  subst e
  exact ⟨F, [] ++ ([] ++ A2), sF, nd, fr, o1.append (o1.append o2)⟩
theorem RepT.reps {xs : List D} {vs : List V} (z : fzL xs = true) (l : xs.length = vs.length) : ∀ (n : Nat), RepT K H (xs.zip vs ++ L) → RepT K H (xs.zip vs ++ ((List.replicate n xs).flatten.zip (List.replicate n vs).flatten ++ L))
  | 0, r => r
  | n + 1, r => by
    have r1 := RepT.dupL z l (RepT.reps z l n r)
    rw [List.replicate_succ, List.replicate_succ, List.flatten_cons, List.flatten_cons, zip_app l, List.append_assoc]
    exact r1
def gMulF (x y : D) : Option D := match x, y with
  | .lst _ xs, .int k => if in63 k ∧ xs.length * k.toNat ≤ sizeLine ∧ fzL xs = true then some (.lst true (List.replicate k.toNat xs).flatten) else none
  | _, _ => none
theorem impMulF : Imp2 K (fun x y H Q => rRep x y H Q ∨ rI CMul (fun i j => .int (i * j)) x y H Q) gMulF := by
  intro H L x y d v w Q e r h
  unfold gMulF at e
  split at e
  · rename_i o xs k
    split at e
    · rename_i z
      cases e
      have ew := r.eq_int
      subst ew
      obtain ⟨a, vs, rfl, hq, l, r2⟩ := r.drop.readL
      refine .inl ⟨a, k, vs, rfl, rfl, hq, z.1.lo, z.1.hi, by rw [← l]; exact z.2.1, fun p hp => h _ _ (Same.upd hp) (RepT.newL ?_ hp (RepT.dropL (U := xs.zip vs) (RepT.reps z.2.2 l k.toNat r2)))⟩
      simp [l]
    · cases e
  · cases e
end
end VS

set_option Elab.async false
set_option linter.all false
set_option maxRecDepth 100000
set_option maxHeartbeats 4000000
set_option autoImplicit false
/-! VX18: x in a tuple of data. -/
noncomputable section
namespace VS
open PySem PySem.Spec PyProof.Rows L2
section
variable {X : Cx} {K : PySem.W.Frag}
def rInT (K : PySem.W.Frag) (neg : Bool) : R2 := fun x y H Q => ∃ d ds, Dp K H x d ∧ Dp K H y (.tuple ds) ∧ SeqAt.shaped d = true ∧ SeqAt.shaped (.tuple ds) = true ∧ Q (.bl (if neg = true then !(ds.any fun z => PyData.eqv z d) else ds.any fun z => PyData.eqv z d)) H
theorem op_inT (hu : X.A.units + 65 < cLine) : OpR X (compareOp .In) (rInT X.K false) := by
  intro pins s σ H x y v u Q I rx ry h
  obtain ⟨d, ds, hd, ht, sd, st, q⟩ := h
  obtain ⟨as, r1⟩ := Dp.reads I d x v hd rx
  obtain ⟨bs, r2⟩ := Dp.reads I (.tuple ds) y u ht ry
  exact SeqAt.in_tuple_reads r2 r1 (SeqAt.canLay_of_shaped st) (SeqAt.canLay_of_shaped sd) (room_in_shaped sd hu) ⟨.bl _, H, I, rfl, q⟩
theorem op_ninT (hu : X.A.units + 65 < cLine) : OpR X (compareOp .NotIn) (rInT X.K true) := by
  intro pins s σ H x y v u Q I rx ry h
  obtain ⟨d, ds, hd, ht, sd, st, q⟩ := h
  obtain ⟨as, r1⟩ := Dp.reads I d x v hd rx
  obtain ⟨bs, r2⟩ := Dp.reads I (.tuple ds) y u ht ry
  exact SeqAt.notIn_tuple_reads r2 r1 (SeqAt.canLay_of_shaped st) (SeqAt.canLay_of_shaped sd) (room_in_shaped sd hu) ⟨.bl _, H, I, rfl, q⟩
def inBT (x y : D) : Option Bool := match dat x, dat y with
  | some a, some (.tuple es) => if SeqAt.shaped a = true ∧ SeqAt.shaped (.tuple es) = true then some (es.any fun z => PyData.eqv z a) else none
  | _, _ => none
def gInT (neg : Bool) (x y : D) : Option D := (inBT x y).map fun b => .bl (if neg = true then !b else b)
theorem inBT_inv {x y : D} {b : Bool} (h : inBT x y = some b) : ∃ a es, dat x = some a ∧ dat y = some (.tuple es) ∧ SeqAt.shaped a = true ∧ SeqAt.shaped (.tuple es) = true ∧ b = es.any fun z => PyData.eqv z a := by
  unfold inBT at h
  split at h
  · rename_i a es e1 e2
    split at h
    · rename_i z
      exact ⟨a, es, e1, e2, z.1, z.2, (Option.some.inj h).symm⟩
    · cases h
  · cases h
theorem impInT (neg : Bool) : Imp2 K (rInT K neg) (gInT neg) := by
  intro H L x y d v w Q e r h
  obtain ⟨b, eb, rfl⟩ := Option.map_eq_some_iff.mp e
  obtain ⟨a, es, e1, e2, h1, h2, rfl⟩ := inBT_inv eb
  exact ⟨a, es, (r.perm (.swap _ _ _)).dp e1, r.dp e2, h1, h2, h _ _ (Same.refl _) (r.drop.drop.bl)⟩
end
end VS

set_option Elab.async false
set_option linter.all false
set_option maxRecDepth 100000
set_option maxHeartbeats 4000000
set_option autoImplicit false
/-! VX19: len(set(t)), t a tuple of ints. -/
noncomputable section
namespace VS
open PySem PySem.Spec PyProof.Rows L2
def ddI : List Int → List Int
  | [] => []
  | x :: xs => if x ∈ ddI xs then ddI xs else x :: ddI xs
theorem dd_mem : ∀ {xs : List Int} {k : Int}, k ∈ ddI xs ↔ k ∈ xs
  | [], k => by simp [ddI]
  | x :: xs, k => by
    rw [ddI]
    split
    · rename_i h
      rw [dd_mem (xs := xs), List.mem_cons]
      constructor
      · exact .inr
      · rintro (e | e)
        · subst e
          exact dd_mem.mp h
        · exact e
    · rw [List.mem_cons, List.mem_cons, dd_mem (xs := xs)]
theorem dd_nodup : ∀ (xs : List Int), (ddI xs).Nodup
  | [] => by simp [ddI]
  | x :: xs => by
    rw [ddI]
    split
    · exact dd_nodup xs
    · rename_i h
      exact List.nodup_cons.mpr ⟨h, dd_nodup xs⟩
theorem dd_len {xs : List Int} {out : List Int} (hn : out.Nodup) (h : ∀ k, k ∈ out ↔ k ∈ xs) : out.length = (ddI xs).length :=
  ((List.perm_ext_iff_of_nodup hn (dd_nodup xs)).mpr fun k => (h k).trans dd_mem.symm).length_eq
section
variable {X : Cx} {W : WX} {K : PySem.W.Frag} {m : Bool}
def tLenSetT (K : PySem.W.Frag) (ta : TE) : TE := fun σ H Q => ta σ H fun x H1 => ∃ (l : Addr) (ns : List Int), x = V.ref l ∧ SqT K H1 l (ns.map V.int) ∧ ns.length ≤ 1000 ∧ Q (.int (ddI ns).length) H1
theorem pe_lenSetT {a : Expr} {ta : TE} {p p2 q pos : Pos} (hc : X.calm = true) (hg : Gl X "len") (hm : X.mg "len" = none) (hg2 : Gl X "set") (hm2 : X.mg "set" = none) (ha : PE X a ta)
    (na : starEach [a] X.env = (false, eval a X.env) :: starEach [] X.env := by rfl) : PE X (.Call (.Name "len" p) [.Call (.Name "set" p2) [a] [] q] [] pos) (tLenSetT X.K ta) := by
  refine ⟨fun pins s σ H Q I h => Call_ (ld_blt I hg hm PySem.boot_len (PyProof.Rows.callWith_builtin1 (PyProof.Rows.args_cons (Call_ (ld_blt I hg2 hm2 PyProof.Rows.boot_set (PyProof.Rows.callWith_type1 (PyProof.Rows.args_cons (thn (ha.run pins s σ H _ I h) fun v s1 ⟨x, H1, I1, r1, q1⟩ => PyProof.Rows.args_nil ?_) na) na rfl))) rfl) rfl rfl))⟩
  obtain ⟨l, ns, rfl, hq, h1, q1⟩ := q1
  cases r1
  obtain ⟨its, r, pl, hz⟩ := I1.tuple hq
  have hi : IntsAre its.toArray.toList ns := ints_of_vals r
  refine call_set_tupI ns (I1.ok.hd hc) (show s1.heap.IsTuple l its.toArray from pl) hi (by unfold scanBound; omega) fun h' tk c R1 hcn k => ?_
  obtain ⟨o, es, ep, t, ho, hex, hdt, g, nd, hm3, hb, hf, hn, hr, hl2⟩ := R1
  have e1 : es.size = (ddI ns).length := by
    have := dd_len (xs := ns) nd fun j => (hm3 j).symm.trans decide_eq_true_iff
    rw [List.length_map, Array.length_toList] at this
    exact this
  refine PyProof.Rows.args_nil ?_
  have I2 : Inv X pins σ H1 { s1 with heap := h', toks := tk } := I1.kept fun b o e => k b o e
  refine call_len_set ho hex hdt hf ?_ ⟨.int (ddI ns).length, H1, I2.tok _, ⟨_, by rw [e1]⟩, q1⟩
  have : scanBound < 2 ^ 60 := by unfold scanBound; decide
  omega
def lsT (d : D) : Option D := match d with
  | .tup ds => match allI ds with
    | some ns => if ns.length ≤ 1000 then some (.int (ddI ns).length) else none
    | none => none
  | _ => none
def dLenSet (f : M D) : M D := bindM f fun d => optM (lsT d)
theorem ve_lenSet {a : Expr} {f : M D} {p p2 q pos : Pos} (hc : X.calm = true) (hg : Gl X "len") (hm : X.mg "len" = none) (hg2 : Gl X "set") (hm2 : X.mg "set" = none) (ha : VE X W m a f)
    (na : starEach [a] X.env = (false, eval a X.env) :: starEach [] X.env := by rfl) : VE X W m (.Call (.Name "len" p) [.Call (.Name "set" p2) [a] [] q] [] pos) (dLenSet f) := by
  refine PE.imp (pe_lenSetT hc hg hm hg2 hm2 ha na) fun σ H Q ⟨T, ρ, u, rep, hf, he⟩ => ?_
  refine run1 rep hf he fun d ρ1 v H1 h1 s1 r1 => ?_
  obtain ⟨d', e, rfl⟩ := optM_some h1
  unfold lsT at e
  split at e
  · rename_i ds
    split at e
    · rename_i ns e2
      split at e
      · rename_i z
        cases e
        obtain ⟨b, vs, rfl, hq, l, r2⟩ := RepT.openT (L := T ++ SL ρ1 σ) r1.rep
        rw [allI_eq e2] at l r2
        have := zip_int (by rw [← l, List.length_map]) r2
        subst this
        exact ⟨b, ns, rfl, .inl (.inl hq), z, he _ H1 s1 (r1.drop.lift fun q => q.int)⟩
      · cases e
    · cases e
  · cases e
end
end VS

set_option Elab.async false
set_option linter.all false
set_option maxRecDepth 100000
set_option maxHeartbeats 4000000
set_option autoImplicit false
/-! VX20: l.pop(). -/
noncomputable section
namespace VS
open PySem PySem.Spec PyProof.Rows L2
def gPop0 (xs ds : List D) : Option (D × List D) := match ds with
  | [] => match xs.getLast? with
    | some y => some (y, xs.dropLast)
    | none => none
  | _ => none
theorem impPop0 {K : PySem.W.Frag} : ImpM K rPop gPop0 := by
  intro H L xs xs' ds vs d a Q e l r h
  unfold gPop0 at e
  split at e
  · have hv : vs = [] := List.eq_nil_of_length_eq_zero (by simpa using l.symm)
    subst hv
    cases q : xs.getLast? with
    | none => rw [q] at e; cases e
    | some y =>
      rw [q] at e
      cases e
      have r0 : RepT K H ((.lst true xs, .ref a) :: L) := r
      obtain ⟨a', ws, ea, hq, lw, r3⟩ := r0.openL
      cases ea
      obtain ⟨xs0, rfl⟩ : ∃ xs0, xs = xs0 ++ [d] := by
        have := List.getLast?_eq_some_iff.mp q
        obtain ⟨ys, e⟩ := this
        exact ⟨ys, e⟩
      obtain ⟨ws0, w, rfl⟩ : ∃ ws0 w, ws = ws0 ++ [w] := by
        have hne : ws ≠ [] := fun z => by rw [z] at lw; simp at lw
        exact ⟨ws.dropLast, ws.getLast hne, (List.dropLast_concat_getLast hne).symm⟩
      have lw0 : xs0.length = ws0.length := by simpa using lw
      refine ⟨a, ws0 ++ [w], w, rfl, rfl, hq, by simp, h _ _ ?_⟩
      rw [zip_snoc lw0, List.append_assoc] at r3
      have r4 : RepT K H ((.hole, .ref a) :: (xs0.zip ws0 ++ ((d, w) :: L))) := r3
      have r5 := RepT.closeL lw0 r4
      rw [List.dropLast_concat, List.dropLast_concat]
      exact r5.perm (.swap _ _ _)
  · cases e
end VS

set_option Elab.async false
set_option linter.all false
set_option maxRecDepth 100000
set_option maxHeartbeats 4000000
set_option autoImplicit false
/-! VX21: t[::-1], t a tuple. -/
noncomputable section
namespace VS
open PySem PySem.Spec PyProof.Rows L2 HT
section
variable {prog : Program} {w : World} {A : Around} {E : Value → Shared → Prop} {s : Shared}
theorem applied_rev {sl : Addr} {vs : Value} {n : Nat} {Q : Int × Int × Nat → Shared → Prop} (hs : s.heap.IsSliceOf sl .none .none vs) (ps : IsPart vs (some (-1)))
    (h : Q ((n : Int) - 1, -1, n) s) : wpAny (model prog w) A (Builtin.Slice.sliceApplied (.ref sl) (pure (n : Int))) Q E s := by
  obtain ⟨os, hos, hcs, hds⟩ := id hs
  unfold Builtin.Slice.sliceApplied Builtin.Slice.sliceFields
  refine wpAny_bind (wpAny_bind (wpAny_field hos hds (x := .none) rfl (wpAny_bind (wpAny_field hos hds (x := .none) rfl (wpAny_bind (wpAny_field hos hds (x := vs) rfl (wpAny_pure ?_)))))))
  refine wpAny_bind (slicePart_ ps ?_)
  show wpAny _ _ (if ((-1 : Int) == 0) = true then _ else _) _ _ s
  rw [if_neg (by decide)]
  refine wpAny_bind (slicePart_ .none (wpAny_bind (slicePart_ .none (wpAny_bind (wpAny_pure ?_)))))
  have e : Builtin.Slice.sliceAdjust none none (-1) (n : Int) = ((n : Int) - 1, -1) := by
    first
    | rfl
    | simp [Builtin.Slice.sliceAdjust]
  have e2 : Builtin.Slice.slicePlaces ((n : Int) - 1) (-1) (-1) = n := by
    unfold Builtin.Slice.slicePlaces
    simp
    omega
  show wpAny _ _ (match Builtin.Slice.sliceAdjust none none (-1) (n : Int) with | (lo, hi) => pure (lo, (-1 : Int), Builtin.Slice.slicePlaces lo hi (-1))) _ _ s
  rw [e]
  show wpAny _ _ (pure ((n : Int) - 1, (-1 : Int), Builtin.Slice.slicePlaces ((n : Int) - 1) (-1) (-1))) _ _ s
  rw [e2]
  exact wpAny_pure h
theorem pick_rev (xs : Array Value) : ((List.range xs.size).filterMap fun (m : Nat) => xs[(((xs.size : Int) - 1) + (m : Int) * -1).toNat]?).toArray = xs.toList.reverse.toArray := by
  have e : (fun (m : Nat) => xs[(((xs.size : Int) - 1) + (m : Int) * -1).toNat]?) = fun m => xs[(xs.size - 1 - m)]? := by
    funext m
    have : ((((xs.size : Int) - 1) + (m : Int) * -1)).toNat = xs.size - 1 - m := by omega
    rw [this]
  rw [e]
  have h := PySem.W.krv_all xs
  have h2 : (List.range xs.size).filterMap (fun m => xs[(xs.size - 1 - m)]?) = ((List.range xs.size).map fun k => xs.size - 1 - k).filterMap (xs[·]?) := by
    rw [List.filterMap_map]
    rfl
  rw [h2, PySem.W.krv_range, List.filterMap_reverse, h]
theorem getItem_tuple_rev {t sl : Addr} {items : Array Value} {vs : Value} {Q : Value → Shared → Prop} (ht : IsTup s.heap t items) (hs : s.heap.IsSliceOf sl .none .none vs) (ps : IsPart vs (some (-1)))
    (h : Q (.ref s.heap.objs.size) { s with heap := s.heap.push { cls := .type "tuple", data := .seq items.toList.reverse.toArray } })
    (hsz : items.size ≤ sizeLine) : wpAny (model prog w) A (getItem (.ref t) (.ref sl)) Q E s := by
  have htake : sizeOk (.seq items.toList.reverse.toArray) := by
    show items.toList.reverse.toArray.size ≤ sizeLine
    rw [List.size_toArray, List.length_reverse, Array.length_toList]
    exact hsz
  obtain ⟨os, hos, hcs, hds⟩ := id hs
  have hTs : s.TypeIs (.ref sl) "slice" := ⟨os, hos, hcs⟩
  unfold getItem
  try with_reducible refine wpAny_holding ?_
  first | refine wpAny_bind (wpAny_pure ?_) | skip
  refine wpAny_bind (wpAny_sequenceKey ht.typeIs (by decide) ?_)
  refine wpAny_bind (wpAny_callSpecial?_slot (name := Str.ofString "__getitem__") ht.typeIs PyProof.Rows.slot_tuple_getitem
    (wpAny_call_entry PyProof.Rows.slot_tuple_getitem ht.typeIs entry_tuple_getitem ?_ (args_tuple_getitem _ _)))
  show wpAny _ _ (Builtin.Tuple.tupleItemsOf (.ref t) >>= _) _ _ s
  refine wpAny_bind (tupleItemsOf_ ht ?_)
  refine wpAny_bind (wpAny_typeOf hTs ?_)
  rw [if_pos (by decide)]
  refine wpAny_bind (applied_rev hs ps ?_)
  have hno : ¬ ((((items.size : Int) - 1) == 0 && (-1 : Int) == 1 && items.size == items.size) = true) := by
    intro q
    rw [Bool.and_eq_true, Bool.and_eq_true] at q
    exact absurd q.1.2 (by decide)
  show wpAny _ _ (if (((items.size : Int) - 1) == 0 && (-1 : Int) == 1 && items.size == items.size) = true then _ else _) _ _ s
  rw [if_neg hno, pick_rev]
  first
    | exact wpAny_bind (m := Builtin.Tuple.tupleExact _) (wpAny_newObj_type (wpAny_pure ⟨_, rfl, wpAny_pure h⟩) htake)
    | exact wpAny_bind (m := Builtin.Tuple.tupleExact _) (wpAny_newObj_type (wpAny_bind (wpAny_pure (wpAny_pure ⟨_, rfl, wpAny_pure h⟩))) htake)
    | exact wpAny_bind (wpAny_bind (m := Builtin.Tuple.tupleExact _) (wpAny_newObj_type (wpAny_pure (wpAny_pure ⟨_, rfl, wpAny_pure h⟩)) htake))
    | exact wpAny_bind (wpAny_bind (m := Builtin.Tuple.tupleExact _) (wpAny_newObj_type (wpAny_pure ⟨_, rfl, wpAny_pure h⟩) htake))
end
section
variable {X : Cx} {W : WX} {m : Bool}
def tRevT (K : PySem.W.Frag) (te : TE) : TE := fun σ H Q => te σ H fun x H1 => ∃ a xs, x = .ref a ∧ SqT K H1 a xs ∧ ∀ p, H1 p = none → Q (.ref p) (upd H1 p (.tup xs.reverse))
theorem pe_revT {e : Expr} {te : TE} {k : Nat} {p1 p2 p3 pos : Pos} (he : PE X e te) : PE X (.Subscript e (.Slice none none (some (.UnaryOp .USub (.Constant (.int 1) k p1) p2)) p3) pos) (tRevT X.K te) := by
  refine ⟨fun pins s σ H Q I h => ?_⟩
  refine Subscript_ (thn (he.run pins s σ H _ I h) fun v s1 ⟨x, H1, I1, r1, q1⟩ => ?_)
  obtain ⟨a, xs, ex, hx, q⟩ := q1
  subst ex
  cases r1
  have hst : PO X (some (.UnaryOp .USub (.Constant (.int 1) k p1) p2)) (tPart (tUn (rU fun i => .int (-i)) (tC (.int 1)))) := po_some (pe_un un_neg pe_int)
  refine wpAny_Slice (thn (po_none.run pins s1 σ H1 (fun o H2 => o = none ∧ H2 = H1) I1 ⟨rfl, rfl⟩) fun vl s2 ⟨l, H2, I2, pl, el, e2⟩ => ?_)
  subst el e2
  refine thn (po_none.run pins s2 σ H2 (fun o H3 => o = none ∧ H3 = H2) I2 ⟨rfl, rfl⟩) fun vu s3 ⟨u, H3, I3, pu, eu, e3⟩ => ?_
  subst eu e3
  refine thn (hst.run pins s3 σ H3 (fun o H4 => o = some (-1) ∧ H4 = H3) I3 ⟨1, rfl, -1, rfl, rfl, rfl⟩) fun vs s4 ⟨o, H4, I4, ps, eo, e4⟩ => ?_
  subst eo e4
  cases pl
  cases pu
  have I5 : Inv X pins σ H4 { s4 with heap := s4.heap.push { cls := .type "slice", data := .fields #[.none, .none, vs] } } := I4.kept (t' := s4.toks) fun b ob q => Heap.get?_push_of_some _ q
  obtain ⟨its, r, ht, hz⟩ := I5.tuple hx
  have hlen := r.length
  show wpAny (model X.prog X.w) X.A (subscriptTail e (.Slice none none (some (.UnaryOp .USub (.Constant (.int 1) k p1) p2)) p3) (.ref a) (.ref s4.heap.objs.size)) (EP X pins σ Q) X.xe { s4 with heap := s4.heap.push { cls := .type "slice", data := .fields #[.none, .none, vs] } }
  refine tail_any (ops := [.ref a, .ref s4.heap.objs.size]) ht.typeIs (PyProof.Rows.slot_tuple_getitem.lookup) ?_ (by with_unfolding_all rfl)
  refine getItem_tuple_rev ht (Heap.IsSliceOf.new _ .none .none vs) ps ?_ (by rw [List.size_toArray]; omega)
  refine ⟨.ref _, _, I5.laid (t' := s4.toks) (o := .tup xs.reverse) (fun b ob q => Heap.get?_push_of_some _ q) (Nat.le_refl _) ?_, rfl, q _ (I5.hok.fresh (Nat.le_refl _))⟩
  exact ⟨by rw [List.length_reverse]; exact hz, _, r.reverse, IsTup.new _ _⟩
def gRvT (d : D) : Option D := match d with
  | .tup ds => some (.tup ds.reverse)
  | _ => none
def dRvT (f : M D) : M D := bindM f fun d => optM (gRvT d)
theorem ve_revT {e : Expr} {f : M D} {k : Nat} {p1 p2 p3 pos : Pos} (ha : VE X W m e f) : VE X W m (.Subscript e (.Slice none none (some (.UnaryOp .USub (.Constant (.int 1) k p1) p2)) p3) pos) (dRvT f) := by
  refine PE.imp (pe_revT ha) fun σ H Q ⟨T, ρ, u, rep, hf, he⟩ => ?_
  refine run1 rep hf he fun d ρ1 v H1 h1 s1 r1 => ?_
  obtain ⟨d', e, rfl⟩ := optM_some h1
  unfold gRvT at e
  split at e
  · rename_i ds
    cases e
    obtain ⟨b, vs, rfl, hq, l, r2⟩ := RepT.openT (L := T ++ SL ρ1 σ) r1.rep
    refine ⟨b, vs, rfl, .inl (.inl hq), fun p hp => he _ _ (sm_r s1 (Same.upd hp)) ⟨r1.len, r1.nos, ?_⟩⟩
    refine RepT.newT (by simp [l]) hp ?_
    rw [zip_rev l]
    exact r2.perm ((List.reverse_perm _).symm.append_right _)
  · cases e
end
end VS

set_option Elab.async false
set_option linter.all false
set_option maxRecDepth 100000
set_option maxHeartbeats 4000000
set_option autoImplicit false
/-! VX22: i in range(n). -/
noncomputable section
namespace VS
open PySem PySem.Spec PyProof.Rows L2
section
variable {X : Cx} {W : WX} {K : PySem.W.Frag} {m : Bool}
theorem RepT.keepU {H : Hp} {L : List (D × V)} {p : Addr} {o : HO} (hp : H p = none) (h : RepT K H L) : RepT K (upd H p o) L := by
  obtain ⟨F, A, sF, nd, fr, q⟩ := h
  refine ⟨F, A, sF.trans (Same.upd hp), nd, fr, q.keep (Same.refl _) fun a ha => upd_ne fun z => ?_⟩
  obtain ⟨u, e, _⟩ := q.dom a ha
  rw [z, hp] at e
  cases e
def rRg1 : List V → Hp → VK → Prop := fun vs H Q => ∃ j, vs = [V.int j] ∧ ∀ p, H p = none → Q (.ref p) (upd H p (.rng 0 j))
theorem cr_range1 : CallR X (.type "range") rRg1 := by
  intro pins s σ H vs us Q I r h
  obtain ⟨j, rfl, q⟩ := h
  cases r with
  | cons ri r =>
    cases r
    obtain ⟨t, rfl⟩ := ri
    refine call_range_1 ⟨.ref s.heap.objs.size, upd H s.heap.objs.size (.rng 0 j), I.laid (t' := s.toks + 1 + 1) (fun b o e => Heap.get?_push_of_some _ e) (Nat.le_refl _) ?_, rfl, q _ (I.hok.fresh (Nat.le_refl _))⟩
    exact ⟨_, _, _, Heap.get?_push_size _ rfl⟩
def rInRg (neg : Bool) : R2 := fun x y H Q => ∃ i a lo hi, x = V.int i ∧ y = V.ref a ∧ H a = some (.rng lo hi) ∧ Q (.bl (if neg = true then !decide (lo ≤ i ∧ i < hi) else decide (lo ≤ i ∧ i < hi))) H
theorem op_inRg : OpR X (compareOp .In) (rInRg false) := op_in_rng
theorem op_ninRg : OpR X (compareOp .NotIn) (rInRg true) := by
  intro pins s σ H x y v u Q I rx ry h
  obtain ⟨i, a, lo, hi, rfl, rfl, ha, q⟩ := h
  obtain ⟨k, rfl⟩ := rx
  obtain rfl : u = Value.ref a := ry
  obtain ⟨t1, t2, t3, ho⟩ := I.hok a _ ha
  refine NotIn_slot (T := "range") ⟨_, ho, rfl⟩ F.slot_range_contains (call_meets F.slot_range_contains ⟨_, ho, rfl⟩ F.entry_range_contains (F.args_range_contains_2 _ _) (q_contains a lo hi i t1 t2 t3 k)
    ⟨ho, wpAny_truthy_bool ⟨.bl _, H, I, rfl, ?_⟩⟩)
  rw [place1]
  exact q
def gInRg (neg : Bool) (x y : D) : Option D := match x, y with
  | .int i, .int n => some (.bl (if neg = true then !decide (0 ≤ i ∧ i < n) else decide (0 ≤ i ∧ i < n)))
  | _, _ => none
theorem impInRg (neg : Bool) : Imp2 K (fun x y H Q => rRg1 [y] H fun z H1 => rInRg neg x z H1 Q) (gInRg neg) := by
  intro H L x y d v w Q e r h
  unfold gInRg at e
  split at e
  · rename_i i n
    cases e
    have ev := r.eq_int
    have ew := r.drop.eq_int
    subst ev ew
    refine ⟨n, rfl, fun p hp => ⟨i, p, 0, n, rfl, rfl, by simp [upd], ?_⟩⟩
    exact h _ _ (Same.upd hp) (RepT.bl (RepT.keepU hp r.drop.drop))
  · cases e
theorem ve_inRg {a b : Expr} {op : CmpOp} {neg : Bool} {fa fb : M D} {ma mb : Bool} {p q pos : Pos} (ho : OpR X (compareOp op) (rInRg neg)) (hg : Gl X "range") (hm : X.mg "range" = none) (ha : VE X W ma a fa) (hb : VE X W mb b fb) (hk : behindInMarks op (.Call (.Name "range" p) [b] [] q) = false)
    (na : starEach [b] X.env = (false, eval b X.env) :: starEach [] X.env := by rfl) : VE X W (ma || mb) (.Compare a [op] [.Call (.Name "range" p) [b] [] q] pos) (d2 (gInRg neg) fa fb) :=
  PE.imp (pe_cmpR ho ha (pe_callTy cr_range1 hg hm boot_range (pa_cons hb pa_nil na) (he := na)) hk) fun _ _ _ h => tOp_of (impInRg neg) h
theorem vt_inRg {a b : Expr} {op : CmpOp} {neg : Bool} {fa fb : M D} {ma mb : Bool} {p q pos : Pos} (ho : OpR X (compareOp op) (rInRg neg)) (hg : Gl X "range") (hm : X.mg "range" = none) (ha : VE X W ma a fa) (hb : VE X W mb b fb) (hk : behindInMarks op (.Call (.Name "range" p) [b] [] q) = false)
    (na : starEach [b] X.env = (false, eval b X.env) :: starEach [] X.env := by rfl) : VT X W (ma || mb) (.Compare a [op] [.Call (.Name "range" p) [b] [] q] pos) (dTB (d2 (gInRg neg) fa fb)) := by
  refine PT.imp (pt_cmpR ho ha (pe_callTy cr_range1 hg hm boot_range (pa_cons hb pa_nil na) (he := na)) hk) fun σ H Q ⟨T, ρ, u, rep, hf, he⟩ => ?_
  refine tOp_of (impInRg neg) ?_
  refine run1 rep hf he fun x ρ1 v H1 h1 s1 r1 => ?_
  obtain ⟨b, e, rfl⟩ := optM_some h1
  cases x with
  | bl c =>
    have e : c = b := Option.some.inj e
    subst e
    exact ⟨c, RepT.eq_bl r1.rep, he H1 s1 r1.drop⟩
  | _ => cases e
end
end VS

set_option Elab.async false
set_option linter.all false
set_option maxRecDepth 100000
set_option maxHeartbeats 4000000
/-! VX23: a list comprehension over range(n) while an exception is handled. -/
noncomputable section
namespace L2
open PySem PySem.Spec PyProof.Rows
open HotX L2H
structure TurnQ (P : Program) (w : World) (K : PySem.W.Frag) (tg : Expr) (J : It) (fp : List Addr) (it : Addr) (tn : Nat → Heap → Prop) : Prop where
  obj : ∀ i h, tn i h → ∀ b ∈ fp, ∃ o, h.get? b = some o ∧ ∀ v, o.data ≠ .cell v
  keep : ∀ i h h', tn i h → (∀ b ∈ fp, ∀ o, h.get? b = some o → h'.get? b = some o) → tn i h'
  item : ∀ (X : Cx), X.prog = P → X.w = w → X.K = K → ∀ (i : Nat) (pins : List (Addr × Obj)) (s : Shared) (σ : St) (H : Hp) (E : Value → Shared → Prop), Inv X pins σ H s → (∀ b ∈ fp, FpOk X pins H b) → tn i s.heap → J.go i H →
    wpAny (model P w) X.A (pyNext (.ref it)) (fun r s1 => ∃ u, r = some u ∧
      wpAny (model P w) X.A (letOwnedTupleGo tg (.ref it) u) (fun _ s2 => ∃ x H', Inv X pins σ H' s2 ∧ RelV x u ∧ J.yld i H x H' ∧ tn (i + 1) s2.heap ∧ ∀ b ∈ fp, H' b = none) E s1) E s
  done : ∀ (X : Cx), X.prog = P → X.w = w → X.K = K → ∀ {s : Shared}, (∃ x1, HotAt X.A x1 s.heap) → ∀ (i : Nat) (pins : List (Addr × Obj)) (σ : St) (H : Hp) (E : Value → Shared → Prop), Inv X pins σ H s → (∀ b ∈ fp, FpOk X pins H b) → tn i s.heap → J.stop i H →
    wpAny (model P w) X.A (pyNext (.ref it)) (fun r s1 => r = none ∧ Inv X pins σ H s1) E s
  self : ∀ (A : Around) (i : Nat) (s : Shared) (Q : Value → Shared → Prop) (E : Value → Shared → Prop), tn i s.heap → Q (.ref it) s → wpAny (model P w) A (pyIter (.ref it)) Q E s
theorem turn_rangeQ {P : Program} {w : World} {K : PySem.W.Frag} {tg : Expr} (it : Addr) (lo : Int) (n : Nat) : TurnQ P w K tg (Itr lo n) [it] it (fun i h => IsRangeIter h it (lo + (i : Nat) * 1) ((n : Int) - (i : Nat)) 1) where
  obj := fun i h st b hb => by
    have e : b = it := by simpa using hb
    subst e
    exact ⟨_, st, fun v z => by
      have z' : Data.fields _ = Data.cell v := z
      cases z'⟩
  keep := fun i h h' st k => k it (by simp) _ st
  item := by
    intro X hP hw hK i pins s σ H E I hf st hg
    subst hP hw hK
    obtain ⟨f0, f1, f2, f3, f4, f5⟩ := hf it (by simp)
    have hlt : i < n := hg
    refine wpAny_pyNext_range_item st (by omega) fun h' st' sb => ?_
    have st2 : IsRangeIter h' it (lo + ((i + 1 : Nat) : Int) * 1) ((n : Int) - ((i + 1 : Nat) : Int)) 1 := by
      have e1 : lo + ((i : Nat) : Int) * 1 + 1 = lo + ((i + 1 : Nat) : Int) * 1 := by omega
      have e2 : (n : Int) - ((i : Nat) : Int) - 1 = (n : Int) - ((i + 1 : Nat) : Int) := by omega
      rw [← e1, ← e2]
      exact st'
    have I1 : Inv X pins σ H { s with heap := h', toks := s.toks + 1 } := I.turned (fun b o hb e => (sb.2 b hb).trans e) f0 f1 f3 f4 f5
    refine ⟨_, rfl, go_of (s := { s with heap := h', toks := s.toks + 1 }) (n := "range_iterator") st2 rfl rfl (by decide) ⟨.int (lo + i), H, I1, ⟨s.toks, ?_⟩, ⟨rfl, rfl⟩, st2, fun b hb => (hf b hb).1⟩⟩
    rw [Int.mul_one]
  done := by
    intro X hP hw hK s hot i pins σ H E I hf st hg
    subst hP hw hK
    obtain ⟨f0, f1, f2, f3, f4, f5⟩ := hf it (by simp)
    obtain ⟨x1, hot⟩ := hot
    exact pyNext_range_end_hot hot st (by have : n ≤ i := hg; omega) fun h' eb => ⟨rfl, I.turned (t' := s.toks) (fun b o _ e => eb b o e) f0 f1 f3 f4 f5⟩
  self := fun _ _ _ _ _ st h => wpAny_pyIter_rangeiter st h
def PIEQ (X : Cx) (pins : List (Addr × Obj)) (σ : St) (tg : Expr) (R : It → Hp → Prop) (itv : Value) (s2 : Shared) : Prop :=
  ∃ (it : Addr) (fp : List Addr) (tn : Nat → Heap → Prop) (J : It) (H' : Hp), itv = .ref it ∧ Inv X pins σ H' s2 ∧ TurnQ X.prog X.w X.K tg J fp it tn ∧ tn 0 s2.heap ∧ (∀ b ∈ fp, FpOk X pins H' b) ∧ R J H'
structure PIQ (X : Cx) (tg iter : Expr) (wi : TI) : Prop where
  run : ∀ (pins : List (Addr × Obj)) (s : Shared) (σ : St) (H : Hp) (R : It → Hp → Prop), Inv X pins σ H s → wi σ H R →
    wpAny (model X.prog X.w) X.A (eval iter X.env) (fun v s1 => wpAny (model X.prog X.w) X.A (pyIter v) (PIEQ X pins σ tg R) X.xe s1) X.xe s
theorem PIQ.imp {X : Cx} {tg iter : Expr} {t t' : TI} (h : PIQ X tg iter t) (i : ∀ σ H Q, t' σ H Q → t σ H Q) : PIQ X tg iter t' := ⟨fun pins s σ H Q I q => h.run pins s σ H Q I (i σ H Q q)⟩
section
variable {X : Cx} {tg : Expr}
theorem range_itQ {pins : List (Addr × Obj)} {σ : St} {H : Hp} {s : Shared} {R : It → Hp → Prop} {E : Value → Shared → Prop} {lo hi : Int} {t u v : Tok} {tk : Nat} (I : Inv X pins σ H s) (h1 : -(2 ^ 62) ≤ lo) (h2 : lo < 2 ^ 62) (h3 : -(2 ^ 62) ≤ hi) (h4 : hi < 2 ^ 62)
    (q : R (Itr lo (hi - lo).toNat) H) : wpAny (model X.prog X.w) X.A (pyIter (.ref s.heap.objs.size)) (PIEQ X pins σ tg R) E { s with heap := s.heap.push { cls := .type "range", data := .fields #[.int lo t, .int hi u, .int 1 v] }, toks := tk } := by
  refine wpAny_pyIter_range (IsRange.new ..) (small_one h1 h2 h3 h4) ?_
  have I1 : Inv X pins σ H { s with heap := s.heap.push { cls := .type "range", data := .fields #[.int lo t, .int hi u, .int 1 v] }, toks := tk } := I.kept fun b o e => Heap.get?_push_of_some _ e
  refine ⟨(s.heap.push { cls := .type "range", data := .fields #[.int lo t, .int hi u, .int 1 v] }).objs.size, [(s.heap.push { cls := .type "range", data := .fields #[.int lo t, .int hi u, .int 1 v] }).objs.size], _, _, H, rfl,
    I1.kept (t' := tk) fun b o e => Heap.get?_push_of_some _ e, turn_rangeQ _ lo (hi - lo).toNat, ?_, fun b hb => ?_, q⟩
  · have e1 : lo + ((0 : Nat) : Int) * 1 = lo := by simp
    have e2 : (((hi - lo).toNat : Nat) : Int) - ((0 : Nat) : Int) = Builtin.Range.rangeSize lo hi 1 := by rw [rangeSize_one]; split <;> omega
    show IsRangeIter _ _ (lo + ((0 : Nat) : Int) * 1) ((((hi - lo).toNat : Nat) : Int) - ((0 : Nat) : Int)) 1
    rw [e1, e2]
    exact Heap.get?_push_size _ rfl
  · have e : b = (s.heap.push { cls := .type "range", data := .fields #[.int lo t, .int hi u, .int 1 v] }).objs.size := by simpa using hb
    subst e
    exact I1.fpOk (Nat.le_refl _) (I1.hok.fresh (Nat.le_refl _))
theorem pi_range1Q {a : Expr} {ta : TA} {p pos : Pos} (hg : Gl X "range") (hm : X.mg "range" = none) (ha : PA X [a] ta) (hs : starEach [a] X.env = [(false, eval a X.env)] := by rfl) : PIQ X tg (.Call (.Name "range" p) [a] [] pos) (iRng1 ta) := by
  refine ⟨fun pins s σ H R I h => ?_⟩
  refine Call_ (ld_blt I hg hm boot_range (PyProof.Rows.callWith_type1 (thn (ha.run pos pins s σ H _ I h) fun us s1 ⟨vs, H1, I1, r1, q1⟩ => ?_) hs rfl))
  obtain ⟨j, e, q1, q2, q⟩ := q1
  subst e
  cases r1 with
  | cons r rr =>
    cases rr
    obtain ⟨t, rfl⟩ := r
    exact call_range_1 (range_itQ I1 (by omega) (by omega) q1 q2 (by simpa using q))
theorem lc_coreH {pins : List (Addr × Obj)} {s : Shared} {σ : St} {H : Hp} {Q : VK} {elt tg iter : Expr} {ifs : List Expr} {scope : Scope} {own : List (Str × Nat)} {pos pos' : Pos} {wi : TI} {g : TG} {tt : TT} {te : TE} {use : Option (Value → Sem Unit)} {Qf : Value → Shared → Prop}
    (hc : HotC X) (hN : X.N.Nodup) (I : Inv X pins σ H s) (hi : PIQ X tg iter wi) (ok : BlkOk X.N X.env.scope scope own)
    (hg : ∀ (s : Shared) (H : Hp) (C : Addr) (cl : List (Str × Addr)) (fp : List Addr), PG (X.blk s H scope (compEnvC scope cl C X.env) fp) tg g) (ht : ∀ (s : Shared) (H : Hp) (C : Addr) (cl : List (Str × Addr)) (fp : List Addr), PTs (X.blk s H scope (compEnvC scope cl C X.env) fp) ifs tt)
    (he : ∀ (s : Shared) (H : Hp) (C : Addr) (cl : List (Str × Addr)) (fp : List Addr), PE (X.blk s H scope (compEnvC scope cl C X.env) fp) elt te) (hs : ∀ x, foldedSetIterable iter X.env x = pure x)
    (h : tLc wi g tt te (own.map (·.2)) σ H Q)
    (hRR : ∀ D C s' m H', Inv X pins σ H' s' → Q (.ref D) H' → s'.heap.Ns C m → FpOk X pins H' C → compPost (model X.prog X.w) X.A X.xe use Qf (.ref D) C (.ok .next) s') :
    wpAny (model X.prog X.w) X.A (comprehension (.ListComp elt [⟨tg, iter, ifs, 0⟩] scope pos) scope X.env pos' (newList []) false (eval iter X.env) use) Qf X.xe s := by
  have hfree : ∀ y ∈ scope.names, y.2 = .free → ∃ c, X.env.cells.lookup y.1 = some c := fun y hy e => by
    rcases ok.free y hy e with k | k
    · exact I.ok.has _ (.inl k)
    · exact I.ok.has _ (.inr k)
  refine wpAny_comprehension_free (use := use) rfl hs (closure_ok hfree) ok.kind (fun y hy e => by rw [ok.uniq y hy, e])
    (thn (hi.run pins s σ H _ I h) fun xv s1 hx => thn hx fun itv s2 h2 => ?_)
  obtain ⟨it, fp, tn, J, H2, e, I2, T, st2, f2, q⟩ := h2
  subst e
  refine wpAny_newObj_type (newEnv_comp ?_) (by show 0 ≤ sizeLine; decide)
  generalize hD : s2.heap.objs.size = D
  have hDn : H2 D = none := I2.hok.fresh (Nat.le_of_eq hD)
  obtain ⟨W, ⟨m0, w0⟩, turn⟩ := q D hDn
  -- the new list
  generalize hs3 : ({ s2 with heap := s2.heap.push { cls := .type "list", data := .seq ([] : List Value).toArray } } : Shared) = s3
  have I3 : Inv X pins σ (upd H2 D (.lst [])) s3 := by
    rw [← hs3]
    refine I2.laid (t' := s2.toks) (fun b o e => Heap.get?_push_of_some _ e) (Nat.le_of_eq hD) ⟨Nat.zero_le _, [], 0, .nil, ?_⟩
    rw [← hD]
    exact Heap.get?_push_size _ rfl
  have h3 : s3.heap = s2.heap.push { cls := .type "list", data := .seq ([] : List Value).toArray } := by rw [← hs3]
  have sz : ∀ b ∈ fp, b < s2.heap.objs.size := fun b hb => by
    obtain ⟨o, e, _⟩ := T.obj _ _ st2 b hb
    exact Heap.lt_size e
  have f3 : ∀ b ∈ fp, FpOk X pins (upd H2 D (.lst [])) b ∧ b < s3.heap.objs.size := fun b hb => by
    have hlt := sz b hb
    refine ⟨⟨?_, (f2 b hb).2⟩, by rw [h3, Heap.size_push]; exact Nat.lt_succ_of_lt hlt⟩
    rw [upd_ne (by rw [← hD]; exact Nat.ne_of_lt hlt)]
    exact (f2 b hb).1
  have st3 : tn 0 s3.heap := T.keep _ _ _ st2 fun b _ o e => by rw [h3]; exact Heap.get?_push_of_some _ e
  have I4 := block_start I3 ok hN f3
  have pg := hg s3 (upd H2 D (.lst [])) s3.heap.objs.size (cellsFrom (s3.heap.objs.size + 1) scope.names (cloFrom X.env.cells scope.names [])) fp
  have pt := ht s3 (upd H2 D (.lst [])) s3.heap.objs.size (cellsFrom (s3.heap.objs.size + 1) scope.names (cloFrom X.env.cells scope.names [])) fp
  have pe := he s3 (upd H2 D (.lst [])) s3.heap.objs.size (cellsFrom (s3.heap.objs.size + 1) scope.names (cloFrom X.env.cells scope.names [])) fp
  show codeAny _ _ (.compStart (.ListComp elt [⟨tg, iter, ifs, 0⟩] scope pos) 0 (.ref it) (.ref D) (compEnvC scope (cellsFrom (s3.heap.objs.size + 1) scope.names (cloFrom X.env.cells scope.names [])) s3.heap.objs.size X.env)) (compPost (model X.prog X.w) X.A X.xe use Qf (.ref D) s3.heap.objs.size) { s3 with heap := pushCells (s3.heap.push { cls := .type "dict", data := .dict #[] }) scope.names }
  have nfp : ∀ b ∈ fp, (upd H2 D (.lst [])) b = none := fun b hb => (f3 b hb).1.1
  generalize hce : compEnvC scope (cellsFrom (s3.heap.objs.size + 1) scope.names (cloFrom X.env.cells scope.names [])) s3.heap.objs.size X.env = ce at I4 pg pt pe ⊢
  have cL : ce.locals = s3.heap.objs.size := by subst hce; rfl
  generalize hH3 : upd H2 D (.lst []) = H3 at I3 I4 pg pt pe w0 nfp f3
  generalize hs4 : ({ s3 with heap := pushCells (s3.heap.push { cls := .type "dict", data := .dict #[] }) scope.names } : Shared) = s4 at I4 ⊢
  have st4 : tn 0 s4.heap := T.keep _ _ _ st3 fun b _ o e => by rw [← hs4]; exact pushCells_keeps _ _ _ _ (Heap.get?_push_of_some _ e)
  have stat : ∀ {σ' : St} {H' : Hp} {s' : Shared}, Inv (X.blk s3 H3 scope ce fp) [] σ' H' s' → (∀ b ∈ fp, H' b = none) → ∀ b ∈ fp, FpOk (X.blk s3 H3 scope ce fp) [] H' b := fun {σ' H' s'} I' hn b hb =>
    ⟨hn b hb, (I'.ok.exf b hb).1, I'.ok.exfs b hb, .inl hb, fun x c e => (I'.ok.exf b hb).2 x c e, fun p hp => absurd (show p ∈ ([] : List (Addr × Obj)) ++ [] from hp) (by simp)⟩
  have hot5 : ∀ {σ' : St} {H' : Hp} {s' : Shared}, Inv (X.blk s3 H3 scope ce fp) [] σ' H' s' → ∃ x1, HotAt X.A x1 s'.heap := fun {σ' H' s'} I' =>
    hc.at (I3.call' (ch := fp) I'.os I'.base I'.hok I'.bare fun b hb => ⟨(f3 b hb).1.2.2.2.1, (f3 b hb).1.2.1, (f3 b hb).1.2.2.2.2.1, (f3 b hb).1.2.2.2.2.2⟩)
  have loop : codeAny (model X.prog X.w) X.A (.compLoop (.ListComp elt [⟨tg, iter, ifs, 0⟩] scope pos) 0 (.ref it) (.ref D) ce) (compPost (model X.prog X.w) X.A X.xe use Qf (.ref D) s3.heap.objs.size) s4 := by
    refine compLoop_any (fun n s' => ∃ i H', Inv (X.blk s3 H3 scope ce fp) [] (wipe σ (own.map (·.2))) H' s' ∧ tn i s'.heap ∧ (∀ b ∈ fp, H' b = none) ∧ W i n H') ?_ m0 ⟨0, H3, I4, st4, nfp, w0⟩
    rintro n s5 ⟨i, H5, I5, st5, n5, w5⟩
    rcases turn i n H5 w5 with ⟨stop, qq⟩ | ⟨go, Nx, hNx, step⟩
    · have td := T.done (X.blk s3 H3 scope ce fp) rfl rfl rfl (hot5 I5) i [] _ H5 (fun _ _ => False) I5 (stat I5 n5) st5 stop
      refine thnF td fun r s6 ⟨hr, I6⟩ => ?_
      subst hr
      -- back in the def's context
      have I7 : Inv X pins σ H5 s6 := I3.call' (ch := fp) I6.os I6.base I6.hok I6.bare fun b hb => ⟨(f3 b hb).1.2.2.2.1, (f3 b hb).1.2.1, (f3 b hb).1.2.2.2.2.1, (f3 b hb).1.2.2.2.2.2⟩
      have nC : H5 s3.heap.objs.size = none := by
        have z : H5 ce.locals = none := I6.free
        rw [cL] at z
        exact z
      obtain ⟨m, hn, _⟩ := I6.loc
      have hn : s6.heap.Ns ce.locals m := hn
      rw [cL] at hn
      exact hRR D s3.heap.objs.size s6 m H5 I7 qq hn (I3.fpOk (Nat.le_refl _) nC)
    · have ti := T.item (X.blk s3 H3 scope ce fp) rfl rfl rfl i [] s5 _ H5 (fun _ _ => False) I5 (stat I5 n5) st5 go
      refine thnF ti fun r s6 ⟨u, hr, h6⟩ => ?_
      subst hr
      refine thnF h6 fun _ s7 ⟨x, H7, I7, r7, y7, st7, n7⟩ => ?_
      have I7' := I7.pinned (stat I7 n7) (T.obj _ _ st7)
      refine thnF (pg.run _ s7 _ H7 x u _ I7' r7 (step x H7 y7)) fun _ s8 ⟨σ8, H8, I8, hw8, q8⟩ => ?_
      refine thnF (pt.run _ s8 σ8 H8 _ I8 q8) fun b s9 ⟨H9, I9, q9⟩ => ?_
      -- the turn's end
      have fin : ∀ {s' : Shared} {H' : Hp}, Inv (X.blk s3 H3 scope ce fp) ([] ++ pinsAt fp s7.heap) σ8 H' s' → Nx H' → ∃ m, m < n ∧ ∃ i H', Inv (X.blk s3 H3 scope ce fp) [] (wipe σ (own.map (·.2))) H' s' ∧ tn i s'.heap ∧ (∀ b ∈ fp, H' b = none) ∧ W i m H' := fun {s' H'} I' nx => by
        obtain ⟨m', hm, w'⟩ := hNx H' nx
        have pin' : ∀ b ∈ fp, ∀ o, s7.heap.get? b = some o → s'.heap.get? b = some o ∧ H' b = none := fun b hb o e =>
          let z := I'.pin (b, o) (List.mem_append_right _ (List.mem_append_right _ (mem_pinsAt hb e)))
          ⟨z.1, z.2.1⟩
        have hl : (wipe σ (own.map (·.2))).length = σ8.length := by rw [← hw8, wipe_length]
        refine ⟨m', hm, i + 1, H', (I'.unpinned (pins := [])).weak hl (fun j v e => ?_), T.keep _ _ _ st7 fun b hb o e => (pin' b hb o e).1, fun b hb => ?_, w'⟩
        · rw [← hw8] at e
          exact (wipe_some e).1
        · obtain ⟨o, e, _⟩ := T.obj _ _ st7 b hb
          exact (pin' b hb o e).2
      cases b with
      | false =>
        simp only [Bool.false_eq_true, if_false] at q9 ⊢
        exact fin I9 q9
      | true =>
        simp only [if_true] at q9 ⊢
        refine thnF (pe.run _ s9 σ8 H9 _ I9 q9) fun z s10 ⟨yv, H10, I10, r10, acc, hD10, hz10, nx⟩ => ?_
        exact app_ok (X := X.blk s3 H3 scope ce fp) I10 hD10 hz10 r10 fun s11 I11 => fin I11 nx
  exact codeAny_compStart_list loop (T.self X.A 0 _ _ _ st4 loop)
theorem pe_lcH {elt tg iter : Expr} {ifs : List Expr} {scope : Scope} {own : List (Str × Nat)} {pos : Pos} {wi : TI} {g : TG} {tt : TT} {te : TE} (hc : HotC X) (hN : X.N.Nodup) (hi : PIQ X tg iter wi) (ok : BlkOk X.N X.env.scope scope own)
    (hg : ∀ (s : Shared) (H : Hp) (C : Addr) (cl : List (Str × Addr)) (fp : List Addr), PG (X.blk s H scope (compEnvC scope cl C X.env) fp) tg g) (ht : ∀ (s : Shared) (H : Hp) (C : Addr) (cl : List (Str × Addr)) (fp : List Addr), PTs (X.blk s H scope (compEnvC scope cl C X.env) fp) ifs tt)
    (he : ∀ (s : Shared) (H : Hp) (C : Addr) (cl : List (Str × Addr)) (fp : List Addr), PE (X.blk s H scope (compEnvC scope cl C X.env) fp) elt te) (hs : ∀ x, foldedSetIterable iter X.env x = pure x := by intro _; rfl) :
    PE X (.ListComp elt [⟨tg, iter, ifs, 0⟩] scope pos) (tLc wi g tt te (own.map (·.2))) := by
  refine ⟨fun pins s σ H Q I h => ?_⟩
  rw [eval_ListComp]
  refine lc_coreH hc hN I hi ok hg ht he hs h fun D C s' m H' I' q hn f => ⟨m, hn, fun h'' sb => ?_⟩
  obtain ⟨f0, f1, f2, f3, f4, f5⟩ := f
  exact ⟨.ref D, H', I'.turned (t' := s'.toks) (fun b o hb e => (sb.2 b hb).trans e) f0 f1 f3 f4 f5, rfl, q⟩
end
end L2
namespace VS
open PySem PySem.Spec PyProof.Rows L2
open HotX L2H
section
variable {X : Cx} {W : WX} {K : PySem.W.Frag} {mg : Str → Option Value} {F H H1 : Hp} {T L : List (D × V)} {ρ ρ' : Env} {σ σ' σ'' : St} {m : Bool} {asg a1 a2 : List Nat}
def VIQ (X : Cx) (W : WX) (tg iter : Expr) (f : M (List D)) : Prop := PIQ X tg iter (tiOf X.K X.mg W f)
theorem vi_range1Q {tg a : Expr} {f : M (List D)} {p pos : Pos} (hg : Gl X "range") (hm : X.mg "range" = none) (ha : VA X W m [a] f) (hs : starEach [a] X.env = [(false, eval a X.env)] := by rfl) : VIQ X W tg (.Call (.Name "range" p) [a] [] pos) (dRange1 f) := by
  refine PIQ.imp (pi_range1Q hg hm ha hs) fun σ H R ⟨T, ρ, u, rep, hf, he⟩ => ?_
  refine runA rep hf he fun ds ρ1 vs H1 h1 s1 l1 r1 => ?_
  obtain ⟨d, e, rfl⟩ := optM_some h1
  obtain ⟨j, rfl, z1, z2, rfl⟩ := rangeD1_inv e
  obtain ⟨v, rfl⟩ := len1 l1
  have ev := RepT.eq_int r1.rep
  subst ev
  exact ⟨j, rfl, z1, z2, he _ [] H1 itR r1.drop⟩
section
variable {elt tg iter : Expr} {ifs : List Expr} {scope : Scope} {own : List (Str × Nat)} {pos spos : Pos} {src : M (List D)} {bt : D → Env → Option Env} {tt : M Bool} {el : M D} {mt me : Bool}
theorem ve_lcH (hc : HotC X) (hN : X.N.Nodup) (hi : VIQ X W tg iter src) (ok : BlkOk X.N X.env.scope scope own)
    (hg : ∀ (s : Shared) (H : Hp) (C : Addr) (cl : List (Str × Addr)) (fp : List Addr), VG (X.blk s H scope (compEnvC scope cl C X.env) fp) asg tg bt)
    (ht : ∀ (s : Shared) (H : Hp) (C : Addr) (cl : List (Str × Addr)) (fp : List Addr), VTs (X.blk s H scope (compEnvC scope cl C X.env) fp) WF mt ifs tt)
    (he : ∀ (s : Shared) (H : Hp) (C : Addr) (cl : List (Str × Addr)) (fp : List Addr), VE (X.blk s H scope (compEnvC scope cl C X.env) fp) WF me elt el)
    (hsub : ∀ i ∈ asg, i ∈ own.map (·.2) := by decide) (hs : ∀ x, foldedSetIterable iter X.env x = pure x := by intro _; rfl) : VE X W true (.ListComp elt [⟨tg, iter, ifs, 0⟩] scope pos) (dLc (own.map (·.2)) src bt tt el) :=
  PE.imp (pe_lcH (g := tgOf X.K asg bt) (tt := ttOf X.K X.mg WF mt tt) (te := tOf X.K X.mg WF me el) hc hN hi ok hg ht he hs) fun _ _ _ h => tLc_of hsub h
end
end
end VS

set_option Elab.async false
set_option linter.all false
set_option maxRecDepth 100000
set_option maxHeartbeats 4000000
set_option autoImplicit false
/-! VX24: an owned dict is locked for good (dLk), and gone over key by key (dKeys). -/
noncomputable section
namespace VS
open PySem PySem.Spec PyProof.Rows L2
section
variable {X : Cx} {W : WX} {K : PySem.W.Frag} {mg : Str → Option Value} {F H H1 : Hp} {T L : List (D × V)} {ρ ρ' : Env} {σ σ' σ'' : St} {m : Bool}
def tLkE (t : TE) : TE := fun σ H Q => ∃ d u, H d = some u ∧ Mut (some u) ∧ ∀ od, t σ (upd H d (.frz od u)) Q
theorem pe_lk {e : Expr} {t : TE} (he : PE X e t) : PE X e (tLkE t) := by
  refine ⟨fun pins s σ H Q I h => ?_⟩
  obtain ⟨d, u, hd, mu, h⟩ := h
  obtain ⟨od, I'⟩ := I.lock hd mu
  exact he.run pins s σ _ Q I' (h od)
theorem lock_core {ds : List D} {vs : List V} {a : Addr} {A' A2 : List Addr} {u : HO} {od : Obj} (sF : Same F H) (nd : ((a :: A') ++ A2).Nodup) (fr : ∀ b ∈ (a :: A') ++ A2, F b = none) (q : H a = some u) (l : OwL K F H ds vs A') (o : OwT K F H L A2) :
    ∃ F', Same F' (upd H a (.frz od u)) ∧ A2.Nodup ∧ (∀ b ∈ A2, F' b = none) ∧ F' a = some (.frz od u) ∧ OwL K F' (upd H a (.frz od u)) (freezeL ds) vs [] ∧ OwT K F' (upd H a (.frz od u)) L A2 := by
  have nd' : (a :: (A' ++ A2)).Nodup := nd
  obtain ⟨na, nd2⟩ := List.nodup_cons.mp nd'
  obtain ⟨n1, n2, n3⟩ := List.nodup_append.mp nd2
  have fa : F a = none := fr a (by simp)
  let F' : Hp := fun b => if b = a then some (.frz od u) else if b ∈ A' then H b else F b
  have fA : ∀ b ∈ A', F' b = H b := fun b hb => by
    have z : b ≠ a := fun z => na (by rw [← z]; exact List.mem_append_left _ hb)
    show (if b = a then _ else if b ∈ A' then H b else F b) = _
    rw [if_neg z, if_pos hb]
  have sF' : Same F F' := fun b w q => by
    have z : b ≠ a := fun z => by rw [z, fa] at q; cases q
    have z2 : b ∉ A' := fun hb => by rw [fr b (by simp [hb])] at q; cases q
    show (if b = a then _ else if b ∈ A' then H b else F b) = _
    rw [if_neg z, if_neg z2]; exact q
  refine ⟨F', fun b w q2 => ?_, n2, fun b hb => ?_, if_pos rfl, OwL.freeze sF' ds vs A' l fA, o.keep sF' fun b hb => upd_ne fun z => na (by rw [← z]; exact List.mem_append_right _ hb)⟩
  · by_cases z : b = a
    · subst z
      have e : F' b = some (.frz od u) := if_pos rfl
      rw [e] at q2
      rw [upd_same]; exact q2
    · rw [upd_ne z]
      by_cases z2 : b ∈ A'
      · rw [fA b z2] at q2; exact q2
      · have e : F' b = F b := by
          show (if b = a then _ else if b ∈ A' then H b else F b) = _
          rw [if_neg z, if_neg z2]
        rw [e] at q2; exact sF _ _ q2
  · have z : b ≠ a := fun z => na (by rw [← z]; exact List.mem_append_right _ hb)
    have z2 : b ∉ A' := fun h2 => n3 b h2 b hb rfl
    show (if b = a then _ else if b ∈ A' then H b else F b) = _
    rw [if_neg z, if_neg z2]; exact fr b (by simp [hb])
theorem RepT.lockT {ks : List (List Key)} {ds : List D} {v : V} (h : RepT K H ((.dT true ks ds, v) :: L)) : ∃ a u, v = .ref a ∧ H a = some u ∧ Mut (some u) ∧ ∀ od, RepT K (upd H a (.frz od u)) ((.lT ks (freezeL ds), v) :: L) := by
  obtain ⟨F, A, sF, nd, fr, A1, A2, rfl, h1, o⟩ := h
  rw [Ow] at h1
  obtain ⟨a, vs, A', rfl, q, n, l, rfl⟩ := h1
  refine ⟨a, _, rfl, q, trivial, fun od => ?_⟩
  obtain ⟨F', s1, s2, s3, s4, s5, s6⟩ := lock_core (od := od) sF nd fr q l o
  refine ⟨F', A2, s1, s2, s3, [], A2, rfl, ?_, s6⟩
  rw [Ow]
  exact ⟨a, vs, rfl, ⟨od, s4⟩, ⟨by rw [n.1, freezeL_map, List.length_map], n.2⟩, s5⟩
theorem RepT.lockK {ks : List Key} {ds : List D} {v : V} (h : RepT K H ((.dK true ks ds, v) :: L)) : ∃ a u, v = .ref a ∧ H a = some u ∧ Mut (some u) ∧ ∀ od, RepT K (upd H a (.frz od u)) ((.lK ks (freezeL ds), v) :: L) := by
  obtain ⟨F, A, sF, nd, fr, A1, A2, rfl, h1, o⟩ := h
  rw [Ow] at h1
  obtain ⟨a, vs, A', rfl, q, n, l, rfl⟩ := h1
  refine ⟨a, _, rfl, q, trivial, fun od => ?_⟩
  obtain ⟨F', s1, s2, s3, s4, s5, s6⟩ := lock_core (od := od) sF nd fr q l o
  refine ⟨F', A2, s1, s2, s3, [], A2, rfl, ?_, s6⟩
  rw [Ow]
  exact ⟨a, vs, rfl, ⟨od, s4⟩, ⟨by rw [n.1, freezeL_map, List.length_map], n.2⟩, s5⟩
/-- the slot's dict, locked -/
def lockD : D → Option D
  | .dK true ks ds => if fzL (freezeL ds) = true then some (.lK ks (freezeL ds)) else none
  | .dT true ks ds => if fzL (freezeL ds) = true then some (.lT ks (freezeL ds)) else none
  | _ => none
def dLk (i : Nat) : M D := fun ρ => match ρ[i]? with
  | some d => match lockD d with
    | some d' => some (.ok d' (ρ.set i d'))
    | none => if fz d = true then some (.ok d ρ) else none
  | none => none
theorem lockD_rep {d d' : D} {v : V} (e : lockD d = some d') (h : RepT K H ((d, v) :: L)) : fz d' = true ∧ ∃ a u, v = .ref a ∧ H a = some u ∧ Mut (some u) ∧ ∀ od, RepT K (upd H a (.frz od u)) ((d', v) :: L) := by
  unfold lockD at e
  split at e
  · split at e
    · rename_i z; cases e; exact ⟨by rw [fz]; exact z, h.lockK⟩
    · cases e
  · split at e
    · rename_i z; cases e; exact ⟨by rw [fz]; exact z, h.lockT⟩
    · cases e
  · cases e
theorem ve_lk {e : Expr} {i : Nat} (h : PE X e (tVar i)) : VE X W true e (dLk i) := by
  refine PE.imp (PE.orr (pe_lk h) h) fun σ H Q ⟨T, ρ, r, rep, hf, he⟩ => ?_
  unfold dLk at hf
  cases q : ρ[i]? with
  | none => rw [q] at hf; cases hf
  | some d =>
    rw [q] at hf
    cases q2 : lockD d with
    | some d' =>
      simp only [q2] at hf
      have : r = .ok d' (ρ.set i d') := (Option.some.inj hf).symm
      subst this
      have n : d ≠ .unk := fun e => by rw [e] at q2; cases q2
      obtain ⟨v, hv⟩ := rep.slot q n
      have r2 := rep.take q hv
      obtain ⟨z, a, u, rfl, ha, mu, hl⟩ := lockD_rep (L := T ++ SL (ρ.set i .unk) σ) q2 r2.rep
      refine .inl ⟨a, u, ha, mu, fun od => ⟨_, hv, he _ _ (fun z => by cases z) ?_⟩⟩
      have r3 : Rep X.K (upd H a (.frz od u)) ((d', .ref a) :: T) (ρ.set i .unk) σ := ⟨r2.len, r2.nos, hl od⟩
      have r4 := r3.put hv
      rw [List.set_set] at r4
      exact r4.read (List.getElem?_set_self (List.getElem?_eq_some_iff.mp q).1) z hv
    | none =>
      simp only [q2] at hf
      by_cases z : fz d = true
      · simp only [z, if_true] at hf
        have : r = .ok d ρ := (Option.some.inj hf).symm
        subst this
        obtain ⟨v, hv⟩ := rep.slot q (fz_unk z)
        exact .inr ⟨v, hv, he v H (fun _ => Same.refl _) (rep.read q z hv)⟩
      · simp only [if_neg z] at hf
        cases hf
/-! ### key by key -/
def keysOf : D → Option (List D)
  | .lK ks ds => if fzL ds = true then some (ks.map keyB) else none
  | .lT ks ds => if fzL ds = true then some (ks.map tupK) else none
  | _ => none
def dKeys (f : M D) : M (List D) := bindM f fun d => optM (keysOf d)
theorem RepT.keyB {k : Key} (h : RepT K H L) : RepT K H ((VS.keyB k, kV k) :: L) := by
  cases k with
  | inl i => exact h.int
  | inr x => exact h.str
theorem RepT.lckD {x : D} {v : V} {u : HO} {a : Addr} (e : v = .ref a) (hx : ∀ F' A, Ow K F' H x v A → A = [] ∧ F' a = some u) (h : RepT K H ((x, v) :: L)) : RepT K H ((.lck u, .ref a) :: L) := by
  obtain ⟨F, A, sF, nd, fr, A1, A2, rfl, h1, o⟩ := h
  obtain ⟨rfl, q⟩ := hx F A1 h1
  refine ⟨F, A2, sF, nd, fr, [], A2, rfl, ?_, o⟩
  rw [Ow]
  exact ⟨⟨a, rfl, q⟩, rfl⟩
theorem RepT.lKx {ks : List Key} {ds : List D} {v : V} (z : fzL ds = true) (h : RepT K H ((.lK ks ds, v) :: L)) : ∃ a vs o, v = .ref a ∧ H a = some (.frz o (.dK (ks.zip vs))) ∧ ks.length = vs.length ∧ RepT K H ((.lck (.frz o (.dK (ks.zip vs))), .ref a) :: L) := by
  obtain ⟨F, A, sF, nd, fr, A1, A2, rfl, h1, o2⟩ := h
  rw [Ow] at h1
  obtain ⟨a, vs, rfl, ⟨o, q⟩, n, l⟩ := h1
  have e := l.frozen _ _ _ z
  subst e
  exact ⟨a, vs, o, rfl, sF _ _ q, n.1.trans l.length, F, A2, sF, nd, fr, [], A2, rfl, by rw [Ow]; exact ⟨⟨a, rfl, q⟩, rfl⟩, o2⟩
theorem RepT.lTx {ks : List (List Key)} {ds : List D} {v : V} (z : fzL ds = true) (h : RepT K H ((.lT ks ds, v) :: L)) : ∃ a vs o, v = .ref a ∧ H a = some (.frz o (.dT (ks.zip vs))) ∧ ks.length = vs.length ∧ RepT K H ((.lck (.frz o (.dT (ks.zip vs))), .ref a) :: L) := by
  obtain ⟨F, A, sF, nd, fr, A1, A2, rfl, h1, o2⟩ := h
  rw [Ow] at h1
  obtain ⟨a, vs, rfl, ⟨o, q⟩, n, l⟩ := h1
  have e := l.frozen _ _ _ z
  subst e
  exact ⟨a, vs, o, rfl, sF _ _ q, n.1.trans l.length, F, A2, sF, nd, fr, [], A2, rfl, by rw [Ow]; exact ⟨⟨a, rfl, q⟩, rfl⟩, o2⟩
theorem RepT.lckH {u : HO} {a : Addr} (h : RepT K H ((.lck u, .ref a) :: L)) : H a = some u := by
  obtain ⟨F, A, sF, nd, fr, A1, A2, rfl, h1, o2⟩ := h
  rw [Ow] at h1
  obtain ⟨⟨a', e, q⟩, _⟩ := h1
  cases e
  exact sF _ _ q
theorem zip_key {α : Type} {ks : List α} {vs : List V} {i : Nat} {k : α} {v : V} (h : (ks.zip vs)[i]? = some (k, v)) : ks[i]? = some k := by
  rw [List.getElem?_zip_eq_some] at h
  exact h.1
theorem vi_keys {tg l : Expr} {f : M D} (h : VE X W m l f) : VI X W tg l (dKeys f) := by
  refine PI.imp (pi_keys h) fun σ H R ⟨T, ρ, u, rep, hf, he⟩ => ?_
  unfold dKeys bindM at hf
  cases q : f ρ with
  | none => rw [q] at hf; cases hf
  | some w =>
    rw [q] at hf
    cases w with
    | ex x ρ1 =>
      have : u = .ex x ρ1 := (Option.some.inj hf).symm
      subst this
      exact ⟨T, ρ, _, rep, q, he⟩
    | ok d ρ1 =>
      obtain ⟨ds, e, rfl⟩ := optM_some hf
      refine ⟨T, ρ, _, rep, q, fun v H1 _ r1 => ?_⟩
      cases d with
      | lK ks xs =>
        simp only [keysOf] at e
        by_cases z : fzL xs = true
        · rw [if_pos z] at e
          cases e
          obtain ⟨a, vs, o, rfl, ha, n1, r2⟩ := RepT.lKx z r1.rep
          have hz : (ks.zip vs).length = ks.length := by rw [List.length_zip]; omega
          refine ⟨a, o, rfl, .inl ⟨ks.zip vs, ha, he (Itk a o (ks.zip vs)) [(.lck (.frz o (.dK (ks.zip vs))), .ref a)] H1 ⟨fun i H2 L hi r => ⟨RepT.lckH (L := L) r, ?_⟩, fun H2 L r => ⟨RepT.lckH (L := L) r, ?_⟩, fun i H2 L x H3 d r hd y => ?_⟩ ⟨r1.len, r1.nos, r2⟩⟩⟩
          · rw [hz]; rw [List.length_map] at hi; exact hi
          · rw [hz, List.length_map]; exact Nat.le_refl _
          · obtain ⟨rfl, k, v, hk, rfl⟩ := y
            rw [List.getElem?_map, zip_key hk] at hd
            cases hd
            exact RepT.keyB r
        · rw [if_neg z] at e; cases e
      | lT ks xs =>
        simp only [keysOf] at e
        by_cases z : fzL xs = true
        · rw [if_pos z] at e
          cases e
          obtain ⟨a, vs, o, rfl, ha, n1, r2⟩ := RepT.lTx z r1.rep
          have hz : (ks.zip vs).length = ks.length := by rw [List.length_zip]; omega
          refine ⟨a, o, rfl, .inr ⟨ks.zip vs, ha, he (Itkt a o (ks.zip vs)) [(.lck (.frz o (.dT (ks.zip vs))), .ref a)] H1 ⟨fun i H2 L hi r => ⟨RepT.lckH (L := L) r, ?_⟩, fun H2 L r => ⟨RepT.lckH (L := L) r, ?_⟩, fun i H2 L x H3 d r hd y => ?_⟩ ⟨r1.len, r1.nos, r2⟩⟩⟩
          · rw [hz]; rw [List.length_map] at hi; exact hi
          · rw [hz, List.length_map]; exact Nat.le_refl _
          · obtain ⟨rfl, k, v, q, hk, rfl, hq⟩ := y
            rw [List.getElem?_map, zip_key hk] at hd
            cases hd
            exact RepT.tupOf hq (fun F' => key_own k) r
        · rw [if_neg z] at e; cases e
      | _ => cases e
end
end VS

set_option Elab.async false
set_option linter.all false
set_option maxRecDepth 100000
set_option maxHeartbeats 4000000
set_option autoImplicit false
/-! VX25: sorted of a tuple. -/
noncomputable section
namespace VS
open PySem PySem.Spec PyProof.Rows L2
section
variable {X : Cx} {W : WX} {K : PySem.W.Frag} {mg : Str → Option Value} {F H H1 : Hp} {T L : List (D × V)} {ρ ρ' : Env} {σ σ' σ'' : St} {m : Bool}
mutual
theorem reads_in {h : Heap} : ∀ (d : PyData) (v : Value) (as : List Addr), Reads h v d as → PySem.W.alike d d = true → ∀ a ∈ as, ∃ o, h.get? a = some o
  | .none, _, _, r, _ => by cases r; intro a ha; cases ha
  | .bool _, _, _, r, _ => by cases r; intro a ha; cases ha
  | .int _, _, _, r, _ => by cases r; intro a ha; cases ha
  | .str _, _, _, r, _ => by cases r; intro a ha; cases ha
  | .list xs, _, _, r, hal => by
    cases r with
    | list h1 h2 h3 h4 =>
      intro a ha
      rcases List.mem_cons.mp ha with rfl | ha
      · exact ⟨_, h1⟩
      · exact readsAll_in xs _ _ h4 (by simpa [PySem.W.alike] using hal) a ha
  | .tuple xs, _, _, r, hal => by
    cases r with
    | tuple h1 h2 h3 h4 => exact readsAll_in xs _ _ h4 (by simpa [PySem.W.alike] using hal)
  | .dict _, _, _, _, hal => absurd hal (by simp [PySem.W.alike])
theorem readsAll_in {h : Heap} : ∀ (ds : List PyData) (vs : List Value) (as : List Addr), ReadsAll h vs ds as → PySem.W.alikeAll ds ds = true → ∀ a ∈ as, ∃ o, h.get? a = some o
  | [], _, _, r, _ => by cases r; intro a ha; cases ha
  | d :: ds, _, _, r, hal => by
    cases r with
    | cons h1 h2 =>
      intro a ha
      rcases List.mem_append.mp ha with ha | ha
      · exact reads_in d _ _ h1 (PySem.W.alike_all_cons hal).1 a ha
      · exact readsAll_in ds _ _ h2 (PySem.W.alike_all_cons hal).2 a ha
end
def rSortT (K : PySem.W.Frag) : List V → Hp → VK → Prop := fun xs H Q => ∃ (a : Addr) (ps : List (D × V)) (es : List PyData), xs = [.ref a] ∧ SqT K H a (ps.map (·.2)) ∧ ps.length ≤ sizeLine ∧
  dats (ps.map (·.1)) = some es ∧ DpAll K H (ps.map (·.2)) es ∧ PySem.W.AllAlike es ∧ PySem.W.Sortable es ∧ (∀ e ∈ es, e.depth ≤ 60) ∧ ∀ p, H p = none → Q (.ref p) (upd H p (.lst ((ps.mergeSort fun x y => leD x.1 y.1).map (·.2))))
theorem cr_sortT (hu : X.A.units + 64 < cLine) : CallR X (.builtin "sorted") (rSortT X.K) := by
  intro pins s σ H xs us Q I r h
  obtain ⟨a, ps, es, rfl, hs, hz, he, hd, hal, hso, hdp, q⟩ := h
  obtain ⟨its, rv, ⟨o, ho, hc, n, hdt⟩, _⟩ := I.tuple hs
  rw [Vals.ref1 r]
  have ee := dats_eq he
  have em : ps.map (fun p : D × V => (dat p.1).getD .none) = es := by rw [ee, List.map_map]; rfl
  have hil : its.length = ps.length := by have := rv.length; simpa using this.symm
  refine Calls.call_function_entry PyProof.Rows.kind_sorted PyProof.Rows.plain_sorted PyProof.Rows.entry_sorted (PyProof.Rows.args_sorted1 _) ?_
  unfold Builtin.«sorted»
  refine wpAny_bind (m := checkCount "sorted" 1 1 _) (wpAny_pure ?_)
  refine wpAny_bind (wpAny_collect_seq a (.inr rfl) ho hc hdt (fun h' hk => ?_) (by rw [List.size_toArray, hil]; exact hz))
  have I1 : Inv X pins σ H { s with heap := h' } := I.kept (t' := s.toks) hk
  refine wpAny_bind (wpAny_newList ?_ (by rw [hil]; exact hz))
  have hoL : (h'.push (seqObj "list" its.toArray 0)).get? h'.objs.size = some (seqObj "list" its.toArray 0) := Heap.get?_push_size _ rfl
  show wpAny _ _ _ _ _ { s with heap := h'.push (seqObj "list" its.toArray 0) }
  have er1 := each_reads I1 he hd rv
  have er : PySem.W.EachIs (fun v (p : D × V) => ∃ as, Reads (h'.push (seqObj "list" its.toArray 0)) v ((dat p.1).getD .none) as ∧ h'.objs.size ∉ as) its ps := by
    refine (PySem.W.each_mem er1).mono fun v b ⟨⟨as, r⟩, hb⟩ => ⟨as, PyProof.Rows.Reads.keeps (fun _ _ e => Heap.get?_push_of_some _ e) r, fun z => ?_⟩
    have hm : (dat b.1).getD .none ∈ es := by rw [← em]; exact List.mem_map.mpr ⟨b, hb, rfl⟩
    obtain ⟨o, e⟩ := reads_in _ _ _ r (hal _ hm _ hm) _ z
    exact absurd (Heap.lt_size e) (Nat.lt_irrefl _)
  refine wpAny_bind (wpAny_holding (PySem.W.list_sort_data (s := { s with heap := h'.push (seqObj "list" its.toArray 0) }) (R := fun v (p : D × V) => RelV p.2 v) (enc := fun p : D × V => (dat p.1).getD .none) (bs := ps) hoL (each_rel rv) er (by rw [em]; exact hal) (by rw [em]; exact hso) hz (fun b hb => ?_) fun out hlen ho2 => ?_))
  · have : (dat b.1).getD .none ∈ es := by rw [← em]; exact List.mem_map.mpr ⟨b, hb, rfl⟩
    have := hdp _ this
    show X.A.units + 1 + 1 + _ < _
    omega
  · obtain ⟨e', he'⟩ := PyProof.Rows.sortedHeap_at (vs := its) (out := out.toArray) hoL
    have vo := each_back ho2
    have hlen2 : ((ps.mergeSort fun x y => leD x.1 y.1).map (·.2)).length ≤ sizeLine := by rw [List.length_map, List.length_mergeSort]; exact hz
    refine wpAny_pure ⟨_, rfl, .ref h'.objs.size, upd H h'.objs.size (.lst ((ps.mergeSort fun x y => leD x.1 y.1).map (·.2))), I1.laid (t' := s.toks) (fun b u e => ?_) (Nat.le_refl _)
      (show ObjOk X.prog X.w _ _ _ (.lst _) from ⟨hlen2, out, e', vo, he'⟩), rfl, q _ (I1.hok.fresh (Nat.le_refl _))⟩
    have hb : b < h'.objs.size := Heap.lt_size e
    rw [PyProof.Rows.sortedHeap_old (Nat.ne_of_lt hb) (by rw [size_push']; exact Nat.lt_succ_of_lt hb)]
    exact Heap.get?_push_of_some _ e
def gSortT (ds : List D) : Option D := match ds with
  | [.tup xs] => (sortD xs).map fun ys => .lst true ys
  | _ => none
theorem impSortT : ImpA K (rSortT K) gSortT := by
  intro H L ds vs d Q e l r h
  unfold gSortT at e
  split at e
  · rename_i xs
    obtain ⟨ys, e3, rfl⟩ := Option.map_eq_some_iff.mp e
    obtain ⟨v, rfl⟩ := len1 l
    have r1 : RepT K H ((.tup xs, v) :: L) := r
    obtain ⟨a, ws, rfl, sq, l2, r2⟩ := r1.openT
    unfold sortD at e3
    split at e3
    · cases e3
    · rename_i es ed
      split at e3
      · rename_i z
        cases e3
        obtain ⟨z1, z2⟩ := z
        rw [Bool.and_eq_true, Bool.and_eq_true, List.all_eq_true] at z1
        have es1 : (xs.zip ws).map (·.1) = xs := zip_fst l2
        have es2 : (xs.zip ws).map (·.2) = ws := zip_snd l2
        refine ⟨a, xs.zip ws, es, rfl, by rw [es2]; exact .inl (.inl sq), by rw [List.length_zip]; omega, by rw [es1]; exact ed, by rw [es2]; exact r2.dpAll l2 ed, alikeB_ok z1.1.1, sortB_ok z1.1.2, fun e he => of_decide_eq_true (z1.2 e he), fun p hp => h _ _ (Same.upd hp) ?_⟩
        have em : xs.mergeSort leD = ((xs.zip ws).mergeSort fun x y => leD x.1 y.1).map (·.1) := by
          have := List.map_mergeSort (f := fun p : D × V => p.1) (r := fun x y => leD x.1 y.1) (s := leD) (l := xs.zip ws) (fun _ _ _ _ => rfl)
          rw [this, es1]
        rw [em]
        refine RepT.newL (by rw [List.length_map, List.length_map]) hp ?_
        rw [zip_maps]
        exact r2.perm ((List.mergeSort_perm _ _).symm.append_right L)
      · cases e3
  · cases e
end
end VS

set_option Elab.async false
set_option linter.all false
set_option maxRecDepth 100000
set_option maxHeartbeats 4000000
noncomputable section
namespace G
open PySem PySem.Spec PyProof.Rows L2 VS
def topS (i : Nat) : Stmt := PySem.Challenge.pw_lonetrack_k58_ties_put.main.body.getD i (.Pass ⟨0, 0, 0, 0⟩)
structure Tops (mg : Str → Option Value) : Prop where
  MOST_TIES : ∃ t, mg "MOST_TIES" = some (.int (220) t)
  ValueError : mg "ValueError" = none
  all : mg "all" = none
  bool : mg "bool" = none
  int : mg "int" = none
  isinstance : mg "isinstance" = none
  len : mg "len" = none
  list : mg "list" = none
  max : mg "max" = none
  min : mg "min" = none
  range : mg "range" = none
  sorted : mg "sorted" = none
  tuple : mg "tuple" = none
  zip : mg "zip" = none
def isT : Tab := ("NoPlace", "Apart", false) :: ("NoPlace", "BadLengths", false) :: ("NoPlace", "BadWeb", false) :: ("NoPlace", "NoChoice", false) :: ("NoPlace", "NoPlace", true) :: ("NoPlace", "NoRow", false) :: ("NoPlace", "NoSide", false) :: ("NoPlace", "NoText", false) :: ("NoPlace", "NoTie", false) :: ("NoPlace", "NoWay", false) :: ("NoPlace", "NotLone", false) :: ("NoPlace", "NotPlain", false) :: ("NoPlace", "NothingDone", false) :: ("NoPlace", "Tied", false) :: ("NoPlace", "TooMany", false) :: ("NoPlace", "ValueError", true) :: ("Tied", "Apart", false) :: ("Tied", "BadLengths", false) :: ("Tied", "BadWeb", false) :: ("Tied", "NoChoice", false) :: ("Tied", "NoPlace", false) :: ("Tied", "NoRow", false) :: ("Tied", "NoSide", false) :: ("Tied", "NoText", false) :: ("Tied", "NoTie", false) :: ("Tied", "NoWay", false) :: ("Tied", "NotLone", false) :: ("Tied", "NotPlain", false) :: ("Tied", "NothingDone", false) :: ("Tied", "Tied", true) :: ("Tied", "TooMany", false) :: ("Tied", "ValueError", true) :: ("TooMany", "Apart", false) :: ("TooMany", "BadLengths", false) :: ("TooMany", "BadWeb", false) :: ("TooMany", "NoChoice", false) :: ("TooMany", "NoPlace", false) :: ("TooMany", "NoRow", false) :: ("TooMany", "NoSide", false) :: ("TooMany", "NoText", false) :: ("TooMany", "NoTie", false) :: ("TooMany", "NoWay", false) :: ("TooMany", "NotLone", false) :: ("TooMany", "NotPlain", false) :: ("TooMany", "NothingDone", false) :: ("TooMany", "Tied", false) :: ("TooMany", "TooMany", true) :: ("TooMany", "ValueError", true) :: []
def yes_LoneError : List Str := ["NoPlace", "Tied", "TooMany"]
def no_LoneError : List Str := []
structure Xs (K : PySem.W.Frag) (mg : Str → Option Value) : Prop where
  c_Apart : ∃ C, mg "Apart" = some (.ref C)
  c_BadLengths : ∃ C, mg "BadLengths" = some (.ref C)
  c_BadWeb : ∃ C, mg "BadWeb" = some (.ref C)
  c_LoneError : ∃ C, mg "LoneError" = some (.ref C)
  c_NoChoice : ∃ C, mg "NoChoice" = some (.ref C)
  c_NoPlace : ∃ C, mg "NoPlace" = some (.ref C)
  c_NoRow : ∃ C, mg "NoRow" = some (.ref C)
  c_NoSide : ∃ C, mg "NoSide" = some (.ref C)
  c_NoText : ∃ C, mg "NoText" = some (.ref C)
  c_NoTie : ∃ C, mg "NoTie" = some (.ref C)
  c_NoWay : ∃ C, mg "NoWay" = some (.ref C)
  c_NotLone : ∃ C, mg "NotLone" = some (.ref C)
  c_NotPlain : ∃ C, mg "NotPlain" = some (.ref C)
  c_NothingDone : ∃ C, mg "NothingDone" = some (.ref C)
  c_Tied : ∃ C, mg "Tied" = some (.ref C)
  c_TooMany : ∃ C, mg "TooMany" = some (.ref C)
  x_NoPlace : ExcF K mg "NoPlace"
  x_Tied : ExcF K mg "Tied"
  x_TooMany : ExcF K mg "TooMany"
  tab : TabOk K mg isT
  yes_LoneError : ∀ c ∈ yes_LoneError, ∀ C, mg c = some (.ref C) → ExcC K C ∧ PySem.W.exmOne K (.ref C) (.ref c_LoneError.choose) = some true
  no_LoneError : ∀ c ∈ no_LoneError, ∀ C, mg c = some (.ref C) → PySem.W.exmOne K (.ref C) (.ref c_LoneError.choose) = some false
/-! look_at_place -/
abbrev s_look_at_place : Stmt := topS 18
abbrev N_look_at_place : List Str := ["web", "place"]
abbrev p_look_at_place : List Str := ["web", "place"]
theorem sc_look_at_place : FnScope N_look_at_place p_look_at_place (defScope s_look_at_place) := ⟨rfl, rfl, rfl, by decide +kernel, rfl, by decide +kernel, by decide +kernel⟩
abbrev a_look_at_place : List Nat := ([] ++ [])
def body_look_at_place : MS :=
    (dIfS (dNotT (dTB (dChain (gCmp cLe) (gCmp cLt) (dC (.int 0)) (dV 1) (dAt 0 (dC (.int 0))))))
    (dRaise "NoPlace") dSkip)
def F_look_at_place : FnD := fnD 2 2 a_look_at_place body_look_at_place
theorem cal_look_at_place {P : Program} {w : World} {K : PySem.W.Frag} {mg : Str → Option Value} {base : Heap} (T : Tops mg) (U : Xs K mg) (D : Def K mg "look_at_place" s_look_at_place p_look_at_place)  : Cal P w K mg base 1 "look_at_place" p_look_at_place F_look_at_place :=
  cal_mk (k := 0) D sc_look_at_place fun f cdv A outer s H E hr =>
    (vss_one (vs_if (vt_not (vt_chain op_leC op_ltC ve_int (ve_var (pv 1)) (ve_at (hu_of hr) (pv 0) ve_int))) (vss_one (vs_raise rfl (L2N.takes_of rfl rfl rfl rfl) U.x_NoPlace (by rfl))) vss_nil))
/-! length_between -/
abbrev s_length_between : Stmt := topS 19
abbrev N_length_between : List Str := ["web", "one", "other", "low", "high", "length"]
abbrev p_length_between : List Str := ["web", "one", "other"]
theorem sc_length_between : FnScope N_length_between p_length_between (defScope s_length_between) := ⟨rfl, rfl, rfl, by decide +kernel, rfl, by decide +kernel, by decide +kernel⟩
abbrev a_length_between : List Nat := (([3, 4, 5] ++ ([] ++ [])) ++ [])
def body_length_between : MS :=
    (dSeq (dFor (dItems (dAt 0 (dC (.int 1)))) (gTp [3, 4, 5])
    (dIfS (dTB (d2 (gInT false) (dTup (dCons (dV 3) (dCons (dV 4) dNil))) (dTup (dCons (dTup (dCons (dV 1) (dCons (dV 2) dNil))) (dCons (dTup (dCons (dV 2) (dCons (dV 1) dNil))) dNil)))))
    (dRet (dV 5)) dSkip))
    (dRet (dC .non)))
def F_length_between : FnD := fnD 6 3 a_length_between body_length_between
theorem cal_length_between {P : Program} {w : World} {K : PySem.W.Frag} {mg : Str → Option Value} {base : Heap} (T : Tops mg) (U : Xs K mg) (D : Def K mg "length_between" s_length_between p_length_between)  : Cal P w K mg base 1 "length_between" p_length_between F_length_between :=
  cal_mk (k := 0) D sc_length_between fun f cdv A outer s H E hr =>
    (vss_cons (vs_for (passes_of rfl) rfl (vi_seq (ve_at (hu_of hr) (pv 0) ve_int)) (vg_tup rfl (vgs_cons (pg_name (i := 3) sc_length_between.nd rfl (by first | exact .inl rfl | exact .inr rfl)) (vgs_cons (pg_name (i := 4) sc_length_between.nd rfl (by first | exact .inl rfl | exact .inr rfl)) (vgs_cons (pg_name (i := 5) sc_length_between.nd rfl (by first | exact .inl rfl | exact .inr rfl)) vgs_nil))))
    (vss_one (vs_if (vt_cmp (op_inT (room65 hr)) (impInT false) (ve_tup (va_cons (ve_var (pv 3)) (va_cons (ve_var (pv 4)) va_nil))) (ve_tup (va_cons (ve_tup (va_cons (ve_var (pv 1)) (va_cons (ve_var (pv 2)) va_nil))) (va_cons (ve_tup (va_cons (ve_var (pv 2)) (va_cons (ve_var (pv 1)) va_nil))) va_nil))) (by rfl)) (vss_one (vs_ret (ve_var (pv 5)))) vss_nil)))
    (vss_one (vs_ret ve_non)))
/-! tie_length -/
abbrev s_tie_length : Stmt := topS 20
abbrev N_tie_length : List Str := ["web", "one", "other"]
abbrev p_tie_length : List Str := ["web", "one", "other"]
theorem sc_tie_length : FnScope N_tie_length p_tie_length (defScope s_tie_length) := ⟨rfl, rfl, rfl, by decide +kernel, rfl, by decide +kernel, by decide +kernel⟩
abbrev a_tie_length : List Nat := ([] ++ ([] ++ []))
def body_tie_length : MS :=
    (dSeq (dDrop (dFn [none, none] F_look_at_place (dCons (dV 0) (dCons (dV 1) dNil))))
    (dSeq (dDrop (dFn [none, none] F_look_at_place (dCons (dV 0) (dCons (dV 2) dNil))))
    (dRet (dFn [none, none, none] F_length_between (dCons (dV 0) (dCons (dV 1) (dCons (dV 2) dNil)))))))
def F_tie_length : FnD := fnD 3 3 a_tie_length body_tie_length
theorem cal_tie_length {P : Program} {w : World} {K : PySem.W.Frag} {mg : Str → Option Value} {base : Heap} (T : Tops mg) (U : Xs K mg) (D : Def K mg "tie_length" s_tie_length p_tie_length) (c_length_between : Cal P w K mg base 1 "length_between" p_length_between F_length_between) (c_look_at_place : Cal P w K mg base 1 "look_at_place" p_look_at_place F_look_at_place) : Cal P w K mg base 2 "tie_length" p_tie_length F_tie_length :=
  cal_mk (k := 1) D sc_tie_length fun f cdv A outer s H E hr =>
    (vss_cons (vs_expr (ve_fn (c_look_at_place.mono (by decide)) hr (by rfl) (L2N.takes_of rfl rfl rfl rfl) (vio_cons (ve_var (pv 0)) (vio_cons (ve_var (pv 1)) vio_nil))))
    (vss_cons (vs_expr (ve_fn (c_look_at_place.mono (by decide)) hr (by rfl) (L2N.takes_of rfl rfl rfl rfl) (vio_cons (ve_var (pv 0)) (vio_cons (ve_var (pv 2)) vio_nil))))
    (vss_one (vs_ret (ve_fn (c_length_between.mono (by decide)) hr (by rfl) (L2N.takes_of rfl rfl rfl rfl) (vio_cons (ve_var (pv 0)) (vio_cons (ve_var (pv 1)) (vio_cons (ve_var (pv 2)) vio_nil))))))))
/-! look_at_ends -/
abbrev s_look_at_ends : Stmt := topS 23
abbrev N_look_at_ends : List Str := ["web", "one", "other", "place"]
abbrev p_look_at_ends : List Str := ["web", "one", "other"]
theorem sc_look_at_ends : FnScope N_look_at_ends p_look_at_ends (defScope s_look_at_ends) := ⟨rfl, rfl, rfl, by decide +kernel, rfl, by decide +kernel, by decide +kernel⟩
abbrev a_look_at_ends : List Nat := ([3] ++ ([] ++ []))
def body_look_at_ends : MS :=
    (dFor (dItems (dTup (dCons (dV 1) (dCons (dV 2) dNil)))) (gNm 3)
    (dIfS (dNotT (dTB (dChain (gCmp cLe) (gCmp cLt) (dC (.int 0)) (dV 3) (dAt 0 (dC (.int 0))))))
    (dRaise "NoPlace") dSkip))
def F_look_at_ends : FnD := fnD 4 3 a_look_at_ends body_look_at_ends
theorem cal_look_at_ends {P : Program} {w : World} {K : PySem.W.Frag} {mg : Str → Option Value} {base : Heap} (T : Tops mg) (U : Xs K mg) (D : Def K mg "look_at_ends" s_look_at_ends p_look_at_ends)  : Cal P w K mg base 1 "look_at_ends" p_look_at_ends F_look_at_ends :=
  cal_mk (k := 0) D sc_look_at_ends fun f cdv A outer s H E hr =>
    (vss_one (vs_for (passes_of rfl) rfl (vi_seq (ve_tup (va_cons (ve_var (pv 1)) (va_cons (ve_var (pv 2)) va_nil)))) (vg_name (pg_name (i := 3) sc_look_at_ends.nd rfl (by first | exact .inl rfl | exact .inr rfl)))
    (vss_one (vs_if (vt_not (vt_chain op_leC op_ltC ve_int (ve_var (pv 3)) (ve_at (hu_of hr) (pv 0) ve_int))) (vss_one (vs_raise rfl (L2N.takes_of rfl rfl rfl rfl) U.x_NoPlace (by rfl))) vss_nil))))
/-! look_at_tied -/
abbrev s_look_at_tied : Stmt := topS 24
abbrev N_look_at_tied : List Str := ["web", "one", "other"]
abbrev p_look_at_tied : List Str := ["web", "one", "other"]
theorem sc_look_at_tied : FnScope N_look_at_tied p_look_at_tied (defScope s_look_at_tied) := ⟨rfl, rfl, rfl, by decide +kernel, rfl, by decide +kernel, by decide +kernel⟩
abbrev a_look_at_tied : List Nat := ([] ++ [])
def body_look_at_tied : MS :=
    (dIfS (dOrT (dTB (d2 gEq (dV 1) (dV 2))) (dTB (d2 (gIsN true) (dFn [none, none, none] F_tie_length (dCons (dV 0) (dCons (dV 1) (dCons (dV 2) dNil)))) (dC .non))))
    (dRaise "Tied") dSkip)
def F_look_at_tied : FnD := fnD 3 3 a_look_at_tied body_look_at_tied
theorem cal_look_at_tied {P : Program} {w : World} {K : PySem.W.Frag} {mg : Str → Option Value} {base : Heap} (T : Tops mg) (U : Xs K mg) (D : Def K mg "look_at_tied" s_look_at_tied p_look_at_tied) (c_tie_length : Cal P w K mg base 2 "tie_length" p_tie_length F_tie_length) : Cal P w K mg base 3 "look_at_tied" p_look_at_tied F_look_at_tied :=
  cal_mk (k := 2) D sc_look_at_tied fun f cdv A outer s H E hr =>
    (vss_one (vs_if (vt_bool (vw_or (vt_cmp (op_eqD hr.units) impEq (ve_var (pv 1)) (ve_var (pv 2)) (nomark _)) (vw_or1 (vt_cmp op_notN impNotN (ve_fn (c_tie_length.mono (by decide)) hr (by rfl) (L2N.takes_of rfl rfl rfl rfl) (vio_cons (ve_var (pv 0)) (vio_cons (ve_var (pv 1)) (vio_cons (ve_var (pv 2)) vio_nil)))) ve_non (nomark _))))) (vss_one (vs_raise rfl (L2N.takes_of rfl rfl rfl rfl) U.x_Tied (by rfl))) vss_nil))
/-! put_web -/
abbrev s_put_web : Stmt := topS 25
abbrev N_put_web : List Str := ["web", "one", "other", "length"]
abbrev p_put_web : List Str := ["web", "one", "other", "length"]
theorem sc_put_web : FnScope N_put_web p_put_web (defScope s_put_web) := ⟨rfl, rfl, rfl, by decide +kernel, rfl, by decide +kernel, by decide +kernel⟩
abbrev a_put_web : List Nat := ([] ++ ([] ++ (([] ++ []) ++ [])))
def body_put_web : MS :=
    (dSeq (dDrop (dFn [none, none, none] F_look_at_ends (dCons (dV 0) (dCons (dV 1) (dCons (dV 2) dNil)))))
    (dSeq (dDrop (dFn [none, none, none] F_look_at_tied (dCons (dV 0) (dCons (dV 1) (dCons (dV 2) dNil)))))
    (dSeq (dIfS (dTB (d2 gEq (dCallS [none] gLen (dCons (dAt 0 (dC (.int 1))) dNil)) (dC (.int 220))))
    (dRaise "TooMany") dSkip)
    (dRet (dTup (dCons (dAt 0 (dC (.int 0))) (dCons (dCall gTuple (dCons (dCall gSortT (dCons (d2 gAdd (dAt 0 (dC (.int 1))) (dTup (dCons (dTup (dCons (dCallS [none, none] gMin (dCons (dV 1) (dCons (dV 2) dNil))) (dCons (dCallS [none, none] gMax (dCons (dV 1) (dCons (dV 2) dNil))) (dCons (dV 3) dNil)))) dNil))) dNil)) dNil)) dNil)))))))
def F_put_web : FnD := fnD 4 4 a_put_web body_put_web
theorem cal_put_web {P : Program} {w : World} {K : PySem.W.Frag} {mg : Str → Option Value} {base : Heap} (T : Tops mg) (U : Xs K mg) (D : Def K mg "put_web" s_put_web p_put_web) (c_look_at_tied : Cal P w K mg base 3 "look_at_tied" p_look_at_tied F_look_at_tied) (c_look_at_ends : Cal P w K mg base 1 "look_at_ends" p_look_at_ends F_look_at_ends) : Cal P w K mg base 4 "put_web" p_put_web F_put_web :=
  cal_mk (k := 3) D sc_put_web fun f cdv A outer s H E hr =>
    (vss_cons (vs_expr (ve_fn (c_look_at_ends.mono (by decide)) hr (by rfl) (L2N.takes_of rfl rfl rfl rfl) (vio_cons (ve_var (pv 0)) (vio_cons (ve_var (pv 1)) (vio_cons (ve_var (pv 2)) vio_nil)))))
    (vss_cons (vs_expr (ve_fn (c_look_at_tied.mono (by decide)) hr (by rfl) (L2N.takes_of rfl rfl rfl rfl) (vio_cons (ve_var (pv 0)) (vio_cons (ve_var (pv 1)) (vio_cons (ve_var (pv 2)) vio_nil)))))
    (vss_cons (vs_if (vt_cmp (op_eqD hr.units) impEq (ve_callS call_lenA sLen (by rfl) T.len b_len (vio_cons (ve_at (hu_of hr) (pv 0) ve_int) vio_nil)) (ve_con (pe_glob (v := .int (220)) (by rfl) T.MOST_TIES.choose_spec ⟨_, rfl⟩) fun _ _ h => h.int) (nomark _)) (vss_one (vs_raise rfl (L2N.takes_of rfl rfl rfl rfl) U.x_TooMany (by rfl))) vss_nil)
    (vss_one (vs_ret (ve_tup (va_cons (ve_at (hu_of hr) (pv 0) ve_int) (va_cons (ve_callTy call_tuple_of impTuple (by rfl) T.tuple b_tuple (va_cons (ve_callB (cr_sortT hr.units) impSortT (by rfl) T.sorted b_sorted (va_cons (ve_op op_add3 impAdd (ve_at (hu_of hr) (pv 0) ve_int) (ve_tup (va_cons (ve_tup (va_cons (ve_callS (cr_minA rfl hr.units) sMin (by rfl) T.min b_min (vio_cons (ve_var (pv 1)) (vio_cons (ve_var (pv 2)) vio_nil))) (va_cons (ve_callS (cr_maxA rfl hr.units) sMax (by rfl) T.max b_max (vio_cons (ve_var (pv 1)) (vio_cons (ve_var (pv 2)) vio_nil))) (va_cons (ve_var (pv 3)) va_nil)))) va_nil))) va_nil)) va_nil)) va_nil))))))))
/-! law_pot -/
abbrev s_law_pot : Stmt := topS 27
abbrev N_law_pot : List Str := ["script", "salt", "seed", "cell", "great"]
abbrev p_law_pot : List Str := ["script", "salt"]
theorem sc_law_pot : FnScope N_law_pot p_law_pot (defScope s_law_pot) := ⟨rfl, rfl, rfl, by decide +kernel, rfl, by decide +kernel, by decide +kernel⟩
abbrev a_law_pot : List Nat := ([2] ++ (([3] ++ [2]) ++ ([4] ++ [])))
def body_law_pot : MS :=
    (dSeq (dSet 2 (d2 gAdd (dC (.int 11)) (dCallS [none] gLen (dCons (dV 0) dNil))))
    (dSeq (dFor (dItems (dV 0)) (gNm 3)
    (dSet 2 (d2 gMod (d2 gAdd (d2 gAdd (d2 gMulA (dV 2) (dV 2)) (d2 gMulA (dV 3) (dC (.int 137)))) (dC (.int 29))) (dC (.int 1000000000039)))))
    (dSeq (dSet 4 (dLc [3] (dItems (dV 0)) (gNm 3) (dTB (d2 (gCmp cGe) (dV 3) (d2 gPow (dC (.int 10)) (dC (.int 18))))) (dV 3)))
    (dRet (dDisp (dCons (dC (.str "great")) (dCons (dM 4) (dCons (dC (.str "left")) (dCons (dC (.int 0)) (dCons (dC (.str "seed")) (dCons (dV 2) (dCons (dC (.str "salt")) (dCons (dV 1) (dCons (dC (.str "count")) (dCons (dC (.int 0)) dNil)))))))))))))))
def F_law_pot : FnD := fnD 5 2 a_law_pot body_law_pot
theorem cal_law_pot {P : Program} {w : World} {K : PySem.W.Frag} {mg : Str → Option Value} {base : Heap} (T : Tops mg) (U : Xs K mg) (D : Def K mg "_law_pot" s_law_pot p_law_pot)  : Cal P w K mg base 1 "_law_pot" p_law_pot F_law_pot :=
  cal_mk (k := 0) D sc_law_pot fun f cdv A outer s H E hr =>
    (vss_cons (vs_set (i := 2) sc_law_pot.nd rfl (by first | exact .inl rfl | exact .inr rfl) (ve_op op_add3 impAdd ve_int (ve_callS call_lenA sLen (by rfl) T.len b_len (vio_cons (ve_var (pv 0)) vio_nil))))
    (vss_cons (vs_for (passes_of rfl) rfl (vi_seq (ve_var (pv 0))) (vg_name (pg_name (i := 3) sc_law_pot.nd rfl (by first | exact .inl rfl | exact .inr rfl)))
    (vss_one (vs_set (i := 2) sc_law_pot.nd rfl (by first | exact .inl rfl | exact .inr rfl) (ve_op op_mod impMod (ve_op op_add3 impAdd (ve_op op_add3 impAdd (ve_op op_mulA impMulA (ve_var (pv 2)) (ve_var (pv 2))) (ve_op op_mulA impMulA (ve_var (pv 3)) ve_int)) ve_int) ve_int))))
    (vss_cons (vs_setLc (i := 4) (own := [("cell", 3)]) rfl sc_law_pot.nd rfl rfl (sw_true rfl rfl rfl (by decide +kernel)) (vi_seq (ve_var (pv 0))) (blkOk_by (own := [("cell", 3)]) (N := N_law_pot) (sc := defScope s_law_pot) (by decide +kernel)) (fun _ _ _ _ _ => (vg_name (pg_name (i := 3) sc_law_pot.nd rfl (by first | exact .inl rfl | exact .inr rfl)))) (fun _ _ _ _ _ => (vts_one (vt_cmp op_geC (impCmp cGe) (ve_var (pv 3)) (ve_op op_pow impPow ve_int ve_int) (nomark _)))) (fun _ _ _ _ _ => (ve_var (pv 3))))
    (vss_one (vs_ret (ve_disp (vp_cons ve_str (ve_mov (pv 4)) (vp_cons ve_str ve_int (vp_cons ve_str (ve_var (pv 2)) (vp_cons ve_str (ve_var (pv 1)) (vp_cons ve_str ve_int vp_nil))))) (by rfl) (by rfl) (fun z => by cases z) (by decide)))))))
/-! law_take -/
abbrev s_law_take : Stmt := topS 28
abbrev N_law_take : List Str := ["draws", "many", "near", "digit"]
abbrev p_law_take : List Str := ["draws", "many"]
theorem sc_law_take : FnScope N_law_take p_law_take (defScope s_law_take) := ⟨rfl, rfl, rfl, by decide +kernel, rfl, by decide +kernel, by decide +kernel⟩
abbrev a_law_take : List Nat := ([] ++ (([] ++ []) ++ ((([3] ++ ([] ++ [])) ++ []) ++ ([2] ++ ([2] ++ [])))))
def body_law_take : MS :=
    (dSeq (dPut 0 (dC (.str "count")) (d2 gAdd (dAt 0 (dC (.str "count"))) (dC (.int 1))))
    (dSeq (dIfS (dAndT (dTB (d2 gEq (dAt 0 (dC (.str "left"))) (dC (.int 0)))) (dLendT 0 (dTB (d2 gNe (dAt 0 (dC (.str "great"))) (dLst dNil)))))
    (dPut 0 (dC (.str "left")) (dMtK 0 (.inr "great") gPop (dCons (dC (.int 0)) dNil))) dSkip)
    (dSeq (dIfS (dTB (d2 (gCmp cGt) (dAt 0 (dC (.str "left"))) (dC (.int 0))))
    (dSeq (dSet 3 (d2 gMod (dAt 0 (dC (.str "left"))) (dV 1)))
    (dSeq (dPut 0 (dC (.str "left")) (d2 gDiv (dAt 0 (dC (.str "left"))) (dV 1)))
    (dRet (dV 3)))) dSkip)
    (dSeq (dSet 2 (d2 gMod (d2 gAdd (d2 gAdd (dAt 0 (dC (.str "seed"))) (d2 gMulA (dC (.int 7919)) (dAt 0 (dC (.str "count"))))) (dAt 0 (dC (.str "salt")))) (dC (.int 998244353))))
    (dSeq (dSet 2 (d2 gMod (d2 gMulA (dV 2) (dV 2)) (dC (.int 2147483647))))
    (dRet (d2 gMod (d2 gDiv (d2 gMod (d2 gAdd (d2 gMulA (dV 2) (dC (.int 48271))) (d2 gMulA (dC (.int 23)) (dAt 0 (dC (.str "count"))))) (dC (.int 2147483629))) (dC (.int 8))) (dV 1))))))))
def F_law_take : FnD := fnD 4 2 a_law_take body_law_take
theorem cal_law_take {P : Program} {w : World} {K : PySem.W.Frag} {mg : Str → Option Value} {base : Heap} (T : Tops mg) (U : Xs K mg) (D : Def K mg "_law_take" s_law_take p_law_take)  : Cal P w K mg base 1 "_law_take" p_law_take F_law_take :=
  cal_mk (k := 0) D sc_law_take fun f cdv A outer s H E hr =>
    (vss_cons (vs_put (hu_of hr) (pv 0) ve_str (ve_op op_add3 impAdd (ve_at (hu_of hr) (pv 0) ve_str) ve_int))
    (vss_cons (vs_if (vt_bool (vw_and (vt_cmp (op_eqD hr.units) impEq (ve_at (hu_of hr) (pv 0) ve_str) ve_int (nomark _)) (vw_one (vt_lend 0 (vt_cmp (op_neD hr.units) impNe (ve_at (hu_of hr) (pv 0) ve_str) (ve_lst va_nil) (nomark _)))))) (vss_one (vs_put (hu_of hr) (pv 0) ve_str (ve_mtK (name := "pop") PySem.F.slot_list_pop PySem.F.type_list_pop mt_popAt impPop (hu_of hr) (pv 0) ve_str (va_cons ve_int va_nil)))) vss_nil)
    (vss_cons (vs_if (vt_cmp op_gtC (impCmp cGt) (ve_at (hu_of hr) (pv 0) ve_str) ve_int (nomark _)) (vss_cons (vs_set (i := 3) sc_law_take.nd rfl (by first | exact .inl rfl | exact .inr rfl) (ve_op op_mod impMod (ve_at (hu_of hr) (pv 0) ve_str) (ve_var (pv 1))))
    (vss_cons (vs_put (hu_of hr) (pv 0) ve_str (ve_op op_fdiv impDiv (ve_at (hu_of hr) (pv 0) ve_str) (ve_var (pv 1))))
    (vss_one (vs_ret (ve_var (pv 3)))))) vss_nil)
    (vss_cons (vs_set (i := 2) sc_law_take.nd rfl (by first | exact .inl rfl | exact .inr rfl) (ve_op op_mod impMod (ve_op op_add3 impAdd (ve_op op_add3 impAdd (ve_at (hu_of hr) (pv 0) ve_str) (ve_op op_mulA impMulA ve_int (ve_at (hu_of hr) (pv 0) ve_str))) (ve_at (hu_of hr) (pv 0) ve_str)) ve_int))
    (vss_cons (vs_set (i := 2) sc_law_take.nd rfl (by first | exact .inl rfl | exact .inr rfl) (ve_op op_mod impMod (ve_op op_mulA impMulA (ve_var (pv 2)) (ve_var (pv 2))) ve_int))
    (vss_one (vs_ret (ve_op op_mod impMod (ve_op op_fdiv impDiv (ve_op op_mod impMod (ve_op op_add3 impAdd (ve_op op_mulA impMulA (ve_var (pv 2)) ve_int) (ve_op op_mulA impMulA ve_int (ve_at (hu_of hr) (pv 0) ve_str))) ve_int) ve_int) (ve_var (pv 1))))))))))
/-! law_length -/
abbrev s_law_length : Stmt := topS 29
abbrev N_law_length : List Str := ["draws", "way"]
abbrev p_law_length : List Str := ["draws", "way"]
theorem sc_law_length : FnScope N_law_length p_law_length (defScope s_law_length) := ⟨rfl, rfl, rfl, by decide +kernel, rfl, by decide +kernel, by decide +kernel⟩
abbrev a_law_length : List Nat := (([] ++ []) ++ (([] ++ []) ++ (([] ++ []) ++ [])))
def body_law_length : MS :=
    (dSeq (dIfS (dTB (d2 gEq (dV 1) (dC (.int 0))))
    (dRet (dC (.int 1))) dSkip)
    (dSeq (dIfS (dTB (d2 gEq (dV 1) (dC (.int 1))))
    (dRet (d2 gAdd (dC (.int 1)) (dFn [some 0, none] F_law_take (dIO 0 (dCons (dC (.int 4)) dNil))))) dSkip)
    (dSeq (dIfS (dTB (d2 gEq (dV 1) (dC (.int 2))))
    (dRet (d2 gIx (dLst (dCons (dC (.int 1)) (dCons (dC (.int 2)) (dCons (dC (.int 4)) (dCons (dC (.int 8)) (dCons (dC (.int 16)) (dCons (dC (.int 32)) (dCons (dC (.int 64)) (dCons (d2 gPow (dC (.int 10)) (dC (.int 9))) dNil))))))))) (dFn [some 0, none] F_law_take (dIO 0 (dCons (dC (.int 8)) dNil))))) dSkip)
    (dRet (d2 gSub (d2 gPow (dC (.int 10)) (dC (.int 30))) (dFn [some 0, none] F_law_take (dIO 0 (dCons (dC (.int 3)) dNil))))))))
def F_law_length : FnD := fnD 2 2 a_law_length body_law_length
theorem cal_law_length {P : Program} {w : World} {K : PySem.W.Frag} {mg : Str → Option Value} {base : Heap} (T : Tops mg) (U : Xs K mg) (D : Def K mg "_law_length" s_law_length p_law_length) (c_law_take : Cal P w K mg base 1 "_law_take" p_law_take F_law_take) : Cal P w K mg base 2 "_law_length" p_law_length F_law_length :=
  cal_mk (k := 1) D sc_law_length fun f cdv A outer s H E hr =>
    (vss_cons (vs_if (vt_cmp (op_eqD hr.units) impEq (ve_var (pv 1)) ve_int (nomark _)) (vss_one (vs_ret ve_int)) vss_nil)
    (vss_cons (vs_if (vt_cmp (op_eqD hr.units) impEq (ve_var (pv 1)) ve_int (nomark _)) (vss_one (vs_ret (ve_op op_add3 impAdd ve_int (ve_fn (c_law_take.mono (by decide)) hr (by rfl) (L2N.takes_of rfl rfl rfl rfl) (vio_slot (pv 0) (vio_cons ve_int vio_nil)))))) vss_nil)
    (vss_cons (vs_if (vt_cmp (op_eqD hr.units) impEq (ve_var (pv 1)) ve_int (nomark _)) (vss_one (vs_ret (ve_ix (ve_lst (va_cons ve_int (va_cons ve_int (va_cons ve_int (va_cons ve_int (va_cons ve_int (va_cons ve_int (va_cons ve_int (va_cons (ve_op op_pow impPow ve_int ve_int) va_nil))))))))) (ve_fn (c_law_take.mono (by decide)) hr (by rfl) (L2N.takes_of rfl rfl rfl rfl) (vio_slot (pv 0) (vio_cons ve_int vio_nil)))))) vss_nil)
    (vss_one (vs_ret (ve_op op_sub impSub (ve_op op_pow impPow ve_int ve_int) (ve_fn (c_law_take.mono (by decide)) hr (by rfl) (L2N.takes_of rfl rfl rfl rfl) (vio_slot (pv 0) (vio_cons ve_int vio_nil)))))))))
/-! law_order -/
abbrev s_law_order : Stmt := topS 30
abbrev N_law_order : List Str := ["draws", "many", "order", "place"]
abbrev p_law_order : List Str := ["draws", "many"]
theorem sc_law_order : FnScope N_law_order p_law_order (defScope s_law_order) := ⟨rfl, rfl, rfl, by decide +kernel, rfl, by decide +kernel, by decide +kernel⟩
abbrev a_law_order : List Nat := ([2] ++ (([3] ++ []) ++ []))
def body_law_order : MS :=
    (dSeq (dSet 2 (dLst dNil))
    (dSeq (dFor (dRange1 (dCons (dV 1) dNil)) (gNm 3)
    (dDrop (dMt 2 gIns (dCons (dFn [some 0, none] F_law_take (dIO 0 (dCons (d2 gAdd (dV 3) (dC (.int 1))) dNil))) (dCons (dV 3) dNil)))))
    (dRet (dM 2))))
def F_law_order : FnD := fnD 4 2 a_law_order body_law_order
theorem cal_law_order {P : Program} {w : World} {K : PySem.W.Frag} {mg : Str → Option Value} {base : Heap} (T : Tops mg) (U : Xs K mg) (D : Def K mg "_law_order" s_law_order p_law_order) (c_law_take : Cal P w K mg base 1 "_law_take" p_law_take F_law_take) : Cal P w K mg base 2 "_law_order" p_law_order F_law_order :=
  cal_mk (k := 1) D sc_law_order fun f cdv A outer s H E hr =>
    (vss_cons (vs_set (i := 2) sc_law_order.nd rfl (by first | exact .inl rfl | exact .inr rfl) (ve_lst va_nil))
    (vss_cons (vs_for (passes_of rfl) rfl (vi_range1 (by rfl) T.range (va_cons (ve_var (pv 1)) va_nil)) (vg_name (pg_name (i := 3) sc_law_order.nd rfl (by first | exact .inl rfl | exact .inr rfl)))
    (vss_one (vs_expr (ve_mt (name := "insert") PySem.F.slot_list_insert PySem.F.type_list_insert mt_insert impIns (pv 2) (va_cons (ve_fn (c_law_take.mono (by decide)) hr (by rfl) (L2N.takes_of rfl rfl rfl rfl) (vio_slot (pv 0) (vio_cons (ve_op op_add3 impAdd (ve_var (pv 3)) ve_int) vio_nil))) (va_cons (ve_var (pv 3)) va_nil))))))
    (vss_one (vs_ret (ve_mov (pv 2))))))
/-! law_named -/
abbrev s_law_named : Stmt := topS 31
abbrev N_law_named : List Str := ["draws", "many", "lengths", "order", "ties", "one", "other", "both"]
abbrev p_law_named : List Str := ["draws", "many", "lengths"]
theorem sc_law_named : FnScope N_law_named p_law_named (defScope s_law_named) := ⟨rfl, rfl, rfl, by decide +kernel, rfl, by decide +kernel, by decide +kernel⟩
abbrev a_law_named : List Nat := ([3] ++ ([4] ++ (([5, 6] ++ ([7] ++ [])) ++ [])))
def body_law_named : MS :=
    (dSeq (dSet 3 (dFn [some 0, none] F_law_order (dIO 0 (dCons (dV 1) dNil))))
    (dSeq (dSet 4 (dLst dNil))
    (dSeq (dFor (dKeys (dV 2)) (gTp [5, 6])
    (dSeq (dSet 7 (dCall gSorted (dCons (dLst (dCons (dAt 3 (dV 5)) (dCons (dAt 3 (dV 6)) dNil))) dNil)))
    (dDrop (dMt 4 gApp (dCons (dTup (dCons (dAt 7 (dC (.int 0))) (dCons (dAt 7 (dC (.int 1))) (dCons (dAt 2 (dTup (dCons (dV 5) (dCons (dV 6) dNil)))) dNil)))) dNil)))))
    (dRet (dTup (dCons (dV 1) (dCons (dCall gTuple (dCons (dCall gSorted (dCons (dF 4) dNil)) dNil)) dNil)))))))
def F_law_named : FnD := fnD 8 3 a_law_named body_law_named
theorem cal_law_named {P : Program} {w : World} {K : PySem.W.Frag} {mg : Str → Option Value} {base : Heap} (T : Tops mg) (U : Xs K mg) (D : Def K mg "_law_named" s_law_named p_law_named) (c_law_order : Cal P w K mg base 2 "_law_order" p_law_order F_law_order) : Cal P w K mg base 3 "_law_named" p_law_named F_law_named :=
  cal_mk (k := 2) D sc_law_named fun f cdv A outer s H E hr =>
    (vss_cons (vs_set (i := 3) sc_law_named.nd rfl (by first | exact .inl rfl | exact .inr rfl) (ve_fn (c_law_order.mono (by decide)) hr (by rfl) (L2N.takes_of rfl rfl rfl rfl) (vio_slot (pv 0) (vio_cons (ve_var (pv 1)) vio_nil))))
    (vss_cons (vs_set (i := 4) sc_law_named.nd rfl (by first | exact .inl rfl | exact .inr rfl) (ve_lst va_nil))
    (vss_cons (vs_for (passes_of rfl) rfl (vi_keys (ve_var (pv 2))) (vg_tup rfl (vgs_cons (pg_name (i := 5) sc_law_named.nd rfl (by first | exact .inl rfl | exact .inr rfl)) (vgs_cons (pg_name (i := 6) sc_law_named.nd rfl (by first | exact .inl rfl | exact .inr rfl)) vgs_nil)))
    (vss_cons (vs_set (i := 7) sc_law_named.nd rfl (by first | exact .inl rfl | exact .inr rfl) (ve_callB (cr_sorted2 rfl hr.units) impSorted (by rfl) T.sorted b_sorted (va_cons (ve_lst (va_cons (ve_at (hu_of hr) (pv 3) (ve_var (pv 5))) (va_cons (ve_at (hu_of hr) (pv 3) (ve_var (pv 6))) va_nil))) va_nil)))
    (vss_one (vs_expr (ve_mt (name := "append") PySem.F.slot_list_append PySem.F.type_list_append mt_append impApp (pv 4) (va_cons (ve_tup (va_cons (ve_at (hu_of hr) (pv 7) ve_int) (va_cons (ve_at (hu_of hr) (pv 7) ve_int) (va_cons (ve_at (hu_of hr) (pv 2) (ve_tup (va_cons (ve_var (pv 5)) (va_cons (ve_var (pv 6)) va_nil)))) va_nil)))) va_nil))))))
    (vss_one (vs_ret (ve_tup (va_cons (ve_var (pv 1)) (va_cons (ve_callTy call_tuple_of impTuple (by rfl) T.tuple b_tuple (va_cons (ve_callB (cr_sorted2 rfl hr.units) impSorted (by rfl) T.sorted b_sorted (va_cons (ve_frz (pv 4)) va_nil)) va_nil)) va_nil))))))))
/-! law_any_web -/
abbrev s_law_any_web : Stmt := topS 32
abbrev N_law_any_web : List Str := ["draws", "many", "way", "lengths", "place", "k", "one", "other"]
abbrev p_law_any_web : List Str := ["draws"]
theorem sc_law_any_web : FnScope N_law_any_web p_law_any_web (defScope s_law_any_web) := ⟨rfl, rfl, rfl, by decide +kernel, rfl, by decide +kernel, by decide +kernel⟩
abbrev a_law_any_web : List Nat := ([1] ++ ([2] ++ ([3] ++ (([4] ++ []) ++ (([5] ++ ([6] ++ ([7] ++ ([] ++ [])))) ++ [])))))
def body_law_any_web : MS :=
    (dSeq (dSet 1 (d2 gAdd (dC (.int 1)) (dFn [some 0, none] F_law_take (dIO 0 (dCons (dC (.int 8)) dNil)))))
    (dSeq (dSet 2 (dFn [some 0, none] F_law_take (dIO 0 (dCons (dC (.int 4)) dNil))))
    (dSeq (dSet 3 (dC (.dT true [] [])))
    (dSeq (dFor (dRange2 (dCons (dC (.int 1)) (dCons (dV 1) dNil))) (gNm 4)
    (dPut 3 (dTup (dCons (dFn [some 0, none] F_law_take (dIO 0 (dCons (dV 4) dNil))) (dCons (dV 4) dNil))) (dFn [some 0, none] F_law_length (dIO 0 (dCons (dV 2) dNil)))))
    (dSeq (dFor (dRange1 (dCons (d2 gMulA (dFn [some 0, none] F_law_take (dIO 0 (dCons (dC (.int 9)) dNil))) (dCallS [none] gIntOf (dCons (d2 (gCmp cGt) (dV 1) (dC (.int 2))) dNil))) dNil)) (gNm 5)
    (dSeq (dSet 6 (dFn [some 0, none] F_law_take (dIO 0 (dCons (dV 1) dNil))))
    (dSeq (dSet 7 (d2 gMod (d2 gAdd (d2 gAdd (dV 6) (dC (.int 1))) (dFn [some 0, none] F_law_take (dIO 0 (dCons (d2 gSub (dV 1) (dC (.int 1))) dNil)))) (dV 1)))
    (dIfS (dTB (dHasS true 3 (dTup (dCons (dCallS [none, none] gMin (dCons (dV 6) (dCons (dV 7) dNil))) (dCons (dCallS [none, none] gMax (dCons (dV 6) (dCons (dV 7) dNil))) dNil)))))
    (dPut 3 (dTup (dCons (dCallS [none, none] gMin (dCons (dV 6) (dCons (dV 7) dNil))) (dCons (dCallS [none, none] gMax (dCons (dV 6) (dCons (dV 7) dNil))) dNil))) (dFn [some 0, none] F_law_length (dIO 0 (dCons (dV 2) dNil)))) dSkip))))
    (dRet (dFn [some 0, none, none] F_law_named (dIO 0 (dCons (dV 1) (dCons (dLk 3) dNil))))))))))
def F_law_any_web : FnD := fnD 8 1 a_law_any_web body_law_any_web
theorem cal_law_any_web {P : Program} {w : World} {K : PySem.W.Frag} {mg : Str → Option Value} {base : Heap} (T : Tops mg) (U : Xs K mg) (D : Def K mg "_law_any_web" s_law_any_web p_law_any_web) (c_law_named : Cal P w K mg base 3 "_law_named" p_law_named F_law_named) (c_law_take : Cal P w K mg base 1 "_law_take" p_law_take F_law_take) (c_law_length : Cal P w K mg base 2 "_law_length" p_law_length F_law_length) : Cal P w K mg base 4 "_law_any_web" p_law_any_web F_law_any_web :=
  cal_mk (k := 3) D sc_law_any_web fun f cdv A outer s H E hr =>
    (vss_cons (vs_set (i := 1) sc_law_any_web.nd rfl (by first | exact .inl rfl | exact .inr rfl) (ve_op op_add3 impAdd ve_int (ve_fn (c_law_take.mono (by decide)) hr (by rfl) (L2N.takes_of rfl rfl rfl rfl) (vio_slot (pv 0) (vio_cons ve_int vio_nil)))))
    (vss_cons (vs_set (i := 2) sc_law_any_web.nd rfl (by first | exact .inl rfl | exact .inr rfl) (ve_fn (c_law_take.mono (by decide)) hr (by rfl) (L2N.takes_of rfl rfl rfl rfl) (vio_slot (pv 0) (vio_cons ve_int vio_nil))))
    (vss_cons (vs_set (i := 3) sc_law_any_web.nd rfl (by first | exact .inl rfl | exact .inr rfl) ve_dnewT)
    (vss_cons (vs_for (passes_of rfl) rfl (vi_range2 (by rfl) T.range (va_cons ve_int (va_cons (ve_var (pv 1)) va_nil))) (vg_name (pg_name (i := 4) sc_law_any_web.nd rfl (by first | exact .inl rfl | exact .inr rfl)))
    (vss_one (vs_put (hu_of hr) (pv 3) (ve_tup (va_cons (ve_fn (c_law_take.mono (by decide)) hr (by rfl) (L2N.takes_of rfl rfl rfl rfl) (vio_slot (pv 0) (vio_cons (ve_var (pv 4)) vio_nil))) (va_cons (ve_var (pv 4)) va_nil))) (ve_fn (c_law_length.mono (by decide)) hr (by rfl) (L2N.takes_of rfl rfl rfl rfl) (vio_slot (pv 0) (vio_cons (ve_var (pv 2)) vio_nil))))))
    (vss_cons (vs_for (passes_of rfl) rfl (vi_range1 (by rfl) T.range (va_cons (ve_op op_mulA impMulA (ve_fn (c_law_take.mono (by decide)) hr (by rfl) (L2N.takes_of rfl rfl rfl rfl) (vio_slot (pv 0) (vio_cons ve_int vio_nil))) (ve_callST call_int1 sIntOf (by rfl) T.int b_int (vio_cons (ve_cmp op_gtC (impCmp cGt) (ve_var (pv 1)) ve_int (nomark _)) vio_nil))) va_nil)) (vg_name (pg_name (i := 5) sc_law_any_web.nd rfl (by first | exact .inl rfl | exact .inr rfl)))
    (vss_cons (vs_set (i := 6) sc_law_any_web.nd rfl (by first | exact .inl rfl | exact .inr rfl) (ve_fn (c_law_take.mono (by decide)) hr (by rfl) (L2N.takes_of rfl rfl rfl rfl) (vio_slot (pv 0) (vio_cons (ve_var (pv 1)) vio_nil))))
    (vss_cons (vs_set (i := 7) sc_law_any_web.nd rfl (by first | exact .inl rfl | exact .inr rfl) (ve_op op_mod impMod (ve_op op_add3 impAdd (ve_op op_add3 impAdd (ve_var (pv 6)) ve_int) (ve_fn (c_law_take.mono (by decide)) hr (by rfl) (L2N.takes_of rfl rfl rfl rfl) (vio_slot (pv 0) (vio_cons (ve_op op_sub impSub (ve_var (pv 1)) ve_int) vio_nil)))) (ve_var (pv 1))))
    (vss_one (vs_if (vt_ninD (hu_of hr) (ve_tup (va_cons (ve_callS (cr_minA rfl hr.units) sMin (by rfl) T.min b_min (vio_cons (ve_var (pv 6)) (vio_cons (ve_var (pv 7)) vio_nil))) (va_cons (ve_callS (cr_maxA rfl hr.units) sMax (by rfl) T.max b_max (vio_cons (ve_var (pv 6)) (vio_cons (ve_var (pv 7)) vio_nil))) va_nil))) (pv 3)) (vss_one (vs_put (hu_of hr) (pv 3) (ve_tup (va_cons (ve_callS (cr_minA rfl hr.units) sMin (by rfl) T.min b_min (vio_cons (ve_var (pv 6)) (vio_cons (ve_var (pv 7)) vio_nil))) (va_cons (ve_callS (cr_maxA rfl hr.units) sMax (by rfl) T.max b_max (vio_cons (ve_var (pv 6)) (vio_cons (ve_var (pv 7)) vio_nil))) va_nil))) (ve_fn (c_law_length.mono (by decide)) hr (by rfl) (L2N.takes_of rfl rfl rfl rfl) (vio_slot (pv 0) (vio_cons (ve_var (pv 2)) vio_nil))))) vss_nil)))))
    (vss_one (vs_ret (ve_fn (c_law_named.mono (by decide)) hr (by rfl) (L2N.takes_of rfl rfl rfl rfl) (vio_slot (pv 0) (vio_cons (ve_var (pv 1)) (vio_cons (ve_lk (pv 3)) vio_nil)))))))))))
/-! law_pairs -/
abbrev s_law_pairs : Stmt := topS 33
abbrev N_law_pairs : List Str := ["draws", "great", "way", "many", "pairs", "other", "one", "place"]
abbrev p_law_pairs : List Str := ["draws", "great"]
theorem sc_law_pairs : FnScope N_law_pairs p_law_pairs (defScope s_law_pairs) := ⟨rfl, rfl, rfl, by decide +kernel, rfl, by decide +kernel, by decide +kernel⟩
abbrev a_law_pairs : List Nat := ([2] ++ ((([3] ++ ([4] ++ (([5] ++ []) ++ []))) ++ []) ++ ((([3] ++ []) ++ []) ++ (([] ++ []) ++ []))))
def body_law_pairs : MS :=
    (dSeq (dSet 2 (dFn [some 0, none] F_law_take (dIO 0 (dCons (dC (.int 7)) dNil))))
    (dSeq (dIfS (dTB (d2 (gCmp cLt) (dV 2) (dC (.int 3))))
    (dSeq (dSet 3 (d2 gIx (dLst (dCons (dC (.int 2)) (dCons (dC (.int 3)) (dCons (dC (.int 4)) (dCons (dC (.int 5)) (dCons (dC (.int 6)) (dCons (dC (.int 8)) dNil))))))) (dFn [some 0, none] F_law_take (dIO 0 (dCons (d2 gAdd (dC (.int 4)) (d2 gMulA (dC (.int 2)) (dV 1))) dNil)))))
    (dSeq (dSet 4 (dLst dNil))
    (dSeq (dFor (dRange1 (dCons (dV 3) dNil)) (gNm 5)
    (dDrop (dMt 4 gExt (dCons (dLc [6] (dRange1 (dCons (dV 5) dNil)) (gNm 6) dYes (dTup (dCons (dV 6) (dCons (dV 5) dNil)))) dNil))))
    (dRet (dTup (dCons (dV 3) (dCons (dF 4) dNil))))))) dSkip)
    (dSeq (dIfS (dTB (d2 (gCmp cLt) (dV 2) (dC (.int 5))))
    (dSeq (dSet 3 (d2 gIx (dLst (dCons (dC (.int 3)) (dCons (dC (.int 5)) (dCons (dC (.int 7)) (dCons (dC (.int 9)) dNil))))) (dFn [some 0, none] F_law_take (dIO 0 (dCons (dC (.int 4)) dNil)))))
    (dRet (dTup (dCons (dV 3) (dCons (d2 gAdd (dLc [7] (dRange1 (dCons (d2 gSub (dV 3) (dC (.int 1))) dNil)) (gNm 7) dYes (dTup (dCons (dV 7) (dCons (d2 gAdd (dV 7) (dC (.int 1))) dNil)))) (dLst (dCons (dTup (dCons (dC (.int 0)) (dCons (d2 gSub (dV 3) (dC (.int 1))) dNil))) dNil))) dNil))))) dSkip)
    (dSeq (dIfS (dTB (d2 gEq (dV 2) (dC (.int 5))))
    (dRet (dTup (dCons (dC (.int 2)) (dCons (dLst (dCons (dTup (dCons (dC (.int 0)) (dCons (dC (.int 1)) dNil))) dNil)) dNil)))) dSkip)
    (dRet (dTup (dCons (dC (.int 7)) (dCons (dLst (dCons (dTup (dCons (dC (.int 0)) (dCons (dC (.int 4)) dNil))) (dCons (dTup (dCons (dC (.int 1)) (dCons (dC (.int 4)) dNil))) (dCons (dTup (dCons (dC (.int 0)) (dCons (dC (.int 5)) dNil))) (dCons (dTup (dCons (dC (.int 2)) (dCons (dC (.int 5)) dNil))) (dCons (dTup (dCons (dC (.int 0)) (dCons (dC (.int 6)) dNil))) (dCons (dTup (dCons (dC (.int 3)) (dCons (dC (.int 6)) dNil))) (dCons (dTup (dCons (dC (.int 1)) (dCons (dC (.int 2)) dNil))) (dCons (dTup (dCons (dC (.int 1)) (dCons (dC (.int 3)) dNil))) (dCons (dTup (dCons (dC (.int 2)) (dCons (dC (.int 3)) dNil))) dNil)))))))))) dNil))))))))
def F_law_pairs : FnD := fnD 8 2 a_law_pairs body_law_pairs
theorem cal_law_pairs {P : Program} {w : World} {K : PySem.W.Frag} {mg : Str → Option Value} {base : Heap} (T : Tops mg) (U : Xs K mg) (D : Def K mg "_law_pairs" s_law_pairs p_law_pairs) (c_law_take : Cal P w K mg base 1 "_law_take" p_law_take F_law_take) : Cal P w K mg base 2 "_law_pairs" p_law_pairs F_law_pairs :=
  cal_mk (k := 1) D sc_law_pairs fun f cdv A outer s H E hr =>
    (vss_cons (vs_set (i := 2) sc_law_pairs.nd rfl (by first | exact .inl rfl | exact .inr rfl) (ve_fn (c_law_take.mono (by decide)) hr (by rfl) (L2N.takes_of rfl rfl rfl rfl) (vio_slot (pv 0) (vio_cons ve_int vio_nil))))
    (vss_cons (vs_if (vt_cmp op_ltC (impCmp cLt) (ve_var (pv 2)) ve_int (nomark _)) (vss_cons (vs_set (i := 3) sc_law_pairs.nd rfl (by first | exact .inl rfl | exact .inr rfl) (ve_ix (ve_lst (va_cons ve_int (va_cons ve_int (va_cons ve_int (va_cons ve_int (va_cons ve_int (va_cons ve_int va_nil))))))) (ve_fn (c_law_take.mono (by decide)) hr (by rfl) (L2N.takes_of rfl rfl rfl rfl) (vio_slot (pv 0) (vio_cons (ve_op op_add3 impAdd ve_int (ve_op op_mulA impMulA ve_int (ve_var (pv 1)))) vio_nil)))))
    (vss_cons (vs_set (i := 4) sc_law_pairs.nd rfl (by first | exact .inl rfl | exact .inr rfl) (ve_lst va_nil))
    (vss_cons (vs_for (passes_of rfl) rfl (vi_range1 (by rfl) T.range (va_cons (ve_var (pv 3)) va_nil)) (vg_name (pg_name (i := 5) sc_law_pairs.nd rfl (by first | exact .inl rfl | exact .inr rfl)))
    (vss_one (vs_expr (ve_mt (name := "extend") PySem.F.slot_list_extend PySem.F.type_list_extend mt_extend impExt (pv 4) (va_cons (ve_lc (own := [("one", 6)]) rfl sc_law_pairs.nd (vi_range1 (by rfl) T.range (va_cons (ve_var (pv 5)) va_nil)) (blkOk_by (own := [("one", 6)]) (N := N_law_pairs) (sc := defScope s_law_pairs) (by decide +kernel)) (fun _ _ _ _ _ => (vg_name (pg_name (i := 6) sc_law_pairs.nd rfl (by first | exact .inl rfl | exact .inr rfl)))) (fun _ _ _ _ _ => vts_nil) (fun _ _ _ _ _ => (ve_tup (va_cons (ve_var (pv 6)) (va_cons (ve_var (pv 5)) va_nil))))) va_nil)))))
    (vss_one (vs_ret (ve_tup (va_cons (ve_var (pv 3)) (va_cons (ve_frz (pv 4)) va_nil)))))))) vss_nil)
    (vss_cons (vs_if (vt_cmp op_ltC (impCmp cLt) (ve_var (pv 2)) ve_int (nomark _)) (vss_cons (vs_set (i := 3) sc_law_pairs.nd rfl (by first | exact .inl rfl | exact .inr rfl) (ve_ix (ve_lst (va_cons ve_int (va_cons ve_int (va_cons ve_int (va_cons ve_int va_nil))))) (ve_fn (c_law_take.mono (by decide)) hr (by rfl) (L2N.takes_of rfl rfl rfl rfl) (vio_slot (pv 0) (vio_cons ve_int vio_nil)))))
    (vss_one (vs_ret (ve_tup (va_cons (ve_var (pv 3)) (va_cons (ve_op op_add3 impAdd (ve_lc (own := [("place", 7)]) rfl sc_law_pairs.nd (vi_range1 (by rfl) T.range (va_cons (ve_op op_sub impSub (ve_var (pv 3)) ve_int) va_nil)) (blkOk_by (own := [("place", 7)]) (N := N_law_pairs) (sc := defScope s_law_pairs) (by decide +kernel)) (fun _ _ _ _ _ => (vg_name (pg_name (i := 7) sc_law_pairs.nd rfl (by first | exact .inl rfl | exact .inr rfl)))) (fun _ _ _ _ _ => vts_nil) (fun _ _ _ _ _ => (ve_tup (va_cons (ve_var (pv 7)) (va_cons (ve_op op_add3 impAdd (ve_var (pv 7)) ve_int) va_nil))))) (ve_lst (va_cons (ve_tup (va_cons ve_int (va_cons (ve_op op_sub impSub (ve_var (pv 3)) ve_int) va_nil))) va_nil))) va_nil)))))) vss_nil)
    (vss_cons (vs_if (vt_cmp (op_eqD hr.units) impEq (ve_var (pv 2)) ve_int (nomark _)) (vss_one (vs_ret (ve_tup (va_cons ve_int (va_cons (ve_lst (va_cons (ve_tup (va_cons ve_int (va_cons ve_int va_nil))) va_nil)) va_nil))))) vss_nil)
    (vss_one (vs_ret (ve_tup (va_cons ve_int (va_cons (ve_lst (va_cons (ve_tup (va_cons ve_int (va_cons ve_int va_nil))) (va_cons (ve_tup (va_cons ve_int (va_cons ve_int va_nil))) (va_cons (ve_tup (va_cons ve_int (va_cons ve_int va_nil))) (va_cons (ve_tup (va_cons ve_int (va_cons ve_int va_nil))) (va_cons (ve_tup (va_cons ve_int (va_cons ve_int va_nil))) (va_cons (ve_tup (va_cons ve_int (va_cons ve_int va_nil))) (va_cons (ve_tup (va_cons ve_int (va_cons ve_int va_nil))) (va_cons (ve_tup (va_cons ve_int (va_cons ve_int va_nil))) (va_cons (ve_tup (va_cons ve_int (va_cons ve_int va_nil))) va_nil)))))))))) va_nil)))))))))
/-! law_lone_web -/
abbrev s_law_lone_web : Stmt := topS 34
abbrev N_law_lone_web : List Str := ["draws", "most", "turns", "many", "lengths", "k", "size", "pairs", "at", "length", "spots", "one", "other"]
abbrev p_law_lone_web : List Str := ["draws", "most", "turns"]
theorem sc_law_lone_web : FnScope N_law_lone_web p_law_lone_web (defScope s_law_lone_web) := ⟨rfl, rfl, rfl, by decide +kernel, rfl, by decide +kernel, by decide +kernel⟩
abbrev a_law_lone_web : List Nat := ([3] ++ ([4] ++ (([5] ++ ([6, 7] ++ ([8] ++ ([9] ++ (([10] ++ (([11, 12] ++ []) ++ [3])) ++ []))))) ++ [])))
def body_law_lone_web : MS :=
    (dSeq (dSet 3 (dC (.int 1)))
    (dSeq (dSet 4 (dC (.dT true [] [])))
    (dSeq (dFor (dRange1 (dCons (dV 2) dNil)) (gNm 5)
    (dSeq (dAsg (dFz (dFn [some 0, none] F_law_pairs (dIO 0 (dCons (dCallS [none] gIntOf (dCons (d2 (gCmp cGt) (dV 1) (dC (.int 12))) dNil)) dNil)))) (gSq [6, 7]))
    (dSeq (dSet 8 (dFn [some 0, none] F_law_take (dIO 0 (dCons (dV 3) dNil))))
    (dSeq (dSet 9 (dFn [some 0, none] F_law_length (dIO 0 (dCons (d2 gIx (dLst (dCons (dC (.int 0)) (dCons (dC (.int 0)) (dCons (dC (.int 1)) (dCons (dC (.int 2)) (dCons (dC (.int 3)) dNil)))))) (dFn [some 0, none] F_law_take (dIO 0 (dCons (dC (.int 5)) dNil)))) dNil))))
    (dIfS (dAndT (dTB (d2 (gCmp cLe) (d2 gSub (d2 gAdd (dV 3) (dV 6)) (dC (.int 1))) (dV 1))) (dTB (d2 (gCmp cLe) (d2 gAdd (dCallS [some 4] gLen (dIO 4 dNil)) (dCallS [none] gLen (dCons (dV 7) dNil))) (dC (.int 220)))))
    (dSeq (dSet 10 (d2 gAdd (dLst (dCons (dV 8) dNil)) (d2 lr2 (dV 3) (d2 gSub (d2 gAdd (dV 3) (dV 6)) (dC (.int 1))))))
    (dSeq (dFor (dItems (dV 7)) (gTp [11, 12])
    (dPut 4 (dTup (dCons (dAt 10 (dV 11)) (dCons (dAt 10 (dV 12)) dNil))) (dV 9)))
    (dSet 3 (d2 gSub (d2 gAdd (dV 3) (dV 6)) (dC (.int 1)))))) dSkip)))))
    (dRet (dFn [some 0, none, none] F_law_named (dIO 0 (dCons (dV 3) (dCons (dLk 4) dNil))))))))
def F_law_lone_web : FnD := fnD 13 3 a_law_lone_web body_law_lone_web
theorem cal_law_lone_web {P : Program} {w : World} {K : PySem.W.Frag} {mg : Str → Option Value} {base : Heap} (T : Tops mg) (U : Xs K mg) (D : Def K mg "_law_lone_web" s_law_lone_web p_law_lone_web) (c_law_named : Cal P w K mg base 3 "_law_named" p_law_named F_law_named) (c_law_take : Cal P w K mg base 1 "_law_take" p_law_take F_law_take) (c_law_length : Cal P w K mg base 2 "_law_length" p_law_length F_law_length) (c_law_pairs : Cal P w K mg base 2 "_law_pairs" p_law_pairs F_law_pairs) : Cal P w K mg base 4 "_law_lone_web" p_law_lone_web F_law_lone_web :=
  cal_mk (k := 3) D sc_law_lone_web fun f cdv A outer s H E hr =>
    (vss_cons (vs_set (i := 3) sc_law_lone_web.nd rfl (by first | exact .inl rfl | exact .inr rfl) ve_int)
    (vss_cons (vs_set (i := 4) sc_law_lone_web.nd rfl (by first | exact .inl rfl | exact .inr rfl) ve_dnewT)
    (vss_cons (vs_for (passes_of rfl) rfl (vi_range1 (by rfl) T.range (va_cons (ve_var (pv 2)) va_nil)) (vg_name (pg_name (i := 5) sc_law_lone_web.nd rfl (by first | exact .inl rfl | exact .inr rfl)))
    (vss_cons (vs_asg (ve_fz (ve_fn (c_law_pairs.mono (by decide)) hr (by rfl) (L2N.takes_of rfl rfl rfl rfl) (vio_slot (pv 0) (vio_cons (ve_callST call_int1 sIntOf (by rfl) T.int b_int (vio_cons (ve_cmp op_gtC (impCmp cGt) (ve_var (pv 1)) ve_int (nomark _)) vio_nil)) vio_nil)))) (vg_seq rfl (vgs_cons (pg_name (i := 6) sc_law_lone_web.nd rfl (by first | exact .inl rfl | exact .inr rfl)) (vgs_cons (pg_name (i := 7) sc_law_lone_web.nd rfl (by first | exact .inl rfl | exact .inr rfl)) vgs_nil))))
    (vss_cons (vs_set (i := 8) sc_law_lone_web.nd rfl (by first | exact .inl rfl | exact .inr rfl) (ve_fn (c_law_take.mono (by decide)) hr (by rfl) (L2N.takes_of rfl rfl rfl rfl) (vio_slot (pv 0) (vio_cons (ve_var (pv 3)) vio_nil))))
    (vss_cons (vs_set (i := 9) sc_law_lone_web.nd rfl (by first | exact .inl rfl | exact .inr rfl) (ve_fn (c_law_length.mono (by decide)) hr (by rfl) (L2N.takes_of rfl rfl rfl rfl) (vio_slot (pv 0) (vio_cons (ve_ix (ve_lst (va_cons ve_int (va_cons ve_int (va_cons ve_int (va_cons ve_int (va_cons ve_int va_nil)))))) (ve_fn (c_law_take.mono (by decide)) hr (by rfl) (L2N.takes_of rfl rfl rfl rfl) (vio_slot (pv 0) (vio_cons ve_int vio_nil)))) vio_nil))))
    (vss_one (vs_if (vt_bool (vw_and (vt_cmp op_leC (impCmp cLe) (ve_op op_sub impSub (ve_op op_add3 impAdd (ve_var (pv 3)) (ve_var (pv 6))) ve_int) (ve_var (pv 1)) (nomark _)) (vw_one (vt_cmp op_leC (impCmp cLe) (ve_op op_add3 impAdd (ve_callS call_lenA sLen (by rfl) T.len b_len (vio_slot (pv 4) vio_nil)) (ve_callS call_lenA sLen (by rfl) T.len b_len (vio_cons (ve_var (pv 7)) vio_nil))) ve_int (nomark _))))) (vss_cons (vs_set (i := 10) sc_law_lone_web.nd rfl (by first | exact .inl rfl | exact .inr rfl) (ve_op op_add3 impAdd (ve_lst (va_cons (ve_var (pv 8)) va_nil)) (ve_listR2 rfl (by rfl) T.list (by rfl) T.range (ve_var (pv 3)) (ve_op op_sub impSub (ve_op op_add3 impAdd (ve_var (pv 3)) (ve_var (pv 6))) ve_int))))
    (vss_cons (vs_for (passes_of rfl) rfl (vi_seq (ve_var (pv 7))) (vg_tup rfl (vgs_cons (pg_name (i := 11) sc_law_lone_web.nd rfl (by first | exact .inl rfl | exact .inr rfl)) (vgs_cons (pg_name (i := 12) sc_law_lone_web.nd rfl (by first | exact .inl rfl | exact .inr rfl)) vgs_nil)))
    (vss_one (vs_put (hu_of hr) (pv 4) (ve_tup (va_cons (ve_at (hu_of hr) (pv 10) (ve_var (pv 11))) (va_cons (ve_at (hu_of hr) (pv 10) (ve_var (pv 12))) va_nil))) (ve_var (pv 9)))))
    (vss_one (vs_set (i := 3) sc_law_lone_web.nd rfl (by first | exact .inl rfl | exact .inr rfl) (ve_op op_sub impSub (ve_op op_add3 impAdd (ve_var (pv 3)) (ve_var (pv 6))) ve_int))))) vss_nil))))))
    (vss_one (vs_ret (ve_fn (c_law_named.mono (by decide)) hr (by rfl) (L2N.takes_of rfl rfl rfl rfl) (vio_slot (pv 0) (vio_cons (ve_var (pv 3)) (vio_cons (ve_lk (pv 4)) vio_nil)))))))))
/-! law_other_length -/
abbrev s_law_other_length : Stmt := topS 36
abbrev N_law_other_length : List Str := ["draws", "web", "at", "one", "other", "length", "more"]
abbrev p_law_other_length : List Str := ["draws", "web"]
theorem sc_law_other_length : FnScope N_law_other_length p_law_other_length (defScope s_law_other_length) := ⟨rfl, rfl, rfl, by decide +kernel, rfl, by decide +kernel, by decide +kernel⟩
abbrev a_law_other_length : List Nat := ([2] ++ ([3, 4, 5] ++ ([6] ++ [])))
def body_law_other_length : MS :=
    (dSeq (dSet 2 (dFn [some 0, none] F_law_take (dIO 0 (dCons (dCallS [none] gLen (dCons (dAt 1 (dC (.int 1))) dNil)) dNil))))
    (dSeq (dAsg (d2 gIx (dAt 1 (dC (.int 1))) (dV 2)) (gSq [3, 4, 5]))
    (dSeq (dSet 6 (d2 gIx (dLst (dCons (d2 gAdd (dV 5) (dC (.int 1))) (dCons (dCallS [none, none] gMax (dCons (dC (.int 1)) (dCons (d2 gSub (dV 5) (dC (.int 1))) dNil))) (dCons (dC (.int 1)) (dCons (dCallS [none, none] gMin (dCons (d2 gMulA (dC (.int 2)) (dV 5)) (dCons (d2 gPow (dC (.int 10)) (dC (.int 30))) dNil))) dNil))))) (dFn [some 0, none] F_law_take (dIO 0 (dCons (dC (.int 4)) dNil)))))
    (dRet (dTup (dCons (dAt 1 (dC (.int 0))) (dCons (d2 gAdd (d2 gAdd (dSl (dAt 1 (dC (.int 1))) dNo (dEnd (dV 2))) (dTup (dCons (dTup (dCons (dV 3) (dCons (dV 4) (dCons (dCallS [none, none] gMin (dCons (dV 6) (dCons (d2 gPow (dC (.int 10)) (dC (.int 30))) dNil))) dNil)))) dNil))) (dSl (dAt 1 (dC (.int 1))) (dEnd (d2 gAdd (dV 2) (dC (.int 1)))) dNo)) dNil)))))))
def F_law_other_length : FnD := fnD 7 2 a_law_other_length body_law_other_length
theorem cal_law_other_length {P : Program} {w : World} {K : PySem.W.Frag} {mg : Str → Option Value} {base : Heap} (T : Tops mg) (U : Xs K mg) (D : Def K mg "_law_other_length" s_law_other_length p_law_other_length) (c_law_take : Cal P w K mg base 1 "_law_take" p_law_take F_law_take) : Cal P w K mg base 2 "_law_other_length" p_law_other_length F_law_other_length :=
  cal_mk (k := 1) D sc_law_other_length fun f cdv A outer s H E hr =>
    (vss_cons (vs_set (i := 2) sc_law_other_length.nd rfl (by first | exact .inl rfl | exact .inr rfl) (ve_fn (c_law_take.mono (by decide)) hr (by rfl) (L2N.takes_of rfl rfl rfl rfl) (vio_slot (pv 0) (vio_cons (ve_callS call_lenA sLen (by rfl) T.len b_len (vio_cons (ve_at (hu_of hr) (pv 1) ve_int) vio_nil)) vio_nil))))
    (vss_cons (vs_asg (ve_ix (ve_at (hu_of hr) (pv 1) ve_int) (ve_var (pv 2))) (vg_seq rfl (vgs_cons (pg_name (i := 3) sc_law_other_length.nd rfl (by first | exact .inl rfl | exact .inr rfl)) (vgs_cons (pg_name (i := 4) sc_law_other_length.nd rfl (by first | exact .inl rfl | exact .inr rfl)) (vgs_cons (pg_name (i := 5) sc_law_other_length.nd rfl (by first | exact .inl rfl | exact .inr rfl)) vgs_nil)))))
    (vss_cons (vs_set (i := 6) sc_law_other_length.nd rfl (by first | exact .inl rfl | exact .inr rfl) (ve_ix (ve_lst (va_cons (ve_op op_add3 impAdd (ve_var (pv 5)) ve_int) (va_cons (ve_callS (cr_maxA rfl hr.units) sMax (by rfl) T.max b_max (vio_cons ve_int (vio_cons (ve_op op_sub impSub (ve_var (pv 5)) ve_int) vio_nil))) (va_cons ve_int (va_cons (ve_callS (cr_minA rfl hr.units) sMin (by rfl) T.min b_min (vio_cons (ve_op op_mulA impMulA ve_int (ve_var (pv 5))) (vio_cons (ve_op op_pow impPow ve_int ve_int) vio_nil))) va_nil))))) (ve_fn (c_law_take.mono (by decide)) hr (by rfl) (L2N.takes_of rfl rfl rfl rfl) (vio_slot (pv 0) (vio_cons ve_int vio_nil)))))
    (vss_one (vs_ret (ve_tup (va_cons (ve_at (hu_of hr) (pv 1) ve_int) (va_cons (ve_op op_add3 impAdd (ve_op op_add3 impAdd (ve_slice (ve_at (hu_of hr) (pv 1) ve_int) vo_none (vo_some (ve_var (pv 2)))) (ve_tup (va_cons (ve_tup (va_cons (ve_var (pv 3)) (va_cons (ve_var (pv 4)) (va_cons (ve_callS (cr_minA rfl hr.units) sMin (by rfl) T.min b_min (vio_cons (ve_var (pv 6)) (vio_cons (ve_op op_pow impPow ve_int ve_int) vio_nil))) va_nil)))) va_nil))) (ve_slice (ve_at (hu_of hr) (pv 1) ve_int) (vo_some (ve_op op_add3 impAdd (ve_var (pv 2)) ve_int)) vo_none)) va_nil))))))))
/-! law_web -/
abbrev s_law_web : Stmt := topS 35
abbrev N_law_web : List Str := ["draws", "way", "web"]
abbrev p_law_web : List Str := ["draws"]
theorem sc_law_web : FnScope N_law_web p_law_web (defScope s_law_web) := ⟨rfl, rfl, rfl, by decide +kernel, rfl, by decide +kernel, by decide +kernel⟩
abbrev a_law_web : List Nat := ([1] ++ (([] ++ []) ++ ([2] ++ (([] ++ []) ++ []))))
def body_law_web : MS :=
    (dSeq (dSet 1 (dFn [some 0, none] F_law_take (dIO 0 (dCons (dC (.int 16)) dNil))))
    (dSeq (dIfS (dTB (d2 (gCmp cLt) (dV 1) (dC (.int 5))))
    (dRet (dFn [some 0] F_law_any_web (dIO 0 dNil))) dSkip)
    (dSeq (dSet 2 (dFn [some 0, none, none] F_law_lone_web (dIO 0 (dCons (d2 gIx (dLst (dCons (dC (.int 12)) (dCons (dC (.int 60)) dNil))) (d2 gDiv (dV 1) (dC (.int 15)))) (dCons (d2 gIx (dLst (dCons (d2 gAdd (dC (.int 1)) (dFn [some 0, none] F_law_take (dIO 0 (dCons (dC (.int 4)) dNil)))) (dCons (dC (.int 40)) dNil))) (d2 gDiv (dV 1) (dC (.int 15)))) dNil)))))
    (dSeq (dIfS (dAndT (dOrT (dAndT (dTB (d2 (gCmp cGt) (dV 1) (dC (.int 10)))) (dTB (d2 (gCmp cLt) (dV 1) (dC (.int 15))))) (dTB (d2 gEq (dFn [some 0, none] F_law_take (dIO 0 (dCons (dC (.int 4)) dNil))) (dC (.int 0))))) (dTB (d2 gNe (dAt 2 (dC (.int 1))) (dTup dNil))))
    (dRet (dFn [some 0, none] F_law_other_length (dIO 0 (dCons (dV 2) dNil)))) dSkip)
    (dRet (dV 2))))))
def F_law_web : FnD := fnD 3 1 a_law_web body_law_web
theorem cal_law_web {P : Program} {w : World} {K : PySem.W.Frag} {mg : Str → Option Value} {base : Heap} (T : Tops mg) (U : Xs K mg) (D : Def K mg "_law_web" s_law_web p_law_web) (c_law_take : Cal P w K mg base 1 "_law_take" p_law_take F_law_take) (c_law_other_length : Cal P w K mg base 2 "_law_other_length" p_law_other_length F_law_other_length) (c_law_lone_web : Cal P w K mg base 4 "_law_lone_web" p_law_lone_web F_law_lone_web) (c_law_any_web : Cal P w K mg base 4 "_law_any_web" p_law_any_web F_law_any_web) : Cal P w K mg base 5 "_law_web" p_law_web F_law_web :=
  cal_mk (k := 4) D sc_law_web fun f cdv A outer s H E hr =>
    (vss_cons (vs_set (i := 1) sc_law_web.nd rfl (by first | exact .inl rfl | exact .inr rfl) (ve_fn (c_law_take.mono (by decide)) hr (by rfl) (L2N.takes_of rfl rfl rfl rfl) (vio_slot (pv 0) (vio_cons ve_int vio_nil))))
    (vss_cons (vs_if (vt_cmp op_ltC (impCmp cLt) (ve_var (pv 1)) ve_int (nomark _)) (vss_one (vs_ret (ve_fn (c_law_any_web.mono (by decide)) hr (by rfl) (L2N.takes_of rfl rfl rfl rfl) (vio_slot (pv 0) vio_nil)))) vss_nil)
    (vss_cons (vs_set (i := 2) sc_law_web.nd rfl (by first | exact .inl rfl | exact .inr rfl) (ve_fn (c_law_lone_web.mono (by decide)) hr (by rfl) (L2N.takes_of rfl rfl rfl rfl) (vio_slot (pv 0) (vio_cons (ve_ix (ve_lst (va_cons ve_int (va_cons ve_int va_nil))) (ve_op op_fdiv impDiv (ve_var (pv 1)) ve_int)) (vio_cons (ve_ix (ve_lst (va_cons (ve_op op_add3 impAdd ve_int (ve_fn (c_law_take.mono (by decide)) hr (by rfl) (L2N.takes_of rfl rfl rfl rfl) (vio_slot (pv 0) (vio_cons ve_int vio_nil)))) (va_cons ve_int va_nil))) (ve_op op_fdiv impDiv (ve_var (pv 1)) ve_int)) vio_nil)))))
    (vss_cons (vs_if (vt_bool (vw_and (vt_bool (vw_or (vt_bool (vw_and (vt_cmp op_gtC (impCmp cGt) (ve_var (pv 1)) ve_int (nomark _)) (vw_one (vt_cmp op_ltC (impCmp cLt) (ve_var (pv 1)) ve_int (nomark _))))) (vw_or1 (vt_cmp (op_eqD hr.units) impEq (ve_fn (c_law_take.mono (by decide)) hr (by rfl) (L2N.takes_of rfl rfl rfl rfl) (vio_slot (pv 0) (vio_cons ve_int vio_nil))) ve_int (nomark _))))) (vw_one (vt_cmp (op_neD hr.units) impNe (ve_at (hu_of hr) (pv 2) ve_int) (ve_tup va_nil) (nomark _))))) (vss_one (vs_ret (ve_fn (c_law_other_length.mono (by decide)) hr (by rfl) (L2N.takes_of rfl rfl rfl rfl) (vio_slot (pv 0) (vio_cons (ve_var (pv 2)) vio_nil))))) vss_nil)
    (vss_one (vs_ret (ve_var (pv 2))))))))
/-! law_alike -/
abbrev s_law_alike : Stmt := topS 37
abbrev N_law_alike : List Str := ["found", "due", "one", "other"]
abbrev p_law_alike : List Str := ["found", "due"]
theorem sc_law_alike : FnScope N_law_alike p_law_alike (defScope s_law_alike) := ⟨rfl, rfl, rfl, by decide +kernel, rfl, by decide +kernel, by decide +kernel⟩
abbrev a_law_alike : List Nat := (((([] ++ []) ++ []) ++ []) ++ (([] ++ []) ++ []))
def body_law_alike (R : FnD) : MS :=
    (dSeq (dIfS (dTB (dIsa ["list", "tuple"] (dV 1)))
    (dSeq (dIfS (dOrT (dTB (d2 gNe (dIsa ["list"] (dV 0)) (dIsa ["list"] (dV 1)))) (dTB (d2 gNe (dIsa ["tuple"] (dV 0)) (dIsa ["tuple"] (dV 1)))))
    (dRet (dC (.bl false))) dSkip)
    (dRet (dAnd (d2 gEq (dCallS [none] gLen (dCons (dV 0) dNil)) (dCallS [none] gLen (dCons (dV 1) dNil))) (dCallS [none] gAll (dCons (dLc [2, 3] (dZip (dCons (dV 0) (dCons (dV 1) dNil))) (gTp [2, 3]) dYes (dFn [none, none] R (dCons (dV 2) (dCons (dV 3) dNil)))) dNil))))) dSkip)
    (dSeq (dIfS (dOrT (dTB (dIsa ["bool"] (dV 0))) (dTB (d2 gNe (dIsa ["int"] (dV 0)) (dIsa ["int"] (dV 1)))))
    (dRet (dC (.bl false))) dSkip)
    (dRet (d2 gEq (dV 0) (dV 1)))))
def F_law_alike : Nat → FnD
  | 0 => fun _ => none
  | n + 1 => fnD 4 2 a_law_alike (body_law_alike (F_law_alike n))
theorem cal_law_alike {P : Program} {w : World} {K : PySem.W.Frag} {mg : Str → Option Value} {base : Heap} (T : Tops mg) (U : Xs K mg) (D : Def K mg "_law_alike" s_law_alike p_law_alike)  : ∀ n, Cal P w K mg base (n + 0) "_law_alike" p_law_alike (F_law_alike n)
  | 0 => cal_none D
  | n + 1 => by
    have c_self := cal_law_alike (P := P) (w := w) (base := base) T U D  n
    have e : n + 1 + 0 = (n + 0) + 1 := by omega
    rw [e]
    exact cal_mk (k := n + 0) D sc_law_alike fun f cdv A outer s H E hr =>
    (vss_cons (vs_if (vt_val (ve_isa2 (by rfl) T.isinstance (ve_var (pv 1)) (pe_bltn (v := .ty "list") (by rfl) T.list b_list rfl) (pe_bltn (v := .ty "tuple") (by rfl) T.tuple b_tuple rfl))) (vss_cons (vs_if (vt_bool (vw_or (vt_cmp (op_neD hr.units) impNe (ve_isa (by rfl) T.isinstance (ve_var (pv 0)) (pe_bltn (v := .ty "list") (by rfl) T.list b_list rfl)) (ve_isa (by rfl) T.isinstance (ve_var (pv 1)) (pe_bltn (v := .ty "list") (by rfl) T.list b_list rfl)) (nomark _)) (vw_or1 (vt_cmp (op_neD hr.units) impNe (ve_isa (by rfl) T.isinstance (ve_var (pv 0)) (pe_bltn (v := .ty "tuple") (by rfl) T.tuple b_tuple rfl)) (ve_isa (by rfl) T.isinstance (ve_var (pv 1)) (pe_bltn (v := .ty "tuple") (by rfl) T.tuple b_tuple rfl)) (nomark _))))) (vss_one (vs_ret ve_bl)) vss_nil)
    (vss_one (vs_ret (ve_and (ve_cmp (op_eqD hr.units) impEq (ve_callS call_lenA sLen (by rfl) T.len b_len (vio_cons (ve_var (pv 0)) vio_nil)) (ve_callS call_lenA sLen (by rfl) T.len b_len (vio_cons (ve_var (pv 1)) vio_nil)) (nomark _)) (ve_one (ve_callS (cr_all rfl) sAll (by rfl) T.all b_all (vio_cons (ve_lc (own := [("one", 2), ("other", 3)]) rfl sc_law_alike.nd (vi_zip (by rfl) T.zip (va_cons (ve_var (pv 0)) (va_cons (ve_var (pv 1)) va_nil))) (blkOk_by (own := [("one", 2), ("other", 3)]) (N := N_law_alike) (sc := defScope s_law_alike) (by decide +kernel)) (fun _ _ _ _ _ => (vg_tup rfl (vgs_cons (pg_name (i := 2) sc_law_alike.nd rfl (by first | exact .inl rfl | exact .inr rfl)) (vgs_cons (pg_name (i := 3) sc_law_alike.nd rfl (by first | exact .inl rfl | exact .inr rfl)) vgs_nil)))) (fun _ _ _ _ _ => vts_nil) (fun _ _ _ _ _ => (ve_fn c_self hr (by rfl) takesF (vio_cons (ve_var (pv 2)) (vio_cons (ve_var (pv 3)) vio_nil))))) vio_nil))))))) vss_nil)
    (vss_cons (vs_if (vt_bool (vw_or (vt_val (ve_isa (by rfl) T.isinstance (ve_var (pv 0)) (pe_bltn (v := .ty "bool") (by rfl) T.bool b_bool rfl))) (vw_or1 (vt_cmp (op_neD hr.units) impNe (ve_isa (by rfl) T.isinstance (ve_var (pv 0)) (pe_bltn (v := .ty "int") (by rfl) T.int b_int rfl)) (ve_isa (by rfl) T.isinstance (ve_var (pv 1)) (pe_bltn (v := .ty "int") (by rfl) T.int b_int rfl)) (nomark _))))) (vss_one (vs_ret ve_bl)) vss_nil)
    (vss_one (vs_ret (ve_cmp (op_eqD hr.units) impEq (ve_var (pv 0)) (ve_var (pv 1)) (nomark _))))))
/-! law_class -/
abbrev s_law_class : Stmt := topS 38
abbrev N_law_class : List Str := ["e", "marks"]
abbrev p_law_class : List Str := ["e"]
theorem sc_law_class : FnScope N_law_class p_law_class (defScope s_law_class) := ⟨rfl, rfl, rfl, by decide +kernel, rfl, by decide +kernel, by decide +kernel⟩
abbrev a_law_class : List Nat := ([1] ++ (([] ++ []) ++ []))
def body_law_class (a : Addr) (c : Str) : MS :=
    (dSeq (dSet 1 (dLst (dCons (dIsx a isT c ["NoPlace"] (dV 0)) (dCons (dIsx a isT c ["NotLone"] (dV 0)) (dCons (dIsx a isT c ["Tied"] (dV 0)) (dCons (dIsx a isT c ["TooMany"] (dV 0)) (dCons (dIsx a isT c ["NoWay"] (dV 0)) (dCons (dIsx a isT c ["NotPlain"] (dV 0)) (dCons (dIsx a isT c ["NoSide"] (dV 0)) (dCons (dIsx a isT c ["BadLengths"] (dV 0)) (dCons (dIsx a isT c ["NoChoice"] (dV 0)) (dCons (dIsx a isT c ["NoTie"] (dV 0)) (dCons (dIsx a isT c ["NothingDone"] (dV 0)) (dCons (dIsx a isT c ["NoRow"] (dV 0)) (dCons (dIsx a isT c ["BadWeb"] (dV 0)) (dCons (dIsx a isT c ["NoText"] (dV 0)) (dCons (dIsx a isT c ["Apart"] (dV 0)) dNil)))))))))))))))))
    (dSeq (dIfS (dOrT (dTB (d2 gNe (dCnt1 1 (dCons (dC (.bl true)) dNil)) (dC (.int 1)))) (dNotT (dTB (dIsx a isT c ["ValueError"] (dV 0)))))
    (dRet (d1 gNeg (dC (.int 1)))) dSkip)
    (dRet (dIdx 1 (dCons (dC (.bl true)) dNil)))))
def F_law_class (a : Addr) (c : Str) : FnD := fnD 2 1 a_law_class (body_law_class a c)
theorem cal_law_class {P : Program} {w : World} {K : PySem.W.Frag} {mg : Str → Option Value} {base : Heap} (T : Tops mg) (U : Xs K mg) (D : Def K mg "_law_class" s_law_class p_law_class)  : CalX P w K mg base 1 "_law_class" p_law_class F_law_class :=
  calX_mk (k := 0) D sc_law_class fun f cdv A outer s H E a oe c ho hot hr =>
    (vss_cons (vs_set (i := 1) sc_law_class.nd rfl (by first | exact .inl rfl | exact .inr rfl) (ve_lst (va_cons (ve_isx1 List.mem_cons_self ho U.tab (by rfl) T.isinstance (ve_var (pv 0)) (ce_own U.c_NoPlace.choose_spec (by rfl))) (va_cons (ve_isx1 List.mem_cons_self ho U.tab (by rfl) T.isinstance (ve_var (pv 0)) (ce_own U.c_NotLone.choose_spec (by rfl))) (va_cons (ve_isx1 List.mem_cons_self ho U.tab (by rfl) T.isinstance (ve_var (pv 0)) (ce_own U.c_Tied.choose_spec (by rfl))) (va_cons (ve_isx1 List.mem_cons_self ho U.tab (by rfl) T.isinstance (ve_var (pv 0)) (ce_own U.c_TooMany.choose_spec (by rfl))) (va_cons (ve_isx1 List.mem_cons_self ho U.tab (by rfl) T.isinstance (ve_var (pv 0)) (ce_own U.c_NoWay.choose_spec (by rfl))) (va_cons (ve_isx1 List.mem_cons_self ho U.tab (by rfl) T.isinstance (ve_var (pv 0)) (ce_own U.c_NotPlain.choose_spec (by rfl))) (va_cons (ve_isx1 List.mem_cons_self ho U.tab (by rfl) T.isinstance (ve_var (pv 0)) (ce_own U.c_NoSide.choose_spec (by rfl))) (va_cons (ve_isx1 List.mem_cons_self ho U.tab (by rfl) T.isinstance (ve_var (pv 0)) (ce_own U.c_BadLengths.choose_spec (by rfl))) (va_cons (ve_isx1 List.mem_cons_self ho U.tab (by rfl) T.isinstance (ve_var (pv 0)) (ce_own U.c_NoChoice.choose_spec (by rfl))) (va_cons (ve_isx1 List.mem_cons_self ho U.tab (by rfl) T.isinstance (ve_var (pv 0)) (ce_own U.c_NoTie.choose_spec (by rfl))) (va_cons (ve_isx1 List.mem_cons_self ho U.tab (by rfl) T.isinstance (ve_var (pv 0)) (ce_own U.c_NothingDone.choose_spec (by rfl))) (va_cons (ve_isx1 List.mem_cons_self ho U.tab (by rfl) T.isinstance (ve_var (pv 0)) (ce_own U.c_NoRow.choose_spec (by rfl))) (va_cons (ve_isx1 List.mem_cons_self ho U.tab (by rfl) T.isinstance (ve_var (pv 0)) (ce_own U.c_BadWeb.choose_spec (by rfl))) (va_cons (ve_isx1 List.mem_cons_self ho U.tab (by rfl) T.isinstance (ve_var (pv 0)) (ce_own U.c_NoText.choose_spec (by rfl))) (va_cons (ve_isx1 List.mem_cons_self ho U.tab (by rfl) T.isinstance (ve_var (pv 0)) (ce_own U.c_Apart.choose_spec (by rfl))) va_nil)))))))))))))))))
    (vss_cons (vs_if (vt_bool (vw_or (vt_cmp (op_neD (unitsH hr)) impNe (ve_count (room65H hr) (pv 1) (va_cons ve_bl va_nil)) ve_int (nomark _)) (vw_or1 (vt_not (vt_val (ve_isx1 List.mem_cons_self ho U.tab (by rfl) T.isinstance (ve_var (pv 0)) (ce_blt T.ValueError b_ValueError (by rfl)))))))) (vss_one (vs_ret (ve_un un_neg impNeg ve_int))) vss_nil)
    (vss_one (vs_ret (ve_index (room65H hr) (pv 1) (va_cons ve_bl va_nil))))))
/-! law_untied -/
abbrev s_law_untied : Stmt := topS 39
abbrev N_law_untied : List Str := ["web", "tied", "found", "other", "tie", "one"]
abbrev p_law_untied : List Str := ["web"]
theorem sc_law_untied : FnScope N_law_untied p_law_untied (defScope s_law_untied) := ⟨rfl, rfl, rfl, by decide +kernel, rfl, by decide +kernel, by decide +kernel⟩
abbrev a_law_untied : List Nat := ([1] ++ ([2] ++ (([3] ++ []) ++ [])))
def body_law_untied : MS :=
    (dSeq (dSet 1 (dLc [4] (dItems (dAt 0 (dC (.int 1)))) (gNm 4) dYes (dSl (dV 4) dNo (dEnd (dC (.int 2))))))
    (dSeq (dSet 2 (dLst dNil))
    (dSeq (dFor (dRange1 (dCons (dAt 0 (dC (.int 0))) dNil)) (gNm 3)
    (dDrop (dMt 2 gExt (dCons (dLc [5] (dRange1 (dCons (dV 3) dNil)) (gNm 5) (dTB (dInS true 1 (dTup (dCons (dV 5) (dCons (dV 3) dNil))))) (dTup (dCons (dV 5) (dCons (dV 3) dNil)))) dNil))))
    (dRet (dM 2)))))
def F_law_untied : FnD := fnD 6 1 a_law_untied body_law_untied
theorem cal_law_untied {P : Program} {w : World} {K : PySem.W.Frag} {mg : Str → Option Value} {base : Heap} (T : Tops mg) (U : Xs K mg) (D : Def K mg "_law_untied" s_law_untied p_law_untied)  : Cal P w K mg base 1 "_law_untied" p_law_untied F_law_untied :=
  cal_mk (k := 0) D sc_law_untied fun f cdv A outer s H E hr =>
    (vss_cons (vs_set (i := 1) sc_law_untied.nd rfl (by first | exact .inl rfl | exact .inr rfl) (ve_lc (own := [("tie", 4)]) rfl sc_law_untied.nd (vi_seq (ve_at (hu_of hr) (pv 0) ve_int)) (blkOk_by (own := [("tie", 4)]) (N := N_law_untied) (sc := defScope s_law_untied) (by decide +kernel)) (fun _ _ _ _ _ => (vg_name (pg_name (i := 4) sc_law_untied.nd rfl (by first | exact .inl rfl | exact .inr rfl)))) (fun _ _ _ _ _ => vts_nil) (fun _ _ _ _ _ => (ve_slice (ve_var (pv 4)) vo_none (vo_some ve_int)))))
    (vss_cons (vs_set (i := 2) sc_law_untied.nd rfl (by first | exact .inl rfl | exact .inr rfl) (ve_lst va_nil))
    (vss_cons (vs_for (passes_of rfl) rfl (vi_range1 (by rfl) T.range (va_cons (ve_at (hu_of hr) (pv 0) ve_int) va_nil)) (vg_name (pg_name (i := 3) sc_law_untied.nd rfl (by first | exact .inl rfl | exact .inr rfl)))
    (vss_one (vs_expr (ve_mt (name := "extend") PySem.F.slot_list_extend PySem.F.type_list_extend mt_extend impExt (pv 2) (va_cons (ve_lc (own := [("one", 5)]) rfl sc_law_untied.nd (vi_range1 (by rfl) T.range (va_cons (ve_var (pv 3)) va_nil)) (blkOk_by (own := [("one", 5)]) (N := N_law_untied) (sc := defScope s_law_untied) (by decide +kernel)) (fun _ _ _ _ _ => (vg_name (pg_name (i := 5) sc_law_untied.nd rfl (by first | exact .inl rfl | exact .inr rfl)))) (fun _ _ _ _ _ => (vts_one (vt_ninL (room65 hr) (ve_tup (va_cons (ve_var (pv 5)) (va_cons (ve_var (pv 3)) va_nil))) (pv 1)))) (fun _ _ _ _ _ => (ve_tup (va_cons (ve_var (pv 5)) (va_cons (ve_var (pv 3)) va_nil))))) va_nil)))))
    (vss_one (vs_ret (ve_mov (pv 2)))))))
/-! law_with_tie -/
abbrev s_law_with_tie : Stmt := topS 40
abbrev N_law_with_tie : List Str := ["web", "one", "other", "length", "tie"]
abbrev p_law_with_tie : List Str := ["web", "one", "other", "length"]
theorem sc_law_with_tie : FnScope N_law_with_tie p_law_with_tie (defScope s_law_with_tie) := ⟨rfl, rfl, rfl, by decide +kernel, rfl, by decide +kernel, by decide +kernel⟩
abbrev a_law_with_tie : List Nat := ([4] ++ [])
def body_law_with_tie : MS :=
    (dSeq (dSet 4 (dTup (dCons (dCallS [none, none] gMin (dCons (dV 1) (dCons (dV 2) dNil))) (dCons (dCallS [none, none] gMax (dCons (dV 1) (dCons (dV 2) dNil))) (dCons (dV 3) dNil)))))
    (dRet (dTup (dCons (dAt 0 (dC (.int 0))) (dCons (dCall gTuple (dCons (dCall gSortT (dCons (d2 gAdd (dAt 0 (dC (.int 1))) (dTup (dCons (dV 4) dNil))) dNil)) dNil)) dNil)))))
def F_law_with_tie : FnD := fnD 5 4 a_law_with_tie body_law_with_tie
theorem cal_law_with_tie {P : Program} {w : World} {K : PySem.W.Frag} {mg : Str → Option Value} {base : Heap} (T : Tops mg) (U : Xs K mg) (D : Def K mg "_law_with_tie" s_law_with_tie p_law_with_tie)  : Cal P w K mg base 1 "_law_with_tie" p_law_with_tie F_law_with_tie :=
  cal_mk (k := 0) D sc_law_with_tie fun f cdv A outer s H E hr =>
    (vss_cons (vs_set (i := 4) sc_law_with_tie.nd rfl (by first | exact .inl rfl | exact .inr rfl) (ve_tup (va_cons (ve_callS (cr_minA rfl hr.units) sMin (by rfl) T.min b_min (vio_cons (ve_var (pv 1)) (vio_cons (ve_var (pv 2)) vio_nil))) (va_cons (ve_callS (cr_maxA rfl hr.units) sMax (by rfl) T.max b_max (vio_cons (ve_var (pv 1)) (vio_cons (ve_var (pv 2)) vio_nil))) (va_cons (ve_var (pv 3)) va_nil)))))
    (vss_one (vs_ret (ve_tup (va_cons (ve_at (hu_of hr) (pv 0) ve_int) (va_cons (ve_callTy call_tuple_of impTuple (by rfl) T.tuple b_tuple (va_cons (ve_callB (cr_sortT hr.units) impSortT (by rfl) T.sorted b_sorted (va_cons (ve_op op_add3 impAdd (ve_at (hu_of hr) (pv 0) ve_int) (ve_tup (va_cons (ve_var (pv 4)) va_nil))) va_nil)) va_nil)) va_nil))))))
/-! law_full_web -/
abbrev s_law_full_web : Stmt := topS 41
abbrev N_law_full_web : List Str := ["draws", "pairs", "other", "lengths", "pair", "one"]
abbrev p_law_full_web : List Str := ["draws"]
theorem sc_law_full_web : FnScope N_law_full_web p_law_full_web (defScope s_law_full_web) := ⟨rfl, rfl, rfl, by decide +kernel, rfl, by decide +kernel, by decide +kernel⟩
abbrev a_law_full_web : List Nat := ([1] ++ (([2] ++ []) ++ ([3] ++ (([4] ++ []) ++ []))))
def body_law_full_web : MS :=
    (dSeq (dSet 1 (dLst dNil))
    (dSeq (dFor (dRange1 (dCons (dC (.int 22)) dNil)) (gNm 2)
    (dDrop (dMt 1 gExt (dCons (dLc [5] (dRange1 (dCons (dV 2) dNil)) (gNm 5) (dOrT (dTB (d2 (gCmp cGt) (dV 5) (dC (.int 0)))) (dTB (d2 (gCmp cGt) (dV 2) (dC (.int 11))))) (dTup (dCons (dV 5) (dCons (dV 2) dNil)))) dNil))))
    (dSeq (dSet 3 (dC (.dT true [] [])))
    (dSeq (dFor (dItems (dF 1)) (gNm 4)
    (dPut 3 (dV 4) (d2 gAdd (dC (.int 1)) (dFn [some 0, none] F_law_take (dIO 0 (dCons (dC (.int 3)) dNil))))))
    (dRet (dFn [some 0, none, none] F_law_named (dIO 0 (dCons (dC (.int 22)) (dCons (dLk 3) dNil)))))))))
def F_law_full_web : FnD := fnD 6 1 a_law_full_web body_law_full_web
theorem cal_law_full_web {P : Program} {w : World} {K : PySem.W.Frag} {mg : Str → Option Value} {base : Heap} (T : Tops mg) (U : Xs K mg) (D : Def K mg "_law_full_web" s_law_full_web p_law_full_web) (c_law_named : Cal P w K mg base 3 "_law_named" p_law_named F_law_named) (c_law_take : Cal P w K mg base 1 "_law_take" p_law_take F_law_take) : Cal P w K mg base 4 "_law_full_web" p_law_full_web F_law_full_web :=
  cal_mk (k := 3) D sc_law_full_web fun f cdv A outer s H E hr =>
    (vss_cons (vs_set (i := 1) sc_law_full_web.nd rfl (by first | exact .inl rfl | exact .inr rfl) (ve_lst va_nil))
    (vss_cons (vs_for (passes_of rfl) rfl (vi_range1 (by rfl) T.range (va_cons ve_int va_nil)) (vg_name (pg_name (i := 2) sc_law_full_web.nd rfl (by first | exact .inl rfl | exact .inr rfl)))
    (vss_one (vs_expr (ve_mt (name := "extend") PySem.F.slot_list_extend PySem.F.type_list_extend mt_extend impExt (pv 1) (va_cons (ve_lc (own := [("one", 5)]) rfl sc_law_full_web.nd (vi_range1 (by rfl) T.range (va_cons (ve_var (pv 2)) va_nil)) (blkOk_by (own := [("one", 5)]) (N := N_law_full_web) (sc := defScope s_law_full_web) (by decide +kernel)) (fun _ _ _ _ _ => (vg_name (pg_name (i := 5) sc_law_full_web.nd rfl (by first | exact .inl rfl | exact .inr rfl)))) (fun _ _ _ _ _ => (vts_one (vt_bool (vw_or (vt_cmp op_gtC (impCmp cGt) (ve_var (pv 5)) ve_int (nomark _)) (vw_or1 (vt_cmp op_gtC (impCmp cGt) (ve_var (pv 2)) ve_int (nomark _))))))) (fun _ _ _ _ _ => (ve_tup (va_cons (ve_var (pv 5)) (va_cons (ve_var (pv 2)) va_nil))))) va_nil)))))
    (vss_cons (vs_set (i := 3) sc_law_full_web.nd rfl (by first | exact .inl rfl | exact .inr rfl) ve_dnewT)
    (vss_cons (vs_for (passes_of rfl) rfl (vi_seq (ve_frz (pv 1))) (vg_name (pg_name (i := 4) sc_law_full_web.nd rfl (by first | exact .inl rfl | exact .inr rfl)))
    (vss_one (vs_put (hu_of hr) (pv 3) (ve_var (pv 4)) (ve_op op_add3 impAdd ve_int (ve_fn (c_law_take.mono (by decide)) hr (by rfl) (L2N.takes_of rfl rfl rfl rfl) (vio_slot (pv 0) (vio_cons ve_int vio_nil)))))))
    (vss_one (vs_ret (ve_fn (c_law_named.mono (by decide)) hr (by rfl) (L2N.takes_of rfl rfl rfl rfl) (vio_slot (pv 0) (vio_cons ve_int (vio_cons (ve_lk (pv 3)) vio_nil))))))))))
/-! law_told -/
abbrev s_law_told : Stmt := topS 42
abbrev N_law_told : List Str := ["web", "one", "other", "length", "e"]
abbrev p_law_told : List Str := ["web", "one", "other", "length"]
theorem sc_law_told : FnScope N_law_told p_law_told (defScope s_law_told) := ⟨rfl, rfl, rfl, by decide +kernel, rfl, by decide +kernel, by decide +kernel⟩
abbrev a_law_told : List Nat := ([] ++ ([4] ++ []))
def body_law_told : MS :=
    (dTry 4 yes_LoneError no_LoneError
    (dRet (dFn [none, none, none, none] F_put_web (dCons (dV 0) (dCons (dV 1) (dCons (dV 2) (dCons (dV 3) dNil)))))) (fun a c => (dRet (dFn [none] (F_law_class a c) (dCons (dV 4) dNil)))))
def F_law_told : FnD := fnD 5 4 a_law_told body_law_told
theorem cal_law_told {P : Program} {w : World} {K : PySem.W.Frag} {mg : Str → Option Value} {base : Heap} (T : Tops mg) (U : Xs K mg) (D : Def K mg "_law_told" s_law_told p_law_told) (c_put_web : Cal P w K mg base 4 "put_web" p_put_web F_put_web) (c_law_class : CalX P w K mg base 1 "_law_class" p_law_class F_law_class) : Cal P w K mg base 5 "_law_told" p_law_told F_law_told :=
  cal_mk (k := 4) D sc_law_told fun f cdv A outer s H E hr =>
    (vss_one (vs_try (i := 4) rfl rfl sc_law_told.nd rfl rfl ⟨by rfl, by decide, .inl U.c_LoneError.choose_spec⟩ (L2N.takes_of rfl rfl rfl rfl) U.yes_LoneError U.no_LoneError (fun W' pn xe tk _ => (vss_one (vs_ret (ve_fn (c_put_web.mono (by decide)) hr (by rfl) tk (vio_cons (ve_var (pv 0)) (vio_cons (ve_var (pv 1)) (vio_cons (ve_var (pv 2)) (vio_cons (ve_var (pv 3)) vio_nil)))))))) (fun a oe c pn ho hot => (vss_one (vs_ret (ve_fnX c_law_class (roomS hr (by decide)) hot List.mem_cons_self ho (by rfl) takesF (vio_cons (ve_var (pv 4)) vio_nil)))))))
/-! law_due -/
abbrev s_law_due : Stmt := topS 43
abbrev N_law_due : List Str := ["web", "one", "other", "length", "tied", "tie"]
abbrev p_law_due : List Str := ["web", "one", "other", "length"]
theorem sc_law_due : FnScope N_law_due p_law_due (defScope s_law_due) := ⟨rfl, rfl, rfl, by decide +kernel, rfl, by decide +kernel, by decide +kernel⟩
abbrev a_law_due : List Nat := (([] ++ []) ++ ([4] ++ (([] ++ []) ++ (([] ++ []) ++ []))))
def body_law_due : MS :=
    (dSeq (dIfS (dOrT (dNotT (dTB (dChain (gCmp cLe) (gCmp cLt) (dC (.int 0)) (dV 1) (dAt 0 (dC (.int 0)))))) (dNotT (dTB (dChain (gCmp cLe) (gCmp cLt) (dC (.int 0)) (dV 2) (dAt 0 (dC (.int 0)))))))
    (dRet (dC (.int 0))) dSkip)
    (dSeq (dSet 4 (dLc [5] (dItems (dAt 0 (dC (.int 1)))) (gNm 5) dYes (dSl (dV 5) dNo (dEnd (dC (.int 2))))))
    (dSeq (dIfS (dOrT (dTB (d2 gEq (dV 1) (dV 2))) (dTB (dInS false 4 (dTup (dCons (dCallS [none, none] gMin (dCons (dV 1) (dCons (dV 2) dNil))) (dCons (dCallS [none, none] gMax (dCons (dV 1) (dCons (dV 2) dNil))) dNil))))))
    (dRet (dC (.int 2))) dSkip)
    (dSeq (dIfS (dTB (d2 gEq (dCallS [none] gLen (dCons (dAt 0 (dC (.int 1))) dNil)) (dC (.int 220))))
    (dRet (dC (.int 3))) dSkip)
    (dRet (dFn [none, none, none, none] F_law_with_tie (dCons (dV 0) (dCons (dV 1) (dCons (dV 2) (dCons (dV 3) dNil))))))))))
def F_law_due : FnD := fnD 6 4 a_law_due body_law_due
theorem cal_law_due {P : Program} {w : World} {K : PySem.W.Frag} {mg : Str → Option Value} {base : Heap} (T : Tops mg) (U : Xs K mg) (D : Def K mg "_law_due" s_law_due p_law_due) (c_law_with_tie : Cal P w K mg base 1 "_law_with_tie" p_law_with_tie F_law_with_tie) : Cal P w K mg base 2 "_law_due" p_law_due F_law_due :=
  cal_mk (k := 1) D sc_law_due fun f cdv A outer s H E hr =>
    (vss_cons (vs_if (vt_bool (vw_or (vt_not (vt_chain op_leC op_ltC ve_int (ve_var (pv 1)) (ve_at (hu_of hr) (pv 0) ve_int))) (vw_or1 (vt_not (vt_chain op_leC op_ltC ve_int (ve_var (pv 2)) (ve_at (hu_of hr) (pv 0) ve_int)))))) (vss_one (vs_ret ve_int)) vss_nil)
    (vss_cons (vs_setLc (i := 4) (own := [("tie", 5)]) rfl sc_law_due.nd rfl rfl (sw_true rfl rfl rfl (by decide +kernel)) (vi_seq (ve_at (hu_of hr) (pv 0) ve_int)) (blkOk_by (own := [("tie", 5)]) (N := N_law_due) (sc := defScope s_law_due) (by decide +kernel)) (fun _ _ _ _ _ => (vg_name (pg_name (i := 5) sc_law_due.nd rfl (by first | exact .inl rfl | exact .inr rfl)))) (fun _ _ _ _ _ => vts_nil) (fun _ _ _ _ _ => (ve_slice (ve_var (pv 5)) vo_none (vo_some ve_int))))
    (vss_cons (vs_if (vt_bool (vw_or (vt_cmp (op_eqD hr.units) impEq (ve_var (pv 1)) (ve_var (pv 2)) (nomark _)) (vw_or1 (vt_inL (room65 hr) (ve_tup (va_cons (ve_callS (cr_minA rfl hr.units) sMin (by rfl) T.min b_min (vio_cons (ve_var (pv 1)) (vio_cons (ve_var (pv 2)) vio_nil))) (va_cons (ve_callS (cr_maxA rfl hr.units) sMax (by rfl) T.max b_max (vio_cons (ve_var (pv 1)) (vio_cons (ve_var (pv 2)) vio_nil))) va_nil))) (pv 4))))) (vss_one (vs_ret ve_int)) vss_nil)
    (vss_cons (vs_if (vt_cmp (op_eqD hr.units) impEq (ve_callS call_lenA sLen (by rfl) T.len b_len (vio_cons (ve_at (hu_of hr) (pv 0) ve_int) vio_nil)) ve_int (nomark _)) (vss_one (vs_ret ve_int)) vss_nil)
    (vss_one (vs_ret (ve_fn (c_law_with_tie.mono (by decide)) hr (by rfl) (L2N.takes_of rfl rfl rfl rfl) (vio_cons (ve_var (pv 0)) (vio_cons (ve_var (pv 1)) (vio_cons (ve_var (pv 2)) (vio_cons (ve_var (pv 3)) vio_nil)))))))))))
/-! law -/
abbrev s_law : Stmt := topS 44
abbrev N_law : List Str := ["script", "draws", "web", "asked", "untied", "turn", "one", "other", "length"]
abbrev p_law : List Str := ["script"]
theorem sc_law : FnScope N_law p_law (defScope s_law) := ⟨rfl, rfl, rfl, by decide +kernel, rfl, by decide +kernel, by decide +kernel⟩
abbrev a_law : List Nat := ([1] ++ ([2] ++ (([2] ++ []) ++ ([3] ++ ([4] ++ (([5] ++ ([6, 7] ++ (([6, 7] ++ []) ++ []))) ++ (([6, 7] ++ ([8] ++ ([] ++ []))) ++ [])))))))
def body_law : MS :=
    (dSeq (dSet 1 (dFn [none, none] F_law_pot (dCons (dV 0) (dCons (dC (.int 5801)) dNil))))
    (dSeq (dSet 2 (dFn [some 1] F_law_web (dIO 1 dNil)))
    (dSeq (dIfS (dTB (d2 gEq (dFn [some 1, none] F_law_take (dIO 1 (dCons (dC (.int 6)) dNil))) (dC (.int 0))))
    (dSet 2 (dFn [some 1] F_law_full_web (dIO 1 dNil))) dSkip)
    (dSeq (dSet 3 (dLst dNil))
    (dSeq (dSet 4 (dFn [none] F_law_untied (dCons (dV 2) dNil)))
    (dSeq (dFor (dRange1 (dCons (dC (.int 6)) dNil)) (gNm 5)
    (dSeq (dPar 6 7 (dCons (dFn [some 1, none] F_law_take (dIO 1 (dCons (dAt 2 (dC (.int 0))) dNil))) (dCons (dFn [some 1, none] F_law_take (dIO 1 (dCons (dAt 2 (dC (.int 0))) dNil))) dNil)))
    (dSeq (dIfS (dAndT (dTB (d2 gNe (dF 4) (dLst dNil))) (dTB (d2 (gCmp cLt) (dV 5) (dC (.int 3)))))
    (dAsg (dAt 4 (dFn [some 1, none] F_law_take (dIO 1 (dCons (dCallS [some 4] gLen (dIO 4 dNil)) dNil)))) (gSq [6, 7])) dSkip)
    (dDrop (dMt 3 gExt (dCons (dLst (dCons (dTup (dCons (dV 6) (dCons (dV 7) dNil))) (dCons (dTup (dCons (dV 7) (dCons (dV 6) dNil))) (dCons (dTup (dCons (dV 6) (dCons (dAt 2 (dC (.int 0))) dNil))) (dCons (dTup (dCons (d1 gNeg (dC (.int 1))) (dCons (dV 7) dNil))) (dCons (dTup (dCons (d1 gNeg (dC (.int 1))) (dCons (d1 gNeg (dC (.int 1))) dNil))) (dCons (dTup (dCons (dV 6) (dCons (dV 6) dNil))) dNil))))))) dNil))))))
    (dSeq (dFor (dItems (dF 3)) (gTp [6, 7])
    (dSeq (dSet 8 (d2 gIx (dLst (dCons (dC (.int 1)) (dCons (d2 gPow (dC (.int 10)) (dC (.int 30))) (dCons (d2 gAdd (dC (.int 1)) (dFn [some 1, none] F_law_take (dIO 1 (dCons (dC (.int 50)) dNil)))) dNil)))) (dFn [some 1, none] F_law_take (dIO 1 (dCons (dC (.int 3)) dNil)))))
    (dIfS (dNotT (dTB (dFn [none, none] (F_law_alike 20) (dCons (dFn [none, none, none, none] F_law_told (dCons (dV 2) (dCons (dV 6) (dCons (dV 7) (dCons (dV 8) dNil))))) (dCons (dFn [none, none, none, none] F_law_due (dCons (dV 2) (dCons (dV 6) (dCons (dV 7) (dCons (dV 8) dNil))))) dNil)))))
    (dRet (dC (.bl false))) dSkip)))
    (dRet (dC (.bl true))))))))))
def F_law : FnD := fnD 9 1 a_law body_law
theorem cal_law {P : Program} {w : World} {K : PySem.W.Frag} {mg : Str → Option Value} {base : Heap} (T : Tops mg) (U : Xs K mg) {f : Addr} {fd : FuncData} (D : Fun K "law" "law" s_law f fd) (c_law_due : Cal P w K mg base 2 "_law_due" p_law_due F_law_due) (c_law_told : Cal P w K mg base 5 "_law_told" p_law_told F_law_told) (c_law_alike : Cal P w K mg base 20 "_law_alike" p_law_alike (F_law_alike 20)) (c_law_take : Cal P w K mg base 1 "_law_take" p_law_take F_law_take) (c_law_untied : Cal P w K mg base 1 "_law_untied" p_law_untied F_law_untied) (c_law_full_web : Cal P w K mg base 4 "_law_full_web" p_law_full_web F_law_full_web) (c_law_web : Cal P w K mg base 5 "_law_web" p_law_web F_law_web) (c_law_pot : Cal P w K mg base 1 "_law_pot" p_law_pot F_law_pot) : FnOk P w K mg base (L2N.CX P w) 21 f fd p_law (spOf K mg F_law) :=
  fn_ok (k := 20) D sc_law fun cdv A outer s H E hr =>
    (vss_cons (vs_set (i := 1) sc_law.nd rfl (by first | exact .inl rfl | exact .inr rfl) (ve_fn (c_law_pot.mono (by decide)) hr (by rfl) (L2N.takes_of rfl rfl rfl rfl) (vio_cons (ve_var (pv 0)) (vio_cons ve_int vio_nil))))
    (vss_cons (vs_set (i := 2) sc_law.nd rfl (by first | exact .inl rfl | exact .inr rfl) (ve_fn (c_law_web.mono (by decide)) hr (by rfl) (L2N.takes_of rfl rfl rfl rfl) (vio_slot (pv 1) vio_nil)))
    (vss_cons (vs_if (vt_cmp (op_eqD hr.units) impEq (ve_fn (c_law_take.mono (by decide)) hr (by rfl) (L2N.takes_of rfl rfl rfl rfl) (vio_slot (pv 1) (vio_cons ve_int vio_nil))) ve_int (nomark _)) (vss_one (vs_set (i := 2) sc_law.nd rfl (by first | exact .inl rfl | exact .inr rfl) (ve_fn (c_law_full_web.mono (by decide)) hr (by rfl) (L2N.takes_of rfl rfl rfl rfl) (vio_slot (pv 1) vio_nil)))) vss_nil)
    (vss_cons (vs_set (i := 3) sc_law.nd rfl (by first | exact .inl rfl | exact .inr rfl) (ve_lst va_nil))
    (vss_cons (vs_set (i := 4) sc_law.nd rfl (by first | exact .inl rfl | exact .inr rfl) (ve_fn (c_law_untied.mono (by decide)) hr (by rfl) (L2N.takes_of rfl rfl rfl rfl) (vio_cons (ve_var (pv 2)) vio_nil)))
    (vss_cons (vs_for (passes_of rfl) rfl (vi_range1 (by rfl) T.range (va_cons ve_int va_nil)) (vg_name (pg_name (i := 5) sc_law.nd rfl (by first | exact .inl rfl | exact .inr rfl)))
    (vss_cons (vs_par (i := 6) (j := 7) rfl sc_law.nd rfl rfl (by decide) rfl rfl (va_cons (ve_fn (c_law_take.mono (by decide)) hr (by rfl) (L2N.takes_of rfl rfl rfl rfl) (vio_slot (pv 1) (vio_cons (ve_at (hu_of hr) (pv 2) ve_int) vio_nil))) (va_cons (ve_fn (c_law_take.mono (by decide)) hr (by rfl) (L2N.takes_of rfl rfl rfl rfl) (vio_slot (pv 1) (vio_cons (ve_at (hu_of hr) (pv 2) ve_int) vio_nil))) va_nil)) (by rfl))
    (vss_cons (vs_if (vt_bool (vw_and (vt_cmp (op_neD hr.units) impNe (ve_frz (pv 4)) (ve_lst va_nil) (nomark _)) (vw_one (vt_cmp op_ltC (impCmp cLt) (ve_var (pv 5)) ve_int (nomark _))))) (vss_one (vs_asg (ve_at (hu_of hr) (pv 4) (ve_fn (c_law_take.mono (by decide)) hr (by rfl) (L2N.takes_of rfl rfl rfl rfl) (vio_slot (pv 1) (vio_cons (ve_callS call_lenA sLen (by rfl) T.len b_len (vio_slot (pv 4) vio_nil)) vio_nil)))) (vg_seq rfl (vgs_cons (pg_name (i := 6) sc_law.nd rfl (by first | exact .inl rfl | exact .inr rfl)) (vgs_cons (pg_name (i := 7) sc_law.nd rfl (by first | exact .inl rfl | exact .inr rfl)) vgs_nil))))) vss_nil)
    (vss_one (vs_expr (ve_mt (name := "extend") PySem.F.slot_list_extend PySem.F.type_list_extend mt_extend impExt (pv 3) (va_cons (ve_lst (va_cons (ve_tup (va_cons (ve_var (pv 6)) (va_cons (ve_var (pv 7)) va_nil))) (va_cons (ve_tup (va_cons (ve_var (pv 7)) (va_cons (ve_var (pv 6)) va_nil))) (va_cons (ve_tup (va_cons (ve_var (pv 6)) (va_cons (ve_at (hu_of hr) (pv 2) ve_int) va_nil))) (va_cons (ve_tup (va_cons (ve_un un_neg impNeg ve_int) (va_cons (ve_var (pv 7)) va_nil))) (va_cons (ve_tup (va_cons (ve_un un_neg impNeg ve_int) (va_cons (ve_un un_neg impNeg ve_int) va_nil))) (va_cons (ve_tup (va_cons (ve_var (pv 6)) (va_cons (ve_var (pv 6)) va_nil))) va_nil))))))) va_nil)))))))
    (vss_cons (vs_for (passes_of rfl) rfl (vi_seq (ve_frz (pv 3))) (vg_tup rfl (vgs_cons (pg_name (i := 6) sc_law.nd rfl (by first | exact .inl rfl | exact .inr rfl)) (vgs_cons (pg_name (i := 7) sc_law.nd rfl (by first | exact .inl rfl | exact .inr rfl)) vgs_nil)))
    (vss_cons (vs_set (i := 8) sc_law.nd rfl (by first | exact .inl rfl | exact .inr rfl) (ve_ix (ve_lst (va_cons ve_int (va_cons (ve_op op_pow impPow ve_int ve_int) (va_cons (ve_op op_add3 impAdd ve_int (ve_fn (c_law_take.mono (by decide)) hr (by rfl) (L2N.takes_of rfl rfl rfl rfl) (vio_slot (pv 1) (vio_cons ve_int vio_nil)))) va_nil)))) (ve_fn (c_law_take.mono (by decide)) hr (by rfl) (L2N.takes_of rfl rfl rfl rfl) (vio_slot (pv 1) (vio_cons ve_int vio_nil)))))
    (vss_one (vs_if (vt_not (vt_val (ve_fn (c_law_alike.mono (by decide)) hr (by rfl) (L2N.takes_of rfl rfl rfl rfl) (vio_cons (ve_fn (c_law_told.mono (by decide)) hr (by rfl) (L2N.takes_of rfl rfl rfl rfl) (vio_cons (ve_var (pv 2)) (vio_cons (ve_var (pv 6)) (vio_cons (ve_var (pv 7)) (vio_cons (ve_var (pv 8)) vio_nil))))) (vio_cons (ve_fn (c_law_due.mono (by decide)) hr (by rfl) (L2N.takes_of rfl rfl rfl rfl) (vio_cons (ve_var (pv 2)) (vio_cons (ve_var (pv 6)) (vio_cons (ve_var (pv 7)) (vio_cons (ve_var (pv 8)) vio_nil))))) vio_nil))))) (vss_one (vs_ret ve_bl)) vss_nil))))
    (vss_one (vs_ret ve_bl)))))))))
end G

set_option Elab.async false
set_option linter.all false
set_option maxRecDepth 100000
set_option maxHeartbeats 4000000
set_option autoImplicit false
/-! VW1: what a denotation comes to, by wishes. -/
noncomputable section
namespace VS
open PySem PySem.Spec L2
section
variable {α β : Type} {ρ : Env}
def W (m : Option α) (Q : α → Prop) : Prop := ∃ a, m = some a ∧ Q a
@[simp] theorem W_some {a : α} {Q : α → Prop} : W (some a) Q ↔ Q a := by
  constructor
  · rintro ⟨_, e, h⟩
    cases e
    exact h
  · exact fun h => ⟨a, rfl, h⟩
@[simp] theorem W_none {Q : α → Prop} : W none Q ↔ False := by
  constructor
  · rintro ⟨_, e, _⟩
    cases e
  · exact False.elim
@[simp] theorem W_guard {c : Prop} [Decidable c] {m : Option α} {Q : α → Prop} : W (if c then m else none) Q ↔ c ∧ W m Q := by
  by_cases h : c <;> simp [h]
theorem W_if {c : Prop} [Decidable c] {m n : Option α} {Q : α → Prop} : W (if c then m else n) Q ↔ (c → W m Q) ∧ (¬ c → W n Q) := by
  by_cases h : c <;> simp [h]
def mapQ (f : α → β) (Q : β → Prop) (a : α) : Prop := Q (f a)
@[simp] theorem mapQ_a {f : α → β} {Q : β → Prop} {a : α} : mapQ f Q a ↔ Q (f a) := .rfl
@[simp] theorem W_map {f : α → β} {m : Option α} {Q : β → Prop} : W (m.map f) Q ↔ W m (mapQ f Q) := by cases m <;> simp
def obQ (f : α → Option β) (Q : β → Prop) (a : α) : Prop := W (f a) Q
@[simp] theorem obQ_a {f : α → Option β} {Q : β → Prop} {a : α} : obQ f Q a ↔ W (f a) Q := .rfl
@[simp] theorem W_obind {f : α → Option β} {m : Option α} {Q : β → Prop} : W (m.bind f) Q ↔ W m (obQ f Q) := by cases m <;> simp
theorem W.imp {m : Option α} {Q Q' : α → Prop} (h : W m Q) (hi : ∀ a, Q a → Q' a) : W m Q' := let ⟨a, e, q⟩ := h; ⟨a, e, hi a q⟩
theorem W.eq {m : Option α} {a : α} {Q : α → Prop} (e : m = some a) (h : Q a) : W m Q := ⟨a, e, h⟩
/-- behind an expression -/
def bQ (k : α → M β) (Q : Rv β → Prop) : Rv α → Prop
  | .ok a ρ => W (k a ρ) Q
  | .ex x ρ => Q (.ex x ρ)
@[simp] theorem bQ_ok {k : α → M β} {Q : Rv β → Prop} {a : α} : bQ k Q (.ok a ρ) ↔ W (k a ρ) Q := .rfl
@[simp] theorem bQ_ex {k : α → M β} {Q : Rv β → Prop} {x : Xc} : bQ k Q (.ex x ρ) ↔ Q (.ex x ρ) := .rfl
def bS (k : α → MS) (Q : Fl × Env → Prop) : Rv α → Prop
  | .ok a ρ => W (k a ρ) Q
  | .ex x ρ => Q (.ex x, ρ)
@[simp] theorem bS_ok {k : α → MS} {Q : Fl × Env → Prop} {a : α} : bS k Q (.ok a ρ) ↔ W (k a ρ) Q := .rfl
@[simp] theorem bS_ex {k : α → MS} {Q : Fl × Env → Prop} {x : Xc} : bS k Q (.ex x ρ) ↔ Q (.ex x, ρ) := .rfl
def sQ (g : MS) (Q : Fl × Env → Prop) : Fl × Env → Prop
  | (.nx, ρ) => W (g ρ) Q
  | r => Q r
@[simp] theorem sQ_nx {g : MS} {Q : Fl × Env → Prop} : sQ g Q (.nx, ρ) ↔ W (g ρ) Q := .rfl
@[simp] theorem sQ_rt {g : MS} {Q : Fl × Env → Prop} {d : D} : sQ g Q (.rt d, ρ) ↔ Q (.rt d, ρ) := .rfl
@[simp] theorem sQ_bk {g : MS} {Q : Fl × Env → Prop} : sQ g Q (.bk, ρ) ↔ Q (.bk, ρ) := .rfl
@[simp] theorem sQ_ct {g : MS} {Q : Fl × Env → Prop} : sQ g Q (.ct, ρ) ↔ Q (.ct, ρ) := .rfl
@[simp] theorem sQ_ex {g : MS} {Q : Fl × Env → Prop} {x : Xc} : sQ g Q (.ex x, ρ) ↔ Q (.ex x, ρ) := .rfl
@[simp] theorem W_bindM {f : M α} {k : α → M β} {Q : Rv β → Prop} : W (bindM f k ρ) Q ↔ W (f ρ) (bQ k Q) := by
  unfold bindM
  cases f ρ with
  | none => simp
  | some r => cases r <;> simp
@[simp] theorem W_bindS {f : M α} {k : α → MS} {Q : Fl × Env → Prop} : W (bindS f k ρ) Q ↔ W (f ρ) (bS k Q) := by
  unfold bindS
  cases f ρ with
  | none => simp
  | some r => cases r <;> simp
@[simp] theorem W_dSeq {g g' : MS} {Q : Fl × Env → Prop} : W (dSeq g g' ρ) Q ↔ W (g ρ) (sQ g' Q) := by
  unfold dSeq
  cases g ρ with
  | none => simp
  | some r => obtain ⟨fl, ρ'⟩ := r; cases fl <;> simp
def oK (ρ : Env) (Q : Rv α → Prop) (a : α) : Prop := Q (.ok a ρ)
@[simp] theorem oK_a {Q : Rv α → Prop} {a : α} : oK ρ Q a ↔ Q (.ok a ρ) := .rfl
@[simp] theorem W_optM {o : Option α} {Q : Rv α → Prop} : W (optM o ρ) Q ↔ W o (oK ρ Q) := by
  unfold optM
  cases o <;> simp
@[simp] theorem W_retM {a : α} {Q : Rv α → Prop} : W (retM a ρ) Q ↔ Q (.ok a ρ) := W_some
@[simp] theorem W_dC {d : D} {Q : Rv D → Prop} : W (dC d ρ) Q ↔ Q (.ok d ρ) := W_some
/-- a slot that is there -/
def oQ (Q : D → Prop) : Option D → Prop
  | some d => Q d
  | none => False
@[simp] theorem oQ_some {Q : D → Prop} {d : D} : oQ Q (some d) ↔ Q d := .rfl
@[simp] theorem oQ_none {Q : D → Prop} : oQ Q none ↔ False := .rfl
@[simp] theorem W_dV {i : Nat} {Q : Rv D → Prop} : W (dV i ρ) Q ↔ oQ (fun d => fz d = true ∧ Q (.ok d ρ)) ρ[i]? := by
  unfold dV
  cases ρ[i]? <;> simp
@[simp] theorem W_dF {i : Nat} {Q : Rv D → Prop} : W (dF i ρ) Q ↔ oQ (fun d => fz (freeze d) = true ∧ Q (.ok (freeze d) (ρ.set i (freeze d)))) ρ[i]? := by
  unfold dF
  cases ρ[i]? <;> simp
@[simp] theorem W_dM {i : Nat} {Q : Rv D → Prop} : W (dM i ρ) Q ↔ oQ (fun d => nunk (some d) = true ∧ Q (.ok d (ρ.set i .unk))) ρ[i]? := by
  unfold dM
  cases ρ[i]? with
  | none => simp
  | some d => cases d <;> simp
@[simp] theorem W_d1 {g : D → Option D} {f : M D} {Q : Rv D → Prop} : W (d1 g f ρ) Q ↔ W (f ρ) (bQ (fun x => optM (g x)) Q) := W_bindM
@[simp] theorem W_d2 {g : D → D → Option D} {f h : M D} {Q : Rv D → Prop} : W (d2 g f h ρ) Q ↔ W (f ρ) (bQ (fun x => bindM h fun y => optM (g x y)) Q) := W_bindM
def tB : D → Option Bool
  | .bl b => some b
  | _ => none
@[simp] theorem tB_bl {b : Bool} : tB (.bl b) = some b := rfl
@[simp] theorem W_dTB {f : M D} {Q : Rv Bool → Prop} : W (dTB f ρ) Q ↔ W (f ρ) (bQ (fun d => optM (tB d)) Q) := by
  have : dTB f = bindM f fun d => optM (tB d) := rfl
  rw [this]
  exact W_bindM
@[simp] theorem W_dAndT {f g : M Bool} {Q : Rv Bool → Prop} : W (dAndT f g ρ) Q ↔ W (f ρ) (bQ (fun b => if b = true then g else retM false) Q) := W_bindM
@[simp] theorem W_dOrT {f g : M Bool} {Q : Rv Bool → Prop} : W (dOrT f g ρ) Q ↔ W (f ρ) (bQ (fun b => if b = true then retM true else g) Q) := W_bindM
@[simp] theorem W_dNotT {f : M Bool} {Q : Rv Bool → Prop} : W (dNotT f ρ) Q ↔ W (f ρ) (bQ (fun b => retM (!b)) Q) := W_bindM
@[simp] theorem W_dAnd {f g : M D} {Q : Rv D → Prop} : W (dAnd f g ρ) Q ↔ W (f ρ) (bQ (fun d => bindM (optM (tB d)) fun b => if b = true then g else retM (.bl false)) Q) := by
  have : dAnd f g = bindM f (fun d => bindM (optM (tB d)) fun b => if b = true then g else retM (.bl false)) := by
    rfl
  rw [this]
  exact W_bindM
@[simp] theorem W_dOr {f g : M D} {Q : Rv D → Prop} : W (dOr f g ρ) Q ↔ W (f ρ) (bQ (fun d => bindM (optM (tB d)) fun b => if b = true then retM (.bl true) else g) Q) := by
  have : dOr f g = bindM f (fun d => bindM (optM (tB d)) fun b => if b = true then retM (.bl true) else g) := by
    rfl
  rw [this]
  exact W_bindM
@[simp] theorem W_dNot {f : M D} {Q : Rv D → Prop} : W (dNot f ρ) Q ↔ W (f ρ) (bQ (fun d => optM ((tB d).map fun b => .bl (!b))) Q) := by
  have : dNot f = bindM f (fun d => optM ((tB d).map fun b => .bl (!b))) := by
    unfold dNot d1
    congr 1
    funext d
    cases d <;> rfl
  rw [this]
  exact W_bindM
@[simp] theorem W_dIf {t : M Bool} {f g : M D} {Q : Rv D → Prop} : W (dIf t f g ρ) Q ↔ W (t ρ) (bQ (fun b => if b = true then f else g) Q) := W_bindM
@[simp] theorem W_dChain {g g' : D → D → Option D} {a b c : M D} {Q : Rv D → Prop} : W (dChain g g' a b c ρ) Q ↔ W (a ρ) (bQ (fun x => bindM b fun y => bindM (optM ((g x y).bind tB)) fun k => if k = true then bindM c fun z => optM (g' y z) else retM (.bl false)) Q) := by
  have : dChain g g' a b c = bindM a (fun x => bindM b fun y => bindM (optM ((g x y).bind tB)) fun k => if k = true then bindM c fun z => optM (g' y z) else retM (.bl false)) := by
    unfold dChain
    congr 1
    funext x
    congr 1
    funext y
    cases g x y with
    | none => rfl
    | some d => cases d <;> rfl
  rw [this]
  exact W_bindM
@[simp] theorem W_dNil {Q : Rv (List D) → Prop} : W (dNil ρ) Q ↔ Q (.ok [] ρ) := W_some
@[simp] theorem W_dCons {f : M D} {g : M (List D)} {Q : Rv (List D) → Prop} : W (dCons f g ρ) Q ↔ W (f ρ) (bQ (fun d => bindM g fun ds => retM (d :: ds)) Q) := W_bindM
@[simp] theorem W_dTup {f : M (List D)} {Q : Rv D → Prop} : W (dTup f ρ) Q ↔ W (f ρ) (bQ (fun ds => optM (if ds.length ≤ sizeLine then some (.tup ds) else none)) Q) := W_bindM
@[simp] theorem W_dLst {f : M (List D)} {Q : Rv D → Prop} : W (dLst f ρ) Q ↔ W (f ρ) (bQ (fun ds => optM (if ds.length ≤ sizeLine then some (.lst true ds) else none)) Q) := W_bindM
@[simp] theorem W_dCall {g : List D → Option D} {f : M (List D)} {Q : Rv D → Prop} : W (dCall g f ρ) Q ↔ W (f ρ) (bQ (fun ds => optM (g ds)) Q) := W_bindM
@[simp] theorem W_dCallS {ks : List (Option Nat)} {g : List D → Option D} {f : M (List D)} {Q : Rv D → Prop} : W (dCallS ks g f ρ) Q ↔ W (f ρ) (bQ (fun ds ρ => (g (takeIO ks ds ρ).1).bind fun d => if isSc d = true then some (.ok d ρ) else none) Q) := by
  have : dCallS ks g f = bindM f (fun ds ρ => (g (takeIO ks ds ρ).1).bind fun d => if isSc d = true then some (.ok d ρ) else none) := by
    unfold dCallS
    congr 1
    funext ds ρ
    cases g (takeIO ks ds ρ).1 <;> rfl
  rw [this]
  exact W_bindM
/-- behind a call of a def -/
def fQ (ks : List (Option Nat)) (ρ : Env) (Q : Rv D → Prop) : Fo → Prop
  | .ok r as => Q (.ok r (giveIO ks as ρ))
  | .ex x as => Q (.ex x (giveIO ks as ρ))
@[simp] theorem fQ_ok {ks : List (Option Nat)} {Q : Rv D → Prop} {r : D} {as : List D} : fQ ks ρ Q (.ok r as) ↔ Q (.ok r (giveIO ks as ρ)) := .rfl
@[simp] theorem fQ_ex {ks : List (Option Nat)} {Q : Rv D → Prop} {x : Xc} {as : List D} : fQ ks ρ Q (.ex x as) ↔ Q (.ex x (giveIO ks as ρ)) := .rfl
def callK (ks : List (Option Nat)) (F : FnD) (ds : List D) : M D := fun ρ => match F (takeIO ks ds ρ).1 with
  | none => none
  | some (.ok r as) => some (.ok r (giveIO ks as (takeIO ks ds ρ).2))
  | some (.ex x as) => some (.ex x (giveIO ks as (takeIO ks ds ρ).2))
@[simp] theorem W_callK {ks : List (Option Nat)} {F : FnD} {ds : List D} {Q : Rv D → Prop} : W (callK ks F ds ρ) Q ↔ W (F (takeIO ks ds ρ).1) (fQ ks (takeIO ks ds ρ).2 Q) := by
  unfold callK
  cases F (takeIO ks ds ρ).1 with
  | none => simp
  | some r => cases r <;> simp
@[simp] theorem W_dFn {ks : List (Option Nat)} {F : FnD} {f : M (List D)} {Q : Rv D → Prop} : W (dFn ks F f ρ) Q ↔ W (f ρ) (bQ (callK ks F) Q) := W_bindM
@[simp] theorem W_dIO {i : Nat} {g : M (List D)} {Q : Rv (List D) → Prop} : W (dIO i g ρ) Q ↔ nunk ρ[i]? = true ∧ W (g ρ) Q := by
  rw [u_dIO]
  exact W_guard
@[simp] theorem W_dFz {f : M D} {Q : Rv D → Prop} : W (dFz f ρ) Q ↔ W (f ρ) (bQ (fun d => optM (frzO d)) Q) := W_bindM
def ixK (x y : D) : Option D := match y with
  | .int k => (seqOf x).bind fun ds => atI ds k
  | _ => none
@[simp] theorem ixK_int {x : D} {k : Int} : ixK x (.int k) = (seqOf x).bind fun ds => atI ds k := rfl
@[simp] theorem W_dAtL {i : Nat} {f : M D} {Q : Rv D → Prop} : W (dAt i f ρ) Q ↔ (isDct ρ[i]? = true → W (dGetS i f ρ) Q) ∧ (¬ isDct ρ[i]? = true → W (dIxS i f ρ) Q) := by
  unfold dAt
  exact W_if
@[simp] theorem W_dIxS {i : Nat} {f : M D} {Q : Rv D → Prop} : W (dIxS i f ρ) Q ↔ nunk ρ[i]? = true ∧ W (f ρ) (bQ (fun y ρ => (ixK (ρ.getD i .unk) y).bind fun d => if fz d = true then some (.ok d ρ) else none) Q) := by
  have : dIxS i f ρ = if nunk ρ[i]? = true then bindM f (fun y ρ => (ixK (ρ.getD i .unk) y).bind fun d => if fz d = true then some (.ok d ρ) else none) ρ else none := by
    rw [u_dIxS]
    congr 2
    funext y ρ
    cases y <;> try rfl
    rw [ixK_int]
    generalize ρ.getD i .unk = x
    simp only
    cases seqOf x with
    | none => rfl
    | some ds =>
      simp only [Option.bind_some]
      cases atI ds _ <;> rfl
  rw [this, W_guard, W_bindM]
def fzK (ρ : Env) (Q : Rv D → Prop) (d : D) : Prop := fz d = true ∧ Q (.ok d ρ)
@[simp] theorem fzK_a {Q : Rv D → Prop} {d : D} : fzK ρ Q d ↔ fz d = true ∧ Q (.ok d ρ) := .rfl
@[simp] theorem W_getS {i : Nat} {y : D} {Q : Rv D → Prop} : W (getS i y ρ) Q ↔ W (lookD (ρ.getD i .unk) y) (fzK ρ Q) := by
  unfold getS
  cases lookD (ρ.getD i .unk) y <;> simp
@[simp] theorem W_dGetS {i : Nat} {f : M D} {Q : Rv D → Prop} : W (dGetS i f ρ) Q ↔ nunk ρ[i]? = true ∧ W (f ρ) (bQ (getS i) Q) := by
  rw [u_dGetS, W_guard, W_bindM]
@[simp] theorem W_dSkip {Q : Fl × Env → Prop} : W (dSkip ρ) Q ↔ Q (.nx, ρ) := W_some
@[simp] theorem W_dBrk {Q : Fl × Env → Prop} : W (dBrk ρ) Q ↔ Q (.bk, ρ) := W_some
@[simp] theorem W_dCnt {Q : Fl × Env → Prop} : W (dCnt ρ) Q ↔ Q (.ct, ρ) := W_some
@[simp] theorem W_dRetN {Q : Fl × Env → Prop} : W (dRetN ρ) Q ↔ Q (.rt .non, ρ) := W_some
@[simp] theorem W_dNever {Q : Fl × Env → Prop} : W (dNever ρ) Q ↔ False := W_none
@[simp] theorem W_dSet {i : Nat} {f : M D} {Q : Fl × Env → Prop} : W (dSet i f ρ) Q ↔ W (f ρ) (bS (fun d ρ => some (.nx, ρ.set i d)) Q) := W_bindS
@[simp] theorem W_dRet {f : M D} {Q : Fl × Env → Prop} : W (dRet f ρ) Q ↔ W (f ρ) (bS (fun d ρ => some (.rt d, ρ)) Q) := W_bindS
@[simp] theorem W_dDrop {f : M D} {Q : Fl × Env → Prop} : W (dDrop f ρ) Q ↔ W (f ρ) (bS (fun _ ρ => some (.nx, ρ)) Q) := W_bindS
@[simp] theorem W_dAsg {f : M D} {g : D → Env → Option Env} {Q : Fl × Env → Prop} : W (dAsg f g ρ) Q ↔ W (f ρ) (bS (fun d ρ => (g d ρ).map fun ρ' => (.nx, ρ')) Q) := by
  have : dAsg f g = bindS f (fun d ρ => (g d ρ).map fun ρ' => (.nx, ρ')) := by
    unfold dAsg
    congr 1
    funext d ρ
    cases g d ρ <;> rfl
  rw [this]
  exact W_bindS
@[simp] theorem W_dIfS {t : M Bool} {a b : MS} {Q : Fl × Env → Prop} : W (dIfS t a b ρ) Q ↔ W (t ρ) (bS (fun c => if c = true then a else b) Q) := W_bindS
theorem ite_app {γ δ : Type} {c : Prop} [Decidable c] {f g : γ → δ} {x : γ} : (if c then f else g) x = if c then f x else g x := by split <;> rfl
@[simp] theorem W_gNm {i : Nat} {d : D} {Q : Env → Prop} : W (gNm i d ρ) Q ↔ Q (ρ.set i d) := W_some
@[simp] theorem u_gTp' {is : List Nat} {ds : List D} : gTp is (.tup ds) ρ = gNms is ds ρ := rfl
@[simp] theorem u_gSq' {is : List Nat} {d : D} : gSq is d ρ = (seqOf d).bind fun ds => gNms is ds ρ := by
  unfold gSq
  cases seqOf d <;> rfl
def nxQ (Q : Fl × Env → Prop) (ρ : Env) : Prop := Q (.nx, ρ)
@[simp] theorem nxQ_a {Q : Fl × Env → Prop} : nxQ Q ρ ↔ Q (.nx, ρ) := .rfl
def unpQ (is : List Nat) (ρ : Env) (Q : Fl × Env → Prop) (ds : List D) : Prop := fzL ds = true ∧ W (gNms is ds ρ) (nxQ Q)
@[simp] theorem unpQ_a {is : List Nat} {Q : Fl × Env → Prop} {ds : List D} : unpQ is ρ Q ds ↔ fzL ds = true ∧ W (gNms is ds ρ) (nxQ Q) := .rfl
@[simp] theorem W_dUnp {i : Nat} {is : List Nat} {Q : Fl × Env → Prop} : W (dUnp i is ρ) Q ↔ W (seqOf (ρ.getD i .unk)) (unpQ is ρ Q) := by
  unfold dUnp
  cases seqOf (ρ.getD i .unk) with
  | none => simp
  | some ds =>
    simp only [W_some, W_guard, unpQ_a]
    cases gNms is ds ρ <;> simp
@[simp] theorem W_dMt {i : Nat} {g : List D → List D → Option (D × List D)} {f : M (List D)} {Q : Rv D → Prop} : W (dMt i g f ρ) Q ↔ isLst ρ[i]? = true ∧ W (f ρ) (bQ (mutL i g) Q) := by
  unfold dMt
  rw [W_guard, W_bindM]
def ownL : Option D → Option (List D)
  | some (.lst true xs) => some xs
  | _ => none
@[simp] theorem ownL_lst {xs : List D} : ownL (some (.lst true xs)) = some xs := rfl
def mutR (i : Nat) (ρ : Env) (Q : Rv D → Prop) (p : D × List D) : Prop := Q (.ok p.1 (ρ.set i (.lst true p.2)))
@[simp] theorem mutR_a {i : Nat} {Q : Rv D → Prop} {d : D} {xs : List D} : mutR i ρ Q (d, xs) ↔ Q (.ok d (ρ.set i (.lst true xs))) := .rfl
def mutQ (i : Nat) (g : List D → List D → Option (D × List D)) (ds : List D) (ρ : Env) (Q : Rv D → Prop) (xs : List D) : Prop := W (g xs ds) (mutR i ρ Q)
@[simp] theorem mutQ_a {i : Nat} {g : List D → List D → Option (D × List D)} {ds : List D} {Q : Rv D → Prop} {xs : List D} : mutQ i g ds ρ Q xs ↔ W (g xs ds) (mutR i ρ Q) := .rfl
@[simp] theorem W_mutL {i : Nat} {g : List D → List D → Option (D × List D)} {ds : List D} {Q : Rv D → Prop} : W (mutL i g ds ρ) Q ↔ W (ownL ρ[i]?) (mutQ i g ds ρ Q) := by
  unfold mutL ownL
  cases ρ[i]? with
  | none => simp
  | some d =>
    cases d <;> try simp
    rename_i o xs
    cases o <;> simp
    cases g xs ds <;> simp [mutR]
def setQ (i : Nat) (ρ : Env) (Q : Fl × Env → Prop) (x : D) : Prop := Q (.nx, ρ.set i x)
@[simp] theorem setQ_a {i : Nat} {Q : Fl × Env → Prop} {x : D} : setQ i ρ Q x ↔ Q (.nx, ρ.set i x) := .rfl
@[simp] theorem W_putS {i : Nat} {d y : D} {Q : Fl × Env → Prop} : W (putS i d y ρ) Q ↔ W (VS.putAt (ρ.getD i .unk) y d) (setQ i ρ Q) := by
  unfold putS
  cases VS.putAt (ρ.getD i .unk) y d <;> simp
@[simp] theorem W_dPut {i : Nat} {fk fe : M D} {Q : Fl × Env → Prop} : W (dPut i fk fe ρ) Q ↔ W (fe ρ) (bS (fun d ρ1 => if nunk ρ1[i]? = true then bindS fk (putS i d) ρ1 else none) Q) := by
  rw [u_dPut, W_bindS]
@[simp] theorem W_dRange1 {f : M (List D)} {Q : Rv (List D) → Prop} : W (dRange1 f ρ) Q ↔ W (f ρ) (bQ (fun ds => optM (rangeD1 ds)) Q) := W_bindM
@[simp] theorem W_dRange2 {f : M (List D)} {Q : Rv (List D) → Prop} : W (dRange2 f ρ) Q ↔ W (f ρ) (bQ (fun ds => optM (rangeD2 ds)) Q) := W_bindM
@[simp] theorem W_dItems {f : M D} {Q : Rv (List D) → Prop} : W (dItems f ρ) Q ↔ W (f ρ) (bQ (fun d => optM (itemsOf d)) Q) := W_bindM
@[simp] theorem W_dSl {fa : M D} {fl fh : M (Option Int)} {Q : Rv D → Prop} : W (dSl fa fl fh ρ) Q ↔ W (fa ρ) (bQ (fun x => bindM fl fun lo => bindM fh fun hi => optM (gSlice x lo hi)) Q) := W_bindM
@[simp] theorem W_dNo {Q : Rv (Option Int) → Prop} : W (dNo ρ) Q ↔ Q (.ok none ρ) := W_some
@[simp] theorem W_dEnd {f : M D} {Q : Rv (Option Int) → Prop} : W (dEnd f ρ) Q ↔ W (f ρ) (bQ (fun d => optM ((intOf d).map some)) Q) := W_bindM
@[simp] theorem W_dIsa {ns : List String} {f : M D} {Q : Rv D → Prop} : W (dIsa ns f ρ) Q ↔ W (f ρ) (bQ (fun d => optM (gIsa ns d)) Q) := W_bindM
def enumO : List D → Option (List D)
  | [x] => (lstOf (freeze x)).bind fun xs => if fzL xs = true ∧ fz (freeze x) = true then some (enumD xs) else none
  | _ => none
@[simp] theorem enumO_1 {x : D} : enumO [x] = (lstOf (freeze x)).bind fun xs => if fzL xs = true ∧ fz (freeze x) = true then some (enumD xs) else none := rfl
@[simp] theorem W_dEnum {f : M (List D)} {Q : Rv (List D) → Prop} : W (dEnum f ρ) Q ↔ W (f ρ) (bQ (fun ds => optM (enumO ds)) Q) := by
  have : dEnum f = bindM f fun ds => optM (enumO ds) := by
    rfl
  rw [this]
  exact W_bindM
@[simp] theorem W_dZip {f : M (List D)} {Q : Rv (List D) → Prop} : W (dZip f ρ) Q ↔ W (f ρ) (bQ (fun ds => optM (zipOf ds)) Q) := W_bindM
@[simp] theorem W_inS {neg : Bool} {i : Nat} {x : D} {Q : Rv D → Prop} : W (inS neg i x ρ) Q ↔ W (gIn neg x (ρ.getD i .unk)) (oK ρ Q) := by
  unfold inS
  cases gIn neg x (ρ.getD i .unk) <;> simp
@[simp] theorem W_dInS {neg : Bool} {i : Nat} {f : M D} {Q : Rv D → Prop} : W (dInS neg i f ρ) Q ↔ W (f ρ) (bQ (inS neg i) Q) := W_bindM
def hasQ (neg : Bool) (ρ : Env) (Q : Rv D → Prop) (b : Bool) : Prop := Q (.ok (.bl (if neg = true then !b else b)) ρ)
@[simp] theorem hasQ_a {neg : Bool} {Q : Rv D → Prop} {b : Bool} : hasQ neg ρ Q b ↔ Q (.ok (.bl (if neg = true then !b else b)) ρ) := .rfl
@[simp] theorem W_hasS {neg : Bool} {i : Nat} {x : D} {Q : Rv D → Prop} : W (hasS neg i x ρ) Q ↔ W (hasD (ρ.getD i .unk) x) (hasQ neg ρ Q) := by
  unfold hasS
  cases hasD (ρ.getD i .unk) x <;> simp
@[simp] theorem W_dHasS {neg : Bool} {i : Nat} {f : M D} {Q : Rv D → Prop} : W (dHasS neg i f ρ) Q ↔ W (f ρ) (bQ (fun y ρ => if nunk ρ[i]? = true then hasS neg i y ρ else none) Q) := by
  have : dHasS neg i f = bindM f (fun y ρ => if nunk ρ[i]? = true then hasS neg i y ρ else none) := by
    unfold dHasS
    congr 1
    funext y ρ
    cases ρ[i]? with
    | none => rfl
    | some d => cases d <;> rfl
  rw [this]
  exact W_bindM
def idxK (x : D) : List D → Option D
  | [y] => idxD x y
  | _ => none
@[simp] theorem idxK_1 {x y : D} : idxK x [y] = idxD x y := rfl
@[simp] theorem W_dIdx {i : Nat} {f : M (List D)} {Q : Rv D → Prop} : W (dIdx i f ρ) Q ↔ isLst ρ[i]? = true ∧ W (f ρ) (bQ (fun ys ρ => (idxK (ρ.getD i .unk) ys).map fun d => .ok d ρ) Q) := by
  have : idxS i = fun ys ρ => (idxK (ρ.getD i .unk) ys).map fun d => Rv.ok d ρ := by
    funext ys ρ
    unfold idxS idxK
    match ys with
    | [] => rfl
    | [y] =>
      simp only
      cases idxD (ρ.getD i .unk) y <;> rfl
    | _ :: _ :: _ => rfl
  unfold dIdx
  rw [W_guard, W_bindM, this]
def cntK (x : D) : List D → Option D
  | [y] => cntD x y
  | _ => none
@[simp] theorem cntK_1 {x y : D} : cntK x [y] = cntD x y := rfl
@[simp] theorem W_dCnt1 {i : Nat} {f : M (List D)} {Q : Rv D → Prop} : W (dCnt1 i f ρ) Q ↔ isLst ρ[i]? = true ∧ W (f ρ) (bQ (fun ys ρ => (cntK (ρ.getD i .unk) ys).map fun d => .ok d ρ) Q) := by
  have : cntS i = fun ys ρ => (cntK (ρ.getD i .unk) ys).map fun d => Rv.ok d ρ := by
    funext ys ρ
    unfold cntS cntK
    match ys with
    | [] => rfl
    | [y] =>
      simp only
      cases cntD (ρ.getD i .unk) y <;> rfl
    | _ :: _ :: _ => rfl
  unfold dCnt1
  rw [W_guard, W_bindM, this]
@[simp] theorem W_dAppA {i k : Nat} {f : M (List D)} {Q : Rv D → Prop} : W (dAppA i k f ρ) Q ↔ okN i k ρ = true ∧ W (f ρ) (bQ (appA i k) Q) := by
  unfold dAppA
  rw [W_guard, W_bindM]
/-! defs -/
def eQ (n np : Nat) (asg : List Nat) (Q : Fo → Prop) : Fl × Env → Prop
  | (.nx, ρ) => ρ.length = n ∧ Q (.ok .non (outD np asg ρ))
  | (.rt d, ρ) => ρ.length = n ∧ Q (.ok d (outD np asg ρ))
  | (.ex x, ρ) => ρ.length = n ∧ Q (.ex x (outD np asg ρ))
  | _ => False
@[simp] theorem eQ_nx {n np : Nat} {asg : List Nat} {Q : Fo → Prop} : eQ n np asg Q (.nx, ρ) ↔ ρ.length = n ∧ Q (.ok .non (outD np asg ρ)) := .rfl
@[simp] theorem eQ_rt {n np : Nat} {asg : List Nat} {Q : Fo → Prop} {d : D} : eQ n np asg Q (.rt d, ρ) ↔ ρ.length = n ∧ Q (.ok d (outD np asg ρ)) := .rfl
@[simp] theorem eQ_ex {n np : Nat} {asg : List Nat} {Q : Fo → Prop} {x : Xc} : eQ n np asg Q (.ex x, ρ) ↔ ρ.length = n ∧ Q (.ex x (outD np asg ρ)) := .rfl
@[simp] theorem W_fnD {n np : Nat} {asg : List Nat} {body : MS} {as : List D} {Q : Fo → Prop} : W (fnD n np asg body as) Q ↔ (as.length = np ∧ np ≤ n) ∧ W (body (as ++ List.replicate (n - np) .unk)) (eQ n np asg Q) := by
  unfold fnD
  rw [W_guard]
  cases body (as ++ List.replicate (n - np) .unk) with
  | none => simp
  | some r => obtain ⟨fl, ρ'⟩ := r; cases fl <;> simp <;> simp [eQ]
/-! displays, pairs -/
@[simp] theorem W_dDisp {f : M (List D)} {Q : Rv D → Prop} : W (dDisp f ρ) Q ↔ W (f ρ) (bQ (fun ds => optM (if ds.length ≤ 30 then dispD ds [] [] else none)) Q) := W_bindM
@[simp] theorem disp0 {ks : List Key} {es : List D} : dispD [] ks es = some (.dK true ks es) := by rw [dispD]
@[simp] theorem disp2 {k v : D} {r : List D} {ks : List Key} {es : List D} : dispD (k :: v :: r) ks es = (keyD k).bind fun key => dispD r (putL ks es key v).1 (putL ks es key v).2 := by
  rw [dispD]
  cases keyD k <;> rfl
@[simp] theorem keyD_int {i : Int} : keyD (.int i) = some (.inl i) := rfl
@[simp] theorem keyD_str {x : Str} : keyD (.str x) = some (.inr x) := rfl
def parQ (i j : Nat) (Q : Fl × Env → Prop) : Rv (List D) → Prop
  | .ok [x, y] ρ => Q (.nx, (ρ.set i x).set j y)
  | .ok _ _ => False
  | .ex x ρ => Q (.ex x, ρ)
@[simp] theorem parQ_ok {i j : Nat} {Q : Fl × Env → Prop} {x y : D} : parQ i j Q (.ok [x, y] ρ) ↔ Q (.nx, (ρ.set i x).set j y) := .rfl
@[simp] theorem parQ_ex {i j : Nat} {Q : Fl × Env → Prop} {x : Xc} : parQ i j Q (.ex x ρ) ↔ Q (.ex x, ρ) := .rfl
@[simp] theorem W_dPar {i j : Nat} {f : M (List D)} {Q : Fl × Env → Prop} : W (dPar i j f ρ) Q ↔ W (f ρ) (parQ i j Q) := by
  unfold dPar
  rw [W_bindS]
  cases f ρ with
  | none => simp
  | some r =>
    cases r with
    | ex x ρ1 => simp
    | ok ds ρ1 =>
      match ds with
      | [] => simp [parQ]
      | [_] => simp [parQ]
      | [_, _] => simp
      | _ :: _ :: _ :: _ => simp [parQ]
@[simp] theorem u_inI {neg : Bool} {i : Int} {y : D} : gInI neg (.int i) y = (seqOf y).bind fun ds => (allI ds).map fun ns => .bl (if neg = true then !decide (i ∈ ns) else decide (i ∈ ns)) := by
  unfold gInI
  cases seqOf y with
  | none => rfl
  | some ds =>
    simp only [Option.bind_some]
    cases allI ds <;> rfl
@[simp] theorem allI_m {ns : List Int} : allI (ns.map D.int) = some ns := allI_map ns
/-! exceptions -/
@[simp] theorem W_dRaise {c : Str} {Q : Fl × Env → Prop} : W (dRaise c ρ) Q ↔ Q (.ex ⟨c, none⟩, ρ) := W_some
@[simp] theorem W_dIsx {a : Addr} {tab : Tab} {c : Str} {ts : List Str} {f : M D} {Q : Rv D → Prop} : W (dIsx a tab c ts f ρ) Q ↔ W (f ρ) (bQ (fun d => optM (isxD a tab c ts d)) Q) := W_bindM
@[simp] theorem isx_adr {a : Addr} {tab : Tab} {c : Str} {ts : List Str} : isxD a tab c ts (.adr a) = (tabAny tab c ts).map D.bl := by
  unfold isxD
  simp
def tryQ (i : Nat) (yes no : List Str) (suite : Addr → Str → MS) (Q : Fl × Env → Prop) : Fl × Env → Prop
  | (.ex x, ρ) => if x.p.isNone = true ∧ x.c ∈ yes then W (onAll i (fun a => suite a x.c) ρ) Q else x.c ∈ no ∧ Q (.ex x, ρ)
  | r => Q r
@[simp] theorem tryQ_nx {i : Nat} {yes no : List Str} {suite : Addr → Str → MS} {Q : Fl × Env → Prop} : tryQ i yes no suite Q (.nx, ρ) ↔ Q (.nx, ρ) := .rfl
@[simp] theorem tryQ_rt {i : Nat} {yes no : List Str} {suite : Addr → Str → MS} {Q : Fl × Env → Prop} {d : D} : tryQ i yes no suite Q (.rt d, ρ) ↔ Q (.rt d, ρ) := .rfl
@[simp] theorem tryQ_bk {i : Nat} {yes no : List Str} {suite : Addr → Str → MS} {Q : Fl × Env → Prop} : tryQ i yes no suite Q (.bk, ρ) ↔ Q (.bk, ρ) := .rfl
@[simp] theorem tryQ_ct {i : Nat} {yes no : List Str} {suite : Addr → Str → MS} {Q : Fl × Env → Prop} : tryQ i yes no suite Q (.ct, ρ) ↔ Q (.ct, ρ) := .rfl
@[simp] theorem tryQ_ex {i : Nat} {yes no : List Str} {suite : Addr → Str → MS} {Q : Fl × Env → Prop} {x : Xc} : tryQ i yes no suite Q (.ex x, ρ) ↔ if x.p.isNone = true ∧ x.c ∈ yes then W (onAll i (fun a => suite a x.c) ρ) Q else x.c ∈ no ∧ Q (.ex x, ρ) := .rfl
@[simp] theorem W_dTry {i : Nat} {yes no : List Str} {body : MS} {suite : Addr → Str → MS} {Q : Fl × Env → Prop} : W (dTry i yes no body suite ρ) Q ↔ W (body ρ) (tryQ i yes no suite Q) := by
  unfold dTry
  cases body ρ with
  | none => simp
  | some r =>
    obtain ⟨fl, ρ'⟩ := r
    cases fl <;> simp
    rename_i x
    by_cases h : x.p = none ∧ x.c ∈ yes
    · rw [if_pos h, if_pos h]
    · rw [if_neg h, if_neg h, W_guard]
      simp
theorem W_onAll {i : Nat} {g : Addr → MS} {r : Fl × Env} {Q : Fl × Env → Prop} (hn : notEx r.1) (h : ∀ a, W (g a (ρ.set i (.adr a))) fun r' => r'.1 = r.1 ∧ r'.2.set i .unk = r.2) (hq : Q r) : W (onAll i g ρ) Q := by
  refine ⟨r, onAll_of ⟨hn, fun a => ?_⟩, hq⟩
  obtain ⟨⟨fl, ρ2⟩, e, e1, e2⟩ := h a
  exact ⟨ρ2, by rw [e]; exact congrArg (fun z => some (z, ρ2)) e1, e2⟩
/-! loops -/
def btQ (body : MS) (Q : Fl × Env → Prop) (ρ : Env) : Prop := W (body ρ) Q
@[simp] theorem btQ_a {body : MS} {Q : Fl × Env → Prop} : btQ body Q ρ ↔ W (body ρ) Q := .rfl
def lQ (I : Env → Prop) (Q : Fl × Env → Prop) : Fl × Env → Prop
  | (.nx, ρ) => I ρ
  | (.ct, ρ) => I ρ
  | (.bk, ρ) => Q (.nx, ρ)
  | r => Q r
@[simp] theorem lQ_nx {I : Env → Prop} {Q : Fl × Env → Prop} : lQ I Q (.nx, ρ) ↔ I ρ := .rfl
@[simp] theorem lQ_ct {I : Env → Prop} {Q : Fl × Env → Prop} : lQ I Q (.ct, ρ) ↔ I ρ := .rfl
@[simp] theorem lQ_bk {I : Env → Prop} {Q : Fl × Env → Prop} : lQ I Q (.bk, ρ) ↔ Q (.nx, ρ) := .rfl
@[simp] theorem lQ_rt {I : Env → Prop} {Q : Fl × Env → Prop} {d : D} : lQ I Q (.rt d, ρ) ↔ Q (.rt d, ρ) := .rfl
@[simp] theorem lQ_ex {I : Env → Prop} {Q : Fl × Env → Prop} {x : Xc} : lQ I Q (.ex x, ρ) ↔ Q (.ex x, ρ) := .rfl
@[simp] theorem W_for0 {bt : D → Env → Option Env} {body : MS} {Q : Fl × Env → Prop} : W (forD bt body [] ρ) Q ↔ Q (.nx, ρ) := W_some
theorem W_for1 {bt : D → Env → Option Env} {body : MS} {d : D} {ds : List D} {Q : Fl × Env → Prop} : W (forD bt body (d :: ds) ρ) Q ↔ W (bt d ρ) fun ρ1 => W (body ρ1) (lQ (fun ρ2 => W (forD bt body ds ρ2) Q) Q) := by
  rw [forD]
  cases bt d ρ with
  | none => simp
  | some ρ1 =>
    simp only [W_some]
    cases body ρ1 with
    | none => simp
    | some r => obtain ⟨fl, ρ'⟩ := r; cases fl <;> simp
@[simp] theorem W_dFor {src : M (List D)} {bt : D → Env → Option Env} {body : MS} {Q : Fl × Env → Prop} : W (dFor src bt body ρ) Q ↔ W (src ρ) (bS (fun ds => forD bt body ds) Q) := W_bindS
/-- a loop over xs: an invariant by what has been gone through -/
theorem W_for {f : α → D} {bt : D → Env → Option Env} {body : MS} {Q : Fl × Env → Prop} (I : List α → Env → Prop) : ∀ (xs pre : List α) (ρ : Env), I pre ρ →
    (∀ p x post ρ, pre ++ xs = p ++ x :: post → I p ρ → W (bt (f x) ρ) fun ρ1 => W (body ρ1) (lQ (I (p ++ [x])) Q)) → (∀ ρ', I (pre ++ xs) ρ' → Q (.nx, ρ')) → W (forD bt body (xs.map f) ρ) Q
  | [], pre, ρ, h0, _, he => by
    rw [List.map_nil, W_for0]
    exact he ρ (by rw [List.append_nil]; exact h0)
  | x :: xs, pre, ρ, h0, hs, he => by
    rw [List.map_cons, W_for1]
    refine (hs pre x xs ρ rfl h0).imp fun ρ1 h1 => h1.imp fun r h2 => ?_
    obtain ⟨fl, ρ2⟩ := r
    have go : I (pre ++ [x]) ρ2 → W (forD bt body (xs.map f) ρ2) Q := fun h3 => W_for I xs (pre ++ [x]) ρ2 h3 (fun p y post ρ e hp => hs p y post ρ (by rw [← e]; simp) hp) (fun ρ' h4 => he ρ' (by rw [List.append_assoc] at h4; exact h4))
    cases fl with
    | nx => exact go h2
    | ct => exact go h2
    | bk => exact h2
    | rt d => exact h2
    | ex x => exact h2
theorem W_forL {f : α → D} {bt : D → Env → Option Env} {body : MS} {Q : Fl × Env → Prop} (I : List α → Env → Prop) {xs : List α} (h0 : I [] ρ)
    (hs : ∀ p x post ρ, xs = p ++ x :: post → I p ρ → ∀ J : Env → Prop, (∀ ρ', I (p ++ [x]) ρ' → J ρ') → W (bt (f x) ρ) (btQ body (lQ J Q))) (he : ∀ ρ', I xs ρ' → Q (.nx, ρ')) : W (forD bt body (xs.map f) ρ) Q :=
  W_for I xs [] ρ h0 (fun p x post ρ e h => hs p x post ρ e h _ fun _ h => h) he
theorem W_forN {bt : D → Env → Option Env} {body : MS} {Q : Fl × Env → Prop} {lo : Int} {n : Nat} (I : Nat → Env → Prop) (h0 : I 0 ρ)
    (hs : ∀ (k : Nat) ρ, k < n → I k ρ → ∀ J : Env → Prop, (∀ ρ', I (k + 1) ρ' → J ρ') → W (bt (.int (lo + k)) ρ) (btQ body (lQ J Q))) (he : ∀ ρ', I n ρ' → Q (.nx, ρ')) : W (forD bt body (intsD lo n) ρ) Q := by
  unfold intsD
  refine W_for (f := fun (i : Nat) => D.int (lo + i)) (fun p ρ => I p.length ρ) (List.range n) [] ρ h0 (fun p x post ρ e hp => ?_) (fun ρ' h => he ρ' (by simpa using h))
  rw [List.nil_append] at e
  have hl := congrArg List.length e
  have hx : (List.range n)[p.length]? = some x := by rw [e]; simp
  rw [List.length_range, List.length_append, List.length_cons] at hl
  rw [List.getElem?_range (by omega)] at hx
  cases hx
  rw [List.length_append, List.length_singleton]
  exact hs p.length ρ (by omega) hp _ fun _ h => h
def wQ (body : MS) (I : Env → Prop) (Q : Fl × Env → Prop) : Rv Bool → Prop
  | .ok true ρ => W (body ρ) (lQ I Q)
  | .ok false ρ => Q (.nx, ρ)
  | .ex x ρ => Q (.ex x, ρ)
@[simp] theorem wQ_ok {body : MS} {I : Env → Prop} {Q : Fl × Env → Prop} {b : Bool} : wQ body I Q (.ok b ρ) ↔ (b = true → W (body ρ) (lQ I Q)) ∧ (b = false → Q (.nx, ρ)) := by cases b <;> simp [wQ]
@[simp] theorem wQ_ex {body : MS} {I : Env → Prop} {Q : Fl × Env → Prop} {x : Xc} : wQ body I Q (.ex x ρ) ↔ Q (.ex x, ρ) := .rfl
theorem W_whileS {t : M Bool} {body : MS} {n : Nat} {Q : Fl × Env → Prop} : W (whileD t body (n + 1) ρ) Q ↔ W (t ρ) (wQ body (fun ρ2 => W (whileD t body n ρ2) Q) Q) := by
  rw [whileD]
  cases t ρ with
  | none => simp
  | some r =>
    cases r with
    | ex x ρ1 => simp
    | ok b ρ1 =>
      cases b with
      | false => simp
      | true =>
        simp only [if_true, W_some, wQ]
        cases body ρ1 with
        | none => simp
        | some r => obtain ⟨fl, ρ'⟩ := r; cases fl <;> simp
theorem lQ.imp {I I' : Env → Prop} {Q : Fl × Env → Prop} (h : ∀ ρ, I ρ → I' ρ) : ∀ r, lQ I Q r → lQ I' Q r
  | (.nx, _), q => h _ q
  | (.ct, _), q => h _ q
  | (.bk, _), q => q
  | (.rt _, _), q => q
  | (.ex _, _), q => q
/-- a while: an invariant by the turns that are left at most -/
theorem W_while {t : M Bool} {body : MS} {Q : Fl × Env → Prop} (I : Nat → Env → Prop) (hs : ∀ k ρ, I k ρ → ∀ J : Env → Prop, (∀ j ρ', j < k → I j ρ' → J ρ') → W (t ρ) (wQ body J Q)) : ∀ (n k : Nat) (ρ : Env), k < n → I k ρ → W (whileD t body n ρ) Q
  | 0, k, ρ, hk, h0 => by omega
  | n + 1, k, ρ, hk, h0 => by
    rw [W_whileS]
    refine (hs k ρ h0 (fun ρ2 => ∃ j, j < k ∧ I j ρ2) fun j ρ' hj h => ⟨j, hj, h⟩).imp fun r hr => ?_
    cases r with
    | ex x ρ1 => exact hr
    | ok b ρ1 =>
      rw [wQ_ok] at hr ⊢
      refine ⟨fun hb => (hr.1 hb).imp (lQ.imp fun ρ2 ⟨j, hj, h⟩ => ?_), hr.2⟩
      exact W_while I hs n j ρ2 (by omega) h
/-! comprehensions -/
@[simp] theorem W_dYes {Q : Rv Bool → Prop} : W (dYes ρ) Q ↔ Q (.ok true ρ) := W_some
def okQ (Q : α → Env → Prop) : Rv α → Prop
  | .ok a ρ => Q a ρ
  | .ex _ _ => False
@[simp] theorem okQ_ok {Q : α → Env → Prop} {a : α} : okQ Q (.ok a ρ) ↔ Q a ρ := .rfl
@[simp] theorem okQ_ex {Q : α → Env → Prop} {x : Xc} : okQ Q (.ex x ρ) ↔ False := .rfl
def elQ (own : List Nat) (J : List D → Env → Prop) (acc : List D) : Rv D → Prop
  | .ok y ρ => J (acc ++ [y]) (wipeD ρ own)
  | .ex _ _ => False
@[simp] theorem elQ_ok {own : List Nat} {J : List D → Env → Prop} {acc : List D} {y : D} : elQ own J acc (.ok y ρ) ↔ J (acc ++ [y]) (wipeD ρ own) := .rfl
@[simp] theorem elQ_ex {own : List Nat} {J : List D → Env → Prop} {acc : List D} {x : Xc} : elQ own J acc (.ex x ρ) ↔ False := .rfl
def ttQ (own : List Nat) (el : M D) (J : List D → Env → Prop) (acc : List D) : Rv Bool → Prop
  | .ok b ρ => if b = true then W (el ρ) (elQ own J acc) else J acc (wipeD ρ own)
  | .ex _ _ => False
@[simp] theorem ttQ_ok {own : List Nat} {el : M D} {J : List D → Env → Prop} {acc : List D} {b : Bool} : ttQ own el J acc (.ok b ρ) ↔ if b = true then W (el ρ) (elQ own J acc) else J acc (wipeD ρ own) := .rfl
@[simp] theorem ttQ_ex {own : List Nat} {el : M D} {J : List D → Env → Prop} {acc : List D} {x : Xc} : ttQ own el J acc (.ex x ρ) ↔ False := .rfl
def lcB (own : List Nat) (tt : M Bool) (el : M D) (J : List D → Env → Prop) (acc : List D) (ρ : Env) : Prop := W (tt ρ) (ttQ own el J acc)
@[simp] theorem lcB_a {own : List Nat} {tt : M Bool} {el : M D} {J : List D → Env → Prop} {acc : List D} : lcB own tt el J acc ρ ↔ W (tt ρ) (ttQ own el J acc) := .rfl
theorem elQ_k {own : List Nat} {J : List D → Env → Prop} {acc : List D} : elQ own J acc = okQ fun y ρ3 => J (acc ++ [y]) (wipeD ρ3 own) := by
  funext r
  cases r <;> rfl
theorem ttQ_k {own : List Nat} {el : M D} {J : List D → Env → Prop} {acc : List D} : ttQ own el J acc = okQ fun b ρ2 => if b = true then W (el ρ2) (okQ fun y ρ3 => J (acc ++ [y]) (wipeD ρ3 own)) else J acc (wipeD ρ2 own) := by
  funext r
  cases r
  · rw [ttQ, elQ_k]; rfl
  · rfl
theorem W_lc1 {own : List Nat} {bt : D → Env → Option Env} {tt : M Bool} {el : M D} {d : D} {ds acc : List D} {Q : List D × Env → Prop} : W (lcD own bt tt el (d :: ds) acc ρ) Q ↔ W (bt d ρ) fun ρ1 => W (tt ρ1) (okQ fun b ρ2 => if b = true then W (el ρ2) (okQ fun y ρ3 => acc.length < sizeLine ∧ W (lcD own bt tt el ds (acc ++ [y]) (wipeD ρ3 own)) Q) else W (lcD own bt tt el ds acc (wipeD ρ2 own)) Q) := by
  rw [lcD]
  cases bt d ρ with
  | none => simp
  | some ρ1 =>
    simp only [W_some]
    cases tt ρ1 with
    | none => simp
    | some r =>
      cases r with
      | ex x ρ2 => simp
      | ok b ρ2 =>
        simp only [W_some, okQ_ok]
        by_cases hb : b = true
        · simp only [hb, if_true]
          cases el ρ2 with
          | none => simp
          | some r => cases r <;> simp
        · simp only [hb, if_false]; simp
def lcK (own : List Nat) (bt : D → Env → Option Env) (tt : M Bool) (el : M D) (ds : List D) : M D := fun ρ => (lcD own bt tt el ds [] (wipeD ρ own)).map fun p => .ok (.lst true p.1) (wipeD p.2 own)
def lcQ (own : List Nat) (Q : Rv D → Prop) (p : List D × Env) : Prop := Q (.ok (.lst true p.1) (wipeD p.2 own))
@[simp] theorem lcQ_a {own : List Nat} {Q : Rv D → Prop} {acc : List D} : lcQ own Q (acc, ρ) ↔ Q (.ok (.lst true acc) (wipeD ρ own)) := .rfl
@[simp] theorem W_lcK {own : List Nat} {bt : D → Env → Option Env} {tt : M Bool} {el : M D} {ds : List D} {Q : Rv D → Prop} : W (lcK own bt tt el ds ρ) Q ↔ W (lcD own bt tt el ds [] (wipeD ρ own)) (lcQ own Q) := by
  unfold lcK
  rw [W_map]
  exact .rfl
@[simp] theorem W_dLc {own : List Nat} {src : M (List D)} {bt : D → Env → Option Env} {tt : M Bool} {el : M D} {Q : Rv D → Prop} : W (dLc own src bt tt el ρ) Q ↔ W (src ρ) (bQ (lcK own bt tt el) Q) := by
  have : dLc own src bt tt el = bindM src (lcK own bt tt el) := by
    unfold dLc
    congr 1
    funext ds ρ
    unfold lcK
    cases lcD own bt tt el ds [] (wipeD ρ own) <;> rfl
  rw [this]
  exact W_bindM
/-- a comprehension over xs: an invariant by what has been gone through and what has been made -/
theorem W_lc {f : α → D} {own : List Nat} {bt : D → Env → Option Env} {tt : M Bool} {el : M D} {Q : List D × Env → Prop} (I : List α → List D → Env → Prop) : ∀ (xs pre : List α) (acc : List D) (ρ : Env), I pre acc ρ → acc.length + xs.length ≤ sizeLine →
    (∀ p x post acc ρ, pre ++ xs = p ++ x :: post → I p acc ρ → W (bt (f x) ρ) fun ρ1 => W (tt ρ1) (okQ fun b ρ2 => if b = true then W (el ρ2) (okQ fun y ρ3 => I (p ++ [x]) (acc ++ [y]) (wipeD ρ3 own)) else I (p ++ [x]) acc (wipeD ρ2 own))) →
    (∀ acc ρ', I (pre ++ xs) acc ρ' → Q (acc, ρ')) → W (lcD own bt tt el (xs.map f) acc ρ) Q
  | [], pre, acc, ρ, h0, _, _, he => by
    rw [List.map_nil, lcD, W_some]
    exact he acc ρ (by rw [List.append_nil]; exact h0)
  | x :: xs, pre, acc, ρ, h0, hz, hs, he => by
    rw [List.map_cons, W_lc1]
    refine (hs pre x xs acc ρ rfl h0).imp fun ρ1 h1 => h1.imp fun r h2 => ?_
    cases r with
    | ex x ρ2 => exact h2
    | ok b ρ2 =>
      rw [okQ_ok] at h2 ⊢
      have go : ∀ acc' ρ', acc'.length ≤ acc.length + 1 → I (pre ++ [x]) acc' ρ' → W (lcD own bt tt el (xs.map f) acc' ρ') Q := fun acc' ρ' hl h3 => W_lc I xs (pre ++ [x]) acc' ρ' h3 (by rw [List.length_cons] at hz; omega) (fun p y post acc ρ e hp => hs p y post acc ρ (by rw [← e]; simp) hp) (fun acc ρ' h4 => he acc ρ' (by rw [List.append_assoc] at h4; exact h4))
      by_cases hb : b = true
      · rw [if_pos hb] at h2 ⊢
        refine h2.imp fun r h3 => ?_
        cases r with
        | ex x ρ2 => exact h3
        | ok y ρ3 =>
          rw [okQ_ok] at h3 ⊢
          rw [List.length_cons] at hz
          exact ⟨by omega, go _ _ (by simp) h3⟩
      · rw [if_neg hb] at h2 ⊢
        exact go _ _ (by omega) h2
theorem W_lcL {f : α → D} {own : List Nat} {bt : D → Env → Option Env} {tt : M Bool} {el : M D} {Q : List D × Env → Prop} (I : List α → List D → Env → Prop) {xs : List α} (h0 : I [] [] ρ) (hz : xs.length ≤ sizeLine)
    (hs : ∀ p x post acc ρ, xs = p ++ x :: post → I p acc ρ → ∀ J : List D → Env → Prop, (∀ acc' ρ', I (p ++ [x]) acc' ρ' → J acc' ρ') → W (bt (f x) ρ) (lcB own tt el J acc))
    (he : ∀ acc ρ', I xs acc ρ' → Q (acc, ρ')) : W (lcD own bt tt el (xs.map f) [] ρ) Q :=
  W_lc I xs [] [] ρ h0 (by simpa using hz) (fun p x post acc ρ e h => by
    refine (hs p x post acc ρ e h _ fun _ _ h => h).imp fun ρ1 h1 => ?_
    rw [lcB, ttQ_k] at h1
    exact h1) he
theorem W_lcN {own : List Nat} {bt : D → Env → Option Env} {el : M D} {Q : List D × Env → Prop} {lo : Int} {n : Nat} (I : Nat → List D → Env → Prop) (h0 : I 0 [] ρ) (hz : n ≤ sizeLine)
    (hs : ∀ (k : Nat) acc ρ, k < n → I k acc ρ → ∀ J : List D → Env → Prop, (∀ acc' ρ', I (k + 1) acc' ρ' → J acc' ρ') → W (bt (.int (lo + k)) ρ) (lcB own dYes el J acc))
    (he : ∀ acc ρ', I n acc ρ' → Q (acc, ρ')) : W (lcD own bt dYes el (intsD lo n) [] ρ) Q := by
  unfold intsD
  refine W_lcL (f := fun (i : Nat) => D.int (lo + i)) (fun p acc ρ => I p.length acc ρ) h0 (by simpa using hz) (fun p x post acc ρ e hp J hJ => ?_) (fun acc ρ' h => he acc ρ' (by simpa using h))
  have hl := congrArg List.length e
  have hx : (List.range n)[p.length]? = some x := by rw [e]; simp
  rw [List.length_range, List.length_append, List.length_cons] at hl
  rw [List.getElem?_range (by omega)] at hx
  cases hx
  rw [List.length_append, List.length_singleton] at hJ
  exact hs p.length acc ρ (by omega) hp J hJ
/-- a comprehension that changes nothing: a map of those that are kept -/
theorem W_lcMap {f : α → D} {own : List Nat} {bt : D → Env → Option Env} {tt : M Bool} {el : M D} {Q : List D × Env → Prop} (c : α → Bool) (y : α → D) {xs : List α} (hz : xs.length ≤ sizeLine)
    (hs : ∀ x ∈ xs, ∀ J : List D → Env → Prop, ∀ acc, (c x = true → J (acc ++ [y x]) ρ) → (c x = false → J acc ρ) → W (bt (f x) ρ) (lcB own tt el J acc))
    (he : Q ((xs.filter c).map y, ρ)) : W (lcD own bt tt el (xs.map f) [] ρ) Q := by
  refine W_lcL (fun p acc ρ' => ρ' = ρ ∧ acc = (p.filter c).map y) ⟨rfl, rfl⟩ hz (fun p x post acc ρ' e hp J hJ => ?_) (fun acc ρ' h => ?_)
  · obtain ⟨rfl, rfl⟩ := hp
    have hx : x ∈ xs := by rw [e]; simp
    refine hs x hx J _ (fun hc => hJ _ _ ⟨rfl, ?_⟩) (fun hc => hJ _ _ ⟨rfl, ?_⟩)
    · simp [List.filter_append, hc]
    · simp [List.filter_append, hc]
  · obtain ⟨rfl, rfl⟩ := h
    exact he
theorem W_lcAll {f : α → D} {own : List Nat} {bt : D → Env → Option Env} {el : M D} {Q : List D × Env → Prop} (y : α → D) {xs : List α} (hz : xs.length ≤ sizeLine)
    (hs : ∀ x ∈ xs, ∀ J : List D → Env → Prop, ∀ acc, J (acc ++ [y x]) ρ → W (bt (f x) ρ) (lcB own dYes el J acc))
    (he : Q (xs.map y, ρ)) : W (lcD own bt dYes el (xs.map f) [] ρ) Q := by
  refine W_lcMap (fun _ => true) y hz (fun x hx J acc h1 _ => hs x hx J acc (h1 rfl)) (by rw [List.filter_eq_self.mpr (fun _ _ => rfl)]; exact he)
/-! lists of data -/
@[simp] theorem all_yes {l : List α} : (l.all fun _ => true) = true := by rw [List.all_eq_true]; exact fun _ _ => rfl
theorem snoc_ind {P : List α → Prop} (h0 : P []) (hs : ∀ p x, P p → P (p ++ [x])) (l : List α) : P l := by
  have : ∀ m : List α, P m.reverse := by
    intro m
    induction m with
    | nil => exact h0
    | cons a m ih => rw [List.reverse_cons]; exact hs _ _ ih
  have h := this l.reverse
  rw [List.reverse_reverse] at h
  exact h
@[simp] theorem u_fzLmap {f : α → D} {xs : List α} (h : ∀ x, fz (f x) = true) : fzL (xs.map f) = true := by rw [fzL_all]; simp [h]
@[simp] theorem u_frLmap {f : α → D} {xs : List α} (h : ∀ x, fz (f x) = true) : freezeL (xs.map f) = xs.map f := freezeL_fz _ (u_fzLmap h)
@[simp] theorem fzL_app {xs ys : List D} : fzL (xs ++ ys) = (fzL xs && fzL ys) := by rw [fzL_all, fzL_all, fzL_all, List.all_append]
@[simp] theorem frL_app {xs ys : List D} : freezeL (xs ++ ys) = freezeL xs ++ freezeL ys := by rw [freezeL_map, freezeL_map, freezeL_map, List.map_append]
theorem atI_map {f : α → D} {xs : List α} {i : Int} {x : α} (h0 : 0 ≤ i) (h : xs[i.toNat]? = some x) : atI (xs.map f) i = some (f x) := atI_lt h0 (by simp [h])
theorem W_at {f : α → D} {xs : List α} {i : Int} {Q : D → Prop} (h0 : 0 ≤ i) (h1 : i < xs.length) (h : ∀ x, xs[i.toNat]? = some x → Q (f x)) : W (atI (xs.map f) i) Q := by
  have hl : i.toNat < xs.length := by omega
  exact ⟨_, atI_map h0 (List.getElem?_eq_getElem hl), h _ (List.getElem?_eq_getElem hl)⟩
end
end VS

set_option Elab.async false
set_option linter.all false
set_option maxRecDepth 100000
set_option maxHeartbeats 4000000
set_option autoImplicit false
/-! VW2: data: rows, webs, equality, membership, sorting, kinds. -/
noncomputable section
namespace VS
open PySem PySem.Spec L2
section
variable {α β : Type} {ρ : Env}
/-! rows -/
def rD (r : R3) : D := .tup [.int r.1, .int r.2.1, .int r.2.2]
def pD (p : Int × Int) : D := .tup [.int p.1, .int p.2]
def webD (many : Int) (rows : List R3) : D := .tup [.int many, .tup (rows.map rD)]
@[simp] theorem fz_rD {r : R3} : fz (rD r) = true := by simp [rD]
@[simp] theorem fz_pD {r : Int × Int} : fz (pD r) = true := by simp [pD]
@[simp] theorem fz_webD {m : Int} {rows : List R3} : fz (webD m rows) = true := by simp [webD]
@[simp] theorem fr_rD {r : R3} : freeze (rD r) = rD r := freeze_fz _ fz_rD
@[simp] theorem fr_pD {r : Int × Int} : freeze (pD r) = pD r := freeze_fz _ fz_pD
@[simp] theorem fr_webD {m : Int} {rows : List R3} : freeze (webD m rows) = webD m rows := freeze_fz _ fz_webD
@[simp] theorem nu_rD {r : R3} : nunk (some (rD r)) = true := rfl
@[simp] theorem nu_pD {r : Int × Int} : nunk (some (pD r)) = true := rfl
@[simp] theorem nu_webD {m : Int} {rows : List R3} : nunk (some (webD m rows)) = true := rfl
@[simp] theorem dct_rD {r : R3} : isDct (some (rD r)) = false := rfl
@[simp] theorem dct_pD {r : Int × Int} : isDct (some (pD r)) = false := rfl
@[simp] theorem dct_webD {m : Int} {rows : List R3} : isDct (some (webD m rows)) = false := rfl
@[simp] theorem dct_int {i : Int} : isDct (some (.int i)) = false := rfl
@[simp] theorem seq_rD {r : R3} : seqOf (rD r) = some [.int r.1, .int r.2.1, .int r.2.2] := rfl
@[simp] theorem seq_pD {r : Int × Int} : seqOf (pD r) = some [.int r.1, .int r.2] := rfl
@[simp] theorem seq_webD {m : Int} {rows : List R3} : seqOf (webD m rows) = some [.int m, .tup (rows.map rD)] := rfl
@[simp] theorem len_rD {r : R3} : lenD (rD r) = some 3 := rfl
@[simp] theorem len_pD {r : Int × Int} : lenD (pD r) = some 2 := rfl
@[simp] theorem gTp_rD {is : List Nat} {r : R3} : gTp is (rD r) ρ = gNms is [.int r.1, .int r.2.1, .int r.2.2] ρ := rfl
@[simp] theorem gTp_pD {is : List Nat} {r : Int × Int} : gTp is (pD r) ρ = gNms is [.int r.1, .int r.2] ρ := rfl
theorem rD_def {a b c : Int} : D.tup [.int a, .int b, .int c] = rD (a, b, c) := rfl
theorem pD_def {a b : Int} : D.tup [.int a, .int b] = pD (a, b) := rfl
theorem rD_tI : rD = fun r => tI (r3 r) := by funext r; rfl
theorem pD_tI : pD = fun r => tI (p2 r) := by funext r; rfl
theorem rD_inj {r s : R3} : rD r = rD s ↔ r = s := by
  constructor
  · intro h
    simp [rD] at h
    exact Prod.ext h.1 (Prod.ext h.2.1 h.2.2)
  · rintro rfl; rfl
theorem pD_inj {r s : Int × Int} : pD r = pD s ↔ r = s := by
  constructor
  · intro h
    simp [pD] at h
    exact Prod.ext h.1 h.2
  · rintro rfl; rfl
theorem map_inj {f : α → D} (h : ∀ x y, f x = f y → x = y) : ∀ {xs ys : List α}, xs.map f = ys.map f ↔ xs = ys
  | [], [] => by simp
  | [], _ :: _ => by simp
  | _ :: _, [] => by simp
  | x :: xs, y :: ys => by
    rw [List.map_cons, List.map_cons, List.cons.injEq, List.cons.injEq, map_inj h]
    exact ⟨fun ⟨a, b⟩ => ⟨h _ _ a, b⟩, fun ⟨a, b⟩ => ⟨by rw [a], b⟩⟩
@[simp] theorem ints_inj {xs ys : List Int} : xs.map D.int = ys.map D.int ↔ xs = ys := map_inj (fun x y h => by injection h)
@[simp] theorem rows_inj {xs ys : List R3} : xs.map rD = ys.map rD ↔ xs = ys := map_inj (fun x y h => rD_inj.mp h)
@[simp] theorem pairs_inj {xs ys : List (Int × Int)} : xs.map pD = ys.map pD ↔ xs = ys := map_inj (fun x y h => pD_inj.mp h)
theorem mem_inj {f : α → D} (h : ∀ x y, f x = f y → x = y) {x : α} {xs : List α} : f x ∈ xs.map f ↔ x ∈ xs := by
  rw [List.mem_map]
  constructor
  · rintro ⟨y, hy, e⟩
    rw [← h _ _ e]
    exact hy
  · exact fun hx => ⟨x, hx, rfl⟩
@[simp high] theorem ints_mem {x : Int} {xs : List Int} : D.int x ∈ xs.map D.int ↔ x ∈ xs := mem_inj (fun x y h => by injection h)
@[simp high] theorem rows_mem {x : R3} {xs : List R3} : rD x ∈ xs.map rD ↔ x ∈ xs := mem_inj (fun x y h => rD_inj.mp h)
@[simp high] theorem pairs_mem {x : Int × Int} {xs : List (Int × Int)} : pD x ∈ xs.map pD ↔ x ∈ xs := mem_inj (fun x y h => pD_inj.mp h)
theorem webD_inj {m n : Int} {xs ys : List R3} : webD m xs = webD n ys ↔ m = n ∧ xs = ys := by simp [webD]
/-! sorting -/
def le3 (x y : R3) : Bool := leL (r3 x) (r3 y)
def sort3 (l : List R3) : List R3 := l.mergeSort le3
theorem sort3_perm (l : List R3) : (sort3 l).Perm l := List.mergeSort_perm _ _
theorem sort3_len (l : List R3) : (sort3 l).length = l.length := (sort3_perm l).length_eq
theorem le3_anti {x y : R3} (h : le3 x y = true) (h2 : le3 y x = true) : x = y := r3_inj (leL_anti _ _ h h2)
theorem sort3_sorted (l : List R3) : (sort3 l).Pairwise fun x y => le3 x y = true := List.pairwise_mergeSort (le := le3) (fun x y z => leL_trans (r3 x) (r3 y) (r3 z)) (fun x y => leL_total (r3 x) (r3 y)) l
theorem sort3_eq {l m : List R3} (h : l.Perm m) (hs : m.Pairwise fun x y => le3 x y = true) : sort3 l = m :=
  List.Perm.eq_of_pairwise (le := fun x y => le3 x y = true) (fun a b _ _ h1 h2 => le3_anti h1 h2) (sort3_sorted l) hs ((sort3_perm l).trans h)
theorem sort3_congr {l m : List R3} (h : l.Perm m) : sort3 l = sort3 m := sort3_eq (h.trans (sort3_perm m).symm) (sort3_sorted m)
theorem sort3_sort3 (l : List R3) : sort3 (sort3 l) = sort3 l := sort3_congr (sort3_perm l)
theorem sorted_rows {o : Bool} {l : List R3} (h : l.length ≤ sizeLine) : gSorted [.lst o (l.map rD)] = some (.lst true ((sort3 l).map rD)) := by
  show (sortD (l.map rD)).map (fun ys => D.lst true ys) = _
  have e : l.map rD = (l.map r3).map tI := by rw [rD_tI, List.map_map]; rfl
  rw [e, sortD_tI (by
    intro x hx
    obtain ⟨p, _, rfl⟩ := List.mem_map.mp hx
    intro z
    cases z) (by rw [List.length_map]; exact h)]
  have e2 : (l.map r3).mergeSort leL = (sort3 l).map r3 := (List.map_mergeSort (f := r3) (r := le3) (s := leL) (l := l) (fun x _ y _ => rfl)).symm
  rw [e2, List.map_map, rD_tI]
  rfl
def le2 (x y : Int × Int) : Bool := leL (p2 x) (p2 y)
theorem sorted_pairs {o : Bool} {l : List (Int × Int)} (h : l.length ≤ sizeLine) : gSorted [.lst o (l.map pD)] = some (.lst true ((sP l).map pD)) := by
  show (sortD (l.map pD)).map (fun ys => D.lst true ys) = _
  have e : l.map pD = (l.map p2).map tI := by rw [pD_tI, List.map_map]; rfl
  rw [e, sortD_tI (by
    intro x hx
    obtain ⟨p, _, rfl⟩ := List.mem_map.mp hx
    intro z
    cases z) (by rw [List.length_map]; exact h), sP_map, List.map_map, pD_tI]
  rfl
/-! equality of data without truths -/
mutual
def nb : Nat → D → Bool
  | 0, _ => false
  | n + 1, .non => true
  | n + 1, .int _ => true
  | n + 1, .str x => PyData.canLay0 (.str x)
  | n + 1, .tup ds => nbL n ds
  | n + 1, .lst false ds => nbL n ds
  | _, _ => false
def nbL : Nat → List D → Bool
  | _, [] => true
  | n, d :: ds => nb n d && nbL n ds
end
@[simp] theorem nb_non {n : Nat} : nb (n + 1) .non = true := by simp [nb]
@[simp] theorem nb_int {n : Nat} {i : Int} : nb (n + 1) (.int i) = true := by simp [nb]
@[simp] theorem nb_tup {n : Nat} {ds : List D} : nb (n + 1) (.tup ds) = nbL n ds := by simp [nb]
@[simp] theorem nb_lst {n : Nat} {ds : List D} : nb (n + 1) (.lst false ds) = nbL n ds := by simp [nb]
@[simp] theorem nb_str {n : Nat} {x : Str} : nb (n + 1) (.str x) = PyData.canLay0 (.str x) := by simp [nb]
@[simp] theorem nbL_nil {n : Nat} : nbL n [] = true := by simp [nbL]
@[simp] theorem nbL_cons {n : Nat} {d : D} {ds : List D} : nbL n (d :: ds) = (nb n d && nbL n ds) := by simp [nbL]
theorem nbL_all {n : Nat} : ∀ ds : List D, nbL n ds = ds.all (nb n)
  | [] => by simp
  | d :: ds => by rw [nbL_cons, nbL_all ds]; rfl
@[simp] theorem nbL_map {n : Nat} {f : α → D} {xs : List α} (h : ∀ x, nb n (f x) = true) : nbL n (xs.map f) = true := by rw [nbL_all]; simp [h]
@[simp] theorem nb_rD {n : Nat} {r : R3} : nb (n + 2) (rD r) = true := by simp [rD]
@[simp] theorem nb_pD {n : Nat} {r : Int × Int} : nb (n + 2) (pD r) = true := by simp [pD]
@[simp] theorem nb_webD {n : Nat} {m : Int} {rows : List R3} : nb (n + 4) (webD m rows) = true := by simp [webD]
mutual
theorem nb_dat : ∀ (n : Nat) (d : D), nb n d = true → ∃ e, dat d = some e ∧ e.canLay0 = true ∧ e.depth ≤ n
  | 0, d, h => by simp [nb] at h
  | n + 1, .non, _ => ⟨.none, rfl, rfl, by simp [PyData.depth]⟩
  | n + 1, .int i, _ => ⟨.int i, rfl, rfl, by simp [PyData.depth]⟩
  | n + 1, .str x, h => ⟨.str x, rfl, by rw [nb_str] at h; exact h, by simp [PyData.depth]⟩
  | n + 1, .tup ds, h => by
    rw [nb_tup] at h
    obtain ⟨es, e, h1, h2⟩ := nbL_dat n ds h
    exact ⟨.tuple es, by rw [dat, e]; rfl, by rw [PyData.canLay0]; exact h1, by rw [PyData.depth]; omega⟩
  | n + 1, .lst false ds, h => by
    rw [nb_lst] at h
    obtain ⟨es, e, h1, h2⟩ := nbL_dat n ds h
    exact ⟨.list es, by rw [dat, e]; rfl, by rw [PyData.canLay0]; exact h1, by rw [PyData.depth]; omega⟩
  | n + 1, .lst true ds, h => by simp [nb] at h
  | n + 1, .unk, h => by simp [nb] at h
  | n + 1, .hole, h => by simp [nb] at h
  | n + 1, .bl b, h => by simp [nb] at h
  | n + 1, .adr b, h => by simp [nb] at h
  | n + 1, .exo b p, h => by simp [nb] at h
  | n + 1, .scr ds, h => by simp [nb] at h
  | n + 1, .ktp ds, h => by simp [nb] at h
  | n + 1, .dK o ks ds, h => by simp [nb] at h
  | n + 1, .dT o ks ds, h => by simp [nb] at h
  | n + 1, .lK ks ds, h => by simp [nb] at h
  | n + 1, .lT ks ds, h => by simp [nb] at h
  | n + 1, .lck o, h => by simp [nb] at h
theorem nbL_dat : ∀ (n : Nat) (ds : List D), nbL n ds = true → ∃ es, dats ds = some es ∧ PyData.canLayAll0 es = true ∧ PyData.depthAll es ≤ n
  | n, [], _ => ⟨[], rfl, rfl, by simp [PyData.depthAll]⟩
  | n, d :: ds, h => by
    rw [nbL_cons, Bool.and_eq_true] at h
    obtain ⟨e, h1, h2, h3⟩ := nb_dat n d h.1
    obtain ⟨es, g1, g2, g3⟩ := nbL_dat n ds h.2
    exact ⟨e :: es, by rw [dats, h1, g1], by rw [PyData.canLayAll0, h2, g2]; rfl, by rw [PyData.depthAll]; omega⟩
end
mutual
theorem nb_eqv : ∀ (n m : Nat) (x y : D) (a b : PyData), nb n x = true → nb m y = true → dat x = some a → dat y = some b → (PyData.eqv a b = true ↔ x = y)
  | 0, _, _, _, _, _, h, _, _, _ => by simp [nb] at h
  | _ + 1, 0, _, _, _, _, _, h, _, _ => by simp [nb] at h
  | n + 1, m + 1, x, y, a, b, hx, hy, ex, ey => by
    cases x with
    | tup ds =>
      rw [dat, Option.map_eq_some_iff] at ex
      obtain ⟨xs, ex, rfl⟩ := ex
      rw [nb_tup] at hx
      cases y with
      | tup es =>
        rw [dat, Option.map_eq_some_iff] at ey
        obtain ⟨ys, ey, rfl⟩ := ey
        rw [nb_tup] at hy
        rw [PyData.eqv, nbL_eqv n m ds es xs ys hx hy ex ey]
        simp
      | lst o es =>
        rw [dat, Option.map_eq_some_iff] at ey
        obtain ⟨ys, ey, rfl⟩ := ey
        simp [PyData.eqv]
      | non => cases ey; simp [PyData.eqv]
      | int i => cases ey; simp [PyData.eqv]
      | str z => cases ey; simp [PyData.eqv]
      | _ => simp [nb] at hy
    | lst o ds =>
      cases o with
      | true => simp [nb] at hx
      | false =>
        rw [dat, Option.map_eq_some_iff] at ex
        obtain ⟨xs, ex, rfl⟩ := ex
        rw [nb_lst] at hx
        cases y with
        | tup es =>
          rw [dat, Option.map_eq_some_iff] at ey
          obtain ⟨ys, ey, rfl⟩ := ey
          simp [PyData.eqv]
        | lst o es =>
          cases o with
          | true => simp [nb] at hy
          | false =>
            rw [dat, Option.map_eq_some_iff] at ey
            obtain ⟨ys, ey, rfl⟩ := ey
            rw [nb_lst] at hy
            rw [PyData.eqv, nbL_eqv n m ds es xs ys hx hy ex ey]
            simp
        | non => cases ey; simp [PyData.eqv]
        | int i => cases ey; simp [PyData.eqv]
        | str z => cases ey; simp [PyData.eqv]
        | _ => simp [nb] at hy
    | non =>
      cases ex
      cases y with
      | tup es =>
        rw [dat, Option.map_eq_some_iff] at ey
        obtain ⟨ys, ey, rfl⟩ := ey
        simp [PyData.eqv]
      | lst o es =>
        rw [dat, Option.map_eq_some_iff] at ey
        obtain ⟨ys, ey, rfl⟩ := ey
        simp [PyData.eqv]
      | non => cases ey; simp [PyData.eqv]
      | int i => cases ey; simp [PyData.eqv]
      | str z => cases ey; simp [PyData.eqv]
      | _ => simp [nb] at hy
    | int i =>
      cases ex
      cases y with
      | tup es =>
        rw [dat, Option.map_eq_some_iff] at ey
        obtain ⟨ys, ey, rfl⟩ := ey
        simp [PyData.eqv]
      | lst o es =>
        rw [dat, Option.map_eq_some_iff] at ey
        obtain ⟨ys, ey, rfl⟩ := ey
        simp [PyData.eqv]
      | non => cases ey; simp [PyData.eqv]
      | int i => cases ey; simp [PyData.eqv]
      | str z => cases ey; simp [PyData.eqv]
      | _ => simp [nb] at hy
    | str z =>
      cases ex
      cases y with
      | tup es =>
        rw [dat, Option.map_eq_some_iff] at ey
        obtain ⟨ys, ey, rfl⟩ := ey
        simp [PyData.eqv]
      | lst o es =>
        rw [dat, Option.map_eq_some_iff] at ey
        obtain ⟨ys, ey, rfl⟩ := ey
        simp [PyData.eqv]
      | non => cases ey; simp [PyData.eqv]
      | int i => cases ey; simp [PyData.eqv]
      | str z => cases ey; simp [PyData.eqv]
      | _ => simp [nb] at hy
    | _ => simp [nb] at hx
theorem nbL_eqv : ∀ (n m : Nat) (xs ys : List D) (as bs : List PyData), nbL n xs = true → nbL m ys = true → dats xs = some as → dats ys = some bs → (PyData.eqvAll as bs = true ↔ xs = ys)
  | _, _, [], [], _, _, _, _, ex, ey => by
    rw [dats] at ex ey
    cases ex; cases ey
    simp [PyData.eqvAll]
  | n, m, [], y :: ys, _, bs, _, hy, ex, ey => by
    rw [dats] at ex
    cases ex
    obtain ⟨es, e, _, _⟩ := nbL_dat m (y :: ys) hy
    rw [e] at ey
    cases ey
    rw [dats] at e
    cases q1 : dat y with
    | none => rw [q1] at e; cases e
    | some a =>
      cases q2 : dats ys with
      | none => rw [q1, q2] at e; cases e
      | some as => rw [q1, q2] at e; cases e; simp [PyData.eqvAll]
  | n, m, x :: xs, [], as, _, hx, _, ex, ey => by
    rw [dats] at ey
    cases ey
    obtain ⟨es, e, _, _⟩ := nbL_dat n (x :: xs) hx
    rw [e] at ex
    cases ex
    rw [dats] at e
    cases q1 : dat x with
    | none => rw [q1] at e; cases e
    | some a =>
      cases q2 : dats xs with
      | none => rw [q1, q2] at e; cases e
      | some as => rw [q1, q2] at e; cases e; simp [PyData.eqvAll]
  | n, m, x :: xs, y :: ys, as, bs, hx, hy, ex, ey => by
    rw [nbL_cons, Bool.and_eq_true] at hx hy
    rw [dats] at ex ey
    cases q1 : dat x with
    | none => rw [q1] at ex; cases ex
    | some a =>
      cases q2 : dats xs with
      | none => rw [q1, q2] at ex; cases ex
      | some as' =>
        cases q3 : dat y with
        | none => rw [q3] at ey; cases ey
        | some b =>
          cases q4 : dats ys with
          | none => rw [q3, q4] at ey; cases ey
          | some bs' =>
            rw [q1, q2] at ex
            rw [q3, q4] at ey
            cases ex; cases ey
            rw [PyData.eqvAll, Bool.and_eq_true, nb_eqv n m x y a b hx.1 hy.1 q1 q3, nbL_eqv n m xs ys as' bs' hx.2 hy.2 q2 q4, List.cons.injEq]
end
theorem nb_sh {n : Nat} {d : D} (h : nb n d = true) (hn : n ≤ 63) : ∃ e, dat d = some e ∧ SeqAt.shaped e = true := by
  obtain ⟨e, h1, h2, h3⟩ := nb_dat n d h
  exact ⟨e, h1, by unfold SeqAt.shaped; rw [h2, Bool.true_and, decide_eq_true_eq]; omega⟩
open Classical in
theorem eqD_nb {x y : D} (hx : nb 9 x = true) (hy : nb 9 y = true) : eqD x y = some (decide (x = y)) := by
  obtain ⟨a, ha, sa⟩ := nb_sh hx (by omega)
  obtain ⟨b, hb, sb⟩ := nb_sh hy (by omega)
  unfold eqD
  rw [ha, hb]
  simp only [sa, sb, and_self, if_true]
  congr 1
  rw [Bool.eq_iff_iff, nb_eqv 9 9 x y a b hx hy ha hb, decide_eq_true_eq]
open Classical in
@[simp] theorem W_gEq {x y : D} {Q : D → Prop} (hx : nb 9 x = true) (hy : nb 9 y = true) : W (gEq x y) Q ↔ Q (.bl (decide (x = y))) := by
  unfold gEq
  rw [eqD_nb hx hy]
  exact W_some
open Classical in
@[simp] theorem W_gNe {x y : D} {Q : D → Prop} (hx : nb 9 x = true) (hy : nb 9 y = true) : W (gNe x y) Q ↔ Q (.bl (!decide (x = y))) := by
  unfold gNe
  rw [eqD_nb hx hy]
  exact W_some
theorem dat_own {xs : List D} : dat (.lst true xs) = dat (.lst false xs) := by rw [dat, dat]
@[simp] theorem gEq_o1 {xs : List D} {y : D} : gEq (.lst true xs) y = gEq (.lst false xs) y := by unfold gEq eqD; rw [dat_own]
@[simp] theorem gEq_o2 {xs : List D} {x : D} : gEq x (.lst true xs) = gEq x (.lst false xs) := by unfold gEq eqD; rw [dat_own]
@[simp] theorem gNe_o1 {xs : List D} {y : D} : gNe (.lst true xs) y = gNe (.lst false xs) y := by unfold gNe eqD; rw [dat_own]
@[simp] theorem gNe_o2 {xs : List D} {x : D} : gNe x (.lst true xs) = gNe x (.lst false xs) := by unfold gNe eqD; rw [dat_own]
theorem in_any {n : Nat} {x : D} {a : PyData} (hx : nb 9 x = true) (ha : dat x = some a) : ∀ (ds : List D) (es : List PyData), nbL n ds = true → dats ds = some es → ((es.any fun z => PyData.eqv z a) = true ↔ x ∈ ds)
  | [], es, _, e => by rw [dats] at e; cases e; simp
  | d :: ds, es, h, e => by
    rw [nbL_cons, Bool.and_eq_true] at h
    rw [dats] at e
    cases q1 : dat d with
    | none => rw [q1] at e; cases e
    | some b =>
      cases q2 : dats ds with
      | none => rw [q1, q2] at e; cases e
      | some bs =>
        rw [q1, q2] at e
        cases e
        rw [List.any_cons, Bool.or_eq_true, in_any hx ha ds bs h.2 q2, nb_eqv n 9 d x b a h.1 hx q1 ha, List.mem_cons]
        constructor
        · rintro (h | h)
          · exact .inl h.symm
          · exact .inr h
        · rintro (h | h)
          · exact .inl h.symm
          · exact .inr h
open Classical in
theorem inB_nb {x : D} {o : Bool} {ds : List D} (hx : nb 9 x = true) (hy : nbL 8 ds = true) : inB x (.lst o ds) = some (decide (x ∈ ds)) := by
  obtain ⟨a, ha, sa⟩ := nb_sh hx (by omega)
  obtain ⟨es, e, h1, h2⟩ := nbL_dat 8 ds hy
  unfold inB
  rw [ha, show dat (.lst o ds) = some (.list es) by rw [dat, e]; rfl]
  have sb : SeqAt.shaped (.list es) = true := by
    unfold SeqAt.shaped
    rw [PyData.canLay0, h1, Bool.true_and, decide_eq_true_eq, PyData.depth]; omega
  simp only [sa, sb, and_self, if_true]
  congr 1
  rw [Bool.eq_iff_iff, in_any hx ha ds es hy e, decide_eq_true_eq]
open Classical in
@[simp] theorem W_gIn {x : D} {o neg : Bool} {ds : List D} {Q : D → Prop} (hx : nb 9 x = true) (hy : nbL 8 ds = true) : W (gIn neg x (.lst o ds)) Q ↔ Q (.bl (if neg = true then !decide (x ∈ ds) else decide (x ∈ ds))) := by
  unfold gIn
  rw [inB_nb hx hy]
  exact W_some
/-! kinds -/
@[simp] theorem isa_tl {ds : List D} : gIsa ["list"] (.tup ds) = some (.bl false) := rfl
@[simp] theorem isa_ll {o : Bool} {ds : List D} : gIsa ["list"] (.lst o ds) = some (.bl true) := rfl
@[simp] theorem isa_il {i : Int} : gIsa ["list"] (.int i) = some (.bl false) := rfl
@[simp] theorem isa_bl {i : Bool} : gIsa ["list"] (.bl i) = some (.bl false) := rfl
@[simp] theorem isa_nl : gIsa ["list"] .non = some (.bl false) := rfl
@[simp] theorem isa_tt {ds : List D} : gIsa ["tuple"] (.tup ds) = some (.bl true) := rfl
@[simp] theorem isa_lt {o : Bool} {ds : List D} : gIsa ["tuple"] (.lst o ds) = some (.bl false) := rfl
@[simp] theorem isa_it {i : Int} : gIsa ["tuple"] (.int i) = some (.bl false) := rfl
@[simp] theorem isa_bt {i : Bool} : gIsa ["tuple"] (.bl i) = some (.bl false) := rfl
@[simp] theorem isa_nt : gIsa ["tuple"] .non = some (.bl false) := rfl
@[simp] theorem isa_tlt {ds : List D} : gIsa ["list", "tuple"] (.tup ds) = some (.bl true) := rfl
@[simp] theorem isa_llt {o : Bool} {ds : List D} : gIsa ["list", "tuple"] (.lst o ds) = some (.bl true) := rfl
@[simp] theorem isa_ilt {i : Int} : gIsa ["list", "tuple"] (.int i) = some (.bl false) := rfl
@[simp] theorem isa_blt {i : Bool} : gIsa ["list", "tuple"] (.bl i) = some (.bl false) := rfl
@[simp] theorem isa_nlt : gIsa ["list", "tuple"] .non = some (.bl false) := rfl
@[simp] theorem isa_ttl {ds : List D} : gIsa ["tuple", "list"] (.tup ds) = some (.bl true) := rfl
@[simp] theorem isa_ltl {o : Bool} {ds : List D} : gIsa ["tuple", "list"] (.lst o ds) = some (.bl true) := rfl
@[simp] theorem isa_itl {i : Int} : gIsa ["tuple", "list"] (.int i) = some (.bl false) := rfl
@[simp] theorem isa_btl {i : Bool} : gIsa ["tuple", "list"] (.bl i) = some (.bl false) := rfl
@[simp] theorem isa_ntl : gIsa ["tuple", "list"] .non = some (.bl false) := rfl
@[simp] theorem isa_ib {i : Int} : gIsa ["bool"] (.int i) = some (.bl false) := rfl
@[simp] theorem isa_bb {i : Bool} : gIsa ["bool"] (.bl i) = some (.bl true) := rfl
@[simp] theorem isa_nb : gIsa ["bool"] .non = some (.bl false) := rfl
@[simp] theorem isa_tb {ds : List D} : gIsa ["bool"] (.tup ds) = some (.bl false) := rfl
@[simp] theorem isa_lb {o : Bool} {ds : List D} : gIsa ["bool"] (.lst o ds) = some (.bl false) := rfl
@[simp] theorem isa_ii {i : Int} : gIsa ["int"] (.int i) = some (.bl true) := rfl
@[simp] theorem isa_bi {i : Bool} : gIsa ["int"] (.bl i) = some (.bl true) := rfl
@[simp] theorem isa_ni : gIsa ["int"] .non = some (.bl false) := rfl
@[simp] theorem isa_ti {ds : List D} : gIsa ["int"] (.tup ds) = some (.bl false) := rfl
@[simp] theorem isa_li {o : Bool} {ds : List D} : gIsa ["int"] (.lst o ds) = some (.bl false) := rfl
/-! all -/
theorem allB_mapF {f : α → Bool} (l : List α) : allB (l.map fun x => D.bl (f x)) = some (l.map f) := by
  induction l with
  | nil => rfl
  | cons x l ih => rw [List.map_cons, allB, ih]; rfl
@[simp] theorem all_map {f : α → Bool} (l : List α) {o : Bool} : gAll [.lst o (l.map fun x => D.bl (f x))] = some (.bl (l.all f)) := by
  unfold gAll
  simp only [u_lstL, Option.bind_some, allB_mapF, Option.map_some]
  congr 2
  rw [List.all_map]
  rfl
@[simp] theorem any_map {f : α → Bool} (l : List α) {o : Bool} : gAny [.lst o (l.map fun x => D.bl (f x))] = some (.bl (l.any f)) := by
  unfold gAny
  simp only [u_lstL, Option.bind_some, allB_mapF, Option.map_some]
  congr 2
  rw [List.any_map]
  rfl
/-! zip -/
theorem zipD_map {f : α → D} {g : β → D} : ∀ (xs : List α) (ys : List β), zipD (xs.map f) (ys.map g) = (xs.zip ys).map fun p => .tup [f p.1, g p.2]
  | [], _ => by simp [zipD]
  | _ :: _, [] => by simp [zipD]
  | x :: xs, y :: ys => by rw [List.map_cons, List.map_cons, zipD, zipD_map xs ys]; rfl
theorem zip_ll {o o' : Bool} {xs ys : List D} (hx : fzL xs = true) (hy : fzL ys = true) : zipOf [.lst o xs, .lst o' ys] = some (zipD xs ys) := by
  unfold zipOf
  simp only [u_frL, freezeL_fz _ hx, freezeL_fz _ hy, u_lstL, u_fzL, hx, hy]
  simp
theorem zip_tt {xs ys : List D} (hx : fzL xs = true) (hy : fzL ys = true) : zipOf [.tup xs, .tup ys] = some (zipD xs ys) := by
  unfold zipOf
  simp only [u_frT, freezeL_fz _ hx, freezeL_fz _ hy]
  rw [if_pos ⟨hx, hy⟩]
@[simp] theorem zip_mapL {o o' : Bool} {f : α → D} {g : β → D} {xs : List α} {ys : List β} (hf : ∀ x, fz (f x) = true) (hg : ∀ x, fz (g x) = true) : zipOf [.lst o (xs.map f), .lst o' (ys.map g)] = some ((xs.zip ys).map fun p => .tup [f p.1, g p.2]) := by
  rw [zip_ll (u_fzLmap hf) (u_fzLmap hg), zipD_map]
@[simp] theorem zip_mapT {f : α → D} {g : β → D} {xs : List α} {ys : List β} (hf : ∀ x, fz (f x) = true) (hg : ∀ x, fz (g x) = true) : zipOf [.tup (xs.map f), .tup (ys.map g)] = some ((xs.zip ys).map fun p => .tup [f p.1, g p.2]) := by
  rw [zip_tt (u_fzLmap hf) (u_fzLmap hg), zipD_map]
/-! slices -/
theorem cut_to {xs : List D} {n : Int} (h : 0 ≤ n) : cutD xs none (some n) = xs.take n.toNat := by
  unfold cutD HT.sIx
  simp only
  rw [if_neg (by omega), List.drop_zero, Nat.sub_zero]
  rcases Nat.le_total n.toNat xs.length with h | h
  · rw [Nat.min_eq_left h]
  · rw [Nat.min_eq_right h, List.take_length, List.take_of_length_le h]
theorem cut_from {xs : List D} {n : Int} (h : 0 ≤ n) : cutD xs (some n) none = xs.drop n.toNat := by
  unfold cutD HT.sIx
  simp only
  rw [if_neg (by omega)]
  rcases Nat.le_total n.toNat xs.length with h | h
  · rw [Nat.min_eq_left h, List.take_of_length_le (by simp)]
  · rw [Nat.min_eq_right h, List.drop_eq_nil_of_le (Nat.le_refl _), List.drop_eq_nil_of_le h]
    simp
theorem cut_tail {f : α → D} {xs : List α} : cutD (xs.map f) (some 1) none = xs.tail.map f := by
  rw [cut_from (by decide), List.map_tail]
  exact List.drop_one
theorem cut_drop {f : α → D} {xs : List α} {n : Int} (h : 0 ≤ n) : cutD (xs.map f) (some n) none = (xs.drop n.toNat).map f := by rw [cut_from h, List.map_drop]
theorem cut_take {f : α → D} {xs : List α} {n : Int} (h : 0 ≤ n) : cutD (xs.map f) none (some n) = (xs.take n.toNat).map f := by rw [cut_to h, List.map_take]
theorem cut_from1 {x : D} {xs : List D} : cutD (x :: xs) (some 1) none = xs := by
  unfold cutD HT.sIx
  simp only [List.length_cons]
  rw [if_neg (by decide)]
  have : min (Int.toNat 1) (xs.length + 1) = 1 := by
    show min 1 (xs.length + 1) = 1
    omega
  rw [this]
  simp
end
end VS

set_option Elab.async false
set_option linter.all false
set_option maxRecDepth 100000
set_option maxHeartbeats 4000000
noncomputable section
namespace VS
open PySem PySem.Spec L2
theorem md1 (x : Int) : in64 (x % 2147483647) := by
  have a := Int.emod_nonneg x (show (2147483647 : Int) ≠ 0 by decide)
  have b := Int.emod_lt_of_pos x (show (0 : Int) < 2147483647 by decide)
  generalize x % 2147483647 = y at *
  exact in64_bd (by omega) (by omega)
theorem md2 (x : Int) : in64 (x % 2147483629) := by
  have a := Int.emod_nonneg x (show (2147483629 : Int) ≠ 0 by decide)
  have b := Int.emod_lt_of_pos x (show (0 : Int) < 2147483629 by decide)
  generalize x % 2147483629 = y at *
  exact in64_bd (by omega) (by omega)
theorem ints_range (n : Nat) : intsD 0 n = (rangeI n).map D.int := by
  unfold intsD rangeI
  rw [List.map_map]
  apply List.map_congr_left
  intro i _
  simp
theorem erase_map {α β : Type} (f : α → β) : ∀ (l : List α) (i : Nat), (l.map f).eraseIdx i = (l.eraseIdx i).map f
  | [], _ => rfl
  | _ :: _, 0 => rfl
  | a :: l, i + 1 => by
    show f a :: (l.map f).eraseIdx i = f a :: (l.eraseIdx i).map f
    rw [erase_map f l i]
theorem W_gPop {α : Type} {f : α → D} {xs : List α} {i : Int} {Q : D × List D → Prop} (h0 : 0 ≤ i) (h1 : i < xs.length) (h2 : i ≤ 1000000) (h : ∀ x, xs[i.toNat]? = some x → Q (f x, (xs.eraseIdx i.toNat).map f)) : W (gPop (xs.map f) [.int i]) Q := by
  have hl : i.toNat < xs.length := by omega
  unfold gPop
  simp only
  rw [if_pos (in63_bd (by omega) (by omega)), ixN_lt h0 (by simp; omega)]
  have := h _ (List.getElem?_eq_getElem hl)
  rw [← erase_map] at this
  simp [hl]
  exact this
@[simp] theorem u_lr1 {n : Int} : lr1 (.int n) = if RgOk 0 n then some (.lst true (intsD 0 n.toNat)) else none := rfl
@[simp] theorem u_lr2 {i j : Int} : lr2 (.int i) (.int j) = if RgOk i j then some (.lst true (intsD i (j - i).toNat)) else none := rfl
theorem atI_int {xs : List Int} {i : Int} (h0 : 0 ≤ i) (h : i < xs.length) : atI (xs.map D.int) i = some (.int (xs[i.toNat]?.getD 0)) := by
  have hl : i.toNat < xs.length := by omega
  rw [atI_map h0 (List.getElem?_eq_getElem hl)]
  simp [hl]
theorem mem_of_split {α : Type} {xs p post : List α} {x : α} (e : xs = p ++ x :: post) : x ∈ xs := by rw [e]; simp
theorem len_of_split {α : Type} {xs p post : List α} {x : α} (e : xs = p ++ x :: post) : p.length < xs.length := by rw [e]; simp
theorem u_at4 {α : Type} {a b c d e : α} {xs : List α} : atI (a :: b :: c :: d :: e :: xs) 4 = some e := atI_lt (by decide) rfl
@[simp] theorem fz_intsD {lo : Int} {n : Nat} : fzL (intsD lo n) = true := by
  unfold intsD
  exact u_fzLmap fun _ => u_fzI
@[simp] theorem fr_intsD {lo : Int} {n : Nat} : freezeL (intsD lo n) = intsD lo n := freezeL_fz _ fz_intsD
@[simp] theorem len_intsD {lo : Int} {n : Nat} : (intsD lo n).length = n := by simp [intsD]
/-- one of some numbers -/
theorem W_pick {l : List Int} {x : Int} {n : Int} {Q : D → Prop} (hl : (l.length : Int) = n) (h0 : 0 ≤ x) (h1 : x < n) (h : ∀ y ∈ l, Q (.int y)) : W (atI (l.map D.int) x) Q :=
  W_at h0 (by omega) fun y hy => h y (List.mem_of_getElem? hy)
theorem ints_map (lo : Int) (n : Nat) : intsD lo n = ((List.range n).map fun (i : Nat) => lo + (i : Int)).map D.int := by
  unfold intsD
  rw [List.map_map]
  rfl
theorem atI_lastI {xs : List Int} (h : xs ≠ []) : atI (xs.map D.int) (-1) = some (.int (xs.getLast h)) := by
  obtain ⟨ys, y, rfl⟩ : ∃ ys y, xs = ys ++ [y] := ⟨_, _, (List.dropLast_concat_getLast h).symm⟩
  have : ixN ((ys ++ [y]).map D.int).length (-1) = some ys.length := by
    unfold ixN
    rw [if_neg (by decide), List.length_map, List.length_append, List.length_singleton]
    rw [if_pos (by omega)]
    congr 1
    omega
  unfold atI
  rw [this]
  simp
/-- data of ints and tuples -/
inductive Tt : Nat → D → Prop
  | int {n : Nat} {i : Int} : Tt (n + 1) (.int i)
  | tup {n : Nat} {ds : List D} : (∀ d ∈ ds, Tt n d) → ds.length ≤ sizeLine → Tt (n + 1) (.tup ds)
theorem Tt.fz : ∀ {n : Nat} {d : D}, Tt n d → VS.fz d = true
  | _, _, .int => u_fzI
  | n + 1, _, .tup h _ => by
    rw [u_fzT, fzL_all, List.all_eq_true]
    intro x hx
    exact (h x hx).fz
theorem Tt.fzL {n : Nat} {ds : List D} (h : ∀ d ∈ ds, Tt n d) : VS.fzL ds = true := by
  rw [fzL_all, List.all_eq_true]
  exact fun x hx => (h x hx).fz
theorem Tt.rD {n : Nat} {r : R3} : Tt (n + 2) (VS.rD r) := .tup (by
  intro d hd
  simp at hd
  rcases hd with rfl | rfl | rfl <;> exact .int) (le_size (by simp))
theorem Tt.webD {n : Nat} {m : Int} {rows : List R3} (h : rows.length ≤ 100000) : Tt (n + 4) (VS.webD m rows) := .tup (by
  intro d hd
  simp at hd
  rcases hd with rfl | rfl
  · exact .int
  · refine .tup ?_ (le_size (by simp; omega))
    intro d hd
    obtain ⟨r, _, rfl⟩ := List.mem_map.mp hd
    exact .rD) (le_size (by simp))
theorem zipD_self (ds : List D) : zipD ds ds = ds.map fun d => .tup [d, d] := by
  induction ds with
  | nil => rfl
  | cons d ds ih => rw [zipD, ih]; rfl
end VS

set_option Elab.async false
set_option linter.all false
set_option maxRecDepth 100000
set_option maxHeartbeats 4000000
/-! VW4: dicts keyed by ints, the greatest of ints, where an int stands. -/
noncomputable section
namespace VS
open PySem PySem.Spec L2
/-- the greatest of some ints -/
theorem max_of {o : Bool} : ∀ {ns : List Int}, ns ≠ [] → ∃ M, gMax [.lst o (ns.map D.int)] = some (.int M) ∧ M ∈ ns ∧ ∀ y ∈ ns, y ≤ M
  | [], h => absurd rfl h
  | n :: ns, _ => by
    refine ⟨ns.foldl max n, ?_, ?_⟩
    · unfold gMax gMax1 gBest
      simp only [u_seqL, Option.bind_some]
      rw [allI_map]
    · have key : ∀ (l : List Int) (m : Int), l.foldl max m ∈ m :: l ∧ m ≤ l.foldl max m ∧ ∀ y ∈ l, y ≤ l.foldl max m := by
        intro l
        induction l with
        | nil => intro m; simp
        | cons a l ih =>
          intro m
          obtain ⟨h1, h2, h3⟩ := ih (max m a)
          rw [List.foldl_cons]
          refine ⟨?_, by omega, ?_⟩
          · rcases List.mem_cons.mp h1 with e | e
            · rw [e]
              by_cases q : m ≤ a
              · rw [Int.max_eq_right q]; simp
              · rw [Int.max_eq_left (by omega)]; simp
            · simp [e]
          · intro y hy
            rcases List.mem_cons.mp hy with rfl | hy
            · omega
            · exact h3 y hy
      obtain ⟨h1, h2, h3⟩ := key ns n
      refine ⟨h1, fun y hy => ?_⟩
      rcases List.mem_cons.mp hy with rfl | hy
      · exact h2
      · exact h3 y hy
theorem ints_shaped (ns : List Int) : SeqAt.shaped (.list (ns.map PyData.int)) = true := by
  have h : nb 9 (.lst false (ns.map D.int)) = true := by simp
  obtain ⟨e, h1, h2⟩ := nb_sh h (by omega)
  rw [show dat (.lst false (ns.map D.int)) = some (.list (ns.map PyData.int)) by rw [dat, dats_ints]; rfl] at h1
  cases h1
  exact h2
/-- where an int stands first -/
theorem idx_of {o : Bool} {ns : List Int} {M : Int} (h : M ∈ ns) : ∃ j : Nat, idxD (.lst o (ns.map D.int)) (.int M) = some (.int j) ∧ ns[j]? = some M := by
  have key : ∀ l : List Int, M ∈ l → ∃ j : Nat, idxP (.int M) (l.map PyData.int) = some j ∧ l[j]? = some M := by
    intro l
    induction l with
    | nil => intro h; cases h
    | cons a l ih =>
      intro h
      rw [List.map_cons, idxP]
      by_cases e : a = M
      · refine ⟨0, ?_, by simp [e]⟩
        rw [if_pos]
        simp [PyData.eqv, e]
      · rcases List.mem_cons.mp h with q | q
        · exact absurd q.symm e
        · obtain ⟨j, h1, h2⟩ := ih q
          refine ⟨j + 1, ?_, by simpa using h2⟩
          rw [if_neg (by simp [PyData.eqv, e]), h1]
          rfl
  obtain ⟨j, h1, h2⟩ := key ns h
  refine ⟨j, ?_, h2⟩
  unfold idxD
  simp only [u_lstL, dats_ints, dat]
  rw [if_pos ⟨ints_shaped ns, sh_int⟩, h1]
  rfl
/-- a dict keyed by ints -/
def dI (o : Bool) (ks : List Int) (ds : List D) : D := .dK o (ks.map Sum.inl) ds
@[simp] theorem u_isDctI {o : Bool} {ks : List Int} {ls : List D} : isDct (some (dI o ks ls)) = true := rfl
@[simp] theorem nu_dI {o : Bool} {ks : List Int} {ls : List D} : nunk (some (dI o ks ls)) = true := rfl
@[simp] theorem len_dI {o : Bool} {ks : List Int} {ls : List D} : lenD (dI o ks ls) = some ks.length := by show some (ks.map Sum.inl).length = _; rw [List.length_map]
@[simp] theorem fz_dI {o : Bool} {ks : List Int} {ls : List D} : fz (dI o ks ls) = (!o && fzL ls) := by unfold dI; rw [u_fzDK]
@[simp] theorem fr_dI {o : Bool} {ks : List Int} {ls : List D} : freeze (dI o ks ls) = dI false ks (freezeL ls) := by unfold dI; rw [u_frDK]
theorem inl_inj {x y : Int} (h : (Sum.inl x : Key) = .inl y) : x = y := by injection h
theorem look_inl : ∀ (ks : List Int) (ls : List D) (p : Int), look (κ := Key) (ks.map Sum.inl) ls (.inl p) = look ks ls p
  | [], _, _ => by simp [look]
  | _ :: _, [], _ => by simp [look]
  | k :: ks, a :: ls, p => by
    rw [List.map_cons, look, look]
    by_cases e : k = p
    · rw [if_pos (by rw [e]), if_pos e]
    · rw [if_neg (fun h => e (inl_inj h)), if_neg e, look_inl ks ls p]
theorem putL_inl : ∀ (ks : List Int) (ls : List D) (p : Int) (l : D), putL (κ := Key) (ks.map Sum.inl) ls (.inl p) l = ((putL ks ls p l).1.map Sum.inl, (putL ks ls p l).2)
  | [], _, _, _ => by simp [putL]
  | _ :: _, [], _, _ => by simp [putL]
  | k :: ks, a :: ls, p, l => by
    rw [List.map_cons, putL, putL]
    by_cases e : k = p
    · rw [if_pos (by rw [e]), if_pos e]; rfl
    · rw [if_neg (fun h => e (inl_inj h)), if_neg e, putL_inl ks ls p l]; rfl
@[simp] theorem put_dI {ks : List Int} {ls : List D} {a : Int} {d : D} : VS.putAt (dI true ks ls) (.int a) d = if ks.length < sizeLine then some (dI true (putL ks ls a d).1 (putL ks ls a d).2) else none := by
  unfold dI
  show (if (ks.map Sum.inl).length < sizeLine then some (D.dK true (putL (ks.map Sum.inl) ls (.inl a) d).1 (putL (ks.map Sum.inl) ls (.inl a) d).2) else none) = _
  rw [List.length_map, putL_inl]
@[simp] theorem look_dI {o : Bool} {ks : List Int} {ls : List D} {a : Int} : lookD (dI o ks ls) (.int a) = look ks ls a := by
  unfold dI
  show look (ks.map Sum.inl) ls (.inl a) = _
  rw [look_inl]
theorem disp_dI {k : Int} {d : D} : dispD [.int k, d] [] [] = some (dI true [k] [d]) := by rfl
theorem look_map {κ α β : Type} [DecidableEq κ] (f : α → β) : ∀ (ks : List κ) (as : List α) (k : κ), look ks (as.map f) k = (look ks as k).map f
  | [], _, _ => by simp [look]
  | _ :: _, [], _ => by simp [look]
  | k' :: ks, a :: as, k => by
    rw [List.map_cons, look, look, look_map f ks as k]
    split <;> rfl
theorem putL_map {κ α β : Type} [DecidableEq κ] (f : α → β) : ∀ (ks : List κ) (as : List α) (k : κ) (a : α), putL ks (as.map f) k (f a) = ((putL ks as k a).1, (putL ks as k a).2.map f)
  | [], _, _, _ => by simp [putL]
  | _ :: _, [], _, _ => by simp [putL]
  | k' :: ks, b :: as, k, a => by
    rw [List.map_cons, putL, putL, putL_map f ks as k a]
    split <;> rfl
theorem look_put {κ α : Type} [DecidableEq κ] : ∀ (ks : List κ) (as : List α) (k x : κ) (a : α), ks.length = as.length → look (putL ks as k a).1 (putL ks as k a).2 x = if k = x then some a else look ks as x
  | [], [], k, x, a, _ => by simp [putL, look]
  | [], _ :: _, _, _, _, h => by cases h
  | _ :: _, [], _, _, _, h => by cases h
  | k' :: ks, b :: as, k, x, a, h => by
    rw [putL]
    by_cases e : k' = k
    · rw [if_pos e, look, look, e]
      split <;> rfl
    · rw [if_neg e]
      show look (k' :: (putL ks as k a).1) (b :: (putL ks as k a).2) x = _
      rw [look, look, look_put ks as k x a (Nat.succ.inj h)]
      by_cases e2 : k' = x
      · rw [if_pos e2, if_pos e2, if_neg (fun z => e (by rw [e2, z]))]
      · rw [if_neg e2, if_neg e2]
@[simp] theorem u_minL {o : Bool} {i j : Int} : gMin [.lst o [.int i, .int j]] = some (.int (min i j)) := rfl
@[simp] theorem u_maxL {o : Bool} {i j : Int} : gMax [.lst o [.int i, .int j]] = some (.int (max i j)) := rfl
@[simp] theorem isa_st1 {x : Str} : gIsa ["str", "tuple"] (.str x) = some (.bl true) := rfl
@[simp] theorem isa_st2 {ds : List D} : gIsa ["str", "tuple"] (.tup ds) = some (.bl true) := rfl
@[simp] theorem isa_ts {x : Str} : gIsa ["tuple"] (.str x) = some (.bl false) := rfl
end VS

set_option Elab.async false
set_option linter.all false
set_option maxRecDepth 100000
set_option maxHeartbeats 4000000
set_option autoImplicit false
/-! VW5: wishes of what is lent, and of lists in a dict. -/
noncomputable section
namespace VS
open PySem PySem.Spec L2
section
variable {ρ : Env}
def ldQ (i : Nat) (ρ : Env) (Q : Rv D → Prop) : Rv D → Prop
  | .ok d _ => avoG (ρ.getD i .unk) d = true ∧ Q (.ok d ρ)
  | _ => False
@[simp] theorem ldQ_ok {i : Nat} {ρ1 : Env} {Q : Rv D → Prop} {d : D} : ldQ i ρ Q (.ok d ρ1) ↔ avoG (ρ.getD i .unk) d = true ∧ Q (.ok d ρ) := .rfl
@[simp] theorem W_dLend {i : Nat} {f : M D} {Q : Rv D → Prop} : W (dLend i f ρ) Q ↔ fz (freeze (ρ.getD i .unk)) = true ∧ W (f (lendEnv i (ρ.getD i .unk) ρ)) (ldQ i ρ Q) := by
  unfold dLend
  generalize ed : ρ.getD i .unk = d0
  have eq : ∀ r, ldQ i ρ Q r ↔ (match r with
    | .ok d _ => avoG d0 d = true ∧ Q (.ok d ρ)
    | _ => False) := fun r => by
    subst ed
    cases r <;> rfl
  by_cases z : fz (freeze d0) = true
  · rw [if_pos z]
    cases q : f (lendEnv i d0 ρ) with
    | none => simp
    | some u =>
      cases u with
      | ex x ρ1 => simp [z, eq]
      | ok d ρ1 =>
        simp only [z, true_and, W_some, eq]
        by_cases a : avoG d0 d = true
        · simp [a]
        · simp [a]
  · rw [if_neg z]; simp [z]
def lTQ (ρ : Env) (Q : Rv Bool → Prop) : Rv Bool → Prop
  | .ok b _ => Q (.ok b ρ)
  | _ => False
@[simp] theorem lTQ_ok {ρ1 : Env} {Q : Rv Bool → Prop} {b : Bool} : lTQ ρ Q (.ok b ρ1) ↔ Q (.ok b ρ) := .rfl
@[simp] theorem W_dLendT {i : Nat} {f : M Bool} {Q : Rv Bool → Prop} : W (dLendT i f ρ) Q ↔ fz (freeze (ρ.getD i .unk)) = true ∧ W (f (lendEnv i (ρ.getD i .unk) ρ)) (lTQ ρ Q) := by
  unfold dLendT
  by_cases z : fz (freeze (ρ.getD i .unk)) = true
  · rw [if_pos z]
    cases q : f (lendEnv i (ρ.getD i .unk) ρ) with
    | none => simp
    | some u =>
      cases u with
      | ex x ρ1 => simp [lTQ]
      | ok d ρ1 => simp only [z, true_and, W_some, lTQ_ok]
  · rw [if_neg z]; simp only [W_none, false_iff]; exact fun h => z h.1
def lSQ (i k : Nat) (ρ : Env) (Q : Fl × Env → Prop) : Fl × Env → Prop
  | (.nx, ρ') => avoG (ρ.getD i .unk) (ρ'.getD k .unk) = true ∧ nunk ρ'[k]? = true ∧ Q (.nx, ρ.set k (ρ'.getD k .unk))
  | _ => False
@[simp] theorem lSQ_nx {i k : Nat} {ρ' : Env} {Q : Fl × Env → Prop} : lSQ i k ρ Q (.nx, ρ') ↔ avoG (ρ.getD i .unk) (ρ'.getD k .unk) = true ∧ nunk ρ'[k]? = true ∧ Q (.nx, ρ.set k (ρ'.getD k .unk)) := .rfl
@[simp] theorem W_dLendS {i k : Nat} {g : MS} {Q : Fl × Env → Prop} : W (dLendS i k g ρ) Q ↔ (fz (freeze (ρ.getD i .unk)) = true ∧ i ≠ k) ∧ W (g (lendEnv i (ρ.getD i .unk) (ρ.set k .unk))) (lSQ i k ρ Q) := by
  unfold dLendS
  generalize ed : ρ.getD i .unk = d0
  have eq : ∀ ρ', lSQ i k ρ Q (.nx, ρ') ↔ avoG d0 (ρ'.getD k .unk) = true ∧ nunk ρ'[k]? = true ∧ Q (.nx, ρ.set k (ρ'.getD k .unk)) := fun r => by
    subst ed
    rfl
  by_cases z : fz (freeze d0) = true ∧ i ≠ k
  · rw [if_pos z]
    cases q : g (lendEnv i d0 (ρ.set k .unk)) with
    | none => simp
    | some u =>
      obtain ⟨fl, ρ'⟩ := u
      cases fl with
      | nx =>
        simp only [z, W_some, eq]
        by_cases a : avoG d0 (ρ'.getD k .unk) = true ∧ nunk ρ'[k]? = true
        · rw [if_pos a]
          simp only [W_some]
          exact ⟨fun h => ⟨⟨trivial, z.2⟩, a.1, a.2, h⟩, fun h => h.2.2.2⟩
        · rw [if_neg a]
          simp only [W_none, false_iff]
          intro h
          exact a ⟨h.2.1, h.2.2.1⟩
      | _ => simp [lSQ]
  · rw [if_neg z]; simp only [W_none, false_iff]; exact fun h => z h.1
@[simp] theorem W_dMtK {i : Nat} {k : Key} {g : List D → List D → Option (D × List D)} {f : M (List D)} {Q : Rv D → Prop} : W (dMtK i k g f ρ) Q ↔ okK i k ρ = true ∧ W (f ρ) (bQ (mtK i k g) Q) := by
  unfold dMtK
  rw [W_guard, W_bindM]
@[simp] theorem W_dEnA {f : M (List D)} {Q : Rv (List D) → Prop} : W (dEnA f ρ) Q ↔ W (f ρ) (bQ (fun ds => optM (enumA ds)) Q) := W_bindM
theorem enumA_1 {x : D} : enumA [x] = if isTp x = true then (if fz (freeze x) = true then (seqE (freeze x)).map enumD else none) else (lstOf (freeze x)).bind fun xs => if fzL xs = true ∧ fz (freeze x) = true then some (enumD xs) else none := rfl
theorem enumA_tup {ds : List D} (h : fzL ds = true) : enumA [.tup ds] = some (enumD ds) := by
  rw [enumA_1, if_pos (show isTp (.tup ds) = true from rfl), freeze_fz _ (by rw [u_fzT]; exact h), if_pos (by rw [u_fzT]; exact h)]
  rfl
theorem enumA_lst {o : Bool} {ds : List D} (h : fzL ds = true) : enumA [.lst o ds] = some (enumD ds) := by
  have e : freeze (.lst o ds) = .lst false ds := by rw [u_frL, freezeL_fz _ h]
  rw [enumA_1, if_neg (show ¬ isTp (.lst o ds) = true by simp [isTp]), e]
  simp [lstOf, h]
theorem enumD_map {α : Type} {f : α → D} {xs : List α} : enumD (xs.map f) = xs.zipIdx.map fun p => .tup [.int (p.2 : Nat), f p.1] := by
  unfold enumD
  apply List.ext_getElem?
  intro i
  by_cases h : i < xs.length
  · simp [h, List.getElem?_range]
  · simp [h]
@[simp] theorem W_dPreS {k : Nat} {g : MS} {Q : Fl × Env → Prop} : W (dPreS k g ρ) Q ↔ nunk ρ[k]? = true ∧ W (g (ρ.set k (freeze (ρ.getD k .unk)))) Q := by
  unfold dPreS
  rw [W_guard]
open Classical in
theorem inBT_nb {x : D} {ds : List D} (hx : nb 9 x = true) (hy : nbL 8 ds = true) : inBT x (.tup ds) = some (decide (x ∈ ds)) := by
  obtain ⟨a, ha, sa⟩ := nb_sh hx (by omega)
  obtain ⟨es, e, h1, h2⟩ := nbL_dat 8 ds hy
  unfold inBT
  rw [ha, show dat (.tup ds) = some (.tuple es) by rw [dat, e]; rfl]
  have sb : SeqAt.shaped (.tuple es) = true := by
    unfold SeqAt.shaped
    rw [PyData.canLay0, h1, Bool.true_and, decide_eq_true_eq, PyData.depth]; omega
  simp only [sa, sb, and_self, if_true]
  congr 1
  rw [Bool.eq_iff_iff, in_any hx ha ds es hy e, decide_eq_true_eq]
open Classical in
theorem gInT_nb {x : D} {neg : Bool} {ds : List D} (hx : nb 9 x = true) (hy : nbL 8 ds = true) : gInT neg x (.tup ds) = some (.bl (if neg = true then !decide (x ∈ ds) else decide (x ∈ ds))) := by
  unfold gInT
  rw [inBT_nb hx hy]
  rfl
theorem in_two {a b c d : Int} : gInT false (.tup [.int a, .int b]) (.tup [.tup [.int c, .int d], .tup [.int d, .int c]]) = some (.bl (decide ((a = c ∧ b = d) ∨ (a = d ∧ b = c)))) := by
  rw [gInT_nb (by simp) (by simp)]
  congr 2
  simp
@[simp] theorem W_dLenSet {f : M D} {Q : Rv D → Prop} : W (dLenSet f ρ) Q ↔ W (f ρ) (bQ (fun d => optM (lsT d)) Q) := W_bindM
@[simp] theorem avoG_bl {d : D} {b : Bool} : avoG d (.bl b) = true := by simp [avoG, pl]
@[simp] theorem avoG_int {d : D} {i : Int} : avoG d (.int i) = true := by simp [avoG, pl]
@[simp] theorem avoG_non {d : D} : avoG d .non = true := by simp [avoG, pl]
@[simp] theorem avoG_str {d : D} {x : Str} : avoG d (.str x) = true := by simp [avoG, pl]
end
end VS

set_option Elab.async false
set_option linter.all false
set_option maxRecDepth 100000
set_option maxHeartbeats 4000000
set_option autoImplicit false
/-! VW6: wishes of locked dicts; two ints sorted. -/
noncomputable section
namespace VS
open PySem PySem.Spec L2
section
variable {ρ : Env}
def lkQ (i : Nat) (ρ : Env) (Q : Rv D → Prop) (d : D) : Prop := match lockD d with
  | some d' => Q (.ok d' (ρ.set i d'))
  | none => fz d = true ∧ Q (.ok d ρ)
@[simp] theorem W_dLk {i : Nat} {Q : Rv D → Prop} : W (dLk i ρ) Q ↔ oQ (lkQ i ρ Q) ρ[i]? := by
  unfold dLk
  cases ρ[i]? with
  | none => simp
  | some d =>
    simp only [oQ_some, lkQ]
    cases lockD d with
    | some d' => simp
    | none => simp
@[simp] theorem W_dKeys {f : M D} {Q : Rv (List D) → Prop} : W (dKeys f ρ) Q ↔ W (f ρ) (bQ (fun d => optM (keysOf d)) Q) := W_bindM
/-- a locked dict keyed by pairs -/
def lP (ks : List (Int × Int)) (ls : List Int) : D := .lT (ks.map k2) (ls.map D.int)
@[simp] theorem u_isDctlP {ks : List (Int × Int)} {ls : List Int} : isDct (some (lP ks ls)) = true := rfl
@[simp] theorem nu_lP {ks : List (Int × Int)} {ls : List Int} : nunk (some (lP ks ls)) = true := rfl
@[simp] theorem fz_lP {ks : List (Int × Int)} {ls : List Int} : fz (lP ks ls) = true := by unfold lP; rw [fz]; simp
@[simp] theorem fr_lP {ks : List (Int × Int)} {ls : List Int} : freeze (lP ks ls) = lP ks ls := freeze_fz _ fz_lP
@[simp] theorem look_lP {ks : List (Int × Int)} {ls : List Int} {a b : Int} : lookD (lP ks ls) (.tup [.int a, .int b]) = (look ks ls (a, b)).map D.int := by
  unfold lP
  show look (ks.map k2) (ls.map D.int) (k2 (a, b)) = _
  rw [look_k2]
@[simp] theorem keys_lP {ks : List (Int × Int)} {ls : List Int} : keysOf (lP ks ls) = some (ks.map pD) := by
  show (if fzL (ls.map D.int) = true then some ((ks.map k2).map tupK) else none) = _
  rw [if_pos (by simp), List.map_map]
  rfl
@[simp] theorem lkQ_P {i : Nat} {Q : Rv D → Prop} {ks : List (Int × Int)} {ls : List Int} : lkQ i ρ Q (dP true ks ls) ↔ Q (.ok (lP ks ls) (ρ.set i (lP ks ls))) := by
  have e : lockD (dP true ks ls) = some (lP ks ls) := by
    unfold dP lP lockD
    simp
  unfold lkQ
  rw [e]
@[simp] theorem lkQ_lP {i : Nat} {Q : Rv D → Prop} {ks : List (Int × Int)} {ls : List Int} : lkQ i ρ Q (lP ks ls) ↔ Q (.ok (lP ks ls) ρ) := by
  have e : lockD (lP ks ls) = none := rfl
  unfold lkQ
  rw [e]
  simp
theorem sortT_rows {l : List R3} (h : l.length ≤ sizeLine) : gSortT [.tup (l.map rD)] = some (.lst true ((sort3 l).map rD)) := sorted_rows (o := true) h
/-! two ints, sorted -/
theorem leL_1 {a b : Int} : leL [a] [b] = decide (a ≤ b) := by
  unfold leL
  rw [decide_eq_decide, List.cons_le_cons_iff]
  have : ([] : List Int) ≤ [] := List.nil_le _
  constructor
  · rintro (h | ⟨h, _⟩) <;> omega
  · intro h
    by_cases e : a = b
    · exact .inr ⟨e, this⟩
    · left; omega
end
end VS

set_option Elab.async false
set_option linter.all false
set_option maxRecDepth 100000
set_option maxHeartbeats 4000000
noncomputable section
namespace G
open PySem PySem.Spec L2 VS
def kp (r : R3) : Int × Int := (r.1, r.2.1)
def lnR (r : R3) : Int := r.2.2
def Conn (many : Int) (rows : List R3) : Prop := ∀ S : Int → Prop, S 0 → (∀ r ∈ rows, S r.1 ↔ S r.2.1) → ∀ x, 0 ≤ x → x < many → S x
def at0 (os : List Int) (i : Nat) : Int := os[i]?.getD 0
def Tree (os : List Int) (rows : List R3) (k : Nat) : Prop := ∀ j, 1 ≤ j → j ≤ k → ∃ i, i < j ∧ (min (at0 os j) (at0 os i), max (at0 os j) (at0 os i)) ∈ rows.map kp
theorem Tree.conn {many : Int} {os : List Int} {rows : List R3} (ho : os.Perm (rangeI many.toNat)) (ht : Tree os rows (os.length - 1)) : Conn many rows := by
  intro S h0 hS
  have key : ∀ j, j < os.length → (S (at0 os j) ↔ S (at0 os 0)) := by
    intro j
    induction j using Nat.strongRecOn with
    | _ j ih =>
      intro hj
      by_cases z : j = 0
      · subst z; rfl
      · obtain ⟨i, hi, hm⟩ := ht j (by omega) (by omega)
        obtain ⟨r, hr, er⟩ := List.mem_map.mp hm
        have e := hS r hr
        simp only [kp, Prod.mk.injEq] at er
        rw [er.1, er.2] at e
        have e2 : S (at0 os j) ↔ S (at0 os i) := by
          by_cases c : at0 os j ≤ at0 os i
          · rw [Int.min_eq_left c, Int.max_eq_right c] at e; exact e
          · rw [Int.min_eq_right (by omega), Int.max_eq_left (by omega)] at e; exact e.symm
        exact e2.trans (ih i hi (by omega))
  have mem : ∀ x, 0 ≤ x → x < many → ∃ j, j < os.length ∧ at0 os j = x := by
    intro x h1 h2
    have hx : x ∈ os := ho.mem_iff.mpr (mem_rangeI.mpr ⟨h1, by omega⟩)
    obtain ⟨j, hj⟩ := List.getElem?_of_mem hx
    exact ⟨j, (List.getElem?_eq_some_iff.mp hj).1, by simp [at0, hj]⟩
  intro x h1 h2
  obtain ⟨j, hj, rfl⟩ := mem x h1 h2
  obtain ⟨i, hi, ei⟩ := mem 0 (by omega) (by omega)
  rw [key j hj, ← key i hi, ei]
  exact h0
theorem os_at {os : List Int} {many : Int} (ho : os.Perm (rangeI many.toNat)) (h1 : 1 ≤ many) (i : Nat) : 0 ≤ at0 os i ∧ at0 os i < many := by
  unfold at0
  cases e : os[i]? with
  | none => simp; omega
  | some x =>
    have hm : x ∈ rangeI many.toNat := ho.mem_iff.mp (List.mem_of_getElem? e)
    have := mem_rangeI.mp hm
    simp
    omega
theorem os_ne {os : List Int} {many : Int} (ho : os.Perm (rangeI many.toNat)) {i j : Nat} (hi : i < os.length) (hj : j < os.length) (h : i ≠ j) : at0 os i ≠ at0 os j := by
  unfold at0
  rw [List.getElem?_eq_getElem hi, List.getElem?_eq_getElem hj]
  simp
  intro e
  exact h ((List.getElem_inj (ho.nodup_iff.mpr (nodup_rangeI _))).mp e)
/-- the rows of a dict by its sorted keys -/
theorem look_row : ∀ {rows : List R3} {r : R3}, (rows.map kp).Nodup → r ∈ rows → look (rows.map kp) (rows.map lnR) (kp r) = some r.2.2
  | [], r, _, h => by cases h
  | q :: rows, r, nd, h => by
    rw [List.map_cons, List.map_cons, look]
    rcases List.mem_cons.mp h with rfl | h
    · rw [if_pos rfl]; rfl
    · have n := (List.nodup_cons.mp (by rw [← List.map_cons]; exact nd))
      rw [if_neg (fun e => n.1 (by rw [e]; exact List.mem_map_of_mem h))]
      exact look_row n.2 h
theorem rows_sorted {rows : List R3} (nd : (rows.map kp).Nodup) : (sP (rows.map kp)).map (fun p => (p.1, p.2, (look (rows.map kp) (rows.map lnR) p).getD 0)) = sort3 rows := by
  refine (sort3_eq ?_ ?_).symm
  · have e : (rows.map kp).map (fun p => (p.1, p.2, (look (rows.map kp) (rows.map lnR) p).getD 0)) = rows := by
      rw [List.map_map]
      conv => rhs; rw [← List.map_id rows]
      refine List.map_congr_left fun r hr => ?_
      show ((kp r).1, (kp r).2, (look (rows.map kp) (rows.map lnR) (kp r)).getD 0) = r
      rw [look_row nd hr]
      rfl
    have p := ((sP_perm (rows.map kp)).map (fun p => (p.1, p.2, (look (rows.map kp) (rows.map lnR) p).getD 0))).symm
    rw [e] at p
    exact p
  · rw [List.pairwise_map]
    exact (sP_lt nd).imp fun h => leL_r3 h
end G

set_option Elab.async false
set_option linter.all false
set_option maxRecDepth 100000
set_option maxHeartbeats 4000000
noncomputable section
namespace G
open PySem PySem.Spec L2 VS
def bt0 (fs : List Bool) (i : Int) : Bool := fs[i.toNat]?.getD false
def leB (fs gs : List Bool) : Prop := ∀ i : Nat, fs[i]? = some true → gs[i]? = some true
theorem cnt_le : ∀ (fs gs : List Bool), fs.length = gs.length → leB fs gs → fs.count true ≤ gs.count true ∧ (fs.count true = gs.count true → fs = gs)
  | [], [], _, _ => by simp
  | [], _ :: _, h, _ => by cases h
  | _ :: _, [], h, _ => by cases h
  | a :: fs, b :: gs, h, l => by
    obtain ⟨i1, i2⟩ := cnt_le fs gs (Nat.succ.inj h) fun i q => l (i + 1) q
    have l0 := l 0
    cases a <;> cases b <;> simp at l0 ⊢
    · exact ⟨i1, i2⟩
    · exact ⟨by omega, by omega⟩
    · exact ⟨i1, i2⟩
theorem cnt_all {fs : List Bool} (h : fs.length ≤ fs.count true) : fs = List.replicate fs.length true := by
  have h1 : fs.count true = fs.length := by have := List.count_le_length (a := true) (l := fs); omega
  exact List.eq_replicate_iff.mpr ⟨rfl, fun b hb => ((List.count_eq_length.mp h1) b hb).symm⟩
theorem mulF {n : Int} (h0 : 0 ≤ n) (h1 : n ≤ 1000) : gMulA (.lst true [.bl false]) (.int n) = some (.lst true ((List.replicate n.toNat false).map D.bl)) := by
  have h63 : in63 n := ⟨by omega, by omega⟩
  have hs : [D.bl false].length * n.toNat ≤ sizeLine := le_size (by simp; omega)
  show (if in63 n ∧ [D.bl false].length * n.toNat ≤ sizeLine ∧ scAll [D.bl false] = true then some (D.lst true (List.replicate n.toNat [D.bl false]).flatten) else none) = _
  rw [if_pos ⟨h63, hs, rfl⟩]
  congr 2
  generalize n.toNat = k
  induction k with
  | zero => rfl
  | succ k ih => rw [List.replicate_succ, List.replicate_succ, List.flatten_cons, ih]; rfl
theorem at_bl {fs : List Bool} {i : Int} (h0 : 0 ≤ i) (h : i < fs.length) : atI (fs.map D.bl) i = some (.bl (bt0 fs i)) := by
  have hi : i.toNat < fs.length := by omega
  unfold bt0
  rw [List.getElem?_eq_getElem hi]
  exact atI_lt h0 (by simp [hi])
theorem put_bl {fs : List Bool} {i : Int} {b : Bool} (h0 : 0 ≤ i) (h : i < fs.length) : VS.putAt (.lst true (fs.map D.bl)) (.int i) (.bl b) = some (.lst true ((fs.set i.toNat b).map D.bl)) := by
  show (ixN (fs.map D.bl).length i).map (fun j => D.lst true ((fs.map D.bl).set j (.bl b))) = _
  rw [ixN_lt h0 (by simpa using h)]
  simp
end G

set_option Elab.async false
set_option linter.all false
set_option maxRecDepth 100000
set_option maxHeartbeats 4000000
noncomputable section
namespace G
open PySem PySem.Spec L2 VS
/-! how far: the plain reckoning -/
def fA (fs : List (Option Int)) (x : Int) : Option Int := fs[x.toNat]?.getD none
def nearL (rows : List R3) (x : Int) : List (Int × Int) := rows.flatMap fun r => (if r.1 = x then [(r.2.1, r.2.2)] else []) ++ (if r.2.1 = x then [(r.1, r.2.2)] else [])
theorem near_mem {rows : List R3} {x o l : Int} : (o, l) ∈ nearL rows x ↔ ∃ r ∈ rows, (r.1 = x ∧ r.2.1 = o ∧ r.2.2 = l) ∨ (r.2.1 = x ∧ r.1 = o ∧ r.2.2 = l) := by
  unfold nearL
  rw [List.mem_flatMap]
  constructor
  · rintro ⟨r, hr, h⟩
    refine ⟨r, hr, ?_⟩
    rcases List.mem_append.mp h with h | h
    · split at h
      · rename_i e
        simp at h
        exact .inl ⟨e, h.1.symm, h.2.symm⟩
      · cases h
    · split at h
      · rename_i e
        simp at h
        exact .inr ⟨e, h.1.symm, h.2.symm⟩
      · cases h
  · rintro ⟨r, hr, ⟨h1, h2, h3⟩ | ⟨h1, h2, h3⟩⟩
    · exact ⟨r, hr, List.mem_append_left _ (by rw [if_pos h1, h2, h3]; simp)⟩
    · exact ⟨r, hr, List.mem_append_right _ (by rw [if_pos h1, h2, h3]; simp)⟩
theorem near_symm {rows : List R3} {x o l : Int} (h : (o, l) ∈ nearL rows x) : (x, l) ∈ nearL rows o := by
  obtain ⟨r, hr, ⟨h1, h2, h3⟩ | ⟨h1, h2, h3⟩⟩ := near_mem.mp h
  · exact near_mem.mpr ⟨r, hr, .inr ⟨h2, h1, h3⟩⟩
  · exact near_mem.mpr ⟨r, hr, .inl ⟨h2, h1, h3⟩⟩
/-- what a web keeps -/
structure Wb (m : Int) (rows : List R3) : Prop where
  m1 : 1 ≤ m
  m2 : m ≤ 60
  en : ∀ r ∈ rows, 0 ≤ r.1 ∧ r.1 < r.2.1 ∧ r.2.1 < m
  ln : ∀ r ∈ rows, 1 ≤ r.2.2 ∧ r.2.2 ≤ 1000000000000000000000000000000
  le : rows.length ≤ 220
  cn : Conn m rows
theorem Wb.near {m : Int} {rows : List R3} (w : Wb m rows) {x o l : Int} (h : (o, l) ∈ nearL rows x) : 0 ≤ x ∧ x < m ∧ 0 ≤ o ∧ o < m ∧ x ≠ o ∧ 1 ≤ l := by
  obtain ⟨r, hr, ⟨h1, h2, h3⟩ | ⟨h1, h2, h3⟩⟩ := near_mem.mp h
  · have := w.en r hr
    have := w.ln r hr
    omega
  · have := w.en r hr
    have := w.ln r hr
    omega
/-- so long is some way from p to x -/
inductive Wk (rows : List R3) (p : Int) : Int → Int → Prop
  | nil : Wk rows p p 0
  | step {x o l d : Int} : (o, l) ∈ nearL rows x → Wk rows p x d → Wk rows p o (d + l)
theorem Wk.nonneg {m : Int} {rows : List R3} (w : Wb m rows) {p x d : Int} (h : Wk rows p x d) : 0 ≤ d := by
  induction h with
  | nil => omega
  | step hn _ ih =>
    have := w.near hn
    omega
theorem Wk.le {rows : List R3} {p x d : Int} {f : Int → Int} (h0 : f p = 0) (hf : ∀ x o l, (o, l) ∈ nearL rows x → f o ≤ f x + l) (h : Wk rows p x d) : f x ≤ d := by
  induction h with
  | nil => omega
  | step hn _ ih =>
    have := hf _ _ _ hn
    omega
/-- one step of the search, from the place h that is a far -/
def rlx (a : Int) (fs : List (Option Int)) (q : Int × Int) : List (Option Int) := match fA fs q.1 with
  | none => fs.set q.1.toNat (some (a + q.2))
  | some b => if a + q.2 < b then fs.set q.1.toNat (some (a + q.2)) else fs
theorem fA_set {fs : List (Option Int)} {o x : Int} {v : Option Int} (h0 : 0 ≤ o) (h1 : o < fs.length) (hx : 0 ≤ x) : fA (fs.set o.toNat v) x = if x = o then v else fA fs x := by
  unfold fA
  by_cases e : x = o
  · subst e
    rw [if_pos rfl, List.getElem?_set_self (by omega)]
    rfl
  · rw [if_neg e, List.getElem?_set_ne (by omega)]
theorem rlx_len {a : Int} {fs : List (Option Int)} {q : Int × Int} : (rlx a fs q).length = fs.length := by
  unfold rlx
  split
  · simp
  · split <;> simp
structure Dj (m : Int) (rows : List R3) (p : Int) (fs : List (Option Int)) (ds : List Bool) : Prop where
  lf : fs.length = m.toNat
  ld : ds.length = m.toNat
  src : fA fs p = some 0
  wk : ∀ x d, 0 ≤ x → fA fs x = some d → Wk rows p x d
  dn : ∀ x, 0 ≤ x → bt0 ds x = true → fA fs x ≠ none
  rx : ∀ x o l a, (o, l) ∈ nearL rows x → bt0 ds x = true → fA fs x = some a → ∃ b, fA fs o = some b ∧ b ≤ a + l
  od : ∀ x y a b, 0 ≤ x → 0 ≤ y → bt0 ds x = true → bt0 ds y = false → fA fs x = some a → fA fs y = some b → a ≤ b
/-- in the midst of a turn -/
structure Mid (m : Int) (rows : List R3) (p : Int) (f0 : List (Option Int)) (ds : List Bool) (a : Int) (pre : List (Int × Int)) (fs : List (Option Int)) : Prop where
  lf : fs.length = m.toNat
  mono : ∀ x b, 0 ≤ x → fA f0 x = some b → ∃ b', fA fs x = some b' ∧ b' ≤ b
  keep : ∀ x, 0 ≤ x → bt0 ds x = true → fA fs x = fA f0 x
  proc : ∀ q ∈ pre, ∃ b, fA fs q.1 = some b ∧ b ≤ a + q.2
  wk : ∀ x d, 0 ≤ x → fA fs x = some d → Wk rows p x d
  lo : ∀ x d, 0 ≤ x → bt0 ds x = false → fA fs x = some d → a ≤ d
theorem Mid.step {m : Int} {rows : List R3} {p h a : Int} {f0 fs : List (Option Int)} {ds : List Bool} {pre : List (Int × Int)} {q : Int × Int} (w : Wb m rows) (hd : ∀ x, 0 ≤ x → bt0 ds x = true → ∃ b, fA f0 x = some b ∧ b ≤ a) (hh : bt0 ds h = true) (h0 : 0 ≤ h) (ha : fA f0 h = some a)
    (M : Mid m rows p f0 ds a pre fs) (hq : q ∈ nearL rows h) : Mid m rows p f0 ds a (pre ++ [q]) (rlx a fs q) := by
  obtain ⟨o, l⟩ := q
  obtain ⟨_, _, o0, o1, hne, l1⟩ := w.near hq
  have wkh : Wk rows p h a := M.wk h a h0 (by rw [M.keep h h0 hh]; exact ha)
  have wko : Wk rows p o (a + l) := .step hq wkh
  have ol : o < fs.length := by have := M.lf; have := w.m1; omega
  -- what a store does
  have main : (bt0 ds o = false) → (∀ b, fA fs o = some b → a + l < b) → Mid m rows p f0 ds a (pre ++ [(o, l)]) (fs.set o.toNat (some (a + l))) := fun nd hb => by
    have fs' : ∀ x, 0 ≤ x → fA (fs.set o.toNat (some (a + l))) x = if x = o then some (a + l) else fA fs x := fun x hx => fA_set o0 ol hx
    refine ⟨by rw [List.length_set]; exact M.lf, fun x b hx hb0 => ?_, fun x hx hdx => ?_, fun q hq' => ?_, fun x d hx hd' => ?_, fun x d hx hn hd' => ?_⟩
    · obtain ⟨b', h1, h2⟩ := M.mono x b hx hb0
      rw [fs' x hx]
      by_cases e : x = o
      · subst e
        rw [if_pos rfl]
        have := hb b' h1
        exact ⟨_, rfl, by omega⟩
      · rw [if_neg e]; exact ⟨b', h1, h2⟩
    · rw [fs' x hx, if_neg (fun e => by rw [e, nd] at hdx; cases hdx)]
      exact M.keep x hx hdx
    · rcases List.mem_append.mp hq' with hq' | hq'
      · obtain ⟨b, h1, h2⟩ := M.proc q hq'
        by_cases e : q.1 = o
        · rw [e, fs' o o0, if_pos rfl]
          rw [e] at h1
          have := hb b h1
          exact ⟨_, rfl, by omega⟩
        · by_cases hx : 0 ≤ q.1
          · rw [fs' q.1 hx, if_neg e]; exact ⟨b, h1, h2⟩
          · have e1 : q.1.toNat = 0 := by omega
            by_cases e2 : o = 0
            · have e3 : fA (fs.set o.toNat (some (a + l))) q.1 = some (a + l) := by
                have := fs' 0 (by omega)
                rw [if_pos e2.symm] at this
                unfold fA at this ⊢
                rw [e1]
                simpa using this
              have h1' : fA fs o = some b := by
                unfold fA at h1 ⊢
                rw [e1] at h1
                rw [e2]
                simpa using h1
              have := hb b h1'
              exact ⟨_, e3, by omega⟩
            · have e3 : fA (fs.set o.toNat (some (a + l))) q.1 = fA fs q.1 := by
                have := fs' 0 (by omega)
                rw [if_neg (fun z => e2 z.symm)] at this
                unfold fA at this ⊢
                rw [e1]
                simpa using this
              rw [e3]; exact ⟨b, h1, h2⟩
      · rw [List.mem_singleton] at hq'
        subst hq'
        exact ⟨a + l, by rw [fs' o o0, if_pos rfl], by omega⟩
    · rw [fs' x hx] at hd'
      by_cases e : x = o
      · rw [if_pos e] at hd'
        cases hd'
        rw [e]; exact wko
      · rw [if_neg e] at hd'
        exact M.wk x d hx hd'
    · rw [fs' x hx] at hd'
      by_cases e : x = o
      · rw [if_pos e] at hd'
        cases hd'
        omega
      · rw [if_neg e] at hd'
        exact M.lo x d hx hn hd'
  have nodone : (∀ b, fA fs o = some b → a + l < b) → bt0 ds o = false := fun hb => by
    cases e : bt0 ds o with
    | false => rfl
    | true =>
      obtain ⟨b, h1, h2⟩ := hd o o0 e
      rw [← M.keep o o0 e] at h1
      have := hb b h1
      omega
  unfold rlx
  cases e : fA fs o with
  | none =>
    simp only [e]
    have hb : ∀ b, fA fs o = some b → a + l < b := fun b z => by rw [e] at z; cases z
    exact main (nodone hb) hb
  | some b =>
    simp only [e]
    by_cases c : a + l < b
    · rw [if_pos c]
      have hb : ∀ b, fA fs o = some b → a + l < b := fun b' z => by rw [e] at z; cases z; exact c
      exact main (nodone hb) hb
    · rw [if_neg c]
      refine ⟨M.lf, M.mono, M.keep, fun q hq' => ?_, M.wk, M.lo⟩
      rcases List.mem_append.mp hq' with hq' | hq'
      · exact M.proc q hq'
      · rw [List.mem_singleton] at hq'
        subst hq'
        exact ⟨b, e, by omega⟩
end G

set_option Elab.async false
set_option linter.all false
set_option maxRecDepth 100000
set_option maxHeartbeats 4000000
noncomputable section
namespace G
open PySem PySem.Spec L2 VS
def dR (o : Bool) (rows : List R3) : D := dP o (rows.map kp) (rows.map lnR)
@[simp] theorem nu_dR {o : Bool} {rows : List R3} : nunk (some (dR o rows)) = true := rfl
@[simp] theorem dct_dR {o : Bool} {rows : List R3} : isDct (some (dR o rows)) = true := rfl
@[simp] theorem fr_dR {o : Bool} {rows : List R3} : freeze (dR o rows) = dR false rows := by unfold dR; simp
@[simp] theorem fz_dR {rows : List R3} : fz (dR false rows) = true := by unfold dR; simp
@[simp] theorem len_dR {o : Bool} {rows : List R3} : lenD (dR o rows) = some rows.length := by unfold dR; simp
theorem look_some {κ α : Type} [DecidableEq κ] (ks : List κ) (as : List α) (k : κ) (h : ks.length = as.length) : (look ks as k).isSome = decide (k ∈ ks) := by
  by_cases e : k ∈ ks
  · obtain ⟨a, ha⟩ := look_mem ks as k h e
    simp [ha, e]
  · simp [look_no ks as k e, e]
theorem putL_new {κ α : Type} [DecidableEq κ] : ∀ (ks : List κ) (as : List α) (k : κ) (a : α), ks.length = as.length → k ∉ ks → putL ks as k a = (ks ++ [k], as ++ [a])
  | [], [], k, a, _, _ => by simp [putL]
  | [], _ :: _, k, a, h, _ => by cases h
  | _ :: _, [], k, a, h, _ => by cases h
  | k' :: ks, x :: as, k, a, h, n => by
    simp at n
    rw [putL, if_neg (fun e => n.1 e.symm), putL_new ks as k a (Nat.succ.inj h) n.2]
    rfl
theorem has_dR {o : Bool} {rows : List R3} {a b : Int} : hasD (dR o rows) (.tup [.int a, .int b]) = some (decide ((a, b) ∈ rows.map kp)) := by
  show some (look ((rows.map kp).map k2) ((rows.map lnR).map D.int) (k2 (a, b))).isSome = _
  rw [look_k2, Option.isSome_map, look_some _ _ _ (by simp)]
  congr 1
  exact decide_eq_decide.mpr Iff.rfl
theorem put_dR {rows : List R3} {a b l : Int} (hs : rows.length < sizeLine) (n : (a, b) ∉ rows.map kp) : VS.putAt (dR true rows) (.tup [.int a, .int b]) (.int l) = some (dR true (rows ++ [(a, b, l)])) := by
  unfold dR
  rw [u_putP, if_pos (by simpa using hs), putL_new _ _ _ _ (by simp) n]
  simp [kp, lnR]
end G

set_option Elab.async false
set_option linter.all false
set_option maxRecDepth 100000
set_option maxHeartbeats 4000000
noncomputable section
namespace G
open PySem PySem.Spec L2 VS
def leI (a b : Int) : Bool := decide (a ≤ b)
def sortI (ns : List Int) : List Int := ns.mergeSort leI
theorem sortI_perm (ns : List Int) : (sortI ns).Perm ns := List.mergeSort_perm _ _
theorem sortI_sorted (ns : List Int) : (sortI ns).Pairwise fun a b => a ≤ b := by
  have := List.pairwise_mergeSort (le := leI) (fun x y z h1 h2 => by unfold leI at *; simp at *; omega) (fun x y => by unfold leI; simp; omega) ns
  exact this.imp fun h => by unfold leI at h; simpa using h
theorem leD_int (a b : Int) : leD (.int a) (.int b) = leI a b := by
  unfold leD leI
  exact congrFun (congrFun (PySem.W.dataLe_int (β := Int) (fun b => b)) a) b
theorem sorted_ints {o : Bool} {ns : List Int} (h : ns.length ≤ sizeLine) : gSorted [.lst o (ns.map D.int)] = some (.lst true ((sortI ns).map D.int)) := by
  show (sortD (ns.map D.int)).map (fun ys => D.lst true ys) = _
  have e : sortD (ns.map D.int) = some ((sortI ns).map D.int) := by
    unfold sortD
    rw [dats_ints]
    simp only
    rw [if_pos]
    · congr 1
      exact (List.map_mergeSort (f := D.int) (r := leI) (s := leD) (l := ns) (fun x _ y _ => (leD_int x y).symm)).symm
    · refine ⟨?_, by rw [List.length_map]; exact h⟩
      rw [Bool.and_eq_true, Bool.and_eq_true]
      refine ⟨⟨?_, ?_⟩, ?_⟩
      · unfold alikeB
        rw [List.all_eq_true]
        intro x hx
        rw [List.all_eq_true]
        intro y hy
        obtain ⟨a, _, rfl⟩ := List.mem_map.mp hx
        obtain ⟨b, _, rfl⟩ := List.mem_map.mp hy
        rfl
      · unfold sortB
        rw [Bool.or_eq_true]
        right
        rw [List.all_eq_true]
        intro x hx
        obtain ⟨a, _, rfl⟩ := List.mem_map.mp hx
        rfl
      · rw [List.all_eq_true]
        intro x hx
        obtain ⟨a, _, rfl⟩ := List.mem_map.mp hx
        simp [PyData.depth]
  rw [e]
  rfl
end G

set_option Elab.async false
set_option linter.all false
set_option maxRecDepth 100000
set_option maxHeartbeats 4000000
noncomputable section
namespace G
open PySem PySem.Spec L2 VS
def tD (gs : List Int) (l s t c : Int) : D := .dK true [.inr "great", .inr "left", .inr "seed", .inr "salt", .inr "count"] [.lst true (gs.map D.int), .int l, .int s, .int t, .int c]
def tDf (gs : List Int) (l s t c : Int) : D := .dK false [.inr "great", .inr "left", .inr "seed", .inr "salt", .inr "count"] [.lst false (gs.map D.int), .int l, .int s, .int t, .int c]
section
variable {gs : List Int} {l s t c x : Int}
theorem lk0 : lookD (tDf gs l s t c) (.str "great") = some (.lst false (gs.map D.int)) := by rfl
theorem lk1 : lookD (tD gs l s t c) (.str "left") = some (.int l) := by rfl
theorem lk2 : lookD (tD gs l s t c) (.str "seed") = some (.int s) := by rfl
theorem lk3 : lookD (tD gs l s t c) (.str "salt") = some (.int t) := by rfl
theorem lk4 : lookD (tD gs l s t c) (.str "count") = some (.int c) := by rfl
theorem pt1 : VS.putAt (tD gs l s t c) (.str "left") (.int x) = some (tD gs x s t c) := by
  show (if 5 < sizeLine then some _ else none) = _
  rw [if_pos (lt_size (by omega))]
  rfl
theorem pt4 : VS.putAt (tD gs l s t c) (.str "count") (.int x) = some (tD gs l s t x) := by
  show (if 5 < sizeLine then some _ else none) = _
  rw [if_pos (lt_size (by omega))]
  rfl
@[simp] theorem nu_tD : nunk (some (tD gs l s t c)) = true := rfl
@[simp] theorem nu_tDf : nunk (some (tDf gs l s t c)) = true := rfl
@[simp] theorem dct_tD : isDct (some (tD gs l s t c)) = true := rfl
@[simp] theorem dct_tDf : isDct (some (tDf gs l s t c)) = true := rfl
@[simp] theorem fr_tD : freeze (tD gs l s t c) = tDf gs l s t c := by unfold tD tDf; simp
@[simp] theorem fz_tDf : fz (tDf gs l s t c) = true := by unfold tDf; simp
@[simp] theorem fr_tDf : freeze (tDf gs l s t c) = tDf gs l s t c := freeze_fz _ fz_tDf
end
structure Pot where
  gs : List Int
  l : Int
  s : Int
  t : Int
  c : Int
def potD (p : Pot) : D := tD p.gs p.l p.s p.t p.c
@[simp] theorem nu_pot {s : Pot} : nunk (some (potD s)) = true := rfl
theorem mt0 {g : Int} {gs : List Int} {l s t c : Int} {m : D} {a b : D} : mtK 0 (.inr "great") gPop [.int 0] [tD (g :: gs) l s t c, m, a, b] = some (.ok (.int g) [tD gs l s t c, m, a, b]) := by
  have e : gPop ((g :: gs).map D.int) [.int 0] = some (.int g, gs.map D.int) := by
    unfold gPop
    simp only
    rw [if_pos (in63_bd (by omega) (by omega)), ixN_lt (by omega) (by simp)]
    simp
  unfold mtK
  simp only [List.getD_cons_zero]
  unfold tD
  simp only [look]
  rw [List.map_cons] at e
  simp [e, putL]
theorem md3 (x : Int) : in64 (x % 998244353) := by
  have a := Int.emod_nonneg x (show (998244353 : Int) ≠ 0 by decide)
  have b := Int.emod_lt_of_pos x (show (0 : Int) < 998244353 by decide)
  generalize x % 998244353 = y at *
  exact in64_bd (by omega) (by omega)
theorem take_w {s : Pot} {m : Int} {Q : Fo → Prop} (hm : 0 < m) (hm2 : m ≤ 1000000) (h : ∀ x s', 0 ≤ x → x < m → Q (.ok (.int x) [potD s', .int m])) : W (F_law_take [potD s, .int m]) Q := by
  obtain ⟨gs, l, s, t, c⟩ := s
  have h30 : in30 m := ⟨hm, by omega⟩
  have ok : ∀ g gs a b, okK 0 (.inr "great") [tD (g :: gs) l s t (c + 1), .int m, a, b] = true := fun _ _ _ _ => rfl
  have dig : ∀ gs l, 0 < l → Q (.ok (.int (l % m)) [tD gs (l / m) s t (c + 1), .int m]) := fun gs l _ => h _ ⟨gs, l / m, s, t, c + 1⟩ (Int.emod_nonneg _ (by omega)) (Int.emod_lt_of_pos _ hm)
  have mix : ∀ gs l (y : Int), Q (.ok (.int (y % m)) [tD gs l s t (c + 1), .int m]) := fun gs l y => h _ ⟨gs, l, s, t, c + 1⟩ (Int.emod_nonneg _ (by omega)) (Int.emod_lt_of_pos _ hm)
  have i1 : in64 7919 := in64_bd (by omega) (by omega)
  have i2 : in64 23 := in64_bd (by omega) (by omega)
  by_cases c0 : l = 0
  · subst c0
    cases gs with
    | nil =>
      simp [F_law_take, body_law_take, a_law_take, potD, lk0, lk1, lk2, lk3, lk4, pt1, pt4, ite_app, W_if, lendEnv, hid, hm, i1, i2, md3]
      exact mix _ _ _
    | cons g gs =>
      simp [F_law_take, body_law_take, a_law_take, potD, lk0, lk1, lk2, lk3, lk4, pt1, pt4, ite_app, W_if, lendEnv, hid, mt0, ok, hm, h30, i1, i2, md3]
      exact ⟨fun z => dig _ _ z, fun _ => mix _ _ _⟩
  · simp [F_law_take, body_law_take, a_law_take, potD, lk1, lk2, lk3, lk4, pt1, pt4, ite_app, W_if, c0, hm, h30, i1, i2, md3]
    exact ⟨fun z => dig _ _ z, fun _ => mix _ _ _⟩
theorem md4 (x : Int) : in64 (x % 1000000000039) := by
  have a := Int.emod_nonneg x (show (1000000000039 : Int) ≠ 0 by decide)
  have b := Int.emod_lt_of_pos x (show (0 : Int) < 1000000000039 by decide)
  generalize x % 1000000000039 = y at *
  exact in64_bd (by omega) (by omega)
theorem pot_w {ns : List Int} {t : Int} {Q : Fo → Prop} (hl : ns.length ≤ 63) (h : ∀ s, Q (.ok (potD s) [.scr (ns.map D.int), .int t])) : W (F_law_pot [.scr (ns.map D.int), .int t]) Q := by
  have i1 : in64 137 := in64_bd (by omega) (by omega)
  simp [F_law_pot, body_law_pot, a_law_pot]
  refine W_forL (f := D.int) (fun p ρ => ∃ (s : Int) (y : D), ρ = [.scr (ns.map D.int), .int t, .int s, y, .unk] ∧ in64 s) ⟨_, _, rfl, in64_bd (by omega) (by omega)⟩ ?_ ?_
  · rintro p x post ρ e ⟨s, y, rfl, hs⟩ J hJ
    simp [hs, i1]
    exact hJ _ ⟨_, _, rfl, md4 _⟩
  · rintro ρ ⟨s, y, rfl, hs⟩
    simp
    refine W_lcMap (f := D.int) (fun x => decide (x ≥ 1000000000000000000)) D.int (le_size (by omega)) ?_ ?_
    · intro x hx J acc h1 h2
      simp
      split
      · rename_i c; exact h1 (by simpa using c)
      · rename_i c; exact h2 (by simpa using c)
    · simp
      exact h ⟨_, 0, s, t, 0⟩
theorem length_w {s : Pot} {way : Int} {Q : Fo → Prop} (h : ∀ (l : Int) s', 1 ≤ l → l ≤ 1000000000000000000000000000000 → Q (.ok (.int l) [potD s', .int way])) : W (F_law_length [potD s, .int way]) Q := by
  by_cases c0 : way = 0
  · subst c0
    simp [F_law_length, body_law_length, a_law_length, ite_app]
    exact h _ _ (by omega) (by omega)
  · by_cases c1 : way = 1
    · subst c1
      simp [F_law_length, body_law_length, a_law_length, ite_app]
      refine take_w (by omega) (by omega) fun x s2 x0 x1 => ?_
      simp
      exact h _ _ (by omega) (by omega)
    · by_cases c2 : way = 2
      · subst c2
        simp [F_law_length, body_law_length, a_law_length, ite_app]
        refine take_w (by omega) (by omega) fun x s2 x0 x1 => ?_
        simp
        refine W_pick (l := [1, 2, 4, 8, 16, 32, 64, 1000000000]) (n := 8) rfl x0 x1 fun z hz => ?_
        simp at hz
        simp
        exact h _ _ (by omega) (by omega)
      · simp [F_law_length, body_law_length, a_law_length, ite_app, c0, c1, c2]
        refine take_w (by omega) (by omega) fun x s2 x0 x1 => ?_
        simp
        exact h _ _ (by omega) (by omega)
theorem order_w {s : Pot} {many : Int} {Q : Fo → Prop} (h0 : 0 ≤ many) (h60 : many ≤ 1000) (h : ∀ (os : List Int) s', os.Perm (rangeI many.toNat) → Q (.ok (.lst true (os.map D.int)) [potD s', .int many])) : W (F_law_order [potD s, .int many]) Q := by
  have hR := inR_le h0 (by omega)
  simp [F_law_order, body_law_order, a_law_order, hR]
  refine W_forN (fun k ρ => ∃ (s : Pot) (os : List Int) (y : D), ρ = [potD s, .int many, .lst true (os.map D.int), y] ∧ os.Perm (rangeI k)) ⟨s, [], _, rfl, .refl _⟩ ?_ ?_
  · rintro k ρ hk ⟨s, os, y, rfl, hos⟩ J hJ
    have hol : os.length = k := by rw [hos.length_eq, len_rangeI]
    have hs : os.length < sizeLine := lt_size (by omega)
    simp
    refine take_w (by omega) (by omega) fun x s2 x0 x1 => ?_
    have h63 : in63 x := in63_bd (by omega) (by omega)
    simp [hs, x0, h63]
    refine hJ _ ⟨s2, os.take x.toNat ++ (k : Int) :: os.drop x.toNat, .int k, by simp, ?_⟩
    have p := ins_perm os x.toNat (k : Int)
    rw [List.append_assoc] at p
    exact p.trans ((hos.cons _).trans (rangeI_succ k).symm)
  · rintro ρ ⟨s, os, y, rfl, hos⟩
    simp
    exact h os s hos
end G

set_option Elab.async false
set_option linter.all false
set_option maxRecDepth 100000
set_option maxHeartbeats 4000000
noncomputable section
namespace G
open PySem PySem.Spec L2 VS
/-! webs of the pot family: what the drawn dicts hold, renamed webs -/
structure Rb (many : Int) (rows : List R3) : Prop where
  nd : (rows.map kp).Nodup
  en : ∀ r ∈ rows, 0 ≤ r.1 ∧ r.1 < r.2.1 ∧ r.2.1 < many
  ln : ∀ r ∈ rows, 1 ≤ r.2.2 ∧ r.2.2 ≤ 1000000000000000000000000000000
theorem Rb.nil {many : Int} : Rb many [] := ⟨by simp, by simp, by simp⟩
theorem Rb.mono {m n : Int} {rows : List R3} (h : Rb m rows) (hm : m ≤ n) : Rb n rows := ⟨h.nd, fun r hr => by have := h.en r hr; omega, h.ln⟩
theorem Rb.add {many : Int} {rows : List R3} {a b l : Int} (h : Rb many rows) (n : (a, b) ∉ rows.map kp) (h1 : 0 ≤ a ∧ a < b ∧ b < many) (hl : 1 ≤ l ∧ l ≤ 1000000000000000000000000000000) : Rb many (rows ++ [(a, b, l)]) := by
  refine ⟨?_, ?_, ?_⟩
  · rw [List.map_append]
    refine List.nodup_append.mpr ⟨h.nd, by simp, ?_⟩
    intro x hx y hy e
    simp [kp] at hy
    subst e
    subst hy
    exact n hx
  · intro r hr
    rcases List.mem_append.mp hr with hr | hr
    · exact h.en r hr
    · rw [List.mem_singleton] at hr
      subst hr
      exact h1
  · intro r hr
    rcases List.mem_append.mp hr with hr | hr
    · exact h.ln r hr
    · rw [List.mem_singleton] at hr
      subst hr
      exact hl
theorem Conn.sub {many : Int} {rows more : List R3} (h : Conn many rows) : Conn many (rows ++ more) := fun S h0 hS => h S h0 fun r hr => hS r (List.mem_append_left _ hr)
/-- all places hang together, from any of them -/
theorem Conn.all {many : Int} {rows : List R3} (h : Conn many rows) {S : Int → Prop} (hS : ∀ r ∈ rows, S r.1 ↔ S r.2.1) {x y : Int} (x0 : 0 ≤ x) (x1 : x < many) (y0 : 0 ≤ y) (y1 : y < many) : S x ↔ S y := by
  have k : ∀ z, 0 ≤ z → z < many → (S z ↔ S 0) := h (fun z => S z ↔ S 0) Iff.rfl fun r hr => by rw [hS r hr]
  exact (k x x0 x1).trans (k y y0 y1).symm
/-- a place more, tied to one that was there -/
theorem Conn.grow {m : Int} {rows : List R3} (h : Conn m rows) (more : List R3) (n : Int) (hm : 1 ≤ m) (hx : ∀ S : Int → Prop, (∀ r ∈ more, S r.1 ↔ S r.2.1) → (∀ x, 0 ≤ x → x < m → S x) → ∀ x, m ≤ x → x < n → S x) : Conn n (rows ++ more) := by
  intro S h0 hS x x0 x1
  have old := h S h0 fun r hr => hS r (List.mem_append_left _ hr)
  by_cases c : x < m
  · exact old x x0 c
  · exact hx S (fun r hr => hS r (List.mem_append_right _ hr)) old x (by omega) x1
theorem Conn.one : Conn 1 [] := by
  intro S h0 _ x x0 x1
  have : x = 0 := by omega
  rw [this]; exact h0
theorem conn_kp {many : Int} {rows rows' : List R3} (e : rows'.map kp = rows.map kp) (h : Conn many rows) : Conn many rows' := by
  intro S h0 hS
  refine h S h0 fun r hr => ?_
  have : kp r ∈ rows'.map kp := by rw [e]; exact List.mem_map_of_mem hr
  obtain ⟨q, hq, eq⟩ := List.mem_map.mp this
  have := hS q hq
  simp only [kp, Prod.mk.injEq] at eq
  rw [eq.1, eq.2] at this
  exact this
def nmr (os : List Int) (r : R3) : R3 := (min (at0 os r.1.toNat) (at0 os r.2.1.toNat), max (at0 os r.1.toNat) (at0 os r.2.1.toNat), r.2.2)
theorem at0_inj {os : List Int} {many : Int} (ho : os.Perm (rangeI many.toNat)) {a b : Int} (a0 : 0 ≤ a) (a1 : a < many) (b0 : 0 ≤ b) (b1 : b < many) (h : at0 os a.toNat = at0 os b.toNat) : a = b := by
  have hl : os.length = many.toNat := by rw [ho.length_eq, len_rangeI]
  by_cases e : a.toNat = b.toNat
  · omega
  · exact absurd h (os_ne ho (by omega) (by omega) e)
theorem nmr_rb {os : List Int} {many : Int} {rows : List R3} (h1 : 1 ≤ many) (ho : os.Perm (rangeI many.toNat)) (h : Rb many rows) : Rb many (rows.map (nmr os)) := by
  refine ⟨?_, ?_, ?_⟩
  · rw [List.map_map]
    have h0 := h.nd
    unfold List.Nodup at h0 ⊢
    rw [List.pairwise_map] at h0 ⊢
    refine h0.imp_of_mem fun {r q} hr hq ne e => ne ?_
    have e1 := h.en r hr
    have e2 := h.en q hq
    simp only [Function.comp, kp, nmr, Prod.mk.injEq] at e
    have i1 := fun z => at0_inj ho (a := r.1) (b := q.1) (by omega) (by omega) (by omega) (by omega) z
    have i2 := fun z => at0_inj ho (a := r.2.1) (b := q.2.1) (by omega) (by omega) (by omega) (by omega) z
    have i3 := fun z => at0_inj ho (a := r.1) (b := q.2.1) (by omega) (by omega) (by omega) (by omega) z
    have i4 := fun z => at0_inj ho (a := r.2.1) (b := q.1) (by omega) (by omega) (by omega) (by omega) z
    generalize at0 os r.1.toNat = w1 at *
    generalize at0 os r.2.1.toNat = w2 at *
    generalize at0 os q.1.toNat = w3 at *
    generalize at0 os q.2.1.toNat = w4 at *
    have : (w1 = w3 ∧ w2 = w4) ∨ (w1 = w4 ∧ w2 = w3) := by omega
    unfold kp
    rcases this with ⟨a, b⟩ | ⟨a, b⟩
    · rw [i1 a, i2 b]
    · have := i3 a
      have := i4 b
      omega
  · intro r hr
    obtain ⟨q, hq, rfl⟩ := List.mem_map.mp hr
    have e := h.en q hq
    have a := os_at ho h1 q.1.toNat
    have b := os_at ho h1 q.2.1.toNat
    have n : at0 os q.1.toNat ≠ at0 os q.2.1.toNat := fun z => by
      have := at0_inj ho (a := q.1) (b := q.2.1) (by omega) (by omega) (by omega) (by omega) z
      omega
    simp only [nmr]
    omega
  · intro r hr
    obtain ⟨q, hq, rfl⟩ := List.mem_map.mp hr
    exact h.ln q hq
theorem nmr_conn {os : List Int} {many : Int} {rows : List R3} (h1 : 1 ≤ many) (ho : os.Perm (rangeI many.toNat)) (h : Rb many rows) (c : Conn many rows) : Conn many (rows.map (nmr os)) := by
  intro S h0 hS
  have hl : os.length = many.toNat := by rw [ho.length_eq, len_rangeI]
  have cl : ∀ r ∈ rows, (S (at0 os r.1.toNat) ↔ S (at0 os r.2.1.toNat)) := by
    intro r hr
    have := hS (nmr os r) (List.mem_map_of_mem hr)
    simp only [nmr] at this
    by_cases q : at0 os r.1.toNat ≤ at0 os r.2.1.toNat
    · rw [Int.min_eq_left q, Int.max_eq_right q] at this; exact this
    · rw [Int.min_eq_right (by omega), Int.max_eq_left (by omega)] at this; exact this.symm
  have mem : ∀ x, 0 ≤ x → x < many → ∃ j : Int, (0 ≤ j ∧ j < many) ∧ at0 os j.toNat = x := by
    intro x x0 x1
    have hx : x ∈ os := ho.mem_iff.mpr (mem_rangeI.mpr ⟨x0, by omega⟩)
    obtain ⟨j, hj⟩ := List.getElem?_of_mem hx
    have hj2 := (List.getElem?_eq_some_iff.mp hj).1
    exact ⟨(j : Int), by omega, by simp [at0, hj]⟩
  intro x x0 x1
  obtain ⟨j, ⟨j0, j1⟩, rfl⟩ := mem x x0 x1
  obtain ⟨i, ⟨i0, i1⟩, ei⟩ := mem 0 (by omega) (by omega)
  have := Conn.all c (S := fun z => S (at0 os z.toNat)) cl j0 j1 i0 i1
  rw [this, ei]
  exact h0
theorem sort3_lt {rows : List R3} (nd : (rows.map kp).Nodup) : (sort3 rows).Pairwise lt3 := by
  rw [← rows_sorted nd, List.pairwise_map]
  exact (sP_lt nd).imp fun h => h
/-- a web: what it keeps, and its ties rise -/
structure Wt (m : Int) (rows : List R3) : Prop extends Wb m rows where
  so : rows.Pairwise lt3
theorem Wt.nd {m : Int} {rows : List R3} (w : Wt m rows) : (rows.map kp).Nodup := by
  unfold List.Nodup
  rw [List.pairwise_map]
  refine w.so.imp fun {a b} h e => ?_
  simp only [kp, Prod.mk.injEq] at e
  unfold lt3 at h
  omega
theorem named_wt {os : List Int} {many : Int} {rows : List R3} (h1 : 1 ≤ many) (h2 : many ≤ 60) (le : rows.length ≤ 220) (ho : os.Perm (rangeI many.toNat)) (h : Rb many rows) (c : Conn many rows) : Wt many (sort3 (rows.map (nmr os))) := by
  have rb := nmr_rb h1 ho h
  have cn := nmr_conn h1 ho h c
  have mm : ∀ r, r ∈ sort3 (rows.map (nmr os)) ↔ r ∈ rows.map (nmr os) := fun r => (sort3_perm _).mem_iff
  exact ⟨⟨h1, h2, fun r hr => rb.en r ((mm r).mp hr), fun r hr => rb.ln r ((mm r).mp hr), by rw [sort3_len, List.length_map]; exact le, fun S h0 hS => cn S h0 fun r hr => hS r ((mm r).mpr hr)⟩, sort3_lt rb.nd⟩
theorem set_kp {rows : List R3} {i : Nat} {r r' : R3} (hr : rows[i]? = some r) (e : kp r' = kp r) : (rows.set i r').map kp = rows.map kp := by
  rw [List.map_set, e]
  apply List.ext_getElem?
  intro j
  by_cases z : i = j
  · subst z
    have hi := (List.getElem?_eq_some_iff.mp hr).1
    rw [List.getElem?_set_self (by simpa using hi), List.getElem?_map, hr]
    rfl
  · rw [List.getElem?_set_ne z]
theorem Wt.set {m : Int} {rows : List R3} {i : Nat} {r : R3} {l : Int} (w : Wt m rows) (hr : rows[i]? = some r) (hl : 1 ≤ l ∧ l ≤ 1000000000000000000000000000000) : Wt m (rows.set i (r.1, r.2.1, l)) := by
  have e := set_kp hr (r' := (r.1, r.2.1, l)) rfl
  have mem : ∀ q ∈ rows.set i (r.1, r.2.1, l), q = (r.1, r.2.1, l) ∨ q ∈ rows := fun q hq => by
    rcases List.mem_or_eq_of_mem_set hq with h | h
    · exact .inr h
    · exact .inl h
  have rm : r ∈ rows := List.mem_of_getElem? hr
  refine ⟨⟨w.m1, w.m2, fun q hq => ?_, fun q hq => ?_, by rw [List.length_set]; exact w.le, conn_kp e w.cn⟩, ?_⟩
  · rcases mem q hq with rfl | h
    · exact w.en r rm
    · exact w.en q h
  · rcases mem q hq with rfl | h
    · exact hl
    · exact w.ln q h
  · have k : ∀ rs : List R3, rs.Pairwise lt3 ↔ (rs.map kp).Pairwise fun p q => p.1 < q.1 ∨ (p.1 = q.1 ∧ p.2 < q.2) := fun rs => by
      rw [List.pairwise_map]; exact Iff.rfl
    rw [k, e, ← k]
    exact w.so
/-! pieces -/
def PConn (n : Int) (ps : List (Int × Int)) : Prop := ∀ S : Int → Prop, S 0 → (∀ p ∈ ps, S p.1 ↔ S p.2) → ∀ x, 0 ≤ x → x < n → S x
structure Pc (n : Int) (ps : List (Int × Int)) : Prop where
  n1 : 2 ≤ n
  n2 : n ≤ 9
  en : ∀ p ∈ ps, 0 ≤ p.1 ∧ p.1 < p.2 ∧ p.2 < n
  nd : ps.Nodup
  cn : PConn n ps
  le : ps.length ≤ 100
/-- where the places of a piece come to stand -/
def spot (a m x : Int) : Int := if x = 0 then a else m + x - 1
def hang (a m l : Int) (ps : List (Int × Int)) : List R3 := ps.map fun p => (spot a m p.1, spot a m p.2, l)
theorem hang_rb {a m l n : Int} {ps pre : List (Int × Int)} {rows : List R3} (h : Rb m rows) (a0 : 0 ≤ a) (a1 : a < m) (hl : 1 ≤ l ∧ l ≤ 1000000000000000000000000000000) (pc : Pc n ps) : Rb (m + n - 1) (rows ++ hang a m l ps) := by
  have n1 := pc.n1
  refine ⟨?_, ?_, ?_⟩
  · rw [List.map_append]
    refine List.nodup_append.mpr ⟨h.nd, ?_, ?_⟩
    · unfold hang
      rw [List.map_map]
      have h0 := pc.nd
      unfold List.Nodup at h0 ⊢
      rw [List.pairwise_map]
      refine h0.imp_of_mem fun {p q} hp hq ne e => ne ?_
      have e1 := pc.en p hp
      have e2 := pc.en q hq
      simp only [Function.comp, kp, spot, Prod.mk.injEq] at e
      obtain ⟨e3, e4⟩ := e
      rw [if_neg (by omega), if_neg (by omega)] at e4
      have : p.1 = q.1 := by
        split at e3 <;> split at e3 <;> omega
      exact Prod.ext this (by omega)
    · intro x hx y hy e
      subst e
      obtain ⟨r, hr, rfl⟩ := List.mem_map.mp hx
      obtain ⟨q, hq, eq⟩ := List.mem_map.mp hy
      unfold hang at hq
      obtain ⟨p, hp, rfl⟩ := List.mem_map.mp hq
      have e1 := pc.en p hp
      have e2 := h.en r hr
      simp only [kp, spot, Prod.mk.injEq] at eq
      rw [if_neg (show ¬ p.2 = 0 by omega)] at eq
      omega
  · intro r hr
    rcases List.mem_append.mp hr with hr | hr
    · have := h.en r hr
      omega
    · unfold hang at hr
      obtain ⟨p, hp, rfl⟩ := List.mem_map.mp hr
      have e1 := pc.en p hp
      simp only [spot]
      rw [if_neg (show ¬ p.2 = 0 by omega)]
      split <;> omega
  · intro r hr
    rcases List.mem_append.mp hr with hr | hr
    · exact h.ln r hr
    · unfold hang at hr
      obtain ⟨p, hp, rfl⟩ := List.mem_map.mp hr
      exact hl
theorem hang_conn {a m l n : Int} {ps : List (Int × Int)} {rows : List R3} (h : Conn m rows) (hm : 1 ≤ m) (a0 : 0 ≤ a) (a1 : a < m) (pc : Pc n ps) : Conn (m + n - 1) (rows ++ hang a m l ps) := by
  refine h.grow _ _ hm fun S hS old x x0 x1 => ?_
  have := pc.cn (fun y => S (spot a m y)) (by simp only [spot, if_true]; exact old a a0 a1) (fun p hp => hS (spot a m p.1, spot a m p.2, l) (List.mem_map_of_mem (f := fun p => (spot a m p.1, spot a m p.2, l)) hp)) (x - m + 1) (by omega) (by omega)
  simp only [spot] at this
  rw [if_neg (by omega)] at this
  rw [show m + (x - m + 1) - 1 = x by omega] at this
  exact this
end G

set_option Elab.async false
set_option linter.all false
set_option maxRecDepth 100000
set_option maxHeartbeats 4000000
noncomputable section
namespace G
open PySem PySem.Spec L2 VS
def lR (rows : List R3) : D := lP (rows.map kp) (rows.map lnR)
@[simp] theorem nu_lR {rows : List R3} : nunk (some (lR rows)) = true := rfl
@[simp] theorem dct_lR {rows : List R3} : isDct (some (lR rows)) = true := rfl
@[simp] theorem fz_lR {rows : List R3} : fz (lR rows) = true := by unfold lR; simp
@[simp] theorem keys_lR {rows : List R3} : keysOf (lR rows) = some ((rows.map kp).map pD) := by unfold lR; rw [keys_lP]
@[simp] theorem lkQ_R {i : Nat} {ρ : VS.Env} {Q : Rv D → Prop} {rows : List R3} : lkQ i ρ Q (dR true rows) ↔ Q (.ok (lR rows) (ρ.set i (lR rows))) := by unfold dR lR; rw [lkQ_P]
theorem sort_two {a b : Int} : gSorted [.lst true [.int a, .int b]] = some (.lst true [.int (min a b), .int (max a b)]) := by
  have e := sorted_ints (o := true) (ns := [a, b]) (le_size (by simp))
  have e2 : sortI [a, b] = [min a b, max a b] := by
    have p := sortI_perm [a, b]
    have s := sortI_sorted [a, b]
    have p2 : [a, b].Perm [min a b, max a b] := by
      by_cases c : a ≤ b
      · rw [Int.min_eq_left c, Int.max_eq_right c]
      · rw [Int.min_eq_right (by omega), Int.max_eq_left (by omega)]
        exact .swap _ _ _
    exact List.Perm.eq_of_pairwise (le := fun x y => x ≤ y) (fun a b _ _ h1 h2 => by omega) s (by simp; omega) (p.trans p2)
  rw [e2] at e
  exact e
theorem named_w {s : Pot} {many : Int} {rows : List R3} {Q : Fo → Prop} (h1 : 1 ≤ many) (h2 : many ≤ 60) (le : rows.length ≤ 220) (rb : Rb many rows)
    (h : ∀ (os : List Int) s', os.Perm (rangeI many.toNat) → Q (.ok (webD many (sort3 (rows.map (nmr os)))) [potD s', .int many, lR rows])) : W (F_law_named [potD s, .int many, lR rows]) Q := by
  simp [F_law_named, body_law_named, a_law_named]
  refine order_w (by omega) (by omega) fun os s2 ho => ?_
  have hol : os.length = many.toNat := by rw [ho.length_eq, len_rangeI]
  simp
  have ek : (rows.map (pD ∘ kp)) = rows.map fun r => pD (kp r) := rfl
  refine W_forL (f := fun r => pD (kp r)) (xs := rows) (fun p ρ => ∃ (ms : List R3) (a b c : D), ρ = [potD s2, .int many, lR rows, .lst true (os.map D.int), .lst true (ms.map rD), a, b, c] ∧ ms = p.map (nmr os)) ⟨[], _, _, _, rfl, rfl⟩ ?_ ?_
  · rintro p r post ρ e ⟨ms, a, b, c, rfl, hm⟩ J hJ
    have hr := mem_of_split e
    have hp := len_of_split e
    obtain ⟨e1, e2, e3⟩ := rb.en r hr
    have a1 := atI_int (xs := os) (i := r.1) (by omega) (by omega)
    have a2 := atI_int (xs := os) (i := r.2.1) (by omega) (by omega)
    have hs : ms.length < sizeLine := lt_size (by rw [hm, List.length_map]; omega)
    have lk := look_row rb.nd hr
    have lk2 : lookD (lR rows) (.tup [.int r.1, .int r.2.1]) = some (.int r.2.2) := by
      unfold lR
      rw [look_lP]
      have : (r.1, r.2.1) = kp r := rfl
      rw [this, lk]
      rfl
    simp [kp, a1, a2, sort_two, lk2, hs]
    exact hJ _ ⟨ms ++ [nmr os r], _, _, _, by simp only [List.map_append, List.map_cons, List.map_nil]; rfl, by simp [hm]⟩
  · rintro ρ ⟨ms, a, b, c, rfl, hm⟩
    have hs : ms.length ≤ sizeLine := le_size (by rw [hm, List.length_map]; omega)
    simp [sorted_rows hs]
    rw [hm]
    exact h os s2 ho
theorem any_web_w {s : Pot} {Q : Fo → Prop} (h : ∀ m rows s', Wt m rows → Q (.ok (webD m rows) [potD s'])) : W (F_law_any_web [potD s]) Q := by
  simp [F_law_any_web, body_law_any_web, a_law_any_web]
  refine take_w (by omega) (by omega) fun x s1 x0 x1 => ?_
  simp
  refine take_w (by omega) (by omega) fun way s2 w0 w1 => ?_
  generalize hm : 1 + x = many
  have m1 : 1 ≤ many := by omega
  have m2 : many ≤ 8 := by omega
  have hR := inR_le (show 0 ≤ many by omega) (by omega)
  have e0 : D.dT true [] [] = dR true [] := rfl
  simp [hR, e0]
  refine W_forN (fun k ρ => ∃ (s : Pot) (rows : List R3) (a : D), ρ = [potD s, .int many, .int way, dR true rows, a, .unk, .unk, .unk] ∧ Rb (1 + k) rows ∧ Conn (1 + k) rows ∧ rows.length ≤ k) ⟨s2, [], _, rfl, Rb.nil, by simpa using Conn.one, by simp⟩ ?_ ?_
  · rintro k ρ hk ⟨s, rows, a, rfl, rb, cn, hl⟩ J hJ
    simp
    refine length_w fun l s3 l1 l2 => ?_
    simp
    refine take_w (by omega) (by omega) fun y s4 y0 y1 => ?_
    have nn : (y, (1 + k : Int)) ∉ rows.map kp := fun z => by
      obtain ⟨r, hr, e⟩ := List.mem_map.mp z
      have := rb.en r hr
      simp only [kp, Prod.mk.injEq] at e
      omega
    have pt := put_dR (l := l) (lt_size (show rows.length < 16000000 by omega)) nn
    simp [pt]
    refine hJ _ ⟨s4, _, _, rfl, ?_, ?_, by simp; omega⟩
    · refine Rb.add (rb.mono (by omega)) nn ⟨y0, y1, by omega⟩ ⟨l1, l2⟩
    · refine cn.grow _ _ (by omega) fun S hS old z z0 z1 => ?_
      have e : z = 1 + (k : Int) := by omega
      rw [e]
      exact (hS _ (List.mem_singleton.mpr rfl)).mp (old y y0 (by omega))
  · rintro ρ ⟨s, rows, a, rfl, rb, cn, hl⟩
    have ek : 1 + ((many.toNat - 1 : Nat) : Int) = many := by omega
    rw [ek] at rb cn
    simp
    refine take_w (by omega) (by omega) fun y s3 y0 y1 => ?_
    have hR2 : inR (y * if 2 < many then 1 else 0) := by
      split
      · exact inR_le (by omega) (by omega)
      · simp
    have h64 : in64 y := in64_bd (by omega) (by omega)
    simp [hR2, h64]
    refine W_forN (fun k ρ => ∃ (s : Pot) (rows : List R3) (a b c d : D), ρ = [potD s, .int many, .int way, dR true rows, a, b, c, d] ∧ Rb many rows ∧ Conn many rows ∧ rows.length ≤ 8 + k) ⟨s3, rows, _, _, _, _, rfl, rb, cn, by omega⟩ ?_ ?_
    · rintro k ρ hk ⟨s, rows, a, b, c, d, rfl, rb, cn, hl⟩ J hJ
      have hm : 2 < many := by
        by_cases q : 2 < many
        · exact q
        · rw [if_neg q] at hk; simp at hk
      rw [if_pos hm] at hk
      simp
      refine take_w (by omega) (by omega) fun u s4 u0 u1 => ?_
      simp
      refine take_w (by omega) (by omega) fun v s5 v0 v1 => ?_
      have z0 := Int.emod_nonneg (u + 1 + v) (show many ≠ 0 by omega)
      have z1 := Int.emod_lt_of_pos (u + 1 + v) (show 0 < many by omega)
      have zn : (u + 1 + v) % many ≠ u := by
        intro e
        have q : (u + 1 + v) % many = (u + 1 + v) ∨ (u + 1 + v) % many = (u + 1 + v) - many := by
          by_cases c : u + 1 + v < many
          · left; exact Int.emod_eq_of_lt (by omega) c
          · right
            rw [← Int.sub_emod_right]
            exact Int.emod_eq_of_lt (by omega) (by omega)
        omega
      generalize hz : (u + 1 + v) % many = z at *
      by_cases n : (min u z, max u z) ∈ rows.map kp
      · have n2 := n
        simp only [List.mem_map] at n2
        simp [hz, show 0 < many by omega, ite_app, has_dR, n2]
        exact hJ _ ⟨s5, rows, _, _, _, _, rfl, rb, cn, by omega⟩
      · have n2 := n
        simp only [List.mem_map] at n2
        simp [hz, show 0 < many by omega, ite_app, has_dR, n2]
        refine length_w fun l s6 l1 l2 => ?_
        have pt := put_dR (l := l) (lt_size (show rows.length < 16000000 by omega)) n
        simp [pt]
        exact hJ _ ⟨s6, _, _, _, _, _, rfl, rb.add n (by omega) ⟨l1, l2⟩, cn.sub, by simp; omega⟩
    · rintro ρ ⟨s, rows, a, b, c, d, rfl, rb, cn, hl⟩
      have hy : (y * if 2 < many then 1 else 0) ≤ 8 := by split <;> omega
      simp
      refine named_w m1 (by omega) (by omega) rb fun os s6 ho => ?_
      simp
      exact h _ _ s6 (named_wt m1 (by omega) (by omega) ho rb cn)
/-! pieces -/
def triP (n : Nat) : List (Int × Int) := (List.range n).flatMap fun (j : Nat) => (List.range j).map fun (i : Nat) => ((i : Int), (j : Int))
theorem triP_succ (n : Nat) : triP (n + 1) = triP n ++ (List.range n).map fun (i : Nat) => ((i : Int), (n : Int)) := by
  unfold triP
  rw [List.range_succ, List.flatMap_append]
  simp
theorem triP_len (n : Nat) : (triP n).length ≤ n * n := by
  induction n with
  | zero => simp [triP]
  | succ n ih =>
    rw [triP_succ, List.length_append, List.length_map, List.length_range, Nat.succ_mul, Nat.mul_succ]
    omega
theorem pc_all {n : Int} (h : n ∈ [2, 3, 4, 5, 6, 8]) : Pc n (triP n.toNat) := by
  have key : ∀ k : Nat, k ∈ [2, 3, 4, 5, 6, 8] → (∀ p ∈ triP k, 0 ≤ p.1 ∧ p.1 < p.2 ∧ p.2 < (k : Int)) ∧ (triP k).Nodup ∧ (triP k).length ≤ 100 ∧ ∀ j, j ∈ List.range k → j = 0 ∨ ((0 : Int), (j : Int)) ∈ triP k := by decide +kernel
  have hn : n.toNat ∈ [2, 3, 4, 5, 6, 8] ∧ ((n.toNat : Nat) : Int) = n ∧ 2 ≤ n ∧ n ≤ 9 := by
    simp at h ⊢
    omega
  obtain ⟨hn, en, n1, n2⟩ := hn
  obtain ⟨k1, k2, k3, k4⟩ := key n.toNat hn
  rw [en] at k1
  refine ⟨n1, n2, k1, k2, ?_, k3⟩
  intro S h0 hS x x0 x1
  rcases k4 x.toNat (List.mem_range.mpr (by omega)) with e | e
  · rw [show x = 0 by omega]; exact h0
  · have := hS _ e
    simp only [Int.toNat_of_nonneg x0] at this
    exact this.mp h0
def ringP (n : Nat) : List (Int × Int) := (List.range (n - 1)).map (fun (i : Nat) => ((i : Int), (i : Int) + 1)) ++ [(0, (n : Int) - 1)]
theorem pc_ring {n : Int} (h : n ∈ [3, 5, 7, 9]) : Pc n (ringP n.toNat) := by
  have key : ∀ k : Nat, k ∈ [3, 5, 7, 9] → (∀ p ∈ ringP k, 0 ≤ p.1 ∧ p.1 < p.2 ∧ p.2 < (k : Int)) ∧ (ringP k).Nodup ∧ (ringP k).length ≤ 100 ∧ ∀ j, j ∈ List.range (k - 1) → ((j : Int), (j : Int) + 1) ∈ ringP k := by decide +kernel
  have hn : n.toNat ∈ [3, 5, 7, 9] ∧ ((n.toNat : Nat) : Int) = n ∧ 2 ≤ n ∧ n ≤ 9 := by
    simp at h ⊢
    omega
  obtain ⟨hn, en, n1, n2⟩ := hn
  obtain ⟨k1, k2, k3, k4⟩ := key n.toNat hn
  rw [en] at k1
  refine ⟨n1, n2, k1, k2, ?_, k3⟩
  intro S h0 hS x x0 x1
  have ind : ∀ j : Nat, (j : Int) < n → S (j : Int) := by
    intro j
    induction j with
    | zero => intro _; exact h0
    | succ j ih =>
      intro hj
      have := (hS _ (k4 j (List.mem_range.mpr (by omega)))).mp (ih (by omega))
      simpa using this
  have := ind x.toNat (by omega)
  rw [Int.toNat_of_nonneg x0] at this
  exact this
theorem pc_two : Pc 2 [(0, 1)] := by
  refine ⟨by decide, by decide, by decide, by decide, ?_, by decide⟩
  intro S h0 hS x x0 x1
  have e := hS _ (List.mem_singleton.mpr rfl)
  rcases (show x = 0 ∨ x = 1 by omega) with rfl | rfl
  · exact h0
  · exact e.mp h0
theorem pc_four : Pc 7 [(0, 4), (1, 4), (0, 5), (2, 5), (0, 6), (3, 6), (1, 2), (1, 3), (2, 3)] := by
  refine ⟨by decide, by decide, by decide, by decide, ?_, by decide⟩
  intro S h0 hS x x0 x1
  have f : ∀ a b : Int, (a, b) ∈ [((0 : Int), (4 : Int)), (1, 4), (0, 5), (2, 5), (0, 6), (3, 6), (1, 2), (1, 3), (2, 3)] → (S a ↔ S b) := fun a b h => hS (a, b) h
  have s4 := (f 0 4 (by simp)).mp h0
  have s1 := (f 1 4 (by simp)).mpr s4
  have s5 := (f 0 5 (by simp)).mp h0
  have s2 := (f 2 5 (by simp)).mpr s5
  have s6 := (f 0 6 (by simp)).mp h0
  have s3 := (f 3 6 (by simp)).mpr s6
  rcases (show x = 0 ∨ x = 1 ∨ x = 2 ∨ x = 3 ∨ x = 4 ∨ x = 5 ∨ x = 6 by omega) with rfl | rfl | rfl | rfl | rfl | rfl | rfl <;> assumption
theorem pairs_w {s : Pot} {g : Int} {Q : Fo → Prop} (hg : g = 0 ∨ g = 1) (h : ∀ n ps o s', Pc n ps → Q (.ok (.tup [.int n, .lst o (ps.map pD)]) [potD s', .int g])) : W (F_law_pairs [potD s, .int g]) Q := by
  have g64 : in64 g := in64_bd (by omega) (by omega)
  simp [F_law_pairs, body_law_pairs, a_law_pairs]
  refine take_w (by omega) (by omega) fun way s1 w0 w1 => ?_
  by_cases c1 : way < 3
  · have h2 : in64 2 := in64_bd (by omega) (by omega)
    simp [c1, ite_app, h2]
    refine take_w (by omega) (by omega) fun x s2 x0 x1 => ?_
    simp
    refine W_pick (l := [2, 3, 4, 5, 6, 8]) (n := 6) rfl x0 (by omega) fun n hn => ?_
    have bn : 2 ≤ n ∧ n ≤ 8 := by simp at hn; omega
    have hR := inR_le (show 0 ≤ n by omega) (by omega)
    simp [hR]
    refine W_forN (fun k ρ => ∃ (ps : List (Int × Int)) (a : D), ρ = [potD s2, .int g, .int way, .int n, .lst true (ps.map pD), a, .unk, .unk] ∧ ps = triP k) ⟨[], _, rfl, rfl⟩ ?_ ?_
    · rintro k ρ hk ⟨ps, a, rfl, hps⟩ J hJ
      have hRk := inR_le (show 0 ≤ (k : Int) by omega) (by omega)
      simp [hRk]
      refine W_lcN (fun i acc ρ' => ∃ qs : List (Int × Int), acc = qs.map pD ∧ ρ' = [potD s2, .int g, .int way, .int n, .lst true (ps.map pD), .int k, .unk, .unk] ∧ qs = (List.range i).map fun (i : Nat) => ((i : Int), (k : Int))) ⟨[], rfl, rfl, rfl⟩ (le_size (by omega)) ?_ ?_
      · rintro i acc ρ hi ⟨qs, rfl, rfl, hqs⟩ J2 hJ2
        simp
        exact hJ2 _ _ ⟨qs ++ [((i : Int), (k : Int))], by simp [pD], rfl, by rw [hqs, List.range_succ, List.map_append]; rfl⟩
      · rintro acc ρ ⟨qs, rfl, rfl, hqs⟩
        have hq : qs.length = k := by rw [hqs]; simp
        have hp : ps.length ≤ 100 := by
          have := triP_len k
          rw [← hps] at this
          have : k * k ≤ 8 * 8 := Nat.mul_le_mul (by omega) (by omega)
          omega
        have hs : ps.length + qs.length ≤ sizeLine := le_size (by omega)
        simp [hs]
        refine hJ _ ⟨ps ++ qs, .int k, ?_, ?_⟩
        · rw [List.map_append]
        · rw [triP_succ, ← hps, hqs]
    · rintro ρ ⟨ps, a, rfl, hps⟩
      simp
      rw [hps]
      exact h _ _ _ s2 (pc_all hn)
  · by_cases c2 : way < 5
    · simp [c1, c2, ite_app]
      refine take_w (by omega) (by omega) fun x s2 x0 x1 => ?_
      simp
      refine W_pick (l := [3, 5, 7, 9]) (n := 4) rfl x0 (by omega) fun n hn => ?_
      have bn : 3 ≤ n ∧ n ≤ 9 := by simp at hn; omega
      have hR := inR_le (show 0 ≤ n - 1 by omega) (by omega)
      simp [hR]
      refine W_lcN (fun i acc ρ' => ∃ qs : List (Int × Int), acc = qs.map pD ∧ ρ' = [potD s2, .int g, .int way, .int n, .unk, .unk, .unk, .unk] ∧ qs = (List.range i).map fun (i : Nat) => ((i : Int), (i : Int) + 1)) ⟨[], rfl, rfl, rfl⟩ (le_size (by omega)) ?_ ?_
      · rintro i acc ρ hi ⟨qs, rfl, rfl, hqs⟩ J2 hJ2
        simp
        exact hJ2 _ _ ⟨qs ++ [((i : Int), (i : Int) + 1)], by simp [pD], rfl, by rw [hqs, List.range_succ, List.map_append]; rfl⟩
      · rintro acc ρ ⟨qs, rfl, rfl, hqs⟩
        have hq : qs.length = n.toNat - 1 := by rw [hqs]; simp
        have hs : qs.length + 1 ≤ sizeLine := le_size (by omega)
        have e : ringP n.toNat = qs ++ [(0, n - 1)] := by
          unfold ringP
          rw [hqs, Int.toNat_of_nonneg (by omega)]
        simp [hs]
        have := h n (ringP n.toNat) true s2 (pc_ring hn)
        rw [e] at this
        simpa [pD] using this
    · by_cases c3 : way = 5
      · simp [c1, c2, c3, ite_app]
        exact h 2 [(0, 1)] true s1 pc_two
      · simp [c1, c2, c3, ite_app]
        exact ⟨le_size (by omega), h _ _ true s1 pc_four⟩
def spotsL (a m n : Int) : List Int := a :: (List.range (n - 1).toNat).map fun (i : Nat) => m + (i : Int)
theorem spots_at {a m n x : Int} (x0 : 0 ≤ x) (x1 : x < n) : atI ((spotsL a m n).map D.int) x = some (.int (spot a m x)) := by
  have hl : (spotsL a m n).length = n.toNat := by unfold spotsL; simp; omega
  rw [atI_int x0 (by omega)]
  congr 2
  unfold spotsL spot
  by_cases c : x = 0
  · subst c; simp
  · rw [if_neg c]
    obtain ⟨j, hj⟩ : ∃ j : Nat, x.toNat = j + 1 := ⟨x.toNat - 1, by omega⟩
    rw [hj, List.getElem?_cons_succ, List.getElem?_map, List.getElem?_range (by omega)]
    simp
    omega
theorem lone_web_w {s : Pot} {most turns : Int} {Q : Fo → Prop} (hm : most = 12 ∨ most = 60) (t0 : 0 ≤ turns) (t1 : turns ≤ 40) (h : ∀ m rows s', m ≤ most → Wt m rows → Q (.ok (webD m rows) [potD s', .int most, .int turns])) : W (F_law_lone_web [potD s, .int most, .int turns]) Q := by
  have hR := inR_le t0 (by omega)
  have e0 : D.dT true [] [] = dR true [] := rfl
  simp [F_law_lone_web, body_law_lone_web, a_law_lone_web, hR, e0]
  refine W_forN (fun k ρ => ∃ (s : Pot) (many : Int) (rows : List R3) (a b c d e f g j : D), ρ = [potD s, .int most, .int turns, .int many, dR true rows, a, b, c, d, e, f, g, j] ∧ (1 ≤ many ∧ many ≤ most) ∧ Rb many rows ∧ Conn many rows ∧ rows.length ≤ 220) ⟨s, 1, [], _, _, _, _, _, _, _, _, rfl, by omega, Rb.nil, Conn.one, by simp⟩ ?_ ?_
  · rintro k ρ hk ⟨s, many, rows, a, b, c, d, e, f, g, j, rfl, ⟨m1, m2⟩, rb, cn, hl⟩ J hJ
    simp
    refine pairs_w (by split <;> simp) fun n ps o s2 pc => ?_
    have n1 := pc.n1
    have n2 := pc.n2
    have pl := pc.le
    simp
    refine take_w (by omega) (by omega) fun at' s3 a0 a1 => ?_
    simp
    refine take_w (by omega) (by omega) fun x s4 x0 x1 => ?_
    simp
    refine W_pick (l := [0, 0, 1, 2, 3]) (n := 5) rfl x0 x1 fun z hz => ?_
    simp
    refine length_w fun l s5 l1 l2 => ?_
    by_cases c1 : many + n - 1 ≤ most
    · by_cases c2 : (rows.length : Int) + ps.length ≤ 220
      · have rg : RgOk many (many + n - 1) := RgOk.of_le (by omega) (by omega) (by omega) (by omega)
        have esp : D.int at' :: intsD many (many + n - 1 - many).toNat = (spotsL at' many n).map D.int := by
          rw [ints_map, show (many + n - 1 - many).toNat = (n - 1).toNat by omega]
          rfl
        simp [c1, c2, ite_app, rg]
        rw [esp]
        refine ⟨le_size (by omega), W_forL (f := pD) (fun p ρ => ∃ (rs : List R3) (g j : D), ρ = [potD s5, .int most, .int turns, .int many, dR true rs, .int k, .int n, .lst false (ps.map pD), .int at', .int l, .lst true ((spotsL at' many n).map D.int), g, j] ∧ rs = rows ++ hang at' many l p) ⟨rows, g, j, rfl, by simp [hang]⟩ ?_ ?_⟩
        · rintro p q post ρ e2 ⟨rs, g, j, rfl, hrs⟩ J2 hJ2
          have en := pc.en q (mem_of_split e2)
          have s1 := spots_at (a := at') (m := many) (n := n) (x := q.1) (by omega) (by omega)
          have s2 := spots_at (a := at') (m := many) (n := n) (x := q.2) (by omega) (by omega)
          have whole := (hang_rb rb a0 a1 ⟨l1, l2⟩ pc (pre := [])).nd
          have nn : (spot at' many q.1, spot at' many q.2) ∉ rs.map kp := by
            have eq : rows ++ hang at' many l ps = rs ++ (spot at' many q.1, spot at' many q.2, l) :: hang at' many l post := by
              rw [hrs, e2]
              simp [hang]
            rw [eq, List.map_append, List.map_cons] at whole
            have := (List.nodup_append.mp whole).2.2
            intro z
            exact this _ z _ List.mem_cons_self rfl
          have pl2 := len_of_split e2
          have hrl : rs.length = rows.length + p.length := by rw [hrs]; simp [hang]
          have pt := put_dR (l := l) (lt_size (show rs.length < 16000000 by omega)) nn
          simp [s1, s2, pt]
          exact hJ2 _ ⟨_, _, _, rfl, by rw [hrs]; simp [hang]⟩
        · rintro ρ ⟨rs, g, j, rfl, hrs⟩
          simp
          refine hJ _ ⟨s5, many + n - 1, rs, _, _, _, _, _, _, _, _, rfl, by omega, ?_, ?_, ?_⟩
          · rw [hrs]; exact hang_rb rb a0 a1 ⟨l1, l2⟩ pc (pre := [])
          · rw [hrs]; exact hang_conn cn m1 a0 a1 pc
          · rw [hrs]; simp [hang]; omega
      · simp [c1, c2, ite_app]
        exact hJ _ ⟨s5, many, rows, _, _, _, _, _, _, _, _, rfl, ⟨m1, m2⟩, rb, cn, hl⟩
    · simp [c1, ite_app]
      exact hJ _ ⟨s5, many, rows, _, _, _, _, _, _, _, _, rfl, ⟨m1, m2⟩, rb, cn, hl⟩
  · rintro ρ ⟨s, many, rows, a, b, c, d, e, f, g, j, rfl, ⟨m1, m2⟩, rb, cn, hl⟩
    simp
    refine named_w m1 (by omega) hl rb fun os s6 ho => ?_
    simp
    exact h _ _ s6 m2 (named_wt m1 (by omega) hl ho rb cn)
theorem other_length_w {s : Pot} {m : Int} {rows : List R3} {Q : Fo → Prop} (w : Wt m rows) (hne : rows ≠ []) (h : ∀ rows' s', Wt m rows' → rows'.map kp = rows.map kp → Q (.ok (webD m rows') [potD s', webD m rows])) : W (F_law_other_length [potD s, webD m rows]) Q := by
  have hl := w.le
  have hp : 0 < rows.length := List.length_pos_iff.mpr hne
  simp [F_law_other_length, body_law_other_length, a_law_other_length, webD]
  refine take_w (by omega) (by omega) fun x s1 x0 x1 => ?_
  simp
  refine W_at x0 x1 fun r hr => ?_
  have h2 : in64 2 := in64_bd (by omega) (by omega)
  have ln := w.ln r (List.mem_of_getElem? hr)
  simp [h2]
  refine take_w (by omega) (by omega) fun y s2 y0 y1 => ?_
  simp
  refine W_pick (l := [r.2.2 + 1, max 1 (r.2.2 - 1), 1, min (2 * r.2.2) 1000000000000000000000000000000]) (n := 4) rfl y0 y1 fun z hz => ?_
  have hz1 : 1 ≤ z := by simp at hz; omega
  have hx : x.toNat < rows.length := by omega
  have ex : (x + 1).toNat = x.toNat + 1 := by omega
  have es : (rows.set x.toNat (r.1, r.2.1, min z 1000000000000000000000000000000)).map rD = (rows.take x.toNat).map rD ++ D.tup [.int r.1, .int r.2.1, .int (min z 1000000000000000000000000000000)] :: (rows.drop (x.toNat + 1)).map rD := by
    rw [List.set_eq_take_append_cons_drop, if_pos hx, List.map_append, List.map_cons]
    rfl
  have l1 : (rows.take x.toNat).length ≤ 220 := by rw [List.length_take]; omega
  have l2 : (rows.drop (x.toNat + 1)).length ≤ 220 := by rw [List.length_drop]; omega
  simp [cut_take x0, cut_drop (show 0 ≤ x + 1 by omega), ex]
  refine ⟨le_size (by omega), le_size (by omega), ?_⟩
  simp only [List.map_take, List.map_drop] at es ⊢
  rw [← es]
  exact h _ s2 (w.set hr (by omega)) (set_kp hr rfl)
end G

set_option Elab.async false
set_option linter.all false
set_option maxRecDepth 100000
set_option maxHeartbeats 4000000
noncomputable section
namespace G
open PySem PySem.Spec L2 VS
theorem web_w {s : Pot} {Q : Fo → Prop} (h : ∀ m rows s', Wt m rows → Q (.ok (webD m rows) [potD s'])) : W (F_law_web [potD s]) Q := by
  simp [F_law_web, body_law_web, a_law_web]
  refine take_w (by omega) (by omega) fun way s1 w0 w1 => ?_
  by_cases c1 : way < 5
  · simp [c1, ite_app]
    refine any_web_w fun m rows s2 w => ?_
    simp
    exact h m rows s2 w
  · have h15 : in30 15 := ⟨by decide, by decide⟩
    have hd0 : 0 ≤ way / 15 := by omega
    have hd1 : way / 15 < 2 := by omega
    simp [c1, ite_app, h15]
    refine W_pick (l := [12, 60]) (n := 2) rfl hd0 hd1 fun most hm => ?_
    simp
    refine take_w (by omega) (by omega) fun x s2 x0 x1 => ?_
    simp [h15]
    refine W_pick (l := [1 + x, 40]) (n := 2) rfl hd0 hd1 fun turns ht => ?_
    simp
    simp at hm ht
    refine lone_web_w hm (by omega) (by omega) fun m rows s3 _ w => ?_
    have nb1 : nb 9 (.tup (rows.map rD)) = true := by simp
    have tail : W (F_law_take [potD s3, .int 4]) (fQ [some 0, none] [.unk, .int way, webD m rows] (bQ (fun x => bindM (dC (.int 0)) fun y => optM (gEq x y)) (bQ (fun d => optM (VS.tB d)) (bQ (fun b => if b = true then dTB (d2 gNe (dAt 2 (dC (.int 1))) (dTup dNil)) else retM false)
        (bS (fun c => if c = true then dRet (dFn [some 0, none] F_law_other_length (dIO 0 (dCons (dV 2) dNil))) else dSkip) (sQ (dRet (dV 2)) (eQ 3 1 [1, 2] Q))))))) := by
      refine take_w (by omega) (by omega) fun x s4 x0 x1 => ?_
      by_cases e0 : x = 0
      · by_cases e : rows = []
        · subst e
          simp [e0, ite_app]
          exact h _ _ s4 w
        · simp [e0, e, ite_app]
          refine other_length_w w e fun rows' s5 w' _ => ?_
          simp
          exact h _ _ s5 w'
      · simp [e0, ite_app]
        exact h _ _ s4 w
    by_cases c2 : 10 < way ∧ way < 15
    · by_cases e : rows = []
      · subst e
        simp [c2, ite_app]
        exact h _ _ s3 w
      · simp [c2, ite_app, e]
        refine other_length_w w e fun rows' s4 w' _ => ?_
        simp
        exact h _ _ s4 w'
    · by_cases c3 : 10 < way
      · have c4 : ¬ way < 15 := fun z => c2 ⟨c3, z⟩
        simp [c3, c4, ite_app]
        exact tail
      · simp [c3, ite_app]
        exact tail
end G

set_option Elab.async false
set_option linter.all false
set_option maxRecDepth 100000
set_option maxHeartbeats 4000000
noncomputable section
namespace G
open PySem PySem.Spec L2 VS
/-- a web, as far as this law asks -/
structure Lw (m : Int) (rows : List R3) : Prop where
  m1 : 1 ≤ m
  m2 : m ≤ 60
  le : rows.length ≤ 220
  en : ∀ r ∈ rows, r.1 ≤ r.2.1
theorem Wt.lw {m : Int} {rows : List R3} (w : Wt m rows) : Lw m rows := ⟨w.m1, w.m2, w.le, fun r hr => by have := w.en r hr; omega⟩
theorem between_w {m : Int} {rows : List R3} {a b : Int} {Q : Fo → Prop} (h1 : ∀ l, (∃ r ∈ rows, (r.1 = a ∧ r.2.1 = b) ∨ (r.1 = b ∧ r.2.1 = a)) → Q (.ok (.int l) [webD m rows, .int a, .int b])) (h2 : (∀ r ∈ rows, ¬ ((r.1 = a ∧ r.2.1 = b) ∨ (r.1 = b ∧ r.2.1 = a))) → Q (.ok .non [webD m rows, .int a, .int b])) : W (F_length_between [webD m rows, .int a, .int b]) Q := by
  simp [F_length_between, body_length_between, a_length_between, webD]
  refine W_forL (fun p ρ => ∃ (u v t : D), ρ = [.tup [.int m, .tup (rows.map rD)], .int a, .int b, u, v, t] ∧ ∀ r ∈ p, ¬ ((r.1 = a ∧ r.2.1 = b) ∨ (r.1 = b ∧ r.2.1 = a))) ⟨_, _, _, rfl, by simp⟩ ?_ ?_
  · rintro p r post ρ e ⟨u, v, t, rfl, hp⟩ J hJ
    have hr := mem_of_split e
    by_cases c : (r.1 = a ∧ r.2.1 = b) ∨ (r.1 = b ∧ r.2.1 = a)
    · simp [in_two, c, ite_app]
      exact h1 _ ⟨r, hr, c⟩
    · simp [in_two, c, ite_app]
      refine hJ _ ⟨_, _, _, rfl, fun q hq => ?_⟩
      rcases List.mem_append.mp hq with hq | hq
      · exact hp q hq
      · rw [List.mem_singleton] at hq
        subst hq
        exact c
  · rintro ρ ⟨u, v, t, rfl, hp⟩
    simp
    exact h2 hp
theorem look_place_w {m : Int} {rows : List R3} {a : Int} {Q : Fo → Prop} (a0 : 0 ≤ a) (a1 : a < m) (h : Q (.ok .non [webD m rows, .int a])) : W (F_look_at_place [webD m rows, .int a]) Q := by
  simp [F_look_at_place, body_look_at_place, a_look_at_place, a0, a1, ite_app]
  exact h
def Inn (m a : Int) : Prop := 0 ≤ a ∧ a < m
def tiedK (rows : List R3) (a b : Int) : Prop := (min a b, max a b) ∈ rows.map kp
theorem tied_of {m : Int} {rows : List R3} {a b : Int} (w : Lw m rows) (h : ∃ r ∈ rows, (r.1 = a ∧ r.2.1 = b) ∨ (r.1 = b ∧ r.2.1 = a)) : tiedK rows a b := by
  obtain ⟨r, hr, h⟩ := h
  have e := w.en r hr
  refine List.mem_map.mpr ⟨r, hr, ?_⟩
  simp only [kp, Prod.mk.injEq]
  omega
theorem tied_no {rows : List R3} {a b : Int} (h : ∀ r ∈ rows, ¬ ((r.1 = a ∧ r.2.1 = b) ∨ (r.1 = b ∧ r.2.1 = a))) : ¬ tiedK rows a b := by
  intro z
  obtain ⟨r, hr, e⟩ := List.mem_map.mp z
  simp only [kp, Prod.mk.injEq] at e
  refine h r hr ?_
  by_cases c : a ≤ b <;> omega
/-- what put_web tells -/
def putD (m : Int) (rows : List R3) (a b l : Int) : D := webD m (sort3 (rows ++ [(min a b, max a b, l)]))
theorem isnI {l : Int} : gIsN true (.int l) .non = some (.bl true) := rfl
theorem isnN : gIsN true .non .non = some (.bl false) := rfl
theorem ends_w {m : Int} {rows : List R3} {a b : Int} {Q : Fo → Prop} (h0 : ¬ (Inn m a ∧ Inn m b) → Q (.ex ⟨"NoPlace", none⟩ [webD m rows, .int a, .int b])) (h1 : Inn m a ∧ Inn m b → Q (.ok .non [webD m rows, .int a, .int b])) : W (F_look_at_ends [webD m rows, .int a, .int b]) Q := by
  unfold Inn at h0 h1
  by_cases a0 : 0 ≤ a
  · by_cases a1 : a < m
    · by_cases b0 : 0 ≤ b
      · by_cases b1 : b < m
        · simp [F_look_at_ends, body_look_at_ends, a_look_at_ends, W_for1, a0, a1, b0, b1, ite_app]
          exact h1 ⟨⟨a0, a1⟩, b0, b1⟩
        · simp [F_look_at_ends, body_look_at_ends, a_look_at_ends, W_for1, a0, a1, b0, b1, ite_app]
          exact h0 (fun z => b1 z.2.2)
      · simp [F_look_at_ends, body_look_at_ends, a_look_at_ends, W_for1, a0, a1, b0, ite_app]
        exact h0 (fun z => b0 z.2.1)
    · simp [F_look_at_ends, body_look_at_ends, a_look_at_ends, W_for1, a0, a1, ite_app]
      exact h0 (fun z => a1 z.1.2)
  · simp [F_look_at_ends, body_look_at_ends, a_look_at_ends, W_for1, a0, ite_app]
    exact h0 (fun z => a0 z.1.1)
theorem tied_w {m : Int} {rows : List R3} {a b : Int} {Q : Fo → Prop} (w : Lw m rows) (ha : Inn m a) (hb : Inn m b) (h0 : a = b ∨ tiedK rows a b → Q (.ex ⟨"Tied", none⟩ [webD m rows, .int a, .int b])) (h1 : ¬ (a = b ∨ tiedK rows a b) → Q (.ok .non [webD m rows, .int a, .int b])) : W (F_look_at_tied [webD m rows, .int a, .int b]) Q := by
  by_cases c : a = b
  · simp [F_look_at_tied, body_look_at_tied, a_look_at_tied, c, ite_app]
    rw [← c]
    rw [← c] at h0
    exact h0 (.inl rfl)
  · simp [F_look_at_tied, body_look_at_tied, a_look_at_tied, c, ite_app]
    simp [F_tie_length, body_tie_length, a_tie_length]
    refine look_place_w ha.1 ha.2 ?_
    simp
    refine look_place_w hb.1 hb.2 ?_
    simp
    refine between_w (fun l hl => ?_) (fun hn => ?_)
    · simp [ite_app, isnI]
      exact h0 (.inr (tied_of w hl))
    · simp [ite_app, isnN]
      refine h1 (fun z => ?_)
      rcases z with z | z
      · exact c z
      · exact tied_no hn z
open Classical in
theorem put_w {m : Int} {rows : List R3} {a b l : Int} {Q : Fo → Prop} (w : Lw m rows)
    (h0 : ¬ (Inn m a ∧ Inn m b) → Q (.ex ⟨"NoPlace", none⟩ [webD m rows, .int a, .int b, .int l]))
    (h1 : Inn m a ∧ Inn m b → a = b ∨ tiedK rows a b → Q (.ex ⟨"Tied", none⟩ [webD m rows, .int a, .int b, .int l]))
    (h2 : Inn m a ∧ Inn m b → ¬ (a = b ∨ tiedK rows a b) → rows.length = 220 → Q (.ex ⟨"TooMany", none⟩ [webD m rows, .int a, .int b, .int l]))
    (h3 : Inn m a ∧ Inn m b → ¬ (a = b ∨ tiedK rows a b) → rows.length ≠ 220 → Q (.ok (putD m rows a b l) [webD m rows, .int a, .int b, .int l])) : W (F_put_web [webD m rows, .int a, .int b, .int l]) Q := by
  have le := w.le
  simp [F_put_web, body_put_web, a_put_web]
  refine ends_w (fun no => ?_) (fun hab => ?_)
  · simp
    exact h0 no
  · simp
    refine tied_w w hab.1 hab.2 (fun t => ?_) (fun nt => ?_)
    · simp
      exact h1 hab t
    · by_cases c : rows.length = 220
      · have c2 : (rows.length : Int) = 220 := by omega
        simp [ite_app, webD, c2]
        exact h2 hab nt c
      · have c2 : ¬ (rows.length : Int) = 220 := by omega
        have hs : (rows ++ [(min a b, max a b, l)]).length ≤ sizeLine := le_size (by simp; omega)
        have so := sortT_rows hs
        rw [List.map_append, List.map_cons, List.map_nil] at so
        have hs2 : rows.length + 1 ≤ sizeLine := le_size (by omega)
        simp [ite_app, webD, c2, hs2]
        simp only [rD_def]
        simp [so]
        exact h3 hab nt c
/-! the class of a refusal -/
theorem class0_w {a : Addr} {Q : Fo → Prop} (h : Q (.ok (.int 0) [.adr a])) : W (F_law_class a "NoPlace" [.adr a]) Q := by
  have t0 : tabAny isT "NoPlace" ["NoPlace"] = some true := by decide +kernel
  have t1 : tabAny isT "NoPlace" ["NotLone"] = some false := by decide +kernel
  have t2 : tabAny isT "NoPlace" ["Tied"] = some false := by decide +kernel
  have t3 : tabAny isT "NoPlace" ["TooMany"] = some false := by decide +kernel
  have t4 : tabAny isT "NoPlace" ["NoWay"] = some false := by decide +kernel
  have t5 : tabAny isT "NoPlace" ["NotPlain"] = some false := by decide +kernel
  have t6 : tabAny isT "NoPlace" ["NoSide"] = some false := by decide +kernel
  have t7 : tabAny isT "NoPlace" ["BadLengths"] = some false := by decide +kernel
  have t8 : tabAny isT "NoPlace" ["NoChoice"] = some false := by decide +kernel
  have t9 : tabAny isT "NoPlace" ["NoTie"] = some false := by decide +kernel
  have t10 : tabAny isT "NoPlace" ["NothingDone"] = some false := by decide +kernel
  have t11 : tabAny isT "NoPlace" ["NoRow"] = some false := by decide +kernel
  have t12 : tabAny isT "NoPlace" ["BadWeb"] = some false := by decide +kernel
  have t13 : tabAny isT "NoPlace" ["NoText"] = some false := by decide +kernel
  have t14 : tabAny isT "NoPlace" ["Apart"] = some false := by decide +kernel
  have tv : tabAny isT "NoPlace" ["ValueError"] = some true := by decide +kernel
  have hs : 15 ≤ sizeLine := le_size (by omega)
  have e4 : cntD (.lst true [.bl true, .bl false, .bl false, .bl false, .bl false, .bl false, .bl false, .bl false, .bl false, .bl false, .bl false, .bl false, .bl false, .bl false, .bl false]) (.bl true) = some (.int 1) := by rfl
  have e5 : idxD (.lst true [.bl true, .bl false, .bl false, .bl false, .bl false, .bl false, .bl false, .bl false, .bl false, .bl false, .bl false, .bl false, .bl false, .bl false, .bl false]) (.bl true) = some (.int 0) := by rfl
  simp [F_law_class, body_law_class, a_law_class, t0, t1, t2, t3, t4, t5, t6, t7, t8, t9, t10, t11, t12, t13, t14, tv, hs, e4, e5, ite_app]
  exact h
theorem class2_w {a : Addr} {Q : Fo → Prop} (h : Q (.ok (.int 2) [.adr a])) : W (F_law_class a "Tied" [.adr a]) Q := by
  have t0 : tabAny isT "Tied" ["NoPlace"] = some false := by decide +kernel
  have t1 : tabAny isT "Tied" ["NotLone"] = some false := by decide +kernel
  have t2 : tabAny isT "Tied" ["Tied"] = some true := by decide +kernel
  have t3 : tabAny isT "Tied" ["TooMany"] = some false := by decide +kernel
  have t4 : tabAny isT "Tied" ["NoWay"] = some false := by decide +kernel
  have t5 : tabAny isT "Tied" ["NotPlain"] = some false := by decide +kernel
  have t6 : tabAny isT "Tied" ["NoSide"] = some false := by decide +kernel
  have t7 : tabAny isT "Tied" ["BadLengths"] = some false := by decide +kernel
  have t8 : tabAny isT "Tied" ["NoChoice"] = some false := by decide +kernel
  have t9 : tabAny isT "Tied" ["NoTie"] = some false := by decide +kernel
  have t10 : tabAny isT "Tied" ["NothingDone"] = some false := by decide +kernel
  have t11 : tabAny isT "Tied" ["NoRow"] = some false := by decide +kernel
  have t12 : tabAny isT "Tied" ["BadWeb"] = some false := by decide +kernel
  have t13 : tabAny isT "Tied" ["NoText"] = some false := by decide +kernel
  have t14 : tabAny isT "Tied" ["Apart"] = some false := by decide +kernel
  have tv : tabAny isT "Tied" ["ValueError"] = some true := by decide +kernel
  have hs : 15 ≤ sizeLine := le_size (by omega)
  have e4 : cntD (.lst true [.bl false, .bl false, .bl true, .bl false, .bl false, .bl false, .bl false, .bl false, .bl false, .bl false, .bl false, .bl false, .bl false, .bl false, .bl false]) (.bl true) = some (.int 1) := by rfl
  have e5 : idxD (.lst true [.bl false, .bl false, .bl true, .bl false, .bl false, .bl false, .bl false, .bl false, .bl false, .bl false, .bl false, .bl false, .bl false, .bl false, .bl false]) (.bl true) = some (.int 2) := by rfl
  simp [F_law_class, body_law_class, a_law_class, t0, t1, t2, t3, t4, t5, t6, t7, t8, t9, t10, t11, t12, t13, t14, tv, hs, e4, e5, ite_app]
  exact h
theorem class3_w {a : Addr} {Q : Fo → Prop} (h : Q (.ok (.int 3) [.adr a])) : W (F_law_class a "TooMany" [.adr a]) Q := by
  have t0 : tabAny isT "TooMany" ["NoPlace"] = some false := by decide +kernel
  have t1 : tabAny isT "TooMany" ["NotLone"] = some false := by decide +kernel
  have t2 : tabAny isT "TooMany" ["Tied"] = some false := by decide +kernel
  have t3 : tabAny isT "TooMany" ["TooMany"] = some true := by decide +kernel
  have t4 : tabAny isT "TooMany" ["NoWay"] = some false := by decide +kernel
  have t5 : tabAny isT "TooMany" ["NotPlain"] = some false := by decide +kernel
  have t6 : tabAny isT "TooMany" ["NoSide"] = some false := by decide +kernel
  have t7 : tabAny isT "TooMany" ["BadLengths"] = some false := by decide +kernel
  have t8 : tabAny isT "TooMany" ["NoChoice"] = some false := by decide +kernel
  have t9 : tabAny isT "TooMany" ["NoTie"] = some false := by decide +kernel
  have t10 : tabAny isT "TooMany" ["NothingDone"] = some false := by decide +kernel
  have t11 : tabAny isT "TooMany" ["NoRow"] = some false := by decide +kernel
  have t12 : tabAny isT "TooMany" ["BadWeb"] = some false := by decide +kernel
  have t13 : tabAny isT "TooMany" ["NoText"] = some false := by decide +kernel
  have t14 : tabAny isT "TooMany" ["Apart"] = some false := by decide +kernel
  have tv : tabAny isT "TooMany" ["ValueError"] = some true := by decide +kernel
  have hs : 15 ≤ sizeLine := le_size (by omega)
  have e4 : cntD (.lst true [.bl false, .bl false, .bl false, .bl true, .bl false, .bl false, .bl false, .bl false, .bl false, .bl false, .bl false, .bl false, .bl false, .bl false, .bl false]) (.bl true) = some (.int 1) := by rfl
  have e5 : idxD (.lst true [.bl false, .bl false, .bl false, .bl true, .bl false, .bl false, .bl false, .bl false, .bl false, .bl false, .bl false, .bl false, .bl false, .bl false, .bl false]) (.bl true) = some (.int 3) := by rfl
  simp [F_law_class, body_law_class, a_law_class, t0, t1, t2, t3, t4, t5, t6, t7, t8, t9, t10, t11, t12, t13, t14, tv, hs, e4, e5, ite_app]
  exact h
end G

set_option Elab.async false
set_option linter.all false
set_option maxRecDepth 100000
set_option maxHeartbeats 4000000
noncomputable section
namespace G
open PySem PySem.Spec L2 VS
open Classical in
def resD (m : Int) (rows : List R3) (a b l : Int) : D :=
  if Inn m a ∧ Inn m b then if a = b ∨ tiedK rows a b then .int 2 else if rows.length = 220 then .int 3 else putD m rows a b l else .int 0
theorem yes0 : ("NoPlace" : Str) ∈ yes_LoneError := by decide +kernel
theorem yes2 : ("Tied" : Str) ∈ yes_LoneError := by decide +kernel
theorem yes3 : ("TooMany" : Str) ∈ yes_LoneError := by decide +kernel
theorem told_w {m a b l : Int} {rows : List R3} {Q : Fo → Prop} (w : Lw m rows) (h : Q (.ok (resD m rows a b l) [webD m rows, .int a, .int b, .int l])) : W (F_law_told [webD m rows, .int a, .int b, .int l]) Q := by
  unfold resD at h
  simp [F_law_told, body_law_told, a_law_told]
  refine put_w w (fun no => ?_) (fun i t => ?_) (fun i nt c => ?_) (fun i nt c => ?_)
  · rw [if_neg no] at h
    simp [yes0]
    refine W_onAll (r := (.rt (.int 0), [webD m rows, .int a, .int b, .int l, .unk])) trivial (fun a => ?_) ?_
    · simp
      refine class0_w ?_
      simp
    · simp
      exact h
  · rw [if_pos i, if_pos t] at h
    simp [yes2]
    refine W_onAll (r := (.rt (.int 2), [webD m rows, .int a, .int b, .int l, .unk])) trivial (fun a => ?_) ?_
    · simp
      refine class2_w ?_
      simp
    · simp
      exact h
  · rw [if_pos i, if_neg nt, if_pos c] at h
    simp [yes3]
    refine W_onAll (r := (.rt (.int 3), [webD m rows, .int a, .int b, .int l, .unk])) trivial (fun a => ?_) ?_
    · simp
      refine class3_w ?_
      simp
    · simp
      exact h
  · rw [if_pos i, if_neg nt, if_neg c] at h
    simp [putD]
    exact h
theorem cut2 {r : R3} : gSlice (rD r) none (some 2) = some (pD (kp r)) := by
  rfl
theorem with_w {m a b l : Int} {rows : List R3} {Q : Fo → Prop} (w : Lw m rows) (h : Q (.ok (putD m rows a b l) [webD m rows, .int a, .int b, .int l])) : W (F_law_with_tie [webD m rows, .int a, .int b, .int l]) Q := by
  have le := w.le
  have hs : (rows ++ [(min a b, max a b, l)]).length ≤ sizeLine := le_size (by simp; omega)
  have so := sortT_rows hs
  rw [List.map_append, List.map_cons, List.map_nil] at so
  have hs2 : rows.length + 1 ≤ sizeLine := le_size (by omega)
  simp [F_law_with_tie, body_law_with_tie, a_law_with_tie, webD, hs2]
  simp only [rD_def]
  simp [so]
  exact h
theorem mem_kp {rows : List R3} {a b : Int} : D.tup [.int (min a b), .int (max a b)] ∈ rows.map (pD ∘ kp) ↔ tiedK rows a b := by
  unfold tiedK
  rw [← List.map_map]
  exact pairs_mem (x := (min a b, max a b))
theorem due_w {m a b l : Int} {rows : List R3} {Q : Fo → Prop} (w : Lw m rows) (h : Q (.ok (resD m rows a b l) [webD m rows, .int a, .int b, .int l])) : W (F_law_due [webD m rows, .int a, .int b, .int l]) Q := by
  unfold resD at h
  have le := w.le
  by_cases i : Inn m a ∧ Inn m b
  · rw [if_pos i] at h
    obtain ⟨⟨a0, a1⟩, b0, b1⟩ := id i
    simp [F_law_due, body_law_due, a_law_due, a0, a1, b0, b1, ite_app]
    simp [webD]
    refine W_lcAll (fun r => pD (kp r)) (le_size (by omega)) ?_ ?_
    · intro r hr J acc hj
      simp [cut2]
      exact hj
    · have em : rows.map (fun r => pD (kp r)) = (rows.map kp).map pD := by rw [List.map_map]; rfl
      rw [em]
      by_cases c : a = b
      · rw [if_pos (.inl c)] at h
        subst c
        simp [ite_app]
        exact h
      · by_cases t : tiedK rows a b
        · rw [if_pos (.inr t)] at h
          simp [c, ite_app, mem_kp, t]
          exact h
        · have nt : ¬ (a = b ∨ tiedK rows a b) := fun z => z.elim c t
          rw [if_neg nt] at h
          by_cases f : rows.length = 220
          · rw [if_pos f] at h
            have f2 : (rows.length : Int) = 220 := by omega
            simp [c, ite_app, mem_kp, t, f2]
            exact h
          · rw [if_neg f] at h
            have f2 : ¬ (rows.length : Int) = 220 := by omega
            simp [c, ite_app, mem_kp, t, f2]
            refine with_w w ?_
            simp
            exact h
  · rw [if_neg i] at h
    by_cases a0 : 0 ≤ a
    · by_cases a1 : a < m
      · by_cases b0 : 0 ≤ b
        · have b1 : ¬ b < m := fun z => i ⟨⟨a0, a1⟩, b0, z⟩
          simp [F_law_due, body_law_due, a_law_due, a0, a1, b0, b1, ite_app]
          exact h
        · simp [F_law_due, body_law_due, a_law_due, a0, a1, b0, ite_app]
          exact h
      · simp [F_law_due, body_law_due, a_law_due, a0, a1, ite_app]
        exact h
    · simp [F_law_due, body_law_due, a_law_due, a0, ite_app]
      exact h
theorem alike_w : ∀ {n : Nat} {d : D}, Tt n d → ∀ {Q : Fo → Prop}, Q (.ok (.bl true) [d, d]) → W (F_law_alike n [d, d]) Q
  | n + 1, _, .int, Q, h => by
    simp [F_law_alike, body_law_alike, a_law_alike, ite_app]
    exact h
  | n + 1, .tup ds, .tup hd hz, Q, h => by
    have hf := Tt.fzL hd
    simp [F_law_alike, body_law_alike, a_law_alike, ite_app, hf, zip_tt hf hf, zipD_self]
    refine W_lcAll (fun _ => .bl true) hz ?_ ?_
    · intro d hq J acc hj
      simp [(hd d hq).fz]
      refine alike_w (hd d hq) ?_
      simp
      exact hj
    · simp
      exact h
theorem res_tt {m a b l : Int} {rows : List R3} (w : Lw m rows) : Tt 20 (resD m rows a b l) := by
  have le := w.le
  unfold resD
  split
  · split
    · exact .int
    · split
      · exact .int
      · exact Tt.webD (n := 16) (by rw [sort3_len]; simp; omega)
  · exact .int
theorem untied_w {m : Int} {rows : List R3} {Q : Fo → Prop} (w : Lw m rows) (h : ∀ ps : List (Int × Int), ps.length ≤ 3600 → Q (.ok (.lst true (ps.map pD)) [webD m rows])) : W (F_law_untied [webD m rows]) Q := by
  have le := w.le
  have m1 := w.m1
  have m2 := w.m2
  simp [F_law_untied, body_law_untied, a_law_untied, webD]
  refine W_lcAll (fun r => pD (kp r)) (le_size (by omega)) ?_ ?_
  · intro r hr J acc hj
    simp [cut2]
    exact hj
  · have em : rows.map (fun r => pD (kp r)) = (rows.map kp).map pD := by rw [List.map_map]; rfl
    have hR := inR_le (show 0 ≤ m by omega) (by omega)
    rw [em]
    simp [hR]
    refine W_forN (fun k ρ => ∃ (ps : List (Int × Int)) (a : D), ρ = [.tup [.int m, .tup (rows.map rD)], .lst true ((rows.map kp).map pD), .lst true (ps.map pD), a, .unk, .unk] ∧ ps.length ≤ k * 60) ⟨[], .unk, by simp, by simp⟩ ?_ ?_
    · rintro k ρ hk ⟨ps, a, rfl, hl⟩ J hJ
      have hRk := inR_le (show 0 ≤ (k : Int) by omega) (by omega)
      simp [hRk]
      rw [ints_map]
      refine W_lcMap (f := D.int) (fun x => decide (¬ (x, (k : Int)) ∈ rows.map kp)) (fun x => pD (x, (k : Int))) (le_size (by simp; omega)) ?_ ?_
      · intro x hx J2 acc h1 h2
        have me : D.tup [.int x, .int k] ∈ rows.map (pD ∘ kp) ↔ (x, (k : Int)) ∈ rows.map kp := by
          rw [← List.map_map]
          exact pairs_mem (x := (x, (k : Int)))
        by_cases c : (x, (k : Int)) ∈ rows.map kp
        · have h3 := h2 (by simp only [decide_eq_false_iff_not]; exact fun z => z c)
          rw [← me] at c
          simp [c]
          exact h3
        · have h3 := h1 (by simp only [decide_eq_true_eq]; exact c)
          rw [← me] at c
          simp [c]
          exact h3
      · generalize hq : (List.filter (fun x => decide ¬(x, (k : Int)) ∈ rows.map kp) ((List.range k).map fun (i : Nat) => 0 + (i : Int))) = qs
        have hql : qs.length ≤ k := by
          rw [← hq]
          refine Nat.le_trans (List.length_filter_le _ _) (by simp)
        have eq : qs.map (fun x => pD (x, (k : Int))) = (qs.map fun x => (x, (k : Int))).map pD := by rw [List.map_map]; rfl
        have hs : ps.length + qs.length ≤ sizeLine := le_size (by omega)
        rw [eq]
        simp [hs]
        refine hJ _ ⟨ps ++ qs.map fun x => (x, (k : Int)), .int k, by simp, by simp; omega⟩
    · rintro ρ ⟨ps, a, rfl, hl⟩
      simp
      exact h ps (by omega)
theorem full_w {s : Pot} {Q : Fo → Prop} (h : ∀ rows s', Lw 22 rows → Q (.ok (webD 22 rows) [potD s'])) : W (F_law_full_web [potD s]) Q := by
  have hR : inR 22 := inR_le (by omega) (by omega)
  simp [F_law_full_web, body_law_full_web, a_law_full_web, hR]
  refine W_forN (fun k ρ => ∃ (ps : List (Int × Int)) (a : D), ρ = [potD s, .lst true (ps.map pD), a, .unk, .unk, .unk] ∧ ps = (List.range k).flatMap fun (j : Nat) => ((List.range j).filter fun (i : Nat) => decide (0 < i ∨ 11 < j)).map fun (i : Nat) => ((i : Int), (j : Int))) ⟨[], .unk, by simp, by simp⟩ ?_ ?_
  · rintro k ρ hk ⟨ps, a, rfl, hps⟩ J hJ
    have hRk := inR_le (show 0 ≤ (k : Int) by omega) (by omega)
    have hk22 : k < 22 := by simpa using hk
    simp [hRk]
    unfold intsD
    refine W_lcMap (f := fun (i : Nat) => D.int (0 + (i : Int))) (fun (i : Nat) => decide (0 < i ∨ 11 < k)) (fun (i : Nat) => pD ((i : Int), (k : Int))) (le_size (by simp; omega)) ?_ ?_
    · intro x hx J2 acc h1 h2
      by_cases c : 0 < x
      · have h3 := h1 (by simp [c])
        have c2 : (0 : Int) < x := by omega
        simp [c, c2]
        exact h3
      · by_cases c3 : 11 < k
        · have h3 := h1 (by simp [c3])
          have c2 : ¬ (0 : Int) < x := by omega
          have c4 : (11 : Int) < k := by omega
          simp [c, c2, c3, c4]
          exact h3
        · have h3 := h2 (by simp [c3]; omega)
          have c2 : ¬ (0 : Int) < x := by omega
          have c4 : ¬ (11 : Int) < k := by omega
          simp [c, c2, c3, c4]
          exact h3
    · generalize hq : ((List.range k).filter fun (i : Nat) => decide (0 < i ∨ 11 < k)) = qs
      have hql : qs.length ≤ k := by
        rw [← hq]
        refine Nat.le_trans (List.length_filter_le _ _) (by simp)
      have hpl : ps.length ≤ k * 22 := by
        rw [hps]
        clear hps hJ
        have key : ∀ k : Nat, k ≤ 22 → ((List.range k).flatMap fun (j : Nat) => ((List.range j).filter fun (i : Nat) => decide (0 < i ∨ 11 < j)).map fun (i : Nat) => ((i : Int), (j : Int))).length ≤ k * 22 := by
          intro k
          induction k with
          | zero => intro _; simp
          | succ k ih =>
            intro hk
            rw [List.range_succ, List.flatMap_append, List.length_append]
            have := ih (by omega)
            have h2 : ((List.range k).filter fun (i : Nat) => decide (0 < i ∨ 11 < k)).length ≤ k := Nat.le_trans (List.length_filter_le _ _) (by simp)
            simp only [List.flatMap_cons, List.flatMap_nil, List.append_nil, List.length_map]
            omega
        exact key k (by omega)
      have eq : qs.map (fun (i : Nat) => pD ((i : Int), (k : Int))) = (qs.map fun (i : Nat) => ((i : Int), (k : Int))).map pD := by rw [List.map_map]; rfl
      have hs : ps.length + qs.length ≤ sizeLine := le_size (by omega)
      rw [eq]
      simp [hs]
      refine hJ _ ⟨ps ++ qs.map fun (i : Nat) => ((i : Int), (k : Int)), .int k, by simp, ?_⟩
      rw [List.range_succ, List.flatMap_append, ← hps, ← hq]
      simp
  · rintro ρ ⟨ps, a, rfl, hps⟩
    have hps2 : ps.length = 220 ∧ ps.Nodup ∧ ∀ p ∈ ps, 0 ≤ p.1 ∧ p.1 < p.2 ∧ p.2 < 22 := by
      rw [hps]
      decide +kernel
    obtain ⟨hl, hnd, hen⟩ := hps2
    have e0 : D.dT true [] [] = dR true [] := rfl
    simp [e0]
    refine W_forL (fun p ρ => ∃ (s : Pot) (rows : List R3) (b : D), ρ = [potD s, .lst false (ps.map pD), a, dR true rows, b, .unk] ∧ rows.map kp = p ∧ ∀ r ∈ rows, 1 ≤ r.2.2 ∧ r.2.2 ≤ 3) ⟨s, [], _, rfl, rfl, by simp⟩ ?_ ?_
    · rintro p q post ρ e ⟨s, rows, b, rfl, hr, hln⟩ J hJ
      have hpl := len_of_split e
      have hrl : rows.length = p.length := by rw [← hr]; simp
      simp
      refine take_w (by omega) (by omega) fun x s2 x0 x1 => ?_
      have nn : (q.1, q.2) ∉ rows.map kp := by
        rw [hr]
        rw [e] at hnd
        intro z
        exact (List.nodup_append.mp hnd).2.2 _ z _ List.mem_cons_self rfl
      have pt := put_dR (l := 1 + x) (lt_size (show rows.length < 16000000 by omega)) nn
      simp [pD, pt]
      refine hJ _ ⟨s2, _, _, rfl, ?_, ?_⟩
      · rw [List.map_append, hr]; rfl
      · intro r hr
        rcases List.mem_append.mp hr with hr | hr
        · exact hln r hr
        · rw [List.mem_singleton] at hr
          subst hr
          simp only
          omega
    · rintro ρ ⟨s, rows, b, rfl, hr, hln⟩
      have hrl : rows.length = 220 := by rw [← hl, ← hr]; simp
      have rb : Rb 22 rows := ⟨by rw [hr]; exact hnd, fun r hq => hen (kp r) (by rw [← hr]; exact List.mem_map_of_mem hq), fun r hq => by have := hln r hq; omega⟩
      simp
      refine named_w (by omega) (by omega) (by omega) rb fun os s6 ho => ?_
      simp
      have rb2 := nmr_rb (by omega) ho rb
      refine h _ s6 ⟨by omega, by omega, by rw [sort3_len, List.length_map]; omega, fun r hr => ?_⟩
      have := rb2.en r ((sort3_perm _).mem_iff.mp hr)
      omega
end G

set_option Elab.async false
set_option linter.all false
set_option maxRecDepth 100000
set_option maxHeartbeats 4000000
noncomputable section
namespace G
open PySem PySem.Spec L2 VS
def tail58 : MS := (dSeq (dSet 3 (dLst dNil)) (dSeq (dSet 4 (dFn [none] F_law_untied (dCons (dV 2) dNil))) (dSeq (dFor (dRange1 (dCons (dC (.int 6)) dNil)) (gNm 5) (dSeq (dPar 6 7 (dCons (dFn [some 1, none] F_law_take (dIO 1 (dCons (dAt 2 (dC (.int 0))) dNil))) (dCons (dFn [some 1, none] F_law_take (dIO 1 (dCons (dAt 2 (dC (.int 0))) dNil))) dNil))) (dSeq (dIfS (dAndT (dTB (d2 gNe (dF 4) (dLst dNil))) (dTB (d2 (gCmp cLt) (dV 5) (dC (.int 3))))) (dAsg (dAt 4 (dFn [some 1, none] F_law_take (dIO 1 (dCons (dCallS [some 4] gLen (dIO 4 dNil)) dNil)))) (gSq [6, 7])) dSkip) (dDrop (dMt 3 gExt (dCons (dLst (dCons (dTup (dCons (dV 6) (dCons (dV 7) dNil))) (dCons (dTup (dCons (dV 7) (dCons (dV 6) dNil))) (dCons (dTup (dCons (dV 6) (dCons (dAt 2 (dC (.int 0))) dNil))) (dCons (dTup (dCons (d1 gNeg (dC (.int 1))) (dCons (dV 7) dNil))) (dCons (dTup (dCons (d1 gNeg (dC (.int 1))) (dCons (d1 gNeg (dC (.int 1))) dNil))) (dCons (dTup (dCons (dV 6) (dCons (dV 6) dNil))) dNil))))))) dNil)))))) (dSeq (dFor (dItems (dF 3)) (gTp [6, 7]) (dSeq (dSet 8 (d2 gIx (dLst (dCons (dC (.int 1)) (dCons (d2 gPow (dC (.int 10)) (dC (.int 30))) (dCons (d2 gAdd (dC (.int 1)) (dFn [some 1, none] F_law_take (dIO 1 (dCons (dC (.int 50)) dNil)))) dNil)))) (dFn [some 1, none] F_law_take (dIO 1 (dCons (dC (.int 3)) dNil))))) (dIfS (dNotT (dTB (dFn [none, none] (F_law_alike 20) (dCons (dFn [none, none, none, none] F_law_told (dCons (dV 2) (dCons (dV 6) (dCons (dV 7) (dCons (dV 8) dNil))))) (dCons (dFn [none, none, none, none] F_law_due (dCons (dV 2) (dCons (dV 6) (dCons (dV 7) (dCons (dV 8) dNil))))) dNil))))) (dRet (dC (.bl false))) dSkip))) (dRet (dC (.bl true)))))))
theorem good : Always F_law := by
  intro ns0 hns
  have key : W (F_law [.scr (ns0.map D.int)]) (fun r => ∃ as, r = .ok (.bl true) as) := by
    have hR6 : inR 6 := inR_le (by omega) (by omega)
    simp [F_law, body_law, a_law]
    refine pot_w hns fun s => ?_
    simp
    refine web_w fun m0 rows0 s1 w0 => ?_
    simp
    refine take_w (by omega) (by omega) fun x s2 x0 x1 => ?_
    have fin : ∀ (m : Int) (rows : List R3) (s : Pot), Lw m rows → W (tail58 [.scr (ns0.map D.int), potD s, webD m rows, .unk, .unk, .unk, .unk, .unk, .unk]) (eQ 9 1 a_law (fun r => ∃ as, r = .ok (.bl true) as)) := by
      intro m rows s w
      have m1 := w.m1
      have m2 := w.m2
      unfold tail58
      simp
      refine untied_w w fun us hus => ?_
      simp [hR6]
      refine W_forN (fun k ρ => ∃ (s : Pot) (ps : List (Int × Int)) (o : Bool) (a b c d : D), ρ = [.scr (ns0.map D.int), potD s, webD m rows, .lst true (ps.map pD), .lst o (us.map pD), a, b, c, d] ∧ ps.length = 6 * k) ⟨s, [], true, _, _, _, _, rfl, rfl⟩ ?_ ?_
      · rintro k ρ hk ⟨s, ps, o, a, b, c, d, rfl, hl⟩ J hJ
        have hk6 : k < 6 := by simpa using hk
        have hs : ps.length + 6 ≤ sizeLine := le_size (by omega)
        simp
        refine take_w (by omega) (by omega) fun y s3 y0 y1 => ?_
        simp
        refine take_w (by omega) (by omega) fun z s4 z0 z1 => ?_
        have done : ∀ (s : Pot) (o : Bool) (u v : Int), J [.scr (ns0.map D.int), potD s, webD m rows, .lst true (ps.map pD ++ [.tup [.int u, .int v], .tup [.int v, .int u], .tup [.int u, .int m], .tup [.int (-1), .int v], .tup [.int (-1), .int (-1)], .tup [.int u, .int u]]), .lst o (us.map pD), .int k, .int u, .int v, d] := fun s o u v =>
          hJ _ ⟨s, ps ++ [(u, v), (v, u), (u, m), (-1, v), (-1, -1), (u, u)], o, _, _, _, _, by rw [List.map_append]; rfl, by simp; omega⟩
        by_cases e : us = []
        · subst e
          simp [ite_app, hs]
          exact done _ _ _ _
        · have ul : 0 < us.length := List.length_pos_iff.mpr e
          by_cases c3 : (k : Int) < 3
          · simp [ite_app, hs, e, c3]
            refine take_w (by omega) (by omega) fun t s5 t0 t1 => ?_
            simp
            refine W_at t0 t1 fun q hq => ?_
            simp [hs]
            exact done _ _ _ _
          · simp [ite_app, hs, e, c3]
            exact done _ _ _ _
      · rintro ρ ⟨s, ps, o, a, b, c, d, rfl, hl⟩
        simp
        refine W_forL (fun p ρ => ∃ (s : Pot) (b c d : D), ρ = [.scr (ns0.map D.int), potD s, webD m rows, .lst false (ps.map pD), .lst o (us.map pD), a, b, c, d]) ⟨s, _, _, _, rfl⟩ ?_ ?_
        · rintro p q post ρ e ⟨s, b, c, d, rfl⟩ J hJ
          simp
          refine take_w (by omega) (by omega) fun y s3 y0 y1 => ?_
          simp
          refine take_w (by omega) (by omega) fun z s4 z0 z1 => ?_
          simp
          refine W_pick (l := [1, 1000000000000000000000000000000, 1 + y]) (n := 3) rfl z0 z1 fun l hl => ?_
          simp
          refine told_w w ?_
          have tt := res_tt (a := q.1) (b := q.2) (l := l) w
          simp
          refine due_w w ?_
          simp
          refine alike_w tt ?_
          simp [ite_app]
          exact hJ _ ⟨s4, _, _, _, rfl⟩
        · rintro ρ ⟨s, b, c, d, rfl⟩
          simp
    by_cases c : x = 0
    · simp [c, ite_app]
      refine full_w fun rows s3 w => ?_
      have f := fin 22 rows s3 w
      unfold tail58 at f
      simp at f
      simp
      exact f
    · have f := fin m0 rows0 s2 w0.lw
      unfold tail58 at f
      simp at f
      simp [c, ite_app]
      exact f
  obtain ⟨r, e, as, rfl⟩ := key
  exact ⟨as, e⟩
end G

set_option Elab.async false
set_option linter.all false
set_option maxRecDepth 100000
set_option maxHeartbeats 4000000
namespace G
open PySem PySem.Spec PyProof.Rows L2 VS
theorem all_mk {P : Program} {w : World} {K : PySem.W.Frag} {h : Heap} {mg : Str → Option Value} {fa : Addr} (X : K.In h) (G : h.Ns mainGlobals mg) (hfa : mg "law" = some (.ref fa)) (good : Always F_law)
    {f_look_at_place : Addr} {oc_look_at_place kV_look_at_place dc_look_at_place pm_look_at_place cd_look_at_place ct_look_at_place : Value} {od_look_at_place an_look_at_place : Option Addr} {sl_look_at_place : Array (Option Value)} (a_look_at_place : PySem.W.nsIn K mainGlobals "look_at_place" = some (some (.ref f_look_at_place))) (l_look_at_place : K.lookup f_look_at_place = some ⟨oc_look_at_place, od_look_at_place, .func (PySem.W.fnOf "look_at_place" "look_at_place" (defArgs s_look_at_place) (defBody s_look_at_place) (defScope s_look_at_place) .none kV_look_at_place dc_look_at_place pm_look_at_place an_look_at_place cd_look_at_place ct_look_at_place), sl_look_at_place⟩) (c_look_at_place : PySem.W.codeIn K cd_look_at_place "look_at_place" = true) (k_look_at_place : PySem.W.keepIn K (.ref f_look_at_place) = true)
    {f_length_between : Addr} {oc_length_between kV_length_between dc_length_between pm_length_between cd_length_between ct_length_between : Value} {od_length_between an_length_between : Option Addr} {sl_length_between : Array (Option Value)} (a_length_between : PySem.W.nsIn K mainGlobals "length_between" = some (some (.ref f_length_between))) (l_length_between : K.lookup f_length_between = some ⟨oc_length_between, od_length_between, .func (PySem.W.fnOf "length_between" "length_between" (defArgs s_length_between) (defBody s_length_between) (defScope s_length_between) .none kV_length_between dc_length_between pm_length_between an_length_between cd_length_between ct_length_between), sl_length_between⟩) (c_length_between : PySem.W.codeIn K cd_length_between "length_between" = true) (k_length_between : PySem.W.keepIn K (.ref f_length_between) = true)
    {f_tie_length : Addr} {oc_tie_length kV_tie_length dc_tie_length pm_tie_length cd_tie_length ct_tie_length : Value} {od_tie_length an_tie_length : Option Addr} {sl_tie_length : Array (Option Value)} (a_tie_length : PySem.W.nsIn K mainGlobals "tie_length" = some (some (.ref f_tie_length))) (l_tie_length : K.lookup f_tie_length = some ⟨oc_tie_length, od_tie_length, .func (PySem.W.fnOf "tie_length" "tie_length" (defArgs s_tie_length) (defBody s_tie_length) (defScope s_tie_length) .none kV_tie_length dc_tie_length pm_tie_length an_tie_length cd_tie_length ct_tie_length), sl_tie_length⟩) (c_tie_length : PySem.W.codeIn K cd_tie_length "tie_length" = true) (k_tie_length : PySem.W.keepIn K (.ref f_tie_length) = true)
    {f_look_at_ends : Addr} {oc_look_at_ends kV_look_at_ends dc_look_at_ends pm_look_at_ends cd_look_at_ends ct_look_at_ends : Value} {od_look_at_ends an_look_at_ends : Option Addr} {sl_look_at_ends : Array (Option Value)} (a_look_at_ends : PySem.W.nsIn K mainGlobals "look_at_ends" = some (some (.ref f_look_at_ends))) (l_look_at_ends : K.lookup f_look_at_ends = some ⟨oc_look_at_ends, od_look_at_ends, .func (PySem.W.fnOf "look_at_ends" "look_at_ends" (defArgs s_look_at_ends) (defBody s_look_at_ends) (defScope s_look_at_ends) .none kV_look_at_ends dc_look_at_ends pm_look_at_ends an_look_at_ends cd_look_at_ends ct_look_at_ends), sl_look_at_ends⟩) (c_look_at_ends : PySem.W.codeIn K cd_look_at_ends "look_at_ends" = true) (k_look_at_ends : PySem.W.keepIn K (.ref f_look_at_ends) = true)
    {f_look_at_tied : Addr} {oc_look_at_tied kV_look_at_tied dc_look_at_tied pm_look_at_tied cd_look_at_tied ct_look_at_tied : Value} {od_look_at_tied an_look_at_tied : Option Addr} {sl_look_at_tied : Array (Option Value)} (a_look_at_tied : PySem.W.nsIn K mainGlobals "look_at_tied" = some (some (.ref f_look_at_tied))) (l_look_at_tied : K.lookup f_look_at_tied = some ⟨oc_look_at_tied, od_look_at_tied, .func (PySem.W.fnOf "look_at_tied" "look_at_tied" (defArgs s_look_at_tied) (defBody s_look_at_tied) (defScope s_look_at_tied) .none kV_look_at_tied dc_look_at_tied pm_look_at_tied an_look_at_tied cd_look_at_tied ct_look_at_tied), sl_look_at_tied⟩) (c_look_at_tied : PySem.W.codeIn K cd_look_at_tied "look_at_tied" = true) (k_look_at_tied : PySem.W.keepIn K (.ref f_look_at_tied) = true)
    {f_put_web : Addr} {oc_put_web kV_put_web dc_put_web pm_put_web cd_put_web ct_put_web : Value} {od_put_web an_put_web : Option Addr} {sl_put_web : Array (Option Value)} (a_put_web : PySem.W.nsIn K mainGlobals "put_web" = some (some (.ref f_put_web))) (l_put_web : K.lookup f_put_web = some ⟨oc_put_web, od_put_web, .func (PySem.W.fnOf "put_web" "put_web" (defArgs s_put_web) (defBody s_put_web) (defScope s_put_web) .none kV_put_web dc_put_web pm_put_web an_put_web cd_put_web ct_put_web), sl_put_web⟩) (c_put_web : PySem.W.codeIn K cd_put_web "put_web" = true) (k_put_web : PySem.W.keepIn K (.ref f_put_web) = true)
    {f_law_pot : Addr} {oc_law_pot kV_law_pot dc_law_pot pm_law_pot cd_law_pot ct_law_pot : Value} {od_law_pot an_law_pot : Option Addr} {sl_law_pot : Array (Option Value)} (a_law_pot : PySem.W.nsIn K mainGlobals "_law_pot" = some (some (.ref f_law_pot))) (l_law_pot : K.lookup f_law_pot = some ⟨oc_law_pot, od_law_pot, .func (PySem.W.fnOf "_law_pot" "_law_pot" (defArgs s_law_pot) (defBody s_law_pot) (defScope s_law_pot) .none kV_law_pot dc_law_pot pm_law_pot an_law_pot cd_law_pot ct_law_pot), sl_law_pot⟩) (c_law_pot : PySem.W.codeIn K cd_law_pot "_law_pot" = true) (k_law_pot : PySem.W.keepIn K (.ref f_law_pot) = true)
    {f_law_take : Addr} {oc_law_take kV_law_take dc_law_take pm_law_take cd_law_take ct_law_take : Value} {od_law_take an_law_take : Option Addr} {sl_law_take : Array (Option Value)} (a_law_take : PySem.W.nsIn K mainGlobals "_law_take" = some (some (.ref f_law_take))) (l_law_take : K.lookup f_law_take = some ⟨oc_law_take, od_law_take, .func (PySem.W.fnOf "_law_take" "_law_take" (defArgs s_law_take) (defBody s_law_take) (defScope s_law_take) .none kV_law_take dc_law_take pm_law_take an_law_take cd_law_take ct_law_take), sl_law_take⟩) (c_law_take : PySem.W.codeIn K cd_law_take "_law_take" = true) (k_law_take : PySem.W.keepIn K (.ref f_law_take) = true)
    {f_law_length : Addr} {oc_law_length kV_law_length dc_law_length pm_law_length cd_law_length ct_law_length : Value} {od_law_length an_law_length : Option Addr} {sl_law_length : Array (Option Value)} (a_law_length : PySem.W.nsIn K mainGlobals "_law_length" = some (some (.ref f_law_length))) (l_law_length : K.lookup f_law_length = some ⟨oc_law_length, od_law_length, .func (PySem.W.fnOf "_law_length" "_law_length" (defArgs s_law_length) (defBody s_law_length) (defScope s_law_length) .none kV_law_length dc_law_length pm_law_length an_law_length cd_law_length ct_law_length), sl_law_length⟩) (c_law_length : PySem.W.codeIn K cd_law_length "_law_length" = true) (k_law_length : PySem.W.keepIn K (.ref f_law_length) = true)
    {f_law_order : Addr} {oc_law_order kV_law_order dc_law_order pm_law_order cd_law_order ct_law_order : Value} {od_law_order an_law_order : Option Addr} {sl_law_order : Array (Option Value)} (a_law_order : PySem.W.nsIn K mainGlobals "_law_order" = some (some (.ref f_law_order))) (l_law_order : K.lookup f_law_order = some ⟨oc_law_order, od_law_order, .func (PySem.W.fnOf "_law_order" "_law_order" (defArgs s_law_order) (defBody s_law_order) (defScope s_law_order) .none kV_law_order dc_law_order pm_law_order an_law_order cd_law_order ct_law_order), sl_law_order⟩) (c_law_order : PySem.W.codeIn K cd_law_order "_law_order" = true) (k_law_order : PySem.W.keepIn K (.ref f_law_order) = true)
    {f_law_named : Addr} {oc_law_named kV_law_named dc_law_named pm_law_named cd_law_named ct_law_named : Value} {od_law_named an_law_named : Option Addr} {sl_law_named : Array (Option Value)} (a_law_named : PySem.W.nsIn K mainGlobals "_law_named" = some (some (.ref f_law_named))) (l_law_named : K.lookup f_law_named = some ⟨oc_law_named, od_law_named, .func (PySem.W.fnOf "_law_named" "_law_named" (defArgs s_law_named) (defBody s_law_named) (defScope s_law_named) .none kV_law_named dc_law_named pm_law_named an_law_named cd_law_named ct_law_named), sl_law_named⟩) (c_law_named : PySem.W.codeIn K cd_law_named "_law_named" = true) (k_law_named : PySem.W.keepIn K (.ref f_law_named) = true)
    {f_law_any_web : Addr} {oc_law_any_web kV_law_any_web dc_law_any_web pm_law_any_web cd_law_any_web ct_law_any_web : Value} {od_law_any_web an_law_any_web : Option Addr} {sl_law_any_web : Array (Option Value)} (a_law_any_web : PySem.W.nsIn K mainGlobals "_law_any_web" = some (some (.ref f_law_any_web))) (l_law_any_web : K.lookup f_law_any_web = some ⟨oc_law_any_web, od_law_any_web, .func (PySem.W.fnOf "_law_any_web" "_law_any_web" (defArgs s_law_any_web) (defBody s_law_any_web) (defScope s_law_any_web) .none kV_law_any_web dc_law_any_web pm_law_any_web an_law_any_web cd_law_any_web ct_law_any_web), sl_law_any_web⟩) (c_law_any_web : PySem.W.codeIn K cd_law_any_web "_law_any_web" = true) (k_law_any_web : PySem.W.keepIn K (.ref f_law_any_web) = true)
    {f_law_pairs : Addr} {oc_law_pairs kV_law_pairs dc_law_pairs pm_law_pairs cd_law_pairs ct_law_pairs : Value} {od_law_pairs an_law_pairs : Option Addr} {sl_law_pairs : Array (Option Value)} (a_law_pairs : PySem.W.nsIn K mainGlobals "_law_pairs" = some (some (.ref f_law_pairs))) (l_law_pairs : K.lookup f_law_pairs = some ⟨oc_law_pairs, od_law_pairs, .func (PySem.W.fnOf "_law_pairs" "_law_pairs" (defArgs s_law_pairs) (defBody s_law_pairs) (defScope s_law_pairs) .none kV_law_pairs dc_law_pairs pm_law_pairs an_law_pairs cd_law_pairs ct_law_pairs), sl_law_pairs⟩) (c_law_pairs : PySem.W.codeIn K cd_law_pairs "_law_pairs" = true) (k_law_pairs : PySem.W.keepIn K (.ref f_law_pairs) = true)
    {f_law_lone_web : Addr} {oc_law_lone_web kV_law_lone_web dc_law_lone_web pm_law_lone_web cd_law_lone_web ct_law_lone_web : Value} {od_law_lone_web an_law_lone_web : Option Addr} {sl_law_lone_web : Array (Option Value)} (a_law_lone_web : PySem.W.nsIn K mainGlobals "_law_lone_web" = some (some (.ref f_law_lone_web))) (l_law_lone_web : K.lookup f_law_lone_web = some ⟨oc_law_lone_web, od_law_lone_web, .func (PySem.W.fnOf "_law_lone_web" "_law_lone_web" (defArgs s_law_lone_web) (defBody s_law_lone_web) (defScope s_law_lone_web) .none kV_law_lone_web dc_law_lone_web pm_law_lone_web an_law_lone_web cd_law_lone_web ct_law_lone_web), sl_law_lone_web⟩) (c_law_lone_web : PySem.W.codeIn K cd_law_lone_web "_law_lone_web" = true) (k_law_lone_web : PySem.W.keepIn K (.ref f_law_lone_web) = true)
    {f_law_other_length : Addr} {oc_law_other_length kV_law_other_length dc_law_other_length pm_law_other_length cd_law_other_length ct_law_other_length : Value} {od_law_other_length an_law_other_length : Option Addr} {sl_law_other_length : Array (Option Value)} (a_law_other_length : PySem.W.nsIn K mainGlobals "_law_other_length" = some (some (.ref f_law_other_length))) (l_law_other_length : K.lookup f_law_other_length = some ⟨oc_law_other_length, od_law_other_length, .func (PySem.W.fnOf "_law_other_length" "_law_other_length" (defArgs s_law_other_length) (defBody s_law_other_length) (defScope s_law_other_length) .none kV_law_other_length dc_law_other_length pm_law_other_length an_law_other_length cd_law_other_length ct_law_other_length), sl_law_other_length⟩) (c_law_other_length : PySem.W.codeIn K cd_law_other_length "_law_other_length" = true) (k_law_other_length : PySem.W.keepIn K (.ref f_law_other_length) = true)
    {f_law_web : Addr} {oc_law_web kV_law_web dc_law_web pm_law_web cd_law_web ct_law_web : Value} {od_law_web an_law_web : Option Addr} {sl_law_web : Array (Option Value)} (a_law_web : PySem.W.nsIn K mainGlobals "_law_web" = some (some (.ref f_law_web))) (l_law_web : K.lookup f_law_web = some ⟨oc_law_web, od_law_web, .func (PySem.W.fnOf "_law_web" "_law_web" (defArgs s_law_web) (defBody s_law_web) (defScope s_law_web) .none kV_law_web dc_law_web pm_law_web an_law_web cd_law_web ct_law_web), sl_law_web⟩) (c_law_web : PySem.W.codeIn K cd_law_web "_law_web" = true) (k_law_web : PySem.W.keepIn K (.ref f_law_web) = true)
    {f_law_alike : Addr} {oc_law_alike kV_law_alike dc_law_alike pm_law_alike cd_law_alike ct_law_alike : Value} {od_law_alike an_law_alike : Option Addr} {sl_law_alike : Array (Option Value)} (a_law_alike : PySem.W.nsIn K mainGlobals "_law_alike" = some (some (.ref f_law_alike))) (l_law_alike : K.lookup f_law_alike = some ⟨oc_law_alike, od_law_alike, .func (PySem.W.fnOf "_law_alike" "_law_alike" (defArgs s_law_alike) (defBody s_law_alike) (defScope s_law_alike) .none kV_law_alike dc_law_alike pm_law_alike an_law_alike cd_law_alike ct_law_alike), sl_law_alike⟩) (c_law_alike : PySem.W.codeIn K cd_law_alike "_law_alike" = true) (k_law_alike : PySem.W.keepIn K (.ref f_law_alike) = true)
    {f_law_class : Addr} {oc_law_class kV_law_class dc_law_class pm_law_class cd_law_class ct_law_class : Value} {od_law_class an_law_class : Option Addr} {sl_law_class : Array (Option Value)} (a_law_class : PySem.W.nsIn K mainGlobals "_law_class" = some (some (.ref f_law_class))) (l_law_class : K.lookup f_law_class = some ⟨oc_law_class, od_law_class, .func (PySem.W.fnOf "_law_class" "_law_class" (defArgs s_law_class) (defBody s_law_class) (defScope s_law_class) .none kV_law_class dc_law_class pm_law_class an_law_class cd_law_class ct_law_class), sl_law_class⟩) (c_law_class : PySem.W.codeIn K cd_law_class "_law_class" = true) (k_law_class : PySem.W.keepIn K (.ref f_law_class) = true)
    {f_law_untied : Addr} {oc_law_untied kV_law_untied dc_law_untied pm_law_untied cd_law_untied ct_law_untied : Value} {od_law_untied an_law_untied : Option Addr} {sl_law_untied : Array (Option Value)} (a_law_untied : PySem.W.nsIn K mainGlobals "_law_untied" = some (some (.ref f_law_untied))) (l_law_untied : K.lookup f_law_untied = some ⟨oc_law_untied, od_law_untied, .func (PySem.W.fnOf "_law_untied" "_law_untied" (defArgs s_law_untied) (defBody s_law_untied) (defScope s_law_untied) .none kV_law_untied dc_law_untied pm_law_untied an_law_untied cd_law_untied ct_law_untied), sl_law_untied⟩) (c_law_untied : PySem.W.codeIn K cd_law_untied "_law_untied" = true) (k_law_untied : PySem.W.keepIn K (.ref f_law_untied) = true)
    {f_law_with_tie : Addr} {oc_law_with_tie kV_law_with_tie dc_law_with_tie pm_law_with_tie cd_law_with_tie ct_law_with_tie : Value} {od_law_with_tie an_law_with_tie : Option Addr} {sl_law_with_tie : Array (Option Value)} (a_law_with_tie : PySem.W.nsIn K mainGlobals "_law_with_tie" = some (some (.ref f_law_with_tie))) (l_law_with_tie : K.lookup f_law_with_tie = some ⟨oc_law_with_tie, od_law_with_tie, .func (PySem.W.fnOf "_law_with_tie" "_law_with_tie" (defArgs s_law_with_tie) (defBody s_law_with_tie) (defScope s_law_with_tie) .none kV_law_with_tie dc_law_with_tie pm_law_with_tie an_law_with_tie cd_law_with_tie ct_law_with_tie), sl_law_with_tie⟩) (c_law_with_tie : PySem.W.codeIn K cd_law_with_tie "_law_with_tie" = true) (k_law_with_tie : PySem.W.keepIn K (.ref f_law_with_tie) = true)
    {f_law_full_web : Addr} {oc_law_full_web kV_law_full_web dc_law_full_web pm_law_full_web cd_law_full_web ct_law_full_web : Value} {od_law_full_web an_law_full_web : Option Addr} {sl_law_full_web : Array (Option Value)} (a_law_full_web : PySem.W.nsIn K mainGlobals "_law_full_web" = some (some (.ref f_law_full_web))) (l_law_full_web : K.lookup f_law_full_web = some ⟨oc_law_full_web, od_law_full_web, .func (PySem.W.fnOf "_law_full_web" "_law_full_web" (defArgs s_law_full_web) (defBody s_law_full_web) (defScope s_law_full_web) .none kV_law_full_web dc_law_full_web pm_law_full_web an_law_full_web cd_law_full_web ct_law_full_web), sl_law_full_web⟩) (c_law_full_web : PySem.W.codeIn K cd_law_full_web "_law_full_web" = true) (k_law_full_web : PySem.W.keepIn K (.ref f_law_full_web) = true)
    {f_law_told : Addr} {oc_law_told kV_law_told dc_law_told pm_law_told cd_law_told ct_law_told : Value} {od_law_told an_law_told : Option Addr} {sl_law_told : Array (Option Value)} (a_law_told : PySem.W.nsIn K mainGlobals "_law_told" = some (some (.ref f_law_told))) (l_law_told : K.lookup f_law_told = some ⟨oc_law_told, od_law_told, .func (PySem.W.fnOf "_law_told" "_law_told" (defArgs s_law_told) (defBody s_law_told) (defScope s_law_told) .none kV_law_told dc_law_told pm_law_told an_law_told cd_law_told ct_law_told), sl_law_told⟩) (c_law_told : PySem.W.codeIn K cd_law_told "_law_told" = true) (k_law_told : PySem.W.keepIn K (.ref f_law_told) = true)
    {f_law_due : Addr} {oc_law_due kV_law_due dc_law_due pm_law_due cd_law_due ct_law_due : Value} {od_law_due an_law_due : Option Addr} {sl_law_due : Array (Option Value)} (a_law_due : PySem.W.nsIn K mainGlobals "_law_due" = some (some (.ref f_law_due))) (l_law_due : K.lookup f_law_due = some ⟨oc_law_due, od_law_due, .func (PySem.W.fnOf "_law_due" "_law_due" (defArgs s_law_due) (defBody s_law_due) (defScope s_law_due) .none kV_law_due dc_law_due pm_law_due an_law_due cd_law_due ct_law_due), sl_law_due⟩) (c_law_due : PySem.W.codeIn K cd_law_due "_law_due" = true) (k_law_due : PySem.W.keepIn K (.ref f_law_due) = true)
    {f_law : Addr} {oc_law kV_law dc_law pm_law cd_law ct_law : Value} {od_law an_law : Option Addr} {sl_law : Array (Option Value)} (a_law : PySem.W.nsIn K mainGlobals "law" = some (some (.ref f_law))) (l_law : K.lookup f_law = some ⟨oc_law, od_law, .func (PySem.W.fnOf "law" "law" (defArgs s_law) (defBody s_law) (defScope s_law) .none kV_law dc_law pm_law an_law cd_law ct_law), sl_law⟩) (c_law : PySem.W.codeIn K cd_law "law" = true) (k_law : PySem.W.keepIn K (.ref f_law) = true)
    {t_MOST_TIES : Tok} (z_MOST_TIES : PySem.W.nsIn K mainGlobals "MOST_TIES" = some (some (.int (220) t_MOST_TIES)))
    (z_ValueError : PySem.W.nsIn K mainGlobals "ValueError" = some none)
    (z_all : PySem.W.nsIn K mainGlobals "all" = some none)
    (z_bool : PySem.W.nsIn K mainGlobals "bool" = some none)
    (z_int : PySem.W.nsIn K mainGlobals "int" = some none)
    (z_isinstance : PySem.W.nsIn K mainGlobals "isinstance" = some none)
    (z_len : PySem.W.nsIn K mainGlobals "len" = some none)
    (z_list : PySem.W.nsIn K mainGlobals "list" = some none)
    (z_max : PySem.W.nsIn K mainGlobals "max" = some none)
    (z_min : PySem.W.nsIn K mainGlobals "min" = some none)
    (z_range : PySem.W.nsIn K mainGlobals "range" = some none)
    (z_sorted : PySem.W.nsIn K mainGlobals "sorted" = some none)
    (z_tuple : PySem.W.nsIn K mainGlobals "tuple" = some none)
    (z_zip : PySem.W.nsIn K mainGlobals "zip" = some none)
    {K_Apart : Addr} (g_Apart : PySem.W.nsIn K mainGlobals "Apart" = some (some (.ref K_Apart)))
    {K_BadLengths : Addr} (g_BadLengths : PySem.W.nsIn K mainGlobals "BadLengths" = some (some (.ref K_BadLengths)))
    {K_BadWeb : Addr} (g_BadWeb : PySem.W.nsIn K mainGlobals "BadWeb" = some (some (.ref K_BadWeb)))
    {K_LoneError : Addr} (g_LoneError : PySem.W.nsIn K mainGlobals "LoneError" = some (some (.ref K_LoneError)))
    {K_NoChoice : Addr} (g_NoChoice : PySem.W.nsIn K mainGlobals "NoChoice" = some (some (.ref K_NoChoice)))
    {K_NoPlace : Addr} (g_NoPlace : PySem.W.nsIn K mainGlobals "NoPlace" = some (some (.ref K_NoPlace)))
    {K_NoRow : Addr} (g_NoRow : PySem.W.nsIn K mainGlobals "NoRow" = some (some (.ref K_NoRow)))
    {K_NoSide : Addr} (g_NoSide : PySem.W.nsIn K mainGlobals "NoSide" = some (some (.ref K_NoSide)))
    {K_NoText : Addr} (g_NoText : PySem.W.nsIn K mainGlobals "NoText" = some (some (.ref K_NoText)))
    {K_NoTie : Addr} (g_NoTie : PySem.W.nsIn K mainGlobals "NoTie" = some (some (.ref K_NoTie)))
    {K_NoWay : Addr} (g_NoWay : PySem.W.nsIn K mainGlobals "NoWay" = some (some (.ref K_NoWay)))
    {K_NotLone : Addr} (g_NotLone : PySem.W.nsIn K mainGlobals "NotLone" = some (some (.ref K_NotLone)))
    {K_NotPlain : Addr} (g_NotPlain : PySem.W.nsIn K mainGlobals "NotPlain" = some (some (.ref K_NotPlain)))
    {K_NothingDone : Addr} (g_NothingDone : PySem.W.nsIn K mainGlobals "NothingDone" = some (some (.ref K_NothingDone)))
    {K_Tied : Addr} (g_Tied : PySem.W.nsIn K mainGlobals "Tied" = some (some (.ref K_Tied)))
    {K_TooMany : Addr} (g_TooMany : PySem.W.nsIn K mainGlobals "TooMany" = some (some (.ref K_TooMany)))
    (hn : PySem.W.specialIn K (.builtin "object.__class__") "__get__" = some (some (.builtin "getset_descriptor.__get__"))) (ht : PySem.W.takesIn K (.builtin "object.__class__") = some true)
    (x_NoPlace : PySem.W.excIn K K_NoPlace [.type "ValueError", .type "Exception", .type "BaseException", .type "object"] "ValueError.__new__" = true)
    (kp_NoPlace : PySem.W.keepIn K (.ref K_NoPlace) = true) (sb_NoPlace : PySem.W.subIn K (.ref K_NoPlace) (.type "BaseException") = some true) (ty_NoPlace : PySem.W.typeIn K (.ref K_NoPlace) = some (.type "type"))
    (eg_NoPlace : PySem.W.findIn K (.ref K_NoPlace) "__getattribute__" = some (some (.builtin "BaseException.__getattribute__"))) (ek_NoPlace : PySem.W.findIn K (.ref K_NoPlace) "__getattr__" = some none) (ed_NoPlace : PySem.W.hasDictIn K K_NoPlace = true) (ea_NoPlace : PySem.W.findIn K (.ref K_NoPlace) "__class__" = some (some (.builtin "object.__class__"))) (em_NoPlace : PySem.W.mroIn K K_NoPlace (.type "object") = some true)
    (x_Tied : PySem.W.excIn K K_Tied [.type "ValueError", .type "Exception", .type "BaseException", .type "object"] "ValueError.__new__" = true)
    (kp_Tied : PySem.W.keepIn K (.ref K_Tied) = true) (sb_Tied : PySem.W.subIn K (.ref K_Tied) (.type "BaseException") = some true) (ty_Tied : PySem.W.typeIn K (.ref K_Tied) = some (.type "type"))
    (eg_Tied : PySem.W.findIn K (.ref K_Tied) "__getattribute__" = some (some (.builtin "BaseException.__getattribute__"))) (ek_Tied : PySem.W.findIn K (.ref K_Tied) "__getattr__" = some none) (ed_Tied : PySem.W.hasDictIn K K_Tied = true) (ea_Tied : PySem.W.findIn K (.ref K_Tied) "__class__" = some (some (.builtin "object.__class__"))) (em_Tied : PySem.W.mroIn K K_Tied (.type "object") = some true)
    (x_TooMany : PySem.W.excIn K K_TooMany [.type "ValueError", .type "Exception", .type "BaseException", .type "object"] "ValueError.__new__" = true)
    (kp_TooMany : PySem.W.keepIn K (.ref K_TooMany) = true) (sb_TooMany : PySem.W.subIn K (.ref K_TooMany) (.type "BaseException") = some true) (ty_TooMany : PySem.W.typeIn K (.ref K_TooMany) = some (.type "type"))
    (eg_TooMany : PySem.W.findIn K (.ref K_TooMany) "__getattribute__" = some (some (.builtin "BaseException.__getattribute__"))) (ek_TooMany : PySem.W.findIn K (.ref K_TooMany) "__getattr__" = some none) (ed_TooMany : PySem.W.hasDictIn K K_TooMany = true) (ea_TooMany : PySem.W.findIn K (.ref K_TooMany) "__class__" = some (some (.builtin "object.__class__"))) (em_TooMany : PySem.W.mroIn K K_TooMany (.type "object") = some true)
    (dt_Apart : PySem.W.hasDictIn K K_Apart = true) (tt_Apart : PySem.W.typeIn K (.ref K_Apart) = some (.type "type"))
    (dt_BadLengths : PySem.W.hasDictIn K K_BadLengths = true) (tt_BadLengths : PySem.W.typeIn K (.ref K_BadLengths) = some (.type "type"))
    (dt_BadWeb : PySem.W.hasDictIn K K_BadWeb = true) (tt_BadWeb : PySem.W.typeIn K (.ref K_BadWeb) = some (.type "type"))
    (dt_LoneError : PySem.W.hasDictIn K K_LoneError = true) (tt_LoneError : PySem.W.typeIn K (.ref K_LoneError) = some (.type "type"))
    (dt_NoChoice : PySem.W.hasDictIn K K_NoChoice = true) (tt_NoChoice : PySem.W.typeIn K (.ref K_NoChoice) = some (.type "type"))
    (dt_NoPlace : PySem.W.hasDictIn K K_NoPlace = true) (tt_NoPlace : PySem.W.typeIn K (.ref K_NoPlace) = some (.type "type"))
    (dt_NoRow : PySem.W.hasDictIn K K_NoRow = true) (tt_NoRow : PySem.W.typeIn K (.ref K_NoRow) = some (.type "type"))
    (dt_NoSide : PySem.W.hasDictIn K K_NoSide = true) (tt_NoSide : PySem.W.typeIn K (.ref K_NoSide) = some (.type "type"))
    (dt_NoText : PySem.W.hasDictIn K K_NoText = true) (tt_NoText : PySem.W.typeIn K (.ref K_NoText) = some (.type "type"))
    (dt_NoTie : PySem.W.hasDictIn K K_NoTie = true) (tt_NoTie : PySem.W.typeIn K (.ref K_NoTie) = some (.type "type"))
    (dt_NoWay : PySem.W.hasDictIn K K_NoWay = true) (tt_NoWay : PySem.W.typeIn K (.ref K_NoWay) = some (.type "type"))
    (dt_NotLone : PySem.W.hasDictIn K K_NotLone = true) (tt_NotLone : PySem.W.typeIn K (.ref K_NotLone) = some (.type "type"))
    (dt_NotPlain : PySem.W.hasDictIn K K_NotPlain = true) (tt_NotPlain : PySem.W.typeIn K (.ref K_NotPlain) = some (.type "type"))
    (dt_NothingDone : PySem.W.hasDictIn K K_NothingDone = true) (tt_NothingDone : PySem.W.typeIn K (.ref K_NothingDone) = some (.type "type"))
    (dt_Tied : PySem.W.hasDictIn K K_Tied = true) (tt_Tied : PySem.W.typeIn K (.ref K_Tied) = some (.type "type"))
    (dt_TooMany : PySem.W.hasDictIn K K_TooMany = true) (tt_TooMany : PySem.W.typeIn K (.ref K_TooMany) = some (.type "type"))
    (bs_LoneError : PySem.W.subIn K (.ref K_LoneError) (.type "BaseException") = some true)
    (i_NoPlace_Apart : PySem.W.subIn K (.ref K_NoPlace) (.ref K_Apart) = some false)
    (ne_NoPlace_Apart : (Value.ref K_NoPlace == Value.ref K_Apart) = false)
    (i_NoPlace_BadLengths : PySem.W.subIn K (.ref K_NoPlace) (.ref K_BadLengths) = some false)
    (ne_NoPlace_BadLengths : (Value.ref K_NoPlace == Value.ref K_BadLengths) = false)
    (i_NoPlace_BadWeb : PySem.W.subIn K (.ref K_NoPlace) (.ref K_BadWeb) = some false)
    (ne_NoPlace_BadWeb : (Value.ref K_NoPlace == Value.ref K_BadWeb) = false)
    (i_NoPlace_NoChoice : PySem.W.subIn K (.ref K_NoPlace) (.ref K_NoChoice) = some false)
    (ne_NoPlace_NoChoice : (Value.ref K_NoPlace == Value.ref K_NoChoice) = false)
    (i_NoPlace_NoPlace : PySem.W.subIn K (.ref K_NoPlace) (.ref K_NoPlace) = some true)
    (i_NoPlace_NoRow : PySem.W.subIn K (.ref K_NoPlace) (.ref K_NoRow) = some false)
    (ne_NoPlace_NoRow : (Value.ref K_NoPlace == Value.ref K_NoRow) = false)
    (i_NoPlace_NoSide : PySem.W.subIn K (.ref K_NoPlace) (.ref K_NoSide) = some false)
    (ne_NoPlace_NoSide : (Value.ref K_NoPlace == Value.ref K_NoSide) = false)
    (i_NoPlace_NoText : PySem.W.subIn K (.ref K_NoPlace) (.ref K_NoText) = some false)
    (ne_NoPlace_NoText : (Value.ref K_NoPlace == Value.ref K_NoText) = false)
    (i_NoPlace_NoTie : PySem.W.subIn K (.ref K_NoPlace) (.ref K_NoTie) = some false)
    (ne_NoPlace_NoTie : (Value.ref K_NoPlace == Value.ref K_NoTie) = false)
    (i_NoPlace_NoWay : PySem.W.subIn K (.ref K_NoPlace) (.ref K_NoWay) = some false)
    (ne_NoPlace_NoWay : (Value.ref K_NoPlace == Value.ref K_NoWay) = false)
    (i_NoPlace_NotLone : PySem.W.subIn K (.ref K_NoPlace) (.ref K_NotLone) = some false)
    (ne_NoPlace_NotLone : (Value.ref K_NoPlace == Value.ref K_NotLone) = false)
    (i_NoPlace_NotPlain : PySem.W.subIn K (.ref K_NoPlace) (.ref K_NotPlain) = some false)
    (ne_NoPlace_NotPlain : (Value.ref K_NoPlace == Value.ref K_NotPlain) = false)
    (i_NoPlace_NothingDone : PySem.W.subIn K (.ref K_NoPlace) (.ref K_NothingDone) = some false)
    (ne_NoPlace_NothingDone : (Value.ref K_NoPlace == Value.ref K_NothingDone) = false)
    (i_NoPlace_Tied : PySem.W.subIn K (.ref K_NoPlace) (.ref K_Tied) = some false)
    (ne_NoPlace_Tied : (Value.ref K_NoPlace == Value.ref K_Tied) = false)
    (i_NoPlace_TooMany : PySem.W.subIn K (.ref K_NoPlace) (.ref K_TooMany) = some false)
    (ne_NoPlace_TooMany : (Value.ref K_NoPlace == Value.ref K_TooMany) = false)
    (i_NoPlace_ValueError : PySem.W.subIn K (.ref K_NoPlace) (.type "ValueError") = some true)
    (i_Tied_Apart : PySem.W.subIn K (.ref K_Tied) (.ref K_Apart) = some false)
    (ne_Tied_Apart : (Value.ref K_Tied == Value.ref K_Apart) = false)
    (i_Tied_BadLengths : PySem.W.subIn K (.ref K_Tied) (.ref K_BadLengths) = some false)
    (ne_Tied_BadLengths : (Value.ref K_Tied == Value.ref K_BadLengths) = false)
    (i_Tied_BadWeb : PySem.W.subIn K (.ref K_Tied) (.ref K_BadWeb) = some false)
    (ne_Tied_BadWeb : (Value.ref K_Tied == Value.ref K_BadWeb) = false)
    (i_Tied_NoChoice : PySem.W.subIn K (.ref K_Tied) (.ref K_NoChoice) = some false)
    (ne_Tied_NoChoice : (Value.ref K_Tied == Value.ref K_NoChoice) = false)
    (i_Tied_NoPlace : PySem.W.subIn K (.ref K_Tied) (.ref K_NoPlace) = some false)
    (ne_Tied_NoPlace : (Value.ref K_Tied == Value.ref K_NoPlace) = false)
    (i_Tied_NoRow : PySem.W.subIn K (.ref K_Tied) (.ref K_NoRow) = some false)
    (ne_Tied_NoRow : (Value.ref K_Tied == Value.ref K_NoRow) = false)
    (i_Tied_NoSide : PySem.W.subIn K (.ref K_Tied) (.ref K_NoSide) = some false)
    (ne_Tied_NoSide : (Value.ref K_Tied == Value.ref K_NoSide) = false)
    (i_Tied_NoText : PySem.W.subIn K (.ref K_Tied) (.ref K_NoText) = some false)
    (ne_Tied_NoText : (Value.ref K_Tied == Value.ref K_NoText) = false)
    (i_Tied_NoTie : PySem.W.subIn K (.ref K_Tied) (.ref K_NoTie) = some false)
    (ne_Tied_NoTie : (Value.ref K_Tied == Value.ref K_NoTie) = false)
    (i_Tied_NoWay : PySem.W.subIn K (.ref K_Tied) (.ref K_NoWay) = some false)
    (ne_Tied_NoWay : (Value.ref K_Tied == Value.ref K_NoWay) = false)
    (i_Tied_NotLone : PySem.W.subIn K (.ref K_Tied) (.ref K_NotLone) = some false)
    (ne_Tied_NotLone : (Value.ref K_Tied == Value.ref K_NotLone) = false)
    (i_Tied_NotPlain : PySem.W.subIn K (.ref K_Tied) (.ref K_NotPlain) = some false)
    (ne_Tied_NotPlain : (Value.ref K_Tied == Value.ref K_NotPlain) = false)
    (i_Tied_NothingDone : PySem.W.subIn K (.ref K_Tied) (.ref K_NothingDone) = some false)
    (ne_Tied_NothingDone : (Value.ref K_Tied == Value.ref K_NothingDone) = false)
    (i_Tied_Tied : PySem.W.subIn K (.ref K_Tied) (.ref K_Tied) = some true)
    (i_Tied_TooMany : PySem.W.subIn K (.ref K_Tied) (.ref K_TooMany) = some false)
    (ne_Tied_TooMany : (Value.ref K_Tied == Value.ref K_TooMany) = false)
    (i_Tied_ValueError : PySem.W.subIn K (.ref K_Tied) (.type "ValueError") = some true)
    (i_TooMany_Apart : PySem.W.subIn K (.ref K_TooMany) (.ref K_Apart) = some false)
    (ne_TooMany_Apart : (Value.ref K_TooMany == Value.ref K_Apart) = false)
    (i_TooMany_BadLengths : PySem.W.subIn K (.ref K_TooMany) (.ref K_BadLengths) = some false)
    (ne_TooMany_BadLengths : (Value.ref K_TooMany == Value.ref K_BadLengths) = false)
    (i_TooMany_BadWeb : PySem.W.subIn K (.ref K_TooMany) (.ref K_BadWeb) = some false)
    (ne_TooMany_BadWeb : (Value.ref K_TooMany == Value.ref K_BadWeb) = false)
    (i_TooMany_NoChoice : PySem.W.subIn K (.ref K_TooMany) (.ref K_NoChoice) = some false)
    (ne_TooMany_NoChoice : (Value.ref K_TooMany == Value.ref K_NoChoice) = false)
    (i_TooMany_NoPlace : PySem.W.subIn K (.ref K_TooMany) (.ref K_NoPlace) = some false)
    (ne_TooMany_NoPlace : (Value.ref K_TooMany == Value.ref K_NoPlace) = false)
    (i_TooMany_NoRow : PySem.W.subIn K (.ref K_TooMany) (.ref K_NoRow) = some false)
    (ne_TooMany_NoRow : (Value.ref K_TooMany == Value.ref K_NoRow) = false)
    (i_TooMany_NoSide : PySem.W.subIn K (.ref K_TooMany) (.ref K_NoSide) = some false)
    (ne_TooMany_NoSide : (Value.ref K_TooMany == Value.ref K_NoSide) = false)
    (i_TooMany_NoText : PySem.W.subIn K (.ref K_TooMany) (.ref K_NoText) = some false)
    (ne_TooMany_NoText : (Value.ref K_TooMany == Value.ref K_NoText) = false)
    (i_TooMany_NoTie : PySem.W.subIn K (.ref K_TooMany) (.ref K_NoTie) = some false)
    (ne_TooMany_NoTie : (Value.ref K_TooMany == Value.ref K_NoTie) = false)
    (i_TooMany_NoWay : PySem.W.subIn K (.ref K_TooMany) (.ref K_NoWay) = some false)
    (ne_TooMany_NoWay : (Value.ref K_TooMany == Value.ref K_NoWay) = false)
    (i_TooMany_NotLone : PySem.W.subIn K (.ref K_TooMany) (.ref K_NotLone) = some false)
    (ne_TooMany_NotLone : (Value.ref K_TooMany == Value.ref K_NotLone) = false)
    (i_TooMany_NotPlain : PySem.W.subIn K (.ref K_TooMany) (.ref K_NotPlain) = some false)
    (ne_TooMany_NotPlain : (Value.ref K_TooMany == Value.ref K_NotPlain) = false)
    (i_TooMany_NothingDone : PySem.W.subIn K (.ref K_TooMany) (.ref K_NothingDone) = some false)
    (ne_TooMany_NothingDone : (Value.ref K_TooMany == Value.ref K_NothingDone) = false)
    (i_TooMany_Tied : PySem.W.subIn K (.ref K_TooMany) (.ref K_Tied) = some false)
    (ne_TooMany_Tied : (Value.ref K_TooMany == Value.ref K_Tied) = false)
    (i_TooMany_TooMany : PySem.W.subIn K (.ref K_TooMany) (.ref K_TooMany) = some true)
    (i_TooMany_ValueError : PySem.W.subIn K (.ref K_TooMany) (.type "ValueError") = some true)
    (i_NoPlace_LoneError : PySem.W.subIn K (.ref K_NoPlace) (.ref K_LoneError) = some true)
    (i_Tied_LoneError : PySem.W.subIn K (.ref K_Tied) (.ref K_LoneError) = some true)
    (i_TooMany_LoneError : PySem.W.subIn K (.ref K_TooMany) (.ref K_LoneError) = some true) :
    ∃ fd : FuncData, (∀ (s : Shared) (v : Value), BindsTo s fd ⟨[v], []⟩ [("script", v)]) ∧ ∀ base : Heap, K.In base → base.Ns mainGlobals mg → FnOk P w K mg base (L2N.CX P w) 21 fa fd ["script"] (spTrue K) := by
  have T : Tops mg := ⟨⟨_, PySem.W.mg_of X G z_MOST_TIES⟩, PySem.W.mg_none_of X G z_ValueError, PySem.W.mg_none_of X G z_all, PySem.W.mg_none_of X G z_bool, PySem.W.mg_none_of X G z_int, PySem.W.mg_none_of X G z_isinstance, PySem.W.mg_none_of X G z_len, PySem.W.mg_none_of X G z_list, PySem.W.mg_none_of X G z_max, PySem.W.mg_none_of X G z_min, PySem.W.mg_none_of X G z_range, PySem.W.mg_none_of X G z_sorted, PySem.W.mg_none_of X G z_tuple, PySem.W.mg_none_of X G z_zip⟩
  have n_Apart := PySem.W.mg_of X G g_Apart
  have n_BadLengths := PySem.W.mg_of X G g_BadLengths
  have n_BadWeb := PySem.W.mg_of X G g_BadWeb
  have n_LoneError := PySem.W.mg_of X G g_LoneError
  have n_NoChoice := PySem.W.mg_of X G g_NoChoice
  have n_NoPlace := PySem.W.mg_of X G g_NoPlace
  have n_NoRow := PySem.W.mg_of X G g_NoRow
  have n_NoSide := PySem.W.mg_of X G g_NoSide
  have n_NoText := PySem.W.mg_of X G g_NoText
  have n_NoTie := PySem.W.mg_of X G g_NoTie
  have n_NoWay := PySem.W.mg_of X G g_NoWay
  have n_NotLone := PySem.W.mg_of X G g_NotLone
  have n_NotPlain := PySem.W.mg_of X G g_NotPlain
  have n_NothingDone := PySem.W.mg_of X G g_NothingDone
  have n_Tied := PySem.W.mg_of X G g_Tied
  have n_TooMany := PySem.W.mg_of X G g_TooMany
  have e_NoPlace : ExcC K K_NoPlace := ⟨eg_NoPlace, ek_NoPlace, sb_NoPlace, ed_NoPlace, ea_NoPlace, hn, ht, em_NoPlace⟩
  have e_Tied : ExcC K K_Tied := ⟨eg_Tied, ek_Tied, sb_Tied, ed_Tied, ea_Tied, hn, ht, em_Tied⟩
  have e_TooMany : ExcC K K_TooMany := ⟨eg_TooMany, ek_TooMany, sb_TooMany, ed_TooMany, ea_TooMany, hn, ht, em_TooMany⟩
  have w_Apart : ∀ C, mg "Apart" = some (.ref C) → C = K_Apart := fun C h => by rw [n_Apart] at h; injection h with h; injection h with h; exact h.symm
  have w_BadLengths : ∀ C, mg "BadLengths" = some (.ref C) → C = K_BadLengths := fun C h => by rw [n_BadLengths] at h; injection h with h; injection h with h; exact h.symm
  have w_BadWeb : ∀ C, mg "BadWeb" = some (.ref C) → C = K_BadWeb := fun C h => by rw [n_BadWeb] at h; injection h with h; injection h with h; exact h.symm
  have w_LoneError : ∀ C, mg "LoneError" = some (.ref C) → C = K_LoneError := fun C h => by rw [n_LoneError] at h; injection h with h; injection h with h; exact h.symm
  have w_NoChoice : ∀ C, mg "NoChoice" = some (.ref C) → C = K_NoChoice := fun C h => by rw [n_NoChoice] at h; injection h with h; injection h with h; exact h.symm
  have w_NoPlace : ∀ C, mg "NoPlace" = some (.ref C) → C = K_NoPlace := fun C h => by rw [n_NoPlace] at h; injection h with h; injection h with h; exact h.symm
  have w_NoRow : ∀ C, mg "NoRow" = some (.ref C) → C = K_NoRow := fun C h => by rw [n_NoRow] at h; injection h with h; injection h with h; exact h.symm
  have w_NoSide : ∀ C, mg "NoSide" = some (.ref C) → C = K_NoSide := fun C h => by rw [n_NoSide] at h; injection h with h; injection h with h; exact h.symm
  have w_NoText : ∀ C, mg "NoText" = some (.ref C) → C = K_NoText := fun C h => by rw [n_NoText] at h; injection h with h; injection h with h; exact h.symm
  have w_NoTie : ∀ C, mg "NoTie" = some (.ref C) → C = K_NoTie := fun C h => by rw [n_NoTie] at h; injection h with h; injection h with h; exact h.symm
  have w_NoWay : ∀ C, mg "NoWay" = some (.ref C) → C = K_NoWay := fun C h => by rw [n_NoWay] at h; injection h with h; injection h with h; exact h.symm
  have w_NotLone : ∀ C, mg "NotLone" = some (.ref C) → C = K_NotLone := fun C h => by rw [n_NotLone] at h; injection h with h; injection h with h; exact h.symm
  have w_NotPlain : ∀ C, mg "NotPlain" = some (.ref C) → C = K_NotPlain := fun C h => by rw [n_NotPlain] at h; injection h with h; injection h with h; exact h.symm
  have w_NothingDone : ∀ C, mg "NothingDone" = some (.ref C) → C = K_NothingDone := fun C h => by rw [n_NothingDone] at h; injection h with h; injection h with h; exact h.symm
  have w_Tied : ∀ C, mg "Tied" = some (.ref C) → C = K_Tied := fun C h => by rw [n_Tied] at h; injection h with h; injection h with h; exact h.symm
  have w_TooMany : ∀ C, mg "TooMany" = some (.ref C) → C = K_TooMany := fun C h => by rw [n_TooMany] at h; injection h with h; injection h with h; exact h.symm
  have ch_LoneError : (⟨_, n_LoneError⟩ : ∃ C, mg "LoneError" = some (.ref C)).choose = K_LoneError := w_LoneError _ (⟨_, n_LoneError⟩ : ∃ C, mg "LoneError" = some (.ref C)).choose_spec
  have U : Xs K mg := ⟨⟨_, n_Apart⟩, ⟨_, n_BadLengths⟩, ⟨_, n_BadWeb⟩, ⟨_, n_LoneError⟩, ⟨_, n_NoChoice⟩, ⟨_, n_NoPlace⟩, ⟨_, n_NoRow⟩, ⟨_, n_NoSide⟩, ⟨_, n_NoText⟩, ⟨_, n_NoTie⟩, ⟨_, n_NoWay⟩, ⟨_, n_NotLone⟩, ⟨_, n_NotPlain⟩, ⟨_, n_NothingDone⟩, ⟨_, n_Tied⟩, ⟨_, n_TooMany⟩, ⟨K_NoPlace, n_NoPlace, g_NoPlace, x_NoPlace, kp_NoPlace, sb_NoPlace, ty_NoPlace, e_NoPlace⟩, ⟨K_Tied, n_Tied, g_Tied, x_Tied, kp_Tied, sb_Tied, ty_Tied, e_Tied⟩, ⟨K_TooMany, n_TooMany, g_TooMany, x_TooMany, kp_TooMany, sb_TooMany, ty_TooMany, e_TooMany⟩, List.forall_mem_cons.mpr ⟨fun C h => ⟨_, (.inl n_Apart), by rw [w_NoPlace C h]; exact kit_own dt_Apart tt_Apart i_NoPlace_Apart (.inr ne_NoPlace_Apart)⟩, List.forall_mem_cons.mpr ⟨fun C h => ⟨_, (.inl n_BadLengths), by rw [w_NoPlace C h]; exact kit_own dt_BadLengths tt_BadLengths i_NoPlace_BadLengths (.inr ne_NoPlace_BadLengths)⟩, List.forall_mem_cons.mpr ⟨fun C h => ⟨_, (.inl n_BadWeb), by rw [w_NoPlace C h]; exact kit_own dt_BadWeb tt_BadWeb i_NoPlace_BadWeb (.inr ne_NoPlace_BadWeb)⟩, List.forall_mem_cons.mpr ⟨fun C h => ⟨_, (.inl n_NoChoice), by rw [w_NoPlace C h]; exact kit_own dt_NoChoice tt_NoChoice i_NoPlace_NoChoice (.inr ne_NoPlace_NoChoice)⟩, List.forall_mem_cons.mpr ⟨fun C h => ⟨_, (.inl n_NoPlace), by rw [w_NoPlace C h]; exact kit_own dt_NoPlace tt_NoPlace i_NoPlace_NoPlace (.inl rfl)⟩, List.forall_mem_cons.mpr ⟨fun C h => ⟨_, (.inl n_NoRow), by rw [w_NoPlace C h]; exact kit_own dt_NoRow tt_NoRow i_NoPlace_NoRow (.inr ne_NoPlace_NoRow)⟩, List.forall_mem_cons.mpr ⟨fun C h => ⟨_, (.inl n_NoSide), by rw [w_NoPlace C h]; exact kit_own dt_NoSide tt_NoSide i_NoPlace_NoSide (.inr ne_NoPlace_NoSide)⟩, List.forall_mem_cons.mpr ⟨fun C h => ⟨_, (.inl n_NoText), by rw [w_NoPlace C h]; exact kit_own dt_NoText tt_NoText i_NoPlace_NoText (.inr ne_NoPlace_NoText)⟩, List.forall_mem_cons.mpr ⟨fun C h => ⟨_, (.inl n_NoTie), by rw [w_NoPlace C h]; exact kit_own dt_NoTie tt_NoTie i_NoPlace_NoTie (.inr ne_NoPlace_NoTie)⟩, List.forall_mem_cons.mpr ⟨fun C h => ⟨_, (.inl n_NoWay), by rw [w_NoPlace C h]; exact kit_own dt_NoWay tt_NoWay i_NoPlace_NoWay (.inr ne_NoPlace_NoWay)⟩, List.forall_mem_cons.mpr ⟨fun C h => ⟨_, (.inl n_NotLone), by rw [w_NoPlace C h]; exact kit_own dt_NotLone tt_NotLone i_NoPlace_NotLone (.inr ne_NoPlace_NotLone)⟩, List.forall_mem_cons.mpr ⟨fun C h => ⟨_, (.inl n_NotPlain), by rw [w_NoPlace C h]; exact kit_own dt_NotPlain tt_NotPlain i_NoPlace_NotPlain (.inr ne_NoPlace_NotPlain)⟩, List.forall_mem_cons.mpr ⟨fun C h => ⟨_, (.inl n_NothingDone), by rw [w_NoPlace C h]; exact kit_own dt_NothingDone tt_NothingDone i_NoPlace_NothingDone (.inr ne_NoPlace_NothingDone)⟩, List.forall_mem_cons.mpr ⟨fun C h => ⟨_, (.inl n_Tied), by rw [w_NoPlace C h]; exact kit_own dt_Tied tt_Tied i_NoPlace_Tied (.inr ne_NoPlace_Tied)⟩, List.forall_mem_cons.mpr ⟨fun C h => ⟨_, (.inl n_TooMany), by rw [w_NoPlace C h]; exact kit_own dt_TooMany tt_TooMany i_NoPlace_TooMany (.inr ne_NoPlace_TooMany)⟩, List.forall_mem_cons.mpr ⟨fun C h => ⟨_, (.inr ⟨PySem.W.mg_none_of X G z_ValueError, b_ValueError⟩), by rw [w_NoPlace C h]; exact kit_blt (by decide +kernel) i_NoPlace_ValueError⟩, List.forall_mem_cons.mpr ⟨fun C h => ⟨_, (.inl n_Apart), by rw [w_Tied C h]; exact kit_own dt_Apart tt_Apart i_Tied_Apart (.inr ne_Tied_Apart)⟩, List.forall_mem_cons.mpr ⟨fun C h => ⟨_, (.inl n_BadLengths), by rw [w_Tied C h]; exact kit_own dt_BadLengths tt_BadLengths i_Tied_BadLengths (.inr ne_Tied_BadLengths)⟩, List.forall_mem_cons.mpr ⟨fun C h => ⟨_, (.inl n_BadWeb), by rw [w_Tied C h]; exact kit_own dt_BadWeb tt_BadWeb i_Tied_BadWeb (.inr ne_Tied_BadWeb)⟩, List.forall_mem_cons.mpr ⟨fun C h => ⟨_, (.inl n_NoChoice), by rw [w_Tied C h]; exact kit_own dt_NoChoice tt_NoChoice i_Tied_NoChoice (.inr ne_Tied_NoChoice)⟩, List.forall_mem_cons.mpr ⟨fun C h => ⟨_, (.inl n_NoPlace), by rw [w_Tied C h]; exact kit_own dt_NoPlace tt_NoPlace i_Tied_NoPlace (.inr ne_Tied_NoPlace)⟩, List.forall_mem_cons.mpr ⟨fun C h => ⟨_, (.inl n_NoRow), by rw [w_Tied C h]; exact kit_own dt_NoRow tt_NoRow i_Tied_NoRow (.inr ne_Tied_NoRow)⟩, List.forall_mem_cons.mpr ⟨fun C h => ⟨_, (.inl n_NoSide), by rw [w_Tied C h]; exact kit_own dt_NoSide tt_NoSide i_Tied_NoSide (.inr ne_Tied_NoSide)⟩, List.forall_mem_cons.mpr ⟨fun C h => ⟨_, (.inl n_NoText), by rw [w_Tied C h]; exact kit_own dt_NoText tt_NoText i_Tied_NoText (.inr ne_Tied_NoText)⟩, List.forall_mem_cons.mpr ⟨fun C h => ⟨_, (.inl n_NoTie), by rw [w_Tied C h]; exact kit_own dt_NoTie tt_NoTie i_Tied_NoTie (.inr ne_Tied_NoTie)⟩, List.forall_mem_cons.mpr ⟨fun C h => ⟨_, (.inl n_NoWay), by rw [w_Tied C h]; exact kit_own dt_NoWay tt_NoWay i_Tied_NoWay (.inr ne_Tied_NoWay)⟩, List.forall_mem_cons.mpr ⟨fun C h => ⟨_, (.inl n_NotLone), by rw [w_Tied C h]; exact kit_own dt_NotLone tt_NotLone i_Tied_NotLone (.inr ne_Tied_NotLone)⟩, List.forall_mem_cons.mpr ⟨fun C h => ⟨_, (.inl n_NotPlain), by rw [w_Tied C h]; exact kit_own dt_NotPlain tt_NotPlain i_Tied_NotPlain (.inr ne_Tied_NotPlain)⟩, List.forall_mem_cons.mpr ⟨fun C h => ⟨_, (.inl n_NothingDone), by rw [w_Tied C h]; exact kit_own dt_NothingDone tt_NothingDone i_Tied_NothingDone (.inr ne_Tied_NothingDone)⟩, List.forall_mem_cons.mpr ⟨fun C h => ⟨_, (.inl n_Tied), by rw [w_Tied C h]; exact kit_own dt_Tied tt_Tied i_Tied_Tied (.inl rfl)⟩, List.forall_mem_cons.mpr ⟨fun C h => ⟨_, (.inl n_TooMany), by rw [w_Tied C h]; exact kit_own dt_TooMany tt_TooMany i_Tied_TooMany (.inr ne_Tied_TooMany)⟩, List.forall_mem_cons.mpr ⟨fun C h => ⟨_, (.inr ⟨PySem.W.mg_none_of X G z_ValueError, b_ValueError⟩), by rw [w_Tied C h]; exact kit_blt (by decide +kernel) i_Tied_ValueError⟩, List.forall_mem_cons.mpr ⟨fun C h => ⟨_, (.inl n_Apart), by rw [w_TooMany C h]; exact kit_own dt_Apart tt_Apart i_TooMany_Apart (.inr ne_TooMany_Apart)⟩, List.forall_mem_cons.mpr ⟨fun C h => ⟨_, (.inl n_BadLengths), by rw [w_TooMany C h]; exact kit_own dt_BadLengths tt_BadLengths i_TooMany_BadLengths (.inr ne_TooMany_BadLengths)⟩, List.forall_mem_cons.mpr ⟨fun C h => ⟨_, (.inl n_BadWeb), by rw [w_TooMany C h]; exact kit_own dt_BadWeb tt_BadWeb i_TooMany_BadWeb (.inr ne_TooMany_BadWeb)⟩, List.forall_mem_cons.mpr ⟨fun C h => ⟨_, (.inl n_NoChoice), by rw [w_TooMany C h]; exact kit_own dt_NoChoice tt_NoChoice i_TooMany_NoChoice (.inr ne_TooMany_NoChoice)⟩, List.forall_mem_cons.mpr ⟨fun C h => ⟨_, (.inl n_NoPlace), by rw [w_TooMany C h]; exact kit_own dt_NoPlace tt_NoPlace i_TooMany_NoPlace (.inr ne_TooMany_NoPlace)⟩, List.forall_mem_cons.mpr ⟨fun C h => ⟨_, (.inl n_NoRow), by rw [w_TooMany C h]; exact kit_own dt_NoRow tt_NoRow i_TooMany_NoRow (.inr ne_TooMany_NoRow)⟩, List.forall_mem_cons.mpr ⟨fun C h => ⟨_, (.inl n_NoSide), by rw [w_TooMany C h]; exact kit_own dt_NoSide tt_NoSide i_TooMany_NoSide (.inr ne_TooMany_NoSide)⟩, List.forall_mem_cons.mpr ⟨fun C h => ⟨_, (.inl n_NoText), by rw [w_TooMany C h]; exact kit_own dt_NoText tt_NoText i_TooMany_NoText (.inr ne_TooMany_NoText)⟩, List.forall_mem_cons.mpr ⟨fun C h => ⟨_, (.inl n_NoTie), by rw [w_TooMany C h]; exact kit_own dt_NoTie tt_NoTie i_TooMany_NoTie (.inr ne_TooMany_NoTie)⟩, List.forall_mem_cons.mpr ⟨fun C h => ⟨_, (.inl n_NoWay), by rw [w_TooMany C h]; exact kit_own dt_NoWay tt_NoWay i_TooMany_NoWay (.inr ne_TooMany_NoWay)⟩, List.forall_mem_cons.mpr ⟨fun C h => ⟨_, (.inl n_NotLone), by rw [w_TooMany C h]; exact kit_own dt_NotLone tt_NotLone i_TooMany_NotLone (.inr ne_TooMany_NotLone)⟩, List.forall_mem_cons.mpr ⟨fun C h => ⟨_, (.inl n_NotPlain), by rw [w_TooMany C h]; exact kit_own dt_NotPlain tt_NotPlain i_TooMany_NotPlain (.inr ne_TooMany_NotPlain)⟩, List.forall_mem_cons.mpr ⟨fun C h => ⟨_, (.inl n_NothingDone), by rw [w_TooMany C h]; exact kit_own dt_NothingDone tt_NothingDone i_TooMany_NothingDone (.inr ne_TooMany_NothingDone)⟩, List.forall_mem_cons.mpr ⟨fun C h => ⟨_, (.inl n_Tied), by rw [w_TooMany C h]; exact kit_own dt_Tied tt_Tied i_TooMany_Tied (.inr ne_TooMany_Tied)⟩, List.forall_mem_cons.mpr ⟨fun C h => ⟨_, (.inl n_TooMany), by rw [w_TooMany C h]; exact kit_own dt_TooMany tt_TooMany i_TooMany_TooMany (.inl rfl)⟩, List.forall_mem_cons.mpr ⟨fun C h => ⟨_, (.inr ⟨PySem.W.mg_none_of X G z_ValueError, b_ValueError⟩), by rw [w_TooMany C h]; exact kit_blt (by decide +kernel) i_TooMany_ValueError⟩, List.forall_mem_nil _⟩⟩⟩⟩⟩⟩⟩⟩⟩⟩⟩⟩⟩⟩⟩⟩⟩⟩⟩⟩⟩⟩⟩⟩⟩⟩⟩⟩⟩⟩⟩⟩⟩⟩⟩⟩⟩⟩⟩⟩⟩⟩⟩⟩⟩⟩⟩⟩, List.forall_mem_cons.mpr ⟨fun C h => ⟨by rw [w_NoPlace C h]; exact e_NoPlace, by rw [w_NoPlace C h, ch_LoneError]; exact PySem.W.exm_ref bs_LoneError dt_LoneError tt_LoneError i_NoPlace_LoneError⟩, List.forall_mem_cons.mpr ⟨fun C h => ⟨by rw [w_Tied C h]; exact e_Tied, by rw [w_Tied C h, ch_LoneError]; exact PySem.W.exm_ref bs_LoneError dt_LoneError tt_LoneError i_Tied_LoneError⟩, List.forall_mem_cons.mpr ⟨fun C h => ⟨by rw [w_TooMany C h]; exact e_TooMany, by rw [w_TooMany C h, ch_LoneError]; exact PySem.W.exm_ref bs_LoneError dt_LoneError tt_LoneError i_TooMany_LoneError⟩, List.forall_mem_nil _⟩⟩⟩, List.forall_mem_nil _⟩
  have D_look_at_place : Def K mg "look_at_place" s_look_at_place p_look_at_place := def_mk X G a_look_at_place l_look_at_place c_look_at_place k_look_at_place fun _ _ _ _ _ _ us hl => match us, hl with | [_, _], _ => rfl
  have D_length_between : Def K mg "length_between" s_length_between p_length_between := def_mk X G a_length_between l_length_between c_length_between k_length_between fun _ _ _ _ _ _ us hl => match us, hl with | [_, _, _], _ => rfl
  have D_tie_length : Def K mg "tie_length" s_tie_length p_tie_length := def_mk X G a_tie_length l_tie_length c_tie_length k_tie_length fun _ _ _ _ _ _ us hl => match us, hl with | [_, _, _], _ => rfl
  have D_look_at_ends : Def K mg "look_at_ends" s_look_at_ends p_look_at_ends := def_mk X G a_look_at_ends l_look_at_ends c_look_at_ends k_look_at_ends fun _ _ _ _ _ _ us hl => match us, hl with | [_, _, _], _ => rfl
  have D_look_at_tied : Def K mg "look_at_tied" s_look_at_tied p_look_at_tied := def_mk X G a_look_at_tied l_look_at_tied c_look_at_tied k_look_at_tied fun _ _ _ _ _ _ us hl => match us, hl with | [_, _, _], _ => rfl
  have D_put_web : Def K mg "put_web" s_put_web p_put_web := def_mk X G a_put_web l_put_web c_put_web k_put_web fun _ _ _ _ _ _ us hl => match us, hl with | [_, _, _, _], _ => rfl
  have D_law_pot : Def K mg "_law_pot" s_law_pot p_law_pot := def_mk X G a_law_pot l_law_pot c_law_pot k_law_pot fun _ _ _ _ _ _ us hl => match us, hl with | [_, _], _ => rfl
  have D_law_take : Def K mg "_law_take" s_law_take p_law_take := def_mk X G a_law_take l_law_take c_law_take k_law_take fun _ _ _ _ _ _ us hl => match us, hl with | [_, _], _ => rfl
  have D_law_length : Def K mg "_law_length" s_law_length p_law_length := def_mk X G a_law_length l_law_length c_law_length k_law_length fun _ _ _ _ _ _ us hl => match us, hl with | [_, _], _ => rfl
  have D_law_order : Def K mg "_law_order" s_law_order p_law_order := def_mk X G a_law_order l_law_order c_law_order k_law_order fun _ _ _ _ _ _ us hl => match us, hl with | [_, _], _ => rfl
  have D_law_named : Def K mg "_law_named" s_law_named p_law_named := def_mk X G a_law_named l_law_named c_law_named k_law_named fun _ _ _ _ _ _ us hl => match us, hl with | [_, _, _], _ => rfl
  have D_law_any_web : Def K mg "_law_any_web" s_law_any_web p_law_any_web := def_mk X G a_law_any_web l_law_any_web c_law_any_web k_law_any_web fun _ _ _ _ _ _ us hl => match us, hl with | [_], _ => rfl
  have D_law_pairs : Def K mg "_law_pairs" s_law_pairs p_law_pairs := def_mk X G a_law_pairs l_law_pairs c_law_pairs k_law_pairs fun _ _ _ _ _ _ us hl => match us, hl with | [_, _], _ => rfl
  have D_law_lone_web : Def K mg "_law_lone_web" s_law_lone_web p_law_lone_web := def_mk X G a_law_lone_web l_law_lone_web c_law_lone_web k_law_lone_web fun _ _ _ _ _ _ us hl => match us, hl with | [_, _, _], _ => rfl
  have D_law_other_length : Def K mg "_law_other_length" s_law_other_length p_law_other_length := def_mk X G a_law_other_length l_law_other_length c_law_other_length k_law_other_length fun _ _ _ _ _ _ us hl => match us, hl with | [_, _], _ => rfl
  have D_law_web : Def K mg "_law_web" s_law_web p_law_web := def_mk X G a_law_web l_law_web c_law_web k_law_web fun _ _ _ _ _ _ us hl => match us, hl with | [_], _ => rfl
  have D_law_alike : Def K mg "_law_alike" s_law_alike p_law_alike := def_mk X G a_law_alike l_law_alike c_law_alike k_law_alike fun _ _ _ _ _ _ us hl => match us, hl with | [_, _], _ => rfl
  have D_law_class : Def K mg "_law_class" s_law_class p_law_class := def_mk X G a_law_class l_law_class c_law_class k_law_class fun _ _ _ _ _ _ us hl => match us, hl with | [_], _ => rfl
  have D_law_untied : Def K mg "_law_untied" s_law_untied p_law_untied := def_mk X G a_law_untied l_law_untied c_law_untied k_law_untied fun _ _ _ _ _ _ us hl => match us, hl with | [_], _ => rfl
  have D_law_with_tie : Def K mg "_law_with_tie" s_law_with_tie p_law_with_tie := def_mk X G a_law_with_tie l_law_with_tie c_law_with_tie k_law_with_tie fun _ _ _ _ _ _ us hl => match us, hl with | [_, _, _, _], _ => rfl
  have D_law_full_web : Def K mg "_law_full_web" s_law_full_web p_law_full_web := def_mk X G a_law_full_web l_law_full_web c_law_full_web k_law_full_web fun _ _ _ _ _ _ us hl => match us, hl with | [_], _ => rfl
  have D_law_told : Def K mg "_law_told" s_law_told p_law_told := def_mk X G a_law_told l_law_told c_law_told k_law_told fun _ _ _ _ _ _ us hl => match us, hl with | [_, _, _, _], _ => rfl
  have D_law_due : Def K mg "_law_due" s_law_due p_law_due := def_mk X G a_law_due l_law_due c_law_due k_law_due fun _ _ _ _ _ _ us hl => match us, hl with | [_, _, _, _], _ => rfl
  have e := hfa.symm.trans (PySem.W.mg_of X G a_law)
  cases e
  refine ⟨PySem.W.fnOf "law" "law" (defArgs s_law) (defBody s_law) (defScope s_law) .none kV_law dc_law pm_law an_law cd_law ct_law, fun s v => .of_eq rfl, fun base _ _ => ?_⟩
  have C_look_at_place := cal_look_at_place (P := P) (w := w) (base := base) T U D_look_at_place 
  have C_length_between := cal_length_between (P := P) (w := w) (base := base) T U D_length_between 
  have C_tie_length := cal_tie_length (P := P) (w := w) (base := base) T U D_tie_length C_length_between C_look_at_place
  have C_look_at_ends := cal_look_at_ends (P := P) (w := w) (base := base) T U D_look_at_ends 
  have C_look_at_tied := cal_look_at_tied (P := P) (w := w) (base := base) T U D_look_at_tied C_tie_length
  have C_put_web := cal_put_web (P := P) (w := w) (base := base) T U D_put_web C_look_at_tied C_look_at_ends
  have C_law_pot := cal_law_pot (P := P) (w := w) (base := base) T U D_law_pot 
  have C_law_take := cal_law_take (P := P) (w := w) (base := base) T U D_law_take 
  have C_law_length := cal_law_length (P := P) (w := w) (base := base) T U D_law_length C_law_take
  have C_law_order := cal_law_order (P := P) (w := w) (base := base) T U D_law_order C_law_take
  have C_law_named := cal_law_named (P := P) (w := w) (base := base) T U D_law_named C_law_order
  have C_law_any_web := cal_law_any_web (P := P) (w := w) (base := base) T U D_law_any_web C_law_named C_law_take C_law_length
  have C_law_pairs := cal_law_pairs (P := P) (w := w) (base := base) T U D_law_pairs C_law_take
  have C_law_lone_web := cal_law_lone_web (P := P) (w := w) (base := base) T U D_law_lone_web C_law_named C_law_take C_law_length C_law_pairs
  have C_law_other_length := cal_law_other_length (P := P) (w := w) (base := base) T U D_law_other_length C_law_take
  have C_law_web := cal_law_web (P := P) (w := w) (base := base) T U D_law_web C_law_take C_law_other_length C_law_lone_web C_law_any_web
  have C_law_alike := cal_law_alike (P := P) (w := w) (base := base) T U D_law_alike  20
  have C_law_class := cal_law_class (P := P) (w := w) (base := base) T U D_law_class 
  have C_law_untied := cal_law_untied (P := P) (w := w) (base := base) T U D_law_untied 
  have C_law_with_tie := cal_law_with_tie (P := P) (w := w) (base := base) T U D_law_with_tie 
  have C_law_full_web := cal_law_full_web (P := P) (w := w) (base := base) T U D_law_full_web C_law_named C_law_take
  have C_law_told := cal_law_told (P := P) (w := w) (base := base) T U D_law_told C_put_web C_law_class
  have C_law_due := cal_law_due (P := P) (w := w) (base := base) T U D_law_due C_law_with_tie
  exact (cal_law (P := P) (w := w) (base := base) T U (fun_mk (st := s_law) l_law c_law k_law) C_law_due C_law_told C_law_alike C_law_take C_law_untied C_law_full_web C_law_web C_law_pot).imp fun vs H Q E hs => law_sp good hs
end G
open PySem PySem.W PyProof.Rows
set_option maxHeartbeats 0 in
theorem PySem.Challenge.cw_lonetrack_k58_ties_put_holds : PySem.Challenge.rw_lonetrack_k58_ties_put.Holds := by
  w_on; o_law; k_head; (case hw => w_witness2)
  k_fill
  refine L2.walk_of (l := PySem.Challenge.rw_lonetrack_k58_ties_put) (n := 63) (k := 21) (x := "script") (CX := fun w => L2N.CX PySem.Challenge.rw_lonetrack_k58_ties_put.prog w) (sp := fun w => VS.spTrue _) rfl (by decide) rfl ⟨rfl, by decide, by decide⟩ (fun w h Y => PySem.W.kIn_of Y) ?F (fun _ _ a ns hl _ hS => ⟨a, ns, rfl, hS, hl, fun _ => rfl⟩) (fun _ _ _ _ _ h => VS.cx_end h)
  case F =>
    intro w mg fa h KX GX hmg
    refine' G.all_mk KX GX hmg G.good ?a_look_at_place ?l_look_at_place ?c_look_at_place ?k_look_at_place ?a_length_between ?l_length_between ?c_length_between ?k_length_between ?a_tie_length ?l_tie_length ?c_tie_length ?k_tie_length ?a_look_at_ends ?l_look_at_ends ?c_look_at_ends ?k_look_at_ends ?a_look_at_tied ?l_look_at_tied ?c_look_at_tied ?k_look_at_tied ?a_put_web ?l_put_web ?c_put_web ?k_put_web ?a_law_pot ?l_law_pot ?c_law_pot ?k_law_pot ?a_law_take ?l_law_take ?c_law_take ?k_law_take ?a_law_length ?l_law_length ?c_law_length ?k_law_length ?a_law_order ?l_law_order ?c_law_order ?k_law_order ?a_law_named ?l_law_named ?c_law_named ?k_law_named ?a_law_any_web ?l_law_any_web ?c_law_any_web ?k_law_any_web ?a_law_pairs ?l_law_pairs ?c_law_pairs ?k_law_pairs ?a_law_lone_web ?l_law_lone_web ?c_law_lone_web ?k_law_lone_web ?a_law_other_length ?l_law_other_length ?c_law_other_length ?k_law_other_length ?a_law_web ?l_law_web ?c_law_web ?k_law_web ?a_law_alike ?l_law_alike ?c_law_alike ?k_law_alike ?a_law_class ?l_law_class ?c_law_class ?k_law_class ?a_law_untied ?l_law_untied ?c_law_untied ?k_law_untied ?a_law_with_tie ?l_law_with_tie ?c_law_with_tie ?k_law_with_tie ?a_law_full_web ?l_law_full_web ?c_law_full_web ?k_law_full_web ?a_law_told ?l_law_told ?c_law_told ?k_law_told ?a_law_due ?l_law_due ?c_law_due ?k_law_due ?a_law ?l_law ?c_law ?k_law ?z_MOST_TIES ?z_ValueError ?z_all ?z_bool ?z_int ?z_isinstance ?z_len ?z_list ?z_max ?z_min ?z_range ?z_sorted ?z_tuple ?z_zip ?g_Apart ?g_BadLengths ?g_BadWeb ?g_LoneError ?g_NoChoice ?g_NoPlace ?g_NoRow ?g_NoSide ?g_NoText ?g_NoTie ?g_NoWay ?g_NotLone ?g_NotPlain ?g_NothingDone ?g_Tied ?g_TooMany ?hn ?ht ?x_NoPlace ?kp_NoPlace ?sb_NoPlace ?ty_NoPlace ?eg_NoPlace ?ek_NoPlace ?ed_NoPlace ?ea_NoPlace ?em_NoPlace ?x_Tied ?kp_Tied ?sb_Tied ?ty_Tied ?eg_Tied ?ek_Tied ?ed_Tied ?ea_Tied ?em_Tied ?x_TooMany ?kp_TooMany ?sb_TooMany ?ty_TooMany ?eg_TooMany ?ek_TooMany ?ed_TooMany ?ea_TooMany ?em_TooMany ?dt_Apart ?tt_Apart ?dt_BadLengths ?tt_BadLengths ?dt_BadWeb ?tt_BadWeb ?dt_LoneError ?tt_LoneError ?dt_NoChoice ?tt_NoChoice ?dt_NoPlace ?tt_NoPlace ?dt_NoRow ?tt_NoRow ?dt_NoSide ?tt_NoSide ?dt_NoText ?tt_NoText ?dt_NoTie ?tt_NoTie ?dt_NoWay ?tt_NoWay ?dt_NotLone ?tt_NotLone ?dt_NotPlain ?tt_NotPlain ?dt_NothingDone ?tt_NothingDone ?dt_Tied ?tt_Tied ?dt_TooMany ?tt_TooMany ?bs_LoneError ?i_NoPlace_Apart ?ne_NoPlace_Apart ?i_NoPlace_BadLengths ?ne_NoPlace_BadLengths ?i_NoPlace_BadWeb ?ne_NoPlace_BadWeb ?i_NoPlace_NoChoice ?ne_NoPlace_NoChoice ?i_NoPlace_NoPlace ?i_NoPlace_NoRow ?ne_NoPlace_NoRow ?i_NoPlace_NoSide ?ne_NoPlace_NoSide ?i_NoPlace_NoText ?ne_NoPlace_NoText ?i_NoPlace_NoTie ?ne_NoPlace_NoTie ?i_NoPlace_NoWay ?ne_NoPlace_NoWay ?i_NoPlace_NotLone ?ne_NoPlace_NotLone ?i_NoPlace_NotPlain ?ne_NoPlace_NotPlain ?i_NoPlace_NothingDone ?ne_NoPlace_NothingDone ?i_NoPlace_Tied ?ne_NoPlace_Tied ?i_NoPlace_TooMany ?ne_NoPlace_TooMany ?i_NoPlace_ValueError ?i_Tied_Apart ?ne_Tied_Apart ?i_Tied_BadLengths ?ne_Tied_BadLengths ?i_Tied_BadWeb ?ne_Tied_BadWeb ?i_Tied_NoChoice ?ne_Tied_NoChoice ?i_Tied_NoPlace ?ne_Tied_NoPlace ?i_Tied_NoRow ?ne_Tied_NoRow ?i_Tied_NoSide ?ne_Tied_NoSide ?i_Tied_NoText ?ne_Tied_NoText ?i_Tied_NoTie ?ne_Tied_NoTie ?i_Tied_NoWay ?ne_Tied_NoWay ?i_Tied_NotLone ?ne_Tied_NotLone ?i_Tied_NotPlain ?ne_Tied_NotPlain ?i_Tied_NothingDone ?ne_Tied_NothingDone ?i_Tied_Tied ?i_Tied_TooMany ?ne_Tied_TooMany ?i_Tied_ValueError ?i_TooMany_Apart ?ne_TooMany_Apart ?i_TooMany_BadLengths ?ne_TooMany_BadLengths ?i_TooMany_BadWeb ?ne_TooMany_BadWeb ?i_TooMany_NoChoice ?ne_TooMany_NoChoice ?i_TooMany_NoPlace ?ne_TooMany_NoPlace ?i_TooMany_NoRow ?ne_TooMany_NoRow ?i_TooMany_NoSide ?ne_TooMany_NoSide ?i_TooMany_NoText ?ne_TooMany_NoText ?i_TooMany_NoTie ?ne_TooMany_NoTie ?i_TooMany_NoWay ?ne_TooMany_NoWay ?i_TooMany_NotLone ?ne_TooMany_NotLone ?i_TooMany_NotPlain ?ne_TooMany_NotPlain ?i_TooMany_NothingDone ?ne_TooMany_NothingDone ?i_TooMany_Tied ?ne_TooMany_Tied ?i_TooMany_TooMany ?i_TooMany_ValueError ?i_NoPlace_LoneError ?i_Tied_LoneError ?i_TooMany_LoneError
    (case a_look_at_place => k_is); (case l_look_at_place => k_is); (case c_look_at_place => k_is); (case k_look_at_place => k_is); (case a_length_between => k_is); (case l_length_between => k_is); (case c_length_between => k_is); (case k_length_between => k_is); (case a_tie_length => k_is); (case l_tie_length => k_is); (case c_tie_length => k_is); (case k_tie_length => k_is); (case a_look_at_ends => k_is); (case l_look_at_ends => k_is); (case c_look_at_ends => k_is); (case k_look_at_ends => k_is); (case a_look_at_tied => k_is); (case l_look_at_tied => k_is); (case c_look_at_tied => k_is); (case k_look_at_tied => k_is); (case a_put_web => k_is); (case l_put_web => k_is); (case c_put_web => k_is); (case k_put_web => k_is); (case a_law_pot => k_is); (case l_law_pot => k_is); (case c_law_pot => k_is); (case k_law_pot => k_is); (case a_law_take => k_is); (case l_law_take => k_is); (case c_law_take => k_is); (case k_law_take => k_is); (case a_law_length => k_is); (case l_law_length => k_is); (case c_law_length => k_is); (case k_law_length => k_is); (case a_law_order => k_is); (case l_law_order => k_is); (case c_law_order => k_is); (case k_law_order => k_is); (case a_law_named => k_is); (case l_law_named => k_is); (case c_law_named => k_is); (case k_law_named => k_is); (case a_law_any_web => k_is); (case l_law_any_web => k_is); (case c_law_any_web => k_is); (case k_law_any_web => k_is); (case a_law_pairs => k_is); (case l_law_pairs => k_is); (case c_law_pairs => k_is); (case k_law_pairs => k_is); (case a_law_lone_web => k_is); (case l_law_lone_web => k_is); (case c_law_lone_web => k_is); (case k_law_lone_web => k_is); (case a_law_other_length => k_is); (case l_law_other_length => k_is); (case c_law_other_length => k_is); (case k_law_other_length => k_is); (case a_law_web => k_is); (case l_law_web => k_is); (case c_law_web => k_is); (case k_law_web => k_is); (case a_law_alike => k_is); (case l_law_alike => k_is); (case c_law_alike => k_is); (case k_law_alike => k_is); (case a_law_class => k_is); (case l_law_class => k_is); (case c_law_class => k_is); (case k_law_class => k_is); (case a_law_untied => k_is); (case l_law_untied => k_is); (case c_law_untied => k_is); (case k_law_untied => k_is); (case a_law_with_tie => k_is); (case l_law_with_tie => k_is); (case c_law_with_tie => k_is); (case k_law_with_tie => k_is); (case a_law_full_web => k_is); (case l_law_full_web => k_is); (case c_law_full_web => k_is); (case k_law_full_web => k_is); (case a_law_told => k_is); (case l_law_told => k_is); (case c_law_told => k_is); (case k_law_told => k_is); (case a_law_due => k_is); (case l_law_due => k_is); (case c_law_due => k_is); (case k_law_due => k_is); (case a_law => k_is); (case l_law => k_is); (case c_law => k_is); (case k_law => k_is); (case z_MOST_TIES => k_is); (case z_ValueError => k_is); (case z_all => k_is); (case z_bool => k_is); (case z_int => k_is); (case z_isinstance => k_is); (case z_len => k_is); (case z_list => k_is); (case z_max => k_is); (case z_min => k_is); (case z_range => k_is); (case z_sorted => k_is); (case z_tuple => k_is); (case z_zip => k_is); (case g_Apart => k_is); (case g_BadLengths => k_is); (case g_BadWeb => k_is); (case g_LoneError => k_is); (case g_NoChoice => k_is); (case g_NoPlace => k_is); (case g_NoRow => k_is); (case g_NoSide => k_is); (case g_NoText => k_is); (case g_NoTie => k_is); (case g_NoWay => k_is); (case g_NotLone => k_is); (case g_NotPlain => k_is); (case g_NothingDone => k_is); (case g_Tied => k_is); (case g_TooMany => k_is); (case hn => k_is); (case ht => k_is); (case x_NoPlace => k_exc); (case kp_NoPlace => k_is); (case sb_NoPlace => k_is); (case ty_NoPlace => k_is); (case eg_NoPlace => k_is); (case ek_NoPlace => k_is); (case ed_NoPlace => k_is); (case ea_NoPlace => k_is); (case em_NoPlace => k_is); (case x_Tied => k_exc); (case kp_Tied => k_is); (case sb_Tied => k_is); (case ty_Tied => k_is); (case eg_Tied => k_is); (case ek_Tied => k_is); (case ed_Tied => k_is); (case ea_Tied => k_is); (case em_Tied => k_is); (case x_TooMany => k_exc); (case kp_TooMany => k_is); (case sb_TooMany => k_is); (case ty_TooMany => k_is); (case eg_TooMany => k_is); (case ek_TooMany => k_is); (case ed_TooMany => k_is); (case ea_TooMany => k_is); (case em_TooMany => k_is); (case dt_Apart => k_is); (case tt_Apart => k_is); (case dt_BadLengths => k_is); (case tt_BadLengths => k_is); (case dt_BadWeb => k_is); (case tt_BadWeb => k_is); (case dt_LoneError => k_is); (case tt_LoneError => k_is); (case dt_NoChoice => k_is); (case tt_NoChoice => k_is); (case dt_NoPlace => k_is); (case tt_NoPlace => k_is); (case dt_NoRow => k_is); (case tt_NoRow => k_is); (case dt_NoSide => k_is); (case tt_NoSide => k_is); (case dt_NoText => k_is); (case tt_NoText => k_is); (case dt_NoTie => k_is); (case tt_NoTie => k_is); (case dt_NoWay => k_is); (case tt_NoWay => k_is); (case dt_NotLone => k_is); (case tt_NotLone => k_is); (case dt_NotPlain => k_is); (case tt_NotPlain => k_is); (case dt_NothingDone => k_is); (case tt_NothingDone => k_is); (case dt_Tied => k_is); (case tt_Tied => k_is); (case dt_TooMany => k_is); (case tt_TooMany => k_is); (case bs_LoneError => k_is); (case i_NoPlace_Apart => k_is); (case ne_NoPlace_Apart => rfl); (case i_NoPlace_BadLengths => k_is); (case ne_NoPlace_BadLengths => rfl); (case i_NoPlace_BadWeb => k_is); (case ne_NoPlace_BadWeb => rfl); (case i_NoPlace_NoChoice => k_is); (case ne_NoPlace_NoChoice => rfl); (case i_NoPlace_NoPlace => k_is); (case i_NoPlace_NoRow => k_is); (case ne_NoPlace_NoRow => rfl); (case i_NoPlace_NoSide => k_is); (case ne_NoPlace_NoSide => rfl); (case i_NoPlace_NoText => k_is); (case ne_NoPlace_NoText => rfl); (case i_NoPlace_NoTie => k_is); (case ne_NoPlace_NoTie => rfl); (case i_NoPlace_NoWay => k_is); (case ne_NoPlace_NoWay => rfl); (case i_NoPlace_NotLone => k_is); (case ne_NoPlace_NotLone => rfl); (case i_NoPlace_NotPlain => k_is); (case ne_NoPlace_NotPlain => rfl); (case i_NoPlace_NothingDone => k_is); (case ne_NoPlace_NothingDone => rfl); (case i_NoPlace_Tied => k_is); (case ne_NoPlace_Tied => rfl); (case i_NoPlace_TooMany => k_is); (case ne_NoPlace_TooMany => rfl); (case i_NoPlace_ValueError => k_is); (case i_Tied_Apart => k_is); (case ne_Tied_Apart => rfl); (case i_Tied_BadLengths => k_is); (case ne_Tied_BadLengths => rfl); (case i_Tied_BadWeb => k_is); (case ne_Tied_BadWeb => rfl); (case i_Tied_NoChoice => k_is); (case ne_Tied_NoChoice => rfl); (case i_Tied_NoPlace => k_is); (case ne_Tied_NoPlace => rfl); (case i_Tied_NoRow => k_is); (case ne_Tied_NoRow => rfl); (case i_Tied_NoSide => k_is); (case ne_Tied_NoSide => rfl); (case i_Tied_NoText => k_is); (case ne_Tied_NoText => rfl); (case i_Tied_NoTie => k_is); (case ne_Tied_NoTie => rfl); (case i_Tied_NoWay => k_is); (case ne_Tied_NoWay => rfl); (case i_Tied_NotLone => k_is); (case ne_Tied_NotLone => rfl); (case i_Tied_NotPlain => k_is); (case ne_Tied_NotPlain => rfl); (case i_Tied_NothingDone => k_is); (case ne_Tied_NothingDone => rfl); (case i_Tied_Tied => k_is); (case i_Tied_TooMany => k_is); (case ne_Tied_TooMany => rfl); (case i_Tied_ValueError => k_is); (case i_TooMany_Apart => k_is); (case ne_TooMany_Apart => rfl); (case i_TooMany_BadLengths => k_is); (case ne_TooMany_BadLengths => rfl); (case i_TooMany_BadWeb => k_is); (case ne_TooMany_BadWeb => rfl); (case i_TooMany_NoChoice => k_is); (case ne_TooMany_NoChoice => rfl); (case i_TooMany_NoPlace => k_is); (case ne_TooMany_NoPlace => rfl); (case i_TooMany_NoRow => k_is); (case ne_TooMany_NoRow => rfl); (case i_TooMany_NoSide => k_is); (case ne_TooMany_NoSide => rfl); (case i_TooMany_NoText => k_is); (case ne_TooMany_NoText => rfl); (case i_TooMany_NoTie => k_is); (case ne_TooMany_NoTie => rfl); (case i_TooMany_NoWay => k_is); (case ne_TooMany_NoWay => rfl); (case i_TooMany_NotLone => k_is); (case ne_TooMany_NotLone => rfl); (case i_TooMany_NotPlain => k_is); (case ne_TooMany_NotPlain => rfl); (case i_TooMany_NothingDone => k_is); (case ne_TooMany_NothingDone => rfl); (case i_TooMany_Tied => k_is); (case ne_TooMany_Tied => rfl); (case i_TooMany_TooMany => k_is); (case i_TooMany_ValueError => k_is); (case i_NoPlace_LoneError => k_is); (case i_Tied_LoneError => k_is); (case i_TooMany_LoneError => k_is)

