import PyProof.Rows.All
import HandS.ForMost
import HandS.Lambda
import HandS.ExcInit
import HandS.ForExc
import HandS.HotCalls
import HandS.Deep
import HandS.More
import HandS.TupAny
import HandS.TupLen
import HandS.SetKeys
import HandS.IsInst
import HandS.Zip
import KE.SortData
import KE.DataMinMax
import KE.KDictCopyH
import KE.KDictSum
import HandS.Conv
import HandS.TryOnly
import HandS.ExcIs
import PyProof.SumAnyB
import HandS.TupMul
import KE.GoesEnum
import HandS.SetFor
import HandS.TupSets
import HandS.Style
import HandS.Sort
import KE.KRevSl
import PyProof.TupleOfSeq
import KE.GoesMore
import HandS.DictComp
import PyProof.NeKinds
import PyProof.StrOps2
import HandS.Strs
import PyProof.MaxThree
import HandS.Nested
import HandS.SortKw
import KE.SortKeyHeap
import KE.KDictWalk
import HandS.Text
import HandS.TupLe
import KE.KExcIs
import HandS.ExcField
import KE.KDictZip
import HandS.RaiseMore
import PySem.Challenge.RW_lonetrack_k02_webs_refused
import Wide.All
import OpenK.AllK
import Wide.FinOn
import HandS.EndTab
set_option Elab.async false
set_option linter.all false
set_option maxRecDepth 100000
set_option maxHeartbeats 4000000
namespace VS
open PySem PySem.Spec PyProof.Rows L2
def ghP : Option (Addr × Str) := none
end VS
set_option Elab.async false
set_option linter.all false
set_option maxRecDepth 100000
set_option maxHeartbeats 4000000
noncomputable section
structure VS.inR (i : Int) : Prop where
  lo : -(2 ^ 62) ≤ i
  hi : i < 2 ^ 62
structure VS.in63 (i : Int) : Prop where
  lo : -(2 ^ 63) ≤ i
  hi : i < 2 ^ 63
structure VS.in64 (i : Int) : Prop where
  lo : -(2 ^ 64) < i
  hi : i < 2 ^ 64
structure VS.in30 (i : Int) : Prop where
  lo : 0 < i
  hi : i < 1073741824
noncomputable instance VS.inR_dec {i : Int} : Decidable (VS.inR i) := Classical.propDecidable _
noncomputable instance VS.in63_dec {i : Int} : Decidable (VS.in63 i) := Classical.propDecidable _
noncomputable instance VS.in64_dec {i : Int} : Decidable (VS.in64 i) := Classical.propDecidable _
noncomputable instance VS.in30_dec {i : Int} : Decidable (VS.in30 i) := Classical.propDecidable _
namespace VS
open PySem PySem.Spec PyProof.Rows L2
inductive D where
  | unk | hole | non | bl (b : Bool) | int (i : Int) | str (x : Str) | adr (a : Addr) | exo (c : Str) (p : Option (Str × Int))
  | tup (ds : List D) | lst (o : Bool) (ds : List D) | scr (ds : List D) | ktp (ds : List D)
  | dK (o : Bool) (ks : List Key) (ds : List D)
  | dT (o : Bool) (ks : List (List Key)) (ds : List D)
  | lK (ks : List Key) (ds : List D)
  | lT (ks : List (List Key)) (ds : List D)
  | lck (o : HO)
abbrev Env := List D
mutual
def fz : D → Bool
  | .unk => false
  | .hole => false
  | .non => true
  | .bl _ => true
  | .int _ => true
  | .str _ => true
  | .adr _ => true
  | .exo _ _ => true
  | .tup ds => fzL ds
  | .lst o ds => !o && fzL ds
  | .scr ds => fzL ds
  | .ktp ds => fzL ds
  | .dK o _ ds => !o && fzL ds
  | .dT o _ ds => !o && fzL ds
  | .lK _ ds => fzL ds
  | .lT _ ds => fzL ds
  | .lck _ => true
def fzL : List D → Bool
  | [] => true
  | d :: ds => fz d && fzL ds
end
mutual
def freeze : D → D
  | .tup ds => .tup (freezeL ds)
  | .lst _ ds => .lst false (freezeL ds)
  | .scr ds => .scr (freezeL ds)
  | .ktp ds => .ktp (freezeL ds)
  | .dK _ ks ds => .dK false ks (freezeL ds)
  | .dT _ ks ds => .dT false ks (freezeL ds)
  | .lK ks ds => .lK ks (freezeL ds)
  | .lT ks ds => .lT ks (freezeL ds)
  | .lck o => .lck o
  | .hole => .unk
  | .unk => .unk
  | .non => .non
  | .bl b => .bl b
  | .int i => .int i
  | .str x => .str x
  | .adr a => .adr a
  | .exo c p => .exo c p
def freezeL : List D → List D
  | [] => []
  | d :: ds => freeze d :: freezeL ds
end
theorem freezeL_map : ∀ ds : List D, freezeL ds = ds.map freeze
  | [] => rfl
  | d :: ds => by rw [freezeL, freezeL_map ds]; rfl
theorem fzL_all : ∀ ds : List D, fzL ds = ds.all fz
  | [] => rfl
  | d :: ds => by rw [fzL, fzL_all ds]; rfl
mutual
theorem freeze_fz : ∀ d : D, fz d = true → freeze d = d
  | .unk, h => by simp [fz] at h
  | .hole, h => by simp [fz] at h
  | .non, _ => rfl
  | .bl _, _ => rfl
  | .int _, _ => rfl
  | .str _, _ => rfl
  | .adr _, _ => rfl
  | .exo _ _, _ => rfl
  | .tup ds, h => by
    rw [fz] at h
    rw [freeze, freezeL_fz ds h]
  | .lst o ds, h => by
    rw [fz, Bool.and_eq_true] at h
    obtain ⟨h1, h2⟩ := h
    have : o = false := by cases o <;> simp_all
    rw [freeze, freezeL_fz ds h2, this]
  | .scr ds, h => by
    rw [fz] at h
    rw [freeze, freezeL_fz ds h]
  | .ktp ds, h => by
    rw [fz] at h
    rw [freeze, freezeL_fz ds h]
  | .dK o ks ds, h => by
    rw [fz, Bool.and_eq_true] at h
    obtain ⟨h1, h2⟩ := h
    have : o = false := by cases o <;> simp_all
    rw [freeze, freezeL_fz ds h2, this]
  | .dT o ks ds, h => by
    rw [fz, Bool.and_eq_true] at h
    obtain ⟨h1, h2⟩ := h
    have : o = false := by cases o <;> simp_all
    rw [freeze, freezeL_fz ds h2, this]
  | .lK ks ds, h => by
    rw [fz] at h
    rw [freeze, freezeL_fz ds h]
  | .lT ks ds, h => by
    rw [fz] at h
    rw [freeze, freezeL_fz ds h]
  | .lck _, _ => rfl
theorem freezeL_fz : ∀ ds : List D, fzL ds = true → freezeL ds = ds
  | [], _ => rfl
  | d :: ds, h => by
    rw [fzL, Bool.and_eq_true] at h
    rw [freezeL, freeze_fz d h.1, freezeL_fz ds h.2]
end
def nTT (o : HO) : Prop := (∀ xs, o ≠ .tup xs) ∧ ∀ ps, o ≠ .tbl ps
def exHO (a C : Addr) (d : Option Addr) : HO := .ext fun h => ∃ (oe : Obj) (vs : Array Value), h.get? a = some oe ∧ oe.cls = .ref C ∧ oe.dict = d ∧ oe.data = .fields vs
section
variable (K : PySem.W.Frag) (F H : Hp)
mutual
/-- the value v is the data d: frozen parts in F, owned ones in H at the addresses A -/
def Ow : D → V → List Addr → Prop
  | .unk, _, A => A = []
  | .hole, v, A => ∃ a o, v = .ref a ∧ (H a = some o ∧ nTT o) ∧ A = [a]
  | .non, v, A => v = .non ∧ A = []
  | .bl b, v, A => v = .bl b ∧ A = []
  | .int i, v, A => v = .int i ∧ A = []
  | .str x, v, A => v = .str x ∧ A = []
  | .adr a, v, A => v = .ref a ∧ A = []
  | .exo c p, v, A => (∃ a C d, v = .ref a ∧ F a = some (exHO a C d) ∧ PySem.W.nsIn K mainGlobals c = some (some (.ref C)) ∧ match p with
      | none => d = none
      | some (f, n) => ∃ b, d = some b ∧ F b = some (.xd [(f, .int n)])) ∧ A = []
  | .tup ds, v, A => ∃ a vs, v = .ref a ∧ F a = some (.tup vs) ∧ OwL ds vs A
  | .ktp ds, v, A => ∃ a vs, v = .ref a ∧ SqT K F a vs ∧ OwL ds vs A
  | .lst false ds, v, A => ∃ a vs, v = .ref a ∧ F a = some (.lst vs) ∧ OwL ds vs A
  | .scr ds, v, A => ∃ a vs, v = .ref a ∧ SqL K F a vs ∧ OwL ds vs A
  | .lst true ds, v, A => ∃ a vs A', v = .ref a ∧ H a = some (.lst vs) ∧ OwL ds vs A' ∧ A = a :: A'
  | .dK false ks ds, v, A => ∃ a vs, v = .ref a ∧ F a = some (.dK (ks.zip vs)) ∧ (ks.length = ds.length ∧ ks.Nodup) ∧ OwL ds vs A
  | .dK true ks ds, v, A => ∃ a vs A', v = .ref a ∧ H a = some (.dK (ks.zip vs)) ∧ (ks.length = ds.length ∧ ks.Nodup) ∧ OwL ds vs A' ∧ A = a :: A'
  | .dT false ks ds, v, A => ∃ a vs, v = .ref a ∧ F a = some (.dT (ks.zip vs)) ∧ (ks.length = ds.length ∧ ks.Nodup) ∧ OwL ds vs A
  | .dT true ks ds, v, A => ∃ a vs A', v = .ref a ∧ H a = some (.dT (ks.zip vs)) ∧ (ks.length = ds.length ∧ ks.Nodup) ∧ OwL ds vs A' ∧ A = a :: A'
  | .lK ks ds, v, A => ∃ a vs, v = .ref a ∧ (∃ o, F a = some (.frz o (.dK (ks.zip vs)))) ∧ (ks.length = ds.length ∧ ks.Nodup) ∧ OwL ds vs A
  | .lT ks ds, v, A => ∃ a vs, v = .ref a ∧ (∃ o, F a = some (.frz o (.dT (ks.zip vs)))) ∧ (ks.length = ds.length ∧ ks.Nodup) ∧ OwL ds vs A
  | .lck o, v, A => (∃ a, v = .ref a ∧ F a = some o) ∧ A = []
def OwL : List D → List V → List Addr → Prop
  | [], vs, A => vs = [] ∧ A = []
  | d :: ds, vs, A => ∃ v r A1 A2, vs = v :: r ∧ A = A1 ++ A2 ∧ Ow d v A1 ∧ OwL ds r A2
end
end
variable {K : PySem.W.Frag} {F F' H H' : Hp}
theorem Same.sqT {a : Addr} {xs : List V} (e : Same F H) (h : SqT K F a xs) : SqT K H a xs := by
  rcases h with (h | ⟨o, h⟩) | h
  · exact .inl (.inl (e _ _ h))
  · exact .inl (.inr ⟨o, e _ _ h⟩)
  · exact .inr h
mutual
theorem Ow.keep (sF : Same F F') : ∀ (d : D) (v : V) (A : List Addr), Ow K F H d v A → (∀ a ∈ A, H' a = H a) → Ow K F' H' d v A
  | .unk, v, A, h, _ => by rw [Ow] at h ⊢; exact h
  | .hole, v, A, h, k => by
    rw [Ow] at h ⊢
    obtain ⟨a, o, e, ho, rfl⟩ := h
    exact ⟨a, o, e, ⟨by rw [k a (by simp)]; exact ho.1, ho.2⟩, rfl⟩
  | .non, v, A, h, _ => by rw [Ow] at h ⊢; exact h
  | .bl b, v, A, h, _ => by rw [Ow] at h ⊢; exact h
  | .int i, v, A, h, _ => by rw [Ow] at h ⊢; exact h
  | .str x, v, A, h, _ => by rw [Ow] at h ⊢; exact h
  | .adr x, v, A, h, _ => by rw [Ow] at h ⊢; exact h
  | .exo c p, v, A, h, _ => by
    rw [Ow] at h ⊢
    obtain ⟨⟨a, C, d, e, q, n, k⟩, z⟩ := h
    refine ⟨⟨a, C, d, e, sF _ _ q, n, ?_⟩, z⟩
    cases p with
    | none => exact k
    | some p =>
      obtain ⟨b, e1, e2⟩ := k
      exact ⟨b, e1, sF _ _ e2⟩
  | .tup ds, v, A, h, k => by
    rw [Ow] at h ⊢
    obtain ⟨a, vs, e, q, l⟩ := h
    exact ⟨a, vs, e, sF _ _ q, OwL.keep sF ds vs A l k⟩
  | .ktp ds, v, A, h, k => by
    rw [Ow] at h ⊢
    obtain ⟨a, vs, e, q, l⟩ := h
    exact ⟨a, vs, e, Same.sqT sF q, OwL.keep sF ds vs A l k⟩
  | .lst false ds, v, A, h, k => by
    rw [Ow] at h ⊢
    obtain ⟨a, vs, e, q, l⟩ := h
    exact ⟨a, vs, e, sF _ _ q, OwL.keep sF ds vs A l k⟩
  | .scr ds, v, A, h, k => by
    rw [Ow] at h ⊢
    obtain ⟨a, vs, e, q, l⟩ := h
    exact ⟨a, vs, e, sF.seq q, OwL.keep sF ds vs A l k⟩
  | .lst true ds, v, A, h, k => by
    rw [Ow] at h ⊢
    obtain ⟨a, vs, A', e, q, l, rfl⟩ := h
    exact ⟨a, vs, A', e, by rw [k a (by simp)]; exact q, OwL.keep sF ds vs A' l fun b hb => k b (List.mem_cons_of_mem _ hb), rfl⟩
  | .dK false ks ds, v, A, h, k => by
    rw [Ow] at h ⊢
    obtain ⟨a, vs, e, q, n, l⟩ := h
    exact ⟨a, vs, e, sF _ _ q, n, OwL.keep sF ds vs A l k⟩
  | .dK true ks ds, v, A, h, k => by
    rw [Ow] at h ⊢
    obtain ⟨a, vs, A', e, q, n, l, rfl⟩ := h
    exact ⟨a, vs, A', e, by rw [k a (by simp)]; exact q, n, OwL.keep sF ds vs A' l fun b hb => k b (List.mem_cons_of_mem _ hb), rfl⟩
  | .dT false ks ds, v, A, h, k => by
    rw [Ow] at h ⊢
    obtain ⟨a, vs, e, q, n, l⟩ := h
    exact ⟨a, vs, e, sF _ _ q, n, OwL.keep sF ds vs A l k⟩
  | .dT true ks ds, v, A, h, k => by
    rw [Ow] at h ⊢
    obtain ⟨a, vs, A', e, q, n, l, rfl⟩ := h
    exact ⟨a, vs, A', e, by rw [k a (by simp)]; exact q, n, OwL.keep sF ds vs A' l fun b hb => k b (List.mem_cons_of_mem _ hb), rfl⟩
  | .lK ks ds, v, A, h, k => by
    rw [Ow] at h ⊢
    obtain ⟨a, vs, e, q, n, l⟩ := h
    exact ⟨a, vs, e, q.imp fun _ q => sF _ _ q, n, OwL.keep sF ds vs A l k⟩
  | .lT ks ds, v, A, h, k => by
    rw [Ow] at h ⊢
    obtain ⟨a, vs, e, q, n, l⟩ := h
    exact ⟨a, vs, e, q.imp fun _ q => sF _ _ q, n, OwL.keep sF ds vs A l k⟩
  | .lck o, v, A, h, k => by
    rw [Ow] at h ⊢
    exact ⟨h.1.imp fun _ q => ⟨q.1, sF _ _ q.2⟩, h.2⟩
theorem OwL.keep (sF : Same F F') : ∀ (ds : List D) (vs : List V) (A : List Addr), OwL K F H ds vs A → (∀ a ∈ A, H' a = H a) → OwL K F' H' ds vs A
  | [], vs, A, h, _ => by rw [OwL] at h ⊢; exact h
  | d :: ds, vs, A, h, k => by
    rw [OwL] at h ⊢
    obtain ⟨v, r, A1, A2, e, rfl, h1, h2⟩ := h
    exact ⟨v, r, A1, A2, e, rfl, Ow.keep sF d v A1 h1 fun a ha => k a (List.mem_append_left _ ha), OwL.keep sF ds r A2 h2 fun a ha => k a (List.mem_append_right _ ha)⟩
end
mutual
/-- an owned address stands in H -/
theorem Ow.dom : ∀ (d : D) (v : V) (A : List Addr), Ow K F H d v A → ∀ a ∈ A, ∃ o, H a = some o ∧ nTT o
  | .unk, v, A, h, a, ha => by rw [Ow] at h; subst h; cases ha
  | .hole, v, A, h, a, ha => by
    rw [Ow] at h
    obtain ⟨b, o, _, ho, rfl⟩ := h
    rw [List.mem_singleton] at ha
    subst ha
    exact ⟨o, ho⟩
  | .non, v, A, h, a, ha => by rw [Ow] at h; rw [h.2] at ha; cases ha
  | .bl b, v, A, h, a, ha => by rw [Ow] at h; rw [h.2] at ha; cases ha
  | .int i, v, A, h, a, ha => by rw [Ow] at h; rw [h.2] at ha; cases ha
  | .str x, v, A, h, a, ha => by rw [Ow] at h; rw [h.2] at ha; cases ha
  | .adr x, v, A, h, a, ha => by rw [Ow] at h; rw [h.2] at ha; cases ha
  | .exo x p, v, A, h, a, ha => by rw [Ow] at h; rw [h.2] at ha; cases ha
  | .tup ds, v, A, h, a, ha => by
    rw [Ow] at h
    obtain ⟨_, vs, _, _, l⟩ := h
    exact OwL.dom ds vs A l a ha
  | .lst false ds, v, A, h, a, ha => by
    rw [Ow] at h
    obtain ⟨_, vs, _, _, l⟩ := h
    exact OwL.dom ds vs A l a ha
  | .scr ds, v, A, h, a, ha => by
    rw [Ow] at h
    obtain ⟨_, vs, _, _, l⟩ := h
    exact OwL.dom ds vs A l a ha
  | .ktp ds, v, A, h, a, ha => by
    rw [Ow] at h
    obtain ⟨_, vs, _, _, l⟩ := h
    exact OwL.dom ds vs A l a ha
  | .lst true ds, v, A, h, a, ha => by
    rw [Ow] at h
    obtain ⟨b, vs, A', _, q, l, rfl⟩ := h
    rcases List.mem_cons.mp ha with rfl | ha
    · exact ⟨_, q, ⟨fun xs z => (by cases z), fun xs z => (by cases z)⟩⟩
    · exact OwL.dom ds vs A' l a ha
  | .dK false ks ds, v, A, h, a, ha => by
    rw [Ow] at h
    obtain ⟨_, vs, _, _, _, l⟩ := h
    exact OwL.dom ds vs A l a ha
  | .dK true ks ds, v, A, h, a, ha => by
    rw [Ow] at h
    obtain ⟨b, vs, A', _, q, _, l, rfl⟩ := h
    rcases List.mem_cons.mp ha with rfl | ha
    · exact ⟨_, q, ⟨fun xs z => (by cases z), fun xs z => (by cases z)⟩⟩
    · exact OwL.dom ds vs A' l a ha
  | .dT false ks ds, v, A, h, a, ha => by
    rw [Ow] at h
    obtain ⟨_, vs, _, _, _, l⟩ := h
    exact OwL.dom ds vs A l a ha
  | .dT true ks ds, v, A, h, a, ha => by
    rw [Ow] at h
    obtain ⟨b, vs, A', _, q, _, l, rfl⟩ := h
    rcases List.mem_cons.mp ha with rfl | ha
    · exact ⟨_, q, ⟨fun xs z => (by cases z), fun xs z => (by cases z)⟩⟩
    · exact OwL.dom ds vs A' l a ha
  | .lK ks ds, v, A, h, a, ha => by
    rw [Ow] at h
    obtain ⟨_, vs, _, _, _, l⟩ := h
    exact OwL.dom ds vs A l a ha
  | .lT ks ds, v, A, h, a, ha => by
    rw [Ow] at h
    obtain ⟨_, vs, _, _, _, l⟩ := h
    exact OwL.dom ds vs A l a ha
  | .lck o, v, A, h, a, ha => by rw [Ow] at h; rw [h.2] at ha; cases ha
theorem OwL.dom : ∀ (ds : List D) (vs : List V) (A : List Addr), OwL K F H ds vs A → ∀ a ∈ A, ∃ o, H a = some o ∧ nTT o
  | [], vs, A, h, a, ha => by rw [OwL] at h; rw [h.2] at ha; cases ha
  | d :: ds, vs, A, h, a, ha => by
    rw [OwL] at h
    obtain ⟨v, r, A1, A2, _, rfl, h1, h2⟩ := h
    rcases List.mem_append.mp ha with ha | ha
    · exact Ow.dom d v A1 h1 a ha
    · exact OwL.dom ds r A2 h2 a ha
end
mutual
/-- frozen data own nothing -/
theorem Ow.frozen : ∀ (d : D) (v : V) (A : List Addr), fz d = true → Ow K F H d v A → A = []
  | .unk, v, A, z, h => by rw [Ow] at h; exact h
  | .hole, v, A, z, h => by simp [fz] at z
  | .non, v, A, z, h => by rw [Ow] at h; exact h.2
  | .bl b, v, A, z, h => by rw [Ow] at h; exact h.2
  | .int i, v, A, z, h => by rw [Ow] at h; exact h.2
  | .str x, v, A, z, h => by rw [Ow] at h; exact h.2
  | .adr x, v, A, z, h => by rw [Ow] at h; exact h.2
  | .exo x p, v, A, z, h => by rw [Ow] at h; exact h.2
  | .tup ds, v, A, z, h => by
    rw [Ow] at h
    obtain ⟨_, vs, _, _, l⟩ := h
    rw [fz] at z
    exact OwL.frozen ds vs A z l
  | .lst false ds, v, A, z, h => by
    rw [Ow] at h
    obtain ⟨_, vs, _, _, l⟩ := h
    rw [fz, Bool.and_eq_true] at z
    exact OwL.frozen ds vs A z.2 l
  | .lst true ds, v, A, z, h => by simp [fz] at z
  | .scr ds, v, A, z, h => by
    rw [Ow] at h
    obtain ⟨_, vs, _, _, l⟩ := h
    rw [fz] at z
    exact OwL.frozen ds vs A z l
  | .ktp ds, v, A, z, h => by
    rw [Ow] at h
    obtain ⟨_, vs, _, _, l⟩ := h
    rw [fz] at z
    exact OwL.frozen ds vs A z l
  | .dK false ks ds, v, A, z, h => by
    rw [Ow] at h
    obtain ⟨_, vs, _, _, _, l⟩ := h
    rw [fz, Bool.and_eq_true] at z
    exact OwL.frozen ds vs A z.2 l
  | .dK true ks ds, v, A, z, h => by simp [fz] at z
  | .dT false ks ds, v, A, z, h => by
    rw [Ow] at h
    obtain ⟨_, vs, _, _, _, l⟩ := h
    rw [fz, Bool.and_eq_true] at z
    exact OwL.frozen ds vs A z.2 l
  | .dT true ks ds, v, A, z, h => by simp [fz] at z
  | .lK ks ds, v, A, z, h => by
    rw [Ow] at h
    obtain ⟨_, vs, _, _, _, l⟩ := h
    rw [fz] at z
    exact OwL.frozen ds vs A z l
  | .lT ks ds, v, A, z, h => by
    rw [Ow] at h
    obtain ⟨_, vs, _, _, _, l⟩ := h
    rw [fz] at z
    exact OwL.frozen ds vs A z l
  | .lck o, v, A, z, h => by rw [Ow] at h; exact h.2
theorem OwL.frozen : ∀ (ds : List D) (vs : List V) (A : List Addr), fzL ds = true → OwL K F H ds vs A → A = []
  | [], vs, A, _, h => by rw [OwL] at h; exact h.2
  | d :: ds, vs, A, z, h => by
    rw [OwL] at h
    rw [fzL, Bool.and_eq_true] at z
    obtain ⟨v, r, A1, A2, _, rfl, h1, h2⟩ := h
    rw [Ow.frozen d v A1 z.1 h1, OwL.frozen ds r A2 z.2 h2]
    rfl
end
mutual
/-- what is owned becomes frozen -/
theorem Ow.freeze (sF : Same F F') : ∀ (d : D) (v : V) (A : List Addr), Ow K F H d v A → (∀ a ∈ A, F' a = H a) → Ow K F' H' (VS.freeze d) v []
  | .unk, v, A, h, _ => by rw [VS.freeze, Ow]
  | .hole, v, A, h, k => by rw [VS.freeze, Ow]
  | .non, v, A, h, _ => by rw [VS.freeze, Ow]; rw [Ow] at h; exact ⟨h.1, rfl⟩
  | .bl b, v, A, h, _ => by rw [VS.freeze, Ow]; rw [Ow] at h; exact ⟨h.1, rfl⟩
  | .int i, v, A, h, _ => by rw [VS.freeze, Ow]; rw [Ow] at h; exact ⟨h.1, rfl⟩
  | .str x, v, A, h, _ => by rw [VS.freeze, Ow]; rw [Ow] at h; exact ⟨h.1, rfl⟩
  | .adr x, v, A, h, _ => by rw [VS.freeze, Ow]; rw [Ow] at h; exact ⟨h.1, rfl⟩
  | .exo c p, v, A, h, _ => by
    rw [VS.freeze, Ow]
    rw [Ow] at h
    obtain ⟨⟨a, C, d, e, q, n, k⟩, z⟩ := h
    refine ⟨⟨a, C, d, e, sF _ _ q, n, ?_⟩, rfl⟩
    cases p with
    | none => exact k
    | some p =>
      obtain ⟨b, e1, e2⟩ := k
      exact ⟨b, e1, sF _ _ e2⟩
  | .tup ds, v, A, h, k => by
    rw [VS.freeze, Ow]
    rw [Ow] at h
    obtain ⟨a, vs, e, q, l⟩ := h
    exact ⟨a, vs, e, sF _ _ q, OwL.freeze sF ds vs A l k⟩
  | .ktp ds, v, A, h, k => by
    rw [VS.freeze, Ow]
    rw [Ow] at h
    obtain ⟨a, vs, e, q, l⟩ := h
    exact ⟨a, vs, e, Same.sqT sF q, OwL.freeze sF ds vs A l k⟩
  | .lst false ds, v, A, h, k => by
    rw [VS.freeze, Ow]
    rw [Ow] at h
    obtain ⟨a, vs, e, q, l⟩ := h
    exact ⟨a, vs, e, sF _ _ q, OwL.freeze sF ds vs A l k⟩
  | .scr ds, v, A, h, k => by
    rw [VS.freeze, Ow]
    rw [Ow] at h
    obtain ⟨a, vs, e, q, l⟩ := h
    exact ⟨a, vs, e, sF.seq q, OwL.freeze sF ds vs A l k⟩
  | .lst true ds, v, A, h, k => by
    rw [VS.freeze, Ow]
    rw [Ow] at h
    obtain ⟨a, vs, A', e, q, l, rfl⟩ := h
    exact ⟨a, vs, e, (k a (by simp)).trans q, OwL.freeze sF ds vs A' l fun b hb => k b (List.mem_cons_of_mem _ hb)⟩
  | .dK false ks ds, v, A, h, k => by
    rw [VS.freeze, Ow]
    rw [Ow] at h
    obtain ⟨a, vs, e, q, n, l⟩ := h
    exact ⟨a, vs, e, sF _ _ q, ⟨by rw [n.1, freezeL_map, List.length_map], n.2⟩, OwL.freeze sF ds vs A l k⟩
  | .dK true ks ds, v, A, h, k => by
    rw [VS.freeze, Ow]
    rw [Ow] at h
    obtain ⟨a, vs, A', e, q, n, l, rfl⟩ := h
    exact ⟨a, vs, e, (k a (by simp)).trans q, ⟨by rw [n.1, freezeL_map, List.length_map], n.2⟩, OwL.freeze sF ds vs A' l fun b hb => k b (List.mem_cons_of_mem _ hb)⟩
  | .dT false ks ds, v, A, h, k => by
    rw [VS.freeze, Ow]
    rw [Ow] at h
    obtain ⟨a, vs, e, q, n, l⟩ := h
    exact ⟨a, vs, e, sF _ _ q, ⟨by rw [n.1, freezeL_map, List.length_map], n.2⟩, OwL.freeze sF ds vs A l k⟩
  | .dT true ks ds, v, A, h, k => by
    rw [VS.freeze, Ow]
    rw [Ow] at h
    obtain ⟨a, vs, A', e, q, n, l, rfl⟩ := h
    exact ⟨a, vs, e, (k a (by simp)).trans q, ⟨by rw [n.1, freezeL_map, List.length_map], n.2⟩, OwL.freeze sF ds vs A' l fun b hb => k b (List.mem_cons_of_mem _ hb)⟩
  | .lK ks ds, v, A, h, k => by
    rw [VS.freeze, Ow]
    rw [Ow] at h
    obtain ⟨a, vs, e, q, n, l⟩ := h
    exact ⟨a, vs, e, q.imp fun _ q => sF _ _ q, ⟨by rw [n.1, freezeL_map, List.length_map], n.2⟩, OwL.freeze sF ds vs A l k⟩
  | .lT ks ds, v, A, h, k => by
    rw [VS.freeze, Ow]
    rw [Ow] at h
    obtain ⟨a, vs, e, q, n, l⟩ := h
    exact ⟨a, vs, e, q.imp fun _ q => sF _ _ q, ⟨by rw [n.1, freezeL_map, List.length_map], n.2⟩, OwL.freeze sF ds vs A l k⟩
  | .lck o, v, A, h, k => by
    rw [VS.freeze, Ow]
    rw [Ow] at h
    exact ⟨h.1.imp fun _ q => ⟨q.1, sF _ _ q.2⟩, rfl⟩
theorem OwL.freeze (sF : Same F F') : ∀ (ds : List D) (vs : List V) (A : List Addr), OwL K F H ds vs A → (∀ a ∈ A, F' a = H a) → OwL K F' H' (freezeL ds) vs []
  | [], vs, A, h, _ => by rw [freezeL, OwL]; rw [OwL] at h; exact ⟨h.1, rfl⟩
  | d :: ds, vs, A, h, k => by
    rw [freezeL, OwL]
    rw [OwL] at h
    obtain ⟨v, r, A1, A2, e, rfl, h1, h2⟩ := h
    exact ⟨v, r, [], [], e, rfl, Ow.freeze sF d v A1 h1 fun a ha => k a (List.mem_append_left _ ha), OwL.freeze sF ds r A2 h2 fun a ha => k a (List.mem_append_right _ ha)⟩
end
theorem OwL.length : ∀ {ds : List D} {vs : List V} {A : List Addr}, OwL K F H ds vs A → ds.length = vs.length
  | [], vs, A, h => by rw [OwL] at h; rw [h.1]; rfl
  | d :: ds, vs, A, h => by
    rw [OwL] at h
    obtain ⟨v, r, A1, A2, rfl, _, _, h2⟩ := h
    simp [OwL.length h2]
def OwT (K : PySem.W.Frag) (F H : Hp) : List (D × V) → List Addr → Prop
  | [], A => A = []
  | p :: T, A => ∃ A1 A2, A = A1 ++ A2 ∧ Ow K F H p.1 p.2 A1 ∧ OwT K F H T A2
theorem OwT.keep (sF : Same F F') : ∀ {T : List (D × V)} {A : List Addr}, OwT K F H T A → (∀ a ∈ A, H' a = H a) → OwT K F' H' T A
  | [], A, h, _ => h
  | p :: T, A, h, k => by
    obtain ⟨A1, A2, rfl, h1, h2⟩ := h
    exact ⟨A1, A2, rfl, h1.keep sF _ _ _ fun a ha => k a (List.mem_append_left _ ha), h2.keep sF fun a ha => k a (List.mem_append_right _ ha)⟩
theorem OwT.dom : ∀ {T : List (D × V)} {A : List Addr}, OwT K F H T A → ∀ a ∈ A, ∃ o, H a = some o ∧ nTT o
  | [], A, h, a, ha => by rw [show A = [] from h] at ha; cases ha
  | p :: T, A, h, a, ha => by
    obtain ⟨A1, A2, rfl, h1, h2⟩ := h
    rcases List.mem_append.mp ha with ha | ha
    · exact h1.dom _ _ _ a ha
    · exact h2.dom a ha
theorem OwT.perm {T T' : List (D × V)} (p : T.Perm T') : ∀ {A : List Addr}, OwT K F H T A → ∃ A', A.Perm A' ∧ OwT K F H T' A' := by
  induction p with
  | nil => exact fun {A} h => ⟨A, .refl _, h⟩
  | cons x _ ih =>
    intro A h
    obtain ⟨A1, A2, rfl, h1, h2⟩ := h
    obtain ⟨A', q, h3⟩ := ih h2
    exact ⟨A1 ++ A', q.append_left _, A1, A', rfl, h1, h3⟩
  | swap x y l =>
    intro A h
    obtain ⟨A1, A2, rfl, h1, A3, A4, rfl, h2, h3⟩ := h
    refine ⟨A3 ++ (A1 ++ A4), ?_, A3, _, rfl, h2, A1, A4, rfl, h1, h3⟩
    rw [← List.append_assoc, ← List.append_assoc]
    exact List.perm_append_comm.append_right _
  | trans _ _ ih1 ih2 =>
    intro A h
    obtain ⟨A', q, h1⟩ := ih1 h
    obtain ⟨A'', q', h2⟩ := ih2 h1
    exact ⟨A'', q.trans q', h2⟩
theorem OwT.append : ∀ {T U : List (D × V)} {A B : List Addr}, OwT K F H T A → OwT K F H U B → OwT K F H (T ++ U) (A ++ B)
  | [], U, A, B, h, h' => by rw [show A = [] from h]; exact h'
  | p :: T, U, A, B, h, h' => by
    obtain ⟨A1, A2, rfl, h1, h2⟩ := h
    exact ⟨A1, A2 ++ B, List.append_assoc _ _ _, h1, h2.append h'⟩
theorem OwT.split : ∀ {T U : List (D × V)} {C : List Addr}, OwT K F H (T ++ U) C → ∃ A B, C = A ++ B ∧ OwT K F H T A ∧ OwT K F H U B
  | [], U, C, h => ⟨[], C, rfl, rfl, h⟩
  | p :: T, U, C, h => by
    obtain ⟨A1, A2, rfl, h1, h2⟩ := h
    obtain ⟨A, B, rfl, h3, h4⟩ := h2.split
    exact ⟨A1 ++ A, B, (List.append_assoc _ _ _).symm, ⟨A1, A, rfl, h1, h3⟩, h4⟩
theorem OwL.toT : ∀ {ds : List D} {vs : List V} {A : List Addr}, OwL K F H ds vs A → OwT K F H (ds.zip vs) A
  | [], vs, A, h => by rw [OwL] at h; rw [List.zip_nil_left]; exact h.2
  | d :: ds, vs, A, h => by
    rw [OwL] at h
    obtain ⟨v, r, A1, A2, rfl, rfl, h1, h2⟩ := h
    exact ⟨A1, A2, rfl, h1, h2.toT⟩
theorem OwT.toL : ∀ {ds : List D} {vs : List V} {A : List Addr}, ds.length = vs.length → OwT K F H (ds.zip vs) A → OwL K F H ds vs A
  | [], [], A, _, h => by rw [OwL]; exact ⟨rfl, h⟩
  | [], _ :: _, A, e, h => by cases e
  | d :: ds, [], A, e, h => by cases e
  | d :: ds, v :: vs, A, e, h => by
    rw [OwL]
    obtain ⟨A1, A2, rfl, h1, h2⟩ := h
    exact ⟨v, vs, A1, A2, rfl, rfl, h1, h2.toL (Nat.succ.inj e)⟩
def GhOk (F H : Hp) : Prop := match ghP with
  | none => True
  | some p => F p.1 = none ∧ ∃ ps, H p.1 = some (.tbl ps) ∧ TriplesOk ps.toList ∧ ∀ (pos : Pos) (cv : Value), codeAmong pos ps.toList = some cv → ∃ c, cv = .ref c ∧ F c = some (LamX.CodeO c p.2)
theorem GhOk.to2 {F F' H H' : Hp} (g : GhOk F H) (k : ∀ b φ, F b = some (.ext φ) → F' b = some (.ext φ)) (h : ∀ P ps, F P = none → H P = some (.tbl ps) → F' P = none ∧ H' P = some (.tbl ps)) : GhOk F' H' := by
  unfold GhOk at g ⊢
  cases q : ghP with
  | none => trivial
  | some p =>
    rw [q] at g
    obtain ⟨g1, ps, g2, g3, g4⟩ := g
    obtain ⟨h1, h2⟩ := h _ _ g1 g2
    refine ⟨h1, ps, h2, g3, fun pos cv e => ?_⟩
    obtain ⟨c, e1, e2⟩ := g4 pos cv e
    exact ⟨c, e1, k _ _ e2⟩
theorem GhOk.to {F F' H H' : Hp} (g : GhOk F H) (k : Same F F') (h : ∀ P ps, F P = none → H P = some (.tbl ps) → F' P = none ∧ H' P = some (.tbl ps)) : GhOk F' H' := g.to2 (fun _ _ e => k _ _ e) h
theorem GhOk.hp {F H H' : Hp} (g : GhOk F H) (h : ∀ P ps, H P = some (.tbl ps) → H' P = some (.tbl ps)) : GhOk F H' := g.to (Same.refl _) fun P ps a b => ⟨a, h P ps b⟩
structure SameG (F H : Hp) : Prop where
  sm : Same F H
  gh : GhOk F H
instance {F H : Hp} : CoeFun (SameG F H) fun _ => ∀ b o, F b = some o → H b = some o := ⟨fun s => s.sm⟩
instance {F H : Hp} : Coe (SameG F H) (Same F H) := ⟨fun s => s.sm⟩
theorem SameG.seq {F H : Hp} {a : Addr} {xs : List V} (e : SameG F H) (h : SqL K F a xs) : SqL K H a xs := e.sm.seq h
theorem SameG.upd {F H : Hp} (s : SameG F H) {a : Addr} {o : HO} (fa : F a = none) (n : ∀ ps, H a ≠ some (.tbl ps)) : SameG F (upd H a o) :=
  ⟨fun b u q => by rw [upd_ne fun z => by rw [z, fa] at q; cases q]; exact s.sm _ _ q, s.gh.hp fun P ps e => by rw [upd_ne fun z => n ps (by rw [← z]; exact e)]; exact e⟩
theorem SameG.none {F H : Hp} (s : SameG F H) {p : Addr} (hp : H p = none) : F p = none := by
  cases q : F p with
  | none => rfl
  | some u => have := s.sm _ _ q; rw [hp] at this; cases this
def RepT (K : PySem.W.Frag) (H : Hp) (L : List (D × V)) : Prop := ∃ (F : Hp) (A : List Addr), SameG F H ∧ A.Nodup ∧ (∀ a ∈ A, F a = none) ∧ OwT K F H L A
variable {L L' : List (D × V)} {d : D} {v : V}
theorem RepT.perm (p : L.Perm L') (h : RepT K H L) : RepT K H L' := by
  obtain ⟨F, A, sF, nd, fr, o⟩ := h
  obtain ⟨A', q, o'⟩ := o.perm p
  exact ⟨F, A', sF, q.nodup_iff.mp nd, fun a ha => fr a (q.mem_iff.mpr ha), o'⟩
theorem RepT.drop {p : D × V} (h : RepT K H (p :: L)) : RepT K H L := by
  obtain ⟨F, A, sF, nd, fr, A1, A2, rfl, _, o⟩ := h
  exact ⟨F, A2, sF, (List.nodup_append.mp nd).2.1, fun a ha => fr a (List.mem_append_right _ ha), o⟩
theorem RepT.dropL : ∀ {U : List (D × V)}, RepT K H (U ++ L) → RepT K H L
  | [], h => h
  | _ :: U, h => RepT.dropL (U := U) h.drop
theorem RepT.dup (z : fz d = true) (h : RepT K H ((d, v) :: L)) : RepT K H ((d, v) :: (d, v) :: L) := by
  obtain ⟨F, A, sF, nd, fr, A1, A2, rfl, h1, o⟩ := h
  have e := h1.frozen _ _ _ z
  subst e
  exact ⟨F, [] ++ A2, sF, nd, fr, [], [] ++ A2, rfl, h1, [], A2, rfl, h1, o⟩
theorem RepT.unk (h : RepT K H L) : RepT K H ((.unk, v) :: L) := by
  obtain ⟨F, A, sF, nd, fr, o⟩ := h
  exact ⟨F, A, sF, nd, fr, [], A, rfl, by rw [Ow], o⟩
theorem RepT.weak (h : RepT K H ((d, v) :: L)) : RepT K H ((.unk, v) :: L) := h.drop.unk
theorem RepT.non (h : RepT K H L) : RepT K H ((.non, .non) :: L) := by
  obtain ⟨F, A, sF, nd, fr, o⟩ := h
  exact ⟨F, A, sF, nd, fr, [], A, rfl, by rw [Ow]; exact ⟨rfl, rfl⟩, o⟩
theorem RepT.bl {b : Bool} (h : RepT K H L) : RepT K H ((.bl b, .bl b) :: L) := by
  obtain ⟨F, A, sF, nd, fr, o⟩ := h
  exact ⟨F, A, sF, nd, fr, [], A, rfl, by rw [Ow]; exact ⟨rfl, rfl⟩, o⟩
theorem RepT.int {i : Int} (h : RepT K H L) : RepT K H ((.int i, .int i) :: L) := by
  obtain ⟨F, A, sF, nd, fr, o⟩ := h
  exact ⟨F, A, sF, nd, fr, [], A, rfl, by rw [Ow]; exact ⟨rfl, rfl⟩, o⟩
theorem RepT.str {x : Str} (h : RepT K H L) : RepT K H ((.str x, .str x) :: L) := by
  obtain ⟨F, A, sF, nd, fr, o⟩ := h
  exact ⟨F, A, sF, nd, fr, [], A, rfl, by rw [Ow]; exact ⟨rfl, rfl⟩, o⟩
theorem RepT.eq_non (h : RepT K H ((.non, v) :: L)) : v = .non := by
  obtain ⟨F, A, sF, nd, fr, A1, A2, rfl, h1, o⟩ := h
  rw [Ow] at h1; exact h1.1
theorem RepT.eq_bl {b : Bool} (h : RepT K H ((.bl b, v) :: L)) : v = .bl b := by
  obtain ⟨F, A, sF, nd, fr, A1, A2, rfl, h1, o⟩ := h
  rw [Ow] at h1; exact h1.1
theorem RepT.eq_int {i : Int} (h : RepT K H ((.int i, v) :: L)) : v = .int i := by
  obtain ⟨F, A, sF, nd, fr, A1, A2, rfl, h1, o⟩ := h
  rw [Ow] at h1; exact h1.1
theorem RepT.adr {a : Addr} (h : RepT K H L) : RepT K H ((.adr a, .ref a) :: L) := by
  obtain ⟨F, A, sF, nd, fr, o⟩ := h
  exact ⟨F, A, sF, nd, fr, [], A, rfl, by rw [Ow]; exact ⟨rfl, rfl⟩, o⟩
theorem RepT.eq_adr {a : Addr} (h : RepT K H ((.adr a, v) :: L)) : v = .ref a := by
  obtain ⟨F, A, sF, nd, fr, A1, A2, e, h1, o⟩ := h
  rw [Ow] at h1
  exact h1.1
theorem RepT.eq_str {x : Str} (h : RepT K H ((.str x, v) :: L)) : v = .str x := by
  obtain ⟨F, A, sF, nd, fr, A1, A2, rfl, h1, o⟩ := h
  rw [Ow] at h1; exact h1.1
theorem RepT.newL {ds : List D} {vs : List V} {p : Addr} (e : ds.length = vs.length) (hp : H p = none) (h : RepT K H (ds.zip vs ++ L)) : RepT K (upd H p (.lst vs)) ((.lst true ds, .ref p) :: L) := by
  obtain ⟨F, A, sF, nd, fr, o⟩ := h
  obtain ⟨A1, A2, rfl, o1, o2⟩ := o.split
  have np : p ∉ A1 ++ A2 := fun hm => by
    rcases List.mem_append.mp hm with hm | hm
    · obtain ⟨_, q, _⟩ := o1.dom p hm; rw [hp] at q; cases q
    · obtain ⟨_, q, _⟩ := o2.dom p hm; rw [hp] at q; cases q
  have k : ∀ a ∈ A1 ++ A2, upd H p (.lst vs) a = H a := fun a ha => upd_ne (fun z => np (by rw [← z]; exact ha))
  have fp : F p = none := by
    cases q : F p with
    | none => rfl
    | some u => have := sF _ _ q; rw [hp] at this; cases this
  refine ⟨F, (p :: A1) ++ A2, sF.upd fp (fun ps z => by rw [hp] at z; cases z), ?_, fun a ha => ?_, p :: A1, A2, rfl, ?_, o2.keep (Same.refl _) fun a ha => k a (List.mem_append_right _ ha)⟩
  · exact List.nodup_cons.mpr ⟨np, nd⟩
  · rcases List.mem_cons.mp ha with rfl | ha
    · exact fp
    · exact fr a ha
  · rw [Ow]
    exact ⟨p, vs, A1, rfl, upd_same, (o1.toL e).keep (Same.refl _) _ _ _ fun a ha => k a (List.mem_append_left _ ha), rfl⟩
theorem RepT.newT {ds : List D} {vs : List V} {p : Addr} (e : ds.length = vs.length) (hp : H p = none) (h : RepT K H (ds.zip vs ++ L)) : RepT K (upd H p (.tup vs)) ((.tup ds, .ref p) :: L) := by
  obtain ⟨F, A, sF, nd, fr, o⟩ := h
  obtain ⟨A1, A2, rfl, o1, o2⟩ := o.split
  have np : p ∉ A1 ++ A2 := fun hm => by
    rcases List.mem_append.mp hm with hm | hm
    · obtain ⟨_, q, _⟩ := o1.dom p hm; rw [hp] at q; cases q
    · obtain ⟨_, q, _⟩ := o2.dom p hm; rw [hp] at q; cases q
  have k : ∀ a ∈ A1 ++ A2, upd H p (.tup vs) a = H a := fun a ha => upd_ne (fun z => np (by rw [← z]; exact ha))
  have fp : F p = none := by
    cases q : F p with
    | none => rfl
    | some u => have := sF _ _ q; rw [hp] at this; cases this
  have sU : Same F (upd F p (.tup vs)) := fun b o q => by
    rw [upd_ne fun z => by rw [z, fp] at q; cases q]; exact q
  refine ⟨upd F p (.tup vs), A1 ++ A2, ⟨fun b o q => ?_, sF.gh.to sU fun P ps a b => ?_⟩, nd, fun a ha => ?_, A1, A2, rfl, ?_, o2.keep sU fun a ha => k a (List.mem_append_right _ ha)⟩
  · by_cases z : b = p
    · subst z; rw [upd_same] at q ⊢; exact q
    · rw [upd_ne z] at q ⊢; exact sF _ _ q
  · have z : P ≠ p := fun z => by rw [z, hp] at b; cases b
    rw [upd_ne z, upd_ne z]; exact ⟨a, b⟩
  · rw [upd_ne (fun z => np (by rw [← z]; exact ha))]; exact fr a ha
  · rw [Ow]
    exact ⟨p, vs, rfl, upd_same, (o1.toL e).keep sU _ _ _ fun a ha => k a (List.mem_append_left _ ha)⟩
theorem RepT.grow {p : Addr} {o : HO} (hp : H p = none) (h : RepT K H L) : RepT K (upd H p o) L := by
  obtain ⟨F, A, sF, nd, fr, ow⟩ := h
  refine ⟨F, A, sF.upd (sF.none hp) (fun ps z => by rw [hp] at z; cases z), nd, fr, ow.keep (Same.refl _) fun a ha => upd_ne fun z => ?_⟩
  · subst z
    obtain ⟨_, q, _⟩ := ow.dom a ha
    rw [hp] at q; cases q
theorem RepT.openL {ds : List D} (h : RepT K H ((.lst true ds, v) :: L)) : ∃ a vs, v = .ref a ∧ H a = some (.lst vs) ∧ ds.length = vs.length ∧ RepT K H ((.hole, .ref a) :: (ds.zip vs ++ L)) := by
  obtain ⟨F, A, sF, nd, fr, A1, A2, rfl, h1, o⟩ := h
  rw [Ow] at h1
  obtain ⟨a, vs, A', rfl, q, l, rfl⟩ := h1
  refine ⟨a, vs, rfl, q, l.length, F, [a] ++ (A' ++ A2), sF, nd, fr, [a], A' ++ A2, rfl, ?_, l.toT.append o⟩
  rw [Ow]
  exact ⟨a, _, rfl, ⟨q, ⟨fun xs z => (by cases z), fun xs z => (by cases z)⟩⟩, rfl⟩
theorem RepT.closeL {ds : List D} {vs : List V} {a : Addr} (e : ds.length = vs.length) (h : RepT K H ((.hole, .ref a) :: (ds.zip vs ++ L))) : RepT K (upd H a (.lst vs)) ((.lst true ds, .ref a) :: L) := by
  obtain ⟨F, A, sF, nd, fr, A1, A2, rfl, h1, o⟩ := h
  rw [Ow] at h1
  obtain ⟨b, u, e1, q, rfl⟩ := h1
  cases e1
  obtain ⟨B1, B2, rfl, o1, o2⟩ := o.split
  have fa : F a = none := fr a (by simp)
  have na : a ∉ B1 ++ B2 := (List.nodup_cons.mp nd).1
  have k : ∀ b ∈ B1 ++ B2, upd H a (.lst vs) b = H b := fun b hb => upd_ne (fun z => na (by rw [← z]; exact hb))
  refine ⟨F, (a :: B1) ++ B2, sF.upd fa (fun ps z => by rw [q.1] at z; exact q.2.2 _ (Option.some.inj z)), nd, fr, a :: B1, B2, rfl, ?_, o2.keep (Same.refl _) fun b hb => k b (List.mem_append_right _ hb)⟩
  · rw [Ow]
    exact ⟨a, vs, B1, rfl, upd_same, (o1.toL e).keep (Same.refl _) _ _ _ fun b hb => k b (List.mem_append_left _ hb), rfl⟩
theorem RepT.openT {ds : List D} (h : RepT K H ((.tup ds, v) :: L)) : ∃ a vs, v = .ref a ∧ H a = some (.tup vs) ∧ ds.length = vs.length ∧ RepT K H (ds.zip vs ++ L) := by
  obtain ⟨F, A, sF, nd, fr, A1, A2, rfl, h1, o⟩ := h
  rw [Ow] at h1
  obtain ⟨a, vs, rfl, q, l⟩ := h1
  exact ⟨a, vs, rfl, sF _ _ q, l.length, F, A1 ++ A2, sF, nd, fr, l.toT.append o⟩
theorem RepT.openK {ds : List D} (h : RepT K H ((.ktp ds, v) :: L)) : ∃ a vs, v = .ref a ∧ SqT K H a vs ∧ ds.length = vs.length ∧ RepT K H (ds.zip vs ++ L) := by
  obtain ⟨F, A, sF, nd, fr, A1, A2, rfl, h1, o⟩ := h
  rw [Ow] at h1
  obtain ⟨a, vs, rfl, q, l⟩ := h1
  exact ⟨a, vs, rfl, Same.sqT sF q, l.length, F, A1 ++ A2, sF, nd, fr, l.toT.append o⟩
theorem RepT.openF {ds : List D} (h : RepT K H ((.lst false ds, v) :: L)) : ∃ a vs, v = .ref a ∧ H a = some (.lst vs) ∧ ds.length = vs.length ∧ RepT K H (ds.zip vs ++ L) := by
  obtain ⟨F, A, sF, nd, fr, A1, A2, rfl, h1, o⟩ := h
  rw [Ow] at h1
  obtain ⟨a, vs, rfl, q, l⟩ := h1
  exact ⟨a, vs, rfl, sF _ _ q, l.length, F, A1 ++ A2, sF, nd, fr, l.toT.append o⟩
theorem RepT.openS {ds : List D} (h : RepT K H ((.scr ds, v) :: L)) : ∃ a vs, v = .ref a ∧ SqL K H a vs ∧ ds.length = vs.length ∧ RepT K H (ds.zip vs ++ L) := by
  obtain ⟨F, A, sF, nd, fr, A1, A2, rfl, h1, o⟩ := h
  rw [Ow] at h1
  obtain ⟨a, vs, rfl, q, l⟩ := h1
  exact ⟨a, vs, rfl, sF.seq q, l.length, F, A1 ++ A2, sF, nd, fr, l.toT.append o⟩
theorem RepT.readL {o : Bool} {ds : List D} (h : RepT K H ((.lst o ds, v) :: L)) : ∃ a vs, v = .ref a ∧ H a = some (.lst vs) ∧ ds.length = vs.length ∧ RepT K H (ds.zip vs ++ L) := by
  cases o with
  | false => exact h.openF
  | true =>
    obtain ⟨a, vs, e, q, l, r⟩ := h.openL
    exact ⟨a, vs, e, q, l, r.drop⟩
theorem RepT.script {a : Addr} {ns : List Int} (F : Hp) (sF : SameG F H) (h : SqL K F a (ns.map V.int)) : RepT K H [(.scr (ns.map D.int), .ref a)] := by
  refine ⟨F, [], sF, List.nodup_nil, fun _ h => (by exact absurd h (by simp)), [], [], rfl, ?_, rfl⟩
  rw [Ow]
  refine ⟨a, _, rfl, h, ?_⟩
  clear h
  induction ns with
  | nil => rw [List.map_nil, OwL]; exact ⟨rfl, rfl⟩
  | cons n ns ih =>
    rw [List.map_cons, OwL]
    exact ⟨.int n, ns.map V.int, [], [], rfl, rfl, by rw [Ow]; exact ⟨rfl, rfl⟩, ih⟩
theorem RepT.freeze (h : RepT K H ((d, v) :: L)) : RepT K H ((VS.freeze d, v) :: L) := by
  obtain ⟨F, A, sF, nd, fr, A1, A2, rfl, h1, o⟩ := h
  obtain ⟨n1, n2, n3⟩ := List.nodup_append.mp nd
  let F' : Hp := fun a => if a ∈ A1 then H a else F a
  have sF' : Same F F' := fun b u q => by
    have : b ∉ A1 := fun hb => by rw [fr b (List.mem_append_left _ hb)] at q; cases q
    show (if b ∈ A1 then H b else F b) = some u
    rw [if_neg this]; exact q
  have kA : ∀ a ∈ A1, F' a = H a := fun a ha => if_pos ha
  refine ⟨F', A2, ⟨fun b u q => ?_, sF.gh.to sF' fun P ps a b => ⟨?_, b⟩⟩, n2, fun a ha => ?_, [], A2, rfl, h1.freeze sF' _ _ _ kA, o.keep sF' fun _ _ => rfl⟩
  · by_cases hb : b ∈ A1
    · rw [kA b hb] at q; exact q
    · have e : F' b = F b := if_neg hb
      rw [e] at q; exact sF _ _ q
  · have hP : P ∉ A1 := fun hb => by
      obtain ⟨o, e, n⟩ := h1.dom _ _ _ P hb
      rw [b] at e
      exact n.2 ps (Option.some.inj e).symm
    exact (if_neg hP).trans a
  · have : a ∉ A1 := fun hb => n3 a hb a ha rfl
    show (if a ∈ A1 then H a else F a) = none
    rw [if_neg this]; exact fr a (List.mem_append_right _ ha)
theorem RepT.tupOf {ds : List D} {vs : List V} {a : Addr} (ha : H a = some (.tup vs)) (hs : ∀ F', OwL K F' H ds vs []) (h : RepT K H L) : RepT K H ((.tup ds, .ref a) :: L) := by
  obtain ⟨F, A, sF, nd, fr, o⟩ := h
  have na : a ∉ A := fun z => by
    obtain ⟨u, q, n⟩ := o.dom a z
    rw [ha] at q
    exact n.1 vs (Option.some.inj q).symm
  have sU : Same F (upd F a (.tup vs)) := fun b u q => by
    by_cases z : b = a
    · subst z
      have := sF _ _ q
      rw [ha] at this
      rw [upd_same]; exact this
    · rw [upd_ne z]; exact q
  refine ⟨upd F a (.tup vs), A, ⟨fun b u q => ?_, sF.gh.to sU fun P ps x y => ⟨?_, y⟩⟩, nd, fun b hb => ?_, [], A, rfl, ?_, o.keep sU fun _ _ => rfl⟩
  · by_cases z : b = a
    · subst z; rw [upd_same] at q; rw [ha]; exact q
    · rw [upd_ne z] at q; exact sF _ _ q
  · rw [upd_ne fun z => by rw [z, ha] at y; cases y]; exact x
  · rw [upd_ne (fun z => na (by rw [← z]; exact hb))]; exact fr b hb
  · rw [Ow]; exact ⟨a, vs, rfl, upd_same, hs _⟩
end VS
set_option Elab.async false
set_option linter.all false
set_option maxRecDepth 100000
set_option maxHeartbeats 4000000
set_option autoImplicit false
noncomputable section
namespace VS
open PySem PySem.Spec PyProof.Rows L2
abbrev St := L2.St
def SL (ρ : Env) (σ : St) : List (D × V) := List.zipWith (fun d o => (d, o.getD .non)) ρ σ
structure Rep (K : PySem.W.Frag) (H : Hp) (T : List (D × V)) (ρ : Env) (σ : St) : Prop where
  len : ρ.length = σ.length
  nos : ∀ (i : Nat), σ[i]? = some none → ρ[i]? = some .unk
  rep : RepT K H (T ++ SL ρ σ)
theorem SL_set : ∀ (ρ : Env) (σ : St) (i : Nat) (d : D) (v : V), SL (ρ.set i d) (σ.set i (some v)) = (SL ρ σ).set i (d, v)
  | [], _, _, _, _ => by simp [SL]
  | _ :: _, [], _, _, _ => by simp [SL]
  | _ :: _, _ :: _, 0, _, _ => rfl
  | c :: ρ, o :: σ, i + 1, d, v => by
    show (c, o.getD .non) :: SL (ρ.set i d) (σ.set i (some v)) = _
    rw [SL_set ρ σ i d v]; rfl
theorem SL_setD : ∀ (ρ : Env) (σ : St) (i : Nat) (d : D) (v : V), σ[i]? = some (some v) → SL (ρ.set i d) σ = (SL ρ σ).set i (d, v)
  | [], _, _, _, _, _ => by simp [SL]
  | _ :: _, [], _, _, _, h => by simp at h
  | _ :: _, o :: _, 0, _, _, h => by
    have e : o = some _ := Option.some.inj h
    subst e; rfl
  | c :: ρ, o :: σ, i + 1, d, v, h => by
    show (c, o.getD .non) :: SL (ρ.set i d) σ = _
    rw [SL_setD ρ σ i d v h]; rfl
theorem SL_get : ∀ {ρ : Env} {σ : St} {i : Nat} {d : D} {v : V}, ρ[i]? = some d → σ[i]? = some (some v) → (SL ρ σ)[i]? = some (d, v)
  | [], _, _, _, _, h, _ => by simp at h
  | _ :: _, [], _, _, _, _, h => by simp at h
  | c :: _, o :: _, 0, _, _, h, h' => by
    have e : c = _ := Option.some.inj h
    have e' : o = some _ := Option.some.inj h'
    subst e; subst e'; rfl
  | c :: ρ, o :: σ, i + 1, d, v, h, h' => SL_get (ρ := ρ) (σ := σ) h h'
theorem perm_set {α : Type} (x : α) : ∀ {L : List α} {i : Nat} {y : α}, L[i]? = some y → (x :: L).Perm (y :: L.set i x)
  | [], _, _, h => by simp at h
  | a :: L, 0, y, h => by
    have e : a = y := Option.some.inj h
    subst e
    exact .swap _ _ _
  | a :: L, i + 1, y, h => by
    show (x :: a :: L).Perm (y :: a :: L.set i x)
    exact ((List.Perm.swap a x L).trans ((perm_set x (L := L) (i := i) h).cons a)).trans (.swap _ _ _)
theorem perm_erase {α : Type} : ∀ {L : List α} {i : Nat} {y : α}, L[i]? = some y → L.Perm (y :: L.eraseIdx i)
  | [], _, _, h => by simp at h
  | a :: L, 0, y, h => by
    have e : a = y := Option.some.inj h
    subst e
    exact .refl _
  | a :: L, i + 1, y, h => by
    show (a :: L).Perm (y :: a :: L.eraseIdx i)
    exact ((perm_erase (L := L) (i := i) h).cons a).trans (.swap _ _ _)
section
variable {K : PySem.W.Frag} {H H' : Hp} {T T' : List (D × V)} {ρ : Env} {σ σ' : St} {d : D} {v : V} {i : Nat}
theorem Rep.lift (h : Rep K H T ρ σ) (f : RepT K H (T ++ SL ρ σ) → RepT K H' (T' ++ SL ρ σ)) : Rep K H' T' ρ σ := ⟨h.len, h.nos, f h.rep⟩
theorem Rep.perm (h : Rep K H T ρ σ) (p : T.Perm T') : Rep K H T' ρ σ := h.lift fun r => r.perm (p.append_right _)
theorem Rep.drop {p : D × V} (h : Rep K H (p :: T) ρ σ) : Rep K H T ρ σ := h.lift fun r => RepT.drop (L := T ++ SL ρ σ) r
theorem Rep.dropL : ∀ {U : List (D × V)}, Rep K H (U ++ T) ρ σ → Rep K H T ρ σ
  | [], h => h
  | _ :: U, h => Rep.dropL (U := U) (Rep.drop h)
theorem Rep.slot (h : Rep K H T ρ σ) (e : ρ[i]? = some d) (n : d ≠ .unk) : ∃ v, σ[i]? = some (some v) := by
  have hi : i < σ.length := by rw [← h.len]; exact (List.getElem?_eq_some_iff.mp e).1
  cases q : σ[i] with
  | none =>
    have := h.nos i (by rw [List.getElem?_eq_getElem hi, q])
    rw [e] at this
    exact absurd (Option.some.inj this) n
  | some v => exact ⟨v, by rw [List.getElem?_eq_getElem hi, q]⟩
theorem Rep.read (h : Rep K H T ρ σ) (e : ρ[i]? = some d) (z : fz d = true) (hv : σ[i]? = some (some v)) : Rep K H ((d, v) :: T) ρ σ := by
  refine h.lift fun r => ?_
  have g := SL_get e hv
  have p : (T ++ SL ρ σ).Perm ((d, v) :: (T ++ (SL ρ σ).eraseIdx i)) := by
    exact ((perm_erase g).append_left T).trans List.perm_middle
  exact (RepT.dup z (r.perm p)).perm (p.symm.cons _)
theorem Rep.take (h : Rep K H T ρ σ) (e : ρ[i]? = some d) (hv : σ[i]? = some (some v)) : Rep K H ((d, v) :: T) (ρ.set i .unk) σ := by
  refine ⟨by rw [List.length_set]; exact h.len, fun j hj => ?_, ?_⟩
  · by_cases z : i = j
    · subst z; rw [hv] at hj; cases hj
    · rw [List.getElem?_set_ne z]; exact h.nos j hj
  · rw [SL_setD ρ σ i _ v hv]
    have g := SL_get e hv
    have r := RepT.unk (v := v) h.rep
    refine r.perm ?_
    show ((D.unk, v) :: (T ++ SL ρ σ)).Perm ((d, v) :: (T ++ (SL ρ σ).set i (.unk, v)))
    exact (List.perm_middle.symm.trans ((perm_set (D.unk, v) g).append_left T)).trans List.perm_middle
theorem Rep.put (h : Rep K H ((d, v) :: T) ρ σ) (hv : σ[i]? = some (some v)) : Rep K H T (ρ.set i d) σ := by
  refine ⟨by rw [List.length_set]; exact h.len, fun j hj => ?_, ?_⟩
  · by_cases z : i = j
    · subst z; rw [hv] at hj; cases hj
    · rw [List.getElem?_set_ne z]; exact h.nos j hj
  · rw [SL_setD ρ σ i _ v hv]
    have hi : i < ρ.length := by rw [h.len]; exact (List.getElem?_eq_some_iff.mp hv).1
    have g := SL_get (List.getElem?_eq_getElem hi) hv
    have r : RepT K H ((d, v) :: (T ++ SL ρ σ)) := h.rep
    exact RepT.drop (r.perm ((List.perm_middle.symm.trans ((perm_set (d, v) g).append_left T)).trans List.perm_middle))
theorem Rep.set (h : Rep K H ((d, v) :: T) ρ σ) : Rep K H T (ρ.set i d) (σ.set i (some v)) := by
  refine ⟨by rw [List.length_set, List.length_set]; exact h.len, fun j hj => ?_, ?_⟩
  · by_cases z : i = j
    · subst z
      by_cases hi : i < σ.length
      · rw [List.getElem?_set_self hi] at hj; cases hj
      · rw [List.getElem?_eq_none (by rw [List.length_set]; omega)] at hj; cases hj
    · rw [List.getElem?_set_ne z] at hj ⊢; exact h.nos j hj
  · rw [SL_set]
    have r : RepT K H ((d, v) :: (T ++ SL ρ σ)) := h.rep
    by_cases hi : i < (SL ρ σ).length
    · exact RepT.drop (r.perm ((List.perm_middle.symm.trans ((perm_set (d, v) (List.getElem?_eq_getElem hi)).append_left T)).trans List.perm_middle))
    · rw [List.set_eq_of_length_le (by omega)]
      exact r.drop
theorem Rep.frz (h : Rep K H T ρ σ) (e : ρ[i]? = some d) (n : d ≠ .unk) : Rep K H T (ρ.set i (freeze d)) σ := by
  obtain ⟨v, hv⟩ := h.slot e n
  have r := h.take e hv
  have r2 : Rep K H ((freeze d, v) :: T) (ρ.set i .unk) σ := r.lift fun q => RepT.freeze (L := T ++ SL (ρ.set i .unk) σ) q
  have r3 := r2.put hv
  rw [List.set_set] at r3
  exact r3
theorem Rep.forget (h : Rep K H T ρ σ) (i : Nat) : Rep K H T (ρ.set i .unk) σ := by
  by_cases hi : i < σ.length
  · cases q : σ[i] with
    | none =>
      have e := h.nos i (by rw [List.getElem?_eq_getElem hi, q])
      have : ρ.set i .unk = ρ := by
        apply List.ext_getElem?
        intro j
        by_cases z : i = j
        · subst z
          rw [List.getElem?_set_self (by rw [h.len]; exact hi), e]
        · rw [List.getElem?_set_ne z]
      rw [this]; exact h
    | some v =>
      have hv : σ[i]? = some (some v) := by rw [List.getElem?_eq_getElem hi, q]
      exact (h.take (d := ρ[i]'(by rw [h.len]; exact hi)) (List.getElem?_eq_getElem _) hv).drop
  · rw [List.set_eq_of_length_le (by rw [h.len]; omega)]
    exact h
def wipeD (ρ : Env) : List Nat → Env
  | [] => ρ
  | i :: is => (wipeD ρ is).set i .unk
theorem wipeD_length (ρ : Env) : ∀ is : List Nat, (wipeD ρ is).length = ρ.length
  | [] => rfl
  | i :: is => by rw [wipeD, List.length_set, wipeD_length ρ is]
theorem Rep.wipe1 (h : Rep K H T ρ σ) : ∀ is : List Nat, Rep K H T (wipeD ρ is) σ
  | [] => h
  | i :: is => (h.wipe1 is).forget i
theorem wipeD_get (ρ : Env) : ∀ {is : List Nat} {i : Nat}, i ∈ is → i < ρ.length → (wipeD ρ is)[i]? = some .unk
  | [], _, h, _ => by cases h
  | j :: is, i, h, hl => by
    rw [wipeD]
    by_cases z : j = i
    · subst z; rw [List.getElem?_set_self (by rw [wipeD_length]; exact hl)]
    · rw [List.getElem?_set_ne z]
      rcases List.mem_cons.mp h with e | h
      · exact absurd e.symm z
      · exact wipeD_get ρ h hl
theorem Rep.other (h : Rep K H T ρ σ) (hl : σ'.length = σ.length) (ho : ∀ (i : Nat), ρ[i]? = some .unk ∨ σ'[i]? = σ[i]?) : Rep K H T ρ σ' := by
  refine ⟨h.len.trans hl.symm, fun i hi => ?_, ?_⟩
  · rcases ho i with e | e
    · exact e
    · exact h.nos i (e ▸ hi)
  · have key : ∀ (ρ : Env) (σ σ' : St) (U : List (D × V)), ρ.length = σ.length → σ'.length = σ.length → (∀ (i : Nat), ρ[i]? = some .unk ∨ σ'[i]? = σ[i]?) → RepT K H (U ++ SL ρ σ) → RepT K H (U ++ SL ρ σ') := by
      intro ρ
      induction ρ with
      | nil => intro σ σ' U _ _ _ r; simpa [SL] using r
      | cons d ρ ih =>
        intro σ σ' U e1 e2 ho r
        cases σ with
        | nil => cases e1
        | cons o σ =>
          cases σ' with
          | nil => cases e2
          | cons o' σ' =>
            have r' : RepT K H ((U ++ [(d, o.getD .non)]) ++ SL ρ σ) := by simpa [SL] using r
            have r2 := ih σ σ' (U ++ [(d, o.getD .non)]) (Nat.succ.inj e1) (Nat.succ.inj e2) (fun i => ho (i + 1)) r'
            have r3 : RepT K H ((d, o.getD .non) :: (U ++ SL ρ σ')) := r2.perm (by
              rw [List.append_assoc]
              exact List.perm_middle)
            have r4 : RepT K H ((d, o'.getD .non) :: (U ++ SL ρ σ')) := by
              rcases ho 0 with e | e
              · have e : d = .unk := Option.some.inj e
                subst e
                exact r3.drop.unk
              · have e : o' = o := Option.some.inj e
                rw [e]; exact r3
            exact r4.perm List.perm_middle.symm
    exact key ρ σ σ' T h.len hl ho h.rep
end
structure Xc where
  c : Str
  p : Option (Str × Int)
inductive Rv (α : Type) where
  | ok (a : α) (ρ : Env)
  | ex (x : Xc) (ρ : Env)
abbrev M (α : Type) := Env → Option (Rv α)
def bindM {α β : Type} (f : M α) (k : α → M β) : M β := fun ρ => match f ρ with
  | none => none
  | some (.ex x ρ') => some (.ex x ρ')
  | some (.ok a ρ') => k a ρ'
def retM {α : Type} (a : α) : M α := fun ρ => some (.ok a ρ)
def optM {α : Type} (o : Option α) : M α := fun ρ => match o with
  | none => none
  | some a => some (.ok a ρ)
theorem optM_some {α : Type} {o : Option α} {ρ : Env} {r : Rv α} (h : optM o ρ = some r) : ∃ a, o = some a ∧ r = .ok a ρ := by
  cases o with
  | none => cases h
  | some a => exact ⟨a, rfl, (Option.some.inj h).symm⟩
inductive Fl where
  | nx | rt (d : D) | bk | ct | ex (x : Xc)
abbrev MS := Env → Option (Fl × Env)
def XRep (mg : Str → Option Value) (x : Xc) (cls : Value) (d : Option Addr) (H : Hp) : Prop :=
  ∃ C, cls = .ref C ∧ mg x.c = some (.ref C) ∧ match x.p with
    | none => d = none
    | some (f, n) => ∃ a, d = some a ∧ H a = some (.xd [(f, .int n)])
def sansD (H : Hp) : Option Addr → Hp
  | none => H
  | some b => del H b
section
variable (K : PySem.W.Frag) (mg : Str → Option Value) (W : WX)
def exE (T : List (D × V)) (σ : St) (x : Xc) (ρ' : Env) : Prop := ∀ cls dd H', XRep mg x cls dd H' → Rep K (sansD H' dd) T ρ' σ → W cls dd σ H'
def endR {α : Type} (T : List (D × V)) (σ : St) (okP : α → Env → Prop) : Rv α → Prop
  | .ok a ρ' => okP a ρ'
  | .ex x ρ' => exE K mg W T σ x ρ'
def okE (m : Bool) (T : List (D × V)) (σ : St) (H : Hp) (Q : VK) (d : D) (ρ' : Env) : Prop := ∀ v H', (m = false → Same H H') → Rep K H' ((d, v) :: T) ρ' σ → Q v H'
def okT (m : Bool) (T : List (D × V)) (σ : St) (H : Hp) (Q : Bool → Hp → Prop) (b : Bool) (ρ' : Env) : Prop := ∀ H', (m = false → Same H H') → Rep K H' T ρ' σ → Q b H'
def okA (m : Bool) (T : List (D × V)) (σ : St) (H : Hp) (Q : List V → Hp → Prop) (ds : List D) (ρ' : Env) : Prop := ∀ vs H', (m = false → Same H H') → ds.length = vs.length → Rep K H' (ds.zip vs ++ T) ρ' σ → Q vs H'
def tOf (m : Bool) (f : M D) : TE := fun σ H Q => ∃ T ρ r, Rep K H T ρ σ ∧ f ρ = some r ∧ endR K mg W T σ (okE K m T σ H Q) r
def ttOf (m : Bool) (f : M Bool) : TT := fun σ H Q => ∃ T ρ r, Rep K H T ρ σ ∧ f ρ = some r ∧ endR K mg W T σ (okT K m T σ H Q) r
def taOf (m : Bool) (f : M (List D)) : TA := fun σ H Q => ∃ T ρ r, Rep K H T ρ σ ∧ f ρ = some r ∧ endR K mg W T σ (okA K m T σ H Q) r
def Kept (asg : List Nat) (σ σ' : St) : Prop := σ'.length = σ.length ∧ ∀ (i : Nat), i ∉ asg → σ'[i]? = σ[i]?
def endS (asg : List Nat) (T : List (D × V)) (σ : St) (E : Ends) : Fl → Env → Prop
  | .nx, ρ' => ∀ σ' H', Kept asg σ σ' → Rep K H' T ρ' σ' → E.nx σ' H'
  | .bk, ρ' => ∀ σ' H', Kept asg σ σ' → Rep K H' T ρ' σ' → E.bk σ' H'
  | .ct, ρ' => ∀ σ' H', Kept asg σ σ' → Rep K H' T ρ' σ' → E.ct σ' H'
  | .rt d, ρ' => ∀ v σ' H', Kept asg σ σ' → Rep K H' ((d, v) :: T) ρ' σ' → E.rt v H'
  | .ex x, ρ' => ∀ cls dd σ' H', Kept asg σ σ' → XRep mg x cls dd H' → Rep K (sansD H' dd) T ρ' σ' → W cls dd σ' H'
def tsOf (asg : List Nat) (g : MS) : TS := fun E σ H => ∃ T ρ fl ρ', Rep K H T ρ σ ∧ g ρ = some (fl, ρ') ∧ endS K mg W asg T σ E fl ρ'
def tgOf (asg : List Nat) (g : D → Env → Option Env) : TG := fun v σ H Q => ∃ T ρ d ρ', Rep K H ((d, v) :: T) ρ σ ∧ g d ρ = some ρ' ∧ ∀ σ' H', Kept asg σ σ' → Rep K H' T ρ' σ' → Q σ' H'
structure ItOk (J : It) (c : List (D × V)) (ds : List D) : Prop where
  go : ∀ i H L, i < ds.length → RepT K H (c ++ L) → J.go i H
  stop : ∀ H L, RepT K H (c ++ L) → J.stop ds.length H
  yld : ∀ i H L x H' d, RepT K H (c ++ L) → ds[i]? = some d → J.yld i H x H' → RepT K H' ((d, x) :: (c ++ L))
def okI (T : List (D × V)) (σ : St) (H : Hp) (R : It → Hp → Prop) (ds : List D) (ρ' : Env) : Prop := ∀ J c H', ItOk K J c ds → Rep K H' (c ++ T) ρ' σ → R J H'
def tiOf (f : M (List D)) : TI := fun σ H R => ∃ T ρ r, Rep K H T ρ σ ∧ f ρ = some r ∧ endR K mg W T σ (okI K T σ H R) r
end
section
variable (X : Cx) (W : WX)
def VE (m : Bool) (e : Expr) (f : M D) : Prop := PE X e (tOf X.K X.mg W m f)
def VT (m : Bool) (e : Expr) (f : M Bool) : Prop := PT X e (ttOf X.K X.mg W m f)
def VW (m : Bool) (e : Expr) (f : M Bool) : Prop := PW X e (ttOf X.K X.mg W m f)
def VA (m : Bool) (es : List Expr) (f : M (List D)) : Prop := PA X es (taOf X.K X.mg W m f)
def VSt (asg : List Nat) (st : Stmt) (g : MS) : Prop := PS X st (tsOf X.K X.mg W asg g)
def VSs (asg : List Nat) (st : List Stmt) (g : MS) : Prop := PSs X st (tsOf X.K X.mg W asg g)
def VG (asg : List Nat) (tg : Expr) (g : D → Env → Option Env) : Prop := PG X tg (tgOf X.K asg g)
def VI (tg iter : Expr) (f : M (List D)) : Prop := PI X tg iter (tiOf X.K X.mg W f)
end
section
variable {X : Cx} {W : WX} {K : PySem.W.Frag} {mg : Str → Option Value} {H H1 : Hp} {T : List (D × V)} {ρ ρ' : Env} {σ σ' σ'' : St} {m : Bool}
theorem PE.imp {e : Expr} {t t' : TE} (h : PE X e t) (i : ∀ σ H Q, t' σ H Q → t σ H Q) : PE X e t' := ⟨fun pins s σ H Q I q => h.run pins s σ H Q I (i σ H Q q)⟩
theorem PT.imp {e : Expr} {t t' : TT} (h : PT X e t) (i : ∀ σ H Q, t' σ H Q → t σ H Q) : PT X e t' := ⟨fun pins s σ H Q I q => h.run pins s σ H Q I (i σ H Q q)⟩
theorem PW.imp {e : Expr} {t t' : TT} (h : PW X e t) (i : ∀ σ H Q, t' σ H Q → t σ H Q) : PW X e t' := ⟨fun wh pins s σ H Q I q => h.run wh pins s σ H Q I (i σ H Q q)⟩
theorem PA.imp {e : List Expr} {t t' : TA} (h : PA X e t) (i : ∀ σ H Q, t' σ H Q → t σ H Q) : PA X e t' := ⟨fun pos pins s σ H Q I q => h.run pos pins s σ H Q I (i σ H Q q)⟩
theorem PS.imp {e : Stmt} {t t' : TS} (h : PS X e t) (i : ∀ σ H Q, t' Q σ H → t Q σ H) : PS X e t' := ⟨fun pins s σ H Q I q => h.run pins s σ H Q I (i σ H Q q)⟩
theorem PSs.imp {e : List Stmt} {t t' : TS} (h : PSs X e t) (i : ∀ σ H Q, t' Q σ H → t Q σ H) : PSs X e t' := ⟨fun pins s σ H Q I q => h.run pins s σ H Q I (i σ H Q q)⟩
theorem PG.imp {e : Expr} {t t' : TG} (h : PG X e t) (i : ∀ v σ H Q, t' v σ H Q → t v σ H Q) : PG X e t' := ⟨fun pins s σ H v u Q I r q => h.run pins s σ H v u Q I r (i v σ H Q q)⟩
theorem PI.imp {tg e : Expr} {t t' : TI} (h : PI X tg e t) (i : ∀ σ H Q, t' σ H Q → t σ H Q) : PI X tg e t' := ⟨fun pins s σ H R I q => h.run pins s σ H R I (i σ H R q)⟩
theorem PE.orr {e : Expr} {t t' : TE} (h : PE X e t) (h' : PE X e t') : PE X e (fun σ H Q => t σ H Q ∨ t' σ H Q) := ⟨fun pins s σ H Q I q => q.elim (h.run pins s σ H Q I) (h'.run pins s σ H Q I)⟩
theorem PI.orr {tg e : Expr} {t t' : TI} (h : PI X tg e t) (h' : PI X tg e t') : PI X tg e (fun σ H Q => t σ H Q ∨ t' σ H Q) := ⟨fun pins s σ H Q I q => q.elim (h.run pins s σ H Q I) (h'.run pins s σ H Q I)⟩
theorem PG.orr {e : Expr} {t t' : TG} (h : PG X e t) (h' : PG X e t') : PG X e (fun v σ H Q => t v σ H Q ∨ t' v σ H Q) := ⟨fun pins s σ H v u Q I r q => q.elim (h.run pins s σ H v u Q I r) (h'.run pins s σ H v u Q I r)⟩
theorem exE.push {p : D × V} {x : Xc} (h : exE K mg W T σ x ρ) : exE K mg W (p :: T) σ x ρ := fun cls dd H' xr r => h cls dd H' xr r.drop
theorem run1 {β : Type} {f : M D} {k : D → M β} {okP : β → Env → Prop} {r : Rv β} {Q : VK} (rep : Rep K H T ρ σ) (hf : bindM f k ρ = some r) (he : endR K mg W T σ okP r)
    (cont : ∀ d ρ1 v H1, k d ρ1 = some r → (m = false → Same H H1) → Rep K H1 ((d, v) :: T) ρ1 σ → Q v H1) : tOf K mg W m f σ H Q := by
  unfold bindM at hf
  cases q : f ρ with
  | none => rw [q] at hf; cases hf
  | some u =>
    rw [q] at hf
    refine ⟨T, ρ, u, rep, q, ?_⟩
    cases u with
    | ok a ρ1 => exact fun v H1 s1 r1 => cont a ρ1 v H1 hf s1 r1
    | ex x ρ1 =>
      have : r = .ex x ρ1 := (Option.some.inj hf).symm
      subst this
      exact he
theorem runT {β : Type} {f : M Bool} {k : Bool → M β} {okP : β → Env → Prop} {r : Rv β} {Q : Bool → Hp → Prop} (rep : Rep K H T ρ σ) (hf : bindM f k ρ = some r) (he : endR K mg W T σ okP r)
    (cont : ∀ d ρ1 H1, k d ρ1 = some r → (m = false → Same H H1) → Rep K H1 T ρ1 σ → Q d H1) : ttOf K mg W m f σ H Q := by
  unfold bindM at hf
  cases q : f ρ with
  | none => rw [q] at hf; cases hf
  | some u =>
    rw [q] at hf
    refine ⟨T, ρ, u, rep, q, ?_⟩
    cases u with
    | ok a ρ1 => exact fun H1 s1 r1 => cont a ρ1 H1 hf s1 r1
    | ex x ρ1 =>
      have : r = .ex x ρ1 := (Option.some.inj hf).symm
      subst this
      exact he
theorem runA {β : Type} {f : M (List D)} {k : List D → M β} {okP : β → Env → Prop} {r : Rv β} {Q : List V → Hp → Prop} (rep : Rep K H T ρ σ) (hf : bindM f k ρ = some r) (he : endR K mg W T σ okP r)
    (cont : ∀ d ρ1 v H1, k d ρ1 = some r → (m = false → Same H H1) → d.length = v.length → Rep K H1 (d.zip v ++ T) ρ1 σ → Q v H1) : taOf K mg W m f σ H Q := by
  unfold bindM at hf
  cases q : f ρ with
  | none => rw [q] at hf; cases hf
  | some u =>
    rw [q] at hf
    refine ⟨T, ρ, u, rep, q, ?_⟩
    cases u with
    | ok a ρ1 => exact fun v H1 s1 e1 r1 => cont a ρ1 v H1 hf s1 e1 r1
    | ex x ρ1 =>
      have : r = .ex x ρ1 := (Option.some.inj hf).symm
      subst this
      exact he
theorem endR.push {α : Type} {p : D × V} {okP okP' : α → Env → Prop} {r : Rv α} (h : endR K mg W T σ okP r) (hk : ∀ a ρ', okP a ρ' → okP' a ρ') : endR K mg W (p :: T) σ okP' r := by
  cases r with
  | ok a ρ1 => exact hk a ρ1 h
  | ex x ρ1 => exact exE.push h
theorem sm_or {a b : Bool} {H H1 H2 : Hp} (h1 : a = false → Same H H1) (h2 : b = false → Same H1 H2) : (a || b) = false → Same H H2 := fun e => by
  rw [Bool.or_eq_false_iff] at e
  exact (h1 e.1).trans (h2 e.2)
theorem sm_r {a : Bool} {H H1 H2 : Hp} (h1 : a = false → Same H H1) (h2 : Same H1 H2) : a = false → Same H H2 := fun e => (h1 e).trans h2
def dV (i : Nat) : M D := fun ρ => match ρ[i]? with
  | some d => if fz d = true then some (.ok d ρ) else none
  | none => none
def dF (i : Nat) : M D := fun ρ => match ρ[i]? with
  | some d => if fz (freeze d) = true then some (.ok (freeze d) (ρ.set i (freeze d))) else none
  | none => none
def dM (i : Nat) : M D := fun ρ => match ρ[i]? with
  | some .unk => none
  | some d => some (.ok d (ρ.set i .unk))
  | none => none
def dC (d : D) : M D := fun ρ => some (.ok d ρ)
theorem fz_unk {d : D} (h : fz d = true) : d ≠ .unk := fun e => by subst e; simp [fz] at h
theorem fz_frz_unk {d : D} (h : fz (freeze d) = true) : d ≠ .unk := fun e => by subst e; simp [fz, freeze] at h
theorem ve_var {e : Expr} {i : Nat} (h : PE X e (tVar i)) : VE X W false e (dV i) := by
  refine PE.imp h fun σ H Q ⟨T, ρ, r, rep, hf, he⟩ => ?_
  unfold dV at hf
  cases q : ρ[i]? with
  | none => rw [q] at hf; cases hf
  | some d =>
    rw [q] at hf
    by_cases z : fz d = true
    · simp only [z, if_true] at hf
      have : r = .ok d ρ := (Option.some.inj hf).symm
      subst this
      obtain ⟨v, hv⟩ := rep.slot q (fz_unk z)
      exact ⟨v, hv, he v H (fun _ => Same.refl _) (rep.read q z hv)⟩
    · simp only [if_neg z] at hf
      cases hf
theorem ve_frz {e : Expr} {i : Nat} (h : PE X e (tVar i)) : VE X W false e (dF i) := by
  refine PE.imp h fun σ H Q ⟨T, ρ, r, rep, hf, he⟩ => ?_
  unfold dF at hf
  cases q : ρ[i]? with
  | none => rw [q] at hf; cases hf
  | some d =>
    rw [q] at hf
    by_cases z : fz (freeze d) = true
    · simp only [z, if_true] at hf
      have : r = .ok (freeze d) (ρ.set i (freeze d)) := (Option.some.inj hf).symm
      subst this
      obtain ⟨v, hv⟩ := rep.slot q (fz_frz_unk z)
      have r2 := rep.frz q (fz_frz_unk z)
      have hi : i < ρ.length := (List.getElem?_eq_some_iff.mp q).1
      exact ⟨v, hv, he v H (fun _ => Same.refl _) (r2.read (List.getElem?_set_self hi) z hv)⟩
    · simp only [if_neg z] at hf
      cases hf
theorem ve_mov {e : Expr} {i : Nat} (h : PE X e (tVar i)) : VE X W false e (dM i) := by
  refine PE.imp h fun σ H Q ⟨T, ρ, r, rep, hf, he⟩ => ?_
  unfold dM at hf
  cases q : ρ[i]? with
  | none => rw [q] at hf; cases hf
  | some d =>
    have n : d ≠ .unk := fun e => by rw [q, e] at hf; cases hf
    have hf' : some (Rv.ok d (ρ.set i .unk)) = some r := by
      rw [q] at hf
      cases d <;> first | exact hf | exact absurd rfl n
    have : r = .ok d (ρ.set i .unk) := (Option.some.inj hf').symm
    subst this
    obtain ⟨v, hv⟩ := rep.slot q n
    exact ⟨v, hv, he v H (fun _ => Same.refl _) (rep.take q hv)⟩
theorem ve_con {e : Expr} {d : D} {v : V} (h : PE X e (tC v)) (hr : ∀ H L, RepT X.K H L → RepT X.K H ((d, v) :: L)) : VE X W false e (dC d) := by
  refine PE.imp h fun σ H Q ⟨T, ρ, r, rep, hf, he⟩ => ?_
  have : r = .ok d ρ := (Option.some.inj hf).symm
  subst this
  exact he v H (fun _ => Same.refl _) (rep.lift fun q => hr H _ q)
theorem ve_int {i : Int} {j : Nat} {pos : Pos} : VE X W false (.Constant (.int i) j pos) (dC (.int i)) := ve_con pe_int fun _ _ h => h.int
theorem ve_bl {i : Bool} {j : Nat} {pos : Pos} : VE X W false (.Constant (.bool i) j pos) (dC (.bl i)) := ve_con pe_bl fun _ _ h => h.bl
theorem ve_non {j : Nat} {pos : Pos} : VE X W false (.Constant .none j pos) (dC .non) := ve_con pe_non fun _ _ h => h.non
theorem ve_str {i : Str} {j : Nat} {pos : Pos} : VE X W false (.Constant (.str i) j pos) (dC (.str i)) := ve_con pe_str fun _ _ h => h.str
def d1 (g : D → Option D) (fa : M D) : M D := bindM fa fun x => optM (g x)
def d2 (g : D → D → Option D) (fa fb : M D) : M D := bindM fa fun x => bindM fb fun y => optM (g x y)
def Imp1 (K : PySem.W.Frag) (r : V → Hp → VK → Prop) (g : D → Option D) : Prop := ∀ H L x d v Q, g x = some d → RepT K H ((x, v) :: L) → (∀ u H', Same H H' → RepT K H' ((d, u) :: L) → Q u H') → r v H Q
def Imp2 (K : PySem.W.Frag) (r : R2) (g : D → D → Option D) : Prop := ∀ H L x y d v w Q, g x y = some d → RepT K H ((y, w) :: (x, v) :: L) → (∀ u H', Same H H' → RepT K H' ((d, u) :: L) → Q u H') → r v w H Q
def ImpA (K : PySem.W.Frag) (r : List V → Hp → VK → Prop) (g : List D → Option D) : Prop := ∀ H L ds vs d Q, g ds = some d → ds.length = vs.length → RepT K H (ds.zip vs ++ L) → (∀ u H', Same H H' → RepT K H' ((d, u) :: L) → Q u H') → r vs H Q
theorem tOp_of {r : R2} {g : D → D → Option D} {fa fb : M D} {ma mb : Bool} (hg : Imp2 K r g) {Q : VK} (h : tOf K mg W (ma || mb) (d2 g fa fb) σ H Q) : tOp r (tOf K mg W ma fa) (tOf K mg W mb fb) σ H Q := by
  obtain ⟨T, ρ, u, rep, hf, he⟩ := h
  refine run1 rep hf he fun x ρ1 v H1 h1 s1 r1 => ?_
  refine run1 r1 h1 (he.push (okP' := okE K (ma || mb) T σ H Q) fun _ _ q => q) fun y ρ2 w H2 h2 s2 r2 => ?_
  obtain ⟨d, e, rfl⟩ := optM_some h2
  exact hg H2 (T ++ SL ρ2 σ) x y d v w Q e r2.rep fun z H3 s3 r3 => he z H3 (sm_r (sm_or s1 s2) s3) ⟨r2.len, r2.nos, r3⟩
theorem ve_op {a b : Expr} {op : Operator} {r : R2} {g : D → D → Option D} {fa fb : M D} {ma mb : Bool} {pos : Pos} (ho : OpR X (binaryOp op) r) (hg : Imp2 X.K r g) (ha : VE X W ma a fa) (hb : VE X W mb b fb) : VE X W (ma || mb) (.BinOp a op b pos) (d2 g fa fb) :=
  PE.imp (pe_op ho ha hb) fun _ _ _ h => tOp_of hg h
theorem ve_cmp {a b : Expr} {op : CmpOp} {r : R2} {g : D → D → Option D} {fa fb : M D} {ma mb : Bool} {pos : Pos} (ho : OpR X (compareOp op) r) (hg : Imp2 X.K r g) (ha : VE X W ma a fa) (hb : VE X W mb b fb) (hm : behindInMarks op b = false) : VE X W (ma || mb) (.Compare a [op] [b] pos) (d2 g fa fb) :=
  PE.imp (pe_cmpR ho ha hb hm) fun _ _ _ h => tOp_of hg h
theorem ve_un {a : Expr} {op : UnaryOp} {r : V → Hp → VK → Prop} {g : D → Option D} {fa : M D} {ma : Bool} {pos : Pos} (ho : UnR X (unaryOp op) r) (hg : Imp1 X.K r g) (ha : VE X W ma a fa) : VE X W ma (.UnaryOp op a pos) (d1 g fa) := by
  refine PE.imp (pe_un ho ha) fun σ H Q ⟨T, ρ, u, rep, hf, he⟩ => ?_
  refine run1 rep hf he fun x ρ1 v H1 h1 s1 r1 => ?_
  obtain ⟨d, e, rfl⟩ := optM_some h1
  exact hg H1 (T ++ SL ρ1 σ) x d v Q e r1.rep fun z H3 s3 r3 => he z H3 (sm_r s1 s3) ⟨r1.len, r1.nos, r3⟩
def dTB (f : M D) : M Bool := bindM f fun d => optM (match d with | .bl b => some b | _ => none)
theorem vt_val {e : Expr} {f : M D} (h : VE X W m e f) (he : ∀ whole, isTrue e X.env whole = (do let v ← whole; standAt e.pos; holding [v] (truthy v)) := by intro _; rfl) : VT X W m e (dTB f) := by
  refine PT.imp (pt_val h he) fun σ H Q ⟨T, ρ, u, rep, hf, he⟩ => ?_
  refine run1 rep hf he fun x ρ1 v H1 h1 s1 r1 => ?_
  obtain ⟨b, e, rfl⟩ := optM_some h1
  cases x with
  | bl c =>
    have e : c = b := Option.some.inj e
    subst e
    exact ⟨c, RepT.eq_bl r1.rep, he H1 s1 r1.drop⟩
  | _ => cases e
theorem vt_cmp {a b : Expr} {op : CmpOp} {r : R2} {g : D → D → Option D} {fa fb : M D} {ma mb : Bool} {pos : Pos} (ho : OpR X (compareOp op) r) (hg : Imp2 X.K r g) (ha : VE X W ma a fa) (hb : VE X W mb b fb) (hm : behindInMarks op b = false) : VT X W (ma || mb) (.Compare a [op] [b] pos) (dTB (d2 g fa fb)) := by
  refine PT.imp (pt_cmpR ho ha hb hm) fun σ H Q ⟨T, ρ, u, rep, hf, he⟩ => ?_
  refine tOp_of hg ?_
  refine run1 rep hf he fun x ρ1 v H1 h1 s1 r1 => ?_
  obtain ⟨b, e, rfl⟩ := optM_some h1
  cases x with
  | bl c =>
    have e : c = b := Option.some.inj e
    subst e
    exact ⟨c, RepT.eq_bl r1.rep, he H1 s1 r1.drop⟩
  | _ => cases e
def dChain (g g' : D → D → Option D) (fa fb fc : M D) : M D := bindM fa fun x => bindM fb fun y => bindM (optM (match g x y with | some (.bl k) => some k | _ => none)) fun k => if k = true then bindM fc fun z => optM (g' y z) else retM (.bl false)
theorem bindM_opt {α β : Type} {o : Option α} {k : α → M β} {r : Rv β} (h : bindM (optM o) k ρ = some r) : ∃ a, o = some a ∧ k a ρ = some r := by
  cases o with
  | none => cases h
  | some a => exact ⟨a, rfl, h⟩
def scD : D → Option V
  | .non => some .non
  | .bl b => some (.bl b)
  | .int i => some (.int i)
  | .str x => some (.str x)
  | .adr a => some (.ref a)
  | _ => none
theorem scD_eq {d : D} {v w : V} {L : List (D × V)} (h : scD d = some v) (r : RepT K H ((d, w) :: L)) : w = v := by
  cases d <;> simp only [scD, Option.some.injEq, reduceCtorEq] at h <;> subst h
  · exact r.eq_non
  · exact r.eq_bl
  · exact r.eq_int
  · exact r.eq_str
  · exact r.eq_adr
theorem scD_rep {d : D} {v : V} {L : List (D × V)} (h : scD d = some v) (r : RepT K H L) : RepT K H ((d, v) :: L) := by
  cases d <;> simp only [scD, Option.some.injEq, reduceCtorEq] at h <;> subst h
  · exact r.non
  · exact r.bl
  · exact r.int
  · exact r.str
  · exact r.adr
def rCmp (p : Int → Int → Bool) : R2 := rI0 fun i j => .bl (p i j)
def gCmp (p : Int → Int → Bool) (x y : D) : Option D := match x, y with
  | .int i, .int j => some (.bl (p i j))
  | _, _ => none
theorem impCmp (p : Int → Int → Bool) : Imp2 K (rCmp p) (gCmp p) := by
  intro H L x y d v w Q e r h
  cases x <;> cases y <;> simp only [gCmp, Option.some.injEq, reduceCtorEq] at e
  subst e
  have e2 := r.eq_int
  have e1 := r.drop.eq_int
  subst e1; subst e2
  exact ⟨_, _, rfl, rfl, h _ H (Same.refl _) r.drop.drop.bl⟩
theorem tChain_of {p p' : Int → Int → Bool} {fa fb fc : M D} {ma mb mc : Bool} {Q : VK} (h : tOf K mg W (ma || mb || mc) (dChain (gCmp p) (gCmp p') fa fb fc) σ H Q) :
    tChain (rCmp p) (rCmp p') (tOf K mg W ma fa) (tOf K mg W mb fb) (tOf K mg W mc fc) σ H Q := by
  obtain ⟨T, ρ, u, rep, hf, he⟩ := h
  refine run1 rep hf he fun x ρ1 v H1 h1 s1 r1 => ?_
  refine run1 r1 h1 (he.push (okP' := okE K (ma || mb || mc) T σ H Q) fun _ _ q => q) fun y ρ2 w H2 h2 s2 r2 => ?_
  obtain ⟨k, e, h3⟩ := bindM_opt h2
  cases x <;> cases y <;> simp only [gCmp, reduceCtorEq] at e
  rename_i i j
  have e : p i j = k := Option.some.inj e
  have e2 := r2.rep.eq_int
  have e1 := r2.drop.rep.eq_int
  subst e1; subst e2
  refine ⟨i, j, rfl, rfl, p i j, rfl, ?_⟩
  rw [e]
  cases k with
  | true =>
    rw [if_pos rfl] at h3 ⊢
    refine run1 r2 h3 ((he.push (p := (.int i, .int i)) (okP' := okE K (ma || mb || mc) T σ H Q) fun _ _ q => q).push (p := (.int j, .int j)) fun _ _ q => q) fun z ρ3 w3 H3 h4 s3 r3 => ?_
    obtain ⟨d, e4, rfl⟩ := optM_some h4
    cases z <;> simp only [gCmp, Option.some.injEq, reduceCtorEq] at e4
    subst e4
    have e5 := r3.rep.eq_int
    subst e5
    exact ⟨_, _, rfl, rfl, he _ H3 (sm_or (sm_or s1 s2) s3) (r3.drop.drop.drop.lift fun q => q.bl)⟩
  | false =>
    have : u = .ok (.bl false) ρ2 := by
      rw [if_neg (by simp)] at h3
      exact (Option.some.inj h3).symm
    subst this
    rw [if_neg (by simp)]
    exact he _ H2 (fun e => by
      rw [Bool.or_eq_false_iff] at e
      exact sm_or s1 s2 e.1) (r2.drop.drop.lift fun q => q.bl)
theorem ve_chain {a b c : Expr} {op op' : CmpOp} {p p' : Int → Int → Bool} {fa fb fc : M D} {ma mb mc : Bool} {pos : Pos} (ho : OpR X (compareOp op) (rCmp p)) (ho' : OpR X (compareOp op') (rCmp p')) (ha : VE X W ma a fa) (hb : VE X W mb b fb) (hc : VE X W mc c fc)
    (hm : lastMarks [op, op'] [b, c] = false := by with_unfolding_all rfl) : VE X W (ma || mb || mc) (.Compare a [op, op'] [b, c] pos) (dChain (gCmp p) (gCmp p') fa fb fc) := PE.imp (pe_chain ho ho' ha hb hc hm) fun _ _ _ h => tChain_of h
def dAndT (f g : M Bool) : M Bool := bindM f fun b => if b = true then g else retM false
def dOrT (f g : M Bool) : M Bool := bindM f fun b => if b = true then retM true else g
def dNotT (f : M Bool) : M Bool := bindM f fun b => retM (!b)
theorem vw_one {a : Expr} {f : M Bool} {pos : Pos} (h : VT X W m a f) : VW X W m (.BoolOp .And [a] pos) f := pw_and1 h
theorem vw_or1 {a : Expr} {f : M Bool} {pos : Pos} (h : VT X W m a f) : VW X W m (.BoolOp .Or [a] pos) f := pw_or1 h
theorem vw_and {a b : Expr} {rest : List Expr} {f g : M Bool} {ma mb : Bool} {pos : Pos} (ha : VT X W ma a f) (hb : VW X W mb (.BoolOp .And (b :: rest) pos) g) : VW X W (ma || mb) (.BoolOp .And (a :: b :: rest) pos) (dAndT f g) := by
  refine PW.imp (pw_and ha hb) fun σ H Q ⟨T, ρ, u, rep, hf, he⟩ => ?_
  refine runT rep hf he fun c ρ1 H1 h1 s1 r1 => ?_
  cases c with
  | true =>
    rw [if_pos rfl] at h1 ⊢
    refine ⟨T, ρ1, u, r1, h1, ?_⟩
    cases u with
    | ok b ρ2 => exact fun H2 s2 r2 => he H2 (sm_or s1 s2) r2
    | ex x ρ2 => exact he
  | false =>
    rw [if_neg (by simp)] at h1 ⊢
    have : u = .ok false ρ1 := (Option.some.inj h1).symm
    subst this
    exact he H1 (fun e => s1 (Bool.or_eq_false_iff.mp e).1) r1
theorem vw_or {a b : Expr} {rest : List Expr} {f g : M Bool} {ma mb : Bool} {pos : Pos} (ha : VT X W ma a f) (hb : VW X W mb (.BoolOp .Or (b :: rest) pos) g) : VW X W (ma || mb) (.BoolOp .Or (a :: b :: rest) pos) (dOrT f g) := by
  refine PW.imp (pw_or ha hb) fun σ H Q ⟨T, ρ, u, rep, hf, he⟩ => ?_
  refine runT rep hf he fun c ρ1 H1 h1 s1 r1 => ?_
  cases c with
  | true =>
    rw [if_pos rfl] at h1 ⊢
    have : u = .ok true ρ1 := (Option.some.inj h1).symm
    subst this
    exact he H1 (fun e => s1 (Bool.or_eq_false_iff.mp e).1) r1
  | false =>
    rw [if_neg (by simp)] at h1 ⊢
    refine ⟨T, ρ1, u, r1, h1, ?_⟩
    cases u with
    | ok b ρ2 => exact fun H2 s2 r2 => he H2 (sm_or s1 s2) r2
    | ex x ρ2 => exact he
theorem vt_bool {e : Expr} {f : M Bool} (h : VW X W m e f) : VT X W m e f := PW.pt h
theorem vt_not {a : Expr} {f : M Bool} {pos : Pos} (h : VT X W m a f) : VT X W m (.UnaryOp .Not a pos) (dNotT f) := by
  refine PT.imp (pt_not h) fun σ H Q ⟨T, ρ, u, rep, hf, he⟩ => ?_
  refine runT rep hf he fun c ρ1 H1 h1 s1 r1 => ?_
  have : u = .ok (!c) ρ1 := (Option.some.inj h1).symm
  subst this
  exact he H1 s1 r1
def dAnd (f g : M D) : M D := bindM f fun d => bindM (optM (match d with | .bl b => some b | _ => none)) fun b => if b = true then g else retM (.bl false)
def dNot (f : M D) : M D := d1 (fun d => match d with | .bl b => some (.bl (!b)) | _ => none) f
theorem ve_one {a : Expr} {f : M D} {op : BoolOp} {pos : Pos} (h : VE X W m a f) : VE X W m (.BoolOp op [a] pos) f := pe_one h
theorem ve_and {a b : Expr} {rest : List Expr} {f g : M D} {ma mb : Bool} {pos : Pos} (ha : VE X W ma a f) (hb : VE X W mb (.BoolOp .And (b :: rest) pos) g) : VE X W (ma || mb) (.BoolOp .And (a :: b :: rest) pos) (dAnd f g) := by
  refine PE.imp (pe_and ha hb) fun σ H Q ⟨T, ρ, u, rep, hf, he⟩ => ?_
  refine run1 rep hf he fun x ρ1 v H1 h1 s1 r1 => ?_
  obtain ⟨b, e, h2⟩ := bindM_opt h1
  cases x with
  | bl c =>
    have e : c = b := Option.some.inj e
    subst e
    refine ⟨c, RepT.eq_bl r1.rep, ?_⟩
    cases c with
    | true =>
      rw [if_pos rfl] at h2 ⊢
      refine ⟨T, ρ1, u, r1.drop, h2, ?_⟩
      cases u with
      | ok b ρ2 => exact fun v H2 s2 r2 => he v H2 (sm_or s1 s2) r2
      | ex x ρ2 => exact he
    | false =>
      rw [if_neg (by simp)] at h2 ⊢
      have : u = .ok (.bl false) ρ1 := (Option.some.inj h2).symm
      subst this
      exact he _ H1 (fun e => s1 (Bool.or_eq_false_iff.mp e).1) (r1.drop.lift fun q => q.bl)
  | _ => cases e
theorem ve_not {a : Expr} {f : M D} {pos : Pos} (h : VE X W m a f) : VE X W m (.UnaryOp .Not a pos) (dNot f) := by
  refine PE.imp (pe_not h) fun σ H Q ⟨T, ρ, u, rep, hf, he⟩ => ?_
  refine run1 rep hf he fun x ρ1 v H1 h1 s1 r1 => ?_
  obtain ⟨d, e, rfl⟩ := optM_some h1
  cases x with
  | bl c =>
    have e : D.bl (!c) = d := Option.some.inj e
    subst e
    exact ⟨c, RepT.eq_bl r1.rep, he _ H1 s1 (r1.drop.lift fun q => q.bl)⟩
  | _ => cases e
def dNil : M (List D) := retM []
def dCons (f : M D) (g : M (List D)) : M (List D) := bindM f fun d => bindM g fun ds => retM (d :: ds)
theorem va_nil : VA X W false [] dNil := PA.imp pa_nil fun σ H Q ⟨T, ρ, u, rep, hf, he⟩ => by
  have : u = .ok [] ρ := (Option.some.inj hf).symm
  subst this
  exact he [] H (fun _ => Same.refl _) rfl rep
theorem va_cons {e : Expr} {es : List Expr} {f : M D} {g : M (List D)} {ma mb : Bool} (ha : VE X W ma e f) (hb : VA X W mb es g) (hs : starEach (e :: es) X.env = (false, eval e X.env) :: starEach es X.env := by rfl) : VA X W (ma || mb) (e :: es) (dCons f g) := by
  refine PA.imp (pa_cons ha hb hs) fun σ H Q ⟨T, ρ, u, rep, hf, he⟩ => ?_
  refine run1 rep hf he fun x ρ1 v H1 h1 s1 r1 => ?_
  refine runA r1 h1 (he.push (okP' := okA X.K (ma || mb) T σ H Q) fun _ _ q => q) fun ds ρ2 vs H2 h2 s2 l2 r2 => ?_
  have : u = .ok (x :: ds) ρ2 := (Option.some.inj h2).symm
  subst this
  exact he (v :: vs) H2 (sm_or s1 s2) (by simp [l2]) (r2.perm List.perm_middle)
def dTup (f : M (List D)) : M D := bindM f fun ds => optM (if ds.length ≤ sizeLine then some (.tup ds) else none)
def dLst (f : M (List D)) : M D := bindM f fun ds => optM (if ds.length ≤ sizeLine then some (.lst true ds) else none)
theorem ve_tup {es : List Expr} {f : M (List D)} {x1 : Nat} {pos : Pos} (h : VA X W m es f) : VE X W m (.Tuple es x1 pos) (dTup f) := by
  refine PE.imp (pe_tup h) fun σ H Q ⟨T, ρ, u, rep, hf, he⟩ => ?_
  refine runA rep hf he fun ds ρ1 vs H1 h1 s1 l1 r1 => ?_
  obtain ⟨d, e, rfl⟩ := optM_some h1
  by_cases z : ds.length ≤ sizeLine
  · rw [if_pos z] at e
    cases e
    refine ⟨by rw [← l1]; exact z, fun p hp => he _ _ (sm_r s1 fun b o q => ?_) (r1.lift fun q => ?_)⟩
    · rw [upd_ne (ne_of_none q hp)]; exact q
    · rw [List.append_assoc] at q
      exact RepT.newT l1 hp q
  · rw [if_neg z] at e; cases e
theorem ve_lst {es : List Expr} {f : M (List D)} {pos : Pos} (h : VA X W m es f) : VE X W m (.List es pos) (dLst f) := by
  refine PE.imp (pe_lst h) fun σ H Q ⟨T, ρ, u, rep, hf, he⟩ => ?_
  refine runA rep hf he fun ds ρ1 vs H1 h1 s1 l1 r1 => ?_
  obtain ⟨d, e, rfl⟩ := optM_some h1
  by_cases z : ds.length ≤ sizeLine
  · rw [if_pos z] at e
    cases e
    refine ⟨by rw [← l1]; exact z, fun p hp => he _ _ (sm_r s1 fun b o q => ?_) (r1.lift fun q => ?_)⟩
    · rw [upd_ne (ne_of_none q hp)]; exact q
    · rw [List.append_assoc] at q
      exact RepT.newL l1 hp q
  · rw [if_neg z] at e; cases e
def dCall (g : List D → Option D) (f : M (List D)) : M D := bindM f fun ds => optM (g ds)
theorem tCB_of {r : List V → Hp → VK → Prop} {g : List D → Option D} {f : M (List D)} (hg : ImpA K r g) {Q : VK} (h : tOf K mg W m (dCall g f) σ H Q) : tCB r (taOf K mg W m f) σ H Q := by
  obtain ⟨T, ρ, u, rep, hf, he⟩ := h
  refine runA rep hf he fun ds ρ1 vs H1 h1 s1 l1 r1 => ?_
  obtain ⟨d, e, rfl⟩ := optM_some h1
  refine hg H1 (T ++ SL ρ1 σ) ds vs d Q e l1 (by rw [← List.append_assoc]; exact r1.rep) fun z H3 s3 r3 => he z H3 (sm_r s1 s3) ⟨r1.len, r1.nos, r3⟩
theorem ve_callB {id : String} {r : List V → Hp → VK → Prop} {g : List D → Option D} {f : M (List D)} {x : Str} {e : Expr} {es : List Expr} {p pos : Pos} (hc : CallR X (.builtin id) r) (hi : ImpA X.K r g) (hg : Gl X x) (hm : X.mg x = none) (hv : bootBuiltins x = some (.builtin id))
    (ha : VA X W m (e :: es) f) (hn : x ≠ "__name__" := by decide) (hdb : (x == ("__debug__" : Str)) = false := by decide)
    (he : starEach (e :: es) X.env = (false, eval e X.env) :: starEach es X.env := by rfl) (hpl : (backTo pos (starEach es X.env)).any (·.1) = false := by rfl) : VE X W m (.Call (.Name x p) (e :: es) [] pos) (dCall g f) :=
  PE.imp (pe_callB hc hg hm hv ha hn hdb he hpl) fun _ _ _ h => tCB_of hi h
theorem ve_callTy {id : String} {r : List V → Hp → VK → Prop} {g : List D → Option D} {f : M (List D)} {x : Str} {e : Expr} {es : List Expr} {p pos : Pos} (hc : CallR X (.type id) r) (hi : ImpA X.K r g) (hg : Gl X x) (hm : X.mg x = none) (hv : bootBuiltins x = some (.type id))
    (ha : VA X W m (e :: es) f) (hn : x ≠ "__name__" := by decide) (hdb : (x == ("__debug__" : Str)) = false := by decide)
    (he : starEach (e :: es) X.env = (false, eval e X.env) :: starEach es X.env := by rfl) (hpl : (backTo pos (starEach es X.env)).any (·.1) = false := by rfl) : VE X W m (.Call (.Name x p) (e :: es) [] pos) (dCall g f) :=
  PE.imp (pe_callTy hc hg hm hv ha hn hdb he hpl) fun _ _ _ h => tCB_of hi h
end
end VS
set_option Elab.async false
set_option linter.all false
set_option maxRecDepth 100000
set_option maxHeartbeats 4000000
set_option autoImplicit false
noncomputable section
namespace VS
open PySem PySem.Spec PyProof.Rows L2
def bindS {α : Type} (f : M α) (k : α → MS) : MS := fun ρ => match f ρ with
  | none => none
  | some (.ex x ρ') => some (.ex x, ρ')
  | some (.ok a ρ') => k a ρ'
def dSeq (g1 g2 : MS) : MS := fun ρ => match g1 ρ with
  | some (.nx, ρ') => g2 ρ'
  | r => r
def dSkip : MS := fun ρ => some (.nx, ρ)
def dSet (i : Nat) (f : M D) : MS := bindS f fun d ρ => some (.nx, ρ.set i d)
def dAsg (f : M D) (g : D → Env → Option Env) : MS := bindS f fun d ρ => match g d ρ with
  | none => none
  | some ρ' => some (.nx, ρ')
def dDrop (f : M D) : MS := bindS f fun _ ρ => some (.nx, ρ)
def dRet (f : M D) : MS := bindS f fun d ρ => some (.rt d, ρ)
def dIfS (t : M Bool) (a b : MS) : MS := bindS t fun c => if c = true then a else b
section
variable {X : Cx} {W : WX} {K : PySem.W.Frag} {mg : Str → Option Value} {H H1 : Hp} {T : List (D × V)} {ρ ρ' : Env} {σ σ' σ'' : St} {m : Bool} {asg a1 a2 : List Nat} {fl : Fl}
theorem Kept.refl : Kept asg σ σ := ⟨rfl, fun _ _ => rfl⟩
theorem Kept.trans (h : Kept a1 σ σ') (h' : Kept a2 σ' σ'') : Kept (a1 ++ a2) σ σ'' := ⟨h'.1.trans h.1, fun i hi => (h'.2 i fun z => hi (List.mem_append_right _ z)).trans (h.2 i fun z => hi (List.mem_append_left _ z))⟩
theorem Kept.trans1 (h : Kept asg σ σ') (h' : Kept asg σ' σ'') : Kept asg σ σ'' := ⟨h'.1.trans h.1, fun i hi => (h'.2 i hi).trans (h.2 i hi)⟩
theorem Kept.mono (h : Kept a1 σ σ') (s : ∀ i ∈ a1, i ∈ a2) : Kept a2 σ σ' := ⟨h.1, fun i hi => h.2 i fun z => hi (s i z)⟩
theorem Kept.set {i : Nat} {v : V} : Kept [i] σ (σ.set i (some v)) := ⟨List.length_set, fun j hj => by
  rw [List.getElem?_set_ne fun z => hj (by simp [z])]⟩
theorem endS.imp {E E' : Ends} {T' : List (D × V)} (h : endS K mg W a1 T σ E fl ρ) (hk : ∀ σ'', Kept a2 σ' σ'' → Kept a1 σ σ'')
    (hT : ∀ {H σ ρ}, Rep K H T' ρ σ → Rep K H T ρ σ) (hT1 : ∀ {H σ ρ p}, Rep K H (p :: T') ρ σ → Rep K H (p :: T) ρ σ)
    (hn : ∀ σ H, E.nx σ H → E'.nx σ H) (hr : ∀ v H, E.rt v H → E'.rt v H) (hb : ∀ σ H, E.bk σ H → E'.bk σ H) (hc : ∀ σ H, E.ct σ H → E'.ct σ H) : endS K mg W a2 T' σ' E' fl ρ := by
  cases fl with
  | nx => exact fun σ2 H2 k r => hn _ _ (h σ2 H2 (hk _ k) (hT r))
  | bk => exact fun σ2 H2 k r => hb _ _ (h σ2 H2 (hk _ k) (hT r))
  | ct => exact fun σ2 H2 k r => hc _ _ (h σ2 H2 (hk _ k) (hT r))
  | rt d => exact fun v σ2 H2 k r => hr _ _ (h v σ2 H2 (hk _ k) (hT1 r))
  | ex x => exact fun cls dd σ2 H2 k xr r => h cls dd σ2 H2 (hk _ k) xr (hT r)
theorem endS.shift {E : Ends} (h : endS K mg W a1 T σ E fl ρ) (hk : ∀ σ'', Kept a2 σ' σ'' → Kept a1 σ σ'') : endS K mg W a2 T σ' E fl ρ :=
  h.imp hk (fun r => r) (fun r => r) (fun _ _ q => q) (fun _ _ q => q) (fun _ _ q => q) (fun _ _ q => q)
theorem runS {f : M D} {k : D → MS} {Q : VK} {E : Ends} (rep : Rep K H T ρ σ) (hf : bindS f k ρ = some (fl, ρ')) (he : endS K mg W asg T σ E fl ρ')
    (cont : ∀ d ρ1 v H1, k d ρ1 = some (fl, ρ') → Rep K H1 ((d, v) :: T) ρ1 σ → Q v H1) : tOf K mg W m f σ H Q := by
  unfold bindS at hf
  cases q : f ρ with
  | none => rw [q] at hf; cases hf
  | some u =>
    rw [q] at hf
    refine ⟨T, ρ, u, rep, q, ?_⟩
    cases u with
    | ok a ρ1 => exact fun v H1 s1 r1 => cont a ρ1 v H1 hf r1
    | ex x ρ1 =>
      have : (Fl.ex x, ρ1) = (fl, ρ') := Option.some.inj hf
      cases this
      exact fun cls dd H' xr r => he cls dd σ H' Kept.refl xr r
theorem runST {f : M Bool} {k : Bool → MS} {Q : Bool → Hp → Prop} {E : Ends} (rep : Rep K H T ρ σ) (hf : bindS f k ρ = some (fl, ρ')) (he : endS K mg W asg T σ E fl ρ')
    (cont : ∀ d ρ1 H1, k d ρ1 = some (fl, ρ') → Rep K H1 T ρ1 σ → Q d H1) : ttOf K mg W m f σ H Q := by
  unfold bindS at hf
  cases q : f ρ with
  | none => rw [q] at hf; cases hf
  | some u =>
    rw [q] at hf
    refine ⟨T, ρ, u, rep, q, ?_⟩
    cases u with
    | ok a ρ1 => exact fun H1 s1 r1 => cont a ρ1 H1 hf r1
    | ex x ρ1 =>
      have : (Fl.ex x, ρ1) = (fl, ρ') := Option.some.inj hf
      cases this
      exact fun cls dd H' xr r => he cls dd σ H' Kept.refl xr r
theorem vss_nil : VSs X W [] [] dSkip := PSs.imp pss_nil fun σ H E ⟨T, ρ, fl, ρ', rep, hf, he⟩ => by
  have : (Fl.nx, ρ) = (fl, ρ') := Option.some.inj hf
  cases this
  exact he σ H Kept.refl rep
theorem vss_cons {st : Stmt} {rest : List Stmt} {g1 g2 : MS} (h1 : VSt X W a1 st g1) (h2 : VSs X W a2 rest g2) : VSs X W (a1 ++ a2) (st :: rest) (dSeq g1 g2) := by
  refine PSs.imp (pss_cons h1 h2) fun σ H E ⟨T, ρ, fl, ρ', rep, hf, he⟩ => ?_
  unfold dSeq at hf
  cases q : g1 ρ with
  | none => rw [q] at hf; cases hf
  | some u =>
    obtain ⟨f1, ρ1⟩ := u
    rw [q] at hf
    have old : f1 ≠ .nx → (f1, ρ1) = (fl, ρ') := fun n => by
      cases f1 <;> first | exact absurd rfl n | exact Option.some.inj hf
    by_cases n : f1 = .nx
    · subst n
      refine ⟨T, ρ, .nx, ρ1, rep, q, fun σ1 H1 k1 r1 => ⟨T, ρ1, fl, ρ', r1, hf, he.shift fun σ2 k2 => k1.trans k2⟩⟩
    · have e := old n
      injection e with e1 e2
      subst e1
      subst e2
      refine ⟨T, ρ, f1, ρ1, rep, q, ?_⟩
      cases f1 with
      | nx => exact absurd rfl n
      | bk => exact fun σ2 H2 k r => he σ2 H2 (k.mono fun i => List.mem_append_left _) r
      | ct => exact fun σ2 H2 k r => he σ2 H2 (k.mono fun i => List.mem_append_left _) r
      | rt d => exact fun v σ2 H2 k r => he v σ2 H2 (k.mono fun i => List.mem_append_left _) r
      | ex x => exact fun c d σ2 H2 k xr r => he c d σ2 H2 (k.mono fun i => List.mem_append_left _) xr r
theorem vss_one {st : Stmt} {g : MS} (h : VSt X W asg st g) : VSs X W asg [st] g := pss_one h
theorem vs_setP {st : Stmt} {i : Nat} {f : M D} (h : PS X st (tAsg (tOf X.K X.mg W m f) (gName i))) : VSt X W [i] st (dSet i f) := by
  refine PS.imp h fun σ H E ⟨T, ρ, fl, ρ', rep, hf, he⟩ => ?_
  refine runS rep hf he fun d ρ1 v H1 h1 r1 => ?_
  have : (Fl.nx, ρ1.set i d) = (fl, ρ') := Option.some.inj h1
  cases this
  exact he _ H1 Kept.set r1.set
theorem vs_set {i : Nat} {x : Str} {e : Expr} {f : M D} {pos pos' : Pos} (hN : X.N.Nodup) (hi : X.N[i]? = some x) (hx : Loc X.env.scope x) (he : VE X W m e f) (hs : swapsWith e (some (.Name x pos')) pos.line X.env = pure false := by rfl)
    (hf : X.fn x = true ∨ X.env.scope.names.lookup x = some .local := by first | exact .inl rfl | exact .inr rfl | assumption) : VSt X W [i] (.Assign [.Name x pos'] e pos) (dSet i f) := vs_setP (ps_set hN hi hx he hs hf)
theorem vs_asg {tg e : Expr} {f : M D} {g : D → Env → Option Env} {pos : Pos} (he : VE X W m e f) (hg : VG X asg tg g) (hs : swapsWithSole [tg] e pos.line X.env = pure false := by rfl) (hw : swappedStores [tg] e X.env = pure none := by rfl)
    (h1 : (assignEach [tg] X.env).map (·.2) = [assign tg X.env] := by rfl) : VSt X W asg (.Assign [tg] e pos) (dAsg f g) := by
  refine PS.imp (ps_asg he hg hs hw h1) fun σ H E ⟨T, ρ, fl, ρ', rep, hf, he⟩ => ?_
  refine runS rep hf he fun d ρ1 v H1 h1 r1 => ?_
  cases q : g d ρ1 with
  | none => rw [q] at h1; cases h1
  | some ρ2 =>
    rw [q] at h1
    have : (Fl.nx, ρ2) = (fl, ρ') := Option.some.inj h1
    injection this with e1 e2
    subst e1
    subst e2
    exact ⟨T, ρ1, d, ρ2, r1, q, he⟩
theorem vs_expr {e : Expr} {f : M D} {pos : Pos} (h : VE X W m e f) (hs : swapsWith e none pos.line X.env = pure false := by rfl) : VSt X W [] (.Expr e pos) (dDrop f) := by
  refine PS.imp (ps_expr h hs) fun σ H E ⟨T, ρ, fl, ρ', rep, hf, he⟩ => ?_
  refine runS rep hf he fun d ρ1 v H1 h1 r1 => ?_
  have : (Fl.nx, ρ1) = (fl, ρ') := Option.some.inj h1
  cases this
  exact he σ H1 Kept.refl r1.drop
theorem vs_ret {e : Expr} {f : M D} {pos : Pos} (h : VE X W m e f) : VSt X W [] (.Return (some e) pos) (dRet f) := by
  refine PS.imp (ps_ret h) fun σ H E ⟨T, ρ, fl, ρ', rep, hf, he⟩ => ?_
  refine runS rep hf he fun d ρ1 v H1 h1 r1 => ?_
  have : (Fl.rt d, ρ1) = (fl, ρ') := Option.some.inj h1
  cases this
  exact he v σ H1 Kept.refl r1
theorem vs_if {c : Expr} {a b : List Stmt} {t : M Bool} {g1 g2 : MS} {pos : Pos} (hc : VT X W m c t) (ha : VSs X W a1 a g1) (hb : VSs X W a2 b g2) : VSt X W (a1 ++ a2) (.If c a b pos) (dIfS t g1 g2) := by
  refine PS.imp (ps_if hc ha hb) fun σ H E ⟨T, ρ, fl, ρ', rep, hf, he⟩ => ?_
  refine runST rep hf he fun c ρ1 H1 h1 r1 => ?_
  cases c with
  | true =>
    rw [if_pos rfl] at h1 ⊢
    exact ⟨T, ρ1, fl, ρ', r1, h1, he.shift fun σ2 k => k.mono fun i => List.mem_append_left _⟩
  | false =>
    rw [if_neg (by simp)] at h1 ⊢
    exact ⟨T, ρ1, fl, ρ', r1, h1, he.shift fun σ2 k => k.mono fun i => List.mem_append_right _⟩
def gNm (i : Nat) : D → Env → Option Env := fun d ρ => some (ρ.set i d)
def gNms : List Nat → List D → Env → Option Env
  | [], [], ρ => some ρ
  | i :: is, d :: ds, ρ => gNms is ds (ρ.set i d)
  | _, _, _ => none
def gTp (is : List Nat) : D → Env → Option Env := fun d ρ => match d with
  | .tup ds => gNms is ds ρ
  | _ => none
theorem vg_name {i : Nat} {tg : Expr} (h : PG X tg (gName i)) : VG X [i] tg (gNm i) := by
  refine PG.imp h fun v σ H Q ⟨T, ρ, d, ρ', rep, hg, hq⟩ => ?_
  have : ρ.set i d = ρ' := Option.some.inj hg
  subst this
  exact hq _ H Kept.set rep.set
def VGs (X : Cx) (is : List Nat) (tgs : List Expr) : Prop := PGs X tgs (fun vs σ H Q => ∃ T ρ ds ρ', ds.length = vs.length ∧ Rep X.K H (ds.zip vs ++ T) ρ σ ∧ gNms is ds ρ = some ρ' ∧ ∀ σ', Kept is σ σ' → Rep X.K H T ρ' σ' → Q σ' H)
theorem PGs.imp {tgs : List Expr} {t t' : TGs} (h : PGs X tgs t) (i : ∀ vs σ H Q, t' vs σ H Q → t vs σ H Q) : PGs X tgs t' := ⟨fun pins s σ H vs us Q I r q => h.run pins s σ H vs us Q I r (i vs σ H Q q)⟩
theorem vgs_nil : VGs X [] [] := by
  refine PGs.imp pgs_nil fun vs σ H Q ⟨T, ρ, ds, ρ', l, rep, hg, hq⟩ => ?_
  cases ds with
  | nil =>
    cases vs with
    | nil =>
      have : ρ = ρ' := Option.some.inj hg
      subst this
      exact ⟨rfl, hq σ Kept.refl rep⟩
    | cons _ _ => cases l
  | cons _ _ => cases hg
theorem vgs_cons {i : Nat} {is : List Nat} {e : Expr} {es : List Expr} (h1 : PG X e (gName i)) (h2 : VGs X is es) (hs : (assignEach (e :: es) X.env).map (·.2) = assign e X.env :: (assignEach es X.env).map (·.2) := by rfl) : VGs X (i :: is) (e :: es) := by
  refine PGs.imp (pgs_cons h1 h2 hs) fun vs σ H Q ⟨T, ρ, ds, ρ', l, rep, hg, hq⟩ => ?_
  cases ds with
  | nil => cases hg
  | cons d ds =>
    cases vs with
    | nil => cases l
    | cons v vs =>
      have rep1 : Rep X.K H ((d, v) :: (ds.zip vs ++ T)) ρ σ := rep
      refine ⟨v, vs, rfl, T, ρ.set i d, ds, ρ', Nat.succ.inj l, rep1.set, hg, fun σ' k r => hq σ' ?_ r⟩
      exact (Kept.set (v := v) (i := i) (σ := σ)).trans k
theorem vg_tup {is : List Nat} {tgs : List Expr} {k n : Nat} {pos : Pos} (hc : X.calm = true) (h : VGs X is tgs) (hn : (assignEach tgs X.env).length = n := by rfl) (hst : (assignEach tgs X.env).findIdx? (·.1) = none := by rfl) (hl : is.length = n := by rfl) : VG X is (.Tuple tgs k pos) (gTp is) := by
  refine PG.imp (pg_tup hc h hn hst) fun v σ H Q ⟨T, ρ, d, ρ', rep, hg, hq⟩ => ?_
  cases d with
  | tup ds =>
    obtain ⟨a, vs, rfl, sq, l, r⟩ := RepT.openT rep.rep
    have len : ∀ (is : List Nat) (ds : List D) (ρ ρ' : Env), gNms is ds ρ = some ρ' → is.length = ds.length := by
      intro is
      induction is with
      | nil => intro ds ρ ρ' h; cases ds with | nil => rfl | cons _ _ => cases h
      | cons i is ih => intro ds ρ ρ' h; cases ds with | nil => cases h | cons d ds => simp [ih ds _ _ h]
    refine ⟨a, vs, rfl, .inl (.inl sq), ?_, T, ρ, ds, ρ', l, ⟨rep.len, rep.nos, by rw [List.append_assoc]; exact r⟩, hg, fun σ' k r => hq σ' H k r⟩
    rw [← l, ← len is ds _ _ hg, hl]
  | _ => cases hg
def forD (bt : D → Env → Option Env) (body : MS) : List D → MS
  | [], ρ => some (.nx, ρ)
  | d :: ds, ρ => match bt d ρ with
    | none => none
    | some ρ1 => match body ρ1 with
      | none => none
      | some (.nx, ρ2) => forD bt body ds ρ2
      | some (.ct, ρ2) => forD bt body ds ρ2
      | some (.bk, ρ2) => some (.nx, ρ2)
      | some (.rt d, ρ2) => some (.rt d, ρ2)
      | some (.ex x, ρ2) => some (.ex x, ρ2)
def dFor (src : M (List D)) (bt : D → Env → Option Env) (body : MS) : MS := bindS src fun ds => forD bt body ds
theorem vs_for {tg iter : Expr} {body : List Stmt} {src : M (List D)} {bt : D → Env → Option Env} {g : MS} {pos : Pos} (hp : PassesOwn (model X.prog X.w) X.A X.env X.xe) (hc : X.calm = true) (hi : VI X W tg iter src) (hg : VG X a1 tg bt) (hb : VSs X W a2 body g)
    (hs : ∀ x, foldedSetIterable iter X.env x = pure x := by intro _; rfl) : VSt X W (a1 ++ a2) (.For tg iter body [] pos) (dFor src bt g) := by
  refine PS.imp (ps_for hp hc hi hg hb hs) fun σ H E ⟨T, ρ, fl, ρ', rep, hf, he⟩ => ?_
  unfold dFor bindS at hf
  cases q : src ρ with
  | none => rw [q] at hf; cases hf
  | some u =>
    rw [q] at hf
    refine ⟨T, ρ, u, rep, q, ?_⟩
    cases u with
    | ex x ρ1 =>
      have : (Fl.ex x, ρ1) = (fl, ρ') := Option.some.inj hf
      cases this
      exact fun cls dd H' xr r => he cls dd σ H' Kept.refl xr r
    | ok ds ρ0 =>
      intro J c H0 it rep0
      have hf : forD bt g ds ρ0 = some (fl, ρ') := hf
      refine ⟨fun i n σi Hi => n = ds.length - i ∧ i ≤ ds.length ∧ Kept (a1 ++ a2) σ σi ∧ ∃ ρi, Rep X.K Hi (c ++ T) ρi σi ∧ forD bt g (ds.drop i) ρi = some (fl, ρ'), ⟨ds.length, by simp, Nat.zero_le _, Kept.refl, ρ0, rep0, hf⟩, ?_⟩
      rintro i n σi Hi ⟨rfl, hi, ki, ρi, ri, fi⟩
      have ri' : RepT X.K Hi (c ++ (T ++ SL ρi σi)) := by rw [← List.append_assoc]; exact ri.rep
      by_cases hlt : i < ds.length
      · rw [List.drop_eq_getElem_cons hlt] at fi
        unfold forD at fi
        cases qb : bt ds[i] ρi with
        | none => rw [qb] at fi; cases fi
        | some ρ1 =>
          simp only [qb] at fi
          refine .inr ⟨it.go i Hi _ hlt ri', fun σ' H' => Kept (a1 ++ a2) σ σ' ∧ ∃ ρn, Rep X.K H' (c ++ T) ρn σ' ∧ forD bt g (ds.drop (i + 1)) ρn = some (fl, ρ'), fun σ' H' ⟨k, ρn, rn, fn⟩ => ⟨ds.length - (i + 1), by omega, rfl, hlt, k, ρn, rn, fn⟩, fun x H' y => ?_⟩
          have ry := it.yld i Hi _ x H' ds[i] ri' (List.getElem?_eq_getElem hlt) y
          have ry' : Rep X.K H' ((ds[i], x) :: (c ++ T)) ρi σi := ⟨ri.len, ri.nos, by
            have e : ((ds[i], x) :: (c ++ T)) ++ SL ρi σi = (ds[i], x) :: (c ++ (T ++ SL ρi σi)) := by simp
            rw [e]; exact ry⟩
          refine ⟨c ++ T, ρi, ds[i], ρ1, ry', qb, fun σ1 H1 k1 r1 => ?_⟩
          cases qg : g ρ1 with
          | none => rw [qg] at fi; cases fi
          | some u =>
            obtain ⟨f1, ρ2⟩ := u
            simp only [qg] at fi
            refine ⟨c ++ T, ρ1, f1, ρ2, r1, qg, ?_⟩
            have kk : ∀ σ2, Kept a2 σ1 σ2 → Kept (a1 ++ a2) σ σ2 := fun σ2 k2 => ki.trans1 (k1.trans k2)
            cases f1 with
            | nx => exact fun σ2 H2 k2 r2 => ⟨kk _ k2, ρ2, r2, fi⟩
            | ct => exact fun σ2 H2 k2 r2 => ⟨kk _ k2, ρ2, r2, fi⟩
            | bk =>
              have : (Fl.nx, ρ2) = (fl, ρ') := Option.some.inj fi
              cases this
              exact fun σ2 H2 k2 r2 => he σ2 H2 (kk _ k2) r2.dropL
            | rt d =>
              have : (Fl.rt d, ρ2) = (fl, ρ') := Option.some.inj fi
              cases this
              exact fun v σ2 H2 k2 r2 => he v σ2 H2 (kk _ k2) (Rep.dropL (U := c) (r2.perm List.perm_middle.symm))
            | ex x =>
              have : (Fl.ex x, ρ2) = (fl, ρ') := Option.some.inj fi
              cases this
              exact fun cls dd σ2 H2 k2 xr r2 => he cls dd σ2 H2 (kk _ k2) xr r2.dropL
      · have e : i = ds.length := by omega
        subst e
        rw [List.drop_length] at fi
        have : (Fl.nx, ρi) = (fl, ρ') := Option.some.inj fi
        cases this
        exact .inl ⟨it.stop Hi _ ri', he σi Hi ki ri.dropL⟩
theorem zip_take {ds : List D} {vs : List V} {i : Nat} {d : D} {v : V} (hd : ds[i]? = some d) (hv : vs[i]? = some v) : (ds.zip vs)[i]? = some (d, v) := by
  rw [List.getElem?_zip_eq_some]; exact ⟨hd, hv⟩
theorem RepT.pick {L U : List (D × V)} {i : Nat} {p : D × V} (h : RepT K H (U ++ L)) (e : U[i]? = some p) : RepT K H (p :: L) := by
  have q := h.perm (((perm_erase e).append_right L))
  have q : RepT K H (p :: (U.eraseIdx i ++ L)) := q
  exact RepT.dropL (U := U.eraseIdx i) (q.perm List.perm_middle.symm)
theorem itL {a : Addr} {ds : List D} (z : fzL ds = true) : ItOk K (Itl K a) [(.lst false ds, .ref a)] ds := by
  have zz : fz (.lst false ds) = true := by rw [fz]; simp [z]
  refine ⟨fun i H L hi h => ?_, fun H L h => ?_, fun i H L x H' d h e y => ?_⟩
  · obtain ⟨b, vs, e, sq, l, _⟩ := RepT.openF h
    cases e
    exact ⟨vs, vs[i]'(by omega), .inl (.inl sq), List.getElem?_eq_getElem _⟩
  · obtain ⟨b, vs, e, sq, l, _⟩ := RepT.openF h
    cases e
    exact ⟨vs, .inl (.inl sq), by omega⟩
  · obtain ⟨rfl, hx⟩ := y
    have h : RepT K H' ((.lst false ds, .ref a) :: L) := h
    have h2 := RepT.dup zz h
    obtain ⟨b, vs, e1, sq, l, r⟩ := RepT.openF h2
    cases e1
    exact r.pick (zip_take e (hx vs (.inl (.inl sq))))
theorem itS {a : Addr} {ds : List D} (z : fzL ds = true) : ItOk K (Itl K a) [(.scr ds, .ref a)] ds := by
  have zz : fz (.scr ds) = true := by rw [fz]; exact z
  refine ⟨fun i H L hi h => ?_, fun H L h => ?_, fun i H L x H' d h e y => ?_⟩
  · obtain ⟨b, vs, e, sq, l, _⟩ := RepT.openS h
    cases e
    exact ⟨vs, vs[i]'(by omega), sq, List.getElem?_eq_getElem _⟩
  · obtain ⟨b, vs, e, sq, l, _⟩ := RepT.openS h
    cases e
    exact ⟨vs, sq, by omega⟩
  · obtain ⟨rfl, hx⟩ := y
    have h : RepT K H' ((.scr ds, .ref a) :: L) := h
    have h2 := RepT.dup zz h
    obtain ⟨b, vs, e1, sq, l, r⟩ := RepT.openS h2
    cases e1
    exact r.pick (zip_take e (hx vs sq))
theorem itT {a : Addr} {ds : List D} (z : fzL ds = true) : ItOk K (Itt K a) [(.tup ds, .ref a)] ds := by
  have zz : fz (.tup ds) = true := by rw [fz]; exact z
  refine ⟨fun i H L hi h => ?_, fun H L h => ?_, fun i H L x H' d h e y => ?_⟩
  · obtain ⟨b, vs, e, sq, l, _⟩ := RepT.openT h
    cases e
    exact ⟨vs, vs[i]'(by omega), .inl (.inl sq), List.getElem?_eq_getElem _⟩
  · obtain ⟨b, vs, e, sq, l, _⟩ := RepT.openT h
    cases e
    exact ⟨vs, .inl (.inl sq), by omega⟩
  · obtain ⟨rfl, hx⟩ := y
    have h : RepT K H' ((.tup ds, .ref a) :: L) := h
    have h2 := RepT.dup zz h
    obtain ⟨b, vs, e1, sq, l, r⟩ := RepT.openT h2
    cases e1
    exact r.pick (zip_take e (hx vs (.inl (.inl sq))))
theorem itKT {a : Addr} {ds : List D} (z : fzL ds = true) : ItOk K (Itt K a) [(.ktp ds, .ref a)] ds := by
  have zz : fz (.ktp ds) = true := by rw [fz]; exact z
  refine ⟨fun i H L hi h => ?_, fun H L h => ?_, fun i H L x H' d h e y => ?_⟩
  · obtain ⟨b, vs, e, sq, l, _⟩ := RepT.openK h
    cases e
    exact ⟨vs, vs[i]'(by omega), sq, List.getElem?_eq_getElem _⟩
  · obtain ⟨b, vs, e, sq, l, _⟩ := RepT.openK h
    cases e
    exact ⟨vs, sq, by omega⟩
  · obtain ⟨rfl, hx⟩ := y
    have h : RepT K H' ((.ktp ds, .ref a) :: L) := h
    have h2 := RepT.dup zz h
    obtain ⟨b, vs, e1, sq, l, r⟩ := RepT.openK h2
    cases e1
    exact r.pick (zip_take e (hx vs sq))
def itemsOf (d : D) : Option (List D) := match d with
  | .lst _ ds => if fzL (freezeL ds) = true then some (freezeL ds) else none
  | .scr ds => if fzL (freezeL ds) = true then some (freezeL ds) else none
  | .tup ds => if fzL (freezeL ds) = true then some (freezeL ds) else none
  | .ktp ds => if fzL (freezeL ds) = true then some (freezeL ds) else none
  | _ => none
def dItems (f : M D) : M (List D) := bindM f fun d => optM (itemsOf d)
theorem vi_seq {tg l : Expr} {f : M D} (h : VE X W m l f) : VI X W tg l (dItems f) := by
  refine PI.imp (PI.orr (pi_list h) (pi_tup h)) fun σ H R ⟨T, ρ, u, rep, hf, he⟩ => ?_
  unfold dItems bindM at hf
  cases q : f ρ with
  | none => rw [q] at hf; cases hf
  | some w =>
    rw [q] at hf
    cases w with
    | ex x ρ1 =>
      have : u = .ex x ρ1 := (Option.some.inj hf).symm
      subst this
      exact .inl ⟨T, ρ, _, rep, q, he⟩
    | ok d ρ1 =>
      obtain ⟨ds, e, rfl⟩ := optM_some hf
      cases d with
      | lst o xs =>
        simp only [itemsOf] at e
        by_cases z : fzL (freezeL xs) = true
        · rw [if_pos z] at e
          cases e
          refine .inl ⟨T, ρ, _, rep, q, fun v H1 _ r1 => ?_⟩
          have r2 : RepT X.K H1 ((freeze (.lst o xs), v) :: (T ++ SL ρ1 σ)) := RepT.freeze r1.rep
          rw [freeze] at r2
          obtain ⟨a, vs, rfl, sq, l, _⟩ := RepT.openF r2
          exact ⟨a, rfl, ⟨vs, .inl (.inl sq)⟩, he _ _ H1 (itL z) ⟨r1.len, r1.nos, r2⟩⟩
        · rw [if_neg z] at e; cases e
      | scr xs =>
        simp only [itemsOf] at e
        by_cases z : fzL (freezeL xs) = true
        · rw [if_pos z] at e
          cases e
          refine .inl ⟨T, ρ, _, rep, q, fun v H1 _ r1 => ?_⟩
          have r2 : RepT X.K H1 ((freeze (.scr xs), v) :: (T ++ SL ρ1 σ)) := RepT.freeze r1.rep
          rw [freeze] at r2
          obtain ⟨a, vs, rfl, sq, l, _⟩ := RepT.openS r2
          exact ⟨a, rfl, ⟨vs, sq⟩, he _ _ H1 (itS z) ⟨r1.len, r1.nos, r2⟩⟩
        · rw [if_neg z] at e; cases e
      | tup xs =>
        simp only [itemsOf] at e
        by_cases z : fzL (freezeL xs) = true
        · rw [if_pos z] at e
          cases e
          refine .inr ⟨T, ρ, _, rep, q, fun v H1 _ r1 => ?_⟩
          have r2 : RepT X.K H1 ((freeze (.tup xs), v) :: (T ++ SL ρ1 σ)) := RepT.freeze r1.rep
          rw [freeze] at r2
          obtain ⟨a, vs, rfl, sq, l, _⟩ := RepT.openT r2
          exact ⟨a, rfl, ⟨vs, .inl (.inl sq)⟩, he _ _ H1 (itT z) ⟨r1.len, r1.nos, r2⟩⟩
        · rw [if_neg z] at e; cases e
      | ktp xs =>
        simp only [itemsOf] at e
        by_cases z : fzL (freezeL xs) = true
        · rw [if_pos z] at e
          cases e
          refine .inr ⟨T, ρ, _, rep, q, fun v H1 _ r1 => ?_⟩
          have r2 : RepT X.K H1 ((freeze (.ktp xs), v) :: (T ++ SL ρ1 σ)) := RepT.freeze r1.rep
          rw [freeze] at r2
          obtain ⟨a, vs, rfl, sq, l, _⟩ := RepT.openK r2
          exact ⟨a, rfl, ⟨vs, sq⟩, he _ _ H1 (itKT z) ⟨r1.len, r1.nos, r2⟩⟩
        · rw [if_neg z] at e; cases e
      | _ => cases e
def intsD (lo : Int) (n : Nat) : List D := (List.range n).map fun (i : Nat) => .int (lo + i)
theorem itR {lo : Int} {n : Nat} : ItOk K (Itr lo n) [] (intsD lo n) := by
  have len : (intsD lo n).length = n := by simp [intsD]
  refine ⟨fun i H L hi h => by rw [len] at hi; exact hi, fun H L h => by rw [len]; exact Nat.le_refl _, fun i H L x H' d h e y => ?_⟩
  obtain ⟨rfl, rfl⟩ := y
  have : d = .int (lo + i) := by
    unfold intsD at e
    rw [List.getElem?_map] at e
    cases q : (List.range n)[i]? with
    | none => rw [q] at e; cases e
    | some j =>
      rw [q] at e
      have := (List.getElem?_eq_some_iff.mp q).2
      rw [List.getElem_range] at this
      subst this
      exact (Option.some.inj e).symm
  subst this
  exact RepT.int h
def rangeD1 (ds : List D) : Option (List D) := match ds with
  | [.int j] => if inR j then some (intsD 0 j.toNat) else none
  | _ => none
def rangeD2 (ds : List D) : Option (List D) := match ds with
  | [.int i, .int j] => if inR i ∧ inR j then some (intsD i (j - i).toNat) else none
  | _ => none
theorem rangeD1_inv {ds r : List D} (h : rangeD1 ds = some r) : ∃ j : Int, ds = [.int j] ∧ -(2 ^ 62) ≤ j ∧ j < 2 ^ 62 ∧ r = intsD 0 j.toNat := by
  unfold rangeD1 at h
  split at h
  · rename_i j
    split at h
    · rename_i z
      exact ⟨j, rfl, z.lo, z.hi, (Option.some.inj h).symm⟩
    · cases h
  · cases h
theorem rangeD2_inv {ds r : List D} (h : rangeD2 ds = some r) : ∃ i j : Int, ds = [.int i, .int j] ∧ (-(2 ^ 62) ≤ i ∧ i < 2 ^ 62 ∧ -(2 ^ 62) ≤ j ∧ j < 2 ^ 62) ∧ r = intsD i (j - i).toNat := by
  unfold rangeD2 at h
  split at h
  · rename_i i j
    split at h
    · rename_i z
      exact ⟨i, j, rfl, ⟨z.1.lo, z.1.hi, z.2.lo, z.2.hi⟩, (Option.some.inj h).symm⟩
    · cases h
  · cases h
theorem len1 {α : Type} {vs : List α} (h : 1 = vs.length) : ∃ v, vs = [v] := by
  match vs, h with
  | [v], _ => exact ⟨v, rfl⟩
theorem len2 {α : Type} {vs : List α} (h : 2 = vs.length) : ∃ v w, vs = [v, w] := by
  match vs, h with
  | [v, w], _ => exact ⟨v, w, rfl⟩
def dRange1 (f : M (List D)) : M (List D) := bindM f fun ds => optM (rangeD1 ds)
def dRange2 (f : M (List D)) : M (List D) := bindM f fun ds => optM (rangeD2 ds)
theorem vi_range1 {tg a : Expr} {f : M (List D)} {p pos : Pos} (hg : Gl X "range") (hm : X.mg "range" = none) (ha : VA X W m [a] f) (hs : starEach [a] X.env = [(false, eval a X.env)] := by rfl) : VI X W tg (.Call (.Name "range" p) [a] [] pos) (dRange1 f) := by
  refine PI.imp (pi_range1 hg hm ha hs) fun σ H R ⟨T, ρ, u, rep, hf, he⟩ => ?_
  refine runA rep hf he fun ds ρ1 vs H1 h1 s1 l1 r1 => ?_
  obtain ⟨d, e, rfl⟩ := optM_some h1
  obtain ⟨j, rfl, z1, z2, rfl⟩ := rangeD1_inv e
  obtain ⟨v, rfl⟩ := len1 l1
  have ev := RepT.eq_int r1.rep
  subst ev
  exact ⟨j, rfl, z1, z2, he _ [] H1 itR r1.drop⟩
theorem vi_range2 {tg a b : Expr} {f : M (List D)} {p pos : Pos} (hg : Gl X "range") (hm : X.mg "range" = none) (ha : VA X W m [a, b] f) (hs : starEach [a, b] X.env = [(false, eval a X.env), (false, eval b X.env)] := by rfl) (hs2 : starEach [b] X.env = [(false, eval b X.env)] := by rfl) : VI X W tg (.Call (.Name "range" p) [a, b] [] pos) (dRange2 f) := by
  refine PI.imp (pi_range2 hg hm ha hs hs2) fun σ H R ⟨T, ρ, u, rep, hf, he⟩ => ?_
  refine runA rep hf he fun ds ρ1 vs H1 h1 s1 l1 r1 => ?_
  obtain ⟨d, e, rfl⟩ := optM_some h1
  obtain ⟨i, j, rfl, z, rfl⟩ := rangeD2_inv e
  obtain ⟨v, w, rfl⟩ := len2 l1
  have ev := RepT.eq_int r1.rep
  have ew := RepT.eq_int r1.drop.rep
  subst ev
  subst ew
  exact ⟨i, j, rfl, z, he _ [] H1 itR r1.drop.drop⟩
theorem RepT.push {ds : List D} {y : D} {v : V} {a : Addr} {L : List (D × V)} (h : RepT K H ((y, v) :: (.lst true ds, .ref a) :: L)) : ∃ vs, H a = some (.lst vs) ∧ ds.length = vs.length ∧ RepT K (upd H a (.lst (vs ++ [v]))) ((.lst true (ds ++ [y]), .ref a) :: L) := by
  have h2 : RepT K H ((.lst true ds, .ref a) :: (y, v) :: L) := h.perm (.swap _ _ _)
  obtain ⟨b, vs, e, q, l, r⟩ := h2.openL
  cases e
  refine ⟨vs, q, l, RepT.closeL (by simp [l]) ?_⟩
  rw [List.zip_append l]
  rw [List.append_assoc]
  exact r
theorem wipe_get (σ : St) : ∀ (vs : List Nat) (i : Nat), i ∉ vs → (wipe σ vs)[i]? = σ[i]?
  | [], _, _ => rfl
  | v :: vs, i, h => by
    unfold wipe
    rw [List.getElem?_set_ne fun z => h (by simp [z]), wipe_get σ vs i fun z => h (List.mem_cons_of_mem _ z)]
theorem wipe_none (σ : St) : ∀ (vs : List Nat) (i : Nat), i ∈ vs → i < σ.length → (wipe σ vs)[i]? = some none
  | [], _, h, _ => by cases h
  | v :: vs, i, h, hl => by
    unfold wipe
    by_cases z : v = i
    · subst z; rw [List.getElem?_set_self (by rw [wipe_length]; exact hl)]
    · rw [List.getElem?_set_ne z]
      rcases List.mem_cons.mp h with e | h
      · exact absurd e.symm z
      · exact wipe_none σ vs i h hl
theorem wipe_eq {σ σ2 : St} {vs : List Nat} (hl : σ2.length = σ.length) (h : ∀ i : Nat, i ∉ vs → σ2[i]? = σ[i]?) : wipe σ2 vs = wipe σ vs := by
  apply List.ext_getElem?
  intro i
  by_cases hi : i ∈ vs
  · by_cases hl2 : i < σ.length
    · rw [wipe_none σ vs i hi hl2, wipe_none σ2 vs i hi (by omega)]
    · rw [List.getElem?_eq_none (by rw [wipe_length]; omega), List.getElem?_eq_none (by rw [wipe_length]; omega)]
  · rw [wipe_get σ vs i hi, wipe_get σ2 vs i hi, h i hi]
theorem Kept.wiped {own : List Nat} {σ2 : St} (k : Kept asg (wipe σ own) σ2) (hs : ∀ i ∈ asg, i ∈ own) : wipe σ2 own = wipe σ own := by
  refine wipe_eq (k.1.trans (wipe_length σ own)) fun i hi => ?_
  rw [k.2 i fun z => hi (hs i z), wipe_get σ own i hi]
theorem wipe_wipe {own : List Nat} : wipe (wipe σ own) own = wipe σ own := Kept.wiped (asg := []) Kept.refl fun _ z => by cases z
theorem Rep.wiped {own : List Nat} (h : Rep K H T ρ σ) : Rep K H T (wipeD ρ own) (wipe σ own) := by
  refine (h.wipe1 own).other (wipe_length σ own) fun i => ?_
  by_cases hi : i ∈ own
  · by_cases hl : i < ρ.length
    · exact .inl (wipeD_get ρ hi hl)
    · exact .inr (by rw [List.getElem?_eq_none (by rw [wipe_length, ← h.len]; omega), List.getElem?_eq_none (by rw [← h.len]; omega)])
  · exact .inr (wipe_get σ own i hi)
theorem Rep.unwiped {own : List Nat} {σ2 : St} (h : Rep K H T ρ σ2) (hl : σ.length = σ2.length) (e : wipe σ2 own = wipe σ own) : Rep K H T (wipeD ρ own) σ := by
  refine (h.wipe1 own).other hl fun i => ?_
  by_cases hi : i ∈ own
  · by_cases hl2 : i < ρ.length
    · exact .inl (wipeD_get ρ hi hl2)
    · exact .inr (by rw [List.getElem?_eq_none (by rw [hl, ← h.len]; omega), List.getElem?_eq_none (by rw [← h.len]; omega)])
  · exact .inr (by rw [← wipe_get σ own i hi, ← e, wipe_get σ2 own i hi])
def lcD (own : List Nat) (bt : D → Env → Option Env) (tt : M Bool) (el : M D) : List D → List D → Env → Option (List D × Env)
  | [], acc, ρ => some (acc, ρ)
  | d :: ds, acc, ρ => match bt d ρ with
    | none => none
    | some ρ1 => match tt ρ1 with
      | some (.ok b ρ2) => if b = true then (match el ρ2 with
        | some (.ok y ρ3) => if acc.length < sizeLine then lcD own bt tt el ds (acc ++ [y]) (wipeD ρ3 own) else none
        | _ => none) else lcD own bt tt el ds acc (wipeD ρ2 own)
      | _ => none
def dLc (own : List Nat) (src : M (List D)) (bt : D → Env → Option Env) (tt : M Bool) (el : M D) : M D := bindM src fun ds ρ => match lcD own bt tt el ds [] (wipeD ρ own) with
  | none => none
  | some (acc, ρ') => some (.ok (.lst true acc) (wipeD ρ' own))
def WF : WX := fun _ _ _ _ => False
theorem tLc_of {own : List Nat} {src : M (List D)} {bt : D → Env → Option Env} {tt : M Bool} {el : M D} {mt me : Bool} (hs : ∀ i ∈ asg, i ∈ own) {Q : VK} (h : tOf K mg W true (dLc own src bt tt el) σ H Q) :
    tLc (tiOf K mg W src) (tgOf K asg bt) (ttOf K mg WF mt tt) (tOf K mg WF me el) own σ H Q := by
  obtain ⟨T, ρ, u, rep, hf, he⟩ := h
  unfold dLc bindM at hf
  cases q : src ρ with
  | none => rw [q] at hf; cases hf
  | some w =>
    rw [q] at hf
    refine ⟨T, ρ, w, rep, q, ?_⟩
    cases w with
    | ex x ρ1 =>
      have : u = .ex x ρ1 := (Option.some.inj hf).symm
      subst this
      exact he
    | ok ds ρ0 =>
      intro J c H0 it rep0 p hp
      simp only at hf
      cases ql : lcD own bt tt el ds [] (wipeD ρ0 own) with
      | none => rw [ql] at hf; cases hf
      | some pr =>
        obtain ⟨accF, ρF⟩ := pr
        rw [ql] at hf
        have : u = .ok (.lst true accF) (wipeD ρF own) := (Option.some.inj hf).symm
        subst this
        refine ⟨fun i n Hi => n = ds.length - i ∧ i ≤ ds.length ∧ ∃ acc ρi, Rep K Hi ((.lst true acc, .ref p) :: (c ++ T)) ρi (wipe σ own) ∧ lcD own bt tt el (ds.drop i) acc ρi = some (accF, ρF), ⟨ds.length, by simp, Nat.zero_le _, [], wipeD ρ0 own, ?_, ql⟩, ?_⟩
        · have r0 := rep0.wiped (own := own)
          exact r0.lift fun q => RepT.newL (ds := []) (vs := []) rfl hp q
        rintro i n Hi ⟨rfl, hi, acc, ρi, ri, fi⟩
        have ri' : RepT K Hi (c ++ ((.lst true acc, .ref p) :: (T ++ SL ρi (wipe σ own)))) := by
          have r := ri.rep
          refine r.perm ?_
          have e : ((D.lst true acc, V.ref p) :: (c ++ T)) ++ SL ρi (wipe σ own) = (D.lst true acc, V.ref p) :: (c ++ (T ++ SL ρi (wipe σ own))) := by simp
          rw [e]
          exact List.perm_middle.symm
        by_cases hlt : i < ds.length
        · rw [List.drop_eq_getElem_cons hlt] at fi
          unfold lcD at fi
          cases qb : bt ds[i] ρi with
          | none => rw [qb] at fi; cases fi
          | some ρ1 =>
            simp only [qb] at fi
            refine .inr ⟨it.go i Hi _ hlt ri', fun H' => ∃ acc ρn, Rep K H' ((.lst true acc, .ref p) :: (c ++ T)) ρn (wipe σ own) ∧ lcD own bt tt el (ds.drop (i + 1)) acc ρn = some (accF, ρF), fun H' ⟨a', ρn, rn, fn⟩ => ⟨ds.length - (i + 1), by omega, rfl, hlt, a', ρn, rn, fn⟩, fun x H' y => ?_⟩
            have ry := it.yld i Hi _ x H' ds[i] ri' (List.getElem?_eq_getElem hlt) y
            have ry' : Rep K H' ((ds[i], x) :: ((.lst true acc, .ref p) :: (c ++ T))) ρi (wipe σ own) := ⟨ri.len, ri.nos, by
              have e : ((ds[i], x) :: ((D.lst true acc, V.ref p) :: (c ++ T))) ++ SL ρi (wipe σ own) = (ds[i], x) :: (D.lst true acc, V.ref p) :: (c ++ (T ++ SL ρi (wipe σ own))) := by simp
              rw [e]
              exact ry.perm (List.perm_middle.cons _)⟩
            refine ⟨_, ρi, ds[i], ρ1, ry', qb, fun σ1 H1 k1 r1 => ?_⟩
            have ew := k1.wiped hs
            have el1 : (wipe σ own).length = σ1.length := k1.1.symm
            refine ⟨ew, ?_⟩
            cases qt : tt ρ1 with
            | none => rw [qt] at fi; cases fi
            | some w =>
              cases w with
              | ex x ρ2 => rw [qt] at fi; cases fi
              | ok b ρ2 =>
                simp only [qt] at fi
                refine ⟨_, ρ1, _, r1, qt, fun H2 _ r2 => ?_⟩
                cases b with
                | false =>
                  rw [if_neg (by simp)] at fi ⊢
                  exact ⟨acc, _, r2.unwiped (σ := wipe σ own) el1 (ew.trans wipe_wipe.symm), fi⟩
                | true =>
                  rw [if_pos rfl] at fi ⊢
                  cases qe : el ρ2 with
                  | none => rw [qe] at fi; cases fi
                  | some w =>
                    cases w with
                    | ex x ρ3 => rw [qe] at fi; cases fi
                    | ok y ρ3 =>
                      simp only [qe] at fi
                      refine ⟨_, ρ2, _, r2, qe, fun v H3 _ r3 => ?_⟩
                      by_cases z : acc.length < sizeLine
                      · rw [if_pos z] at fi
                        obtain ⟨vs, hv, lv, rp⟩ := RepT.push r3.rep
                        refine ⟨vs, hv, by rw [← lv]; exact z, acc ++ [y], _, ?_, fi⟩
                        have r4 : Rep K (upd H3 p (.lst (vs ++ [v]))) ((.lst true (acc ++ [y]), .ref p) :: (c ++ T)) ρ3 σ1 := ⟨r3.len, r3.nos, rp⟩
                        exact r4.unwiped (σ := wipe σ own) el1 (ew.trans wipe_wipe.symm)
                      · rw [if_neg z] at fi; cases fi
        · have e : i = ds.length := by omega
          subst e
          rw [List.drop_length] at fi
          have : (acc, ρi) = (accF, ρF) := Option.some.inj fi
          injection this with e1 e2
          subst e1
          subst e2
          refine .inl ⟨it.stop Hi _ ri', he _ Hi (fun e => by cases e) ?_⟩
          have r5 : Rep K Hi ((.lst true acc, .ref p) :: T) ρi (wipe σ own) := Rep.dropL (U := c) (ri.perm List.perm_middle.symm)
          exact r5.unwiped (by rw [wipe_length]) wipe_wipe
def dYes : M Bool := retM true
theorem tYes_of {Q : Bool → Hp → Prop} (h : ttOf K mg W m dYes σ H Q) : tYes σ H Q := by
  obtain ⟨T, ρ, u, rep, hf, he⟩ := h
  have : u = .ok true ρ := (Option.some.inj hf).symm
  subst this
  exact he H (fun _ => Same.refl _) rep
def VTs (X : Cx) (W : WX) (m : Bool) (ifs : List Expr) (f : M Bool) : Prop := PTs X ifs (ttOf X.K X.mg W m f)
theorem vts_nil : VTs X W false [] dYes := ⟨fun pins s σ H Q I q => pts_nil.run pins s σ H Q I (tYes_of q)⟩
theorem vts_one {c : Expr} {f : M Bool} (h : VT X W m c f) : VTs X W m [c] f := pts_one h
section
variable {elt tg iter : Expr} {ifs : List Expr} {scope : Scope} {own : List (Str × Nat)} {pos spos : Pos} {src : M (List D)} {bt : D → Env → Option Env} {tt : M Bool} {el : M D} {mt me : Bool}
theorem ve_lc (hc : X.calm = true) (hN : X.N.Nodup) (hi : VI X W tg iter src) (ok : BlkOk X.N X.env.scope scope own)
    (hg : ∀ (s : Shared) (H : Hp) (C : Addr) (cl : List (Str × Addr)) (fp : List Addr), VG (X.blk s H scope (compEnvC scope cl C X.env) fp) asg tg bt)
    (ht : ∀ (s : Shared) (H : Hp) (C : Addr) (cl : List (Str × Addr)) (fp : List Addr), VTs (X.blk s H scope (compEnvC scope cl C X.env) fp) WF mt ifs tt)
    (he : ∀ (s : Shared) (H : Hp) (C : Addr) (cl : List (Str × Addr)) (fp : List Addr), VE (X.blk s H scope (compEnvC scope cl C X.env) fp) WF me elt el)
    (hsub : ∀ i ∈ asg, i ∈ own.map (·.2) := by decide) (hs : ∀ x, foldedSetIterable iter X.env x = pure x := by intro _; rfl) : VE X W true (.ListComp elt [⟨tg, iter, ifs, 0⟩] scope pos) (dLc (own.map (·.2)) src bt tt el) :=
  PE.imp (pe_lc (g := tgOf X.K asg bt) (tt := ttOf X.K X.mg WF mt tt) (te := tOf X.K X.mg WF me el) hc hN hi ok hg ht he hs) fun _ _ _ h => tLc_of hsub h
theorem vs_setLc {i : Nat} {y : Str} {py : Pos} (hc : X.calm = true) (hN : X.N.Nodup) (hy : X.N[i]? = some y) (hyl : X.env.scope.names.lookup y = some .local)
    (hsw : swapsWith (.ListComp elt [⟨tg, iter, ifs, 0⟩] scope pos) (some (.Name y py)) spos.line X.env = pure true) (hi : VI X W tg iter src) (ok : BlkOk X.N X.env.scope scope own)
    (hg : ∀ (s : Shared) (H : Hp) (C : Addr) (cl : List (Str × Addr)) (fp : List Addr), VG (X.blk s H scope (compEnvC scope cl C X.env) fp) asg tg bt)
    (ht : ∀ (s : Shared) (H : Hp) (C : Addr) (cl : List (Str × Addr)) (fp : List Addr), VTs (X.blk s H scope (compEnvC scope cl C X.env) fp) WF mt ifs tt)
    (he : ∀ (s : Shared) (H : Hp) (C : Addr) (cl : List (Str × Addr)) (fp : List Addr), VE (X.blk s H scope (compEnvC scope cl C X.env) fp) WF me elt el)
    (hsub : ∀ i ∈ asg, i ∈ own.map (·.2) := by decide) (hs : ∀ x, foldedSetIterable iter X.env x = pure x := by intro _; rfl) : VSt X W [i] (.Assign [.Name y py] (.ListComp elt [⟨tg, iter, ifs, 0⟩] scope pos) spos) (dSet i (dLc (own.map (·.2)) src bt tt el)) := by
  refine vs_setP (m := true) (PS.imp (ps_setLc (g := tgOf X.K asg bt) (tt := ttOf X.K X.mg WF mt tt) (te := tOf X.K X.mg WF me el) hc hN hy hyl hsw hi ok hg ht he hs) fun σ H E h => ?_)
  exact tLc_of hsub h
end
inductive Fo where
  | ok (r : D) (as : List D)
  | ex (x : Xc) (as : List D)
abbrev FnD := List D → Option Fo
def spOf (K : PySem.W.Frag) (mg : Str → Option Value) (F : FnD) : Sp := fun vs H Q E => ∃ L as o, as.length = vs.length ∧ RepT K H (as.zip vs ++ L) ∧ F as = some o ∧ match o with
  | .ok r as' => ∀ v H', as'.length = vs.length → RepT K H' ((r, v) :: (as'.zip vs ++ L)) → Q v H'
  | .ex x as' => ∀ cls dd H', as'.length = vs.length → XRep mg x cls dd H' → RepT K (sansD H' dd) (as'.zip vs ++ L) → E cls dd H'
def outD (np : Nat) (asg : List Nat) (ρ : Env) : List D := (wipeD ρ asg).take np
def fnD (n np : Nat) (asg : List Nat) (body : MS) : FnD := fun as => if as.length = np ∧ np ≤ n then (match body (as ++ List.replicate (n - np) .unk) with
  | none => none
  | some (.nx, ρ) => if ρ.length = n then some (.ok .non (outD np asg ρ)) else none
  | some (.rt d, ρ) => if ρ.length = n then some (.ok d (outD np asg ρ)) else none
  | some (.ex x, ρ) => if ρ.length = n then some (.ex x (outD np asg ρ)) else none
  | some (.bk, _) => none
  | some (.ct, _) => none) else none
theorem SL_start : ∀ (as : List D) (vs : List V) (k : Nat), as.length = vs.length → SL (as ++ List.replicate k .unk) (vs.map some ++ List.replicate k none) = as.zip vs ++ List.replicate k (.unk, .non)
  | [], [], k, _ => by
    show List.zipWith _ (List.replicate k D.unk) (List.replicate k none) = List.replicate k (D.unk, V.non)
    rw [List.zipWith_replicate']; rfl
  | [], _ :: _, _, h => by cases h
  | _ :: _, [], _, h => by cases h
  | a :: as, v :: vs, k, h => by
    show (a, v) :: SL (as ++ List.replicate k .unk) (vs.map some ++ List.replicate k none) = _
    rw [SL_start as vs k (Nat.succ.inj h)]; rfl
theorem RepT.unks {L : List (D × V)} {v : V} : ∀ k : Nat, RepT K H L → RepT K H (List.replicate k (.unk, v) ++ L)
  | 0, h => h
  | k + 1, h => RepT.unk (RepT.unks k h)
theorem SL_split : ∀ (ρ : Env) (vs : List V) (τ : St), vs.length ≤ ρ.length → SL ρ (vs.map some ++ τ) = (ρ.take vs.length).zip vs ++ SL (ρ.drop vs.length) τ
  | ρ, [], τ, _ => by simp
  | [], _ :: _, _, h => by simp at h
  | d :: ρ, v :: vs, τ, h => by
    show (d, v) :: SL ρ (vs.map some ++ τ) = _
    rw [SL_split ρ vs τ (Nat.le_of_succ_le_succ h)]; rfl
theorem out_rep {n np : Nat} {N : List Str} {vs : List V} {L : List (D × V)} {ρ : Env} {σ' : St} {P : List (D × V)} (hn : N.length = n) (hv : vs.length = np) (hl : ρ.length = n) (hnp : np ≤ n) (k : Kept asg (L2.start N vs) σ') (r : Rep K H (P ++ L) ρ σ') :
    (outD np asg ρ).length = vs.length ∧ RepT K H (P ++ ((outD np asg ρ).zip vs ++ L)) := by
  have r1 : Rep K H (P ++ L) (wipeD ρ asg) (L2.start N vs) := by
    refine (r.wipe1 asg).other k.1.symm fun i => ?_
    by_cases hi : i ∈ asg
    · by_cases hl2 : i < ρ.length
      · exact .inl (wipeD_get ρ hi hl2)
      · exact .inr (by rw [List.getElem?_eq_none (by rw [← k.1, ← r.len]; omega), List.getElem?_eq_none (by rw [← r.len]; omega)])
    · exact .inr (k.2 i hi).symm
  have lw : (wipeD ρ asg).length = n := by rw [wipeD_length]; exact hl
  refine ⟨by unfold outD; rw [List.length_take, lw, hv]; omega, ?_⟩
  have q := r1.rep
  unfold L2.start at q
  rw [SL_split _ _ _ (by rw [lw, hv]; exact hnp), hv] at q
  have q2 : RepT K H (SL ((wipeD ρ asg).drop np) (List.replicate (N.length - np) none) ++ (P ++ ((outD np asg ρ).zip vs ++ L))) := by
    refine q.perm ?_
    refine (List.perm_append_comm (l₁ := P ++ L)).trans ?_
    unfold outD
    generalize ((wipeD ρ asg).take np).zip vs = Z
    generalize SL ((wipeD ρ asg).drop np) (List.replicate (N.length - np) none) = Y
    have e1 : (Z ++ Y ++ (P ++ L)).Perm (Y ++ Z ++ (P ++ L)) := List.perm_append_comm.append_right _
    refine e1.trans ?_
    rw [List.append_assoc]
    refine List.Perm.append_left Y ?_
    rw [← List.append_assoc, ← List.append_assoc]
    exact List.perm_append_comm.append_right L
  exact q2.dropL
theorem body_sp {X : Cx} {N ps : List Str} {g : MS} {vs : List V} {Q : VK} {E : XK} (h : spOf X.K X.mg (fnD N.length ps.length asg g) vs H Q E) :
    tsOf X.K X.mg (fun cls d _ H => E cls d H) asg g { nx := fun _ H' => Q .non H', rt := Q } (L2.start N vs) H := by
  obtain ⟨L, as, o, l, rep, hf, ho⟩ := h
  unfold fnD at hf
  by_cases z : as.length = ps.length ∧ ps.length ≤ N.length
  · rw [if_pos z] at hf
    have lv : vs.length = ps.length := by rw [← l]; exact z.1
    have rep0 : Rep X.K H L (as ++ List.replicate (N.length - ps.length) .unk) (L2.start N vs) := by
      unfold L2.start
      rw [lv]
      refine ⟨by simp [l], fun i hi => ?_, ?_⟩
      · by_cases hlt : i < vs.length
        · rw [List.getElem?_append_left (by simpa using hlt), List.getElem?_map] at hi
          cases q : vs[i]? with
          | none => rw [q] at hi; cases hi
          | some v => rw [q] at hi; cases hi
        · rw [List.getElem?_append_right (by simpa using Nat.le_of_not_lt hlt)] at hi
          have hb := (List.getElem?_eq_some_iff.mp hi).1
          rw [List.length_replicate, List.length_map] at hb
          rw [List.getElem?_append_right (by omega), List.getElem?_replicate, if_pos (by omega)]
      · rw [SL_start as vs _ l]
        have q := RepT.unks (v := V.non) (N.length - ps.length) rep
        refine q.perm ?_
        refine List.perm_append_comm.trans ?_
        rw [List.append_assoc]
        refine List.perm_append_comm.trans ?_
        rw [List.append_assoc]
        exact List.Perm.append_left L List.perm_append_comm
    cases qb : g (as ++ List.replicate (N.length - ps.length) .unk) with
    | none => rw [qb] at hf; cases hf
    | some pr =>
      obtain ⟨fl, ρ'⟩ := pr
      refine ⟨L, _, fl, ρ', rep0, qb, ?_⟩
      simp only [qb] at hf
      cases fl with
      | nx =>
        intro σ' H' k' r'
        simp only at hf
        split at hf
        · rename_i zl
          cases hf
          obtain ⟨l2, r2⟩ := out_rep (P := []) rfl lv zl z.2 k' r'
          exact ho .non H' l2 (RepT.non r2)
        · cases hf
      | rt d =>
        intro v σ' H' k' r'
        simp only at hf
        split at hf
        · rename_i zl
          cases hf
          obtain ⟨l2, r2⟩ := out_rep (P := [(d, v)]) rfl lv zl z.2 k' r'
          exact ho v H' l2 r2
        · cases hf
      | ex x =>
        intro cls dd σ' H' k' xr r'
        simp only at hf
        split at hf
        · rename_i zl
          cases hf
          obtain ⟨l2, r2⟩ := out_rep (P := []) rfl lv zl z.2 k' r'
          exact ho cls dd H' l2 xr r2
        · cases hf
      | bk => cases hf
      | ct => cases hf
  · rw [if_neg z] at hf; cases hf
theorem fn_ok {P : Program} {w : World} {base : Heap} {x qual : Str} {st : Stmt} {f : Addr} {fd : FuncData} {N ps : List Str} {k : Nat} {g : MS} (F : Fun K x qual st f fd) (S : FnScope N ps (defScope st))
    (hbody : ∀ (cdv : Value) (A : Around) (outer : List PySem.Env) (s : Shared) (H : Hp) (E : XK), Room k (A.deeper (envOfC qual (defScope st) s.heap.objs.size f cdv)) →
      VSs (cxOf (L2N.CX P w) P w K mg base N qual (defScope st) f cdv A outer s H E) (fun cls d _ H => E cls d H) asg (defBody st) g) :
    FnOk P w K mg base (L2N.CX P w) (k + 1) f fd ps (spOf K mg (fnD N.length ps.length asg g)) := by
  obtain ⟨oc, od, kV, doc, pm, an, cd, ct, osl, rfl, lk, hcd⟩ := F.ex
  refine fn_of lk hcd S (fun vs H Q E h => ?_) fun A outer s H vs Q E hr h => ?_
  · obtain ⟨L, as, o, l, _, hf, _⟩ := h
    unfold fnD at hf
    by_cases z : as.length = ps.length ∧ ps.length ≤ N.length
    · rw [← l]; exact z.1
    · rw [if_neg z] at hf; cases hf
  · exact ⟨_, hbody cd A outer s H E hr, body_sp (X := cxOf (L2N.CX P w) P w K mg base N qual (defScope st) f cd A outer s H E) h⟩
def IOv (σ : St) : List (Option Nat) → List V → List V → Prop
  | [], tv, vs => tv = [] ∧ vs = []
  | none :: ks, tv, vs => ∃ v t r, tv = v :: t ∧ vs = v :: r ∧ IOv σ ks t r
  | some i :: ks, tv, vs => ∃ v r, σ[i]? = some (some v) ∧ vs = v :: r ∧ IOv σ ks tv r
def okIO (K : PySem.W.Frag) (m : Bool) (ks : List (Option Nat)) (T : List (D × V)) (σ : St) (H : Hp) (Q : List V → Hp → Prop) (ds : List D) (ρ' : Env) : Prop :=
  ∀ tv vs H', (m = false → Same H H') → ds.length = tv.length → IOv σ ks tv vs → Rep K H' (ds.zip tv ++ T) ρ' σ → Q vs H'
def taIO (K : PySem.W.Frag) (mg : Str → Option Value) (W : WX) (m : Bool) (ks : List (Option Nat)) (f : M (List D)) : TA := fun σ H Q => ∃ T ρ r, Rep K H T ρ σ ∧ f ρ = some r ∧ endR K mg W T σ (okIO K m ks T σ H Q) r
def VIO (X : Cx) (W : WX) (m : Bool) (ks : List (Option Nat)) (es : List Expr) (f : M (List D)) : Prop := PA X es (taIO X.K X.mg W m ks f)
theorem vio_nil : VIO X W false [] [] dNil := PA.imp pa_nil fun σ H Q ⟨T, ρ, u, rep, hf, he⟩ => by
  have : u = .ok [] ρ := (Option.some.inj hf).symm
  subst this
  exact he [] [] H (fun _ => Same.refl _) rfl ⟨rfl, rfl⟩ rep
theorem vio_cons {e : Expr} {es : List Expr} {f : M D} {g : M (List D)} {ma mb : Bool} {ks : List (Option Nat)} (ha : VE X W ma e f) (hb : VIO X W mb ks es g) (hs : starEach (e :: es) X.env = (false, eval e X.env) :: starEach es X.env := by rfl) : VIO X W (ma || mb) (none :: ks) (e :: es) (dCons f g) := by
  refine PA.imp (pa_cons ha hb hs) fun σ H Q ⟨T, ρ, u, rep, hf, he⟩ => ?_
  refine run1 rep hf he fun x ρ1 v H1 h1 s1 r1 => ?_
  unfold bindM at h1
  cases q : g ρ1 with
  | none => rw [q] at h1; cases h1
  | some w =>
    rw [q] at h1
    refine ⟨_, ρ1, w, r1, q, ?_⟩
    cases w with
    | ex x ρ2 =>
      have : u = .ex x ρ2 := (Option.some.inj h1).symm
      subst this
      exact exE.push he
    | ok ds ρ2 =>
      intro tv vs H2 s2 l2 io r2
      have : u = .ok (x :: ds) ρ2 := (Option.some.inj h1).symm
      subst this
      exact he (v :: tv) (v :: vs) H2 (sm_or s1 s2) (by simp [l2]) ⟨v, tv, vs, rfl, rfl, io⟩ (r2.perm List.perm_middle)
def dIO (i : Nat) (g : M (List D)) : M (List D) := fun ρ => match ρ[i]? with
  | none => none
  | some .unk => none
  | some _ => g ρ
theorem vio_slot {e : Expr} {es : List Expr} {g : M (List D)} {i : Nat} {ks : List (Option Nat)} (ha : PE X e (tVar i)) (hb : VIO X W m ks es g) (hs : starEach (e :: es) X.env = (false, eval e X.env) :: starEach es X.env := by rfl) : VIO X W m (some i :: ks) (e :: es) (dIO i g) := by
  refine PA.imp (pa_cons ha hb hs) fun σ H Q ⟨T, ρ, u, rep, hf, he⟩ => ?_
  unfold dIO at hf
  cases q : ρ[i]? with
  | none => rw [q] at hf; cases hf
  | some d =>
    have n : d ≠ .unk := fun e => by rw [q, e] at hf; cases hf
    have hf' : g ρ = some u := by
      rw [q] at hf
      cases d <;> first | exact hf | exact absurd rfl n
    obtain ⟨v, hv⟩ := rep.slot q n
    refine ⟨v, hv, T, ρ, u, rep, hf', ?_⟩
    cases u with
    | ex x ρ2 => exact he
    | ok ds ρ2 => exact fun tv vs H2 s2 l2 io r2 => he tv (v :: vs) H2 s2 l2 ⟨v, vs, hv, rfl, io⟩ r2
def takeIO : List (Option Nat) → List D → Env → List D × Env
  | [], _, ρ => ([], ρ)
  | none :: ks, [], ρ => ([], ρ)
  | none :: ks, d :: ds, ρ => (d :: (takeIO ks ds ρ).1, (takeIO ks ds ρ).2)
  | some i :: ks, ds, ρ => (ρ.getD i .unk :: (takeIO ks ds (ρ.set i .unk)).1, (takeIO ks ds (ρ.set i .unk)).2)
def giveIO : List (Option Nat) → List D → Env → Env
  | none :: ks, _ :: as, ρ => giveIO ks as ρ
  | some i :: ks, a :: as, ρ => giveIO ks as (ρ.set i a)
  | _, _, ρ => ρ
theorem take_rep : ∀ {ks : List (Option Nat)} {ds : List D} {tv vs : List V} {ρ : Env} {T : List (D × V)}, ds.length = tv.length → IOv σ ks tv vs → Rep K H (ds.zip tv ++ T) ρ σ →
    (takeIO ks ds ρ).1.length = vs.length ∧ Rep K H ((takeIO ks ds ρ).1.zip vs ++ T) (takeIO ks ds ρ).2 σ
  | [], ds, tv, vs, ρ, T, l, io, r => by
    obtain ⟨rfl, rfl⟩ := io
    exact ⟨rfl, r.dropL⟩
  | none :: ks, ds, tv, vs, ρ, T, l, io, r => by
    obtain ⟨v, t, r', rfl, rfl, io⟩ := io
    cases ds with
    | nil => cases l
    | cons d ds =>
      have r2 : Rep K H (ds.zip t ++ ((d, v) :: T)) ρ σ := r.perm List.perm_middle.symm
      obtain ⟨l3, r3⟩ := take_rep (ks := ks) (ds := ds) (tv := t) (vs := r') (T := (d, v) :: T) (Nat.succ.inj l) io r2
      exact ⟨by simp [takeIO, l3], r3.perm List.perm_middle⟩
  | some i :: ks, ds, tv, vs, ρ, T, l, io, r => by
    obtain ⟨v, r', hv, rfl, io⟩ := io
    have hi : i < ρ.length := by rw [r.len]; exact (List.getElem?_eq_some_iff.mp hv).1
    have e : ρ[i]? = some (ρ.getD i .unk) := by
      rw [List.getD_eq_getElem?_getD, List.getElem?_eq_getElem hi]; rfl
    have r1 := r.take e hv
    have r2 : Rep K H (ds.zip tv ++ ((ρ.getD i .unk, v) :: T)) (ρ.set i .unk) σ := r1.perm List.perm_middle.symm
    obtain ⟨l3, r3⟩ := take_rep (ks := ks) (ds := ds) (tv := tv) (vs := r') (T := (ρ.getD i .unk, v) :: T) l io r2
    exact ⟨by simp [takeIO, l3], r3.perm List.perm_middle⟩
theorem give_rep : ∀ {ks : List (Option Nat)} {as : List D} {tv vs : List V} {ρ : Env} {T : List (D × V)}, as.length = vs.length → IOv σ ks tv vs → Rep K H (as.zip vs ++ T) ρ σ → Rep K H T (giveIO ks as ρ) σ
  | [], as, tv, vs, ρ, T, l, io, r => by
    obtain ⟨rfl, rfl⟩ := io
    cases as with
    | nil => exact r
    | cons _ _ => cases l
  | none :: ks, as, tv, vs, ρ, T, l, io, r => by
    obtain ⟨v, t, r', rfl, rfl, io⟩ := io
    cases as with
    | nil => cases l
    | cons a as => exact give_rep (ks := ks) (as := as) (tv := t) (vs := r') (Nat.succ.inj l) io (Rep.drop r)
  | some i :: ks, as, tv, vs, ρ, T, l, io, r => by
    obtain ⟨v, r', hv, rfl, io⟩ := io
    cases as with
    | nil => cases l
    | cons a as =>
      have r2 : Rep K H ((a, v) :: (as.zip r' ++ T)) ρ σ := r
      exact give_rep (ks := ks) (as := as) (tv := tv) (vs := r') (Nat.succ.inj l) io (r2.put hv)
def dFn (ks : List (Option Nat)) (F : FnD) (f : M (List D)) : M D := bindM f fun ds ρ => match F (takeIO ks ds ρ).1 with
  | none => none
  | some (.ok r as) => some (.ok r (giveIO ks as (takeIO ks ds ρ).2))
  | some (.ex x as) => some (.ex x (giveIO ks as (takeIO ks ds ρ).2))
theorem tFn_of {ks : List (Option Nat)} {F : FnD} {f : M (List D)} {Q : VK} (h : tOf K mg W true (dFn ks F f) σ H Q) : tCallS (spOf K mg F) (WE W) (taIO K mg W m ks f) σ H Q := by
  obtain ⟨T, ρ, u, rep, hf, he⟩ := h
  unfold dFn bindM at hf
  cases q : f ρ with
  | none => rw [q] at hf; cases hf
  | some w =>
    rw [q] at hf
    refine ⟨T, ρ, w, rep, q, ?_⟩
    cases w with
    | ex x ρ2 =>
      have : u = .ex x ρ2 := (Option.some.inj hf).symm
      subst this
      exact he
    | ok ds ρ1 =>
      intro tv vs H1 s1 l1 io r1
      obtain ⟨l2, r2⟩ := take_rep l1 io r1
      simp only at hf
      cases qF : F (takeIO ks ds ρ1).1 with
      | none => rw [qF] at hf; cases hf
      | some o =>
        rw [qF] at hf
        refine ⟨T ++ SL (takeIO ks ds ρ1).2 σ, _, o, l2, by rw [← List.append_assoc]; exact r2.rep, qF, ?_⟩
        cases o with
        | ok r as =>
          have : u = .ok r (giveIO ks as (takeIO ks ds ρ1).2) := (Option.some.inj hf).symm
          subst this
          intro v H2 l3 r3
          refine he v H2 (fun e => by cases e) ?_
          have r4 : Rep K H2 (as.zip vs ++ ((r, v) :: T)) (takeIO ks ds ρ1).2 σ := ⟨r2.len, r2.nos, by
            refine r3.perm ?_
            rw [List.append_assoc]
            exact List.perm_middle.symm⟩
          exact give_rep l3 io r4
        | ex x as =>
          have : u = .ex x (giveIO ks as (takeIO ks ds ρ1).2) := (Option.some.inj hf).symm
          subst this
          intro cls dd H2 l3 xr r3
          refine he cls dd H2 xr ?_
          have r4 : Rep K (sansD H2 dd) (as.zip vs ++ T) (takeIO ks ds ρ1).2 σ := ⟨r2.len, r2.nos, by rw [List.append_assoc]; exact r3⟩
          exact give_rep l3 io r4
theorem ve_call {ks : List (Option Nat)} {F : FnD} {f : M (List D)} {k : Nat} {fa : Addr} {fd : FuncData} {ps : List Str} {x : Str} {e : Expr} {es : List Expr} {p pos : Pos} (G : FnOk X.prog X.w X.K X.mg X.base (L2N.CX X.prog X.w) k fa fd ps (spOf X.K X.mg F)) (hr : Room k X.A) (hg : Gl X x) (hm : X.mg x = some (.ref fa))
    (hk : PySem.W.keepIn X.K (.ref fa) = true) (hb : Binds X.K fd ps []) (tk : L2N.Takes X W) (ha : VIO X W m ks (e :: es) f) (hdb : (x == ("__debug__" : Str)) = false := by decide)
    (he : starEach (e :: es) X.env = (false, eval e X.env) :: starEach es X.env := by rfl) (hpl : (backTo pos (starEach es X.env)).any (·.1) = false := by rfl) : VE X W true (.Call (.Name x p) (e :: es) [] pos) (dFn ks F f) :=
  PE.imp (pe_callS G hr hg hm hk hb (fun σ => L2N.passAt tk σ) ha hdb he hpl) fun _ _ _ h => tFn_of h
end
end VS
set_option Elab.async false
set_option linter.all false
set_option maxRecDepth 100000
set_option maxHeartbeats 4000000
set_option autoImplicit false
noncomputable section
namespace VS
open PySem PySem.Spec PyProof.Rows L2
mutual
def dat : D → Option PyData
  | .non => some .none
  | .bl b => some (.bool b)
  | .int i => some (.int i)
  | .str x => some (.str x)
  | .tup ds => (dats ds).map .tuple
  | .ktp ds => (dats ds).map .tuple
  | .lst _ ds => (dats ds).map .list
  | .scr ds => (dats ds).map .list
  | _ => none
def dats : List D → Option (List PyData)
  | [] => some []
  | d :: ds => match dat d, dats ds with
    | some x, some xs => some (x :: xs)
    | _, _ => none
end
section
variable {X : Cx} {W : WX} {K : PySem.W.Frag} {mg : Str → Option Value} {F H H1 : Hp} {T L : List (D × V)} {ρ ρ' : Env} {σ σ' σ'' : St} {m : Bool}
mutual
theorem Ow.dp (sF : Same F H) : ∀ (d : D) (v : V) (A : List Addr) (x : PyData), Ow K F H d v A → dat d = some x → Dp K H v x
  | .unk, v, A, x, h, e => by simp [dat] at e
  | .hole, v, A, x, h, e => by simp [dat] at e
  | .non, v, A, x, h, e => by
    rw [Ow] at h; rw [dat] at e; cases e; rw [h.1]; exact .non
  | .bl b, v, A, x, h, e => by
    rw [Ow] at h; rw [dat] at e; cases e; rw [h.1]; exact .bl b
  | .int i, v, A, x, h, e => by
    rw [Ow] at h; rw [dat] at e; cases e; rw [h.1]; exact .int i
  | .str z, v, A, x, h, e => by
    rw [Ow] at h; rw [dat] at e; cases e; rw [h.1]; exact .str z
  | .tup ds, v, A, x, h, e => by
    rw [Ow] at h
    obtain ⟨a, vs, rfl, q, l⟩ := h
    rw [dat] at e
    obtain ⟨xs, e1, rfl⟩ := Option.map_eq_some_iff.mp e
    exact .tup (.inl (.inl (sF _ _ q))) (OwL.dp sF ds vs A xs l e1)
  | .ktp ds, v, A, x, h, e => by
    rw [Ow] at h
    obtain ⟨a, vs, rfl, q, l⟩ := h
    rw [dat] at e
    obtain ⟨xs, e1, rfl⟩ := Option.map_eq_some_iff.mp e
    exact .tup (Same.sqT sF q) (OwL.dp sF ds vs A xs l e1)
  | .lst false ds, v, A, x, h, e => by
    rw [Ow] at h
    obtain ⟨a, vs, rfl, q, l⟩ := h
    rw [dat] at e
    obtain ⟨xs, e1, rfl⟩ := Option.map_eq_some_iff.mp e
    exact .lst (.inl (.inl (sF _ _ q))) (OwL.dp sF ds vs A xs l e1)
  | .lst true ds, v, A, x, h, e => by
    rw [Ow] at h
    obtain ⟨a, vs, A', rfl, q, l, rfl⟩ := h
    rw [dat] at e
    obtain ⟨xs, e1, rfl⟩ := Option.map_eq_some_iff.mp e
    exact .lst (.inl (.inl q)) (OwL.dp sF ds vs A' xs l e1)
  | .scr ds, v, A, x, h, e => by
    rw [Ow] at h
    obtain ⟨a, vs, rfl, q, l⟩ := h
    rw [dat] at e
    obtain ⟨xs, e1, rfl⟩ := Option.map_eq_some_iff.mp e
    exact .lst (sF.seq q) (OwL.dp sF ds vs A xs l e1)
  | .dK o ks ds, v, A, x, h, e => by simp [dat] at e
  | .dT o ks ds, v, A, x, h, e => by simp [dat] at e
  | .lK ks ds, v, A, x, h, e => by simp [dat] at e
  | .lT ks ds, v, A, x, h, e => by simp [dat] at e
  | .lck o, v, A, x, h, e => by simp [dat] at e
theorem OwL.dp (sF : Same F H) : ∀ (ds : List D) (vs : List V) (A : List Addr) (xs : List PyData), OwL K F H ds vs A → dats ds = some xs → DpAll K H vs xs
  | [], vs, A, xs, h, e => by
    rw [OwL] at h; rw [dats] at e; cases e; rw [h.1]; exact .nil
  | d :: ds, vs, A, xs, h, e => by
    rw [OwL] at h
    obtain ⟨v, r, A1, A2, rfl, rfl, h1, h2⟩ := h
    rw [dats] at e
    cases e1 : dat d with
    | none => rw [e1] at e; cases e
    | some y =>
      cases e2 : dats ds with
      | none => rw [e1, e2] at e; cases e
      | some ys =>
        rw [e1, e2] at e
        cases e
        exact .cons (Ow.dp sF d v A1 y h1 e1) (OwL.dp sF ds r A2 ys h2 e2)
end
theorem RepT.dp {d : D} {v : V} {x : PyData} (h : RepT K H ((d, v) :: L)) (e : dat d = some x) : Dp K H v x := by
  obtain ⟨F, A, sF, nd, fr, A1, A2, rfl, h1, o⟩ := h
  exact h1.dp sF _ _ _ _ e
def gInt (C : Int → Int → Bool) (f : Int → Int → Int) (x y : D) : Option D := match x, y with
  | .int i, .int j => if C i j = true then some (.int (f i j)) else none
  | _, _ => none
theorem gInt_inv {C : Int → Int → Bool} {f : Int → Int → Int} {x y d : D} (h : gInt C f x y = some d) : ∃ i j, x = .int i ∧ y = .int j ∧ C i j = true ∧ d = .int (f i j) := by
  unfold gInt at h
  split at h
  · rename_i i j
    split at h
    · rename_i z
      exact ⟨i, j, rfl, rfl, z, (Option.some.inj h).symm⟩
    · cases h
  · cases h
theorem impInt {P : Int → Int → Prop} {C : Int → Int → Bool} {f : Int → Int → Int} (hC : ∀ i j, C i j = true → P i j) : Imp2 K (rI P fun i j => .int (f i j)) (gInt C f) := by
  intro H L x y d v w Q e r h
  obtain ⟨i, j, rfl, rfl, z, rfl⟩ := gInt_inv e
  have e2 := r.eq_int
  have e1 := r.drop.eq_int
  subst e1; subst e2
  exact ⟨_, _, rfl, rfl, hC _ _ z, h _ H (Same.refl _) r.drop.drop.int⟩
theorem impInt0 {C : Int → Int → Bool} {f : Int → Int → Int} : Imp2 K (rI0 fun i j => .int (f i j)) (gInt C f) := by
  intro H L x y d v w Q e r h
  obtain ⟨i, j, rfl, rfl, z, rfl⟩ := gInt_inv e
  have e2 := r.eq_int
  have e1 := r.drop.eq_int
  subst e1; subst e2
  exact ⟨_, _, rfl, rfl, h _ H (Same.refl _) r.drop.drop.int⟩
def cT : Int → Int → Bool := fun _ _ => true
def cMul : Int → Int → Bool := fun i j => decide (in64 i) || decide (in64 j)
def cMod : Int → Int → Bool := fun _ j => decide (0 < j)
def cDiv : Int → Int → Bool := fun _ j => decide (in30 j)
def cPow : Int → Int → Bool := fun i j => decide (0 ≤ j) && decide (j ≤ 1000000) && decide (i.natAbs < 2 ^ 64)
def gMul := gInt cMul fun i j => i * j
def gMod := gInt cMod fun i j => i % j
def gDiv := gInt cDiv fun i j => i / j
def gPow := gInt cPow fun i j => i ^ j.toNat
def gSub := gInt cT fun i j => i - j
theorem impMul : Imp2 K (rI CMul fun i j => .int (i * j)) gMul := impInt fun i j h => by
  simp only [cMul, Bool.or_eq_true, decide_eq_true_eq] at h
  exact h.imp (fun z => ⟨z.lo, z.hi⟩) (fun z => ⟨z.lo, z.hi⟩)
theorem impMod : Imp2 K (rI (fun _ j => 0 < j) fun i j => .int (i % j)) gMod := impInt fun i j h => by
  simpa [cMod] using h
theorem impDiv : Imp2 K (rI CDiv fun i j => .int (i / j)) gDiv := impInt fun i j h => by
  simp only [cDiv, decide_eq_true_eq] at h
  exact ⟨h.lo, h.hi⟩
theorem impPow : Imp2 K (rI CPow fun i j => .int (i ^ j.toNat)) gPow := impInt fun i j h => by
  simp only [cPow, Bool.and_eq_true, decide_eq_true_eq] at h
  exact ⟨h.1.1, h.1.2, h.2⟩
theorem impSub : Imp2 K (rI0 fun i j => .int (i - j)) gSub := impInt0
def gAdd (x y : D) : Option D := match x, y with
  | .int i, .int j => some (.int (i + j))
  | .lst _ xs, .lst _ ys => if xs.length + ys.length ≤ sizeLine then some (.lst true (xs ++ ys)) else none
  | .tup xs, .tup ys => if xs.length + ys.length ≤ sizeLine then some (.tup (xs ++ ys)) else none
  | _, _ => none
theorem OpR.orr {f : Value → Value → Sem Value} {r r' : R2} (h : OpR X f r) (h' : OpR X f r') : OpR X f (fun x y H Q => r x y H Q ∨ r' x y H Q) :=
  fun pins s σ H x y v u Q I rx ry q => q.elim (h pins s σ H x y v u Q I rx ry) (h' pins s σ H x y v u Q I rx ry)
theorem Same.upd {p : Addr} {o : HO} (hp : H p = none) : Same H (upd H p o) := fun b u q => by rw [upd_ne (ne_of_none q hp)]; exact q
def rAdd3 (K : PySem.W.Frag) : R2 := fun x y H Q => rI0 (fun i j => .int (i + j)) x y H Q ∨ rCat x y H Q ∨ rCatA K x y H Q
theorem op_add3 : OpR X (binaryOp .Add) (rAdd3 X.K) := OpR.orr op_add (OpR.orr op_cat op_catA)
theorem zip_app {ds es : List D} {vs ws : List V} (l : ds.length = vs.length) : (ds ++ es).zip (vs ++ ws) = ds.zip vs ++ es.zip ws := List.zip_append l
theorem impAdd : Imp2 K (rAdd3 K) gAdd := by
  intro H L x y d v w Q e r h
  unfold gAdd at e
  split at e
  · cases e
    have e2 := r.eq_int
    have e1 := r.drop.eq_int
    subst e1; subst e2
    exact .inl ⟨_, _, rfl, rfl, h _ H (Same.refl _) r.drop.drop.int⟩
  · rename_i o xs o' ys
    split at e
    · rename_i z
      cases e
      obtain ⟨b, ws, rfl, hb, lb, r1⟩ := r.readL
      have r2 : RepT K H ((.lst o xs, v) :: (ys.zip ws ++ L)) := r1.perm List.perm_middle
      obtain ⟨a, vs, rfl, ha, la, r3⟩ := r2.readL
      refine .inr (.inl ⟨a, b, vs, ws, rfl, rfl, ha, hb, by omega, fun p hp => h _ _ (Same.upd hp) ?_⟩)
      refine RepT.newL (by simp [la, lb]) hp ?_
      rw [zip_app la, List.append_assoc]
      exact r3
    · cases e
  · rename_i xs ys
    split at e
    · rename_i z
      cases e
      have r0 := r
      obtain ⟨b, ws, rfl, hb, lb, r1⟩ := r.openT
      have r2 : RepT K H ((.tup xs, v) :: (ys.zip ws ++ L)) := r1.perm List.perm_middle
      obtain ⟨a, vs, rfl, ha, la, r3⟩ := r2.openT
      refine .inr (.inr ⟨a, b, vs, ws, rfl, rfl, .inl (.inl ha), .inl (.inl hb), by omega, fun e1 => ?_, fun n1 e2 => ?_, fun n1 n2 p hp => h _ _ (Same.upd hp) ?_⟩)
      · have : xs = [] := List.eq_nil_of_length_eq_zero (by rw [la, e1]; rfl)
        subst this
        have r4 : RepT K H ((.tup ([] : List D), .ref a) :: (.tup ys, .ref b) :: L) := r0.perm (.swap _ _ _)
        exact h _ H (Same.refl _) r4.drop
      · have : ys = [] := List.eq_nil_of_length_eq_zero (by rw [lb, e2]; rfl)
        subst this
        rw [List.append_nil] at h
        exact h _ H (Same.refl _) r0.drop
      · refine RepT.newT (by simp [la, lb]) hp ?_
        rw [zip_app la, List.append_assoc]
        exact r3
    · cases e
  · cases e
def gNeg (x : D) : Option D := match x with
  | .int i => some (.int (-i))
  | _ => none
theorem impNeg : Imp1 K (rU fun i => .int (-i)) gNeg := by
  intro H L x d v Q e r h
  cases x <;> simp only [gNeg, Option.some.injEq, reduceCtorEq] at e
  subst e
  have e1 := r.eq_int
  subst e1
  exact ⟨_, rfl, h _ H (Same.refl _) r.drop.int⟩
def eqD (x y : D) : Option Bool := match dat x, dat y with
  | some a, some b => if SeqAt.shaped a = true ∧ SeqAt.shaped b = true then some (PyData.eqv a b) else none
  | _, _ => none
def gEq (x y : D) : Option D := (eqD x y).map .bl
def gNe (x y : D) : Option D := (eqD x y).map fun b => .bl (!b)
theorem eqD_inv {x y : D} {b : Bool} (h : eqD x y = some b) : ∃ p q, dat x = some p ∧ dat y = some q ∧ SeqAt.shaped p = true ∧ SeqAt.shaped q = true ∧ b = PyData.eqv p q := by
  unfold eqD at h
  split at h
  · rename_i p q e1 e2
    split at h
    · rename_i z
      exact ⟨p, q, e1, e2, z.1, z.2, (Option.some.inj h).symm⟩
    · cases h
  · cases h
theorem impEq : Imp2 K (rEqD K) gEq := by
  intro H L x y d v w Q e r h
  obtain ⟨b, e1, rfl⟩ := Option.map_eq_some_iff.mp e
  obtain ⟨p, q, ep, eq, sp, sq, rfl⟩ := eqD_inv e1
  exact ⟨p, q, r.drop.dp ep, r.dp eq, sp, sq, h _ H (Same.refl _) r.drop.drop.bl⟩
theorem impNe : Imp2 K (rNeD K) gNe := by
  intro H L x y d v w Q e r h
  obtain ⟨b, e1, rfl⟩ := Option.map_eq_some_iff.mp e
  obtain ⟨p, q, ep, eq, sp, sq, rfl⟩ := eqD_inv e1
  exact ⟨p, q, r.drop.dp ep, r.dp eq, sp, sq, h _ H (Same.refl _) r.drop.drop.bl⟩
def gIsN (neg : Bool) (x y : D) : Option D := match x, y with
  | .unk, _ => none
  | .non, .non => some (.bl (!neg))
  | .hole, _ => none
  | _, .non => some (.bl neg)
  | _, _ => none
theorem gIsN_inv {neg : Bool} {x y d : D} {v w : V} (e : gIsN neg x y = some d) (r : RepT K H ((y, w) :: (x, v) :: L)) : w = .non ∧ d = .bl (if neg = true then !decide (v = .non) else decide (v = .non)) := by
  have r2 := r.drop
  cases y <;> cases x <;> simp only [gIsN, Option.some.injEq, reduceCtorEq] at e <;> subst e <;> refine ⟨r.eq_non, ?_⟩
  · rw [r2.eq_non]; cases neg <;> rfl
  · rw [r2.eq_bl]; cases neg <;> rfl
  · rw [r2.eq_int]; cases neg <;> rfl
  · rw [r2.eq_str]; cases neg <;> rfl
  · rw [r2.eq_adr]; cases neg <;> rfl
  · obtain ⟨F, A, sF, nd, fr, A1, A2, rfl, h1, o⟩ := r2
    rw [Ow] at h1
    obtain ⟨⟨a, _, _, rfl, _⟩, _⟩ := h1
    cases neg <;> rfl
  · obtain ⟨a, _, rfl, _⟩ := r2.openT; cases neg <;> rfl
  · obtain ⟨a, _, rfl, _⟩ := r2.readL; cases neg <;> rfl
  · obtain ⟨a, _, rfl, _⟩ := r2.openS; cases neg <;> rfl
  · obtain ⟨a, _, rfl, _⟩ := r2.openK; cases neg <;> rfl
  · obtain ⟨F, A, sF, nd, fr, A1, A2, rfl, h1, o⟩ := r2
    rename_i o1 _ _
    cases o1 <;> rw [Ow] at h1
    · obtain ⟨a, _, rfl, _⟩ := h1; cases neg <;> rfl
    · obtain ⟨a, _, _, rfl, _⟩ := h1; cases neg <;> rfl
  · obtain ⟨F, A, sF, nd, fr, A1, A2, rfl, h1, o⟩ := r2
    rename_i o1 _ _
    cases o1 <;> rw [Ow] at h1
    · obtain ⟨a, _, rfl, _⟩ := h1; cases neg <;> rfl
    · obtain ⟨a, _, _, rfl, _⟩ := h1; cases neg <;> rfl
  · obtain ⟨F, A, sF, nd, fr, A1, A2, rfl, h1, o⟩ := r2
    rw [Ow] at h1
    obtain ⟨a, _, rfl, _⟩ := h1; cases neg <;> rfl
  · obtain ⟨F, A, sF, nd, fr, A1, A2, rfl, h1, o⟩ := r2
    rw [Ow] at h1
    obtain ⟨a, _, rfl, _⟩ := h1; cases neg <;> rfl
  · obtain ⟨F, A, sF, nd, fr, A1, A2, rfl, h1, o⟩ := r2
    rw [Ow] at h1
    obtain ⟨⟨a, rfl, _⟩, _⟩ := h1; cases neg <;> rfl
theorem impIsN : Imp2 K (fun x y H Q => y = .non ∧ Q (.bl (decide (x = .non))) H) (gIsN false) := by
  intro H L x y d v w Q e r h
  obtain ⟨e1, rfl⟩ := gIsN_inv e r
  exact ⟨e1, h _ H (Same.refl _) r.drop.drop.bl⟩
def seqOf : D → Option (List D)
  | .lst _ ds => some ds
  | .tup ds => some ds
  | .scr ds => some ds
  | .ktp ds => some ds
  | _ => none
theorem atI_inv {α : Type} {xs : List α} {i : Int} {x : α} (e : atI xs i = some x) : ∃ j : Nat, ixN xs.length i = some j ∧ xs[j]? = some x := by
  unfold atI at e
  cases q : ixN xs.length i with
  | none => rw [q] at e; cases e
  | some j => rw [q] at e; exact ⟨j, rfl, e⟩
theorem atI_of {α β : Type} {xs : List α} {ys : List β} {i : Int} {j : Nat} {y : β} (h : xs.length = ys.length) (q : ixN xs.length i = some j) (e : ys[j]? = some y) : atI ys i = some y := by
  unfold atI
  rw [← h, q]; exact e
theorem get_len {α β : Type} {xs : List α} {ys : List β} (h : xs.length = ys.length) {j : Nat} {x : α} (e : xs[j]? = some x) : ∃ y, ys[j]? = some y := by
  have hj := (List.getElem?_eq_some_iff.mp e).1
  exact ⟨ys[j]'(by omega), List.getElem?_eq_getElem _⟩
def gIx (x y : D) : Option D := match seqOf x, y with
  | some ds, .int i => atI ds i
  | _, _ => none
theorem RepT.seq {x : D} {ds : List D} {v : V} (e : seqOf x = some ds) (r : RepT K H ((x, v) :: L)) : ∃ a vs, v = .ref a ∧ (SqL K H a vs ∨ SqT K H a vs) ∧ ds.length = vs.length ∧ RepT K H (ds.zip vs ++ L) := by
  cases x <;> simp only [seqOf, Option.some.injEq, reduceCtorEq] at e <;> subst e
  · obtain ⟨a, vs, e, q, l, r2⟩ := r.openT
    exact ⟨a, vs, e, .inr (.inl (.inl q)), l, r2⟩
  · obtain ⟨a, vs, e, q, l, r2⟩ := r.readL
    exact ⟨a, vs, e, .inl (.inl (.inl q)), l, r2⟩
  · obtain ⟨a, vs, e, q, l, r2⟩ := r.openS
    exact ⟨a, vs, e, .inl q, l, r2⟩
  · obtain ⟨a, vs, e, q, l, r2⟩ := r.openK
    exact ⟨a, vs, e, .inr q, l, r2⟩
theorem impIx : Imp2 K (rIx K) gIx := by
  intro H L x y d v w Q e r h
  unfold gIx at e
  split at e
  · rename_i ds i es
    have ew := r.eq_int
    subst ew
    obtain ⟨a, vs, rfl, sq, l, r2⟩ := r.drop.seq es
    obtain ⟨j, h0, h1⟩ := atI_inv e
    obtain ⟨u, h2⟩ := get_len l h1
    have h3 := atI_of l h0 h2
    have r3 := r2.pick (zip_take h1 h2)
    rcases sq with sq | sq
    · exact .inl ⟨a, vs, i, u, rfl, rfl, sq, h3, h u H (Same.refl _) r3⟩
    · exact .inr (.inl ⟨a, vs, i, u, rfl, rfl, sq, h3, h u H (Same.refl _) r3⟩)
  · cases e
theorem ve_ix {a b : Expr} {fa fb : M D} {ma mb : Bool} {pos : Pos} (ha : VE X W ma a fa) (hb : VE X W mb b fb) (hs : PlainIx b := by exact fun _ _ => rfl) : VE X W (ma || mb) (.Subscript a b pos) (d2 gIx fa fb) :=
  PE.imp (pe_ix ix_seq ha hb hs) fun _ _ _ h => tOp_of impIx h
theorem OwL.item : ∀ {ds : List D} {vs : List V} {A : List Addr} {j : Nat} {d : D}, OwL K F H ds vs A → ds[j]? = some d → fz d = true → ∃ u, vs[j]? = some u ∧ Ow K F H d u []
  | [], _, _, _, _, _, e, _ => by simp at e
  | x :: ds, vs, A, j, d, h, e, z => by
    rw [OwL] at h
    obtain ⟨v, r, A1, A2, rfl, rfl, h1, h2⟩ := h
    cases j with
    | zero =>
      have e : x = d := Option.some.inj e
      subst e
      have := h1.frozen _ _ _ z
      subst this
      exact ⟨v, rfl, h1⟩
    | succ j => exact OwL.item (ds := ds) (j := j) h2 (by simpa using e) z
theorem RepT.item {x d : D} {ds : List D} {v : V} {j : Nat} (r : RepT K H ((x, v) :: L)) (e : seqOf x = some ds) (h : ds[j]? = some d) (z : fz d = true) :
    ∃ a vs u, v = .ref a ∧ (SqL K H a vs ∨ SqT K H a vs) ∧ ds.length = vs.length ∧ vs[j]? = some u ∧ RepT K H ((d, u) :: (x, v) :: L) := by
  obtain ⟨F, A, sF, nd, fr, A1, A2, rfl, h1, o⟩ := r
  have fin : ∀ u, Ow K F H d u [] → RepT K H ((d, u) :: (x, v) :: L) := fun u hu => ⟨F, [] ++ (A1 ++ A2), sF, nd, fr, [], A1 ++ A2, rfl, hu, A1, A2, rfl, h1, o⟩
  cases x with
  | tup xs =>
    simp only [seqOf, Option.some.injEq] at e
    subst e
    have h1' := h1
    rw [Ow] at h1'
    obtain ⟨a, vs, ev, q, l⟩ := h1'
    obtain ⟨u, hu, ou⟩ := l.item h z
    exact ⟨a, vs, u, ev, .inr (.inl (.inl (sF _ _ q))), l.length, hu, fin u ou⟩
  | ktp xs =>
    simp only [seqOf, Option.some.injEq] at e
    subst e
    have h1' := h1
    rw [Ow] at h1'
    obtain ⟨a, vs, ev, q, l⟩ := h1'
    obtain ⟨u, hu, ou⟩ := l.item h z
    exact ⟨a, vs, u, ev, .inr (Same.sqT sF q), l.length, hu, fin u ou⟩
  | lst b xs =>
    simp only [seqOf, Option.some.injEq] at e
    subst e
    have h1' := h1
    cases b <;> rw [Ow] at h1'
    · obtain ⟨a, vs, ev, q, l⟩ := h1'
      obtain ⟨u, hu, ou⟩ := l.item h z
      exact ⟨a, vs, u, ev, .inl (.inl (.inl (sF _ _ q))), l.length, hu, fin u ou⟩
    · obtain ⟨a, vs, A', ev, q, l, _⟩ := h1'
      obtain ⟨u, hu, ou⟩ := l.item h z
      exact ⟨a, vs, u, ev, .inl (.inl (.inl q)), l.length, hu, fin u ou⟩
  | scr xs =>
    simp only [seqOf, Option.some.injEq] at e
    subst e
    have h1' := h1
    rw [Ow] at h1'
    obtain ⟨a, vs, ev, q, l⟩ := h1'
    obtain ⟨u, hu, ou⟩ := l.item h z
    exact ⟨a, vs, u, ev, .inl (sF.seq q), l.length, hu, fin u ou⟩
  | _ => cases e
def dIxS (i : Nat) (f : M D) : M D := fun ρ0 => match ρ0[i]? with
  | none => none
  | some .unk => none
  | some _ => bindM f (fun y ρ => match (ρ.getD i .unk), y with
    | x, .int k => match seqOf x with
      | some ds => match atI ds k with
        | some d => if fz d = true then some (.ok d ρ) else none
        | none => none
      | none => none
    | _, _ => none) ρ0
theorem ve_ixS {a b : Expr} {i : Nat} {f : M D} {pos : Pos} (ha : PE X a (tVar i)) (hb : VE X W m b f) (hs : PlainIx b := by exact fun _ _ => rfl) : VE X W m (.Subscript a b pos) (dIxS i f) := by
  refine PE.imp (pe_ix ix_seq ha hb hs) fun σ H Q ⟨T, ρ, u, rep, hf, he⟩ => ?_
  unfold dIxS at hf
  cases q : ρ[i]? with
  | none => rw [q] at hf; cases hf
  | some x0 =>
    have n : x0 ≠ .unk := fun e => by rw [q, e] at hf; cases hf
    obtain ⟨v, hv⟩ := rep.slot q n
    refine ⟨v, hv, ?_⟩
    have hf' := hf
    rw [q] at hf'
    have hf2 : bindM f (fun y ρ => match (ρ.getD i .unk), y with
      | x, .int k => match seqOf x with
        | some ds => match atI ds k with
          | some d => if fz d = true then some (.ok d ρ) else none
          | none => none
        | none => none
      | _, _ => none) ρ = some u := by
      cases x0 <;> first | exact hf' | exact absurd rfl n
    refine run1 rep hf2 he fun y ρ1 w H1 h1 s1 r1 => ?_
    cases y <;> simp only [reduceCtorEq] at h1
    rename_i k
    have ew := r1.rep.eq_int
    subst ew
    cases q2 : seqOf (ρ1.getD i .unk) with
    | none => rw [q2] at h1; cases h1
    | some ds =>
      rw [q2] at h1
      simp only at h1
      cases q3 : atI ds k with
      | none => rw [q3] at h1; cases h1
      | some d =>
        rw [q3] at h1
        simp only at h1
        by_cases z : fz d = true
        · rw [if_pos z] at h1
          have : u = .ok d ρ1 := (Option.some.inj h1).symm
          subst this
          have hi : i < ρ1.length := by
            rw [r1.len]; exact (List.getElem?_eq_some_iff.mp hv).1
          have e1 : ρ1[i]? = some (ρ1.getD i .unk) := by
            rw [List.getD_eq_getElem?_getD, List.getElem?_eq_getElem hi]; rfl
          obtain ⟨j, h0, h2⟩ := atI_inv q3
          have g := SL_get e1 hv
          have p : (T ++ SL ρ1 σ).Perm ((ρ1.getD i .unk, v) :: (T ++ (SL ρ1 σ).eraseIdx i)) := ((perm_erase g).append_left T).trans List.perm_middle
          obtain ⟨a, vs, u, rfl, sq, l, h3, r6⟩ := RepT.item (r1.drop.rep.perm p) q2 h2 z
          have fin : Rep X.K H1 ((d, u) :: T) ρ1 σ := ⟨r1.len, r1.nos, r6.perm (p.symm.cons _)⟩
          have h4 := atI_of l h0 h3
          rcases sq with sq | sq
          · exact .inl ⟨a, vs, k, u, rfl, rfl, sq, h4, he u H1 s1 fin⟩
          · exact .inr (.inl ⟨a, vs, k, u, rfl, rfl, sq, h4, he u H1 s1 fin⟩)
        · rw [if_neg z] at h1; cases h1
end
end VS
set_option Elab.async false
set_option linter.all false
set_option maxRecDepth 100000
set_option maxHeartbeats 4000000
set_option autoImplicit false
noncomputable section
namespace VS
open PySem PySem.Spec PyProof.Rows L2
section
variable {X : Cx} {W : WX} {K : PySem.W.Frag} {mg : Str → Option Value} {F H H1 : Hp} {T L : List (D × V)} {ρ ρ' : Env} {σ σ' σ'' : St} {m : Bool}
theorem CallR.orr {f : Value} {r r' : List V → Hp → VK → Prop} (h : CallR X f r) (h' : CallR X f r') : CallR X f (fun x H Q => r x H Q ∨ r' x H Q) :=
  fun pins s σ H xs us Q I rx q => q.elim (h pins s σ H xs us Q I rx) (h' pins s σ H xs us Q I rx)
def lenD : D → Option Nat
  | .str x => if x.length ≤ sizeLine then some x.length else none
  | .dK _ ks _ => some ks.length
  | .dT _ ks _ => some ks.length
  | d => (seqOf d).map List.length
def gLen (ds : List D) : Option D := match ds with
  | [d] => (lenD d).map fun (n : Nat) => D.int (n : Int)
  | _ => none
def rLen (K : PySem.W.Frag) : List V → Hp → VK → Prop := fun xs H Q => (∃ x n, xs = [x] ∧ LenV K x H n ∧ Q (.int n) H) ∨ (∃ a kvs, xs = [V.ref a] ∧ H a = some (.dK kvs) ∧ Q (.int kvs.length) H) ∨ rLenT xs H Q
theorem call_lenA : CallR X (.builtin "len") (rLen X.K) := CallR.orr call_len (CallR.orr call_lenD call_len_dT)
theorem RepT.dK {o : Bool} {ks : List Key} {ds : List D} {v : V} (h : RepT K H ((.dK o ks ds, v) :: L)) : ∃ a vs, v = .ref a ∧ H a = some (.dK (ks.zip vs)) ∧ ks.length = ds.length ∧ ks.Nodup ∧ ds.length = vs.length ∧ RepT K H (ds.zip vs ++ L) := by
  obtain ⟨F, A, sF, nd, fr, A1, A2, rfl, h1, ow⟩ := h
  cases o <;> rw [Ow] at h1
  · obtain ⟨a, vs, rfl, q, n, l⟩ := h1
    exact ⟨a, vs, rfl, sF _ _ q, n.1, n.2, l.length, F, A1 ++ A2, sF, nd, fr, l.toT.append ow⟩
  · obtain ⟨a, vs, A', rfl, q, n, l, rfl⟩ := h1
    have nd2 : (a :: (A' ++ A2)).Nodup := nd
    exact ⟨a, vs, rfl, q, n.1, n.2, l.length, F, A' ++ A2, sF, (List.nodup_cons.mp nd2).2, fun b hb => fr b (List.mem_cons_of_mem _ hb), l.toT.append ow⟩
theorem RepT.dT {o : Bool} {ks : List (List Key)} {ds : List D} {v : V} (h : RepT K H ((.dT o ks ds, v) :: L)) : ∃ a vs, v = .ref a ∧ H a = some (.dT (ks.zip vs)) ∧ ks.length = ds.length ∧ ks.Nodup ∧ ds.length = vs.length ∧ RepT K H (ds.zip vs ++ L) := by
  obtain ⟨F, A, sF, nd, fr, A1, A2, rfl, h1, ow⟩ := h
  cases o <;> rw [Ow] at h1
  · obtain ⟨a, vs, rfl, q, n, l⟩ := h1
    exact ⟨a, vs, rfl, sF _ _ q, n.1, n.2, l.length, F, A1 ++ A2, sF, nd, fr, l.toT.append ow⟩
  · obtain ⟨a, vs, A', rfl, q, n, l, rfl⟩ := h1
    have nd2 : (a :: (A' ++ A2)).Nodup := nd
    exact ⟨a, vs, rfl, q, n.1, n.2, l.length, F, A' ++ A2, sF, (List.nodup_cons.mp nd2).2, fun b hb => fr b (List.mem_cons_of_mem _ hb), l.toT.append ow⟩
theorem gLen_rd {d : D} {n : Nat} {v : V} {Q : VK} (e : lenD d = some n) (r : RepT K H ((d, v) :: L)) (h : Q (.int n) H) : rLen K [v] H Q := by
  have seq : ∀ {ds : List D}, seqOf d = some ds → n = ds.length → rLen K [v] H Q := fun {ds} es en => by
    obtain ⟨a, vs, rfl, sq, l, r2⟩ := r.seq es
    refine .inl ⟨.ref a, n, rfl, ?_, h⟩
    rcases sq with sq | sq
    · exact .inl ⟨vs, sq, by omega⟩
    · exact .inr ⟨vs, sq, by omega⟩
  cases d with
  | str x =>
    simp only [lenD] at e
    split at e
    · rename_i z
      have ev := r.eq_str
      subst ev
      exact .inl ⟨.str x, n, rfl, ⟨z, (Option.some.inj e).symm⟩, h⟩
    · cases e
  | dK o ks ds =>
    have en : n = ks.length := (Option.some.inj e).symm
    obtain ⟨a, vs, rfl, q, l1, _, l2, _⟩ := r.dK
    refine .inr (.inl ⟨a, _, rfl, q, ?_⟩)
    have : (ks.zip vs).length = n := by rw [List.length_zip]; omega
    rw [this]; exact h
  | dT o ks ds =>
    have en : n = ks.length := (Option.some.inj e).symm
    obtain ⟨a, vs, rfl, q, l1, _, l2, _⟩ := r.dT
    refine .inr (.inr ⟨a, _, rfl, q, ?_⟩)
    have : (ks.zip vs).length = n := by rw [List.length_zip]; omega
    rw [this]; exact h
  | tup ds => exact seq rfl (Option.some.inj e).symm
  | lst o ds => exact seq rfl (Option.some.inj e).symm
  | scr ds => exact seq rfl (Option.some.inj e).symm
  | ktp ds => exact seq rfl (Option.some.inj e).symm
  | _ => cases e
def gAbs (ds : List D) : Option D := match ds with
  | [.int i] => some (.int (if i < 0 then -i else i))
  | _ => none
def gMax2 (ds : List D) : Option D := match ds with
  | [.int i, .int j] => some (.int (if j > i then j else i))
  | _ => none
def gMin2 (ds : List D) : Option D := match ds with
  | [.int i, .int j] => some (.int (if j < i then j else i))
  | _ => none
def intOf : D → Option Int
  | .int i => some i
  | _ => none
def allI : List D → Option (List Int)
  | [] => some []
  | .int i :: ds => (allI ds).map (i :: ·)
  | _ => none
def allB : List D → Option (List Bool)
  | [] => some []
  | .bl i :: ds => (allB ds).map (i :: ·)
  | _ => none
theorem allI_eq : ∀ {ds : List D} {ns : List Int}, allI ds = some ns → ds = ns.map D.int
  | [], ns, h => by simp only [allI, Option.some.injEq] at h; subst h; rfl
  | .int i :: ds, ns, h => by
    rw [allI] at h
    obtain ⟨ms, e, rfl⟩ := Option.map_eq_some_iff.mp h
    rw [allI_eq e]; rfl
  | .unk :: _, _, h => by simp [allI] at h
  | .hole :: _, _, h => by simp [allI] at h
  | .non :: _, _, h => by simp [allI] at h
  | .bl _ :: _, _, h => by simp [allI] at h
  | .str _ :: _, _, h => by simp [allI] at h
  | .adr _ :: _, _, h => by simp [allI] at h
  | .exo _ _ :: _, _, h => by simp [allI] at h
  | .tup _ :: _, _, h => by simp [allI] at h
  | .lst _ _ :: _, _, h => by simp [allI] at h
  | .scr _ :: _, _, h => by simp [allI] at h
  | .ktp _ :: _, _, h => by simp [allI] at h
  | .dK _ _ _ :: _, _, h => by simp [allI] at h
  | .dT _ _ _ :: _, _, h => by simp [allI] at h
theorem allI_map : ∀ ns : List Int, allI (ns.map D.int) = some ns
  | [] => rfl
  | n :: ns => by rw [List.map_cons, allI, allI_map ns]; rfl
theorem allB_eq : ∀ {ds : List D} {ns : List Bool}, allB ds = some ns → ds = ns.map D.bl
  | [], ns, h => by simp only [allB, Option.some.injEq] at h; subst h; rfl
  | .bl i :: ds, ns, h => by
    rw [allB] at h
    obtain ⟨ms, e, rfl⟩ := Option.map_eq_some_iff.mp h
    rw [allB_eq e]; rfl
  | .unk :: _, _, h => by simp [allB] at h
  | .hole :: _, _, h => by simp [allB] at h
  | .non :: _, _, h => by simp [allB] at h
  | .int _ :: _, _, h => by simp [allB] at h
  | .str _ :: _, _, h => by simp [allB] at h
  | .adr _ :: _, _, h => by simp [allB] at h
  | .exo _ _ :: _, _, h => by simp [allB] at h
  | .tup _ :: _, _, h => by simp [allB] at h
  | .lst _ _ :: _, _, h => by simp [allB] at h
  | .scr _ :: _, _, h => by simp [allB] at h
  | .ktp _ :: _, _, h => by simp [allB] at h
  | .dK _ _ _ :: _, _, h => by simp [allB] at h
  | .dT _ _ _ :: _, _, h => by simp [allB] at h
theorem zip_int {ns : List Int} : ∀ {vs : List V} {L : List (D × V)}, ns.length = vs.length → RepT K H ((ns.map D.int).zip vs ++ L) → vs = ns.map V.int := by
  induction ns with
  | nil => intro vs L l r; exact List.eq_nil_of_length_eq_zero l.symm
  | cons n ns ih =>
    intro vs L l r
    cases vs with
    | nil => cases l
    | cons v vs =>
      have r1 : RepT K H ((.int n, v) :: ((ns.map D.int).zip vs ++ L)) := r
      rw [r1.eq_int, ih (Nat.succ.inj l) r1.drop]; rfl
theorem zip_bl {ns : List Bool} : ∀ {vs : List V} {L : List (D × V)}, ns.length = vs.length → RepT K H ((ns.map D.bl).zip vs ++ L) → vs = ns.map V.bl := by
  induction ns with
  | nil => intro vs L l r; exact List.eq_nil_of_length_eq_zero l.symm
  | cons n ns ih =>
    intro vs L l r
    cases vs with
    | nil => cases l
    | cons v vs =>
      have r1 : RepT K H ((.bl n, v) :: ((ns.map D.bl).zip vs ++ L)) := r
      rw [r1.eq_bl, ih (Nat.succ.inj l) r1.drop]; rfl
def lstOf : D → Option (List D)
  | .lst _ ds => some ds
  | .scr ds => some ds
  | _ => none
theorem RepT.list {x : D} {ds : List D} {v : V} (e : lstOf x = some ds) (r : RepT K H ((x, v) :: L)) : ∃ a vs, v = .ref a ∧ SqL K H a vs ∧ ds.length = vs.length ∧ RepT K H (ds.zip vs ++ L) := by
  cases x <;> simp only [lstOf, Option.some.injEq, reduceCtorEq] at e <;> subst e
  · obtain ⟨a, vs, e, q, l, r2⟩ := r.readL
    exact ⟨a, vs, e, .inl (.inl q), l, r2⟩
  · exact r.openS
def gSum (ds : List D) : Option D := match ds with
  | [x] => (lstOf x).bind fun xs => (allI xs).map fun ns => .int ns.sum
  | _ => none
def gAll (ds : List D) : Option D := match ds with
  | [x] => (lstOf x).bind fun xs => (allB xs).map fun ns => .bl (ns.all id)
  | _ => none
def gTuple (ds : List D) : Option D := match ds with
  | [.ktp xs] => some (.ktp xs)
  | [x] => (seqOf x).map fun xs => .tup xs
  | _ => none
theorem impTuple : ImpA K (fun xs H Q => ∃ p ys, xs = [.ref p] ∧ ((SqL K H p ys ∧ ∀ l, H l = none → Q (.ref l) (upd H l (.tup ys))) ∨ (SqT K H p ys ∧ Q (.ref p) H))) gTuple := by
  intro H L ds vs d Q e l r h
  unfold gTuple at e
  split at e
  · cases e
    obtain ⟨v, rfl⟩ := len1 l
    have r1 : RepT K H ((.ktp _, v) :: L) := r
    obtain ⟨a, ws, rfl, sq, l2, r2⟩ := r1.openK
    exact ⟨a, ws, rfl, .inr ⟨sq, h _ H (Same.refl _) r1⟩⟩
  · rename_i x nk
    obtain ⟨xs, e1, rfl⟩ := Option.map_eq_some_iff.mp e
    obtain ⟨v, rfl⟩ := len1 l
    have r1 : RepT K H ((x, v) :: L) := r
    cases x with
    | tup ys =>
      simp only [seqOf, Option.some.injEq] at e1
      subst e1
      obtain ⟨a, ws, rfl, sq, l2, r2⟩ := r1.openT
      exact ⟨a, ws, rfl, .inr ⟨.inl (.inl sq), h _ H (Same.refl _) r1⟩⟩
    | lst o ys =>
      simp only [seqOf, Option.some.injEq] at e1
      subst e1
      obtain ⟨a, ws, rfl, sq, l2, r2⟩ := r1.readL
      exact ⟨a, ws, rfl, .inl ⟨.inl (.inl sq), fun p hp => h _ _ (Same.upd hp) (RepT.newT l2 hp r2)⟩⟩
    | scr ys =>
      simp only [seqOf, Option.some.injEq] at e1
      subst e1
      obtain ⟨a, ws, rfl, sq, l2, r2⟩ := r1.openS
      exact ⟨a, ws, rfl, .inl ⟨sq, fun p hp => h _ _ (Same.upd hp) (RepT.newT l2 hp r2)⟩⟩
    | ktp ys => exact absurd rfl (nk ys)
    | _ => cases e1
  · cases e
def cutD (xs : List D) (lo hi : Option Int) : List D := (xs.drop (HT.sIx xs.length 0 lo)).take (HT.sIx xs.length xs.length hi - HT.sIx xs.length 0 lo)
def gSlice (x : D) (lo hi : Option Int) : Option D := match x with
  | .lst _ ds => some (.lst true (cutD ds lo hi))
  | .scr ds => some (.lst true (cutD ds lo hi))
  | .tup ds => some (.tup (cutD ds lo hi))
  | _ => none
theorem cut_perm {xs : List D} {vs : List V} (l : xs.length = vs.length) (lo hi : Option Int) : (cutD xs lo hi).length = (cutV vs lo hi).length ∧ ∃ R, (xs.zip vs).Perm ((cutD xs lo hi).zip (cutV vs lo hi) ++ R) := by
  unfold cutD cutV
  rw [l]
  generalize HT.sIx vs.length 0 lo = a
  generalize HT.sIx vs.length vs.length hi - a = n
  refine ⟨by simp [l], (xs.zip vs).take a ++ ((xs.zip vs).drop a).drop n, ?_⟩
  have e1 : ((xs.drop a).take n).zip ((vs.drop a).take n) = ((xs.zip vs).drop a).take n := by
    unfold List.zip
    rw [List.drop_zipWith, List.take_zipWith]
  rw [e1]
  have e2 : xs.zip vs = (xs.zip vs).take a ++ (((xs.zip vs).drop a).take n ++ ((xs.zip vs).drop a).drop n) := by
    rw [List.take_append_drop, List.take_append_drop]
  rw (occs := .pos [1]) [e2]
  rw [← List.append_assoc, ← List.append_assoc]
  exact List.perm_append_comm.append_right _
theorem cut_rep {xs : List D} {vs : List V} {lo hi : Option Int} (l : xs.length = vs.length) (r : RepT K H (xs.zip vs ++ L)) : RepT K H ((cutD xs lo hi).zip (cutV vs lo hi) ++ L) := by
  obtain ⟨_, R, p⟩ := cut_perm l lo hi
  have r2 := r.perm (p.append_right L)
  have r3 : RepT K H (R ++ ((cutD xs lo hi).zip (cutV vs lo hi) ++ L)) := r2.perm (by
    rw [← List.append_assoc]
    exact List.perm_append_comm.append_right L)
  exact r3.dropL
theorem SlR.orr {r r' : V → Option Int → Option Int → Hp → VK → Prop} (h : L2.SlR X r) (h' : L2.SlR X r') : L2.SlR X (fun x lo hi H Q => r x lo hi H Q ∨ r' x lo hi H Q) := L2.SlR.or h h'
def VO (X : Cx) (W : WX) (m : Bool) (e : Option Expr) (f : M (Option Int)) : Prop := PO X e (fun σ H Q => ∃ T ρ r, Rep X.K H T ρ σ ∧ f ρ = some r ∧ endR X.K X.mg W T σ (fun o ρ' => ∀ H', (m = false → Same H H') → Rep X.K H' T ρ' σ → Q o H') r)
theorem PO.imp {e : Option Expr} {t t' : TO} (h : PO X e t) (i : ∀ σ H Q, t' σ H Q → t σ H Q) : PO X e t' := ⟨fun pins s σ H Q I q => h.run pins s σ H Q I (i σ H Q q)⟩
def dNo : M (Option Int) := retM none
def dEnd (f : M D) : M (Option Int) := bindM f fun d => optM ((intOf d).map some)
theorem vo_none : VO X W false none dNo := PO.imp po_none fun σ H Q ⟨T, ρ, u, rep, hf, he⟩ => by
  have : u = .ok none ρ := (Option.some.inj hf).symm
  subst this
  exact he H (fun _ => Same.refl _) rep
theorem vo_some {e : Expr} {f : M D} (h : VE X W m e f) : VO X W m (some e) (dEnd f) := by
  refine PO.imp (po_some h) fun σ H Q ⟨T, ρ, u, rep, hf, he⟩ => ?_
  refine run1 rep hf he fun d ρ1 v H1 h1 s1 r1 => ?_
  obtain ⟨o, e, rfl⟩ := optM_some h1
  cases d <;> simp only [intOf, Option.map_none, Option.map_some, Option.some.injEq, reduceCtorEq] at e
  subst e
  have e1 := r1.rep.eq_int
  subst e1
  exact ⟨_, rfl, he H1 s1 r1.drop⟩
def dSl (fa : M D) (fl fh : M (Option Int)) : M D := bindM fa fun x => bindM fl fun lo => bindM fh fun hi => optM (gSlice x lo hi)
theorem ve_slice {e : Expr} {lo hi : Option Expr} {fa : M D} {fl fh : M (Option Int)} {ma ml mh : Bool} {p2 pos : Pos} (ha : VE X W ma e fa) (hl : VO X W ml lo fl) (hh : VO X W mh hi fh) : VE X W (ma || ml || mh) (.Subscript e (.Slice lo hi none p2) pos) (dSl fa fl fh) := by
  refine PE.imp (pe_slice (SlR.orr sl_list sl_tupA) ha hl hh) fun σ H Q ⟨T, ρ, u, rep, hf, he⟩ => ?_
  refine run1 rep hf he fun x ρ1 v H1 h1 s1 r1 => ?_
  unfold bindM at h1
  cases q1 : fl ρ1 with
  | none => rw [q1] at h1; cases h1
  | some w1 =>
    rw [q1] at h1
    refine ⟨_, ρ1, w1, r1, q1, ?_⟩
    cases w1 with
    | ex z ρ2 =>
      have : u = .ex z ρ2 := (Option.some.inj h1).symm
      subst this
      exact exE.push he
    | ok lo ρ2 =>
      intro H2 s2 r2
      simp only at h1
      cases q2 : fh ρ2 with
      | none => rw [q2] at h1; cases h1
      | some w2 =>
        rw [q2] at h1
        refine ⟨_, ρ2, w2, r2, q2, ?_⟩
        cases w2 with
        | ex z ρ3 =>
          have : u = .ex z ρ3 := (Option.some.inj h1).symm
          subst this
          exact exE.push he
        | ok hi ρ3 =>
          intro H3 s3 r3
          obtain ⟨d, e, rfl⟩ := optM_some h1
          have sm := sm_or (sm_or s1 s2) s3
          cases x with
          | lst o ds =>
            simp only [gSlice, Option.some.injEq] at e
            subst e
            obtain ⟨a, vs, rfl, sq, l, rr⟩ := RepT.readL r3.rep
            exact .inl ⟨a, vs, rfl, .inl (.inl sq), fun p hp => he _ _ (sm_r sm (Same.upd hp)) ⟨r3.len, r3.nos, RepT.newL (cut_perm l lo hi).1 hp (cut_rep l rr)⟩⟩
          | scr ds =>
            simp only [gSlice, Option.some.injEq] at e
            subst e
            obtain ⟨a, vs, rfl, sq, l, rr⟩ := RepT.openS r3.rep
            exact .inl ⟨a, vs, rfl, sq, fun p hp => he _ _ (sm_r sm (Same.upd hp)) ⟨r3.len, r3.nos, RepT.newL (cut_perm l lo hi).1 hp (cut_rep l rr)⟩⟩
          | tup ds =>
            simp only [gSlice, Option.some.injEq] at e
            subst e
            obtain ⟨a, vs, rfl, sq, l, rr⟩ := RepT.openT r3.rep
            refine .inr ⟨a, vs, rfl, .inl (.inl sq), fun z => ?_, fun z p hp => he _ _ (sm_r sm (Same.upd hp)) ⟨r3.len, r3.nos, RepT.newT (cut_perm l lo hi).1 hp (cut_rep l rr)⟩⟩
            have : cutD ds lo hi = ds := by
              unfold cutD
              rw [l, z.1, z.2]
              rw [List.drop_zero, Nat.sub_zero, ← l, List.take_length]
            rw [this] at he
            exact he _ H3 sm r3
          | _ => cases e
def leD (x y : D) : Bool := PySem.W.dataLe false (fun d => (dat d).getD .none) x y
def alikeB (es : List PyData) : Bool := es.all fun x => es.all fun y => PySem.W.alike x y
def sortB (es : List PyData) : Bool := (es.all fun d => match d with | .tuple (_ :: _) => true | _ => false) || es.all fun d => match d with | .none => false | .tuple _ => false | _ => true
def sortD (ds : List D) : Option (List D) := match dats ds with
  | none => none
  | some es => if (alikeB es && sortB es && es.all fun e => decide (e.depth ≤ 60)) = true ∧ ds.length ≤ sizeLine then some (ds.mergeSort leD) else none
theorem alikeB_ok {es : List PyData} (h : alikeB es = true) : PySem.W.AllAlike es := fun d hd d' hd' => by
  unfold alikeB at h
  rw [List.all_eq_true] at h
  have := h d hd
  rw [List.all_eq_true] at this
  exact this d' hd'
theorem sortB_ok {es : List PyData} (h : sortB es = true) : PySem.W.Sortable es := by
  unfold sortB at h
  rw [Bool.or_eq_true, List.all_eq_true, List.all_eq_true] at h
  rcases h with h | h
  · refine .inl fun d hd => ?_
    have := h d hd
    split at this
    · exact ⟨_, _, rfl⟩
    · cases this
  · refine .inr fun d hd => ?_
    have := h d hd
    split at this
    · cases this
    · cases this
    · rename_i n1 n2
      exact ⟨n1, n2⟩
def rSortA (K : PySem.W.Frag) : List V → Hp → VK → Prop := fun xs H Q => ∃ (a : Addr) (ps : List (D × V)) (es : List PyData), xs = [.ref a] ∧ SqL K H a (ps.map (·.2)) ∧ ps.length ≤ sizeLine ∧
  dats (ps.map (·.1)) = some es ∧ DpAll K H (ps.map (·.2)) es ∧ PySem.W.AllAlike es ∧ PySem.W.Sortable es ∧ (∀ e ∈ es, e.depth ≤ 60) ∧ ∀ p, H p = none → Q (.ref p) (upd H p (.lst ((ps.mergeSort fun x y => leD x.1 y.1).map (·.2))))
theorem dats_eq : ∀ {ds : List D} {es : List PyData}, dats ds = some es → es = ds.map fun d => (dat d).getD .none
  | [], es, h => by rw [dats] at h; cases h; rfl
  | d :: ds, es, h => by
    rw [dats] at h
    cases e1 : dat d with
    | none => rw [e1] at h; cases h
    | some y =>
      cases e2 : dats ds with
      | none => rw [e1, e2] at h; cases h
      | some ys =>
        rw [e1, e2] at h
        cases h
        rw [List.map_cons, e1, dats_eq e2]; rfl
theorem each_rel : ∀ {ps : List (D × V)} {its : List Value}, Vals (ps.map (·.2)) its → PySem.W.EachIs (fun v (p : D × V) => RelV p.2 v) its ps
  | [], _, .nil => .nil
  | p :: ps, _, .cons r t => .cons r (each_rel t)
theorem each_back : ∀ {ps : List (D × V)} {its : List Value}, PySem.W.EachIs (fun v (p : D × V) => RelV p.2 v) its ps → Vals (ps.map (·.2)) its
  | _, _, .nil => .nil
  | _, _, .cons r t => .cons r (each_back t)
theorem each_reads {pins : List (Addr × Obj)} {s : Shared} (I : Inv X pins σ H s) : ∀ {ps : List (D × V)} {its : List Value} {es : List PyData}, dats (ps.map (·.1)) = some es → DpAll X.K H (ps.map (·.2)) es → Vals (ps.map (·.2)) its →
    PySem.W.EachIs (fun v (p : D × V) => ∃ as, Reads s.heap v ((dat p.1).getD .none) as) its ps
  | [], _, _, _, _, .nil => .nil
  | p :: ps, _, es, h, hd, .cons r t => by
    rw [List.map_cons, dats] at h
    cases e1 : dat p.1 with
    | none => rw [e1] at h; cases h
    | some y =>
      cases e2 : dats (ps.map (·.1)) with
      | none => rw [e1, e2] at h; cases h
      | some ys =>
        rw [e1, e2] at h
        cases h
        cases hd with
        | cons d1 d2 => exact .cons (by rw [e1]; exact Dp.reads I _ _ _ d1 r) (each_reads I e2 d2 t)
theorem cr_sortA (hu : X.A.units + 64 < cLine) : CallR X (.builtin "sorted") (rSortA X.K) := by
  intro pins s σ H xs us Q I r h
  obtain ⟨a, ps, es, rfl, hs, hz, he, hd, hal, hso, hdp, q⟩ := h
  obtain ⟨its, rv, hl, _⟩ := I.list hs
  rw [Vals.ref1 r]
  have ee := dats_eq he
  have em : ps.map (fun p : D × V => (dat p.1).getD .none) = es := by rw [ee, List.map_map]; rfl
  refine PySem.W.sorted_data (R := fun v (p : D × V) => RelV p.2 v) (enc := fun p : D × V => (dat p.1).getD .none) (bs := ps) hl.isList (each_rel rv) (each_reads I he hd rv) (by rw [em]; exact hal) (by rw [em]; exact hso) hz (fun b hb => ?_) fun out hlen ho => ?_
  · have : (dat b.1).getD .none ∈ es := by rw [← em]; exact List.mem_map.mpr ⟨b, hb, rfl⟩
    have := hdp _ this
    omega
  · obtain ⟨ep, he'⟩ := PyProof.Rows.sortedAll_at s.heap its out.toArray
    have vo := each_back ho
    have hlen2 : ((ps.mergeSort fun x y => leD x.1 y.1).map (·.2)).length ≤ sizeLine := by rw [List.length_map, List.length_mergeSort]; exact hz
    exact ⟨.ref _, upd H (s.heap.objs.size + 1) (.lst ((ps.mergeSort fun x y => leD x.1 y.1).map (·.2))), I.laid (t' := s.toks) (fun _ _ => PyProof.Rows.sortedAll_old) (Nat.le_succ _) ⟨hlen2, out, ep, vo, he'⟩, rfl, q _ (I.hok.fresh (Nat.le_succ _))⟩
def gSort (ds : List D) : Option D := match ds with
  | [x] => (lstOf x).bind fun xs => (sortD xs).map fun ys => .lst true ys
  | _ => none
theorem zip_fst {ds : List D} {vs : List V} (l : ds.length = vs.length) : (ds.zip vs).map (·.1) = ds := by
  rw [List.map_fst_zip (by omega)]
theorem zip_snd {ds : List D} {vs : List V} (l : ds.length = vs.length) : (ds.zip vs).map (·.2) = vs := by
  rw [List.map_snd_zip (by omega)]
theorem zip_maps (ps : List (D × V)) : (ps.map (·.1)).zip (ps.map (·.2)) = ps := by
  induction ps with
  | nil => rfl
  | cons p ps ih => rw [List.map_cons, List.map_cons, List.zip_cons_cons, ih]
theorem RepT.dpAll {ds : List D} {vs : List V} {es : List PyData} (l : ds.length = vs.length) (r : RepT K H (ds.zip vs ++ L)) (e : dats ds = some es) : DpAll K H vs es := by
  obtain ⟨F, A, sF, nd, fr, o⟩ := r
  obtain ⟨A1, A2, rfl, o1, _⟩ := o.split
  exact (o1.toL l).dp sF _ _ _ _ e
theorem impSort : ImpA K (rSortA K) gSort := by
  intro H L ds vs d Q e l r h
  unfold gSort at e
  split at e
  · rename_i x
    obtain ⟨xs, e1, e2⟩ := Option.bind_eq_some_iff.mp e
    obtain ⟨ys, e3, rfl⟩ := Option.map_eq_some_iff.mp e2
    obtain ⟨v, rfl⟩ := len1 l
    have r1 : RepT K H ((x, v) :: L) := r
    obtain ⟨a, ws, rfl, sq, l2, r2⟩ := r1.list e1
    unfold sortD at e3
    split at e3
    · cases e3
    · rename_i es ed
      split at e3
      · rename_i z
        cases e3
        obtain ⟨z1, z2⟩ := z
        rw [Bool.and_eq_true, Bool.and_eq_true, List.all_eq_true] at z1
        have es1 : (xs.zip ws).map (·.1) = xs := zip_fst l2
        have es2 : (xs.zip ws).map (·.2) = ws := zip_snd l2
        refine ⟨a, xs.zip ws, es, rfl, by rw [es2]; exact sq, by rw [List.length_zip]; omega, by rw [es1]; exact ed, by rw [es2]; exact r2.dpAll l2 ed, alikeB_ok z1.1.1, sortB_ok z1.1.2, fun e he => of_decide_eq_true (z1.2 e he), fun p hp => h _ _ (Same.upd hp) ?_⟩
        have em : xs.mergeSort leD = ((xs.zip ws).mergeSort fun x y => leD x.1 y.1).map (·.1) := by
          have := List.map_mergeSort (f := fun p : D × V => p.1) (r := fun x y => leD x.1 y.1) (s := leD) (l := xs.zip ws) (fun _ _ _ _ => rfl)
          rw [this, es1]
        rw [em]
        refine RepT.newL (by rw [List.length_map, List.length_map]) hp ?_
        rw [zip_maps]
        exact r2.perm ((List.mergeSort_perm _ _).symm.append_right L)
      · cases e3
  · cases e
def enumD (ds : List D) : List D := (List.range ds.length).map fun (i : Nat) => .tup [.int i, ds.getD i .unk]
theorem enum_get {ds : List D} {i : Nat} {d : D} (h : (enumD ds)[i]? = some d) : ∃ x, ds[i]? = some x ∧ d = .tup [.int i, x] := by
  unfold enumD at h
  rw [List.getElem?_map] at h
  cases q : (List.range ds.length)[i]? with
  | none => rw [q] at h; cases h
  | some j =>
    rw [q] at h
    have ⟨h1, h2⟩ := List.getElem?_eq_some_iff.mp q
    rw [List.getElem_range] at h2
    subst h2
    rw [List.length_range] at h1
    refine ⟨ds[i], List.getElem?_eq_getElem h1, ?_⟩
    have := Option.some.inj h
    rw [← this]
    show D.tup [D.int i, ds.getD i D.unk] = _
    rw [List.getD_eq_getElem?_getD, List.getElem?_eq_getElem h1]; rfl
theorem itE {a : Addr} {ds : List D} {x : D} (z : fz x = true) (hx : lstOf x = some ds) (zl : fzL ds = true) : ItOk K (Ite K a) [(x, .ref a)] (enumD ds) := by
  have len : (enumD ds).length = ds.length := by simp [enumD]
  have rd : ∀ H L, RepT K H ((x, .ref a) :: L) → ∃ vs, SqL K H a vs ∧ ds.length = vs.length ∧ RepT K H (ds.zip vs ++ ((x, .ref a) :: L)) := fun H L h => by
    obtain ⟨b, vs, e, sq, l, r⟩ := RepT.list hx (RepT.dup z h)
    cases e
    exact ⟨vs, sq, l, r⟩
  refine ⟨fun i H L hi h => ?_, fun H L h => ?_, fun i H L y H' d h e yl => ?_⟩
  · obtain ⟨vs, sq, l, _⟩ := rd H L h
    rw [len] at hi
    exact ⟨vs, vs[i]'(by omega), sq, List.getElem?_eq_getElem _⟩
  · obtain ⟨vs, sq, l, _⟩ := rd H L h
    exact ⟨vs, sq, by omega⟩
  · obtain ⟨T, w, rfl, nT, rfl, hw⟩ := yl
    obtain ⟨vs, sq, l, r⟩ := rd H L h
    obtain ⟨u, hu, rfl⟩ := enum_get e
    have r2 := r.pick (zip_take hu (hw vs sq))
    exact RepT.newT (ds := [.int i, u]) (vs := [.int i, w]) rfl nT (RepT.int r2)
end
end VS
set_option Elab.async false
set_option linter.all false
set_option maxRecDepth 100000
set_option maxHeartbeats 4000000
set_option autoImplicit false
noncomputable section
namespace VS
open PySem PySem.Spec PyProof.Rows L2
section
variable {X : Cx} {W : WX} {K : PySem.W.Frag} {mg : Str → Option Value} {F H H1 : Hp} {T L : List (D × V)} {ρ ρ' : Env} {σ σ' σ'' : St} {m : Bool}
def ImpM (K : PySem.W.Frag) (r : V → List V → Hp → VK → Prop) (g : List D → List D → Option (D × List D)) : Prop :=
  ∀ H L xs xs' ds vs d a Q, g xs ds = some (d, xs') → ds.length = vs.length → RepT K H ((.lst true xs, .ref a) :: (ds.zip vs ++ L)) → (∀ u H', RepT K H' ((d, u) :: (.lst true xs', .ref a) :: L) → Q u H') → r (.ref a) vs H Q
def isLst : Option D → Bool
  | some (.lst _ _) => true
  | _ => false
def mutL (i : Nat) (g : List D → List D → Option (D × List D)) (ds : List D) : M D := fun ρ => match ρ[i]? with
  | some (.lst true xs) => match g xs ds with
    | some (d, xs') => some (.ok d (ρ.set i (.lst true xs')))
    | none => none
  | _ => none
def dMt (i : Nat) (g : List D → List D → Option (D × List D)) (f : M (List D)) : M D := fun ρ0 => if isLst ρ0[i]? = true then bindM f (mutL i g) ρ0 else none
theorem mutL_inv {i : Nat} {g : List D → List D → Option (D × List D)} {ds : List D} {u : Rv D} (h : mutL i g ds ρ = some u) : ∃ xs d xs', ρ[i]? = some (.lst true xs) ∧ g xs ds = some (d, xs') ∧ u = .ok d (ρ.set i (.lst true xs')) := by
  unfold mutL at h
  split at h
  · rename_i xs e
    split at h
    · rename_i d xs' e2
      exact ⟨xs, d, xs', e, e2, (Option.some.inj h).symm⟩
    · cases h
  · cases h
theorem mut_rep {i : Nat} {g : List D → List D → Option (D × List D)} {r : V → List V → Hp → VK → Prop} {xs xs' ds : List D} {d : D} {vs : List V} {v : V} {Q : VK} (hg : ImpM K r g) (rep : Rep K H (ds.zip vs ++ T) ρ σ) (hi : ρ[i]? = some (.lst true xs)) (hv : σ[i]? = some (some v)) (l : ds.length = vs.length)
    (e : g xs ds = some (d, xs')) (q : ∀ u H', Rep K H' ((d, u) :: T) (ρ.set i (.lst true xs')) σ → Q u H') : r v vs H Q := by
  have r1 := rep.take hi hv
  have hv1 := hv
  obtain ⟨a, _, rfl, _⟩ := RepT.openL r1.rep
  refine hg H (T ++ SL (ρ.set i .unk) σ) xs xs' ds vs d a Q e l (by
    have := r1.rep
    rw [show ((D.lst true xs, V.ref a) :: (ds.zip vs ++ T)) ++ SL (ρ.set i .unk) σ = (D.lst true xs, V.ref a) :: (ds.zip vs ++ (T ++ SL (ρ.set i .unk) σ)) by simp] at this
    exact this) fun u H' r2 => ?_
  have r3 : Rep K H' ((.lst true xs', .ref a) :: (d, u) :: T) (ρ.set i .unk) σ := ⟨r1.len, r1.nos, r2.perm (.swap _ _ _)⟩
  have r4 := r3.put hv
  rw [List.set_set] at r4
  exact q u H' r4
theorem ve_mt {name id : String} {o : Expr} {i : Nat} {r : V → List V → Hp → VK → Prop} {g : List D → List D → Option (D × List D)} {f : M (List D)} {e : Expr} {es : List Expr} {apos cpos : Pos} (slot : Slot "list" (Str.ofString name) id) (hty : typeOf (.builtin id) = pure (.type "method_descriptor")) (hm : MtR X id r) (hg : ImpM X.K r g)
    (ho : PE X o (tVar i)) (ha : VA X W m (e :: es) f) (hbase : attributeBase o (Str.ofString name) X.env (eval o X.env) = eval o X.env := by rfl)
    (hfew : ((backTo cpos (starEach (e :: es) X.env)).all (fun x => !x.1) && (backToKw cpos (keywordEach [] X.env)).all (fun x => x.1.isSome)
      && decide ((e :: es).length + ([] : List Keyword).length + (if ([] : List Keyword).isEmpty then 0 else 1) < 30)) = true := by rfl)
    (hline : (apos.endLine == cpos.line) = true := by rfl) (hs : starEach (e :: es) X.env = (false, eval e X.env) :: starEach es X.env := by rfl) (hplain : (backTo cpos (starEach es X.env)).any (·.1) = false := by rfl) :
    VE X W true (.Call (.Attribute o (Str.ofString name) apos) (e :: es) [] cpos) (dMt i g f) := by
  refine PE.imp (pe_bm PySem.F.plainAttrs_list slot hty hm ho ha hbase hfew hline hs hplain) fun σ H Q ⟨T, ρ, u, rep, hf, he⟩ => ?_
  unfold dMt at hf
  cases q : ρ[i]? with
  | none => rw [q] at hf; cases hf
  | some x =>
    rw [q] at hf
    cases x <;> simp only [isLst, Bool.false_eq_true, if_false, reduceCtorEq] at hf
    rename_i o xs0
    simp only [if_true] at hf
    obtain ⟨v, hv⟩ := rep.slot q (by intro z; cases z)
    obtain ⟨a, vs0, rfl, hq, _, _⟩ := RepT.readL (rep.take q hv).rep
    refine ⟨.ref a, hv, .inl ⟨rfl, _, .inl (.inl hq)⟩, ?_⟩
    refine runA rep hf he fun ds ρ1 vs H1 h1 s1 l1 r1 => ?_
    obtain ⟨xs, d, xs', e1, e2, rfl⟩ := mutL_inv h1
    exact mut_rep hg r1 e1 hv l1 e2 fun u H' r2 => he u H' (fun z => by cases z) r2
def gApp (xs ds : List D) : Option (D × List D) := match ds with
  | [d] => if xs.length < sizeLine then some (.non, xs ++ [d]) else none
  | _ => none
theorem impApp : ImpM K rAppend gApp := by
  intro H L xs xs' ds vs d a Q e l r h
  unfold gApp at e
  split at e
  · rename_i y
    split at e
    · rename_i z
      cases e
      obtain ⟨v, rfl⟩ := len1 l
      have r0 : RepT K H ((.lst true xs, .ref a) :: (y, v) :: L) := r
      obtain ⟨ws, hq, lw, r2⟩ := RepT.push (r0.perm (.swap _ _ _))
      exact ⟨a, ws, v, rfl, rfl, hq, by omega, h _ _ (RepT.non r2)⟩
    · cases e
  · cases e
def gExt (xs ds : List D) : Option (D × List D) := match ds with
  | [.lst _ ys] => if xs.length + ys.length ≤ sizeLine then some (.non, xs ++ ys) else none
  | _ => none
theorem impExt : ImpM K rExtend gExt := by
  intro H L xs xs' ds vs d a Q e l r h
  unfold gExt at e
  split at e
  · rename_i o ys
    split at e
    · rename_i z
      cases e
      obtain ⟨v, rfl⟩ := len1 l
      have r0 : RepT K H ((.lst o ys, v) :: (.lst true xs, .ref a) :: L) := (show RepT K H ((.lst true xs, .ref a) :: (.lst o ys, v) :: L) from r).perm (.swap _ _ _)
      obtain ⟨b, zs, rfl, hb, lz, r1⟩ := r0.readL
      have r2 : RepT K H ((.lst true xs, .ref a) :: (ys.zip zs ++ L)) := r1.perm List.perm_middle
      obtain ⟨a', ws, ea, hq, lw, r3⟩ := r2.openL
      cases ea
      refine ⟨a, b, ws, zs, rfl, rfl, hq, hb, by omega, h _ _ (RepT.non (RepT.closeL (by simp [lw, lz]) ?_))⟩
      rw [zip_app lw, List.append_assoc]
      exact r3
    · cases e
  · cases e
def gPop (xs ds : List D) : Option (D × List D) := match ds with
  | [.int i] => if in63 i then (match ixN xs.length i with
    | some k => (xs[k]?).map fun y => (y, xs.eraseIdx k)
    | none => none) else none
  | _ => none
theorem impPop : ImpM K rPopAt gPop := by
  intro H L xs xs' ds vs d a Q e l r h
  unfold gPop at e
  split at e
  · rename_i i
    split at e
    · rename_i z
      split at e
      · rename_i k ek
        obtain ⟨y, ey, ee⟩ := Option.map_eq_some_iff.mp e
        injection ee with ee1 ee2
        subst ee1
        subst ee2
        obtain ⟨v, rfl⟩ := len1 l
        have r0 : RepT K H ((.int i, v) :: (.lst true xs, .ref a) :: L) := (show RepT K H ((.lst true xs, .ref a) :: (.int i, v) :: L) from r).perm (.swap _ _ _)
        have ev := r0.eq_int
        subst ev
        obtain ⟨a', ws, ea, hq, lw, r3⟩ := r0.drop.openL
        cases ea
        obtain ⟨w, hw⟩ := get_len lw ey
        have sx := (ixN_seq ek).1
        refine ⟨a, ws, i, k, w, rfl, rfl, hq, z.lo, z.hi, by rw [← lw]; exact sx, hw, h _ _ ?_⟩
        have p := (perm_erase (zip_take ey hw)).append_right L
        have r4 : RepT K H ((.hole, .ref a) :: (y, w) :: ((xs.zip ws).eraseIdx k ++ L)) := r3.perm (p.cons _)
        have r5 : RepT K H ((.hole, .ref a) :: ((xs.eraseIdx k).zip (ws.eraseIdx k) ++ ((y, w) :: L))) := by
          refine r4.perm (List.Perm.cons _ ?_)
          have ez : (xs.zip ws).eraseIdx k = (xs.eraseIdx k).zip (ws.eraseIdx k) := by
            rw [List.eraseIdx_eq_take_drop_succ, List.eraseIdx_eq_take_drop_succ, List.eraseIdx_eq_take_drop_succ, zip_app (by simp [lw])]
            unfold List.zip
            rw [List.take_zipWith, List.drop_zipWith]
          rw [ez]
          exact List.perm_middle.symm
        have lk : (xs.eraseIdx k).length = (ws.eraseIdx k).length := by rw [List.length_eraseIdx, List.length_eraseIdx, lw]
        exact (RepT.closeL lk r5).perm (.swap _ _ _)
      · cases e
    · cases e
  · cases e
def keyD : D → Option Key
  | .int i => some (.inl i)
  | .str x => some (.inr x)
  | _ => none
def keysD : List D → Option (List Key)
  | [] => some []
  | d :: ds => match keyD d, keysD ds with
    | some k, some ks => some (k :: ks)
    | _, _ => none
theorem keyD_rep {d : D} {k : Key} {v : V} (e : keyD d = some k) (r : RepT K H ((d, v) :: L)) : v = kV k := by
  cases d <;> simp only [keyD, Option.some.injEq, reduceCtorEq] at e <;> subst e
  · exact r.eq_int
  · exact r.eq_str
theorem keysD_rep : ∀ {ds : List D} {ks : List Key} {vs : List V} {L : List (D × V)}, keysD ds = some ks → ds.length = vs.length → RepT K H (ds.zip vs ++ L) → vs = ks.map kV
  | [], ks, vs, L, e, l, r => by
    rw [keysD] at e; cases e
    exact List.eq_nil_of_length_eq_zero l.symm
  | d :: ds, ks, [], L, e, l, r => by cases l
  | d :: ds, ks, v :: vs, L, e, l, r => by
    rw [keysD] at e
    cases e1 : keyD d with
    | none => rw [e1] at e; cases e
    | some k =>
      cases e2 : keysD ds with
      | none => rw [e1, e2] at e; cases e
      | some k2 =>
        rw [e1, e2] at e
        cases e
        have r1 : RepT K H ((d, v) :: (ds.zip vs ++ L)) := r
        rw [keyD_rep e1 r1, keysD_rep e2 (Nat.succ.inj l) r1.drop]; rfl
def look {κ α : Type} [DecidableEq κ] : List κ → List α → κ → Option α
  | k' :: ks, a :: as, k => if k' = k then some a else look ks as k
  | _, _, _ => none
def putL {κ α : Type} [DecidableEq κ] : List κ → List α → κ → α → List κ × List α
  | k' :: ks, a :: as, k, v => if k' = k then (k' :: ks, v :: as) else (k' :: (putL ks as k v).1, a :: (putL ks as k v).2)
  | _, _, k, v => ([k], [v])
section
variable {κ : Type} [DecidableEq κ]
theorem valV_look : ∀ (ks : List κ) (vs : List V) (k : κ), valV (ks.zip vs) k = look ks vs k
  | [], _, _ => by simp [look, valV]
  | _ :: _, [], _ => by simp [look, valV]
  | k' :: ks, v :: vs, k => by
    rw [List.zip_cons_cons, look]
    by_cases e : k' = k
    · rw [valV_pos (p := (k', v)) e, if_pos e]
    · rw [valV_neg (p := (k', v)) e, if_neg e, valV_look ks vs k]
theorem putL_keys {α : Type} : ∀ (ks : List κ) (as : List α) (k : κ) (a : α), ks.length = as.length → (putL ks as k a).1 = if k ∈ ks then ks else ks ++ [k]
  | [], [], k, a, _ => by simp [putL]
  | [], _ :: _, k, a, h => by cases h
  | _ :: _, [], k, a, h => by cases h
  | k' :: ks, x :: as, k, a, h => by
    rw [putL]
    by_cases e : k' = k
    · rw [if_pos e, if_pos (by simp [e])]
    · have e' : ¬ k = k' := fun z => e z.symm
      rw [if_neg e]
      show k' :: (putL ks as k a).1 = _
      rw [putL_keys ks as k a (Nat.succ.inj h)]
      by_cases hm : k ∈ ks
      · rw [if_pos hm, if_pos (List.mem_cons_of_mem _ hm)]
      · rw [if_neg hm, if_neg (by simp [e', hm])]; rfl
theorem putL_len {α : Type} : ∀ (ks : List κ) (as : List α) (k : κ) (a : α), ks.length = as.length → (putL ks as k a).1.length = (putL ks as k a).2.length
  | [], [], k, a, _ => by simp [putL]
  | [], _ :: _, k, a, h => by cases h
  | _ :: _, [], k, a, h => by cases h
  | k' :: ks, x :: as, k, a, h => by
    rw [putL]
    by_cases e : k' = k
    · rw [if_pos e]; exact h
    · rw [if_neg e]
      show ((putL ks as k a).1.length + 1) = ((putL ks as k a).2.length + 1)
      rw [putL_len ks as k a (Nat.succ.inj h)]
theorem putK_putL : ∀ (ks : List κ) (vs : List V) (k : κ) (v : V), ks.length = vs.length → ks.Nodup → putK (ks.zip vs) k v = (putL ks vs k v).1.zip (putL ks vs k v).2
  | [], [], k, v, _, _ => by simp [putL, putK]
  | [], _ :: _, k, v, h, _ => by cases h
  | _ :: _, [], k, v, h, _ => by cases h
  | k' :: ks, x :: vs, k, v, h, nd => by
    obtain ⟨n1, n2⟩ := List.nodup_cons.mp nd
    have ih := putK_putL ks vs k v (Nat.succ.inj h) n2
    rw [putL]
    by_cases e : k' = k
    · subst e
      rw [if_pos rfl]
      unfold putK
      rw [if_pos (by simp)]
      show (if k' = k' then (k', v) else (k', x)) :: _ = (k', v) :: ks.zip vs
      rw [if_pos rfl]
      congr 1
      have : ∀ p ∈ ks.zip vs, (if p.1 = k' then (p.1, v) else p) = p := fun p hp => by
        rw [if_neg]
        intro z
        exact n1 (z ▸ (List.of_mem_zip (a := p.1) (b := p.2) hp).1)
      show List.map (fun kv : κ × V => if kv.1 = k' then (kv.1, v) else kv) (ks.zip vs) = ks.zip vs
      rw [List.map_congr_left this]
      simp
    · rw [if_neg e]
      show _ = (k', x) :: (putL ks vs k v).1.zip (putL ks vs k v).2
      rw [← ih]
      unfold putK
      have ea : ((k' :: ks).zip (x :: vs)).any (fun kv => decide (kv.1 = k)) = (ks.zip vs).any fun kv => decide (kv.1 = k) := by simp [e]
      rw [ea]
      by_cases hm : ((ks.zip vs).any fun kv => decide (kv.1 = k)) = true
      · rw [if_pos hm, if_pos hm]
        show (if k' = k then (k', v) else (k', x)) :: _ = _
        rw [if_neg e]
        rfl
      · rw [if_neg hm, if_neg hm]; rfl
theorem putL_nodup {α : Type} {ks : List κ} {as : List α} {k : κ} {a : α} (h : ks.length = as.length) (nd : ks.Nodup) : (putL ks as k a).1.Nodup := by
  rw [putL_keys ks as k a h]
  by_cases hm : k ∈ ks
  · rw [if_pos hm]; exact nd
  · rw [if_neg hm]
    exact List.nodup_append.mpr ⟨nd, by simp, fun a ha b hb => by
      rw [List.mem_singleton] at hb
      subst hb
      intro z
      subst z
      exact hm ha⟩
theorem look_pair {ks : List κ} : ∀ {ds : List D} {vs : List V} {k : κ} {d : D}, ks.length = ds.length → ds.length = vs.length → look ks ds k = some d → ∃ (j : Nat) (v : V), ds[j]? = some d ∧ vs[j]? = some v ∧ look ks vs k = some v := by
  induction ks with
  | nil => intro ds vs k d h1 h2 e; cases ds <;> simp [look] at e
  | cons k' ks ih =>
    intro ds vs k d h1 h2 e
    cases ds with
    | nil => cases h1
    | cons x ds =>
      cases vs with
      | nil => cases h2
      | cons v vs =>
        rw [look] at e
        by_cases ek : k' = k
        · rw [if_pos ek] at e
          cases e
          exact ⟨0, v, rfl, rfl, by rw [look, if_pos ek]⟩
        · rw [if_neg ek] at e
          obtain ⟨j, w, h3, h4, h5⟩ := ih (Nat.succ.inj h1) (Nat.succ.inj h2) e
          exact ⟨j + 1, w, h3, h4, by rw [look, if_neg ek]; exact h5⟩
theorem look_none {ks : List κ} : ∀ {ds : List D} {vs : List V} {k : κ}, ks.length = ds.length → ds.length = vs.length → look ks ds k = none → look ks vs k = none := by
  induction ks with
  | nil => intro ds vs k h1 h2 e; simp [look]
  | cons k' ks ih =>
    intro ds vs k h1 h2 e
    cases ds with
    | nil => cases h1
    | cons x ds =>
      cases vs with
      | nil => cases h2
      | cons v vs =>
        rw [look] at e ⊢
        by_cases ek : k' = k
        · rw [if_pos ek] at e; cases e
        · rw [if_neg ek] at e ⊢
          exact ih (Nat.succ.inj h1) (Nat.succ.inj h2) e
theorem putL_perm {ks : List κ} {k : κ} {d : D} {v : V} : ∀ {ds : List D} {vs : List V}, ks.length = ds.length → ds.length = vs.length → (putL ks ds k d).1 = (putL ks vs k v).1 ∧ (putL ks ds k d).2.length = (putL ks vs k v).2.length ∧ ∃ R, ((d, v) :: ds.zip vs).Perm (R ++ (putL ks ds k d).2.zip (putL ks vs k v).2) := by
  induction ks with
  | nil =>
    intro ds vs h1 h2
    have e1 : ds = [] := List.eq_nil_of_length_eq_zero h1.symm
    subst e1
    have e2 : vs = [] := List.eq_nil_of_length_eq_zero h2.symm
    subst e2
    exact ⟨rfl, rfl, [], .refl _⟩
  | cons k' ks ih =>
    intro ds vs h1 h2
    cases ds with
    | nil => cases h1
    | cons x ds =>
      cases vs with
      | nil => cases h2
      | cons w vs =>
        rw [putL, putL]
        by_cases ek : k' = k
        · rw [if_pos ek, if_pos ek]
          exact ⟨rfl, h2, [(x, w)], .swap _ _ _⟩
        · rw [if_neg ek, if_neg ek]
          obtain ⟨i1, i2, R, p⟩ := ih (Nat.succ.inj h1) (Nat.succ.inj h2)
          refine ⟨?_, ?_, R, ?_⟩
          · show k' :: _ = k' :: _
            rw [i1]
          · show _ + 1 = _ + 1
            rw [i2]
          · show ((d, v) :: (x, w) :: ds.zip vs).Perm (R ++ ((x, w) :: (putL ks ds k d).2.zip (putL ks vs k v).2))
            exact ((List.Perm.swap _ _ _).trans (p.cons _)).trans List.perm_middle.symm
end
theorem RepT.openDT {ks : List (List Key)} {ds : List D} {v : V} (h : RepT K H ((.dT true ks ds, v) :: L)) : ∃ a vs, v = .ref a ∧ H a = some (.dT (ks.zip vs)) ∧ ks.length = ds.length ∧ ks.Nodup ∧ ds.length = vs.length ∧ RepT K H ((.hole, .ref a) :: (ds.zip vs ++ L)) := by
  obtain ⟨F, A, sF, nd, fr, A1, A2, rfl, h1, o⟩ := h
  rw [Ow] at h1
  obtain ⟨a, vs, A', rfl, q, n, l, rfl⟩ := h1
  refine ⟨a, vs, rfl, q, n.1, n.2, l.length, F, [a] ++ (A' ++ A2), sF, nd, fr, [a], A' ++ A2, rfl, ?_, l.toT.append o⟩
  rw [Ow]
  exact ⟨a, _, rfl, ⟨q, ⟨fun xs z => (by cases z), fun xs z => (by cases z)⟩⟩, rfl⟩
theorem RepT.closeDT {ks : List (List Key)} {ds : List D} {vs : List V} {a : Addr} (n1 : ks.length = ds.length) (n2 : ks.Nodup) (e : ds.length = vs.length) (h : RepT K H ((.hole, .ref a) :: (ds.zip vs ++ L))) : RepT K (upd H a (.dT (ks.zip vs))) ((.dT true ks ds, .ref a) :: L) := by
  obtain ⟨F, A, sF, nd, fr, A1, A2, rfl, h1, o⟩ := h
  rw [Ow] at h1
  obtain ⟨b, u, e1, q, rfl⟩ := h1
  cases e1
  obtain ⟨B1, B2, rfl, o1, o2⟩ := o.split
  have fa : F a = none := fr a (by simp)
  have na : a ∉ B1 ++ B2 := (List.nodup_cons.mp nd).1
  have k : ∀ b ∈ B1 ++ B2, upd H a (.dT (ks.zip vs)) b = H b := fun b hb => upd_ne (fun z => na (by rw [← z]; exact hb))
  refine ⟨F, (a :: B1) ++ B2, sF.upd fa (fun ps z => by rw [q.1] at z; exact q.2.2 _ (Option.some.inj z)), nd, fr, a :: B1, B2, rfl, ?_, o2.keep (Same.refl _) fun b hb => k b (List.mem_append_right _ hb)⟩
  · rw [Ow]
    exact ⟨a, vs, B1, rfl, upd_same, ⟨n1, n2⟩, (o1.toL e).keep (Same.refl _) _ _ _ fun b hb => k b (List.mem_append_left _ hb), rfl⟩
theorem RepT.openDK {ks : List Key} {ds : List D} {v : V} (h : RepT K H ((.dK true ks ds, v) :: L)) : ∃ a vs, v = .ref a ∧ H a = some (.dK (ks.zip vs)) ∧ ks.length = ds.length ∧ ks.Nodup ∧ ds.length = vs.length ∧ RepT K H ((.hole, .ref a) :: (ds.zip vs ++ L)) := by
  obtain ⟨F, A, sF, nd, fr, A1, A2, rfl, h1, o⟩ := h
  rw [Ow] at h1
  obtain ⟨a, vs, A', rfl, q, n, l, rfl⟩ := h1
  refine ⟨a, vs, rfl, q, n.1, n.2, l.length, F, [a] ++ (A' ++ A2), sF, nd, fr, [a], A' ++ A2, rfl, ?_, l.toT.append o⟩
  rw [Ow]
  exact ⟨a, _, rfl, ⟨q, ⟨fun xs z => (by cases z), fun xs z => (by cases z)⟩⟩, rfl⟩
theorem RepT.closeDK {ks : List Key} {ds : List D} {vs : List V} {a : Addr} (n1 : ks.length = ds.length) (n2 : ks.Nodup) (e : ds.length = vs.length) (h : RepT K H ((.hole, .ref a) :: (ds.zip vs ++ L))) : RepT K (upd H a (.dK (ks.zip vs))) ((.dK true ks ds, .ref a) :: L) := by
  obtain ⟨F, A, sF, nd, fr, A1, A2, rfl, h1, o⟩ := h
  rw [Ow] at h1
  obtain ⟨b, u, e1, q, rfl⟩ := h1
  cases e1
  obtain ⟨B1, B2, rfl, o1, o2⟩ := o.split
  have fa : F a = none := fr a (by simp)
  have na : a ∉ B1 ++ B2 := (List.nodup_cons.mp nd).1
  have k : ∀ b ∈ B1 ++ B2, upd H a (.dK (ks.zip vs)) b = H b := fun b hb => upd_ne (fun z => na (by rw [← z]; exact hb))
  refine ⟨F, (a :: B1) ++ B2, sF.upd fa (fun ps z => by rw [q.1] at z; exact q.2.2 _ (Option.some.inj z)), nd, fr, a :: B1, B2, rfl, ?_, o2.keep (Same.refl _) fun b hb => k b (List.mem_append_right _ hb)⟩
  · rw [Ow]
    exact ⟨a, vs, B1, rfl, upd_same, ⟨n1, n2⟩, (o1.toL e).keep (Same.refl _) _ _ _ fun b hb => k b (List.mem_append_left _ hb), rfl⟩
theorem RepT.putDT {ks : List (List Key)} {ds : List D} {k : List Key} {d : D} {v : V} {a : Addr} (h : RepT K H ((d, v) :: (.dT true ks ds, .ref a) :: L)) : ∃ vs, H a = some (.dT (ks.zip vs)) ∧ ks.length = ds.length ∧ ds.length = vs.length ∧ RepT K (upd H a (.dT (putK (ks.zip vs) k v))) ((.dT true (putL ks ds k d).1 (putL ks ds k d).2, .ref a) :: L) := by
  obtain ⟨a', vs, e, q, n1, n2, l, r⟩ := RepT.openDT (h.perm (.swap _ _ _))
  cases e
  obtain ⟨p1, p2, R, p⟩ := putL_perm (ks := ks) (k := k) (d := d) (v := v) n1 l
  refine ⟨vs, q, n1, l, ?_⟩
  rw [putK_putL ks vs k v (n1.trans l) n2, ← p1]
  refine RepT.closeDT (putL_len ks ds k d n1) (putL_nodup n1 n2) p2 ?_
  have r2 : RepT K H ((.hole, .ref a) :: (((d, v) :: ds.zip vs) ++ L)) := r.perm (List.Perm.cons _ List.perm_middle)
  have r3 : RepT K H ((.hole, .ref a) :: ((R ++ (putL ks ds k d).2.zip (putL ks vs k v).2) ++ L)) := r2.perm (List.Perm.cons _ (p.append_right L))
  have r4 : RepT K H (R ++ ((.hole, .ref a) :: ((putL ks ds k d).2.zip (putL ks vs k v).2 ++ L))) := r3.perm (by
    rw [List.append_assoc]
    exact List.perm_middle.symm)
  exact r4.dropL
theorem RepT.putDK {ks : List Key} {ds : List D} {k : Key} {d : D} {v : V} {a : Addr} (h : RepT K H ((d, v) :: (.dK true ks ds, .ref a) :: L)) : ∃ vs, H a = some (.dK (ks.zip vs)) ∧ ks.length = ds.length ∧ ds.length = vs.length ∧ RepT K (upd H a (.dK (putK (ks.zip vs) k v))) ((.dK true (putL ks ds k d).1 (putL ks ds k d).2, .ref a) :: L) := by
  obtain ⟨a', vs, e, q, n1, n2, l, r⟩ := RepT.openDK (h.perm (.swap _ _ _))
  cases e
  obtain ⟨p1, p2, R, p⟩ := putL_perm (ks := ks) (k := k) (d := d) (v := v) n1 l
  refine ⟨vs, q, n1, l, ?_⟩
  rw [putK_putL ks vs k v (n1.trans l) n2, ← p1]
  refine RepT.closeDK (putL_len ks ds k d n1) (putL_nodup n1 n2) p2 ?_
  have r2 : RepT K H ((.hole, .ref a) :: (((d, v) :: ds.zip vs) ++ L)) := r.perm (List.Perm.cons _ List.perm_middle)
  have r3 : RepT K H ((.hole, .ref a) :: ((R ++ (putL ks ds k d).2.zip (putL ks vs k v).2) ++ L)) := r2.perm (List.Perm.cons _ (p.append_right L))
  have r4 : RepT K H (R ++ ((.hole, .ref a) :: ((putL ks ds k d).2.zip (putL ks vs k v).2 ++ L))) := r3.perm (by
    rw [List.append_assoc]
    exact List.perm_middle.symm)
  exact r4.dropL
end
end VS
set_option Elab.async false
set_option linter.all false
set_option maxRecDepth 100000
set_option maxHeartbeats 4000000
set_option autoImplicit false
noncomputable section
namespace VS
open PySem PySem.Spec PyProof.Rows L2
section
variable {X : Cx} {W : WX} {K : PySem.W.Frag} {mg : Str → Option Value} {F H H1 : Hp} {T L : List (D × V)} {ρ ρ' : Env} {σ σ' σ'' : St} {m : Bool}
theorem RepT.newDK {p : Addr} (hp : H p = none) (h : RepT K H L) : RepT K (upd H p (.dK [])) ((.dK true [] [], .ref p) :: L) := by
  have h1 := RepT.newL (ds := []) (vs := []) rfl hp h
  obtain ⟨a, vs, e, _, _, r⟩ := h1.openL
  cases e
  have r2 : RepT K (upd H p (.lst [])) ((.hole, .ref p) :: (([] : List D).zip ([] : List V) ++ L)) := r
  have r3 := RepT.closeDK (ks := []) (ds := []) (vs := []) rfl List.nodup_nil rfl r2
  rw [upd_upd] at r3
  exact r3
theorem RepT.newDT {p : Addr} (hp : H p = none) (h : RepT K H L) : RepT K (upd H p (.dT [])) ((.dT true [] [], .ref p) :: L) := by
  have h1 := RepT.newL (ds := []) (vs := []) rfl hp h
  obtain ⟨a, vs, e, _, _, r⟩ := h1.openL
  cases e
  have r2 : RepT K (upd H p (.lst [])) ((.hole, .ref p) :: (([] : List D).zip ([] : List V) ++ L)) := r
  have r3 := RepT.closeDT (ks := []) (ds := []) (vs := []) rfl List.nodup_nil rfl r2
  rw [upd_upd] at r3
  exact r3
theorem ve_dnewT {pos : Pos} : VE X W false (.Dict [] [] pos) (dC (.dT true [] [])) := by
  refine PE.imp pe_dnewT fun σ H Q ⟨T, ρ, u, rep, hf, he⟩ => ?_
  have : u = .ok (.dT true [] []) ρ := (Option.some.inj hf).symm
  subst this
  exact fun p hp => he _ _ (fun _ => Same.upd hp) ⟨rep.len, rep.nos, RepT.newDT hp rep.rep⟩
def lookD (x y : D) : Option D := match x with
  | .dK _ ks ds => match keyD y with
    | some k => look ks ds k
    | none => none
  | .dT _ ks ds => match y with
    | .tup es => match keysD es with
      | some k => look ks ds k
      | none => none
    | _ => none
  | .lK ks ds => match keyD y with
    | some k => look ks ds k
    | none => none
  | .lT ks ds => match y with
    | .tup es => match keysD es with
      | some k => look ks ds k
      | none => none
    | _ => none
  | _ => none
def hasD (x y : D) : Option Bool := match x with
  | .dK _ ks ds => match keyD y with
    | some k => some (look ks ds k).isSome
    | none => none
  | .dT _ ks ds => match y with
    | .tup es => match keysD es with
      | some k => some (look ks ds k).isSome
      | none => none
    | _ => none
  | .lK ks ds => match keyD y with
    | some k => some (look ks ds k).isSome
    | none => none
  | .lT ks ds => match y with
    | .tup es => match keysD es with
      | some k => some (look ks ds k).isSome
      | none => none
    | _ => none
  | _ => none
theorem OwL.at {ds : List D} {vs : List V} {A : List Addr} {j : Nat} {d : D} {u : V} (h : OwL K F H ds vs A) (e : ds[j]? = some d) (z : fz d = true) (e' : vs[j]? = some u) : Ow K F H d u [] := by
  obtain ⟨w, hw, o⟩ := h.item e z
  rw [hw] at e'
  cases e'
  exact o
theorem RepT.lK {ks : List Key} {ds : List D} {v : V} (h : RepT K H ((.lK ks ds, v) :: L)) : ∃ a vs o, v = .ref a ∧ H a = some (.frz o (.dK (ks.zip vs))) ∧ ks.length = ds.length ∧ ks.Nodup ∧ ds.length = vs.length := by
  obtain ⟨F, A, sF, nd, fr, A1, A2, rfl, h1, o2⟩ := h
  rw [Ow] at h1
  obtain ⟨a, vs, rfl, ⟨o, q⟩, n, l⟩ := h1
  exact ⟨a, vs, o, rfl, sF _ _ q, n.1, n.2, l.length⟩
theorem RepT.lT {ks : List (List Key)} {ds : List D} {v : V} (h : RepT K H ((.lT ks ds, v) :: L)) : ∃ a vs o, v = .ref a ∧ H a = some (.frz o (.dT (ks.zip vs))) ∧ ks.length = ds.length ∧ ks.Nodup ∧ ds.length = vs.length := by
  obtain ⟨F, A, sF, nd, fr, A1, A2, rfl, h1, o2⟩ := h
  rw [Ow] at h1
  obtain ⟨a, vs, rfl, ⟨o, q⟩, n, l⟩ := h1
  exact ⟨a, vs, o, rfl, sF _ _ q, n.1, n.2, l.length⟩
theorem dget_rep {x y : D} {v w : V} (r : RepT K H ((y, w) :: (x, v) :: L)) :
    (∀ d, lookD x y = some d → fz d = true → ∃ a u, v = .ref a ∧ DGet H a w (some u) ∧ RepT K H ((d, u) :: (y, w) :: (x, v) :: L)) ∧ (∀ b, hasD x y = some b → ∃ a o, v = .ref a ∧ DGet H a w o ∧ o.isSome = b) := by
  cases x with
  | dK o ks ds =>
    have main : ∀ k, keyD y = some k → ∃ a vs, v = .ref a ∧ H a = some (.dK (ks.zip vs)) ∧ ks.length = ds.length ∧ ds.length = vs.length ∧ w = kV k := fun k ek => by
      have rx := r.drop
      obtain ⟨a, vs, rfl, q, n1, _, l, _⟩ := rx.dK
      exact ⟨a, vs, rfl, q, n1, l, keyD_rep ek r⟩
    constructor
    · intro d e z
      simp only [lookD] at e
      cases ek : keyD y with
      | none => rw [ek] at e; cases e
      | some k =>
        rw [ek] at e
        have r0 := r
        obtain ⟨F, A, sF, nd, fr, A1, A2, rfl, hy, A3, A4, rfl, hx, o2⟩ := r
        have e : look ks ds k = some d := e
        have hx' := hx
        have fin : ∀ u, Ow K F H d u [] → RepT K H ((d, u) :: (y, w) :: (.dK o ks ds, v) :: L) := fun u hu => ⟨F, [] ++ (A1 ++ (A3 ++ A4)), sF, nd, fr, [], _, rfl, hu, A1, _, rfl, hy, A3, A4, rfl, hx, o2⟩
        have wk := keyD_rep ek r0
        cases o <;> rw [Ow] at hx'
        · obtain ⟨a, vs, rfl, q, n, l⟩ := hx'
          obtain ⟨j, u, h1, h2, h3⟩ := look_pair n.1 l.length e
          exact ⟨a, u, rfl, .inl ⟨_, k, .inl (sF _ _ q), wk, by rw [valV_look]; exact h3.symm⟩, fin u (l.at h1 z h2)⟩
        · obtain ⟨a, vs, A', rfl, q, n, l, rfl⟩ := hx'
          obtain ⟨j, u, h1, h2, h3⟩ := look_pair n.1 l.length e
          exact ⟨a, u, rfl, .inl ⟨_, k, .inl q, wk, by rw [valV_look]; exact h3.symm⟩, fin u (l.at h1 z h2)⟩
    · intro b e
      simp only [hasD] at e
      cases ek : keyD y with
      | none => rw [ek] at e; cases e
      | some k =>
        rw [ek] at e
        have e : (look ks ds k).isSome = b := Option.some.inj e
        obtain ⟨a, vs, rfl, q, n1, l, wk⟩ := main k ek
        refine ⟨a, look ks vs k, rfl, .inl ⟨_, k, .inl q, wk, by rw [valV_look]⟩, ?_⟩
        rw [← e]
        cases q2 : look ks ds k with
        | none => rw [look_none n1 l q2]; rfl
        | some d =>
          obtain ⟨j, u, _, _, h3⟩ := look_pair n1 l q2
          rw [h3]; rfl
  | dT o ks ds =>
    have main : ∀ es k, y = .tup es → keysD es = some k → ∃ b, w = .ref b ∧ H b = some (.tup (k.map kV)) := fun es k ey ek => by
      subst ey
      obtain ⟨b, vs, rfl, q, l, r2⟩ := r.openT
      refine ⟨b, rfl, ?_⟩
      rw [← keysD_rep ek l r2]; exact q
    constructor
    · intro d e z
      simp only [lookD] at e
      cases y with
      | tup es =>
        simp only at e
        cases ek : keysD es with
        | none => rw [ek] at e; cases e
        | some k =>
          rw [ek] at e
          obtain ⟨b, rfl, hb⟩ := main es k rfl ek
          obtain ⟨F, A, sF, nd, fr, A1, A2, rfl, hy, A3, A4, rfl, hx, o2⟩ := r
          have e : look ks ds k = some d := e
          have hx' := hx
          have fin : ∀ u, Ow K F H d u [] → RepT K H ((d, u) :: (.tup es, .ref b) :: (.dT o ks ds, v) :: L) := fun u hu => ⟨F, [] ++ (A1 ++ (A3 ++ A4)), sF, nd, fr, [], _, rfl, hu, A1, _, rfl, hy, A3, A4, rfl, hx, o2⟩
          cases o <;> rw [Ow] at hx'
          · obtain ⟨a, vs, rfl, q, n, l⟩ := hx'
            obtain ⟨j, u, h1, h2, h3⟩ := look_pair n.1 l.length e
            exact ⟨a, u, rfl, .inr ⟨_, k, b, .inl (sF _ _ q), rfl, hb, by rw [valV_look]; exact h3.symm⟩, fin u (l.at h1 z h2)⟩
          · obtain ⟨a, vs, A', rfl, q, n, l, rfl⟩ := hx'
            obtain ⟨j, u, h1, h2, h3⟩ := look_pair n.1 l.length e
            exact ⟨a, u, rfl, .inr ⟨_, k, b, .inl q, rfl, hb, by rw [valV_look]; exact h3.symm⟩, fin u (l.at h1 z h2)⟩
      | _ => cases e
    · intro bb e
      simp only [hasD] at e
      cases y with
      | tup es =>
        simp only at e
        cases ek : keysD es with
        | none => rw [ek] at e; cases e
        | some k =>
          rw [ek] at e
          have e : (look ks ds k).isSome = bb := Option.some.inj e
          obtain ⟨b, rfl, hb⟩ := main es k rfl ek
          obtain ⟨a, vs, rfl, q, n1, _, l, _⟩ := r.drop.dT
          refine ⟨a, look ks vs k, rfl, .inr ⟨_, k, b, .inl q, rfl, hb, by rw [valV_look]⟩, ?_⟩
          rw [← e]
          cases q2 : look ks ds k with
          | none => rw [look_none n1 l q2]; rfl
          | some d =>
            obtain ⟨j, u, _, _, h3⟩ := look_pair n1 l q2
            rw [h3]; rfl
      | _ => cases e
  | lK ks ds =>
    have main : ∀ k, keyD y = some k → ∃ a vs o, v = .ref a ∧ H a = some (.frz o (.dK (ks.zip vs))) ∧ ks.length = ds.length ∧ ds.length = vs.length ∧ w = kV k := fun k ek => by
      have rx := r.drop
      obtain ⟨a, vs, o, rfl, q, n1, _, l⟩ := rx.lK
      exact ⟨a, vs, o, rfl, q, n1, l, keyD_rep ek r⟩
    constructor
    · intro d e z
      simp only [lookD] at e
      cases ek : keyD y with
      | none => rw [ek] at e; cases e
      | some k =>
        rw [ek] at e
        have r0 := r
        obtain ⟨F, A, sF, nd, fr, A1, A2, rfl, hy, A3, A4, rfl, hx, o2⟩ := r
        have e : look ks ds k = some d := e
        have hx' := hx
        have fin : ∀ u, Ow K F H d u [] → RepT K H ((d, u) :: (y, w) :: (.lK ks ds, v) :: L) := fun u hu => ⟨F, [] ++ (A1 ++ (A3 ++ A4)), sF, nd, fr, [], _, rfl, hu, A1, _, rfl, hy, A3, A4, rfl, hx, o2⟩
        have wk := keyD_rep ek r0
        rw [Ow] at hx'
        obtain ⟨a, vs, rfl, ⟨o, q⟩, n, l⟩ := hx'
        obtain ⟨j, u, h1, h2, h3⟩ := look_pair n.1 l.length e
        exact ⟨a, u, rfl, .inl ⟨_, k, .inr ⟨o, sF _ _ q⟩, wk, by rw [valV_look]; exact h3.symm⟩, fin u (l.at h1 z h2)⟩
    · intro b e
      simp only [hasD] at e
      cases ek : keyD y with
      | none => rw [ek] at e; cases e
      | some k =>
        rw [ek] at e
        have e : (look ks ds k).isSome = b := Option.some.inj e
        obtain ⟨a, vs, o, rfl, q, n1, l, wk⟩ := main k ek
        refine ⟨a, look ks vs k, rfl, .inl ⟨_, k, .inr ⟨o, q⟩, wk, by rw [valV_look]⟩, ?_⟩
        rw [← e]
        cases q2 : look ks ds k with
        | none => rw [look_none n1 l q2]; rfl
        | some d =>
          obtain ⟨j, u, _, _, h3⟩ := look_pair n1 l q2
          rw [h3]; rfl
  | lT ks ds =>
    have main : ∀ es k, y = .tup es → keysD es = some k → ∃ b, w = .ref b ∧ H b = some (.tup (k.map kV)) := fun es k ey ek => by
      subst ey
      obtain ⟨b, vs, rfl, q, l, r2⟩ := r.openT
      refine ⟨b, rfl, ?_⟩
      rw [← keysD_rep ek l r2]; exact q
    constructor
    · intro d e z
      simp only [lookD] at e
      cases y with
      | tup es =>
        simp only at e
        cases ek : keysD es with
        | none => rw [ek] at e; cases e
        | some k =>
          rw [ek] at e
          obtain ⟨b, rfl, hb⟩ := main es k rfl ek
          obtain ⟨F, A, sF, nd, fr, A1, A2, rfl, hy, A3, A4, rfl, hx, o2⟩ := r
          have e : look ks ds k = some d := e
          have hx' := hx
          have fin : ∀ u, Ow K F H d u [] → RepT K H ((d, u) :: (.tup es, .ref b) :: (.lT ks ds, v) :: L) := fun u hu => ⟨F, [] ++ (A1 ++ (A3 ++ A4)), sF, nd, fr, [], _, rfl, hu, A1, _, rfl, hy, A3, A4, rfl, hx, o2⟩
          rw [Ow] at hx'
          obtain ⟨a, vs, rfl, ⟨o, q⟩, n, l⟩ := hx'
          obtain ⟨j, u, h1, h2, h3⟩ := look_pair n.1 l.length e
          exact ⟨a, u, rfl, .inr ⟨_, k, b, .inr ⟨o, sF _ _ q⟩, rfl, hb, by rw [valV_look]; exact h3.symm⟩, fin u (l.at h1 z h2)⟩
      | _ => cases e
    · intro bb e
      simp only [hasD] at e
      cases y with
      | tup es =>
        simp only at e
        cases ek : keysD es with
        | none => rw [ek] at e; cases e
        | some k =>
          rw [ek] at e
          have e : (look ks ds k).isSome = bb := Option.some.inj e
          obtain ⟨b, rfl, hb⟩ := main es k rfl ek
          obtain ⟨a, vs, o, rfl, q, n1, _, l⟩ := r.drop.lT
          refine ⟨a, look ks vs k, rfl, .inr ⟨_, k, b, .inr ⟨o, q⟩, rfl, hb, by rw [valV_look]⟩, ?_⟩
          rw [← e]
          cases q2 : look ks ds k with
          | none => rw [look_none n1 l q2]; rfl
          | some d =>
            obtain ⟨j, u, _, _, h3⟩ := look_pair n1 l q2
            rw [h3]; rfl
      | _ => cases e
  | _ => exact ⟨fun d e => (by cases e), fun b e => (by cases e)⟩
def getS (i : Nat) (y : D) : M D := fun ρ => match lookD (ρ.getD i .unk) y with
  | some d => if fz d = true then some (.ok d ρ) else none
  | none => none
def dGetS (i : Nat) (f : M D) : M D := fun ρ0 => match ρ0[i]? with
  | none => none
  | some .unk => none
  | some _ => bindM f (getS i) ρ0
theorem slot_perm {i : Nat} {x : D} {v : V} (e : ρ[i]? = some x) (hv : σ[i]? = some (some v)) : (T ++ SL ρ σ).Perm ((x, v) :: (T ++ (SL ρ σ).eraseIdx i)) := ((perm_erase (SL_get e hv)).append_left T).trans List.perm_middle
theorem getD_at {i : Nat} (h : i < ρ.length) : ρ[i]? = some (ρ.getD i .unk) := by
  rw [List.getD_eq_getElem?_getD, List.getElem?_eq_getElem h]; rfl
theorem ve_getS {a b : Expr} {i : Nat} {f : M D} {pos : Pos} (hu : X.A.units + 1 < cLine) (ha : PE X a (tVar i)) (hb : VE X W m b f) (hs : NoSl b := by exact fun _ _ => rfl) : VE X W m (.Subscript a b pos) (dGetS i f) := by
  refine PE.imp (pe_dget hu ha hb hs) fun σ H Q ⟨T, ρ, u, rep, hf, he⟩ => ?_
  unfold dGetS at hf
  cases q : ρ[i]? with
  | none => rw [q] at hf; cases hf
  | some x0 =>
    have n : x0 ≠ .unk := fun e => by rw [q, e] at hf; cases hf
    obtain ⟨v, hv⟩ := rep.slot q n
    refine ⟨v, hv, ?_⟩
    rw [q] at hf
    have hf2 : bindM f (getS i) ρ = some u := by
      cases x0 <;> first | exact hf | exact absurd rfl n
    refine run1 rep hf2 he fun y ρ1 w H1 h1 s1 r1 => ?_
    unfold getS at h1
    split at h1
    · rename_i d ed
      split at h1
      · rename_i z
        have : u = .ok d ρ1 := (Option.some.inj h1).symm
        subst this
        have hi : i < ρ1.length := by rw [r1.len]; exact (List.getElem?_eq_some_iff.mp hv).1
        have p := slot_perm (T := T) (getD_at hi) hv
        have r2 : RepT X.K H1 ((y, w) :: (ρ1.getD i .unk, v) :: (T ++ (SL ρ1 σ).eraseIdx i)) := r1.rep.perm (p.cons _)
        obtain ⟨a, u, e1, g, r3⟩ := (dget_rep r2).1 d ed z
        refine ⟨a, u, e1, g, he u H1 s1 ⟨r1.len, r1.nos, ?_⟩⟩
        have r4 : RepT X.K H1 ((y, w) :: (d, u) :: (ρ1.getD i .unk, v) :: (T ++ (SL ρ1 σ).eraseIdx i)) := r3.perm (.swap _ _ _)
        exact r4.drop.perm (p.symm.cons _)
      · cases h1
    · cases h1
def isDct : Option D → Bool
  | some (.dK _ _ _) => true
  | some (.dT _ _ _) => true
  | some (.lK _ _) => true
  | some (.lT _ _) => true
  | _ => false
def dAt (i : Nat) (f : M D) : M D := fun ρ0 => if isDct ρ0[i]? = true then dGetS i f ρ0 else dIxS i f ρ0
theorem ve_at {a b : Expr} {i : Nat} {f : M D} {pos : Pos} (hu : X.A.units + 1 < cLine) (ha : PE X a (tVar i)) (hb : VE X W m b f) (hs : PlainIx b := by exact fun _ _ => rfl) : VE X W m (.Subscript a b pos) (dAt i f) := by
  refine PE.imp (PE.orr (ve_getS (W := W) hu ha hb hs) (ve_ixS (W := W) ha hb hs)) fun σ H Q ⟨T, ρ, u, rep, hf, he⟩ => ?_
  unfold dAt at hf
  split at hf
  · exact .inl ⟨T, ρ, u, rep, hf, he⟩
  · exact .inr ⟨T, ρ, u, rep, hf, he⟩
def hasS (neg : Bool) (i : Nat) (y : D) : M D := fun ρ => match hasD (ρ.getD i .unk) y with
  | some b => some (.ok (.bl (if neg = true then !b else b)) ρ)
  | none => none
def dHasS (neg : Bool) (i : Nat) (f : M D) : M D := bindM f fun y ρ => match ρ[i]? with
  | none => none
  | some .unk => none
  | some _ => hasS neg i y ρ
theorem has_of {neg : Bool} {i : Nat} {f : M D} {Q : VK} (h : tOf K mg W m (dHasS neg i f) σ H Q) : tOf K mg W m f σ H fun y H1 => tVar i σ H1 fun x H2 => ∃ a o, x = .ref a ∧ DGet H2 a y o ∧ Q (.bl (if neg = true then !o.isSome else o.isSome)) H2 := by
  obtain ⟨T, ρ, u, rep, hf, he⟩ := h
  refine run1 rep hf he fun y ρ1 w H1 h1 s1 r1 => ?_
  cases q : ρ1[i]? with
  | none => rw [q] at h1; cases h1
  | some x0 =>
    have n : x0 ≠ .unk := fun e => by rw [q, e] at h1; cases h1
    obtain ⟨v, hv⟩ := r1.slot q n
    refine ⟨v, hv, ?_⟩
    rw [q] at h1
    have h2 : hasS neg i y ρ1 = some u := by
      cases x0 <;> first | exact h1 | exact absurd rfl n
    unfold hasS at h2
    split at h2
    · rename_i b eb
      have : u = .ok (.bl (if neg = true then !b else b)) ρ1 := (Option.some.inj h2).symm
      subst this
      have hi : i < ρ1.length := (List.getElem?_eq_some_iff.mp q).1
      have p := slot_perm (T := T) (getD_at hi) hv
      have r2 : RepT K H1 ((y, w) :: (ρ1.getD i .unk, v) :: (T ++ (SL ρ1 σ).eraseIdx i)) := r1.rep.perm (p.cons _)
      obtain ⟨a, o, e1, g, eo⟩ := (dget_rep r2).2 b eb
      refine ⟨a, o, e1, g, ?_⟩
      rw [eo]
      exact he _ H1 s1 (r1.drop.lift fun q => q.bl)
    · cases h2
theorem vt_inD {a b : Expr} {i : Nat} {f : M D} {pos : Pos} (hu : X.A.units + 1 < cLine) (ha : VE X W m a f) (hb : PE X b (tVar i)) (h1 : behindInMarks .In b = false := by first | exact nobehind _ (by decide) (by decide) | rfl) : VT X W m (.Compare a [.In] [b] pos) (dTB (dHasS false i f)) := by
  refine PT.imp (pt_cmp (pc_din hu ha hb) h1) fun σ H Q ⟨T, ρ, u, rep, hf, he⟩ => ?_
  refine has_of (neg := false) (Q := fun x H1 => ∃ c, x = .bl c ∧ Q c H1) (run1 rep hf he fun x ρ1 v H1 h1 s1 r1 => ?_)
  obtain ⟨b, e, rfl⟩ := optM_some h1
  cases x with
  | bl c =>
    have e : c = b := Option.some.inj e
    subst e
    exact ⟨c, RepT.eq_bl r1.rep, he H1 s1 r1.drop⟩
  | _ => cases e
theorem vt_ninD {a b : Expr} {i : Nat} {f : M D} {pos : Pos} (hu : X.A.units + 1 < cLine) (ha : VE X W m a f) (hb : PE X b (tVar i)) (h1 : behindInMarks .NotIn b = false := by first | exact nobehind _ (by decide) (by decide) | rfl) : VT X W m (.Compare a [.NotIn] [b] pos) (dTB (dHasS true i f)) := by
  refine PT.imp (pt_cmp (pc_dnotin hu ha hb) h1) fun σ H Q ⟨T, ρ, u, rep, hf, he⟩ => ?_
  refine has_of (neg := true) (Q := fun x H1 => ∃ c, x = .bl c ∧ Q c H1) (run1 rep hf he fun x ρ1 v H1 h1 s1 r1 => ?_)
  obtain ⟨b, e, rfl⟩ := optM_some h1
  cases x with
  | bl c =>
    have e : c = b := Option.some.inj e
    subst e
    exact ⟨c, RepT.eq_bl r1.rep, he H1 s1 r1.drop⟩
  | _ => cases e
theorem PS.orr {st : Stmt} {t t' : TS} (h : PS X st t) (h' : PS X st t') : PS X st (fun E σ H => t E σ H ∨ t' E σ H) := ⟨fun pins s σ H E I q => q.elim (h.run pins s σ H E I) (h'.run pins s σ H E I)⟩
def putAt (x y d : D) : Option D := match x with
  | .lst true xs => match y with
    | .int n => (ixN xs.length n).map fun j => .lst true (xs.set j d)
    | _ => none
  | .dK true ks ds => match keyD y with
    | some k => if ks.length < sizeLine then some (.dK true (putL ks ds k d).1 (putL ks ds k d).2) else none
    | none => none
  | .dT true ks ds => match y with
    | .tup es => match keysD es with
      | some k => if ks.length < sizeLine then some (.dT true (putL ks ds k d).1 (putL ks ds k d).2) else none
      | none => none
    | _ => none
  | _ => none
def putS (i : Nat) (d y : D) : MS := fun ρ => match putAt (ρ.getD i .unk) y d with
  | some x => some (.nx, ρ.set i x)
  | none => none
def dPut (i : Nat) (fk fe : M D) : MS := bindS fe fun d ρ1 => match ρ1[i]? with
  | none => none
  | some .unk => none
  | some _ => bindS fk (putS i d) ρ1
theorem set_rep {xs : List D} {vs : List V} {j : Nat} {d x : D} {v w : V} (hx : xs[j]? = some x) (hw : vs[j]? = some w) : ((d, v) :: xs.zip vs).Perm ((x, w) :: (xs.set j d).zip (vs.set j v)) := by
  have e : (xs.set j d).zip (vs.set j v) = (xs.zip vs).set j (d, v) := by
    clear hx hw
    induction xs generalizing vs j with
    | nil => simp
    | cons a xs ih =>
      cases vs with
      | nil => simp
      | cons b vs =>
        cases j with
        | zero => rfl
        | succ j => simp [ih]
  rw [e]
  exact perm_set (d, v) (zip_take hx hw)
theorem put_rep {x y d x' : D} {v w u : V} (e : putAt x y d = some x') (r : RepT K H ((y, w) :: (x, v) :: (d, u) :: L)) :
    (∃ a xs j k, v = .ref a ∧ w = .int k ∧ H a = some (.lst xs) ∧ ixN xs.length k = some j ∧ RepT K (upd H a (.lst (xs.set j u))) ((x', v) :: L)) ∨ (∃ a H', v = .ref a ∧ DPut H a w u H' ∧ RepT K H' ((x', v) :: L)) := by
  have rswap : RepT K H ((d, u) :: (x, v) :: L) := r.drop.perm (.swap _ _ _)
  cases x with
  | lst o xs =>
    cases o with
    | false => cases e
    | true =>
      cases y with
      | int n =>
        simp only [putAt] at e
        obtain ⟨j, ej, rfl⟩ := Option.map_eq_some_iff.mp e
        have ew := r.eq_int
        subst ew
        obtain ⟨a, vs, rfl, hq, l, r2⟩ := RepT.openL (r.drop)
        have hj := (ixN_seq ej).2.1
        obtain ⟨w, hw⟩ := get_len l (List.getElem?_eq_getElem hj)
        refine .inl ⟨a, vs, j, n, rfl, rfl, hq, by rw [← l]; exact ej, RepT.closeL (by simp [l]) ?_⟩
        have r3 : RepT K H ((.hole, .ref a) :: (((d, u) :: xs.zip vs) ++ L)) := r2.perm (List.Perm.cons _ List.perm_middle)
        have r4 : RepT K H ((.hole, .ref a) :: (xs[j], w) :: ((xs.set j d).zip (vs.set j u) ++ L)) := r3.perm (List.Perm.cons _ ((set_rep (List.getElem?_eq_getElem hj) hw).append_right L))
        exact (r4.perm (.swap _ _ _)).drop
      | _ => cases e
  | dK o ks ds =>
    cases o with
    | false => cases e
    | true =>
      simp only [putAt] at e
      cases ek : keyD y with
      | none => rw [ek] at e; cases e
      | some k =>
        rw [ek] at e
        simp only at e
        split at e
        · rename_i z
          cases e
          have wk := keyD_rep ek r
          have rx := r.drop.dK
          obtain ⟨a, _, rfl, _⟩ := rx
          obtain ⟨vs, hq, n1, l, r2⟩ := RepT.putDK (k := k) rswap
          exact .inr ⟨a, _, rfl, .inl ⟨_, k, hq, wk, by rw [List.length_zip]; omega, rfl⟩, r2⟩
        · cases e
  | dT o ks ds =>
    cases o with
    | false => cases e
    | true =>
      cases y with
      | tup es =>
        simp only [putAt] at e
        cases ek : keysD es with
        | none => rw [ek] at e; cases e
        | some k =>
          rw [ek] at e
          simp only at e
          split at e
          · rename_i z
            cases e
            obtain ⟨b, bs, rfl, hb, lb, rb⟩ := r.openT
            have wk := keysD_rep ek lb rb
            subst wk
            obtain ⟨a, _, rfl, _⟩ := r.drop.dT
            obtain ⟨vs, hq, n1, l, r2⟩ := RepT.putDT (k := k) rswap
            exact .inr ⟨a, _, rfl, .inr ⟨_, k, b, hq, rfl, hb, by rw [List.length_zip]; omega, rfl⟩, r2⟩
          · cases e
      | _ => cases e
  | _ => cases e
theorem vs_put {o k value : Expr} {i : Nat} {fk fe : M D} {mk me : Bool} {pos pos' : Pos} (hu : X.A.units + 1 < cLine) (ho : PE X o (tVar i)) (hk : VE X W mk k fk) (hv : VE X W me value fe) (hs : swapsWith value (some (.Subscript o k pos')) pos.line X.env = pure false := by rfl)
    (hs1 : swapsWithSole [.Subscript o k pos'] value pos.line X.env = pure false := by rfl) (hw : swappedStores [.Subscript o k pos'] value X.env = pure none := by rfl) (h1 : (assignEach [.Subscript o k pos'] X.env).map (·.2) = [assign (.Subscript o k pos') X.env] := by rfl)
    (ha : ∀ v, assign (.Subscript o k pos') X.env v = (do
      let ov ← holding [v] (eval o X.env)
      let iv ← holding [v, ov] (eval k X.env)
      standAt pos'
      holding [v, ov, iv] (setItem ov iv v)
      release [v, ov, iv] []) := by intro _; rfl) : VSt X W [] (.Assign [.Subscript o k pos'] value pos) (dPut i fk fe) := by
  refine PS.imp (PS.orr (ps_asg hv (pg_sub ho hk set_list ha) hs1 hw h1) (ps_dput hu ho hk hv hs)) fun σ H E ⟨T, ρ, fl, ρ', rep, hf, he⟩ => ?_
  unfold dPut bindS at hf
  have fin : ∀ {x y d : D} {v w u : V} {H1 : Hp} {ρ1 : Env}, Rep X.K H1 ((y, w) :: (d, u) :: T) ρ1 σ → σ[i]? = some (some v) → ρ1.getD i .unk = x → (∃ x', putAt x y d = some x' ∧ fl = .nx ∧ ρ' = ρ1.set i x') →
      (∃ a xs j k, v = .ref a ∧ w = .int k ∧ H1 a = some (.lst xs) ∧ ixN xs.length k = some j ∧ E.nx σ (upd H1 a (.lst (xs.set j u)))) ∨ (∃ a H', v = .ref a ∧ DPut H1 a w u H' ∧ E.nx σ H') := by
    intro x y d v w u H1 ρ1 r1 hv hx ⟨x', e, e1, e2⟩
    subst e1 e2
    have hi : i < ρ1.length := by rw [r1.len]; exact (List.getElem?_eq_some_iff.mp hv).1
    have r2 := r1.take (getD_at hi) hv
    rw [hx] at r2
    have r3 : RepT X.K H1 ((y, w) :: (x, v) :: (d, u) :: (T ++ SL (ρ1.set i .unk) σ)) := r2.rep.perm (.swap _ _ _)
    have close : ∀ {H2 : Hp}, RepT X.K H2 ((x', v) :: (T ++ SL (ρ1.set i .unk) σ)) → E.nx σ H2 := fun {H2} rr => by
      have r4 : Rep X.K H2 ((x', v) :: T) (ρ1.set i .unk) σ := ⟨r2.len, r2.nos, rr⟩
      have r5 := r4.put hv
      rw [List.set_set] at r5
      exact he σ H2 Kept.refl r5
    rcases put_rep e r3 with ⟨a, xs, j, k, h1, h2, h3, h4, h5⟩ | ⟨a, H', h1, h2, h3⟩
    · exact .inl ⟨a, xs, j, k, h1, h2, h3, h4, close h5⟩
    · exact .inr ⟨a, H', h1, h2, close h3⟩
  cases qe : fe ρ with
  | none => rw [qe] at hf; cases hf
  | some re =>
    rw [qe] at hf
    cases re with
    | ex x ρ1 =>
      have : (Fl.ex x, ρ1) = (fl, ρ') := Option.some.inj hf
      injection this with e1 e2
      subst e1 e2
      exact .inl ⟨T, ρ, _, rep, qe, fun cls dd H' xr r => he cls dd σ H' Kept.refl xr r⟩
    | ok d ρ1 =>
      simp only at hf
      cases q : ρ1[i]? with
      | none => rw [q] at hf; cases hf
      | some x0 =>
        have n : x0 ≠ .unk := fun e => by rw [q, e] at hf; cases hf
        rw [q] at hf
        have h2 : bindS fk (putS i d) ρ1 = some (fl, ρ') := by
          cases x0 <;> first | exact hf | exact absurd rfl n
        unfold bindS at h2
        cases qk : fk ρ1 with
        | none => rw [qk] at h2; cases h2
        | some rk =>
          rw [qk] at h2
          cases rk with
          | ex x ρ2 =>
            have : (Fl.ex x, ρ2) = (fl, ρ') := Option.some.inj h2
            injection this with e1 e2
            subst e1 e2
            refine .inl ⟨T, ρ, _, rep, qe, fun u H1 _ r1 => ?_⟩
            obtain ⟨v, hv⟩ := r1.slot q n
            exact ⟨v, hv, _, ρ1, _, r1, qk, fun cls dd H' xr r => he cls dd σ H' Kept.refl xr r.drop⟩
          | ok y ρ2 =>
            simp only [putS] at h2
            split at h2
            · rename_i x' ex
              have : (Fl.nx, ρ2.set i x') = (fl, ρ') := Option.some.inj h2
              injection this with e1 e2
              have fin2 : ∀ {u v w : V} {H2 : Hp}, Rep X.K H2 ((y, w) :: (d, u) :: T) ρ2 σ → σ[i]? = some (some v) → _ := fun {u v w H2} r2 hv => fin r2 hv rfl ⟨x', ex, e1.symm, e2.symm⟩
              by_cases il : isLst (some (ρ2.getD i .unk)) = true
              · refine .inl ⟨T, ρ, _, rep, qe, fun u H1 _ r1 => ?_⟩
                obtain ⟨v, hv⟩ := r1.slot q n
                refine ⟨v, hv, _, ρ1, _, r1, qk, fun w H2 _ r2 => ?_⟩
                rcases fin2 r2 hv with ⟨a, xs, j, k, h1, h3, h4, h5, h6⟩ | ⟨a, H', h1, h3, h4⟩
                · exact ⟨a, xs, k, j, h1, h3, h4, h5, h6⟩
                · exfalso
                  have hi : i < ρ2.length := by rw [r2.len]; exact (List.getElem?_eq_some_iff.mp hv).1
                  have r3 := r2.take (getD_at hi) hv
                  cases xx : ρ2.getD i .unk <;> rw [xx] at il <;> simp only [isLst, Bool.false_eq_true] at il
                  rw [xx] at r3
                  obtain ⟨a', vs, e', hq, _⟩ := RepT.readL r3.rep
                  rw [h1] at e'
                  cases e'
                  rcases h3 with ⟨_, _, z, _⟩ | ⟨_, _, _, z, _⟩ <;> rw [hq] at z <;> cases z
              · refine .inr ⟨T, ρ, _, rep, qe, fun u H1 _ r1 => ?_⟩
                obtain ⟨v, hv⟩ := r1.slot q n
                refine ⟨v, hv, _, ρ1, _, r1, qk, fun w H2 _ r2 => ?_⟩
                rcases fin2 r2 hv with ⟨a, xs, j, k, h1, h3, h4, h5, h6⟩ | ⟨a, H', h1, h3, h4⟩
                · exfalso
                  have hi : i < ρ2.length := by rw [r2.len]; exact (List.getElem?_eq_some_iff.mp hv).1
                  have r3 := r2.take (getD_at hi) hv
                  cases xx : ρ2.getD i .unk <;> rw [xx] at il ex r3 <;> first | (cases ex; done) | skip
                  · exact il rfl
                  · obtain ⟨a', vs, e', hq, _⟩ := RepT.dK r3.rep
                    rw [h1] at e'
                    cases e'
                    rw [hq] at h4; cases h4
                  · obtain ⟨a', vs, e', hq, _⟩ := RepT.dT r3.rep
                    rw [h1] at e'
                    cases e'
                    rw [hq] at h4; cases h4
                · exact ⟨a, H', h1, h3, h4⟩
            · cases h2
end
end VS
set_option Elab.async false
set_option linter.all false
set_option maxRecDepth 100000
set_option maxHeartbeats 4000000
set_option autoImplicit false
noncomputable section
namespace VS
open PySem PySem.Spec PyProof.Rows L2
section
variable {X : Cx} {W : WX} {K : PySem.W.Frag} {mg : Str → Option Value} {F H H1 : Hp} {T L : List (D × V)} {ρ ρ' : Env} {σ σ' σ'' : St} {m : Bool}
def tyD : D → Option String
  | .non => some "NoneType"
  | .bl _ => some "bool"
  | .int _ => some "int"
  | .str _ => some "str"
  | .tup _ => some "tuple"
  | .ktp _ => some "tuple"
  | .lst _ _ => some "list"
  | .scr _ => some "list"
  | .dK _ _ _ => some "dict"
  | .dT _ _ _ => some "dict"
  | _ => none
theorem tyD_rep {d : D} {n : String} {v : V} (e : tyD d = some n) (r : RepT K H ((d, v) :: L)) : TyX K H v (.type n) := by
  cases d <;> simp only [tyD, Option.some.injEq, reduceCtorEq] at e <;> subst e
  · rw [r.eq_non]; exact .base .non
  · rw [r.eq_bl]; exact .base (.bl _)
  · rw [r.eq_int]; exact .base (.int _)
  · rw [r.eq_str]; exact .base (.str _)
  · obtain ⟨a, vs, rfl, q, _⟩ := r.openT; exact .base (.tup q)
  · obtain ⟨a, vs, rfl, q, _⟩ := r.readL; exact .base (.lst q)
  · obtain ⟨a, vs, rfl, q, _⟩ := r.openS
    rcases q with (q | ⟨o, q⟩) | ⟨o, its, n, h1, h2, _⟩
    · exact .base (.lst q)
    · exact .base (.frz q)
    · exact .kList h1 h2
  · obtain ⟨a, vs, rfl, q, _⟩ := r.openK
    rcases q with (q | ⟨o, q⟩) | ⟨o, its, n, h1, h2, _⟩
    · exact .base (.tup q)
    · exact .fTuple q
    · exact .kTuple h1 h2
  · obtain ⟨a, vs, rfl, q, _⟩ := r.dK; exact .base (.dK q)
  · obtain ⟨a, vs, rfl, q, _⟩ := r.dT; exact .base (.dT q)
def isaB : String → List String → Option Bool
  | _, [] => some false
  | a, n :: ns => match kitB a n with
    | none => none
    | some true => some true
    | some false => isaB a ns
def gIsa (ns : List String) (d : D) : Option D := match tyD d with
  | none => none
  | some a => (isaB a ns).map .bl
theorem isaB_any {a : String} : ∀ {ns : List String} {b : Bool}, isaB a ns = some b → PySem.W.kitAny K (.type a) (ns.map Value.type) = some b
  | [], b, h => by
    have : false = b := Option.some.inj h
    subst this
    rfl
  | n :: ns, b, h => by
    rw [isaB] at h
    cases q : kitB a n with
    | none => rw [q] at h; cases h
    | some c =>
      rw [q] at h
      refine kitAny_cons (kit_ty q) (fun e => ?_) fun e => ?_
      · subst e; exact isaB_any h
      · subst e
        exact (Option.some.inj h).symm
def dIsa (ns : List String) (f : M D) : M D := bindM f fun d => optM (gIsa ns d)
theorem gIsa_inv {ns : List String} {d x : D} (h : gIsa ns d = some x) : ∃ a b, tyD d = some a ∧ isaB a ns = some b ∧ x = .bl b := by
  unfold gIsa at h
  split at h
  · cases h
  · rename_i a ea
    obtain ⟨b, eb, rfl⟩ := Option.map_eq_some_iff.mp h
    exact ⟨a, b, ea, eb, rfl⟩
theorem ve_isa {e c : Expr} {n : String} {f : M D} {p pos : Pos} (hg : Gl X "isinstance") (hm : X.mg "isinstance" = none) (he : VE X W m e f) (hc : PE X c (tC (.ty n)))
    (hs1 : starEach [c] X.env = (false, eval c X.env) :: starEach [] X.env := by rfl) (hs : starEach [e, c] X.env = (false, eval e X.env) :: starEach [c] X.env := by rfl) (hpl : (backTo pos (starEach [c] X.env)).any (·.1) = false := by rfl) : VE X W m (.Call (.Name "isinstance" p) [e, c] [] pos) (dIsa [n] f) := by
  refine PE.imp (pe_callB call_isi hg hm (by decide +kernel) (pa_cons he (pa_cons hc pa_nil hs1) hs) (by decide) (by decide) hs hpl) fun σ H Q ⟨T, ρ, u, rep, hf, hend⟩ => ?_
  refine run1 rep hf hend fun d ρ1 v H1 h1 s1 r1 => ?_
  obtain ⟨x, ex, rfl⟩ := optM_some h1
  obtain ⟨a, b, e1, e2, rfl⟩ := gIsa_inv ex
  refine ⟨v, .ty n, .type a, .type n, b, rfl, .ty n, tyD_rep e1 r1.rep, ?_, hend _ H1 s1 (r1.drop.lift fun q => q.bl)⟩
  rw [isaB] at e2
  cases q : kitB a n with
  | none => rw [q] at e2; cases e2
  | some c =>
    rw [q] at e2
    cases c with
    | true => rw [kit_ty q]; exact e2
    | false => rw [kit_ty q]; exact e2
theorem ve_isa2 {e c c2 : Expr} {n n2 : String} {f : M D} {k : Nat} {p pos tpos : Pos} (hg : Gl X "isinstance") (hm : X.mg "isinstance" = none) (he : VE X W m e f) (hc : PE X c (tC (.ty n))) (hc2 : PE X c2 (tC (.ty n2)))
    (hs0 : starEach [c2] X.env = (false, eval c2 X.env) :: starEach [] X.env := by rfl) (hs3 : starEach [c, c2] X.env = (false, eval c X.env) :: starEach [c2] X.env := by rfl)
    (hs1 : starEach [.Tuple [c, c2] k tpos] X.env = (false, eval (.Tuple [c, c2] k tpos) X.env) :: starEach [] X.env := by rfl) (hs : starEach [e, .Tuple [c, c2] k tpos] X.env = (false, eval e X.env) :: starEach [.Tuple [c, c2] k tpos] X.env := by rfl) (hpl : (backTo pos (starEach [.Tuple [c, c2] k tpos] X.env)).any (·.1) = false := by rfl) : VE X W m (.Call (.Name "isinstance" p) [e, .Tuple [c, c2] k tpos] [] pos) (dIsa [n, n2] f) := by
  refine PE.imp (pe_callB call_isiT hg hm (by decide +kernel) (pa_cons he (pa_cons (pe_tup (pa_cons hc (pa_cons hc2 pa_nil hs0) hs3)) pa_nil hs1) hs) (by decide) (by decide) hs hpl) fun σ H Q ⟨T, ρ, u, rep, hf, hend⟩ => ?_
  refine run1 rep hf hend fun d ρ1 v H1 h1 s1 r1 => ?_
  obtain ⟨x, ex, rfl⟩ := optM_some h1
  obtain ⟨a, b, e1, e2, rfl⟩ := gIsa_inv ex
  refine ⟨(by show 2 ≤ sizeLine; decide), fun tp htp => ?_⟩
  have r2 : RepT X.K (upd H1 tp (.tup [.ty n, .ty n2])) ((d, v) :: (T ++ SL ρ1 σ)) := RepT.grow htp r1.rep
  refine ⟨v, tp, _, .type a, [.type n, .type n2], b, rfl, upd_same, .cons (.ty n) (.cons (.ty n2) .nil), tyD_rep e1 r2, isaB_any e2, hend _ _ (sm_r s1 (Same.upd htp)) ⟨r1.len, r1.nos, RepT.bl r2.drop⟩⟩
end
end VS
set_option Elab.async false
set_option linter.all false
set_option maxRecDepth 100000
set_option maxHeartbeats 4000000
set_option autoImplicit false
noncomputable section
namespace VS
open PySem PySem.Spec PyProof.Rows L2
section
variable {X : Cx} {W : WX} {K : PySem.W.Frag} {mg : Str → Option Value} {F H H1 : Hp} {T L : List (D × V)} {ρ ρ' : Env} {σ σ' σ'' : St} {m : Bool}
theorem ints_reads {h : Heap} : ∀ {ns : List Int} {its : List Value}, Vals (ns.map V.int) its → ∃ as, ReadsAll h its (ns.map PyData.int) as
  | [], _, .nil => ⟨_, .nil⟩
  | n :: ns, _, .cons r t => by
    obtain ⟨u, rfl⟩ := r
    obtain ⟨as, q⟩ := ints_reads t
    exact ⟨_, .cons (.int n u) q⟩
theorem ints_alike (n : Int) (ns : List Int) : PySem.W.AlikeAll ((.int n : PyData) :: ns.map PyData.int) := by
  have key : ∀ x ∈ ((.int n : PyData) :: ns.map PyData.int), ∃ i, x = .int i := fun x hx => by
    rcases List.mem_cons.mp hx with rfl | hx
    · exact ⟨n, rfl⟩
    · obtain ⟨i, _, rfl⟩ := List.mem_map.mp hx
      exact ⟨i, rfl⟩
  refine ⟨fun x hx y hy => ?_, fun x hx => ?_⟩
  · obtain ⟨i, rfl⟩ := key x hx
    obtain ⟨j, rfl⟩ := key y hy
    rfl
  · obtain ⟨i, rfl⟩ := key x hx
    intro z; cases z
theorem ints_depth : ∀ ns : List Int, PyData.depthAll (ns.map PyData.int) = 0
  | [] => rfl
  | n :: ns => by rw [List.map_cons, PyData.depthAll, ints_depth ns]; rfl
def rBest (K : PySem.W.Frag) (f : Int → List Int → Int) : List V → Hp → VK → Prop := fun xs H Q => ∃ (a : Addr) (n : Int) (ns : List Int), xs = [.ref a] ∧ (SqL K H a ((n :: ns).map V.int) ∨ SqT K H a ((n :: ns).map V.int)) ∧ Q (.int (f n ns)) H
theorem reads_int {h : Heap} {v : Value} {i : Int} {as : List Addr} (r : Reads h v (.int i) as) : ∃ t, v = .int i t := by
  cases r with
  | int i t => exact ⟨t, rfl⟩
theorem cr_minI (hc : X.calm = true) (hu : X.A.units + 64 < cLine) : CallR X (.builtin "min") (rBest X.K fun n ns => ns.foldl min n) := by
  intro pins s σ H vs us Q I r h
  obtain ⟨a, n, ns, rfl, hs, q⟩ := h
  rw [Vals.ref1 r]
  have hd : X.A.units + 1 + PyData.depthAll ((.int n : PyData) :: ns.map PyData.int) < cLine := by
    have := ints_depth (n :: ns)
    rw [List.map_cons] at this
    rw [this]; omega
  rcases hs with hs | hs
  · obtain ⟨its, rv, hl, _⟩ := I.list hs
    obtain ⟨as, hr⟩ := ints_reads (h := s.heap) rv
    refine PySem.W.min_list_data (x := .int n) (xs := ns.map PyData.int) (I.ok.hd hc) hl.isList (by simpa using hr) (ints_alike n ns) hd fun i v h' tk bs _ rr hk => ?_
    rw [PySem.W.minD_ints] at rr
    obtain ⟨t, rfl⟩ := reads_int rr
    exact ⟨.int _, H, I.kept hk, ⟨_, rfl⟩, q⟩
  · obtain ⟨its, rv, hl, _⟩ := I.tuple hs
    obtain ⟨as, hr⟩ := ints_reads (h := s.heap) rv
    refine PySem.W.min_tuple_data (x := .int n) (xs := ns.map PyData.int) (I.ok.hd hc) hl (by simpa using hr) (ints_alike n ns) hd fun i v h' tk bs _ rr hk => ?_
    rw [PySem.W.minD_ints] at rr
    obtain ⟨t, rfl⟩ := reads_int rr
    exact ⟨.int _, H, I.kept hk, ⟨_, rfl⟩, q⟩
theorem cr_maxI (hc : X.calm = true) (hu : X.A.units + 64 < cLine) : CallR X (.builtin "max") (rBest X.K fun n ns => ns.foldl max n) := by
  intro pins s σ H vs us Q I r h
  obtain ⟨a, n, ns, rfl, hs, q⟩ := h
  rw [Vals.ref1 r]
  have hd : X.A.units + 1 + PyData.depthAll ((.int n : PyData) :: ns.map PyData.int) < cLine := by
    have := ints_depth (n :: ns)
    rw [List.map_cons] at this
    rw [this]; omega
  rcases hs with hs | hs
  · obtain ⟨its, rv, hl, _⟩ := I.list hs
    obtain ⟨as, hr⟩ := ints_reads (h := s.heap) rv
    refine PySem.W.max_list_data (x := .int n) (xs := ns.map PyData.int) (I.ok.hd hc) hl.isList (by simpa using hr) (ints_alike n ns) hd fun i v h' tk bs _ rr hk => ?_
    rw [PySem.W.maxD_ints] at rr
    obtain ⟨t, rfl⟩ := reads_int rr
    exact ⟨.int _, H, I.kept hk, ⟨_, rfl⟩, q⟩
  · obtain ⟨its, rv, hl, _⟩ := I.tuple hs
    obtain ⟨as, hr⟩ := ints_reads (h := s.heap) rv
    refine PySem.W.max_tuple_data (x := .int n) (xs := ns.map PyData.int) (I.ok.hd hc) hl (by simpa using hr) (ints_alike n ns) hd fun i v h' tk bs _ rr hk => ?_
    rw [PySem.W.maxD_ints] at rr
    obtain ⟨t, rfl⟩ := reads_int rr
    exact ⟨.int _, H, I.kept hk, ⟨_, rfl⟩, q⟩
def gBest (f : Int → List Int → Int) (ds : List D) : Option D := match ds with
  | [x] => (seqOf x).bind fun xs => match allI xs with
    | some (n :: ns) => some (.int (f n ns))
    | _ => none
  | _ => none
def gMin1 := gBest fun n ns => ns.foldl min n
def gMax1 := gBest fun n ns => ns.foldl max n
def gMin (ds : List D) : Option D := match ds with
  | [_] => gMin1 ds
  | _ => gMin2 ds
def gMax (ds : List D) : Option D := match ds with
  | [_] => gMax1 ds
  | _ => gMax2 ds
def rMinA (K : PySem.W.Frag) : List V → Hp → VK → Prop := fun xs H Q => rBest K (fun n ns => ns.foldl min n) xs H Q ∨ (∃ i j, xs = [.int i, .int j] ∧ Q (.int (if j < i then j else i)) H)
def rMaxA (K : PySem.W.Frag) : List V → Hp → VK → Prop := fun xs H Q => rBest K (fun n ns => ns.foldl max n) xs H Q ∨ (∃ i j, xs = [.int i, .int j] ∧ Q (.int (if j > i then j else i)) H)
theorem cr_minA (hc : X.calm = true) (hu : X.A.units + 64 < cLine) : CallR X (.builtin "min") (rMinA X.K) := CallR.orr (cr_minI hc hu) (call_min2 hc)
theorem cr_maxA (hc : X.calm = true) (hu : X.A.units + 64 < cLine) : CallR X (.builtin "max") (rMaxA X.K) := CallR.orr (cr_maxI hc hu) (call_max2 hc)
def idxP (d : PyData) : List PyData → Option Nat
  | [] => none
  | z :: zs => if PyData.eqv z d = true then some 0 else (idxP d zs).map (· + 1)
theorem idxP_ok {d : PyData} : ∀ {zs : List PyData} {j : Nat}, idxP d zs = some j → ∃ z, zs[j]? = some z ∧ PyData.eqv z d = true ∧ ∀ (m : Nat) (z' : PyData), m < j → zs[m]? = some z' → PyData.eqv z' d = false
  | [], j, h => by cases h
  | z :: zs, j, h => by
    rw [idxP] at h
    by_cases e : PyData.eqv z d = true
    · rw [if_pos e] at h
      cases h
      exact ⟨z, rfl, e, fun m z' hm => by omega⟩
    · rw [if_neg e] at h
      obtain ⟨i, hi, rfl⟩ := Option.map_eq_some_iff.mp h
      obtain ⟨y, h1, h2, h3⟩ := idxP_ok hi
      refine ⟨y, h1, h2, fun m z' hm hz => ?_⟩
      cases m with
      | zero =>
        have : z = z' := Option.some.inj hz
        subst this
        cases q : PyData.eqv z d
        · rfl
        · exact absurd q e
      | succ m => exact h3 m z' (by omega) hz
def idxD (x y : D) : Option D := match lstOf x with
  | none => none
  | some ds => match dats ds, dat y with
    | some es, some e => if SeqAt.shaped (.list es) = true ∧ SeqAt.shaped e = true then (idxP e es).map fun (j : Nat) => D.int (j : Int) else none
    | _, _ => none
def idxS (i : Nat) (ys : List D) : M D := fun ρ => match ys with
  | [y] => match idxD (ρ.getD i .unk) y with
    | some d => some (.ok d ρ)
    | none => none
  | _ => none
def dIdx (i : Nat) (f : M (List D)) : M D := fun ρ0 => if isLst ρ0[i]? = true then bindM f (idxS i) ρ0 else none
theorem ve_index {o : Expr} {i : Nat} {f : M (List D)} {e : Expr} {apos cpos : Pos} (hu : X.A.units + 65 < cLine) (ho : PE X o (tVar i)) (ha : VA X W m [e] f) (hbase : attributeBase o "index" X.env (eval o X.env) = eval o X.env := by rfl)
    (hfew : ((backTo cpos (starEach [e] X.env)).all (fun x => !x.1) && (backToKw cpos (keywordEach [] X.env)).all (fun x => x.1.isSome)
      && decide (([e] : List Expr).length + ([] : List Keyword).length + (if ([] : List Keyword).isEmpty then 0 else 1) < 30)) = true := by rfl)
    (hline : (apos.endLine == cpos.line) = true := by rfl) (hs : starEach [e] X.env = (false, eval e X.env) :: starEach [] X.env := by rfl) (hplain : (backTo cpos (starEach [] X.env)).any (·.1) = false := by rfl) :
    VE X W m (.Call (.Attribute o "index" apos) [e] [] cpos) (dIdx i f) := by
  refine PE.imp (pe_bm PySem.F.plainAttrs_list PySem.F.slot_list_index PySem.F.type_list_index (mt_indexD hu) ho ha hbase hfew hline hs hplain) fun σ H Q ⟨T, ρ, u, rep, hf, he⟩ => ?_
  unfold dIdx at hf
  by_cases z : isLst ρ[i]? = true
  · rw [if_pos z] at hf
    cases q : ρ[i]? with
    | none => rw [q] at z; cases z
    | some x =>
      rw [q] at z
      cases x <;> simp only [isLst, Bool.false_eq_true] at z
      obtain ⟨v, hv⟩ := rep.slot q (by intro z; cases z)
      obtain ⟨a, vs0, rfl, hq, _, _⟩ := RepT.readL (rep.take q hv).rep
      refine ⟨.ref a, hv, .inl ⟨rfl, _, .inl (.inl hq)⟩, ?_⟩
      refine runA rep hf he fun ds ρ1 vs H1 h1 s1 l1 r1 => ?_
      unfold idxS at h1
      split at h1
      · rename_i y
        split at h1
        · rename_i d ed
          have : u = .ok d ρ1 := (Option.some.inj h1).symm
          subst this
          obtain ⟨w, rfl⟩ := len1 l1
          have r2 : Rep X.K H1 ((y, w) :: T) ρ1 σ := r1
          unfold idxD at ed
          split at ed
          · cases ed
          · rename_i xs ex
            split at ed
            · rename_i es e ee ey
              split at ed
              · rename_i zz
                obtain ⟨j, ej, rfl⟩ := Option.map_eq_some_iff.mp ed
                obtain ⟨z, h2, h3, h4⟩ := idxP_ok ej
                have hi : i < ρ1.length := by rw [r1.len]; exact (List.getElem?_eq_some_iff.mp hv).1
                have r3 := r2.take (getD_at hi) hv
                have dl : Dp X.K H1 (.ref a) (.list es) := by
                  refine RepT.dp r3.rep ?_
                  cases xx : ρ1.getD i .unk <;> rw [xx] at ex <;> simp only [lstOf, Option.some.injEq, reduceCtorEq] at ex <;> subst ex <;> simp only [dat, ee, Option.map_some]
                exact ⟨a, w, e, es, j, z, rfl, rfl, dl, r2.rep.dp ey, zz.1, zz.2, h2, h3, h4, he _ H1 s1 (r2.drop.lift fun q => q.int)⟩
              · cases ed
            · cases ed
        · cases h1
      · cases h1
  · rw [if_neg z] at hf; cases hf
def keyB : Key → D
  | .inl i => .int i
  | .inr x => .str x
def tupK (k : List Key) : D := .tup (k.map keyB)
def keyP : Key → PyData
  | .inl i => .int i
  | .inr x => .str x
def tupP (k : List Key) : PyData := .tuple (k.map keyP)
theorem dats_key : ∀ k : List Key, dats (k.map keyB) = some (k.map keyP)
  | [] => rfl
  | .inl i :: k => by rw [List.map_cons, dats, dats_key k]; rfl
  | .inr x :: k => by rw [List.map_cons, dats, dats_key k]; rfl
theorem dat_key (k : List Key) : dat (tupK k) = some (tupP k) := by
  unfold tupK tupP
  rw [dat, dats_key]; rfl
theorem dats_keys : ∀ ks : List (List Key), dats (ks.map tupK) = some (ks.map tupP)
  | [] => rfl
  | k :: ks => by rw [List.map_cons, dats, dat_key, dats_keys ks]; rfl
theorem key_own {F' : Hp} : ∀ k : List Key, OwL K F' H (k.map keyB) (k.map kV) []
  | [] => by rw [List.map_nil, List.map_nil, OwL]; exact ⟨rfl, rfl⟩
  | .inl i :: k => by
    rw [List.map_cons, List.map_cons, OwL]
    exact ⟨_, _, [], [], rfl, rfl, by rw [keyB, Ow]; exact ⟨rfl, rfl⟩, key_own k⟩
  | .inr i :: k => by
    rw [List.map_cons, List.map_cons, OwL]
    exact ⟨_, _, [], [], rfl, rfl, by rw [keyB, Ow]; exact ⟨rfl, rfl⟩, key_own k⟩
def leK (x y : List Key) : Bool := PySem.W.dataLe false tupP x y
def rSortDT : List V → Hp → VK → Prop := fun xs H Q => ∃ (a : Addr) (kvs : List (List Key × V)), xs = [.ref a] ∧ H a = some (.dT kvs) ∧ PySem.W.AllAlike (kvs.map fun p => tupP p.1) ∧ PySem.W.Sortable (kvs.map fun p => tupP p.1) ∧ (∀ p ∈ kvs, (tupP p.1).depth ≤ 60) ∧
  ∀ bs : List (List Key × Addr), bs.map (·.1) = kvs.map (·.1) → (∀ b ∈ bs, H b.2 = some (.tup (b.1.map kV))) → ∀ p, H p = none → Q (.ref p) (upd H p (.lst ((bs.mergeSort fun x y => leK x.1 y.1).map fun b => V.ref b.2)))
theorem keyP_reads {pins : List (Addr × Obj)} {s : Shared} (I : Inv X pins σ H s) {b : Addr} {k : List Key} (hb : H b = some (.tup (k.map kV))) : ∃ as, Reads s.heap (.ref b) (tupP k) as := by
  have key : ∀ k : List Key, DpAll X.K H (k.map kV) (k.map keyP) := by
    intro k
    induction k with
    | nil => exact .nil
    | cons c k ih =>
      cases c with
      | inl i => exact .cons (.int i) ih
      | inr x => exact .cons (.str x) ih
  exact Dp.reads I _ (.ref b) _ (.tup (.inl (.inl hb)) (key k)) rfl
theorem keyAll_nil {h : Heap} : ∀ {k : List Key} {vs : List Value} {as : List Addr}, ReadsAll h vs (k.map keyP) as → as = []
  | [], _, _, r => by cases r; rfl
  | .inl i :: k, _, _, r => by
    cases r with
    | cons r1 r2 =>
      have e := keyAll_nil (k := k) r2
      cases r1
      rw [e]; rfl
  | .inr i :: k, _, _, r => by
    cases r with
    | cons r1 r2 =>
      have e := keyAll_nil (k := k) r2
      cases r1
      rw [e]; rfl
theorem tupP_nil {h : Heap} {k : List Key} {v : Value} {as : List Addr} (r : Reads h v (tupP k) as) : as = [] := by
  unfold tupP at r
  cases r with
  | tuple _ _ _ r => exact keyAll_nil r
theorem refs_each {s : Shared} {a : Addr} {h2 : Heap} : ∀ {bs : List (List Key × Addr)}, (∀ b ∈ bs, ∃ as, Reads h2 (.ref b.2) (tupP b.1) as) →
    PySem.W.EachIs (fun v (b : List Key × Addr) => v = Value.ref b.2) (bs.map fun b => Value.ref b.2) bs ∧ PySem.W.EachIs (fun v (b : List Key × Addr) => ∃ as, Reads h2 v (tupP b.1) as ∧ a ∉ as) (bs.map fun b => Value.ref b.2) bs
  | [], _ => ⟨.nil, .nil⟩
  | b :: bs, h => by
    obtain ⟨h1, h2⟩ := refs_each (s := s) (a := a) (bs := bs) fun c hc => h c (List.mem_cons_of_mem _ hc)
    obtain ⟨as, r⟩ := h b (by simp)
    exact ⟨.cons rfl h1, .cons ⟨as, r, by rw [tupP_nil r]; simp⟩ h2⟩
theorem refs_vals : ∀ {bs : List (List Key × Addr)} {out : List Value}, PySem.W.EachIs (fun v (b : List Key × Addr) => v = Value.ref b.2) out bs → Vals (bs.map fun b => V.ref b.2) out
  | _, _, .nil => .nil
  | _, _, .cons h t => .cons h (refs_vals t)
theorem cr_sortDT (hcalm : X.calm = true) (hu : X.A.units + 64 < cLine) : CallR X (.builtin "sorted") rSortDT := by
  intro pins s σ H xs us Q I r q
  obtain ⟨a, kvs, rfl, hd, hal, hso, hdp, q⟩ := q
  rw [Vals.ref1 r]
  obtain ⟨z, lo, ys, rel, dd⟩ := dt_of I.hok hd
  obtain ⟨es, ep, hraw, hsz, hent⟩ := dd.raw
  have hl : ys.length = kvs.length := (Paired.length rel).symm
  have h16 : es.size ≤ sizeLine := by rw [hsz, hl]; exact z
  -- the keys as they stand
  let bs : List (List Key × Addr) := ys.map fun y => (y.1, y.2.1)
  have hbk : bs.map (·.1) = kvs.map (·.1) := by
    have : ∀ {l : List (List Key × V)} {m : List (List Key × Addr × Value)}, KT H l m → (m.map fun y => (y.1, y.2.1)).map (·.1) = l.map (·.1) := by
      intro l m q
      induction q with
      | nil => rfl
      | cons h _ ih => rw [List.map_cons, List.map_cons, List.map_cons, ih, h.1]
    exact this rel
  have hbt : ∀ b ∈ bs, H b.2 = some (.tup (b.1.map kV)) := by
    have : ∀ {l : List (List Key × V)} {m : List (List Key × Addr × Value)}, KT H l m → ∀ b ∈ (m.map fun y => (y.1, y.2.1)), H b.2 = some (.tup (b.1.map kV)) := by
      intro l m q
      induction q with
      | nil => intro b hb; cases hb
      | cons h _ ih =>
        intro b hb
        rcases List.mem_cons.mp hb with rfl | hb
        · rw [← h.1]; exact h.2.1
        · exact ih b hb
    exact this rel
  refine Calls.call_function_entry PyProof.Rows.kind_sorted PyProof.Rows.plain_sorted PyProof.Rows.entry_sorted (PyProof.Rows.args_sorted1 _) ?_
  unfold Builtin.«sorted»
  refine wpAny_bind (m := checkCount "sorted" 1 1 _) (wpAny_pure ?_)
  refine wpAny_bind (PySem.W.kdu_collect (A := X.A.in1) (PySem.KdlSrc.rawDict (es := es) (ep := ep) lo) (I.ok.hd hcalm) hraw h16 fun h' tk acc hk hacc => ?_)
  have ea : acc.toList = bs.map fun b => Value.ref b.2 := by
    apply List.ext_getElem?
    intro j
    by_cases hj : j < acc.size
    · have e1 : acc.toList[j]? = some acc[j] := by rw [Array.getElem?_toList, Array.getElem?_eq_getElem hj]
      obtain ⟨hi, e2⟩ := hacc.2 j acc[j] (Array.getElem?_eq_getElem hj)
      obtain ⟨y, hy, e3, _⟩ := hent j hi
      rw [e1, e2, e3]
      show _ = ((ys.map fun y => (y.1, y.2.1)).map fun b => Value.ref b.2)[j]?
      rw [List.getElem?_map, List.getElem?_map, hy]; rfl
    · rw [List.getElem?_eq_none (by rw [Array.length_toList]; omega), List.getElem?_eq_none]
      show ((ys.map fun y => (y.1, y.2.1)).map fun b => Value.ref b.2).length ≤ j
      rw [List.length_map, List.length_map, ← hsz]
      have := hacc.1
      omega
  have hbl : bs.length ≤ sizeLine := by
    show (ys.map fun y => (y.1, y.2.1)).length ≤ sizeLine
    rw [List.length_map, ← hsz]; exact h16
  have I1 : Inv X pins σ H { s with heap := h', toks := tk } := I.kept hk
  rw [ea]
  refine wpAny_bind (wpAny_newList ?_ (by rw [List.length_map]; exact hbl))
  have hoL : (h'.push (seqObj "list" (bs.map fun b => Value.ref b.2).toArray 0)).get? h'.objs.size = some (seqObj "list" (bs.map fun b => Value.ref b.2).toArray 0) := Heap.get?_push_size _ rfl
  show wpAny _ _ _ _ _ { s with heap := h'.push (seqObj "list" (bs.map fun b => Value.ref b.2).toArray 0), toks := tk }
  have hreads : ∀ b ∈ bs, ∃ as, Reads (h'.push (seqObj "list" (bs.map fun b => Value.ref b.2).toArray 0)) (.ref b.2) (tupP b.1) as := fun b hb => by
    obtain ⟨as, r⟩ := keyP_reads I1 (hbt b hb)
    exact ⟨as, PyProof.Rows.Reads.keeps (fun _ _ e => Heap.get?_push_of_some _ e) r⟩
  obtain ⟨er0, er⟩ := refs_each (s := s) (a := h'.objs.size) hreads
  have em : bs.map (fun b => tupP b.1) = kvs.map fun p => tupP p.1 := by
    have := congrArg (List.map tupP) hbk
    simpa [List.map_map, Function.comp_def] using this
  refine wpAny_bind (wpAny_holding (PySem.W.list_sort_data (s := { s with heap := h'.push (seqObj "list" (bs.map fun b => Value.ref b.2).toArray 0), toks := tk }) (enc := fun b : List Key × Addr => tupP b.1) hoL er0 er (by rw [em]; exact hal) (by rw [em]; exact hso) hbl (fun b hb => ?_) fun out hlen ho => ?_))
  · have : (tupP b.1) ∈ kvs.map fun p => tupP p.1 := by rw [← em]; exact List.mem_map.mpr ⟨b, hb, rfl⟩
    obtain ⟨p, hp, e⟩ := List.mem_map.mp this
    have := hdp p hp
    rw [e] at this
    show X.A.units + 1 + 1 + _ < _
    omega
  · obtain ⟨e', he'⟩ := PyProof.Rows.sortedHeap_at (vs := bs.map fun b => Value.ref b.2) (out := out.toArray) hoL
    have vo := refs_vals ho
    have hlen2 : ((bs.mergeSort fun x y => leK x.1 y.1).map fun b => V.ref b.2).length ≤ sizeLine := by rw [List.length_map, List.length_mergeSort]; exact hbl
    refine wpAny_pure ⟨_, rfl, .ref h'.objs.size, upd H h'.objs.size (.lst ((bs.mergeSort fun x y => leK x.1 y.1).map fun b => V.ref b.2)), I1.laid (t' := tk) (fun b u e => ?_) (Nat.le_refl _)
      (show ObjOk X.prog X.w _ _ _ (.lst _) from ⟨hlen2, out, e', vo, he'⟩), rfl, q bs hbk hbt _ (I1.hok.fresh (Nat.le_refl _))⟩
    have hb : b < h'.objs.size := Heap.lt_size e
    rw [PyProof.Rows.sortedHeap_old (Nat.ne_of_lt hb) (by rw [size_push']; exact Nat.lt_succ_of_lt hb)]
    exact Heap.get?_push_of_some _ e
def gSorted (ds : List D) : Option D := match ds with
  | [.dT _ ks _] => (sortD (ks.map tupK)).map fun ys => .lst true ys
  | _ => gSort ds
def rSorted2 (K : PySem.W.Frag) : List V → Hp → VK → Prop := fun xs H Q => rSortDT xs H Q ∨ rSortA K xs H Q
theorem cr_sorted2 (hcalm : X.calm = true) (hu : X.A.units + 64 < cLine) : CallR X (.builtin "sorted") (rSorted2 X.K) := CallR.orr (cr_sortDT hcalm hu) (cr_sortA hu)
theorem RepT.tups {bs : List (List Key × Addr)} : (∀ b ∈ bs, H b.2 = some (.tup (b.1.map kV))) → RepT K H L → RepT K H ((bs.map fun b => tupK b.1).zip (bs.map fun b => V.ref b.2) ++ L) := by
  intro hb r
  induction bs with
  | nil => exact r
  | cons b bs ih => exact RepT.tupOf (hb b (by simp)) (fun F' => key_own b.1) (ih fun c hc => hb c (List.mem_cons_of_mem _ hc))
theorem impSorted : ImpA K (rSorted2 K) gSorted := by
  intro H L ds vs d Q e l r h
  unfold gSorted at e
  split at e
  · rename_i o ks xs
    obtain ⟨ys, e3, rfl⟩ := Option.map_eq_some_iff.mp e
    obtain ⟨v, rfl⟩ := len1 l
    have r1 : RepT K H ((.dT o ks xs, v) :: L) := r
    obtain ⟨a, ws, rfl, hq, n1, nd, l2, r2⟩ := r1.dT
    unfold sortD at e3
    rw [dats_keys] at e3
    simp only at e3
    split at e3
    · rename_i z
      cases e3
      obtain ⟨z1, z2⟩ := z
      rw [Bool.and_eq_true, Bool.and_eq_true, List.all_eq_true] at z1
      have ek : (ks.zip ws).map (fun p => tupP p.1) = ks.map tupP := by
        have : (ks.zip ws).map (·.1) = ks := List.map_fst_zip (by omega)
        have := congrArg (List.map tupP) this
        simpa [List.map_map, Function.comp_def] using this
      refine .inl ⟨a, ks.zip ws, rfl, hq, by rw [ek]; exact alikeB_ok z1.1.1, by rw [ek]; exact sortB_ok z1.1.2, fun p hp => ?_, fun bs hb1 hb2 p hp => h _ _ (Same.upd hp) ?_⟩
      · have : tupP p.1 ∈ ks.map tupP := by rw [← ek]; exact List.mem_map.mpr ⟨p, hp, rfl⟩
        exact of_decide_eq_true (z1.2 _ this)
      · have hk : bs.map (·.1) = ks := by rw [hb1]; exact List.map_fst_zip (by omega)
        have e1 : (ks.map tupK).mergeSort leD = ((bs.mergeSort fun x y => leK x.1 y.1).map fun b => tupK b.1) := by
          have := List.map_mergeSort (f := fun b : List Key × Addr => tupK b.1) (r := fun x y => leK x.1 y.1) (s := leD) (l := bs) (fun x _ y _ => by
            unfold leK leD PySem.W.dataLe PySem.W.sortLe
            simp only [dat_key, Option.getD_some])
          rw [this]
          have e2 : bs.map (fun b => tupK b.1) = ks.map tupK := by
            have := congrArg (List.map tupK) hk
            simpa [List.map_map, Function.comp_def] using this
          rw [e2]
        rw [e1]
        refine RepT.newL (by simp) hp ?_
        refine RepT.tups (fun b hb => hb2 b ?_) r1.drop
        exact (List.mergeSort_perm bs _).mem_iff.mp hb
    · cases e3
  · exact .inr (impSort H L ds vs d Q e l r h)
end
end VS
set_option Elab.async false
set_option linter.all false
set_option maxRecDepth 100000
set_option maxHeartbeats 4000000
set_option autoImplicit false
noncomputable section
namespace VS
open PySem PySem.Spec PyProof.Rows L2
section
variable {X : Cx} {W : WX} {K : PySem.W.Frag} {mg : Str → Option Value} {F H H1 : Hp} {T L : List (D × V)} {ρ ρ' : Env} {σ σ' σ'' : St} {m : Bool}
def ImpS (K : PySem.W.Frag) (r : List V → Hp → VK → Prop) (g : List D → Option D) : Prop := ∀ H L ds vs d Q, g ds = some d → ds.length = vs.length → RepT K H (ds.zip vs ++ L) → (∀ u, scD d = some u → Q u H) → r vs H Q
theorem sLen : ImpS K (rLen K) gLen := by
  intro H L ds vs d Q e l r h
  unfold gLen at e
  split at e
  · obtain ⟨n, e1, rfl⟩ := Option.map_eq_some_iff.mp e
    obtain ⟨v, rfl⟩ := len1 l
    exact gLen_rd e1 r (h _ rfl)
  · cases e
theorem sAbs : ImpS K (fun xs H Q => ∃ i, xs = [.int i] ∧ Q (.int (if i < 0 then -i else i)) H) gAbs := by
  intro H L ds vs d Q e l r h
  unfold gAbs at e
  split at e
  · cases e
    obtain ⟨v, rfl⟩ := len1 l
    have e1 := RepT.eq_int r
    subst e1
    exact ⟨_, rfl, h _ rfl⟩
  · cases e
theorem sSum : ImpS K (rSum K) gSum := by
  intro H L ds vs d Q e l r h
  unfold gSum at e
  split at e
  · rename_i x
    obtain ⟨xs, e1, e2⟩ := Option.bind_eq_some_iff.mp e
    obtain ⟨ns, e3, rfl⟩ := Option.map_eq_some_iff.mp e2
    obtain ⟨v, rfl⟩ := len1 l
    have r1 : RepT K H ((x, v) :: L) := r
    obtain ⟨a, ws, rfl, sq, l2, r2⟩ := r1.list e1
    rw [allI_eq e3] at l2 r2
    have := zip_int (by rw [← l2, List.length_map]) r2
    subst this
    exact ⟨a, ns, rfl, sq, h _ rfl⟩
  · cases e
theorem sAll : ImpS K (rAll K) gAll := by
  intro H L ds vs d Q e l r h
  unfold gAll at e
  split at e
  · rename_i x
    obtain ⟨xs, e1, e2⟩ := Option.bind_eq_some_iff.mp e
    obtain ⟨ns, e3, rfl⟩ := Option.map_eq_some_iff.mp e2
    obtain ⟨v, rfl⟩ := len1 l
    have r1 : RepT K H ((x, v) :: L) := r
    obtain ⟨a, ws, rfl, sq, l2, r2⟩ := r1.list e1
    rw [allB_eq e3] at l2 r2
    have := zip_bl (by rw [← l2, List.length_map]) r2
    subst this
    exact ⟨a, ns, rfl, sq, h _ rfl⟩
  · cases e
theorem sBest {f : Int → List Int → Int} : ImpS K (rBest K f) (gBest f) := by
  intro H L ds vs d Q e l r h
  unfold gBest at e
  split at e
  · rename_i x
    obtain ⟨xs, e1, e2⟩ := Option.bind_eq_some_iff.mp e
    split at e2
    · rename_i n ns e3
      cases e2
      obtain ⟨v, rfl⟩ := len1 l
      have r1 : RepT K H ((x, v) :: L) := r
      obtain ⟨a, ws, rfl, sq, l2, r2⟩ := r1.seq e1
      rw [allI_eq e3] at l2 r2
      have := zip_int (by rw [← l2, List.length_map]) r2
      subst this
      exact ⟨a, n, ns, rfl, sq, h _ rfl⟩
    · cases e2
  · cases e
theorem sMin : ImpS K (rMinA K) gMin := by
  intro H L ds vs d Q e l r h
  unfold gMin at e
  split at e
  · exact .inl (sBest H L _ vs d Q e l r h)
  · unfold gMin2 at e
    split at e
    · cases e
      obtain ⟨v, w, rfl⟩ := len2 l
      have e1 := RepT.eq_int r
      have e2 := RepT.eq_int (RepT.drop r)
      subst e1; subst e2
      exact .inr ⟨_, _, rfl, h _ rfl⟩
    · cases e
theorem sMax : ImpS K (rMaxA K) gMax := by
  intro H L ds vs d Q e l r h
  unfold gMax at e
  split at e
  · exact .inl (sBest H L _ vs d Q e l r h)
  · unfold gMax2 at e
    split at e
    · cases e
      obtain ⟨v, w, rfl⟩ := len2 l
      have e1 := RepT.eq_int r
      have e2 := RepT.eq_int (RepT.drop r)
      subst e1; subst e2
      exact .inr ⟨_, _, rfl, h _ rfl⟩
    · cases e
def isSc (d : D) : Bool := (scD d).isSome
def dCallS (ks : List (Option Nat)) (g : List D → Option D) (f : M (List D)) : M D := bindM f fun ds ρ => match g (takeIO ks ds ρ).1 with
  | none => none
  | some d => if isSc d = true then some (.ok d ρ) else none
theorem tCBS_of {ks : List (Option Nat)} {r : List V → Hp → VK → Prop} {g : List D → Option D} {f : M (List D)} (hg : ImpS K r g) {Q : VK} (h : tOf K mg W m (dCallS ks g f) σ H Q) : tCB r (taIO K mg W m ks f) σ H Q := by
  obtain ⟨T, ρ, u, rep, hf, he⟩ := h
  unfold dCallS bindM at hf
  cases q : f ρ with
  | none => rw [q] at hf; cases hf
  | some w =>
    rw [q] at hf
    refine ⟨T, ρ, w, rep, q, ?_⟩
    cases w with
    | ex x ρ2 =>
      have : u = .ex x ρ2 := (Option.some.inj hf).symm
      subst this
      exact he
    | ok ds ρ1 =>
      intro tv vs H1 s1 l1 io r1
      obtain ⟨l2, r2⟩ := take_rep l1 io r1
      simp only at hf
      cases qg : g (takeIO ks ds ρ1).1 with
      | none => rw [qg] at hf; cases hf
      | some d =>
        rw [qg] at hf
        simp only at hf
        split at hf
        · have : u = .ok d ρ1 := (Option.some.inj hf).symm
          subst this
          refine hg H1 (T ++ SL (takeIO ks ds ρ1).2 σ) _ vs d Q qg l2 (by rw [← List.append_assoc]; exact r2.rep) fun z ez => ?_
          exact he z H1 s1 ((Rep.dropL r1).lift fun q => scD_rep ez q)
        · cases hf
theorem ve_callS {id : String} {ks : List (Option Nat)} {r : List V → Hp → VK → Prop} {g : List D → Option D} {f : M (List D)} {x : Str} {e : Expr} {es : List Expr} {p pos : Pos} (hc : CallR X (.builtin id) r) (hi : ImpS X.K r g) (hg : Gl X x) (hm : X.mg x = none) (hv : bootBuiltins x = some (.builtin id))
    (ha : VIO X W m ks (e :: es) f) (hn : x ≠ "__name__" := by decide) (hdb : (x == ("__debug__" : Str)) = false := by decide)
    (he : starEach (e :: es) X.env = (false, eval e X.env) :: starEach es X.env := by rfl) (hpl : (backTo pos (starEach es X.env)).any (·.1) = false := by rfl) : VE X W m (.Call (.Name x p) (e :: es) [] pos) (dCallS ks g f) :=
  PE.imp (pe_callB hc hg hm hv ha hn hdb he hpl) fun _ _ _ h => tCBS_of hi h
def scAll (xs : List D) : Bool := xs.all isSc
def gMulA (x y : D) : Option D := match x, y with
  | .lst _ xs, .int k => if in63 k ∧ xs.length * k.toNat ≤ sizeLine ∧ scAll xs = true then some (.lst true (List.replicate k.toNat xs).flatten) else none
  | _, _ => gMul x y
theorem sc_zip : ∀ {xs : List D} {vs : List V} {L : List (D × V)}, scAll xs = true → xs.length = vs.length → RepT K H (xs.zip vs ++ L) → xs.map scD = vs.map some
  | [], [], _, _, _, _ => rfl
  | [], _ :: _, _, _, l, _ => by cases l
  | _ :: _, [], _, _, l, _ => by cases l
  | x :: xs, v :: vs, L, z, l, r => by
    have z' : isSc x = true ∧ scAll xs = true := by simpa [scAll] using z
    have r1 : RepT K H ((x, v) :: (xs.zip vs ++ L)) := r
    obtain ⟨u, hu⟩ := Option.isSome_iff_exists.mp (show (scD x).isSome = true from z'.1)
    have := scD_eq hu r1
    subst this
    rw [List.map_cons, List.map_cons, hu, sc_zip z'.2 (Nat.succ.inj l) r1.drop]
theorem sc_reps : ∀ {xs : List D} {vs : List V} {L : List (D × V)}, xs.map scD = vs.map some → RepT K H L → RepT K H (xs.zip vs ++ L)
  | [], [], _, _, r => r
  | [], _ :: _, _, e, _ => by cases e
  | _ :: _, [], _, e, _ => by cases e
  | x :: xs, v :: vs, L, e, r => by
    rw [List.map_cons, List.map_cons] at e
    injection e with e1 e2
    exact scD_rep e1 (sc_reps e2 r)
theorem op_mulA : OpR X (binaryOp .Mult) (fun x y H Q => rRep x y H Q ∨ rI CMul (fun i j => .int (i * j)) x y H Q) := OpR.orr op_rep op_mul
theorem impMulA : Imp2 K (fun x y H Q => rRep x y H Q ∨ rI CMul (fun i j => .int (i * j)) x y H Q) gMulA := by
  intro H L x y d v w Q e r h
  unfold gMulA at e
  split at e
  · rename_i o xs k
    split at e
    · rename_i z
      cases e
      have ew := r.eq_int
      subst ew
      obtain ⟨a, vs, rfl, hq, l, r2⟩ := r.drop.readL
      have es := sc_zip z.2.2 l r2
      refine .inl ⟨a, k, vs, rfl, rfl, hq, z.1.lo, z.1.hi, by rw [← l]; exact z.2.1, fun p hp => h _ _ (Same.upd hp) (RepT.newL ?_ hp (sc_reps ?_ r.drop.drop))⟩
      · simp [l]
      · generalize k.toNat = n
        induction n with
        | zero => rfl
        | succ n ih => rw [List.replicate_succ, List.replicate_succ, List.flatten_cons, List.flatten_cons, List.map_append, List.map_append, ih, es]
    · cases e
  · exact .inr (impMul H L x y d v w Q e r h)
def cLt (i j : Int) : Bool := decide (i < j)
def cLe (i j : Int) : Bool := decide (i ≤ j)
def cGt (i j : Int) : Bool := decide (j < i)
def cGe (i j : Int) : Bool := decide (j ≤ i)
theorem op_ltC : OpR X (compareOp .Lt) (rCmp cLt) := op_lt
theorem op_leC : OpR X (compareOp .LtE) (rCmp cLe) := op_le
theorem op_gtC : OpR X (compareOp .Gt) (rCmp cGt) := op_gt
theorem op_geC : OpR X (compareOp .GtE) (rCmp cGe) := op_ge
structure Def (K : PySem.W.Frag) (mg : Str → Option Value) (x : Str) (st : Stmt) (ps : List Str) : Prop where
  ex : ∃ (f : Addr) (fd : FuncData), Fun K x x st f fd ∧ mg x = some (.ref f) ∧ Binds K fd ps []
structure Cal (P : Program) (w : World) (K : PySem.W.Frag) (mg : Str → Option Value) (base : Heap) (k : Nat) (x : Str) (ps : List Str) (F : FnD) : Prop where
  ex : ∃ (fa : Addr) (fd : FuncData), FnOk P w K mg base (L2N.CX P w) k fa fd ps (spOf K mg F) ∧ mg x = some (.ref fa) ∧ PySem.W.keepIn K (.ref fa) = true ∧ Binds K fd ps []
theorem Cal.mono {P : Program} {w : World} {base : Heap} {j k : Nat} {x : Str} {ps : List Str} {Fd : FnD} (c : Cal P w K mg base j x ps Fd) (h : j ≤ k) : Cal P w K mg base k x ps Fd := by
  obtain ⟨fa, fd, G, h1, h2, h3⟩ := c.ex
  exact ⟨fa, fd, G.mono h, h1, h2, h3⟩
theorem cal_mk {P : Program} {w : World} {base : Heap} {x : Str} {st : Stmt} {N ps : List Str} {k : Nat} {asg : List Nat} {g : MS} (D : Def K mg x st ps) (S : FnScope N ps (defScope st))
    (hbody : ∀ (f : Addr) (cdv : Value) (A : Around) (outer : List PySem.Env) (s : Shared) (H : Hp) (E : XK), Room k (A.deeper (envOfC x (defScope st) s.heap.objs.size f cdv)) →
      VSs (cxOf (L2N.CX P w) P w K mg base N x (defScope st) f cdv A outer s H E) (fun cls d _ H => E cls d H) asg (defBody st) g) :
    Cal P w K mg base (k + 1) x ps (fnD N.length ps.length asg g) := by
  obtain ⟨f, fd, F, hm, hb⟩ := D.ex
  exact ⟨f, fd, fn_ok F S (fun cdv A outer s H E hr => hbody f cdv A outer s H E hr), hm, F.kp, hb⟩
theorem ve_fn {ks : List (Option Nat)} {Fd : FnD} {f : M (List D)} {k : Nat} {ps : List Str} {x : Str} {e : Expr} {es : List Expr} {p pos : Pos} (C : Cal X.prog X.w X.K X.mg X.base k x ps Fd) (hr : Room k X.A) (hg : Gl X x) (tk : L2N.Takes X W) (ha : VIO X W m ks (e :: es) f) (hdb : (x == ("__debug__" : Str)) = false := by decide)
    (he : starEach (e :: es) X.env = (false, eval e X.env) :: starEach es X.env := by rfl) (hpl : (backTo pos (starEach es X.env)).any (·.1) = false := by rfl) : VE X W true (.Call (.Name x p) (e :: es) [] pos) (dFn ks Fd f) := by
  obtain ⟨fa, fd, G, h1, h2, h3⟩ := C.ex
  exact ve_call G hr hg h1 h2 h3 tk ha hdb he hpl
end
end VS
set_option Elab.async false
set_option linter.all false
set_option maxRecDepth 100000
set_option maxHeartbeats 4000000
set_option autoImplicit false
noncomputable section
namespace VS
open PySem PySem.Spec PyProof.Rows L2
theorem b_len : bootBuiltins "len" = some (.builtin "len") := by decide +kernel
theorem b_sum : bootBuiltins "sum" = some (.builtin "sum") := by decide +kernel
theorem b_all : bootBuiltins "all" = some (.builtin "all") := by decide +kernel
theorem b_min : bootBuiltins "min" = some (.builtin "min") := by decide +kernel
theorem b_max : bootBuiltins "max" = some (.builtin "max") := by decide +kernel
theorem b_abs : bootBuiltins "abs" = some (.builtin "abs") := by decide +kernel
theorem b_sorted : bootBuiltins "sorted" = some (.builtin "sorted") := by decide +kernel
theorem b_int : bootBuiltins "int" = some (.type "int") := by decide +kernel
theorem b_list : bootBuiltins "list" = some (.type "list") := by decide +kernel
theorem b_tuple : bootBuiltins "tuple" = some (.type "tuple") := by decide +kernel
theorem b_bool : bootBuiltins "bool" = some (.type "bool") := by decide +kernel
theorem room65 {k : Nat} {A : Around} (hr : Room k A) : A.units + 65 < cLine := by have := hr.un; omega
def frzO (d : D) : Option D := if fz (freeze d) = true then some (freeze d) else none
def dFz (f : M D) : M D := bindM f fun d => optM (frzO d)
theorem ve_fz {X : Cx} {W : WX} {m : Bool} {e : Expr} {f : M D} (h : VE X W m e f) : VE X W m e (dFz f) := by
  refine PE.imp h fun σ H Q ⟨T, ρ, u, rep, hf, he⟩ => ?_
  refine run1 rep hf he fun x ρ1 v H1 h1 s1 r1 => ?_
  obtain ⟨d, e, rfl⟩ := optM_some h1
  unfold frzO at e
  split at e
  · cases e
    exact he v H1 s1 ⟨r1.len, r1.nos, RepT.freeze r1.rep⟩
  · cases e
theorem takesF {X : Cx} : L2N.Takes X WF := fun _ _ x => by
  obtain ⟨_, _, _, _, _, _, _, _, _, _, _, _, _, _, _, _, z⟩ := x
  exact z.elim
section
variable {K : PySem.W.Frag} {mg : Str → Option Value}
theorem def_mk {h : Heap} {f : Addr} {x : Str} {st : Stmt} {ps : List Str} {oc kV dc pm cd ct : Value} {od an : Option Addr} {sl : Array (Option Value)} (X : K.In h) (G : h.Ns mainGlobals mg)
    (a : PySem.W.nsIn K mainGlobals x = some (some (.ref f))) (l : K.lookup f = some ⟨oc, od, .func (PySem.W.fnOf x x (defArgs st) (defBody st) (defScope st) .none kV dc pm an cd ct), sl⟩) (c : PySem.W.codeIn K cd x = true) (k : PySem.W.keepIn K (.ref f) = true)
    (hb : ∀ (kV doc pm : Value) (an : Option Addr) (cdv ct : Value) (us : List Value), us.length = ps.length → bindArgs (PySem.W.fnOf x x (defArgs st) (defBody st) (defScope st) .none kV doc pm an cdv ct) ⟨us, []⟩ = pure (ps.zip us)) : Def K mg x st ps := by
  have F := fun_mk (st := st) l c k
  exact ⟨f, _, F, PySem.W.mg_of X G a, F.binds hb⟩
def GhS (H : Hp) : Prop := match ghP with
  | none => True
  | some p => H p.1 = some (.tbl #[])
def noTab (H : Hp) : Hp := fun b => match H b with
  | some (.tbl _) => none
  | o => o
theorem noTab_same (H : Hp) : Same (noTab H) H := fun b o e => by
  unfold noTab at e
  split at e
  · cases e
  · exact e
theorem noTab_of {H : Hp} {b : Addr} {o : HO} (e : H b = some o) (n : ∀ ps, o ≠ .tbl ps) : noTab H b = some o := by
  unfold noTab
  rw [e]
  cases o <;> first | rfl | exact absurd rfl (n _)
theorem noTab_g {H : Hp} (g : GhS H) : SameG (noTab H) H := ⟨noTab_same H, by
  unfold GhS at g
  unfold GhOk
  cases q : ghP with
  | none => trivial
  | some p =>
    rw [q] at g
    have g : H p.1 = some (.tbl #[]) := g
    refine ⟨by unfold noTab; rw [g], #[], g, True.intro, fun pos cv hc => ?_⟩
    have z : codeAmong pos [] = some cv := hc
    simp [codeAmong] at z⟩
theorem noTab_sq {H : Hp} {a : Addr} {xs : List V} (h : SqL K H a xs) : SqL K (noTab H) a xs := by
  rcases h with (h | ⟨o, h⟩) | h
  · exact .inl (.inl (noTab_of h fun ps z => by cases z))
  · exact .inl (.inr ⟨o, noTab_of h fun ps z => by cases z⟩)
  · exact .inr h
def spTrue (K : PySem.W.Frag) : Sp := fun vs H Q _ => ∃ (a : Addr) (ns : List Int), vs = [.ref a] ∧ SqL K H a (ns.map V.int) ∧ ns.length ≤ 63 ∧ GhS H ∧ ∀ H', Q (.bl true) H'
def Always (F : FnD) : Prop := ∀ ns : List Int, ns.length ≤ 63 → ∃ as, F [.scr (ns.map D.int)] = some (.ok (.bl true) as)
theorem law_sp {F : FnD} (h : Always F) {vs : List V} {H : Hp} {Q : VK} {E : XK} (hs : spTrue K vs H Q E) : spOf K mg F vs H Q E := by
  obtain ⟨a, ns, rfl, sq, hl, gs, q⟩ := hs
  obtain ⟨as, e⟩ := h ns hl
  refine ⟨[], [.scr (ns.map D.int)], _, rfl, RepT.script (noTab H) (noTab_g gs) (noTab_sq sq), e, ?_⟩
  intro v H' l r
  have := r.eq_bl
  subst this
  exact q H'
theorem cx_end {P : Program} {w : World} {H : Hp} {s : Shared} {e : Value} {s' : Shared} (h : L2N.CX P w [] H s (fun _ _ _ => False) e s') : False := by
  obtain ⟨_, _, _, _, _, _, _, _, _, _, _, _, z⟩ := h
  exact z
end
end VS
set_option Elab.async false
set_option linter.all false
set_option maxRecDepth 100000
set_option maxHeartbeats 4000000
set_option autoImplicit false
noncomputable section
namespace VS
open PySem PySem.Spec L2
section
variable {α β : Type} {ρ ρ1 ρ2 : Env} {r : Option (Fl × Env)}
theorem atI_0 {x : α} {xs : List α} : atI (x :: xs) 0 = some x := by simp [atI, ixN]
theorem atI_1 {x y : α} {xs : List α} : atI (x :: y :: xs) 1 = some y := by
  unfold atI ixN
  rw [if_pos (by decide), if_pos (by simp only [List.length_cons]; omega)]; rfl
theorem atI_2 {x y z : α} {xs : List α} : atI (x :: y :: z :: xs) 2 = some z := by
  unfold atI ixN
  rw [if_pos (by decide), if_pos (by simp only [List.length_cons]; omega)]; rfl
theorem atI_3 {x y z u : α} {xs : List α} : atI (x :: y :: z :: u :: xs) 3 = some u := by
  unfold atI ixN
  rw [if_pos (by decide), if_pos (by simp only [List.length_cons]; omega)]; rfl
theorem atI_lt {xs : List α} {i : Int} {x : α} (h0 : 0 ≤ i) (h : xs[i.toNat]? = some x) : atI xs i = some x := by
  have hl := (List.getElem?_eq_some_iff.mp h).1
  unfold atI ixN
  rw [if_pos h0, if_pos (by omega)]; exact h
theorem ixN_lt {n : Nat} {i : Int} (h0 : 0 ≤ i) (h : i < n) : ixN n i = some i.toNat := by
  unfold ixN
  rw [if_pos h0, if_pos h]
theorem fzL_ints (ns : List Int) : fzL (ns.map D.int) = true := by rw [fzL_all]; simp [fz]
theorem freezeL_ints (ns : List Int) : freezeL (ns.map D.int) = ns.map D.int := freezeL_fz _ (fzL_ints ns)
theorem lt_size {n : Nat} (h : n < 16000000) : n < sizeLine := by rw [PySem.sizeLine_eq]; omega
theorem le_size {n : Nat} (h : n ≤ 16000000) : n ≤ sizeLine := by rw [PySem.sizeLine_eq]; omega
def tI (xs : List Int) : D := .tup (xs.map D.int)
theorem dats_ints : ∀ xs : List Int, dats (xs.map D.int) = some (xs.map PyData.int)
  | [] => rfl
  | x :: xs => by rw [List.map_cons, dats, dats_ints xs]; rfl
theorem dat_tI (xs : List Int) : dat (tI xs) = some (.tuple (xs.map PyData.int)) := by unfold tI; rw [dat, dats_ints]; rfl
theorem leD_tI (xs ys : List Int) : leD (tI xs) (tI ys) = decide (xs ≤ ys) := by
  unfold leD
  have h := congrFun (congrFun (PySem.W.dataLe_rows (β := List Int) (fun b => b)) xs) ys
  rw [← h]
  unfold PySem.W.dataLe PySem.W.sortLe
  dsimp only
  rw [dat_tI, dat_tI]
  simp only [Option.getD_some, PySem.W.keyToks]
theorem dats_tIs : ∀ l : List (List Int), dats (l.map tI) = some (l.map fun xs => .tuple (xs.map PyData.int))
  | [] => rfl
  | x :: l => by rw [List.map_cons, dats, dats_tIs l, dat_tI]; rfl
theorem alike_ints : ∀ xs ys : List Int, PySem.W.alikeAll (xs.map PyData.int) (ys.map PyData.int) = true
  | [], _ => by simp [PySem.W.alikeAll]
  | _ :: _, [] => by simp [PySem.W.alikeAll]
  | x :: xs, y :: ys => by simp [PySem.W.alikeAll, PySem.W.alike, alike_ints xs ys]
theorem depth_ints : ∀ xs : List Int, PyData.depthAll (xs.map PyData.int) = 0
  | [] => rfl
  | x :: xs => by rw [List.map_cons, PyData.depthAll, depth_ints xs]; rfl
def leL (x y : List Int) : Bool := decide (x ≤ y)
theorem sortD_tI {l : List (List Int)} (hne : ∀ x ∈ l, x ≠ []) (hl : l.length ≤ sizeLine) : sortD (l.map tI) = some ((l.mergeSort leL).map tI) := by
  unfold sortD
  rw [dats_tIs]
  simp only
  rw [if_pos]
  · congr 1
    have := List.map_mergeSort (f := tI) (r := leL) (s := leD) (l := l) (fun x _ y _ => (leD_tI x y).symm)
    exact this.symm
  · refine ⟨?_, by rw [List.length_map]; exact hl⟩
    rw [Bool.and_eq_true, Bool.and_eq_true]
    refine ⟨⟨?_, ?_⟩, ?_⟩
    · unfold alikeB
      rw [List.all_eq_true]
      intro x hx
      rw [List.all_eq_true]
      intro y hy
      obtain ⟨a, _, rfl⟩ := List.mem_map.mp hx
      obtain ⟨b, _, rfl⟩ := List.mem_map.mp hy
      rw [PySem.W.alike]
      exact alike_ints a b
    · unfold sortB
      rw [Bool.or_eq_true]
      left
      rw [List.all_eq_true]
      intro x hx
      obtain ⟨a, ha, rfl⟩ := List.mem_map.mp hx
      cases a with
      | nil => exact absurd rfl (hne [] ha)
      | cons c a => rfl
    · rw [List.all_eq_true]
      intro x hx
      obtain ⟨a, _, rfl⟩ := List.mem_map.mp hx
      rw [PyData.depth, depth_ints]
      decide
end
end VS
set_option Elab.async false
set_option linter.all false
set_option maxRecDepth 100000
set_option maxHeartbeats 4000000
set_option autoImplicit false
noncomputable section
namespace VS
open PySem PySem.Spec L2
section
variable {α β : Type} {ρ : Env}
def nunk : Option D → Bool
  | none => false
  | some .unk => false
  | some _ => true
@[simp] theorem nu_non : nunk (some .non) = true := rfl
@[simp] theorem nu_hole : nunk (some .hole) = true := rfl
@[simp] theorem nu_bl {b : Bool} : nunk (some (.bl b)) = true := rfl
@[simp] theorem nu_int {b : Int} : nunk (some (.int b)) = true := rfl
@[simp] theorem nu_str {b : Str} : nunk (some (.str b)) = true := rfl
@[simp] theorem nu_adr {b : Addr} : nunk (some (.adr b)) = true := rfl
@[simp] theorem nu_exo {c : Str} {p : Option (Str × Int)} : nunk (some (.exo c p)) = true := rfl
@[simp] theorem nu_tup {b : List D} : nunk (some (.tup b)) = true := rfl
@[simp] theorem nu_lst {o : Bool} {b : List D} : nunk (some (.lst o b)) = true := rfl
@[simp] theorem nu_scr {b : List D} : nunk (some (.scr b)) = true := rfl
@[simp] theorem nu_ktp {b : List D} : nunk (some (.ktp b)) = true := rfl
@[simp] theorem nu_dK {o : Bool} {k : List Key} {b : List D} : nunk (some (.dK o k b)) = true := rfl
@[simp] theorem nu_dT {o : Bool} {k : List (List Key)} {b : List D} : nunk (some (.dT o k b)) = true := rfl
@[simp] theorem nu_lK {k : List Key} {b : List D} : nunk (some (.lK k b)) = true := rfl
@[simp] theorem nu_lT {k : List (List Key)} {b : List D} : nunk (some (.lT k b)) = true := rfl
@[simp] theorem nu_lck {o : HO} : nunk (some (.lck o)) = true := rfl
@[simp] theorem nu_unk : nunk (some .unk) = false := rfl
theorem u_dIO {i : Nat} {g : M (List D)} : dIO i g ρ = (if nunk ρ[i]? = true then g ρ else none) := by
  unfold dIO
  cases ρ[i]? with
  | none => rfl
  | some d => cases d <;> rfl
@[simp] theorem u_take0 {ds : List D} : takeIO [] ds ρ = ([], ρ) := rfl
@[simp] theorem u_takeN {ks : List (Option Nat)} {d : D} {ds : List D} : takeIO (none :: ks) (d :: ds) ρ = (d :: (takeIO ks ds ρ).1, (takeIO ks ds ρ).2) := rfl
@[simp] theorem u_takeS {ks : List (Option Nat)} {i : Nat} {ds : List D} : takeIO (some i :: ks) ds ρ = (ρ.getD i .unk :: (takeIO ks ds (ρ.set i .unk)).1, (takeIO ks ds (ρ.set i .unk)).2) := rfl
@[simp] theorem u_give0 {as : List D} : giveIO [] as ρ = ρ := by cases as <;> rfl
@[simp] theorem u_giveN {ks : List (Option Nat)} {d : D} {ds : List D} : giveIO (none :: ks) (d :: ds) ρ = giveIO ks ds ρ := rfl
@[simp] theorem u_giveS {ks : List (Option Nat)} {i : Nat} {d : D} {ds : List D} : giveIO (some i :: ks) (d :: ds) ρ = giveIO ks ds (ρ.set i d) := rfl
@[simp] theorem u_frzO {d : D} : frzO d = if fz (freeze d) = true then some (freeze d) else none := rfl
theorem u_dIxS {i : Nat} {f : M D} : dIxS i f ρ = (if nunk ρ[i]? = true then bindM f (fun y ρ => match (ρ.getD i .unk), y with
    | x, .int k => match seqOf x with
      | some ds => match atI ds k with
        | some d => if fz d = true then some (.ok d ρ) else none
        | none => none
      | none => none
    | _, _ => none) ρ else none) := by
  unfold dIxS
  cases ρ[i]? with
  | none => rfl
  | some d => cases d <;> rfl
theorem u_dGetS {i : Nat} {f : M D} : dGetS i f ρ = (if nunk ρ[i]? = true then bindM f (getS i) ρ else none) := by
  unfold dGetS
  cases ρ[i]? with
  | none => rfl
  | some d => cases d <;> rfl
@[simp] theorem u_isDct0 : isDct none = false := rfl
@[simp] theorem u_isDctL {o : Bool} {ds : List D} : isDct (some (.lst o ds)) = false := rfl
@[simp] theorem u_isDctT {ds : List D} : isDct (some (.tup ds)) = false := rfl
@[simp] theorem u_isDctS {ds : List D} : isDct (some (.scr ds)) = false := rfl
@[simp] theorem u_isDctK {o : Bool} {ks : List Key} {ds : List D} : isDct (some (.dK o ks ds)) = true := rfl
@[simp] theorem u_isDctT2 {o : Bool} {ks : List (List Key)} {ds : List D} : isDct (some (.dT o ks ds)) = true := rfl
@[simp] theorem u_seqL {o : Bool} {ds : List D} : seqOf (.lst o ds) = some ds := rfl
@[simp] theorem u_seqT {ds : List D} : seqOf (.tup ds) = some ds := rfl
@[simp] theorem u_seqS {ds : List D} : seqOf (.scr ds) = some ds := rfl
@[simp] theorem u_seqK {ds : List D} : seqOf (.ktp ds) = some ds := rfl
@[simp] theorem u_lstL {o : Bool} {ds : List D} : lstOf (.lst o ds) = some ds := rfl
@[simp] theorem u_lstS {ds : List D} : lstOf (.scr ds) = some ds := rfl
@[simp] theorem u_lstT {ds : List D} : lstOf (.tup ds) = none := rfl
@[simp] theorem u_gIx {x y : D} : gIx x y = (match seqOf x, y with
  | some ds, .int i => atI ds i
  | _, _ => none) := rfl
@[simp] theorem u_fzI {i : Int} : fz (.int i) = true := by rw [fz]
@[simp] theorem u_fzB {i : Bool} : fz (.bl i) = true := by rw [fz]
@[simp] theorem u_fzN : fz .non = true := by rw [fz]
@[simp] theorem u_fzS {x : Str} : fz (.str x) = true := by rw [fz]
@[simp] theorem u_fzAdr {a : Addr} : fz (.adr a) = true := by rw [fz]
@[simp] theorem u_fzExo {c : Str} {p : Option (Str × Int)} : fz (.exo c p) = true := by rw [fz]
@[simp] theorem u_frAdr {a : Addr} : freeze (.adr a) = .adr a := by rw [freeze]
@[simp] theorem u_frExo {c : Str} {p : Option (Str × Int)} : freeze (.exo c p) = .exo c p := by rw [freeze]
@[simp] theorem u_fzT {ds : List D} : fz (.tup ds) = fzL ds := by rw [fz]
@[simp] theorem u_fzL {o : Bool} {ds : List D} : fz (.lst o ds) = (!o && fzL ds) := by rw [fz]
@[simp] theorem u_fzC {ds : List D} : fz (.scr ds) = fzL ds := by rw [fz]
@[simp] theorem u_fzD {o : Bool} {ks : List (List Key)} {ds : List D} : fz (.dT o ks ds) = (!o && fzL ds) := by rw [fz]
@[simp] theorem u_fzDK {o : Bool} {ks : List Key} {ds : List D} : fz (.dK o ks ds) = (!o && fzL ds) := by rw [fz]
@[simp] theorem u_fzL0 : fzL [] = true := by rw [fzL]
@[simp] theorem u_fzL1 {d : D} {ds : List D} : fzL (d :: ds) = (fz d && fzL ds) := by rw [fzL]
@[simp] theorem u_fzLi {ns : List Int} : fzL (ns.map D.int) = true := fzL_ints ns
@[simp] theorem u_frI {i : Int} : freeze (.int i) = .int i := by rw [freeze]
@[simp] theorem u_frB {i : Bool} : freeze (.bl i) = .bl i := by rw [freeze]
@[simp] theorem u_frN : freeze .non = .non := by rw [freeze]
@[simp] theorem u_frS {x : Str} : freeze (.str x) = .str x := by rw [freeze]
@[simp] theorem u_frT {ds : List D} : freeze (.tup ds) = .tup (freezeL ds) := by rw [freeze]
@[simp] theorem u_frL {o : Bool} {ds : List D} : freeze (.lst o ds) = .lst false (freezeL ds) := by rw [freeze]
@[simp] theorem u_frC {ds : List D} : freeze (.scr ds) = .scr (freezeL ds) := by rw [freeze]
@[simp] theorem u_frD {o : Bool} {ks : List (List Key)} {ds : List D} : freeze (.dT o ks ds) = .dT false ks (freezeL ds) := by rw [freeze]
@[simp] theorem u_frDK {o : Bool} {ks : List Key} {ds : List D} : freeze (.dK o ks ds) = .dK false ks (freezeL ds) := by rw [freeze]
@[simp] theorem u_frL0 : freezeL [] = [] := by rw [freezeL]
@[simp] theorem u_frL1 {d : D} {ds : List D} : freezeL (d :: ds) = freeze d :: freezeL ds := by rw [freezeL]
@[simp] theorem u_frLi {ns : List Int} : freezeL (ns.map D.int) = ns.map D.int := freezeL_ints ns
@[simp] theorem u_at0 {x : α} {xs : List α} : atI (x :: xs) 0 = some x := atI_0
@[simp] theorem u_at1 {x y : α} {xs : List α} : atI (x :: y :: xs) 1 = some y := atI_1
@[simp] theorem u_at2 {x y z : α} {xs : List α} : atI (x :: y :: z :: xs) 2 = some z := atI_2
@[simp] theorem u_at3 {x y z u : α} {xs : List α} : atI (x :: y :: z :: u :: xs) 3 = some u := atI_3
@[simp] theorem u_add {i j : Int} : gAdd (.int i) (.int j) = some (.int (i + j)) := rfl
@[simp] theorem u_addL {o o' : Bool} {xs ys : List D} : gAdd (.lst o xs) (.lst o' ys) = if xs.length + ys.length ≤ sizeLine then some (.lst true (xs ++ ys)) else none := rfl
@[simp] theorem u_addT {xs ys : List D} : gAdd (.tup xs) (.tup ys) = if xs.length + ys.length ≤ sizeLine then some (.tup (xs ++ ys)) else none := rfl
@[simp] theorem u_sub {i j : Int} : gSub (.int i) (.int j) = some (.int (i - j)) := rfl
@[simp] theorem u_mod {i j : Int} : gMod (.int i) (.int j) = if 0 < j then some (.int (i % j)) else none := by
  unfold gMod gInt cMod
  simp only [decide_eq_true_eq]
@[simp] theorem u_div {i j : Int} : gDiv (.int i) (.int j) = if in30 j then some (.int (i / j)) else none := by
  unfold gDiv gInt cDiv
  simp only [decide_eq_true_eq]
@[simp] theorem u_mulA {i j : Int} : gMulA (.int i) (.int j) = if in64 i ∨ in64 j then some (.int (i * j)) else none := by
  show gMul _ _ = _
  unfold gMul gInt cMul
  simp only [Bool.or_eq_true, decide_eq_true_eq]
@[simp] theorem u_pow {i j : Int} : gPow (.int i) (.int j) = if 0 ≤ j ∧ j ≤ 1000000 ∧ i.natAbs < 2 ^ 64 then some (.int (i ^ j.toNat)) else none := by
  unfold gPow gInt cPow
  simp only [Bool.and_eq_true, decide_eq_true_eq, and_assoc]
@[simp] theorem u_neg {i : Int} : gNeg (.int i) = some (.int (-i)) := rfl
@[simp] theorem u_cmp {p : Int → Int → Bool} {i j : Int} : gCmp p (.int i) (.int j) = some (.bl (p i j)) := rfl
@[simp] theorem u_cLt {i j : Int} : cLt i j = decide (i < j) := rfl
@[simp] theorem u_cLe {i j : Int} : cLe i j = decide (i ≤ j) := rfl
@[simp] theorem u_cGt {i j : Int} : cGt i j = decide (j < i) := rfl
@[simp] theorem u_cGe {i j : Int} : cGe i j = decide (j ≤ i) := rfl
theorem sh_int {i : Int} : SeqAt.shaped (.int i) = true := by unfold SeqAt.shaped; rw [PyData.canLay0, PyData.depth]; rfl
theorem sh_bl {i : Bool} : SeqAt.shaped (.bool i) = true := by unfold SeqAt.shaped; rw [PyData.canLay0, PyData.depth]; rfl
@[simp] theorem u_eqI {i j : Int} : gEq (.int i) (.int j) = some (.bl (decide (i = j))) := by
  unfold gEq eqD
  simp only [dat, sh_int, and_self, if_true, Option.map_some, PyData.eqv]
  congr 2
@[simp] theorem u_neI {i j : Int} : gNe (.int i) (.int j) = some (.bl (!decide (i = j))) := by
  unfold gNe eqD
  simp only [dat, sh_int, and_self, if_true, Option.map_some, PyData.eqv]
  congr 3
@[simp] theorem u_eqB {i j : Bool} : gEq (.bl i) (.bl j) = some (.bl (i == j)) := by
  unfold gEq eqD
  simp only [dat, sh_bl, and_self, if_true, Option.map_some, PyData.eqv]
@[simp] theorem u_neB {i j : Bool} : gNe (.bl i) (.bl j) = some (.bl (!(i == j))) := by
  unfold gNe eqD
  simp only [dat, sh_bl, and_self, if_true, Option.map_some, PyData.eqv]
@[simp] theorem u_scI {i : Int} : isSc (.int i) = true := rfl
@[simp] theorem u_scB {i : Bool} : isSc (.bl i) = true := rfl
@[simp] theorem u_len {d : D} : gLen [d] = (lenD d).map fun (n : Nat) => D.int (n : Int) := rfl
@[simp] theorem u_lenL {o : Bool} {ds : List D} : lenD (.lst o ds) = some ds.length := rfl
@[simp] theorem u_lenT {ds : List D} : lenD (.tup ds) = some ds.length := rfl
@[simp] theorem u_lenS {ds : List D} : lenD (.scr ds) = some ds.length := rfl
@[simp] theorem u_lenD {o : Bool} {ks : List (List Key)} {ds : List D} : lenD (.dT o ks ds) = some ks.length := rfl
@[simp] theorem u_lenDK {o : Bool} {ks : List Key} {ds : List D} : lenD (.dK o ks ds) = some ks.length := rfl
@[simp] theorem u_abs {i : Int} : gAbs [.int i] = some (.int (if i < 0 then -i else i)) := rfl
@[simp] theorem u_min2 {i j : Int} : gMin [.int i, .int j] = some (.int (min i j)) := by
  unfold gMin
  show gMin2 [.int i, .int j] = some (.int (min i j))
  unfold gMin2
  have : (if j < i then j else i) = min i j := by split <;> omega
  show some (D.int (if j < i then j else i)) = _
  rw [this]
@[simp] theorem u_max2 {i j : Int} : gMax [.int i, .int j] = some (.int (max i j)) := by
  unfold gMax
  show gMax2 [.int i, .int j] = some (.int (max i j))
  unfold gMax2
  have : (if j > i then j else i) = max i j := by split <;> omega
  show some (D.int (if j > i then j else i)) = _
  rw [this]
@[simp] theorem u_minT {i j : Int} : gMin [.tup [.int i, .int j]] = some (.int (min i j)) := rfl
@[simp] theorem u_maxT {i j : Int} : gMax [.tup [.int i, .int j]] = some (.int (max i j)) := rfl
@[simp] theorem u_sum {o : Bool} {ns : List Int} : gSum [.lst o (ns.map D.int)] = some (.int ns.sum) := by
  unfold gSum
  simp only [u_lstL, Option.bind_some, allI_map, Option.map_some]
@[simp] theorem u_tupleL {o : Bool} {ds : List D} : gTuple [.lst o ds] = some (.tup ds) := rfl
@[simp] theorem u_tupleT {ds : List D} : gTuple [.tup ds] = some (.tup ds) := rfl
@[simp] theorem u_gNms0 : gNms [] [] ρ = some ρ := rfl
@[simp] theorem u_gNms1 {i : Nat} {is : List Nat} {d : D} {ds : List D} : gNms (i :: is) (d :: ds) ρ = gNms is ds (ρ.set i d) := rfl
@[simp] theorem u_isLst {o : Bool} {ds : List D} : isLst (some (.lst o ds)) = true := rfl
@[simp] theorem u_gApp {xs : List D} {d : D} : gApp xs [d] = if xs.length < sizeLine then some (.non, xs ++ [d]) else none := rfl
@[simp] theorem u_gExt {xs ys : List D} {o : Bool} : gExt xs [.lst o ys] = if xs.length + ys.length ≤ sizeLine then some (.non, xs ++ ys) else none := rfl
theorem u_dPut {i : Nat} {fk fe : M D} : dPut i fk fe ρ = bindS fe (fun d ρ1 => if nunk ρ1[i]? = true then bindS fk (putS i d) ρ1 else none) ρ := by
  unfold dPut
  congr 1
  funext d ρ1
  cases ρ1[i]? with
  | none => rfl
  | some d => cases d <;> rfl
@[simp] theorem u_putL {xs : List D} {n : Int} {d : D} : VS.putAt (.lst true xs) (.int n) d = (ixN xs.length n).map fun j => .lst true (xs.set j d) := rfl
theorem inR_le {i : Int} (h : 0 ≤ i) (g : i ≤ 1000000) : inR i := ⟨Int.le_trans (by decide) h, Int.lt_of_le_of_lt g (by decide)⟩
@[simp] theorem inR_0 : inR 0 := inR_le (by decide) (by decide)
@[simp] theorem inR_1 : inR 1 := inR_le (by decide) (by decide)
@[simp] theorem inR_2 : inR 2 := inR_le (by decide) (by decide)
@[simp] theorem inR_3 : inR 3 := inR_le (by decide) (by decide)
@[simp] theorem inR_4 : inR 4 := inR_le (by decide) (by decide)
@[simp] theorem inR_5 : inR 5 := inR_le (by decide) (by decide)
@[simp] theorem inR_6 : inR 6 := inR_le (by decide) (by decide)
@[simp] theorem inR_7 : inR 7 := inR_le (by decide) (by decide)
@[simp] theorem inR_8 : inR 8 := inR_le (by decide) (by decide)
@[simp] theorem inR_9 : inR 9 := inR_le (by decide) (by decide)
@[simp] theorem inR_10 : inR 10 := inR_le (by decide) (by decide)
@[simp] theorem inR_11 : inR 11 := inR_le (by decide) (by decide)
@[simp] theorem inR_12 : inR 12 := inR_le (by decide) (by decide)
@[simp] theorem inR_13 : inR 13 := inR_le (by decide) (by decide)
@[simp] theorem inR_14 : inR 14 := inR_le (by decide) (by decide)
@[simp] theorem inR_15 : inR 15 := inR_le (by decide) (by decide)
@[simp] theorem inR_16 : inR 16 := inR_le (by decide) (by decide)
@[simp] theorem inR_18 : inR 18 := inR_le (by decide) (by decide)
@[simp] theorem inR_20 : inR 20 := inR_le (by decide) (by decide)
@[simp] theorem inR_24 : inR 24 := inR_le (by decide) (by decide)
@[simp] theorem inR_30 : inR 30 := inR_le (by decide) (by decide)
@[simp] theorem inR_32 : inR 32 := inR_le (by decide) (by decide)
@[simp] theorem inR_40 : inR 40 := inR_le (by decide) (by decide)
@[simp] theorem inR_48 : inR 48 := inR_le (by decide) (by decide)
@[simp] theorem inR_50 : inR 50 := inR_le (by decide) (by decide)
@[simp] theorem inR_60 : inR 60 := inR_le (by decide) (by decide)
@[simp] theorem inR_63 : inR 63 := inR_le (by decide) (by decide)
@[simp] theorem inR_64 : inR 64 := inR_le (by decide) (by decide)
@[simp] theorem inR_100 : inR 100 := inR_le (by decide) (by decide)
@[simp] theorem inR_200 : inR 200 := inR_le (by decide) (by decide)
@[simp] theorem inR_220 : inR 220 := inR_le (by decide) (by decide)
@[simp] theorem inR_900 : inR 900 := inR_le (by decide) (by decide)
@[simp] theorem u_range1 {j : Int} : rangeD1 [.int j] = if inR j then some (intsD 0 j.toNat) else none := rfl
@[simp] theorem u_range2 {i j : Int} : rangeD2 [.int i, .int j] = if inR i ∧ inR j then some (intsD i (j - i).toNat) else none := rfl
theorem in64_bd {i : Int} (h : -1000000000000000000 ≤ i) (g : i ≤ 1000000000000000000) : in64 i := ⟨Int.lt_of_lt_of_le (by decide) h, Int.lt_of_le_of_lt g (by decide)⟩
theorem in63_bd {i : Int} (h : -1000000000000000000 ≤ i) (g : i ≤ 1000000000000000000) : in63 i := ⟨Int.le_trans (by decide) h, Int.lt_of_le_of_lt g (by decide)⟩
@[simp] theorem in64_0 : in64 (0) := ⟨by decide, by decide⟩
@[simp] theorem in64_1 : in64 (1) := ⟨by decide, by decide⟩
@[simp] theorem in64_m1 : in64 (-1) := ⟨by decide, by decide⟩
@[simp] theorem in64_2 : in64 (2) := ⟨by decide, by decide⟩
@[simp] theorem in64_3 : in64 (3) := ⟨by decide, by decide⟩
@[simp] theorem in64_4 : in64 (4) := ⟨by decide, by decide⟩
@[simp] theorem in64_5 : in64 (5) := ⟨by decide, by decide⟩
@[simp] theorem in64_6 : in64 (6) := ⟨by decide, by decide⟩
@[simp] theorem in64_7 : in64 (7) := ⟨by decide, by decide⟩
@[simp] theorem in64_8 : in64 (8) := ⟨by decide, by decide⟩
@[simp] theorem in64_9 : in64 (9) := ⟨by decide, by decide⟩
@[simp] theorem in64_10 : in64 (10) := ⟨by decide, by decide⟩
@[simp] theorem in64_12 : in64 (12) := ⟨by decide, by decide⟩
@[simp] theorem in64_16 : in64 (16) := ⟨by decide, by decide⟩
@[simp] theorem in64_64 : in64 (64) := ⟨by decide, by decide⟩
@[simp] theorem in64_100 : in64 (100) := ⟨by decide, by decide⟩
@[simp] theorem in64_131 : in64 (131) := ⟨by decide, by decide⟩
@[simp] theorem in64_977 : in64 (977) := ⟨by decide, by decide⟩
@[simp] theorem in64_1000 : in64 (1000) := ⟨by decide, by decide⟩
@[simp] theorem in64_48271 : in64 (48271) := ⟨by decide, by decide⟩
@[simp] theorem in64_40693 : in64 (40693) := ⟨by decide, by decide⟩
@[simp] theorem in64_40692 : in64 (40692) := ⟨by decide, by decide⟩
@[simp] theorem in64_69621 : in64 (69621) := ⟨by decide, by decide⟩
@[simp] theorem in64_100000 : in64 (100000) := ⟨by decide, by decide⟩
@[simp] theorem in64_1000000 : in64 (1000000) := ⟨by decide, by decide⟩
@[simp] theorem in64_1000003 : in64 (1000003) := ⟨by decide, by decide⟩
@[simp] theorem in30_1 : in30 1 := ⟨by decide, by decide⟩
@[simp] theorem in30_2 : in30 2 := ⟨by decide, by decide⟩
@[simp] theorem in30_3 : in30 3 := ⟨by decide, by decide⟩
@[simp] theorem in30_4 : in30 4 := ⟨by decide, by decide⟩
@[simp] theorem in30_5 : in30 5 := ⟨by decide, by decide⟩
@[simp] theorem in30_6 : in30 6 := ⟨by decide, by decide⟩
@[simp] theorem in30_7 : in30 7 := ⟨by decide, by decide⟩
@[simp] theorem in30_8 : in30 8 := ⟨by decide, by decide⟩
@[simp] theorem in30_9 : in30 9 := ⟨by decide, by decide⟩
@[simp] theorem in30_10 : in30 10 := ⟨by decide, by decide⟩
@[simp] theorem in30_64 : in30 64 := ⟨by decide, by decide⟩
@[simp] theorem in30_100 : in30 100 := ⟨by decide, by decide⟩
@[simp] theorem in30_1000 : in30 1000 := ⟨by decide, by decide⟩
@[simp] theorem in30_100000 : in30 100000 := ⟨by decide, by decide⟩
@[simp] theorem in30_1000000 : in30 1000000 := ⟨by decide, by decide⟩
@[simp] theorem in30_1000003 : in30 1000003 := ⟨by decide, by decide⟩
@[simp] theorem u_itemsL {o : Bool} {ds : List D} : itemsOf (.lst o ds) = if fzL (freezeL ds) = true then some (freezeL ds) else none := rfl
@[simp] theorem u_itemsT {ds : List D} : itemsOf (.tup ds) = if fzL (freezeL ds) = true then some (freezeL ds) else none := rfl
@[simp] theorem u_itemsS {ds : List D} : itemsOf (.scr ds) = if fzL (freezeL ds) = true then some (freezeL ds) else none := rfl
@[simp] theorem u_intOf {i : Int} : intOf (.int i) = some i := rfl
@[simp] theorem u_slL {o : Bool} {ds : List D} {lo hi : Option Int} : gSlice (.lst o ds) lo hi = some (.lst true (cutD ds lo hi)) := rfl
@[simp] theorem u_slS {ds : List D} {lo hi : Option Int} : gSlice (.scr ds) lo hi = some (.lst true (cutD ds lo hi)) := rfl
@[simp] theorem u_slT {ds : List D} {lo hi : Option Int} : gSlice (.tup ds) lo hi = some (.tup (cutD ds lo hi)) := rfl
@[simp] theorem u_outD {np : Nat} {asg : List Nat} : outD np asg ρ = (wipeD ρ asg).take np := rfl
@[simp] theorem u_wipe0 : wipeD ρ [] = ρ := rfl
@[simp] theorem u_wipe1 {i : Nat} {is : List Nat} : wipeD ρ (i :: is) = (wipeD ρ is).set i .unk := rfl
@[simp] theorem u_sz0 : (0 : Nat) ≤ sizeLine := Nat.zero_le _
@[simp] theorem u_sz1 : (1 : Nat) ≤ sizeLine := by decide
@[simp] theorem u_sz2 : (2 : Nat) ≤ sizeLine := by decide
@[simp] theorem u_sz3 : (3 : Nat) ≤ sizeLine := by decide
@[simp] theorem u_sz4 : (4 : Nat) ≤ sizeLine := by decide
@[simp] theorem u_sz5 : (5 : Nat) ≤ sizeLine := by decide
@[simp] theorem u_sz6 : (6 : Nat) ≤ sizeLine := by decide
@[simp] theorem u_sz8 : (8 : Nat) ≤ sizeLine := by decide
end
end VS
set_option Elab.async false
set_option linter.all false
set_option maxRecDepth 100000
set_option maxHeartbeats 4000000
set_option autoImplicit false
noncomputable section
namespace VS
open PySem PySem.Spec L2
section
variable {ρ : Env}
def k2 (p : Int × Int) : List Key := [.inl p.1, .inl p.2]
theorem k2_inj {p q : Int × Int} (h : k2 p = k2 q) : p = q := by
  unfold k2 at h
  simp at h
  exact Prod.ext h.1 h.2
theorem look_k2 : ∀ (ks : List (Int × Int)) (ls : List Int) (p : Int × Int), look (ks.map k2) (ls.map D.int) (k2 p) = (look ks ls p).map D.int
  | [], _, _ => by simp [look]
  | _ :: _, [], _ => by simp [look]
  | k :: ks, l :: ls, p => by
    rw [List.map_cons, List.map_cons, look, look]
    by_cases e : k = p
    · rw [if_pos (by rw [e]), if_pos e]; rfl
    · rw [if_neg (fun h => e (k2_inj h)), if_neg e, look_k2 ks ls p]
theorem putL_k2 : ∀ (ks : List (Int × Int)) (ls : List Int) (p : Int × Int) (l : Int), putL (ks.map k2) (ls.map D.int) (k2 p) (D.int l) = ((putL ks ls p l).1.map k2, (putL ks ls p l).2.map D.int)
  | [], _, _, _ => by simp [putL]
  | _ :: _, [], _, _ => by simp [putL]
  | k :: ks, a :: ls, p, l => by
    rw [List.map_cons, List.map_cons, putL, putL]
    by_cases e : k = p
    · rw [if_pos (by rw [e]), if_pos e]; rfl
    · rw [if_neg (fun h => e (k2_inj h)), if_neg e, putL_k2 ks ls p l]; rfl
theorem look_mem {κ α : Type} [DecidableEq κ] : ∀ (ks : List κ) (as : List α) (k : κ), ks.length = as.length → k ∈ ks → ∃ a, look ks as k = some a
  | [], _, _, _, h => by cases h
  | _ :: _, [], _, h, _ => by cases h
  | k' :: ks, b :: as, k, h, hk => by
    rw [look]
    by_cases e : k' = k
    · exact ⟨b, if_pos e⟩
    · rw [if_neg e]
      rcases List.mem_cons.mp hk with z | z
      · exact absurd z.symm e
      · exact look_mem ks as k (Nat.succ.inj h) z
theorem look_no {κ α : Type} [DecidableEq κ] : ∀ (ks : List κ) (as : List α) (k : κ), k ∉ ks → look ks as k = none
  | [], _, _, _ => by simp [look]
  | _ :: _, [], _, _ => by simp [look]
  | k' :: ks, b :: as, k, h => by
    rw [look, if_neg (fun e => h (by rw [e]; exact List.mem_cons_self)), look_no ks as k (fun z => h (List.mem_cons_of_mem _ z))]
def dP (o : Bool) (ks : List (Int × Int)) (ls : List Int) : D := .dT o (ks.map k2) (ls.map D.int)
@[simp] theorem u_isDctP {o : Bool} {ks : List (Int × Int)} {ls : List Int} : isDct (some (dP o ks ls)) = true := rfl
@[simp] theorem nu_P {o : Bool} {ks : List (Int × Int)} {ls : List Int} : nunk (some (dP o ks ls)) = true := rfl
@[simp] theorem u_lenP {o : Bool} {ks : List (Int × Int)} {ls : List Int} : lenD (dP o ks ls) = some ks.length := by show some (ks.map k2).length = _; rw [List.length_map]
@[simp] theorem u_fzP {ks : List (Int × Int)} {ls : List Int} : fz (dP false ks ls) = true := by unfold dP; rw [u_fzD]; simp
@[simp] theorem u_frP {o : Bool} {ks : List (Int × Int)} {ls : List Int} : freeze (dP o ks ls) = dP false ks ls := by unfold dP; rw [u_frD]; simp
@[simp] theorem u_putP {ks : List (Int × Int)} {ls : List Int} {a b l : Int} : VS.putAt (dP true ks ls) (.tup [.int a, .int b]) (.int l) = if ks.length < sizeLine then some (dP true (putL ks ls (a, b) l).1 (putL ks ls (a, b) l).2) else none := by
  unfold dP
  show (if (ks.map k2).length < sizeLine then some (D.dT true (putL (ks.map k2) (ls.map D.int) (k2 (a, b)) (D.int l)).1 (putL (ks.map k2) (ls.map D.int) (k2 (a, b)) (D.int l)).2) else none) = _
  rw [List.length_map, putL_k2]
@[simp] theorem u_lookP {o : Bool} {ks : List (Int × Int)} {ls : List Int} {a b : Int} : lookD (dP o ks ls) (.tup [.int a, .int b]) = (look ks ls (a, b)).map D.int := by
  unfold dP
  show look (ks.map k2) (ls.map D.int) (k2 (a, b)) = _
  rw [look_k2]
theorem leL_trans (x y z : List Int) (h : leL x y = true) (h2 : leL y z = true) : leL x z = true := by
  unfold leL at *
  rw [decide_eq_true_eq] at *
  exact List.le_trans h h2
theorem leL_total (x y : List Int) : (leL x y || leL y x) = true := by
  unfold leL
  rw [Bool.or_eq_true, decide_eq_true_eq, decide_eq_true_eq]
  exact List.le_total x y
theorem leL_anti (x y : List Int) (h : leL x y = true) (h2 : leL y x = true) : x = y := by
  unfold leL at *
  rw [decide_eq_true_eq] at *
  exact List.le_antisymm h h2
def p2 (p : Int × Int) : List Int := [p.1, p.2]
theorem leL_p2 {p q : Int × Int} : leL (p2 p) (p2 q) = true ↔ p.1 < q.1 ∨ (p.1 = q.1 ∧ p.2 ≤ q.2) := by
  unfold leL p2
  rw [decide_eq_true_eq, List.cons_le_cons_iff, List.cons_le_cons_iff]
  have : ([] : List Int) ≤ [] := List.nil_le _
  constructor
  · rintro (h | ⟨h, h2⟩)
    · exact .inl h
    · right; refine ⟨h, ?_⟩; rcases h2 with h2 | h2 <;> omega
  · rintro (h | ⟨h, h2⟩)
    · exact .inl h
    · right; refine ⟨h, ?_⟩
      by_cases e : p.2 = q.2
      · exact .inr ⟨e, this⟩
      · left; omega
abbrev R3 := Int × Int × Int
def r3 (r : R3) : List Int := [r.1, r.2.1, r.2.2]
def lt3 (r s : R3) : Prop := r.1 < s.1 ∨ (r.1 = s.1 ∧ r.2.1 < s.2.1)
theorem leL_r3 {r s : R3} (h : lt3 r s) : leL (r3 r) (r3 s) = true := by
  unfold leL r3
  rw [decide_eq_true_eq, List.cons_le_cons_iff, List.cons_le_cons_iff]
  rcases h with h | ⟨h, h2⟩
  · exact .inl h
  · exact .inr ⟨h, .inl h2⟩
theorem r3_inj {r s : R3} (h : r3 r = r3 s) : r = s := by
  unfold r3 at h
  simp at h
  exact Prod.ext h.1 (Prod.ext h.2.1 h.2.2)
def sP (ks : List (Int × Int)) : List (Int × Int) := ks.mergeSort fun x y => leL (p2 x) (p2 y)
theorem sP_perm (ks : List (Int × Int)) : (sP ks).Perm ks := List.mergeSort_perm _ _
theorem sP_map (ks : List (Int × Int)) : (ks.map p2).mergeSort leL = (sP ks).map p2 := (List.map_mergeSort (f := p2) (r := fun x y => leL (p2 x) (p2 y)) (s := leL) (l := ks) (fun x _ y _ => rfl)).symm
theorem sP_lt {ks : List (Int × Int)} (h : ks.Nodup) : (sP ks).Pairwise fun p q => p.1 < q.1 ∨ (p.1 = q.1 ∧ p.2 < q.2) := by
  have h1 : (sP ks).Pairwise fun x y => leL (p2 x) (p2 y) = true := List.pairwise_mergeSort (le := fun x y => leL (p2 x) (p2 y)) (fun x y z => leL_trans (p2 x) (p2 y) (p2 z)) (fun x y => leL_total (p2 x) (p2 y)) ks
  have h2 : (sP ks).Nodup := (sP_perm ks).nodup_iff.mpr h
  refine (h1.and h2).imp ?_
  rintro ⟨a, b⟩ ⟨c, d⟩ ⟨h3, h4⟩
  rcases leL_p2.mp h3 with h5 | ⟨h5, h6⟩
  · exact .inl h5
  · right
    refine ⟨h5, ?_⟩
    by_cases e : b = d
    · exfalso; apply h4; dsimp only at h5; rw [h5, e]
    · dsimp only at h6 ⊢; omega
theorem u_sortP {o : Bool} {ks : List (Int × Int)} {ls : List Int} (hl : ks.length ≤ sizeLine) : gSorted [dP o ks ls] = some (.lst true ((sP ks).map fun p => tI (p2 p))) := by
  unfold dP
  show (sortD ((ks.map k2).map tupK)).map (fun ys => D.lst true ys) = _
  have e : (ks.map k2).map tupK = (ks.map p2).map tI := by
    rw [List.map_map, List.map_map]
    apply List.map_congr_left
    intro p _
    rfl
  rw [e, sortD_tI (by
    intro x hx
    obtain ⟨p, _, rfl⟩ := List.mem_map.mp hx
    intro z
    cases z) (by rw [List.length_map]; exact hl), sP_map, List.map_map]
  rfl
def rangeI (n : Nat) : List Int := (List.range n).map fun (i : Nat) => (i : Int)
theorem mem_rangeI {n : Nat} {x : Int} : x ∈ rangeI n ↔ 0 ≤ x ∧ x < n := by
  unfold rangeI
  rw [List.mem_map]
  constructor
  · rintro ⟨i, hi, rfl⟩
    rw [List.mem_range] at hi
    omega
  · rintro ⟨h0, h1⟩
    exact ⟨x.toNat, by rw [List.mem_range]; omega, by omega⟩
theorem nodup_rangeI (n : Nat) : (rangeI n).Nodup := by
  unfold rangeI
  unfold List.Nodup
  rw [List.pairwise_map]
  exact List.nodup_range.imp fun h z => h (by omega)
theorem len_rangeI (n : Nat) : (rangeI n).length = n := by unfold rangeI; simp
end
end VS
set_option Elab.async false
set_option linter.all false
set_option maxRecDepth 100000
set_option maxHeartbeats 4000000
set_option autoImplicit false
noncomputable section
namespace VS
open PySem PySem.Spec PyProof.Rows L2
section
variable {X : Cx} {W : WX} {K : PySem.W.Frag} {mg : Str → Option Value} {F H H1 : Hp} {T L : List (D × V)} {ρ ρ' : Env} {σ σ' σ'' : St} {m : Bool}
noncomputable instance rgOk_dec {a b : Int} : Decidable (RgOk a b) := Classical.propDecidable _
theorem RepT.rg (a : Int) : ∀ n : Nat, RepT K H L → RepT K H ((intsD a n).zip ((List.range n).map fun i => V.int (a + (i : Nat))) ++ L) := by
  intro n r
  unfold intsD
  generalize List.range n = l
  induction l with
  | nil => exact r
  | cons x l ih => exact RepT.int ih
noncomputable def lr1 (x : D) : Option D := match x with
  | .int n => if RgOk 0 n then some (.lst true (intsD 0 n.toNat)) else none
  | _ => none
theorem ve_listR1 {a : Expr} {f : M D} {p p2 pos pos2 : Pos} (hc : X.calm = true) (hl : Gl X "list") (hml : X.mg "list" = none) (hg : Gl X "range") (hm : X.mg "range" = none) (ha : VE X W m a f)
    (na : starEach [a] X.env = (false, eval a X.env) :: starEach [] X.env := by rfl) (nb : starEach [.Call (.Name "range" p) [a] [] pos] X.env = (false, eval (.Call (.Name "range" p) [a] [] pos) X.env) :: starEach [] X.env := by rfl) :
    VE X W m (.Call (.Name "list" p2) [.Call (.Name "range" p) [a] [] pos] [] pos2) (d1 lr1 f) := by
  refine PE.imp (pe_listRg hc hl hml (prg_1 hg hm ha na) nb) fun σ H Q ⟨T, ρ, u, rep, hf, he⟩ => ?_
  refine run1 rep hf he fun x ρ1 v H1 h1 s1 r1 => ?_
  obtain ⟨d, e, rfl⟩ := optM_some h1
  cases x <;> simp only [lr1, reduceCtorEq] at e
  rename_i n
  have ev := r1.rep.eq_int
  subst ev
  by_cases z : RgOk 0 n
  · rw [if_pos z] at e
    cases e
    refine ⟨n, rfl, z, fun q hq => he _ _ (sm_r s1 fun b o w => ?_) (r1.drop.lift fun r => ?_)⟩
    · rw [upd_ne (ne_of_none w hq)]; exact w
    · have := RepT.rg (L := T ++ SL ρ1 σ) 0 n.toNat r
      refine RepT.newL (by simp [rgV, intsD]) hq ?_
      unfold rgV
      rw [show (n - 0).toNat = n.toNat by simp]
      exact this
  · rw [if_neg z] at e; cases e
def inB (x y : D) : Option Bool := match dat x, dat y with
  | some a, some (.list es) => if SeqAt.shaped a = true ∧ SeqAt.shaped (.list es) = true then some (es.any fun z => PyData.eqv z a) else none
  | _, _ => none
def gIn (neg : Bool) (x y : D) : Option D := (inB x y).map fun b => .bl (if neg = true then !b else b)
theorem inB_inv {x y : D} {b : Bool} (h : inB x y = some b) : ∃ a es, dat x = some a ∧ dat y = some (.list es) ∧ SeqAt.shaped a = true ∧ SeqAt.shaped (.list es) = true ∧ b = es.any fun z => PyData.eqv z a := by
  unfold inB at h
  split at h
  · rename_i a es e1 e2
    split at h
    · rename_i z
      exact ⟨a, es, e1, e2, z.1, z.2, (Option.some.inj h).symm⟩
    · cases h
  · cases h
theorem impIn : Imp2 K (rInD K) (gIn false) := by
  intro H L x y d v w Q e r h
  obtain ⟨b, eb, rfl⟩ := Option.map_eq_some_iff.mp e
  obtain ⟨a, es, e1, e2, h1, h2, rfl⟩ := inB_inv eb
  exact ⟨a, es, (r.perm (.swap _ _ _)).dp e1, r.dp e2, h1, h2, h _ _ (Same.refl _) (r.drop.drop.bl)⟩
theorem impInN : Imp2 K (rNotInD K) (gIn true) := by
  intro H L x y d v w Q e r h
  obtain ⟨b, eb, rfl⟩ := Option.map_eq_some_iff.mp e
  obtain ⟨a, es, e1, e2, h1, h2, rfl⟩ := inB_inv eb
  exact ⟨a, es, (r.perm (.swap _ _ _)).dp e1, r.dp e2, h1, h2, h _ _ (Same.refl _) (r.drop.drop.bl)⟩
def inS (neg : Bool) (i : Nat) (x : D) : M D := fun ρ => match gIn neg x (ρ.getD i .unk) with
  | some d => some (.ok d ρ)
  | none => none
def dInS (neg : Bool) (i : Nat) (f : M D) : M D := bindM f (inS neg i)
theorem in_of {neg : Bool} {r : R2} {i : Nat} {f : M D} {Q : VK} (hi : Imp2 K r (gIn neg)) (hr : ∀ x y H Q, (r x y H fun v H' => ∃ b, v = .bl b ∧ H' = H ∧ Q v H') → r x y H Q)
    (hq : ∀ x y b H L v w (Q : VK), inB x y = some b → RepT K H ((y, w) :: (x, v) :: L) → Q (.bl (if neg = true then !b else b)) H → r v w H Q)
    (h : tOf K mg W m (dInS neg i f) σ H Q) : tOf K mg W m f σ H fun x H1 => tVar i σ H1 fun y H2 => r x y H2 Q := by
  obtain ⟨T, ρ, u, rep, hf, he⟩ := h
  refine run1 rep hf he fun x ρ1 w H1 h1 s1 r1 => ?_
  unfold inS at h1
  cases q : gIn neg x (ρ1.getD i .unk) with
  | none => rw [q] at h1; cases h1
  | some d =>
    rw [q] at h1
    have : u = .ok d ρ1 := (Option.some.inj h1).symm
    subst this
    obtain ⟨b, eb, rfl⟩ := Option.map_eq_some_iff.mp q
    have hlt : i < ρ1.length := by
      by_cases c : i < ρ1.length
      · exact c
      · obtain ⟨a, es, _, e2, _⟩ := inB_inv eb
        rw [List.getD, List.getElem?_eq_none (by omega)] at e2
        cases e2
    have n : ρ1.getD i .unk ≠ .unk := by
      intro z
      obtain ⟨a, es, _, e2, _⟩ := inB_inv eb
      rw [z] at e2
      cases e2
    obtain ⟨v, hv⟩ := r1.slot (getD_at hlt) n
    refine ⟨v, hv, ?_⟩
    have p := slot_perm (T := T) (getD_at hlt) hv
    have r2 : RepT K H1 ((x, w) :: (ρ1.getD i .unk, v) :: (T ++ (SL ρ1 σ).eraseIdx i)) := r1.rep.perm (p.cons _)
    exact hq x _ b H1 _ w v Q eb (r2.perm (.swap _ _ _)) (he _ H1 s1 (r1.drop.lift fun q => q.bl))
theorem inS_in {i : Nat} {f : M D} {Q : VK} (h : tOf K mg W m (dInS false i f) σ H Q) : tOf K mg W m f σ H fun x H1 => tVar i σ H1 fun y H2 => rInD K x y H2 Q := by
  refine in_of (neg := false) impIn (fun x y H Q ⟨d, ds, h1, h2, h3, h4, b, e, _, h5⟩ => ⟨d, ds, h1, h2, h3, h4, h5⟩) ?_ h
  intro x y b H L v w Q eb r q
  obtain ⟨a, es, e1, e2, h1, h2, rfl⟩ := inB_inv eb
  exact ⟨a, es, (r.perm (.swap _ _ _)).dp e1, r.dp e2, h1, h2, q⟩
theorem inS_nin {i : Nat} {f : M D} {Q : VK} (h : tOf K mg W m (dInS true i f) σ H Q) : tOf K mg W m f σ H fun x H1 => tVar i σ H1 fun y H2 => rNotInD K x y H2 Q := by
  refine in_of (neg := true) impInN (fun x y H Q ⟨d, ds, h1, h2, h3, h4, b, e, _, h5⟩ => ⟨d, ds, h1, h2, h3, h4, h5⟩) ?_ h
  intro x y b H L v w Q eb r q
  obtain ⟨a, es, e1, e2, h1, h2, rfl⟩ := inB_inv eb
  exact ⟨a, es, (r.perm (.swap _ _ _)).dp e1, r.dp e2, h1, h2, q⟩
theorem vt_inL {a b : Expr} {i : Nat} {f : M D} {pos : Pos} (hu : X.A.units + 65 < cLine) (ha : VE X W m a f) (hb : PE X b (tVar i)) (h1 : behindInMarks .In b = false := by first | exact nobehind _ (by decide) (by decide) | rfl) : VT X W m (.Compare a [.In] [b] pos) (dTB (dInS false i f)) := by
  refine PT.imp (pt_cmpR (op_inD hu) ha hb h1) fun σ H Q ⟨T, ρ, u, rep, hf, he⟩ => ?_
  refine inS_in (Q := fun x H1 => ∃ c, x = .bl c ∧ Q c H1) (run1 rep hf he fun x ρ1 v H1 h1 s1 r1 => ?_)
  obtain ⟨b, e, rfl⟩ := optM_some h1
  cases x with
  | bl c =>
    have e : c = b := Option.some.inj e
    subst e
    exact ⟨c, RepT.eq_bl r1.rep, he H1 s1 r1.drop⟩
  | _ => cases e
theorem vt_ninL {a b : Expr} {i : Nat} {f : M D} {pos : Pos} (hu : X.A.units + 65 < cLine) (ha : VE X W m a f) (hb : PE X b (tVar i)) (h1 : behindInMarks .NotIn b = false := by first | exact nobehind _ (by decide) (by decide) | rfl) : VT X W m (.Compare a [.NotIn] [b] pos) (dTB (dInS true i f)) := by
  refine PT.imp (pt_cmpR (op_notInD hu) ha hb h1) fun σ H Q ⟨T, ρ, u, rep, hf, he⟩ => ?_
  refine inS_nin (Q := fun x H1 => ∃ c, x = .bl c ∧ Q c H1) (run1 rep hf he fun x ρ1 v H1 h1 s1 r1 => ?_)
  obtain ⟨b, e, rfl⟩ := optM_some h1
  cases x with
  | bl c =>
    have e : c = b := Option.some.inj e
    subst e
    exact ⟨c, RepT.eq_bl r1.rep, he H1 s1 r1.drop⟩
  | _ => cases e
theorem gNms_len : ∀ (is : List Nat) (ds : List D) (ρ ρ' : Env), gNms is ds ρ = some ρ' → is.length = ds.length
  | [], [], _, _, _ => rfl
  | [], _ :: _, _, _, h => by cases h
  | _ :: _, [], _, _, h => by cases h
  | i :: is, d :: ds, ρ, ρ', h => by simp [gNms_len is ds _ _ h]
def gSq (is : List Nat) : D → Env → Option Env := fun d ρ => match seqOf d with
  | some ds => gNms is ds ρ
  | none => none
theorem vg_seq {is : List Nat} {tgs : List Expr} {k n : Nat} {pos : Pos} (hc : X.calm = true) (h : VGs X is tgs) (hn : (assignEach tgs X.env).length = n := by rfl) (hst : (assignEach tgs X.env).findIdx? (·.1) = none := by rfl) (hl : is.length = n := by rfl) : VG X is (.Tuple tgs k pos) (gSq is) := by
  refine PG.imp (PG.orr (pg_tup hc h hn hst) (pg_lst hc h hn hst)) fun v σ H Q ⟨T, ρ, d, ρ', rep, hg, hq⟩ => ?_
  unfold gSq at hg
  cases q : seqOf d with
  | none => rw [q] at hg; cases hg
  | some ds =>
    rw [q] at hg
    obtain ⟨a, vs, rfl, sq, l, r⟩ := RepT.seq q rep.rep
    have le := gNms_len is ds ρ ρ' hg
    rcases sq with sq | sq
    · exact .inr ⟨a, vs, rfl, sq, by omega, T, ρ, ds, ρ', l, ⟨rep.len, rep.nos, by rw [List.append_assoc]; exact r⟩, hg, fun σ' k r => hq σ' H k r⟩
    · exact .inl ⟨a, vs, rfl, sq, by omega, T, ρ, ds, ρ', l, ⟨rep.len, rep.nos, by rw [List.append_assoc]; exact r⟩, hg, fun σ' k r => hq σ' H k r⟩
end
end VS
set_option Elab.async false
set_option linter.all false
set_option maxRecDepth 100000
set_option maxHeartbeats 4000000
set_option autoImplicit false
noncomputable section
namespace VS
open PySem PySem.Spec PyProof.Rows L2
section
variable {prog : Program} {w : World} {A : Around} {E : Value → Shared → Prop} {s : Shared}
end
end VS
namespace VS
open PySem PySem.Spec PyProof.Rows L2
section
variable {prog : Program} {w : World} {A : Around} {E : Value → Shared → Prop} {s : Shared}
end
end VS
set_option Elab.async false
set_option linter.all false
set_option maxRecDepth 100000
set_option maxHeartbeats 4000000
set_option autoImplicit false
noncomputable section
namespace VS
open PySem PySem.Spec PyProof.Rows L2
section
variable {X : Cx} {W : WX} {K : PySem.W.Frag} {mg : Str → Option Value} {F H H1 : Hp} {T L : List (D × V)} {ρ ρ' : Env} {σ σ' σ'' : St} {m : Bool} {asg a1 a2 : List Nat}
end
end VS
set_option Elab.async false
set_option linter.all false
set_option maxRecDepth 100000
set_option maxHeartbeats 4000000
set_option autoImplicit false
noncomputable section
namespace VS
open PySem PySem.Spec PyProof.Rows L2
section
variable {X : Cx} {W : WX} {K : PySem.W.Frag} {mg : Str → Option Value} {F H H1 : Hp} {T L : List (D × V)} {ρ ρ' : Env} {σ σ' σ'' : St} {m : Bool} {asg a1 a2 : List Nat}
structure ExcF (K : PySem.W.Frag) (mg : Str → Option Value) (x : Str) : Prop where
  ex : ∃ C, mg x = some (.ref C) ∧ PySem.W.nsIn K mainGlobals x = some (some (.ref C)) ∧ PySem.W.excIn K C [.type "ValueError", .type "Exception", .type "BaseException", .type "object"] "ValueError.__new__" = true ∧ PySem.W.keepIn K (.ref C) = true ∧
    PySem.W.subIn K (.ref C) (.type "BaseException") = some true ∧ PySem.W.typeIn K (.ref C) = some (.type "type") ∧ ExcC K C
def ClsOf (mg : Str → Option Value) (T : Str) (u : Value) : Prop := mg T = some u ∨ (mg T = none ∧ bootBuiltins T = some u)
abbrev Tab := List (Str × Str × Bool)
def tabL : Tab → Str → Str → Option Bool
  | [], _, _ => none
  | (c, t, b) :: r, c', t' => if c = c' ∧ t = t' then some b else tabL r c' t'
def TabOk (K : PySem.W.Frag) (mg : Str → Option Value) (tab : Tab) : Prop := ∀ e ∈ tab, ∀ C, mg e.1 = some (.ref C) → ∃ u, ClsOf mg e.2.1 u ∧ PySem.W.kitOne K (.ref C) u = some e.2.2
theorem tabL_mem : ∀ {tab : Tab} {c t : Str} {b : Bool}, tabL tab c t = some b → (c, t, b) ∈ tab
  | [], _, _, _, h => by cases h
  | (c, t, b) :: r, c', t', b', h => by
    rw [tabL] at h
    split at h
    · rename_i z
      obtain ⟨rfl, rfl⟩ := z
      cases h
      exact List.mem_cons_self
    · exact List.mem_cons_of_mem _ (tabL_mem h)
theorem ClsOf.eq {T : Str} {u u' : Value} (h : ClsOf mg T u) (h' : ClsOf mg T u') : u = u' := by
  rcases h with h | ⟨h, k⟩
  · rcases h' with h' | ⟨h', _⟩
    · rw [h] at h'; exact Option.some.inj h'
    · rw [h] at h'; cases h'
  · rcases h' with h' | ⟨h', k'⟩
    · rw [h] at h'; cases h'
    · rw [k] at k'; exact Option.some.inj k'
theorem TabOk.one {tab : Tab} (ok : TabOk K mg tab) {c t : Str} {b : Bool} {C : Addr} {u : Value} (h : tabL tab c t = some b) (hC : mg c = some (.ref C)) (hu : ClsOf mg t u) : PySem.W.kitOne K (.ref C) u = some b := by
  obtain ⟨u', h1, h2⟩ := ok _ (tabL_mem h) C hC
  rw [hu.eq h1]
  exact h2
def tabAny (tab : Tab) (c : Str) : List Str → Option Bool
  | [] => some false
  | t :: r => match tabL tab c t with
    | some true => some true
    | some false => tabAny tab c r
    | none => none
theorem TabOk.any {tab : Tab} (ok : TabOk K mg tab) {c : Str} {C : Addr} (hC : mg c = some (.ref C)) : ∀ {ts : List Str} {us : List Value} {b : Bool}, tabAny tab c ts = some b → Paired (ClsOf mg) ts us → PySem.W.kitAny K (.ref C) us = some b
  | [], _, b, h, .nil => h
  | t :: ts, _, b, h, .cons q r => by
    rw [tabAny] at h
    cases e : tabL tab c t with
    | none => rw [e] at h; cases h
    | some k =>
      rw [e] at h
      refine kitAny_cons (ok.one e hC q) (fun z => ?_) fun z => ?_
      · subst z; exact ok.any hC h r
      · subst z; exact (Option.some.inj h).symm
structure CE (X : Cx) (e : Expr) (t : Str) : Prop where
  ex : ∃ cv u, PE X e (tC cv) ∧ ClsV cv u ∧ ClsOf X.mg t u
theorem ce_own {t : Str} {C : Addr} {pos : Pos} (hm : X.mg t = some (.ref C)) (hg : Gl X t) (hd : (t == ("__debug__" : Str)) = false := by decide) : CE X (.Name t pos) t := ⟨.ref C, .ref C, pe_glob hg hm rfl hd, .own C, .inl hm⟩
theorem ce_blt {t : Str} {n : String} {pos : Pos} (hm : X.mg t = none) (hv : bootBuiltins t = some (.type n)) (hg : Gl X t) (hn : t ≠ "__name__" := by decide) (hd : (t == ("__debug__" : Str)) = false := by decide) : CE X (.Name t pos) t := ⟨.ty n, .type n, pe_bltn hg hm hv rfl hn hd, .ty n, .inr ⟨hm, hv⟩⟩
def rIsX (K : PySem.W.Frag) (D a : Addr) : List V → Hp → VK → Prop := fun xs H Q => ∃ (c : V) (u : Value) (b : Bool), xs = [.ref a, c] ∧ ClsV c u ∧ PySem.W.kitOne K (.ref D) u = some b ∧ Q (.bl b) H
def isxD (a : Addr) (tab : Tab) (c : Str) (ts : List Str) (d : D) : Option D := match d with
  | .adr a' => if a' = a then (tabAny tab c ts).map D.bl else none
  | _ => none
def dIsx (a : Addr) (tab : Tab) (c : Str) (ts : List Str) (f : M D) : M D := bindM f fun d => optM (isxD a tab c ts d)
theorem isxD_inv {a : Addr} {tab : Tab} {c : Str} {ts : List Str} {d x : D} (h : isxD a tab c ts d = some x) : d = .adr a ∧ ∃ b, tabAny tab c ts = some b ∧ x = .bl b := by
  unfold isxD at h
  split at h
  · split at h
    · rename_i z
      obtain ⟨b, e, rfl⟩ := Option.map_eq_some_iff.mp h
      exact ⟨by rw [z], b, e, rfl⟩
    · cases h
  · cases h
abbrev FnX := Addr → Str → FnD
end
end VS
set_option Elab.async false
set_option linter.all false
set_option maxRecDepth 100000
set_option maxHeartbeats 4000000
set_option autoImplicit false
noncomputable section
namespace VS
open PySem PySem.Spec PyProof.Rows L2
section
variable {X : Cx} {W : WX} {K : PySem.W.Frag} {mg : Str → Option Value} {F H H1 : Hp} {T L : List (D × V)} {ρ ρ' : Env} {σ σ' σ'' : St} {m : Bool} {asg a1 a2 : List Nat}
theorem unitsH {k : Nat} {A : Around} (r : L2H.RoomH k A) : A.units + 64 < cLine := by have := r.un; omega
theorem roomS {j k : Nat} {A : Around} {v : Option Value} (r : Room k A) (h : j ≤ k) : L2H.RoomH j (A.mark v) := by
  have q := L2H.RoomH.mono (L2H.roomH_of r) h
  exact ⟨q.dp, q.un⟩
theorem kit_own {c T : Addr} {b : Bool} (hd : PySem.W.hasDictIn K T = true) (ht : PySem.W.typeIn K (.ref T) = some (.type "type")) (hs : PySem.W.subIn K (.ref c) (.ref T) = some b) (hn : b = true ∨ (Value.ref c == Value.ref T) = false) : PySem.W.kitOne K (.ref c) (.ref T) = some b := by
  unfold PySem.W.kitOne
  by_cases h : (Value.ref c == Value.ref T) = true
  · rw [if_pos h]
    rcases hn with hn | hn
    · rw [hn]
    · rw [hn] at h; cases h
  · rw [if_neg h]
    obtain ⟨cd, hc, _⟩ := PySem.W.any_some hd
    have e2 : ((PySem.W.clsIn K T).isSome && PySem.W.typeIn K (.ref T) == some (.type "type")) = true := by rw [hc, ht]; rfl
    show (if ((PySem.W.clsIn K T).isSome && PySem.W.typeIn K (.ref T) == some (.type "type")) = true then PySem.W.subIn K (.ref c) (.ref T) else none) = some b
    rw [if_pos e2]
    exact hs
theorem kit_blt {c : Addr} {T : String} {b : Bool} (hk : PySem.W.kitMeta T = true) (hs : PySem.W.subIn K (.ref c) (.type T) = some b) : PySem.W.kitOne K (.ref c) (.type T) = some b := by
  unfold PySem.W.kitOne
  rw [if_neg (show ¬ ((Value.ref c == Value.type T) = true) from Bool.false_ne_true)]
  show (if PySem.W.kitMeta T = true then PySem.W.subIn K (.ref c) (.type T) else none) = some b
  rw [if_pos hk]
  exact hs
theorem b_ValueError : bootBuiltins "ValueError" = some (.type "ValueError") := by decide +kernel
def notEx : Fl → Prop
  | .ex _ => False
  | _ => True
def OnAll (i : Nat) (g : Addr → MS) (ρ : Env) (r : Fl × Env) : Prop := notEx r.1 ∧ ∀ a, ∃ ρ2, g a (ρ.set i (.adr a)) = some (r.1, ρ2) ∧ ρ2.set i .unk = r.2
theorem OnAll.eq {i : Nat} {g : Addr → MS} {r r' : Fl × Env} (h : OnAll i g ρ r) (h' : OnAll i g ρ r') : r = r' := by
  obtain ⟨ρ2, e, k⟩ := h.2 0
  obtain ⟨ρ3, e', k'⟩ := h'.2 0
  rw [e] at e'
  injection e' with e'
  injection e' with e1 e2
  subst e2
  exact Prod.ext e1 (k.symm.trans k')
open Classical in
def onAll (i : Nat) (g : Addr → MS) : MS := fun ρ => if h : ∃ r, OnAll i g ρ r then some h.choose else none
theorem onAll_some {i : Nat} {g : Addr → MS} {r : Fl × Env} (h : onAll i g ρ = some r) : OnAll i g ρ r := by
  unfold onAll at h
  split at h
  · rename_i z
    rw [← Option.some.inj h]
    exact z.choose_spec
  · cases h
theorem onAll_of {i : Nat} {g : Addr → MS} {r : Fl × Env} (h : OnAll i g ρ r) : onAll i g ρ = some r := by
  unfold onAll
  have z : ∃ r, OnAll i g ρ r := ⟨r, h⟩
  rw [dif_pos z, z.choose_spec.eq h]
theorem Rep.unset (h : Rep K H T ρ σ) (i : Nat) : Rep K H T (ρ.set i .unk) (σ.set i none) := by
  refine (h.forget i).other (by simp) fun j => ?_
  by_cases z : i = j
  · subst z
    by_cases hl : i < ρ.length
    · exact .inl (by rw [List.getElem?_set_self hl])
    · refine .inr ?_
      have hl2 : ¬ i < σ.length := by rw [← h.len]; exact hl
      rw [List.getElem?_eq_none (by rw [List.length_set]; omega), List.getElem?_eq_none (by omega)]
  · exact .inr (by rw [List.getElem?_set_ne z])
theorem Kept.tryS {i : Nat} {v : V} {σ1 σ2 : St} (h1 : Kept a1 σ σ1) (h2 : Kept a2 (σ1.set i (some v)) σ2) : Kept (a1 ++ ([i] ++ a2)) σ (σ2.set i none) := by
  refine ⟨by rw [List.length_set, h2.1, List.length_set, h1.1], fun j hj => ?_⟩
  rw [List.mem_append, not_or] at hj
  obtain ⟨j1, j2⟩ := hj
  rw [List.mem_append, not_or, List.mem_singleton] at j2
  rw [List.getElem?_set_ne (Ne.symm j2.1), h2.2 j j2.2, List.getElem?_set_ne (Ne.symm j2.1), h1.2 j j1]
theorem Kept.tryR {i : Nat} {v : V} {σ1 σ2 : St} (h1 : Kept a1 σ σ1) (h2 : Kept a2 (σ1.set i (some v)) σ2) : Kept (a1 ++ ([i] ++ a2)) σ σ2 := by
  refine ⟨by rw [h2.1, List.length_set, h1.1], fun j hj => ?_⟩
  rw [List.mem_append, not_or] at hj
  obtain ⟨j1, j2⟩ := hj
  rw [List.mem_append, not_or, List.mem_singleton] at j2
  rw [h2.2 j j2.2, List.getElem?_set_ne (Ne.symm j2.1), h1.2 j j1]
theorem Kept.left {σ1 : St} (h1 : Kept a1 σ σ1) : Kept (a1 ++ a2) σ σ1 := ⟨h1.1, fun j hj => h1.2 j fun z => hj (List.mem_append_left _ z)⟩
end
end VS
set_option Elab.async false
set_option linter.all false
set_option maxRecDepth 100000
set_option maxHeartbeats 4000000
set_option autoImplicit false
noncomputable section
namespace VS
open PySem PySem.Spec PyProof.Rows L2
section
variable {X : Cx} {W : WX} {K : PySem.W.Frag} {mg : Str → Option Value} {F H H1 : Hp} {T L : List (D × V)} {ρ ρ' : Env} {σ σ' σ'' : St} {m : Bool} {asg a1 a2 : List Nat}
end
end VS
set_option Elab.async false
set_option linter.all false
set_option maxRecDepth 100000
set_option maxHeartbeats 4000000
set_option autoImplicit false
noncomputable section
namespace VS
open PySem PySem.Spec PyProof.Rows L2
section
variable {X : Cx} {W : WX} {K : PySem.W.Frag} {mg : Str → Option Value} {F H H1 : Hp} {T L : List (D × V)} {ρ ρ' : Env} {σ σ' σ'' : St} {m : Bool} {asg a1 a2 : List Nat}
def pairUp : List V → List (V × V)
  | a :: b :: r => (a, b) :: pairUp r
  | _ => []
structure VP (X : Cx) (W : WX) (m : Bool) (pos : Pos) (keys : List (Option Expr)) (values : List Expr) (f : M (List D)) : Prop where
  ex : ∃ trs, PPs X pos keys values trs ∧ ∀ σ H (Q : List (V × V) → Hp → Prop), taOf X.K X.mg W m f σ H (fun vs H' => Q (pairUp vs) H') → tPairs trs σ H Q
theorem vp_nil {pos : Pos} : VP X W false pos [] [] dNil := ⟨[], pps_nil, fun σ H Q ⟨T, ρ, u, rep, hf, he⟩ => by
  have e : u = .ok [] ρ := (Option.some.inj hf).symm
  subst e
  exact he [] H (fun _ => Same.refl _) rfl rep⟩
theorem vp_cons {pos : Pos} {k v : Expr} {keys : List (Option Expr)} {values : List Expr} {f g : M D} {r : M (List D)} {m1 m2 m3 : Bool} (hk : VE X W m1 k f) (hv : VE X W m2 v g) (hr : VP X W m3 pos keys values r) : VP X W (m1 || (m2 || m3)) pos (some k :: keys) (v :: values) (dCons f (dCons g r)) := by
  obtain ⟨trs, hp, ht⟩ := hr.ex
  refine ⟨_, pps_cons hk hv hp, fun σ H Q ⟨T, ρ, u, rep, hf, he⟩ => ?_⟩
  refine run1 rep hf he fun x ρ1 v H1 h1 s1 r1 => ?_
  unfold bindM at h1
  cases q : dCons g r ρ1 with
  | none => rw [q] at h1; cases h1
  | some w =>
    rw [q] at h1
    have he1 : endR X.K X.mg W ((x, v) :: T) σ (okA X.K (m2 || m3) ((x, v) :: T) σ H1 fun vs H' => Q (pairUp (v :: vs)) H') w := by
      cases w with
      | ex e ρ2 =>
        have : u = .ex e ρ2 := (Option.some.inj h1).symm
        subst this
        exact exE.push he
      | ok ds ρ2 =>
        have : u = .ok (x :: ds) ρ2 := (Option.some.inj h1).symm
        subst this
        exact fun vs H' s' l' r' => he (v :: vs) H' (sm_or s1 s') (by simp [l']) (r'.perm List.perm_middle)
    refine run1 r1 q he1 fun y ρ2 z H2 h2 s2 r2 => ht σ H2 _ ?_
    refine runA r2 h2 (he1.push (okP' := okA X.K (m2 || m3) ((x, v) :: T) σ H1 fun vs H' => Q (pairUp (v :: vs)) H') fun _ _ q => q) fun ds ρ3 vs H3 h3 s3 l3 r3 => ?_
    have : w = .ok (y :: ds) ρ3 := (Option.some.inj h3).symm
    subst this
    exact he1 (z :: vs) H3 (sm_or s2 s3) (by simp [l3]) (r3.perm List.perm_middle)
def dispD : List D → List Key → List D → Option D
  | [], ks, es => some (.dK true ks es)
  | [_], _, _ => none
  | k :: v :: r, ks, es => match keyD k with
    | some key => dispD r (putL ks es key v).1 (putL ks es key v).2
    | none => none
def dDisp (f : M (List D)) : M D := bindM f fun ds => optM (if ds.length ≤ 30 then dispD ds [] [] else none)
theorem disp_rep {p : Addr} : ∀ (n : Nat) (ds : List D) (ks : List Key) (es : List D) (d : D) (vs : List V) (H : Hp) (L : List (D × V)), ds.length ≤ n → dispD ds ks es = some d → ds.length = vs.length → RepT K H (ds.zip vs ++ (.dK true ks es, .ref p) :: L) →
    ∃ (o kvs : List (Key × V)), H p = some (.dK o) ∧ pairUp vs = kvs.map (fun kv => (kV kv.1, kv.2)) ∧ kvs.length * 2 = ds.length ∧ RepT K (upd H p (.dK (mergeK o kvs))) ((d, .ref p) :: L)
  | n, [], ks, es, d, vs, H, L, _, e, l, r => by
    cases vs with
    | cons _ _ => cases l
    | nil =>
      rw [dispD] at e
      cases e
      have r1 : RepT K H ((.dK true ks es, .ref p) :: L) := r
      obtain ⟨a, us, e1, q, _⟩ := r1.dK
      cases e1
      refine ⟨ks.zip us, [], q, rfl, rfl, ?_⟩
      have e2 : upd H p (.dK (mergeK (ks.zip us) [])) = H := by
        funext b
        unfold upd
        split
        · rename_i z; rw [z, q]; rfl
        · rfl
      rw [e2]
      exact r1
  | n, [_], ks, es, d, vs, H, L, _, e, l, r => by rw [dispD] at e; cases e
  | 0, k :: v :: ds, ks, es, d, vs, H, L, hn, e, l, r => by simp at hn
  | n + 1, k :: v :: ds, ks, es, d, vs, H, L, hn, e, l, r => by
    match vs, l with
    | kv :: vv :: vs, l =>
      rw [dispD] at e
      cases q : keyD k with
      | none => rw [q] at e; cases e
      | some key =>
        rw [q] at e
        have r1 : RepT K H ((k, kv) :: (v, vv) :: (ds.zip vs ++ (.dK true ks es, .ref p) :: L)) := r
        have ek := keyD_rep q r1
        have r2 : RepT K H ((v, vv) :: (.dK true ks es, .ref p) :: (ds.zip vs ++ L)) := r1.drop.perm (List.Perm.cons _ List.perm_middle)
        obtain ⟨us, h1, h2, h3, r3⟩ := RepT.putDK (k := key) r2
        have r4 := r3.perm (List.perm_middle (l₁ := ds.zip vs) (a := (D.dK true (putL ks es key v).1 (putL ks es key v).2, V.ref p)) (l₂ := L)).symm
        obtain ⟨o, kvs, g1, g2, g3, g4⟩ := disp_rep n ds _ _ d vs _ L (by simp at hn; omega) e (by simpa using l) r4
        rw [upd_same] at g1
        cases g1
        rw [upd_upd] at g4
        exact ⟨ks.zip us, (key, vv) :: kvs, h1, by rw [pairUp, g2, ek]; rfl, by simp; omega, g4⟩
theorem ve_disp {pos : Pos} {keys : List (Option Expr)} {values : List Expr} {f : M (List D)} (h : VP X W m pos keys values f) (hall : keys.all (·.isSome) = true) (hl : keys.length = values.length) (h0 : keys ≠ []) (h15 : keys.length ≤ 15) : VE X W true (.Dict keys values pos) (dDisp f) := by
  obtain ⟨trs, hp, ht⟩ := h.ex
  refine PE.imp (pe_disp hp hall hl h0 h15) fun σ H Q ⟨T, ρ, u, rep, hf, he⟩ => ?_
  intro p hfree
  refine ht σ _ _ ?_
  have rep' : Rep X.K (upd H p (.dK [])) ((.dK true [] [], .ref p) :: T) ρ σ := rep.lift fun r => RepT.newDK hfree r
  unfold dDisp bindM at hf
  cases q : f ρ with
  | none => rw [q] at hf; cases hf
  | some w =>
    rw [q] at hf
    refine ⟨(.dK true [] [], .ref p) :: T, ρ, w, rep', q, ?_⟩
    cases w with
    | ex e ρ2 =>
      have : u = .ex e ρ2 := (Option.some.inj hf).symm
      subst this
      exact exE.push he
    | ok ds ρ1 =>
      obtain ⟨d, ed, rfl⟩ := optM_some hf
      intro vs H' s' l' r'
      by_cases z : ds.length ≤ 30
      · rw [if_pos z] at ed
        have r2 : RepT X.K H' (ds.zip vs ++ (.dK true [] [], .ref p) :: (T ++ SL ρ1 σ)) := by
          have := r'.rep
          rw [List.append_assoc] at this
          exact this
        obtain ⟨o, kvs, g1, g2, g3, g4⟩ := disp_rep _ ds [] [] d vs H' _ (Nat.le_refl _) ed l' r2
        have ho : o = [] := by
          obtain ⟨a, us, e1, q1, _⟩ := (RepT.dropL r2).dK
          cases e1
          rw [q1] at g1
          cases g1
          rfl
        subst ho
        exact ⟨g1, kvs, g2, by omega, he _ _ (fun z => by cases z) ⟨r'.len, r'.nos, g4⟩⟩
      · rw [if_neg z] at ed; cases ed
def dPar (i j : Nat) (f : M (List D)) : MS := bindS f fun ds ρ => match ds with
  | [x, y] => some (.nx, (ρ.set i x).set j y)
  | _ => none
theorem vs_par {i j : Nat} {x y : Str} {a b : Expr} {f : M (List D)} {px py pt : Pos} {pos : Pos} {kt k2 : Nat} {pt2 : Pos} (hc : X.calm = true) (hN : X.N.Nodup) (hi : X.N[i]? = some x) (hj : X.N[j]? = some y) (hij : i ≠ j)
    (hx : X.env.scope.names.lookup x = some .local) (hy : X.env.scope.names.lookup y = some .local) (ha : VA X W m [a, b] f)
    (hw : swappedStores [.Tuple [.Name x px, .Name y py] kt pt] (.Tuple [a, b] k2 pt2) X.env = pure (some [x, y]))
    (hs : swapsWithSole [.Tuple [.Name x px, .Name y py] kt pt] (.Tuple [a, b] k2 pt2) pos.line X.env = pure false := by rfl) :
    VSt X W [i, j] (.Assign [.Tuple [.Name x px, .Name y py] kt pt] (.Tuple [a, b] k2 pt2) pos) (dPar i j f) := by
  refine PS.imp (ps_par hc hN hi hj hij hx hy ha hw hs) fun σ H E ⟨T, ρ, fl, ρ', rep, hf, he⟩ => ?_
  unfold dPar bindS at hf
  cases q : f ρ with
  | none => rw [q] at hf; cases hf
  | some w =>
    rw [q] at hf
    refine ⟨T, ρ, w, rep, q, ?_⟩
    cases w with
    | ex e ρ2 =>
      have : (Fl.ex e, ρ2) = (fl, ρ') := Option.some.inj hf
      cases this
      exact fun cls dd H' xr r => he cls dd σ H' Kept.refl xr r
    | ok ds ρ1 =>
      intro vs H1 s1 l1 r1
      match ds, hf, l1, r1 with
      | [u, v], hf, l1, r1 =>
        have e : (Fl.nx, (ρ1.set i u).set j v) = (fl, ρ') := Option.some.inj hf
        cases e
        match vs, l1, r1 with
        | [p, q], l1, r1 =>
          refine ⟨p, q, rfl, he _ H1 ⟨by simp, fun k hk => ?_⟩ ?_⟩
          · simp at hk
            rw [List.getElem?_set_ne (Ne.symm hk.2), List.getElem?_set_ne (Ne.symm hk.1)]
          · have r2 : Rep X.K H1 ((u, p) :: (v, q) :: T) ρ1 σ := r1
            exact Rep.set (Rep.set r2)
end
end VS
set_option Elab.async false
set_option linter.all false
set_option maxRecDepth 100000
set_option maxHeartbeats 4000000
set_option autoImplicit false
noncomputable section
namespace VS
open PySem PySem.Spec PyProof.Rows L2
section
variable {X : Cx} {W : WX} {K : PySem.W.Frag} {mg : Str → Option Value} {F H H1 : Hp} {T L : List (D × V)} {ρ ρ' : Env} {σ σ' σ'' : St} {m : Bool} {asg a1 a2 : List Nat}
end
end VS
set_option Elab.async false
set_option linter.all false
set_option maxRecDepth 100000
set_option maxHeartbeats 4000000
set_option autoImplicit false
noncomputable section
namespace VS
open PySem PySem.Spec PyProof.Rows L2
section
variable {X : Cx} {W : WX} {K : PySem.W.Frag} {mg : Str → Option Value} {F H H1 : Hp} {T L : List (D × V)} {ρ ρ' : Env} {σ σ' σ'' : St} {m : Bool} {asg a1 a2 : List Nat}
end
end VS
set_option Elab.async false
set_option linter.all false
set_option maxRecDepth 100000
set_option maxHeartbeats 4000000
set_option autoImplicit false
noncomputable section
namespace VS
open PySem PySem.Spec PyProof.Rows L2
section
variable {X : Cx} {W : WX} {K : PySem.W.Frag} {mg : Str → Option Value} {F H H1 : Hp} {T L : List (D × V)} {ρ ρ' : Env} {σ σ' σ'' : St} {m : Bool} {asg a1 a2 : List Nat}
theorem getD_some {i : Nat} {d : D} (h : ρ.getD i .unk = d) (n : d ≠ .unk) : ρ[i]? = some d := by
  rw [List.getD_eq_getElem?_getD] at h
  cases q : ρ[i]? with
  | none => rw [q] at h; exact absurd h.symm n
  | some x => rw [q] at h; exact congrArg some h
end
end VS
set_option Elab.async false
set_option linter.all false
set_option maxRecDepth 100000
set_option maxHeartbeats 4000000
set_option autoImplicit false
noncomputable section
namespace VS
open PySem PySem.Spec PyProof.Rows L2
section
variable {K : PySem.W.Frag} {F F1 F2 H H' : Hp}
def exV : V → D
  | .non => .non
  | .bl b => .bl b
  | .int i => .int i
  | .str x => .str x
  | .ref a => .adr a
  | _ => .unk
def isC : HO → Bool
  | .lst _ => true
  | .dK _ => true
  | .dT _ => true
  | .frz _ (.dK _) => true
  | .frz _ (.dT _) => true
  | _ => false
structure Agr (F F1 F2 : Hp) : Prop where
  old : ∀ b o, F b = some o → F2 b = F1 b
  oth : ∀ b o, F1 b = some o → isC o = false → F2 b = some o
theorem ow_ex {v v' : V} {A : List Addr} (h : Ow K F H (exV v) v' A) : A = [] ∧ (exV v = .unk ∨ v' = v) := by
  cases v <;> simp only [exV, Ow] at h ⊢ <;> simp_all
theorem ow_exs {v : V} : Ow K F H (exV v) v [] := by
  cases v <;> simp [exV, Ow]
theorem owL_ex : ∀ {vs vs' : List V} {A : List Addr}, OwL K F H (vs.map exV) vs' A → A = []
  | [], vs', A, h => by rw [List.map_nil, OwL] at h; exact h.2
  | v :: vs, vs', A, h => by
    rw [List.map_cons, OwL] at h
    obtain ⟨w, r, A1, A2, _, rfl, h1, h2⟩ := h
    rw [(ow_ex h1).1, owL_ex h2]; rfl
theorem owL_exs : ∀ {vs : List V}, OwL K F H (vs.map exV) vs []
  | [] => by rw [List.map_nil, OwL]; exact ⟨rfl, rfl⟩
  | v :: vs => by
    rw [List.map_cons, OwL]
    exact ⟨v, vs, [], [], rfl, rfl, ow_exs, owL_exs⟩
theorem unk_of {v : V} {A : List Addr} (e : exV v = .unk) : ∀ (d : D), Ow K F H d v A → d = .unk
  | .unk, _ => rfl
  | .non, h => by rw [Ow] at h; rw [h.1] at e; cases e
  | .bl b, h => by rw [Ow] at h; rw [h.1] at e; cases e
  | .int i, h => by rw [Ow] at h; rw [h.1] at e; cases e
  | .str x, h => by rw [Ow] at h; rw [h.1] at e; cases e
  | .adr x, h => by rw [Ow] at h; rw [h.1] at e; cases e
  | .hole, h => by rw [Ow] at h; obtain ⟨a, o, e1, _⟩ := h; rw [e1] at e; cases e
  | .exo c q, h => by rw [Ow] at h; obtain ⟨⟨a, C, d, e1, _⟩, _⟩ := h; rw [e1] at e; cases e
  | .tup ds, h => by rw [Ow] at h; obtain ⟨a, vs, h⟩ := h; rw [h.1] at e; cases e
  | .ktp ds, h => by rw [Ow] at h; obtain ⟨a, vs, h⟩ := h; rw [h.1] at e; cases e
  | .lst false ds, h => by rw [Ow] at h; obtain ⟨a, vs, h⟩ := h; rw [h.1] at e; cases e
  | .scr ds, h => by rw [Ow] at h; obtain ⟨a, vs, h⟩ := h; rw [h.1] at e; cases e
  | .lst true ds, h => by rw [Ow] at h; obtain ⟨a, vs, h⟩ := h; obtain ⟨A', h⟩ := h; rw [h.1] at e; cases e
  | .dK false ks ds, h => by rw [Ow] at h; obtain ⟨a, vs, h⟩ := h; rw [h.1] at e; cases e
  | .dK true ks ds, h => by rw [Ow] at h; obtain ⟨a, vs, h⟩ := h; obtain ⟨A', h⟩ := h; rw [h.1] at e; cases e
  | .dT false ks ds, h => by rw [Ow] at h; obtain ⟨a, vs, h⟩ := h; rw [h.1] at e; cases e
  | .dT true ks ds, h => by rw [Ow] at h; obtain ⟨a, vs, h⟩ := h; obtain ⟨A', h⟩ := h; rw [h.1] at e; cases e
  | .lK ks ds, h => by rw [Ow] at h; obtain ⟨a, vs, h⟩ := h; rw [h.1] at e; cases e
  | .lT ks ds, h => by rw [Ow] at h; obtain ⟨a, vs, h⟩ := h; rw [h.1] at e; cases e
  | .lck u, h => by rw [Ow] at h; obtain ⟨⟨a, h⟩, _⟩ := h; rw [h.1] at e; cases e
theorem exo_agr {c : Str} {q : Option (Str × Int)} {v : V} {A : List Addr} (g : Agr F F1 F2) (k : Ow K F1 H' (.exo c q) v A) : Ow K F2 H' (.exo c q) v A := by
  rw [Ow] at k ⊢
  obtain ⟨⟨a, C, d, e, w, n, k⟩, z⟩ := k
  refine ⟨⟨a, C, d, e, g.oth _ _ w rfl, n, ?_⟩, z⟩
  cases q with
  | none => exact k
  | some q =>
    obtain ⟨b, e1, e2⟩ := k
    exact ⟨b, e1, g.oth _ _ e2 rfl⟩
mutual
theorem Ow.pin : ∀ (d : D) (v : V) (A : List Addr), Ow K F H d v A → ∃ P, OwT K F H P A ∧ ∀ F1 F2 H' A', Agr F F1 F2 → OwT K F1 H' P A' → Ow K F2 H' d v A'
  | .unk, v, A, h => ⟨[(.unk, v)], ⟨A, [], by simp, h, rfl⟩, fun F1 F2 H' A' _ k => by obtain ⟨A1, A2, rfl, k, e⟩ := k; have e : A2 = [] := e; subst e; rw [List.append_nil, Ow]; rw [Ow] at k; exact k⟩
  | .non, v, A, h => ⟨[(.non, v)], ⟨A, [], by simp, h, rfl⟩, fun F1 F2 H' A' _ k => by obtain ⟨A1, A2, rfl, k, e⟩ := k; have e : A2 = [] := e; subst e; rw [List.append_nil, Ow]; rw [Ow] at k; exact k⟩
  | .bl b, v, A, h => ⟨[(.bl b, v)], ⟨A, [], by simp, h, rfl⟩, fun F1 F2 H' A' _ k => by obtain ⟨A1, A2, rfl, k, e⟩ := k; have e : A2 = [] := e; subst e; rw [List.append_nil, Ow]; rw [Ow] at k; exact k⟩
  | .int i, v, A, h => ⟨[(.int i, v)], ⟨A, [], by simp, h, rfl⟩, fun F1 F2 H' A' _ k => by obtain ⟨A1, A2, rfl, k, e⟩ := k; have e : A2 = [] := e; subst e; rw [List.append_nil, Ow]; rw [Ow] at k; exact k⟩
  | .str x, v, A, h => ⟨[(.str x, v)], ⟨A, [], by simp, h, rfl⟩, fun F1 F2 H' A' _ k => by obtain ⟨A1, A2, rfl, k, e⟩ := k; have e : A2 = [] := e; subst e; rw [List.append_nil, Ow]; rw [Ow] at k; exact k⟩
  | .adr x, v, A, h => ⟨[(.adr x, v)], ⟨A, [], by simp, h, rfl⟩, fun F1 F2 H' A' _ k => by obtain ⟨A1, A2, rfl, k, e⟩ := k; have e : A2 = [] := e; subst e; rw [List.append_nil, Ow]; rw [Ow] at k; exact k⟩
  | .hole, v, A, h => ⟨[(.hole, v)], ⟨A, [], by simp, h, rfl⟩, fun F1 F2 H' A' _ k => by obtain ⟨A1, A2, rfl, k, e⟩ := k; have e : A2 = [] := e; subst e; rw [List.append_nil, Ow]; rw [Ow] at k; exact k⟩
  | .exo c q, v, A, h => ⟨[(.exo c q, v)], ⟨A, [], by simp, h, rfl⟩, fun F1 F2 H' A' g k => by
    obtain ⟨A1, A2, rfl, k, e⟩ := k
    have e : A2 = [] := e
    subst e
    rw [List.append_nil]
    exact exo_agr g k⟩
  | .tup ds, v, A, h => by
    rw [Ow] at h
    obtain ⟨a, vs, rfl, q, l⟩ := h
    obtain ⟨P, h1, h2⟩ := OwL.pin ds vs _ l
    refine ⟨(.tup (vs.map exV), .ref a) :: P, ⟨[], A, rfl, by rw [Ow]; exact ⟨a, vs, rfl, q, owL_exs⟩, h1⟩, fun F1 F2 H' B g k => ?_⟩
    obtain ⟨A1, A2, rfl, k, o⟩ := k
    rw [Ow] at k ⊢
    obtain ⟨a', vs', e, q', l'⟩ := k
    cases e
    have e := owL_ex l'
    subst e
    exact ⟨a, vs', rfl, by rw [g.old _ _ q]; exact q', h2 F1 F2 H' _ vs' g l' o⟩
  | .ktp ds, v, A, h => by
    rw [Ow] at h
    obtain ⟨a, vs, rfl, q, l⟩ := h
    obtain ⟨P, h1, h2⟩ := OwL.pin ds vs _ l
    rcases q with q0 | q0
    · refine ⟨(.ktp (vs.map exV), .ref a) :: P, ⟨[], A, rfl, by rw [Ow]; exact ⟨a, vs, rfl, .inl q0, owL_exs⟩, h1⟩, fun F1 F2 H' B g k => ?_⟩
      obtain ⟨A1, A2, rfl, k, o⟩ := k
      rw [Ow] at k ⊢
      obtain ⟨a', vs', e, q', l'⟩ := k
      cases e
      have e := owL_ex l'
      subst e
      refine ⟨a, vs', rfl, ?_, h2 F1 F2 H' _ vs' g l' o⟩
      rcases q' with (q' | ⟨u, q'⟩) | q'
      · exact .inl (.inl (by rcases q0 with q | ⟨_, q⟩ <;> (rw [g.old _ _ q]; exact q')))
      · exact .inl (.inr ⟨u, by rcases q0 with q | ⟨_, q⟩ <;> (rw [g.old _ _ q]; exact q')⟩)
      · exact .inr q'
    · refine ⟨P, h1, fun F1 F2 H' B g k => ?_⟩
      rw [Ow]
      exact ⟨a, vs, rfl, .inr q0, h2 F1 F2 H' _ vs g owL_exs k⟩
  | .lst false ds, v, A, h => by
    rw [Ow] at h
    obtain ⟨a, vs, rfl, q, l⟩ := h
    obtain ⟨P, h1, h2⟩ := OwL.pin ds vs _ l
    refine ⟨(.lst false (vs.map exV), .ref a) :: P, ⟨[], A, rfl, by rw [Ow]; exact ⟨a, vs, rfl, q, owL_exs⟩, h1⟩, fun F1 F2 H' B g k => ?_⟩
    obtain ⟨A1, A2, rfl, k, o⟩ := k
    rw [Ow] at k ⊢
    obtain ⟨a', vs', e, q', l'⟩ := k
    cases e
    have e := owL_ex l'
    subst e
    exact ⟨a, vs', rfl, by rw [g.old _ _ q]; exact q', h2 F1 F2 H' _ vs' g l' o⟩
  | .scr ds, v, A, h => by
    rw [Ow] at h
    obtain ⟨a, vs, rfl, q, l⟩ := h
    obtain ⟨P, h1, h2⟩ := OwL.pin ds vs _ l
    rcases q with q0 | q0
    · refine ⟨(.scr (vs.map exV), .ref a) :: P, ⟨[], A, rfl, by rw [Ow]; exact ⟨a, vs, rfl, .inl q0, owL_exs⟩, h1⟩, fun F1 F2 H' B g k => ?_⟩
      obtain ⟨A1, A2, rfl, k, o⟩ := k
      rw [Ow] at k ⊢
      obtain ⟨a', vs', e, q', l'⟩ := k
      cases e
      have e := owL_ex l'
      subst e
      refine ⟨a, vs', rfl, ?_, h2 F1 F2 H' _ vs' g l' o⟩
      rcases q' with (q' | ⟨u, q'⟩) | q'
      · exact .inl (.inl (by rcases q0 with q | ⟨_, q⟩ <;> (rw [g.old _ _ q]; exact q')))
      · exact .inl (.inr ⟨u, by rcases q0 with q | ⟨_, q⟩ <;> (rw [g.old _ _ q]; exact q')⟩)
      · exact .inr q'
    · refine ⟨P, h1, fun F1 F2 H' B g k => ?_⟩
      rw [Ow]
      exact ⟨a, vs, rfl, .inr q0, h2 F1 F2 H' _ vs g owL_exs k⟩
  | .lst true ds, v, A, h => by
    rw [Ow] at h
    obtain ⟨a, vs, A', rfl, q, l, rfl⟩ := h
    obtain ⟨P, h1, h2⟩ := OwL.pin ds vs _ l
    refine ⟨(.lst true (vs.map exV), .ref a) :: P, ⟨[a], A', rfl, by rw [Ow]; exact ⟨a, vs, [], rfl, q, owL_exs, rfl⟩, h1⟩, fun F1 F2 H' B g k => ?_⟩
    obtain ⟨A1, A2, rfl, k, o⟩ := k
    rw [Ow] at k ⊢
    obtain ⟨a', vs', B', e, q', l', rfl⟩ := k
    cases e
    have e := owL_ex l'
    subst e
    exact ⟨a, vs', A2, rfl, q', h2 F1 F2 H' _ vs' g l' o, rfl⟩
  | .dK false ks ds, v, A, h => by
    rw [Ow] at h
    obtain ⟨a, vs, rfl, q, n, l⟩ := h
    obtain ⟨P, h1, h2⟩ := OwL.pin ds vs _ l
    refine ⟨(.dK false ks (vs.map exV), .ref a) :: P, ⟨[], A, rfl, by rw [Ow]; exact ⟨a, vs, rfl, q, ⟨by rw [List.length_map, ← l.length]; exact n.1, n.2⟩, owL_exs⟩, h1⟩, fun F1 F2 H' B g k => ?_⟩
    obtain ⟨A1, A2, rfl, k, o⟩ := k
    rw [Ow] at k ⊢
    obtain ⟨a', vs', e, q', n', l'⟩ := k
    cases e
    have e := owL_ex l'
    subst e
    exact ⟨a, vs', rfl, by rw [g.old _ _ q]; exact q', n, h2 F1 F2 H' _ vs' g l' o⟩
  | .dK true ks ds, v, A, h => by
    rw [Ow] at h
    obtain ⟨a, vs, A', rfl, q, n, l, rfl⟩ := h
    obtain ⟨P, h1, h2⟩ := OwL.pin ds vs _ l
    refine ⟨(.dK true ks (vs.map exV), .ref a) :: P, ⟨[a], A', rfl, by rw [Ow]; exact ⟨a, vs, [], rfl, q, ⟨by rw [List.length_map, ← l.length]; exact n.1, n.2⟩, owL_exs, rfl⟩, h1⟩, fun F1 F2 H' B g k => ?_⟩
    obtain ⟨A1, A2, rfl, k, o⟩ := k
    rw [Ow] at k ⊢
    obtain ⟨a', vs', B', e, q', n', l', rfl⟩ := k
    cases e
    have e := owL_ex l'
    subst e
    exact ⟨a, vs', A2, rfl, q', n, h2 F1 F2 H' _ vs' g l' o, rfl⟩
  | .dT false ks ds, v, A, h => by
    rw [Ow] at h
    obtain ⟨a, vs, rfl, q, n, l⟩ := h
    obtain ⟨P, h1, h2⟩ := OwL.pin ds vs _ l
    refine ⟨(.dT false ks (vs.map exV), .ref a) :: P, ⟨[], A, rfl, by rw [Ow]; exact ⟨a, vs, rfl, q, ⟨by rw [List.length_map, ← l.length]; exact n.1, n.2⟩, owL_exs⟩, h1⟩, fun F1 F2 H' B g k => ?_⟩
    obtain ⟨A1, A2, rfl, k, o⟩ := k
    rw [Ow] at k ⊢
    obtain ⟨a', vs', e, q', n', l'⟩ := k
    cases e
    have e := owL_ex l'
    subst e
    exact ⟨a, vs', rfl, by rw [g.old _ _ q]; exact q', n, h2 F1 F2 H' _ vs' g l' o⟩
  | .dT true ks ds, v, A, h => by
    rw [Ow] at h
    obtain ⟨a, vs, A', rfl, q, n, l, rfl⟩ := h
    obtain ⟨P, h1, h2⟩ := OwL.pin ds vs _ l
    refine ⟨(.dT true ks (vs.map exV), .ref a) :: P, ⟨[a], A', rfl, by rw [Ow]; exact ⟨a, vs, [], rfl, q, ⟨by rw [List.length_map, ← l.length]; exact n.1, n.2⟩, owL_exs, rfl⟩, h1⟩, fun F1 F2 H' B g k => ?_⟩
    obtain ⟨A1, A2, rfl, k, o⟩ := k
    rw [Ow] at k ⊢
    obtain ⟨a', vs', B', e, q', n', l', rfl⟩ := k
    cases e
    have e := owL_ex l'
    subst e
    exact ⟨a, vs', A2, rfl, q', n, h2 F1 F2 H' _ vs' g l' o, rfl⟩
  | .lK ks ds, v, A, h => by
    rw [Ow] at h
    obtain ⟨a, vs, rfl, ⟨o, q⟩, n, l⟩ := h
    obtain ⟨P, h1, h2⟩ := OwL.pin ds vs _ l
    refine ⟨(.lck (.frz o (.dK (ks.zip vs))), .ref a) :: P, ⟨[], A, rfl, by rw [Ow]; exact ⟨⟨a, rfl, q⟩, rfl⟩, h1⟩, fun F1 F2 H' B g k => ?_⟩
    obtain ⟨A1, A2, rfl, k, o2⟩ := k
    rw [Ow] at k
    rw [Ow]
    obtain ⟨⟨a', e, q'⟩, e2⟩ := k
    cases e
    subst e2
    exact ⟨a, vs, rfl, ⟨o, (g.old _ _ q).trans q'⟩, n, h2 F1 F2 H' _ vs g owL_exs o2⟩
  | .lT ks ds, v, A, h => by
    rw [Ow] at h
    obtain ⟨a, vs, rfl, ⟨o, q⟩, n, l⟩ := h
    obtain ⟨P, h1, h2⟩ := OwL.pin ds vs _ l
    refine ⟨(.lck (.frz o (.dT (ks.zip vs))), .ref a) :: P, ⟨[], A, rfl, by rw [Ow]; exact ⟨⟨a, rfl, q⟩, rfl⟩, h1⟩, fun F1 F2 H' B g k => ?_⟩
    obtain ⟨A1, A2, rfl, k, o2⟩ := k
    rw [Ow] at k
    rw [Ow]
    obtain ⟨⟨a', e, q'⟩, e2⟩ := k
    cases e
    subst e2
    exact ⟨a, vs, rfl, ⟨o, (g.old _ _ q).trans q'⟩, n, h2 F1 F2 H' _ vs g owL_exs o2⟩
  | .lck u, v, A, h => by
    have h0 := h
    rw [Ow] at h
    obtain ⟨⟨a, rfl, q⟩, rfl⟩ := h
    refine ⟨[(.lck u, .ref a)], ⟨[], [], rfl, h0, rfl⟩, fun F1 F2 H' B g k => ?_⟩
    obtain ⟨A1, A2, rfl, k, e⟩ := k
    have e : A2 = [] := e
    subst e
    rw [Ow] at k
    rw [Ow]
    obtain ⟨⟨a', e, q'⟩, e2⟩ := k
    cases e
    subst e2
    exact ⟨⟨a, rfl, by rw [g.old _ _ q]; exact q'⟩, rfl⟩
theorem OwL.pin : ∀ (ds : List D) (vs : List V) (A : List Addr), OwL K F H ds vs A → ∃ P, OwT K F H P A ∧ ∀ F1 F2 H' A' vs', Agr F F1 F2 → OwL K F1 H' (vs.map exV) vs' [] → OwT K F1 H' P A' → OwL K F2 H' ds vs' A'
  | [], vs, A, h => by
    rw [OwL] at h
    obtain ⟨rfl, rfl⟩ := h
    refine ⟨[], rfl, fun F1 F2 H' A' vs' _ l k => ?_⟩
    rw [List.map_nil, OwL] at l
    rw [OwL]
    exact ⟨l.1, k⟩
  | d :: ds, vs, A, h => by
    rw [OwL] at h
    obtain ⟨v, r, A1, A2, rfl, rfl, h1, h2⟩ := h
    obtain ⟨P1, p1, k1⟩ := Ow.pin d v A1 h1
    obtain ⟨P2, p2, k2⟩ := OwL.pin ds r A2 h2
    refine ⟨P1 ++ P2, p1.append p2, fun F1 F2 H' A' vs' g l k => ?_⟩
    obtain ⟨B1, B2, rfl, o1, o2⟩ := k.split
    rw [List.map_cons, OwL] at l
    obtain ⟨w, r', C1, C2, rfl, e, l1, l2⟩ := l
    obtain ⟨rfl, rfl⟩ := List.append_eq_nil_iff.mp e.symm
    rw [OwL]
    refine ⟨w, r', B1, B2, rfl, rfl, ?_, k2 F1 F2 H' B2 r' g l2 o2⟩
    have m := k1 F1 F2 H' B1 g o1
    rcases (ow_ex l1).2 with z | rfl
    · have e := unk_of z d h1
      subst e
      rw [Ow] at m ⊢
      exact m
    · exact m
end
end
end VS
set_option Elab.async false
set_option linter.all false
set_option maxRecDepth 100000
set_option maxHeartbeats 4000000
set_option autoImplicit false
noncomputable section
namespace VS
open PySem PySem.Spec PyProof.Rows L2
section
variable {K : PySem.W.Frag} {F F1 F2 H H' : Hp} {L : List (D × V)}
theorem OwT.pin : ∀ {L : List (D × V)} {A : List Addr}, OwT K F H L A → ∃ P, OwT K F H P A ∧ ∀ F1 F2 H' A', Agr F F1 F2 → OwT K F1 H' P A' → OwT K F2 H' L A'
  | [], A, h => ⟨[], h, fun _ _ _ _ _ k => k⟩
  | p :: L, A, h => by
    obtain ⟨A1, A2, rfl, h1, h2⟩ := h
    obtain ⟨P1, p1, k1⟩ := h1.pin
    obtain ⟨P2, p2, k2⟩ := OwT.pin h2
    refine ⟨P1 ++ P2, p1.append p2, fun F1 F2 H' A' g k => ?_⟩
    obtain ⟨B1, B2, rfl, o1, o2⟩ := k.split
    exact ⟨B1, B2, rfl, k1 F1 F2 H' B1 g o1, k2 F1 F2 H' B2 g o2⟩
theorem OwT.mem : ∀ {L : List (D × V)} {A : List Addr} {p : D × V}, OwT K F H L A → p ∈ L → ∃ B, Ow K F H p.1 p.2 B
  | [], A, p, h, hp => by cases hp
  | q :: L, A, p, h, hp => by
    obtain ⟨A1, A2, rfl, h1, h2⟩ := h
    rcases List.mem_cons.mp hp with rfl | hp
    · exact ⟨_, h1⟩
    · exact OwT.mem h2 hp
mutual
/-- no frozen list or dict in it, and no script -/
def pl : D → Bool
  | .tup ds => plL ds
  | .ktp ds => plL ds
  | .lst o ds => o && plL ds
  | .scr _ => false
  | .dK o _ ds => o && plL ds
  | .dT o _ ds => o && plL ds
  | .lK _ _ => false
  | .lT _ _ => false
  | .lck _ => false
  | _ => true
def plL : List D → Bool
  | [] => true
  | d :: ds => pl d && plL ds
end
mutual
theorem Ow.pl (g : ∀ b o, F1 b = some o → isC o = false → F2 b = some o) : ∀ (d : D) (v : V) (A : List Addr), VS.pl d = true → Ow K F1 H d v A → Ow K F2 H d v A
  | .unk, v, A, z, h => by rw [Ow] at h ⊢; exact h
  | .hole, v, A, z, h => by rw [Ow] at h ⊢; exact h
  | .non, v, A, z, h => by rw [Ow] at h ⊢; exact h
  | .bl b, v, A, z, h => by rw [Ow] at h ⊢; exact h
  | .int b, v, A, z, h => by rw [Ow] at h ⊢; exact h
  | .str b, v, A, z, h => by rw [Ow] at h ⊢; exact h
  | .adr b, v, A, z, h => by rw [Ow] at h ⊢; exact h
  | .exo c q, v, A, z, h => exo_agr (F := fun _ => none) ⟨fun b o e => (by cases e), g⟩ h
  | .scr ds, v, A, z, h => by simp [VS.pl] at z
  | .lK ks ds, v, A, z, h => by simp [VS.pl] at z
  | .lT ks ds, v, A, z, h => by simp [VS.pl] at z
  | .lck u, v, A, z, h => by simp [VS.pl] at z
  | .lst false ds, v, A, z, h => by simp [VS.pl] at z
  | .dK false ks ds, v, A, z, h => by simp [VS.pl] at z
  | .dT false ks ds, v, A, z, h => by simp [VS.pl] at z
  | .tup ds, v, A, z, h => by
    rw [VS.pl] at z
    rw [Ow] at h ⊢
    obtain ⟨a, vs, e, q, l⟩ := h
    exact ⟨a, vs, e, g _ _ q rfl, OwL.pl g ds vs A z l⟩
  | .ktp ds, v, A, z, h => by
    rw [VS.pl] at z
    rw [Ow] at h ⊢
    obtain ⟨a, vs, e, q, l⟩ := h
    refine ⟨a, vs, e, ?_, OwL.pl g ds vs A z l⟩
    rcases q with (q | ⟨u, q⟩) | q
    · exact .inl (.inl (g _ _ q rfl))
    · exact .inl (.inr ⟨u, g _ _ q rfl⟩)
    · exact .inr q
  | .lst true ds, v, A, z, h => by
    have z : VS.plL ds = true := by rw [VS.pl] at z; simpa using z
    rw [Ow] at h ⊢
    obtain ⟨a, vs, A', e, q, l, rfl⟩ := h
    exact ⟨a, vs, A', e, q, OwL.pl g ds vs A' z l, rfl⟩
  | .dK true ks ds, v, A, z, h => by
    have z : VS.plL ds = true := by rw [VS.pl] at z; simpa using z
    rw [Ow] at h ⊢
    obtain ⟨a, vs, A', e, q, n, l, rfl⟩ := h
    exact ⟨a, vs, A', e, q, n, OwL.pl g ds vs A' z l, rfl⟩
  | .dT true ks ds, v, A, z, h => by
    have z : VS.plL ds = true := by rw [VS.pl] at z; simpa using z
    rw [Ow] at h ⊢
    obtain ⟨a, vs, A', e, q, n, l, rfl⟩ := h
    exact ⟨a, vs, A', e, q, n, OwL.pl g ds vs A' z l, rfl⟩
theorem OwL.pl (g : ∀ b o, F1 b = some o → isC o = false → F2 b = some o) : ∀ (ds : List D) (vs : List V) (A : List Addr), VS.plL ds = true → OwL K F1 H ds vs A → OwL K F2 H ds vs A
  | [], vs, A, z, h => by rw [OwL] at h ⊢; exact h
  | d :: ds, vs, A, z, h => by
    rw [VS.plL, Bool.and_eq_true] at z
    rw [OwL] at h ⊢
    obtain ⟨v, r, A1, A2, e, rfl, h1, h2⟩ := h
    exact ⟨v, r, A1, A2, e, rfl, Ow.pl g d v A1 z.1 h1, OwL.pl g ds r A2 z.2 h2⟩
end
section
variable {a : Addr} {xs : List D} {ws : List V} {B : List Addr}
end
end
end VS
set_option Elab.async false
set_option linter.all false
set_option maxRecDepth 100000
set_option maxHeartbeats 4000000
set_option autoImplicit false
noncomputable section
namespace VS
open PySem PySem.Spec PyProof.Rows L2
section
variable {X : Cx} {W : WX} {K : PySem.W.Frag} {mg : Str → Option Value} {H H1 : Hp} {T L : List (D × V)} {ρ ρ' : Env} {σ σ' : St} {m : Bool}
end
end VS
set_option Elab.async false
set_option linter.all false
set_option maxRecDepth 100000
set_option maxHeartbeats 4000000
set_option autoImplicit false
noncomputable section
namespace VS
open PySem PySem.Spec PyProof.Rows L2
section
variable {X : Cx} {W : WX} {K : PySem.W.Frag} {mg : Str → Option Value} {F H H1 : Hp} {T L : List (D × V)} {ρ ρ' : Env} {σ σ' : St} {m : Bool}
end
end VS
set_option Elab.async false
set_option linter.all false
set_option maxRecDepth 100000
set_option maxHeartbeats 4000000
set_option autoImplicit false
noncomputable section
namespace VS
open PySem PySem.Spec PyProof.Rows L2
theorem meets_enT (l : Addr) (its : Array Value) (n : Nat) (dc : Option Addr) (sl : Array (Option Value)) :
    Meets (Builtin.«enumerate.__new__» ⟨[.type "enumerate", .ref l], []⟩) (fun _ R s => s.heap.get? l = some ⟨.type "tuple", dc, .seq its n, sl⟩ ∧
      R (.ok (.ret (.ref (s.heap.push { cls := .type "tuple_iterator", data := .fields #[.ref l, .int 0 0] }).objs.size)))
        { s with heap := (s.heap.push { cls := .type "tuple_iterator", data := .fields #[.ref l, .int 0 0] }).push { cls := .type "enumerate", data := .fields #[.none, .bool false, .ref s.heap.objs.size, rawInt 0, .none, .none] } }) :=
  .of_wp fun prog w A R s hR => by
    obtain ⟨hp, gl, dd, tk, os⟩ := s
    obtain ⟨hl, hR⟩ := hR
    have hsub := sub_enumerate
    have hT : Heap.IsTuple (Shared.heap ⟨hp, gl, dd, tk, os⟩) l its := ⟨_, hl, rfl, n, rfl⟩
    have q1 : ∀ {A' : Around} {E' : Value → Shared → Prop} {Q' : Value → Shared → Prop}, Q' (.ref hp.objs.size) ⟨hp.push { cls := .type "tuple_iterator", data := .fields #[.ref l, .int 0 0] }, gl, dd, tk, os⟩ → wpAny (model prog w) A' (pyIter (.ref l)) Q' E' ⟨hp, gl, dd, tk, os⟩ := fun q => wpAny_pyIter_tuple hT q
    wp_walk using AutoSeq1.wpAny_loadPart' hl, q1
    refine wpAny_stack_any fun sk => wpAny_pure ?_
    split
    · rename_i cc _ _ _ _ _
      cases (cc == Value.type "enumerate") <;> (wp_walk using AutoSeq1.wpAny_loadPart' hl, q1; exact ⟨_, rfl, hR⟩)
    · wp_walk using AutoSeq1.wpAny_loadPart' hl, q1
      exact ⟨_, rfl, hR⟩
theorem call_enT {prog : Program} {w : World} {A : Around} {E : Value → Shared → Prop} {s : Shared} {l : Addr} {its : Array Value} {Q : Value → Shared → Prop} (hL : s.heap.IsTuple l its)
    (k : ∀ h', IsEnum h' (s.heap.objs.size + 1) s.heap.objs.size 0 .none → h'.IsTupleIter s.heap.objs.size l 0 →
      (∀ b o, s.heap.get? b = some o → h'.get? b = some o) → Q (.ref (s.heap.objs.size + 1)) { s with heap := h' }) :
    wpAny (model prog w) A (call (.type "enumerate") [.ref l]) Q E s := by
  obtain ⟨⟨cl, dct, dt, sl⟩, hl, hc, n, hd⟩ := hL
  replace hc : cl = .type "tuple" := hc
  replace hd : dt = .seq its n := hd
  subst hc hd
  refine callType_new F.called_enumerate (by decide) (F.typeCall_enumerate_1 _) (F.newCall_enumerate_1 _) (fun ob => F.args_object_init_2 ob _) F.entry_enumerate_new (meets_enT l its n dct sl) ⟨hl, ?_⟩
  have hz : (s.heap.push { cls := .type "tuple_iterator", data := .fields #[.ref l, .int 0 0] }).objs.size = s.heap.objs.size + 1 := Heap.size_push ..
  show _ ∧ _
  rw [hz]
  have he : IsEnum ((s.heap.push { cls := .type "tuple_iterator", data := .fields #[.ref l, .int 0 0] }).push { cls := .type "enumerate", data := .fields #[.none, .bool false, .ref s.heap.objs.size, rawInt 0, .none, .none] }) (s.heap.objs.size + 1) s.heap.objs.size 0 .none := by
    have q := Heap.get?_push_size (s.heap.push { cls := .type "tuple_iterator", data := .fields #[.ref l, .int 0 0] }) (o := { cls := .type "enumerate", data := .fields #[.none, .bool false, .ref s.heap.objs.size, rawInt 0, .none, .none] }) rfl
    rw [hz] at q
    exact q
  exact ⟨⟨_, he, rfl⟩, k _ he ⟨_, Heap.get?_push_of_some _ (Heap.get?_push_size _ rfl), rfl, rfl⟩ fun b o x => Heap.get?_push_of_some _ (Heap.get?_push_of_some _ x)⟩
theorem next_enT {prog : Program} {w : World} {A : Around} {E : Value → Shared → Prop} {s : Shared} {e it l : Addr} {i : Nat} {its : Array Value} {old : Value} {Q : Option Value → Shared → Prop} (hh : A.handled = none)
    (he : IsEnum s.heap e it i old) (hit : s.heap.IsTupleIter it l i) (hl : s.heap.IsTuple l its) (hx : its[i]? = none)
    (k : ∀ h', Heap.ExtBut it s.heap h' → Q none { s with heap := h' }) : wpAny (model prog w) A (pyNext (.ref e)) Q E s := by
  have ty : s.TypeIs (.ref e) "enumerate" := ⟨_, he, rfl⟩
  unfold pyNext
  refine wpAny_bind (wpAny_attempt (wpAny_callSpecial?_slot (name := Str.ofString "__next__") ty F.slot_enumerate_next (wpAny_call_entry F.slot_enumerate_next ty F.entry_enumerate_next ?_ (F.args_enumerate_next_1 _))))
  show wpAny _ _ (field (.ref e) 2 >>= _) _ _ _
  refine wpAny_bind (wpAny_field he rfl (x := .ref it) rfl (wpAny_bind (wpAny_nextOf_tuple_end hh hit hl hx fun h' x he' hx' => ?_)))
  obtain ⟨o, ho, hc⟩ := hx'
  exact wpAny_bind (wpAny_isInstance (T := "StopIteration") (b := true) ⟨o, ho, hc⟩ isSubtype_stop (wpAny_pure (k _ he')))
def IteT (K : PySem.W.Frag) (a : Addr) : It :=
  ⟨fun i H => ∃ (xs : List V) (x : V), SqT K H a xs ∧ xs[i]? = some x, fun i H v H' => ∃ T x, v = .ref T ∧ H T = none ∧ H' = upd H T (.tup [.int (i : Nat), x]) ∧ ∀ xs, SqT K H a xs → xs[i]? = some x, fun i H => ∃ xs : List V, SqT K H a xs ∧ xs.length ≤ i⟩
theorem turn_enT {P : Program} {w : World} {K : PySem.W.Frag} {elts : List Expr} {kk : Nat} {tpos : Pos} (a e it : Addr) :
    Turn P w K (.Tuple elts kk tpos) (IteT K a) [e, it] e (fun i h => (∃ old, IsEnum h e it ((i : Nat) : Int) old) ∧ h.IsTupleIter it a i ∧ e ≠ it) where
  mem := by simp
  obj := fun i h st b hb => by
    obtain ⟨⟨old, he⟩, ⟨o, ho, hc, hd⟩, _⟩ := st
    rcases (by simpa using hb : b = e ∨ b = it) with z | z
    · rw [z]
      exact ⟨_, he, fun v q => nomatch q⟩
    · rw [z]
      exact ⟨o, ho, fun v q => by rw [hd] at q; cases q⟩
  keep := fun i h h' st k => ⟨⟨st.1.choose, k e (by simp) _ st.1.choose_spec⟩, st.2.1.at fun o q => k it (by simp) o q, st.2.2⟩
  item := by
    intro X hP hw hK hc i pins s σ H E I hf st hg
    subst hP hw hK
    obtain ⟨⟨old, he⟩, hit, hne⟩ := st
    obtain ⟨xs, x, hq, hx⟩ := hg
    obtain ⟨its, rv, p, hz⟩ := I.tuple hq
    obtain ⟨u, hu, ru⟩ := rv.get hx
    have p2 : s.heap.IsTuple a its.toArray := p
    have hel : e < s.heap.objs.size := Heap.lt_size he
    have hil : it < s.heap.objs.size := by obtain ⟨_, q, _⟩ := hit; exact Heap.lt_size q
    have nai : a ≠ it := fun z => by
      obtain ⟨o1, q1, c1, _⟩ := hit
      obtain ⟨o2, q2, c2, _⟩ := p2
      rw [z, q1] at q2
      cases q2
      rw [c1] at c2
      exact absurd c2 (by decide)
    have nea : e ≠ a := fun z => by
      obtain ⟨o2, q2, c2, _⟩ := p2
      rw [← z] at q2
      have he' : s.heap.get? e = some _ := he
      rw [he'] at q2
      cases q2
      exact absurd (show Value.type "enumerate" = Value.type "tuple" from c2) (by decide)
    have hh : X.A.in1.handled = none := I.ok.hd hc
    have hi : i < its.toArray.size := by
      have := (List.getElem?_eq_some_iff.mp hu).1
      simpa using this
    refine wpAny_pyNext_enum_itemD (Draws.tuple hh it a nai its.toArray) he ⟨hit, p2⟩ hi hne (by simp [hne, nea]) fun y h' tk hP ho hs' hT hsz hk => ?_
    have ey : y = u := by
      have hu2 : its.toArray[i]? = some u := by simpa using hu
      rw [hu2] at hP
      exact (Option.some.inj hP).symm
    subst ey
    refine ⟨_, rfl, wpAny_letOwnedTupleGo_enum (s := { s with heap := h', toks := tk + 1 }) ho fun h'' he' sb => ?_⟩
    have hT2 : h''.get? s.heap.objs.size = some { cls := .type "tuple", data := .seq #[.int i tk, y] } := (sb.2 _ (Nat.ne_of_gt hel)).trans hT
    have nw : ObjOk X.prog X.w (upd H s.heap.objs.size (.tup [.int (i : Nat), x])) h'' s.heap.objs.size (.tup [.int (i : Nat), x]) :=
      ⟨by show 2 ≤ sizeLine; decide, [.int i tk, y], .cons ⟨_, rfl⟩ (.cons ru .nil), ⟨_, hT2, rfl, _, rfl⟩⟩
    have I1 : Inv X pins σ (upd H s.heap.objs.size (.tup [.int (i : Nat), x])) { s with heap := h'', toks := tk + 1 } :=
      I.turnedNew (ch := [e, it]) (fun b ob hb q => (sb.2 b (fun z => hb (by simp [z]))).trans (hk b ob (fun z => hb (by simp [z])) (fun z => hb (by simp [z])) q)) hf (Nat.le_refl _) nw
    refine ⟨.ref s.heap.objs.size, _, I1, rfl, ⟨_, x, rfl, I.hok.fresh (Nat.le_refl _), rfl, fun ys hy => by rw [I.tuple_inj hy hq]; exact hx⟩, ⟨⟨y, ?_⟩, hs'.1.at fun o q => (sb.2 it (Ne.symm hne)).trans q, hne⟩, fun b hb => ?_⟩
    · have e1 : ((i + 1 : Nat) : Int) = (i : Int) + 1 := by omega
      rw [e1]
      exact he'
    · have hb' : b < s.heap.objs.size := by
        rcases (by simpa using hb : b = e ∨ b = it) with z | z
        · rw [z]; exact hel
        · rw [z]; exact hil
      rw [upd_ne (Nat.ne_of_lt hb')]
      exact (hf b hb).1
  done := by
    intro X hP hw hK hc i pins s σ H E I hf st hg
    subst hP hw hK
    obtain ⟨⟨old, he⟩, hit, hne⟩ := st
    obtain ⟨xs, hq, hx⟩ := hg
    obtain ⟨its, rv, p, hz⟩ := I.tuple hq
    obtain ⟨g0, g1, g2, g3, g4, g5⟩ := hf it (by simp)
    have hl := rv.length
    exact next_enT (I.ok.hd hc) he hit p (by simp; omega) fun h' eb => ⟨rfl, I.turned (t' := s.toks) (fun b o hb q => eb b o hb q) g0 g1 g3 g4 g5⟩
  self := fun A i s Q E st h => wpAny_pyIter_enum st.1.choose_spec h
def iEnT (K : PySem.W.Frag) (ta : TA) : TI := fun σ H R => ta σ H fun vs H1 => ∃ a xs, vs = [.ref a] ∧ SqT K H1 a xs ∧ R (IteT K a) H1
theorem pi_enT {X : Cx} {e : Expr} {ta : TA} {p pos tpos : Pos} {elts : List Expr} {kk : Nat} (hg : Gl X "enumerate") (hm : X.mg "enumerate" = none) (ha : PA X [e] ta) (hs : starEach [e] X.env = [(false, eval e X.env)] := by rfl) :
    PI X (.Tuple elts kk tpos) (.Call (.Name "enumerate" p) [e] [] pos) (iEnT X.K ta) := by
  refine ⟨fun pins s σ H R I h => Call_ (ld_blt I hg hm boot_enumerate (PyProof.Rows.callWith_type1 (thn (ha.run pos pins s σ H _ I h) fun us s1 ⟨vs, H1, I1, r1, q1⟩ => ?_) hs rfl))⟩
  obtain ⟨a, xs, ee, hq, q⟩ := q1
  subst ee
  cases r1 with
  | cons r rr =>
    cases rr
    cases r
    obtain ⟨its, rv, p', hz⟩ := I1.tuple hq
    refine call_enT p' fun h' he hit hk => wpAny_pyIter_enum he ?_
    have I2 : Inv X pins σ H1 { s1 with heap := h' } := I1.kept (t' := s1.toks) hk
    refine ⟨s1.heap.objs.size + 1, [s1.heap.objs.size + 1, s1.heap.objs.size], _, _, H1, rfl, I2, turn_enT a (s1.heap.objs.size + 1) s1.heap.objs.size, ⟨⟨.none, he⟩, hit, Nat.succ_ne_self _⟩, fun b hb => ?_, q⟩
    have hle : s1.heap.objs.size ≤ b := by
      rcases (by simpa using hb : b = s1.heap.objs.size + 1 ∨ b = s1.heap.objs.size) with z | z
      · rw [z]; exact Nat.le_succ _
      · rw [z]; exact Nat.le_refl _
    exact I1.fpOk hle (I1.hok.fresh hle)
section
variable {X : Cx} {W : WX} {K : PySem.W.Frag} {m : Bool}
def seqE : D → Option (List D)
  | .tup ds => some ds
  | .ktp ds => some ds
  | _ => none
theorem RepT.tuples {H : Hp} {L : List (D × V)} {x : D} {ds : List D} {v : V} (e : seqE x = some ds) (r : RepT K H ((x, v) :: L)) : ∃ a vs, v = .ref a ∧ SqT K H a vs ∧ ds.length = vs.length ∧ RepT K H (ds.zip vs ++ L) := by
  cases x <;> simp only [seqE, Option.some.injEq, reduceCtorEq] at e <;> subst e
  · obtain ⟨a, vs, e, q, l, r2⟩ := r.openT
    exact ⟨a, vs, e, .inl (.inl q), l, r2⟩
  · obtain ⟨a, vs, e, q, l, r2⟩ := r.openK
    exact ⟨a, vs, e, q, l, r2⟩
theorem itET {a : Addr} {ds : List D} {x : D} (z : fz x = true) (hx : seqE x = some ds) : ItOk K (IteT K a) [(x, .ref a)] (enumD ds) := by
  have len : (enumD ds).length = ds.length := by simp [enumD]
  have rd : ∀ H L, RepT K H ((x, .ref a) :: L) → ∃ vs, SqT K H a vs ∧ ds.length = vs.length ∧ RepT K H (ds.zip vs ++ ((x, .ref a) :: L)) := fun H L h => by
    obtain ⟨b, vs, e, sq, l, r⟩ := RepT.tuples hx (RepT.dup z h)
    cases e
    exact ⟨vs, sq, l, r⟩
  refine ⟨fun i H L hi h => ?_, fun H L h => ?_, fun i H L y H' d h e yl => ?_⟩
  · obtain ⟨vs, sq, l, _⟩ := rd H L h
    rw [len] at hi
    exact ⟨vs, vs[i]'(by omega), sq, List.getElem?_eq_getElem _⟩
  · obtain ⟨vs, sq, l, _⟩ := rd H L h
    exact ⟨vs, sq, by omega⟩
  · obtain ⟨T, w, rfl, nT, rfl, hw⟩ := yl
    obtain ⟨vs, sq, l, r⟩ := rd H L h
    obtain ⟨u, hu, rfl⟩ := enum_get e
    have r2 := r.pick (zip_take hu (hw vs sq))
    exact RepT.newT (ds := [.int i, u]) (vs := [.int i, w]) rfl nT (RepT.int r2)
def isTp : D → Bool
  | .tup _ => true
  | .ktp _ => true
  | _ => false
def enumA : List D → Option (List D)
  | [x] => if isTp x = true then (if fz (freeze x) = true then (seqE (freeze x)).map enumD else none) else (lstOf (freeze x)).bind fun xs => if fzL xs = true ∧ fz (freeze x) = true then some (enumD xs) else none
  | _ => none
def dEnA (f : M (List D)) : M (List D) := bindM f fun ds => optM (enumA ds)
theorem vi_enA {elts : List Expr} {kk : Nat} {e : Expr} {f : M (List D)} {p pos tpos : Pos} (hg : Gl X "enumerate") (hm : X.mg "enumerate" = none) (ha : VA X W m [e] f) (hs : starEach [e] X.env = [(false, eval e X.env)] := by rfl) : VI X W (.Tuple elts kk tpos) (.Call (.Name "enumerate" p) [e] [] pos) (dEnA f) := by
  refine PI.imp (PI.orr (pi_enum hg hm ha hs) (pi_enT hg hm ha hs)) fun σ H R ⟨T, ρ, u, rep, hf, he⟩ => ?_
  unfold dEnA bindM at hf
  cases q : f ρ with
  | none => rw [q] at hf; cases hf
  | some w =>
    rw [q] at hf
    cases w with
    | ex x ρ1 =>
      have : u = .ex x ρ1 := (Option.some.inj hf).symm
      subst this
      exact .inl ⟨T, ρ, _, rep, q, he⟩
    | ok ds ρ1 =>
      obtain ⟨out, e, rfl⟩ := optM_some hf
      unfold enumA at e
      split at e
      · rename_i x
        split at e
        · split at e
          · rename_i z
            obtain ⟨xs, e1, e2⟩ := Option.map_eq_some_iff.mp e
            subst e2
            refine .inr ⟨T, ρ, _, rep, q, fun vs H1 s1 l1 r1 => ?_⟩
            obtain ⟨v, rfl⟩ := len1 l1
            have r2 : RepT X.K H1 ((freeze x, v) :: (T ++ SL ρ1 σ)) := RepT.freeze r1.rep
            obtain ⟨a, vs, rfl, sq, l, _⟩ := RepT.tuples e1 r2
            exact ⟨a, vs, rfl, sq, he _ _ H1 (itET z e1) ⟨r1.len, r1.nos, r2⟩⟩
          · cases e
        · obtain ⟨xs, e1, e2⟩ := Option.bind_eq_some_iff.mp e
          split at e2
          · rename_i z
            cases e2
            refine .inl ⟨T, ρ, _, rep, q, fun vs H1 s1 l1 r1 => ?_⟩
            obtain ⟨v, rfl⟩ := len1 l1
            have r2 : RepT X.K H1 ((freeze x, v) :: (T ++ SL ρ1 σ)) := RepT.freeze r1.rep
            obtain ⟨a, vs, rfl, sq, l, _⟩ := r2.list e1
            exact ⟨a, vs, rfl, sq, he _ _ H1 (itE z.2 e1 z.1) ⟨r1.len, r1.nos, r2⟩⟩
          · cases e2
      · cases e
end
end VS
set_option Elab.async false
set_option linter.all false
set_option maxRecDepth 100000
set_option maxHeartbeats 4000000
set_option autoImplicit false
noncomputable section
namespace VS
open PySem PySem.Spec PyProof.Rows L2
section
variable {X : Cx} {W : WX} {asg : List Nat}
def dPreS (k : Nat) (g : MS) : MS := fun ρ => if nunk ρ[k]? = true then g (ρ.set k (freeze (ρ.getD k .unk))) else none
theorem vs_pre {st : Stmt} {g : MS} (k : Nat) (h : VSt X W asg st g) : VSt X W asg st (dPreS k g) := by
  refine PS.imp h fun σ H E ⟨T, ρ, fl, ρ', rep, hf, he⟩ => ?_
  unfold dPreS at hf
  split at hf
  · rename_i nz
    have hk : ∃ d, ρ[k]? = some d ∧ d ≠ .unk := by
      cases q2 : ρ[k]? with
      | none => rw [q2] at nz; cases nz
      | some d => exact ⟨d, rfl, fun e => by rw [q2, e] at nz; cases nz⟩
    obtain ⟨d, hd, dn⟩ := hk
    have ed : ρ.getD k .unk = d := by rw [List.getD_eq_getElem?_getD, hd]; rfl
    rw [ed] at hf
    exact ⟨T, _, fl, ρ', rep.frz hd dn, hf, he⟩
  · cases hf
end
end VS
set_option Elab.async false
set_option linter.all false
set_option maxRecDepth 100000
set_option maxHeartbeats 4000000
set_option autoImplicit false
noncomputable section
namespace VS
open PySem PySem.Spec PyProof.Rows L2
section
variable {X : Cx} {W : WX} {K : PySem.W.Frag} {H : Hp} {σ : St} {L : List (D × V)}
def PairAt (H : Hp) (w : V) (p : Int × Int) : Prop := ∃ b, w = .ref b ∧ H b = some (.tup ((k2 p).map kV))
inductive PairsAt (H : Hp) : List V → List (Int × Int) → Prop
  | nil : PairsAt H [] []
  | cons {w : V} {p : Int × Int} {ws : List V} {ps : List (Int × Int)} : PairAt H w p → PairsAt H ws ps → PairsAt H (w :: ws) (p :: ps)
theorem PairsAt.get : ∀ {ws : List V} {ps : List (Int × Int)} {i : Nat} {w : V}, PairsAt H ws ps → ws[i]? = some w → ∃ p, PairAt H w p
  | _, _, _, _, .nil, h => by simp at h
  | _, _, 0, w, .cons (p := p) a t, h => by
    have e := Option.some.inj h
    subst e
    exact ⟨p, a⟩
  | _, _, i + 1, w, .cons a t, h => PairsAt.get (i := i) t h
end
end VS
set_option Elab.async false
set_option linter.all false
set_option maxRecDepth 100000
set_option maxHeartbeats 4000000
set_option autoImplicit false
noncomputable section
namespace VS
open PySem PySem.Spec PyProof.Rows L2
end VS
set_option Elab.async false
set_option linter.all false
set_option maxRecDepth 100000
set_option maxHeartbeats 4000000
set_option autoImplicit false
noncomputable section
namespace VS
open PySem PySem.Spec PyProof.Rows L2
section
variable {K : PySem.W.Frag} {H : Hp} {L : List (D × V)}
theorem RepT.dupL {xs : List D} {vs : List V} (z : fzL xs = true) (l : xs.length = vs.length) (r : RepT K H (xs.zip vs ++ L)) : RepT K H (xs.zip vs ++ (xs.zip vs ++ L)) := by
  obtain ⟨F, A, sF, nd, fr, o⟩ := r
  obtain ⟨A1, A2, rfl, o1, o2⟩ := o.split
  have e := (o1.toL l).frozen _ _ _ z
  subst e
  exact ⟨F, [] ++ ([] ++ A2), sF, nd, fr, o1.append (o1.append o2)⟩
theorem RepT.reps {xs : List D} {vs : List V} (z : fzL xs = true) (l : xs.length = vs.length) : ∀ (n : Nat), RepT K H (xs.zip vs ++ L) → RepT K H (xs.zip vs ++ ((List.replicate n xs).flatten.zip (List.replicate n vs).flatten ++ L))
  | 0, r => r
  | n + 1, r => by
    have r1 := RepT.dupL z l (RepT.reps z l n r)
    rw [List.replicate_succ, List.replicate_succ, List.flatten_cons, List.flatten_cons, zip_app l, List.append_assoc]
    exact r1
def gMulF (x y : D) : Option D := match x, y with
  | .lst _ xs, .int k => if in63 k ∧ xs.length * k.toNat ≤ sizeLine ∧ fzL xs = true then some (.lst true (List.replicate k.toNat xs).flatten) else none
  | _, _ => none
theorem impMulF : Imp2 K (fun x y H Q => rRep x y H Q ∨ rI CMul (fun i j => .int (i * j)) x y H Q) gMulF := by
  intro H L x y d v w Q e r h
  unfold gMulF at e
  split at e
  · rename_i o xs k
    split at e
    · rename_i z
      cases e
      have ew := r.eq_int
      subst ew
      obtain ⟨a, vs, rfl, hq, l, r2⟩ := r.drop.readL
      refine .inl ⟨a, k, vs, rfl, rfl, hq, z.1.lo, z.1.hi, by rw [← l]; exact z.2.1, fun p hp => h _ _ (Same.upd hp) (RepT.newL ?_ hp (RepT.dropL (U := xs.zip vs) (RepT.reps z.2.2 l k.toNat r2)))⟩
      simp [l]
    · cases e
  · cases e
end
end VS
set_option Elab.async false
set_option linter.all false
set_option maxRecDepth 100000
set_option maxHeartbeats 4000000
set_option autoImplicit false
noncomputable section
namespace VS
open PySem PySem.Spec PyProof.Rows L2
section
variable {X : Cx} {K : PySem.W.Frag}
end
end VS
set_option Elab.async false
set_option linter.all false
set_option maxRecDepth 100000
set_option maxHeartbeats 4000000
set_option autoImplicit false
noncomputable section
namespace VS
open PySem PySem.Spec PyProof.Rows L2
section
variable {X : Cx} {W : WX} {K : PySem.W.Frag} {m : Bool}
end
end VS
set_option Elab.async false
set_option linter.all false
set_option maxRecDepth 100000
set_option maxHeartbeats 4000000
set_option autoImplicit false
noncomputable section
namespace VS
open PySem PySem.Spec PyProof.Rows L2
end VS
set_option Elab.async false
set_option linter.all false
set_option maxRecDepth 100000
set_option maxHeartbeats 4000000
set_option autoImplicit false
noncomputable section
namespace VS
open PySem PySem.Spec PyProof.Rows L2 HT
section
variable {prog : Program} {w : World} {A : Around} {E : Value → Shared → Prop} {s : Shared}
end
section
variable {X : Cx} {W : WX} {m : Bool}
end
end VS
set_option Elab.async false
set_option linter.all false
set_option maxRecDepth 100000
set_option maxHeartbeats 4000000
set_option autoImplicit false
noncomputable section
namespace VS
open PySem PySem.Spec PyProof.Rows L2
section
variable {X : Cx} {W : WX} {K : PySem.W.Frag} {m : Bool}
end
end VS
set_option Elab.async false
set_option linter.all false
set_option maxRecDepth 100000
set_option maxHeartbeats 4000000
noncomputable section
namespace L2
open PySem PySem.Spec PyProof.Rows
open HotX L2H
structure TurnQ (P : Program) (w : World) (K : PySem.W.Frag) (tg : Expr) (J : It) (fp : List Addr) (it : Addr) (tn : Nat → Heap → Prop) : Prop where
  obj : ∀ i h, tn i h → ∀ b ∈ fp, ∃ o, h.get? b = some o ∧ ∀ v, o.data ≠ .cell v
  keep : ∀ i h h', tn i h → (∀ b ∈ fp, ∀ o, h.get? b = some o → h'.get? b = some o) → tn i h'
  item : ∀ (X : Cx), X.prog = P → X.w = w → X.K = K → ∀ (i : Nat) (pins : List (Addr × Obj)) (s : Shared) (σ : St) (H : Hp) (E : Value → Shared → Prop), Inv X pins σ H s → (∀ b ∈ fp, FpOk X pins H b) → tn i s.heap → J.go i H →
    wpAny (model P w) X.A (pyNext (.ref it)) (fun r s1 => ∃ u, r = some u ∧
      wpAny (model P w) X.A (letOwnedTupleGo tg (.ref it) u) (fun _ s2 => ∃ x H', Inv X pins σ H' s2 ∧ RelV x u ∧ J.yld i H x H' ∧ tn (i + 1) s2.heap ∧ ∀ b ∈ fp, H' b = none) E s1) E s
  done : ∀ (X : Cx), X.prog = P → X.w = w → X.K = K → ∀ {s : Shared}, (∃ x1, HotAt X.A x1 s.heap) → ∀ (i : Nat) (pins : List (Addr × Obj)) (σ : St) (H : Hp) (E : Value → Shared → Prop), Inv X pins σ H s → (∀ b ∈ fp, FpOk X pins H b) → tn i s.heap → J.stop i H →
    wpAny (model P w) X.A (pyNext (.ref it)) (fun r s1 => r = none ∧ Inv X pins σ H s1) E s
  self : ∀ (A : Around) (i : Nat) (s : Shared) (Q : Value → Shared → Prop) (E : Value → Shared → Prop), tn i s.heap → Q (.ref it) s → wpAny (model P w) A (pyIter (.ref it)) Q E s
theorem turn_rangeQ {P : Program} {w : World} {K : PySem.W.Frag} {tg : Expr} (it : Addr) (lo : Int) (n : Nat) : TurnQ P w K tg (Itr lo n) [it] it (fun i h => IsRangeIter h it (lo + (i : Nat) * 1) ((n : Int) - (i : Nat)) 1) where
  obj := fun i h st b hb => by
    have e : b = it := by simpa using hb
    subst e
    exact ⟨_, st, fun v z => by
      have z' : Data.fields _ = Data.cell v := z
      cases z'⟩
  keep := fun i h h' st k => k it (by simp) _ st
  item := by
    intro X hP hw hK i pins s σ H E I hf st hg
    subst hP hw hK
    obtain ⟨f0, f1, f2, f3, f4, f5⟩ := hf it (by simp)
    have hlt : i < n := hg
    refine wpAny_pyNext_range_item st (by omega) fun h' st' sb => ?_
    have st2 : IsRangeIter h' it (lo + ((i + 1 : Nat) : Int) * 1) ((n : Int) - ((i + 1 : Nat) : Int)) 1 := by
      have e1 : lo + ((i : Nat) : Int) * 1 + 1 = lo + ((i + 1 : Nat) : Int) * 1 := by omega
      have e2 : (n : Int) - ((i : Nat) : Int) - 1 = (n : Int) - ((i + 1 : Nat) : Int) := by omega
      rw [← e1, ← e2]
      exact st'
    have I1 : Inv X pins σ H { s with heap := h', toks := s.toks + 1 } := I.turned (fun b o hb e => (sb.2 b hb).trans e) f0 f1 f3 f4 f5
    refine ⟨_, rfl, go_of (s := { s with heap := h', toks := s.toks + 1 }) (n := "range_iterator") st2 rfl rfl (by decide) ⟨.int (lo + i), H, I1, ⟨s.toks, ?_⟩, ⟨rfl, rfl⟩, st2, fun b hb => (hf b hb).1⟩⟩
    rw [Int.mul_one]
  done := by
    intro X hP hw hK s hot i pins σ H E I hf st hg
    subst hP hw hK
    obtain ⟨f0, f1, f2, f3, f4, f5⟩ := hf it (by simp)
    obtain ⟨x1, hot⟩ := hot
    exact pyNext_range_end_hot hot st (by have : n ≤ i := hg; omega) fun h' eb => ⟨rfl, I.turned (t' := s.toks) (fun b o _ e => eb b o e) f0 f1 f3 f4 f5⟩
  self := fun _ _ _ _ _ st h => wpAny_pyIter_rangeiter st h
def PIEQ (X : Cx) (pins : List (Addr × Obj)) (σ : St) (tg : Expr) (R : It → Hp → Prop) (itv : Value) (s2 : Shared) : Prop :=
  ∃ (it : Addr) (fp : List Addr) (tn : Nat → Heap → Prop) (J : It) (H' : Hp), itv = .ref it ∧ Inv X pins σ H' s2 ∧ TurnQ X.prog X.w X.K tg J fp it tn ∧ tn 0 s2.heap ∧ (∀ b ∈ fp, FpOk X pins H' b) ∧ R J H'
structure PIQ (X : Cx) (tg iter : Expr) (wi : TI) : Prop where
  run : ∀ (pins : List (Addr × Obj)) (s : Shared) (σ : St) (H : Hp) (R : It → Hp → Prop), Inv X pins σ H s → wi σ H R →
    wpAny (model X.prog X.w) X.A (eval iter X.env) (fun v s1 => wpAny (model X.prog X.w) X.A (pyIter v) (PIEQ X pins σ tg R) X.xe s1) X.xe s
theorem PIQ.imp {X : Cx} {tg iter : Expr} {t t' : TI} (h : PIQ X tg iter t) (i : ∀ σ H Q, t' σ H Q → t σ H Q) : PIQ X tg iter t' := ⟨fun pins s σ H Q I q => h.run pins s σ H Q I (i σ H Q q)⟩
section
variable {X : Cx} {tg : Expr}
theorem range_itQ {pins : List (Addr × Obj)} {σ : St} {H : Hp} {s : Shared} {R : It → Hp → Prop} {E : Value → Shared → Prop} {lo hi : Int} {t u v : Tok} {tk : Nat} (I : Inv X pins σ H s) (h1 : -(2 ^ 62) ≤ lo) (h2 : lo < 2 ^ 62) (h3 : -(2 ^ 62) ≤ hi) (h4 : hi < 2 ^ 62)
    (q : R (Itr lo (hi - lo).toNat) H) : wpAny (model X.prog X.w) X.A (pyIter (.ref s.heap.objs.size)) (PIEQ X pins σ tg R) E { s with heap := s.heap.push { cls := .type "range", data := .fields #[.int lo t, .int hi u, .int 1 v] }, toks := tk } := by
  refine wpAny_pyIter_range (IsRange.new ..) (small_one h1 h2 h3 h4) ?_
  have I1 : Inv X pins σ H { s with heap := s.heap.push { cls := .type "range", data := .fields #[.int lo t, .int hi u, .int 1 v] }, toks := tk } := I.kept fun b o e => Heap.get?_push_of_some _ e
  refine ⟨(s.heap.push { cls := .type "range", data := .fields #[.int lo t, .int hi u, .int 1 v] }).objs.size, [(s.heap.push { cls := .type "range", data := .fields #[.int lo t, .int hi u, .int 1 v] }).objs.size], _, _, H, rfl,
    I1.kept (t' := tk) fun b o e => Heap.get?_push_of_some _ e, turn_rangeQ _ lo (hi - lo).toNat, ?_, fun b hb => ?_, q⟩
  · have e1 : lo + ((0 : Nat) : Int) * 1 = lo := by simp
    have e2 : (((hi - lo).toNat : Nat) : Int) - ((0 : Nat) : Int) = Builtin.Range.rangeSize lo hi 1 := by rw [rangeSize_one]; split <;> omega
    show IsRangeIter _ _ (lo + ((0 : Nat) : Int) * 1) ((((hi - lo).toNat : Nat) : Int) - ((0 : Nat) : Int)) 1
    rw [e1, e2]
    exact Heap.get?_push_size _ rfl
  · have e : b = (s.heap.push { cls := .type "range", data := .fields #[.int lo t, .int hi u, .int 1 v] }).objs.size := by simpa using hb
    subst e
    exact I1.fpOk (Nat.le_refl _) (I1.hok.fresh (Nat.le_refl _))
theorem pi_range1Q {a : Expr} {ta : TA} {p pos : Pos} (hg : Gl X "range") (hm : X.mg "range" = none) (ha : PA X [a] ta) (hs : starEach [a] X.env = [(false, eval a X.env)] := by rfl) : PIQ X tg (.Call (.Name "range" p) [a] [] pos) (iRng1 ta) := by
  refine ⟨fun pins s σ H R I h => ?_⟩
  refine Call_ (ld_blt I hg hm boot_range (PyProof.Rows.callWith_type1 (thn (ha.run pos pins s σ H _ I h) fun us s1 ⟨vs, H1, I1, r1, q1⟩ => ?_) hs rfl))
  obtain ⟨j, e, q1, q2, q⟩ := q1
  subst e
  cases r1 with
  | cons r rr =>
    cases rr
    obtain ⟨t, rfl⟩ := r
    exact call_range_1 (range_itQ I1 (by omega) (by omega) q1 q2 (by simpa using q))
theorem lc_coreH {pins : List (Addr × Obj)} {s : Shared} {σ : St} {H : Hp} {Q : VK} {elt tg iter : Expr} {ifs : List Expr} {scope : Scope} {own : List (Str × Nat)} {pos pos' : Pos} {wi : TI} {g : TG} {tt : TT} {te : TE} {use : Option (Value → Sem Unit)} {Qf : Value → Shared → Prop}
    (hc : HotC X) (hN : X.N.Nodup) (I : Inv X pins σ H s) (hi : PIQ X tg iter wi) (ok : BlkOk X.N X.env.scope scope own)
    (hg : ∀ (s : Shared) (H : Hp) (C : Addr) (cl : List (Str × Addr)) (fp : List Addr), PG (X.blk s H scope (compEnvC scope cl C X.env) fp) tg g) (ht : ∀ (s : Shared) (H : Hp) (C : Addr) (cl : List (Str × Addr)) (fp : List Addr), PTs (X.blk s H scope (compEnvC scope cl C X.env) fp) ifs tt)
    (he : ∀ (s : Shared) (H : Hp) (C : Addr) (cl : List (Str × Addr)) (fp : List Addr), PE (X.blk s H scope (compEnvC scope cl C X.env) fp) elt te) (hs : ∀ x, foldedSetIterable iter X.env x = pure x)
    (h : tLc wi g tt te (own.map (·.2)) σ H Q)
    (hRR : ∀ D C s' m H', Inv X pins σ H' s' → Q (.ref D) H' → s'.heap.Ns C m → FpOk X pins H' C → compPost (model X.prog X.w) X.A X.xe use Qf (.ref D) C (.ok .next) s') :
    wpAny (model X.prog X.w) X.A (comprehension (.ListComp elt [⟨tg, iter, ifs, 0⟩] scope pos) scope X.env pos' (newList []) false (eval iter X.env) use) Qf X.xe s := by
  have hfree : ∀ y ∈ scope.names, y.2 = .free → ∃ c, X.env.cells.lookup y.1 = some c := fun y hy e => by
    rcases ok.free y hy e with k | k
    · exact I.ok.has _ (.inl k)
    · exact I.ok.has _ (.inr k)
  refine wpAny_comprehension_free (use := use) rfl hs (closure_ok hfree) ok.kind (fun y hy e => by rw [ok.uniq y hy, e])
    (thn (hi.run pins s σ H _ I h) fun xv s1 hx => thn hx fun itv s2 h2 => ?_)
  obtain ⟨it, fp, tn, J, H2, e, I2, T, st2, f2, q⟩ := h2
  subst e
  refine wpAny_newObj_type (newEnv_comp ?_) (by show 0 ≤ sizeLine; decide)
  generalize hD : s2.heap.objs.size = D
  have hDn : H2 D = none := I2.hok.fresh (Nat.le_of_eq hD)
  obtain ⟨W, ⟨m0, w0⟩, turn⟩ := q D hDn
  -- the new list
  generalize hs3 : ({ s2 with heap := s2.heap.push { cls := .type "list", data := .seq ([] : List Value).toArray } } : Shared) = s3
  have I3 : Inv X pins σ (upd H2 D (.lst [])) s3 := by
    rw [← hs3]
    refine I2.laid (t' := s2.toks) (fun b o e => Heap.get?_push_of_some _ e) (Nat.le_of_eq hD) ⟨Nat.zero_le _, [], 0, .nil, ?_⟩
    rw [← hD]
    exact Heap.get?_push_size _ rfl
  have h3 : s3.heap = s2.heap.push { cls := .type "list", data := .seq ([] : List Value).toArray } := by rw [← hs3]
  have sz : ∀ b ∈ fp, b < s2.heap.objs.size := fun b hb => by
    obtain ⟨o, e, _⟩ := T.obj _ _ st2 b hb
    exact Heap.lt_size e
  have f3 : ∀ b ∈ fp, FpOk X pins (upd H2 D (.lst [])) b ∧ b < s3.heap.objs.size := fun b hb => by
    have hlt := sz b hb
    refine ⟨⟨?_, (f2 b hb).2⟩, by rw [h3, Heap.size_push]; exact Nat.lt_succ_of_lt hlt⟩
    rw [upd_ne (by rw [← hD]; exact Nat.ne_of_lt hlt)]
    exact (f2 b hb).1
  have st3 : tn 0 s3.heap := T.keep _ _ _ st2 fun b _ o e => by rw [h3]; exact Heap.get?_push_of_some _ e
  have I4 := block_start I3 ok hN f3
  have pg := hg s3 (upd H2 D (.lst [])) s3.heap.objs.size (cellsFrom (s3.heap.objs.size + 1) scope.names (cloFrom X.env.cells scope.names [])) fp
  have pt := ht s3 (upd H2 D (.lst [])) s3.heap.objs.size (cellsFrom (s3.heap.objs.size + 1) scope.names (cloFrom X.env.cells scope.names [])) fp
  have pe := he s3 (upd H2 D (.lst [])) s3.heap.objs.size (cellsFrom (s3.heap.objs.size + 1) scope.names (cloFrom X.env.cells scope.names [])) fp
  show codeAny _ _ (.compStart (.ListComp elt [⟨tg, iter, ifs, 0⟩] scope pos) 0 (.ref it) (.ref D) (compEnvC scope (cellsFrom (s3.heap.objs.size + 1) scope.names (cloFrom X.env.cells scope.names [])) s3.heap.objs.size X.env)) (compPost (model X.prog X.w) X.A X.xe use Qf (.ref D) s3.heap.objs.size) { s3 with heap := pushCells (s3.heap.push { cls := .type "dict", data := .dict #[] }) scope.names }
  have nfp : ∀ b ∈ fp, (upd H2 D (.lst [])) b = none := fun b hb => (f3 b hb).1.1
  generalize hce : compEnvC scope (cellsFrom (s3.heap.objs.size + 1) scope.names (cloFrom X.env.cells scope.names [])) s3.heap.objs.size X.env = ce at I4 pg pt pe ⊢
  have cL : ce.locals = s3.heap.objs.size := by subst hce; rfl
  generalize hH3 : upd H2 D (.lst []) = H3 at I3 I4 pg pt pe w0 nfp f3
  generalize hs4 : ({ s3 with heap := pushCells (s3.heap.push { cls := .type "dict", data := .dict #[] }) scope.names } : Shared) = s4 at I4 ⊢
  have st4 : tn 0 s4.heap := T.keep _ _ _ st3 fun b _ o e => by rw [← hs4]; exact pushCells_keeps _ _ _ _ (Heap.get?_push_of_some _ e)
  have stat : ∀ {σ' : St} {H' : Hp} {s' : Shared}, Inv (X.blk s3 H3 scope ce fp) [] σ' H' s' → (∀ b ∈ fp, H' b = none) → ∀ b ∈ fp, FpOk (X.blk s3 H3 scope ce fp) [] H' b := fun {σ' H' s'} I' hn b hb =>
    ⟨hn b hb, (I'.ok.exf b hb).1, I'.ok.exfs b hb, .inl hb, fun x c e => (I'.ok.exf b hb).2 x c e, fun p hp => absurd (show p ∈ ([] : List (Addr × Obj)) ++ [] from hp) (by simp)⟩
  have hot5 : ∀ {σ' : St} {H' : Hp} {s' : Shared}, Inv (X.blk s3 H3 scope ce fp) [] σ' H' s' → ∃ x1, HotAt X.A x1 s'.heap := fun {σ' H' s'} I' =>
    hc.at (I3.call' (ch := fp) I'.os I'.base I'.hok I'.bare fun b hb => ⟨(f3 b hb).1.2.2.2.1, (f3 b hb).1.2.1, (f3 b hb).1.2.2.2.2.1, (f3 b hb).1.2.2.2.2.2⟩)
  have loop : codeAny (model X.prog X.w) X.A (.compLoop (.ListComp elt [⟨tg, iter, ifs, 0⟩] scope pos) 0 (.ref it) (.ref D) ce) (compPost (model X.prog X.w) X.A X.xe use Qf (.ref D) s3.heap.objs.size) s4 := by
    refine compLoop_any (fun n s' => ∃ i H', Inv (X.blk s3 H3 scope ce fp) [] (wipe σ (own.map (·.2))) H' s' ∧ tn i s'.heap ∧ (∀ b ∈ fp, H' b = none) ∧ W i n H') ?_ m0 ⟨0, H3, I4, st4, nfp, w0⟩
    rintro n s5 ⟨i, H5, I5, st5, n5, w5⟩
    rcases turn i n H5 w5 with ⟨stop, qq⟩ | ⟨go, Nx, hNx, step⟩
    · have td := T.done (X.blk s3 H3 scope ce fp) rfl rfl rfl (hot5 I5) i [] _ H5 (fun _ _ => False) I5 (stat I5 n5) st5 stop
      refine thnF td fun r s6 ⟨hr, I6⟩ => ?_
      subst hr
      -- back in the def's context
      have I7 : Inv X pins σ H5 s6 := I3.call' (ch := fp) I6.os I6.base I6.hok I6.bare fun b hb => ⟨(f3 b hb).1.2.2.2.1, (f3 b hb).1.2.1, (f3 b hb).1.2.2.2.2.1, (f3 b hb).1.2.2.2.2.2⟩
      have nC : H5 s3.heap.objs.size = none := by
        have z : H5 ce.locals = none := I6.free
        rw [cL] at z
        exact z
      obtain ⟨m, hn, _⟩ := I6.loc
      have hn : s6.heap.Ns ce.locals m := hn
      rw [cL] at hn
      exact hRR D s3.heap.objs.size s6 m H5 I7 qq hn (I3.fpOk (Nat.le_refl _) nC)
    · have ti := T.item (X.blk s3 H3 scope ce fp) rfl rfl rfl i [] s5 _ H5 (fun _ _ => False) I5 (stat I5 n5) st5 go
      refine thnF ti fun r s6 ⟨u, hr, h6⟩ => ?_
      subst hr
      refine thnF h6 fun _ s7 ⟨x, H7, I7, r7, y7, st7, n7⟩ => ?_
      have I7' := I7.pinned (stat I7 n7) (T.obj _ _ st7)
      refine thnF (pg.run _ s7 _ H7 x u _ I7' r7 (step x H7 y7)) fun _ s8 ⟨σ8, H8, I8, hw8, q8⟩ => ?_
      refine thnF (pt.run _ s8 σ8 H8 _ I8 q8) fun b s9 ⟨H9, I9, q9⟩ => ?_
      -- the turn's end
      have fin : ∀ {s' : Shared} {H' : Hp}, Inv (X.blk s3 H3 scope ce fp) ([] ++ pinsAt fp s7.heap) σ8 H' s' → Nx H' → ∃ m, m < n ∧ ∃ i H', Inv (X.blk s3 H3 scope ce fp) [] (wipe σ (own.map (·.2))) H' s' ∧ tn i s'.heap ∧ (∀ b ∈ fp, H' b = none) ∧ W i m H' := fun {s' H'} I' nx => by
        obtain ⟨m', hm, w'⟩ := hNx H' nx
        have pin' : ∀ b ∈ fp, ∀ o, s7.heap.get? b = some o → s'.heap.get? b = some o ∧ H' b = none := fun b hb o e =>
          let z := I'.pin (b, o) (List.mem_append_right _ (List.mem_append_right _ (mem_pinsAt hb e)))
          ⟨z.1, z.2.1⟩
        have hl : (wipe σ (own.map (·.2))).length = σ8.length := by rw [← hw8, wipe_length]
        refine ⟨m', hm, i + 1, H', (I'.unpinned (pins := [])).weak hl (fun j v e => ?_), T.keep _ _ _ st7 fun b hb o e => (pin' b hb o e).1, fun b hb => ?_, w'⟩
        · rw [← hw8] at e
          exact (wipe_some e).1
        · obtain ⟨o, e, _⟩ := T.obj _ _ st7 b hb
          exact (pin' b hb o e).2
      cases b with
      | false =>
        simp only [Bool.false_eq_true, if_false] at q9 ⊢
        exact fin I9 q9
      | true =>
        simp only [if_true] at q9 ⊢
        refine thnF (pe.run _ s9 σ8 H9 _ I9 q9) fun z s10 ⟨yv, H10, I10, r10, acc, hD10, hz10, nx⟩ => ?_
        exact app_ok (X := X.blk s3 H3 scope ce fp) I10 hD10 hz10 r10 fun s11 I11 => fin I11 nx
  exact codeAny_compStart_list loop (T.self X.A 0 _ _ _ st4 loop)
theorem pe_lcH {elt tg iter : Expr} {ifs : List Expr} {scope : Scope} {own : List (Str × Nat)} {pos : Pos} {wi : TI} {g : TG} {tt : TT} {te : TE} (hc : HotC X) (hN : X.N.Nodup) (hi : PIQ X tg iter wi) (ok : BlkOk X.N X.env.scope scope own)
    (hg : ∀ (s : Shared) (H : Hp) (C : Addr) (cl : List (Str × Addr)) (fp : List Addr), PG (X.blk s H scope (compEnvC scope cl C X.env) fp) tg g) (ht : ∀ (s : Shared) (H : Hp) (C : Addr) (cl : List (Str × Addr)) (fp : List Addr), PTs (X.blk s H scope (compEnvC scope cl C X.env) fp) ifs tt)
    (he : ∀ (s : Shared) (H : Hp) (C : Addr) (cl : List (Str × Addr)) (fp : List Addr), PE (X.blk s H scope (compEnvC scope cl C X.env) fp) elt te) (hs : ∀ x, foldedSetIterable iter X.env x = pure x := by intro _; rfl) :
    PE X (.ListComp elt [⟨tg, iter, ifs, 0⟩] scope pos) (tLc wi g tt te (own.map (·.2))) := by
  refine ⟨fun pins s σ H Q I h => ?_⟩
  rw [eval_ListComp]
  refine lc_coreH hc hN I hi ok hg ht he hs h fun D C s' m H' I' q hn f => ⟨m, hn, fun h'' sb => ?_⟩
  obtain ⟨f0, f1, f2, f3, f4, f5⟩ := f
  exact ⟨.ref D, H', I'.turned (t' := s'.toks) (fun b o hb e => (sb.2 b hb).trans e) f0 f1 f3 f4 f5, rfl, q⟩
end
end L2
namespace VS
open PySem PySem.Spec PyProof.Rows L2
open HotX L2H
section
variable {X : Cx} {W : WX} {K : PySem.W.Frag} {mg : Str → Option Value} {F H H1 : Hp} {T L : List (D × V)} {ρ ρ' : Env} {σ σ' σ'' : St} {m : Bool} {asg a1 a2 : List Nat}
def VIQ (X : Cx) (W : WX) (tg iter : Expr) (f : M (List D)) : Prop := PIQ X tg iter (tiOf X.K X.mg W f)
theorem vi_range1Q {tg a : Expr} {f : M (List D)} {p pos : Pos} (hg : Gl X "range") (hm : X.mg "range" = none) (ha : VA X W m [a] f) (hs : starEach [a] X.env = [(false, eval a X.env)] := by rfl) : VIQ X W tg (.Call (.Name "range" p) [a] [] pos) (dRange1 f) := by
  refine PIQ.imp (pi_range1Q hg hm ha hs) fun σ H R ⟨T, ρ, u, rep, hf, he⟩ => ?_
  refine runA rep hf he fun ds ρ1 vs H1 h1 s1 l1 r1 => ?_
  obtain ⟨d, e, rfl⟩ := optM_some h1
  obtain ⟨j, rfl, z1, z2, rfl⟩ := rangeD1_inv e
  obtain ⟨v, rfl⟩ := len1 l1
  have ev := RepT.eq_int r1.rep
  subst ev
  exact ⟨j, rfl, z1, z2, he _ [] H1 itR r1.drop⟩
section
variable {elt tg iter : Expr} {ifs : List Expr} {scope : Scope} {own : List (Str × Nat)} {pos spos : Pos} {src : M (List D)} {bt : D → Env → Option Env} {tt : M Bool} {el : M D} {mt me : Bool}
theorem ve_lcH (hc : HotC X) (hN : X.N.Nodup) (hi : VIQ X W tg iter src) (ok : BlkOk X.N X.env.scope scope own)
    (hg : ∀ (s : Shared) (H : Hp) (C : Addr) (cl : List (Str × Addr)) (fp : List Addr), VG (X.blk s H scope (compEnvC scope cl C X.env) fp) asg tg bt)
    (ht : ∀ (s : Shared) (H : Hp) (C : Addr) (cl : List (Str × Addr)) (fp : List Addr), VTs (X.blk s H scope (compEnvC scope cl C X.env) fp) WF mt ifs tt)
    (he : ∀ (s : Shared) (H : Hp) (C : Addr) (cl : List (Str × Addr)) (fp : List Addr), VE (X.blk s H scope (compEnvC scope cl C X.env) fp) WF me elt el)
    (hsub : ∀ i ∈ asg, i ∈ own.map (·.2) := by decide) (hs : ∀ x, foldedSetIterable iter X.env x = pure x := by intro _; rfl) : VE X W true (.ListComp elt [⟨tg, iter, ifs, 0⟩] scope pos) (dLc (own.map (·.2)) src bt tt el) :=
  PE.imp (pe_lcH (g := tgOf X.K asg bt) (tt := ttOf X.K X.mg WF mt tt) (te := tOf X.K X.mg WF me el) hc hN hi ok hg ht he hs) fun _ _ _ h => tLc_of hsub h
end
end
end VS
set_option Elab.async false
set_option linter.all false
set_option maxRecDepth 100000
set_option maxHeartbeats 4000000
set_option autoImplicit false
noncomputable section
namespace VS
open PySem PySem.Spec PyProof.Rows L2
section
variable {X : Cx} {W : WX} {K : PySem.W.Frag} {mg : Str → Option Value} {F H H1 : Hp} {T L : List (D × V)} {ρ ρ' : Env} {σ σ' σ'' : St} {m : Bool}
def tLkE (t : TE) : TE := fun σ H Q => ∃ d u, H d = some u ∧ Mut (some u) ∧ ∀ od, t σ (upd H d (.frz od u)) Q
theorem pe_lk {e : Expr} {t : TE} (he : PE X e t) : PE X e (tLkE t) := by
  refine ⟨fun pins s σ H Q I h => ?_⟩
  obtain ⟨d, u, hd, mu, h⟩ := h
  obtain ⟨od, I'⟩ := I.lock hd mu
  exact he.run pins s σ _ Q I' (h od)
theorem lock_core {ds : List D} {vs : List V} {a : Addr} {A' A2 : List Addr} {u : HO} {od : Obj} (sF : SameG F H) (nd : ((a :: A') ++ A2).Nodup) (fr : ∀ b ∈ (a :: A') ++ A2, F b = none) (q : H a = some u) (nu : ∀ ps, u ≠ .tbl ps) (l : OwL K F H ds vs A') (o : OwT K F H L A2) :
    ∃ F', SameG F' (upd H a (.frz od u)) ∧ A2.Nodup ∧ (∀ b ∈ A2, F' b = none) ∧ F' a = some (.frz od u) ∧ OwL K F' (upd H a (.frz od u)) (freezeL ds) vs [] ∧ OwT K F' (upd H a (.frz od u)) L A2 := by
  have nd' : (a :: (A' ++ A2)).Nodup := nd
  obtain ⟨na, nd2⟩ := List.nodup_cons.mp nd'
  obtain ⟨n1, n2, n3⟩ := List.nodup_append.mp nd2
  have fa : F a = none := fr a (by simp)
  let F' : Hp := fun b => if b = a then some (.frz od u) else if b ∈ A' then H b else F b
  have fA : ∀ b ∈ A', F' b = H b := fun b hb => by
    have z : b ≠ a := fun z => na (by rw [← z]; exact List.mem_append_left _ hb)
    show (if b = a then _ else if b ∈ A' then H b else F b) = _
    rw [if_neg z, if_pos hb]
  have sF' : Same F F' := fun b w q => by
    have z : b ≠ a := fun z => by rw [z, fa] at q; cases q
    have z2 : b ∉ A' := fun hb => by rw [fr b (by simp [hb])] at q; cases q
    show (if b = a then _ else if b ∈ A' then H b else F b) = _
    rw [if_neg z, if_neg z2]; exact q
  refine ⟨F', ⟨fun b w q2 => ?_, sF.gh.to sF' fun P ps x y => ?_⟩, n2, fun b hb => ?_, if_pos rfl, OwL.freeze sF' ds vs A' l fA, o.keep sF' fun b hb => upd_ne fun z => na (by rw [← z]; exact List.mem_append_right _ hb)⟩
  · by_cases z : b = a
    · subst z
      have e : F' b = some (.frz od u) := if_pos rfl
      rw [e] at q2
      rw [upd_same]; exact q2
    · rw [upd_ne z]
      by_cases z2 : b ∈ A'
      · rw [fA b z2] at q2; exact q2
      · have e : F' b = F b := by
          show (if b = a then _ else if b ∈ A' then H b else F b) = _
          rw [if_neg z, if_neg z2]
        rw [e] at q2; exact sF _ _ q2
  · have z : P ≠ a := fun z => by rw [z, q] at y; exact nu _ (Option.some.inj y)
    have z2 : P ∉ A' := fun hb => by
      obtain ⟨o, e, n⟩ := OwL.dom _ _ _ l P hb
      rw [y] at e
      exact n.2 ps (Option.some.inj e).symm
    refine ⟨?_, by rw [upd_ne z]; exact y⟩
    show (if P = a then _ else if P ∈ A' then H P else F P) = _
    rw [if_neg z, if_neg z2]; exact x
  · have z : b ≠ a := fun z => na (by rw [← z]; exact List.mem_append_right _ hb)
    have z2 : b ∉ A' := fun h2 => n3 b h2 b hb rfl
    show (if b = a then _ else if b ∈ A' then H b else F b) = _
    rw [if_neg z, if_neg z2]; exact fr b (by simp [hb])
theorem RepT.lockT {ks : List (List Key)} {ds : List D} {v : V} (h : RepT K H ((.dT true ks ds, v) :: L)) : ∃ a u, v = .ref a ∧ H a = some u ∧ Mut (some u) ∧ ∀ od, RepT K (upd H a (.frz od u)) ((.lT ks (freezeL ds), v) :: L) := by
  obtain ⟨F, A, sF, nd, fr, A1, A2, rfl, h1, o⟩ := h
  rw [Ow] at h1
  obtain ⟨a, vs, A', rfl, q, n, l, rfl⟩ := h1
  refine ⟨a, _, rfl, q, trivial, fun od => ?_⟩
  obtain ⟨F', s1, s2, s3, s4, s5, s6⟩ := lock_core (od := od) sF nd fr q (fun ps z => by cases z) l o
  refine ⟨F', A2, s1, s2, s3, [], A2, rfl, ?_, s6⟩
  rw [Ow]
  exact ⟨a, vs, rfl, ⟨od, s4⟩, ⟨by rw [n.1, freezeL_map, List.length_map], n.2⟩, s5⟩
theorem RepT.lockK {ks : List Key} {ds : List D} {v : V} (h : RepT K H ((.dK true ks ds, v) :: L)) : ∃ a u, v = .ref a ∧ H a = some u ∧ Mut (some u) ∧ ∀ od, RepT K (upd H a (.frz od u)) ((.lK ks (freezeL ds), v) :: L) := by
  obtain ⟨F, A, sF, nd, fr, A1, A2, rfl, h1, o⟩ := h
  rw [Ow] at h1
  obtain ⟨a, vs, A', rfl, q, n, l, rfl⟩ := h1
  refine ⟨a, _, rfl, q, trivial, fun od => ?_⟩
  obtain ⟨F', s1, s2, s3, s4, s5, s6⟩ := lock_core (od := od) sF nd fr q (fun ps z => by cases z) l o
  refine ⟨F', A2, s1, s2, s3, [], A2, rfl, ?_, s6⟩
  rw [Ow]
  exact ⟨a, vs, rfl, ⟨od, s4⟩, ⟨by rw [n.1, freezeL_map, List.length_map], n.2⟩, s5⟩
def lockD : D → Option D
  | .dK true ks ds => if fzL (freezeL ds) = true then some (.lK ks (freezeL ds)) else none
  | .dT true ks ds => if fzL (freezeL ds) = true then some (.lT ks (freezeL ds)) else none
  | _ => none
def dLk (i : Nat) : M D := fun ρ => match ρ[i]? with
  | some d => match lockD d with
    | some d' => some (.ok d' (ρ.set i d'))
    | none => if fz d = true then some (.ok d ρ) else none
  | none => none
theorem lockD_rep {d d' : D} {v : V} (e : lockD d = some d') (h : RepT K H ((d, v) :: L)) : fz d' = true ∧ ∃ a u, v = .ref a ∧ H a = some u ∧ Mut (some u) ∧ ∀ od, RepT K (upd H a (.frz od u)) ((d', v) :: L) := by
  unfold lockD at e
  split at e
  · split at e
    · rename_i z; cases e; exact ⟨by rw [fz]; exact z, h.lockK⟩
    · cases e
  · split at e
    · rename_i z; cases e; exact ⟨by rw [fz]; exact z, h.lockT⟩
    · cases e
  · cases e
theorem ve_lk {e : Expr} {i : Nat} (h : PE X e (tVar i)) : VE X W true e (dLk i) := by
  refine PE.imp (PE.orr (pe_lk h) h) fun σ H Q ⟨T, ρ, r, rep, hf, he⟩ => ?_
  unfold dLk at hf
  cases q : ρ[i]? with
  | none => rw [q] at hf; cases hf
  | some d =>
    rw [q] at hf
    cases q2 : lockD d with
    | some d' =>
      simp only [q2] at hf
      have : r = .ok d' (ρ.set i d') := (Option.some.inj hf).symm
      subst this
      have n : d ≠ .unk := fun e => by rw [e] at q2; cases q2
      obtain ⟨v, hv⟩ := rep.slot q n
      have r2 := rep.take q hv
      obtain ⟨z, a, u, rfl, ha, mu, hl⟩ := lockD_rep (L := T ++ SL (ρ.set i .unk) σ) q2 r2.rep
      refine .inl ⟨a, u, ha, mu, fun od => ⟨_, hv, he _ _ (fun z => by cases z) ?_⟩⟩
      have r3 : Rep X.K (upd H a (.frz od u)) ((d', .ref a) :: T) (ρ.set i .unk) σ := ⟨r2.len, r2.nos, hl od⟩
      have r4 := r3.put hv
      rw [List.set_set] at r4
      exact r4.read (List.getElem?_set_self (List.getElem?_eq_some_iff.mp q).1) z hv
    | none =>
      simp only [q2] at hf
      by_cases z : fz d = true
      · simp only [z, if_true] at hf
        have : r = .ok d ρ := (Option.some.inj hf).symm
        subst this
        obtain ⟨v, hv⟩ := rep.slot q (fz_unk z)
        exact .inr ⟨v, hv, he v H (fun _ => Same.refl _) (rep.read q z hv)⟩
      · simp only [if_neg z] at hf
        cases hf
def keysOf : D → Option (List D)
  | .lK ks ds => if fzL ds = true then some (ks.map keyB) else none
  | .lT ks ds => if fzL ds = true then some (ks.map tupK) else none
  | _ => none
def dKeys (f : M D) : M (List D) := bindM f fun d => optM (keysOf d)
theorem RepT.keyB {k : Key} (h : RepT K H L) : RepT K H ((VS.keyB k, kV k) :: L) := by
  cases k with
  | inl i => exact h.int
  | inr x => exact h.str
theorem RepT.lKx {ks : List Key} {ds : List D} {v : V} (z : fzL ds = true) (h : RepT K H ((.lK ks ds, v) :: L)) : ∃ a vs o, v = .ref a ∧ H a = some (.frz o (.dK (ks.zip vs))) ∧ ks.length = vs.length ∧ RepT K H ((.lck (.frz o (.dK (ks.zip vs))), .ref a) :: L) := by
  obtain ⟨F, A, sF, nd, fr, A1, A2, rfl, h1, o2⟩ := h
  rw [Ow] at h1
  obtain ⟨a, vs, rfl, ⟨o, q⟩, n, l⟩ := h1
  have e := l.frozen _ _ _ z
  subst e
  exact ⟨a, vs, o, rfl, sF _ _ q, n.1.trans l.length, F, A2, sF, nd, fr, [], A2, rfl, by rw [Ow]; exact ⟨⟨a, rfl, q⟩, rfl⟩, o2⟩
theorem RepT.lTx {ks : List (List Key)} {ds : List D} {v : V} (z : fzL ds = true) (h : RepT K H ((.lT ks ds, v) :: L)) : ∃ a vs o, v = .ref a ∧ H a = some (.frz o (.dT (ks.zip vs))) ∧ ks.length = vs.length ∧ RepT K H ((.lck (.frz o (.dT (ks.zip vs))), .ref a) :: L) := by
  obtain ⟨F, A, sF, nd, fr, A1, A2, rfl, h1, o2⟩ := h
  rw [Ow] at h1
  obtain ⟨a, vs, rfl, ⟨o, q⟩, n, l⟩ := h1
  have e := l.frozen _ _ _ z
  subst e
  exact ⟨a, vs, o, rfl, sF _ _ q, n.1.trans l.length, F, A2, sF, nd, fr, [], A2, rfl, by rw [Ow]; exact ⟨⟨a, rfl, q⟩, rfl⟩, o2⟩
theorem RepT.lckH {u : HO} {a : Addr} (h : RepT K H ((.lck u, .ref a) :: L)) : H a = some u := by
  obtain ⟨F, A, sF, nd, fr, A1, A2, rfl, h1, o2⟩ := h
  rw [Ow] at h1
  obtain ⟨⟨a', e, q⟩, _⟩ := h1
  cases e
  exact sF _ _ q
theorem zip_key {α : Type} {ks : List α} {vs : List V} {i : Nat} {k : α} {v : V} (h : (ks.zip vs)[i]? = some (k, v)) : ks[i]? = some k := by
  rw [List.getElem?_zip_eq_some] at h
  exact h.1
theorem vi_keys {tg l : Expr} {f : M D} (h : VE X W m l f) : VI X W tg l (dKeys f) := by
  refine PI.imp (pi_keys h) fun σ H R ⟨T, ρ, u, rep, hf, he⟩ => ?_
  unfold dKeys bindM at hf
  cases q : f ρ with
  | none => rw [q] at hf; cases hf
  | some w =>
    rw [q] at hf
    cases w with
    | ex x ρ1 =>
      have : u = .ex x ρ1 := (Option.some.inj hf).symm
      subst this
      exact ⟨T, ρ, _, rep, q, he⟩
    | ok d ρ1 =>
      obtain ⟨ds, e, rfl⟩ := optM_some hf
      refine ⟨T, ρ, _, rep, q, fun v H1 _ r1 => ?_⟩
      cases d with
      | lK ks xs =>
        simp only [keysOf] at e
        by_cases z : fzL xs = true
        · rw [if_pos z] at e
          cases e
          obtain ⟨a, vs, o, rfl, ha, n1, r2⟩ := RepT.lKx z r1.rep
          have hz : (ks.zip vs).length = ks.length := by rw [List.length_zip]; omega
          refine ⟨a, o, rfl, .inl ⟨ks.zip vs, ha, he (Itk a o (ks.zip vs)) [(.lck (.frz o (.dK (ks.zip vs))), .ref a)] H1 ⟨fun i H2 L hi r => ⟨RepT.lckH (L := L) r, ?_⟩, fun H2 L r => ⟨RepT.lckH (L := L) r, ?_⟩, fun i H2 L x H3 d r hd y => ?_⟩ ⟨r1.len, r1.nos, r2⟩⟩⟩
          · rw [hz]; rw [List.length_map] at hi; exact hi
          · rw [hz, List.length_map]; exact Nat.le_refl _
          · obtain ⟨rfl, k, v, hk, rfl⟩ := y
            rw [List.getElem?_map, zip_key hk] at hd
            cases hd
            exact RepT.keyB r
        · rw [if_neg z] at e; cases e
      | lT ks xs =>
        simp only [keysOf] at e
        by_cases z : fzL xs = true
        · rw [if_pos z] at e
          cases e
          obtain ⟨a, vs, o, rfl, ha, n1, r2⟩ := RepT.lTx z r1.rep
          have hz : (ks.zip vs).length = ks.length := by rw [List.length_zip]; omega
          refine ⟨a, o, rfl, .inr ⟨ks.zip vs, ha, he (Itkt a o (ks.zip vs)) [(.lck (.frz o (.dT (ks.zip vs))), .ref a)] H1 ⟨fun i H2 L hi r => ⟨RepT.lckH (L := L) r, ?_⟩, fun H2 L r => ⟨RepT.lckH (L := L) r, ?_⟩, fun i H2 L x H3 d r hd y => ?_⟩ ⟨r1.len, r1.nos, r2⟩⟩⟩
          · rw [hz]; rw [List.length_map] at hi; exact hi
          · rw [hz, List.length_map]; exact Nat.le_refl _
          · obtain ⟨rfl, k, v, q, hk, rfl, hq⟩ := y
            rw [List.getElem?_map, zip_key hk] at hd
            cases hd
            exact RepT.tupOf hq (fun F' => key_own k) r
        · rw [if_neg z] at e; cases e
      | _ => cases e
end
end VS
set_option Elab.async false
set_option linter.all false
set_option maxRecDepth 100000
set_option maxHeartbeats 4000000
set_option autoImplicit false
noncomputable section
namespace VS
open PySem PySem.Spec PyProof.Rows L2
section
variable {X : Cx} {W : WX} {K : PySem.W.Frag} {mg : Str → Option Value} {F H H1 : Hp} {T L : List (D × V)} {ρ ρ' : Env} {σ σ' σ'' : St} {m : Bool}
end
end VS
set_option Elab.async false
set_option linter.all false
set_option maxRecDepth 100000
set_option maxHeartbeats 4000000
set_option autoImplicit false
noncomputable section
namespace VS
open PySem PySem.Spec PyProof.Rows L2
section
variable {X : Cx} {W : WX} {K : PySem.W.Frag} {mg : Str → Option Value} {F H H1 : Hp} {T L : List (D × V)} {ρ ρ' : Env} {σ σ' σ'' : St} {m : Bool} {asg a1 a2 : List Nat}
end
end VS
set_option Elab.async false
set_option linter.all false
set_option maxRecDepth 100000
set_option maxHeartbeats 4000000
set_option autoImplicit false
noncomputable section
namespace VS
open PySem PySem.Spec PyProof.Rows L2
section
variable {X : Cx} {W : WX} {K : PySem.W.Frag} {mg : Str → Option Value} {F H H0 H1 : Hp} {T L : List (D × V)} {ρ ρ' : Env} {σ σ' σ'' : St} {m : Bool} {asg a1 a2 : List Nat}
def rel1 (c x y : Int) : Int := if c + y < x then c + y else x
def part (n : Nat) (c : Int) (on r : List Int) (q : Nat) : List Int := (List.range n).map fun x => if x < q then rel1 c (r.getD x 0) (on.getD x 0) else r.getD x 0
end
end VS
set_option Elab.async false
set_option linter.all false
set_option maxRecDepth 100000
set_option maxHeartbeats 4000000
set_option autoImplicit false
noncomputable section
namespace VS
open PySem PySem.Spec PyProof.Rows L2
section
variable {X : Cx} {W : WX} {K : PySem.W.Frag} {mg : Str → Option Value} {F H H1 : Hp} {T L : List (D × V)} {ρ ρ' : Env} {σ σ' σ'' : St} {m : Bool} {asg a1 a2 : List Nat}
end
end VS
set_option Elab.async false
set_option linter.all false
set_option maxRecDepth 100000
set_option maxHeartbeats 4000000
set_option autoImplicit false
noncomputable section
namespace VS
open PySem PySem.Spec PyProof.Rows L2
section
variable {X : Cx} {W : WX} {K : PySem.W.Frag} {mg : Str → Option Value} {F H H1 : Hp} {T L : List (D × V)} {ρ ρ' : Env} {σ σ' σ'' : St} {m : Bool} {asg a1 a2 : List Nat}
end
end VS
set_option Elab.async false
set_option linter.all false
set_option maxRecDepth 100000
set_option maxHeartbeats 4000000
set_option autoImplicit false
noncomputable section
namespace VS
open PySem PySem.Spec PyProof.Rows L2
section
variable {X : Cx} {W : WX} {K : PySem.W.Frag} {mg : Str → Option Value} {F H H1 : Hp} {T L : List (D × V)} {ρ ρ' : Env} {σ σ' σ'' : St} {m : Bool} {asg a1 a2 : List Nat}
theorem Kept.both {σ1 σ2 : St} (h1 : Kept a1 σ σ1) (h2 : Kept a2 σ1 σ2) : Kept (a1 ++ a2) σ σ2 := by
  refine ⟨h2.1.trans h1.1, fun j hj => ?_⟩
  rw [List.mem_append, not_or] at hj
  rw [h2.2 j hj.2, h1.2 j hj.1]
end
end VS
set_option Elab.async false
set_option linter.all false
set_option maxRecDepth 100000
set_option maxHeartbeats 4000000
set_option autoImplicit false
noncomputable section
namespace VS
open PySem PySem.Spec PyProof.Rows L2
section
variable {X : Cx} {W : WX} {K : PySem.W.Frag} {F H H1 : Hp} {T L : List (D × V)} {ρ ρ' : Env} {σ σ' σ'' : St} {m : Bool}
def TupAt (H : Hp) (w : V) (p : List Int) : Prop := ∃ b, w = .ref b ∧ H b = some (.tup ((p.map Sum.inl : List Key).map kV))
inductive TupsAt (H : Hp) : List V → List (List Int) → Prop
  | nil : TupsAt H [] []
  | cons {w : V} {p : List Int} {ws : List V} {ps : List (List Int)} : TupAt H w p → TupsAt H ws ps → TupsAt H (w :: ws) (p :: ps)
theorem TupsAt.get : ∀ {ws : List V} {ps : List (List Int)} {i : Nat} {w : V}, TupsAt H ws ps → ws[i]? = some w → ∃ p, TupAt H w p
  | _, _, _, _, .nil, h => by simp at h
  | _, _, 0, w, .cons (p := p) a t, h => by
    have e := Option.some.inj h
    subst e
    exact ⟨p, a⟩
  | _, _, i + 1, w, .cons a t, h => TupsAt.get (i := i) t h
end
end VS
set_option Elab.async false
set_option linter.all false
set_option maxRecDepth 100000
set_option maxHeartbeats 4000000
set_option autoImplicit false
noncomputable section
namespace VS
open PySem PySem.Spec PyProof.Rows L2
section
variable {prog : Program} {w : World} {A : Around} {E : Value → Shared → Prop} {s : Shared}
end
section
variable {X : Cx} {W : WX} {K : PySem.W.Frag} {m : Bool}
end
end VS
set_option Elab.async false
set_option linter.all false
set_option maxRecDepth 100000
set_option maxHeartbeats 4000000
set_option autoImplicit false
noncomputable section
namespace VS
open PySem PySem.Spec PyProof.Rows L2
section
variable {X : Cx} {W : WX} {K : PySem.W.Frag} {F H H1 : Hp} {T L : List (D × V)} {ρ ρ' : Env} {σ σ' σ'' : St} {m : Bool}
end
end VS
set_option Elab.async false
set_option linter.all false
set_option maxRecDepth 100000
set_option maxHeartbeats 4000000
set_option autoImplicit false
noncomputable section
namespace VS
open PySem PySem.Spec PyProof.Rows L2
section
variable {X : Cx} {W : WX} {K : PySem.W.Frag} {mg : Str → Option Value} {F H H1 : Hp} {T L : List (D × V)} {ρ ρ' : Env} {σ σ' : St} {m : Bool}
def getP : List Int → D → Option (List D)
  | [], d => match d with
    | .lst true xs => some xs
    | _ => none
  | n :: p, d => match d with
    | .lst true ds => match ixN ds.length n with
      | some j => match ds[j]? with
        | some e => getP p e
        | none => none
      | none => none
    | .tup ds => match ixN ds.length n with
      | some j => match ds[j]? with
        | some e => getP p e
        | none => none
      | none => none
    | _ => none
inductive PathV (H : Hp) : List Int → V → V → Prop
  | nil {v : V} : PathV H [] v v
  | cons {n : Int} {p : List Int} {a : Addr} {xs : List V} {u w : V} : (H a = some (.lst xs) ∨ H a = some (.tup xs)) → atI xs n = some u → PathV H p u w → PathV H (n :: p) (.ref a) w
theorem PathV.mono (s : Same H H1) {p : List Int} {v w : V} (h : PathV H p v w) : PathV H1 p v w := by
  induction h with
  | nil => exact .nil
  | cons h1 h2 _ ih => exact .cons (h1.imp (s _ _) (s _ _)) h2 ih
theorem PathV.uniq : ∀ {p : List Int} {v w w' : V}, PathV H p v w → PathV H p v w' → w = w'
  | _, _, _, _, .nil, h' => by cases h'; rfl
  | _, _, _, _, .cons (xs := xs) h1 h2 h3, h' => by
    cases h' with
    | @cons _ _ _ ys _ _ g1 g2 g3 =>
      have e : xs = ys := by
        rcases h1 with h1 | h1 <;> rcases g1 with g1 | g1 <;> rw [h1] at g1 <;> injection g1 with g1 <;> first | (injection g1) | cases g1
      subst e
      rw [h2] at g2
      cases g2
      exact PathV.uniq h3 g3
theorem PathV.split {n : Int} : ∀ {p : List Int} {v w : V}, PathV H (p ++ [n]) v w → ∃ a xs, PathV H p v (.ref a) ∧ (H a = some (.lst xs) ∨ H a = some (.tup xs)) ∧ atI xs n = some w
  | [], v, w, h => by
    cases h with
    | cons h1 h2 h3 =>
      cases h3
      exact ⟨_, _, .nil, h1, h2⟩
  | k :: p, v, w, h => by
    cases h with
    | cons h1 h2 h3 =>
      obtain ⟨a, xs, g1, g2, g3⟩ := PathV.split h3
      exact ⟨a, xs, .cons h1 h2 g1, g2, g3⟩
def okP (i : Nat) (p : List Int) (ρ : Env) : Bool := (getP p (ρ.getD i .unk)).isSome
end
end VS
set_option Elab.async false
set_option linter.all false
set_option maxRecDepth 100000
set_option maxHeartbeats 4000000
set_option autoImplicit false
noncomputable section
namespace VS
open PySem PySem.Spec PyProof.Rows L2 HT
section
variable {prog : Program} {w : World} {A : Around} {E : Value → Shared → Prop} {s : Shared}
end
section
variable {X : Cx} {W : WX} {m : Bool}
end
end VS
set_option Elab.async false
set_option linter.all false
set_option maxRecDepth 100000
set_option maxHeartbeats 4000000
set_option autoImplicit false
noncomputable section
namespace VS
open PySem PySem.Spec PyProof.Rows L2
section
variable {X : Cx} {W : WX} {K : PySem.W.Frag} {H H1 : Hp} {T L : List (D × V)} {ρ ρ' : Env} {σ σ' : St} {m : Bool}
end
end VS
set_option Elab.async false
set_option linter.all false
set_option maxRecDepth 100000
set_option maxHeartbeats 4000000
set_option autoImplicit false
noncomputable section
namespace VS
open PySem PySem.Spec PyProof.Rows L2
section
variable {X : Cx} {W : WX} {K : PySem.W.Frag} {H H1 : Hp} {T L : List (D × V)} {ρ ρ' : Env} {σ σ' : St} {m : Bool}
end
end VS
set_option Elab.async false
set_option linter.all false
set_option maxRecDepth 100000
set_option maxHeartbeats 4000000
set_option autoImplicit false
noncomputable section
namespace VS
open PySem PySem.Spec PyProof.Rows L2
section
variable {X : Cx} {W : WX} {K : PySem.W.Frag} {H H1 : Hp} {T L : List (D × V)} {ρ ρ' : Env} {σ σ' : St} {m : Bool}
end
end VS
set_option Elab.async false
set_option linter.all false
set_option maxRecDepth 100000
set_option maxHeartbeats 4000000
set_option autoImplicit false
noncomputable section
namespace VS
open PySem PySem.Spec PyProof.Rows L2
section
variable {prog : Program} {w : World} {A : Around} {E : Value → Shared → Prop} {s : Shared}
end
section
variable {X : Cx} {W : WX} {K : PySem.W.Frag} {m : Bool}
end
end VS
set_option Elab.async false
set_option linter.all false
set_option maxRecDepth 100000
set_option maxHeartbeats 4000000
set_option autoImplicit false
noncomputable section
namespace VS
open PySem PySem.Spec PyProof.Rows L2
section
variable {X : Cx} {W : WX} {K : PySem.W.Frag} {mg : Str → Option Value} {F F1 F2 H H1 H' : Hp} {T L : List (D × V)} {ρ ρ' : Env} {σ σ' : St} {m : Bool}
theorem RepT.more {P S : List (D × V)} (h : RepT K H P) (hS : ∀ p ∈ S, (p ∈ P ∧ fz p.1 = true) ∨ p.1 = .unk) : RepT K H (P ++ S) := by
  obtain ⟨F, A, sF, nd, fr, o⟩ := h
  have oS : OwT K F H S [] := by
    induction S with
    | nil => rfl
    | cons p S ih =>
      refine ⟨[], [], rfl, ?_, ih fun q hq => hS q (List.mem_cons_of_mem _ hq)⟩
      rcases hS p List.mem_cons_self with ⟨e1, e2⟩ | e
      · obtain ⟨B, hB⟩ := o.mem e1
        have := hB.frozen _ _ _ e2
        subst this
        exact hB
      · rw [e, Ow]
  exact ⟨F, A, sF, nd, fr, by simpa using o.append oS⟩
theorem OwT.pl {F1 F2 : Hp} (g : ∀ b o, F1 b = some o → isC o = false → F2 b = some o) : ∀ {M : List (D × V)} {A : List Addr}, (∀ p ∈ M, VS.pl p.1 = true) → OwT K F1 H M A → OwT K F2 H M A
  | [], A, _, h => h
  | p :: M, A, hM, h => by
    obtain ⟨A1, A2, rfl, h1, h2⟩ := h
    exact ⟨A1, A2, rfl, h1.pl g _ _ _ (hM p List.mem_cons_self), OwT.pl g (fun q hq => hM q (List.mem_cons_of_mem _ hq)) h2⟩
end
end VS
set_option Elab.async false
set_option linter.all false
set_option maxRecDepth 100000
set_option maxHeartbeats 4000000
set_option autoImplicit false
noncomputable section
namespace VS
open PySem PySem.Spec PyProof.Rows L2
section
variable {X : Cx} {W : WX} {K : PySem.W.Frag} {mg : Str → Option Value} {F H H1 : Hp} {T L : List (D × V)} {ρ ρ' : Env} {σ σ' : St} {m : Bool}
end
end VS
set_option Elab.async false
set_option linter.all false
set_option maxRecDepth 100000
set_option maxHeartbeats 4000000
set_option autoImplicit false
noncomputable section
namespace VS
open PySem PySem.Spec PyProof.Rows L2
section
variable {X : Cx} {W : WX} {K : PySem.W.Frag} {mg : Str → Option Value} {F H H1 : Hp} {T L : List (D × V)} {ρ ρ' : Env} {σ σ' σ'' : St} {m : Bool}
end
end VS
set_option Elab.async false
set_option linter.all false
set_option maxRecDepth 100000
set_option maxHeartbeats 4000000
set_option autoImplicit false
noncomputable section
namespace VS
open PySem PySem.Spec PyProof.Rows L2
section
variable {X : Cx} {W : WX} {K : PySem.W.Frag} {mg : Str → Option Value} {F H H1 : Hp} {T L : List (D × V)} {ρ ρ' : Env} {σ σ' σ'' : St} {m : Bool} {a1 : List Nat}
end
end VS
set_option Elab.async false
set_option linter.all false
set_option maxRecDepth 100000
set_option maxHeartbeats 4000000
set_option autoImplicit false
noncomputable section
namespace VS
open PySem PySem.Spec PyProof.Rows L2
section
variable {X : Cx} {W : WX} {K : PySem.W.Frag} {mg : Str → Option Value} {F H H1 : Hp} {T L : List (D × V)} {ρ ρ' : Env} {σ σ' σ'' : St} {m : Bool}
end
end VS
set_option Elab.async false
set_option linter.all false
set_option maxRecDepth 100000
set_option maxHeartbeats 4000000
set_option autoImplicit false
noncomputable section
namespace VS
open PySem PySem.Spec PyProof.Rows L2
section
variable {X : Cx} {W : WX} {K : PySem.W.Frag} {mg : Str → Option Value} {F H H1 : Hp} {T L : List (D × V)} {ρ ρ' : Env} {σ σ' σ'' : St} {m : Bool}
end
end VS
set_option Elab.async false
set_option linter.all false
set_option maxRecDepth 100000
set_option maxHeartbeats 4000000
set_option autoImplicit false
noncomputable section
namespace VS
open PySem PySem.Spec PyProof.Rows L2
section
variable {X : Cx} {W : WX} {K : PySem.W.Frag} {mg : Str → Option Value} {F H H1 : Hp} {T L : List (D × V)} {ρ ρ' : Env} {σ σ' σ'' : St} {m : Bool}
end
end VS
set_option Elab.async false
set_option linter.all false
set_option maxRecDepth 100000
set_option maxHeartbeats 4000000
set_option autoImplicit false
noncomputable section
namespace VS
open PySem PySem.Spec PyProof.Rows L2
end VS
set_option Elab.async false
set_option linter.all false
set_option maxRecDepth 100000
set_option maxHeartbeats 4000000
set_option autoImplicit false
noncomputable section
namespace VS
open PySem PySem.Spec PyProof.Rows L2
section
variable {X : Cx} {W : WX} {K : PySem.W.Frag} {mg : Str → Option Value} {e : Expr} {es : List Expr} {ta : TA} {p1 p2 pos : Pos} {B0 : Addr} {x : Str}
theorem pe_beinit {pl : Sem Bool} (hg : Gl X x) (hm : X.mg x = some (.ref B0)) (hsp : PySem.W.specialIn X.K (.ref B0) "__getattribute__" = some (some (.builtin "type.__getattribute__"))) (hr : PySem.W.readsIn X.K B0 (.type "type") = true)
    (vV : PySem.W.findCls X.K (.ref B0) (.type "type") "__init__" = some (.val (.builtin "ValueError.__init__"))) (ha : PA X (e :: es) ta)
    (hc : eval (.Call (.Attribute (.Name x p1) "__init__" p2) (e :: es) [] pos) X.env = (do
      let ov ← eval (.Name x p1) X.env
      standAt p2.atName
      let (f, first) ← holding [ov] (getMethod ov "__init__" pl)
      callWith pos f first (backTo pos (starEach (e :: es) X.env)) (backToKw pos (keywordEach [] X.env))) := by rfl)
    (hdb : (x == ("__debug__" : Str)) = false := by decide)
    (he : starEach (e :: es) X.env = (false, eval e X.env) :: starEach es X.env := by rfl) (hpl : (backTo pos (starEach es X.env)).any (·.1) = false := by rfl) :
    PE X (.Call (.Attribute (.Name x p1) "__init__" p2) (e :: es) [] pos) (tVeI X.K ta) := by
  refine ⟨fun pins s σ H Q I h => ?_⟩
  refine PySem.W.methodCall_KW (ld_glob I hg hm ?_ hdb) hc
  refine PySem.W.method_cls I.kIn hsp (PySem.W.cls_value I.kIn hr vV (by decide +kernel) ?_)
  show wpAny _ _ (callWith pos (Value.builtin "ValueError.__init__") [] (backTo pos (starEach (e :: es) X.env)) []) _ _ _
  refine PyProof.Rows.callWith_method1 (thn (ha.run pos pins _ σ H _ (I.tok _) h) fun us s1 ⟨vs, H1, I1, r1, a, C, ws, ev, hl, T, ea, q⟩ => ?_) he hpl
  subst ev
  cases r1 with
  | @cons _ u0 _ ur ra rw' =>
    obtain rfl : u0 = Value.ref a := ra
    have hlen : ur.length ≤ sizeLine := by
      rw [← Paired.length rw', sizeLine_eq]
      omega
    exact oinit_ok T I1 ea hlen fun s' J => ⟨.non, H1, J, rfl, q⟩
def clsB : Stmt → List Stmt
  | .ClassDef (body := b) .. => b
  | _ => []
def spI (C : Addr) (f : Str) : Sp := fun vs H Q _ => ∃ (a : Addr) (n : Int), vs = [.ref a, .int n] ∧ H a = some (exo a C none) ∧ ∀ d, H d = none → d ≠ a → Q .non (upd (upd H d (exd d [(f, .int n)])) a (exo a C (some d)))
theorem init_fn {P : Program} {w : World} {base : Heap} {CX : CXT} {k : Nat} {fI C B0 : Addr} {name qual f : Str} {params : Arguments} {scope : Scope} {dV kV doc pm cdv ct oc : Value} {an od : Option Addr} {osl : Array (Option Value)} {q1 q2 q3 q4 q5 q6 q7 q8 q9 q10 : Pos}
    (lk : K.lookup fI = some ⟨oc, od, .func (PySem.W.fnOf name qual params [.Expr (.Call (.Attribute (.Name "LoneError" q1) "__init__" q2) [.Name "self" q3, .Name f q4] [] q5) q6, .Assign [.Attribute (.Name "self" q7) f q8] (.Name f q9) q10] scope dV kV doc pm an cdv ct), osl⟩)
    (hcd : PySem.W.codeIn K cdv qual = true) (S : FnScope ["self", f] ["self", f] scope) (hv0 : Vis scope "self") (hv1 : Vis scope f) (hf1 : (f == ("__debug__" : Str)) = false) (hf2 : (f == ("__classdict__" : Str)) = false)
    (hgl : ∀ (A : Around) (outer : List PySem.Env) (s : Shared) (H : Hp) (E : XK), Gl (cxOf CX P w K mg base ["self", f] qual scope fI cdv A outer s H E) "LoneError")
    (hc : ∀ (A : Around) (outer : List PySem.Env) (s : Shared) (H : Hp) (E : XK), ∃ pl : Sem Bool, eval (.Call (.Attribute (.Name "LoneError" q1) "__init__" q2) [.Name "self" q3, .Name f q4] [] q5) (cxOf CX P w K mg base ["self", f] qual scope fI cdv A outer s H E).env = (do
      let ov ← eval (.Name "LoneError" q1) (cxOf CX P w K mg base ["self", f] qual scope fI cdv A outer s H E).env
      standAt q2.atName
      let (g, first) ← holding [ov] (getMethod ov "__init__" pl)
      callWith q5 g first (backTo q5 (starEach [.Name "self" q3, .Name f q4] (cxOf CX P w K mg base ["self", f] qual scope fI cdv A outer s H E).env)) (backToKw q5 (keywordEach [] (cxOf CX P w K mg base ["self", f] qual scope fI cdv A outer s H E).env))))
    (hm : mg "LoneError" = some (.ref B0)) (hsp : PySem.W.specialIn K (.ref B0) "__getattribute__" = some (some (.builtin "type.__getattribute__"))) (hr : PySem.W.readsIn K B0 (.type "type") = true)
    (vV : PySem.W.findCls K (.ref B0) (.type "type") "__init__" = some (.val (.builtin "ValueError.__init__"))) (T : OexC K C) (hno : PySem.W.findIn K (.ref C) f = some none) :
    FnOk P w K mg base CX (k + 1) fI (PySem.W.fnOf name qual params [.Expr (.Call (.Attribute (.Name "LoneError" q1) "__init__" q2) [.Name "self" q3, .Name f q4] [] q5) q6, .Assign [.Attribute (.Name "self" q7) f q8] (.Name f q9) q10] scope dV kV doc pm an cdv ct) ["self", f] (spI C f) := by
  refine fn_of lk hcd S (fun vs H Q E ⟨a, n, e, _⟩ => by rw [e]; rfl) fun A outer s H vs Q E hro ⟨a, n, e, ha, hq⟩ => ?_
  subst e
  have v0 : ∀ q, PE (cxOf CX P w K mg base ["self", f] qual scope fI cdv A outer s H E) (.Name "self" q) (tVar 0) := fun q => pe_var rfl hv0
  have v1 : ∀ q, PE (cxOf CX P w K mg base ["self", f] qual scope fI cdv A outer s H E) (.Name f q) (tVar 1) := fun q => pe_var rfl hv1 hf1 hf2
  obtain ⟨pl, hc⟩ := hc A outer s H E
  refine ⟨_, pss_cons (ps_expr (pe_beinit (hc := hc) (hgl A outer s H E) hm hsp hr vV (pa_cons (v0 q3) (pa_cons (v1 q4) pa_nil)))) (pss_one (ps_ost (v0 q7) (v1 q9))), ?_⟩
  refine ⟨.ref a, rfl, .int n, rfl, a, C, [.int n], rfl, by simp, T, ha, ?_⟩
  refine ⟨.int n, rfl, .ref a, rfl, a, C, rfl, T, hno, .inl ⟨ha, fun dx h1 h2 => hq dx h1 h2⟩⟩
theorem pmkN_oex {CX : CXT} {k : Nat} {C fI : Addr} {fd : FuncData} {ps : List Str} {sp : Sp} {p : Pos} (T : OexC X.K C) (iC : PySem.W.findIn X.K (.ref C) "__init__" = some (some (.ref fI))) (tI : PySem.W.typeIn X.K (.ref fI) = some (.type "function"))
    (F1 : FnOk X.prog X.w X.K X.mg X.base CX k fI fd ps sp) (hr : Room (k + 1) X.A) (hb : Binds X.K fd ps []) (hx : Passes CX X (fun _ _ _ => False)) (hg : Gl X x) (hm : X.mg x = some (.ref C)) (ha : PA X (e :: es) ta)
    (hdb : (x == ("__debug__" : Str)) = false := by decide) (he : starEach (e :: es) X.env = (false, eval e X.env) :: starEach es X.env := by rfl) (hpl : (backTo pos (starEach es X.env)).any (·.1) = false := by rfl) :
    L2N.PMk X (.Call (.Name x p) (e :: es) [] pos) (tMkO C sp [] ta) := by
  intro pins s σ H Q I h
  obtain ⟨nm, q, N, bs, bm, sn, sub, ab, col, dd, k0, k1, k2, k3, k5, hC, hbm⟩ := T.cls
  refine wpAny_Call_Name_kw (ld_glob I hg hm ?_ hdb)
  refine PySem.W.callWith_K (h₀ := X.base) I.ok.mod.kin T.kC (thn (ha.run pos pins s σ H _ I h) fun us s1 ⟨vs, H1, I1, r1, hz, q1⟩ => ⟨I1.kIn, ?_⟩) he hpl
  show wpAny _ _ (call (.ref C) us) _ _ _
  obtain ⟨hp, g, dr, tk, os⟩ := s1
  have hsz : hp.objs.size ≤ hp.objs.size + 1 := Nat.le_succ _
  have hn : H1 (hp.objs.size + 1) = none := I1.hok.fresh hsz
  have hq := q1 (hp.objs.size + 1) hn
  rw [List.append_nil] at hq
  have kk : ∀ b o, hp.get? b = some o → ((hp.push (PySem.W.kdv_tup us)).push (PySem.HandSPX.excO C hp.objs.size)).get? b = some o := fun b o e => Heap.get?_push_of_some _ (Heap.get?_push_of_some _ e)
  have hget : ((hp.push (PySem.W.kdv_tup us)).push (PySem.HandSPX.excO C hp.objs.size)).get? (hp.objs.size + 1) = some (PySem.HandSPX.excO C hp.objs.size) := by heap_get
  have I2 : Inv X pins σ (upd H1 (hp.objs.size + 1) (exo (hp.objs.size + 1) C none)) ⟨(hp.push (PySem.W.kdv_tup us)).push (PySem.HandSPX.excO C hp.objs.size), g, dr, tk, os⟩ :=
    I1.laid (t' := tk) (a := hp.objs.size + 1) (o := exo (hp.objs.size + 1) C none) (h' := (hp.push (PySem.W.kdv_tup us)).push (PySem.HandSPX.excO C hp.objs.size)) kk hsz (exo_ok hget)
  have r2 : Vals (V.ref (hp.objs.size + 1) :: vs) (Value.ref (hp.objs.size + 1) :: us) := .cons rfl r1
  have hl : (Value.ref (hp.objs.size + 1) :: us ++ []).length = ps.length := by
    have e := r2.length
    rw [F1.len _ _ _ _ hq] at e
    rw [List.append_nil]
    exact e.symm
  have hus : us.length ≤ sizeLine := by
    rw [← Paired.length r1, sizeLine_eq]
    omega
  have b2 := hb _ (Value.ref (hp.objs.size + 1) :: us) I2.kIn hl
  rw [List.append_nil] at b2
  refine wpAny_call (PySem.HandSPX.call_own F.excBase_ValueError (fun Y => PySem.HandSPX.refsVE_contains Y bm hbm) (I1.kIn _ _ hC) (PySem.W.looks_findIn I1.kIn iC) (fun self => PySem.W.bind_fn I1.kIn self tI) hus
    (codeAny_mono (F1.run _ X.stack _ _ ⟨Value.ref (hp.objs.size + 1) :: us, []⟩ (Value.ref (hp.objs.size + 1) :: us) _ _ (fun _ _ _ => False) (hr.make C us []) (I2.env0.make C us []) b2 r2 hq) fun r s' hq' => ?_))
  cases r with
  | error er => exact hx pins σ _ _ er s' I2 hq'
  | ok fl =>
    cases fl with
    | ret u =>
      obtain ⟨v, H2, os2, bare2, un2, hok2, rv, ev, d, fs, ea, ed, hd1, q2⟩ := hq'
      subst ev
      obtain ⟨h2, g2, d2, t2, os'⟩ := s'
      obtain ⟨t0, G, J, kG, ge, hoe, na⟩ := mk_end0 (d2 := d2) (t2 := t2) I1 hsz kk un2 hok2 os2 bare2 ea ed hd1
      refine ⟨rv, ⟨hp.objs.size + 1, _, _, ⟨G, g2, d2, t2, os'⟩, _, .ref C, some d, rfl, J, kG, ge, hoe, ⟨rfl, rfl, fun vs hv => ?_⟩, rfl, rfl, na, rfl, bare2, raises_own T.exC T.tyC, q2⟩⟩
      cases hv
      rfl
    | next => exact False.elim hq'
    | brk => exact False.elim hq'
    | cont => exact False.elim hq'
structure ExcI (P : Program) (w : World) (K : PySem.W.Frag) (mg : Str → Option Value) (base : Heap) (k : Nat) (x f : Str) : Prop where
  ex : ∃ (C fI : Addr) (fd : FuncData), mg x = some (.ref C) ∧ OexC K C ∧ PySem.W.findIn K (.ref C) "__init__" = some (some (.ref fI)) ∧ PySem.W.typeIn K (.ref fI) = some (.type "function") ∧ FnOk P w K mg base (L2N.CX P w) k fI fd ["self", f] (spI C f) ∧ Binds K fd ["self", f] []
def dRaiseI (c f : Str) (g : M D) : MS := fun ρ => match g ρ with
  | some (.ok (.int n) ρ1) => some (.ex ⟨c, some (f, n)⟩, ρ1)
  | some (.ex y ρ1) => some (.ex y, ρ1)
  | _ => none
theorem vs_raiseI {k : Nat} {f : Str} {m : Bool} {g : M D} {p p3 pos : Pos} (hc : X.calm = true) (tk : L2N.Takes X W) (C : ExcI X.prog X.w X.K X.mg X.base k x f) (hr : Room (k + 1) X.A) (hg : Gl X x) (ha : VE X W m e g) (hdb : (x == ("__debug__" : Str)) = false := by decide)
    (he : starEach [e] X.env = [(false, eval e X.env)] := by rfl) : VSt X W [] (.Raise (some (.Call (.Name x p) [e] [] p3)) none pos) (dRaiseI x f g) := by
  obtain ⟨C, fI, fd, hm, T, iC, tI, F1, hb⟩ := C.ex
  have hx : Passes (L2N.CX X.prog X.w) X (fun _ _ _ => False) := fun pins σ H s e s' I ⟨a, B, H', cls, d, _, _, _, _, _, _, _, z⟩ => z.elim
  refine PS.imp (L2N.ps_raise hc tk (pmkN_oex T iC tI F1 hr hb hx hg hm (pa_cons ha pa_nil he) hdb he)) fun σ H E ⟨T0, ρ, fl, ρ', rep, hf, hend⟩ => ?_
  unfold dRaiseI at hf
  cases q : g ρ with
  | none => rw [q] at hf; cases hf
  | some r =>
    cases r with
    | ex y ρ1 =>
      rw [q] at hf
      have e1 : (Fl.ex y, ρ1) = (fl, ρ') := Option.some.inj hf
      cases e1
      exact ⟨T0, ρ, .ex y ρ', rep, q, fun cls dd H' xr rp => hend cls dd σ H' Kept.refl xr rp⟩
    | ok d ρ1 =>
      cases d with
      | int n =>
        rw [q] at hf
        have e1 : (Fl.ex ⟨x, some (f, n)⟩, ρ1) = (fl, ρ') := Option.some.inj hf
        cases e1
        refine ⟨T0, ρ, .ok (.int n) ρ', rep, q, fun v H1 _ r1 => ?_⟩
        have ev : v = .int n := RepT.eq_int r1.rep
        subst ev
        refine ⟨by simp, fun a hna => ⟨a, n, rfl, upd_same, fun dx hdx hne => ⟨rfl, dx, [(f, .int n)], upd_same, ?_, ?_, ?_⟩⟩⟩
        · rw [upd_ne hne, upd_same]
        · rwa [upd_ne hne] at hdx
        · rw [upd_ne hne] at hdx
          have eh : upd (del (upd (upd (upd H1 a (exo a C none)) dx (exd dx [(f, V.int n)])) a (exo a C (some dx))) a) dx (.xd [(f, V.int n)]) = upd H1 dx (.xd [(f, V.int n)]) := by
            funext b
            unfold upd del
            by_cases c1 : b = dx
            · rw [if_pos c1, if_pos c1]
            · rw [if_neg c1, if_neg c1]
              by_cases c2 : b = a
              · rw [if_pos c2, c2, hna]
              · rw [if_neg c2]
                dsimp only
                rw [if_neg c2, if_neg c1, if_neg c2]
          rw [eh]
          exact hend (.ref C) (some dx) σ _ Kept.refl ⟨C, rfl, hm, dx, rfl, upd_same⟩ (by
            show Rep X.K (del (upd H1 dx (.xd [(f, .int n)])) dx) T0 _ σ
            have ed : del (upd H1 dx (.xd [(f, .int n)])) dx = H1 := by
              funext b
              unfold upd del
              by_cases c1 : b = dx
              · rw [if_pos c1, c1, hdx]
              · rw [if_neg c1]
                dsimp only
                rw [if_neg c1]
            rw [ed]
            exact r1.drop)
      | _ => rw [q] at hf; cases hf
theorem ExcI.mono {P : Program} {w : World} {base : Heap} {j k : Nat} {f : Str} (c : ExcI P w K mg base j x f) (h : j ≤ k) : ExcI P w K mg base k x f := by
  obtain ⟨C, fI, fd, h1, h2, h3, h4, h5, h6⟩ := c.ex
  exact ⟨C, fI, fd, h1, h2, h3, h4, h5.mono h, h6⟩
theorem excI_mk {P : Program} {w : World} {base h : Heap} {f qual : Str} {st : Stmt} {C fI : Addr} {oc kV doc pm cdv ct : Value} {an od : Option Addr} {osl : Array (Option Value)} {q1 q2 q3 q4 q5 q6 q7 q8 q9 q10 : Pos}
    {nm q : Str} {N : Addr} {bs bm : List Value} {sn : List Str} {sub : List Value} {ab : Bool} {col : Option Bool} {dd : Option Addr} {k0 k1 k2 k3 k5 : Option Value}
    (Y : K.In h) (G : h.Ns mainGlobals mg) (a : PySem.W.nsIn K mainGlobals x = some (some (.ref C))) (lx : K.lookup C = some (excClassObj nm q C N bs bm true sn sub ab col dd k0 k1 k2 k3 k5 "ValueError.__new__")) (hbm : PySem.HandSPX.refsVE bm = true)
    (sa : PySem.W.findIn K (.ref C) "__setattr__" = some (some (.builtin "object.__setattr__"))) (sb : PySem.W.subIn K (.ref C) (.type "BaseException") = some true) (ty : PySem.W.typeIn K (.ref C) = some (.type "type")) (kp : PySem.W.keepIn K (.ref C) = true)
    (iC : PySem.W.findIn K (.ref C) "__init__" = some (some (.ref fI))) (tI : PySem.W.typeIn K (.ref fI) = some (.type "function"))
    (l : K.lookup fI = some ⟨oc, od, .func (PySem.W.fnOf "__init__" qual (defArgs st) (defBody st) (defScope st) .none kV doc pm an cdv ct), osl⟩) (c : PySem.W.codeIn K cdv qual = true)
    (aB : PySem.W.nsIn K mainGlobals "LoneError" = some (some (.ref B0))) (hsp : PySem.W.specialIn K (.ref B0) "__getattribute__" = some (some (.builtin "type.__getattribute__"))) (hr : PySem.W.readsIn K B0 (.type "type") = true)
    (vV : PySem.W.findCls K (.ref B0) (.type "type") "__init__" = some (.val (.builtin "ValueError.__init__"))) (hno : PySem.W.findIn K (.ref C) f = some none)
    (hst : defBody st = [.Expr (.Call (.Attribute (.Name "LoneError" q1) "__init__" q2) [.Name "self" q3, .Name f q4] [] q5) q6, .Assign [.Attribute (.Name "self" q7) f q8] (.Name f q9) q10])
    (S : FnScope ["self", f] ["self", f] (defScope st)) (hv0 : Vis (defScope st) "self") (hv1 : Vis (defScope st) f) (hf1 : (f == ("__debug__" : Str)) = false) (hf2 : (f == ("__classdict__" : Str)) = false)
    (hb : ∀ (kV doc pm : Value) (an : Option Addr) (cdv ct : Value) (us : List Value), us.length = 2 → bindArgs (PySem.W.fnOf "__init__" qual (defArgs st) (defBody st) (defScope st) .none kV doc pm an cdv ct) ⟨us, []⟩ = pure ((["self", f] : List Str).zip us))
    (hgl : ∀ (A : Around) (outer : List PySem.Env) (s : Shared) (H : Hp) (E : XK), Gl (cxOf (L2N.CX P w) P w K mg base ["self", f] qual (defScope st) fI cdv A outer s H E) "LoneError")
    (hc : ∀ (A : Around) (outer : List PySem.Env) (s : Shared) (H : Hp) (E : XK), ∃ pl : Sem Bool, eval (.Call (.Attribute (.Name "LoneError" q1) "__init__" q2) [.Name "self" q3, .Name f q4] [] q5) (cxOf (L2N.CX P w) P w K mg base ["self", f] qual (defScope st) fI cdv A outer s H E).env = (do
      let ov ← eval (.Name "LoneError" q1) (cxOf (L2N.CX P w) P w K mg base ["self", f] qual (defScope st) fI cdv A outer s H E).env
      standAt q2.atName
      let (g, first) ← holding [ov] (getMethod ov "__init__" pl)
      callWith q5 g first (backTo q5 (starEach [.Name "self" q3, .Name f q4] (cxOf (L2N.CX P w) P w K mg base ["self", f] qual (defScope st) fI cdv A outer s H E).env)) (backToKw q5 (keywordEach [] (cxOf (L2N.CX P w) P w K mg base ["self", f] qual (defScope st) fI cdv A outer s H E).env)))) :
    ExcI P w K mg base 1 x f := by
  have T : OexC K C := ⟨⟨nm, q, N, bs, bm, sn, sub, ab, col, dd, k0, k1, k2, k3, k5, lx, hbm⟩, sa, sb, ty, kp⟩
  have hb2 := fun us hu => hb kV doc pm an cdv ct us hu
  rw [hst] at l hb2
  refine ⟨C, fI, _, PySem.W.mg_of Y G a, T, iC, tI, init_fn (k := 0) l c S hv0 hv1 hf1 hf2 hgl hc (PySem.W.mg_of Y G aB) hsp hr vV T hno, .all fun us hu => hb2 us hu⟩
end
end VS
set_option Elab.async false
set_option linter.all false
set_option maxRecDepth 100000
set_option maxHeartbeats 4000000
set_option autoImplicit false
noncomputable section
namespace VS
open PySem PySem.Spec PyProof.Rows L2
section
variable {P : Program} {w : World} {A : Around} {E : Value → Shared → Prop} {s : Shared}
end
section
variable {X : Cx} {W : WX} {K : PySem.W.Frag} {m : Bool}
end
end VS
set_option Elab.async false
set_option linter.all false
set_option maxRecDepth 100000
set_option maxHeartbeats 4000000
set_option autoImplicit false
noncomputable section
namespace VS
open PySem PySem.Spec PyProof.Rows L2
section
variable {X : Cx} {K : PySem.W.Frag}
end
end VS
set_option Elab.async false
set_option linter.all false
set_option maxRecDepth 100000
set_option maxHeartbeats 4000000
set_option autoImplicit false
noncomputable section
namespace VS
open PySem PySem.Spec PyProof.Rows L2
section
variable {X : Cx} {K : PySem.W.Frag}
end
end VS
set_option Elab.async false
set_option linter.all false
set_option maxRecDepth 100000
set_option maxHeartbeats 4000000
set_option autoImplicit false
noncomputable section
namespace VS
open PySem PySem.Spec PyProof.Rows L2
section
variable {X : Cx} {K : PySem.W.Frag}
end
end VS
set_option Elab.async false
set_option linter.all false
set_option maxRecDepth 100000
set_option maxHeartbeats 4000000
set_option autoImplicit false
noncomputable section
namespace VS
open PySem PySem.Spec PyProof.Rows L2
section
variable {X : Cx} {K : PySem.W.Frag}
end
end VS
set_option Elab.async false
set_option linter.all false
set_option maxRecDepth 100000
set_option maxHeartbeats 4000000
set_option autoImplicit false
noncomputable section
namespace VS
open PySem PySem.Spec PyProof.Rows L2
section
variable {prog : Program} {w : World} {A : Around} {E : Value → Shared → Prop} {s : Shared}
end
section
variable {X : Cx} {pins : List (Addr × Obj)} {σ : L2.St} {H : Hp} {s : Shared} {L : List (D × V)}
theorem RepT.tab {P c : Addr} {q : Str} {pos : Pos} {K : PySem.W.Frag} {ps : Array Value} (hg : ghP = some (P, q)) (hP : H P = some (.tbl ps)) (ht : TriplesOk ps.toList) (hc : H c = none) (r : RepT K H L) :
    RepT K (upd (upd H P (.tbl (ps ++ #[rawInt pos.line, rawInt pos.col, .ref c]))) c (LamX.CodeO c q)) L := by
  obtain ⟨F, A, sF, nd, fr, o⟩ := r
  have Pc : P ≠ c := ne_of_none hP hc
  have g := sF.gh
  unfold GhOk at g
  rw [hg] at g
  obtain ⟨g1, ps', g2, _, g4⟩ := g
  have g1 : F P = none := g1
  have e : ps' = ps := by
    have : H P = some (.tbl ps') := g2
    rw [hP] at this; injection this with this; injection this with this; exact this.symm
  subst e
  have fc : F c = none := sF.none hc
  have sU : Same F (upd F c (LamX.CodeO c q)) := fun b o e => by
    rw [upd_ne fun z => by rw [z, fc] at e; cases e]; exact e
  have off : ∀ a ∈ A, upd (upd H P (.tbl (ps' ++ #[rawInt pos.line, rawInt pos.col, .ref c]))) c (LamX.CodeO c q) a = H a := fun a ha => by
    obtain ⟨u, e, n⟩ := o.dom a ha
    rw [upd_ne fun z => (by rw [z, hc] at e; cases e), upd_ne fun z => by rw [z, hP] at e; exact n.2 _ (Option.some.inj e).symm]
  refine ⟨upd F c (LamX.CodeO c q), A, ⟨fun b u e => ?_, ?_⟩, nd, fun a ha => ?_, o.keep sU off⟩
  · by_cases z : b = c
    · subst z; rw [upd_same] at e ⊢; exact e
    · rw [upd_ne z] at e ⊢
      rw [upd_ne fun z2 => by rw [z2, g1] at e; cases e]
      exact sF.sm _ _ e
  · unfold GhOk
    rw [hg]
    refine ⟨by rw [upd_ne Pc]; exact g1, _, by rw [upd_ne Pc, upd_same], by
      rw [show (ps' ++ #[rawInt pos.line, rawInt pos.col, .ref c]).toList = ps'.toList ++ [rawInt pos.line, rawInt pos.col, .ref c] by simp]
      exact PySem.TriplesOk_snoc _ _ _ _ ht, fun p' cv hcv => ?_⟩
    rw [show (ps' ++ #[rawInt pos.line, rawInt pos.col, .ref c]).toList = ps'.toList ++ [rawInt pos.line, rawInt pos.col, .ref c] by simp] at hcv
    rcases LamX.among_app _ ht hcv with z | z
    · obtain ⟨c0, e1, e2⟩ := g4 p' cv z
      exact ⟨c0, e1, sU _ _ e2⟩
    · exact ⟨c, z, upd_same⟩
  · have na : a ≠ c := fun z => by
      obtain ⟨u, e, n⟩ := o.dom a ha
      rw [z, hc] at e; cases e
    rw [upd_ne na]; exact fr a ha
end
section
variable {X : Cx} {W : WX} {K : PySem.W.Frag} {mg : Str → Option Value} {H : Hp} {T L : List (D × V)} {ρ : Env} {σ : St} {m : Bool}
def frB (sc scope : Scope) : Bool := scope.names.all fun y => !decide (y.2 = .free) || decide (sc.names.lookup y.1 = some .cell) || decide (sc.names.lookup y.1 = some .free)
end
section
variable {K : PySem.W.Frag} {mg : Str → Option Value}
end
end VS
set_option Elab.async false
set_option linter.all false
set_option maxRecDepth 100000
set_option maxHeartbeats 4000000
set_option autoImplicit false
noncomputable section
namespace VS
open PySem PySem.Spec PyProof.Rows L2
section
variable {K : PySem.W.Frag} {mg : Str → Option Value}
end
end VS
set_option Elab.async false
set_option linter.all false
set_option maxRecDepth 100000
set_option maxHeartbeats 4000000
set_option autoImplicit false
noncomputable section
namespace VS
open PySem PySem.Spec PyProof.Rows L2
section
variable {X : Cx} {pins : List (Addr × Obj)} {σ : St} {H : Hp} {s : Shared} {d : Addr} {o : Obj}
end
section
variable {P : Program} {w : World} {K : PySem.W.Frag} {tg : Expr} {d : Addr} {o : Obj} {es : Array DictEntry} {ep : Nat}
end
section
variable {X : Cx} {tg e : Expr} {td : TE} {apos cpos : Pos}
end
section
variable {X : Cx} {W : WX} {K : PySem.W.Frag} {H H1 : Hp} {T L : List (D × V)} {ρ ρ' : Env} {σ : St} {m : Bool}
end
end VS
set_option Elab.async false
set_option linter.all false
set_option maxRecDepth 100000
set_option maxHeartbeats 4000000
set_option autoImplicit false
noncomputable section
namespace VS
open PySem PySem.Spec PyProof.Rows L2
section
variable {X : Cx} {K : PySem.W.Frag}
end
end VS
set_option Elab.async false
set_option linter.all false
set_option maxRecDepth 100000
set_option maxHeartbeats 4000000
set_option autoImplicit false
noncomputable section
namespace VS
open PySem PySem.Spec PyProof.Rows L2
section
variable {X : Cx} {W : WX} {K : PySem.W.Frag} {mg : Str → Option Value} {H H1 : Hp} {T L : List (D × V)} {ρ ρ' : Env} {σ σ' σ'' : St} {m : Bool}
end
end VS
set_option Elab.async false
set_option linter.all false
set_option maxRecDepth 100000
set_option maxHeartbeats 4000000
set_option autoImplicit false
noncomputable section
namespace VS
open PySem PySem.Spec PyProof.Rows L2
section
variable {X : Cx} {W : WX} {K : PySem.W.Frag} {mg : Str → Option Value} {F H H1 : Hp} {T L : List (D × V)} {ρ ρ' : Env} {σ σ' σ'' : St} {m mo me : Bool}
end
end VS
set_option Elab.async false
set_option linter.all false
set_option maxRecDepth 100000
set_option maxHeartbeats 4000000
set_option autoImplicit false
noncomputable section
namespace VS
open PySem PySem.Spec PyProof.Rows L2
section
variable {X : Cx} {W : WX} {K : PySem.W.Frag} {F H H1 : Hp} {T L : List (D × V)} {ρ ρ' : Env} {σ σ' σ'' : St} {m : Bool}
end
end VS
set_option Elab.async false
set_option linter.all false
set_option maxRecDepth 100000
set_option maxHeartbeats 4000000
set_option autoImplicit false
noncomputable section
namespace VS
open PySem PySem.Spec PyProof.Rows L2
section
variable {X : Cx} {W : WX} {K : PySem.W.Frag} {m : Bool}
end
end VS
set_option Elab.async false
set_option linter.all false
set_option maxRecDepth 100000
set_option maxHeartbeats 4000000
set_option autoImplicit false
noncomputable section
namespace VS
open PySem PySem.Spec PyProof.Rows L2
section
variable {X : Cx} {W : WX} {K : PySem.W.Frag} {mg : Str → Option Value} {F H H1 : Hp} {T L : List (D × V)} {ρ ρ' : Env} {σ σ' σ'' : St} {m : Bool} {asg a1 a2 : List Nat}
structure OfF (K : PySem.W.Frag) (mg : Str → Option Value) (c : Str) (p : Addr × Obj) : Prop where
  ex : ∃ C, mg c = some (.ref C) ∧ ExcC K C ∧ p.2.cls = .ref C ∧ (∃ b, p.2.dict = some b) ∧ ∃ vs, p.2.data = .fields vs ∧ vs[2]? = some .none
def HasD (s : Shared) (p : Addr × Obj) : Prop := ∀ b, p.2.dict = some b → ∃ o, s.heap.get? b = some o
theorem clsSome {C : Addr} (c : ExcC K C) : (PySem.W.clsIn K C).isSome = true := by
  obtain ⟨cd, hc, _⟩ := PySem.W.any_some c.hd
  rw [hc]
  rfl
theorem instF {D b : Addr} {oe od : Obj} {h : Heap} {a : Addr} (hc : oe.cls = .ref D) (hd : oe.dict = some b) (hf : ∃ vs, oe.data = .fields vs) (hget : h.get? a = some oe) (hg2 : h.get? b = some od) : PySem.W.InstAt h a oe D (some od) := by
  obtain ⟨vs, hv⟩ := hf
  exact ⟨hget, hc, by unfold PySem.W.notCls; rw [hv] <;> rfl, by rw [hd]; exact hg2⟩
theorem call_isF {a D : Addr} {oe : Obj} (hp : (a, oe) ∈ X.pn) (C : ExcC X.K D) (hc : oe.cls = .ref D) (hd : ∃ b, oe.dict = some b ∧ ∃ o, X.s_0.heap.get? b = some o) (hx : X.ex = []) (hf : ∃ vs, oe.data = .fields vs) : CallR X (.builtin "isinstance") (rIsX X.K D a) := by
  intro pins s σ H xs us Q I r h
  obtain ⟨c, u, b, rfl, k, e, q⟩ := h
  obtain ⟨q1, hq2, o0, hq3⟩ := hd
  obtain ⟨o1, hq4⟩ := I.base.there q1 o0 hq3 (by rw [hx]; simp)
  cases r with
  | cons rx rr =>
    cases rr with
    | cons rt rr =>
      cases rr
      cases rx
      cases k.eq rt
      exact PySem.W.kia_one (PySem.W.kitx_exc (clsSome C) C.hg C.hk C.hs C.ha C.hn C.ht C.hm) I.kIn (instF hc hq2 hf (I.pin (a, oe) (List.mem_append_left _ hp)).1 hq4) e (fun z => nomatch z) fun tk => ⟨.bl b, H, I.tok tk, rfl, q⟩
theorem ve_isf1 {a : Addr} {oe : Obj} {tab : Tab} {c t : Str} {e ct : Expr} {f : M D} {p pos : Pos} (hp : (a, oe) ∈ X.pn) (ho : OfF X.K X.mg c (a, oe)) (hd0 : HasD X.s_0 (a, oe)) (hx : X.ex = []) (ok : TabOk X.K X.mg tab) (hg : Gl X "isinstance") (hm : X.mg "isinstance" = none) (he : VE X W m e f) (hc : CE X ct t)
    (hs1 : starEach [ct] X.env = (false, eval ct X.env) :: starEach [] X.env := by rfl) (hs : starEach [e, ct] X.env = (false, eval e X.env) :: starEach [ct] X.env := by rfl) (hpl : (backTo pos (starEach [ct] X.env)).any (·.1) = false := by rfl) : VE X W m (.Call (.Name "isinstance" p) [e, ct] [] pos) (dIsx a tab c [t] f) := by
  obtain ⟨C, hC, xc, o1, ⟨bb, o2⟩, vs, o3, _⟩ := ho.ex
  obtain ⟨cv, u, pc, kc, ku⟩ := hc.ex
  refine PE.imp (pe_callB (call_isF hp xc o1 ⟨bb, o2, hd0 bb o2⟩ hx ⟨vs, o3⟩) hg hm (by decide +kernel) (pa_cons he (pa_cons pc pa_nil hs1) hs) (by decide) (by decide) hs hpl) fun σ H Q ⟨T, ρ, w, rep, hf, hend⟩ => ?_
  refine run1 rep hf hend fun d ρ1 v H1 h1 s1 r1 => ?_
  obtain ⟨x, ex, rfl⟩ := optM_some h1
  obtain ⟨rfl, b, eb, rfl⟩ := isxD_inv ex
  have ev := RepT.eq_adr r1.rep
  subst ev
  refine ⟨cv, u, b, rfl, kc, ?_, hend _ H1 s1 (r1.drop.lift fun q => q.bl)⟩
  rw [tabAny] at eb
  cases e1 : tabL tab c t with
  | none => rw [e1] at eb; cases eb
  | some k =>
    rw [e1] at eb
    rw [ok.one e1 hC ku]
    cases k
    · exact eb
    · exact eb
structure FnF (P : Program) (w : World) (K : PySem.W.Frag) (mg : Str → Option Value) (base : Heap) (CX : CXT) (k : Nat) (f : Addr) (fd : FuncData) (ps : List Str) (sp : Addr × Obj → Sp) : Prop where
  len : ∀ p vs H Q E, sp p vs H Q E → vs.length = ps.length
  run : ∀ (p : Addr × Obj) (A : Around) (outer : List PySem.Env) (s : Shared) (H : Hp) (args : Args) (us : List Value) (vs : List V) (Q : VK) (E : XK), L2H.RoomH k A → L2H.Hot1 A p → L2H.PinOk outer H s p → HasD s p → Env0 P w K mg base A outer s H → BindsTo s fd args (ps.zip us) → Vals vs us → sp p vs H Q E →
    codeAny (model P w) A (.call (.ref f) args) (CR CX outer P w H s Q E) s
theorem fnF_of {CX : CXT} {P : Program} {w : World} {base : Heap} {k : Nat} {x qual : Str} {st : Stmt} {f : Addr} {fd : FuncData} {N ps : List Str} {sp : Addr × Obj → Sp} (F : Fun K x qual st f fd) (S : FnScope N ps (defScope st)) (len : ∀ p vs H Q E, sp p vs H Q E → vs.length = ps.length)
    (hbody : ∀ (cdv : Value) (A : Around) (outer : List PySem.Env) (s : Shared) (H : Hp) (vs : List V) (Q : VK) (E : XK) (p : Addr × Obj), L2H.Hot1 A p → HasD s p → L2H.RoomH k (A.deeper (envOfC qual (defScope st) s.heap.objs.size f cdv)) → sp p vs H Q E →
      ∃ t, PSs (L2H.cxH CX P w K mg base N qual (defScope st) f cdv A outer s H E p) (defBody st) t ∧ t { nx := fun _ H' => Q .non H', rt := Q } (L2.start N vs) H) :
    FnF P w K mg base CX (k + 1) f fd ps sp := by
  obtain ⟨oc, od, kV, doc, pm, an, cdv, ct, osl, rfl, lk, hcd⟩ := F.ex
  refine ⟨len, fun p A outer s H args us vs Q E hr hot hpin hdd e0 hb r hsp => ?_⟩
  have hl := len _ _ _ _ _ hsp
  have kin : K.In s.heap := e0.mod.kin.keeps fun b o e => (e0.bs b o e).1
  have lim := e0.mod.nolimit.keeps fun b o e => (e0.bs b o e).1
  refine codeAny_call_function hr.depth (kin _ _ lk) rfl S.co S.gen rfl (PySem.W.codeRec_of kin hcd) (hb _ _ _ _ (wpAny_newFunctionEnv_cells S.kind (fun ⟨n, v⟩ hy => ?_) fun env he s1 x => ?_))
  · rcases S.par n (List.of_mem_zip hy).1 with q | q
    · exact .inl q
    · exact .inr ⟨q, PySem.W.cellsFrom_some _ _ _ (.inl q)⟩
  · subst he
    obtain ⟨t, ht, hq⟩ := hbody cdv A outer s H vs Q E p hot hdd (hr.deeper _) hsp
    have J := L2H.inv_startH (E := E) (CX := CX) S hpin e0 hl r x
    refine ⟨lim.keeps x.toInCall.keep, codeAny_func (wpAny_mono (ht.run [] s1 (L2.start N vs) H _ J hq) (fun fl s' hs => ?_) fun e s' hs => hs)⟩
    cases fl with
    | ret u =>
      obtain ⟨v, σ1, H', J1, rv, q⟩ := hs
      exact ⟨v, H', J1.os, J1.bare, J1.base, J1.hok, rv, q⟩
    | next =>
      obtain ⟨σ1, H', J1, q⟩ := hs
      exact ⟨.non, H', J1.os, J1.bare, J1.base, J1.hok, rfl, q⟩
    | brk => obtain ⟨_, _, _, q⟩ := hs; exact q.elim
    | cont => obtain ⟨_, _, _, q⟩ := hs; exact q.elim
theorem run_fnF {CX : CXT} {k : Nat} {f : Addr} {fd : FuncData} {ps : List Str} {sp : Addr × Obj → Sp} {E : St → XK} {pins : List (Addr × Obj)} {s : Shared} {Q : VK} {us : List Value} {vs : List V} {p : Addr × Obj} (F : FnF X.prog X.w X.K X.mg X.base CX k f fd ps sp) (hr : L2H.RoomH k X.A) (hot : L2H.Hot1 X.A p) (hp : p ∈ X.pn) (hdp : ∀ b, p.2.dict = some b → ∃ od, (b, od) ∈ X.pn) (hb : Binds X.K fd ps []) (hx : PassesAt CX X σ (E σ))
    (I : Inv X pins σ H s) (r : Vals vs us) (h : sp p vs H Q (E σ)) : wpAny (model X.prog X.w) X.A (call (.ref f) us) (EP X pins σ Q) X.xe s := by
  have hl : us.length = ps.length := by rw [← r.length]; exact F.len _ _ _ _ _ h
  have b := hb s us I.kIn (by rw [List.append_nil]; exact hl)
  rw [List.append_nil] at b
  obtain ⟨p1, p2, p3, p4, p5⟩ := I.pin p (List.mem_append_left _ hp)
  refine wpAny_call (codeAny_mono (F.run p X.A X.stack s H ⟨us, []⟩ us vs Q (E σ) hr hot ⟨p1, p2, fun hm => (List.mem_cons.mp (I.stkSub p.1 hm)).elim p3 p4, p5⟩ (fun bb eb => (hdp bb eb).elim fun od ho => ⟨od, (I.pin (bb, od) (List.mem_append_left _ ho)).1⟩) I.env0 b r h) fun r s' hq => ?_)
  cases r with
  | error e => exact hx pins H s e s' I hq
  | ok fl =>
    cases fl with
    | ret u => exact I.after hq
    | next => exact hq.elim
    | brk => exact hq.elim
    | cont => exact hq.elim
def spF (K : PySem.W.Frag) (mg : Str → Option Value) (Fd : FnX) : Addr × Obj → Sp := fun p vs H Q E => ∃ c, OfF K mg c p ∧ spOf K mg (Fd p.1 c) vs H Q E
structure CalF (P : Program) (w : World) (K : PySem.W.Frag) (mg : Str → Option Value) (base : Heap) (k : Nat) (x : Str) (ps : List Str) (Fd : FnX) : Prop where
  ex : ∃ (fa : Addr) (fd : FuncData), FnF P w K mg base (L2N.CX P w) k fa fd ps (spF K mg Fd) ∧ mg x = some (.ref fa) ∧ PySem.W.keepIn K (.ref fa) = true ∧ Binds K fd ps []
theorem calF_mk {P : Program} {w : World} {base : Heap} {x : Str} {st : Stmt} {N ps : List Str} {k : Nat} {g : Addr → Str → MS} (D : Def K mg x st ps) (S : FnScope N ps (defScope st))
    (hbody : ∀ (f : Addr) (cdv : Value) (A : Around) (outer : List PySem.Env) (s : Shared) (H : Hp) (E : XK) (a : Addr) (oe : Obj) (c : Str), OfF K mg c (a, oe) → L2H.Hot1 A (a, oe) → HasD s (a, oe) → L2H.RoomH k (A.deeper (envOfC x (defScope st) s.heap.objs.size f cdv)) →
      VSs (L2H.cxH (L2N.CX P w) P w K mg base N x (defScope st) f cdv A outer s H E (a, oe)) (fun cls d _ H => E cls d H) asg (defBody st) (g a c)) :
    CalF P w K mg base (k + 1) x ps (fun a c => fnD N.length ps.length asg (g a c)) := by
  obtain ⟨f, fd, F, hm, hb⟩ := D.ex
  refine ⟨f, fd, fnF_of F S (fun p vs H Q E ⟨c, _, h⟩ => ?_) (fun cdv A outer s H vs Q E p hot hdd hr ⟨c, hc, h⟩ => ?_), hm, F.kp, hb⟩
  · obtain ⟨L, as, o, l, _, hf, _⟩ := h
    have hf : fnD N.length ps.length asg (g p.1 c) as = some o := hf
    unfold fnD at hf
    by_cases z : as.length = ps.length ∧ ps.length ≤ N.length
    · rw [← l]; exact z.1
    · rw [if_neg z] at hf; cases hf
  · obtain ⟨a, oe⟩ := p
    exact ⟨_, hbody f cdv A outer s H E a oe c hc hot hdd hr, body_sp (X := L2H.cxH (L2N.CX P w) P w K mg base N x (defScope st) f cdv A outer s H E (a, oe)) h⟩
theorem ve_fnF {ks : List (Option Nat)} {Fd : FnX} {f : M (List D)} {k : Nat} {ps : List Str} {x c : Str} {a : Addr} {oe : Obj} {e : Expr} {es : List Expr} {p pos : Pos} (C : CalF X.prog X.w X.K X.mg X.base k x ps Fd) (hr : L2H.RoomH k X.A) (hot : L2H.Hot1 X.A (a, oe)) (hp : (a, oe) ∈ X.pn) (hdp : ∀ b, oe.dict = some b → ∃ od, (b, od) ∈ X.pn) (ho : OfF X.K X.mg c (a, oe)) (hg : Gl X x) (tk : L2N.Takes X W) (ha : VIO X W m ks (e :: es) f) (hdb : (x == ("__debug__" : Str)) = false := by decide)
    (he : starEach (e :: es) X.env = (false, eval e X.env) :: starEach es X.env := by rfl) (hpl : (backTo pos (starEach es X.env)).any (·.1) = false := by rfl) : VE X W true (.Call (.Name x p) (e :: es) [] pos) (dFn ks (Fd a c) f) := by
  obtain ⟨fa, fd, G, h1, h2, h3⟩ := C.ex
  have pe : PE X (.Call (.Name x p) (e :: es) [] pos) (tCallS (spF X.K X.mg Fd (a, oe)) (WE W) (taIO X.K X.mg W m ks f)) := ⟨fun pins s σ H Q I h => by
    refine wpAny_Call_Name_kw (ld_glob I hg h1 ?_ hdb)
    refine PySem.W.callWith_K (h₀ := X.base) I.ok.mod.kin h2 (thn (ha.run pos pins s σ H _ I h) fun us s1 ⟨vs, H1, I1, r, q⟩ => ⟨I1.kIn, ?_⟩) he hpl
    exact run_fnF G hr hot hp hdp h3 (L2N.passAt tk σ) I1 r q⟩
  refine PE.imp pe fun σ H Q h => ?_
  obtain ⟨T0, ρ0, r0, rep0, e0, k0⟩ := tFn_of h
  refine ⟨T0, ρ0, r0, rep0, e0, ?_⟩
  cases r0 with
  | ex x ρ1 => exact k0
  | ok ds ρ1 => exact fun tv vs H1 s1 l1 io r1 => ⟨c, ho, k0 tv vs H1 s1 l1 io r1⟩
structure XdO (od : Obj) (f : Str) (n : Int) : Prop where
  lk : ∃ u, PySem.W.lookIn f od = some (some u) ∧ RelV (.int n) u
theorem Inv.pinX {a b : Addr} {oe od : Obj} {pn pins : List (Addr × Obj)} {s : Shared} {H : Hp} {σ : St} {fs : List (Str × V)} (I : Inv (X.suite a ((a, oe) :: pn)) pins σ H s) (hb : H b = some (.xd fs)) (ho : s.heap.get? b = some od) (hc : ∀ v, od.data ≠ .cell v) :
    Inv (X.suite a ((a, oe) :: (b, od) :: pn)) pins σ (del H b) s := by
  have ok := I.ok
  have B := I.base
  have nb : ∀ c u, H c = some u → (∀ fs, u ≠ .xd fs) → c ≠ b := fun c u e n z => by
    rw [z, hb] at e
    cases e
    exact n _ rfl
  have nL : b ≠ X.env.locals := fun z => by
    have := I.free
    rw [z] at hb
    have hb' : H X.env.locals = some (.xd fs) := hb
    have e : H X.env.locals = none := this
    rw [e] at hb'
    cases hb'
  have nF : b ∉ X.fs := fun hm => by
    obtain ⟨_, o, e, _⟩ := ok.funs.mem hm
    have h0 : X.H_0 b = none := ok.frf b hm
    have := B.free b o e h0 fun hx => ok.exfs b hx hm
    rw [hb] at this
    cases this
  refine ⟨⟨ok.mod, ok.kind, ok.glob, ok.blt, ok.above, ok.inj, ok.has, ok.cab, ok.hd, ok.frames, ok.stk, ok.exf, ok.bs, ok.bsz, ok.noex, ok.exfs, ok.funs, ok.frf⟩, I.os, I.bare, ⟨B.keep, B.slot, fun c o e n hx => ?_, B.there, fun c xs e => ?_, fun c o u e => ?_, fun c ps e => ?_⟩, I.loc, I.cell, ?_, fun x c e => ?_, fun p hp => ?_, fun c u e => ?_, I.len⟩
  · unfold L2.del
    split
    · rfl
    · exact B.free c o e n hx
  · have := B.tups c xs e
    rw [del_ne (nb _ _ this fun _ z => by cases z)]
    exact this
  · have := B.frzs c o u e
    rw [del_ne (nb _ _ this fun _ z => by cases z)]
    exact this
  · obtain ⟨more, q⟩ := B.tbls c ps e
    exact ⟨more, by rw [del_ne (nb _ _ q fun _ z => by cases z)]; exact q⟩
  · unfold L2.del
    split
    · rfl
    · exact I.free
  · unfold L2.del
    split
    · rfl
    · exact I.freeC x c e
  · have dn : ∀ c, H c = none → del H b c = none := fun c q => by
      unfold L2.del
      split
      · rfl
      · exact q
    have hp' : p ∈ (a, oe) :: (b, od) :: (pn ++ pins) := hp
    rcases List.mem_cons.mp hp' with e | h
    · obtain ⟨p1, p2, p3⟩ := I.pin p (by rw [e]; exact List.mem_append_left _ List.mem_cons_self)
      exact ⟨p1, dn _ p2, p3⟩
    · rcases List.mem_cons.mp h with e | h
      · rw [e]
        exact ⟨ho, del_same, nL, nF, hc⟩
      · obtain ⟨p1, p2, p3⟩ := I.pin p (show p ∈ (a, oe) :: (pn ++ pins) from List.mem_cons_of_mem _ h)
        exact ⟨p1, dn _ p2, p3⟩
  · have nc : c ≠ b := fun z => by rw [z, del_same] at e; cases e
    rw [del_ne nc] at e
    exact (I.hok c u e).stay (fun _ _ _ q => q) (fun c2 q => by rw [del_ne (nb _ _ q fun _ z => by cases z)]; exact q) fun c2 xs q => by rw [del_ne (nb _ _ q fun _ z => by cases z)]; exact q
theorem Inv.unpinX {a b : Addr} {oe od : Obj} {pn pins : List (Addr × Obj)} {s : Shared} {H : Hp} {σ : St} (I : Inv (X.suite a ((a, oe) :: (b, od) :: pn)) pins σ H s) : Inv (X.suite a ((a, oe) :: pn)) pins σ H s := by
  have ok := I.ok
  refine ⟨⟨ok.mod, ok.kind, ok.glob, ok.blt, ok.above, ok.inj, ok.has, ok.cab, ok.hd, ok.frames, ok.stk, ok.exf, ok.bs, ok.bsz, ok.noex, ok.exfs, ok.funs, ok.frf⟩, I.os, I.bare, I.base, I.loc, I.cell, I.free, I.freeC, fun p hp => ?_, I.hok, I.len⟩
  have hp' : p ∈ (a, oe) :: (pn ++ pins) := hp
  rcases List.mem_cons.mp hp' with e | h
  · exact I.pin p (by rw [e]; exact List.mem_append_left _ List.mem_cons_self)
  · exact I.pin p (show p ∈ (a, oe) :: (b, od) :: (pn ++ pins) from List.mem_cons_of_mem _ (List.mem_cons_of_mem _ h))
theorem pss_pin {a b : Addr} {oe : Obj} {pn : List (Addr × Obj)} {st : List Stmt} {t : Str → Int → TS} (hsu : ∀ (f : Str) (n : Int) (od : Obj), XdO od f n → PSs (X.suite a ((a, oe) :: (b, od) :: pn)) st (t f n)) :
    PSs (X.suite a ((a, oe) :: pn)) st (fun D σ H => ∃ f n, H b = some (.xd [(f, .int n)]) ∧ t f n D σ (del H b)) := by
  refine ⟨fun pins s σ H D I ⟨f, n, hb, h⟩ => ?_⟩
  obtain ⟨mA, hns, hr⟩ := (show ObjOk X.prog X.w H s.heap b (.xd [(f, .int n)]) from I.hok b _ hb)
  obtain ⟨od, ho, hl⟩ := lookIn_ns hns
  have hlk : ([(f, V.int n)] : List (Str × V)).lookup f = some (.int n) := by simp [List.lookup]
  obtain ⟨u, hu, ru⟩ := RelO.some_of (v := V.int n) (o := mA f) (by rw [← hlk]; exact hr f)
  have hc : ∀ v, od.data ≠ .cell v := fun v z => by
    obtain ⟨o, es, ep, ho2, hd2, _⟩ := hns
    rw [ho] at ho2
    cases ho2
    rw [hd2] at z
    cases z
  refine wpAny_mono ((hsu f n od ⟨u, by rw [hl, hu], ru⟩).run pins s σ (del H b) D (Inv.pinX I hb ho hc) h) (fun fl s' hs => ?_) fun e s' he => he
  cases fl with
  | next => obtain ⟨σ1, H1, J, q⟩ := hs; exact ⟨σ1, H1, Inv.unpinX J, q⟩
  | brk => obtain ⟨σ1, H1, J, q⟩ := hs; exact ⟨σ1, H1, Inv.unpinX J, q⟩
  | cont => obtain ⟨σ1, H1, J, q⟩ := hs; exact ⟨σ1, H1, Inv.unpinX J, q⟩
  | ret u => obtain ⟨v, σ1, H1, J, r, q⟩ := hs; exact ⟨v, σ1, H1, Inv.unpinX J, r, q⟩
theorem pe_fld {a b C : Addr} {oe od : Obj} {e : Expr} {te : TE} {pos : Pos} {n : Str} {k : Int} (hp : (a, oe) ∈ X.pn) (hq : (b, od) ∈ X.pn) (T : ExcC X.K C) (hno : PySem.W.findIn X.K (.ref C) n = some none) (hc : oe.cls = .ref C) (hd : oe.dict = some b) (hf : ∃ vs, oe.data = .fields vs) (xo : XdO od n k)
    (he : PE X e te) (hb : attributeBase e n X.env (eval e X.env) = eval e X.env := by rfl) : PE X (.Attribute e n pos) (fun σ H Q => te σ H fun x H1 => x = .ref a ∧ Q (.int k) H1) := by
  refine ⟨fun pins s σ H Q I h => ?_⟩
  refine attr_of hb (thn (he.run pins s σ H _ I h) fun u s1 hh => ?_)
  obtain ⟨x, H1, I1, rx, ex, q⟩ := hh
  subst ex
  obtain rfl : u = Value.ref a := rx
  obtain ⟨v, hl, rv⟩ := xo.lk
  have J := instF (D := C) hc hd hf (I1.pin (a, oe) (List.mem_append_left _ hp)).1 (I1.pin (b, od) (List.mem_append_left _ hq)).1
  exact HandSPX.exc_get I1.kIn J T.hg T.hk T.hs (PySem.W.findObj_own T.hd hno rfl hl) (handed_of rv) ⟨.int k, H1, I1.tok _, rv, q⟩
def fldD (a : Addr) (n : Int) (d : D) : Option D := match d with
  | .adr a' => if a' = a then some (.int n) else none
  | _ => none
def dFld (a : Addr) (n : Int) (g : M D) : M D := bindM g fun d => optM (fldD a n d)
theorem ve_fld {a b : Addr} {oe od : Obj} {c : Str} {e : Expr} {g : M D} {pos : Pos} {f : Str} {n : Int} (hp : (a, oe) ∈ X.pn) (hq : (b, od) ∈ X.pn) (ho : OfF X.K X.mg c (a, oe)) (hd : oe.dict = some b) (hno : ∀ C, X.mg c = some (.ref C) → PySem.W.findIn X.K (.ref C) f = some none) (xo : XdO od f n)
    (he : VE X W m e g) (hb : attributeBase e f X.env (eval e X.env) = eval e X.env := by rfl) : VE X W m (.Attribute e f pos) (dFld a n g) := by
  obtain ⟨C, hC, xc, o1, _, vs, o3, _⟩ := ho.ex
  refine PE.imp (pe_fld hp hq xc (hno C hC) o1 hd ⟨vs, o3⟩ xo he hb) fun σ H Q ⟨T, ρ, u, rep, hf, hE⟩ => ?_
  refine run1 rep hf hE fun d ρ1 v H1 h1 s1 r1 => ?_
  obtain ⟨y, ey, rfl⟩ := optM_some h1
  unfold fldD at ey
  split at ey
  · split at ey
    · rename_i z
      cases ey
      have ev := RepT.eq_adr r1.rep
      subst ev
      exact ⟨by rw [z], hE _ H1 s1 (r1.drop.lift fun q => q.int)⟩
    · cases ey
  · cases ey
end
end VS
set_option Elab.async false
set_option linter.all false
set_option maxRecDepth 100000
set_option maxHeartbeats 4000000
set_option autoImplicit false
noncomputable section
namespace VS
open PySem PySem.Spec PyProof.Rows L2
section
variable {X : Cx} {W : WX} {K : PySem.W.Frag} {mg : Str → Option Value} {F H H1 : Hp} {T L : List (D × V)} {ρ ρ' : Env} {σ σ' σ'' : St} {m : Bool}
end
end VS
set_option Elab.async false
set_option linter.all false
set_option maxRecDepth 100000
set_option maxHeartbeats 4000000
set_option autoImplicit false
noncomputable section
namespace VS
open PySem PySem.Spec PyProof.Rows L2
section
variable {X : Cx} {W : WX} {K : PySem.W.Frag} {m : Bool} {H : Hp}
end
end VS
set_option Elab.async false
set_option linter.all false
set_option maxRecDepth 100000
set_option maxHeartbeats 4000000
set_option autoImplicit false
noncomputable section
namespace VS
open PySem PySem.Spec PyProof.Rows L2
section
variable {X : Cx} {W : WX} {K : PySem.W.Frag} {m : Bool} {H F : Hp} {pins : List (Addr × Obj)} {σ : St} {s : Shared} {d : Addr}
end
end VS
set_option Elab.async false
set_option linter.all false
set_option maxRecDepth 100000
set_option maxHeartbeats 4000000
set_option autoImplicit false
noncomputable section
namespace VS
open PySem PySem.Spec PyProof.Rows L2
open Sem (wp)
section
variable {prog : Program} {w : World} {A : Around} {E : Value → Shared → Prop} {s : Shared}
end
section
variable {X : Cx} {W : WX} {K : PySem.W.Frag} {m : Bool}
end
end VS
set_option Elab.async false
set_option linter.all false
set_option maxRecDepth 100000
set_option maxHeartbeats 4000000
set_option autoImplicit false
noncomputable section
namespace VS
open PySem PySem.Spec PyProof.Rows L2
section
variable {X : Cx} {K : PySem.W.Frag}
end
end VS
set_option Elab.async false
set_option linter.all false
set_option maxRecDepth 100000
set_option maxHeartbeats 4000000
set_option autoImplicit false
noncomputable section
namespace VS
open PySem PySem.Spec PyProof.Rows L2
section
variable {X : Cx} {W : WX} {K : PySem.W.Frag} {mg : Str → Option Value} {F H H1 : Hp} {T L : List (D × V)} {ρ ρ' : Env} {σ σ' σ'' : St} {m : Bool}
structure ExcG (K : PySem.W.Frag) (mg : Str → Option Value) (x : Str) : Prop where
  ex : ∃ C, mg x = some (.ref C) ∧ PySem.W.nsIn K mainGlobals x = some (some (.ref C)) ∧ ExcC K C
theorem ExcF.g {x : Str} (h : ExcF K mg x) : ExcG K mg x := by
  obtain ⟨C, h1, h2, _, _, _, _, h3⟩ := h.ex
  exact ⟨C, h1, h2, h3⟩
end
end VS
set_option Elab.async false
set_option linter.all false
set_option maxRecDepth 100000
set_option maxHeartbeats 4000000
set_option autoImplicit false
noncomputable section
namespace VS
open PySem PySem.Spec PyProof.Rows L2
section
variable {X : Cx} {W : WX} {K : PySem.W.Frag} {m : Bool} {H F : Hp} {pins : List (Addr × Obj)} {σ : St} {s : Shared} {d : Addr}
end
end VS
set_option Elab.async false
set_option linter.all false
set_option maxRecDepth 100000
set_option maxHeartbeats 4000000
set_option autoImplicit false
noncomputable section
namespace VS
open PySem PySem.Spec PyProof.Rows L2
section
variable {X : Cx} {W : WX} {K : PySem.W.Frag} {mg : Str → Option Value} {m : Bool} {H : Hp} {σ : St}
def tChain3 (r r' r'' : R2) (ta tb tc td : TE) : TE := fun σ H Q => ta σ H fun x H1 => tb σ H1 fun y H2 => r x y H2 fun z H3 => ∃ k, z = .bl k ∧
  if k then tc σ H3 fun x3 H4 => r' y x3 H4 fun z2 H5 => ∃ k2, z2 = .bl k2 ∧ if k2 then td σ H5 fun x4 H6 => r'' x3 x4 H6 Q else Q (.bl false) H5 else Q (.bl false) H3
theorem pe_chain3 {a b c d : Expr} {ta tb tc td : TE} {pos : Pos} {op op' op'' : CmpOp} {r r' r'' : R2} (ho : OpR X (compareOp op) r) (ho' : OpR X (compareOp op') r') (ho'' : OpR X (compareOp op'') r'') (ha : PE X a ta) (hb : PE X b tb) (hc : PE X c tc) (hd : PE X d td)
    (hm : lastMarks [op, op', op''] [b, c, d] = false := by with_unfolding_all rfl) : PE X (.Compare a [op, op', op''] [b, c, d] pos) (tChain3 r r' r'' ta tb tc td) := by
  refine ⟨fun pins s σ H Q I h => ?_⟩
  refine Compare_chain (thn (ha.run pins s σ H _ I h) fun v s1 ⟨x, H1, I1, r1, q1⟩ => chain_link (thn (hb.run pins s1 σ H1 _ I1 q1) fun u s2 ⟨y, H2, I2, r2, q2⟩ =>
    thn (ho pins s2 σ H2 x y v u _ I2 r1 r2 q2) fun d s3 ⟨z, H3, I3, r3, k, e, q3⟩ => ?_)) hm
  subst e
  cases r3
  refine wpAny_truthy_bool ?_
  cases k with
  | false => exact ite_ff ⟨.bl false, H3, I3, rfl, q3⟩
  | true =>
    refine ite_tt (chain_link (thn (hc.run pins s3 σ H3 _ I3 q3) fun w' s4 ⟨z', H4, I4, r4, q4⟩ => thn (ho' pins s4 σ H4 y z' u w' _ I4 r2 r4 q4) fun d' s5 ⟨z2, H5, I5, r5, k2, e2, q5⟩ => ?_))
    subst e2
    cases r5
    refine wpAny_truthy_bool ?_
    cases k2 with
    | false => exact ite_ff ⟨.bl false, H5, I5, rfl, q5⟩
    | true => exact ite_tt (chain_last (thn (hd.run pins s5 σ H5 _ I5 q5) fun w2 s6 ⟨z3, H6, I6, r6, q6⟩ => ho'' pins s6 σ H6 z' z3 w' w2 Q I6 r4 r6 q6))
def blO (o : Option D) : Option Bool := match o with
  | some (.bl k) => some k
  | _ => none
def dChain3 (g g' g'' : D → D → Option D) (fa fb fc fd : M D) : M D := bindM fa fun x => bindM fb fun y => bindM (optM (blO (g x y))) fun k => if k = true then (bindM fc fun z => bindM (optM (blO (g' y z))) fun k2 => if k2 = true then (bindM fd fun w => optM (g'' z w)) else retM (.bl false)) else retM (.bl false)
theorem blO_cmp {p : Int → Int → Bool} {x y : D} {k : Bool} (h : blO (gCmp p x y) = some k) : ∃ i j, x = .int i ∧ y = .int j ∧ p i j = k := by
  cases x <;> cases y <;> simp only [gCmp, blO, Option.some.injEq, reduceCtorEq] at h
  exact ⟨_, _, rfl, rfl, h⟩
theorem tChain3_of {p p' p'' : Int → Int → Bool} {fa fb fc fd : M D} {ma mb mc md : Bool} {Q : VK} (h : tOf K mg W (ma || mb || mc || md) (dChain3 (gCmp p) (gCmp p') (gCmp p'') fa fb fc fd) σ H Q) :
    tChain3 (rCmp p) (rCmp p') (rCmp p'') (tOf K mg W ma fa) (tOf K mg W mb fb) (tOf K mg W mc fc) (tOf K mg W md fd) σ H Q := by
  obtain ⟨T, ρ, u, rep, hf, he⟩ := h
  refine run1 rep hf he fun x ρ1 v H1 h1 s1 r1 => ?_
  refine run1 r1 h1 (he.push (okP' := okE K (ma || mb || mc || md) T σ H Q) fun _ _ q => q) fun y ρ2 w H2 h2 s2 r2 => ?_
  obtain ⟨k, e, h3⟩ := bindM_opt h2
  obtain ⟨i, j, rfl, rfl, ek⟩ := blO_cmp e
  have e2 := r2.rep.eq_int
  have e1 := r2.drop.rep.eq_int
  subst e1; subst e2
  refine ⟨i, j, rfl, rfl, p i j, rfl, ?_⟩
  rw [ek]
  cases k with
  | false =>
    have : u = .ok (.bl false) ρ2 := by
      rw [if_neg (by simp)] at h3
      exact (Option.some.inj h3).symm
    subst this
    rw [if_neg (by simp)]
    exact he _ H2 (fun e => by
      simp only [Bool.or_eq_false_iff] at e
      exact sm_or s1 s2 (by simp [e])) (r2.drop.drop.lift fun q => q.bl)
  | true =>
    rw [if_pos rfl] at h3 ⊢
    refine run1 r2 h3 ((he.push (p := (.int i, .int i)) (okP' := okE K (ma || mb || mc || md) T σ H Q) fun _ _ q => q).push (p := (.int j, .int j)) fun _ _ q => q) fun z ρ3 w3 H3 h4 s3 r3 => ?_
    obtain ⟨k2, e4, h5⟩ := bindM_opt h4
    obtain ⟨j', l, ej, rfl, ek2⟩ := blO_cmp e4
    cases ej
    have e5 := r3.rep.eq_int
    subst e5
    refine ⟨j, l, rfl, rfl, p' j l, rfl, ?_⟩
    rw [ek2]
    cases k2 with
    | false =>
      have : u = .ok (.bl false) ρ3 := by
        rw [if_neg (by simp)] at h5
        exact (Option.some.inj h5).symm
      subst this
      rw [if_neg (by simp)]
      exact he _ H3 (fun e => by
        simp only [Bool.or_eq_false_iff] at e
        exact sm_or (sm_or s1 s2) s3 (by simp [e])) (r3.drop.drop.drop.lift fun q => q.bl)
    | true =>
      rw [if_pos rfl] at h5 ⊢
      refine run1 r3 h5 (((he.push (p := (.int i, .int i)) (okP' := okE K (ma || mb || mc || md) T σ H Q) fun _ _ q => q).push (p := (.int j, .int j)) fun _ _ q => q).push (p := (.int l, .int l)) fun _ _ q => q) fun z4 ρ4 w4 H4 h6 s4 r4 => ?_
      obtain ⟨d, e6, rfl⟩ := optM_some h6
      cases z4 <;> simp only [gCmp, Option.some.injEq, reduceCtorEq] at e6
      subst e6
      have e7 := r4.rep.eq_int
      subst e7
      exact ⟨_, _, rfl, rfl, he _ H4 (sm_or (sm_or (sm_or s1 s2) s3) s4) (r4.drop.drop.drop.drop.lift fun q => q.bl)⟩
end
section
variable {X : Cx} {W : WX}
theorem ve_chain3 {a b c d : Expr} {op op' op'' : CmpOp} {p p' p'' : Int → Int → Bool} {fa fb fc fd : M D} {ma mb mc md : Bool} {pos : Pos} (ho : OpR X (compareOp op) (rCmp p)) (ho' : OpR X (compareOp op') (rCmp p')) (ho'' : OpR X (compareOp op'') (rCmp p'')) (ha : VE X W ma a fa) (hb : VE X W mb b fb) (hc : VE X W mc c fc) (hd : VE X W md d fd)
    (hm : lastMarks [op, op', op''] [b, c, d] = false := by with_unfolding_all rfl) : VE X W (ma || mb || mc || md) (.Compare a [op, op', op''] [b, c, d] pos) (dChain3 (gCmp p) (gCmp p') (gCmp p'') fa fb fc fd) := PE.imp (pe_chain3 ho ho' ho'' ha hb hc hd hm) fun _ _ _ h => tChain3_of h
end
end VS
set_option Elab.async false
set_option linter.all false
set_option maxRecDepth 100000
set_option maxHeartbeats 4000000
set_option autoImplicit false
noncomputable section
namespace VS
open PySem PySem.Spec PyProof.Rows L2
section
variable {X : Cx} {W : WX} {K : PySem.W.Frag} {mg : Str → Option Value} {F H H1 : Hp} {T L : List (D × V)} {ρ ρ' : Env} {σ σ' σ'' : St} {m : Bool} {asg a1 a2 : List Nat}
def dFldG (a : Addr) (c f : Str) (k : Int) (ns : List Str) (n : Str) (g : M D) : M D := bindM g fun d => optM (if f = n ∧ c ∈ ns then fldD a k d else none)
theorem ve_fldG {a b : Addr} {oe od : Obj} {c : Str} {ns : List Str} {e : Expr} {g : M D} {pos : Pos} {f n : Str} {k : Int} (hp : (a, oe) ∈ X.pn) (hq : (b, od) ∈ X.pn) (ho : OfF X.K X.mg c (a, oe)) (hd : oe.dict = some b) (hno : ∀ c ∈ ns, ∀ C, X.mg c = some (.ref C) → PySem.W.findIn X.K (.ref C) n = some none) (xo : XdO od f k)
    (he : VE X W m e g) (hb : attributeBase e n X.env (eval e X.env) = eval e X.env := by rfl) : VE X W m (.Attribute e n pos) (dFldG a c f k ns n g) := by
  by_cases z : f = n ∧ c ∈ ns
  · obtain ⟨rfl, hc⟩ := z
    have q := ve_fld (pos := pos) hp hq ho hd (hno c hc) xo he hb
    have e : dFldG a c f k ns f g = dFld a k g := by
      unfold dFldG dFld
      simp [hc]
    rw [e]
    exact q
  · refine ⟨fun pins s σ H Q I ⟨T, ρ, w, rep, hf, hend⟩ => ?_⟩
    refine attr_of hb (thn (he.run pins s σ H (fun _ _ => False) I ?_) fun u s1 hh => ?_)
    · refine run1 rep hf hend fun d ρ1 v H1 h1 s1 r1 => ?_
      obtain ⟨y, ey, _⟩ := optM_some h1
      rw [if_neg z] at ey
      cases ey
    · obtain ⟨x, H1, I1, rx, ex⟩ := hh
      exact ex.elim
def dTryG (i : Nat) (yes no : List Str) (body : MS) (suite : Addr → Str → Str → Int → MS) : MS := fun ρ => match body ρ with
  | some (.ex x, ρ1) => if x.c ∈ yes then (match x.p with
      | some (f, n) => onAll i (fun a => suite a x.c f n) ρ1
      | none => none) else if x.c ∈ no then some (.ex x, ρ1) else none
  | r => r
theorem vs_tryG {x n : Str} {cL : Value} {i : Nat} {body suite : List Stmt} {b0 : Stmt} {np pos pos' : Pos} {yes no : List Str} {gb : MS} {gs : Addr → Str → Str → Int → MS} (hs : X.stack = X.env :: X.outer) (hfr : X.env.frame = some X.env.locals) (nd : X.N.Nodup) (hi : X.N[i]? = some n) (hln : X.env.kindOf n = some .local) (hx : Names X x cL) (tk : L2N.Takes X W)
    (hyes : ∀ c ∈ yes, ∀ C, X.mg c = some (.ref C) → ExcC X.K C ∧ PySem.W.exmOne X.K (.ref C) cL = some true) (hno : ∀ c ∈ no, ∀ C, X.mg c = some (.ref C) → PySem.W.exmOne X.K (.ref C) cL = some false)
    (hb : ∀ (W' : WX) (pn : List (Addr × Obj)) (xe : Value → Shared → Prop), L2N.Takes (X.tr pn xe) W' → PassesOwn (model X.prog X.w) X.A X.env xe → VSs (X.tr pn xe) W' a1 body gb)
    (hsu : ∀ (a b : Addr) (oe od : Obj) (c f : Str) (k : Int) (pn : List (Addr × Obj)), c ∈ yes → OfF X.K X.mg c (a, oe) → oe.dict = some b → XdO od f k → L2H.Hot1 (X.suite a ((a, oe) :: (b, od) :: pn)).A (a, oe) → VSs (X.suite a ((a, oe) :: (b, od) :: pn)) WF a2 (b0 :: suite) (gs a c f k)) :
    VSt X W (a1 ++ ([i] ++ a2)) (.Try body [.ExceptHandler (some (.Name x np)) (some n) (b0 :: suite) pos'] [] [] pos) (dTryG i yes no gb gs) := by
  refine PS.imp (L2N.ps_try_as (tb := fun W' => tsOf X.K X.mg W' a1 gb) (ts := fun a cls d D σ H => ∃ c C b f k, cls = .ref C ∧ X.mg c = some (.ref C) ∧ d = some b ∧ c ∈ yes ∧ ExcC X.K C ∧ H b = some (.xd [(f, .int k)]) ∧ tsOf X.K X.mg WF a2 (gs a c f k) D σ (del H b)) hs hfr nd hi hln hx tk hb ?_) ?_
  · intro a oe cls d pn zn hv
    refine ⟨fun pins s σ H D I ⟨c, C, b, f, k, e1, e2, e3, cy, xc, hb, h⟩ => ?_⟩
    obtain ⟨vs, hv⟩ := hv
    obtain ⟨z1, z2, z3⟩ := zn
    have cn := z3 vs hv
    exact (pss_pin (X := X) (a := a) (b := b) (oe := oe) (pn := pn) (st := b0 :: suite) (t := fun f n => fun D σ H => tsOf X.K X.mg WF a2 (gs a c f n) D σ H) (fun f n od xo => ⟨fun pins s σ H D I h => by
      exact (hsu a b oe od c f n pn cy ⟨C, e2, xc, z1.trans e1, ⟨b, z2.trans e3⟩, vs, hv, cn⟩ (z2.trans e3) xo ⟨rfl, vs, hv, cn⟩).run pins s σ H D I h⟩)).run pins s σ H D I ⟨f, k, hb, h⟩
  · intro σ H E ⟨T, ρ, fl', ρ', rep, hf, he⟩
    unfold dTryG at hf
    cases q : gb ρ with
    | none => rw [q] at hf; cases hf
    | some u =>
      obtain ⟨fb, ρ1⟩ := u
      rw [q] at hf
      refine ⟨T, ρ, fb, ρ1, rep, q, ?_⟩
      cases fb with
      | nx =>
        have e : (Fl.nx, ρ1) = (fl', ρ') := Option.some.inj hf
        cases e
        exact fun σ' H' k r => he σ' H' k.left r
      | bk =>
        have e : (Fl.bk, ρ1) = (fl', ρ') := Option.some.inj hf
        cases e
        exact fun σ' H' k r => he σ' H' k.left r
      | ct =>
        have e : (Fl.ct, ρ1) = (fl', ρ') := Option.some.inj hf
        cases e
        exact fun σ' H' k r => he σ' H' k.left r
      | rt d =>
        have e : (Fl.rt d, ρ1) = (fl', ρ') := Option.some.inj hf
        cases e
        exact fun v σ' H' k r => he v σ' H' k.left r
      | ex x =>
        intro cls dd σ1 H1 k1 xr r1
        obtain ⟨C, rfl, hm, hp⟩ := id xr
        simp only at hf
        split at hf
        · rename_i z2
          split at hf
          · rename_i f k ep
            · rw [ep] at hp
              obtain ⟨b, hd, hH⟩ := hp
              subst hd
              have r1 : Rep X.K (del H1 b) T ρ1 σ1 := r1
              obtain ⟨xc, ex⟩ := hyes _ z2 C hm
              obtain ⟨ne, al⟩ := onAll_some hf
              refine ⟨true, ex, fun _ a na => ?_, (fun q => by cases q)⟩
              obtain ⟨ρ2, e2, e3⟩ := al a
              simp only at e2 e3 ne
              have r2 : Rep X.K (del H1 b) T (ρ1.set i (.adr a)) (σ1.set i (some (.ref a))) := Rep.set (d := .adr a) (v := .ref a) (r1.lift fun q => q.adr)
              refine ⟨x.c, C, b, f, k, rfl, hm, rfl, z2, xc, hH, T, _, fl', ρ2, r2, e2, ?_⟩
              cases fl' with
              | nx =>
                intro σ2 H2 k2 r3
                have r4 := r3.unset i
                rw [e3] at r4
                exact he _ H2 (k1.tryS k2) r4
              | bk =>
                intro σ2 H2 k2 r3
                have r4 := r3.unset i
                rw [e3] at r4
                exact he _ H2 (k1.tryS k2) r4
              | ct =>
                intro σ2 H2 k2 r3
                have r4 := r3.unset i
                rw [e3] at r4
                exact he _ H2 (k1.tryS k2) r4
              | rt d =>
                intro v σ2 H2 k2 r3
                have r4 := r3.forget i
                rw [e3] at r4
                exact he v σ2 H2 (k1.tryR k2) r4
              | ex y => exact ne.elim
          · cases hf
        · split at hf
          · rename_i z
            have e : (Fl.ex x, ρ1) = (fl', ρ') := Option.some.inj hf
            cases e
            exact ⟨false, hno _ z C hm, (fun q => by cases q), fun _ => he _ dd σ1 H1 k1.left xr r1⟩
          · cases hf
end
end VS
set_option Elab.async false
set_option linter.all false
set_option maxRecDepth 100000
set_option maxHeartbeats 4000000
set_option autoImplicit false
noncomputable section
namespace VS
open PySem PySem.Spec PyProof.Rows L2
section
variable {X : Cx} {W : WX} {K : PySem.W.Frag} {mg : Str → Option Value} {F H H1 : Hp} {T L : List (D × V)} {ρ ρ' : Env} {σ σ' σ'' : St} {m : Bool} {asg a1 a2 : List Nat}
theorem call_isP {a D : Addr} {oe : Obj} (hp : (a, oe) ∈ X.pn) (C : ExcC X.K D) (hc : oe.cls = .ref D) (hd : ∃ b, oe.dict = some b ∧ ∃ o, (b, o) ∈ X.pn) (hf : ∃ vs, oe.data = .fields vs) : CallR X (.builtin "isinstance") (rIsX X.K D a) := by
  intro pins s σ H xs us Q I r h
  obtain ⟨c, u, b, rfl, k, e, q⟩ := h
  obtain ⟨q1, hq2, o0, hq3⟩ := hd
  obtain ⟨o1, hq4⟩ : ∃ o1, s.heap.get? q1 = some o1 := ⟨o0, (I.pin (q1, o0) (List.mem_append_left _ hq3)).1⟩
  cases r with
  | cons rx rr =>
    cases rr with
    | cons rt rr =>
      cases rr
      cases rx
      cases k.eq rt
      exact PySem.W.kia_one (PySem.W.kitx_exc (clsSome C) C.hg C.hk C.hs C.ha C.hn C.ht C.hm) I.kIn (instF hc hq2 hf (I.pin (a, oe) (List.mem_append_left _ hp)).1 hq4) e (fun z => nomatch z) fun tk => ⟨.bl b, H, I.tok tk, rfl, q⟩
theorem ve_isp1 {a : Addr} {oe : Obj} {tab : Tab} {c t : Str} {e ct : Expr} {f : M D} {p pos : Pos} (hp : (a, oe) ∈ X.pn) (ho : OfF X.K X.mg c (a, oe)) (hd0 : ∀ b, oe.dict = some b → ∃ od, (b, od) ∈ X.pn) (ok : TabOk X.K X.mg tab) (hg : Gl X "isinstance") (hm : X.mg "isinstance" = none) (he : VE X W m e f) (hc : CE X ct t)
    (hs1 : starEach [ct] X.env = (false, eval ct X.env) :: starEach [] X.env := by rfl) (hs : starEach [e, ct] X.env = (false, eval e X.env) :: starEach [ct] X.env := by rfl) (hpl : (backTo pos (starEach [ct] X.env)).any (·.1) = false := by rfl) : VE X W m (.Call (.Name "isinstance" p) [e, ct] [] pos) (dIsx a tab c [t] f) := by
  obtain ⟨C, hC, xc, o1, ⟨bb, o2⟩, vs, o3, _⟩ := ho.ex
  obtain ⟨cv, u, pc, kc, ku⟩ := hc.ex
  refine PE.imp (pe_callB (call_isP hp xc o1 ⟨bb, o2, hd0 bb o2⟩ ⟨vs, o3⟩) hg hm (by decide +kernel) (pa_cons he (pa_cons pc pa_nil hs1) hs) (by decide) (by decide) hs hpl) fun σ H Q ⟨T, ρ, w, rep, hf, hend⟩ => ?_
  refine run1 rep hf hend fun d ρ1 v H1 h1 s1 r1 => ?_
  obtain ⟨x, ex, rfl⟩ := optM_some h1
  obtain ⟨rfl, b, eb, rfl⟩ := isxD_inv ex
  have ev := RepT.eq_adr r1.rep
  subst ev
  refine ⟨cv, u, b, rfl, kc, ?_, hend _ H1 s1 (r1.drop.lift fun q => q.bl)⟩
  rw [tabAny] at eb
  cases e1 : tabL tab c t with
  | none => rw [e1] at eb; cases eb
  | some k =>
    rw [e1] at eb
    rw [ok.one e1 hC ku]
    cases k
    · exact eb
    · exact eb
theorem run_fnH {CX : CXT} {k : Nat} {f : Addr} {fd : FuncData} {ps : List Str} {sp : Addr × Obj → Sp} {E : St → XK} {pins : List (Addr × Obj)} {s : Shared} {Q : VK} {us : List Value} {vs : List V} {p : Addr × Obj} (F : FnF X.prog X.w X.K X.mg X.base CX k f fd ps sp) (hr : L2H.RoomH k X.A) (hot : L2H.Hot1 X.A p) (hp : p ∈ X.pn) (hd0 : HasD X.s_0 p) (hx0 : X.ex = []) (hb : Binds X.K fd ps []) (hx : PassesAt CX X σ (E σ))
    (I : Inv X pins σ H s) (r : Vals vs us) (h : sp p vs H Q (E σ)) : wpAny (model X.prog X.w) X.A (call (.ref f) us) (EP X pins σ Q) X.xe s := by
  have hl : us.length = ps.length := by rw [← r.length]; exact F.len _ _ _ _ _ h
  have b := hb s us I.kIn (by rw [List.append_nil]; exact hl)
  rw [List.append_nil] at b
  obtain ⟨p1, p2, p3, p4, p5⟩ := I.pin p (List.mem_append_left _ hp)
  refine wpAny_call (codeAny_mono (F.run p X.A X.stack s H ⟨us, []⟩ us vs Q (E σ) hr hot ⟨p1, p2, fun hm => (List.mem_cons.mp (I.stkSub p.1 hm)).elim p3 p4, p5⟩ (fun bb eb => (hd0 bb eb).elim fun o0 h0 => I.base.there bb o0 h0 (by rw [hx0]; simp)) I.env0 b r h) fun r s' hq => ?_)
  cases r with
  | error e => exact hx pins H s e s' I hq
  | ok fl =>
    cases fl with
    | ret u => exact I.after hq
    | next => exact hq.elim
    | brk => exact hq.elim
    | cont => exact hq.elim
theorem ve_fnH {ks : List (Option Nat)} {Fd : FnX} {f : M (List D)} {k : Nat} {ps : List Str} {x c : Str} {a : Addr} {oe : Obj} {e : Expr} {es : List Expr} {p pos : Pos} (C : CalF X.prog X.w X.K X.mg X.base k x ps Fd) (hr : L2H.RoomH k X.A) (hot : L2H.Hot1 X.A (a, oe)) (hp : (a, oe) ∈ X.pn) (hd0 : HasD X.s_0 (a, oe)) (hx0 : X.ex = []) (ho : OfF X.K X.mg c (a, oe)) (hg : Gl X x) (tk : L2N.Takes X W) (ha : VIO X W m ks (e :: es) f) (hdb : (x == ("__debug__" : Str)) = false := by decide)
    (he : starEach (e :: es) X.env = (false, eval e X.env) :: starEach es X.env := by rfl) (hpl : (backTo pos (starEach es X.env)).any (·.1) = false := by rfl) : VE X W true (.Call (.Name x p) (e :: es) [] pos) (dFn ks (Fd a c) f) := by
  obtain ⟨fa, fd, G, h1, h2, h3⟩ := C.ex
  have pe : PE X (.Call (.Name x p) (e :: es) [] pos) (tCallS (spF X.K X.mg Fd (a, oe)) (WE W) (taIO X.K X.mg W m ks f)) := ⟨fun pins s σ H Q I h => by
    refine wpAny_Call_Name_kw (ld_glob I hg h1 ?_ hdb)
    refine PySem.W.callWith_K (h₀ := X.base) I.ok.mod.kin h2 (thn (ha.run pos pins s σ H _ I h) fun us s1 ⟨vs, H1, I1, r, q⟩ => ⟨I1.kIn, ?_⟩) he hpl
    exact run_fnH G hr hot hp hd0 hx0 h3 (L2N.passAt tk σ) I1 r q⟩
  refine PE.imp pe fun σ H Q h => ?_
  obtain ⟨T0, ρ0, r0, rep0, e0, k0⟩ := tFn_of h
  refine ⟨T0, ρ0, r0, rep0, e0, ?_⟩
  cases r0 with
  | ex x ρ1 => exact k0
  | ok ds ρ1 => exact fun tv vs H1 s1 l1 io r1 => ⟨c, ho, k0 tv vs H1 s1 l1 io r1⟩
end
end VS
set_option Elab.async false
set_option linter.all false
set_option maxRecDepth 100000
set_option maxHeartbeats 4000000
set_option autoImplicit false
noncomputable section
namespace VS
open PySem PySem.Spec PyProof.Rows L2
section
variable {X : Cx} {W : WX} {K : PySem.W.Frag} {H H1 : Hp} {T L : List (D × V)} {ρ ρ' : Env} {σ σ' : St} {m : Bool}
def rSortTL : List V → Hp → VK → Prop := fun xs H Q => ∃ (a : Addr) (kvs : List (List Key × V)) (od : Obj), xs = [.ref a] ∧ H a = some (.frz od (.dT kvs)) ∧ PySem.W.AllAlike (kvs.map fun p => tupP p.1) ∧ PySem.W.Sortable (kvs.map fun p => tupP p.1) ∧ (∀ p ∈ kvs, (tupP p.1).depth ≤ 60) ∧
  ∀ bs : List (List Key × Addr), bs.map (·.1) = kvs.map (·.1) → (∀ b ∈ bs, H b.2 = some (.tup (b.1.map kV))) → ∀ p, H p = none → Q (.ref p) (upd H p (.lst ((bs.mergeSort fun x y => leK x.1 y.1).map fun b => V.ref b.2)))
theorem cr_sortTL (hcalm : X.calm = true) (hu : X.A.units + 64 < cLine) : CallR X (.builtin "sorted") rSortTL := by
  intro pins s σ H xs us Q I r q
  obtain ⟨a, kvs, od, rfl, hd, hal, hso, hdp, q⟩ := q
  rw [Vals.ref1 r]
  obtain ⟨z, lo, ys, rel, dd⟩ := dt_rd I.hok (.inr ⟨od, hd⟩)
  obtain ⟨es, ep, hraw, hsz, hent⟩ := dd.raw
  have hl : ys.length = kvs.length := (Paired.length rel).symm
  have h16 : es.size ≤ sizeLine := by rw [hsz, hl]; exact z
  -- the keys as they stand
  let bs : List (List Key × Addr) := ys.map fun y => (y.1, y.2.1)
  have hbk : bs.map (·.1) = kvs.map (·.1) := by
    have : ∀ {l : List (List Key × V)} {m : List (List Key × Addr × Value)}, KT H l m → (m.map fun y => (y.1, y.2.1)).map (·.1) = l.map (·.1) := by
      intro l m q
      induction q with
      | nil => rfl
      | cons h _ ih => rw [List.map_cons, List.map_cons, List.map_cons, ih, h.1]
    exact this rel
  have hbt : ∀ b ∈ bs, H b.2 = some (.tup (b.1.map kV)) := by
    have : ∀ {l : List (List Key × V)} {m : List (List Key × Addr × Value)}, KT H l m → ∀ b ∈ (m.map fun y => (y.1, y.2.1)), H b.2 = some (.tup (b.1.map kV)) := by
      intro l m q
      induction q with
      | nil => intro b hb; cases hb
      | cons h _ ih =>
        intro b hb
        rcases List.mem_cons.mp hb with rfl | hb
        · rw [← h.1]; exact h.2.1
        · exact ih b hb
    exact this rel
  refine Calls.call_function_entry PyProof.Rows.kind_sorted PyProof.Rows.plain_sorted PyProof.Rows.entry_sorted (PyProof.Rows.args_sorted1 _) ?_
  unfold Builtin.«sorted»
  refine wpAny_bind (m := checkCount "sorted" 1 1 _) (wpAny_pure ?_)
  refine wpAny_bind (PySem.W.kdu_collect (A := X.A.in1) (PySem.KdlSrc.rawDict (es := es) (ep := ep) lo) (I.ok.hd hcalm) hraw h16 fun h' tk acc hk hacc => ?_)
  have ea : acc.toList = bs.map fun b => Value.ref b.2 := by
    apply List.ext_getElem?
    intro j
    by_cases hj : j < acc.size
    · have e1 : acc.toList[j]? = some acc[j] := by rw [Array.getElem?_toList, Array.getElem?_eq_getElem hj]
      obtain ⟨hi, e2⟩ := hacc.2 j acc[j] (Array.getElem?_eq_getElem hj)
      obtain ⟨y, hy, e3, _⟩ := hent j hi
      rw [e1, e2, e3]
      show _ = ((ys.map fun y => (y.1, y.2.1)).map fun b => Value.ref b.2)[j]?
      rw [List.getElem?_map, List.getElem?_map, hy]; rfl
    · rw [List.getElem?_eq_none (by rw [Array.length_toList]; omega), List.getElem?_eq_none]
      show ((ys.map fun y => (y.1, y.2.1)).map fun b => Value.ref b.2).length ≤ j
      rw [List.length_map, List.length_map, ← hsz]
      have := hacc.1
      omega
  have hbl : bs.length ≤ sizeLine := by
    show (ys.map fun y => (y.1, y.2.1)).length ≤ sizeLine
    rw [List.length_map, ← hsz]; exact h16
  have I1 : Inv X pins σ H { s with heap := h', toks := tk } := I.kept hk
  rw [ea]
  refine wpAny_bind (wpAny_newList ?_ (by rw [List.length_map]; exact hbl))
  have hoL : (h'.push (seqObj "list" (bs.map fun b => Value.ref b.2).toArray 0)).get? h'.objs.size = some (seqObj "list" (bs.map fun b => Value.ref b.2).toArray 0) := Heap.get?_push_size _ rfl
  show wpAny _ _ _ _ _ { s with heap := h'.push (seqObj "list" (bs.map fun b => Value.ref b.2).toArray 0), toks := tk }
  have hreads : ∀ b ∈ bs, ∃ as, Reads (h'.push (seqObj "list" (bs.map fun b => Value.ref b.2).toArray 0)) (.ref b.2) (tupP b.1) as := fun b hb => by
    obtain ⟨as, r⟩ := keyP_reads I1 (hbt b hb)
    exact ⟨as, PyProof.Rows.Reads.keeps (fun _ _ e => Heap.get?_push_of_some _ e) r⟩
  obtain ⟨er0, er⟩ := refs_each (s := s) (a := h'.objs.size) hreads
  have em : bs.map (fun b => tupP b.1) = kvs.map fun p => tupP p.1 := by
    have := congrArg (List.map tupP) hbk
    simpa [List.map_map, Function.comp_def] using this
  refine wpAny_bind (wpAny_holding (PySem.W.list_sort_data (s := { s with heap := h'.push (seqObj "list" (bs.map fun b => Value.ref b.2).toArray 0), toks := tk }) (enc := fun b : List Key × Addr => tupP b.1) hoL er0 er (by rw [em]; exact hal) (by rw [em]; exact hso) hbl (fun b hb => ?_) fun out hlen ho => ?_))
  · have : (tupP b.1) ∈ kvs.map fun p => tupP p.1 := by rw [← em]; exact List.mem_map.mpr ⟨b, hb, rfl⟩
    obtain ⟨p, hp, e⟩ := List.mem_map.mp this
    have := hdp p hp
    rw [e] at this
    show X.A.units + 1 + 1 + _ < _
    omega
  · obtain ⟨e', he'⟩ := PyProof.Rows.sortedHeap_at (vs := bs.map fun b => Value.ref b.2) (out := out.toArray) hoL
    have vo := refs_vals ho
    have hlen2 : ((bs.mergeSort fun x y => leK x.1 y.1).map fun b => V.ref b.2).length ≤ sizeLine := by rw [List.length_map, List.length_mergeSort]; exact hbl
    refine wpAny_pure ⟨_, rfl, .ref h'.objs.size, upd H h'.objs.size (.lst ((bs.mergeSort fun x y => leK x.1 y.1).map fun b => V.ref b.2)), I1.laid (t' := tk) (fun b u e => ?_) (Nat.le_refl _)
      (show ObjOk X.prog X.w _ _ _ (.lst _) from ⟨hlen2, out, e', vo, he'⟩), rfl, q bs hbk hbt _ (I1.hok.fresh (Nat.le_refl _))⟩
    have hb : b < h'.objs.size := Heap.lt_size e
    rw [PyProof.Rows.sortedHeap_old (Nat.ne_of_lt hb) (by rw [size_push']; exact Nat.lt_succ_of_lt hb)]
    exact Heap.get?_push_of_some _ e
def gSortTL (ds : List D) : Option D := match ds with
  | [.lT ks _] => (sortD (ks.map tupK)).map fun ys => .lst true ys
  | _ => none
theorem impSortTL : ImpA K rSortTL gSortTL := by
  intro H L ds vs d Q e l r h
  unfold gSortTL at e
  split at e
  · rename_i ks xs
    obtain ⟨ys, e3, rfl⟩ := Option.map_eq_some_iff.mp e
    obtain ⟨v, rfl⟩ := len1 l
    have r1 : RepT K H ((.lT ks xs, v) :: L) := r
    obtain ⟨a, ws, od, rfl, hq, n1, nd, l2⟩ := r1.lT
    unfold sortD at e3
    rw [dats_keys] at e3
    simp only at e3
    split at e3
    · rename_i z
      cases e3
      obtain ⟨z1, z2⟩ := z
      rw [Bool.and_eq_true, Bool.and_eq_true, List.all_eq_true] at z1
      have ek : (ks.zip ws).map (fun p => tupP p.1) = ks.map tupP := by
        have : (ks.zip ws).map (·.1) = ks := List.map_fst_zip (by omega)
        have := congrArg (List.map tupP) this
        simpa [List.map_map, Function.comp_def] using this
      refine ⟨a, ks.zip ws, od, rfl, hq, by rw [ek]; exact alikeB_ok z1.1.1, by rw [ek]; exact sortB_ok z1.1.2, fun p hp => ?_, fun bs hb1 hb2 p hp => h _ _ (Same.upd hp) ?_⟩
      · have : tupP p.1 ∈ ks.map tupP := by rw [← ek]; exact List.mem_map.mpr ⟨p, hp, rfl⟩
        exact of_decide_eq_true (z1.2 _ this)
      · have hk : bs.map (·.1) = ks := by rw [hb1]; exact List.map_fst_zip (by omega)
        have e1 : (ks.map tupK).mergeSort leD = ((bs.mergeSort fun x y => leK x.1 y.1).map fun b => tupK b.1) := by
          have := List.map_mergeSort (f := fun b : List Key × Addr => tupK b.1) (r := fun x y => leK x.1 y.1) (s := leD) (l := bs) (fun x _ y _ => by
            unfold leK leD PySem.W.dataLe PySem.W.sortLe
            simp only [dat_key, Option.getD_some])
          rw [this]
          have e2 : bs.map (fun b => tupK b.1) = ks.map tupK := by
            have := congrArg (List.map tupK) hk
            simpa [List.map_map, Function.comp_def] using this
          rw [e2]
        rw [e1]
        refine RepT.newL (by simp) hp ?_
        refine RepT.tups (fun b hb => hb2 b ?_) r1.drop
        exact (List.mergeSort_perm bs _).mem_iff.mp hb
    · cases e3
  · cases e
end
end VS
set_option Elab.async false
set_option linter.all false
set_option maxRecDepth 100000
set_option maxHeartbeats 4000000
noncomputable section
namespace G
open PySem PySem.Spec PyProof.Rows L2 VS
def topS (i : Nat) : Stmt := PySem.Challenge.pw_lonetrack_k02_webs_refused.main.body.getD i (.Pass ⟨0, 0, 0, 0⟩)
structure Tops (mg : Str → Option Value) : Prop where
  MOST_LENGTH : ∃ t, mg "MOST_LENGTH" = some (.int (1000000000000000000000000000000) t)
  MOST_PLACES : ∃ t, mg "MOST_PLACES" = some (.int (60) t)
  MOST_TIES : ∃ t, mg "MOST_TIES" = some (.int (220) t)
  ValueError : mg "ValueError" = none
  abs : mg "abs" = none
  all : mg "all" = none
  bool : mg "bool" = none
  enumerate : mg "enumerate" = none
  int : mg "int" = none
  isinstance : mg "isinstance" = none
  len : mg "len" = none
  list : mg "list" = none
  max : mg "max" = none
  min : mg "min" = none
  range : mg "range" = none
  sorted : mg "sorted" = none
  sum : mg "sum" = none
  tuple : mg "tuple" = none
def isT : Tab := ("Apart", "Apart", true) :: ("Apart", "BadLengths", false) :: ("Apart", "BadWeb", false) :: ("Apart", "LoneError", true) :: ("Apart", "NoChoice", false) :: ("Apart", "NoPlace", false) :: ("Apart", "NoRow", false) :: ("Apart", "NoSide", false) :: ("Apart", "NoText", false) :: ("Apart", "NoTie", false) :: ("Apart", "NoWay", false) :: ("Apart", "NotLone", false) :: ("Apart", "NotPlain", false) :: ("Apart", "NothingDone", false) :: ("Apart", "Tied", false) :: ("Apart", "TooMany", false) :: ("Apart", "ValueError", true) :: ("BadWeb", "Apart", false) :: ("BadWeb", "BadLengths", false) :: ("BadWeb", "BadWeb", true) :: ("BadWeb", "LoneError", true) :: ("BadWeb", "NoChoice", false) :: ("BadWeb", "NoPlace", false) :: ("BadWeb", "NoRow", false) :: ("BadWeb", "NoSide", false) :: ("BadWeb", "NoText", false) :: ("BadWeb", "NoTie", false) :: ("BadWeb", "NoWay", false) :: ("BadWeb", "NotLone", false) :: ("BadWeb", "NotPlain", false) :: ("BadWeb", "NothingDone", false) :: ("BadWeb", "Tied", false) :: ("BadWeb", "TooMany", false) :: ("BadWeb", "ValueError", true) :: []
def yes_LoneError : List Str := ["Apart", "BadWeb"]
def no_LoneError : List Str := []
def flds_at : List Str := ["BadWeb"]
def flds_place : List Str := ["Apart"]
structure Xs (K : PySem.W.Frag) (mg : Str → Option Value) : Prop where
  c_Apart : ∃ C, mg "Apart" = some (.ref C)
  c_BadLengths : ∃ C, mg "BadLengths" = some (.ref C)
  c_BadWeb : ∃ C, mg "BadWeb" = some (.ref C)
  c_LoneError : ∃ C, mg "LoneError" = some (.ref C)
  c_NoChoice : ∃ C, mg "NoChoice" = some (.ref C)
  c_NoPlace : ∃ C, mg "NoPlace" = some (.ref C)
  c_NoRow : ∃ C, mg "NoRow" = some (.ref C)
  c_NoSide : ∃ C, mg "NoSide" = some (.ref C)
  c_NoText : ∃ C, mg "NoText" = some (.ref C)
  c_NoTie : ∃ C, mg "NoTie" = some (.ref C)
  c_NoWay : ∃ C, mg "NoWay" = some (.ref C)
  c_NotLone : ∃ C, mg "NotLone" = some (.ref C)
  c_NotPlain : ∃ C, mg "NotPlain" = some (.ref C)
  c_NothingDone : ∃ C, mg "NothingDone" = some (.ref C)
  c_Tied : ∃ C, mg "Tied" = some (.ref C)
  c_TooMany : ∃ C, mg "TooMany" = some (.ref C)
  tab : TabOk K mg isT
  yes_LoneError : ∀ c ∈ yes_LoneError, ∀ C, mg c = some (.ref C) → ExcC K C ∧ PySem.W.exmOne K (.ref C) (.ref c_LoneError.choose) = some true
  no_LoneError : ∀ c ∈ no_LoneError, ∀ C, mg c = some (.ref C) → PySem.W.exmOne K (.ref C) (.ref c_LoneError.choose) = some false
  y_Apart : ExcG K mg "Apart"
  y_BadWeb : ExcG K mg "BadWeb"
  fv_at : ∀ c ∈ flds_at, ∀ C, mg c = some (.ref C) → PySem.W.findIn K (.ref C) "at" = some none
  fv_place : ∀ c ∈ flds_place, ∀ C, mg c = some (.ref C) → PySem.W.findIn K (.ref C) "place" = some none
abbrev s_init_Apart : Stmt := (clsB (topS 16)).getD 0 (.Pass ⟨0, 0, 0, 0⟩)
abbrev s_init_BadWeb : Stmt := (clsB (topS 14)).getD 0 (.Pass ⟨0, 0, 0, 0⟩)
abbrev s_is_between : Stmt := topS 21
abbrev N_is_between : List Str := ["thing", "low", "high"]
abbrev p_is_between : List Str := ["thing", "low", "high"]
theorem sc_is_between : FnScope N_is_between p_is_between (defScope s_is_between) := ⟨rfl, rfl, rfl, by decide +kernel, rfl, by decide +kernel, by decide +kernel⟩
abbrev a_is_between : List Nat := []
def body_is_between : MS :=
    (dRet (dAnd (dIsa ["int"] (dV 0)) (dAnd (dNot (dIsa ["bool"] (dV 0))) (dChain (gCmp cLe) (gCmp cLe) (dV 1) (dV 0) (dV 2)))))
def F_is_between : FnD := fnD 3 3 a_is_between body_is_between
theorem cal_is_between {P : Program} {w : World} {K : PySem.W.Frag} {mg : Str → Option Value} {base : Heap} (T : Tops mg) (U : Xs K mg) (D : Def K mg "is_between" s_is_between p_is_between)  : Cal P w K mg base 1 "is_between" p_is_between F_is_between :=
  cal_mk (k := 0) D sc_is_between fun f cdv A outer s H E hr =>
    (vss_one (vs_ret (ve_and (ve_isa (by rfl) T.isinstance (ve_var (pv 0)) (pe_bltn (v := .ty "int") (by rfl) T.int b_int rfl)) (ve_and (ve_not (ve_isa (by rfl) T.isinstance (ve_var (pv 0)) (pe_bltn (v := .ty "bool") (by rfl) T.bool b_bool rfl))) (ve_one (ve_chain op_leC op_leC (ve_var (pv 1)) (ve_var (pv 0)) (ve_var (pv 2))))))))
abbrev s_is_row : Stmt := topS 22
abbrev N_is_row : List Str := ["thing"]
abbrev p_is_row : List Str := ["thing"]
theorem sc_is_row : FnScope N_is_row p_is_row (defScope s_is_row) := ⟨rfl, rfl, rfl, by decide +kernel, rfl, by decide +kernel, by decide +kernel⟩
abbrev a_is_row : List Nat := []
def body_is_row : MS :=
    (dRet (dIsa ["list", "tuple"] (dV 0)))
def F_is_row : FnD := fnD 1 1 a_is_row body_is_row
theorem cal_is_row {P : Program} {w : World} {K : PySem.W.Frag} {mg : Str → Option Value} {base : Heap} (T : Tops mg) (U : Xs K mg) (D : Def K mg "is_row" s_is_row p_is_row)  : Cal P w K mg base 1 "is_row" p_is_row F_is_row :=
  cal_mk (k := 0) D sc_is_row fun f cdv A outer s H E hr =>
    (vss_one (vs_ret (ve_isa2 (by rfl) T.isinstance (ve_var (pv 0)) (pe_bltn (v := .ty "list") (by rfl) T.list b_list rfl) (pe_bltn (v := .ty "tuple") (by rfl) T.tuple b_tuple rfl))))
abbrev s_tie_told : Stmt := topS 23
abbrev N_tie_told : List Str := ["many", "thing", "one", "other", "length"]
abbrev p_tie_told : List Str := ["many", "thing"]
theorem sc_tie_told : FnScope N_tie_told p_tie_told (defScope s_tie_told) := ⟨rfl, rfl, rfl, by decide +kernel, rfl, by decide +kernel, by decide +kernel⟩
abbrev a_tie_told : List Nat := (([] ++ []) ++ ([2, 3, 4] ++ (([] ++ []) ++ (([] ++ []) ++ []))))
def body_tie_told : MS :=
    (dSeq (dIfS (dOrT (dNotT (dTB (dFn [none] F_is_row (dCons (dV 1) dNil)))) (dTB (d2 gNe (dCallS [none] gLen (dCons (dV 1) dNil)) (dC (.int 3)))))
    (dRet (dC .non)) dSkip)
    (dSeq (dAsg (dV 1) (gSq [2, 3, 4]))
    (dSeq (dIfS (dOrT (dNotT (dTB (dFn [none, none, none] F_is_between (dCons (dV 2) (dCons (dC (.int 0)) (dCons (d2 gSub (dV 0) (dC (.int 1))) dNil)))))) (dOrT (dNotT (dTB (dFn [none, none, none] F_is_between (dCons (dV 3) (dCons (dC (.int 0)) (dCons (d2 gSub (dV 0) (dC (.int 1))) dNil)))))) (dTB (d2 gEq (dV 2) (dV 3)))))
    (dRet (dC .non)) dSkip)
    (dSeq (dIfS (dNotT (dTB (dFn [none, none, none] F_is_between (dCons (dV 4) (dCons (dC (.int 1)) (dCons (dC (.int 1000000000000000000000000000000)) dNil))))))
    (dRet (dC .non)) dSkip)
    (dRet (dTup (dCons (dCallS [none, none] gMin (dCons (dV 2) (dCons (dV 3) dNil))) (dCons (dCallS [none, none] gMax (dCons (dV 2) (dCons (dV 3) dNil))) (dCons (dV 4) dNil)))))))))
def F_tie_told : FnD := fnD 5 2 a_tie_told body_tie_told
theorem cal_tie_told {P : Program} {w : World} {K : PySem.W.Frag} {mg : Str → Option Value} {base : Heap} (T : Tops mg) (U : Xs K mg) (D : Def K mg "tie_told" s_tie_told p_tie_told) (c_is_between : Cal P w K mg base 1 "is_between" p_is_between F_is_between) (c_is_row : Cal P w K mg base 1 "is_row" p_is_row F_is_row) : Cal P w K mg base 2 "tie_told" p_tie_told F_tie_told :=
  cal_mk (k := 1) D sc_tie_told fun f cdv A outer s H E hr =>
    (vss_cons (vs_if (vt_bool (vw_or (vt_not (vt_val (ve_fn (c_is_row.mono (by decide)) hr (by rfl) (L2N.takes_of rfl rfl rfl rfl) (vio_cons (ve_var (pv 1)) vio_nil)))) (vw_or1 (vt_cmp (op_neD hr.units) impNe (ve_callS call_lenA sLen (by rfl) T.len b_len (vio_cons (ve_var (pv 1)) vio_nil)) ve_int (nomark _))))) (vss_one (vs_ret ve_non)) vss_nil)
    (vss_cons (vs_asg (ve_var (pv 1)) (vg_seq rfl (vgs_cons (pg_name (i := 2) sc_tie_told.nd rfl (by first | exact .inl rfl | exact .inr rfl)) (vgs_cons (pg_name (i := 3) sc_tie_told.nd rfl (by first | exact .inl rfl | exact .inr rfl)) (vgs_cons (pg_name (i := 4) sc_tie_told.nd rfl (by first | exact .inl rfl | exact .inr rfl)) vgs_nil)))))
    (vss_cons (vs_if (vt_bool (vw_or (vt_not (vt_val (ve_fn (c_is_between.mono (by decide)) hr (by rfl) (L2N.takes_of rfl rfl rfl rfl) (vio_cons (ve_var (pv 2)) (vio_cons ve_int (vio_cons (ve_op op_sub impSub (ve_var (pv 0)) ve_int) vio_nil)))))) (vw_or (vt_not (vt_val (ve_fn (c_is_between.mono (by decide)) hr (by rfl) (L2N.takes_of rfl rfl rfl rfl) (vio_cons (ve_var (pv 3)) (vio_cons ve_int (vio_cons (ve_op op_sub impSub (ve_var (pv 0)) ve_int) vio_nil)))))) (vw_or1 (vt_cmp (op_eqD hr.units) impEq (ve_var (pv 2)) (ve_var (pv 3)) (nomark _)))))) (vss_one (vs_ret ve_non)) vss_nil)
    (vss_cons (vs_if (vt_not (vt_val (ve_fn (c_is_between.mono (by decide)) hr (by rfl) (L2N.takes_of rfl rfl rfl rfl) (vio_cons (ve_var (pv 4)) (vio_cons ve_int (vio_cons (ve_con (pe_glob (v := .int (1000000000000000000000000000000)) (by rfl) T.MOST_LENGTH.choose_spec ⟨_, rfl⟩) fun _ _ h => h.int) vio_nil)))))) (vss_one (vs_ret ve_non)) vss_nil)
    (vss_one (vs_ret (ve_tup (va_cons (ve_callS (cr_minA rfl hr.units) sMin (by rfl) T.min b_min (vio_cons (ve_var (pv 2)) (vio_cons (ve_var (pv 3)) vio_nil))) (va_cons (ve_callS (cr_maxA rfl hr.units) sMax (by rfl) T.max b_max (vio_cons (ve_var (pv 2)) (vio_cons (ve_var (pv 3)) vio_nil))) (va_cons (ve_var (pv 4)) va_nil))))))))))
abbrev s_places_come : Stmt := topS 24
abbrev N_places_come : List Str := ["many", "ties", "found", "turn", "one", "other", "length"]
abbrev p_places_come : List Str := ["many", "ties"]
theorem sc_places_come : FnScope N_places_come p_places_come (defScope s_places_come) := ⟨rfl, rfl, rfl, by decide +kernel, rfl, by decide +kernel, by decide +kernel⟩
abbrev a_places_come : List Nat := ([2] ++ ([] ++ (([3] ++ ([4, 5, 6] ++ (([] ++ []) ++ []))) ++ [])))
def body_places_come : MS :=
    (dSeq (dSet 2 (d2 gMulA (dLst (dCons (dC (.bl false)) dNil)) (dV 0)))
    (dSeq (dPut 2 (dC (.int 0)) (dC (.bl true)))
    (dSeq (dFor (dRange1 (dCons (dV 0) dNil)) (gNm 3)
    (dFor (dItems (dV 1)) (gTp [4, 5, 6])
    (dIfS (dOrT (dTB (dAt 2 (dV 4))) (dTB (dAt 2 (dV 5))))
    (dSeq (dPut 2 (dV 4) (dC (.bl true)))
    (dPut 2 (dV 5) (dC (.bl true)))) dSkip)))
    (dRet (dM 2)))))
def F_places_come : FnD := fnD 7 2 a_places_come body_places_come
theorem cal_places_come {P : Program} {w : World} {K : PySem.W.Frag} {mg : Str → Option Value} {base : Heap} (T : Tops mg) (U : Xs K mg) (D : Def K mg "places_come" s_places_come p_places_come)  : Cal P w K mg base 1 "places_come" p_places_come F_places_come :=
  cal_mk (k := 0) D sc_places_come fun f cdv A outer s H E hr =>
    (vss_cons (vs_set (i := 2) sc_places_come.nd rfl (by first | exact .inl rfl | exact .inr rfl) (ve_op op_mulA impMulA (ve_lst (va_cons ve_bl va_nil)) (ve_var (pv 0))))
    (vss_cons (vs_put (hu_of hr) (pv 2) ve_int ve_bl)
    (vss_cons (vs_for (passes_of rfl) rfl (vi_range1 (by rfl) T.range (va_cons (ve_var (pv 0)) va_nil)) (vg_name (pg_name (i := 3) sc_places_come.nd rfl (by first | exact .inl rfl | exact .inr rfl)))
    (vss_one (vs_for (passes_of rfl) rfl (vi_seq (ve_var (pv 1))) (vg_tup rfl (vgs_cons (pg_name (i := 4) sc_places_come.nd rfl (by first | exact .inl rfl | exact .inr rfl)) (vgs_cons (pg_name (i := 5) sc_places_come.nd rfl (by first | exact .inl rfl | exact .inr rfl)) (vgs_cons (pg_name (i := 6) sc_places_come.nd rfl (by first | exact .inl rfl | exact .inr rfl)) vgs_nil))))
    (vss_one (vs_if (vt_bool (vw_or (vt_val (ve_at (hu_of hr) (pv 2) (ve_var (pv 4)))) (vw_or1 (vt_val (ve_at (hu_of hr) (pv 2) (ve_var (pv 5))))))) (vss_cons (vs_put (hu_of hr) (pv 2) (ve_var (pv 4)) ve_bl)
    (vss_one (vs_put (hu_of hr) (pv 2) (ve_var (pv 5)) ve_bl))) vss_nil)))))
    (vss_one (vs_ret (ve_mov (pv 2)))))))
abbrev s_made_web : Stmt := topS 25
abbrev N_made_web : List Str := ["many", "rows", "found", "at", "thing", "ties", "come", "tie", "one", "other"]
abbrev p_made_web : List Str := ["many", "rows"]
theorem sc_made_web : FnScope N_made_web p_made_web (defScope s_made_web) := ⟨rfl, rfl, rfl, by decide +kernel, rfl, by decide +kernel, by decide +kernel⟩
abbrev a_made_web : List Nat := (([] ++ []) ++ ([2] ++ (([3, 4] ++ ([7] ++ (([] ++ []) ++ []))) ++ ([5] ++ ([6] ++ (([] ++ []) ++ []))))))
def body_made_web : MS :=
    (dSeq (dIfS (dOrT (dNotT (dTB (dFn [none, none, none] F_is_between (dCons (dV 0) (dCons (dC (.int 1)) (dCons (dC (.int 60)) dNil)))))) (dNotT (dTB (dFn [none] F_is_row (dCons (dV 1) dNil)))))
    (dRaiseI "BadWeb" "at" (d1 gNeg (dC (.int 1)))) dSkip)
    (dSeq (dSet 2 (dC (.dT true [] [])))
    (dSeq (dFor (dEnA (dCons (dV 1) dNil)) (gTp [3, 4])
    (dSeq (dSet 7 (dFn [none, none] F_tie_told (dCons (dV 0) (dCons (dV 4) dNil))))
    (dSeq (dIfS (dOrT (dTB (d2 (gIsN false) (dV 7) (dC .non))) (dOrT (dTB (d2 gEq (dV 3) (dC (.int 220)))) (dTB (dHasS false 2 (dSl (dV 7) dNo (dEnd (dC (.int 2))))))))
    (dRaiseI "BadWeb" "at" (dV 3)) dSkip)
    (dPut 2 (dSl (dV 7) dNo (dEnd (dC (.int 2)))) (dAt 7 (dC (.int 2)))))))
    (dSeq (dSet 5 (dCall gTuple (dCons (dLc [8, 9] (dItems (dCall gSorted (dCons (dF 2) dNil))) (gTp [8, 9]) dYes (dTup (dCons (dV 8) (dCons (dV 9) (dCons (dAt 2 (dTup (dCons (dV 8) (dCons (dV 9) dNil)))) dNil))))) dNil)))
    (dSeq (dSet 6 (dFn [none, none] F_places_come (dCons (dV 0) (dCons (dV 5) dNil))))
    (dSeq (dIfS (dTB (dInS false 6 (dC (.bl false))))
    (dRaiseI "Apart" "place" (dIdx 6 (dCons (dC (.bl false)) dNil))) dSkip)
    (dRet (dTup (dCons (dV 0) (dCons (dV 5) dNil))))))))))
def F_made_web : FnD := fnD 10 2 a_made_web body_made_web
theorem cal_made_web {P : Program} {w : World} {K : PySem.W.Frag} {mg : Str → Option Value} {base : Heap} (T : Tops mg) (U : Xs K mg) (D : Def K mg "made_web" s_made_web p_made_web) (c_places_come : Cal P w K mg base 1 "places_come" p_places_come F_places_come) (c_tie_told : Cal P w K mg base 2 "tie_told" p_tie_told F_tie_told) (c_is_row : Cal P w K mg base 1 "is_row" p_is_row F_is_row) (c_is_between : Cal P w K mg base 1 "is_between" p_is_between F_is_between) (ii_Apart : ExcI P w K mg base 1 "Apart" "place")  (ii_BadWeb : ExcI P w K mg base 1 "BadWeb" "at") : Cal P w K mg base 3 "made_web" p_made_web F_made_web :=
  cal_mk (k := 2) D sc_made_web fun f cdv A outer s H E hr =>
    (vss_cons (vs_if (vt_bool (vw_or (vt_not (vt_val (ve_fn (c_is_between.mono (by decide)) hr (by rfl) (L2N.takes_of rfl rfl rfl rfl) (vio_cons (ve_var (pv 0)) (vio_cons ve_int (vio_cons (ve_con (pe_glob (v := .int (60)) (by rfl) T.MOST_PLACES.choose_spec ⟨_, rfl⟩) fun _ _ h => h.int) vio_nil)))))) (vw_or1 (vt_not (vt_val (ve_fn (c_is_row.mono (by decide)) hr (by rfl) (L2N.takes_of rfl rfl rfl rfl) (vio_cons (ve_var (pv 1)) vio_nil))))))) (vss_one (vs_raiseI rfl (L2N.takes_of rfl rfl rfl rfl) (ii_BadWeb.mono (by decide)) hr (by rfl) (ve_un un_neg impNeg ve_int))) vss_nil)
    (vss_cons (vs_set (i := 2) sc_made_web.nd rfl (by first | exact .inl rfl | exact .inr rfl) ve_dnewT)
    (vss_cons (vs_for (passes_of rfl) rfl (vi_enA (by rfl) T.enumerate (va_cons (ve_var (pv 1)) va_nil)) (vg_tup rfl (vgs_cons (pg_name (i := 3) sc_made_web.nd rfl (by first | exact .inl rfl | exact .inr rfl)) (vgs_cons (pg_name (i := 4) sc_made_web.nd rfl (by first | exact .inl rfl | exact .inr rfl)) vgs_nil)))
    (vss_cons (vs_set (i := 7) sc_made_web.nd rfl (by first | exact .inl rfl | exact .inr rfl) (ve_fn (c_tie_told.mono (by decide)) hr (by rfl) (L2N.takes_of rfl rfl rfl rfl) (vio_cons (ve_var (pv 0)) (vio_cons (ve_var (pv 4)) vio_nil))))
    (vss_cons (vs_if (vt_bool (vw_or (vt_cmp op_isN impIsN (ve_var (pv 7)) ve_non (nomark _)) (vw_or (vt_cmp (op_eqD hr.units) impEq (ve_var (pv 3)) (ve_con (pe_glob (v := .int (220)) (by rfl) T.MOST_TIES.choose_spec ⟨_, rfl⟩) fun _ _ h => h.int) (nomark _)) (vw_or1 (vt_inD (hu_of hr) (ve_slice (ve_var (pv 7)) vo_none (vo_some ve_int)) (pv 2)))))) (vss_one (vs_raiseI rfl (L2N.takes_of rfl rfl rfl rfl) (ii_BadWeb.mono (by decide)) hr (by rfl) (ve_var (pv 3)))) vss_nil)
    (vss_one (vs_put (hu_of hr) (pv 2) (ve_slice (ve_var (pv 7)) vo_none (vo_some ve_int)) (ve_at (hu_of hr) (pv 7) ve_int))))))
    (vss_cons (vs_set (i := 5) sc_made_web.nd rfl (by first | exact .inl rfl | exact .inr rfl) (ve_callTy call_tuple_of impTuple (by rfl) T.tuple b_tuple (va_cons (ve_lc (own := [("one", 8), ("other", 9)]) rfl sc_made_web.nd (vi_seq (ve_callB (cr_sorted2 rfl hr.units) impSorted (by rfl) T.sorted b_sorted (va_cons (ve_frz (pv 2)) va_nil))) (blkOk_by (own := [("one", 8), ("other", 9)]) (N := N_made_web) (sc := defScope s_made_web) (by decide +kernel)) (fun _ _ _ _ _ => (vg_tup rfl (vgs_cons (pg_name (i := 8) sc_made_web.nd rfl (by first | exact .inl rfl | exact .inr rfl)) (vgs_cons (pg_name (i := 9) sc_made_web.nd rfl (by first | exact .inl rfl | exact .inr rfl)) vgs_nil)))) (fun _ _ _ _ _ => vts_nil) (fun _ _ _ _ _ => (ve_tup (va_cons (ve_var (pv 8)) (va_cons (ve_var (pv 9)) (va_cons (ve_at (hu_of hr) (pv 2) (ve_tup (va_cons (ve_var (pv 8)) (va_cons (ve_var (pv 9)) va_nil)))) va_nil)))))) va_nil)))
    (vss_cons (vs_set (i := 6) sc_made_web.nd rfl (by first | exact .inl rfl | exact .inr rfl) (ve_fn (c_places_come.mono (by decide)) hr (by rfl) (L2N.takes_of rfl rfl rfl rfl) (vio_cons (ve_var (pv 0)) (vio_cons (ve_var (pv 5)) vio_nil))))
    (vss_cons (vs_if (vt_inL (room65 hr) ve_bl (pv 6)) (vss_one (vs_raiseI rfl (L2N.takes_of rfl rfl rfl rfl) (ii_Apart.mono (by decide)) hr (by rfl) (ve_index (room65 hr) (pv 6) (va_cons ve_bl va_nil)))) vss_nil)
    (vss_one (vs_ret (ve_tup (va_cons (ve_var (pv 0)) (va_cons (ve_var (pv 5)) va_nil)))))))))))
abbrev s_law_row_of : Stmt := topS 27
abbrev N_law_row_of : List Str := ["cell", "found", "left", "k", "one"]
abbrev p_law_row_of : List Str := ["cell"]
theorem sc_law_row_of : FnScope N_law_row_of p_law_row_of (defScope s_law_row_of) := ⟨rfl, rfl, rfl, by decide +kernel, rfl, by decide +kernel, by decide +kernel⟩
abbrev a_law_row_of : List Nat := ([1] ++ ([2] ++ (((([3] ++ (([] ++ [2]) ++ [])) ++ []) ++ []) ++ (([3] ++ ([4] ++ ([4] ++ []))) ++ []))))
def body_law_row_of : MS :=
    (dSeq (dSet 1 (dLst dNil))
    (dSeq (dSet 2 (dCallS [none] gAbs (dCons (dV 0) dNil)))
    (dSeq (dIfS (dTB (d2 (gCmp cGe) (dV 2) (d2 gPow (dC (.int 10)) (dC (.int 18)))))
    (dSeq (dFor (dRange1 (dCons (dC (.int 60)) dNil)) (gNm 3)
    (dIfS (dTB (d2 (gCmp cGt) (dV 2) (dC (.int 0))))
    (dSeq (dDrop (dMt 1 gApp (dCons (d2 gMod (dV 2) (d2 gPow (dC (.int 10)) (dC (.int 6)))) dNil)))
    (dSet 2 (d2 gDiv (dV 2) (d2 gPow (dC (.int 10)) (dC (.int 6)))))) dSkip))
    (dRet (dM 1))) dSkip)
    (dSeq (dFor (dRange1 (dCons (dC (.int 9)) dNil)) (gNm 3)
    (dSeq (dSet 4 (d2 gMod (d2 gAdd (d2 gAdd (d2 gMulA (dV 0) (dC (.int 48271))) (d2 gMulA (dC (.int 977)) (dV 3))) (dC (.int 1))) (dC (.int 2147483647))))
    (dSeq (dSet 4 (d2 gMod (d2 gMulA (dV 4) (dV 4)) (dC (.int 2147483647))))
    (dDrop (dMt 1 gApp (dCons (d2 gMod (d2 gDiv (d2 gMod (d2 gMulA (d2 gAdd (dV 4) (d2 gMulA (dC (.int 40692)) (d2 gAdd (dV 3) (dC (.int 3))))) (dC (.int 69621))) (dC (.int 2147483629))) (dC (.int 8))) (d2 gPow (dC (.int 10)) (dC (.int 6)))) dNil))))))
    (dRet (dM 1))))))
def F_law_row_of : FnD := fnD 5 1 a_law_row_of body_law_row_of
theorem cal_law_row_of {P : Program} {w : World} {K : PySem.W.Frag} {mg : Str → Option Value} {base : Heap} (T : Tops mg) (U : Xs K mg) (D : Def K mg "_law_row_of" s_law_row_of p_law_row_of)  : Cal P w K mg base 1 "_law_row_of" p_law_row_of F_law_row_of :=
  cal_mk (k := 0) D sc_law_row_of fun f cdv A outer s H E hr =>
    (vss_cons (vs_set (i := 1) sc_law_row_of.nd rfl (by first | exact .inl rfl | exact .inr rfl) (ve_lst va_nil))
    (vss_cons (vs_set (i := 2) sc_law_row_of.nd rfl (by first | exact .inl rfl | exact .inr rfl) (ve_callS call_abs sAbs (by rfl) T.abs b_abs (vio_cons (ve_var (pv 0)) vio_nil)))
    (vss_cons (vs_if (vt_cmp op_geC (impCmp cGe) (ve_var (pv 2)) (ve_op op_pow impPow ve_int ve_int) (nomark _)) (vss_cons (vs_for (passes_of rfl) rfl (vi_range1 (by rfl) T.range (va_cons ve_int va_nil)) (vg_name (pg_name (i := 3) sc_law_row_of.nd rfl (by first | exact .inl rfl | exact .inr rfl)))
    (vss_one (vs_if (vt_cmp op_gtC (impCmp cGt) (ve_var (pv 2)) ve_int (nomark _)) (vss_cons (vs_expr (ve_mt (name := "append") PySem.F.slot_list_append PySem.F.type_list_append mt_append impApp (pv 1) (va_cons (ve_op op_mod impMod (ve_var (pv 2)) (ve_op op_pow impPow ve_int ve_int)) va_nil)))
    (vss_one (vs_set (i := 2) sc_law_row_of.nd rfl (by first | exact .inl rfl | exact .inr rfl) (ve_op op_fdiv impDiv (ve_var (pv 2)) (ve_op op_pow impPow ve_int ve_int))))) vss_nil)))
    (vss_one (vs_ret (ve_mov (pv 1))))) vss_nil)
    (vss_cons (vs_for (passes_of rfl) rfl (vi_range1 (by rfl) T.range (va_cons ve_int va_nil)) (vg_name (pg_name (i := 3) sc_law_row_of.nd rfl (by first | exact .inl rfl | exact .inr rfl)))
    (vss_cons (vs_set (i := 4) sc_law_row_of.nd rfl (by first | exact .inl rfl | exact .inr rfl) (ve_op op_mod impMod (ve_op op_add3 impAdd (ve_op op_add3 impAdd (ve_op op_mulA impMulA (ve_var (pv 0)) ve_int) (ve_op op_mulA impMulA ve_int (ve_var (pv 3)))) ve_int) ve_int))
    (vss_cons (vs_set (i := 4) sc_law_row_of.nd rfl (by first | exact .inl rfl | exact .inr rfl) (ve_op op_mod impMod (ve_op op_mulA impMulA (ve_var (pv 4)) (ve_var (pv 4))) ve_int))
    (vss_one (vs_expr (ve_mt (name := "append") PySem.F.slot_list_append PySem.F.type_list_append mt_append impApp (pv 1) (va_cons (ve_op op_mod impMod (ve_op op_fdiv impDiv (ve_op op_mod impMod (ve_op op_mulA impMulA (ve_op op_add3 impAdd (ve_var (pv 4)) (ve_op op_mulA impMulA ve_int (ve_op op_add3 impAdd (ve_var (pv 3)) ve_int))) ve_int) ve_int) ve_int) (ve_op op_pow impPow ve_int ve_int)) va_nil)))))))
    (vss_one (vs_ret (ve_mov (pv 1))))))))
abbrev s_law_jar : Stmt := topS 28
abbrev N_law_jar : List Str := ["script", "draws", "cell"]
abbrev p_law_jar : List Str := ["script"]
theorem sc_law_jar : FnScope N_law_jar p_law_jar (defScope s_law_jar) := ⟨rfl, rfl, rfl, by decide +kernel, rfl, by decide +kernel, by decide +kernel⟩
abbrev a_law_jar : List Nat := ([1] ++ (([2] ++ []) ++ []))
def body_law_jar : MS :=
    (dSeq (dSet 1 (dLst dNil))
    (dSeq (dFor (dItems (dSl (dV 0) dNo (dEnd (dC (.int 63))))) (gNm 2)
    (dDrop (dMt 1 gExt (dCons (dFn [none] F_law_row_of (dCons (dV 2) dNil)) dNil))))
    (dRet (dDisp (dCons (dC (.str "draws")) (dCons (dF 1) (dCons (dC (.str "at")) (dCons (dC (.int 0)) (dCons (dC (.str "more")) (dCons (d2 gMod (d2 gAdd (dC (.int 7919)) (d2 gMulA (dC (.int 40693)) (dCallS [some 1] gSum (dIO 1 dNil)))) (dC (.int 2147483629))) dNil))))))))))
def F_law_jar : FnD := fnD 3 1 a_law_jar body_law_jar
theorem cal_law_jar {P : Program} {w : World} {K : PySem.W.Frag} {mg : Str → Option Value} {base : Heap} (T : Tops mg) (U : Xs K mg) (D : Def K mg "_law_jar" s_law_jar p_law_jar) (c_law_row_of : Cal P w K mg base 1 "_law_row_of" p_law_row_of F_law_row_of) : Cal P w K mg base 2 "_law_jar" p_law_jar F_law_jar :=
  cal_mk (k := 1) D sc_law_jar fun f cdv A outer s H E hr =>
    (vss_cons (vs_set (i := 1) sc_law_jar.nd rfl (by first | exact .inl rfl | exact .inr rfl) (ve_lst va_nil))
    (vss_cons (vs_for (passes_of rfl) rfl (vi_seq (ve_slice (ve_var (pv 0)) vo_none (vo_some ve_int))) (vg_name (pg_name (i := 2) sc_law_jar.nd rfl (by first | exact .inl rfl | exact .inr rfl)))
    (vss_one (vs_expr (ve_mt (name := "extend") PySem.F.slot_list_extend PySem.F.type_list_extend mt_extend impExt (pv 1) (va_cons (ve_fn (c_law_row_of.mono (by decide)) hr (by rfl) (L2N.takes_of rfl rfl rfl rfl) (vio_cons (ve_var (pv 2)) vio_nil)) va_nil)))))
    (vss_one (vs_ret (ve_disp (vp_cons ve_str (ve_frz (pv 1)) (vp_cons ve_str ve_int (vp_cons ve_str (ve_op op_mod impMod (ve_op op_add3 impAdd ve_int (ve_op op_mulA impMulA ve_int (ve_callS (cr_sum rfl) sSum (by rfl) T.sum b_sum (vio_slot (pv 1) vio_nil)))) ve_int) vp_nil))) (by rfl) (by rfl) (fun z => by cases z) (by decide))))))
abbrev s_law_take : Stmt := topS 29
abbrev N_law_take : List Str := ["jar", "many"]
abbrev p_law_take : List Str := ["jar", "many"]
theorem sc_law_take : FnScope N_law_take p_law_take (defScope s_law_take) := ⟨rfl, rfl, rfl, by decide +kernel, rfl, by decide +kernel, by decide +kernel⟩
abbrev a_law_take : List Nat := ((([] ++ []) ++ []) ++ ([] ++ []))
def body_law_take : MS :=
    (dSeq (dIfS (dTB (d2 (gCmp cLt) (dAt 0 (dC (.str "at"))) (dCallS [none] gLen (dCons (dAt 0 (dC (.str "draws"))) dNil))))
    (dSeq (dPut 0 (dC (.str "at")) (d2 gAdd (dAt 0 (dC (.str "at"))) (dC (.int 1))))
    (dRet (d2 gMod (d2 gDiv (d2 gIx (dAt 0 (dC (.str "draws"))) (d2 gSub (dAt 0 (dC (.str "at"))) (dC (.int 1)))) (dC (.int 7))) (dV 1)))) dSkip)
    (dSeq (dPut 0 (dC (.str "more")) (d2 gMod (d2 gAdd (d2 gPow (dAt 0 (dC (.str "more"))) (dC (.int 2))) (dC (.int 40692))) (dC (.int 2147483629))))
    (dRet (d2 gMod (d2 gDiv (dAt 0 (dC (.str "more"))) (dC (.int 8))) (dV 1)))))
def F_law_take : FnD := fnD 2 2 a_law_take body_law_take
theorem cal_law_take {P : Program} {w : World} {K : PySem.W.Frag} {mg : Str → Option Value} {base : Heap} (T : Tops mg) (U : Xs K mg) (D : Def K mg "_law_take" s_law_take p_law_take)  : Cal P w K mg base 1 "_law_take" p_law_take F_law_take :=
  cal_mk (k := 0) D sc_law_take fun f cdv A outer s H E hr =>
    (vss_cons (vs_if (vt_cmp op_ltC (impCmp cLt) (ve_at (hu_of hr) (pv 0) ve_str) (ve_callS call_lenA sLen (by rfl) T.len b_len (vio_cons (ve_at (hu_of hr) (pv 0) ve_str) vio_nil)) (nomark _)) (vss_cons (vs_put (hu_of hr) (pv 0) ve_str (ve_op op_add3 impAdd (ve_at (hu_of hr) (pv 0) ve_str) ve_int))
    (vss_one (vs_ret (ve_op op_mod impMod (ve_op op_fdiv impDiv (ve_ix (ve_at (hu_of hr) (pv 0) ve_str) (ve_op op_sub impSub (ve_at (hu_of hr) (pv 0) ve_str) ve_int)) ve_int) (ve_var (pv 1)))))) vss_nil)
    (vss_cons (vs_put (hu_of hr) (pv 0) ve_str (ve_op op_mod impMod (ve_op op_add3 impAdd (ve_op op_pow impPow (ve_at (hu_of hr) (pv 0) ve_str) ve_int) ve_int) ve_int))
    (vss_one (vs_ret (ve_op op_mod impMod (ve_op op_fdiv impDiv (ve_at (hu_of hr) (pv 0) ve_str) ve_int) (ve_var (pv 1)))))))
abbrev s_law_length : Stmt := topS 30
abbrev N_law_length : List Str := ["jar", "kind"]
abbrev p_law_length : List Str := ["jar", "kind"]
theorem sc_law_length : FnScope N_law_length p_law_length (defScope s_law_length) := ⟨rfl, rfl, rfl, by decide +kernel, rfl, by decide +kernel, by decide +kernel⟩
abbrev a_law_length : List Nat := (([] ++ []) ++ (([] ++ []) ++ (([] ++ []) ++ (([] ++ []) ++ []))))
def body_law_length : MS :=
    (dSeq (dIfS (dTB (d2 gEq (dV 1) (dC (.int 0))))
    (dRet (dC (.int 1))) dSkip)
    (dSeq (dIfS (dTB (d2 gEq (dV 1) (dC (.int 1))))
    (dRet (d2 gAdd (dC (.int 1)) (dFn [some 0, none] F_law_take (dIO 0 (dCons (dC (.int 3)) dNil))))) dSkip)
    (dSeq (dIfS (dTB (d2 gEq (dV 1) (dC (.int 2))))
    (dRet (d2 gIx (dLst (dCons (dC (.int 1)) (dCons (dC (.int 2)) (dCons (dC (.int 4)) (dCons (dC (.int 8)) (dCons (dC (.int 16)) (dCons (dC (.int 32)) (dCons (dC (.int 64)) (dCons (dC (.int 128)) dNil))))))))) (dFn [some 0, none] F_law_take (dIO 0 (dCons (dC (.int 8)) dNil))))) dSkip)
    (dSeq (dIfS (dTB (d2 gEq (dV 1) (dC (.int 3))))
    (dRet (d2 gMulA (d2 gAdd (dC (.int 1)) (dFn [some 0, none] F_law_take (dIO 0 (dCons (dC (.int 9)) dNil)))) (d2 gPow (dC (.int 10)) (dC (.int 29))))) dSkip)
    (dRet (d2 gIx (dLst (dCons (d2 gPow (dC (.int 10)) (dC (.int 30))) (dCons (dC (.int 1)) (dCons (d2 gSub (d2 gPow (dC (.int 10)) (dC (.int 30))) (dC (.int 1))) (dCons (d2 gMulA (dC (.int 5)) (d2 gPow (dC (.int 10)) (dC (.int 29)))) dNil))))) (dFn [some 0, none] F_law_take (dIO 0 (dCons (dC (.int 4)) dNil)))))))))
def F_law_length : FnD := fnD 2 2 a_law_length body_law_length
theorem cal_law_length {P : Program} {w : World} {K : PySem.W.Frag} {mg : Str → Option Value} {base : Heap} (T : Tops mg) (U : Xs K mg) (D : Def K mg "_law_length" s_law_length p_law_length) (c_law_take : Cal P w K mg base 1 "_law_take" p_law_take F_law_take) : Cal P w K mg base 2 "_law_length" p_law_length F_law_length :=
  cal_mk (k := 1) D sc_law_length fun f cdv A outer s H E hr =>
    (vss_cons (vs_if (vt_cmp (op_eqD hr.units) impEq (ve_var (pv 1)) ve_int (nomark _)) (vss_one (vs_ret ve_int)) vss_nil)
    (vss_cons (vs_if (vt_cmp (op_eqD hr.units) impEq (ve_var (pv 1)) ve_int (nomark _)) (vss_one (vs_ret (ve_op op_add3 impAdd ve_int (ve_fn (c_law_take.mono (by decide)) hr (by rfl) (L2N.takes_of rfl rfl rfl rfl) (vio_slot (pv 0) (vio_cons ve_int vio_nil)))))) vss_nil)
    (vss_cons (vs_if (vt_cmp (op_eqD hr.units) impEq (ve_var (pv 1)) ve_int (nomark _)) (vss_one (vs_ret (ve_ix (ve_lst (va_cons ve_int (va_cons ve_int (va_cons ve_int (va_cons ve_int (va_cons ve_int (va_cons ve_int (va_cons ve_int (va_cons ve_int va_nil))))))))) (ve_fn (c_law_take.mono (by decide)) hr (by rfl) (L2N.takes_of rfl rfl rfl rfl) (vio_slot (pv 0) (vio_cons ve_int vio_nil)))))) vss_nil)
    (vss_cons (vs_if (vt_cmp (op_eqD hr.units) impEq (ve_var (pv 1)) ve_int (nomark _)) (vss_one (vs_ret (ve_op op_mulA impMulA (ve_op op_add3 impAdd ve_int (ve_fn (c_law_take.mono (by decide)) hr (by rfl) (L2N.takes_of rfl rfl rfl rfl) (vio_slot (pv 0) (vio_cons ve_int vio_nil)))) (ve_op op_pow impPow ve_int ve_int)))) vss_nil)
    (vss_one (vs_ret (ve_ix (ve_lst (va_cons (ve_op op_pow impPow ve_int ve_int) (va_cons ve_int (va_cons (ve_op op_sub impSub (ve_op op_pow impPow ve_int ve_int) ve_int) (va_cons (ve_op op_mulA impMulA ve_int (ve_op op_pow impPow ve_int ve_int)) va_nil))))) (ve_fn (c_law_take.mono (by decide)) hr (by rfl) (L2N.takes_of rfl rfl rfl rfl) (vio_slot (pv 0) (vio_cons ve_int vio_nil))))))))))
abbrev s_law_order : Stmt := topS 31
abbrev N_law_order : List Str := ["jar", "many", "left", "k"]
abbrev p_law_order : List Str := ["jar", "many"]
theorem sc_law_order : FnScope N_law_order p_law_order (defScope s_law_order) := ⟨rfl, rfl, rfl, by decide +kernel, rfl, by decide +kernel, by decide +kernel⟩
abbrev a_law_order : List Nat := ([2] ++ [])
def body_law_order : MS :=
    (dSeq (dSet 2 (d1 lr1 (dV 1)))
    (dRet (dLc [3] (dRange1 (dCons (dV 1) dNil)) (gNm 3) dYes (dMt 2 gPop (dCons (dFn [some 0, none] F_law_take (dIO 0 (dCons (dCallS [some 2] gLen (dIO 2 dNil)) dNil))) dNil)))))
def F_law_order : FnD := fnD 4 2 a_law_order body_law_order
theorem cal_law_order {P : Program} {w : World} {K : PySem.W.Frag} {mg : Str → Option Value} {base : Heap} (T : Tops mg) (U : Xs K mg) (D : Def K mg "_law_order" s_law_order p_law_order) (c_law_take : Cal P w K mg base 1 "_law_take" p_law_take F_law_take) : Cal P w K mg base 2 "_law_order" p_law_order F_law_order :=
  cal_mk (k := 1) D sc_law_order fun f cdv A outer s H E hr =>
    (vss_cons (vs_set (i := 2) sc_law_order.nd rfl (by first | exact .inl rfl | exact .inr rfl) (ve_listR1 rfl (by rfl) T.list (by rfl) T.range (ve_var (pv 1))))
    (vss_one (vs_ret (ve_lc (own := [("k", 3)]) rfl sc_law_order.nd (vi_range1 (by rfl) T.range (va_cons (ve_var (pv 1)) va_nil)) (blkOk_by (own := [("k", 3)]) (N := N_law_order) (sc := defScope s_law_order) (by decide +kernel)) (fun _ _ _ _ _ => (vg_name (pg_name (i := 3) sc_law_order.nd rfl (by first | exact .inl rfl | exact .inr rfl)))) (fun _ _ _ _ _ => vts_nil) (fun _ _ _ _ _ => (ve_mt (name := "pop") PySem.F.slot_list_pop PySem.F.type_list_pop mt_popAt impPop (pv 2) (va_cons (ve_fn (c_law_take.mono (by decide)) hr (by rfl) takesF (vio_slot (pv 0) (vio_cons (ve_callS call_lenA sLen (by rfl) T.len b_len (vio_slot (pv 2) vio_nil)) vio_nil))) va_nil)))))))
abbrev s_law_tie : Stmt := topS 32
abbrev N_law_tie : List Str := ["held", "one", "other", "length"]
abbrev p_law_tie : List Str := ["held", "one", "other", "length"]
theorem sc_law_tie : FnScope N_law_tie p_law_tie (defScope s_law_tie) := ⟨rfl, rfl, rfl, by decide +kernel, rfl, by decide +kernel, by decide +kernel⟩
abbrev a_law_tie : List Nat := ([] ++ [])
def body_law_tie : MS :=
    (dIfS (dAndT (dTB (d2 gNe (dV 1) (dV 2))) (dTB (dHasS true 0 (dTup (dCons (dCallS [none, none] gMin (dCons (dV 1) (dCons (dV 2) dNil))) (dCons (dCallS [none, none] gMax (dCons (dV 1) (dCons (dV 2) dNil))) dNil))))))
    (dPut 0 (dTup (dCons (dCallS [none, none] gMin (dCons (dV 1) (dCons (dV 2) dNil))) (dCons (dCallS [none, none] gMax (dCons (dV 1) (dCons (dV 2) dNil))) dNil))) (dV 3)) dSkip)
def F_law_tie : FnD := fnD 4 4 a_law_tie body_law_tie
theorem cal_law_tie {P : Program} {w : World} {K : PySem.W.Frag} {mg : Str → Option Value} {base : Heap} (T : Tops mg) (U : Xs K mg) (D : Def K mg "_law_tie" s_law_tie p_law_tie)  : Cal P w K mg base 1 "_law_tie" p_law_tie F_law_tie :=
  cal_mk (k := 0) D sc_law_tie fun f cdv A outer s H E hr =>
    (vss_one (vs_if (vt_bool (vw_and (vt_cmp (op_neD hr.units) impNe (ve_var (pv 1)) (ve_var (pv 2)) (nomark _)) (vw_one (vt_ninD (hu_of hr) (ve_tup (va_cons (ve_callS (cr_minA rfl hr.units) sMin (by rfl) T.min b_min (vio_cons (ve_var (pv 1)) (vio_cons (ve_var (pv 2)) vio_nil))) (va_cons (ve_callS (cr_maxA rfl hr.units) sMax (by rfl) T.max b_max (vio_cons (ve_var (pv 1)) (vio_cons (ve_var (pv 2)) vio_nil))) va_nil))) (pv 0))))) (vss_one (vs_put (hu_of hr) (pv 0) (ve_tup (va_cons (ve_callS (cr_minA rfl hr.units) sMin (by rfl) T.min b_min (vio_cons (ve_var (pv 1)) (vio_cons (ve_var (pv 2)) vio_nil))) (va_cons (ve_callS (cr_maxA rfl hr.units) sMax (by rfl) T.max b_max (vio_cons (ve_var (pv 1)) (vio_cons (ve_var (pv 2)) vio_nil))) va_nil))) (ve_var (pv 3)))) vss_nil))
abbrev s_law_held : Stmt := topS 33
abbrev N_law_held : List Str := ["jar", "many", "order", "kind", "held", "k"]
abbrev p_law_held : List Str := ["jar", "many"]
theorem sc_law_held : FnScope N_law_held p_law_held (defScope s_law_held) := ⟨rfl, rfl, rfl, by decide +kernel, rfl, by decide +kernel, by decide +kernel⟩
abbrev a_law_held : List Nat := ([2] ++ ([3] ++ ([4] ++ (([5] ++ []) ++ (([5] ++ []) ++ ((([5] ++ ([] ++ [])) ++ []) ++ []))))))
def body_law_held : MS :=
    (dSeq (dSet 2 (dFn [some 0, none] F_law_order (dIO 0 (dCons (dV 1) dNil))))
    (dSeq (dSet 3 (dFn [some 0, none] F_law_take (dIO 0 (dCons (dC (.int 5)) dNil))))
    (dSeq (dSet 4 (dC (.dT true [] [])))
    (dSeq (dFor (dRange2 (dCons (dC (.int 1)) (dCons (dV 1) dNil))) (gNm 5)
    (dDrop (dFn [some 4, none, none, none] F_law_tie (dIO 4 (dCons (dAt 2 (dV 5)) (dCons (dAt 2 (d2 gIx (dLst (dCons (dFn [some 0, none] F_law_take (dIO 0 (dCons (dV 5) dNil))) (dCons (d2 gSub (dV 5) (dC (.int 1))) dNil))) (dFn [some 0, none] F_law_take (dIO 0 (dCons (dC (.int 2)) dNil))))) (dCons (dFn [some 0, none] F_law_length (dIO 0 (dCons (dV 3) dNil))) dNil)))))))
    (dSeq (dFor (dRange1 (dCons (d2 gIx (dLst (dCons (dC (.int 0)) (dCons (dC (.int 1)) (dCons (dC (.int 2)) (dCons (dC (.int 3)) (dCons (dC (.int 4)) (dCons (dC (.int 6)) (dCons (dC (.int 12)) (dCons (dC (.int 24)) dNil))))))))) (dFn [some 0, none] F_law_take (dIO 0 (dCons (dC (.int 8)) dNil)))) dNil)) (gNm 5)
    (dDrop (dFn [some 4, none, none, none] F_law_tie (dIO 4 (dCons (dFn [some 0, none] F_law_take (dIO 0 (dCons (dV 1) dNil))) (dCons (dFn [some 0, none] F_law_take (dIO 0 (dCons (dV 1) dNil))) (dCons (dFn [some 0, none] F_law_length (dIO 0 (dCons (dV 3) dNil))) dNil)))))))
    (dSeq (dIfS (dAndT (dTB (d2 (gCmp cGt) (dV 1) (dC (.int 22)))) (dTB (d2 gEq (dFn [some 0, none] F_law_take (dIO 0 (dCons (dC (.int 4)) dNil))) (dC (.int 0)))))
    (dFor (dRange1 (dCons (dC (.int 600)) dNil)) (gNm 5)
    (dIfS (dTB (d2 (gCmp cLt) (dCallS [some 4] gLen (dIO 4 dNil)) (dC (.int 220))))
    (dDrop (dFn [some 4, none, none, none] F_law_tie (dIO 4 (dCons (dFn [some 0, none] F_law_take (dIO 0 (dCons (dV 1) dNil))) (dCons (dFn [some 0, none] F_law_take (dIO 0 (dCons (dV 1) dNil))) (dCons (dFn [some 0, none] F_law_length (dIO 0 (dCons (dV 3) dNil))) dNil)))))) dSkip)) dSkip)
    (dRet (dM 4))))))))
def F_law_held : FnD := fnD 6 2 a_law_held body_law_held
theorem cal_law_held {P : Program} {w : World} {K : PySem.W.Frag} {mg : Str → Option Value} {base : Heap} (T : Tops mg) (U : Xs K mg) (D : Def K mg "_law_held" s_law_held p_law_held) (c_law_take : Cal P w K mg base 1 "_law_take" p_law_take F_law_take) (c_law_length : Cal P w K mg base 2 "_law_length" p_law_length F_law_length) (c_law_tie : Cal P w K mg base 1 "_law_tie" p_law_tie F_law_tie) (c_law_order : Cal P w K mg base 2 "_law_order" p_law_order F_law_order) : Cal P w K mg base 3 "_law_held" p_law_held F_law_held :=
  cal_mk (k := 2) D sc_law_held fun f cdv A outer s H E hr =>
    (vss_cons (vs_set (i := 2) sc_law_held.nd rfl (by first | exact .inl rfl | exact .inr rfl) (ve_fn (c_law_order.mono (by decide)) hr (by rfl) (L2N.takes_of rfl rfl rfl rfl) (vio_slot (pv 0) (vio_cons (ve_var (pv 1)) vio_nil))))
    (vss_cons (vs_set (i := 3) sc_law_held.nd rfl (by first | exact .inl rfl | exact .inr rfl) (ve_fn (c_law_take.mono (by decide)) hr (by rfl) (L2N.takes_of rfl rfl rfl rfl) (vio_slot (pv 0) (vio_cons ve_int vio_nil))))
    (vss_cons (vs_set (i := 4) sc_law_held.nd rfl (by first | exact .inl rfl | exact .inr rfl) ve_dnewT)
    (vss_cons (vs_for (passes_of rfl) rfl (vi_range2 (by rfl) T.range (va_cons ve_int (va_cons (ve_var (pv 1)) va_nil))) (vg_name (pg_name (i := 5) sc_law_held.nd rfl (by first | exact .inl rfl | exact .inr rfl)))
    (vss_one (vs_expr (ve_fn (c_law_tie.mono (by decide)) hr (by rfl) (L2N.takes_of rfl rfl rfl rfl) (vio_slot (pv 4) (vio_cons (ve_at (hu_of hr) (pv 2) (ve_var (pv 5))) (vio_cons (ve_at (hu_of hr) (pv 2) (ve_ix (ve_lst (va_cons (ve_fn (c_law_take.mono (by decide)) hr (by rfl) (L2N.takes_of rfl rfl rfl rfl) (vio_slot (pv 0) (vio_cons (ve_var (pv 5)) vio_nil))) (va_cons (ve_op op_sub impSub (ve_var (pv 5)) ve_int) va_nil))) (ve_fn (c_law_take.mono (by decide)) hr (by rfl) (L2N.takes_of rfl rfl rfl rfl) (vio_slot (pv 0) (vio_cons ve_int vio_nil))))) (vio_cons (ve_fn (c_law_length.mono (by decide)) hr (by rfl) (L2N.takes_of rfl rfl rfl rfl) (vio_slot (pv 0) (vio_cons (ve_var (pv 3)) vio_nil))) vio_nil))))))))
    (vss_cons (vs_for (passes_of rfl) rfl (vi_range1 (by rfl) T.range (va_cons (ve_ix (ve_lst (va_cons ve_int (va_cons ve_int (va_cons ve_int (va_cons ve_int (va_cons ve_int (va_cons ve_int (va_cons ve_int (va_cons ve_int va_nil))))))))) (ve_fn (c_law_take.mono (by decide)) hr (by rfl) (L2N.takes_of rfl rfl rfl rfl) (vio_slot (pv 0) (vio_cons ve_int vio_nil)))) va_nil)) (vg_name (pg_name (i := 5) sc_law_held.nd rfl (by first | exact .inl rfl | exact .inr rfl)))
    (vss_one (vs_expr (ve_fn (c_law_tie.mono (by decide)) hr (by rfl) (L2N.takes_of rfl rfl rfl rfl) (vio_slot (pv 4) (vio_cons (ve_fn (c_law_take.mono (by decide)) hr (by rfl) (L2N.takes_of rfl rfl rfl rfl) (vio_slot (pv 0) (vio_cons (ve_var (pv 1)) vio_nil))) (vio_cons (ve_fn (c_law_take.mono (by decide)) hr (by rfl) (L2N.takes_of rfl rfl rfl rfl) (vio_slot (pv 0) (vio_cons (ve_var (pv 1)) vio_nil))) (vio_cons (ve_fn (c_law_length.mono (by decide)) hr (by rfl) (L2N.takes_of rfl rfl rfl rfl) (vio_slot (pv 0) (vio_cons (ve_var (pv 3)) vio_nil))) vio_nil))))))))
    (vss_cons (vs_if (vt_bool (vw_and (vt_cmp op_gtC (impCmp cGt) (ve_var (pv 1)) ve_int (nomark _)) (vw_one (vt_cmp (op_eqD hr.units) impEq (ve_fn (c_law_take.mono (by decide)) hr (by rfl) (L2N.takes_of rfl rfl rfl rfl) (vio_slot (pv 0) (vio_cons ve_int vio_nil))) ve_int (nomark _))))) (vss_one (vs_for (passes_of rfl) rfl (vi_range1 (by rfl) T.range (va_cons ve_int va_nil)) (vg_name (pg_name (i := 5) sc_law_held.nd rfl (by first | exact .inl rfl | exact .inr rfl)))
    (vss_one (vs_if (vt_cmp op_ltC (impCmp cLt) (ve_callS call_lenA sLen (by rfl) T.len b_len (vio_slot (pv 4) vio_nil)) ve_int (nomark _)) (vss_one (vs_expr (ve_fn (c_law_tie.mono (by decide)) hr (by rfl) (L2N.takes_of rfl rfl rfl rfl) (vio_slot (pv 4) (vio_cons (ve_fn (c_law_take.mono (by decide)) hr (by rfl) (L2N.takes_of rfl rfl rfl rfl) (vio_slot (pv 0) (vio_cons (ve_var (pv 1)) vio_nil))) (vio_cons (ve_fn (c_law_take.mono (by decide)) hr (by rfl) (L2N.takes_of rfl rfl rfl rfl) (vio_slot (pv 0) (vio_cons (ve_var (pv 1)) vio_nil))) (vio_cons (ve_fn (c_law_length.mono (by decide)) hr (by rfl) (L2N.takes_of rfl rfl rfl rfl) (vio_slot (pv 0) (vio_cons (ve_var (pv 3)) vio_nil))) vio_nil))))))) vss_nil)))) vss_nil)
    (vss_one (vs_ret (ve_mov (pv 4))))))))))
abbrev s_law_many : Stmt := topS 34
abbrev N_law_many : List Str := ["jar", "great", "many"]
abbrev p_law_many : List Str := ["jar", "great"]
theorem sc_law_many : FnScope N_law_many p_law_many (defScope s_law_many) := ⟨rfl, rfl, rfl, by decide +kernel, rfl, by decide +kernel, by decide +kernel⟩
abbrev a_law_many : List Nat := ([2] ++ (([2] ++ []) ++ []))
def body_law_many : MS :=
    (dSeq (dSet 2 (d2 gIx (dLst (dCons (dC (.int 5)) (dCons (dC (.int 4)) (dCons (dC (.int 6)) (dCons (dC (.int 3)) (dCons (dC (.int 7)) (dCons (dC (.int 2)) (dCons (dC (.int 8)) (dCons (dC (.int 1)) dNil))))))))) (dFn [some 0, none] F_law_take (dIO 0 (dCons (dC (.int 8)) dNil)))))
    (dSeq (dIfS (dAndT (dTB (dV 1)) (dTB (d2 gEq (dFn [some 0, none] F_law_take (dIO 0 (dCons (dC (.int 8)) dNil))) (dC (.int 0)))))
    (dSet 2 (d2 gAdd (dC (.int 9)) (dFn [some 0, none] F_law_take (dIO 0 (dCons (dC (.int 52)) dNil))))) dSkip)
    (dRet (dV 2))))
def F_law_many : FnD := fnD 3 2 a_law_many body_law_many
theorem cal_law_many {P : Program} {w : World} {K : PySem.W.Frag} {mg : Str → Option Value} {base : Heap} (T : Tops mg) (U : Xs K mg) (D : Def K mg "_law_many" s_law_many p_law_many) (c_law_take : Cal P w K mg base 1 "_law_take" p_law_take F_law_take) : Cal P w K mg base 2 "_law_many" p_law_many F_law_many :=
  cal_mk (k := 1) D sc_law_many fun f cdv A outer s H E hr =>
    (vss_cons (vs_set (i := 2) sc_law_many.nd rfl (by first | exact .inl rfl | exact .inr rfl) (ve_ix (ve_lst (va_cons ve_int (va_cons ve_int (va_cons ve_int (va_cons ve_int (va_cons ve_int (va_cons ve_int (va_cons ve_int (va_cons ve_int va_nil))))))))) (ve_fn (c_law_take.mono (by decide)) hr (by rfl) (L2N.takes_of rfl rfl rfl rfl) (vio_slot (pv 0) (vio_cons ve_int vio_nil)))))
    (vss_cons (vs_if (vt_bool (vw_and (vt_val (ve_var (pv 1))) (vw_one (vt_cmp (op_eqD hr.units) impEq (ve_fn (c_law_take.mono (by decide)) hr (by rfl) (L2N.takes_of rfl rfl rfl rfl) (vio_slot (pv 0) (vio_cons ve_int vio_nil))) ve_int (nomark _))))) (vss_one (vs_set (i := 2) sc_law_many.nd rfl (by first | exact .inl rfl | exact .inr rfl) (ve_op op_add3 impAdd ve_int (ve_fn (c_law_take.mono (by decide)) hr (by rfl) (L2N.takes_of rfl rfl rfl rfl) (vio_slot (pv 0) (vio_cons ve_int vio_nil)))))) vss_nil)
    (vss_one (vs_ret (ve_var (pv 2))))))
abbrev s_law_web : Stmt := topS 35
abbrev N_law_web : List Str := ["jar", "great", "many", "held", "one", "other"]
abbrev p_law_web : List Str := ["jar", "great"]
theorem sc_law_web : FnScope N_law_web p_law_web (defScope s_law_web) := ⟨rfl, rfl, rfl, by decide +kernel, rfl, by decide +kernel, by decide +kernel⟩
abbrev a_law_web : List Nat := ([2] ++ ([3] ++ []))
def body_law_web : MS :=
    (dSeq (dSet 2 (dFn [some 0, none] F_law_many (dIO 0 (dCons (dV 1) dNil))))
    (dSeq (dSet 3 (dFn [some 0, none] F_law_held (dIO 0 (dCons (dV 2) dNil))))
    (dRet (dTup (dCons (dV 2) (dCons (dCall gTuple (dCons (dLc [4, 5] (dItems (dCall gSorted (dCons (dF 3) dNil))) (gTp [4, 5]) dYes (dTup (dCons (dV 4) (dCons (dV 5) (dCons (dAt 3 (dTup (dCons (dV 4) (dCons (dV 5) dNil)))) dNil))))) dNil)) dNil))))))
def F_law_web : FnD := fnD 6 2 a_law_web body_law_web
theorem cal_law_web {P : Program} {w : World} {K : PySem.W.Frag} {mg : Str → Option Value} {base : Heap} (T : Tops mg) (U : Xs K mg) (D : Def K mg "_law_web" s_law_web p_law_web) (c_law_held : Cal P w K mg base 3 "_law_held" p_law_held F_law_held) (c_law_many : Cal P w K mg base 2 "_law_many" p_law_many F_law_many) : Cal P w K mg base 4 "_law_web" p_law_web F_law_web :=
  cal_mk (k := 3) D sc_law_web fun f cdv A outer s H E hr =>
    (vss_cons (vs_set (i := 2) sc_law_web.nd rfl (by first | exact .inl rfl | exact .inr rfl) (ve_fn (c_law_many.mono (by decide)) hr (by rfl) (L2N.takes_of rfl rfl rfl rfl) (vio_slot (pv 0) (vio_cons (ve_var (pv 1)) vio_nil))))
    (vss_cons (vs_set (i := 3) sc_law_web.nd rfl (by first | exact .inl rfl | exact .inr rfl) (ve_fn (c_law_held.mono (by decide)) hr (by rfl) (L2N.takes_of rfl rfl rfl rfl) (vio_slot (pv 0) (vio_cons (ve_var (pv 2)) vio_nil))))
    (vss_one (vs_ret (ve_tup (va_cons (ve_var (pv 2)) (va_cons (ve_callTy call_tuple_of impTuple (by rfl) T.tuple b_tuple (va_cons (ve_lc (own := [("one", 4), ("other", 5)]) rfl sc_law_web.nd (vi_seq (ve_callB (cr_sorted2 rfl hr.units) impSorted (by rfl) T.sorted b_sorted (va_cons (ve_frz (pv 3)) va_nil))) (blkOk_by (own := [("one", 4), ("other", 5)]) (N := N_law_web) (sc := defScope s_law_web) (by decide +kernel)) (fun _ _ _ _ _ => (vg_tup rfl (vgs_cons (pg_name (i := 4) sc_law_web.nd rfl (by first | exact .inl rfl | exact .inr rfl)) (vgs_cons (pg_name (i := 5) sc_law_web.nd rfl (by first | exact .inl rfl | exact .inr rfl)) vgs_nil)))) (fun _ _ _ _ _ => vts_nil) (fun _ _ _ _ _ => (ve_tup (va_cons (ve_var (pv 4)) (va_cons (ve_var (pv 5)) (va_cons (ve_at (hu_of hr) (pv 3) (ve_tup (va_cons (ve_var (pv 4)) (va_cons (ve_var (pv 5)) va_nil)))) va_nil)))))) va_nil)) va_nil)))))))
abbrev s_law_kinds : Stmt := topS 36
abbrev N_law_kinds : List Str := ["e", "some"]
abbrev p_law_kinds : List Str := ["e"]
theorem sc_law_kinds : FnScope N_law_kinds p_law_kinds (defScope s_law_kinds) := ⟨rfl, rfl, rfl, by decide +kernel, rfl, by decide +kernel, by decide +kernel⟩
abbrev a_law_kinds : List Nat := ([1] ++ ([1] ++ ([1] ++ ([1] ++ []))))
def body_law_kinds (a : Addr) (c : Str) : MS :=
    (dSeq (dSet 1 (dLst (dCons (dIsx a isT c ["NoPlace"] (dV 0)) (dCons (dIsx a isT c ["NoWay"] (dV 0)) (dCons (dIsx a isT c ["NotPlain"] (dV 0)) (dCons (dIsx a isT c ["NotLone"] (dV 0)) dNil))))))
    (dSeq (dSet 1 (d2 gAdd (dF 1) (dLst (dCons (dIsx a isT c ["TooMany"] (dV 0)) (dCons (dIsx a isT c ["Tied"] (dV 0)) (dCons (dIsx a isT c ["NoSide"] (dV 0)) (dCons (dIsx a isT c ["BadLengths"] (dV 0)) dNil)))))))
    (dSeq (dSet 1 (d2 gAdd (dF 1) (dLst (dCons (dIsx a isT c ["NoChoice"] (dV 0)) (dCons (dIsx a isT c ["NoTie"] (dV 0)) (dCons (dIsx a isT c ["NothingDone"] (dV 0)) (dCons (dIsx a isT c ["NoRow"] (dV 0)) dNil)))))))
    (dSeq (dSet 1 (d2 gAdd (dF 1) (dLst (dCons (dIsx a isT c ["BadWeb"] (dV 0)) (dCons (dIsx a isT c ["NoText"] (dV 0)) (dCons (dIsx a isT c ["Apart"] (dV 0)) dNil))))))
    (dRet (d2 gAdd (dF 1) (dLst (dCons (dIsx a isT c ["LoneError"] (dV 0)) (dCons (dIsx a isT c ["ValueError"] (dV 0)) dNil)))))))))
def F_law_kinds (a : Addr) (c : Str) : FnD := fnD 2 1 a_law_kinds (body_law_kinds a c)
theorem cal_law_kinds {P : Program} {w : World} {K : PySem.W.Frag} {mg : Str → Option Value} {base : Heap} (T : Tops mg) (U : Xs K mg) (D : Def K mg "_law_kinds" s_law_kinds p_law_kinds)  : CalF P w K mg base 1 "_law_kinds" p_law_kinds F_law_kinds :=
  calF_mk (k := 0) D sc_law_kinds fun f cdv A outer s H E a oe c ho hot hdd hr =>
    (vss_cons (vs_set (i := 1) sc_law_kinds.nd rfl (by first | exact .inl rfl | exact .inr rfl) (ve_lst (va_cons (ve_isf1 List.mem_cons_self ho hdd rfl U.tab (by rfl) T.isinstance (ve_var (pv 0)) (ce_own U.c_NoPlace.choose_spec (by rfl))) (va_cons (ve_isf1 List.mem_cons_self ho hdd rfl U.tab (by rfl) T.isinstance (ve_var (pv 0)) (ce_own U.c_NoWay.choose_spec (by rfl))) (va_cons (ve_isf1 List.mem_cons_self ho hdd rfl U.tab (by rfl) T.isinstance (ve_var (pv 0)) (ce_own U.c_NotPlain.choose_spec (by rfl))) (va_cons (ve_isf1 List.mem_cons_self ho hdd rfl U.tab (by rfl) T.isinstance (ve_var (pv 0)) (ce_own U.c_NotLone.choose_spec (by rfl))) va_nil))))))
    (vss_cons (vs_set (i := 1) sc_law_kinds.nd rfl (by first | exact .inl rfl | exact .inr rfl) (ve_op op_add3 impAdd (ve_frz (pv 1)) (ve_lst (va_cons (ve_isf1 List.mem_cons_self ho hdd rfl U.tab (by rfl) T.isinstance (ve_var (pv 0)) (ce_own U.c_TooMany.choose_spec (by rfl))) (va_cons (ve_isf1 List.mem_cons_self ho hdd rfl U.tab (by rfl) T.isinstance (ve_var (pv 0)) (ce_own U.c_Tied.choose_spec (by rfl))) (va_cons (ve_isf1 List.mem_cons_self ho hdd rfl U.tab (by rfl) T.isinstance (ve_var (pv 0)) (ce_own U.c_NoSide.choose_spec (by rfl))) (va_cons (ve_isf1 List.mem_cons_self ho hdd rfl U.tab (by rfl) T.isinstance (ve_var (pv 0)) (ce_own U.c_BadLengths.choose_spec (by rfl))) va_nil)))))))
    (vss_cons (vs_set (i := 1) sc_law_kinds.nd rfl (by first | exact .inl rfl | exact .inr rfl) (ve_op op_add3 impAdd (ve_frz (pv 1)) (ve_lst (va_cons (ve_isf1 List.mem_cons_self ho hdd rfl U.tab (by rfl) T.isinstance (ve_var (pv 0)) (ce_own U.c_NoChoice.choose_spec (by rfl))) (va_cons (ve_isf1 List.mem_cons_self ho hdd rfl U.tab (by rfl) T.isinstance (ve_var (pv 0)) (ce_own U.c_NoTie.choose_spec (by rfl))) (va_cons (ve_isf1 List.mem_cons_self ho hdd rfl U.tab (by rfl) T.isinstance (ve_var (pv 0)) (ce_own U.c_NothingDone.choose_spec (by rfl))) (va_cons (ve_isf1 List.mem_cons_self ho hdd rfl U.tab (by rfl) T.isinstance (ve_var (pv 0)) (ce_own U.c_NoRow.choose_spec (by rfl))) va_nil)))))))
    (vss_cons (vs_set (i := 1) sc_law_kinds.nd rfl (by first | exact .inl rfl | exact .inr rfl) (ve_op op_add3 impAdd (ve_frz (pv 1)) (ve_lst (va_cons (ve_isf1 List.mem_cons_self ho hdd rfl U.tab (by rfl) T.isinstance (ve_var (pv 0)) (ce_own U.c_BadWeb.choose_spec (by rfl))) (va_cons (ve_isf1 List.mem_cons_self ho hdd rfl U.tab (by rfl) T.isinstance (ve_var (pv 0)) (ce_own U.c_NoText.choose_spec (by rfl))) (va_cons (ve_isf1 List.mem_cons_self ho hdd rfl U.tab (by rfl) T.isinstance (ve_var (pv 0)) (ce_own U.c_Apart.choose_spec (by rfl))) va_nil))))))
    (vss_one (vs_ret (ve_op op_add3 impAdd (ve_frz (pv 1)) (ve_lst (va_cons (ve_isf1 List.mem_cons_self ho hdd rfl U.tab (by rfl) T.isinstance (ve_var (pv 0)) (ce_own U.c_LoneError.choose_spec (by rfl))) (va_cons (ve_isf1 List.mem_cons_self ho hdd rfl U.tab (by rfl) T.isinstance (ve_var (pv 0)) (ce_blt T.ValueError b_ValueError (by rfl))) va_nil))))))))))
abbrev s_law_alone : Stmt := topS 37
abbrev N_law_alone : List Str := ["e", "at", "k"]
abbrev p_law_alone : List Str := ["e", "at"]
theorem sc_law_alone : FnScope N_law_alone p_law_alone (defScope s_law_alone) := ⟨rfl, rfl, rfl, by decide +kernel, rfl, by decide +kernel, by decide +kernel⟩
abbrev a_law_alone : List Nat := []
def body_law_alone (a : Addr) (c : Str) : MS :=
    (dRet (d2 gEq (dFn [none] (F_law_kinds a c) (dCons (dV 0) dNil)) (d2 gAdd (dLc [2] (dRange1 (dCons (dC (.int 15)) dNil)) (gNm 2) dYes (d2 gEq (dV 2) (dV 1))) (dLst (dCons (dC (.bl true)) (dCons (dC (.bl true)) dNil))))))
def F_law_alone (a : Addr) (c : Str) : FnD := fnD 3 2 a_law_alone (body_law_alone a c)
theorem cal_law_alone {P : Program} {w : World} {K : PySem.W.Frag} {mg : Str → Option Value} {base : Heap} (T : Tops mg) (U : Xs K mg) (D : Def K mg "_law_alone" s_law_alone p_law_alone)  (c_law_kinds : CalF P w K mg base 1 "_law_kinds" p_law_kinds F_law_kinds) : CalF P w K mg base 2 "_law_alone" p_law_alone F_law_alone :=
  calF_mk (k := 1) D sc_law_alone fun f cdv A outer s H E a oe c ho hot hdd hr =>
    (vss_one (vs_ret (ve_cmp (op_eqD (unitsH hr)) impEq (ve_fnH c_law_kinds (hr.mono (by decide)) hot List.mem_cons_self hdd rfl ho (by rfl) (L2N.takes_of rfl rfl rfl rfl) (vio_cons (ve_var (pv 0)) vio_nil)) (ve_op op_add3 impAdd (ve_lcH (own := [("k", 2)]) ⟨(a, oe), hot, List.mem_cons_self⟩ sc_law_alone.nd (vi_range1Q (by rfl) T.range (va_cons ve_int va_nil)) (blkOk_by (own := [("k", 2)]) (N := N_law_alone) (sc := defScope s_law_alone) (by decide +kernel)) (fun _ _ _ _ _ => (vg_name (pg_name (i := 2) sc_law_alone.nd rfl (by first | exact .inl rfl | exact .inr rfl)))) (fun _ _ _ _ _ => vts_nil) (fun _ _ _ _ _ => (ve_cmp (op_eqD (unitsH hr)) impEq (ve_var (pv 2)) (ve_var (pv 1)) (nomark _)))) (ve_lst (va_cons ve_bl (va_cons ve_bl va_nil)))) (nomark _))))
abbrev s_law_is_tie : Stmt := topS 39
abbrev N_law_is_tie : List Str := ["many", "thing", "part"]
abbrev p_law_is_tie : List Str := ["many", "thing"]
theorem sc_law_is_tie : FnScope N_law_is_tie p_law_is_tie (defScope s_law_is_tie) := ⟨rfl, rfl, rfl, by decide +kernel, rfl, by decide +kernel, by decide +kernel⟩
abbrev a_law_is_tie : List Nat := (([] ++ []) ++ (([] ++ []) ++ []))
def body_law_is_tie : MS :=
    (dSeq (dIfS (dOrT (dNotT (dTB (dIsa ["list", "tuple"] (dV 1)))) (dTB (d2 gNe (dCallS [none] gLen (dCons (dV 1) dNil)) (dC (.int 3)))))
    (dRet (dC (.bl false))) dSkip)
    (dSeq (dIfS (dNotT (dTB (dCallS [none] gAll (dCons (dLc [2] (dItems (dV 1)) (gNm 2) dYes (dAnd (dIsa ["int"] (dV 2)) (dNot (dIsa ["bool"] (dV 2))))) dNil))))
    (dRet (dC (.bl false))) dSkip)
    (dRet (dAnd (dChain3 (gCmp cLe) (gCmp cLt) (gCmp cLt) (dC (.int 0)) (dCallS [none] gMin (dCons (dSl (dV 1) dNo (dEnd (dC (.int 2)))) dNil)) (dCallS [none] gMax (dCons (dSl (dV 1) dNo (dEnd (dC (.int 2)))) dNil)) (dV 0)) (dChain (gCmp cLe) (gCmp cLe) (dC (.int 1)) (dAt 1 (dC (.int 2))) (d2 gPow (dC (.int 10)) (dC (.int 30))))))))
def F_law_is_tie : FnD := fnD 3 2 a_law_is_tie body_law_is_tie
theorem cal_law_is_tie {P : Program} {w : World} {K : PySem.W.Frag} {mg : Str → Option Value} {base : Heap} (T : Tops mg) (U : Xs K mg) (D : Def K mg "_law_is_tie" s_law_is_tie p_law_is_tie)  : Cal P w K mg base 1 "_law_is_tie" p_law_is_tie F_law_is_tie :=
  cal_mk (k := 0) D sc_law_is_tie fun f cdv A outer s H E hr =>
    (vss_cons (vs_if (vt_bool (vw_or (vt_not (vt_val (ve_isa2 (by rfl) T.isinstance (ve_var (pv 1)) (pe_bltn (v := .ty "list") (by rfl) T.list b_list rfl) (pe_bltn (v := .ty "tuple") (by rfl) T.tuple b_tuple rfl)))) (vw_or1 (vt_cmp (op_neD hr.units) impNe (ve_callS call_lenA sLen (by rfl) T.len b_len (vio_cons (ve_var (pv 1)) vio_nil)) ve_int (nomark _))))) (vss_one (vs_ret ve_bl)) vss_nil)
    (vss_cons (vs_if (vt_not (vt_val (ve_callS (cr_all rfl) sAll (by rfl) T.all b_all (vio_cons (ve_lc (own := [("part", 2)]) rfl sc_law_is_tie.nd (vi_seq (ve_var (pv 1))) (blkOk_by (own := [("part", 2)]) (N := N_law_is_tie) (sc := defScope s_law_is_tie) (by decide +kernel)) (fun _ _ _ _ _ => (vg_name (pg_name (i := 2) sc_law_is_tie.nd rfl (by first | exact .inl rfl | exact .inr rfl)))) (fun _ _ _ _ _ => vts_nil) (fun _ _ _ _ _ => (ve_and (ve_isa (by rfl) T.isinstance (ve_var (pv 2)) (pe_bltn (v := .ty "int") (by rfl) T.int b_int rfl)) (ve_one (ve_not (ve_isa (by rfl) T.isinstance (ve_var (pv 2)) (pe_bltn (v := .ty "bool") (by rfl) T.bool b_bool rfl))))))) vio_nil)))) (vss_one (vs_ret ve_bl)) vss_nil)
    (vss_one (vs_ret (ve_and (ve_chain3 op_leC op_ltC op_ltC ve_int (ve_callS (cr_minA rfl hr.units) sMin (by rfl) T.min b_min (vio_cons (ve_slice (ve_var (pv 1)) vo_none (vo_some ve_int)) vio_nil)) (ve_callS (cr_maxA rfl hr.units) sMax (by rfl) T.max b_max (vio_cons (ve_slice (ve_var (pv 1)) vo_none (vo_some ve_int)) vio_nil)) (ve_var (pv 0))) (ve_one (ve_chain op_leC op_leC ve_int (ve_at (hu_of hr) (pv 1) ve_int) (ve_op op_pow impPow ve_int ve_int))))))))
abbrev s_law_bad_thing : Stmt := topS 38
abbrev N_law_bad_thing : List Str := ["jar", "many", "rows", "one", "some", "good", "low", "high", "length", "row"]
abbrev p_law_bad_thing : List Str := ["jar", "many", "rows"]
theorem sc_law_bad_thing : FnScope N_law_bad_thing p_law_bad_thing (defScope s_law_bad_thing) := ⟨rfl, rfl, rfl, by decide +kernel, rfl, by decide +kernel, by decide +kernel⟩
abbrev a_law_bad_thing : List Nat := ([3] ++ ([4] ++ ([4] ++ ([4] ++ ([5] ++ ((([6, 7, 8] ++ []) ++ []) ++ []))))))
def body_law_bad_thing : MS :=
    (dSeq (dSet 3 (dFn [some 0, none] F_law_take (dIO 0 (dCons (dV 1) dNil))))
    (dSeq (dSet 4 (dLst (dCons (dC .non) (dCons (dC (.int 7)) (dCons (dC (.str "01")) (dCons (dTup (dCons (dC (.int 0)) (dCons (dC (.int 1)) dNil))) (dCons (dLst (dCons (dC (.int 0)) (dCons (dC (.int 1)) (dCons (dC (.int 1)) (dCons (dC (.int 1)) dNil))))) (dCons (dTup (dCons (dC (.int 0)) (dCons (dV 3) (dCons (dC (.int 0)) dNil)))) (dCons (dTup (dCons (dC (.int 0)) (dCons (dV 3) (dCons (d2 gAdd (d2 gPow (dC (.int 10)) (dC (.int 30))) (dC (.int 1))) dNil)))) (dCons (dTup (dCons (d1 gNeg (dC (.int 1))) (dCons (dV 3) (dCons (dC (.int 1)) dNil)))) (dCons (dTup (dCons (dV 1) (dCons (dV 3) (dCons (dC (.int 1)) dNil)))) dNil)))))))))))
    (dSeq (dSet 4 (d2 gAdd (dF 4) (dLst (dCons (dTup (dCons (dV 3) (dCons (dV 3) (dCons (dC (.int 1)) dNil)))) (dCons (dTup (dCons (dC (.bl true)) (dCons (dC (.int 0)) (dCons (dC (.int 1)) dNil)))) (dCons (dTup (dCons (dC (.int 0)) (dCons (dC .non) (dCons (dC (.int 1)) dNil)))) (dCons (dTup (dCons (dC (.int 0)) (dCons (dV 3) (dCons (dC (.bl true)) dNil)))) (dCons (dLst dNil) (dCons (dC (.dT true [] [])) (dCons (dTup (dCons (dTup (dCons (dC (.int 0)) dNil)) (dCons (dV 3) (dCons (dC (.int 1)) dNil)))) (dCons (dTup (dCons (dV 3) (dCons (dV 1) (dCons (dC (.int 5)) dNil)))) dNil)))))))))))
    (dSeq (dSet 4 (d2 gAdd (dF 4) (dLst (dCons (dTup (dCons (dV 3) (dCons (dC (.str "0")) (dCons (dC (.int 1)) dNil)))) (dCons (dTup (dCons (dC (.int 0)) (dCons (dV 3) (dCons (dC .non) dNil)))) (dCons (dTup (dCons (dV 3) (dCons (d1 gNeg (dC (.int 1))) (dCons (d2 gPow (dC (.int 10)) (dC (.int 30))) dNil)))) (dCons (dTup (dCons (dV 3) (dCons (dC (.bl true)) (dCons (dC (.int 1)) dNil)))) (dCons (dTup (dCons (dLst (dCons (dC (.int 0)) dNil)) (dCons (dV 3) (dCons (dC (.int 1)) dNil)))) (dCons (dTup (dCons (dV 3) (dCons (dLst (dCons (dC (.int 0)) dNil)) (dCons (dC (.int 1)) dNil)))) dNil)))))))))
    (dSeq (dSet 5 (dLc [9] (dItems (dV 2)) (gNm 9) (dTB (dFn [none, none] F_law_is_tie (dCons (dV 1) (dCons (dV 9) dNil)))) (dV 9)))
    (dSeq (dIfS (dAndT (dTB (d2 gNe (dF 5) (dLst dNil))) (dTB (d2 gEq (dFn [some 0, none] F_law_take (dIO 0 (dCons (dC (.int 2)) dNil))) (dC (.int 0)))))
    (dSeq (dAsg (dAt 5 (dFn [some 0, none] F_law_take (dIO 0 (dCons (dCallS [some 5] gLen (dIO 5 dNil)) dNil)))) (gSq [6, 7, 8]))
    (dRet (d2 gIx (dLst (dCons (dTup (dCons (dV 6) (dCons (dV 7) (dCons (dV 8) dNil)))) (dCons (dLst (dCons (dV 7) (dCons (dV 6) (dCons (dC (.int 3)) dNil)))) dNil))) (dFn [some 0, none] F_law_take (dIO 0 (dCons (dC (.int 2)) dNil)))))) dSkip)
    (dPreS 4 (dRet (dAt 4 (dFn [some 0, none] F_law_take (dIO 0 (dCons (dCallS [some 4] gLen (dIO 4 dNil)) dNil))))))))))))
def F_law_bad_thing : FnD := fnD 10 3 a_law_bad_thing body_law_bad_thing
theorem cal_law_bad_thing {P : Program} {w : World} {K : PySem.W.Frag} {mg : Str → Option Value} {base : Heap} (T : Tops mg) (U : Xs K mg) (D : Def K mg "_law_bad_thing" s_law_bad_thing p_law_bad_thing) (c_law_take : Cal P w K mg base 1 "_law_take" p_law_take F_law_take) (c_law_is_tie : Cal P w K mg base 1 "_law_is_tie" p_law_is_tie F_law_is_tie) : Cal P w K mg base 2 "_law_bad_thing" p_law_bad_thing F_law_bad_thing :=
  cal_mk (k := 1) D sc_law_bad_thing fun f cdv A outer s H E hr =>
    (vss_cons (vs_set (i := 3) sc_law_bad_thing.nd rfl (by first | exact .inl rfl | exact .inr rfl) (ve_fn (c_law_take.mono (by decide)) hr (by rfl) (L2N.takes_of rfl rfl rfl rfl) (vio_slot (pv 0) (vio_cons (ve_var (pv 1)) vio_nil))))
    (vss_cons (vs_set (i := 4) sc_law_bad_thing.nd rfl (by first | exact .inl rfl | exact .inr rfl) (ve_lst (va_cons ve_non (va_cons ve_int (va_cons ve_str (va_cons (ve_tup (va_cons ve_int (va_cons ve_int va_nil))) (va_cons (ve_lst (va_cons ve_int (va_cons ve_int (va_cons ve_int (va_cons ve_int va_nil))))) (va_cons (ve_tup (va_cons ve_int (va_cons (ve_var (pv 3)) (va_cons ve_int va_nil)))) (va_cons (ve_tup (va_cons ve_int (va_cons (ve_var (pv 3)) (va_cons (ve_op op_add3 impAdd (ve_op op_pow impPow ve_int ve_int) ve_int) va_nil)))) (va_cons (ve_tup (va_cons (ve_un un_neg impNeg ve_int) (va_cons (ve_var (pv 3)) (va_cons ve_int va_nil)))) (va_cons (ve_tup (va_cons (ve_var (pv 1)) (va_cons (ve_var (pv 3)) (va_cons ve_int va_nil)))) va_nil)))))))))))
    (vss_cons (vs_set (i := 4) sc_law_bad_thing.nd rfl (by first | exact .inl rfl | exact .inr rfl) (ve_op op_add3 impAdd (ve_frz (pv 4)) (ve_lst (va_cons (ve_tup (va_cons (ve_var (pv 3)) (va_cons (ve_var (pv 3)) (va_cons ve_int va_nil)))) (va_cons (ve_tup (va_cons ve_bl (va_cons ve_int (va_cons ve_int va_nil)))) (va_cons (ve_tup (va_cons ve_int (va_cons ve_non (va_cons ve_int va_nil)))) (va_cons (ve_tup (va_cons ve_int (va_cons (ve_var (pv 3)) (va_cons ve_bl va_nil)))) (va_cons (ve_lst va_nil) (va_cons ve_dnewT (va_cons (ve_tup (va_cons (ve_tup (va_cons ve_int va_nil)) (va_cons (ve_var (pv 3)) (va_cons ve_int va_nil)))) (va_cons (ve_tup (va_cons (ve_var (pv 3)) (va_cons (ve_var (pv 1)) (va_cons ve_int va_nil)))) va_nil)))))))))))
    (vss_cons (vs_set (i := 4) sc_law_bad_thing.nd rfl (by first | exact .inl rfl | exact .inr rfl) (ve_op op_add3 impAdd (ve_frz (pv 4)) (ve_lst (va_cons (ve_tup (va_cons (ve_var (pv 3)) (va_cons ve_str (va_cons ve_int va_nil)))) (va_cons (ve_tup (va_cons ve_int (va_cons (ve_var (pv 3)) (va_cons ve_non va_nil)))) (va_cons (ve_tup (va_cons (ve_var (pv 3)) (va_cons (ve_un un_neg impNeg ve_int) (va_cons (ve_op op_pow impPow ve_int ve_int) va_nil)))) (va_cons (ve_tup (va_cons (ve_var (pv 3)) (va_cons ve_bl (va_cons ve_int va_nil)))) (va_cons (ve_tup (va_cons (ve_lst (va_cons ve_int va_nil)) (va_cons (ve_var (pv 3)) (va_cons ve_int va_nil)))) (va_cons (ve_tup (va_cons (ve_var (pv 3)) (va_cons (ve_lst (va_cons ve_int va_nil)) (va_cons ve_int va_nil)))) va_nil)))))))))
    (vss_cons (vs_setLc (i := 5) (own := [("row", 9)]) rfl sc_law_bad_thing.nd rfl rfl (sw_true rfl rfl rfl (by decide +kernel)) (vi_seq (ve_var (pv 2))) (blkOk_by (own := [("row", 9)]) (N := N_law_bad_thing) (sc := defScope s_law_bad_thing) (by decide +kernel)) (fun _ _ _ _ _ => (vg_name (pg_name (i := 9) sc_law_bad_thing.nd rfl (by first | exact .inl rfl | exact .inr rfl)))) (fun _ _ _ _ _ => (vts_one (vt_val (ve_fn (c_law_is_tie.mono (by decide)) hr (by rfl) takesF (vio_cons (ve_var (pv 1)) (vio_cons (ve_var (pv 9)) vio_nil)))))) (fun _ _ _ _ _ => (ve_var (pv 9))))
    (vss_cons (vs_if (vt_bool (vw_and (vt_cmp (op_neD hr.units) impNe (ve_frz (pv 5)) (ve_lst va_nil) (nomark _)) (vw_one (vt_cmp (op_eqD hr.units) impEq (ve_fn (c_law_take.mono (by decide)) hr (by rfl) (L2N.takes_of rfl rfl rfl rfl) (vio_slot (pv 0) (vio_cons ve_int vio_nil))) ve_int (nomark _))))) (vss_cons (vs_asg (ve_at (hu_of hr) (pv 5) (ve_fn (c_law_take.mono (by decide)) hr (by rfl) (L2N.takes_of rfl rfl rfl rfl) (vio_slot (pv 0) (vio_cons (ve_callS call_lenA sLen (by rfl) T.len b_len (vio_slot (pv 5) vio_nil)) vio_nil)))) (vg_seq rfl (vgs_cons (pg_name (i := 6) sc_law_bad_thing.nd rfl (by first | exact .inl rfl | exact .inr rfl)) (vgs_cons (pg_name (i := 7) sc_law_bad_thing.nd rfl (by first | exact .inl rfl | exact .inr rfl)) (vgs_cons (pg_name (i := 8) sc_law_bad_thing.nd rfl (by first | exact .inl rfl | exact .inr rfl)) vgs_nil)))))
    (vss_one (vs_ret (ve_ix (ve_lst (va_cons (ve_tup (va_cons (ve_var (pv 6)) (va_cons (ve_var (pv 7)) (va_cons (ve_var (pv 8)) va_nil)))) (va_cons (ve_lst (va_cons (ve_var (pv 7)) (va_cons (ve_var (pv 6)) (va_cons ve_int va_nil)))) va_nil))) (ve_fn (c_law_take.mono (by decide)) hr (by rfl) (L2N.takes_of rfl rfl rfl rfl) (vio_slot (pv 0) (vio_cons ve_int vio_nil))))))) vss_nil)
    (vss_one (vs_pre 4 (vs_ret (ve_at (hu_of hr) (pv 4) (ve_fn (c_law_take.mono (by decide)) hr (by rfl) (L2N.takes_of rfl rfl rfl rfl) (vio_slot (pv 0) (vio_cons (ve_callS call_lenA sLen (by rfl) T.len b_len (vio_slot (pv 4) vio_nil)) vio_nil)))))))))))))
abbrev s_law_due : Stmt := topS 40
abbrev N_law_due : List Str := ["many", "rows", "held", "at", "come", "turn", "apart", "pair", "one", "other", "place"]
abbrev p_law_due : List Str := ["many", "rows"]
theorem sc_law_due : FnScope N_law_due p_law_due (defScope s_law_due) := ⟨rfl, rfl, rfl, by decide +kernel, rfl, by decide +kernel, by decide +kernel⟩
abbrev a_law_due : List Nat := ([2] ++ (([3] ++ (([] ++ []) ++ ([7] ++ (([] ++ []) ++ [])))) ++ ([4] ++ (([5] ++ ([8, 9] ++ (([] ++ []) ++ ([] ++ [])))) ++ ([6] ++ (([] ++ []) ++ []))))))
def body_law_due : MS :=
    (dSeq (dSet 2 (dC (.dT true [] [])))
    (dSeq (dFor (dRange1 (dCons (dCallS [none] gLen (dCons (dV 1) dNil)) dNil)) (gNm 3)
    (dSeq (dIfS (dOrT (dNotT (dTB (dFn [none, none] F_law_is_tie (dCons (dV 0) (dCons (dAt 1 (dV 3)) dNil))))) (dTB (d2 gEq (dV 3) (dC (.int 220)))))
    (dRet (dTup (dCons (dC (.str "bad")) (dCons (dV 3) dNil)))) dSkip)
    (dSeq (dSet 7 (dTup (dCons (dCallS [none] gMin (dCons (dSl (dAt 1 (dV 3)) dNo (dEnd (dC (.int 2)))) dNil)) (dCons (dCallS [none] gMax (dCons (dSl (dAt 1 (dV 3)) dNo (dEnd (dC (.int 2)))) dNil)) dNil))))
    (dSeq (dIfS (dTB (dHasS false 2 (dV 7)))
    (dRet (dTup (dCons (dC (.str "bad")) (dCons (dV 3) dNil)))) dSkip)
    (dPut 2 (dV 7) (d2 gIx (dAt 1 (dV 3)) (dC (.int 2))))))))
    (dSeq (dSet 4 (dLst (dCons (dC (.int 0)) dNil)))
    (dSeq (dFor (dRange1 (dCons (dV 0) dNil)) (gNm 5)
    (dFor (dKeys (dLk 2)) (gTp [8, 9])
    (dSeq (dIfS (dAndT (dTB (dInS false 4 (dV 8))) (dTB (dInS true 4 (dV 9))))
    (dDrop (dMt 4 gApp (dCons (dV 9) dNil))) dSkip)
    (dIfS (dAndT (dTB (dInS false 4 (dV 9))) (dTB (dInS true 4 (dV 8))))
    (dDrop (dMt 4 gApp (dCons (dV 8) dNil))) dSkip))))
    (dSeq (dSet 6 (dLc [10] (dRange1 (dCons (dV 0) dNil)) (gNm 10) (dTB (dInS true 4 (dV 10))) (dV 10)))
    (dSeq (dIfS (dTB (d2 gNe (dF 6) (dLst dNil)))
    (dRet (dTup (dCons (dC (.str "apart")) (dCons (dAt 6 (dC (.int 0))) dNil)))) dSkip)
    (dRet (dTup (dCons (dV 0) (dCons (dCall gTuple (dCons (dLc [8, 9] (dItems (dCall gSortTL (dCons (dLk 2) dNil))) (gTp [8, 9]) dYes (dTup (dCons (dV 8) (dCons (dV 9) (dCons (dAt 2 (dTup (dCons (dV 8) (dCons (dV 9) dNil)))) dNil))))) dNil)) dNil))))))))))
def F_law_due : FnD := fnD 11 2 a_law_due body_law_due
theorem cal_law_due {P : Program} {w : World} {K : PySem.W.Frag} {mg : Str → Option Value} {base : Heap} (T : Tops mg) (U : Xs K mg) (D : Def K mg "_law_due" s_law_due p_law_due) (c_law_is_tie : Cal P w K mg base 1 "_law_is_tie" p_law_is_tie F_law_is_tie) : Cal P w K mg base 2 "_law_due" p_law_due F_law_due :=
  cal_mk (k := 1) D sc_law_due fun f cdv A outer s H E hr =>
    (vss_cons (vs_set (i := 2) sc_law_due.nd rfl (by first | exact .inl rfl | exact .inr rfl) ve_dnewT)
    (vss_cons (vs_for (passes_of rfl) rfl (vi_range1 (by rfl) T.range (va_cons (ve_callS call_lenA sLen (by rfl) T.len b_len (vio_cons (ve_var (pv 1)) vio_nil)) va_nil)) (vg_name (pg_name (i := 3) sc_law_due.nd rfl (by first | exact .inl rfl | exact .inr rfl)))
    (vss_cons (vs_if (vt_bool (vw_or (vt_not (vt_val (ve_fn (c_law_is_tie.mono (by decide)) hr (by rfl) (L2N.takes_of rfl rfl rfl rfl) (vio_cons (ve_var (pv 0)) (vio_cons (ve_at (hu_of hr) (pv 1) (ve_var (pv 3))) vio_nil))))) (vw_or1 (vt_cmp (op_eqD hr.units) impEq (ve_var (pv 3)) ve_int (nomark _))))) (vss_one (vs_ret (ve_tup (va_cons ve_str (va_cons (ve_var (pv 3)) va_nil))))) vss_nil)
    (vss_cons (vs_set (i := 7) sc_law_due.nd rfl (by first | exact .inl rfl | exact .inr rfl) (ve_tup (va_cons (ve_callS (cr_minA rfl hr.units) sMin (by rfl) T.min b_min (vio_cons (ve_slice (ve_at (hu_of hr) (pv 1) (ve_var (pv 3))) vo_none (vo_some ve_int)) vio_nil)) (va_cons (ve_callS (cr_maxA rfl hr.units) sMax (by rfl) T.max b_max (vio_cons (ve_slice (ve_at (hu_of hr) (pv 1) (ve_var (pv 3))) vo_none (vo_some ve_int)) vio_nil)) va_nil))))
    (vss_cons (vs_if (vt_inD (hu_of hr) (ve_var (pv 7)) (pv 2)) (vss_one (vs_ret (ve_tup (va_cons ve_str (va_cons (ve_var (pv 3)) va_nil))))) vss_nil)
    (vss_one (vs_put (hu_of hr) (pv 2) (ve_var (pv 7)) (ve_ix (ve_at (hu_of hr) (pv 1) (ve_var (pv 3))) ve_int)))))))
    (vss_cons (vs_set (i := 4) sc_law_due.nd rfl (by first | exact .inl rfl | exact .inr rfl) (ve_lst (va_cons ve_int va_nil)))
    (vss_cons (vs_for (passes_of rfl) rfl (vi_range1 (by rfl) T.range (va_cons (ve_var (pv 0)) va_nil)) (vg_name (pg_name (i := 5) sc_law_due.nd rfl (by first | exact .inl rfl | exact .inr rfl)))
    (vss_one (vs_for (passes_of rfl) rfl (vi_keys (ve_lk (pv 2))) (vg_tup rfl (vgs_cons (pg_name (i := 8) sc_law_due.nd rfl (by first | exact .inl rfl | exact .inr rfl)) (vgs_cons (pg_name (i := 9) sc_law_due.nd rfl (by first | exact .inl rfl | exact .inr rfl)) vgs_nil)))
    (vss_cons (vs_if (vt_bool (vw_and (vt_inL (room65 hr) (ve_var (pv 8)) (pv 4)) (vw_one (vt_ninL (room65 hr) (ve_var (pv 9)) (pv 4))))) (vss_one (vs_expr (ve_mt (name := "append") PySem.F.slot_list_append PySem.F.type_list_append mt_append impApp (pv 4) (va_cons (ve_var (pv 9)) va_nil)))) vss_nil)
    (vss_one (vs_if (vt_bool (vw_and (vt_inL (room65 hr) (ve_var (pv 9)) (pv 4)) (vw_one (vt_ninL (room65 hr) (ve_var (pv 8)) (pv 4))))) (vss_one (vs_expr (ve_mt (name := "append") PySem.F.slot_list_append PySem.F.type_list_append mt_append impApp (pv 4) (va_cons (ve_var (pv 8)) va_nil)))) vss_nil))))))
    (vss_cons (vs_setLc (i := 6) (own := [("place", 10)]) rfl sc_law_due.nd rfl rfl (sw_true rfl rfl rfl (by decide +kernel)) (vi_range1 (by rfl) T.range (va_cons (ve_var (pv 0)) va_nil)) (blkOk_by (own := [("place", 10)]) (N := N_law_due) (sc := defScope s_law_due) (by decide +kernel)) (fun _ _ _ _ _ => (vg_name (pg_name (i := 10) sc_law_due.nd rfl (by first | exact .inl rfl | exact .inr rfl)))) (fun _ _ _ _ _ => (vts_one (vt_ninL (room65 hr) (ve_var (pv 10)) (pv 4)))) (fun _ _ _ _ _ => (ve_var (pv 10))))
    (vss_cons (vs_if (vt_cmp (op_neD hr.units) impNe (ve_frz (pv 6)) (ve_lst va_nil) (nomark _)) (vss_one (vs_ret (ve_tup (va_cons ve_str (va_cons (ve_at (hu_of hr) (pv 6) ve_int) va_nil))))) vss_nil)
    (vss_one (vs_ret (ve_tup (va_cons (ve_var (pv 0)) (va_cons (ve_callTy call_tuple_of impTuple (by rfl) T.tuple b_tuple (va_cons (ve_lc (own := [("one", 8), ("other", 9)]) rfl sc_law_due.nd (vi_seq (ve_callB (cr_sortTL rfl hr.units) impSortTL (by rfl) T.sorted b_sorted (va_cons (ve_lk (pv 2)) va_nil))) (blkOk_by (own := [("one", 8), ("other", 9)]) (N := N_law_due) (sc := defScope s_law_due) (by decide +kernel)) (fun _ _ _ _ _ => (vg_tup rfl (vgs_cons (pg_name (i := 8) sc_law_due.nd rfl (by first | exact .inl rfl | exact .inr rfl)) (vgs_cons (pg_name (i := 9) sc_law_due.nd rfl (by first | exact .inl rfl | exact .inr rfl)) vgs_nil)))) (fun _ _ _ _ _ => vts_nil) (fun _ _ _ _ _ => (ve_tup (va_cons (ve_var (pv 8)) (va_cons (ve_var (pv 9)) (va_cons (ve_at (hu_of hr) (pv 2) (ve_tup (va_cons (ve_var (pv 8)) (va_cons (ve_var (pv 9)) va_nil)))) va_nil)))))) va_nil)) va_nil)))))))))))
abbrev s_law_told : Stmt := topS 41
abbrev N_law_told : List Str := ["many", "rows", "found", "e"]
abbrev p_law_told : List Str := ["many", "rows"]
theorem sc_law_told : FnScope N_law_told p_law_told (defScope s_law_told) := ⟨rfl, rfl, rfl, by decide +kernel, rfl, by decide +kernel, by decide +kernel⟩
abbrev a_law_told : List Nat := ([2] ++ (([2] ++ ([3] ++ ([2] ++ ([2] ++ ([2] ++ []))))) ++ []))
def body_law_told : MS :=
    (dSeq (dSet 2 (dC .non))
    (dSeq (dTryG 3 yes_LoneError no_LoneError
    (dSet 2 (dFn [none, none] F_made_web (dCons (dV 0) (dCons (dV 1) dNil)))) (fun a c f q => (dSeq (dSet 2 (dC (.str "other")))
    (dIfS (dAndT (dTB (dIsx a isT c ["BadWeb"] (dV 3))) (dTB (dFn [none, none] (F_law_alone a c) (dCons (dV 3) (dCons (dC (.int 12)) dNil)))))
    (dSet 2 (dTup (dCons (dC (.str "bad")) (dCons (dFldG a c f q flds_at "at" (dV 3)) dNil)))) (dIfS (dAndT (dTB (dIsx a isT c ["Apart"] (dV 3))) (dTB (dFn [none, none] (F_law_alone a c) (dCons (dV 3) (dCons (dC (.int 14)) dNil)))))
    (dSet 2 (dTup (dCons (dC (.str "apart")) (dCons (dFldG a c f q flds_place "place" (dV 3)) dNil)))) dSkip)))))
    (dRet (dV 2))))
def F_law_told : FnD := fnD 4 2 a_law_told body_law_told
theorem cal_law_told {P : Program} {w : World} {K : PySem.W.Frag} {mg : Str → Option Value} {base : Heap} (T : Tops mg) (U : Xs K mg) (D : Def K mg "_law_told" s_law_told p_law_told) (c_made_web : Cal P w K mg base 3 "made_web" p_made_web F_made_web) (c_law_alone : CalF P w K mg base 2 "_law_alone" p_law_alone F_law_alone) : Cal P w K mg base 4 "_law_told" p_law_told F_law_told :=
  cal_mk (k := 3) D sc_law_told fun f cdv A outer s H E hr =>
    (vss_cons (vs_set (i := 2) sc_law_told.nd rfl (by first | exact .inl rfl | exact .inr rfl) ve_non)
    (vss_cons (vs_tryG (i := 3) rfl rfl sc_law_told.nd rfl rfl ⟨by rfl, by decide, .inl U.c_LoneError.choose_spec⟩ (L2N.takes_of rfl rfl rfl rfl) U.yes_LoneError U.no_LoneError (fun W' pn xe tk _ => (vss_one (vs_set (i := 2) sc_law_told.nd rfl (by first | exact .inl rfl | exact .inr rfl) (ve_fn (c_made_web.mono (by decide)) hr (by rfl) tk (vio_cons (ve_var (pv 0)) (vio_cons (ve_var (pv 1)) vio_nil)))))) (fun a b oe od c f q pn cy ho hd xo hot => (vss_cons (vs_set (i := 2) sc_law_told.nd rfl (by first | exact .inl rfl | exact .inr rfl) ve_str)
    (vss_one (vs_if (vt_bool (vw_and (vt_val (ve_isp1 List.mem_cons_self ho (fun b' eb => ⟨od, by cases hd.symm.trans eb; exact List.mem_cons_of_mem _ List.mem_cons_self⟩) U.tab (by rfl) T.isinstance (ve_var (pv 3)) (ce_own U.c_BadWeb.choose_spec (by rfl)))) (vw_one (vt_val (ve_fnF c_law_alone (roomS hr (by decide)) hot List.mem_cons_self (fun b' eb => ⟨od, by cases hd.symm.trans eb; exact List.mem_cons_of_mem _ List.mem_cons_self⟩) ho (by rfl) takesF (vio_cons (ve_var (pv 3)) (vio_cons ve_int vio_nil))))))) (vss_one (vs_set (i := 2) sc_law_told.nd rfl (by first | exact .inl rfl | exact .inr rfl) (ve_tup (va_cons ve_str (va_cons (ve_fldG List.mem_cons_self (List.mem_cons_of_mem _ List.mem_cons_self) ho hd U.fv_at xo (ve_var (pv 3))) va_nil))))) (vss_one (vs_if (vt_bool (vw_and (vt_val (ve_isp1 List.mem_cons_self ho (fun b' eb => ⟨od, by cases hd.symm.trans eb; exact List.mem_cons_of_mem _ List.mem_cons_self⟩) U.tab (by rfl) T.isinstance (ve_var (pv 3)) (ce_own U.c_Apart.choose_spec (by rfl)))) (vw_one (vt_val (ve_fnF c_law_alone (roomS hr (by decide)) hot List.mem_cons_self (fun b' eb => ⟨od, by cases hd.symm.trans eb; exact List.mem_cons_of_mem _ List.mem_cons_self⟩) ho (by rfl) takesF (vio_cons (ve_var (pv 3)) (vio_cons ve_int vio_nil))))))) (vss_one (vs_set (i := 2) sc_law_told.nd rfl (by first | exact .inl rfl | exact .inr rfl) (ve_tup (va_cons ve_str (va_cons (ve_fldG List.mem_cons_self (List.mem_cons_of_mem _ List.mem_cons_self) ho hd U.fv_place xo (ve_var (pv 3))) va_nil))))) vss_nil)))))))
    (vss_one (vs_ret (ve_var (pv 2))))))
abbrev s_law_too_many : Stmt := topS 42
abbrev N_law_too_many : List Str := ["jar", "rows", "at", "k"]
abbrev p_law_too_many : List Str := ["jar"]
theorem sc_law_too_many : FnScope N_law_too_many p_law_too_many (defScope s_law_too_many) := ⟨rfl, rfl, rfl, by decide +kernel, rfl, by decide +kernel, by decide +kernel⟩
abbrev a_law_too_many : List Nat := ([1] ++ ([] ++ ([] ++ ([1] ++ ([2] ++ [])))))
def body_law_too_many : MS :=
    (dSeq (dSet 1 (dLc [3] (dRange1 (dCons (dC (.int 59)) dNil)) (gNm 3) dYes (dTup (dCons (dV 3) (dCons (d2 gAdd (dV 3) (dC (.int 1))) (dCons (d2 gAdd (dC (.int 1)) (dFn [some 0, none] F_law_take (dIO 0 (dCons (dC (.int 5)) dNil)))) dNil))))))
    (dSeq (dDrop (dMt 1 gExt (dCons (d2 gAdd (dLc [3] (dRange1 (dCons (dC (.int 58)) dNil)) (gNm 3) dYes (dTup (dCons (dV 3) (dCons (d2 gAdd (dV 3) (dC (.int 2))) (dCons (dC (.int 2)) dNil))))) (dLc [3] (dRange1 (dCons (dC (.int 57)) dNil)) (gNm 3) dYes (dTup (dCons (dV 3) (dCons (d2 gAdd (dV 3) (dC (.int 3))) (dCons (dC (.int 3)) dNil)))))) dNil)))
    (dSeq (dDrop (dMt 1 gExt (dCons (dLc [3] (dRange1 (dCons (dC (.int 56)) dNil)) (gNm 3) dYes (dTup (dCons (dV 3) (dCons (d2 gAdd (dV 3) (dC (.int 4))) (dCons (d2 gPow (dC (.int 10)) (dC (.int 30))) dNil))))) dNil)))
    (dSeq (dSet 1 (d2 gAdd (dSl (dF 1) dNo (dEnd (d2 gAdd (dC (.int 220)) (dFn [some 0, none] F_law_take (dIO 0 (dCons (dC (.int 2)) dNil)))))) (d2 gMulA (dLst (dCons (dC .non) dNil)) (dFn [some 0, none] F_law_take (dIO 0 (dCons (dC (.int 2)) dNil))))))
    (dSeq (dSet 2 (dFn [some 0, none] F_law_take (dIO 0 (dCons (dC (.int 230)) dNil))))
    (dRet (d2 gAdd (d2 gAdd (dSl (dF 1) dNo (dEnd (dV 2))) (d2 gMulF (dLst (dCons (dFz (dFn [some 0, none, none] F_law_bad_thing (dIO 0 (dCons (dC (.int 60)) (dCons (dFz (dSl (dF 1) dNo (dEnd (dV 2)))) dNil))))) dNil)) (dFn [some 0, none] F_law_take (dIO 0 (dCons (dC (.int 2)) dNil))))) (dSl (dF 1) (dEnd (dV 2)) dNo))))))))
def F_law_too_many : FnD := fnD 4 1 a_law_too_many body_law_too_many
theorem cal_law_too_many {P : Program} {w : World} {K : PySem.W.Frag} {mg : Str → Option Value} {base : Heap} (T : Tops mg) (U : Xs K mg) (D : Def K mg "_law_too_many" s_law_too_many p_law_too_many) (c_law_bad_thing : Cal P w K mg base 2 "_law_bad_thing" p_law_bad_thing F_law_bad_thing) (c_law_take : Cal P w K mg base 1 "_law_take" p_law_take F_law_take) : Cal P w K mg base 3 "_law_too_many" p_law_too_many F_law_too_many :=
  cal_mk (k := 2) D sc_law_too_many fun f cdv A outer s H E hr =>
    (vss_cons (vs_setLc (i := 1) (own := [("k", 3)]) rfl sc_law_too_many.nd rfl rfl (sw_true rfl rfl rfl (by decide +kernel)) (vi_range1 (by rfl) T.range (va_cons ve_int va_nil)) (blkOk_by (own := [("k", 3)]) (N := N_law_too_many) (sc := defScope s_law_too_many) (by decide +kernel)) (fun _ _ _ _ _ => (vg_name (pg_name (i := 3) sc_law_too_many.nd rfl (by first | exact .inl rfl | exact .inr rfl)))) (fun _ _ _ _ _ => vts_nil) (fun _ _ _ _ _ => (ve_tup (va_cons (ve_var (pv 3)) (va_cons (ve_op op_add3 impAdd (ve_var (pv 3)) ve_int) (va_cons (ve_op op_add3 impAdd ve_int (ve_fn (c_law_take.mono (by decide)) hr (by rfl) takesF (vio_slot (pv 0) (vio_cons ve_int vio_nil)))) va_nil))))))
    (vss_cons (vs_expr (ve_mt (name := "extend") PySem.F.slot_list_extend PySem.F.type_list_extend mt_extend impExt (pv 1) (va_cons (ve_op op_add3 impAdd (ve_lc (own := [("k", 3)]) rfl sc_law_too_many.nd (vi_range1 (by rfl) T.range (va_cons ve_int va_nil)) (blkOk_by (own := [("k", 3)]) (N := N_law_too_many) (sc := defScope s_law_too_many) (by decide +kernel)) (fun _ _ _ _ _ => (vg_name (pg_name (i := 3) sc_law_too_many.nd rfl (by first | exact .inl rfl | exact .inr rfl)))) (fun _ _ _ _ _ => vts_nil) (fun _ _ _ _ _ => (ve_tup (va_cons (ve_var (pv 3)) (va_cons (ve_op op_add3 impAdd (ve_var (pv 3)) ve_int) (va_cons ve_int va_nil)))))) (ve_lc (own := [("k", 3)]) rfl sc_law_too_many.nd (vi_range1 (by rfl) T.range (va_cons ve_int va_nil)) (blkOk_by (own := [("k", 3)]) (N := N_law_too_many) (sc := defScope s_law_too_many) (by decide +kernel)) (fun _ _ _ _ _ => (vg_name (pg_name (i := 3) sc_law_too_many.nd rfl (by first | exact .inl rfl | exact .inr rfl)))) (fun _ _ _ _ _ => vts_nil) (fun _ _ _ _ _ => (ve_tup (va_cons (ve_var (pv 3)) (va_cons (ve_op op_add3 impAdd (ve_var (pv 3)) ve_int) (va_cons ve_int va_nil))))))) va_nil)))
    (vss_cons (vs_expr (ve_mt (name := "extend") PySem.F.slot_list_extend PySem.F.type_list_extend mt_extend impExt (pv 1) (va_cons (ve_lc (own := [("k", 3)]) rfl sc_law_too_many.nd (vi_range1 (by rfl) T.range (va_cons ve_int va_nil)) (blkOk_by (own := [("k", 3)]) (N := N_law_too_many) (sc := defScope s_law_too_many) (by decide +kernel)) (fun _ _ _ _ _ => (vg_name (pg_name (i := 3) sc_law_too_many.nd rfl (by first | exact .inl rfl | exact .inr rfl)))) (fun _ _ _ _ _ => vts_nil) (fun _ _ _ _ _ => (ve_tup (va_cons (ve_var (pv 3)) (va_cons (ve_op op_add3 impAdd (ve_var (pv 3)) ve_int) (va_cons (ve_op op_pow impPow ve_int ve_int) va_nil)))))) va_nil)))
    (vss_cons (vs_set (i := 1) sc_law_too_many.nd rfl (by first | exact .inl rfl | exact .inr rfl) (ve_op op_add3 impAdd (ve_slice (ve_frz (pv 1)) vo_none (vo_some (ve_op op_add3 impAdd ve_int (ve_fn (c_law_take.mono (by decide)) hr (by rfl) (L2N.takes_of rfl rfl rfl rfl) (vio_slot (pv 0) (vio_cons ve_int vio_nil)))))) (ve_op op_mulA impMulA (ve_lst (va_cons ve_non va_nil)) (ve_fn (c_law_take.mono (by decide)) hr (by rfl) (L2N.takes_of rfl rfl rfl rfl) (vio_slot (pv 0) (vio_cons ve_int vio_nil))))))
    (vss_cons (vs_set (i := 2) sc_law_too_many.nd rfl (by first | exact .inl rfl | exact .inr rfl) (ve_fn (c_law_take.mono (by decide)) hr (by rfl) (L2N.takes_of rfl rfl rfl rfl) (vio_slot (pv 0) (vio_cons ve_int vio_nil))))
    (vss_one (vs_ret (ve_op op_add3 impAdd (ve_op op_add3 impAdd (ve_slice (ve_frz (pv 1)) vo_none (vo_some (ve_var (pv 2)))) (ve_op op_mulA impMulF (ve_lst (va_cons (ve_fz (ve_fn (c_law_bad_thing.mono (by decide)) hr (by rfl) (L2N.takes_of rfl rfl rfl rfl) (vio_slot (pv 0) (vio_cons ve_int (vio_cons (ve_fz (ve_slice (ve_frz (pv 1)) vo_none (vo_some (ve_var (pv 2))))) vio_nil))))) va_nil)) (ve_fn (c_law_take.mono (by decide)) hr (by rfl) (L2N.takes_of rfl rfl rfl rfl) (vio_slot (pv 0) (vio_cons ve_int vio_nil))))) (ve_slice (ve_frz (pv 1)) (vo_some (ve_var (pv 2))) vo_none)))))))))
abbrev s_law : Stmt := topS 43
abbrev N_law : List Str := ["script", "cell", "jar", "web", "many", "rows", "turn", "odd", "none", "pair", "at"]
abbrev p_law : List Str := ["script"]
theorem sc_law : FnScope N_law p_law (defScope s_law) := ⟨rfl, rfl, rfl, by decide +kernel, rfl, by decide +kernel, by decide +kernel⟩
abbrev a_law : List Nat := (([1] ++ ([2] ++ ([3] ++ ([4] ++ ([5] ++ (([6] ++ ([10] ++ [5])) ++ (([5] ++ []) ++ (([4, 5] ++ []) ++ (([] ++ []) ++ ([7] ++ ([8] ++ ([9] ++ ([] ++ []))))))))))))) ++ [])
def body_law : MS :=
    (dSeq (dFor (dItems (d2 gAdd (dLst (dCons (dCallS [none] gLen (dCons (dV 0) dNil)) dNil)) (dSl (dV 0) dNo (dEnd (dC (.int 9)))))) (gNm 1)
    (dSeq (dSet 2 (dFn [none] F_law_jar (dCons (dFz (dLst (dCons (dV 1) (dCons (d2 gAdd (d2 gDiv (dV 1) (dC (.int 7))) (dC (.int 1))) dNil)))) dNil)))
    (dSeq (dSet 3 (dFn [some 2, none] F_law_web (dIO 2 (dCons (dC (.bl false)) dNil))))
    (dSeq (dSet 4 (dAt 3 (dC (.int 0))))
    (dSeq (dSet 5 (dLc [10] (dItems (dFn [some 2, none] F_law_order (dIO 2 (dCons (dCallS [none] gLen (dCons (dAt 3 (dC (.int 1))) dNil)) dNil)))) (gNm 10) dYes (d2 gIx (dAt 3 (dC (.int 1))) (dV 10))))
    (dSeq (dFor (dRange1 (dCons (dFn [some 2, none] F_law_take (dIO 2 (dCons (dC (.int 3)) dNil))) dNil)) (gNm 6)
    (dSeq (dSet 10 (dFn [some 2, none] F_law_take (dIO 2 (dCons (d2 gAdd (dCallS [some 5] gLen (dIO 5 dNil)) (dC (.int 1))) dNil))))
    (dSet 5 (d2 gAdd (d2 gAdd (dSl (dF 5) dNo (dEnd (dV 10))) (dLst (dCons (dFn [some 2, none, none] F_law_bad_thing (dIO 2 (dCons (dV 4) (dCons (dFz (dSl (dF 5) dNo (dEnd (dV 10)))) dNil)))) dNil))) (dSl (dF 5) (dEnd (dV 10)) dNo)))))
    (dSeq (dIfS (dTB (d2 gEq (dFn [some 2, none] F_law_take (dIO 2 (dCons (dC (.int 3)) dNil))) (dC (.int 0))))
    (dSet 5 (dSl (dF 5) (dEnd (dFn [some 2, none] F_law_take (dIO 2 (dCons (dC (.int 2)) dNil)))) (dEnd (d2 gSub (dCallS [some 5] gLen (dIO 5 dNil)) (dFn [some 2, none] F_law_take (dIO 2 (dCons (dC (.int 10)) dNil))))))) dSkip)
    (dSeq (dIfS (dTB (d2 gEq (dFn [some 2, none] F_law_take (dIO 2 (dCons (dC (.int 16)) dNil))) (dC (.int 0))))
    (dPar 4 5 (dCons (dC (.int 60)) (dCons (dFn [some 2] F_law_too_many (dIO 2 dNil)) dNil))) dSkip)
    (dSeq (dIfS (dOrT (dTB (d2 gNe (dFn [none, none] F_law_told (dCons (dV 4) (dCons (dF 5) dNil))) (dFn [none, none] F_law_due (dCons (dV 4) (dCons (dF 5) dNil))))) (dTB (d2 gNe (dFn [none, none] F_law_told (dCons (dV 4) (dCons (dCall gTuple (dCons (dF 5) dNil)) dNil))) (dFn [none, none] F_law_due (dCons (dV 4) (dCons (dF 5) dNil))))))
    (dRet (dC (.bl false))) dSkip)
    (dSeq (dSet 7 (d2 gIx (dLst (dCons (dC (.int 0)) (dCons (dC (.int 61)) (dCons (d1 gNeg (dC (.int 1))) (dCons (dC (.bl true)) (dCons (dC .non) (dCons (dC (.str "5")) (dCons (dTup (dCons (dC (.int 5)) dNil)) (dCons (d2 gPow (dC (.int 10)) (dC (.int 30))) (dCons (dLst dNil) dNil)))))))))) (dFn [some 2, none] F_law_take (dIO 2 (dCons (dC (.int 9)) dNil)))))
    (dSeq (dPreS 7 (dSet 8 (d2 gIx (dLst (dCons (dC .non) (dCons (dC (.int 3)) (dCons (dC (.str "")) (dCons (dC (.dT true [] [])) (dCons (dC (.bl true)) (dCons (dC (.str "012")) dNil))))))) (dFn [some 2, none] F_law_take (dIO 2 (dCons (dC (.int 6)) dNil))))))
    (dPreS 8 (dFor (dItems (dLst (dCons (dTup (dCons (dV 7) (dCons (dF 5) dNil))) (dCons (dTup (dCons (dV 4) (dCons (dV 8) dNil))) (dCons (dTup (dCons (dV 7) (dCons (dV 8) dNil))) dNil))))) (gNm 9)
    (dIfS (dTB (d2 gNe (dFn [none, none] F_law_told (dCons (dAt 9 (dC (.int 0))) (dCons (dAt 9 (dC (.int 1))) dNil))) (dTup (dCons (dC (.str "bad")) (dCons (d1 gNeg (dC (.int 1))) dNil)))))
    (dRet (dC (.bl false))) dSkip))))))))))))))
    (dRet (dC (.bl true))))
def F_law : FnD := fnD 11 1 a_law body_law
theorem cal_law {P : Program} {w : World} {K : PySem.W.Frag} {mg : Str → Option Value} {base : Heap} (T : Tops mg) (U : Xs K mg) {f : Addr} {fd : FuncData} (D : Fun K "law" "law" s_law f fd) (c_law_told : Cal P w K mg base 4 "_law_told" p_law_told F_law_told) (c_law_take : Cal P w K mg base 1 "_law_take" p_law_take F_law_take) (c_law_due : Cal P w K mg base 2 "_law_due" p_law_due F_law_due) (c_law_too_many : Cal P w K mg base 3 "_law_too_many" p_law_too_many F_law_too_many) (c_law_bad_thing : Cal P w K mg base 2 "_law_bad_thing" p_law_bad_thing F_law_bad_thing) (c_law_order : Cal P w K mg base 2 "_law_order" p_law_order F_law_order) (c_law_web : Cal P w K mg base 4 "_law_web" p_law_web F_law_web) (c_law_jar : Cal P w K mg base 2 "_law_jar" p_law_jar F_law_jar) : FnOk P w K mg base (L2N.CX P w) 5 f fd p_law (spOf K mg F_law) :=
  fn_ok (k := 4) D sc_law fun cdv A outer s H E hr =>
    (vss_cons (vs_for (passes_of rfl) rfl (vi_seq (ve_op op_add3 impAdd (ve_lst (va_cons (ve_callS call_lenA sLen (by rfl) T.len b_len (vio_cons (ve_var (pv 0)) vio_nil)) va_nil)) (ve_slice (ve_var (pv 0)) vo_none (vo_some ve_int)))) (vg_name (pg_name (i := 1) sc_law.nd rfl (by first | exact .inl rfl | exact .inr rfl)))
    (vss_cons (vs_set (i := 2) sc_law.nd rfl (by first | exact .inl rfl | exact .inr rfl) (ve_fn (c_law_jar.mono (by decide)) hr (by rfl) (L2N.takes_of rfl rfl rfl rfl) (vio_cons (ve_fz (ve_lst (va_cons (ve_var (pv 1)) (va_cons (ve_op op_add3 impAdd (ve_op op_fdiv impDiv (ve_var (pv 1)) ve_int) ve_int) va_nil)))) vio_nil)))
    (vss_cons (vs_set (i := 3) sc_law.nd rfl (by first | exact .inl rfl | exact .inr rfl) (ve_fn (c_law_web.mono (by decide)) hr (by rfl) (L2N.takes_of rfl rfl rfl rfl) (vio_slot (pv 2) (vio_cons ve_bl vio_nil))))
    (vss_cons (vs_set (i := 4) sc_law.nd rfl (by first | exact .inl rfl | exact .inr rfl) (ve_at (hu_of hr) (pv 3) ve_int))
    (vss_cons (vs_setLc (i := 5) (own := [("at", 10)]) rfl sc_law.nd rfl rfl (sw_true rfl rfl rfl (by decide +kernel)) (vi_seq (ve_fn (c_law_order.mono (by decide)) hr (by rfl) (L2N.takes_of rfl rfl rfl rfl) (vio_slot (pv 2) (vio_cons (ve_callS call_lenA sLen (by rfl) T.len b_len (vio_cons (ve_at (hu_of hr) (pv 3) ve_int) vio_nil)) vio_nil)))) (blkOk_by (own := [("at", 10)]) (N := N_law) (sc := defScope s_law) (by decide +kernel)) (fun _ _ _ _ _ => (vg_name (pg_name (i := 10) sc_law.nd rfl (by first | exact .inl rfl | exact .inr rfl)))) (fun _ _ _ _ _ => vts_nil) (fun _ _ _ _ _ => (ve_ix (ve_at (hu_of hr) (pv 3) ve_int) (ve_var (pv 10)))))
    (vss_cons (vs_for (passes_of rfl) rfl (vi_range1 (by rfl) T.range (va_cons (ve_fn (c_law_take.mono (by decide)) hr (by rfl) (L2N.takes_of rfl rfl rfl rfl) (vio_slot (pv 2) (vio_cons ve_int vio_nil))) va_nil)) (vg_name (pg_name (i := 6) sc_law.nd rfl (by first | exact .inl rfl | exact .inr rfl)))
    (vss_cons (vs_set (i := 10) sc_law.nd rfl (by first | exact .inl rfl | exact .inr rfl) (ve_fn (c_law_take.mono (by decide)) hr (by rfl) (L2N.takes_of rfl rfl rfl rfl) (vio_slot (pv 2) (vio_cons (ve_op op_add3 impAdd (ve_callS call_lenA sLen (by rfl) T.len b_len (vio_slot (pv 5) vio_nil)) ve_int) vio_nil))))
    (vss_one (vs_set (i := 5) sc_law.nd rfl (by first | exact .inl rfl | exact .inr rfl) (ve_op op_add3 impAdd (ve_op op_add3 impAdd (ve_slice (ve_frz (pv 5)) vo_none (vo_some (ve_var (pv 10)))) (ve_lst (va_cons (ve_fn (c_law_bad_thing.mono (by decide)) hr (by rfl) (L2N.takes_of rfl rfl rfl rfl) (vio_slot (pv 2) (vio_cons (ve_var (pv 4)) (vio_cons (ve_fz (ve_slice (ve_frz (pv 5)) vo_none (vo_some (ve_var (pv 10))))) vio_nil)))) va_nil))) (ve_slice (ve_frz (pv 5)) (vo_some (ve_var (pv 10))) vo_none))))))
    (vss_cons (vs_if (vt_cmp (op_eqD hr.units) impEq (ve_fn (c_law_take.mono (by decide)) hr (by rfl) (L2N.takes_of rfl rfl rfl rfl) (vio_slot (pv 2) (vio_cons ve_int vio_nil))) ve_int (nomark _)) (vss_one (vs_set (i := 5) sc_law.nd rfl (by first | exact .inl rfl | exact .inr rfl) (ve_slice (ve_frz (pv 5)) (vo_some (ve_fn (c_law_take.mono (by decide)) hr (by rfl) (L2N.takes_of rfl rfl rfl rfl) (vio_slot (pv 2) (vio_cons ve_int vio_nil)))) (vo_some (ve_op op_sub impSub (ve_callS call_lenA sLen (by rfl) T.len b_len (vio_slot (pv 5) vio_nil)) (ve_fn (c_law_take.mono (by decide)) hr (by rfl) (L2N.takes_of rfl rfl rfl rfl) (vio_slot (pv 2) (vio_cons ve_int vio_nil)))))))) vss_nil)
    (vss_cons (vs_if (vt_cmp (op_eqD hr.units) impEq (ve_fn (c_law_take.mono (by decide)) hr (by rfl) (L2N.takes_of rfl rfl rfl rfl) (vio_slot (pv 2) (vio_cons ve_int vio_nil))) ve_int (nomark _)) (vss_one (vs_par (i := 4) (j := 5) rfl sc_law.nd rfl rfl (by decide) rfl rfl (va_cons ve_int (va_cons (ve_fn (c_law_too_many.mono (by decide)) hr (by rfl) (L2N.takes_of rfl rfl rfl rfl) (vio_slot (pv 2) vio_nil)) va_nil)) (by rfl))) vss_nil)
    (vss_cons (vs_if (vt_bool (vw_or (vt_cmp (op_neD hr.units) impNe (ve_fn (c_law_told.mono (by decide)) hr (by rfl) (L2N.takes_of rfl rfl rfl rfl) (vio_cons (ve_var (pv 4)) (vio_cons (ve_frz (pv 5)) vio_nil))) (ve_fn (c_law_due.mono (by decide)) hr (by rfl) (L2N.takes_of rfl rfl rfl rfl) (vio_cons (ve_var (pv 4)) (vio_cons (ve_frz (pv 5)) vio_nil))) (nomark _)) (vw_or1 (vt_cmp (op_neD hr.units) impNe (ve_fn (c_law_told.mono (by decide)) hr (by rfl) (L2N.takes_of rfl rfl rfl rfl) (vio_cons (ve_var (pv 4)) (vio_cons (ve_callTy call_tuple_of impTuple (by rfl) T.tuple b_tuple (va_cons (ve_frz (pv 5)) va_nil)) vio_nil))) (ve_fn (c_law_due.mono (by decide)) hr (by rfl) (L2N.takes_of rfl rfl rfl rfl) (vio_cons (ve_var (pv 4)) (vio_cons (ve_frz (pv 5)) vio_nil))) (nomark _))))) (vss_one (vs_ret ve_bl)) vss_nil)
    (vss_cons (vs_set (i := 7) sc_law.nd rfl (by first | exact .inl rfl | exact .inr rfl) (ve_ix (ve_lst (va_cons ve_int (va_cons ve_int (va_cons (ve_un un_neg impNeg ve_int) (va_cons ve_bl (va_cons ve_non (va_cons ve_str (va_cons (ve_tup (va_cons ve_int va_nil)) (va_cons (ve_op op_pow impPow ve_int ve_int) (va_cons (ve_lst va_nil) va_nil)))))))))) (ve_fn (c_law_take.mono (by decide)) hr (by rfl) (L2N.takes_of rfl rfl rfl rfl) (vio_slot (pv 2) (vio_cons ve_int vio_nil)))))
    (vss_cons (vs_pre 7 (vs_set (i := 8) sc_law.nd rfl (by first | exact .inl rfl | exact .inr rfl) (ve_ix (ve_lst (va_cons ve_non (va_cons ve_int (va_cons ve_str (va_cons ve_dnewT (va_cons ve_bl (va_cons ve_str va_nil))))))) (ve_fn (c_law_take.mono (by decide)) hr (by rfl) (L2N.takes_of rfl rfl rfl rfl) (vio_slot (pv 2) (vio_cons ve_int vio_nil))))))
    (vss_one (vs_pre 8 (vs_for (passes_of rfl) rfl (vi_seq (ve_lst (va_cons (ve_tup (va_cons (ve_var (pv 7)) (va_cons (ve_frz (pv 5)) va_nil))) (va_cons (ve_tup (va_cons (ve_var (pv 4)) (va_cons (ve_var (pv 8)) va_nil))) (va_cons (ve_tup (va_cons (ve_var (pv 7)) (va_cons (ve_var (pv 8)) va_nil))) va_nil))))) (vg_name (pg_name (i := 9) sc_law.nd rfl (by first | exact .inl rfl | exact .inr rfl)))
    (vss_one (vs_if (vt_cmp (op_neD hr.units) impNe (ve_fn (c_law_told.mono (by decide)) hr (by rfl) (L2N.takes_of rfl rfl rfl rfl) (vio_cons (ve_at (hu_of hr) (pv 9) ve_int) (vio_cons (ve_at (hu_of hr) (pv 9) ve_int) vio_nil))) (ve_tup (va_cons ve_str (va_cons (ve_un un_neg impNeg ve_int) va_nil))) (nomark _)) (vss_one (vs_ret ve_bl)) vss_nil))))))))))))))))
    (vss_one (vs_ret ve_bl)))
end G
set_option Elab.async false
set_option linter.all false
set_option maxRecDepth 100000
set_option maxHeartbeats 4000000
set_option autoImplicit false
noncomputable section
namespace VS
open PySem PySem.Spec L2
section
variable {α β : Type} {ρ : Env}
def W (m : Option α) (Q : α → Prop) : Prop := ∃ a, m = some a ∧ Q a
@[simp] theorem W_some {a : α} {Q : α → Prop} : W (some a) Q ↔ Q a := by
  constructor
  · rintro ⟨_, e, h⟩
    cases e
    exact h
  · exact fun h => ⟨a, rfl, h⟩
@[simp] theorem W_none {Q : α → Prop} : W none Q ↔ False := by
  constructor
  · rintro ⟨_, e, _⟩
    cases e
  · exact False.elim
@[simp] theorem W_guard {c : Prop} [Decidable c] {m : Option α} {Q : α → Prop} : W (if c then m else none) Q ↔ c ∧ W m Q := by
  by_cases h : c <;> simp [h]
theorem W_if {c : Prop} [Decidable c] {m n : Option α} {Q : α → Prop} : W (if c then m else n) Q ↔ (c → W m Q) ∧ (¬ c → W n Q) := by
  by_cases h : c <;> simp [h]
def mapQ (f : α → β) (Q : β → Prop) (a : α) : Prop := Q (f a)
@[simp] theorem mapQ_a {f : α → β} {Q : β → Prop} {a : α} : mapQ f Q a ↔ Q (f a) := .rfl
@[simp] theorem W_map {f : α → β} {m : Option α} {Q : β → Prop} : W (m.map f) Q ↔ W m (mapQ f Q) := by cases m <;> simp
def obQ (f : α → Option β) (Q : β → Prop) (a : α) : Prop := W (f a) Q
@[simp] theorem obQ_a {f : α → Option β} {Q : β → Prop} {a : α} : obQ f Q a ↔ W (f a) Q := .rfl
@[simp] theorem W_obind {f : α → Option β} {m : Option α} {Q : β → Prop} : W (m.bind f) Q ↔ W m (obQ f Q) := by cases m <;> simp
theorem W.imp {m : Option α} {Q Q' : α → Prop} (h : W m Q) (hi : ∀ a, Q a → Q' a) : W m Q' := let ⟨a, e, q⟩ := h; ⟨a, e, hi a q⟩
theorem W.eq {m : Option α} {a : α} {Q : α → Prop} (e : m = some a) (h : Q a) : W m Q := ⟨a, e, h⟩
def bQ (k : α → M β) (Q : Rv β → Prop) : Rv α → Prop
  | .ok a ρ => W (k a ρ) Q
  | .ex x ρ => Q (.ex x ρ)
@[simp] theorem bQ_ok {k : α → M β} {Q : Rv β → Prop} {a : α} : bQ k Q (.ok a ρ) ↔ W (k a ρ) Q := .rfl
@[simp] theorem bQ_ex {k : α → M β} {Q : Rv β → Prop} {x : Xc} : bQ k Q (.ex x ρ) ↔ Q (.ex x ρ) := .rfl
def bS (k : α → MS) (Q : Fl × Env → Prop) : Rv α → Prop
  | .ok a ρ => W (k a ρ) Q
  | .ex x ρ => Q (.ex x, ρ)
@[simp] theorem bS_ok {k : α → MS} {Q : Fl × Env → Prop} {a : α} : bS k Q (.ok a ρ) ↔ W (k a ρ) Q := .rfl
@[simp] theorem bS_ex {k : α → MS} {Q : Fl × Env → Prop} {x : Xc} : bS k Q (.ex x ρ) ↔ Q (.ex x, ρ) := .rfl
def sQ (g : MS) (Q : Fl × Env → Prop) : Fl × Env → Prop
  | (.nx, ρ) => W (g ρ) Q
  | r => Q r
@[simp] theorem sQ_nx {g : MS} {Q : Fl × Env → Prop} : sQ g Q (.nx, ρ) ↔ W (g ρ) Q := .rfl
@[simp] theorem sQ_rt {g : MS} {Q : Fl × Env → Prop} {d : D} : sQ g Q (.rt d, ρ) ↔ Q (.rt d, ρ) := .rfl
@[simp] theorem sQ_bk {g : MS} {Q : Fl × Env → Prop} : sQ g Q (.bk, ρ) ↔ Q (.bk, ρ) := .rfl
@[simp] theorem sQ_ct {g : MS} {Q : Fl × Env → Prop} : sQ g Q (.ct, ρ) ↔ Q (.ct, ρ) := .rfl
@[simp] theorem sQ_ex {g : MS} {Q : Fl × Env → Prop} {x : Xc} : sQ g Q (.ex x, ρ) ↔ Q (.ex x, ρ) := .rfl
@[simp] theorem W_bindM {f : M α} {k : α → M β} {Q : Rv β → Prop} : W (bindM f k ρ) Q ↔ W (f ρ) (bQ k Q) := by
  unfold bindM
  cases f ρ with
  | none => simp
  | some r => cases r <;> simp
@[simp] theorem W_bindS {f : M α} {k : α → MS} {Q : Fl × Env → Prop} : W (bindS f k ρ) Q ↔ W (f ρ) (bS k Q) := by
  unfold bindS
  cases f ρ with
  | none => simp
  | some r => cases r <;> simp
@[simp] theorem W_dSeq {g g' : MS} {Q : Fl × Env → Prop} : W (dSeq g g' ρ) Q ↔ W (g ρ) (sQ g' Q) := by
  unfold dSeq
  cases g ρ with
  | none => simp
  | some r => obtain ⟨fl, ρ'⟩ := r; cases fl <;> simp
def oK (ρ : Env) (Q : Rv α → Prop) (a : α) : Prop := Q (.ok a ρ)
@[simp] theorem oK_a {Q : Rv α → Prop} {a : α} : oK ρ Q a ↔ Q (.ok a ρ) := .rfl
@[simp] theorem W_optM {o : Option α} {Q : Rv α → Prop} : W (optM o ρ) Q ↔ W o (oK ρ Q) := by
  unfold optM
  cases o <;> simp
@[simp] theorem W_retM {a : α} {Q : Rv α → Prop} : W (retM a ρ) Q ↔ Q (.ok a ρ) := W_some
@[simp] theorem W_dC {d : D} {Q : Rv D → Prop} : W (dC d ρ) Q ↔ Q (.ok d ρ) := W_some
def oQ (Q : D → Prop) : Option D → Prop
  | some d => Q d
  | none => False
@[simp] theorem oQ_some {Q : D → Prop} {d : D} : oQ Q (some d) ↔ Q d := .rfl
@[simp] theorem oQ_none {Q : D → Prop} : oQ Q none ↔ False := .rfl
@[simp] theorem W_dV {i : Nat} {Q : Rv D → Prop} : W (dV i ρ) Q ↔ oQ (fun d => fz d = true ∧ Q (.ok d ρ)) ρ[i]? := by
  unfold dV
  cases ρ[i]? <;> simp
@[simp] theorem W_dF {i : Nat} {Q : Rv D → Prop} : W (dF i ρ) Q ↔ oQ (fun d => fz (freeze d) = true ∧ Q (.ok (freeze d) (ρ.set i (freeze d)))) ρ[i]? := by
  unfold dF
  cases ρ[i]? <;> simp
@[simp] theorem W_dM {i : Nat} {Q : Rv D → Prop} : W (dM i ρ) Q ↔ oQ (fun d => nunk (some d) = true ∧ Q (.ok d (ρ.set i .unk))) ρ[i]? := by
  unfold dM
  cases ρ[i]? with
  | none => simp
  | some d => cases d <;> simp
@[simp] theorem W_d1 {g : D → Option D} {f : M D} {Q : Rv D → Prop} : W (d1 g f ρ) Q ↔ W (f ρ) (bQ (fun x => optM (g x)) Q) := W_bindM
@[simp] theorem W_d2 {g : D → D → Option D} {f h : M D} {Q : Rv D → Prop} : W (d2 g f h ρ) Q ↔ W (f ρ) (bQ (fun x => bindM h fun y => optM (g x y)) Q) := W_bindM
def tB : D → Option Bool
  | .bl b => some b
  | _ => none
@[simp] theorem tB_bl {b : Bool} : tB (.bl b) = some b := rfl
@[simp] theorem W_dTB {f : M D} {Q : Rv Bool → Prop} : W (dTB f ρ) Q ↔ W (f ρ) (bQ (fun d => optM (tB d)) Q) := by
  have : dTB f = bindM f fun d => optM (tB d) := rfl
  rw [this]
  exact W_bindM
@[simp] theorem W_dAndT {f g : M Bool} {Q : Rv Bool → Prop} : W (dAndT f g ρ) Q ↔ W (f ρ) (bQ (fun b => if b = true then g else retM false) Q) := W_bindM
@[simp] theorem W_dOrT {f g : M Bool} {Q : Rv Bool → Prop} : W (dOrT f g ρ) Q ↔ W (f ρ) (bQ (fun b => if b = true then retM true else g) Q) := W_bindM
@[simp] theorem W_dNotT {f : M Bool} {Q : Rv Bool → Prop} : W (dNotT f ρ) Q ↔ W (f ρ) (bQ (fun b => retM (!b)) Q) := W_bindM
@[simp] theorem W_dAnd {f g : M D} {Q : Rv D → Prop} : W (dAnd f g ρ) Q ↔ W (f ρ) (bQ (fun d => bindM (optM (tB d)) fun b => if b = true then g else retM (.bl false)) Q) := by
  have : dAnd f g = bindM f (fun d => bindM (optM (tB d)) fun b => if b = true then g else retM (.bl false)) := by
    rfl
  rw [this]
  exact W_bindM
@[simp] theorem W_dNot {f : M D} {Q : Rv D → Prop} : W (dNot f ρ) Q ↔ W (f ρ) (bQ (fun d => optM ((tB d).map fun b => .bl (!b))) Q) := by
  have : dNot f = bindM f (fun d => optM ((tB d).map fun b => .bl (!b))) := by
    unfold dNot d1
    congr 1
    funext d
    cases d <;> rfl
  rw [this]
  exact W_bindM
@[simp] theorem W_dChain {g g' : D → D → Option D} {a b c : M D} {Q : Rv D → Prop} : W (dChain g g' a b c ρ) Q ↔ W (a ρ) (bQ (fun x => bindM b fun y => bindM (optM ((g x y).bind tB)) fun k => if k = true then bindM c fun z => optM (g' y z) else retM (.bl false)) Q) := by
  have : dChain g g' a b c = bindM a (fun x => bindM b fun y => bindM (optM ((g x y).bind tB)) fun k => if k = true then bindM c fun z => optM (g' y z) else retM (.bl false)) := by
    unfold dChain
    congr 1
    funext x
    congr 1
    funext y
    cases g x y with
    | none => rfl
    | some d => cases d <;> rfl
  rw [this]
  exact W_bindM
@[simp] theorem W_dNil {Q : Rv (List D) → Prop} : W (dNil ρ) Q ↔ Q (.ok [] ρ) := W_some
@[simp] theorem W_dCons {f : M D} {g : M (List D)} {Q : Rv (List D) → Prop} : W (dCons f g ρ) Q ↔ W (f ρ) (bQ (fun d => bindM g fun ds => retM (d :: ds)) Q) := W_bindM
@[simp] theorem W_dTup {f : M (List D)} {Q : Rv D → Prop} : W (dTup f ρ) Q ↔ W (f ρ) (bQ (fun ds => optM (if ds.length ≤ sizeLine then some (.tup ds) else none)) Q) := W_bindM
@[simp] theorem W_dLst {f : M (List D)} {Q : Rv D → Prop} : W (dLst f ρ) Q ↔ W (f ρ) (bQ (fun ds => optM (if ds.length ≤ sizeLine then some (.lst true ds) else none)) Q) := W_bindM
@[simp] theorem W_dCall {g : List D → Option D} {f : M (List D)} {Q : Rv D → Prop} : W (dCall g f ρ) Q ↔ W (f ρ) (bQ (fun ds => optM (g ds)) Q) := W_bindM
@[simp] theorem W_dCallS {ks : List (Option Nat)} {g : List D → Option D} {f : M (List D)} {Q : Rv D → Prop} : W (dCallS ks g f ρ) Q ↔ W (f ρ) (bQ (fun ds ρ => (g (takeIO ks ds ρ).1).bind fun d => if isSc d = true then some (.ok d ρ) else none) Q) := by
  have : dCallS ks g f = bindM f (fun ds ρ => (g (takeIO ks ds ρ).1).bind fun d => if isSc d = true then some (.ok d ρ) else none) := by
    unfold dCallS
    congr 1
    funext ds ρ
    cases g (takeIO ks ds ρ).1 <;> rfl
  rw [this]
  exact W_bindM
def fQ (ks : List (Option Nat)) (ρ : Env) (Q : Rv D → Prop) : Fo → Prop
  | .ok r as => Q (.ok r (giveIO ks as ρ))
  | .ex x as => Q (.ex x (giveIO ks as ρ))
@[simp] theorem fQ_ok {ks : List (Option Nat)} {Q : Rv D → Prop} {r : D} {as : List D} : fQ ks ρ Q (.ok r as) ↔ Q (.ok r (giveIO ks as ρ)) := .rfl
@[simp] theorem fQ_ex {ks : List (Option Nat)} {Q : Rv D → Prop} {x : Xc} {as : List D} : fQ ks ρ Q (.ex x as) ↔ Q (.ex x (giveIO ks as ρ)) := .rfl
def callK (ks : List (Option Nat)) (F : FnD) (ds : List D) : M D := fun ρ => match F (takeIO ks ds ρ).1 with
  | none => none
  | some (.ok r as) => some (.ok r (giveIO ks as (takeIO ks ds ρ).2))
  | some (.ex x as) => some (.ex x (giveIO ks as (takeIO ks ds ρ).2))
@[simp] theorem W_callK {ks : List (Option Nat)} {F : FnD} {ds : List D} {Q : Rv D → Prop} : W (callK ks F ds ρ) Q ↔ W (F (takeIO ks ds ρ).1) (fQ ks (takeIO ks ds ρ).2 Q) := by
  unfold callK
  cases F (takeIO ks ds ρ).1 with
  | none => simp
  | some r => cases r <;> simp
@[simp] theorem W_dFn {ks : List (Option Nat)} {F : FnD} {f : M (List D)} {Q : Rv D → Prop} : W (dFn ks F f ρ) Q ↔ W (f ρ) (bQ (callK ks F) Q) := W_bindM
@[simp] theorem W_dIO {i : Nat} {g : M (List D)} {Q : Rv (List D) → Prop} : W (dIO i g ρ) Q ↔ nunk ρ[i]? = true ∧ W (g ρ) Q := by
  rw [u_dIO]
  exact W_guard
@[simp] theorem W_dFz {f : M D} {Q : Rv D → Prop} : W (dFz f ρ) Q ↔ W (f ρ) (bQ (fun d => optM (frzO d)) Q) := W_bindM
def ixK (x y : D) : Option D := match y with
  | .int k => (seqOf x).bind fun ds => atI ds k
  | _ => none
@[simp] theorem ixK_int {x : D} {k : Int} : ixK x (.int k) = (seqOf x).bind fun ds => atI ds k := rfl
@[simp] theorem W_dAtL {i : Nat} {f : M D} {Q : Rv D → Prop} : W (dAt i f ρ) Q ↔ (isDct ρ[i]? = true → W (dGetS i f ρ) Q) ∧ (¬ isDct ρ[i]? = true → W (dIxS i f ρ) Q) := by
  unfold dAt
  exact W_if
@[simp] theorem W_dIxS {i : Nat} {f : M D} {Q : Rv D → Prop} : W (dIxS i f ρ) Q ↔ nunk ρ[i]? = true ∧ W (f ρ) (bQ (fun y ρ => (ixK (ρ.getD i .unk) y).bind fun d => if fz d = true then some (.ok d ρ) else none) Q) := by
  have : dIxS i f ρ = if nunk ρ[i]? = true then bindM f (fun y ρ => (ixK (ρ.getD i .unk) y).bind fun d => if fz d = true then some (.ok d ρ) else none) ρ else none := by
    rw [u_dIxS]
    congr 2
    funext y ρ
    cases y <;> try rfl
    rw [ixK_int]
    generalize ρ.getD i .unk = x
    simp only
    cases seqOf x with
    | none => rfl
    | some ds =>
      simp only [Option.bind_some]
      cases atI ds _ <;> rfl
  rw [this, W_guard, W_bindM]
def fzK (ρ : Env) (Q : Rv D → Prop) (d : D) : Prop := fz d = true ∧ Q (.ok d ρ)
@[simp] theorem fzK_a {Q : Rv D → Prop} {d : D} : fzK ρ Q d ↔ fz d = true ∧ Q (.ok d ρ) := .rfl
@[simp] theorem W_getS {i : Nat} {y : D} {Q : Rv D → Prop} : W (getS i y ρ) Q ↔ W (lookD (ρ.getD i .unk) y) (fzK ρ Q) := by
  unfold getS
  cases lookD (ρ.getD i .unk) y <;> simp
@[simp] theorem W_dGetS {i : Nat} {f : M D} {Q : Rv D → Prop} : W (dGetS i f ρ) Q ↔ nunk ρ[i]? = true ∧ W (f ρ) (bQ (getS i) Q) := by
  rw [u_dGetS, W_guard, W_bindM]
@[simp] theorem W_dSkip {Q : Fl × Env → Prop} : W (dSkip ρ) Q ↔ Q (.nx, ρ) := W_some
@[simp] theorem W_dSet {i : Nat} {f : M D} {Q : Fl × Env → Prop} : W (dSet i f ρ) Q ↔ W (f ρ) (bS (fun d ρ => some (.nx, ρ.set i d)) Q) := W_bindS
@[simp] theorem W_dRet {f : M D} {Q : Fl × Env → Prop} : W (dRet f ρ) Q ↔ W (f ρ) (bS (fun d ρ => some (.rt d, ρ)) Q) := W_bindS
@[simp] theorem W_dDrop {f : M D} {Q : Fl × Env → Prop} : W (dDrop f ρ) Q ↔ W (f ρ) (bS (fun _ ρ => some (.nx, ρ)) Q) := W_bindS
@[simp] theorem W_dAsg {f : M D} {g : D → Env → Option Env} {Q : Fl × Env → Prop} : W (dAsg f g ρ) Q ↔ W (f ρ) (bS (fun d ρ => (g d ρ).map fun ρ' => (.nx, ρ')) Q) := by
  have : dAsg f g = bindS f (fun d ρ => (g d ρ).map fun ρ' => (.nx, ρ')) := by
    unfold dAsg
    congr 1
    funext d ρ
    cases g d ρ <;> rfl
  rw [this]
  exact W_bindS
@[simp] theorem W_dIfS {t : M Bool} {a b : MS} {Q : Fl × Env → Prop} : W (dIfS t a b ρ) Q ↔ W (t ρ) (bS (fun c => if c = true then a else b) Q) := W_bindS
theorem ite_app {γ δ : Type} {c : Prop} [Decidable c] {f g : γ → δ} {x : γ} : (if c then f else g) x = if c then f x else g x := by split <;> rfl
@[simp] theorem W_gNm {i : Nat} {d : D} {Q : Env → Prop} : W (gNm i d ρ) Q ↔ Q (ρ.set i d) := W_some
@[simp] theorem u_gTp' {is : List Nat} {ds : List D} : gTp is (.tup ds) ρ = gNms is ds ρ := rfl
@[simp] theorem u_gSq' {is : List Nat} {d : D} : gSq is d ρ = (seqOf d).bind fun ds => gNms is ds ρ := by
  unfold gSq
  cases seqOf d <;> rfl
@[simp] theorem W_dMt {i : Nat} {g : List D → List D → Option (D × List D)} {f : M (List D)} {Q : Rv D → Prop} : W (dMt i g f ρ) Q ↔ isLst ρ[i]? = true ∧ W (f ρ) (bQ (mutL i g) Q) := by
  unfold dMt
  rw [W_guard, W_bindM]
def ownL : Option D → Option (List D)
  | some (.lst true xs) => some xs
  | _ => none
@[simp] theorem ownL_lst {xs : List D} : ownL (some (.lst true xs)) = some xs := rfl
def mutR (i : Nat) (ρ : Env) (Q : Rv D → Prop) (p : D × List D) : Prop := Q (.ok p.1 (ρ.set i (.lst true p.2)))
@[simp] theorem mutR_a {i : Nat} {Q : Rv D → Prop} {d : D} {xs : List D} : mutR i ρ Q (d, xs) ↔ Q (.ok d (ρ.set i (.lst true xs))) := .rfl
def mutQ (i : Nat) (g : List D → List D → Option (D × List D)) (ds : List D) (ρ : Env) (Q : Rv D → Prop) (xs : List D) : Prop := W (g xs ds) (mutR i ρ Q)
@[simp] theorem mutQ_a {i : Nat} {g : List D → List D → Option (D × List D)} {ds : List D} {Q : Rv D → Prop} {xs : List D} : mutQ i g ds ρ Q xs ↔ W (g xs ds) (mutR i ρ Q) := .rfl
@[simp] theorem W_mutL {i : Nat} {g : List D → List D → Option (D × List D)} {ds : List D} {Q : Rv D → Prop} : W (mutL i g ds ρ) Q ↔ W (ownL ρ[i]?) (mutQ i g ds ρ Q) := by
  unfold mutL ownL
  cases ρ[i]? with
  | none => simp
  | some d =>
    cases d <;> try simp
    rename_i o xs
    cases o <;> simp
    cases g xs ds <;> simp [mutR]
def setQ (i : Nat) (ρ : Env) (Q : Fl × Env → Prop) (x : D) : Prop := Q (.nx, ρ.set i x)
@[simp] theorem setQ_a {i : Nat} {Q : Fl × Env → Prop} {x : D} : setQ i ρ Q x ↔ Q (.nx, ρ.set i x) := .rfl
@[simp] theorem W_putS {i : Nat} {d y : D} {Q : Fl × Env → Prop} : W (putS i d y ρ) Q ↔ W (VS.putAt (ρ.getD i .unk) y d) (setQ i ρ Q) := by
  unfold putS
  cases VS.putAt (ρ.getD i .unk) y d <;> simp
@[simp] theorem W_dPut {i : Nat} {fk fe : M D} {Q : Fl × Env → Prop} : W (dPut i fk fe ρ) Q ↔ W (fe ρ) (bS (fun d ρ1 => if nunk ρ1[i]? = true then bindS fk (putS i d) ρ1 else none) Q) := by
  rw [u_dPut, W_bindS]
@[simp] theorem W_dRange1 {f : M (List D)} {Q : Rv (List D) → Prop} : W (dRange1 f ρ) Q ↔ W (f ρ) (bQ (fun ds => optM (rangeD1 ds)) Q) := W_bindM
@[simp] theorem W_dRange2 {f : M (List D)} {Q : Rv (List D) → Prop} : W (dRange2 f ρ) Q ↔ W (f ρ) (bQ (fun ds => optM (rangeD2 ds)) Q) := W_bindM
@[simp] theorem W_dItems {f : M D} {Q : Rv (List D) → Prop} : W (dItems f ρ) Q ↔ W (f ρ) (bQ (fun d => optM (itemsOf d)) Q) := W_bindM
@[simp] theorem W_dSl {fa : M D} {fl fh : M (Option Int)} {Q : Rv D → Prop} : W (dSl fa fl fh ρ) Q ↔ W (fa ρ) (bQ (fun x => bindM fl fun lo => bindM fh fun hi => optM (gSlice x lo hi)) Q) := W_bindM
@[simp] theorem W_dNo {Q : Rv (Option Int) → Prop} : W (dNo ρ) Q ↔ Q (.ok none ρ) := W_some
@[simp] theorem W_dEnd {f : M D} {Q : Rv (Option Int) → Prop} : W (dEnd f ρ) Q ↔ W (f ρ) (bQ (fun d => optM ((intOf d).map some)) Q) := W_bindM
@[simp] theorem W_dIsa {ns : List String} {f : M D} {Q : Rv D → Prop} : W (dIsa ns f ρ) Q ↔ W (f ρ) (bQ (fun d => optM (gIsa ns d)) Q) := W_bindM
@[simp] theorem W_inS {neg : Bool} {i : Nat} {x : D} {Q : Rv D → Prop} : W (inS neg i x ρ) Q ↔ W (gIn neg x (ρ.getD i .unk)) (oK ρ Q) := by
  unfold inS
  cases gIn neg x (ρ.getD i .unk) <;> simp
@[simp] theorem W_dInS {neg : Bool} {i : Nat} {f : M D} {Q : Rv D → Prop} : W (dInS neg i f ρ) Q ↔ W (f ρ) (bQ (inS neg i) Q) := W_bindM
def hasQ (neg : Bool) (ρ : Env) (Q : Rv D → Prop) (b : Bool) : Prop := Q (.ok (.bl (if neg = true then !b else b)) ρ)
@[simp] theorem hasQ_a {neg : Bool} {Q : Rv D → Prop} {b : Bool} : hasQ neg ρ Q b ↔ Q (.ok (.bl (if neg = true then !b else b)) ρ) := .rfl
@[simp] theorem W_hasS {neg : Bool} {i : Nat} {x : D} {Q : Rv D → Prop} : W (hasS neg i x ρ) Q ↔ W (hasD (ρ.getD i .unk) x) (hasQ neg ρ Q) := by
  unfold hasS
  cases hasD (ρ.getD i .unk) x <;> simp
@[simp] theorem W_dHasS {neg : Bool} {i : Nat} {f : M D} {Q : Rv D → Prop} : W (dHasS neg i f ρ) Q ↔ W (f ρ) (bQ (fun y ρ => if nunk ρ[i]? = true then hasS neg i y ρ else none) Q) := by
  have : dHasS neg i f = bindM f (fun y ρ => if nunk ρ[i]? = true then hasS neg i y ρ else none) := by
    unfold dHasS
    congr 1
    funext y ρ
    cases ρ[i]? with
    | none => rfl
    | some d => cases d <;> rfl
  rw [this]
  exact W_bindM
def idxK (x : D) : List D → Option D
  | [y] => idxD x y
  | _ => none
@[simp] theorem idxK_1 {x y : D} : idxK x [y] = idxD x y := rfl
@[simp] theorem W_dIdx {i : Nat} {f : M (List D)} {Q : Rv D → Prop} : W (dIdx i f ρ) Q ↔ isLst ρ[i]? = true ∧ W (f ρ) (bQ (fun ys ρ => (idxK (ρ.getD i .unk) ys).map fun d => .ok d ρ) Q) := by
  have : idxS i = fun ys ρ => (idxK (ρ.getD i .unk) ys).map fun d => Rv.ok d ρ := by
    funext ys ρ
    unfold idxS idxK
    match ys with
    | [] => rfl
    | [y] =>
      simp only
      cases idxD (ρ.getD i .unk) y <;> rfl
    | _ :: _ :: _ => rfl
  unfold dIdx
  rw [W_guard, W_bindM, this]
def eQ (n np : Nat) (asg : List Nat) (Q : Fo → Prop) : Fl × Env → Prop
  | (.nx, ρ) => ρ.length = n ∧ Q (.ok .non (outD np asg ρ))
  | (.rt d, ρ) => ρ.length = n ∧ Q (.ok d (outD np asg ρ))
  | (.ex x, ρ) => ρ.length = n ∧ Q (.ex x (outD np asg ρ))
  | _ => False
@[simp] theorem eQ_nx {n np : Nat} {asg : List Nat} {Q : Fo → Prop} : eQ n np asg Q (.nx, ρ) ↔ ρ.length = n ∧ Q (.ok .non (outD np asg ρ)) := .rfl
@[simp] theorem eQ_rt {n np : Nat} {asg : List Nat} {Q : Fo → Prop} {d : D} : eQ n np asg Q (.rt d, ρ) ↔ ρ.length = n ∧ Q (.ok d (outD np asg ρ)) := .rfl
@[simp] theorem eQ_ex {n np : Nat} {asg : List Nat} {Q : Fo → Prop} {x : Xc} : eQ n np asg Q (.ex x, ρ) ↔ ρ.length = n ∧ Q (.ex x (outD np asg ρ)) := .rfl
@[simp] theorem W_fnD {n np : Nat} {asg : List Nat} {body : MS} {as : List D} {Q : Fo → Prop} : W (fnD n np asg body as) Q ↔ (as.length = np ∧ np ≤ n) ∧ W (body (as ++ List.replicate (n - np) .unk)) (eQ n np asg Q) := by
  unfold fnD
  rw [W_guard]
  cases body (as ++ List.replicate (n - np) .unk) with
  | none => simp
  | some r => obtain ⟨fl, ρ'⟩ := r; cases fl <;> simp <;> simp [eQ]
@[simp] theorem W_dDisp {f : M (List D)} {Q : Rv D → Prop} : W (dDisp f ρ) Q ↔ W (f ρ) (bQ (fun ds => optM (if ds.length ≤ 30 then dispD ds [] [] else none)) Q) := W_bindM
@[simp] theorem disp0 {ks : List Key} {es : List D} : dispD [] ks es = some (.dK true ks es) := by rw [dispD]
@[simp] theorem disp2 {k v : D} {r : List D} {ks : List Key} {es : List D} : dispD (k :: v :: r) ks es = (keyD k).bind fun key => dispD r (putL ks es key v).1 (putL ks es key v).2 := by
  rw [dispD]
  cases keyD k <;> rfl
@[simp] theorem keyD_int {i : Int} : keyD (.int i) = some (.inl i) := rfl
@[simp] theorem keyD_str {x : Str} : keyD (.str x) = some (.inr x) := rfl
def parQ (i j : Nat) (Q : Fl × Env → Prop) : Rv (List D) → Prop
  | .ok [x, y] ρ => Q (.nx, (ρ.set i x).set j y)
  | .ok _ _ => False
  | .ex x ρ => Q (.ex x, ρ)
@[simp] theorem parQ_ok {i j : Nat} {Q : Fl × Env → Prop} {x y : D} : parQ i j Q (.ok [x, y] ρ) ↔ Q (.nx, (ρ.set i x).set j y) := .rfl
@[simp] theorem parQ_ex {i j : Nat} {Q : Fl × Env → Prop} {x : Xc} : parQ i j Q (.ex x ρ) ↔ Q (.ex x, ρ) := .rfl
@[simp] theorem W_dPar {i j : Nat} {f : M (List D)} {Q : Fl × Env → Prop} : W (dPar i j f ρ) Q ↔ W (f ρ) (parQ i j Q) := by
  unfold dPar
  rw [W_bindS]
  cases f ρ with
  | none => simp
  | some r =>
    cases r with
    | ex x ρ1 => simp
    | ok ds ρ1 =>
      match ds with
      | [] => simp [parQ]
      | [_] => simp [parQ]
      | [_, _] => simp
      | _ :: _ :: _ :: _ => simp [parQ]
@[simp] theorem allI_m {ns : List Int} : allI (ns.map D.int) = some ns := allI_map ns
@[simp] theorem W_dIsx {a : Addr} {tab : Tab} {c : Str} {ts : List Str} {f : M D} {Q : Rv D → Prop} : W (dIsx a tab c ts f ρ) Q ↔ W (f ρ) (bQ (fun d => optM (isxD a tab c ts d)) Q) := W_bindM
@[simp] theorem isx_adr {a : Addr} {tab : Tab} {c : Str} {ts : List Str} : isxD a tab c ts (.adr a) = (tabAny tab c ts).map D.bl := by
  unfold isxD
  simp
theorem W_onAll {i : Nat} {g : Addr → MS} {r : Fl × Env} {Q : Fl × Env → Prop} (hn : notEx r.1) (h : ∀ a, W (g a (ρ.set i (.adr a))) fun r' => r'.1 = r.1 ∧ r'.2.set i .unk = r.2) (hq : Q r) : W (onAll i g ρ) Q := by
  refine ⟨r, onAll_of ⟨hn, fun a => ?_⟩, hq⟩
  obtain ⟨⟨fl, ρ2⟩, e, e1, e2⟩ := h a
  exact ⟨ρ2, by rw [e]; exact congrArg (fun z => some (z, ρ2)) e1, e2⟩
def btQ (body : MS) (Q : Fl × Env → Prop) (ρ : Env) : Prop := W (body ρ) Q
@[simp] theorem btQ_a {body : MS} {Q : Fl × Env → Prop} : btQ body Q ρ ↔ W (body ρ) Q := .rfl
def lQ (I : Env → Prop) (Q : Fl × Env → Prop) : Fl × Env → Prop
  | (.nx, ρ) => I ρ
  | (.ct, ρ) => I ρ
  | (.bk, ρ) => Q (.nx, ρ)
  | r => Q r
@[simp] theorem lQ_nx {I : Env → Prop} {Q : Fl × Env → Prop} : lQ I Q (.nx, ρ) ↔ I ρ := .rfl
@[simp] theorem lQ_ct {I : Env → Prop} {Q : Fl × Env → Prop} : lQ I Q (.ct, ρ) ↔ I ρ := .rfl
@[simp] theorem lQ_bk {I : Env → Prop} {Q : Fl × Env → Prop} : lQ I Q (.bk, ρ) ↔ Q (.nx, ρ) := .rfl
@[simp] theorem lQ_rt {I : Env → Prop} {Q : Fl × Env → Prop} {d : D} : lQ I Q (.rt d, ρ) ↔ Q (.rt d, ρ) := .rfl
@[simp] theorem lQ_ex {I : Env → Prop} {Q : Fl × Env → Prop} {x : Xc} : lQ I Q (.ex x, ρ) ↔ Q (.ex x, ρ) := .rfl
@[simp] theorem W_for0 {bt : D → Env → Option Env} {body : MS} {Q : Fl × Env → Prop} : W (forD bt body [] ρ) Q ↔ Q (.nx, ρ) := W_some
theorem W_for1 {bt : D → Env → Option Env} {body : MS} {d : D} {ds : List D} {Q : Fl × Env → Prop} : W (forD bt body (d :: ds) ρ) Q ↔ W (bt d ρ) fun ρ1 => W (body ρ1) (lQ (fun ρ2 => W (forD bt body ds ρ2) Q) Q) := by
  rw [forD]
  cases bt d ρ with
  | none => simp
  | some ρ1 =>
    simp only [W_some]
    cases body ρ1 with
    | none => simp
    | some r => obtain ⟨fl, ρ'⟩ := r; cases fl <;> simp
@[simp] theorem W_dFor {src : M (List D)} {bt : D → Env → Option Env} {body : MS} {Q : Fl × Env → Prop} : W (dFor src bt body ρ) Q ↔ W (src ρ) (bS (fun ds => forD bt body ds) Q) := W_bindS
theorem W_for {f : α → D} {bt : D → Env → Option Env} {body : MS} {Q : Fl × Env → Prop} (I : List α → Env → Prop) : ∀ (xs pre : List α) (ρ : Env), I pre ρ →
    (∀ p x post ρ, pre ++ xs = p ++ x :: post → I p ρ → W (bt (f x) ρ) fun ρ1 => W (body ρ1) (lQ (I (p ++ [x])) Q)) → (∀ ρ', I (pre ++ xs) ρ' → Q (.nx, ρ')) → W (forD bt body (xs.map f) ρ) Q
  | [], pre, ρ, h0, _, he => by
    rw [List.map_nil, W_for0]
    exact he ρ (by rw [List.append_nil]; exact h0)
  | x :: xs, pre, ρ, h0, hs, he => by
    rw [List.map_cons, W_for1]
    refine (hs pre x xs ρ rfl h0).imp fun ρ1 h1 => h1.imp fun r h2 => ?_
    obtain ⟨fl, ρ2⟩ := r
    have go : I (pre ++ [x]) ρ2 → W (forD bt body (xs.map f) ρ2) Q := fun h3 => W_for I xs (pre ++ [x]) ρ2 h3 (fun p y post ρ e hp => hs p y post ρ (by rw [← e]; simp) hp) (fun ρ' h4 => he ρ' (by rw [List.append_assoc] at h4; exact h4))
    cases fl with
    | nx => exact go h2
    | ct => exact go h2
    | bk => exact h2
    | rt d => exact h2
    | ex x => exact h2
theorem W_forL {f : α → D} {bt : D → Env → Option Env} {body : MS} {Q : Fl × Env → Prop} (I : List α → Env → Prop) {xs : List α} (h0 : I [] ρ)
    (hs : ∀ p x post ρ, xs = p ++ x :: post → I p ρ → ∀ J : Env → Prop, (∀ ρ', I (p ++ [x]) ρ' → J ρ') → W (bt (f x) ρ) (btQ body (lQ J Q))) (he : ∀ ρ', I xs ρ' → Q (.nx, ρ')) : W (forD bt body (xs.map f) ρ) Q :=
  W_for I xs [] ρ h0 (fun p x post ρ e h => hs p x post ρ e h _ fun _ h => h) he
theorem W_forN {bt : D → Env → Option Env} {body : MS} {Q : Fl × Env → Prop} {lo : Int} {n : Nat} (I : Nat → Env → Prop) (h0 : I 0 ρ)
    (hs : ∀ (k : Nat) ρ, k < n → I k ρ → ∀ J : Env → Prop, (∀ ρ', I (k + 1) ρ' → J ρ') → W (bt (.int (lo + k)) ρ) (btQ body (lQ J Q))) (he : ∀ ρ', I n ρ' → Q (.nx, ρ')) : W (forD bt body (intsD lo n) ρ) Q := by
  unfold intsD
  refine W_for (f := fun (i : Nat) => D.int (lo + i)) (fun p ρ => I p.length ρ) (List.range n) [] ρ h0 (fun p x post ρ e hp => ?_) (fun ρ' h => he ρ' (by simpa using h))
  rw [List.nil_append] at e
  have hl := congrArg List.length e
  have hx : (List.range n)[p.length]? = some x := by rw [e]; simp
  rw [List.length_range, List.length_append, List.length_cons] at hl
  rw [List.getElem?_range (by omega)] at hx
  cases hx
  rw [List.length_append, List.length_singleton]
  exact hs p.length ρ (by omega) hp _ fun _ h => h
theorem lQ.imp {I I' : Env → Prop} {Q : Fl × Env → Prop} (h : ∀ ρ, I ρ → I' ρ) : ∀ r, lQ I Q r → lQ I' Q r
  | (.nx, _), q => h _ q
  | (.ct, _), q => h _ q
  | (.bk, _), q => q
  | (.rt _, _), q => q
  | (.ex _, _), q => q
@[simp] theorem W_dYes {Q : Rv Bool → Prop} : W (dYes ρ) Q ↔ Q (.ok true ρ) := W_some
def okQ (Q : α → Env → Prop) : Rv α → Prop
  | .ok a ρ => Q a ρ
  | .ex _ _ => False
@[simp] theorem okQ_ok {Q : α → Env → Prop} {a : α} : okQ Q (.ok a ρ) ↔ Q a ρ := .rfl
@[simp] theorem okQ_ex {Q : α → Env → Prop} {x : Xc} : okQ Q (.ex x ρ) ↔ False := .rfl
def elQ (own : List Nat) (J : List D → Env → Prop) (acc : List D) : Rv D → Prop
  | .ok y ρ => J (acc ++ [y]) (wipeD ρ own)
  | .ex _ _ => False
@[simp] theorem elQ_ok {own : List Nat} {J : List D → Env → Prop} {acc : List D} {y : D} : elQ own J acc (.ok y ρ) ↔ J (acc ++ [y]) (wipeD ρ own) := .rfl
@[simp] theorem elQ_ex {own : List Nat} {J : List D → Env → Prop} {acc : List D} {x : Xc} : elQ own J acc (.ex x ρ) ↔ False := .rfl
def ttQ (own : List Nat) (el : M D) (J : List D → Env → Prop) (acc : List D) : Rv Bool → Prop
  | .ok b ρ => if b = true then W (el ρ) (elQ own J acc) else J acc (wipeD ρ own)
  | .ex _ _ => False
@[simp] theorem ttQ_ok {own : List Nat} {el : M D} {J : List D → Env → Prop} {acc : List D} {b : Bool} : ttQ own el J acc (.ok b ρ) ↔ if b = true then W (el ρ) (elQ own J acc) else J acc (wipeD ρ own) := .rfl
@[simp] theorem ttQ_ex {own : List Nat} {el : M D} {J : List D → Env → Prop} {acc : List D} {x : Xc} : ttQ own el J acc (.ex x ρ) ↔ False := .rfl
def lcB (own : List Nat) (tt : M Bool) (el : M D) (J : List D → Env → Prop) (acc : List D) (ρ : Env) : Prop := W (tt ρ) (ttQ own el J acc)
@[simp] theorem lcB_a {own : List Nat} {tt : M Bool} {el : M D} {J : List D → Env → Prop} {acc : List D} : lcB own tt el J acc ρ ↔ W (tt ρ) (ttQ own el J acc) := .rfl
theorem elQ_k {own : List Nat} {J : List D → Env → Prop} {acc : List D} : elQ own J acc = okQ fun y ρ3 => J (acc ++ [y]) (wipeD ρ3 own) := by
  funext r
  cases r <;> rfl
theorem ttQ_k {own : List Nat} {el : M D} {J : List D → Env → Prop} {acc : List D} : ttQ own el J acc = okQ fun b ρ2 => if b = true then W (el ρ2) (okQ fun y ρ3 => J (acc ++ [y]) (wipeD ρ3 own)) else J acc (wipeD ρ2 own) := by
  funext r
  cases r
  · rw [ttQ, elQ_k]; rfl
  · rfl
theorem W_lc1 {own : List Nat} {bt : D → Env → Option Env} {tt : M Bool} {el : M D} {d : D} {ds acc : List D} {Q : List D × Env → Prop} : W (lcD own bt tt el (d :: ds) acc ρ) Q ↔ W (bt d ρ) fun ρ1 => W (tt ρ1) (okQ fun b ρ2 => if b = true then W (el ρ2) (okQ fun y ρ3 => acc.length < sizeLine ∧ W (lcD own bt tt el ds (acc ++ [y]) (wipeD ρ3 own)) Q) else W (lcD own bt tt el ds acc (wipeD ρ2 own)) Q) := by
  rw [lcD]
  cases bt d ρ with
  | none => simp
  | some ρ1 =>
    simp only [W_some]
    cases tt ρ1 with
    | none => simp
    | some r =>
      cases r with
      | ex x ρ2 => simp
      | ok b ρ2 =>
        simp only [W_some, okQ_ok]
        by_cases hb : b = true
        · simp only [hb, if_true]
          cases el ρ2 with
          | none => simp
          | some r => cases r <;> simp
        · simp only [hb, if_false]; simp
def lcK (own : List Nat) (bt : D → Env → Option Env) (tt : M Bool) (el : M D) (ds : List D) : M D := fun ρ => (lcD own bt tt el ds [] (wipeD ρ own)).map fun p => .ok (.lst true p.1) (wipeD p.2 own)
def lcQ (own : List Nat) (Q : Rv D → Prop) (p : List D × Env) : Prop := Q (.ok (.lst true p.1) (wipeD p.2 own))
@[simp] theorem lcQ_a {own : List Nat} {Q : Rv D → Prop} {acc : List D} : lcQ own Q (acc, ρ) ↔ Q (.ok (.lst true acc) (wipeD ρ own)) := .rfl
@[simp] theorem W_lcK {own : List Nat} {bt : D → Env → Option Env} {tt : M Bool} {el : M D} {ds : List D} {Q : Rv D → Prop} : W (lcK own bt tt el ds ρ) Q ↔ W (lcD own bt tt el ds [] (wipeD ρ own)) (lcQ own Q) := by
  unfold lcK
  rw [W_map]
  exact .rfl
@[simp] theorem W_dLc {own : List Nat} {src : M (List D)} {bt : D → Env → Option Env} {tt : M Bool} {el : M D} {Q : Rv D → Prop} : W (dLc own src bt tt el ρ) Q ↔ W (src ρ) (bQ (lcK own bt tt el) Q) := by
  have : dLc own src bt tt el = bindM src (lcK own bt tt el) := by
    unfold dLc
    congr 1
    funext ds ρ
    unfold lcK
    cases lcD own bt tt el ds [] (wipeD ρ own) <;> rfl
  rw [this]
  exact W_bindM
theorem W_lc {f : α → D} {own : List Nat} {bt : D → Env → Option Env} {tt : M Bool} {el : M D} {Q : List D × Env → Prop} (I : List α → List D → Env → Prop) : ∀ (xs pre : List α) (acc : List D) (ρ : Env), I pre acc ρ → acc.length + xs.length ≤ sizeLine →
    (∀ p x post acc ρ, pre ++ xs = p ++ x :: post → I p acc ρ → W (bt (f x) ρ) fun ρ1 => W (tt ρ1) (okQ fun b ρ2 => if b = true then W (el ρ2) (okQ fun y ρ3 => I (p ++ [x]) (acc ++ [y]) (wipeD ρ3 own)) else I (p ++ [x]) acc (wipeD ρ2 own))) →
    (∀ acc ρ', I (pre ++ xs) acc ρ' → Q (acc, ρ')) → W (lcD own bt tt el (xs.map f) acc ρ) Q
  | [], pre, acc, ρ, h0, _, _, he => by
    rw [List.map_nil, lcD, W_some]
    exact he acc ρ (by rw [List.append_nil]; exact h0)
  | x :: xs, pre, acc, ρ, h0, hz, hs, he => by
    rw [List.map_cons, W_lc1]
    refine (hs pre x xs acc ρ rfl h0).imp fun ρ1 h1 => h1.imp fun r h2 => ?_
    cases r with
    | ex x ρ2 => exact h2
    | ok b ρ2 =>
      rw [okQ_ok] at h2 ⊢
      have go : ∀ acc' ρ', acc'.length ≤ acc.length + 1 → I (pre ++ [x]) acc' ρ' → W (lcD own bt tt el (xs.map f) acc' ρ') Q := fun acc' ρ' hl h3 => W_lc I xs (pre ++ [x]) acc' ρ' h3 (by rw [List.length_cons] at hz; omega) (fun p y post acc ρ e hp => hs p y post acc ρ (by rw [← e]; simp) hp) (fun acc ρ' h4 => he acc ρ' (by rw [List.append_assoc] at h4; exact h4))
      by_cases hb : b = true
      · rw [if_pos hb] at h2 ⊢
        refine h2.imp fun r h3 => ?_
        cases r with
        | ex x ρ2 => exact h3
        | ok y ρ3 =>
          rw [okQ_ok] at h3 ⊢
          rw [List.length_cons] at hz
          exact ⟨by omega, go _ _ (by simp) h3⟩
      · rw [if_neg hb] at h2 ⊢
        exact go _ _ (by omega) h2
theorem W_lcL {f : α → D} {own : List Nat} {bt : D → Env → Option Env} {tt : M Bool} {el : M D} {Q : List D × Env → Prop} (I : List α → List D → Env → Prop) {xs : List α} (h0 : I [] [] ρ) (hz : xs.length ≤ sizeLine)
    (hs : ∀ p x post acc ρ, xs = p ++ x :: post → I p acc ρ → ∀ J : List D → Env → Prop, (∀ acc' ρ', I (p ++ [x]) acc' ρ' → J acc' ρ') → W (bt (f x) ρ) (lcB own tt el J acc))
    (he : ∀ acc ρ', I xs acc ρ' → Q (acc, ρ')) : W (lcD own bt tt el (xs.map f) [] ρ) Q :=
  W_lc I xs [] [] ρ h0 (by simpa using hz) (fun p x post acc ρ e h => by
    refine (hs p x post acc ρ e h _ fun _ _ h => h).imp fun ρ1 h1 => ?_
    rw [lcB, ttQ_k] at h1
    exact h1) he
theorem W_lcN {own : List Nat} {bt : D → Env → Option Env} {el : M D} {Q : List D × Env → Prop} {lo : Int} {n : Nat} (I : Nat → List D → Env → Prop) (h0 : I 0 [] ρ) (hz : n ≤ sizeLine)
    (hs : ∀ (k : Nat) acc ρ, k < n → I k acc ρ → ∀ J : List D → Env → Prop, (∀ acc' ρ', I (k + 1) acc' ρ' → J acc' ρ') → W (bt (.int (lo + k)) ρ) (lcB own dYes el J acc))
    (he : ∀ acc ρ', I n acc ρ' → Q (acc, ρ')) : W (lcD own bt dYes el (intsD lo n) [] ρ) Q := by
  unfold intsD
  refine W_lcL (f := fun (i : Nat) => D.int (lo + i)) (fun p acc ρ => I p.length acc ρ) h0 (by simpa using hz) (fun p x post acc ρ e hp J hJ => ?_) (fun acc ρ' h => he acc ρ' (by simpa using h))
  have hl := congrArg List.length e
  have hx : (List.range n)[p.length]? = some x := by rw [e]; simp
  rw [List.length_range, List.length_append, List.length_cons] at hl
  rw [List.getElem?_range (by omega)] at hx
  cases hx
  rw [List.length_append, List.length_singleton] at hJ
  exact hs p.length acc ρ (by omega) hp J hJ
theorem W_lcMap {f : α → D} {own : List Nat} {bt : D → Env → Option Env} {tt : M Bool} {el : M D} {Q : List D × Env → Prop} (c : α → Bool) (y : α → D) {xs : List α} (hz : xs.length ≤ sizeLine)
    (hs : ∀ x ∈ xs, ∀ J : List D → Env → Prop, ∀ acc, (c x = true → J (acc ++ [y x]) ρ) → (c x = false → J acc ρ) → W (bt (f x) ρ) (lcB own tt el J acc))
    (he : Q ((xs.filter c).map y, ρ)) : W (lcD own bt tt el (xs.map f) [] ρ) Q := by
  refine W_lcL (fun p acc ρ' => ρ' = ρ ∧ acc = (p.filter c).map y) ⟨rfl, rfl⟩ hz (fun p x post acc ρ' e hp J hJ => ?_) (fun acc ρ' h => ?_)
  · obtain ⟨rfl, rfl⟩ := hp
    have hx : x ∈ xs := by rw [e]; simp
    refine hs x hx J _ (fun hc => hJ _ _ ⟨rfl, ?_⟩) (fun hc => hJ _ _ ⟨rfl, ?_⟩)
    · simp [List.filter_append, hc]
    · simp [List.filter_append, hc]
  · obtain ⟨rfl, rfl⟩ := h
    exact he
theorem W_lcAll {f : α → D} {own : List Nat} {bt : D → Env → Option Env} {el : M D} {Q : List D × Env → Prop} (y : α → D) {xs : List α} (hz : xs.length ≤ sizeLine)
    (hs : ∀ x ∈ xs, ∀ J : List D → Env → Prop, ∀ acc, J (acc ++ [y x]) ρ → W (bt (f x) ρ) (lcB own dYes el J acc))
    (he : Q (xs.map y, ρ)) : W (lcD own bt dYes el (xs.map f) [] ρ) Q := by
  refine W_lcMap (fun _ => true) y hz (fun x hx J acc h1 _ => hs x hx J acc (h1 rfl)) (by rw [List.filter_eq_self.mpr (fun _ _ => rfl)]; exact he)
@[simp] theorem all_yes {l : List α} : (l.all fun _ => true) = true := by rw [List.all_eq_true]; exact fun _ _ => rfl
@[simp] theorem u_fzLmap {f : α → D} {xs : List α} (h : ∀ x, fz (f x) = true) : fzL (xs.map f) = true := by rw [fzL_all]; simp [h]
@[simp] theorem u_frLmap {f : α → D} {xs : List α} (h : ∀ x, fz (f x) = true) : freezeL (xs.map f) = xs.map f := freezeL_fz _ (u_fzLmap h)
@[simp] theorem fzL_app {xs ys : List D} : fzL (xs ++ ys) = (fzL xs && fzL ys) := by rw [fzL_all, fzL_all, fzL_all, List.all_append]
@[simp] theorem frL_app {xs ys : List D} : freezeL (xs ++ ys) = freezeL xs ++ freezeL ys := by rw [freezeL_map, freezeL_map, freezeL_map, List.map_append]
theorem atI_map {f : α → D} {xs : List α} {i : Int} {x : α} (h0 : 0 ≤ i) (h : xs[i.toNat]? = some x) : atI (xs.map f) i = some (f x) := atI_lt h0 (by simp [h])
theorem W_at {f : α → D} {xs : List α} {i : Int} {Q : D → Prop} (h0 : 0 ≤ i) (h1 : i < xs.length) (h : ∀ x, xs[i.toNat]? = some x → Q (f x)) : W (atI (xs.map f) i) Q := by
  have hl : i.toNat < xs.length := by omega
  exact ⟨_, atI_map h0 (List.getElem?_eq_getElem hl), h _ (List.getElem?_eq_getElem hl)⟩
end
end VS
set_option Elab.async false
set_option linter.all false
set_option maxRecDepth 100000
set_option maxHeartbeats 4000000
set_option autoImplicit false
noncomputable section
namespace VS
open PySem PySem.Spec L2
section
variable {α β : Type} {ρ : Env}
def rD (r : R3) : D := .tup [.int r.1, .int r.2.1, .int r.2.2]
def pD (p : Int × Int) : D := .tup [.int p.1, .int p.2]
def webD (many : Int) (rows : List R3) : D := .tup [.int many, .tup (rows.map rD)]
@[simp] theorem fz_rD {r : R3} : fz (rD r) = true := by simp [rD]
@[simp] theorem fz_pD {r : Int × Int} : fz (pD r) = true := by simp [pD]
@[simp] theorem fz_webD {m : Int} {rows : List R3} : fz (webD m rows) = true := by simp [webD]
@[simp] theorem fr_rD {r : R3} : freeze (rD r) = rD r := freeze_fz _ fz_rD
@[simp] theorem fr_pD {r : Int × Int} : freeze (pD r) = pD r := freeze_fz _ fz_pD
@[simp] theorem fr_webD {m : Int} {rows : List R3} : freeze (webD m rows) = webD m rows := freeze_fz _ fz_webD
@[simp] theorem nu_rD {r : R3} : nunk (some (rD r)) = true := rfl
@[simp] theorem nu_pD {r : Int × Int} : nunk (some (pD r)) = true := rfl
@[simp] theorem nu_webD {m : Int} {rows : List R3} : nunk (some (webD m rows)) = true := rfl
@[simp] theorem dct_rD {r : R3} : isDct (some (rD r)) = false := rfl
@[simp] theorem dct_pD {r : Int × Int} : isDct (some (pD r)) = false := rfl
@[simp] theorem dct_webD {m : Int} {rows : List R3} : isDct (some (webD m rows)) = false := rfl
@[simp] theorem dct_int {i : Int} : isDct (some (.int i)) = false := rfl
@[simp] theorem seq_rD {r : R3} : seqOf (rD r) = some [.int r.1, .int r.2.1, .int r.2.2] := rfl
@[simp] theorem seq_pD {r : Int × Int} : seqOf (pD r) = some [.int r.1, .int r.2] := rfl
@[simp] theorem seq_webD {m : Int} {rows : List R3} : seqOf (webD m rows) = some [.int m, .tup (rows.map rD)] := rfl
@[simp] theorem len_rD {r : R3} : lenD (rD r) = some 3 := rfl
@[simp] theorem len_pD {r : Int × Int} : lenD (pD r) = some 2 := rfl
@[simp] theorem gTp_rD {is : List Nat} {r : R3} : gTp is (rD r) ρ = gNms is [.int r.1, .int r.2.1, .int r.2.2] ρ := rfl
@[simp] theorem gTp_pD {is : List Nat} {r : Int × Int} : gTp is (pD r) ρ = gNms is [.int r.1, .int r.2] ρ := rfl
theorem rD_def {a b c : Int} : D.tup [.int a, .int b, .int c] = rD (a, b, c) := rfl
theorem pD_tI : pD = fun r => tI (p2 r) := by funext r; rfl
theorem rD_inj {r s : R3} : rD r = rD s ↔ r = s := by
  constructor
  · intro h
    simp [rD] at h
    exact Prod.ext h.1 (Prod.ext h.2.1 h.2.2)
  · rintro rfl; rfl
theorem pD_inj {r s : Int × Int} : pD r = pD s ↔ r = s := by
  constructor
  · intro h
    simp [pD] at h
    exact Prod.ext h.1 h.2
  · rintro rfl; rfl
theorem map_inj {f : α → D} (h : ∀ x y, f x = f y → x = y) : ∀ {xs ys : List α}, xs.map f = ys.map f ↔ xs = ys
  | [], [] => by simp
  | [], _ :: _ => by simp
  | _ :: _, [] => by simp
  | x :: xs, y :: ys => by
    rw [List.map_cons, List.map_cons, List.cons.injEq, List.cons.injEq, map_inj h]
    exact ⟨fun ⟨a, b⟩ => ⟨h _ _ a, b⟩, fun ⟨a, b⟩ => ⟨by rw [a], b⟩⟩
@[simp] theorem ints_inj {xs ys : List Int} : xs.map D.int = ys.map D.int ↔ xs = ys := map_inj (fun x y h => by injection h)
@[simp] theorem rows_inj {xs ys : List R3} : xs.map rD = ys.map rD ↔ xs = ys := map_inj (fun x y h => rD_inj.mp h)
@[simp] theorem pairs_inj {xs ys : List (Int × Int)} : xs.map pD = ys.map pD ↔ xs = ys := map_inj (fun x y h => pD_inj.mp h)
theorem mem_inj {f : α → D} (h : ∀ x y, f x = f y → x = y) {x : α} {xs : List α} : f x ∈ xs.map f ↔ x ∈ xs := by
  rw [List.mem_map]
  constructor
  · rintro ⟨y, hy, e⟩
    rw [← h _ _ e]
    exact hy
  · exact fun hx => ⟨x, hx, rfl⟩
@[simp high] theorem ints_mem {x : Int} {xs : List Int} : D.int x ∈ xs.map D.int ↔ x ∈ xs := mem_inj (fun x y h => by injection h)
@[simp high] theorem rows_mem {x : R3} {xs : List R3} : rD x ∈ xs.map rD ↔ x ∈ xs := mem_inj (fun x y h => rD_inj.mp h)
@[simp high] theorem pairs_mem {x : Int × Int} {xs : List (Int × Int)} : pD x ∈ xs.map pD ↔ x ∈ xs := mem_inj (fun x y h => pD_inj.mp h)
def le3 (x y : R3) : Bool := leL (r3 x) (r3 y)
def sort3 (l : List R3) : List R3 := l.mergeSort le3
theorem sort3_perm (l : List R3) : (sort3 l).Perm l := List.mergeSort_perm _ _
theorem sort3_len (l : List R3) : (sort3 l).length = l.length := (sort3_perm l).length_eq
theorem le3_anti {x y : R3} (h : le3 x y = true) (h2 : le3 y x = true) : x = y := r3_inj (leL_anti _ _ h h2)
theorem sort3_sorted (l : List R3) : (sort3 l).Pairwise fun x y => le3 x y = true := List.pairwise_mergeSort (le := le3) (fun x y z => leL_trans (r3 x) (r3 y) (r3 z)) (fun x y => leL_total (r3 x) (r3 y)) l
theorem sort3_eq {l m : List R3} (h : l.Perm m) (hs : m.Pairwise fun x y => le3 x y = true) : sort3 l = m :=
  List.Perm.eq_of_pairwise (le := fun x y => le3 x y = true) (fun a b _ _ h1 h2 => le3_anti h1 h2) (sort3_sorted l) hs ((sort3_perm l).trans h)
def le2 (x y : Int × Int) : Bool := leL (p2 x) (p2 y)
mutual
def nb : Nat → D → Bool
  | 0, _ => false
  | n + 1, .non => true
  | n + 1, .int _ => true
  | n + 1, .str x => PyData.canLay0 (.str x)
  | n + 1, .tup ds => nbL n ds
  | n + 1, .lst false ds => nbL n ds
  | _, _ => false
def nbL : Nat → List D → Bool
  | _, [] => true
  | n, d :: ds => nb n d && nbL n ds
end
@[simp] theorem nb_non {n : Nat} : nb (n + 1) .non = true := by simp [nb]
@[simp] theorem nb_int {n : Nat} {i : Int} : nb (n + 1) (.int i) = true := by simp [nb]
@[simp] theorem nb_tup {n : Nat} {ds : List D} : nb (n + 1) (.tup ds) = nbL n ds := by simp [nb]
@[simp] theorem nb_lst {n : Nat} {ds : List D} : nb (n + 1) (.lst false ds) = nbL n ds := by simp [nb]
@[simp] theorem nb_str {n : Nat} {x : Str} : nb (n + 1) (.str x) = PyData.canLay0 (.str x) := by simp [nb]
@[simp] theorem nbL_nil {n : Nat} : nbL n [] = true := by simp [nbL]
@[simp] theorem nbL_cons {n : Nat} {d : D} {ds : List D} : nbL n (d :: ds) = (nb n d && nbL n ds) := by simp [nbL]
theorem nbL_all {n : Nat} : ∀ ds : List D, nbL n ds = ds.all (nb n)
  | [] => by simp
  | d :: ds => by rw [nbL_cons, nbL_all ds]; rfl
@[simp] theorem nbL_map {n : Nat} {f : α → D} {xs : List α} (h : ∀ x, nb n (f x) = true) : nbL n (xs.map f) = true := by rw [nbL_all]; simp [h]
@[simp] theorem nb_rD {n : Nat} {r : R3} : nb (n + 2) (rD r) = true := by simp [rD]
@[simp] theorem nb_pD {n : Nat} {r : Int × Int} : nb (n + 2) (pD r) = true := by simp [pD]
@[simp] theorem nb_webD {n : Nat} {m : Int} {rows : List R3} : nb (n + 4) (webD m rows) = true := by simp [webD]
mutual
theorem nb_dat : ∀ (n : Nat) (d : D), nb n d = true → ∃ e, dat d = some e ∧ e.canLay0 = true ∧ e.depth ≤ n
  | 0, d, h => by simp [nb] at h
  | n + 1, .non, _ => ⟨.none, rfl, rfl, by simp [PyData.depth]⟩
  | n + 1, .int i, _ => ⟨.int i, rfl, rfl, by simp [PyData.depth]⟩
  | n + 1, .str x, h => ⟨.str x, rfl, by rw [nb_str] at h; exact h, by simp [PyData.depth]⟩
  | n + 1, .tup ds, h => by
    rw [nb_tup] at h
    obtain ⟨es, e, h1, h2⟩ := nbL_dat n ds h
    exact ⟨.tuple es, by rw [dat, e]; rfl, by rw [PyData.canLay0]; exact h1, by rw [PyData.depth]; omega⟩
  | n + 1, .lst false ds, h => by
    rw [nb_lst] at h
    obtain ⟨es, e, h1, h2⟩ := nbL_dat n ds h
    exact ⟨.list es, by rw [dat, e]; rfl, by rw [PyData.canLay0]; exact h1, by rw [PyData.depth]; omega⟩
  | n + 1, .lst true ds, h => by simp [nb] at h
  | n + 1, .unk, h => by simp [nb] at h
  | n + 1, .hole, h => by simp [nb] at h
  | n + 1, .bl b, h => by simp [nb] at h
  | n + 1, .adr b, h => by simp [nb] at h
  | n + 1, .exo b p, h => by simp [nb] at h
  | n + 1, .scr ds, h => by simp [nb] at h
  | n + 1, .ktp ds, h => by simp [nb] at h
  | n + 1, .dK o ks ds, h => by simp [nb] at h
  | n + 1, .dT o ks ds, h => by simp [nb] at h
  | n + 1, .lK ks ds, h => by simp [nb] at h
  | n + 1, .lT ks ds, h => by simp [nb] at h
  | n + 1, .lck o, h => by simp [nb] at h
theorem nbL_dat : ∀ (n : Nat) (ds : List D), nbL n ds = true → ∃ es, dats ds = some es ∧ PyData.canLayAll0 es = true ∧ PyData.depthAll es ≤ n
  | n, [], _ => ⟨[], rfl, rfl, by simp [PyData.depthAll]⟩
  | n, d :: ds, h => by
    rw [nbL_cons, Bool.and_eq_true] at h
    obtain ⟨e, h1, h2, h3⟩ := nb_dat n d h.1
    obtain ⟨es, g1, g2, g3⟩ := nbL_dat n ds h.2
    exact ⟨e :: es, by rw [dats, h1, g1], by rw [PyData.canLayAll0, h2, g2]; rfl, by rw [PyData.depthAll]; omega⟩
end
mutual
theorem nb_eqv : ∀ (n m : Nat) (x y : D) (a b : PyData), nb n x = true → nb m y = true → dat x = some a → dat y = some b → (PyData.eqv a b = true ↔ x = y)
  | 0, _, _, _, _, _, h, _, _, _ => by simp [nb] at h
  | _ + 1, 0, _, _, _, _, _, h, _, _ => by simp [nb] at h
  | n + 1, m + 1, x, y, a, b, hx, hy, ex, ey => by
    cases x with
    | tup ds =>
      rw [dat, Option.map_eq_some_iff] at ex
      obtain ⟨xs, ex, rfl⟩ := ex
      rw [nb_tup] at hx
      cases y with
      | tup es =>
        rw [dat, Option.map_eq_some_iff] at ey
        obtain ⟨ys, ey, rfl⟩ := ey
        rw [nb_tup] at hy
        rw [PyData.eqv, nbL_eqv n m ds es xs ys hx hy ex ey]
        simp
      | lst o es =>
        rw [dat, Option.map_eq_some_iff] at ey
        obtain ⟨ys, ey, rfl⟩ := ey
        simp [PyData.eqv]
      | non => cases ey; simp [PyData.eqv]
      | int i => cases ey; simp [PyData.eqv]
      | str z => cases ey; simp [PyData.eqv]
      | _ => simp [nb] at hy
    | lst o ds =>
      cases o with
      | true => simp [nb] at hx
      | false =>
        rw [dat, Option.map_eq_some_iff] at ex
        obtain ⟨xs, ex, rfl⟩ := ex
        rw [nb_lst] at hx
        cases y with
        | tup es =>
          rw [dat, Option.map_eq_some_iff] at ey
          obtain ⟨ys, ey, rfl⟩ := ey
          simp [PyData.eqv]
        | lst o es =>
          cases o with
          | true => simp [nb] at hy
          | false =>
            rw [dat, Option.map_eq_some_iff] at ey
            obtain ⟨ys, ey, rfl⟩ := ey
            rw [nb_lst] at hy
            rw [PyData.eqv, nbL_eqv n m ds es xs ys hx hy ex ey]
            simp
        | non => cases ey; simp [PyData.eqv]
        | int i => cases ey; simp [PyData.eqv]
        | str z => cases ey; simp [PyData.eqv]
        | _ => simp [nb] at hy
    | non =>
      cases ex
      cases y with
      | tup es =>
        rw [dat, Option.map_eq_some_iff] at ey
        obtain ⟨ys, ey, rfl⟩ := ey
        simp [PyData.eqv]
      | lst o es =>
        rw [dat, Option.map_eq_some_iff] at ey
        obtain ⟨ys, ey, rfl⟩ := ey
        simp [PyData.eqv]
      | non => cases ey; simp [PyData.eqv]
      | int i => cases ey; simp [PyData.eqv]
      | str z => cases ey; simp [PyData.eqv]
      | _ => simp [nb] at hy
    | int i =>
      cases ex
      cases y with
      | tup es =>
        rw [dat, Option.map_eq_some_iff] at ey
        obtain ⟨ys, ey, rfl⟩ := ey
        simp [PyData.eqv]
      | lst o es =>
        rw [dat, Option.map_eq_some_iff] at ey
        obtain ⟨ys, ey, rfl⟩ := ey
        simp [PyData.eqv]
      | non => cases ey; simp [PyData.eqv]
      | int i => cases ey; simp [PyData.eqv]
      | str z => cases ey; simp [PyData.eqv]
      | _ => simp [nb] at hy
    | str z =>
      cases ex
      cases y with
      | tup es =>
        rw [dat, Option.map_eq_some_iff] at ey
        obtain ⟨ys, ey, rfl⟩ := ey
        simp [PyData.eqv]
      | lst o es =>
        rw [dat, Option.map_eq_some_iff] at ey
        obtain ⟨ys, ey, rfl⟩ := ey
        simp [PyData.eqv]
      | non => cases ey; simp [PyData.eqv]
      | int i => cases ey; simp [PyData.eqv]
      | str z => cases ey; simp [PyData.eqv]
      | _ => simp [nb] at hy
    | _ => simp [nb] at hx
theorem nbL_eqv : ∀ (n m : Nat) (xs ys : List D) (as bs : List PyData), nbL n xs = true → nbL m ys = true → dats xs = some as → dats ys = some bs → (PyData.eqvAll as bs = true ↔ xs = ys)
  | _, _, [], [], _, _, _, _, ex, ey => by
    rw [dats] at ex ey
    cases ex; cases ey
    simp [PyData.eqvAll]
  | n, m, [], y :: ys, _, bs, _, hy, ex, ey => by
    rw [dats] at ex
    cases ex
    obtain ⟨es, e, _, _⟩ := nbL_dat m (y :: ys) hy
    rw [e] at ey
    cases ey
    rw [dats] at e
    cases q1 : dat y with
    | none => rw [q1] at e; cases e
    | some a =>
      cases q2 : dats ys with
      | none => rw [q1, q2] at e; cases e
      | some as => rw [q1, q2] at e; cases e; simp [PyData.eqvAll]
  | n, m, x :: xs, [], as, _, hx, _, ex, ey => by
    rw [dats] at ey
    cases ey
    obtain ⟨es, e, _, _⟩ := nbL_dat n (x :: xs) hx
    rw [e] at ex
    cases ex
    rw [dats] at e
    cases q1 : dat x with
    | none => rw [q1] at e; cases e
    | some a =>
      cases q2 : dats xs with
      | none => rw [q1, q2] at e; cases e
      | some as => rw [q1, q2] at e; cases e; simp [PyData.eqvAll]
  | n, m, x :: xs, y :: ys, as, bs, hx, hy, ex, ey => by
    rw [nbL_cons, Bool.and_eq_true] at hx hy
    rw [dats] at ex ey
    cases q1 : dat x with
    | none => rw [q1] at ex; cases ex
    | some a =>
      cases q2 : dats xs with
      | none => rw [q1, q2] at ex; cases ex
      | some as' =>
        cases q3 : dat y with
        | none => rw [q3] at ey; cases ey
        | some b =>
          cases q4 : dats ys with
          | none => rw [q3, q4] at ey; cases ey
          | some bs' =>
            rw [q1, q2] at ex
            rw [q3, q4] at ey
            cases ex; cases ey
            rw [PyData.eqvAll, Bool.and_eq_true, nb_eqv n m x y a b hx.1 hy.1 q1 q3, nbL_eqv n m xs ys as' bs' hx.2 hy.2 q2 q4, List.cons.injEq]
end
theorem nb_sh {n : Nat} {d : D} (h : nb n d = true) (hn : n ≤ 63) : ∃ e, dat d = some e ∧ SeqAt.shaped e = true := by
  obtain ⟨e, h1, h2, h3⟩ := nb_dat n d h
  exact ⟨e, h1, by unfold SeqAt.shaped; rw [h2, Bool.true_and, decide_eq_true_eq]; omega⟩
open Classical in
theorem eqD_nb {x y : D} (hx : nb 9 x = true) (hy : nb 9 y = true) : eqD x y = some (decide (x = y)) := by
  obtain ⟨a, ha, sa⟩ := nb_sh hx (by omega)
  obtain ⟨b, hb, sb⟩ := nb_sh hy (by omega)
  unfold eqD
  rw [ha, hb]
  simp only [sa, sb, and_self, if_true]
  congr 1
  rw [Bool.eq_iff_iff, nb_eqv 9 9 x y a b hx hy ha hb, decide_eq_true_eq]
open Classical in
@[simp] theorem W_gEq {x y : D} {Q : D → Prop} (hx : nb 9 x = true) (hy : nb 9 y = true) : W (gEq x y) Q ↔ Q (.bl (decide (x = y))) := by
  unfold gEq
  rw [eqD_nb hx hy]
  exact W_some
open Classical in
@[simp] theorem W_gNe {x y : D} {Q : D → Prop} (hx : nb 9 x = true) (hy : nb 9 y = true) : W (gNe x y) Q ↔ Q (.bl (!decide (x = y))) := by
  unfold gNe
  rw [eqD_nb hx hy]
  exact W_some
theorem dat_own {xs : List D} : dat (.lst true xs) = dat (.lst false xs) := by rw [dat, dat]
@[simp] theorem gEq_o1 {xs : List D} {y : D} : gEq (.lst true xs) y = gEq (.lst false xs) y := by unfold gEq eqD; rw [dat_own]
@[simp] theorem gEq_o2 {xs : List D} {x : D} : gEq x (.lst true xs) = gEq x (.lst false xs) := by unfold gEq eqD; rw [dat_own]
@[simp] theorem gNe_o1 {xs : List D} {y : D} : gNe (.lst true xs) y = gNe (.lst false xs) y := by unfold gNe eqD; rw [dat_own]
@[simp] theorem gNe_o2 {xs : List D} {x : D} : gNe x (.lst true xs) = gNe x (.lst false xs) := by unfold gNe eqD; rw [dat_own]
theorem in_any {n : Nat} {x : D} {a : PyData} (hx : nb 9 x = true) (ha : dat x = some a) : ∀ (ds : List D) (es : List PyData), nbL n ds = true → dats ds = some es → ((es.any fun z => PyData.eqv z a) = true ↔ x ∈ ds)
  | [], es, _, e => by rw [dats] at e; cases e; simp
  | d :: ds, es, h, e => by
    rw [nbL_cons, Bool.and_eq_true] at h
    rw [dats] at e
    cases q1 : dat d with
    | none => rw [q1] at e; cases e
    | some b =>
      cases q2 : dats ds with
      | none => rw [q1, q2] at e; cases e
      | some bs =>
        rw [q1, q2] at e
        cases e
        rw [List.any_cons, Bool.or_eq_true, in_any hx ha ds bs h.2 q2, nb_eqv n 9 d x b a h.1 hx q1 ha, List.mem_cons]
        constructor
        · rintro (h | h)
          · exact .inl h.symm
          · exact .inr h
        · rintro (h | h)
          · exact .inl h.symm
          · exact .inr h
open Classical in
theorem inB_nb {x : D} {o : Bool} {ds : List D} (hx : nb 9 x = true) (hy : nbL 8 ds = true) : inB x (.lst o ds) = some (decide (x ∈ ds)) := by
  obtain ⟨a, ha, sa⟩ := nb_sh hx (by omega)
  obtain ⟨es, e, h1, h2⟩ := nbL_dat 8 ds hy
  unfold inB
  rw [ha, show dat (.lst o ds) = some (.list es) by rw [dat, e]; rfl]
  have sb : SeqAt.shaped (.list es) = true := by
    unfold SeqAt.shaped
    rw [PyData.canLay0, h1, Bool.true_and, decide_eq_true_eq, PyData.depth]; omega
  simp only [sa, sb, and_self, if_true]
  congr 1
  rw [Bool.eq_iff_iff, in_any hx ha ds es hy e, decide_eq_true_eq]
open Classical in
@[simp] theorem W_gIn {x : D} {o neg : Bool} {ds : List D} {Q : D → Prop} (hx : nb 9 x = true) (hy : nbL 8 ds = true) : W (gIn neg x (.lst o ds)) Q ↔ Q (.bl (if neg = true then !decide (x ∈ ds) else decide (x ∈ ds))) := by
  unfold gIn
  rw [inB_nb hx hy]
  exact W_some
@[simp] theorem isa_tl {ds : List D} : gIsa ["list"] (.tup ds) = some (.bl false) := rfl
@[simp] theorem isa_ll {o : Bool} {ds : List D} : gIsa ["list"] (.lst o ds) = some (.bl true) := rfl
@[simp] theorem isa_il {i : Int} : gIsa ["list"] (.int i) = some (.bl false) := rfl
@[simp] theorem isa_bl {i : Bool} : gIsa ["list"] (.bl i) = some (.bl false) := rfl
@[simp] theorem isa_nl : gIsa ["list"] .non = some (.bl false) := rfl
@[simp] theorem isa_tt {ds : List D} : gIsa ["tuple"] (.tup ds) = some (.bl true) := rfl
@[simp] theorem isa_lt {o : Bool} {ds : List D} : gIsa ["tuple"] (.lst o ds) = some (.bl false) := rfl
@[simp] theorem isa_it {i : Int} : gIsa ["tuple"] (.int i) = some (.bl false) := rfl
@[simp] theorem isa_bt {i : Bool} : gIsa ["tuple"] (.bl i) = some (.bl false) := rfl
@[simp] theorem isa_nt : gIsa ["tuple"] .non = some (.bl false) := rfl
@[simp] theorem isa_tlt {ds : List D} : gIsa ["list", "tuple"] (.tup ds) = some (.bl true) := rfl
@[simp] theorem isa_llt {o : Bool} {ds : List D} : gIsa ["list", "tuple"] (.lst o ds) = some (.bl true) := rfl
@[simp] theorem isa_ilt {i : Int} : gIsa ["list", "tuple"] (.int i) = some (.bl false) := rfl
@[simp] theorem isa_blt {i : Bool} : gIsa ["list", "tuple"] (.bl i) = some (.bl false) := rfl
@[simp] theorem isa_nlt : gIsa ["list", "tuple"] .non = some (.bl false) := rfl
@[simp] theorem isa_ttl {ds : List D} : gIsa ["tuple", "list"] (.tup ds) = some (.bl true) := rfl
@[simp] theorem isa_ltl {o : Bool} {ds : List D} : gIsa ["tuple", "list"] (.lst o ds) = some (.bl true) := rfl
@[simp] theorem isa_itl {i : Int} : gIsa ["tuple", "list"] (.int i) = some (.bl false) := rfl
@[simp] theorem isa_btl {i : Bool} : gIsa ["tuple", "list"] (.bl i) = some (.bl false) := rfl
@[simp] theorem isa_ntl : gIsa ["tuple", "list"] .non = some (.bl false) := rfl
@[simp] theorem isa_ib {i : Int} : gIsa ["bool"] (.int i) = some (.bl false) := rfl
@[simp] theorem isa_bb {i : Bool} : gIsa ["bool"] (.bl i) = some (.bl true) := rfl
@[simp] theorem isa_nb : gIsa ["bool"] .non = some (.bl false) := rfl
@[simp] theorem isa_tb {ds : List D} : gIsa ["bool"] (.tup ds) = some (.bl false) := rfl
@[simp] theorem isa_lb {o : Bool} {ds : List D} : gIsa ["bool"] (.lst o ds) = some (.bl false) := rfl
@[simp] theorem isa_ii {i : Int} : gIsa ["int"] (.int i) = some (.bl true) := rfl
@[simp] theorem isa_bi {i : Bool} : gIsa ["int"] (.bl i) = some (.bl true) := rfl
@[simp] theorem isa_ni : gIsa ["int"] .non = some (.bl false) := rfl
@[simp] theorem isa_ti {ds : List D} : gIsa ["int"] (.tup ds) = some (.bl false) := rfl
@[simp] theorem isa_li {o : Bool} {ds : List D} : gIsa ["int"] (.lst o ds) = some (.bl false) := rfl
theorem allB_mapF {f : α → Bool} (l : List α) : allB (l.map fun x => D.bl (f x)) = some (l.map f) := by
  induction l with
  | nil => rfl
  | cons x l ih => rw [List.map_cons, allB, ih]; rfl
@[simp] theorem all_map {f : α → Bool} (l : List α) {o : Bool} : gAll [.lst o (l.map fun x => D.bl (f x))] = some (.bl (l.all f)) := by
  unfold gAll
  simp only [u_lstL, Option.bind_some, allB_mapF, Option.map_some]
  congr 2
  rw [List.all_map]
  rfl
theorem cut_to {xs : List D} {n : Int} (h : 0 ≤ n) : cutD xs none (some n) = xs.take n.toNat := by
  unfold cutD HT.sIx
  simp only
  rw [if_neg (by omega), List.drop_zero, Nat.sub_zero]
  rcases Nat.le_total n.toNat xs.length with h | h
  · rw [Nat.min_eq_left h]
  · rw [Nat.min_eq_right h, List.take_length, List.take_of_length_le h]
theorem cut_from {xs : List D} {n : Int} (h : 0 ≤ n) : cutD xs (some n) none = xs.drop n.toNat := by
  unfold cutD HT.sIx
  simp only
  rw [if_neg (by omega)]
  rcases Nat.le_total n.toNat xs.length with h | h
  · rw [Nat.min_eq_left h, List.take_of_length_le (by simp)]
  · rw [Nat.min_eq_right h, List.drop_eq_nil_of_le (Nat.le_refl _), List.drop_eq_nil_of_le h]
    simp
theorem cut_drop {f : α → D} {xs : List α} {n : Int} (h : 0 ≤ n) : cutD (xs.map f) (some n) none = (xs.drop n.toNat).map f := by rw [cut_from h, List.map_drop]
theorem cut_take {f : α → D} {xs : List α} {n : Int} (h : 0 ≤ n) : cutD (xs.map f) none (some n) = (xs.take n.toNat).map f := by rw [cut_to h, List.map_take]
end
end VS
set_option Elab.async false
set_option linter.all false
set_option maxRecDepth 100000
set_option maxHeartbeats 4000000
noncomputable section
namespace VS
open PySem PySem.Spec L2
theorem md1 (x : Int) : in64 (x % 2147483647) := by
  have a := Int.emod_nonneg x (show (2147483647 : Int) ≠ 0 by decide)
  have b := Int.emod_lt_of_pos x (show (0 : Int) < 2147483647 by decide)
  generalize x % 2147483647 = y at *
  exact in64_bd (by omega) (by omega)
theorem md2 (x : Int) : in64 (x % 2147483629) := by
  have a := Int.emod_nonneg x (show (2147483629 : Int) ≠ 0 by decide)
  have b := Int.emod_lt_of_pos x (show (0 : Int) < 2147483629 by decide)
  generalize x % 2147483629 = y at *
  exact in64_bd (by omega) (by omega)
theorem ints_range (n : Nat) : intsD 0 n = (rangeI n).map D.int := by
  unfold intsD rangeI
  rw [List.map_map]
  apply List.map_congr_left
  intro i _
  simp
theorem erase_map {α β : Type} (f : α → β) : ∀ (l : List α) (i : Nat), (l.map f).eraseIdx i = (l.eraseIdx i).map f
  | [], _ => rfl
  | _ :: _, 0 => rfl
  | a :: l, i + 1 => by
    show f a :: (l.map f).eraseIdx i = f a :: (l.eraseIdx i).map f
    rw [erase_map f l i]
theorem W_gPop {α : Type} {f : α → D} {xs : List α} {i : Int} {Q : D × List D → Prop} (h0 : 0 ≤ i) (h1 : i < xs.length) (h2 : i ≤ 1000000) (h : ∀ x, xs[i.toNat]? = some x → Q (f x, (xs.eraseIdx i.toNat).map f)) : W (gPop (xs.map f) [.int i]) Q := by
  have hl : i.toNat < xs.length := by omega
  unfold gPop
  simp only
  rw [if_pos (in63_bd (by omega) (by omega)), ixN_lt h0 (by simp; omega)]
  have := h _ (List.getElem?_eq_getElem hl)
  rw [← erase_map] at this
  simp [hl]
  exact this
@[simp] theorem u_lr1 {n : Int} : lr1 (.int n) = if RgOk 0 n then some (.lst true (intsD 0 n.toNat)) else none := rfl
theorem atI_int {xs : List Int} {i : Int} (h0 : 0 ≤ i) (h : i < xs.length) : atI (xs.map D.int) i = some (.int (xs[i.toNat]?.getD 0)) := by
  have hl : i.toNat < xs.length := by omega
  rw [atI_map h0 (List.getElem?_eq_getElem hl)]
  simp [hl]
theorem mem_of_split {α : Type} {xs p post : List α} {x : α} (e : xs = p ++ x :: post) : x ∈ xs := by rw [e]; simp
@[simp] theorem fz_intsD {lo : Int} {n : Nat} : fzL (intsD lo n) = true := by
  unfold intsD
  exact u_fzLmap fun _ => u_fzI
@[simp] theorem fr_intsD {lo : Int} {n : Nat} : freezeL (intsD lo n) = intsD lo n := freezeL_fz _ fz_intsD
@[simp] theorem len_intsD {lo : Int} {n : Nat} : (intsD lo n).length = n := by simp [intsD]
theorem W_pick {l : List Int} {x : Int} {n : Int} {Q : D → Prop} (hl : (l.length : Int) = n) (h0 : 0 ≤ x) (h1 : x < n) (h : ∀ y ∈ l, Q (.int y)) : W (atI (l.map D.int) x) Q :=
  W_at h0 (by omega) fun y hy => h y (List.mem_of_getElem? hy)
inductive Tt : Nat → D → Prop
  | int {n : Nat} {i : Int} : Tt (n + 1) (.int i)
  | tup {n : Nat} {ds : List D} : (∀ d ∈ ds, Tt n d) → ds.length ≤ sizeLine → Tt (n + 1) (.tup ds)
theorem Tt.fz : ∀ {n : Nat} {d : D}, Tt n d → VS.fz d = true
  | _, _, .int => u_fzI
  | n + 1, _, .tup h _ => by
    rw [u_fzT, fzL_all, List.all_eq_true]
    intro x hx
    exact (h x hx).fz
theorem Tt.fzL {n : Nat} {ds : List D} (h : ∀ d ∈ ds, Tt n d) : VS.fzL ds = true := by
  rw [fzL_all, List.all_eq_true]
  exact fun x hx => (h x hx).fz
theorem Tt.rD {n : Nat} {r : R3} : Tt (n + 2) (VS.rD r) := .tup (by
  intro d hd
  simp at hd
  rcases hd with rfl | rfl | rfl <;> exact .int) (le_size (by simp))
theorem Tt.webD {n : Nat} {m : Int} {rows : List R3} (h : rows.length ≤ 100000) : Tt (n + 4) (VS.webD m rows) := .tup (by
  intro d hd
  simp at hd
  rcases hd with rfl | rfl
  · exact .int
  · refine .tup ?_ (le_size (by simp; omega))
    intro d hd
    obtain ⟨r, _, rfl⟩ := List.mem_map.mp hd
    exact .rD) (le_size (by simp))
end VS
set_option Elab.async false
set_option linter.all false
set_option maxRecDepth 100000
set_option maxHeartbeats 4000000
noncomputable section
namespace VS
open PySem PySem.Spec L2
@[simp] theorem u_minL {o : Bool} {i j : Int} : gMin [.lst o [.int i, .int j]] = some (.int (min i j)) := rfl
@[simp] theorem u_maxL {o : Bool} {i j : Int} : gMax [.lst o [.int i, .int j]] = some (.int (max i j)) := rfl
@[simp] theorem isa_st1 {x : Str} : gIsa ["str", "tuple"] (.str x) = some (.bl true) := rfl
@[simp] theorem isa_st2 {ds : List D} : gIsa ["str", "tuple"] (.tup ds) = some (.bl true) := rfl
@[simp] theorem isa_ts {x : Str} : gIsa ["tuple"] (.str x) = some (.bl false) := rfl
end VS
set_option Elab.async false
set_option linter.all false
set_option maxRecDepth 100000
set_option maxHeartbeats 4000000
set_option autoImplicit false
noncomputable section
namespace VS
open PySem PySem.Spec L2
section
variable {ρ : Env}
@[simp] theorem W_dEnA {f : M (List D)} {Q : Rv (List D) → Prop} : W (dEnA f ρ) Q ↔ W (f ρ) (bQ (fun ds => optM (enumA ds)) Q) := W_bindM
theorem enumA_1 {x : D} : enumA [x] = if isTp x = true then (if fz (freeze x) = true then (seqE (freeze x)).map enumD else none) else (lstOf (freeze x)).bind fun xs => if fzL xs = true ∧ fz (freeze x) = true then some (enumD xs) else none := rfl
theorem enumA_tup {ds : List D} (h : fzL ds = true) : enumA [.tup ds] = some (enumD ds) := by
  rw [enumA_1, if_pos (show isTp (.tup ds) = true from rfl), freeze_fz _ (by rw [u_fzT]; exact h), if_pos (by rw [u_fzT]; exact h)]
  rfl
theorem enumA_lst {o : Bool} {ds : List D} (h : fzL ds = true) : enumA [.lst o ds] = some (enumD ds) := by
  have e : freeze (.lst o ds) = .lst false ds := by rw [u_frL, freezeL_fz _ h]
  rw [enumA_1, if_neg (show ¬ isTp (.lst o ds) = true by simp [isTp]), e]
  simp [lstOf, h]
theorem enumD_map {α : Type} {f : α → D} {xs : List α} : enumD (xs.map f) = xs.zipIdx.map fun p => .tup [.int (p.2 : Nat), f p.1] := by
  unfold enumD
  apply List.ext_getElem?
  intro i
  by_cases h : i < xs.length
  · simp [h, List.getElem?_range]
  · simp [h]
@[simp] theorem W_dPreS {k : Nat} {g : MS} {Q : Fl × Env → Prop} : W (dPreS k g ρ) Q ↔ nunk ρ[k]? = true ∧ W (g (ρ.set k (freeze (ρ.getD k .unk)))) Q := by
  unfold dPreS
  rw [W_guard]
end
end VS
set_option Elab.async false
set_option linter.all false
set_option maxRecDepth 100000
set_option maxHeartbeats 4000000
set_option autoImplicit false
noncomputable section
namespace VS
open PySem PySem.Spec L2
section
variable {ρ : Env}
def lkQ (i : Nat) (ρ : Env) (Q : Rv D → Prop) (d : D) : Prop := match lockD d with
  | some d' => Q (.ok d' (ρ.set i d'))
  | none => fz d = true ∧ Q (.ok d ρ)
@[simp] theorem W_dLk {i : Nat} {Q : Rv D → Prop} : W (dLk i ρ) Q ↔ oQ (lkQ i ρ Q) ρ[i]? := by
  unfold dLk
  cases ρ[i]? with
  | none => simp
  | some d =>
    simp only [oQ_some, lkQ]
    cases lockD d with
    | some d' => simp
    | none => simp
@[simp] theorem W_dKeys {f : M D} {Q : Rv (List D) → Prop} : W (dKeys f ρ) Q ↔ W (f ρ) (bQ (fun d => optM (keysOf d)) Q) := W_bindM
def lP (ks : List (Int × Int)) (ls : List Int) : D := .lT (ks.map k2) (ls.map D.int)
@[simp] theorem u_isDctlP {ks : List (Int × Int)} {ls : List Int} : isDct (some (lP ks ls)) = true := rfl
@[simp] theorem nu_lP {ks : List (Int × Int)} {ls : List Int} : nunk (some (lP ks ls)) = true := rfl
@[simp] theorem fz_lP {ks : List (Int × Int)} {ls : List Int} : fz (lP ks ls) = true := by unfold lP; rw [fz]; simp
@[simp] theorem fr_lP {ks : List (Int × Int)} {ls : List Int} : freeze (lP ks ls) = lP ks ls := freeze_fz _ fz_lP
@[simp] theorem look_lP {ks : List (Int × Int)} {ls : List Int} {a b : Int} : lookD (lP ks ls) (.tup [.int a, .int b]) = (look ks ls (a, b)).map D.int := by
  unfold lP
  show look (ks.map k2) (ls.map D.int) (k2 (a, b)) = _
  rw [look_k2]
@[simp] theorem keys_lP {ks : List (Int × Int)} {ls : List Int} : keysOf (lP ks ls) = some (ks.map pD) := by
  show (if fzL (ls.map D.int) = true then some ((ks.map k2).map tupK) else none) = _
  rw [if_pos (by simp), List.map_map]
  rfl
@[simp] theorem lkQ_P {i : Nat} {Q : Rv D → Prop} {ks : List (Int × Int)} {ls : List Int} : lkQ i ρ Q (dP true ks ls) ↔ Q (.ok (lP ks ls) (ρ.set i (lP ks ls))) := by
  have e : lockD (dP true ks ls) = some (lP ks ls) := by
    unfold dP lP lockD
    simp
  unfold lkQ
  rw [e]
@[simp] theorem lkQ_lP {i : Nat} {Q : Rv D → Prop} {ks : List (Int × Int)} {ls : List Int} : lkQ i ρ Q (lP ks ls) ↔ Q (.ok (lP ks ls) ρ) := by
  have e : lockD (lP ks ls) = none := rfl
  unfold lkQ
  rw [e]
  simp
end
end VS
set_option Elab.async false
set_option linter.all false
set_option maxRecDepth 100000
set_option maxHeartbeats 4000000
set_option autoImplicit false
noncomputable section
namespace VS
open PySem PySem.Spec L2
section
variable {ρ : Env}
end
end VS
set_option Elab.async false
set_option linter.all false
set_option maxRecDepth 100000
set_option maxHeartbeats 4000000
set_option autoImplicit false
noncomputable section
namespace VS
open PySem PySem.Spec L2
section
variable {ρ : Env}
@[simp] theorem isa8_s_l {s : Str} : gIsa ["list"] (.str s) = some (.bl false) := rfl
@[simp] theorem isa8_s_t {s : Str} : gIsa ["tuple"] (.str s) = some (.bl false) := rfl
@[simp] theorem isa8_s_lt {s : Str} : gIsa ["list", "tuple"] (.str s) = some (.bl false) := rfl
@[simp] theorem isa8_s_tl {s : Str} : gIsa ["tuple", "list"] (.str s) = some (.bl false) := rfl
@[simp] theorem isa8_s_i {s : Str} : gIsa ["int"] (.str s) = some (.bl false) := rfl
@[simp] theorem isa8_s_b {s : Str} : gIsa ["bool"] (.str s) = some (.bl false) := rfl
@[simp] theorem isa8_s_st {s : Str} : gIsa ["str"] (.str s) = some (.bl true) := rfl
@[simp] theorem isa8_s_d {s : Str} : gIsa ["dict"] (.str s) = some (.bl false) := rfl
@[simp] theorem isa8_dT_l {o : Bool} {ks : List (List Key)} {ds : List D} : gIsa ["list"] (.dT o ks ds) = some (.bl false) := rfl
@[simp] theorem isa8_dT_t {o : Bool} {ks : List (List Key)} {ds : List D} : gIsa ["tuple"] (.dT o ks ds) = some (.bl false) := rfl
@[simp] theorem isa8_dT_lt {o : Bool} {ks : List (List Key)} {ds : List D} : gIsa ["list", "tuple"] (.dT o ks ds) = some (.bl false) := rfl
@[simp] theorem isa8_dT_tl {o : Bool} {ks : List (List Key)} {ds : List D} : gIsa ["tuple", "list"] (.dT o ks ds) = some (.bl false) := rfl
@[simp] theorem isa8_dT_i {o : Bool} {ks : List (List Key)} {ds : List D} : gIsa ["int"] (.dT o ks ds) = some (.bl false) := rfl
@[simp] theorem isa8_dT_b {o : Bool} {ks : List (List Key)} {ds : List D} : gIsa ["bool"] (.dT o ks ds) = some (.bl false) := rfl
@[simp] theorem isa8_dT_st {o : Bool} {ks : List (List Key)} {ds : List D} : gIsa ["str"] (.dT o ks ds) = some (.bl false) := rfl
@[simp] theorem isa8_dT_d {o : Bool} {ks : List (List Key)} {ds : List D} : gIsa ["dict"] (.dT o ks ds) = some (.bl true) := rfl
@[simp] theorem isa8_dK_l {o : Bool} {ks : List Key} {ds : List D} : gIsa ["list"] (.dK o ks ds) = some (.bl false) := rfl
@[simp] theorem isa8_dK_t {o : Bool} {ks : List Key} {ds : List D} : gIsa ["tuple"] (.dK o ks ds) = some (.bl false) := rfl
@[simp] theorem isa8_dK_lt {o : Bool} {ks : List Key} {ds : List D} : gIsa ["list", "tuple"] (.dK o ks ds) = some (.bl false) := rfl
@[simp] theorem isa8_dK_tl {o : Bool} {ks : List Key} {ds : List D} : gIsa ["tuple", "list"] (.dK o ks ds) = some (.bl false) := rfl
@[simp] theorem isa8_dK_i {o : Bool} {ks : List Key} {ds : List D} : gIsa ["int"] (.dK o ks ds) = some (.bl false) := rfl
@[simp] theorem isa8_dK_b {o : Bool} {ks : List Key} {ds : List D} : gIsa ["bool"] (.dK o ks ds) = some (.bl false) := rfl
@[simp] theorem isa8_dK_st {o : Bool} {ks : List Key} {ds : List D} : gIsa ["str"] (.dK o ks ds) = some (.bl false) := rfl
@[simp] theorem isa8_dK_d {o : Bool} {ks : List Key} {ds : List D} : gIsa ["dict"] (.dK o ks ds) = some (.bl true) := rfl
@[simp] theorem isa8_i_st {i : Int} : gIsa ["str"] (.int i) = some (.bl false) := rfl
@[simp] theorem isa8_i_d {i : Int} : gIsa ["dict"] (.int i) = some (.bl false) := rfl
@[simp] theorem isa8_b_st {i : Bool} : gIsa ["str"] (.bl i) = some (.bl false) := rfl
@[simp] theorem isa8_b_d {i : Bool} : gIsa ["dict"] (.bl i) = some (.bl false) := rfl
@[simp] theorem isa8_n_st  : gIsa ["str"] (.non) = some (.bl false) := rfl
@[simp] theorem isa8_n_d  : gIsa ["dict"] (.non) = some (.bl false) := rfl
@[simp] theorem isa8_t_st {ds : List D} : gIsa ["str"] (.tup ds) = some (.bl false) := rfl
@[simp] theorem isa8_t_d {ds : List D} : gIsa ["dict"] (.tup ds) = some (.bl false) := rfl
@[simp] theorem isa8_l_st {o : Bool} {ds : List D} : gIsa ["str"] (.lst o ds) = some (.bl false) := rfl
@[simp] theorem isa8_l_d {o : Bool} {ds : List D} : gIsa ["dict"] (.lst o ds) = some (.bl false) := rfl
end
end VS
set_option Elab.async false
set_option linter.all false
set_option maxRecDepth 100000
set_option maxHeartbeats 4000000
set_option autoImplicit false
noncomputable section
namespace VS
open PySem PySem.Spec L2
section
variable {ρ : Env}
@[simp] theorem u_okP {i : Nat} {p : List Int} : okP i p ρ = (getP p (ρ.getD i .unk)).isSome := rfl
end
end VS
set_option Elab.async false
set_option linter.all false
set_option maxRecDepth 100000
set_option maxHeartbeats 4000000
set_option autoImplicit false
noncomputable section
namespace VS
open PySem PySem.Spec L2
section
variable {ρ : Env}
end
end VS
set_option Elab.async false
set_option linter.all false
set_option maxRecDepth 100000
set_option maxHeartbeats 4000000
noncomputable section
namespace VS
open PySem PySem.Spec PyProof.Rows L2
end VS
set_option Elab.async false
set_option linter.all false
set_option maxRecDepth 100000
set_option maxHeartbeats 4000000
set_option autoImplicit false
noncomputable section
namespace VS
open PySem PySem.Spec PyProof.Rows L2
end VS
set_option Elab.async false
set_option linter.all false
set_option maxRecDepth 100000
set_option maxHeartbeats 4000000
set_option autoImplicit false
noncomputable section
namespace VS
open PySem PySem.Spec PyProof.Rows L2
end VS
set_option Elab.async false
set_option linter.all false
set_option maxRecDepth 100000
set_option maxHeartbeats 4000000
set_option autoImplicit false
noncomputable section
namespace VS
open PySem PySem.Spec PyProof.Rows L2
end VS
set_option Elab.async false
set_option linter.all false
set_option maxRecDepth 100000
set_option maxHeartbeats 4000000
set_option autoImplicit false
noncomputable section
namespace VS
open PySem PySem.Spec PyProof.Rows L2
section
variable {ρ : Env} {i j : Nat} {yes : List Str} {Q : Fl × Env → Prop}
@[simp] theorem fz_exo {c : Str} {p : Option (Str × Int)} : fz (.exo c p) = true := by rw [fz]
@[simp] theorem freeze_exo {c : Str} {p : Option (Str × Int)} : freeze (.exo c p) = .exo c p := by rw [freeze]
@[simp] theorem isN_exo {neg : Bool} {c : Str} {p : Option (Str × Int)} : gIsN neg (.exo c p) .non = some (.bl neg) := rfl
@[simp] theorem nunk_exo {c : Str} {p : Option (Str × Int)} : nunk (some (.exo c p)) = true := rfl
end
end VS
set_option Elab.async false
set_option linter.all false
set_option maxRecDepth 100000
set_option maxHeartbeats 4000000
set_option autoImplicit false
noncomputable section
namespace VS
open PySem PySem.Spec PyProof.Rows L2
def nT (x : Int × List Int) : D := .tup [.int x.1, tI x.2]
end VS
set_option Elab.async false
set_option linter.all false
set_option maxRecDepth 100000
set_option maxHeartbeats 4000000
noncomputable section
namespace VS
open PySem PySem.Spec L2
def riQ (c f : Str) (Q : Fl × Env → Prop) : Rv D → Prop
  | .ok (.int n) ρ => Q (.ex ⟨c, some (f, n)⟩, ρ)
  | .ex y ρ => Q (.ex y, ρ)
  | _ => False
@[simp] theorem riQ_int {c f : Str} {Q : Fl × Env → Prop} {n : Int} {ρ : Env} : riQ c f Q (.ok (.int n) ρ) ↔ Q (.ex ⟨c, some (f, n)⟩, ρ) := .rfl
@[simp] theorem riQ_ex {c f : Str} {Q : Fl × Env → Prop} {y : Xc} {ρ : Env} : riQ c f Q (.ex y ρ) ↔ Q (.ex y, ρ) := .rfl
@[simp] theorem W_dRaiseI {c f : Str} {g : M D} {ρ : Env} {Q : Fl × Env → Prop} : W (dRaiseI c f g ρ) Q ↔ W (g ρ) (riQ c f Q) := by
  unfold dRaiseI W
  cases q : g ρ with
  | none => simp
  | some r =>
    cases r with
    | ex y ρ1 => simp
    | ok d ρ1 =>
      cases d <;> simp [riQ]
end VS
set_option Elab.async false
set_option linter.all false
set_option maxRecDepth 100000
set_option maxHeartbeats 4000000
set_option autoImplicit false
noncomputable section
namespace VS
open PySem PySem.Spec L2
section
variable {ρ : Env}
end
end VS
set_option Elab.async false
set_option linter.all false
set_option maxRecDepth 100000
set_option maxHeartbeats 4000000
set_option autoImplicit false
noncomputable section
namespace VS
open PySem PySem.Spec L2
section
variable {ρ : Env}
end
end VS
set_option Elab.async false
set_option linter.all false
set_option maxRecDepth 100000
set_option maxHeartbeats 4000000
set_option autoImplicit false
noncomputable section
namespace VS
open PySem PySem.Spec L2
end VS
set_option Elab.async false
set_option linter.all false
set_option maxRecDepth 100000
set_option maxHeartbeats 4000000
set_option autoImplicit false
noncomputable section
namespace VS
open PySem PySem.Spec L2
end VS
set_option Elab.async false
set_option linter.all false
set_option maxRecDepth 100000
set_option maxHeartbeats 4000000
set_option autoImplicit false
noncomputable section
namespace VS
open PySem PySem.Spec PyProof.Rows L2
section
variable {ρ : Env}
end
end VS
set_option Elab.async false
set_option linter.all false
set_option maxRecDepth 100000
set_option maxHeartbeats 4000000
set_option autoImplicit false
noncomputable section
namespace VS
open PySem PySem.Spec PyProof.Rows L2
section
variable {ρ : Env}
@[simp] theorem W_dFld {a : Addr} {n : Int} {f : M D} {Q : Rv D → Prop} : W (dFld a n f ρ) Q ↔ W (f ρ) (bQ (fun d => optM (fldD a n d)) Q) := W_bindM
@[simp] theorem u_fld {a : Addr} {n : Int} : fldD a n (.adr a) = some (.int n) := if_pos rfl
section
variable {i : Nat} {fl : Str} {yes no : List Str} {suite : Addr → Str → Int → MS} {Q : Fl × Env → Prop}
end
end
end VS
set_option Elab.async false
set_option linter.all false
set_option maxRecDepth 100000
set_option maxHeartbeats 4000000
set_option autoImplicit false
noncomputable section
namespace VS
open PySem PySem.Spec PyProof.Rows L2
section
variable {ρ : Env}
end
end VS
set_option Elab.async false
set_option linter.all false
set_option maxRecDepth 100000
set_option maxHeartbeats 4000000
set_option autoImplicit false
noncomputable section
namespace VS
open PySem PySem.Spec L2
section
variable {ρ : Env} {ns ts : List Str} {tab : Tab} {c f g : Str} {p : Option (Str × Int)} {n : Int} {h : M D} {Q : Rv D → Prop}
end
end VS
set_option Elab.async false
set_option linter.all false
set_option maxRecDepth 100000
set_option maxHeartbeats 4000000
set_option autoImplicit false
noncomputable section
namespace VS
open PySem PySem.Spec L2
section
variable {ρ : Env}
end
end VS
set_option Elab.async false
set_option linter.all false
set_option maxRecDepth 100000
set_option maxHeartbeats 4000000
set_option autoImplicit false
noncomputable section
namespace VS
open PySem PySem.Spec PyProof.Rows L2
section
variable {ρ : Env}
@[simp] theorem W_dChain3 {g g' g'' : D → D → Option D} {a b c d : M D} {Q : Rv D → Prop} : W (dChain3 g g' g'' a b c d ρ) Q ↔ W (a ρ) (bQ (fun x => bindM b fun y => bindM (optM (blO (g x y))) fun k => if k = true then (bindM c fun z => bindM (optM (blO (g' y z))) fun k2 => if k2 = true then (bindM d fun w => optM (g'' z w)) else retM (.bl false)) else retM (.bl false)) Q) := W_bindM
@[simp] theorem u_blO {k : Bool} : blO (some (.bl k)) = some k := rfl
@[simp] theorem W_dFldG {a : Addr} {c f n : Str} {k : Int} {ns : List Str} {g : M D} {Q : Rv D → Prop} : W (dFldG a c f k ns n g ρ) Q ↔ W (g ρ) (bQ (fun d => optM (if f = n ∧ c ∈ ns then fldD a k d else none)) Q) := W_bindM
def tryGQ (i : Nat) (yes no : List Str) (suite : Addr → Str → Str → Int → MS) (Q : Fl × Env → Prop) : Fl × Env → Prop
  | (.ex x, ρ) => if x.c ∈ yes then (match x.p with
      | some (f, n) => W (onAll i (fun a => suite a x.c f n) ρ) Q
      | none => False) else x.c ∈ no ∧ Q (.ex x, ρ)
  | (f, ρ) => Q (f, ρ)
section
variable {i : Nat} {yes no : List Str} {suite : Addr → Str → Str → Int → MS} {Q : Fl × Env → Prop}
@[simp] theorem tryGQ_nx : tryGQ i yes no suite Q (.nx, ρ) ↔ Q (.nx, ρ) := .rfl
@[simp] theorem tryGQ_rt {d : D} : tryGQ i yes no suite Q (.rt d, ρ) ↔ Q (.rt d, ρ) := .rfl
@[simp] theorem tryGQ_bk : tryGQ i yes no suite Q (.bk, ρ) ↔ Q (.bk, ρ) := .rfl
@[simp] theorem tryGQ_ct : tryGQ i yes no suite Q (.ct, ρ) ↔ Q (.ct, ρ) := .rfl
@[simp] theorem tryGQ_ex {c f : Str} {n : Int} : tryGQ i yes no suite Q (.ex ⟨c, some (f, n)⟩, ρ) ↔ if c ∈ yes then W (onAll i (fun a => suite a c f n) ρ) Q else c ∈ no ∧ Q (.ex ⟨c, some (f, n)⟩, ρ) := by
  unfold tryGQ
  simp
@[simp] theorem W_dTryG {body : MS} : W (dTryG i yes no body suite ρ) Q ↔ W (body ρ) (tryGQ i yes no suite Q) := by
  unfold dTryG
  cases h : body ρ with
  | none => simp
  | some r =>
    obtain ⟨f, ρ1⟩ := r
    cases f <;> simp only [W_some] <;> try rfl
    rename_i x
    unfold tryGQ
    obtain ⟨c, p⟩ := x
    by_cases c1 : c ∈ yes
    · simp only [c1, if_true]
      cases p with
      | none => simp
      | some fn =>
        obtain ⟨f, n⟩ := fn
        simp
    · simp only [c1, if_false]
      by_cases c3 : c ∈ no
      · simp [c3]
      · simp [c3]
end
end
end VS
set_option Elab.async false
set_option linter.all false
set_option maxRecDepth 100000
set_option maxHeartbeats 4000000
noncomputable section
namespace G
open PySem PySem.Spec L2 VS
def kp (r : R3) : Int × Int := (r.1, r.2.1)
def lnR (r : R3) : Int := r.2.2
def Conn (many : Int) (rows : List R3) : Prop := ∀ S : Int → Prop, S 0 → (∀ r ∈ rows, S r.1 ↔ S r.2.1) → ∀ x, 0 ≤ x → x < many → S x
def at0 (os : List Int) (i : Nat) : Int := os[i]?.getD 0
def Tree (os : List Int) (rows : List R3) (k : Nat) : Prop := ∀ j, 1 ≤ j → j ≤ k → ∃ i, i < j ∧ (min (at0 os j) (at0 os i), max (at0 os j) (at0 os i)) ∈ rows.map kp
theorem Tree.conn {many : Int} {os : List Int} {rows : List R3} (ho : os.Perm (rangeI many.toNat)) (ht : Tree os rows (os.length - 1)) : Conn many rows := by
  intro S h0 hS
  have key : ∀ j, j < os.length → (S (at0 os j) ↔ S (at0 os 0)) := by
    intro j
    induction j using Nat.strongRecOn with
    | _ j ih =>
      intro hj
      by_cases z : j = 0
      · subst z; rfl
      · obtain ⟨i, hi, hm⟩ := ht j (by omega) (by omega)
        obtain ⟨r, hr, er⟩ := List.mem_map.mp hm
        have e := hS r hr
        simp only [kp, Prod.mk.injEq] at er
        rw [er.1, er.2] at e
        have e2 : S (at0 os j) ↔ S (at0 os i) := by
          by_cases c : at0 os j ≤ at0 os i
          · rw [Int.min_eq_left c, Int.max_eq_right c] at e; exact e
          · rw [Int.min_eq_right (by omega), Int.max_eq_left (by omega)] at e; exact e.symm
        exact e2.trans (ih i hi (by omega))
  have mem : ∀ x, 0 ≤ x → x < many → ∃ j, j < os.length ∧ at0 os j = x := by
    intro x h1 h2
    have hx : x ∈ os := ho.mem_iff.mpr (mem_rangeI.mpr ⟨h1, by omega⟩)
    obtain ⟨j, hj⟩ := List.getElem?_of_mem hx
    exact ⟨j, (List.getElem?_eq_some_iff.mp hj).1, by simp [at0, hj]⟩
  intro x h1 h2
  obtain ⟨j, hj, rfl⟩ := mem x h1 h2
  obtain ⟨i, hi, ei⟩ := mem 0 (by omega) (by omega)
  rw [key j hj, ← key i hi, ei]
  exact h0
theorem os_at {os : List Int} {many : Int} (ho : os.Perm (rangeI many.toNat)) (h1 : 1 ≤ many) (i : Nat) : 0 ≤ at0 os i ∧ at0 os i < many := by
  unfold at0
  cases e : os[i]? with
  | none => simp; omega
  | some x =>
    have hm : x ∈ rangeI many.toNat := ho.mem_iff.mp (List.mem_of_getElem? e)
    have := mem_rangeI.mp hm
    simp
    omega
theorem os_ne {os : List Int} {many : Int} (ho : os.Perm (rangeI many.toNat)) {i j : Nat} (hi : i < os.length) (hj : j < os.length) (h : i ≠ j) : at0 os i ≠ at0 os j := by
  unfold at0
  rw [List.getElem?_eq_getElem hi, List.getElem?_eq_getElem hj]
  simp
  intro e
  exact h ((List.getElem_inj (ho.nodup_iff.mpr (nodup_rangeI _))).mp e)
theorem look_row : ∀ {rows : List R3} {r : R3}, (rows.map kp).Nodup → r ∈ rows → look (rows.map kp) (rows.map lnR) (kp r) = some r.2.2
  | [], r, _, h => by cases h
  | q :: rows, r, nd, h => by
    rw [List.map_cons, List.map_cons, look]
    rcases List.mem_cons.mp h with rfl | h
    · rw [if_pos rfl]; rfl
    · have n := (List.nodup_cons.mp (by rw [← List.map_cons]; exact nd))
      rw [if_neg (fun e => n.1 (by rw [e]; exact List.mem_map_of_mem h))]
      exact look_row n.2 h
theorem rows_sorted {rows : List R3} (nd : (rows.map kp).Nodup) : (sP (rows.map kp)).map (fun p => (p.1, p.2, (look (rows.map kp) (rows.map lnR) p).getD 0)) = sort3 rows := by
  refine (sort3_eq ?_ ?_).symm
  · have e : (rows.map kp).map (fun p => (p.1, p.2, (look (rows.map kp) (rows.map lnR) p).getD 0)) = rows := by
      rw [List.map_map]
      conv => rhs; rw [← List.map_id rows]
      refine List.map_congr_left fun r hr => ?_
      show ((kp r).1, (kp r).2, (look (rows.map kp) (rows.map lnR) (kp r)).getD 0) = r
      rw [look_row nd hr]
      rfl
    have p := ((sP_perm (rows.map kp)).map (fun p => (p.1, p.2, (look (rows.map kp) (rows.map lnR) p).getD 0))).symm
    rw [e] at p
    exact p
  · rw [List.pairwise_map]
    exact (sP_lt nd).imp fun h => leL_r3 h
end G
set_option Elab.async false
set_option linter.all false
set_option maxRecDepth 100000
set_option maxHeartbeats 4000000
noncomputable section
namespace G
open PySem PySem.Spec L2 VS
def dR (o : Bool) (rows : List R3) : D := dP o (rows.map kp) (rows.map lnR)
@[simp] theorem nu_dR {o : Bool} {rows : List R3} : nunk (some (dR o rows)) = true := rfl
@[simp] theorem dct_dR {o : Bool} {rows : List R3} : isDct (some (dR o rows)) = true := rfl
@[simp] theorem fr_dR {o : Bool} {rows : List R3} : freeze (dR o rows) = dR false rows := by unfold dR; simp
@[simp] theorem fz_dR {rows : List R3} : fz (dR false rows) = true := by unfold dR; simp
@[simp] theorem len_dR {o : Bool} {rows : List R3} : lenD (dR o rows) = some rows.length := by unfold dR; simp
theorem look_some {κ α : Type} [DecidableEq κ] (ks : List κ) (as : List α) (k : κ) (h : ks.length = as.length) : (look ks as k).isSome = decide (k ∈ ks) := by
  by_cases e : k ∈ ks
  · obtain ⟨a, ha⟩ := look_mem ks as k h e
    simp [ha, e]
  · simp [look_no ks as k e, e]
theorem putL_new {κ α : Type} [DecidableEq κ] : ∀ (ks : List κ) (as : List α) (k : κ) (a : α), ks.length = as.length → k ∉ ks → putL ks as k a = (ks ++ [k], as ++ [a])
  | [], [], k, a, _, _ => by simp [putL]
  | [], _ :: _, k, a, h, _ => by cases h
  | _ :: _, [], k, a, h, _ => by cases h
  | k' :: ks, x :: as, k, a, h, n => by
    simp at n
    rw [putL, if_neg (fun e => n.1 e.symm), putL_new ks as k a (Nat.succ.inj h) n.2]
    rfl
theorem has_dR {o : Bool} {rows : List R3} {a b : Int} : hasD (dR o rows) (.tup [.int a, .int b]) = some (decide ((a, b) ∈ rows.map kp)) := by
  show some (look ((rows.map kp).map k2) ((rows.map lnR).map D.int) (k2 (a, b))).isSome = _
  rw [look_k2, Option.isSome_map, look_some _ _ _ (by simp)]
  congr 1
  exact decide_eq_decide.mpr Iff.rfl
theorem put_dR {rows : List R3} {a b l : Int} (hs : rows.length < sizeLine) (n : (a, b) ∉ rows.map kp) : VS.putAt (dR true rows) (.tup [.int a, .int b]) (.int l) = some (dR true (rows ++ [(a, b, l)])) := by
  unfold dR
  rw [u_putP, if_pos (by simpa using hs), putL_new _ _ _ _ (by simp) n]
  simp [kp, lnR]
end G
set_option Elab.async false
set_option linter.all false
set_option maxRecDepth 100000
set_option maxHeartbeats 4000000
noncomputable section
namespace G
open PySem PySem.Spec L2 VS
abbrev Hn := R3 × Bool × Bool
def hX (h : Hn) : List Int := if h.2.1 = true then [h.1.2.1, h.1.1, h.1.2.2] else [h.1.1, h.1.2.1, h.1.2.2]
def hD (h : Hn) : D := if h.2.2 = true then .tup ((hX h).map D.int) else .lst false ((hX h).map D.int)
@[simp] theorem fz_hD {h : Hn} : fz (hD h) = true := by unfold hD; split <;> simp
@[simp] theorem fr_hD {h : Hn} : freeze (hD h) = hD h := freeze_fz _ fz_hD
@[simp] theorem nu_hD {h : Hn} : nunk (some (hD h)) = true := by unfold hD; split <;> rfl
theorem isbtw_w {t lo hi : Int} {Q : Fo → Prop} (h : Q (.ok (.bl (decide (lo ≤ t ∧ t ≤ hi))) [.int t, .int lo, .int hi])) : W (F_is_between [.int t, .int lo, .int hi]) Q := by
  by_cases c : lo ≤ t
  · simp [F_is_between, body_is_between, a_is_between, c]
    simpa [c] using h
  · simp [F_is_between, body_is_between, a_is_between, c]
    simpa [c] using h
@[simp] theorem isn_tup {ds : List D} : gIsN false (.tup ds) .non = some (.bl false) := rfl
theorem cutT2 {a b c : D} : cutD [a, b, c] none (some 2) = [a, b] := by rfl
end G
set_option Elab.async false
set_option linter.all false
set_option maxRecDepth 100000
set_option maxHeartbeats 4000000
noncomputable section
namespace G
open PySem PySem.Spec L2 VS
inductive Pt : D → Prop
  | int (i : Int) : Pt (.int i)
  | bl (b : Bool) : Pt (.bl b)
  | non : Pt .non
  | str (x : Str) : Pt (.str x)
  | tup (ds : List D) (h : fzL ds = true) : Pt (.tup ds)
  | lst (ds : List D) (h : fzL ds = true) : Pt (.lst false ds)
def isN : D → Bool
  | .int _ => true
  | _ => false
theorem Pt.fz {d : D} (h : Pt d) : fz d = true := by
  cases h with
  | int i => rfl
  | bl b => rfl
  | non => rfl
  | str x => rfl
  | tup ds h => exact h
  | lst ds h => simpa [VS.fz] using h
@[simp] theorem isa_is {x : Str} : gIsa ["int"] (.str x) = some (.bl false) := rfl
theorem btw_no {d : D} {lo hi : Int} {Q : Fo → Prop} (p : Pt d) (n : isN d = false) (h : Q (.ok (.bl false) [d, .int lo, .int hi])) : W (F_is_between [d, .int lo, .int hi]) Q := by
  have hf := p.fz
  cases p with
  | int i => cases n
  | bl b =>
    have e1 : gIsa ["int"] (.bl b) = some (.bl true) := rfl
    have e2 : gIsa ["bool"] (.bl b) = some (.bl true) := rfl
    simp [F_is_between, body_is_between, a_is_between, e1, e2]
    exact h
  | non =>
    have e1 : gIsa ["int"] .non = some (.bl false) := rfl
    simp [F_is_between, body_is_between, a_is_between, e1]
    exact h
  | str x =>
    have e1 : gIsa ["int"] (.str x) = some (.bl false) := rfl
    simp [F_is_between, body_is_between, a_is_between, e1]
    exact h
  | tup ds hd =>
    have e1 : gIsa ["int"] (.tup ds) = some (.bl false) := rfl
    simp [F_is_between, body_is_between, a_is_between, e1, hf]
    exact h
  | lst ds hd =>
    have e1 : gIsa ["int"] (.lst false ds) = some (.bl false) := rfl
    simp [F_is_between, body_is_between, a_is_between, e1, hf]
    exact h
structure OddD (d : D) : Prop where
  fz : fz d = true
  told : ∀ (many : Int) (Q : Fo → Prop), Q (.ok .non [.int many, d]) → W (F_tie_told [.int many, d]) Q
  tie : ∀ (many : Int) (Q : Fo → Prop), Q (.ok (.bl false) [.int many, d]) → W (F_law_is_tie [.int many, d]) Q
theorem pt_law {d : D} (p : Pt d) : ∃ b1 : Bool, gIsa ["int"] d = some (.bl b1) ∧ ∃ b2 : Bool, gIsa ["bool"] d = some (.bl b2) ∧ (b1 && !b2) = isN d := by
  cases p <;> exact ⟨_, rfl, _, rfl, rfl⟩
theorem all3 {a b c : Bool} : gAll [.lst true [.bl a, .bl b, .bl c]] = some (.bl (a && (b && c))) := by
  cases a <;> cases b <;> cases c <;> rfl
theorem parts_w {many : Int} {d : D} {x y z : D} {Q : List D × VS.Env → Prop} (hx : Pt x) (hy : Pt y) (hz : Pt z) (h : Q ([.bl (isN x), .bl (isN y), .bl (isN z)], [.int many, d, .unk])) :
    W (lcD [2] (gNm 2) dYes (dAnd (dIsa ["int"] (dV 2)) (dNot (dIsa ["bool"] (dV 2)))) [x, y, z] [] [.int many, d, .unk]) Q := by
  obtain ⟨x1, ex1, x2, ex2, ex⟩ := pt_law hx
  obtain ⟨y1, ey1, y2, ey2, ey⟩ := pt_law hy
  obtain ⟨z1, ez1, z2, ez2, ez⟩ := pt_law hz
  have s0 : (0 : Nat) < sizeLine := lt_size (by omega)
  have s1 : (1 : Nat) < sizeLine := lt_size (by omega)
  have s2 : (2 : Nat) < sizeLine := lt_size (by omega)
  rw [← ex, ← ey, ← ez] at h
  cases x1 <;> cases y1 <;> cases z1 <;> simp [W_lc1, ex1, ex2, ey1, ey2, ez1, ez2, hx.fz, hy.fz, hz.fz, s0, s1, s2] at h ⊢ <;> (rw [lcD, W_some]; exact h)
theorem odd3 {x y z : D} (hx : Pt x) (hy : Pt y) (hz : Pt z) (h : isN x = false ∨ isN y = false ∨ isN z = false) : OddD (.tup [x, y, z]) := by
  have f : fz (.tup [x, y, z]) = true := by simp [fz, fzL, hx.fz, hy.fz, hz.fz]
  refine ⟨f, fun many Q q => ?_, fun many Q q => ?_⟩
  · have no : ∀ d : D, isN d = false ∨ ∃ i, d = .int i := fun d => by
      cases d <;> first | exact .inl rfl | exact .inr ⟨_, rfl⟩
    simp [F_tie_told, body_tie_told, a_tie_told, F_is_row, body_is_row, a_is_row, hx.fz, hy.fz, hz.fz, ite_app]
    rcases no x with nx | ⟨i, rfl⟩
    · refine btw_no hx nx ?_
      simp [hx.fz, hy.fz, hz.fz]
      exact q
    · refine isbtw_w ?_
      by_cases c1 : 0 ≤ i ∧ i ≤ many - 1
      · simp [c1, hx.fz, hy.fz, hz.fz]
        rcases no y with ny | ⟨j, rfl⟩
        · refine btw_no hy ny ?_
          simp [hx.fz, hy.fz, hz.fz]
          exact q
        · refine isbtw_w ?_
          by_cases c2 : 0 ≤ j ∧ j ≤ many - 1
          · rcases no z with nz | ⟨k, rfl⟩
            · by_cases c3 : i = j
              · subst c3
                simp [c1, c2, hx.fz, hy.fz, hz.fz]
                exact q
              · simp [c1, c2, c3, hx.fz, hy.fz, hz.fz]
                refine btw_no hz nz ?_
                simp [hx.fz, hy.fz, hz.fz]
                exact q
            · rcases h with h | h | h <;> cases h
          · simp [c1, c2, hx.fz, hy.fz, hz.fz]
            exact q
      · simp [c1, hx.fz, hy.fz, hz.fz]
        exact q
  · simp [F_law_is_tie, body_law_is_tie, a_law_is_tie, hx.fz, hy.fz, hz.fz, ite_app]
    simp only [freeze_fz _ hx.fz, freeze_fz _ hy.fz, freeze_fz _ hz.fz]
    refine ⟨⟨hx.fz, hy.fz, hz.fz⟩, parts_w hx hy hz ?_⟩
    have al := @all3 (isN x) (isN y) (isN z)
    have n : (isN x && (isN y && isN z)) = false := by
      rcases h with h | h | h <;> simp [h]
    rw [n] at al
    simp [al]
    exact q
theorem odd_no {d : D} (f : fz d = true) (h : gIsa ["list", "tuple"] d = some (.bl false)) : OddD d := by
  refine ⟨f, fun many Q q => ?_, fun many Q q => ?_⟩
  · simp [F_tie_told, body_tie_told, a_tie_told, F_is_row, body_is_row, a_is_row, f, h, ite_app]
    exact q
  · simp [F_law_is_tie, body_law_is_tie, a_law_is_tie, f, h, ite_app]
    exact q
theorem odd_len {d : D} {n : Nat} (f : fz d = true) (h : gIsa ["list", "tuple"] d = some (.bl true)) (l : lenD d = some n) (n3 : n ≠ 3) : OddD d := by
  refine ⟨f, fun many Q q => ?_, fun many Q q => ?_⟩
  · have n4 : ¬ (n : Int) = 3 := by omega
    simp [F_tie_told, body_tie_told, a_tie_told, F_is_row, body_is_row, a_is_row, f, h, l, n4, ite_app]
    exact q
  · have n4 : ¬ (n : Int) = 3 := by omega
    simp [F_law_is_tie, body_law_is_tie, a_law_is_tie, f, h, l, n4, ite_app]
    exact q
end G
set_option Elab.async false
set_option linter.all false
set_option maxRecDepth 100000
set_option maxHeartbeats 4000000
noncomputable section
namespace G
open PySem PySem.Spec L2 VS
def bt0 (fs : List Bool) (i : Int) : Bool := fs[i.toNat]?.getD false
def leB (fs gs : List Bool) : Prop := ∀ i : Nat, fs[i]? = some true → gs[i]? = some true
theorem cnt_le : ∀ (fs gs : List Bool), fs.length = gs.length → leB fs gs → fs.count true ≤ gs.count true ∧ (fs.count true = gs.count true → fs = gs)
  | [], [], _, _ => by simp
  | [], _ :: _, h, _ => by cases h
  | _ :: _, [], h, _ => by cases h
  | a :: fs, b :: gs, h, l => by
    obtain ⟨i1, i2⟩ := cnt_le fs gs (Nat.succ.inj h) fun i q => l (i + 1) q
    have l0 := l 0
    cases a <;> cases b <;> simp at l0 ⊢
    · exact ⟨i1, i2⟩
    · exact ⟨by omega, by omega⟩
    · exact ⟨i1, i2⟩
theorem mulF {n : Int} (h0 : 0 ≤ n) (h1 : n ≤ 1000) : gMulA (.lst true [.bl false]) (.int n) = some (.lst true ((List.replicate n.toNat false).map D.bl)) := by
  have h63 : in63 n := ⟨by omega, by omega⟩
  have hs : [D.bl false].length * n.toNat ≤ sizeLine := le_size (by simp; omega)
  show (if in63 n ∧ [D.bl false].length * n.toNat ≤ sizeLine ∧ scAll [D.bl false] = true then some (D.lst true (List.replicate n.toNat [D.bl false]).flatten) else none) = _
  rw [if_pos ⟨h63, hs, rfl⟩]
  congr 2
  generalize n.toNat = k
  induction k with
  | zero => rfl
  | succ k ih => rw [List.replicate_succ, List.replicate_succ, List.flatten_cons, ih]; rfl
theorem at_bl {fs : List Bool} {i : Int} (h0 : 0 ≤ i) (h : i < fs.length) : atI (fs.map D.bl) i = some (.bl (bt0 fs i)) := by
  have hi : i.toNat < fs.length := by omega
  unfold bt0
  rw [List.getElem?_eq_getElem hi]
  exact atI_lt h0 (by simp [hi])
theorem put_bl {fs : List Bool} {i : Int} {b : Bool} (h0 : 0 ≤ i) (h : i < fs.length) : VS.putAt (.lst true (fs.map D.bl)) (.int i) (.bl b) = some (.lst true ((fs.set i.toNat b).map D.bl)) := by
  show (ixN (fs.map D.bl).length i).map (fun j => D.lst true ((fs.map D.bl).set j (.bl b))) = _
  rw [ixN_lt h0 (by simpa using h)]
  simp
end G
set_option Elab.async false
set_option linter.all false
set_option maxRecDepth 100000
set_option maxHeartbeats 4000000
noncomputable section
namespace G
open PySem PySem.Spec L2 VS
def stp (fs : List Bool) (r : R3) : List Bool := if bt0 fs r.1 = true ∨ bt0 fs r.2.1 = true then (fs.set r.1.toNat true).set r.2.1.toNat true else fs
theorem stp_len {fs : List Bool} {r : R3} : (stp fs r).length = fs.length := by
  unfold stp
  split <;> simp
theorem stp_le {fs : List Bool} {r : R3} : leB fs (stp fs r) := by
  intro i h
  unfold stp
  split
  · have hi := (List.getElem?_eq_some_iff.mp h).1
    by_cases c : r.2.1.toNat = i
    · subst c
      rw [List.getElem?_set_self (by simpa using hi)]
    · rw [List.getElem?_set_ne c]
      by_cases c2 : r.1.toNat = i
      · subst c2
        rw [List.getElem?_set_self hi]
      · rw [List.getElem?_set_ne c2]; exact h
  · exact h
theorem fold_len : ∀ (rows : List R3) (fs : List Bool), (rows.foldl stp fs).length = fs.length
  | [], _ => rfl
  | r :: rows, fs => by rw [List.foldl_cons, fold_len rows, stp_len]
theorem fold_le : ∀ (rows : List R3) (fs : List Bool), leB fs (rows.foldl stp fs)
  | [], _ => fun _ h => h
  | r :: rows, fs => fun i h => by
    rw [List.foldl_cons]
    exact fold_le rows _ i (stp_le i h)
theorem at_of {fs : List Bool} {n : Nat} {i : Int} (hl : fs.length = n) (h0 : 0 ≤ i) (h1 : i < n) : fs[i.toNat]? = some (bt0 fs i) := by
  unfold bt0
  have : i.toNat < fs.length := by omega
  rw [List.getElem?_eq_getElem this]
  rfl
theorem stp_both {fs : List Bool} {r : R3} {n : Nat} (hl : fs.length = n) (h0 : 0 ≤ r.1 ∧ r.1 < r.2.1 ∧ r.2.1 < n) (h : bt0 fs r.1 = true ∨ bt0 fs r.2.1 = true) : (stp fs r)[r.1.toNat]? = some true ∧ (stp fs r)[r.2.1.toNat]? = some true := by
  unfold stp
  rw [if_pos h]
  constructor
  · rw [List.getElem?_set_ne (by omega), List.getElem?_set_self (by omega)]
  · rw [List.getElem?_set_self (by simp; omega)]
end G
set_option Elab.async false
set_option linter.all false
set_option maxRecDepth 100000
set_option maxHeartbeats 4000000
noncomputable section
namespace G
open PySem PySem.Spec L2 VS
def SndC (rows : List R3) (fs : List Bool) : Prop := ∀ S : Int → Prop, S 0 → (∀ r ∈ rows, S r.1 ↔ S r.2.1) → ∀ i : Nat, fs[i]? = some true → S i
theorem sndC_0 {rows : List R3} {n : Nat} : SndC rows ((List.replicate n false).set 0 true) := fun S s0 _ i h => by
  by_cases c : i = 0
  · subst c
    exact s0
  · rw [List.getElem?_set_ne (fun z => c z.symm)] at h
    have := List.mem_replicate.mp (List.mem_of_getElem? h)
    cases this.2
theorem sndC_stp {rows : List R3} {r : R3} {fs : List Bool} {n : Nat} (hr : r ∈ rows) (hl : fs.length = n) (en : 0 ≤ r.1 ∧ r.1 < r.2.1 ∧ r.2.1 < n) (h : SndC rows fs) : SndC rows (stp fs r) := fun S s0 hS i hi => by
  unfold stp at hi
  by_cases c : bt0 fs r.1 = true ∨ bt0 fs r.2.1 = true
  · rw [if_pos c] at hi
    have a1 := at_of hl (i := r.1) (by omega) (by omega)
    have a2 := at_of hl (i := r.2.1) (by omega) (by omega)
    have s12 : S r.1 ∧ S r.2.1 := by
      rcases c with c | c
      · rw [c] at a1
        have := h S s0 hS _ a1
        rw [Int.toNat_of_nonneg (by omega)] at this
        exact ⟨this, (hS r hr).mp this⟩
      · rw [c] at a2
        have := h S s0 hS _ a2
        rw [Int.toNat_of_nonneg (by omega)] at this
        exact ⟨(hS r hr).mpr this, this⟩
    by_cases e2 : r.2.1.toNat = i
    · rw [← e2, Int.toNat_of_nonneg (by omega)]
      exact s12.2
    · rw [List.getElem?_set_ne e2] at hi
      by_cases e1 : r.1.toNat = i
      · rw [← e1, Int.toNat_of_nonneg (by omega)]
        exact s12.1
      · rw [List.getElem?_set_ne e1] at hi
        exact h S s0 hS i hi
  · rw [if_neg c] at hi
    exact h S s0 hS i hi
theorem sndC_fold {rows : List R3} {many : Int} : ∀ (p : List R3), (∀ r ∈ p, r ∈ rows) → ∀ (fs : List Bool), (fs.length : Int) = many → (∀ r ∈ rows, 0 ≤ r.1 ∧ r.1 < r.2.1 ∧ r.2.1 < many) → SndC rows fs → SndC rows (p.foldl stp fs)
  | [], _, _, _, _, h => h
  | r :: p, hp, fs, hl, en, h => by
    rw [List.foldl_cons]
    have er := en r (hp r List.mem_cons_self)
    exact sndC_fold p (fun q hq => hp q (List.mem_cons_of_mem _ hq)) (stp fs r) (by rw [stp_len]; exact hl) en (sndC_stp (hp r List.mem_cons_self) rfl (by omega) h)
end G
set_option Elab.async false
set_option linter.all false
set_option maxRecDepth 100000
set_option maxHeartbeats 4000000
noncomputable section
namespace G
open PySem PySem.Spec L2 VS
def Rc (rows : List R3) (x : Int) : Prop := ∀ S : Int → Prop, S 0 → (∀ r ∈ rows, S r.1 ↔ S r.2.1) → S x
theorem fix_closed {many : Int} {rows : List R3} {fs : List Bool} (en : ∀ r ∈ rows, 0 ≤ r.1 ∧ r.1 < r.2.1 ∧ r.2.1 < many) (hl : fs.length = many.toNat) (e : rows.foldl stp fs = fs) (r : R3) (hr : r ∈ rows) : fs[r.1.toNat]? = some true ↔ fs[r.2.1.toNat]? = some true := by
  obtain ⟨p, q, rfl⟩ := List.append_of_mem hr
  have er := en r hr
  rw [List.foldl_append, List.foldl_cons] at e
  have l1 := fold_le p fs
  have hml : (p.foldl stp fs).length = many.toNat := by rw [fold_len]; exact hl
  have l2 := fold_le q (stp (p.foldl stp fs) r)
  rw [e] at l2
  have both : bt0 (p.foldl stp fs) r.1 = true ∨ bt0 (p.foldl stp fs) r.2.1 = true → fs[r.1.toNat]? = some true ∧ fs[r.2.1.toNat]? = some true := fun z => by
    obtain ⟨z1, z2⟩ := stp_both (n := many.toNat) hml (by omega) z
    exact ⟨l2 _ z1, l2 _ z2⟩
  constructor
  · intro z
    refine (both (.inl ?_)).2
    unfold bt0
    rw [l1 _ z]; rfl
  · intro z
    refine (both (.inr ?_)).1
    unfold bt0
    rw [l1 _ z]; rfl
theorem pass_fix {rows : List R3} {fs : List Bool} : rows.foldl stp fs = fs ∨ fs.count true < (rows.foldl stp fs).count true := by
  by_cases e : rows.foldl stp fs = fs
  · exact .inl e
  · obtain ⟨c1, c2⟩ := cnt_le fs (rows.foldl stp fs) (fold_len _ _).symm (fold_le _ _)
    have : fs.count true ≠ (rows.foldl stp fs).count true := fun z => e (c2 z).symm
    exact .inr (by omega)
theorem fix_rc {many : Int} {rows : List R3} {fs : List Bool} (en : ∀ r ∈ rows, 0 ≤ r.1 ∧ r.1 < r.2.1 ∧ r.2.1 < many) (hl : fs.length = many.toNat) (h0 : fs[0]? = some true) (sd : SndC rows fs) (e : rows.foldl stp fs = fs) (x : Int) (x0 : 0 ≤ x) : fs[x.toNat]? = some true ↔ Rc rows x := by
  constructor
  · intro h S s0 hS
    have := sd S s0 hS x.toNat h
    rwa [Int.toNat_of_nonneg x0] at this
  · intro h
    exact h (fun x => fs[x.toNat]? = some true) (by simpa using h0) fun r hr => fix_closed en hl e r hr
theorem come3_w {many : Int} {rows : List R3} {Q : Fo → Prop} (h1 : 1 ≤ many) (h2 : many ≤ 60) (en : ∀ r ∈ rows, 0 ≤ r.1 ∧ r.1 < r.2.1 ∧ r.2.1 < many)
    (h : ∀ fs : List Bool, fs.length = many.toNat → (∀ x : Int, 0 ≤ x → (fs[x.toNat]? = some true ↔ Rc rows x)) → Q (.ok (.lst true (fs.map D.bl)) [.int many, .tup (rows.map rD)])) : W (F_places_come [.int many, .tup (rows.map rD)]) Q := by
  have hR := inR_le (show 0 ≤ many by omega) (by omega)
  have p0 : VS.putAt (.lst true ((List.replicate many.toNat false).map D.bl)) (.int 0) (.bl true) = some (.lst true (((List.replicate many.toNat false).set 0 true).map D.bl)) := put_bl (by omega) (by simp; omega)
  simp only [List.map_replicate] at p0
  simp [F_places_come, body_places_come, a_places_come, mulF (show 0 ≤ many by omega) (by omega), hR, p0]
  refine W_forN (fun k ρ => ∃ (fs : List Bool) (a b c d : D), ρ = [.int many, .tup (rows.map rD), .lst true (fs.map D.bl), a, b, c, d] ∧ fs.length = many.toNat ∧ fs[0]? = some true ∧ SndC rows fs ∧ (rows.foldl stp fs = fs ∨ k + 1 ≤ fs.count true)) ⟨(List.replicate many.toNat false).set 0 true, .unk, .unk, .unk, .unk, by simp, by simp, List.getElem?_set_self (by rw [List.length_replicate]; omega), sndC_0, .inr ?_⟩ ?_ ?_
  · obtain ⟨m, hm⟩ : ∃ m, many.toNat = m + 1 := ⟨many.toNat - 1, by omega⟩
    rw [hm, List.replicate_succ]
    simp
  · rintro k ρ hk ⟨fs, a, b, c, d, rfl, hl, h0, sd, hc⟩ J hJ
    simp
    refine W_forL (fun p ρ => ∃ (a b c d : D), ρ = [.int many, .tup (rows.map rD), .lst true ((p.foldl stp fs).map D.bl), a, b, c, d]) ⟨_, _, _, _, rfl⟩ ?_ ?_
    · rintro p r post ρ e ⟨a, b, c, d, rfl⟩ J2 hJ2
      have er := en r (mem_of_split e)
      have hpl : (p.foldl stp fs).length = many.toNat := by rw [fold_len]; exact hl
      have a1 := at_bl (fs := p.foldl stp fs) (i := r.1) (by omega) (by omega)
      have a2 := at_bl (fs := p.foldl stp fs) (i := r.2.1) (by omega) (by omega)
      have e1 := ixN_lt (n := (p.foldl stp fs).length) (i := r.1) (by omega) (by omega)
      have e2 := ixN_lt (n := (p.foldl stp fs).length) (i := r.2.1) (by omega) (by omega)
      have fin : stp (p.foldl stp fs) r = (p ++ [r]).foldl stp fs := by simp
      by_cases c1 : bt0 (p.foldl stp fs) r.1 = true
      · have es : stp (p.foldl stp fs) r = ((p.foldl stp fs).set r.1.toNat true).set r.2.1.toNat true := if_pos (.inl c1)
        simp [a1, c1, e1, e2, ite_app]
        rw [← List.map_set, ← List.map_set, ← es, fin]
        exact hJ2 _ ⟨_, _, _, _, rfl⟩
      · by_cases c2 : bt0 (p.foldl stp fs) r.2.1 = true
        · have es : stp (p.foldl stp fs) r = ((p.foldl stp fs).set r.1.toNat true).set r.2.1.toNat true := if_pos (.inr c2)
          simp [a1, a2, c1, c2, e1, e2, ite_app]
          rw [← List.map_set, ← List.map_set, ← es, fin]
          exact hJ2 _ ⟨_, _, _, _, rfl⟩
        · have es : stp (p.foldl stp fs) r = p.foldl stp fs := if_neg (fun z => z.elim c1 c2)
          simp [a1, a2, c1, c2, ite_app]
          rw [show p.foldl stp fs = (p ++ [r]).foldl stp fs from es.symm.trans fin]
          exact hJ2 _ ⟨_, _, _, _, rfl⟩
    · rintro ρ ⟨a, b, c, d, rfl⟩
      refine hJ _ ⟨rows.foldl stp fs, _, _, _, _, rfl, by rw [fold_len]; exact hl, fold_le rows fs 0 h0, sndC_fold rows (fun r hr => hr) fs (by omega) en sd, ?_⟩
      rcases pass_fix (rows := rows) (fs := fs) with e | e
      · left
        rw [e, e]
      · rcases hc with hc | hc
        · left
          rw [hc, hc]
        · right
          omega
  · rintro ρ ⟨fs, a, b, c, d, rfl, hl, h0, sd, hc⟩
    have fx : rows.foldl stp fs = fs := by
      rcases hc with hc | hc
      · exact hc
      · have := List.count_le_length (a := true) (l := fs)
        omega
    have hh := h fs hl fun x x0 => fix_rc en hl h0 sd fx x x0
    simp
    exact hh
end G
set_option Elab.async false
set_option linter.all false
set_option maxRecDepth 100000
set_option maxHeartbeats 4000000
noncomputable section
namespace G
open PySem PySem.Spec L2 VS
theorem dats_bools : ∀ fs : List Bool, dats (fs.map D.bl) = some (fs.map PyData.bool)
  | [] => by simp [dats]
  | b :: fs => by rw [List.map_cons, dats, dats_bools fs, dat]; rfl
theorem bools_shaped (fs : List Bool) : SeqAt.shaped (.list (fs.map PyData.bool)) = true := by
  have lay : ∀ fs : List Bool, PyData.canLayAll0 (fs.map PyData.bool) = true ∧ PyData.depthAll (fs.map PyData.bool) ≤ 1 := by
    intro fs
    induction fs with
    | nil => simp [PyData.canLayAll0, PyData.depthAll]
    | cons b fs ih =>
      rw [List.map_cons, PyData.canLayAll0, PyData.depthAll, ih.1]
      refine ⟨by simp [PyData.canLay0], ?_⟩
      have := ih.2
      simp [PyData.depth]
      omega
  have := (lay fs).2
  unfold SeqAt.shaped
  rw [PyData.canLay0, (lay fs).1, Bool.true_and, decide_eq_true_eq, PyData.depth]
  omega
theorem in_bools {fs : List Bool} {o neg : Bool} (hl : fs.length ≤ 100) : gIn neg (.bl false) (.lst o (fs.map D.bl)) = some (.bl (if neg = true then !decide (false ∈ fs) else decide (false ∈ fs))) := by
  have e : dat (.lst o (fs.map D.bl)) = some (.list (fs.map PyData.bool)) := by rw [dat, dats_bools]; rfl
  have e2 : dat (.bl false) = some (.bool false) := by rw [dat]
  have sb := bools_shaped fs
  have sa : SeqAt.shaped (.bool false) = true := by rfl
  have an : ((fs.map PyData.bool).any fun z => PyData.eqv z (.bool false)) = decide (false ∈ fs) := by
    clear e sb hl
    induction fs with
    | nil => simp
    | cons b fs ih =>
      rw [List.map_cons, List.any_cons, ih]
      cases b <;> simp [PyData.eqv]
  unfold gIn VS.inB
  rw [e2, e]
  simp only [sa, sb, and_self, if_true, an]
  rfl
end G
set_option Elab.async false
set_option linter.all false
set_option maxRecDepth 100000
set_option maxHeartbeats 4000000
noncomputable section
namespace G
open PySem PySem.Spec L2 VS
inductive Th where
  | row (l : Bool) (a b n : Int)
  | odd (d : D)
def thD : Th → D
  | .row l a b n => if l = true then .lst false [.int a, .int b, .int n] else .tup [.int a, .int b, .int n]
  | .odd d => d
def Th.wf : Th → Prop
  | .row _ _ _ _ => True
  | .odd d => OddD d
def tt (many : Int) : Th → Option R3
  | .row _ a b n => if (0 ≤ min a b ∧ a ≠ b ∧ max a b < many) ∧ 1 ≤ n ∧ n ≤ 1000000000000000000000000000000 then some (min a b, max a b, n) else none
  | .odd _ => none
theorem tt_pos {many : Int} {l : Bool} {a b n : Int} (c : (0 ≤ min a b ∧ a ≠ b ∧ max a b < many) ∧ 1 ≤ n ∧ n ≤ 1000000000000000000000000000000) : tt many (.row l a b n) = some (min a b, max a b, n) := if_pos c
theorem tt_neg {many : Int} {l : Bool} {a b n : Int} (c : ¬ ((0 ≤ min a b ∧ a ≠ b ∧ max a b < many) ∧ 1 ≤ n ∧ n ≤ 1000000000000000000000000000000)) : tt many (.row l a b n) = none := if_neg c
def ttD : Option R3 → D
  | none => .non
  | some r => rD r
theorem fz_thD {t : Th} (h : t.wf) : fz (thD t) = true := by
  cases t with
  | row l a b n => cases l <;> rfl
  | odd d => exact h.fz
theorem tt_ok {many : Int} {t : Th} {r : R3} (h : tt many t = some r) : (0 ≤ r.1 ∧ r.1 < r.2.1 ∧ r.2.1 < many) ∧ 1 ≤ r.2.2 ∧ r.2.2 ≤ 1000000000000000000000000000000 := by
  cases t with
  | row l a b n =>
    by_cases c : (0 ≤ min a b ∧ a ≠ b ∧ max a b < many) ∧ 1 ≤ n ∧ n ≤ 1000000000000000000000000000000
    · rw [tt_pos c] at h
      have := Option.some.inj h
      subst this
      refine ⟨?_, c.2⟩
      simp only
      omega
    · rw [tt_neg c] at h; cases h
  | odd d => cases h
theorem told3_w {many : Int} {t : Th} {Q : Fo → Prop} (wf : t.wf) (h : Q (.ok (ttD (tt many t)) [.int many, thD t])) : W (F_tie_told [.int many, thD t]) Q := by
  cases t with
  | odd d => exact wf.told many Q h
  | row l a b n =>
    have key : ∀ d : D, thD (.row l a b n) = d → fz d = true → gIsa ["list", "tuple"] d = some (.bl true) → lenD d = some 3 → seqOf d = some [.int a, .int b, .int n] → W (F_tie_told [.int many, thD (.row l a b n)]) Q := by
      intro d e f1 f2 f3 f4
      rw [e] at h ⊢
      by_cases c1 : 0 ≤ a ∧ a ≤ many - 1
      · by_cases c2 : 0 ≤ b ∧ b ≤ many - 1
        · by_cases c3 : a = b
          · have : tt many (.row l a b n) = none := tt_neg (fun z => z.1.2.1 c3)
            rw [this] at h
            simp [F_tie_told, body_tie_told, a_tie_told, F_is_row, body_is_row, a_is_row, f1, f2, f3, f4, ite_app]
            refine isbtw_w ?_
            simp [c1]
            refine isbtw_w ?_
            simp [c2, c3]
            exact h
          · by_cases c4 : 1 ≤ n ∧ n ≤ 1000000000000000000000000000000
            · have : tt many (.row l a b n) = some (min a b, max a b, n) := tt_pos ⟨⟨by omega, c3, by omega⟩, c4⟩
              rw [this] at h
              simp [F_tie_told, body_tie_told, a_tie_told, F_is_row, body_is_row, a_is_row, f1, f2, f3, f4, ite_app]
              refine isbtw_w ?_
              simp [c1]
              refine isbtw_w ?_
              simp [c2, c3]
              refine isbtw_w ?_
              simp [c4]
              exact h
            · have : tt many (.row l a b n) = none := tt_neg (fun z => c4 z.2)
              rw [this] at h
              simp [F_tie_told, body_tie_told, a_tie_told, F_is_row, body_is_row, a_is_row, f1, f2, f3, f4, ite_app]
              refine isbtw_w ?_
              simp [c1]
              refine isbtw_w ?_
              simp [c2, c3]
              refine isbtw_w ?_
              simp [c4]
              exact h
        · have : tt many (.row l a b n) = none := tt_neg (fun z => by omega)
          rw [this] at h
          simp [F_tie_told, body_tie_told, a_tie_told, F_is_row, body_is_row, a_is_row, f1, f2, f3, f4, ite_app]
          refine isbtw_w ?_
          simp [c1]
          refine isbtw_w ?_
          simp [c2]
          exact h
      · have : tt many (.row l a b n) = none := tt_neg (fun z => by omega)
        rw [this] at h
        simp [F_tie_told, body_tie_told, a_tie_told, F_is_row, body_is_row, a_is_row, f1, f2, f3, f4, ite_app]
        refine isbtw_w ?_
        simp [c1]
        exact h
    cases l
    · exact key _ rfl rfl rfl rfl rfl
    · exact key _ rfl rfl rfl rfl rfl
def scan (many : Int) : List Th → Nat → List R3 → Sum Nat (List R3)
  | [], _, held => .inr held
  | t :: ts, n, held => match tt many t with
    | none => .inl n
    | some r => if n = 220 ∨ kp r ∈ held.map kp then .inl n else scan many ts (n + 1) (held ++ [r])
structure Hk (many : Int) (rows : List R3) : Prop where
  nd : (rows.map kp).Nodup
  en : ∀ r ∈ rows, 0 ≤ r.1 ∧ r.1 < r.2.1 ∧ r.2.1 < many
  ln : ∀ r ∈ rows, 1 ≤ r.2.2 ∧ r.2.2 ≤ 1000000000000000000000000000000
  le : rows.length ≤ 220
theorem Hk.nil {many : Int} : Hk many [] := ⟨by simp, by simp, by simp, by simp⟩
theorem Hk.add {many : Int} {rows : List R3} {r : R3} {t : Th} (h : Hk many rows) (e : tt many t = some r) (n : kp r ∉ rows.map kp) (l : rows.length ≠ 220) : Hk many (rows ++ [r]) := by
  obtain ⟨o1, o2⟩ := tt_ok e
  refine ⟨?_, ?_, ?_, ?_⟩
  · rw [List.map_append]
    refine List.nodup_append.mpr ⟨h.nd, by simp, ?_⟩
    intro x hx y hy ee
    simp at hy
    subst ee
    subst hy
    exact n hx
  · intro q hq
    rcases List.mem_append.mp hq with hq | hq
    · exact h.en q hq
    · rw [List.mem_singleton] at hq
      subst hq
      exact o1
  · intro q hq
    rcases List.mem_append.mp hq with hq | hq
    · exact h.ln q hq
    · rw [List.mem_singleton] at hq
      subst hq
      exact o2
  · have := h.le
    simp
    omega
def LeastA (many : Int) (rows : List R3) (p : Int) : Prop := 0 ≤ p ∧ p < many ∧ ¬ Rc rows p ∧ ∀ q, 0 ≤ q → q < p → Rc rows q
theorem rc_perm {rows rows' : List R3} (h : ∀ r, r ∈ rows ↔ r ∈ rows') {x : Int} : Rc rows x ↔ Rc rows' x := ⟨fun c S s0 hS => c S s0 fun r hr => hS r ((h r).mp hr), fun c S s0 hS => c S s0 fun r hr => hS r ((h r).mpr hr)⟩
theorem idx_false2 {fs : List Bool} {o : Bool} (h : false ∈ fs) (hl : fs.length ≤ 100) : ∃ n : Nat, n < fs.length ∧ fs[n]? = some false ∧ (∀ k, k < n → fs[k]? = some true) ∧ idxD (.lst o (fs.map D.bl)) (.bl false) = some (.int n) := by
  have key : ∀ l : List Bool, false ∈ l → ∃ j : Nat, j < l.length ∧ l[j]? = some false ∧ (∀ k, k < j → l[k]? = some true) ∧ idxP (.bool false) (l.map PyData.bool) = some j := by
    intro l
    induction l with
    | nil => intro h; cases h
    | cons a l ih =>
      intro h
      rw [List.map_cons, idxP]
      cases a with
      | false => exact ⟨0, by simp, rfl, fun k hk => by omega, by rw [if_pos]; simp [PyData.eqv]⟩
      | true =>
        rcases List.mem_cons.mp h with q | q
        · cases q
        · obtain ⟨j, h0, h1, h2, h3⟩ := ih q
          refine ⟨j + 1, by simp; omega, by simpa using h1, fun k hk => ?_, by rw [if_neg (by simp [PyData.eqv]), h3]; rfl⟩
          cases k with
          | zero => rfl
          | succ k => simpa using h2 k (by omega)
  obtain ⟨j, h0, h1, h2, h3⟩ := key fs h
  refine ⟨j, h0, h1, h2, ?_⟩
  have sb := bools_shaped fs
  have sa : SeqAt.shaped (.bool false) = true := by rfl
  unfold idxD
  simp only [u_lstL, dats_bools, dat]
  rw [if_pos ⟨sb, sa⟩, h3]
  rfl
theorem isn_non : gIsN false .non .non = some (.bl true) := rfl
theorem made3_w {many : Int} {x : D} {ts : List Th} {Q : Fo → Prop} (hx : x = .tup (ts.map thD) ∨ x = .lst false (ts.map thD)) (h1 : 1 ≤ many) (h2 : many ≤ 60) (wf : ∀ t ∈ ts, t.wf)
    (hb : ∀ n : Nat, scan many ts 0 [] = .inl n → Q (.ex ⟨"BadWeb", some ("at", n)⟩ [.int many, x]))
    (ha : ∀ rows, scan many ts 0 [] = .inr rows → Hk many rows → ∀ p : Int, LeastA many rows p → Q (.ex ⟨"Apart", some ("place", p)⟩ [.int many, x]))
    (ho : ∀ rows, scan many ts 0 [] = .inr rows → Hk many rows → (∀ q, 0 ≤ q → q < many → Rc rows q) → Q (.ok (webD many (sort3 rows)) [.int many, x])) : W (F_made_web [.int many, x]) Q := by
  have fl : fzL (ts.map thD) = true := by
    rw [fzL_all, List.all_eq_true]
    intro d hd
    obtain ⟨t, ht, rfl⟩ := List.mem_map.mp hd
    exact fz_thD (wf t ht)
  have fzx : fz x = true := by rcases hx with rfl | rfl <;> simp [fz, fl]
  have frx := freeze_fz _ fzx
  have nux : nunk (some x) = true := by rcases hx with rfl | rfl <;> rfl
  have isx : gIsa ["list", "tuple"] x = some (.bl true) := by rcases hx with rfl | rfl <;> rfl
  have enx : enumA [x] = some (ts.zipIdx.map fun p => .tup [.int (p.2 : Nat), thD p.1]) := by
    rw [← enumD_map]
    rcases hx with rfl | rfl
    · exact enumA_tup fl
    · exact enumA_lst fl
  clear hx
  simp [F_made_web, body_made_web, a_made_web, F_is_row, body_is_row, a_is_row, fzx, isx]
  refine isbtw_w ?_
  simp [h1, h2, isx, fzx, ite_app, enx]
  refine W_forL (fun p ρ => ∃ (rows : List R3) (a b c : D), ρ = [.int many, x, dR true rows, a, b, .unk, .unk, c, .unk, .unk] ∧ Hk many rows ∧ rows.length = p.length ∧ scan many ts 0 [] = scan many (ts.drop p.length) p.length rows) ⟨[], _, _, _, rfl, .nil, rfl, rfl⟩ ?_ ?_
  · rintro p ⟨y, n⟩ post ρ e ⟨rows, a, b, c, rfl, hk, hl, hs⟩ J hJ
    have hn : ts[p.length]? = some y ∧ n = p.length := by
      have : ts.zipIdx[p.length]? = some (y, n) := by rw [e]; simp
      rw [List.getElem?_zipIdx] at this
      cases q : ts[p.length]? with
      | none => rw [q] at this; cases this
      | some z =>
        rw [q] at this
        simp at this
        exact ⟨by rw [this.1], this.2.symm⟩
    obtain ⟨hy, rfl⟩ := hn
    have hpl : p.length < ts.length := (List.getElem?_eq_some_iff.mp hy).1
    have hd : ts.drop p.length = y :: ts.drop (p.length + 1) := by
      rw [List.drop_eq_getElem_cons hpl]
      congr 1
      have := List.getElem?_eq_getElem hpl
      rw [hy] at this
      exact (Option.some.inj this).symm
    have wy := wf y (List.mem_of_getElem? hy)
    have fy := fz_thD wy
    rw [hd, scan] at hs
    simp [fy]
    refine told3_w wy ?_
    cases et : tt many y with
    | none =>
      rw [et] at hs
      simp [ttD, isn_non, fy, ite_app]
      exact hb _ hs
    | some r =>
      rw [et] at hs
      simp only at hs
      simp [ttD, fy, rD, cutT2, has_dR, ite_app]
      by_cases c1 : p.length = 220
      · rw [if_pos (.inl c1)] at hs
        have c2 : (p.length : Int) = 220 := by omega
        simp [c2]
        have := hb _ hs
        rw [c1] at this
        exact this
      · have c2 : ¬ (p.length : Int) = 220 := by omega
        by_cases c3 : kp r ∈ rows.map kp
        · rw [if_pos (.inr c3)] at hs
          have c4 : (r.1, r.2.1) ∈ rows.map kp := c3
          simp only [List.mem_map] at c4
          simp [c2, c4, cutT2, has_dR]
          exact hb _ hs
        · rw [if_neg (fun z => z.elim c1 c3)] at hs
          have c4 : (r.1, r.2.1) ∉ rows.map kp := c3
          have hp2 := put_dR (rows := rows) (a := r.1) (b := r.2.1) (l := r.2.2) (lt_size (by have := hk.le; omega)) c4
          simp only [List.mem_map] at c4
          simp [c2, c4, hp2, cutT2, has_dR]
          exact hJ _ ⟨rows ++ [r], _, _, _, rfl, hk.add et c3 (by omega), by simp; omega, by simpa using hs⟩
  · rintro ρ ⟨rows, a, b, c, rfl, hk, hl, hs⟩
    have hs : scan many ts 0 [] = .inr rows := by
      rw [hs]
      have : ts.drop ts.zipIdx.length = [] := by simp
      rw [this]
      rfl
    have nd := hk.nd
    have hs2 := hk.le
    have es : gSorted [dR false rows] = some (.lst true ((sP (rows.map kp)).map pD)) := by
      unfold dR
      rw [u_sortP (le_size (by simp; omega)), pD_tI]
    simp [es]
    refine W_lcAll (fun p => rD (p.1, p.2, (look (rows.map kp) (rows.map lnR) p).getD 0)) (le_size (by rw [(sP_perm _).length_eq]; simp; omega)) ?_ ?_
    · intro p hp J acc hj
      have hk : p ∈ rows.map kp := (sP_perm _).mem_iff.mp hp
      obtain ⟨r, hr, rfl⟩ := List.mem_map.mp hk
      have e := look_row nd hr
      simp [dR, u_lookP]
      rw [show ((kp r).1, (kp r).2) = kp r from rfl, e]
      simp [rD_def]
      rw [e] at hj
      exact hj
    · have e : (sP (rows.map kp)).map (fun p => rD (p.1, p.2, (look (rows.map kp) (rows.map lnR) p).getD 0)) = (sort3 rows).map rD := by
        rw [← rows_sorted nd, List.map_map]
        rfl
      rw [e]
      simp
      refine come3_w h1 h2 (fun r hr => hk.en r ((sort3_perm _).mem_iff.mp hr)) fun fs fl iff => ?_
      have iff2 : ∀ y : Int, 0 ≤ y → (fs[y.toNat]? = some true ↔ Rc rows y) := fun y y0 => (iff y y0).trans (rc_perm fun r => (sort3_perm _).mem_iff)
      have inf := fun neg => @in_bools fs true neg (by omega)
      by_cases c : false ∈ fs
      · obtain ⟨n, n0, n1, n2, hn⟩ := idx_false2 (o := true) c (by omega)
        have i1 : isLst (some (D.lst true (fs.map D.bl))) = true := rfl
        simp [inf, c, ite_app, hn, i1]
        refine ha rows hs hk n ⟨by omega, by omega, fun z => ?_, fun q q0 q1 => (iff2 q q0).mp (n2 q.toNat (by omega))⟩
        have := (iff2 n (by omega)).mpr z
        simp at this
        rw [n1] at this
        cases this
      · simp [inf, c, ite_app]
        refine ho rows hs hk fun q q0 q1 => (iff2 q q0).mp ?_
        have hq : q.toNat < fs.length := by omega
        rw [List.getElem?_eq_getElem hq]
        cases hb : fs[q.toNat] with
        | true => rfl
        | false => exact absurd (hb ▸ List.getElem_mem hq) c
end G
set_option Elab.async false
set_option linter.all false
set_option maxRecDepth 100000
set_option maxHeartbeats 4000000
noncomputable section
namespace G
open PySem PySem.Spec L2 VS
end G
set_option Elab.async false
set_option linter.all false
set_option maxRecDepth 100000
set_option maxHeartbeats 4000000
noncomputable section
namespace G
open PySem PySem.Spec L2 VS
def lR (rows : List R3) : D := lP (rows.map kp) (rows.map lnR)
@[simp] theorem nu_lR {rows : List R3} : nunk (some (lR rows)) = true := rfl
@[simp] theorem dct_lR {rows : List R3} : isDct (some (lR rows)) = true := rfl
@[simp] theorem fz_lR {rows : List R3} : fz (lR rows) = true := by unfold lR; simp
@[simp] theorem keys_lR {rows : List R3} : keysOf (lR rows) = some ((rows.map kp).map pD) := by unfold lR; rw [keys_lP]
@[simp] theorem lkQ_R {i : Nat} {ρ : VS.Env} {Q : Rv D → Prop} {rows : List R3} : lkQ i ρ Q (dR true rows) ↔ Q (.ok (lR rows) (ρ.set i (lR rows))) := by unfold dR lR; rw [lkQ_P]
end G
set_option Elab.async false
set_option linter.all false
set_option maxRecDepth 100000
set_option maxHeartbeats 4000000
noncomputable section
namespace G
open PySem PySem.Spec L2 VS
theorem istie_w {many : Int} {t : Th} {Q : Fo → Prop} (wf : t.wf) (h : Q (.ok (.bl (tt many t).isSome) [.int many, thD t])) : W (F_law_is_tie [.int many, thD t]) Q := by
  cases t with
  | odd d => exact wf.tie many Q h
  | row l a b n =>
    have hb : (tt many (.row l a b n)).isSome = decide ((0 ≤ min a b ∧ a ≠ b ∧ max a b < many) ∧ 1 ≤ n ∧ n ≤ 1000000000000000000000000000000) := by
      by_cases c : (0 ≤ min a b ∧ a ≠ b ∧ max a b < many) ∧ 1 ≤ n ∧ n ≤ 1000000000000000000000000000000
      · rw [tt_pos c, decide_eq_true c]; rfl
      · rw [tt_neg c, decide_eq_false c]; rfl
    have key : ∀ d s : D, thD (.row l a b n) = d → fz d = true → gIsa ["list", "tuple"] d = some (.bl true) → lenD d = some 3 → itemsOf d = some [.int a, .int b, .int n] → gSlice d none (some 2) = some s → gMin [s] = some (.int (min a b)) → gMax [s] = some (.int (max a b)) → gIx d (.int 2) = some (.int n) → isDct (some d) = false → seqOf d = some [.int a, .int b, .int n] → W (F_law_is_tie [.int many, thD (.row l a b n)]) Q := by
      intro d s e f1 f2 f3 f4 f5 f6 f7 f8 f9 f10
      rw [e] at h ⊢
      rw [hb] at h
      simp [F_law_is_tie, body_law_is_tie, a_law_is_tie, f1, f2, f3, f4, ite_app]
      refine parts_w (.int a) (.int b) (.int n) ?_
      have al : gAll [.lst true [.bl (isN (.int a)), .bl (isN (.int b)), .bl (isN (.int n))]] = some (.bl true) := rfl
      have nux : nunk (some d) = true := by cases d <;> first | rfl | cases f1
      by_cases c1 : 0 ≤ min a b
      · by_cases c2 : min a b < max a b
        · by_cases c3 : max a b < many
          · by_cases c4 : 1 ≤ n ∧ n ≤ 1000000000000000000000000000000
            · rw [decide_eq_true (show (0 ≤ min a b ∧ a ≠ b ∧ max a b < many) ∧ 1 ≤ n ∧ n ≤ 1000000000000000000000000000000 from ⟨⟨c1, by omega, c3⟩, c4⟩)] at h
              simp [al, f1, f5, f6, f7, f8, f9, f10, ite_app, c1, c2, c3, c4]
              exact ⟨nux, h⟩
            · rw [decide_eq_false (fun z => c4 z.2)] at h
              simp [al, f1, f5, f6, f7, f8, f9, f10, ite_app, c1, c2, c3]
              refine ⟨nux, ?_⟩
              by_cases c5 : 1 ≤ n
              · have c6 : ¬ n ≤ 1000000000000000000000000000000 := fun z => c4 ⟨c5, z⟩
                simp [c5, c6]
                exact h
              · simp [c5]
                exact h
          · rw [decide_eq_false (fun z => c3 z.1.2.2)] at h
            simp [al, f1, f5, f6, f7, f8, f9, f10, ite_app, c1, c2, c3]
            exact h
        · rw [decide_eq_false (fun z => by omega)] at h
          simp [al, f1, f5, f6, f7, f8, f9, f10, ite_app, c1, c2]
          exact h
      · rw [decide_eq_false (fun z => c1 z.1.1)] at h
        simp [al, f1, f5, f6, f7, f8, f9, f10, ite_app, c1]
        exact h
    cases l
    · exact key _ (.tup [.int a, .int b]) rfl rfl rfl rfl rfl rfl rfl rfl rfl rfl rfl
    · exact key _ (.lst true [.int a, .int b]) rfl rfl rfl rfl rfl rfl rfl rfl rfl rfl rfl
def stc (come : List Int) (r : R3) : List Int := if r.1 ∈ come then (if r.2.1 ∈ come then come else come ++ [r.2.1]) else if r.2.1 ∈ come then come ++ [r.1] else come
structure CI (many : Int) (rows : List R3) (come : List Int) : Prop where
  nd : come.Nodup
  z : 0 ∈ come
  bd : ∀ x ∈ come, 0 ≤ x ∧ x < many ∧ Rc rows x
theorem CI.le {many : Int} {rows : List R3} {come : List Int} (h : CI many rows come) : come.length ≤ many.toNat := by
  have := List.Nodup.length_le_of_subset (l₂ := rangeI many.toNat) h.nd fun x hx => mem_rangeI.mpr (by have := h.bd x hx; omega)
  rwa [len_rangeI] at this
theorem CI.add {many : Int} {rows : List R3} {come : List Int} {y : Int} (h : CI many rows come) (n : y ∉ come) (b : 0 ≤ y ∧ y < many) (r : Rc rows y) : CI many rows (come ++ [y]) := by
  refine ⟨?_, List.mem_append_left _ h.z, ?_⟩
  · refine List.nodup_append.mpr ⟨h.nd, by simp, ?_⟩
    intro x hx z hz e
    simp at hz
    subst e
    subst hz
    exact n hx
  · intro x hx
    rcases List.mem_append.mp hx with hx | hx
    · exact h.bd x hx
    · rw [List.mem_singleton] at hx
      subst hx
      exact ⟨b.1, b.2, r⟩
theorem CI.stc {many : Int} {rows : List R3} {come : List Int} {r : R3} (en : ∀ r ∈ rows, 0 ≤ r.1 ∧ r.1 < r.2.1 ∧ r.2.1 < many) (hr : r ∈ rows) (h : CI many rows come) : CI many rows (stc come r) := by
  have er := en r hr
  unfold G.stc
  by_cases c1 : r.1 ∈ come
  · rw [if_pos c1]
    by_cases c2 : r.2.1 ∈ come
    · rw [if_pos c2]; exact h
    · rw [if_neg c2]
      exact h.add c2 ⟨by omega, by omega⟩ fun S s0 hS => (hS r hr).mp ((h.bd _ c1).2.2 S s0 hS)
  · rw [if_neg c1]
    by_cases c2 : r.2.1 ∈ come
    · rw [if_pos c2]
      exact h.add c1 ⟨by omega, by omega⟩ fun S s0 hS => (hS r hr).mpr ((h.bd _ c2).2.2 S s0 hS)
    · rw [if_neg c2]; exact h
theorem stc_pre (come : List Int) (r : R3) : come <+: stc come r := by
  unfold stc
  split
  · split
    · exact List.prefix_refl _
    · exact List.prefix_append _ _
  · split
    · exact List.prefix_append _ _
    · exact List.prefix_refl _
theorem foldc_pre : ∀ (p : List R3) (come : List Int), come <+: p.foldl stc come
  | [], come => List.prefix_refl _
  | r :: p, come => by
    rw [List.foldl_cons]
    exact (stc_pre come r).trans (foldc_pre p _)
theorem CI.fold {many : Int} {rows : List R3} (en : ∀ r ∈ rows, 0 ≤ r.1 ∧ r.1 < r.2.1 ∧ r.2.1 < many) : ∀ (p : List R3) (come : List Int), (∀ r ∈ p, r ∈ rows) → CI many rows come → CI many rows (p.foldl G.stc come)
  | [], come, _, h => h
  | r :: p, come, hp, h => by
    rw [List.foldl_cons]
    exact CI.fold en p _ (fun q hq => hp q (List.mem_cons_of_mem _ hq)) (h.stc en (hp r List.mem_cons_self))
theorem fixc_closed {rows : List R3} {come : List Int} (e : rows.foldl stc come = come) (r : R3) (hr : r ∈ rows) : r.1 ∈ come ↔ r.2.1 ∈ come := by
  obtain ⟨p, q, rfl⟩ := List.append_of_mem hr
  rw [List.foldl_append, List.foldl_cons] at e
  have l1 := foldc_pre p come
  have l2 := stc_pre (p.foldl stc come) r
  have l3 := foldc_pre q (stc (p.foldl stc come) r)
  rw [e] at l3
  have e1 : p.foldl stc come = come := (l1.eq_of_length_le (l2.trans l3).length_le).symm
  rw [e1] at l2 l3
  have e2 : stc come r = come := (l2.eq_of_length_le l3.length_le).symm
  unfold stc at e2
  by_cases c1 : r.1 ∈ come
  · rw [if_pos c1] at e2
    by_cases c2 : r.2.1 ∈ come
    · exact ⟨fun _ => c2, fun _ => c1⟩
    · rw [if_neg c2] at e2
      have := congrArg List.length e2
      simp at this
  · rw [if_neg c1] at e2
    by_cases c2 : r.2.1 ∈ come
    · rw [if_pos c2] at e2
      have := congrArg List.length e2
      simp at this
    · exact ⟨fun z => absurd z c1, fun z => absurd z c2⟩
theorem passc {rows : List R3} {come : List Int} : rows.foldl stc come = come ∨ come.length < (rows.foldl stc come).length := by
  have p := foldc_pre rows come
  by_cases c : (rows.foldl stc come).length ≤ come.length
  · exact .inl (p.eq_of_length_le c).symm
  · exact .inr (by omega)
theorem come_all {many : Int} {rows : List R3} {come : List Int} (h : CI many rows come) (e : rows.foldl stc come = come) (x : Int) : x ∈ come ↔ Rc rows x :=
  ⟨fun hx => (h.bd x hx).2.2, fun hx => hx (fun x => x ∈ come) h.z fun r hr => fixc_closed e r hr⟩
theorem CI.nil {many : Int} {rows : List R3} (h : 1 ≤ many) : CI many rows [0] := ⟨by simp, by simp, fun x hx => by
  rw [List.mem_singleton] at hx
  subst hx
  exact ⟨by omega, by omega, fun S s0 _ => s0⟩⟩
theorem nbL_ints2 {r : List Int} {n : Nat} : nbL (n + 1) (r.map D.int) = true := nbL_map fun _ => by simp
theorem in_come {neg : Bool} {x : Int} {come : List Int} : gIn neg (.int x) (.lst true (come.map D.int)) = some (.bl (if neg = true then !decide (x ∈ come) else decide (x ∈ come))) := by
  unfold gIn
  rw [inB_nb (by rfl) nbL_ints2]
  have : (D.int x ∈ come.map D.int) ↔ x ∈ come := by simp
  simp only [this]
  rfl
theorem in_come2 {neg : Bool} {x y : Int} {come : List Int} : gIn neg (.int x) (.lst true (come.map D.int ++ [.int y])) = some (.bl (if neg = true then !decide (x ∈ come ++ [y]) else decide (x ∈ come ++ [y]))) := by
  have := @in_come neg x (come ++ [y])
  rw [List.map_append] at this
  exact this
theorem ne_ints {l : List Nat} (h : l ≠ []) : gNe (.lst false (l.map fun (i : Nat) => D.int (i : Int))) (.lst false []) = some (.bl true) := by
  have hx : nb 9 (.lst false (l.map fun (i : Nat) => D.int (i : Int))) = true := by
    rw [nb_lst]
    exact nbL_map fun _ => by simp
  unfold gNe
  rw [eqD_nb hx (by simp)]
  simp [h]
theorem lkQ_lR {i : Nat} {ρ : VS.Env} {Q : Rv D → Prop} {rows : List R3} : lkQ i ρ Q (lR rows) ↔ Q (.ok (lR rows) ρ) := by unfold lR; rw [lkQ_lP]
theorem sort_lR {rows : List R3} (h : rows.length ≤ 1000) : gSortTL [lR rows] = some (.lst true ((sP (rows.map kp)).map pD)) := by
  have e := u_sortP (o := true) (ks := rows.map kp) (ls := rows.map lnR) (le_size (by simp; omega))
  rw [pD_tI]
  exact e
theorem thX {many : Int} {t : Th} {r : R3} (e : tt many t = some r) : ∃ s : D, gSlice (thD t) none (some 2) = some s ∧ gMin [s] = some (.int r.1) ∧ gMax [s] = some (.int r.2.1) ∧ ∃ ds, seqOf (thD t) = some ds ∧ atI ds 2 = some (.int r.2.2) := by
  cases t with
  | odd d => cases e
  | row l a b n =>
    by_cases c : (0 ≤ min a b ∧ a ≠ b ∧ max a b < many) ∧ 1 ≤ n ∧ n ≤ 1000000000000000000000000000000
    · rw [tt_pos c] at e
      have := Option.some.inj e
      subst this
      cases l
      · exact ⟨.tup [.int a, .int b], rfl, rfl, rfl, _, rfl, rfl⟩
      · exact ⟨.lst true [.int a, .int b], rfl, rfl, rfl, _, rfl, rfl⟩
    · rw [tt_neg c] at e; cases e
theorem due_w {many : Int} {x : D} {ts : List Th} {Q : Fo → Prop} (hx : x = .tup (ts.map thD) ∨ x = .lst false (ts.map thD)) (h1 : 1 ≤ many) (h2 : many ≤ 60) (hl : ts.length ≤ 1000) (wf : ∀ t ∈ ts, t.wf)
    (hb : ∀ n : Nat, scan many ts 0 [] = .inl n → Q (.ok (.tup [.str "bad", .int n]) [.int many, x]))
    (ha : ∀ rows, scan many ts 0 [] = .inr rows → Hk many rows → ∀ p : Int, LeastA many rows p → Q (.ok (.tup [.str "apart", .int p]) [.int many, x]))
    (ho : ∀ rows, scan many ts 0 [] = .inr rows → Hk many rows → (∀ q, 0 ≤ q → q < many → Rc rows q) → Q (.ok (webD many (sort3 rows)) [.int many, x])) : W (F_law_due [.int many, x]) Q := by
  have fl : fzL (ts.map thD) = true := by
    rw [fzL_all, List.all_eq_true]
    intro d hd
    obtain ⟨t, ht, rfl⟩ := List.mem_map.mp hd
    exact fz_thD (wf t ht)
  have fzx : fz x = true := by rcases hx with rfl | rfl <;> simp [fz, fl]
  have lx : lenD x = some ts.length := by rcases hx with rfl | rfl <;> simp
  have sq : seqOf x = some (ts.map thD) := by rcases hx with rfl | rfl <;> rfl
  have nux : nunk (some x) = true := by rcases hx with rfl | rfl <;> rfl
  have nd1 : isDct (some x) = false := by rcases hx with rfl | rfl <;> rfl
  clear hx
  have hR : inR (ts.length : Int) := inR_le (by omega) (by omega)
  have hRm : inR many := inR_le (by omega) (by omega)
  simp [F_law_due, body_law_due, a_law_due, fzx, lx, hR]
  refine W_forN (fun k ρ => ∃ (rows : List R3) (a b : D), ρ = [.int many, x, dR true rows, a, .unk, .unk, .unk, b, .unk, .unk, .unk] ∧ Hk many rows ∧ rows.length = k ∧ scan many ts 0 [] = scan many (ts.drop k) k rows) ⟨[], _, _, rfl, .nil, rfl, rfl⟩ ?_ ?_
  · rintro k ρ hk ⟨rows, a, b, rfl, hK, hl2, hs⟩ J hJ
    obtain ⟨y, hy⟩ : ∃ y, ts[k]? = some y := ⟨_, List.getElem?_eq_getElem hk⟩
    have hd : ts.drop k = y :: ts.drop (k + 1) := by
      rw [List.drop_eq_getElem_cons hk]
      congr 1
      have := List.getElem?_eq_getElem hk
      rw [hy] at this
      exact (Option.some.inj this).symm
    have wy := wf y (List.mem_of_getElem? hy)
    have fy := fz_thD wy
    have ay : atI (ts.map thD) (k : Int) = some (thD y) := atI_map (by omega) hy
    rw [hd, scan] at hs
    simp [nd1, sq, ay, fy, fzx]
    refine ⟨nux, istie_w wy ?_⟩
    cases et : tt many y with
    | none =>
      rw [et] at hs
      simp [ite_app]
      exact hb _ hs
    | some r =>
      rw [et] at hs
      simp only at hs
      obtain ⟨s, s1, s2, s3, s5, s6, s4⟩ := thX et
      by_cases c1 : k = 220
      · rw [if_pos (.inl c1)] at hs
        have c2 : (k : Int) = 220 := by omega
        simp [c2, ite_app]
        have := hb _ hs
        rw [c1] at this
        exact this
      · have c2 : ¬ (k : Int) = 220 := by omega
        simp [c2, ite_app, nux, nd1, sq, ay, fy, fzx, s1, s2, s3, s4, has_dR]
        by_cases c3 : kp r ∈ rows.map kp
        · rw [if_pos (.inr c3)] at hs
          have c4 : (r.1, r.2.1) ∈ rows.map kp := c3
          simp only [List.mem_map] at c4
          simp [c4]
          exact hb _ hs
        · rw [if_neg (fun z => z.elim c1 c3)] at hs
          have c4 : (r.1, r.2.1) ∉ rows.map kp := c3
          have hp2 := put_dR (rows := rows) (a := r.1) (b := r.2.1) (l := r.2.2) (lt_size (by have := hK.le; omega)) c4
          simp only [List.mem_map] at c4
          simp [c4, nux, nd1, sq, ay, fy, fzx, s1, s2, s3, s4, s6, hp2]
          exact hJ _ ⟨rows ++ [r], _, _, rfl, hK.add et c3 (by omega), by simp; omega, by simpa using hs⟩
  · rintro ρ ⟨rows, a, b, rfl, hK, hl2, hs⟩
    have hs : scan many ts 0 [] = .inr rows := by
      rw [hs, List.drop_length]
      rfl
    have nd := hK.nd
    have hs2 := hK.le
    simp [hRm]
    refine W_forN (fun k ρ => ∃ (come : List Int) (d a1 a2 a3 : D), ρ = [.int many, x, d, a, .lst true (come.map D.int), a1, .unk, b, a2, a3, .unk] ∧ (d = dR true rows ∧ k = 0 ∨ d = lR rows) ∧ CI many rows come ∧ (rows.foldl stc come = come ∨ k + 1 ≤ come.length)) ⟨[0], _, _, _, _, rfl, .inl ⟨rfl, rfl⟩, .nil h1, .inr (by simp)⟩ ?_ ?_
    · rintro k ρ hk ⟨come, d, a1, a2, a3, rfl, hd, hc, hf⟩ J hJ
      have hd2 : ∀ ρ' : VS.Env, ∀ Q : Rv D → Prop, Q (.ok (lR rows) (ρ'.set 2 (lR rows))) → ρ'[2]? = some d → lkQ 2 ρ' Q d := by
        intro ρ' Q q e
        rcases hd with ⟨rfl, _⟩ | rfl
        · exact lkQ_R.mpr q
        · have e1 : ρ'.set 2 (lR rows) = ρ' := by
            have hlt := (List.getElem?_eq_some_iff.mp e).1
            apply List.ext_getElem?
            intro i
            by_cases c : 2 = i
            · subst c
              rw [List.getElem?_set_self hlt, e]
            · rw [List.getElem?_set_ne c]
          rw [e1] at q
          unfold lR at q ⊢
          exact lkQ_lP.mpr q
      simp
      refine hd2 _ _ ?_ rfl
      simp
      refine W_forL (xs := rows) (f := pD ∘ kp) (fun p ρ => ∃ (a2 a3 : D), ρ = [.int many, x, lR rows, a, .lst true ((p.foldl stc come).map D.int), .int k, .unk, b, a2, a3, .unk]) ⟨_, _, rfl⟩ ?_ ?_
      · rintro p r post ρ e ⟨a2, a3, rfl⟩ J2 hJ2
        have hr : r ∈ rows := by rw [e]; simp
        have hc2 : CI many rows (p.foldl stc come) := CI.fold hK.en _ _ (fun q hq => by rw [e]; exact List.mem_append_left _ hq) hc
        have hl3 := hc2.le
        have fin : (p ++ [r]).foldl stc come = stc (p.foldl stc come) r := by
          rw [List.foldl_append]
          rfl
        rw [fin] at hJ2
        generalize p.foldl stc come = cm at hJ2 hl3 ⊢
        have lts : cm.length < sizeLine := lt_size (by omega)
        unfold stc at hJ2
        by_cases c1 : r.1 ∈ cm
        · by_cases c2 : r.2.1 ∈ cm
          · rw [if_pos c1, if_pos c2] at hJ2
            simp [kp, in_come, in_come2, c1, c2, ite_app]
            exact hJ2 _ ⟨_, _, rfl⟩
          · rw [if_pos c1, if_neg c2] at hJ2
            simp [kp, in_come, in_come2, c1, c2, ite_app, lts]
            rw [show List.map D.int cm ++ [D.int r.2.1] = (cm ++ [r.2.1]).map D.int by simp]
            exact hJ2 _ ⟨_, _, rfl⟩
        · by_cases c2 : r.2.1 ∈ cm
          · rw [if_neg c1, if_pos c2] at hJ2
            simp [kp, in_come, in_come2, c1, c2, ite_app, lts]
            rw [show List.map D.int cm ++ [D.int r.1] = (cm ++ [r.1]).map D.int by simp]
            exact hJ2 _ ⟨_, _, rfl⟩
          · rw [if_neg c1, if_neg c2] at hJ2
            simp [kp, in_come, in_come2, c1, c2, ite_app]
            exact hJ2 _ ⟨_, _, rfl⟩
      · rintro ρ ⟨a2, a3, rfl⟩
        refine hJ _ ⟨rows.foldl stc come, _, _, _, _, rfl, .inr rfl, CI.fold hK.en _ _ (fun q hq => hq) hc, ?_⟩
        rcases passc (rows := rows) (come := come) with e | e
        · left; rw [e, e]
        · rcases hf with hf | hf
          · left; rw [hf, hf]
          · right; omega
    · rintro ρ ⟨come, d, a1, a2, a3, rfl, hd, hc, hf⟩
      have fx : rows.foldl stc come = come := by
        rcases hf with hf | hf
        · exact hf
        · have := hc.le
          omega
      have hdd : d = lR rows := by
        rcases hd with ⟨_, z⟩ | z
        · omega
        · exact z
      subst hdd
      have al := fun q => come_all hc fx q
      simp [hRm]
      unfold intsD
      refine W_lcMap (xs := List.range many.toNat) (f := fun (i : Nat) => D.int (0 + i)) (fun i => !decide ((i : Int) ∈ come)) (fun i => .int (i : Int)) (le_size (by simp; omega)) ?_ ?_
      · intro q hq J acc j1 j2
        by_cases c : (q : Int) ∈ come
        · simp [in_come, c]
          exact j2 (by simp [c])
        · simp [in_come, c]
          exact j1 (by simp [c])
      · have hmem : ∀ i : Nat, i ∈ (List.range many.toNat).filter (fun i : Nat => !decide ((i : Int) ∈ come)) ↔ i < many.toNat ∧ ¬ Rc rows i := fun i => by
          rw [List.mem_filter, List.mem_range, ← al]
          simp
        have hsrt : ((List.range many.toNat).filter (fun i : Nat => !decide ((i : Int) ∈ come))).Pairwise (· < ·) := List.pairwise_lt_range.sublist List.filter_sublist
        generalize (List.range many.toNat).filter (fun i : Nat => !decide ((i : Int) ∈ come)) = ap at hmem hsrt
        cases ap with
        | nil =>
          simp [ite_app]
          refine lkQ_lR.mpr ?_
          simp [sort_lR (rows := rows) (by omega)]
          refine W_lcAll (fun p => rD (p.1, p.2, (look (rows.map kp) (rows.map lnR) p).getD 0)) (le_size (by rw [(sP_perm _).length_eq]; simp; omega)) ?_ ?_
          · intro p hp J acc hj
            have hk : p ∈ rows.map kp := (sP_perm _).mem_iff.mp hp
            obtain ⟨r, hr, rfl⟩ := List.mem_map.mp hk
            have e := look_row nd hr
            simp [lR]
            rw [show ((kp r).1, (kp r).2) = kp r from rfl, e]
            simp [rD_def]
            rw [e] at hj
            exact hj
          · have e : (sP (rows.map kp)).map (fun p => rD (p.1, p.2, (look (rows.map kp) (rows.map lnR) p).getD 0)) = (sort3 rows).map rD := by
              rw [← rows_sorted nd, List.map_map]
              rfl
            rw [e]
            simp
            refine ho rows hs hK fun q q0 q1 => ?_
            by_cases c : Rc rows q
            · exact c
            · have := (hmem q.toNat).mpr ⟨by omega, by rwa [Int.toNat_of_nonneg q0]⟩
              cases this
        | cons i is =>
          have ne := @ne_ints (i :: is) (by simp)
          simp at ne
          simp [ite_app, ne]
          refine ha rows hs hK i ⟨by omega, ?_, ?_, ?_⟩
          · have := ((hmem i).mp (by simp)).1
            omega
          · exact ((hmem i).mp (by simp)).2
          · intro q q0 q1
            by_cases c : Rc rows q
            · exact c
            · have := (hmem q.toNat).mpr ⟨by have := ((hmem i).mp (by simp)).1; omega, by rwa [Int.toNat_of_nonneg q0]⟩
              rcases List.mem_cons.mp this with e | e
              · omega
              · have := (List.pairwise_cons.mp hsrt).1 _ e
                omega
end G
set_option Elab.async false
set_option linter.all false
set_option maxRecDepth 100000
set_option maxHeartbeats 4000000
noncomputable section
namespace G
open PySem PySem.Spec L2 VS
def jD (o : Bool) (ns : List Int) (a m : Int) : D := .dK o [.inr "draws", .inr "at", .inr "more"] [.lst false (ns.map D.int), .int a, .int m]
theorem lk1 {o : Bool} {ns : List Int} {a m : Int} : lookD (jD o ns a m) (.str "draws") = some (.lst false (ns.map D.int)) := by rfl
theorem lk2 {o : Bool} {ns : List Int} {a m : Int} : lookD (jD o ns a m) (.str "at") = some (.int a) := by rfl
theorem lk3 {o : Bool} {ns : List Int} {a m : Int} : lookD (jD o ns a m) (.str "more") = some (.int m) := by rfl
theorem pt2 {ns : List Int} {a m x : Int} : VS.putAt (jD true ns a m) (.str "at") (.int x) = some (jD true ns x m) := by
  show (if 3 < sizeLine then some _ else none) = _
  rw [if_pos (lt_size (by omega))]
  rfl
theorem pt3 {ns : List Int} {a m x : Int} : VS.putAt (jD true ns a m) (.str "more") (.int x) = some (jD true ns a x) := by
  show (if 3 < sizeLine then some _ else none) = _
  rw [if_pos (lt_size (by omega))]
  rfl
@[simp] theorem nu_jD {o : Bool} {ns : List Int} {a m : Int} : nunk (some (jD o ns a m)) = true := rfl
@[simp] theorem dct_jD {o : Bool} {ns : List Int} {a m : Int} : isDct (some (jD o ns a m)) = true := rfl
@[simp] theorem fz_jD {o : Bool} {ns : List Int} {a m : Int} : fz (jD o ns a m) = !o := by unfold jD; simp
structure Jar where
  ns : List Int
  a : Int
  m : Int
  a0 : 0 ≤ a
  mb : in64 m
def jarD (s : Jar) : D := jD true s.ns s.a s.m
@[simp] theorem nu_jar {s : Jar} : nunk (some (jarD s)) = true := rfl
@[simp] theorem fz_jar {s : Jar} : fz (jarD s) = false := by unfold jarD; simp
theorem take_w {s : Jar} {m : Int} {Q : Fo → Prop} (hm : 0 < m) (h : ∀ x s', 0 ≤ x → x < m → Q (.ok (.int x) [jarD s', .int m])) : W (F_law_take [jarD s, .int m]) Q := by
  obtain ⟨ns, a, mo, ha, hb⟩ := s
  simp [F_law_take, body_law_take, a_law_take, jarD, lk1, lk2, lk3, pt2, pt3, ite_app, W_if]
  constructor
  · intro hlt
    refine W_at ha hlt fun x _ => ?_
    simp [hm]
    exact h _ ⟨ns, a + 1, mo, by omega, hb⟩ (Int.emod_nonneg _ (by omega)) (Int.emod_lt_of_pos _ hm)
  · intro hge
    have hn : mo.natAbs < 18446744073709551616 := by have := hb.lo; have := hb.hi; omega
    simp [hm, hn]
    exact h _ ⟨ns, a, _, ha, md2 _⟩ (Int.emod_nonneg _ (by omega)) (Int.emod_lt_of_pos _ hm)
end G
set_option Elab.async false
set_option linter.all false
set_option maxRecDepth 100000
set_option maxHeartbeats 4000000
noncomputable section
namespace G
open PySem PySem.Spec L2 VS
theorem row_w {c : Int} {Q : Fo → Prop} (h : ∀ fs : List Int, fs.length ≤ 60 → Q (.ok (.lst true (fs.map D.int)) [.int c])) : W (F_law_row_of [.int c]) Q := by
  simp [F_law_row_of, body_law_row_of, a_law_row_of, ite_app, W_if]
  constructor
  · intro hl
    refine W_forN (fun k ρ => ∃ (f : List Int) (l' : Int) (y : D), ρ = [.int c, .lst true (f.map D.int), .int l', y, .unk] ∧ f.length ≤ k) ⟨[], _, _, rfl, by simp⟩ ?_ ?_
    · rintro k ρ hk ⟨f, l', y, rfl, hf⟩ J hJ
      have hs : f.length < sizeLine := lt_size (by omega)
      simp [W_if, ite_app, hs]
      refine ⟨fun _ => ?_, fun _ => ?_⟩
      · exact hJ _ ⟨f ++ [l' % 1000000], _, _, by rw [List.map_append]; rfl, by simp; omega⟩
      · exact hJ _ ⟨f, _, _, rfl, by omega⟩
    · rintro ρ ⟨f, l', y, rfl, hf⟩
      simp
      exact h f hf
  · intro hl
    refine W_forN (fun k ρ => ∃ (f : List Int) (y z : D), ρ = [.int c, .lst true (f.map D.int), .int (if c < 0 then -c else c), y, z] ∧ f.length ≤ k) ⟨[], _, _, rfl, by simp⟩ ?_ ?_
    · rintro k ρ hk ⟨f, l', y, rfl, hf⟩ J hJ
      have hs : f.length < sizeLine := lt_size (by omega)
      simp [hs, md1]
      exact hJ _ ⟨f ++ [_], _, _, by rw [List.map_append]; rfl, by simp; omega⟩
    · rintro ρ ⟨f, l', y, rfl, hf⟩
      simp
      exact h f (by omega)
theorem disp_jD {ns : List Int} {a m : Int} : dispD [.str "draws", .lst false (ns.map D.int), .str "at", .int a, .str "more", .int m] [] [] = some (jD true ns a m) := by rfl
theorem length_w {s : Jar} {k : Int} {Q : Fo → Prop} (h : ∀ (l : Int) s', 1 ≤ l → l ≤ 1000000000000000000000000000000 → Q (.ok (.int l) [jarD s', .int k])) : W (F_law_length [jarD s, .int k]) Q := by
  by_cases c0 : k = 0
  · subst c0
    simp [F_law_length, body_law_length, a_law_length, ite_app]
    exact h _ _ (by omega) (by omega)
  by_cases c1 : k = 1
  · subst c1
    simp [F_law_length, body_law_length, a_law_length, ite_app]
    refine take_w (by omega) fun x s2 x0 x1 => ?_
    simp
    exact h _ _ (by omega) (by omega)
  by_cases c2 : k = 2
  · subst c2
    simp [F_law_length, body_law_length, a_law_length, ite_app]
    refine take_w (by omega) fun x s2 x0 x1 => ?_
    simp
    refine W_pick (l := [1, 2, 4, 8, 16, 32, 64, 128]) (n := 8) rfl x0 x1 fun y hy => ?_
    have hy : 1 ≤ y ∧ y ≤ 128 := by simp at hy; omega
    simp
    exact h _ _ (by omega) (by omega)
  by_cases c3 : k = 3
  · subst c3
    simp [F_law_length, body_law_length, a_law_length, ite_app]
    refine take_w (by omega) fun x s2 x0 x1 => ?_
    have hb : in64 (1 + x) := in64_bd (by omega) (by omega)
    simp [hb]
    exact h _ _ (by omega) (by omega)
  · simp [F_law_length, body_law_length, a_law_length, ite_app, c0, c1, c2, c3]
    refine take_w (by omega) fun x s2 x0 x1 => ?_
    simp
    refine W_pick (l := [1000000000000000000000000000000, 1, 999999999999999999999999999999, 500000000000000000000000000000]) (n := 4) rfl x0 x1 fun y hy => ?_
    have hy : 1 ≤ y ∧ y ≤ 1000000000000000000000000000000 := by simp at hy; omega
    simp
    exact h _ _ (by omega) (by omega)
theorem order_w {s : Jar} {many : Int} {Q : Fo → Prop} (hm : 0 ≤ many) (hM : many ≤ 1000) (h : ∀ (os : List Int) s', os.Perm (rangeI many.toNat) → Q (.ok (.lst true (os.map D.int)) [jarD s', .int many])) : W (F_law_order [jarD s, .int many]) Q := by
  have hR := inR_le hm (by omega)
  have hG : RgOk 0 many := RgOk.of_le (by omega) (by omega) (by omega) hm
  simp [F_law_order, body_law_order, a_law_order, hR, hG]
  refine W_lcN (fun k acc ρ => ∃ (os ls : List Int) (s' : Jar), acc = os.map D.int ∧ ρ = [jarD s', .int many, .lst true (ls.map D.int), .unk] ∧ (os ++ ls).Perm (rangeI many.toNat) ∧ os.length = k) ⟨[], rangeI many.toNat, s, rfl, by rw [ints_range], .refl _, rfl⟩ (le_size (by omega)) ?_ ?_
  · rintro k acc ρ hk ⟨os, ls, s', rfl, rfl, hp, rfl⟩ J hJ
    have hll : os.length + ls.length = many.toNat := by
      have := hp.length_eq
      rw [List.length_append, len_rangeI] at this
      exact this
    simp
    refine take_w (by omega) fun x s2 x0 x1 => ?_
    simp
    refine W_gPop x0 x1 (by omega) fun y hy => ?_
    simp
    refine hJ _ _ ⟨os ++ [y], ls.eraseIdx x.toNat, s2, by simp, rfl, ?_, by simp⟩
    refine .trans ?_ hp
    rw [List.append_assoc]
    exact List.Perm.append_left os (VS.perm_erase hy).symm
  · rintro acc ρ ⟨os, ls, s', rfl, rfl, hp, hl⟩
    have hll : os.length + ls.length = many.toNat := by
      have := hp.length_eq
      rw [List.length_append, len_rangeI] at this
      exact this
    have : ls = [] := List.eq_nil_of_length_eq_zero (by omega)
    subst this
    rw [List.append_nil] at hp
    simp
    exact h os s' hp
end G
set_option Elab.async false
set_option linter.all false
set_option maxRecDepth 100000
set_option maxHeartbeats 4000000
noncomputable section
namespace G
open PySem PySem.Spec L2 VS
def z1 : D := .lst false [.int 0]
def someT (many one : Int) : List Th :=
  [.odd .non, .odd (.int 7), .odd (.str "01"), .odd (.tup [.int 0, .int 1]), .odd (.lst false [.int 0, .int 1, .int 1, .int 1]), .row false 0 one 0, .row false 0 one 1000000000000000000000000000001, .row false (-1) one 1, .row false many one 1,
   .row false one one 1, .odd (.tup [.bl true, .int 0, .int 1]), .odd (.tup [.int 0, .non, .int 1]), .odd (.tup [.int 0, .int one, .bl true]), .odd (.lst false []), .odd (.dT false [] []), .odd (.tup [.tup [.int 0], .int one, .int 1]), .row false one many 5,
   .odd (.tup [.int one, .str "0", .int 1]), .odd (.tup [.int 0, .int one, .non]), .row false one (-1) 1000000000000000000000000000000, .odd (.tup [.int one, .bl true, .int 1]), .odd (.tup [z1, .int one, .int 1]), .odd (.tup [.int one, z1, .int 1])]
theorem pz1 : Pt z1 := .lst _ rfl
theorem someT_wf {many one : Int} : ∀ t ∈ someT many one, t.wf := by
  intro t ht
  simp only [someT, List.mem_cons, List.not_mem_nil, or_false] at ht
  rcases ht with rfl | rfl | rfl | rfl | rfl | rfl | rfl | rfl | rfl | rfl | rfl | rfl | rfl | rfl | rfl | rfl | rfl | rfl | rfl | rfl | rfl | rfl | rfl
  · exact odd_no rfl rfl
  · exact odd_no rfl rfl
  · exact odd_no rfl rfl
  · exact odd_len (n := 2) rfl rfl rfl (by omega)
  · exact odd_len (n := 4) rfl rfl rfl (by omega)
  · trivial
  · trivial
  · trivial
  · trivial
  · trivial
  · exact odd3 (.bl _) (.int _) (.int _) (.inl rfl)
  · exact odd3 (.int _) .non (.int _) (.inr (.inl rfl))
  · exact odd3 (.int _) (.int _) (.bl _) (.inr (.inr rfl))
  · exact odd_len (n := 0) rfl rfl rfl (by omega)
  · exact odd_no rfl rfl
  · exact odd3 (.tup _ rfl) (.int _) (.int _) (.inl rfl)
  · trivial
  · exact odd3 (.int _) (.str _) (.int _) (.inr (.inl rfl))
  · exact odd3 (.int _) (.int _) .non (.inr (.inr rfl))
  · trivial
  · exact odd3 (.int _) (.bl _) (.int _) (.inr (.inl rfl))
  · exact odd3 pz1 (.int _) (.int _) (.inl rfl)
  · exact odd3 (.int _) pz1 (.int _) (.inr (.inl rfl))
theorem fzL_th {ts : List Th} (wf : ∀ t ∈ ts, t.wf) : fzL (ts.map thD) = true := by
  rw [fzL_all, List.all_eq_true]
  intro d hd
  obtain ⟨t, ht, rfl⟩ := List.mem_map.mp hd
  exact fz_thD (wf t ht)
theorem tt_row {many : Int} {t : Th} (h : (tt many t).isSome = true) : ∃ l a b n, t = .row l a b n := by
  cases t with
  | row l a b n => exact ⟨l, a, b, n, rfl⟩
  | odd d => cases h
theorem frL_th {ts : List Th} (wf : ∀ t ∈ ts, t.wf) : freezeL (ts.map thD) = ts.map thD := by
  rw [freezeL_map, List.map_map]
  exact List.map_congr_left fun t ht => freeze_fz _ (fz_thD (wf t ht))
theorem W_pickT {l : List Th} {ds : List D} {x n : Int} {Q : D → Prop} (e : ds = l.map thD) (hl : (l.length : Int) = n) (h0 : 0 ≤ x) (h1 : x < n) (h : ∀ t ∈ l, Q (thD t)) : W (atI ds x) Q := by
  have hx : x.toNat < l.length := by omega
  rw [e, atI_map h0 (List.getElem?_eq_getElem hx), W_some]
  exact h _ (List.getElem_mem hx)
theorem ne_row {ts : List Th} {many : Int} (n : ts ≠ []) (h : ∀ u ∈ ts, (tt many u).isSome = true) : gNe (.lst false (ts.map thD)) (.lst false []) = some (.bl true) := by
  have hx : nb 9 (.lst false (ts.map thD)) = true := by
    rw [nb_lst]
    have : ∀ us : List Th, (∀ u ∈ us, (tt many u).isSome = true) → nbL 8 (us.map thD) = true := by
      intro us
      induction us with
      | nil => intro _; rfl
      | cons u us ih =>
        intro hu
        obtain ⟨l, a, b, n, rfl⟩ := tt_row (hu u (by simp))
        rw [List.map_cons]
        have e := ih fun v hv => hu v (List.mem_cons_of_mem _ hv)
        cases l <;> simp [nbL, thD, nb, e]
    exact this _ h
  unfold gNe
  rw [eqD_nb hx (by simp)]
  simp [n]
theorem badth_w {s : Jar} {many : Int} {ts : List Th} {Q : Fo → Prop} (h1 : 1 ≤ many) (h2 : many ≤ 60) (hl : ts.length ≤ 1000) (wf : ∀ t ∈ ts, t.wf)
    (h : ∀ d t s', t.wf → freeze d = thD t → Q (.ok d [jarD s', .int many, .lst false (ts.map thD)])) : W (F_law_bad_thing [jarD s, .int many, .lst false (ts.map thD)]) Q := by
  have fl := fzL_th wf
  have fx : fz (.lst false (ts.map thD)) = true := by simp [fz, fl]
  have s1 : (9 : Nat) ≤ sizeLine := le_size (by omega)
  have s2 : (17 : Nat) ≤ sizeLine := le_size (by omega)
  have s3 : (23 : Nat) ≤ sizeLine := le_size (by omega)
  have s4 : (8 : Nat) ≤ sizeLine := le_size (by omega)
  have s5 : (6 : Nat) ≤ sizeLine := le_size (by omega)
  have s6 : (3 : Nat) ≤ sizeLine := le_size (by omega)
  have i5 : in64 10 := in64_bd (by omega) (by omega)
  simp [F_law_bad_thing, body_law_bad_thing, a_law_bad_thing]
  refine take_w (by omega) fun one s7 x0 x1 => ?_
  simp [s1, s2, s3, s4, s5, s6]
  rw [frL_th wf]
  refine ⟨fl, fl, ?_⟩
  refine W_lcMap (xs := ts) (f := thD) (fun t => (tt many t).isSome) thD (le_size (by omega)) ?_ ?_
  · intro t ht J acc j1 j2
    have ft := fz_thD (wf t ht)
    simp [ft, fl]
    refine istie_w (wf t ht) ?_
    cases c : (tt many t).isSome with
    | true => simp [ft]; exact j1 c
    | false => simp; exact j2 c
  · have wg : ∀ t ∈ ts.filter (fun t => (tt many t).isSome), t ∈ ts ∧ (tt many t).isSome = true := fun t ht => List.mem_filter.mp ht
    have lg : (ts.filter (fun t => (tt many t).isSome)).length ≤ 1000 := Nat.le_trans (List.length_filter_le _ _) hl
    generalize ts.filter (fun t => (tt many t).isSome) = gs at wg lg
    have wf2 : ∀ t ∈ gs, t.wf := fun t ht => wf t (wg t ht).1
    have fl2 := fzL_th wf2
    have fr2 := frL_th wf2
    generalize hSM : D.lst true [D.non, D.int 7, D.str (Str.ofString "01"), D.tup [D.int 0, D.int 1], D.lst false [D.int 0, D.int 1, D.int 1, D.int 1], D.tup [D.int 0, D.int one, D.int 0], D.tup [D.int 0, D.int one, D.int 1000000000000000000000000000001], D.tup [D.int (-1), D.int one, D.int 1], D.tup [D.int many, D.int one, D.int 1], D.tup [D.int one, D.int one, D.int 1], D.tup [D.bl true, D.int 0, D.int 1],
      D.tup [D.int 0, D.non, D.int 1], D.tup [D.int 0, D.int one, D.bl true], D.lst false [], D.dT false [] [], D.tup [D.tup [D.int 0], D.int one, D.int 1], D.tup [D.int one, D.int many, D.int 5], D.tup [D.int one, D.str (Str.ofString "0"), D.int 1], D.tup [D.int 0, D.int one, D.non], D.tup [D.int one, D.int (-1), D.int 1000000000000000000000000000000], D.tup [D.int one, D.bl true, D.int 1], D.tup [D.lst true [D.int 0], D.int one, D.int 1], D.tup [D.int one, D.lst true [D.int 0], D.int 1]] = SM
    have fSM : freeze SM = .lst false ((someT many one).map thD) := by rw [← hSM]; rfl
    have nSM : nunk (some SM) = true := by rw [← hSM]; rfl
    clear hSM
    have last : ∀ s7, W (dRet (dAt 4 (dFn [some 0, none] F_law_take (dIO 0 (dCons (dCallS [some 4] gLen (dIO 4 dNil)) dNil)))) [jarD s7, .int many, .lst false (ts.map thD), .int one, .lst false ((someT many one).map thD), .lst false (gs.map thD), .unk, .unk, .unk, .unk]) (eQ 10 3 [3, 4, 4, 4, 5, 6, 7, 8] Q) := by
      intro s7
      have ls : (someT many one).length = 23 := rfl
      have wfs := @someT_wf many one
      generalize hST : someT many one = ST at ls wfs ⊢
      simp [ls]
      refine take_w (by omega) fun x s8 x0 x1 => ?_
      simp
      refine W_pickT (l := ST) rfl (by omega) x0 x1 fun t ht => ?_
      have ft := fz_thD (wfs t ht)
      simp [ft, fl]
      exact h _ t _ (wfs t ht) (freeze_fz _ ft)
    by_cases c : gs = []
    · subst c
      simp [ite_app, nSM, fSM]
      have L := last s7
      simp at L
      exact L
    · have ne := ne_row (many := many) c fun u hu => (wg u hu).2
      simp [ne, fl2, fr2, ite_app]
      refine take_w (by omega) fun x s8 x0 x1 => ?_
      by_cases c2 : x = 0
      · have lp : 0 < gs.length := List.length_pos_iff.mpr c
        simp [c2, fl2]
        refine take_w (by omega) fun y s9 y0 y1 => ?_
        simp
        refine W_pickT (l := gs) rfl rfl y0 y1 fun t ht => ?_
        obtain ⟨l, a, b, n, rfl⟩ := tt_row (wg t ht).2
        have ft : fz (thD (.row l a b n)) = true := by cases l <;> rfl
        have sq : seqOf (thD (.row l a b n)) = some [.int a, .int b, .int n] := by cases l <;> rfl
        simp [ft, sq]
        refine take_w (by omega) fun z s10 z0 z1 => ?_
        have hz : z = 0 ∨ z = 1 := by omega
        rcases hz with rfl | rfl
        · simp [atI, ixN, fl]
          exact h _ (.row false a b n) _ trivial rfl
        · simp [atI, ixN, fl]
          exact h _ (.row true b a 3) _ trivial rfl
      · simp [c2, nSM, fSM]
        have L := last s8
        simp at L
        exact L
end G
set_option Elab.async false
set_option linter.all false
set_option maxRecDepth 100000
set_option maxHeartbeats 4000000
noncomputable section
namespace G
open PySem PySem.Spec L2 VS
structure Kd (c : Str) (j : Nat) : Prop where
  k0 : tabAny isT c ["NoPlace"] = some (0 == j)
  k1 : tabAny isT c ["NoWay"] = some (1 == j)
  k2 : tabAny isT c ["NotPlain"] = some (2 == j)
  k3 : tabAny isT c ["NotLone"] = some (3 == j)
  k4 : tabAny isT c ["TooMany"] = some (4 == j)
  k5 : tabAny isT c ["Tied"] = some (5 == j)
  k6 : tabAny isT c ["NoSide"] = some (6 == j)
  k7 : tabAny isT c ["BadLengths"] = some (7 == j)
  k8 : tabAny isT c ["NoChoice"] = some (8 == j)
  k9 : tabAny isT c ["NoTie"] = some (9 == j)
  k10 : tabAny isT c ["NothingDone"] = some (10 == j)
  k11 : tabAny isT c ["NoRow"] = some (11 == j)
  k12 : tabAny isT c ["BadWeb"] = some (12 == j)
  k13 : tabAny isT c ["NoText"] = some (13 == j)
  k14 : tabAny isT c ["Apart"] = some (14 == j)
  k15 : tabAny isT c ["LoneError"] = some true
  k16 : tabAny isT c ["ValueError"] = some true
def kb (j : Nat) : List Bool := [0 == j, 1 == j, 2 == j, 3 == j, 4 == j, 5 == j, 6 == j, 7 == j, 8 == j, 9 == j, 10 == j, 11 == j, 12 == j, 13 == j, 14 == j, true, true]
theorem eq_kb : ∀ {j : Nat}, j < 15 → gEq (.lst false ((kb j).map D.bl)) (.lst false ((kb j).map D.bl)) = some (.bl true)
  | 0, _ => rfl | 1, _ => rfl | 2, _ => rfl | 3, _ => rfl | 4, _ => rfl | 5, _ => rfl | 6, _ => rfl | 7, _ => rfl
  | 8, _ => rfl | 9, _ => rfl | 10, _ => rfl | 11, _ => rfl | 12, _ => rfl | 13, _ => rfl | 14, _ => rfl
  | n + 15, h => by omega
theorem kinds_w {a : Addr} {c : Str} {j : Nat} {Q : Fo → Prop} (k : Kd c j) (h : Q (.ok (.lst true ((kb j).map D.bl)) [.adr a])) : W (F_law_kinds a c [.adr a]) Q := by
  have s1 : (8 : Nat) ≤ sizeLine := le_size (by omega)
  have s2 : (12 : Nat) ≤ sizeLine := le_size (by omega)
  have s3 : (15 : Nat) ≤ sizeLine := le_size (by omega)
  have s4 : (17 : Nat) ≤ sizeLine := le_size (by omega)
  have h : Q (.ok (.lst true [.bl (0 == j), .bl (1 == j), .bl (2 == j), .bl (3 == j), .bl (4 == j), .bl (5 == j), .bl (6 == j), .bl (7 == j), .bl (8 == j), .bl (9 == j), .bl (10 == j), .bl (11 == j), .bl (12 == j), .bl (13 == j), .bl (14 == j), .bl true, .bl true]) [.adr a]) := h
  obtain ⟨k0, k1, k2, k3, k4, k5, k6, k7, k8, k9, k10, k11, k12, k13, k14, k15, k16⟩ := k
  generalize (0 == j) = b0 at *
  generalize (1 == j) = b1 at *
  generalize (2 == j) = b2 at *
  generalize (3 == j) = b3 at *
  generalize (4 == j) = b4 at *
  generalize (5 == j) = b5 at *
  generalize (6 == j) = b6 at *
  generalize (7 == j) = b7 at *
  generalize (8 == j) = b8 at *
  generalize (9 == j) = b9 at *
  generalize (10 == j) = b10 at *
  generalize (11 == j) = b11 at *
  generalize (12 == j) = b12 at *
  generalize (13 == j) = b13 at *
  generalize (14 == j) = b14 at *
  simp [F_law_kinds, body_law_kinds, a_law_kinds, k0, k1, k2, k3, k4, k5, k6, k7, k8, k9, k10, k11, k12, k13, k14, k15, k16, s1, s2, s3, s4]
  exact h
theorem alone_w {a : Addr} {c : Str} {j : Nat} {Q : Fo → Prop} (k : Kd c j) (hj : j < 15) (h : Q (.ok (.bl true) [.adr a, .int j])) : W (F_law_alone a c [.adr a, .int j]) Q := by
  have h15 : inR 15 := inR_le (by omega) (by omega)
  have s4 : (17 : Nat) ≤ sizeLine := le_size (by omega)
  simp [F_law_alone, body_law_alone, a_law_alone, h15]
  refine kinds_w k ?_
  simp [h15]
  refine W_lcN (fun n acc ρ => acc = ((List.range n).map fun (k : Nat) => k == j).map D.bl ∧ ρ = [.adr a, .int j, .unk]) ⟨rfl, rfl⟩ (le_size (by omega)) ?_ ?_
  · rintro n acc ρ hn ⟨rfl, rfl⟩ J hJ
    simp
    refine hJ _ _ ⟨?_, rfl⟩
    rw [List.range_succ, List.map_append, List.map_append]
    congr 1
    simp
    by_cases e : n = j
    · subst e; simp
    · have e1 : ¬ ((n : Int) = (j : Int)) := by omega
      rw [decide_eq_false e1]
      show [D.bl false] = [D.bl (n == j)]
      rw [beq_eq_false_iff_ne.mpr e]
  · rintro acc ρ ⟨rfl, rfl⟩
    have e2 : gAdd (.lst true (((List.range 15).map fun (k : Nat) => k == j).map D.bl)) (.lst true [.bl true, .bl true]) = some (.lst true ((kb j).map D.bl)) := by
      show (if (((List.range 15).map fun (k : Nat) => k == j).map D.bl).length + [D.bl true, .bl true].length ≤ sizeLine then some (D.lst true (((List.range 15).map fun (k : Nat) => k == j).map D.bl ++ [D.bl true, .bl true])) else none) = _
      rw [if_pos (by simp; exact s4)]
      rfl
    have e3 := eq_kb hj
    generalize ((List.range 15).map fun (k : Nat) => k == j) = ks at e2 ⊢
    generalize (kb j) = ls at e2 e3 ⊢
    simp [e2, e3]
    exact h
end G
set_option Elab.async false
set_option linter.all false
set_option maxRecDepth 100000
set_option maxHeartbeats 4000000
noncomputable section
namespace G
open PySem PySem.Spec L2 VS
def cutT (ts : List Th) (lo hi : Option Int) : List Th := (ts.drop (HT.sIx ts.length 0 lo)).take (HT.sIx ts.length ts.length hi - HT.sIx ts.length 0 lo)
theorem cut_thD {ts : List Th} {lo hi : Option Int} : cutD (ts.map thD) lo hi = (cutT ts lo hi).map thD := by
  unfold cutD cutT
  rw [List.length_map, List.map_take, List.map_drop]
theorem cutT_mem {ts : List Th} {lo hi : Option Int} {t : Th} (h : t ∈ cutT ts lo hi) : t ∈ ts := List.mem_of_mem_drop (List.mem_of_mem_take h)
theorem cutT_len {ts : List Th} {lo hi : Option Int} : (cutT ts lo hi).length ≤ ts.length := by
  unfold cutT
  rw [List.length_take, List.length_drop]
  omega
theorem gMulF1 {d : D} {k : Int} (f : fz d = true) (h0 : 0 ≤ k) (h1 : k < 2) : gMulF (.lst true [d]) (.int k) = some (.lst true (List.replicate k.toNat d)) := by
  have hk : k = 0 ∨ k = 1 := by omega
  have s0 : (0 : Nat) ≤ sizeLine := Nat.zero_le _
  have s1 : (1 : Nat) ≤ sizeLine := le_size (by omega)
  have i0 : in63 0 := ⟨by decide, by decide⟩
  have i1 : in63 1 := ⟨by decide, by decide⟩
  rcases hk with rfl | rfl
  · simp [gMulF, i0, s0, fzL, f]
  · simp [gMulF, i1, s1, fzL, f]
theorem gMulN {k : Int} (h0 : 0 ≤ k) (h1 : k < 2) : gMulA (.lst true [.non]) (.int k) = some (.lst true (List.replicate k.toNat .non)) := by
  have hk : k = 0 ∨ k = 1 := by omega
  have s0 : (0 : Nat) ≤ sizeLine := Nat.zero_le _
  have s1 : (1 : Nat) ≤ sizeLine := le_size (by omega)
  have i0 : in63 0 := ⟨by decide, by decide⟩
  have i1 : in63 1 := ⟨by decide, by decide⟩
  have sc : scAll [.non] = true := rfl
  rcases hk with rfl | rfl
  · simp [gMulA, i0, s0, sc]
  · simp [gMulA, i1, s1, sc]
theorem many2_w {s : Jar} {Q : Fo → Prop} (h : ∀ (ts : List Th) s', (∀ t ∈ ts, t.wf) → ts.length ≤ 500 → Q (.ok (.lst true (ts.map thD)) [jarD s'])) : W (F_law_too_many [jarD s]) Q := by
  have r59 : inR 59 := inR_le (by omega) (by omega)
  have r58 : inR 58 := inR_le (by omega) (by omega)
  have r57 : inR 57 := inR_le (by omega) (by omega)
  have r56 : inR 56 := inR_le (by omega) (by omega)
  have pw : gPow (.int 10) (.int 30) = some (.int 1000000000000000000000000000000) := rfl
  simp [F_law_too_many, body_law_too_many, a_law_too_many, r59]
  refine W_lcN (fun k acc ρ => ∃ (ts : List Th) (s' : Jar), acc = ts.map thD ∧ ρ = [jarD s', .unk, .unk, .unk] ∧ (∀ t ∈ ts, t.wf) ∧ ts.length = k) ⟨[], s, rfl, rfl, by simp, rfl⟩ (le_size (by omega)) ?_ ?_
  · rintro k acc ρ hk ⟨ts, s', rfl, rfl, wf, rfl⟩ J hJ
    simp
    refine take_w (by omega) fun x s2 x0 x1 => ?_
    simp
    refine hJ _ _ ⟨ts ++ [.row false ts.length (ts.length + 1) (1 + x)], s2, by rw [List.map_append]; rfl, rfl, fun t ht => ?_, by simp⟩
    rcases List.mem_append.mp ht with ht | ht
    · exact wf t ht
    · rw [List.mem_singleton] at ht
      subst ht
      trivial
  · rintro acc ρ ⟨ts, s1, rfl, rfl, wf, ln⟩
    simp [r58, r57, r56]
    refine W_lcN (fun k acc ρ => ∃ (ts' : List Th), acc = ts'.map thD ∧ ρ = [jarD s1, .lst true (ts.map thD), .unk, .unk] ∧ (∀ t ∈ ts', t.wf) ∧ ts'.length = k) ⟨[], rfl, rfl, by simp, rfl⟩ (le_size (by omega)) ?_ ?_
    · rintro k acc ρ hk ⟨ts', rfl, rfl, wf', rfl⟩ J hJ
      simp []
      refine hJ _ _ ⟨ts' ++ [.row false ts'.length (ts'.length + 2) 2], by rw [List.map_append]; rfl, rfl, fun t ht => ?_, by simp⟩
      rcases List.mem_append.mp ht with ht | ht
      · exact wf' t ht
      · rw [List.mem_singleton] at ht
        subst ht
        trivial
    · rintro acc ρ ⟨t2, rfl, rfl, wft2, lnt2⟩
      simp [r57]
      refine W_lcN (fun k acc ρ => ∃ (ts' : List Th), acc = ts'.map thD ∧ ρ = [jarD s1, .lst true (ts.map thD), .unk, .unk] ∧ (∀ t ∈ ts', t.wf) ∧ ts'.length = k) ⟨[], rfl, rfl, by simp, rfl⟩ (le_size (by omega)) ?_ ?_
      · rintro k acc ρ hk ⟨ts', rfl, rfl, wf', rfl⟩ J hJ
        simp []
        refine hJ _ _ ⟨ts' ++ [.row false ts'.length (ts'.length + 3) 3], by rw [List.map_append]; rfl, rfl, fun t ht => ?_, by simp⟩
        rcases List.mem_append.mp ht with ht | ht
        · exact wf' t ht
        · rw [List.mem_singleton] at ht
          subst ht
          trivial
      · rintro acc ρ ⟨t3, rfl, rfl, wft3, lnt3⟩
        have le1 : t2.length + t3.length ≤ sizeLine := le_size (by omega)
        have le2 : ts.length + (t2.length + t3.length) ≤ sizeLine := le_size (by omega)
        simp [le1, le2, r56]
        rw [show ts.map thD ++ (t2.map thD ++ t3.map thD) = (ts ++ (t2 ++ t3)).map thD by simp]
        have wfA : ∀ t ∈ ts ++ (t2 ++ t3), t.wf := fun t ht => by
          rcases List.mem_append.mp ht with ht | ht
          · exact wf t ht
          · rcases List.mem_append.mp ht with ht | ht
            · exact wft2 t ht
            · exact wft3 t ht
        have lnA : (ts ++ (t2 ++ t3)).length = 174 := by simp; omega
        generalize ts ++ (t2 ++ t3) = tA at wfA lnA ⊢
        refine W_lcN (fun k acc ρ => ∃ (ts' : List Th), acc = ts'.map thD ∧ ρ = [jarD s1, .lst true (tA.map thD), .unk, .unk] ∧ (∀ t ∈ ts', t.wf) ∧ ts'.length = k) ⟨[], rfl, rfl, by simp, rfl⟩ (le_size (by omega)) ?_ ?_
        · rintro k acc ρ hk ⟨ts', rfl, rfl, wf', rfl⟩ J hJ
          simp [pw]
          refine hJ _ _ ⟨ts' ++ [.row false ts'.length (ts'.length + 4) 1000000000000000000000000000000], by rw [List.map_append]; rfl, rfl, fun t ht => ?_, by simp⟩
          rcases List.mem_append.mp ht with ht | ht
          · exact wf' t ht
          · rw [List.mem_singleton] at ht
            subst ht
            trivial
        · rintro acc ρ ⟨t4, rfl, rfl, wft4, lnt4⟩
          have le3 : tA.length + t4.length ≤ sizeLine := le_size (by omega)
          have flA := fzL_th wfA
          have frA := frL_th wfA
          have fl4 := fzL_th wft4
          have fr4 := frL_th wft4
          simp [le3, flA, frA, fl4, fr4]
          simp only [← List.map_append]
          have wfB : ∀ t ∈ tA ++ t4, t.wf := fun t ht => by
            rcases List.mem_append.mp ht with ht | ht
            · exact wfA t ht
            · exact wft4 t ht
          have lnB : (tA ++ t4).length = 230 := by simp; omega
          generalize tA ++ t4 = tB at wfB lnB ⊢
          have flB := fzL_th wfB
          have frB := frL_th wfB
          refine take_w (by omega) fun x s2 x0 x1 => ?_
          simp [cut_thD]
          refine take_w (by omega) fun y s3 y0 y1 => ?_
          have gN := gMulN y0 y1
          generalize hC : cutT tB none (some (220 + x)) = tC
          have wfC : ∀ t ∈ tC, t.wf := fun t ht => wfB t (by rw [← hC] at ht; exact cutT_mem ht)
          have lnC : tC.length ≤ 230 := by rw [← hC, ← lnB]; exact cutT_len
          have le4 : tC.length + y.toNat ≤ sizeLine := le_size (by omega)
          simp [gN, le4]
          have eD : tC.map thD ++ List.replicate y.toNat D.non = (tC ++ List.replicate y.toNat (Th.odd .non)).map thD := by rw [List.map_append, List.map_replicate]; rfl
          rw [eD]
          have wfD : ∀ t ∈ tC ++ List.replicate y.toNat (Th.odd .non), t.wf := fun t ht => by
            rcases List.mem_append.mp ht with ht | ht
            · exact wfC t ht
            · rw [(List.mem_replicate.mp ht).2]
              exact odd_no rfl rfl
          have lnD : (tC ++ List.replicate y.toNat (Th.odd .non)).length ≤ 232 := by simp; omega
          generalize tC ++ List.replicate y.toNat (Th.odd .non) = tD at wfD lnD ⊢
          have flD := fzL_th wfD
          have frD := frL_th wfD
          refine take_w (by omega) fun at_ s4 a0 a1 => ?_
          simp [flD, frD, cut_thD]
          generalize hE : cutT tD none (some at_) = tE
          have wfE : ∀ t ∈ tE, t.wf := fun t ht => wfD t (by rw [← hE] at ht; exact cutT_mem ht)
          have lnE : tE.length ≤ 232 := by rw [← hE]; exact Nat.le_trans cutT_len lnD
          have flE := fzL_th wfE
          have frE := frL_th wfE
          simp [flE, frE, frzO]
          refine badth_w (by omega) (by omega) (by omega) wfE fun d t s5 wt et => ?_
          have ft := fz_thD wt
          have one : (1 : Nat) ≤ sizeLine := le_size (by omega)
          simp [et, ft, one]
          refine take_w (by omega) fun z s6 z0 z1 => ?_
          have gm := gMulF1 ft z0 z1
          generalize hG : cutT tD (some at_) none = tG
          have wfG : ∀ t ∈ tG, t.wf := fun t ht => wfD t (by rw [← hG] at ht; exact cutT_mem ht)
          have lnG : tG.length ≤ 232 := by rw [← hG]; exact Nat.le_trans cutT_len lnD
          have le5 : tE.length + z.toNat ≤ sizeLine := le_size (by omega)
          have le6 : tE.length + z.toNat + tG.length ≤ sizeLine := le_size (by omega)
          have le7 : tE.length + (z.toNat + tG.length) ≤ sizeLine := le_size (by omega)
          simp [gm, le5, flD, frD, cut_thD, hG, le6, le7]
          rw [show tE.map thD ++ (List.replicate z.toNat (thD t) ++ tG.map thD) = (tE ++ (List.replicate z.toNat t ++ tG)).map thD by simp]
          refine h _ _ (fun u hu => ?_) (by simp; omega)
          rcases List.mem_append.mp hu with hu | hu
          · exact wfE u hu
          · rcases List.mem_append.mp hu with hu | hu
            · rw [(List.mem_replicate.mp hu).2]
              exact wt
            · exact wfG u hu
theorem yesB : ("BadWeb" : Str) ∈ yes_LoneError := by decide +kernel
theorem yesA : ("Apart" : Str) ∈ yes_LoneError := by decide +kernel
theorem kdB : Kd "BadWeb" 12 := by constructor <;> decide +kernel
theorem kdA : Kd "Apart" 14 := by constructor <;> decide +kernel
theorem lawtold_w {m x : D} {Q : Fo → Prop} (fm : fz m = true) (fx : fz x = true) (h : ∀ Q' : Fo → Prop, (∀ n : Int, Q (.ok (.tup [.str "bad", .int n]) [m, x]) → Q' (.ex ⟨"BadWeb", some ("at", n)⟩ [m, x])) → (∀ n : Int, Q (.ok (.tup [.str "apart", .int n]) [m, x]) → Q' (.ex ⟨"Apart", some ("place", n)⟩ [m, x])) → (∀ d, fz d = true → Q (.ok d [m, x]) → Q' (.ok d [m, x])) → W (F_made_web [m, x]) Q') : W (F_law_told [m, x]) Q := by
  simp [F_law_told, body_law_told, a_law_told, fm, fx]
  refine h _ (fun n q => ?_) (fun n q => ?_) fun d fd q => ?_
  · have y := yesB
    have k1 : tabAny isT "BadWeb" ["BadWeb"] = some true := kdB.k12
    have m1 : ("BadWeb" : Str) ∈ flds_at := by decide +kernel
    simp [y]
    refine W_onAll (r := (.nx, [m, x, .tup [.str "bad", .int n], .unk])) (by trivial) (fun a => ?_) ?_
    · simp [k1]
      refine alone_w (j := 12) kdB (by decide) ?_
      simp [m1, ite_app, fldD, fm, fx]
    · simp [fm, fx]
      exact q
  · have y := yesA
    have k1 : tabAny isT "Apart" ["BadWeb"] = some false := kdA.k12
    have k2 : tabAny isT "Apart" ["Apart"] = some true := kdA.k14
    have m1 : ("Apart" : Str) ∈ flds_place := by decide +kernel
    simp [y]
    refine W_onAll (r := (.nx, [m, x, .tup [.str "apart", .int n], .unk])) (by trivial) (fun a => ?_) ?_
    · simp [k1, k2]
      refine alone_w (j := 14) kdA (by decide) ?_
      simp [m1, ite_app, fldD, fm, fx]
    · simp [fm, fx]
      exact q
  · simp
    exact ⟨fd, q⟩
end G
set_option Elab.async false
set_option linter.all false
set_option maxRecDepth 100000
set_option maxHeartbeats 4000000
noncomputable section
namespace G
open PySem PySem.Spec L2 VS
def tieR (rows : List R3) (a b l : Int) : List R3 := if a ≠ b ∧ (min a b, max a b) ∉ rows.map kp then rows ++ [(min a b, max a b, l)] else rows
theorem tie_w {rows : List R3} {a b l : Int} {Q : Fo → Prop} (hs : rows.length < sizeLine) (h : Q (.ok .non [dR true (tieR rows a b l), .int a, .int b, .int l])) : W (F_law_tie [dR true rows, .int a, .int b, .int l]) Q := by
  by_cases c : a = b
  · subst c
    have e : tieR rows a a l = rows := by simp [tieR]
    rw [e] at h
    simp [F_law_tie, body_law_tie, a_law_tie, ite_app]
    exact h
  · by_cases n : (min a b, max a b) ∈ rows.map kp
    · have e : tieR rows a b l = rows := by unfold tieR; rw [if_neg]; exact fun z => z.2 n
      rw [e] at h
      simp only [List.mem_map] at n
      simp [F_law_tie, body_law_tie, a_law_tie, ite_app, c, has_dR, n]
      exact h
    · have e : tieR rows a b l = rows ++ [(min a b, max a b, l)] := by unfold tieR; rw [if_pos ⟨c, n⟩]
      rw [e] at h
      have n2 := n
      simp only [List.mem_map] at n2
      simp [F_law_tie, body_law_tie, a_law_tie, ite_app, c, has_dR, n2, put_dR hs n]
      exact h
structure Hb (many : Int) (rows : List R3) : Prop where
  nd : (rows.map kp).Nodup
  en : ∀ r ∈ rows, 0 ≤ r.1 ∧ r.1 < r.2.1 ∧ r.2.1 < many
  ln : ∀ r ∈ rows, 1 ≤ r.2.2 ∧ r.2.2 ≤ 1000000000000000000000000000000
theorem Hb.tie {many : Int} {rows : List R3} {a b l : Int} (h : Hb many rows) (ha : 0 ≤ a ∧ a < many) (hb : 0 ≤ b ∧ b < many) (hl : 1 ≤ l ∧ l ≤ 1000000000000000000000000000000) : Hb many (tieR rows a b l) := by
  unfold tieR
  split
  · rename_i c
    obtain ⟨c, n⟩ := c
    refine ⟨?_, ?_, ?_⟩
    · rw [List.map_append]
      refine List.nodup_append.mpr ⟨h.nd, by simp, ?_⟩
      intro x hx y hy e
      simp [kp] at hy
      subst e
      subst hy
      exact n hx
    · intro r hr
      rcases List.mem_append.mp hr with hr | hr
      · exact h.en r hr
      · rw [List.mem_singleton] at hr
        subst hr
        simp only
        omega
    · intro r hr
      rcases List.mem_append.mp hr with hr | hr
      · exact h.ln r hr
      · rw [List.mem_singleton] at hr
        subst hr
        exact hl
  · exact h
theorem tieR_len {rows : List R3} {a b l : Int} : (tieR rows a b l).length ≤ rows.length + 1 := by
  unfold tieR
  split <;> simp
theorem tieR_sub {rows : List R3} {a b l : Int} {p : Int × Int} (h : p ∈ rows.map kp) : p ∈ (tieR rows a b l).map kp := by
  unfold tieR
  split
  · rw [List.map_append]; exact List.mem_append_left _ h
  · exact h
theorem tieR_in {rows : List R3} {a b l : Int} (h : a ≠ b) : (min a b, max a b) ∈ (tieR rows a b l).map kp := by
  unfold tieR
  split
  · rw [List.map_append]; exact List.mem_append_right _ (by simp [kp])
  · rename_i c
    by_cases n : (min a b, max a b) ∈ rows.map kp
    · exact n
    · exact absurd ⟨h, n⟩ c
theorem Tree.sub {os : List Int} {rows : List R3} {k : Nat} {a b l : Int} (h : Tree os rows k) : Tree os (tieR rows a b l) k := fun j h1 h2 => by
  obtain ⟨i, hi, hm⟩ := h j h1 h2
  exact ⟨i, hi, tieR_sub hm⟩
structure Hd (many : Int) (rows : List R3) : Prop extends Hb many rows where
  le : rows.length ≤ 220
  cn : Conn many rows
theorem Conn.tie {many : Int} {rows : List R3} {a b l : Int} (h : Conn many rows) : Conn many (tieR rows a b l) := fun S h0 hS => h S h0 fun r hr => hS r (by
  unfold tieR
  split
  · exact List.mem_append_left _ hr
  · exact hr)
end G
set_option Elab.async false
set_option linter.all false
set_option maxRecDepth 100000
set_option maxHeartbeats 4000000
noncomputable section
namespace G
open PySem PySem.Spec L2 VS
theorem held_w {s : Jar} {many : Int} {Q : Fo → Prop} (h1 : 1 ≤ many) (h2 : many ≤ 60) (h : ∀ rows s', Hd many rows → Q (.ok (dR true rows) [jarD s', .int many])) : W (F_law_held [jarD s, .int many]) Q := by
  have hR := inR_le (show 0 ≤ many by omega) (by omega)
  have h600 : inR 600 := inR_le (by omega) (by omega)
  simp [F_law_held, body_law_held, a_law_held]
  refine order_w (by omega) (by omega) fun os s1 ho => ?_
  have hol : os.length = many.toNat := by rw [ho.length_eq, len_rangeI]
  simp
  refine take_w (by omega) fun kind s2 k0 k1 => ?_
  simp [hR]
  refine W_forN (fun k ρ => ∃ (s : Jar) (rows : List R3) (y : D), ρ = [jarD s, .int many, .lst true (os.map D.int), .int kind, dR true rows, y] ∧ Hb many rows ∧ Tree os rows k ∧ rows.length ≤ k) ⟨s2, [], _, rfl, ⟨by simp, by simp, by simp⟩, fun j h1 h2 => by omega, by simp⟩ ?_ ?_
  · rintro k ρ hk ⟨s, rows, y, rfl, hb, ht, hl⟩ J hJ
    have a1 := atI_int (xs := os) (i := 1 + (k : Int)) (by omega) (by omega)
    simp [a1]
    refine take_w (by omega) fun x s2 x0 x1 => ?_
    simp
    refine take_w (by omega) fun b s3 b0 b1 => ?_
    simp
    refine W_pick (l := [x, 1 + (k : Int) - 1]) (n := 2) rfl b0 b1 fun z hz => ?_
    have hz : 0 ≤ z ∧ z ≤ k := by simp at hz; omega
    have a2 := atI_int (xs := os) (i := z) (by omega) (by omega)
    simp [a2]
    refine length_w fun l s4 l1 l2 => ?_
    simp
    refine tie_w (lt_size (by omega)) ?_
    simp
    have e1 : (1 + (k : Int)).toNat = k + 1 := by omega
    have p1 := os_at ho h1 (k + 1)
    have p2 := os_at ho h1 z.toNat
    have ne := os_ne ho (i := k + 1) (j := z.toNat) (by omega) (by omega) (by omega)
    rw [e1]
    refine hJ _ ⟨s4, _, _, rfl, hb.tie p1 p2 ⟨l1, l2⟩, ?_, by have := @tieR_len rows (os[k + 1]?.getD 0) (os[z.toNat]?.getD 0) l; omega⟩
    intro j j1 j2
    by_cases c : j ≤ k
    · exact ht.sub j j1 c
    · have : j = k + 1 := by omega
      subst this
      exact ⟨z.toNat, by omega, tieR_in ne⟩
  · rintro ρ ⟨s, rows, y, rfl, hb, ht, hl⟩
    have cn : Conn many rows := Tree.conn ho (by rw [hol]; exact (show (many - 1).toNat = many.toNat - 1 by omega) ▸ ht)
    simp
    refine take_w (by omega) fun x s2 x0 x1 => ?_
    simp
    refine W_pick (l := [0, 1, 2, 3, 4, 6, 12, 24]) (n := 8) rfl x0 x1 fun n hn => ?_
    have hn : 0 ≤ n ∧ n ≤ 24 := by simp at hn; omega
    have hRn := inR_le hn.1 (by omega)
    simp [hRn]
    refine W_forN (fun k ρ => ∃ (s : Jar) (rows : List R3) (y : D), ρ = [jarD s, .int many, .lst true (os.map D.int), .int kind, dR true rows, y] ∧ Hb many rows ∧ Conn many rows ∧ rows.length ≤ 60 + k) ⟨s2, rows, _, rfl, hb, cn, by omega⟩ ?_ ?_
    · rintro k ρ hk ⟨s, rows, y, rfl, hb, cn, hl⟩ J hJ
      simp
      refine take_w (by omega) fun x s2 x0 x1 => ?_
      simp
      refine take_w (by omega) fun z s3 z0 z1 => ?_
      simp
      refine length_w fun l s4 l1 l2 => ?_
      simp
      refine tie_w (lt_size (by omega)) ?_
      simp
      exact hJ _ ⟨s4, _, _, rfl, hb.tie ⟨x0, x1⟩ ⟨z0, z1⟩ ⟨l1, l2⟩, cn.tie, by have := @tieR_len rows x z l; omega⟩
    · rintro ρ ⟨s, rows, y, rfl, hb, cn, hl⟩
      by_cases c : 22 < many
      · simp [c]
        refine take_w (by omega) fun x s2 x0 x1 => ?_
        simp [ite_app, W_if, h600]
        refine ⟨fun _ => ?_, fun _ => h rows s2 ⟨hb, by omega, cn⟩⟩
        refine W_forN (fun k ρ => ∃ (s : Jar) (rows : List R3) (y : D), ρ = [jarD s, .int many, .lst true (os.map D.int), .int kind, dR true rows, y] ∧ Hb many rows ∧ Conn many rows ∧ rows.length ≤ 220) ⟨s2, rows, _, rfl, hb, cn, by omega⟩ ?_ ?_
        · rintro k ρ hk ⟨s, rows, y, rfl, hb, cn, hl⟩ J hJ
          simp [ite_app, W_if]
          refine ⟨fun hlt => ?_, fun _ => hJ _ ⟨s, rows, _, rfl, hb, cn, hl⟩⟩
          refine take_w (by omega) fun x s2 x0 x1 => ?_
          simp
          refine take_w (by omega) fun z s3 z0 z1 => ?_
          simp
          refine length_w fun l s4 l1 l2 => ?_
          simp
          refine tie_w (lt_size (by omega)) ?_
          simp
          exact hJ _ ⟨s4, _, _, rfl, hb.tie ⟨x0, x1⟩ ⟨z0, z1⟩ ⟨l1, l2⟩, cn.tie, by have := @tieR_len rows x z l; omega⟩
        · rintro ρ ⟨s, rows, y, rfl, hb, cn, hl⟩
          simp
          exact h rows s ⟨hb, hl, cn⟩
      · simp [c, ite_app]
        exact h rows s ⟨hb, by omega, cn⟩
theorem many_w {s : Jar} {b : Bool} {Q : Fo → Prop} (h : ∀ m s', 1 ≤ m → m ≤ 60 → Q (.ok (.int m) [jarD s', .bl b])) : W (F_law_many [jarD s, .bl b]) Q := by
  simp [F_law_many, body_law_many, a_law_many]
  refine take_w (by omega) fun x s2 x0 x1 => ?_
  simp
  refine W_pick (l := [5, 4, 6, 3, 7, 2, 8, 1]) (n := 8) rfl x0 x1 fun m hm => ?_
  have hm : 1 ≤ m ∧ m ≤ 8 := by simp at hm; omega
  cases b with
  | false =>
    simp [ite_app]
    exact h m s2 hm.1 (by omega)
  | true =>
    simp
    refine take_w (by omega) fun y s3 y0 y1 => ?_
    simp [ite_app, W_if]
    refine ⟨fun _ => ?_, fun _ => h m s3 hm.1 (by omega)⟩
    refine take_w (by omega) fun z s4 z0 z1 => ?_
    simp
    exact h _ s4 (by omega) (by omega)
theorem web_w {s : Jar} {b : Bool} {Q : Fo → Prop} (h : ∀ m rows s', 1 ≤ m → m ≤ 60 → Hd m rows → Q (.ok (webD m (sort3 rows)) [jarD s', .bl b])) : W (F_law_web [jarD s, .bl b]) Q := by
  simp [F_law_web, body_law_web, a_law_web]
  refine many_w fun m s2 m1 m2 => ?_
  simp
  refine held_w m1 m2 fun rows s3 hd => ?_
  have hs := hd.le
  have es : gSorted [dR false rows] = some (.lst true ((sP (rows.map kp)).map pD)) := by
    unfold dR
    rw [u_sortP (le_size (by simp; omega)), pD_tI]
  simp [es]
  refine W_lcAll (fun p => rD (p.1, p.2, (look (rows.map kp) (rows.map lnR) p).getD 0)) (le_size (by rw [(sP_perm _).length_eq]; simp; omega)) ?_ ?_
  · intro p hp J acc hj
    have hk : p ∈ rows.map kp := (sP_perm _).mem_iff.mp hp
    obtain ⟨r, hr, rfl⟩ := List.mem_map.mp hk
    have e := look_row hd.nd hr
    simp [dR, u_lookP]
    rw [show ((kp r).1, (kp r).2) = kp r from rfl, e]
    simp [rD_def]
    rw [e] at hj
    exact hj
  · have e : (sP (rows.map kp)).map (fun p => rD (p.1, p.2, (look (rows.map kp) (rows.map lnR) p).getD 0)) = (sort3 rows).map rD := by
      rw [← rows_sorted hd.nd, List.map_map]
      rfl
    rw [e]
    simp
    exact h m rows s3 m1 m2 hd
end G
set_option Elab.async false
set_option linter.all false
set_option maxRecDepth 100000
set_option maxHeartbeats 4000000
noncomputable section
namespace G
open PySem PySem.Spec L2 VS
inductive Out (many : Int) (ts : List Th) : D → Prop
  | bad (n : Nat) (e : scan many ts 0 [] = .inl n) : Out many ts (.tup [.str "bad", .int n])
  | apart (rows : List R3) (p : Int) (e : scan many ts 0 [] = .inr rows) (l : LeastA many rows p) : Out many ts (.tup [.str "apart", .int p])
  | web (rows : List R3) (e : scan many ts 0 [] = .inr rows) (h : Hk many rows) (a : ∀ q, 0 ≤ q → q < many → Rc rows q) : Out many ts (webD many (sort3 rows))
theorem Out.uniq {many : Int} {ts : List Th} {d d' : D} (h : Out many ts d) (h' : Out many ts d') : d = d' := by
  cases h with
  | bad n e =>
    cases h' with
    | bad n' e' =>
      rw [e] at e'
      rw [Sum.inl.inj e']
    | apart rows p e' l => rw [e] at e'; cases e'
    | web rows e' hk a => rw [e] at e'; cases e'
  | apart rows p e l =>
    cases h' with
    | bad n' e' => rw [e] at e'; cases e'
    | apart rows' p' e' l' =>
      rw [e] at e'
      have := Sum.inr.inj e'
      subst this
      have : p = p' := by
        by_cases c1 : p < p'
        · exact absurd (l'.2.2.2 p l.1 c1) l.2.2.1
        · by_cases c2 : p' < p
          · exact absurd (l.2.2.2 p' l'.1 c2) l'.2.2.1
          · omega
      rw [this]
    | web rows' e' hk a =>
      rw [e] at e'
      have := Sum.inr.inj e'
      subst this
      exact absurd (a p l.1 l.2.1) l.2.2.1
  | web rows e hk a =>
    cases h' with
    | bad n' e' => rw [e] at e'; cases e'
    | apart rows' p' e' l' =>
      rw [e] at e'
      have := Sum.inr.inj e'
      subst this
      exact absurd (a p' l'.1 l'.2.1) l'.2.2.1
    | web rows' e' hk' a' =>
      rw [e] at e'
      rw [Sum.inr.inj e']
theorem ne_tsi {x : Str} {n : Int} (hx : PyData.canLay0 (.str x) = true) : gNe (.tup [.str x, .int n]) (.tup [.str x, .int n]) = some (.bl false) := by
  have h : nb 9 (.tup [.str x, .int n]) = true := by simp [nb, nbL, hx]
  unfold gNe
  rw [eqD_nb h h]
  simp
theorem Out.ne {many : Int} {ts : List Th} {d : D} (h : Out many ts d) : fz d = true ∧ gNe d d = some (.bl false) := by
  cases h with
  | bad n e => exact ⟨rfl, ne_tsi (by decide +kernel)⟩
  | apart rows p e l => exact ⟨rfl, ne_tsi (by decide +kernel)⟩
  | web rows e hk a =>
    refine ⟨by simp, ?_⟩
    have hx : nb 9 (webD many (sort3 rows)) = true := by simp
    unfold gNe
    rw [eqD_nb hx hx]
    simp
theorem told_out {many : Int} {x : D} {ts : List Th} {Q : Fo → Prop} (hx : x = .tup (ts.map thD) ∨ x = .lst false (ts.map thD)) (h1 : 1 ≤ many) (h2 : many ≤ 60) (wf : ∀ t ∈ ts, t.wf) (h : ∀ d, Out many ts d → Q (.ok d [.int many, x])) : W (F_law_told [.int many, x]) Q := by
  have fzx : fz x = true := by rcases hx with rfl | rfl <;> simp [fz, fzL_th wf]
  exact lawtold_w rfl fzx fun Q' b a o => made3_w hx h1 h2 wf (fun n e => b n (h _ (.bad n e))) (fun rows e hk p l => a p (h _ (.apart rows p e l))) fun rows e hk al => o _ (by simp) (h _ (.web rows e hk al))
theorem due_out {many : Int} {x : D} {ts : List Th} {Q : Fo → Prop} (hx : x = .tup (ts.map thD) ∨ x = .lst false (ts.map thD)) (h1 : 1 ≤ many) (h2 : many ≤ 60) (hl : ts.length ≤ 1000) (wf : ∀ t ∈ ts, t.wf) (h : ∀ d, Out many ts d → Q (.ok d [.int many, x])) : W (F_law_due [.int many, x]) Q :=
  due_w hx h1 h2 hl wf (fun n e => h _ (.bad n e)) (fun rows e hk p l => h _ (.apart rows p e l)) fun rows e hk al => h _ (.web rows e hk al)
def OddM (d : D) : Prop := (∃ i, d = .int i ∧ ¬ (1 ≤ i ∧ i ≤ 60)) ∨ (Pt d ∧ isN d = false)
theorem bad_out {m x : D} {Q : Fo → Prop} (fm : fz m = true) (fx : fz x = true) (c : OddM m ∨ (∃ i, m = .int i) ∧ gIsa ["list", "tuple"] x = some (.bl false)) (h : Q (.ok (.tup [.str "bad", .int (-1)]) [m, x])) : W (F_law_told [m, x]) Q := by
  refine lawtold_w fm fx fun Q' b a o => ?_
  have q := b (-1) h
  simp [F_made_web, body_made_web, a_made_web, F_is_row, body_is_row, a_is_row, fm, fx]
  rcases c with (⟨i, rfl, ni⟩ | ⟨p, n⟩) | ⟨⟨i, rfl⟩, gx⟩
  · refine isbtw_w ?_
    simp [ni, ite_app, fx]
    exact q
  · refine btw_no p n ?_
    simp [ite_app, fx, fm]
    exact q
  · refine isbtw_w ?_
    by_cases ci : 1 ≤ i ∧ i ≤ 60
    · simp [ci, ite_app, fx, gx]
      exact q
    · simp [ci, ite_app, fx]
      exact q
end G
set_option Elab.async false
set_option linter.all false
set_option maxRecDepth 100000
set_option maxHeartbeats 4000000
noncomputable section
namespace G
open PySem PySem.Spec L2 VS
theorem jar2_w {ns : List Int} {Q : Fo → Prop} (h : ∀ s, Q (.ok (jarD s) [.lst false (ns.map D.int)])) : W (F_law_jar [.lst false (ns.map D.int)]) Q := by
  have hp : (ns.take 63).length ≤ 63 := by simp; omega
  simp [F_law_jar, body_law_jar, a_law_jar, cut_take, ← List.map_take]
  refine W_forL (fun p ρ => ∃ (f : List Int) (y : D), ρ = [.lst false (ns.map D.int), .lst true (f.map D.int), y] ∧ f.length ≤ 60 * p.length) ⟨[], _, rfl, by simp⟩ ?_ ?_
  · rintro p x post ρ e ⟨f, y, rfl, hf⟩ J hJ
    have hp : p.length ≤ 63 := by
      have := congrArg List.length e
      simp at this
      omega
    simp
    refine row_w fun fs hfs => ?_
    have hs : f.length + fs.length ≤ sizeLine := le_size (by omega)
    simp [hs]
    exact hJ _ ⟨f ++ fs, _, by rw [List.map_append], by simp; omega⟩
  · rintro ρ ⟨f, y, rfl, hf⟩
    simp [disp_jD]
    exact h ⟨f, 0, _, by omega, md2 _⟩
def rowT (r : R3) : Th := .row false r.1 r.2.1 r.2.2
def rest2 : MS :=
    (dSeq (dIfS (dOrT (dTB (d2 gNe (dFn [none, none] F_law_told (dCons (dV 4) (dCons (dF 5) dNil))) (dFn [none, none] F_law_due (dCons (dV 4) (dCons (dF 5) dNil))))) (dTB (d2 gNe (dFn [none, none] F_law_told (dCons (dV 4) (dCons (dCall gTuple (dCons (dF 5) dNil)) dNil))) (dFn [none, none] F_law_due (dCons (dV 4) (dCons (dF 5) dNil))))))
    (dRet (dC (.bl false))) dSkip)
    (dSeq (dSet 7 (d2 gIx (dLst (dCons (dC (.int 0)) (dCons (dC (.int 61)) (dCons (d1 gNeg (dC (.int 1))) (dCons (dC (.bl true)) (dCons (dC .non) (dCons (dC (.str "5")) (dCons (dTup (dCons (dC (.int 5)) dNil)) (dCons (d2 gPow (dC (.int 10)) (dC (.int 30))) (dCons (dLst dNil) dNil)))))))))) (dFn [some 2, none] F_law_take (dIO 2 (dCons (dC (.int 9)) dNil)))))
    (dSeq (dPreS 7 (dSet 8 (d2 gIx (dLst (dCons (dC .non) (dCons (dC (.int 3)) (dCons (dC (.str "")) (dCons (dC (.dT true [] [])) (dCons (dC (.bl true)) (dCons (dC (.str "012")) dNil))))))) (dFn [some 2, none] F_law_take (dIO 2 (dCons (dC (.int 6)) dNil))))))
    (dPreS 8 (dFor (dItems (dLst (dCons (dTup (dCons (dV 7) (dCons (dF 5) dNil))) (dCons (dTup (dCons (dV 4) (dCons (dV 8) dNil))) (dCons (dTup (dCons (dV 7) (dCons (dV 8) dNil))) dNil))))) (gNm 9)
    (dIfS (dTB (d2 gNe (dFn [none, none] F_law_told (dCons (dAt 9 (dC (.int 0))) (dCons (dAt 9 (dC (.int 1))) dNil))) (dTup (dCons (dC (.str "bad")) (dCons (d1 gNeg (dC (.int 1))) dNil)))))
    (dRet (dC (.bl false))) dSkip))))))
def body2 : MS :=
    (dSeq (dFor (dItems (d2 gAdd (dLst (dCons (dCallS [none] gLen (dCons (dV 0) dNil)) dNil)) (dSl (dV 0) dNo (dEnd (dC (.int 9)))))) (gNm 1)
    (dSeq (dSet 2 (dFn [none] F_law_jar (dCons (dFz (dLst (dCons (dV 1) (dCons (d2 gAdd (d2 gDiv (dV 1) (dC (.int 7))) (dC (.int 1))) dNil)))) dNil)))
    (dSeq (dSet 3 (dFn [some 2, none] F_law_web (dIO 2 (dCons (dC (.bl false)) dNil))))
    (dSeq (dSet 4 (dAt 3 (dC (.int 0))))
    (dSeq (dSet 5 (dLc [10] (dItems (dFn [some 2, none] F_law_order (dIO 2 (dCons (dCallS [none] gLen (dCons (dAt 3 (dC (.int 1))) dNil)) dNil)))) (gNm 10) dYes (d2 gIx (dAt 3 (dC (.int 1))) (dV 10))))
    (dSeq (dFor (dRange1 (dCons (dFn [some 2, none] F_law_take (dIO 2 (dCons (dC (.int 3)) dNil))) dNil)) (gNm 6)
    (dSeq (dSet 10 (dFn [some 2, none] F_law_take (dIO 2 (dCons (d2 gAdd (dCallS [some 5] gLen (dIO 5 dNil)) (dC (.int 1))) dNil))))
    (dSet 5 (d2 gAdd (d2 gAdd (dSl (dF 5) dNo (dEnd (dV 10))) (dLst (dCons (dFn [some 2, none, none] F_law_bad_thing (dIO 2 (dCons (dV 4) (dCons (dFz (dSl (dF 5) dNo (dEnd (dV 10)))) dNil)))) dNil))) (dSl (dF 5) (dEnd (dV 10)) dNo)))))
    (dSeq (dIfS (dTB (d2 gEq (dFn [some 2, none] F_law_take (dIO 2 (dCons (dC (.int 3)) dNil))) (dC (.int 0))))
    (dSet 5 (dSl (dF 5) (dEnd (dFn [some 2, none] F_law_take (dIO 2 (dCons (dC (.int 2)) dNil)))) (dEnd (d2 gSub (dCallS [some 5] gLen (dIO 5 dNil)) (dFn [some 2, none] F_law_take (dIO 2 (dCons (dC (.int 10)) dNil))))))) dSkip)
    (dSeq (dIfS (dTB (d2 gEq (dFn [some 2, none] F_law_take (dIO 2 (dCons (dC (.int 16)) dNil))) (dC (.int 0))))
    (dPar 4 5 (dCons (dC (.int 60)) (dCons (dFn [some 2] F_law_too_many (dIO 2 dNil)) dNil))) dSkip)
    rest2))))))))
    (dRet (dC (.bl true))))
theorem F_law_2 : F_law = fnD 11 1 a_law body2 := rfl
def Rw (ds : List D) (ts : List Th) : Prop := freezeL ds = ts.map thD ∧ ∀ t ∈ ts, t.wf
theorem Rw.len {ds : List D} {ts : List Th} (h : Rw ds ts) : ds.length = ts.length := by
  have := congrArg List.length h.1
  rw [freezeL_map] at this
  simpa using this
theorem Rw.self {ts : List Th} (wf : ∀ t ∈ ts, t.wf) : Rw (ts.map thD) ts := ⟨frL_th wf, wf⟩
theorem cutT_two {ts : List Th} {y : Int} (y0 : 0 ≤ y) : (cutT ts none (some y)).length + (cutT ts (some y) none).length ≤ ts.length := by
  have e1 := congrArg List.length (@cut_thD ts none (some y))
  have e2 := congrArg List.length (@cut_thD ts (some y) none)
  rw [cut_take y0] at e1
  rw [cut_drop y0] at e2
  simp at e1 e2
  omega
theorem W_pickD {l : List D} {x n : Int} {Q : D → Prop} (hl : (l.length : Int) = n) (h0 : 0 ≤ x) (h1 : x < n) (h : ∀ d ∈ l, Q d) : W (atI l x) Q := by
  have hx : x.toNat < l.length := by omega
  rw [atI_lt h0 (List.getElem?_eq_getElem hx), W_some]
  exact h _ (List.getElem_mem hx)
theorem rest_w {ns0 : List Int} {cell m : Int} {s : Jar} {wd a6 a7 a8 a9 a10 : D} {ds : List D} {ts : List Th} {J : VS.Env → Prop} {Q : Fl × VS.Env → Prop} (m1 : 1 ≤ m) (m2 : m ≤ 60) (hw : Rw ds ts) (hl : ts.length ≤ 1000)
    (hJ : ∀ ρ', (∃ a1 a2 a3 a4 a5 a6 a7 a8 a9 a10, ρ' = [D.scr (List.map D.int ns0), a1, a2, a3, a4, a5, a6, a7, a8, a9, a10]) → J ρ') : W (rest2 [.scr (ns0.map D.int), .int cell, jarD s, wd, .int m, .lst true ds, a6, a7, a8, a9, a10]) (lQ J Q) := by
  have fl := fzL_th hw.2
  have fr := frL_th hw.2
  have fx : fz (.lst false (ts.map thD)) = true := by simp [fz, fl]
  unfold rest2
  simp [hw.1, fl, fr]
  refine told_out (.inr rfl) m1 m2 hw.2 fun d1 o1 => ?_
  have f1 := o1.ne.1
  simp [fx, fl, fr, f1]
  refine due_out (.inr rfl) m1 m2 hl hw.2 fun d2 o2 => ?_
  have e2 := o2.uniq o1
  subst e2
  have n1 := o1.ne.2
  simp [n1, fx, fl, fr, f1]
  refine told_out (.inl rfl) m1 m2 hw.2 fun d3 o3 => ?_
  have e3 := o3.uniq o1
  subst e3
  simp [n1, fx, fl, fr, f1]
  refine due_out (.inr rfl) m1 m2 hl hw.2 fun d4 o4 => ?_
  have e4 := o4.uniq o1
  subst e4
  have s9 : (9 : Nat) ≤ sizeLine := le_size (by omega)
  have s6 : (6 : Nat) ≤ sizeLine := le_size (by omega)
  have s3' : (3 : Nat) ≤ sizeLine := le_size (by omega)
  have s2' : (2 : Nat) ≤ sizeLine := le_size (by omega)
  simp [n1, fx, fl, fr, f1, ite_app, s9]
  refine take_w (by omega) fun x s2 x0 x1 => ?_
  simp
  refine W_pickD (n := 9) rfl x0 x1 fun d7 h7 => ?_
  have p7 : OddM (freeze d7) ∧ nunk (some d7) = true ∧ fz (freeze d7) = true := by
    simp only [List.mem_cons, List.not_mem_nil, or_false] at h7
    rcases h7 with rfl | rfl | rfl | rfl | rfl | rfl | rfl | rfl | rfl
    · exact ⟨.inl ⟨_, rfl, by omega⟩, rfl, rfl⟩
    · exact ⟨.inl ⟨_, rfl, by omega⟩, rfl, rfl⟩
    · exact ⟨.inl ⟨_, rfl, by omega⟩, rfl, rfl⟩
    · exact ⟨.inr ⟨.bl _, rfl⟩, rfl, rfl⟩
    · exact ⟨.inr ⟨.non, rfl⟩, rfl, rfl⟩
    · exact ⟨.inr ⟨.str _, rfl⟩, rfl, rfl⟩
    · exact ⟨.inr ⟨.tup _ rfl, rfl⟩, rfl, rfl⟩
    · exact ⟨.inl ⟨_, rfl, by omega⟩, rfl, rfl⟩
    · exact ⟨.inr ⟨.lst _ rfl, rfl⟩, rfl, rfl⟩
  obtain ⟨o7, u7, z7⟩ := p7
  simp [u7, s6]
  refine take_w (by omega) fun y s3 y0 y1 => ?_
  simp
  refine W_pickD (n := 6) rfl y0 y1 fun d8 h8 => ?_
  have p8 : gIsa ["list", "tuple"] (freeze d8) = some (.bl false) ∧ nunk (some d8) = true ∧ fz (freeze d8) = true := by
    simp only [List.mem_cons, List.not_mem_nil, or_false] at h8
    rcases h8 with rfl | rfl | rfl | rfl | rfl | rfl <;> exact ⟨rfl, rfl, rfl⟩
  obtain ⟨o8, u8, z8⟩ := p8
  generalize freeze d7 = o at o7 z7 ⊢
  have zo := freeze_fz _ z7
  have zq := freeze_fz _ z8
  simp [u8, z7, z8, zo, zq, fl, fr, s3', s2']
  generalize freeze d8 = q at o8 z8 zq ⊢
  rw [show [D.tup [o, D.lst false (ts.map thD)], D.tup [D.int m, q], D.tup [o, q]] = [(o, D.lst false (ts.map thD)), (D.int m, q), (o, q)].map fun p : D × D => D.tup [p.1, p.2] from rfl]
  refine W_forL (fun p ρ => ∃ (a9 : D), ρ = [.scr (ns0.map D.int), .int cell, jarD s3, wd, .int m, .lst false (ts.map thD), a6, o, q, a9, a10]) ⟨_, rfl⟩ ?_ ?_
  · rintro p ⟨x, y⟩ post ρ e ⟨a9, rfl⟩ J2 hJ2
    have hm : (x, y) ∈ [(o, D.lst false (ts.map thD)), (D.int m, q), (o, q)] := by rw [e]; simp
    have cc : fz x = true ∧ fz y = true ∧ (OddM x ∨ (∃ i, x = .int i) ∧ gIsa ["list", "tuple"] y = some (.bl false)) := by
      simp only [List.mem_cons, List.not_mem_nil, or_false, Prod.mk.injEq] at hm
      rcases hm with ⟨rfl, rfl⟩ | ⟨rfl, rfl⟩ | ⟨rfl, rfl⟩
      · exact ⟨z7, fx, .inl o7⟩
      · exact ⟨rfl, z8, .inr ⟨⟨_, rfl⟩, o8⟩⟩
      · exact ⟨z7, z8, .inl o7⟩
    obtain ⟨fx1, fy1, c⟩ := cc
    have k0 : ∀ x y : D, atI [x, y] 0 = some x := fun _ _ => rfl
    have k1 : ∀ x y : D, atI [x, y] 1 = some y := fun _ _ => rfl
    have nn := @ne_tsi "bad" (-1) (by decide +kernel)
    simp [fx1, fy1, k0, k1]
    refine bad_out fx1 fy1 c ?_
    simp [nn, fx1, fy1, ite_app]
    exact hJ2 _ ⟨_, rfl⟩
  · rintro ρ ⟨a9, rfl⟩
    simp
    exact hJ _ ⟨_, _, _, _, _, _, _, _, _, _, rfl⟩
theorem good : Always F_law := by
  intro ns0 hns
  have key : W (F_law [.scr (ns0.map D.int)]) (fun r => ∃ as, r = .ok (.bl true) as) := by
    have lz : ns0.length ≤ sizeLine := le_size (by omega)
    have ls : 1 + min 9 ns0.length ≤ sizeLine := le_size (by omega)
    have two : (2 : Nat) ≤ sizeLine := le_size (by omega)
    have i7 : in30 7 := ⟨by omega, by omega⟩
    simp [F_law_2, body2, a_law, cut_take, ← List.map_take, ls]
    rw [show D.int ns0.length :: (ns0.take 9).map D.int = ((ns0.length : Int) :: ns0.take 9).map D.int from rfl]
    refine W_forL (fun p ρ => ∃ (a1 a2 a3 a4 a5 a6 a7 a8 a9 a10 : D), ρ = [.scr (ns0.map D.int), a1, a2, a3, a4, a5, a6, a7, a8, a9, a10]) ⟨_, _, _, _, _, _, _, _, _, _, rfl⟩ ?_ ?_
    · rintro p cell post ρ e ⟨a1, a2, a3, a4, a5, a6, a7, a8, a9, a10, rfl⟩ J hJ
      simp [i7, two, frzO]
      rw [show [D.int cell, D.int (cell / 7 + 1)] = [cell, cell / 7 + 1].map D.int from rfl]
      refine jar2_w fun s => ?_
      simp
      refine web_w fun m rows0 s1 m1 m2 hd => ?_
      have lr0 : (sort3 rows0).length ≤ 220 := by rw [sort3_len]; exact hd.le
      generalize sort3 rows0 = rows at lr0 ⊢
      have fw : fz (webD m rows) = true := by simp
      have sq : seqOf (webD m rows) = some [.int m, .tup (rows.map rD)] := rfl
      have k0 : ∀ x y : D, atI [x, y] 0 = some x := fun _ _ => rfl
      have k1 : ∀ x y : D, atI [x, y] 1 = some y := fun _ _ => rfl
      simp [fw, sq, k0, k1]
      refine order_w (by omega) (by omega) fun os s2 ho => ?_
      simp [fw, sq, k0, k1]
      have ol : os.length = rows.length := by
        have := ho.length_eq
        rw [len_rangeI] at this
        simpa using this
      refine W_lcAll (f := D.int) (fun i => thD (rowT (rows[i.toNat]?.getD (0, 0, 0)))) (le_size (by omega)) ?_ ?_
      · intro i hi J2 acc hj
        have hi2 := mem_rangeI.mp (ho.mem_iff.mp hi)
        have hlt : i.toNat < rows.length := by simp at hi2; omega
        have ar : atI (rows.map rD) i = some (rD rows[i.toNat]) := atI_map hi2.1 (List.getElem?_eq_getElem hlt)
        rw [List.getElem?_eq_getElem hlt] at hj
        simp [fw, sq, k0, k1, ar]
        exact hj
      · have wf0 : ∀ t ∈ os.map fun i => rowT (rows[i.toNat]?.getD (0, 0, 0)), t.wf := fun t ht => by
          obtain ⟨i, _, rfl⟩ := List.mem_map.mp ht
          trivial
        have ln0 : (os.map fun i => rowT (rows[i.toNat]?.getD (0, 0, 0))).length ≤ 220 := by rw [List.length_map]; omega
        rw [show (os.map fun i => thD (rowT (rows[i.toNat]?.getD (0, 0, 0)))) = (os.map fun i => rowT (rows[i.toNat]?.getD (0, 0, 0))).map thD by rw [List.map_map]; rfl]
        generalize (os.map fun i => rowT (rows[i.toNat]?.getD (0, 0, 0))) = ts0 at wf0 ln0 ⊢
        simp
        refine take_w (by omega) fun x s3 x0 x1 => ?_
        have hRx : inR x := inR_le (by omega) (by omega)
        simp [hRx]
        refine W_forN (fun k ρ => ∃ (s : Jar) (ds : List D) (ts : List Th) (a6 a10 : D), ρ = [.scr (ns0.map D.int), .int cell, jarD s, webD m rows, .int m, .lst true ds, a6, a7, a8, a9, a10] ∧ Rw ds ts ∧ ts.length ≤ 220 + k) ⟨s3, _, ts0, _, _, rfl, .self wf0, by omega⟩ ?_ ?_
        · rintro k ρ hk ⟨s, ds, ts, a6, a10, rfl, hw, hl⟩ J2 hJ2
          have lds := hw.len
          simp
          refine take_w (by omega) fun y s4 y0 y1 => ?_
          have fl := fzL_th hw.2
          have fr := frL_th hw.2
          simp [hw.1, fl, fr, cut_thD]
          generalize hE : cutT ts none (some y) = tE
          have wfE : ∀ t ∈ tE, t.wf := fun t ht => hw.2 t (by rw [← hE] at ht; exact cutT_mem ht)
          have lnE : tE.length ≤ ts.length := by rw [← hE]; exact cutT_len
          have flE := fzL_th wfE
          have frE := frL_th wfE
          simp [flE, frE]
          refine badth_w m1 m2 (by omega) wfE fun d t s5 wt et => ?_
          have one : (1 : Nat) ≤ sizeLine := le_size (by omega)
          generalize hG : cutT ts (some y) none = tG
          have wfG : ∀ t ∈ tG, t.wf := fun t ht => hw.2 t (by rw [← hG] at ht; exact cutT_mem ht)
          have lnG : tG.length ≤ ts.length := by rw [← hG]; exact cutT_len
          have le5 : tE.length + 1 ≤ sizeLine := le_size (by omega)
          have le6 : tE.length + 1 + tG.length ≤ sizeLine := le_size (by omega)
          have le7 : tE.length + (1 + tG.length) ≤ sizeLine := le_size (by omega)
          have le8 : tE.length + (tG.length + 1) ≤ sizeLine := le_size (by omega)
          simp [one, le5, fl, fr, cut_thD, hG, le6, le7, le8]
          have lc : tE.length + tG.length ≤ ts.length := by
            rw [← hE, ← hG]
            exact cutT_two y0
          refine hJ2 _ ⟨s5, _, tE ++ t :: tG, _, _, rfl, ⟨?_, fun u hu => ?_⟩, by simp; omega⟩
          · rw [freezeL_map, List.map_append, List.map_cons, ← freezeL_map, ← freezeL_map, frE, frL_th wfG, et]
            simp
          · rcases List.mem_append.mp hu with hu | hu
            · exact wfE u hu
            · rcases List.mem_cons.mp hu with rfl | hu
              · exact wt
              · exact wfG u hu
        · rintro ρ ⟨s, ds, ts, a6, a10, rfl, hw, hl⟩
          have step2 : ∀ (s : Jar) (ds : List D) (ts : List Th), Rw ds ts → ts.length ≤ 300 → W (dSeq (dIfS (dTB (d2 gEq (dFn [some 2, none] F_law_take (dIO 2 (dCons (dC (D.int 16)) dNil))) (dC (D.int 0)))) (dPar 4 5 (dCons (dC (D.int 60)) (dCons (dFn [some 2] F_law_too_many (dIO 2 dNil)) dNil))) dSkip) rest2 [.scr (ns0.map D.int), .int cell, jarD s, webD m rows, .int m, .lst true ds, a6, a7, a8, a9, a10]) (lQ J (sQ (dRet (dC (D.bl true))) (eQ 11 1 [1, 2, 3, 4, 5, 6, 10, 5, 5, 4, 5, 7, 8, 9] fun r => ∃ as, r = Fo.ok (D.bl true) as))) := by
            intro s ds ts hw hl
            have lds := hw.len
            simp
            refine take_w (by omega) fun y s4 y0 y1 => ?_
            by_cases c : y = 0
            · simp [c]
              refine many2_w fun ts2 s5 wf2 ln2 => ?_
              simp
              exact rest_w (by omega) (by omega) (.self wf2) (by omega) fun ρ' h => hJ _ h
            · simp [c]
              exact rest_w m1 m2 hw (by omega) fun ρ' h => hJ _ h
          have lds := hw.len
          simp
          refine take_w (by omega) fun y s4 y0 y1 => ?_
          by_cases c : y = 0
          · have fl := fzL_th hw.2
            have fr := frL_th hw.2
            simp [c, hw.1, fl, fr]
            refine take_w (by omega) fun u s5 u0 u1 => ?_
            simp
            refine take_w (by omega) fun v s6 v0 v1 => ?_
            simp [cut_thD]
            generalize hG : cutT ts (some u) (some ((ts.length : Int) - v)) = tG
            have wfG : ∀ t ∈ tG, t.wf := fun t ht => hw.2 t (by rw [← hG] at ht; exact cutT_mem ht)
            have lnG : tG.length ≤ ts.length := by rw [← hG]; exact cutT_len
            have := step2 s6 (tG.map thD) tG (.self wfG) (by omega)
            simp at this
            exact this
          · simp [c]
            have := step2 s4 ds ts hw (by omega)
            simp at this
            exact this
    · rintro ρ ⟨a1, a2, a3, a4, a5, a6, a7, a8, a9, a10, rfl⟩
      simp
  obtain ⟨r, e, as, rfl⟩ := key
  exact ⟨as, e⟩
end G
set_option Elab.async false
set_option linter.all false
set_option maxRecDepth 100000
set_option maxHeartbeats 4000000
namespace G
open PySem PySem.Spec PyProof.Rows L2 VS
theorem all_mk {P : Program} {w : World} {K : PySem.W.Frag} {h : Heap} {mg : Str → Option Value} {fa : Addr} (X : K.In h) (G : h.Ns mainGlobals mg) (hfa : mg "law" = some (.ref fa)) (good : Always F_law)
    {f_is_between : Addr} {oc_is_between kV_is_between dc_is_between pm_is_between cd_is_between ct_is_between : Value} {od_is_between an_is_between : Option Addr} {sl_is_between : Array (Option Value)} (a_is_between : PySem.W.nsIn K mainGlobals "is_between" = some (some (.ref f_is_between))) (l_is_between : K.lookup f_is_between = some ⟨oc_is_between, od_is_between, .func (PySem.W.fnOf "is_between" "is_between" (defArgs s_is_between) (defBody s_is_between) (defScope s_is_between) .none kV_is_between dc_is_between pm_is_between an_is_between cd_is_between ct_is_between), sl_is_between⟩) (c_is_between : PySem.W.codeIn K cd_is_between "is_between" = true) (k_is_between : PySem.W.keepIn K (.ref f_is_between) = true)
    {f_is_row : Addr} {oc_is_row kV_is_row dc_is_row pm_is_row cd_is_row ct_is_row : Value} {od_is_row an_is_row : Option Addr} {sl_is_row : Array (Option Value)} (a_is_row : PySem.W.nsIn K mainGlobals "is_row" = some (some (.ref f_is_row))) (l_is_row : K.lookup f_is_row = some ⟨oc_is_row, od_is_row, .func (PySem.W.fnOf "is_row" "is_row" (defArgs s_is_row) (defBody s_is_row) (defScope s_is_row) .none kV_is_row dc_is_row pm_is_row an_is_row cd_is_row ct_is_row), sl_is_row⟩) (c_is_row : PySem.W.codeIn K cd_is_row "is_row" = true) (k_is_row : PySem.W.keepIn K (.ref f_is_row) = true)
    {f_tie_told : Addr} {oc_tie_told kV_tie_told dc_tie_told pm_tie_told cd_tie_told ct_tie_told : Value} {od_tie_told an_tie_told : Option Addr} {sl_tie_told : Array (Option Value)} (a_tie_told : PySem.W.nsIn K mainGlobals "tie_told" = some (some (.ref f_tie_told))) (l_tie_told : K.lookup f_tie_told = some ⟨oc_tie_told, od_tie_told, .func (PySem.W.fnOf "tie_told" "tie_told" (defArgs s_tie_told) (defBody s_tie_told) (defScope s_tie_told) .none kV_tie_told dc_tie_told pm_tie_told an_tie_told cd_tie_told ct_tie_told), sl_tie_told⟩) (c_tie_told : PySem.W.codeIn K cd_tie_told "tie_told" = true) (k_tie_told : PySem.W.keepIn K (.ref f_tie_told) = true)
    {f_places_come : Addr} {oc_places_come kV_places_come dc_places_come pm_places_come cd_places_come ct_places_come : Value} {od_places_come an_places_come : Option Addr} {sl_places_come : Array (Option Value)} (a_places_come : PySem.W.nsIn K mainGlobals "places_come" = some (some (.ref f_places_come))) (l_places_come : K.lookup f_places_come = some ⟨oc_places_come, od_places_come, .func (PySem.W.fnOf "places_come" "places_come" (defArgs s_places_come) (defBody s_places_come) (defScope s_places_come) .none kV_places_come dc_places_come pm_places_come an_places_come cd_places_come ct_places_come), sl_places_come⟩) (c_places_come : PySem.W.codeIn K cd_places_come "places_come" = true) (k_places_come : PySem.W.keepIn K (.ref f_places_come) = true)
    {f_made_web : Addr} {oc_made_web kV_made_web dc_made_web pm_made_web cd_made_web ct_made_web : Value} {od_made_web an_made_web : Option Addr} {sl_made_web : Array (Option Value)} (a_made_web : PySem.W.nsIn K mainGlobals "made_web" = some (some (.ref f_made_web))) (l_made_web : K.lookup f_made_web = some ⟨oc_made_web, od_made_web, .func (PySem.W.fnOf "made_web" "made_web" (defArgs s_made_web) (defBody s_made_web) (defScope s_made_web) .none kV_made_web dc_made_web pm_made_web an_made_web cd_made_web ct_made_web), sl_made_web⟩) (c_made_web : PySem.W.codeIn K cd_made_web "made_web" = true) (k_made_web : PySem.W.keepIn K (.ref f_made_web) = true)
    {f_law_row_of : Addr} {oc_law_row_of kV_law_row_of dc_law_row_of pm_law_row_of cd_law_row_of ct_law_row_of : Value} {od_law_row_of an_law_row_of : Option Addr} {sl_law_row_of : Array (Option Value)} (a_law_row_of : PySem.W.nsIn K mainGlobals "_law_row_of" = some (some (.ref f_law_row_of))) (l_law_row_of : K.lookup f_law_row_of = some ⟨oc_law_row_of, od_law_row_of, .func (PySem.W.fnOf "_law_row_of" "_law_row_of" (defArgs s_law_row_of) (defBody s_law_row_of) (defScope s_law_row_of) .none kV_law_row_of dc_law_row_of pm_law_row_of an_law_row_of cd_law_row_of ct_law_row_of), sl_law_row_of⟩) (c_law_row_of : PySem.W.codeIn K cd_law_row_of "_law_row_of" = true) (k_law_row_of : PySem.W.keepIn K (.ref f_law_row_of) = true)
    {f_law_jar : Addr} {oc_law_jar kV_law_jar dc_law_jar pm_law_jar cd_law_jar ct_law_jar : Value} {od_law_jar an_law_jar : Option Addr} {sl_law_jar : Array (Option Value)} (a_law_jar : PySem.W.nsIn K mainGlobals "_law_jar" = some (some (.ref f_law_jar))) (l_law_jar : K.lookup f_law_jar = some ⟨oc_law_jar, od_law_jar, .func (PySem.W.fnOf "_law_jar" "_law_jar" (defArgs s_law_jar) (defBody s_law_jar) (defScope s_law_jar) .none kV_law_jar dc_law_jar pm_law_jar an_law_jar cd_law_jar ct_law_jar), sl_law_jar⟩) (c_law_jar : PySem.W.codeIn K cd_law_jar "_law_jar" = true) (k_law_jar : PySem.W.keepIn K (.ref f_law_jar) = true)
    {f_law_take : Addr} {oc_law_take kV_law_take dc_law_take pm_law_take cd_law_take ct_law_take : Value} {od_law_take an_law_take : Option Addr} {sl_law_take : Array (Option Value)} (a_law_take : PySem.W.nsIn K mainGlobals "_law_take" = some (some (.ref f_law_take))) (l_law_take : K.lookup f_law_take = some ⟨oc_law_take, od_law_take, .func (PySem.W.fnOf "_law_take" "_law_take" (defArgs s_law_take) (defBody s_law_take) (defScope s_law_take) .none kV_law_take dc_law_take pm_law_take an_law_take cd_law_take ct_law_take), sl_law_take⟩) (c_law_take : PySem.W.codeIn K cd_law_take "_law_take" = true) (k_law_take : PySem.W.keepIn K (.ref f_law_take) = true)
    {f_law_length : Addr} {oc_law_length kV_law_length dc_law_length pm_law_length cd_law_length ct_law_length : Value} {od_law_length an_law_length : Option Addr} {sl_law_length : Array (Option Value)} (a_law_length : PySem.W.nsIn K mainGlobals "_law_length" = some (some (.ref f_law_length))) (l_law_length : K.lookup f_law_length = some ⟨oc_law_length, od_law_length, .func (PySem.W.fnOf "_law_length" "_law_length" (defArgs s_law_length) (defBody s_law_length) (defScope s_law_length) .none kV_law_length dc_law_length pm_law_length an_law_length cd_law_length ct_law_length), sl_law_length⟩) (c_law_length : PySem.W.codeIn K cd_law_length "_law_length" = true) (k_law_length : PySem.W.keepIn K (.ref f_law_length) = true)
    {f_law_order : Addr} {oc_law_order kV_law_order dc_law_order pm_law_order cd_law_order ct_law_order : Value} {od_law_order an_law_order : Option Addr} {sl_law_order : Array (Option Value)} (a_law_order : PySem.W.nsIn K mainGlobals "_law_order" = some (some (.ref f_law_order))) (l_law_order : K.lookup f_law_order = some ⟨oc_law_order, od_law_order, .func (PySem.W.fnOf "_law_order" "_law_order" (defArgs s_law_order) (defBody s_law_order) (defScope s_law_order) .none kV_law_order dc_law_order pm_law_order an_law_order cd_law_order ct_law_order), sl_law_order⟩) (c_law_order : PySem.W.codeIn K cd_law_order "_law_order" = true) (k_law_order : PySem.W.keepIn K (.ref f_law_order) = true)
    {f_law_tie : Addr} {oc_law_tie kV_law_tie dc_law_tie pm_law_tie cd_law_tie ct_law_tie : Value} {od_law_tie an_law_tie : Option Addr} {sl_law_tie : Array (Option Value)} (a_law_tie : PySem.W.nsIn K mainGlobals "_law_tie" = some (some (.ref f_law_tie))) (l_law_tie : K.lookup f_law_tie = some ⟨oc_law_tie, od_law_tie, .func (PySem.W.fnOf "_law_tie" "_law_tie" (defArgs s_law_tie) (defBody s_law_tie) (defScope s_law_tie) .none kV_law_tie dc_law_tie pm_law_tie an_law_tie cd_law_tie ct_law_tie), sl_law_tie⟩) (c_law_tie : PySem.W.codeIn K cd_law_tie "_law_tie" = true) (k_law_tie : PySem.W.keepIn K (.ref f_law_tie) = true)
    {f_law_held : Addr} {oc_law_held kV_law_held dc_law_held pm_law_held cd_law_held ct_law_held : Value} {od_law_held an_law_held : Option Addr} {sl_law_held : Array (Option Value)} (a_law_held : PySem.W.nsIn K mainGlobals "_law_held" = some (some (.ref f_law_held))) (l_law_held : K.lookup f_law_held = some ⟨oc_law_held, od_law_held, .func (PySem.W.fnOf "_law_held" "_law_held" (defArgs s_law_held) (defBody s_law_held) (defScope s_law_held) .none kV_law_held dc_law_held pm_law_held an_law_held cd_law_held ct_law_held), sl_law_held⟩) (c_law_held : PySem.W.codeIn K cd_law_held "_law_held" = true) (k_law_held : PySem.W.keepIn K (.ref f_law_held) = true)
    {f_law_many : Addr} {oc_law_many kV_law_many dc_law_many pm_law_many cd_law_many ct_law_many : Value} {od_law_many an_law_many : Option Addr} {sl_law_many : Array (Option Value)} (a_law_many : PySem.W.nsIn K mainGlobals "_law_many" = some (some (.ref f_law_many))) (l_law_many : K.lookup f_law_many = some ⟨oc_law_many, od_law_many, .func (PySem.W.fnOf "_law_many" "_law_many" (defArgs s_law_many) (defBody s_law_many) (defScope s_law_many) .none kV_law_many dc_law_many pm_law_many an_law_many cd_law_many ct_law_many), sl_law_many⟩) (c_law_many : PySem.W.codeIn K cd_law_many "_law_many" = true) (k_law_many : PySem.W.keepIn K (.ref f_law_many) = true)
    {f_law_web : Addr} {oc_law_web kV_law_web dc_law_web pm_law_web cd_law_web ct_law_web : Value} {od_law_web an_law_web : Option Addr} {sl_law_web : Array (Option Value)} (a_law_web : PySem.W.nsIn K mainGlobals "_law_web" = some (some (.ref f_law_web))) (l_law_web : K.lookup f_law_web = some ⟨oc_law_web, od_law_web, .func (PySem.W.fnOf "_law_web" "_law_web" (defArgs s_law_web) (defBody s_law_web) (defScope s_law_web) .none kV_law_web dc_law_web pm_law_web an_law_web cd_law_web ct_law_web), sl_law_web⟩) (c_law_web : PySem.W.codeIn K cd_law_web "_law_web" = true) (k_law_web : PySem.W.keepIn K (.ref f_law_web) = true)
    {f_law_kinds : Addr} {oc_law_kinds kV_law_kinds dc_law_kinds pm_law_kinds cd_law_kinds ct_law_kinds : Value} {od_law_kinds an_law_kinds : Option Addr} {sl_law_kinds : Array (Option Value)} (a_law_kinds : PySem.W.nsIn K mainGlobals "_law_kinds" = some (some (.ref f_law_kinds))) (l_law_kinds : K.lookup f_law_kinds = some ⟨oc_law_kinds, od_law_kinds, .func (PySem.W.fnOf "_law_kinds" "_law_kinds" (defArgs s_law_kinds) (defBody s_law_kinds) (defScope s_law_kinds) .none kV_law_kinds dc_law_kinds pm_law_kinds an_law_kinds cd_law_kinds ct_law_kinds), sl_law_kinds⟩) (c_law_kinds : PySem.W.codeIn K cd_law_kinds "_law_kinds" = true) (k_law_kinds : PySem.W.keepIn K (.ref f_law_kinds) = true)
    {f_law_alone : Addr} {oc_law_alone kV_law_alone dc_law_alone pm_law_alone cd_law_alone ct_law_alone : Value} {od_law_alone an_law_alone : Option Addr} {sl_law_alone : Array (Option Value)} (a_law_alone : PySem.W.nsIn K mainGlobals "_law_alone" = some (some (.ref f_law_alone))) (l_law_alone : K.lookup f_law_alone = some ⟨oc_law_alone, od_law_alone, .func (PySem.W.fnOf "_law_alone" "_law_alone" (defArgs s_law_alone) (defBody s_law_alone) (defScope s_law_alone) .none kV_law_alone dc_law_alone pm_law_alone an_law_alone cd_law_alone ct_law_alone), sl_law_alone⟩) (c_law_alone : PySem.W.codeIn K cd_law_alone "_law_alone" = true) (k_law_alone : PySem.W.keepIn K (.ref f_law_alone) = true)
    {f_law_is_tie : Addr} {oc_law_is_tie kV_law_is_tie dc_law_is_tie pm_law_is_tie cd_law_is_tie ct_law_is_tie : Value} {od_law_is_tie an_law_is_tie : Option Addr} {sl_law_is_tie : Array (Option Value)} (a_law_is_tie : PySem.W.nsIn K mainGlobals "_law_is_tie" = some (some (.ref f_law_is_tie))) (l_law_is_tie : K.lookup f_law_is_tie = some ⟨oc_law_is_tie, od_law_is_tie, .func (PySem.W.fnOf "_law_is_tie" "_law_is_tie" (defArgs s_law_is_tie) (defBody s_law_is_tie) (defScope s_law_is_tie) .none kV_law_is_tie dc_law_is_tie pm_law_is_tie an_law_is_tie cd_law_is_tie ct_law_is_tie), sl_law_is_tie⟩) (c_law_is_tie : PySem.W.codeIn K cd_law_is_tie "_law_is_tie" = true) (k_law_is_tie : PySem.W.keepIn K (.ref f_law_is_tie) = true)
    {f_law_bad_thing : Addr} {oc_law_bad_thing kV_law_bad_thing dc_law_bad_thing pm_law_bad_thing cd_law_bad_thing ct_law_bad_thing : Value} {od_law_bad_thing an_law_bad_thing : Option Addr} {sl_law_bad_thing : Array (Option Value)} (a_law_bad_thing : PySem.W.nsIn K mainGlobals "_law_bad_thing" = some (some (.ref f_law_bad_thing))) (l_law_bad_thing : K.lookup f_law_bad_thing = some ⟨oc_law_bad_thing, od_law_bad_thing, .func (PySem.W.fnOf "_law_bad_thing" "_law_bad_thing" (defArgs s_law_bad_thing) (defBody s_law_bad_thing) (defScope s_law_bad_thing) .none kV_law_bad_thing dc_law_bad_thing pm_law_bad_thing an_law_bad_thing cd_law_bad_thing ct_law_bad_thing), sl_law_bad_thing⟩) (c_law_bad_thing : PySem.W.codeIn K cd_law_bad_thing "_law_bad_thing" = true) (k_law_bad_thing : PySem.W.keepIn K (.ref f_law_bad_thing) = true)
    {f_law_due : Addr} {oc_law_due kV_law_due dc_law_due pm_law_due cd_law_due ct_law_due : Value} {od_law_due an_law_due : Option Addr} {sl_law_due : Array (Option Value)} (a_law_due : PySem.W.nsIn K mainGlobals "_law_due" = some (some (.ref f_law_due))) (l_law_due : K.lookup f_law_due = some ⟨oc_law_due, od_law_due, .func (PySem.W.fnOf "_law_due" "_law_due" (defArgs s_law_due) (defBody s_law_due) (defScope s_law_due) .none kV_law_due dc_law_due pm_law_due an_law_due cd_law_due ct_law_due), sl_law_due⟩) (c_law_due : PySem.W.codeIn K cd_law_due "_law_due" = true) (k_law_due : PySem.W.keepIn K (.ref f_law_due) = true)
    {f_law_told : Addr} {oc_law_told kV_law_told dc_law_told pm_law_told cd_law_told ct_law_told : Value} {od_law_told an_law_told : Option Addr} {sl_law_told : Array (Option Value)} (a_law_told : PySem.W.nsIn K mainGlobals "_law_told" = some (some (.ref f_law_told))) (l_law_told : K.lookup f_law_told = some ⟨oc_law_told, od_law_told, .func (PySem.W.fnOf "_law_told" "_law_told" (defArgs s_law_told) (defBody s_law_told) (defScope s_law_told) .none kV_law_told dc_law_told pm_law_told an_law_told cd_law_told ct_law_told), sl_law_told⟩) (c_law_told : PySem.W.codeIn K cd_law_told "_law_told" = true) (k_law_told : PySem.W.keepIn K (.ref f_law_told) = true)
    {f_law_too_many : Addr} {oc_law_too_many kV_law_too_many dc_law_too_many pm_law_too_many cd_law_too_many ct_law_too_many : Value} {od_law_too_many an_law_too_many : Option Addr} {sl_law_too_many : Array (Option Value)} (a_law_too_many : PySem.W.nsIn K mainGlobals "_law_too_many" = some (some (.ref f_law_too_many))) (l_law_too_many : K.lookup f_law_too_many = some ⟨oc_law_too_many, od_law_too_many, .func (PySem.W.fnOf "_law_too_many" "_law_too_many" (defArgs s_law_too_many) (defBody s_law_too_many) (defScope s_law_too_many) .none kV_law_too_many dc_law_too_many pm_law_too_many an_law_too_many cd_law_too_many ct_law_too_many), sl_law_too_many⟩) (c_law_too_many : PySem.W.codeIn K cd_law_too_many "_law_too_many" = true) (k_law_too_many : PySem.W.keepIn K (.ref f_law_too_many) = true)
    {f_law : Addr} {oc_law kV_law dc_law pm_law cd_law ct_law : Value} {od_law an_law : Option Addr} {sl_law : Array (Option Value)} (a_law : PySem.W.nsIn K mainGlobals "law" = some (some (.ref f_law))) (l_law : K.lookup f_law = some ⟨oc_law, od_law, .func (PySem.W.fnOf "law" "law" (defArgs s_law) (defBody s_law) (defScope s_law) .none kV_law dc_law pm_law an_law cd_law ct_law), sl_law⟩) (c_law : PySem.W.codeIn K cd_law "law" = true) (k_law : PySem.W.keepIn K (.ref f_law) = true)
    {t_MOST_LENGTH : Tok} (z_MOST_LENGTH : PySem.W.nsIn K mainGlobals "MOST_LENGTH" = some (some (.int (1000000000000000000000000000000) t_MOST_LENGTH)))
    {t_MOST_PLACES : Tok} (z_MOST_PLACES : PySem.W.nsIn K mainGlobals "MOST_PLACES" = some (some (.int (60) t_MOST_PLACES)))
    {t_MOST_TIES : Tok} (z_MOST_TIES : PySem.W.nsIn K mainGlobals "MOST_TIES" = some (some (.int (220) t_MOST_TIES)))
    (z_ValueError : PySem.W.nsIn K mainGlobals "ValueError" = some none)
    (z_abs : PySem.W.nsIn K mainGlobals "abs" = some none)
    (z_all : PySem.W.nsIn K mainGlobals "all" = some none)
    (z_bool : PySem.W.nsIn K mainGlobals "bool" = some none)
    (z_enumerate : PySem.W.nsIn K mainGlobals "enumerate" = some none)
    (z_int : PySem.W.nsIn K mainGlobals "int" = some none)
    (z_isinstance : PySem.W.nsIn K mainGlobals "isinstance" = some none)
    (z_len : PySem.W.nsIn K mainGlobals "len" = some none)
    (z_list : PySem.W.nsIn K mainGlobals "list" = some none)
    (z_max : PySem.W.nsIn K mainGlobals "max" = some none)
    (z_min : PySem.W.nsIn K mainGlobals "min" = some none)
    (z_range : PySem.W.nsIn K mainGlobals "range" = some none)
    (z_sorted : PySem.W.nsIn K mainGlobals "sorted" = some none)
    (z_sum : PySem.W.nsIn K mainGlobals "sum" = some none)
    (z_tuple : PySem.W.nsIn K mainGlobals "tuple" = some none)
    {K_Apart : Addr} (g_Apart : PySem.W.nsIn K mainGlobals "Apart" = some (some (.ref K_Apart)))
    {K_BadLengths : Addr} (g_BadLengths : PySem.W.nsIn K mainGlobals "BadLengths" = some (some (.ref K_BadLengths)))
    {K_BadWeb : Addr} (g_BadWeb : PySem.W.nsIn K mainGlobals "BadWeb" = some (some (.ref K_BadWeb)))
    {K_LoneError : Addr} (g_LoneError : PySem.W.nsIn K mainGlobals "LoneError" = some (some (.ref K_LoneError)))
    {K_NoChoice : Addr} (g_NoChoice : PySem.W.nsIn K mainGlobals "NoChoice" = some (some (.ref K_NoChoice)))
    {K_NoPlace : Addr} (g_NoPlace : PySem.W.nsIn K mainGlobals "NoPlace" = some (some (.ref K_NoPlace)))
    {K_NoRow : Addr} (g_NoRow : PySem.W.nsIn K mainGlobals "NoRow" = some (some (.ref K_NoRow)))
    {K_NoSide : Addr} (g_NoSide : PySem.W.nsIn K mainGlobals "NoSide" = some (some (.ref K_NoSide)))
    {K_NoText : Addr} (g_NoText : PySem.W.nsIn K mainGlobals "NoText" = some (some (.ref K_NoText)))
    {K_NoTie : Addr} (g_NoTie : PySem.W.nsIn K mainGlobals "NoTie" = some (some (.ref K_NoTie)))
    {K_NoWay : Addr} (g_NoWay : PySem.W.nsIn K mainGlobals "NoWay" = some (some (.ref K_NoWay)))
    {K_NotLone : Addr} (g_NotLone : PySem.W.nsIn K mainGlobals "NotLone" = some (some (.ref K_NotLone)))
    {K_NotPlain : Addr} (g_NotPlain : PySem.W.nsIn K mainGlobals "NotPlain" = some (some (.ref K_NotPlain)))
    {K_NothingDone : Addr} (g_NothingDone : PySem.W.nsIn K mainGlobals "NothingDone" = some (some (.ref K_NothingDone)))
    {K_Tied : Addr} (g_Tied : PySem.W.nsIn K mainGlobals "Tied" = some (some (.ref K_Tied)))
    {K_TooMany : Addr} (g_TooMany : PySem.W.nsIn K mainGlobals "TooMany" = some (some (.ref K_TooMany)))
    (hn : PySem.W.specialIn K (.builtin "object.__class__") "__get__" = some (some (.builtin "getset_descriptor.__get__"))) (ht : PySem.W.takesIn K (.builtin "object.__class__") = some true)
    (hspB : PySem.W.specialIn K (.ref K_LoneError) "__getattribute__" = some (some (.builtin "type.__getattribute__"))) (hrB : PySem.W.readsIn K K_LoneError (.type "type") = true) (vVB : PySem.W.findCls K (.ref K_LoneError) (.type "type") "__init__" = some (.val (.builtin "ValueError.__init__")))
    {fi_Apart : Addr} {oci_Apart kVi_Apart dci_Apart pmi_Apart cdi_Apart cti_Apart : Value} {odi_Apart ani_Apart : Option Addr} {sli_Apart : Array (Option Value)} {nmi_Apart qi_Apart : Str} {Ni_Apart : Addr} {bsi_Apart bmi_Apart : List Value} {sni_Apart : List Str} {subi_Apart : List Value} {abi_Apart : Bool} {coli_Apart : Option Bool} {ddi_Apart : Option Addr} {k0i_Apart k1i_Apart k2i_Apart k3i_Apart k5i_Apart : Option Value}
    (lx_Apart : K.lookup K_Apart = some (excClassObj nmi_Apart qi_Apart K_Apart Ni_Apart bsi_Apart bmi_Apart true sni_Apart subi_Apart abi_Apart coli_Apart ddi_Apart k0i_Apart k1i_Apart k2i_Apart k3i_Apart k5i_Apart "ValueError.__new__")) (bm_Apart : PySem.HandSPX.refsVE bmi_Apart = true)
    (sa_Apart : PySem.W.findIn K (.ref K_Apart) "__setattr__" = some (some (.builtin "object.__setattr__"))) (iC_Apart : PySem.W.findIn K (.ref K_Apart) "__init__" = some (some (.ref fi_Apart))) (tI_Apart : PySem.W.typeIn K (.ref fi_Apart) = some (.type "function"))
    (li_Apart : K.lookup fi_Apart = some ⟨oci_Apart, odi_Apart, .func (PySem.W.fnOf "__init__" "Apart.__init__" (defArgs s_init_Apart) (defBody s_init_Apart) (defScope s_init_Apart) .none kVi_Apart dci_Apart pmi_Apart ani_Apart cdi_Apart cti_Apart), sli_Apart⟩) (ci_Apart : PySem.W.codeIn K cdi_Apart "Apart.__init__" = true) (no_Apart : PySem.W.findIn K (.ref K_Apart) "place" = some none)
    {fi_BadWeb : Addr} {oci_BadWeb kVi_BadWeb dci_BadWeb pmi_BadWeb cdi_BadWeb cti_BadWeb : Value} {odi_BadWeb ani_BadWeb : Option Addr} {sli_BadWeb : Array (Option Value)} {nmi_BadWeb qi_BadWeb : Str} {Ni_BadWeb : Addr} {bsi_BadWeb bmi_BadWeb : List Value} {sni_BadWeb : List Str} {subi_BadWeb : List Value} {abi_BadWeb : Bool} {coli_BadWeb : Option Bool} {ddi_BadWeb : Option Addr} {k0i_BadWeb k1i_BadWeb k2i_BadWeb k3i_BadWeb k5i_BadWeb : Option Value}
    (lx_BadWeb : K.lookup K_BadWeb = some (excClassObj nmi_BadWeb qi_BadWeb K_BadWeb Ni_BadWeb bsi_BadWeb bmi_BadWeb true sni_BadWeb subi_BadWeb abi_BadWeb coli_BadWeb ddi_BadWeb k0i_BadWeb k1i_BadWeb k2i_BadWeb k3i_BadWeb k5i_BadWeb "ValueError.__new__")) (bm_BadWeb : PySem.HandSPX.refsVE bmi_BadWeb = true)
    (sa_BadWeb : PySem.W.findIn K (.ref K_BadWeb) "__setattr__" = some (some (.builtin "object.__setattr__"))) (iC_BadWeb : PySem.W.findIn K (.ref K_BadWeb) "__init__" = some (some (.ref fi_BadWeb))) (tI_BadWeb : PySem.W.typeIn K (.ref fi_BadWeb) = some (.type "function"))
    (li_BadWeb : K.lookup fi_BadWeb = some ⟨oci_BadWeb, odi_BadWeb, .func (PySem.W.fnOf "__init__" "BadWeb.__init__" (defArgs s_init_BadWeb) (defBody s_init_BadWeb) (defScope s_init_BadWeb) .none kVi_BadWeb dci_BadWeb pmi_BadWeb ani_BadWeb cdi_BadWeb cti_BadWeb), sli_BadWeb⟩) (ci_BadWeb : PySem.W.codeIn K cdi_BadWeb "BadWeb.__init__" = true) (no_BadWeb : PySem.W.findIn K (.ref K_BadWeb) "at" = some none)
    (kp_Apart : PySem.W.keepIn K (.ref K_Apart) = true) (sb_Apart : PySem.W.subIn K (.ref K_Apart) (.type "BaseException") = some true) (ty_Apart : PySem.W.typeIn K (.ref K_Apart) = some (.type "type"))
    (eg_Apart : PySem.W.findIn K (.ref K_Apart) "__getattribute__" = some (some (.builtin "BaseException.__getattribute__"))) (ek_Apart : PySem.W.findIn K (.ref K_Apart) "__getattr__" = some none) (ed_Apart : PySem.W.hasDictIn K K_Apart = true) (ea_Apart : PySem.W.findIn K (.ref K_Apart) "__class__" = some (some (.builtin "object.__class__"))) (em_Apart : PySem.W.mroIn K K_Apart (.type "object") = some true)
    (kp_BadWeb : PySem.W.keepIn K (.ref K_BadWeb) = true) (sb_BadWeb : PySem.W.subIn K (.ref K_BadWeb) (.type "BaseException") = some true) (ty_BadWeb : PySem.W.typeIn K (.ref K_BadWeb) = some (.type "type"))
    (eg_BadWeb : PySem.W.findIn K (.ref K_BadWeb) "__getattribute__" = some (some (.builtin "BaseException.__getattribute__"))) (ek_BadWeb : PySem.W.findIn K (.ref K_BadWeb) "__getattr__" = some none) (ed_BadWeb : PySem.W.hasDictIn K K_BadWeb = true) (ea_BadWeb : PySem.W.findIn K (.ref K_BadWeb) "__class__" = some (some (.builtin "object.__class__"))) (em_BadWeb : PySem.W.mroIn K K_BadWeb (.type "object") = some true)
    (dt_Apart : PySem.W.hasDictIn K K_Apart = true) (tt_Apart : PySem.W.typeIn K (.ref K_Apart) = some (.type "type"))
    (dt_BadLengths : PySem.W.hasDictIn K K_BadLengths = true) (tt_BadLengths : PySem.W.typeIn K (.ref K_BadLengths) = some (.type "type"))
    (dt_BadWeb : PySem.W.hasDictIn K K_BadWeb = true) (tt_BadWeb : PySem.W.typeIn K (.ref K_BadWeb) = some (.type "type"))
    (dt_LoneError : PySem.W.hasDictIn K K_LoneError = true) (tt_LoneError : PySem.W.typeIn K (.ref K_LoneError) = some (.type "type"))
    (dt_NoChoice : PySem.W.hasDictIn K K_NoChoice = true) (tt_NoChoice : PySem.W.typeIn K (.ref K_NoChoice) = some (.type "type"))
    (dt_NoPlace : PySem.W.hasDictIn K K_NoPlace = true) (tt_NoPlace : PySem.W.typeIn K (.ref K_NoPlace) = some (.type "type"))
    (dt_NoRow : PySem.W.hasDictIn K K_NoRow = true) (tt_NoRow : PySem.W.typeIn K (.ref K_NoRow) = some (.type "type"))
    (dt_NoSide : PySem.W.hasDictIn K K_NoSide = true) (tt_NoSide : PySem.W.typeIn K (.ref K_NoSide) = some (.type "type"))
    (dt_NoText : PySem.W.hasDictIn K K_NoText = true) (tt_NoText : PySem.W.typeIn K (.ref K_NoText) = some (.type "type"))
    (dt_NoTie : PySem.W.hasDictIn K K_NoTie = true) (tt_NoTie : PySem.W.typeIn K (.ref K_NoTie) = some (.type "type"))
    (dt_NoWay : PySem.W.hasDictIn K K_NoWay = true) (tt_NoWay : PySem.W.typeIn K (.ref K_NoWay) = some (.type "type"))
    (dt_NotLone : PySem.W.hasDictIn K K_NotLone = true) (tt_NotLone : PySem.W.typeIn K (.ref K_NotLone) = some (.type "type"))
    (dt_NotPlain : PySem.W.hasDictIn K K_NotPlain = true) (tt_NotPlain : PySem.W.typeIn K (.ref K_NotPlain) = some (.type "type"))
    (dt_NothingDone : PySem.W.hasDictIn K K_NothingDone = true) (tt_NothingDone : PySem.W.typeIn K (.ref K_NothingDone) = some (.type "type"))
    (dt_Tied : PySem.W.hasDictIn K K_Tied = true) (tt_Tied : PySem.W.typeIn K (.ref K_Tied) = some (.type "type"))
    (dt_TooMany : PySem.W.hasDictIn K K_TooMany = true) (tt_TooMany : PySem.W.typeIn K (.ref K_TooMany) = some (.type "type"))
    (bs_LoneError : PySem.W.subIn K (.ref K_LoneError) (.type "BaseException") = some true)
    (i_Apart_Apart : PySem.W.subIn K (.ref K_Apart) (.ref K_Apart) = some true)
    (i_Apart_BadLengths : PySem.W.subIn K (.ref K_Apart) (.ref K_BadLengths) = some false)
    (ne_Apart_BadLengths : (Value.ref K_Apart == Value.ref K_BadLengths) = false)
    (i_Apart_BadWeb : PySem.W.subIn K (.ref K_Apart) (.ref K_BadWeb) = some false)
    (ne_Apart_BadWeb : (Value.ref K_Apart == Value.ref K_BadWeb) = false)
    (i_Apart_LoneError : PySem.W.subIn K (.ref K_Apart) (.ref K_LoneError) = some true)
    (i_Apart_NoChoice : PySem.W.subIn K (.ref K_Apart) (.ref K_NoChoice) = some false)
    (ne_Apart_NoChoice : (Value.ref K_Apart == Value.ref K_NoChoice) = false)
    (i_Apart_NoPlace : PySem.W.subIn K (.ref K_Apart) (.ref K_NoPlace) = some false)
    (ne_Apart_NoPlace : (Value.ref K_Apart == Value.ref K_NoPlace) = false)
    (i_Apart_NoRow : PySem.W.subIn K (.ref K_Apart) (.ref K_NoRow) = some false)
    (ne_Apart_NoRow : (Value.ref K_Apart == Value.ref K_NoRow) = false)
    (i_Apart_NoSide : PySem.W.subIn K (.ref K_Apart) (.ref K_NoSide) = some false)
    (ne_Apart_NoSide : (Value.ref K_Apart == Value.ref K_NoSide) = false)
    (i_Apart_NoText : PySem.W.subIn K (.ref K_Apart) (.ref K_NoText) = some false)
    (ne_Apart_NoText : (Value.ref K_Apart == Value.ref K_NoText) = false)
    (i_Apart_NoTie : PySem.W.subIn K (.ref K_Apart) (.ref K_NoTie) = some false)
    (ne_Apart_NoTie : (Value.ref K_Apart == Value.ref K_NoTie) = false)
    (i_Apart_NoWay : PySem.W.subIn K (.ref K_Apart) (.ref K_NoWay) = some false)
    (ne_Apart_NoWay : (Value.ref K_Apart == Value.ref K_NoWay) = false)
    (i_Apart_NotLone : PySem.W.subIn K (.ref K_Apart) (.ref K_NotLone) = some false)
    (ne_Apart_NotLone : (Value.ref K_Apart == Value.ref K_NotLone) = false)
    (i_Apart_NotPlain : PySem.W.subIn K (.ref K_Apart) (.ref K_NotPlain) = some false)
    (ne_Apart_NotPlain : (Value.ref K_Apart == Value.ref K_NotPlain) = false)
    (i_Apart_NothingDone : PySem.W.subIn K (.ref K_Apart) (.ref K_NothingDone) = some false)
    (ne_Apart_NothingDone : (Value.ref K_Apart == Value.ref K_NothingDone) = false)
    (i_Apart_Tied : PySem.W.subIn K (.ref K_Apart) (.ref K_Tied) = some false)
    (ne_Apart_Tied : (Value.ref K_Apart == Value.ref K_Tied) = false)
    (i_Apart_TooMany : PySem.W.subIn K (.ref K_Apart) (.ref K_TooMany) = some false)
    (ne_Apart_TooMany : (Value.ref K_Apart == Value.ref K_TooMany) = false)
    (i_Apart_ValueError : PySem.W.subIn K (.ref K_Apart) (.type "ValueError") = some true)
    (i_BadWeb_Apart : PySem.W.subIn K (.ref K_BadWeb) (.ref K_Apart) = some false)
    (ne_BadWeb_Apart : (Value.ref K_BadWeb == Value.ref K_Apart) = false)
    (i_BadWeb_BadLengths : PySem.W.subIn K (.ref K_BadWeb) (.ref K_BadLengths) = some false)
    (ne_BadWeb_BadLengths : (Value.ref K_BadWeb == Value.ref K_BadLengths) = false)
    (i_BadWeb_BadWeb : PySem.W.subIn K (.ref K_BadWeb) (.ref K_BadWeb) = some true)
    (i_BadWeb_LoneError : PySem.W.subIn K (.ref K_BadWeb) (.ref K_LoneError) = some true)
    (i_BadWeb_NoChoice : PySem.W.subIn K (.ref K_BadWeb) (.ref K_NoChoice) = some false)
    (ne_BadWeb_NoChoice : (Value.ref K_BadWeb == Value.ref K_NoChoice) = false)
    (i_BadWeb_NoPlace : PySem.W.subIn K (.ref K_BadWeb) (.ref K_NoPlace) = some false)
    (ne_BadWeb_NoPlace : (Value.ref K_BadWeb == Value.ref K_NoPlace) = false)
    (i_BadWeb_NoRow : PySem.W.subIn K (.ref K_BadWeb) (.ref K_NoRow) = some false)
    (ne_BadWeb_NoRow : (Value.ref K_BadWeb == Value.ref K_NoRow) = false)
    (i_BadWeb_NoSide : PySem.W.subIn K (.ref K_BadWeb) (.ref K_NoSide) = some false)
    (ne_BadWeb_NoSide : (Value.ref K_BadWeb == Value.ref K_NoSide) = false)
    (i_BadWeb_NoText : PySem.W.subIn K (.ref K_BadWeb) (.ref K_NoText) = some false)
    (ne_BadWeb_NoText : (Value.ref K_BadWeb == Value.ref K_NoText) = false)
    (i_BadWeb_NoTie : PySem.W.subIn K (.ref K_BadWeb) (.ref K_NoTie) = some false)
    (ne_BadWeb_NoTie : (Value.ref K_BadWeb == Value.ref K_NoTie) = false)
    (i_BadWeb_NoWay : PySem.W.subIn K (.ref K_BadWeb) (.ref K_NoWay) = some false)
    (ne_BadWeb_NoWay : (Value.ref K_BadWeb == Value.ref K_NoWay) = false)
    (i_BadWeb_NotLone : PySem.W.subIn K (.ref K_BadWeb) (.ref K_NotLone) = some false)
    (ne_BadWeb_NotLone : (Value.ref K_BadWeb == Value.ref K_NotLone) = false)
    (i_BadWeb_NotPlain : PySem.W.subIn K (.ref K_BadWeb) (.ref K_NotPlain) = some false)
    (ne_BadWeb_NotPlain : (Value.ref K_BadWeb == Value.ref K_NotPlain) = false)
    (i_BadWeb_NothingDone : PySem.W.subIn K (.ref K_BadWeb) (.ref K_NothingDone) = some false)
    (ne_BadWeb_NothingDone : (Value.ref K_BadWeb == Value.ref K_NothingDone) = false)
    (i_BadWeb_Tied : PySem.W.subIn K (.ref K_BadWeb) (.ref K_Tied) = some false)
    (ne_BadWeb_Tied : (Value.ref K_BadWeb == Value.ref K_Tied) = false)
    (i_BadWeb_TooMany : PySem.W.subIn K (.ref K_BadWeb) (.ref K_TooMany) = some false)
    (ne_BadWeb_TooMany : (Value.ref K_BadWeb == Value.ref K_TooMany) = false)
    (i_BadWeb_ValueError : PySem.W.subIn K (.ref K_BadWeb) (.type "ValueError") = some true) :
    ∃ fd : FuncData, (∀ (s : Shared) (v : Value), BindsTo s fd ⟨[v], []⟩ [("script", v)]) ∧ ∀ base : Heap, K.In base → base.Ns mainGlobals mg → FnOk P w K mg base (L2N.CX P w) 5 fa fd ["script"] (spTrue K) := by
  have T : Tops mg := ⟨⟨_, PySem.W.mg_of X G z_MOST_LENGTH⟩, ⟨_, PySem.W.mg_of X G z_MOST_PLACES⟩, ⟨_, PySem.W.mg_of X G z_MOST_TIES⟩, PySem.W.mg_none_of X G z_ValueError, PySem.W.mg_none_of X G z_abs, PySem.W.mg_none_of X G z_all, PySem.W.mg_none_of X G z_bool, PySem.W.mg_none_of X G z_enumerate, PySem.W.mg_none_of X G z_int, PySem.W.mg_none_of X G z_isinstance, PySem.W.mg_none_of X G z_len, PySem.W.mg_none_of X G z_list, PySem.W.mg_none_of X G z_max, PySem.W.mg_none_of X G z_min, PySem.W.mg_none_of X G z_range, PySem.W.mg_none_of X G z_sorted, PySem.W.mg_none_of X G z_sum, PySem.W.mg_none_of X G z_tuple⟩
  have n_Apart := PySem.W.mg_of X G g_Apart
  have n_BadLengths := PySem.W.mg_of X G g_BadLengths
  have n_BadWeb := PySem.W.mg_of X G g_BadWeb
  have n_LoneError := PySem.W.mg_of X G g_LoneError
  have n_NoChoice := PySem.W.mg_of X G g_NoChoice
  have n_NoPlace := PySem.W.mg_of X G g_NoPlace
  have n_NoRow := PySem.W.mg_of X G g_NoRow
  have n_NoSide := PySem.W.mg_of X G g_NoSide
  have n_NoText := PySem.W.mg_of X G g_NoText
  have n_NoTie := PySem.W.mg_of X G g_NoTie
  have n_NoWay := PySem.W.mg_of X G g_NoWay
  have n_NotLone := PySem.W.mg_of X G g_NotLone
  have n_NotPlain := PySem.W.mg_of X G g_NotPlain
  have n_NothingDone := PySem.W.mg_of X G g_NothingDone
  have n_Tied := PySem.W.mg_of X G g_Tied
  have n_TooMany := PySem.W.mg_of X G g_TooMany
  have e_Apart : ExcC K K_Apart := ⟨eg_Apart, ek_Apart, sb_Apart, ed_Apart, ea_Apart, hn, ht, em_Apart⟩
  have e_BadWeb : ExcC K K_BadWeb := ⟨eg_BadWeb, ek_BadWeb, sb_BadWeb, ed_BadWeb, ea_BadWeb, hn, ht, em_BadWeb⟩
  have w_Apart : ∀ C, mg "Apart" = some (.ref C) → C = K_Apart := fun C h => by rw [n_Apart] at h; injection h with h; injection h with h; exact h.symm
  have w_BadLengths : ∀ C, mg "BadLengths" = some (.ref C) → C = K_BadLengths := fun C h => by rw [n_BadLengths] at h; injection h with h; injection h with h; exact h.symm
  have w_BadWeb : ∀ C, mg "BadWeb" = some (.ref C) → C = K_BadWeb := fun C h => by rw [n_BadWeb] at h; injection h with h; injection h with h; exact h.symm
  have w_LoneError : ∀ C, mg "LoneError" = some (.ref C) → C = K_LoneError := fun C h => by rw [n_LoneError] at h; injection h with h; injection h with h; exact h.symm
  have w_NoChoice : ∀ C, mg "NoChoice" = some (.ref C) → C = K_NoChoice := fun C h => by rw [n_NoChoice] at h; injection h with h; injection h with h; exact h.symm
  have w_NoPlace : ∀ C, mg "NoPlace" = some (.ref C) → C = K_NoPlace := fun C h => by rw [n_NoPlace] at h; injection h with h; injection h with h; exact h.symm
  have w_NoRow : ∀ C, mg "NoRow" = some (.ref C) → C = K_NoRow := fun C h => by rw [n_NoRow] at h; injection h with h; injection h with h; exact h.symm
  have w_NoSide : ∀ C, mg "NoSide" = some (.ref C) → C = K_NoSide := fun C h => by rw [n_NoSide] at h; injection h with h; injection h with h; exact h.symm
  have w_NoText : ∀ C, mg "NoText" = some (.ref C) → C = K_NoText := fun C h => by rw [n_NoText] at h; injection h with h; injection h with h; exact h.symm
  have w_NoTie : ∀ C, mg "NoTie" = some (.ref C) → C = K_NoTie := fun C h => by rw [n_NoTie] at h; injection h with h; injection h with h; exact h.symm
  have w_NoWay : ∀ C, mg "NoWay" = some (.ref C) → C = K_NoWay := fun C h => by rw [n_NoWay] at h; injection h with h; injection h with h; exact h.symm
  have w_NotLone : ∀ C, mg "NotLone" = some (.ref C) → C = K_NotLone := fun C h => by rw [n_NotLone] at h; injection h with h; injection h with h; exact h.symm
  have w_NotPlain : ∀ C, mg "NotPlain" = some (.ref C) → C = K_NotPlain := fun C h => by rw [n_NotPlain] at h; injection h with h; injection h with h; exact h.symm
  have w_NothingDone : ∀ C, mg "NothingDone" = some (.ref C) → C = K_NothingDone := fun C h => by rw [n_NothingDone] at h; injection h with h; injection h with h; exact h.symm
  have w_Tied : ∀ C, mg "Tied" = some (.ref C) → C = K_Tied := fun C h => by rw [n_Tied] at h; injection h with h; injection h with h; exact h.symm
  have w_TooMany : ∀ C, mg "TooMany" = some (.ref C) → C = K_TooMany := fun C h => by rw [n_TooMany] at h; injection h with h; injection h with h; exact h.symm
  have ch_LoneError : (⟨_, n_LoneError⟩ : ∃ C, mg "LoneError" = some (.ref C)).choose = K_LoneError := w_LoneError _ (⟨_, n_LoneError⟩ : ∃ C, mg "LoneError" = some (.ref C)).choose_spec
  have U : Xs K mg := ⟨⟨_, n_Apart⟩, ⟨_, n_BadLengths⟩, ⟨_, n_BadWeb⟩, ⟨_, n_LoneError⟩, ⟨_, n_NoChoice⟩, ⟨_, n_NoPlace⟩, ⟨_, n_NoRow⟩, ⟨_, n_NoSide⟩, ⟨_, n_NoText⟩, ⟨_, n_NoTie⟩, ⟨_, n_NoWay⟩, ⟨_, n_NotLone⟩, ⟨_, n_NotPlain⟩, ⟨_, n_NothingDone⟩, ⟨_, n_Tied⟩, ⟨_, n_TooMany⟩, List.forall_mem_cons.mpr ⟨fun C h => ⟨_, (.inl n_Apart), by rw [w_Apart C h]; exact kit_own dt_Apart tt_Apart i_Apart_Apart (.inl rfl)⟩, List.forall_mem_cons.mpr ⟨fun C h => ⟨_, (.inl n_BadLengths), by rw [w_Apart C h]; exact kit_own dt_BadLengths tt_BadLengths i_Apart_BadLengths (.inr ne_Apart_BadLengths)⟩, List.forall_mem_cons.mpr ⟨fun C h => ⟨_, (.inl n_BadWeb), by rw [w_Apart C h]; exact kit_own dt_BadWeb tt_BadWeb i_Apart_BadWeb (.inr ne_Apart_BadWeb)⟩, List.forall_mem_cons.mpr ⟨fun C h => ⟨_, (.inl n_LoneError), by rw [w_Apart C h]; exact kit_own dt_LoneError tt_LoneError i_Apart_LoneError (.inl rfl)⟩, List.forall_mem_cons.mpr ⟨fun C h => ⟨_, (.inl n_NoChoice), by rw [w_Apart C h]; exact kit_own dt_NoChoice tt_NoChoice i_Apart_NoChoice (.inr ne_Apart_NoChoice)⟩, List.forall_mem_cons.mpr ⟨fun C h => ⟨_, (.inl n_NoPlace), by rw [w_Apart C h]; exact kit_own dt_NoPlace tt_NoPlace i_Apart_NoPlace (.inr ne_Apart_NoPlace)⟩, List.forall_mem_cons.mpr ⟨fun C h => ⟨_, (.inl n_NoRow), by rw [w_Apart C h]; exact kit_own dt_NoRow tt_NoRow i_Apart_NoRow (.inr ne_Apart_NoRow)⟩, List.forall_mem_cons.mpr ⟨fun C h => ⟨_, (.inl n_NoSide), by rw [w_Apart C h]; exact kit_own dt_NoSide tt_NoSide i_Apart_NoSide (.inr ne_Apart_NoSide)⟩, List.forall_mem_cons.mpr ⟨fun C h => ⟨_, (.inl n_NoText), by rw [w_Apart C h]; exact kit_own dt_NoText tt_NoText i_Apart_NoText (.inr ne_Apart_NoText)⟩, List.forall_mem_cons.mpr ⟨fun C h => ⟨_, (.inl n_NoTie), by rw [w_Apart C h]; exact kit_own dt_NoTie tt_NoTie i_Apart_NoTie (.inr ne_Apart_NoTie)⟩, List.forall_mem_cons.mpr ⟨fun C h => ⟨_, (.inl n_NoWay), by rw [w_Apart C h]; exact kit_own dt_NoWay tt_NoWay i_Apart_NoWay (.inr ne_Apart_NoWay)⟩, List.forall_mem_cons.mpr ⟨fun C h => ⟨_, (.inl n_NotLone), by rw [w_Apart C h]; exact kit_own dt_NotLone tt_NotLone i_Apart_NotLone (.inr ne_Apart_NotLone)⟩, List.forall_mem_cons.mpr ⟨fun C h => ⟨_, (.inl n_NotPlain), by rw [w_Apart C h]; exact kit_own dt_NotPlain tt_NotPlain i_Apart_NotPlain (.inr ne_Apart_NotPlain)⟩, List.forall_mem_cons.mpr ⟨fun C h => ⟨_, (.inl n_NothingDone), by rw [w_Apart C h]; exact kit_own dt_NothingDone tt_NothingDone i_Apart_NothingDone (.inr ne_Apart_NothingDone)⟩, List.forall_mem_cons.mpr ⟨fun C h => ⟨_, (.inl n_Tied), by rw [w_Apart C h]; exact kit_own dt_Tied tt_Tied i_Apart_Tied (.inr ne_Apart_Tied)⟩, List.forall_mem_cons.mpr ⟨fun C h => ⟨_, (.inl n_TooMany), by rw [w_Apart C h]; exact kit_own dt_TooMany tt_TooMany i_Apart_TooMany (.inr ne_Apart_TooMany)⟩, List.forall_mem_cons.mpr ⟨fun C h => ⟨_, (.inr ⟨PySem.W.mg_none_of X G z_ValueError, b_ValueError⟩), by rw [w_Apart C h]; exact kit_blt (by decide +kernel) i_Apart_ValueError⟩, List.forall_mem_cons.mpr ⟨fun C h => ⟨_, (.inl n_Apart), by rw [w_BadWeb C h]; exact kit_own dt_Apart tt_Apart i_BadWeb_Apart (.inr ne_BadWeb_Apart)⟩, List.forall_mem_cons.mpr ⟨fun C h => ⟨_, (.inl n_BadLengths), by rw [w_BadWeb C h]; exact kit_own dt_BadLengths tt_BadLengths i_BadWeb_BadLengths (.inr ne_BadWeb_BadLengths)⟩, List.forall_mem_cons.mpr ⟨fun C h => ⟨_, (.inl n_BadWeb), by rw [w_BadWeb C h]; exact kit_own dt_BadWeb tt_BadWeb i_BadWeb_BadWeb (.inl rfl)⟩, List.forall_mem_cons.mpr ⟨fun C h => ⟨_, (.inl n_LoneError), by rw [w_BadWeb C h]; exact kit_own dt_LoneError tt_LoneError i_BadWeb_LoneError (.inl rfl)⟩, List.forall_mem_cons.mpr ⟨fun C h => ⟨_, (.inl n_NoChoice), by rw [w_BadWeb C h]; exact kit_own dt_NoChoice tt_NoChoice i_BadWeb_NoChoice (.inr ne_BadWeb_NoChoice)⟩, List.forall_mem_cons.mpr ⟨fun C h => ⟨_, (.inl n_NoPlace), by rw [w_BadWeb C h]; exact kit_own dt_NoPlace tt_NoPlace i_BadWeb_NoPlace (.inr ne_BadWeb_NoPlace)⟩, List.forall_mem_cons.mpr ⟨fun C h => ⟨_, (.inl n_NoRow), by rw [w_BadWeb C h]; exact kit_own dt_NoRow tt_NoRow i_BadWeb_NoRow (.inr ne_BadWeb_NoRow)⟩, List.forall_mem_cons.mpr ⟨fun C h => ⟨_, (.inl n_NoSide), by rw [w_BadWeb C h]; exact kit_own dt_NoSide tt_NoSide i_BadWeb_NoSide (.inr ne_BadWeb_NoSide)⟩, List.forall_mem_cons.mpr ⟨fun C h => ⟨_, (.inl n_NoText), by rw [w_BadWeb C h]; exact kit_own dt_NoText tt_NoText i_BadWeb_NoText (.inr ne_BadWeb_NoText)⟩, List.forall_mem_cons.mpr ⟨fun C h => ⟨_, (.inl n_NoTie), by rw [w_BadWeb C h]; exact kit_own dt_NoTie tt_NoTie i_BadWeb_NoTie (.inr ne_BadWeb_NoTie)⟩, List.forall_mem_cons.mpr ⟨fun C h => ⟨_, (.inl n_NoWay), by rw [w_BadWeb C h]; exact kit_own dt_NoWay tt_NoWay i_BadWeb_NoWay (.inr ne_BadWeb_NoWay)⟩, List.forall_mem_cons.mpr ⟨fun C h => ⟨_, (.inl n_NotLone), by rw [w_BadWeb C h]; exact kit_own dt_NotLone tt_NotLone i_BadWeb_NotLone (.inr ne_BadWeb_NotLone)⟩, List.forall_mem_cons.mpr ⟨fun C h => ⟨_, (.inl n_NotPlain), by rw [w_BadWeb C h]; exact kit_own dt_NotPlain tt_NotPlain i_BadWeb_NotPlain (.inr ne_BadWeb_NotPlain)⟩, List.forall_mem_cons.mpr ⟨fun C h => ⟨_, (.inl n_NothingDone), by rw [w_BadWeb C h]; exact kit_own dt_NothingDone tt_NothingDone i_BadWeb_NothingDone (.inr ne_BadWeb_NothingDone)⟩, List.forall_mem_cons.mpr ⟨fun C h => ⟨_, (.inl n_Tied), by rw [w_BadWeb C h]; exact kit_own dt_Tied tt_Tied i_BadWeb_Tied (.inr ne_BadWeb_Tied)⟩, List.forall_mem_cons.mpr ⟨fun C h => ⟨_, (.inl n_TooMany), by rw [w_BadWeb C h]; exact kit_own dt_TooMany tt_TooMany i_BadWeb_TooMany (.inr ne_BadWeb_TooMany)⟩, List.forall_mem_cons.mpr ⟨fun C h => ⟨_, (.inr ⟨PySem.W.mg_none_of X G z_ValueError, b_ValueError⟩), by rw [w_BadWeb C h]; exact kit_blt (by decide +kernel) i_BadWeb_ValueError⟩, List.forall_mem_nil _⟩⟩⟩⟩⟩⟩⟩⟩⟩⟩⟩⟩⟩⟩⟩⟩⟩⟩⟩⟩⟩⟩⟩⟩⟩⟩⟩⟩⟩⟩⟩⟩⟩⟩, List.forall_mem_cons.mpr ⟨fun C h => ⟨by rw [w_Apart C h]; exact e_Apart, by rw [w_Apart C h, ch_LoneError]; exact PySem.W.exm_ref bs_LoneError dt_LoneError tt_LoneError i_Apart_LoneError⟩, List.forall_mem_cons.mpr ⟨fun C h => ⟨by rw [w_BadWeb C h]; exact e_BadWeb, by rw [w_BadWeb C h, ch_LoneError]; exact PySem.W.exm_ref bs_LoneError dt_LoneError tt_LoneError i_BadWeb_LoneError⟩, List.forall_mem_nil _⟩⟩, List.forall_mem_nil _, ⟨K_Apart, n_Apart, g_Apart, e_Apart⟩, ⟨K_BadWeb, n_BadWeb, g_BadWeb, e_BadWeb⟩, List.forall_mem_cons.mpr ⟨fun C h => by rw [w_BadWeb C h]; exact no_BadWeb, List.forall_mem_nil _⟩, List.forall_mem_cons.mpr ⟨fun C h => by rw [w_Apart C h]; exact no_Apart, List.forall_mem_nil _⟩⟩
  have D_is_between : Def K mg "is_between" s_is_between p_is_between := def_mk X G a_is_between l_is_between c_is_between k_is_between fun _ _ _ _ _ _ us hl => match us, hl with | [_, _, _], _ => rfl
  have D_is_row : Def K mg "is_row" s_is_row p_is_row := def_mk X G a_is_row l_is_row c_is_row k_is_row fun _ _ _ _ _ _ us hl => match us, hl with | [_], _ => rfl
  have D_tie_told : Def K mg "tie_told" s_tie_told p_tie_told := def_mk X G a_tie_told l_tie_told c_tie_told k_tie_told fun _ _ _ _ _ _ us hl => match us, hl with | [_, _], _ => rfl
  have D_places_come : Def K mg "places_come" s_places_come p_places_come := def_mk X G a_places_come l_places_come c_places_come k_places_come fun _ _ _ _ _ _ us hl => match us, hl with | [_, _], _ => rfl
  have D_made_web : Def K mg "made_web" s_made_web p_made_web := def_mk X G a_made_web l_made_web c_made_web k_made_web fun _ _ _ _ _ _ us hl => match us, hl with | [_, _], _ => rfl
  have D_law_row_of : Def K mg "_law_row_of" s_law_row_of p_law_row_of := def_mk X G a_law_row_of l_law_row_of c_law_row_of k_law_row_of fun _ _ _ _ _ _ us hl => match us, hl with | [_], _ => rfl
  have D_law_jar : Def K mg "_law_jar" s_law_jar p_law_jar := def_mk X G a_law_jar l_law_jar c_law_jar k_law_jar fun _ _ _ _ _ _ us hl => match us, hl with | [_], _ => rfl
  have D_law_take : Def K mg "_law_take" s_law_take p_law_take := def_mk X G a_law_take l_law_take c_law_take k_law_take fun _ _ _ _ _ _ us hl => match us, hl with | [_, _], _ => rfl
  have D_law_length : Def K mg "_law_length" s_law_length p_law_length := def_mk X G a_law_length l_law_length c_law_length k_law_length fun _ _ _ _ _ _ us hl => match us, hl with | [_, _], _ => rfl
  have D_law_order : Def K mg "_law_order" s_law_order p_law_order := def_mk X G a_law_order l_law_order c_law_order k_law_order fun _ _ _ _ _ _ us hl => match us, hl with | [_, _], _ => rfl
  have D_law_tie : Def K mg "_law_tie" s_law_tie p_law_tie := def_mk X G a_law_tie l_law_tie c_law_tie k_law_tie fun _ _ _ _ _ _ us hl => match us, hl with | [_, _, _, _], _ => rfl
  have D_law_held : Def K mg "_law_held" s_law_held p_law_held := def_mk X G a_law_held l_law_held c_law_held k_law_held fun _ _ _ _ _ _ us hl => match us, hl with | [_, _], _ => rfl
  have D_law_many : Def K mg "_law_many" s_law_many p_law_many := def_mk X G a_law_many l_law_many c_law_many k_law_many fun _ _ _ _ _ _ us hl => match us, hl with | [_, _], _ => rfl
  have D_law_web : Def K mg "_law_web" s_law_web p_law_web := def_mk X G a_law_web l_law_web c_law_web k_law_web fun _ _ _ _ _ _ us hl => match us, hl with | [_, _], _ => rfl
  have D_law_kinds : Def K mg "_law_kinds" s_law_kinds p_law_kinds := def_mk X G a_law_kinds l_law_kinds c_law_kinds k_law_kinds fun _ _ _ _ _ _ us hl => match us, hl with | [_], _ => rfl
  have D_law_alone : Def K mg "_law_alone" s_law_alone p_law_alone := def_mk X G a_law_alone l_law_alone c_law_alone k_law_alone fun _ _ _ _ _ _ us hl => match us, hl with | [_, _], _ => rfl
  have D_law_is_tie : Def K mg "_law_is_tie" s_law_is_tie p_law_is_tie := def_mk X G a_law_is_tie l_law_is_tie c_law_is_tie k_law_is_tie fun _ _ _ _ _ _ us hl => match us, hl with | [_, _], _ => rfl
  have D_law_bad_thing : Def K mg "_law_bad_thing" s_law_bad_thing p_law_bad_thing := def_mk X G a_law_bad_thing l_law_bad_thing c_law_bad_thing k_law_bad_thing fun _ _ _ _ _ _ us hl => match us, hl with | [_, _, _], _ => rfl
  have D_law_due : Def K mg "_law_due" s_law_due p_law_due := def_mk X G a_law_due l_law_due c_law_due k_law_due fun _ _ _ _ _ _ us hl => match us, hl with | [_, _], _ => rfl
  have D_law_told : Def K mg "_law_told" s_law_told p_law_told := def_mk X G a_law_told l_law_told c_law_told k_law_told fun _ _ _ _ _ _ us hl => match us, hl with | [_, _], _ => rfl
  have D_law_too_many : Def K mg "_law_too_many" s_law_too_many p_law_too_many := def_mk X G a_law_too_many l_law_too_many c_law_too_many k_law_too_many fun _ _ _ _ _ _ us hl => match us, hl with | [_], _ => rfl
  have e := hfa.symm.trans (PySem.W.mg_of X G a_law)
  cases e
  refine ⟨PySem.W.fnOf "law" "law" (defArgs s_law) (defBody s_law) (defScope s_law) .none kV_law dc_law pm_law an_law cd_law ct_law, fun s v => .of_eq rfl, fun base _ _ => ?_⟩
  have I_Apart : ExcI P w K mg base 1 "Apart" "place" := excI_mk X G g_Apart lx_Apart bm_Apart sa_Apart sb_Apart ty_Apart kp_Apart iC_Apart tI_Apart li_Apart ci_Apart g_LoneError hspB hrB vVB no_Apart rfl ⟨rfl, rfl, rfl, by decide +kernel, rfl, by decide +kernel, by decide +kernel⟩ (.inl rfl) (.inl rfl) (by decide) (by decide) (fun _ _ _ _ _ _ us hl => match us, hl with | [_, _], _ => rfl) (fun _ _ _ _ _ => by rfl) (fun _ _ _ _ _ => ⟨_, rfl⟩)
  have I_BadWeb : ExcI P w K mg base 1 "BadWeb" "at" := excI_mk X G g_BadWeb lx_BadWeb bm_BadWeb sa_BadWeb sb_BadWeb ty_BadWeb kp_BadWeb iC_BadWeb tI_BadWeb li_BadWeb ci_BadWeb g_LoneError hspB hrB vVB no_BadWeb rfl ⟨rfl, rfl, rfl, by decide +kernel, rfl, by decide +kernel, by decide +kernel⟩ (.inl rfl) (.inl rfl) (by decide) (by decide) (fun _ _ _ _ _ _ us hl => match us, hl with | [_, _], _ => rfl) (fun _ _ _ _ _ => by rfl) (fun _ _ _ _ _ => ⟨_, rfl⟩)
  have C_is_between := cal_is_between (P := P) (w := w) (base := base) T U D_is_between 
  have C_is_row := cal_is_row (P := P) (w := w) (base := base) T U D_is_row 
  have C_tie_told := cal_tie_told (P := P) (w := w) (base := base) T U D_tie_told C_is_between C_is_row
  have C_places_come := cal_places_come (P := P) (w := w) (base := base) T U D_places_come 
  have C_made_web := cal_made_web (P := P) (w := w) (base := base) T U D_made_web C_places_come C_tie_told C_is_row C_is_between I_Apart I_BadWeb
  have C_law_row_of := cal_law_row_of (P := P) (w := w) (base := base) T U D_law_row_of 
  have C_law_jar := cal_law_jar (P := P) (w := w) (base := base) T U D_law_jar C_law_row_of
  have C_law_take := cal_law_take (P := P) (w := w) (base := base) T U D_law_take 
  have C_law_length := cal_law_length (P := P) (w := w) (base := base) T U D_law_length C_law_take
  have C_law_order := cal_law_order (P := P) (w := w) (base := base) T U D_law_order C_law_take
  have C_law_tie := cal_law_tie (P := P) (w := w) (base := base) T U D_law_tie 
  have C_law_held := cal_law_held (P := P) (w := w) (base := base) T U D_law_held C_law_take C_law_length C_law_tie C_law_order
  have C_law_many := cal_law_many (P := P) (w := w) (base := base) T U D_law_many C_law_take
  have C_law_web := cal_law_web (P := P) (w := w) (base := base) T U D_law_web C_law_held C_law_many
  have C_law_kinds := cal_law_kinds (P := P) (w := w) (base := base) T U D_law_kinds 
  have C_law_alone := cal_law_alone (P := P) (w := w) (base := base) T U D_law_alone C_law_kinds
  have C_law_is_tie := cal_law_is_tie (P := P) (w := w) (base := base) T U D_law_is_tie 
  have C_law_bad_thing := cal_law_bad_thing (P := P) (w := w) (base := base) T U D_law_bad_thing C_law_take C_law_is_tie
  have C_law_due := cal_law_due (P := P) (w := w) (base := base) T U D_law_due C_law_is_tie
  have C_law_told := cal_law_told (P := P) (w := w) (base := base) T U D_law_told C_made_web C_law_alone
  have C_law_too_many := cal_law_too_many (P := P) (w := w) (base := base) T U D_law_too_many C_law_bad_thing C_law_take
  exact (cal_law (P := P) (w := w) (base := base) T U (fun_mk (st := s_law) l_law c_law k_law) C_law_told C_law_take C_law_due C_law_too_many C_law_bad_thing C_law_order C_law_web C_law_jar).imp fun vs H Q E hs => law_sp good hs
end G
open PySem PySem.W PyProof.Rows
set_option maxHeartbeats 0 in
theorem PySem.Challenge.cw_lonetrack_k02_webs_refused_holds : PySem.Challenge.rw_lonetrack_k02_webs_refused.Holds := by
  w_on; o_law; k_head; (case hw => w_witness2)
  k_fill
  refine L2.walk_of (l := PySem.Challenge.rw_lonetrack_k02_webs_refused) (n := 63) (k := 5) (x := "script") (CX := fun w => L2N.CX PySem.Challenge.rw_lonetrack_k02_webs_refused.prog w) (sp := fun w => VS.spTrue _) rfl (by decide) rfl ⟨rfl, by decide, by decide⟩ (fun w h Y => PySem.W.kIn_of Y) ?F (fun _ _ a ns hl _ hS => ⟨a, ns, rfl, hS, hl, trivial, fun _ => rfl⟩) (fun _ _ _ _ _ h => VS.cx_end h)
  case F =>
    intro w mg fa h KX GX hmg
    refine' G.all_mk KX GX hmg G.good ?a_is_between ?l_is_between ?c_is_between ?k_is_between ?a_is_row ?l_is_row ?c_is_row ?k_is_row ?a_tie_told ?l_tie_told ?c_tie_told ?k_tie_told ?a_places_come ?l_places_come ?c_places_come ?k_places_come ?a_made_web ?l_made_web ?c_made_web ?k_made_web ?a_law_row_of ?l_law_row_of ?c_law_row_of ?k_law_row_of ?a_law_jar ?l_law_jar ?c_law_jar ?k_law_jar ?a_law_take ?l_law_take ?c_law_take ?k_law_take ?a_law_length ?l_law_length ?c_law_length ?k_law_length ?a_law_order ?l_law_order ?c_law_order ?k_law_order ?a_law_tie ?l_law_tie ?c_law_tie ?k_law_tie ?a_law_held ?l_law_held ?c_law_held ?k_law_held ?a_law_many ?l_law_many ?c_law_many ?k_law_many ?a_law_web ?l_law_web ?c_law_web ?k_law_web ?a_law_kinds ?l_law_kinds ?c_law_kinds ?k_law_kinds ?a_law_alone ?l_law_alone ?c_law_alone ?k_law_alone ?a_law_is_tie ?l_law_is_tie ?c_law_is_tie ?k_law_is_tie ?a_law_bad_thing ?l_law_bad_thing ?c_law_bad_thing ?k_law_bad_thing ?a_law_due ?l_law_due ?c_law_due ?k_law_due ?a_law_told ?l_law_told ?c_law_told ?k_law_told ?a_law_too_many ?l_law_too_many ?c_law_too_many ?k_law_too_many ?a_law ?l_law ?c_law ?k_law ?z_MOST_LENGTH ?z_MOST_PLACES ?z_MOST_TIES ?z_ValueError ?z_abs ?z_all ?z_bool ?z_enumerate ?z_int ?z_isinstance ?z_len ?z_list ?z_max ?z_min ?z_range ?z_sorted ?z_sum ?z_tuple ?g_Apart ?g_BadLengths ?g_BadWeb ?g_LoneError ?g_NoChoice ?g_NoPlace ?g_NoRow ?g_NoSide ?g_NoText ?g_NoTie ?g_NoWay ?g_NotLone ?g_NotPlain ?g_NothingDone ?g_Tied ?g_TooMany ?hn ?ht ?hspB ?hrB ?vVB ?lx_Apart ?bm_Apart ?sa_Apart ?iC_Apart ?tI_Apart ?li_Apart ?ci_Apart ?no_Apart ?lx_BadWeb ?bm_BadWeb ?sa_BadWeb ?iC_BadWeb ?tI_BadWeb ?li_BadWeb ?ci_BadWeb ?no_BadWeb ?kp_Apart ?sb_Apart ?ty_Apart ?eg_Apart ?ek_Apart ?ed_Apart ?ea_Apart ?em_Apart ?kp_BadWeb ?sb_BadWeb ?ty_BadWeb ?eg_BadWeb ?ek_BadWeb ?ed_BadWeb ?ea_BadWeb ?em_BadWeb ?dt_Apart ?tt_Apart ?dt_BadLengths ?tt_BadLengths ?dt_BadWeb ?tt_BadWeb ?dt_LoneError ?tt_LoneError ?dt_NoChoice ?tt_NoChoice ?dt_NoPlace ?tt_NoPlace ?dt_NoRow ?tt_NoRow ?dt_NoSide ?tt_NoSide ?dt_NoText ?tt_NoText ?dt_NoTie ?tt_NoTie ?dt_NoWay ?tt_NoWay ?dt_NotLone ?tt_NotLone ?dt_NotPlain ?tt_NotPlain ?dt_NothingDone ?tt_NothingDone ?dt_Tied ?tt_Tied ?dt_TooMany ?tt_TooMany ?bs_LoneError ?i_Apart_Apart ?i_Apart_BadLengths ?ne_Apart_BadLengths ?i_Apart_BadWeb ?ne_Apart_BadWeb ?i_Apart_LoneError ?i_Apart_NoChoice ?ne_Apart_NoChoice ?i_Apart_NoPlace ?ne_Apart_NoPlace ?i_Apart_NoRow ?ne_Apart_NoRow ?i_Apart_NoSide ?ne_Apart_NoSide ?i_Apart_NoText ?ne_Apart_NoText ?i_Apart_NoTie ?ne_Apart_NoTie ?i_Apart_NoWay ?ne_Apart_NoWay ?i_Apart_NotLone ?ne_Apart_NotLone ?i_Apart_NotPlain ?ne_Apart_NotPlain ?i_Apart_NothingDone ?ne_Apart_NothingDone ?i_Apart_Tied ?ne_Apart_Tied ?i_Apart_TooMany ?ne_Apart_TooMany ?i_Apart_ValueError ?i_BadWeb_Apart ?ne_BadWeb_Apart ?i_BadWeb_BadLengths ?ne_BadWeb_BadLengths ?i_BadWeb_BadWeb ?i_BadWeb_LoneError ?i_BadWeb_NoChoice ?ne_BadWeb_NoChoice ?i_BadWeb_NoPlace ?ne_BadWeb_NoPlace ?i_BadWeb_NoRow ?ne_BadWeb_NoRow ?i_BadWeb_NoSide ?ne_BadWeb_NoSide ?i_BadWeb_NoText ?ne_BadWeb_NoText ?i_BadWeb_NoTie ?ne_BadWeb_NoTie ?i_BadWeb_NoWay ?ne_BadWeb_NoWay ?i_BadWeb_NotLone ?ne_BadWeb_NotLone ?i_BadWeb_NotPlain ?ne_BadWeb_NotPlain ?i_BadWeb_NothingDone ?ne_BadWeb_NothingDone ?i_BadWeb_Tied ?ne_BadWeb_Tied ?i_BadWeb_TooMany ?ne_BadWeb_TooMany ?i_BadWeb_ValueError
    (case a_is_between => k_is); (case l_is_between => k_is); (case c_is_between => k_is); (case k_is_between => k_is); (case a_is_row => k_is); (case l_is_row => k_is); (case c_is_row => k_is); (case k_is_row => k_is); (case a_tie_told => k_is); (case l_tie_told => k_is); (case c_tie_told => k_is); (case k_tie_told => k_is); (case a_places_come => k_is); (case l_places_come => k_is); (case c_places_come => k_is); (case k_places_come => k_is); (case a_made_web => k_is); (case l_made_web => k_is); (case c_made_web => k_is); (case k_made_web => k_is); (case a_law_row_of => k_is); (case l_law_row_of => k_is); (case c_law_row_of => k_is); (case k_law_row_of => k_is); (case a_law_jar => k_is); (case l_law_jar => k_is); (case c_law_jar => k_is); (case k_law_jar => k_is); (case a_law_take => k_is); (case l_law_take => k_is); (case c_law_take => k_is); (case k_law_take => k_is); (case a_law_length => k_is); (case l_law_length => k_is); (case c_law_length => k_is); (case k_law_length => k_is); (case a_law_order => k_is); (case l_law_order => k_is); (case c_law_order => k_is); (case k_law_order => k_is); (case a_law_tie => k_is); (case l_law_tie => k_is); (case c_law_tie => k_is); (case k_law_tie => k_is); (case a_law_held => k_is); (case l_law_held => k_is); (case c_law_held => k_is); (case k_law_held => k_is); (case a_law_many => k_is); (case l_law_many => k_is); (case c_law_many => k_is); (case k_law_many => k_is); (case a_law_web => k_is); (case l_law_web => k_is); (case c_law_web => k_is); (case k_law_web => k_is); (case a_law_kinds => k_is); (case l_law_kinds => k_is); (case c_law_kinds => k_is); (case k_law_kinds => k_is); (case a_law_alone => k_is); (case l_law_alone => k_is); (case c_law_alone => k_is); (case k_law_alone => k_is); (case a_law_is_tie => k_is); (case l_law_is_tie => k_is); (case c_law_is_tie => k_is); (case k_law_is_tie => k_is); (case a_law_bad_thing => k_is); (case l_law_bad_thing => k_is); (case c_law_bad_thing => k_is); (case k_law_bad_thing => k_is); (case a_law_due => k_is); (case l_law_due => k_is); (case c_law_due => k_is); (case k_law_due => k_is); (case a_law_told => k_is); (case l_law_told => k_is); (case c_law_told => k_is); (case k_law_told => k_is); (case a_law_too_many => k_is); (case l_law_too_many => k_is); (case c_law_too_many => k_is); (case k_law_too_many => k_is); (case a_law => k_is); (case l_law => k_is); (case c_law => k_is); (case k_law => k_is); (case z_MOST_LENGTH => k_is); (case z_MOST_PLACES => k_is); (case z_MOST_TIES => k_is); (case z_ValueError => k_is); (case z_abs => k_is); (case z_all => k_is); (case z_bool => k_is); (case z_enumerate => k_is); (case z_int => k_is); (case z_isinstance => k_is); (case z_len => k_is); (case z_list => k_is); (case z_max => k_is); (case z_min => k_is); (case z_range => k_is); (case z_sorted => k_is); (case z_sum => k_is); (case z_tuple => k_is); (case g_Apart => k_is); (case g_BadLengths => k_is); (case g_BadWeb => k_is); (case g_LoneError => k_is); (case g_NoChoice => k_is); (case g_NoPlace => k_is); (case g_NoRow => k_is); (case g_NoSide => k_is); (case g_NoText => k_is); (case g_NoTie => k_is); (case g_NoWay => k_is); (case g_NotLone => k_is); (case g_NotPlain => k_is); (case g_NothingDone => k_is); (case g_Tied => k_is); (case g_TooMany => k_is); (case hn => k_is); (case ht => k_is); (case hspB => k_is); (case hrB => k_is); (case vVB => k_is); (case lx_Apart => k_is); (case bm_Apart => rfl); (case sa_Apart => k_is); (case iC_Apart => k_is); (case tI_Apart => k_is); (case li_Apart => k_is); (case ci_Apart => k_is); (case no_Apart => k_is); (case lx_BadWeb => k_is); (case bm_BadWeb => rfl); (case sa_BadWeb => k_is); (case iC_BadWeb => k_is); (case tI_BadWeb => k_is); (case li_BadWeb => k_is); (case ci_BadWeb => k_is); (case no_BadWeb => k_is); (case kp_Apart => k_is); (case sb_Apart => k_is); (case ty_Apart => k_is); (case eg_Apart => k_is); (case ek_Apart => k_is); (case ed_Apart => k_is); (case ea_Apart => k_is); (case em_Apart => k_is); (case kp_BadWeb => k_is); (case sb_BadWeb => k_is); (case ty_BadWeb => k_is); (case eg_BadWeb => k_is); (case ek_BadWeb => k_is); (case ed_BadWeb => k_is); (case ea_BadWeb => k_is); (case em_BadWeb => k_is); (case dt_Apart => k_is); (case tt_Apart => k_is); (case dt_BadLengths => k_is); (case tt_BadLengths => k_is); (case dt_BadWeb => k_is); (case tt_BadWeb => k_is); (case dt_LoneError => k_is); (case tt_LoneError => k_is); (case dt_NoChoice => k_is); (case tt_NoChoice => k_is); (case dt_NoPlace => k_is); (case tt_NoPlace => k_is); (case dt_NoRow => k_is); (case tt_NoRow => k_is); (case dt_NoSide => k_is); (case tt_NoSide => k_is); (case dt_NoText => k_is); (case tt_NoText => k_is); (case dt_NoTie => k_is); (case tt_NoTie => k_is); (case dt_NoWay => k_is); (case tt_NoWay => k_is); (case dt_NotLone => k_is); (case tt_NotLone => k_is); (case dt_NotPlain => k_is); (case tt_NotPlain => k_is); (case dt_NothingDone => k_is); (case tt_NothingDone => k_is); (case dt_Tied => k_is); (case tt_Tied => k_is); (case dt_TooMany => k_is); (case tt_TooMany => k_is); (case bs_LoneError => k_is); (case i_Apart_Apart => k_is); (case i_Apart_BadLengths => k_is); (case ne_Apart_BadLengths => rfl); (case i_Apart_BadWeb => k_is); (case ne_Apart_BadWeb => rfl); (case i_Apart_LoneError => k_is); (case i_Apart_NoChoice => k_is); (case ne_Apart_NoChoice => rfl); (case i_Apart_NoPlace => k_is); (case ne_Apart_NoPlace => rfl); (case i_Apart_NoRow => k_is); (case ne_Apart_NoRow => rfl); (case i_Apart_NoSide => k_is); (case ne_Apart_NoSide => rfl); (case i_Apart_NoText => k_is); (case ne_Apart_NoText => rfl); (case i_Apart_NoTie => k_is); (case ne_Apart_NoTie => rfl); (case i_Apart_NoWay => k_is); (case ne_Apart_NoWay => rfl); (case i_Apart_NotLone => k_is); (case ne_Apart_NotLone => rfl); (case i_Apart_NotPlain => k_is); (case ne_Apart_NotPlain => rfl); (case i_Apart_NothingDone => k_is); (case ne_Apart_NothingDone => rfl); (case i_Apart_Tied => k_is); (case ne_Apart_Tied => rfl); (case i_Apart_TooMany => k_is); (case ne_Apart_TooMany => rfl); (case i_Apart_ValueError => k_is); (case i_BadWeb_Apart => k_is); (case ne_BadWeb_Apart => rfl); (case i_BadWeb_BadLengths => k_is); (case ne_BadWeb_BadLengths => rfl); (case i_BadWeb_BadWeb => k_is); (case i_BadWeb_LoneError => k_is); (case i_BadWeb_NoChoice => k_is); (case ne_BadWeb_NoChoice => rfl); (case i_BadWeb_NoPlace => k_is); (case ne_BadWeb_NoPlace => rfl); (case i_BadWeb_NoRow => k_is); (case ne_BadWeb_NoRow => rfl); (case i_BadWeb_NoSide => k_is); (case ne_BadWeb_NoSide => rfl); (case i_BadWeb_NoText => k_is); (case ne_BadWeb_NoText => rfl); (case i_BadWeb_NoTie => k_is); (case ne_BadWeb_NoTie => rfl); (case i_BadWeb_NoWay => k_is); (case ne_BadWeb_NoWay => rfl); (case i_BadWeb_NotLone => k_is); (case ne_BadWeb_NotLone => rfl); (case i_BadWeb_NotPlain => k_is); (case ne_BadWeb_NotPlain => rfl); (case i_BadWeb_NothingDone => k_is); (case ne_BadWeb_NothingDone => rfl); (case i_BadWeb_Tied => k_is); (case ne_BadWeb_Tied => rfl); (case i_BadWeb_TooMany => k_is); (case ne_BadWeb_TooMany => rfl); (case i_BadWeb_ValueError => k_is)
