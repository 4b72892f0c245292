import PyProof.Rows.All
import HandS.ForMost
import HandS.Lambda
import HandS.ExcInit
import HandS.ForExc
import HandS.HotCalls
import HandS.Deep
import HandS.More
import HandS.TupAny
import HandS.TupLen
import HandS.SetKeys
import HandS.IsInst
import HandS.Zip
import KE.SortData
import KE.DataMinMax
import KE.KDictCopyH
import KE.KDictSum
import HandS.Conv
import HandS.TryOnly
import HandS.ExcIs
import PyProof.SumAnyB
import HandS.TupMul
import KE.GoesEnum
import HandS.SetFor
import HandS.TupSets
import HandS.Style
import HandS.Sort
import KE.KRevSl
import PyProof.TupleOfSeq
import KE.GoesMore
import HandS.DictComp
import PyProof.NeKinds
import PyProof.StrOps2
import HandS.Strs
import PyProof.MaxThree
import HandS.Nested
import HandS.SortKw
import KE.SortKeyHeap
import KE.KDictWalk
import HandS.Text
import HandS.TupLe
import KE.KExcIs
import HandS.ExcField
import KE.KDictZip
import HandS.RaiseMore
import PySem.Challenge.RW_lonetrack_k40_least_webs_told
import Wide.All
import OpenK.AllK
import Wide.FinOn
import HandS.EndTab
set_option Elab.async false
set_option linter.all false
set_option maxRecDepth 100000
set_option maxHeartbeats 4000000
namespace VS
open PySem PySem.Spec PyProof.Rows L2
def ghP : Option (Addr × Str) := none
end VS
set_option Elab.async false
set_option linter.all false
set_option maxRecDepth 100000
set_option maxHeartbeats 4000000
noncomputable section
structure VS.inR (i : Int) : Prop where
  lo : -(2 ^ 62) ≤ i
  hi : i < 2 ^ 62
structure VS.in63 (i : Int) : Prop where
  lo : -(2 ^ 63) ≤ i
  hi : i < 2 ^ 63
structure VS.in64 (i : Int) : Prop where
  lo : -(2 ^ 64) < i
  hi : i < 2 ^ 64
structure VS.in30 (i : Int) : Prop where
  lo : 0 < i
  hi : i < 1073741824
noncomputable instance VS.inR_dec {i : Int} : Decidable (VS.inR i) := Classical.propDecidable _
noncomputable instance VS.in63_dec {i : Int} : Decidable (VS.in63 i) := Classical.propDecidable _
noncomputable instance VS.in64_dec {i : Int} : Decidable (VS.in64 i) := Classical.propDecidable _
noncomputable instance VS.in30_dec {i : Int} : Decidable (VS.in30 i) := Classical.propDecidable _
namespace VS
open PySem PySem.Spec PyProof.Rows L2
inductive D where
  | unk | hole | non | bl (b : Bool) | int (i : Int) | str (x : Str) | adr (a : Addr) | exo (c : Str) (p : Option (Str × Int))
  | tup (ds : List D) | lst (o : Bool) (ds : List D) | scr (ds : List D) | ktp (ds : List D)
  | dK (o : Bool) (ks : List Key) (ds : List D)
  | dT (o : Bool) (ks : List (List Key)) (ds : List D)
  | lK (ks : List Key) (ds : List D)
  | lT (ks : List (List Key)) (ds : List D)
  | lck (o : HO)
  | ob (C : Addr) (fs : List Str) (ds : List D)
abbrev Env := List D
mutual
def fz : D → Bool
  | .unk => false
  | .hole => false
  | .non => true
  | .bl _ => true
  | .int _ => true
  | .str _ => true
  | .adr _ => true
  | .exo _ _ => true
  | .tup ds => fzL ds
  | .lst o ds => !o && fzL ds
  | .scr ds => fzL ds
  | .ktp ds => fzL ds
  | .dK o _ ds => !o && fzL ds
  | .dT o _ ds => !o && fzL ds
  | .lK _ ds => fzL ds
  | .lT _ ds => fzL ds
  | .lck _ => true
  | .ob _ _ _ => false
def fzL : List D → Bool
  | [] => true
  | d :: ds => fz d && fzL ds
end
mutual
def freeze : D → D
  | .tup ds => .tup (freezeL ds)
  | .lst _ ds => .lst false (freezeL ds)
  | .scr ds => .scr (freezeL ds)
  | .ktp ds => .ktp (freezeL ds)
  | .dK _ ks ds => .dK false ks (freezeL ds)
  | .dT _ ks ds => .dT false ks (freezeL ds)
  | .lK ks ds => .lK ks (freezeL ds)
  | .lT ks ds => .lT ks (freezeL ds)
  | .lck o => .lck o
  | .ob _ _ _ => .unk
  | .hole => .unk
  | .unk => .unk
  | .non => .non
  | .bl b => .bl b
  | .int i => .int i
  | .str x => .str x
  | .adr a => .adr a
  | .exo c p => .exo c p
def freezeL : List D → List D
  | [] => []
  | d :: ds => freeze d :: freezeL ds
end
theorem freezeL_map : ∀ ds : List D, freezeL ds = ds.map freeze
  | [] => rfl
  | d :: ds => by rw [freezeL, freezeL_map ds]; rfl
theorem fzL_all : ∀ ds : List D, fzL ds = ds.all fz
  | [] => rfl
  | d :: ds => by rw [fzL, fzL_all ds]; rfl
mutual
theorem freeze_fz : ∀ d : D, fz d = true → freeze d = d
  | .unk, h => by simp [fz] at h
  | .hole, h => by simp [fz] at h
  | .non, _ => rfl
  | .bl _, _ => rfl
  | .int _, _ => rfl
  | .str _, _ => rfl
  | .adr _, _ => rfl
  | .exo _ _, _ => rfl
  | .tup ds, h => by
    rw [fz] at h
    rw [freeze, freezeL_fz ds h]
  | .lst o ds, h => by
    rw [fz, Bool.and_eq_true] at h
    obtain ⟨h1, h2⟩ := h
    have : o = false := by cases o <;> simp_all
    rw [freeze, freezeL_fz ds h2, this]
  | .scr ds, h => by
    rw [fz] at h
    rw [freeze, freezeL_fz ds h]
  | .ktp ds, h => by
    rw [fz] at h
    rw [freeze, freezeL_fz ds h]
  | .dK o ks ds, h => by
    rw [fz, Bool.and_eq_true] at h
    obtain ⟨h1, h2⟩ := h
    have : o = false := by cases o <;> simp_all
    rw [freeze, freezeL_fz ds h2, this]
  | .dT o ks ds, h => by
    rw [fz, Bool.and_eq_true] at h
    obtain ⟨h1, h2⟩ := h
    have : o = false := by cases o <;> simp_all
    rw [freeze, freezeL_fz ds h2, this]
  | .lK ks ds, h => by
    rw [fz] at h
    rw [freeze, freezeL_fz ds h]
  | .lT ks ds, h => by
    rw [fz] at h
    rw [freeze, freezeL_fz ds h]
  | .lck _, _ => rfl
  | .ob _ _ _, h => by simp [fz] at h
theorem freezeL_fz : ∀ ds : List D, fzL ds = true → freezeL ds = ds
  | [], _ => rfl
  | d :: ds, h => by
    rw [fzL, Bool.and_eq_true] at h
    rw [freezeL, freeze_fz d h.1, freezeL_fz ds h.2]
end
def nTT (o : HO) : Prop := (∀ xs, o ≠ .tup xs) ∧ ∀ ps, o ≠ .tbl ps
def exHO (a C : Addr) (d : Option Addr) : HO := .ext fun h => ∃ (oe : Obj) (vs : Array Value), h.get? a = some oe ∧ oe.cls = .ref C ∧ oe.dict = d ∧ oe.data = .fields vs
section
variable (K : PySem.W.Frag) (F H : Hp)
mutual
/-- the value v is the data d: frozen parts in F, owned ones in H at the addresses A -/
def Ow : D → V → List Addr → Prop
  | .unk, _, A => A = []
  | .hole, v, A => ∃ a o, v = .ref a ∧ (H a = some o ∧ nTT o) ∧ A = [a]
  | .non, v, A => v = .non ∧ A = []
  | .bl b, v, A => v = .bl b ∧ A = []
  | .int i, v, A => v = .int i ∧ A = []
  | .str x, v, A => v = .str x ∧ A = []
  | .adr a, v, A => v = .ref a ∧ A = []
  | .exo c p, v, A => (∃ a C d, v = .ref a ∧ F a = some (exHO a C d) ∧ PySem.W.nsIn K mainGlobals c = some (some (.ref C)) ∧ match p with
      | none => d = none
      | some (f, n) => ∃ b, d = some b ∧ F b = some (.xd [(f, .int n)])) ∧ A = []
  | .tup ds, v, A => ∃ a vs, v = .ref a ∧ F a = some (.tup vs) ∧ OwL ds vs A
  | .ktp ds, v, A => ∃ a vs, v = .ref a ∧ SqT K F a vs ∧ OwL ds vs A
  | .lst false ds, v, A => ∃ a vs, v = .ref a ∧ F a = some (.lst vs) ∧ OwL ds vs A
  | .scr ds, v, A => ∃ a vs, v = .ref a ∧ SqL K F a vs ∧ OwL ds vs A
  | .lst true ds, v, A => ∃ a vs A', v = .ref a ∧ H a = some (.lst vs) ∧ OwL ds vs A' ∧ A = a :: A'
  | .dK false ks ds, v, A => ∃ a vs, v = .ref a ∧ F a = some (.dK (ks.zip vs)) ∧ (ks.length = ds.length ∧ ks.Nodup) ∧ OwL ds vs A
  | .dK true ks ds, v, A => ∃ a vs A', v = .ref a ∧ H a = some (.dK (ks.zip vs)) ∧ (ks.length = ds.length ∧ ks.Nodup) ∧ OwL ds vs A' ∧ A = a :: A'
  | .dT false ks ds, v, A => ∃ a vs, v = .ref a ∧ F a = some (.dT (ks.zip vs)) ∧ (ks.length = ds.length ∧ ks.Nodup) ∧ OwL ds vs A
  | .dT true ks ds, v, A => ∃ a vs A', v = .ref a ∧ H a = some (.dT (ks.zip vs)) ∧ (ks.length = ds.length ∧ ks.Nodup) ∧ OwL ds vs A' ∧ A = a :: A'
  | .lK ks ds, v, A => ∃ a vs, v = .ref a ∧ (∃ o, F a = some (.frz o (.dK (ks.zip vs)))) ∧ (ks.length = ds.length ∧ ks.Nodup) ∧ OwL ds vs A
  | .lT ks ds, v, A => ∃ a vs, v = .ref a ∧ (∃ o, F a = some (.frz o (.dT (ks.zip vs)))) ∧ (ks.length = ds.length ∧ ks.Nodup) ∧ OwL ds vs A
  | .lck o, v, A => (∃ a, v = .ref a ∧ F a = some o) ∧ A = []
  | .ob C fs ds, v, A => ∃ a dx vs A', v = .ref a ∧ H a = some (.ins C dx (fs.zip vs)) ∧ H dx = some (.own a) ∧ (fs.length = ds.length ∧ fs.Nodup) ∧ OwL ds vs A' ∧ A = a :: dx :: A'
def OwL : List D → List V → List Addr → Prop
  | [], vs, A => vs = [] ∧ A = []
  | d :: ds, vs, A => ∃ v r A1 A2, vs = v :: r ∧ A = A1 ++ A2 ∧ Ow d v A1 ∧ OwL ds r A2
end
end
variable {K : PySem.W.Frag} {F F' H H' : Hp}
theorem Same.sqT {a : Addr} {xs : List V} (e : Same F H) (h : SqT K F a xs) : SqT K H a xs := by
  rcases h with (h | ⟨o, h⟩) | h
  · exact .inl (.inl (e _ _ h))
  · exact .inl (.inr ⟨o, e _ _ h⟩)
  · exact .inr h
mutual
theorem Ow.keep (sF : Same F F') : ∀ (d : D) (v : V) (A : List Addr), Ow K F H d v A → (∀ a ∈ A, H' a = H a) → Ow K F' H' d v A
  | .unk, v, A, h, _ => by rw [Ow] at h ⊢; exact h
  | .hole, v, A, h, k => by
    rw [Ow] at h ⊢
    obtain ⟨a, o, e, ho, rfl⟩ := h
    exact ⟨a, o, e, ⟨by rw [k a (by simp)]; exact ho.1, ho.2⟩, rfl⟩
  | .non, v, A, h, _ => by rw [Ow] at h ⊢; exact h
  | .bl b, v, A, h, _ => by rw [Ow] at h ⊢; exact h
  | .int i, v, A, h, _ => by rw [Ow] at h ⊢; exact h
  | .str x, v, A, h, _ => by rw [Ow] at h ⊢; exact h
  | .adr x, v, A, h, _ => by rw [Ow] at h ⊢; exact h
  | .exo c p, v, A, h, _ => by
    rw [Ow] at h ⊢
    obtain ⟨⟨a, C, d, e, q, n, k⟩, z⟩ := h
    refine ⟨⟨a, C, d, e, sF _ _ q, n, ?_⟩, z⟩
    cases p with
    | none => exact k
    | some p =>
      obtain ⟨b, e1, e2⟩ := k
      exact ⟨b, e1, sF _ _ e2⟩
  | .tup ds, v, A, h, k => by
    rw [Ow] at h ⊢
    obtain ⟨a, vs, e, q, l⟩ := h
    exact ⟨a, vs, e, sF _ _ q, OwL.keep sF ds vs A l k⟩
  | .ktp ds, v, A, h, k => by
    rw [Ow] at h ⊢
    obtain ⟨a, vs, e, q, l⟩ := h
    exact ⟨a, vs, e, Same.sqT sF q, OwL.keep sF ds vs A l k⟩
  | .lst false ds, v, A, h, k => by
    rw [Ow] at h ⊢
    obtain ⟨a, vs, e, q, l⟩ := h
    exact ⟨a, vs, e, sF _ _ q, OwL.keep sF ds vs A l k⟩
  | .scr ds, v, A, h, k => by
    rw [Ow] at h ⊢
    obtain ⟨a, vs, e, q, l⟩ := h
    exact ⟨a, vs, e, sF.seq q, OwL.keep sF ds vs A l k⟩
  | .lst true ds, v, A, h, k => by
    rw [Ow] at h ⊢
    obtain ⟨a, vs, A', e, q, l, rfl⟩ := h
    exact ⟨a, vs, A', e, by rw [k a (by simp)]; exact q, OwL.keep sF ds vs A' l fun b hb => k b (List.mem_cons_of_mem _ hb), rfl⟩
  | .dK false ks ds, v, A, h, k => by
    rw [Ow] at h ⊢
    obtain ⟨a, vs, e, q, n, l⟩ := h
    exact ⟨a, vs, e, sF _ _ q, n, OwL.keep sF ds vs A l k⟩
  | .dK true ks ds, v, A, h, k => by
    rw [Ow] at h ⊢
    obtain ⟨a, vs, A', e, q, n, l, rfl⟩ := h
    exact ⟨a, vs, A', e, by rw [k a (by simp)]; exact q, n, OwL.keep sF ds vs A' l fun b hb => k b (List.mem_cons_of_mem _ hb), rfl⟩
  | .dT false ks ds, v, A, h, k => by
    rw [Ow] at h ⊢
    obtain ⟨a, vs, e, q, n, l⟩ := h
    exact ⟨a, vs, e, sF _ _ q, n, OwL.keep sF ds vs A l k⟩
  | .dT true ks ds, v, A, h, k => by
    rw [Ow] at h ⊢
    obtain ⟨a, vs, A', e, q, n, l, rfl⟩ := h
    exact ⟨a, vs, A', e, by rw [k a (by simp)]; exact q, n, OwL.keep sF ds vs A' l fun b hb => k b (List.mem_cons_of_mem _ hb), rfl⟩
  | .lK ks ds, v, A, h, k => by
    rw [Ow] at h ⊢
    obtain ⟨a, vs, e, q, n, l⟩ := h
    exact ⟨a, vs, e, q.imp fun _ q => sF _ _ q, n, OwL.keep sF ds vs A l k⟩
  | .lT ks ds, v, A, h, k => by
    rw [Ow] at h ⊢
    obtain ⟨a, vs, e, q, n, l⟩ := h
    exact ⟨a, vs, e, q.imp fun _ q => sF _ _ q, n, OwL.keep sF ds vs A l k⟩
  | .lck o, v, A, h, k => by
    rw [Ow] at h ⊢
    exact ⟨h.1.imp fun _ q => ⟨q.1, sF _ _ q.2⟩, h.2⟩
  | .ob C fs ds, v, A, h, k => by
    rw [Ow] at h ⊢
    obtain ⟨a, dx, vs, A', e, q, q2, n, l, rfl⟩ := h
    exact ⟨a, dx, vs, A', e, by rw [k a (by simp)]; exact q, by rw [k dx (by simp)]; exact q2, n, OwL.keep sF ds vs A' l fun b hb => k b (List.mem_cons_of_mem _ (List.mem_cons_of_mem _ hb)), rfl⟩
theorem OwL.keep (sF : Same F F') : ∀ (ds : List D) (vs : List V) (A : List Addr), OwL K F H ds vs A → (∀ a ∈ A, H' a = H a) → OwL K F' H' ds vs A
  | [], vs, A, h, _ => by rw [OwL] at h ⊢; exact h
  | d :: ds, vs, A, h, k => by
    rw [OwL] at h ⊢
    obtain ⟨v, r, A1, A2, e, rfl, h1, h2⟩ := h
    exact ⟨v, r, A1, A2, e, rfl, Ow.keep sF d v A1 h1 fun a ha => k a (List.mem_append_left _ ha), OwL.keep sF ds r A2 h2 fun a ha => k a (List.mem_append_right _ ha)⟩
end
mutual
/-- an owned address stands in H -/
theorem Ow.dom : ∀ (d : D) (v : V) (A : List Addr), Ow K F H d v A → ∀ a ∈ A, ∃ o, H a = some o ∧ nTT o
  | .unk, v, A, h, a, ha => by rw [Ow] at h; subst h; cases ha
  | .hole, v, A, h, a, ha => by
    rw [Ow] at h
    obtain ⟨b, o, _, ho, rfl⟩ := h
    rw [List.mem_singleton] at ha
    subst ha
    exact ⟨o, ho⟩
  | .non, v, A, h, a, ha => by rw [Ow] at h; rw [h.2] at ha; cases ha
  | .bl b, v, A, h, a, ha => by rw [Ow] at h; rw [h.2] at ha; cases ha
  | .int i, v, A, h, a, ha => by rw [Ow] at h; rw [h.2] at ha; cases ha
  | .str x, v, A, h, a, ha => by rw [Ow] at h; rw [h.2] at ha; cases ha
  | .adr x, v, A, h, a, ha => by rw [Ow] at h; rw [h.2] at ha; cases ha
  | .exo x p, v, A, h, a, ha => by rw [Ow] at h; rw [h.2] at ha; cases ha
  | .tup ds, v, A, h, a, ha => by
    rw [Ow] at h
    obtain ⟨_, vs, _, _, l⟩ := h
    exact OwL.dom ds vs A l a ha
  | .lst false ds, v, A, h, a, ha => by
    rw [Ow] at h
    obtain ⟨_, vs, _, _, l⟩ := h
    exact OwL.dom ds vs A l a ha
  | .scr ds, v, A, h, a, ha => by
    rw [Ow] at h
    obtain ⟨_, vs, _, _, l⟩ := h
    exact OwL.dom ds vs A l a ha
  | .ktp ds, v, A, h, a, ha => by
    rw [Ow] at h
    obtain ⟨_, vs, _, _, l⟩ := h
    exact OwL.dom ds vs A l a ha
  | .lst true ds, v, A, h, a, ha => by
    rw [Ow] at h
    obtain ⟨b, vs, A', _, q, l, rfl⟩ := h
    rcases List.mem_cons.mp ha with rfl | ha
    · exact ⟨_, q, ⟨fun xs z => (by cases z), fun xs z => (by cases z)⟩⟩
    · exact OwL.dom ds vs A' l a ha
  | .dK false ks ds, v, A, h, a, ha => by
    rw [Ow] at h
    obtain ⟨_, vs, _, _, _, l⟩ := h
    exact OwL.dom ds vs A l a ha
  | .dK true ks ds, v, A, h, a, ha => by
    rw [Ow] at h
    obtain ⟨b, vs, A', _, q, _, l, rfl⟩ := h
    rcases List.mem_cons.mp ha with rfl | ha
    · exact ⟨_, q, ⟨fun xs z => (by cases z), fun xs z => (by cases z)⟩⟩
    · exact OwL.dom ds vs A' l a ha
  | .dT false ks ds, v, A, h, a, ha => by
    rw [Ow] at h
    obtain ⟨_, vs, _, _, _, l⟩ := h
    exact OwL.dom ds vs A l a ha
  | .dT true ks ds, v, A, h, a, ha => by
    rw [Ow] at h
    obtain ⟨b, vs, A', _, q, _, l, rfl⟩ := h
    rcases List.mem_cons.mp ha with rfl | ha
    · exact ⟨_, q, ⟨fun xs z => (by cases z), fun xs z => (by cases z)⟩⟩
    · exact OwL.dom ds vs A' l a ha
  | .lK ks ds, v, A, h, a, ha => by
    rw [Ow] at h
    obtain ⟨_, vs, _, _, _, l⟩ := h
    exact OwL.dom ds vs A l a ha
  | .lT ks ds, v, A, h, a, ha => by
    rw [Ow] at h
    obtain ⟨_, vs, _, _, _, l⟩ := h
    exact OwL.dom ds vs A l a ha
  | .lck o, v, A, h, a, ha => by rw [Ow] at h; rw [h.2] at ha; cases ha
  | .ob C fs ds, v, A, h, a, ha => by
    rw [Ow] at h
    obtain ⟨b, dx, vs, A', _, q, q2, _, l, rfl⟩ := h
    rcases List.mem_cons.mp ha with rfl | ha
    · exact ⟨_, q, ⟨fun xs z => (by cases z), fun xs z => (by cases z)⟩⟩
    · rcases List.mem_cons.mp ha with rfl | ha
      · exact ⟨_, q2, ⟨fun xs z => (by cases z), fun xs z => (by cases z)⟩⟩
      · exact OwL.dom ds vs A' l a ha
theorem OwL.dom : ∀ (ds : List D) (vs : List V) (A : List Addr), OwL K F H ds vs A → ∀ a ∈ A, ∃ o, H a = some o ∧ nTT o
  | [], vs, A, h, a, ha => by rw [OwL] at h; rw [h.2] at ha; cases ha
  | d :: ds, vs, A, h, a, ha => by
    rw [OwL] at h
    obtain ⟨v, r, A1, A2, _, rfl, h1, h2⟩ := h
    rcases List.mem_append.mp ha with ha | ha
    · exact Ow.dom d v A1 h1 a ha
    · exact OwL.dom ds r A2 h2 a ha
end
mutual
/-- frozen data own nothing -/
theorem Ow.frozen : ∀ (d : D) (v : V) (A : List Addr), fz d = true → Ow K F H d v A → A = []
  | .unk, v, A, z, h => by rw [Ow] at h; exact h
  | .hole, v, A, z, h => by simp [fz] at z
  | .non, v, A, z, h => by rw [Ow] at h; exact h.2
  | .bl b, v, A, z, h => by rw [Ow] at h; exact h.2
  | .int i, v, A, z, h => by rw [Ow] at h; exact h.2
  | .str x, v, A, z, h => by rw [Ow] at h; exact h.2
  | .adr x, v, A, z, h => by rw [Ow] at h; exact h.2
  | .exo x p, v, A, z, h => by rw [Ow] at h; exact h.2
  | .tup ds, v, A, z, h => by
    rw [Ow] at h
    obtain ⟨_, vs, _, _, l⟩ := h
    rw [fz] at z
    exact OwL.frozen ds vs A z l
  | .lst false ds, v, A, z, h => by
    rw [Ow] at h
    obtain ⟨_, vs, _, _, l⟩ := h
    rw [fz, Bool.and_eq_true] at z
    exact OwL.frozen ds vs A z.2 l
  | .lst true ds, v, A, z, h => by simp [fz] at z
  | .scr ds, v, A, z, h => by
    rw [Ow] at h
    obtain ⟨_, vs, _, _, l⟩ := h
    rw [fz] at z
    exact OwL.frozen ds vs A z l
  | .ktp ds, v, A, z, h => by
    rw [Ow] at h
    obtain ⟨_, vs, _, _, l⟩ := h
    rw [fz] at z
    exact OwL.frozen ds vs A z l
  | .dK false ks ds, v, A, z, h => by
    rw [Ow] at h
    obtain ⟨_, vs, _, _, _, l⟩ := h
    rw [fz, Bool.and_eq_true] at z
    exact OwL.frozen ds vs A z.2 l
  | .dK true ks ds, v, A, z, h => by simp [fz] at z
  | .dT false ks ds, v, A, z, h => by
    rw [Ow] at h
    obtain ⟨_, vs, _, _, _, l⟩ := h
    rw [fz, Bool.and_eq_true] at z
    exact OwL.frozen ds vs A z.2 l
  | .dT true ks ds, v, A, z, h => by simp [fz] at z
  | .lK ks ds, v, A, z, h => by
    rw [Ow] at h
    obtain ⟨_, vs, _, _, _, l⟩ := h
    rw [fz] at z
    exact OwL.frozen ds vs A z l
  | .lT ks ds, v, A, z, h => by
    rw [Ow] at h
    obtain ⟨_, vs, _, _, _, l⟩ := h
    rw [fz] at z
    exact OwL.frozen ds vs A z l
  | .lck o, v, A, z, h => by rw [Ow] at h; exact h.2
  | .ob C fs ds, v, A, z, h => by simp [fz] at z
theorem OwL.frozen : ∀ (ds : List D) (vs : List V) (A : List Addr), fzL ds = true → OwL K F H ds vs A → A = []
  | [], vs, A, _, h => by rw [OwL] at h; exact h.2
  | d :: ds, vs, A, z, h => by
    rw [OwL] at h
    rw [fzL, Bool.and_eq_true] at z
    obtain ⟨v, r, A1, A2, _, rfl, h1, h2⟩ := h
    rw [Ow.frozen d v A1 z.1 h1, OwL.frozen ds r A2 z.2 h2]
    rfl
end
mutual
/-- what is owned becomes frozen -/
theorem Ow.freeze (sF : Same F F') : ∀ (d : D) (v : V) (A : List Addr), Ow K F H d v A → (∀ a ∈ A, F' a = H a) → Ow K F' H' (VS.freeze d) v []
  | .unk, v, A, h, _ => by rw [VS.freeze, Ow]
  | .hole, v, A, h, k => by rw [VS.freeze, Ow]
  | .non, v, A, h, _ => by rw [VS.freeze, Ow]; rw [Ow] at h; exact ⟨h.1, rfl⟩
  | .bl b, v, A, h, _ => by rw [VS.freeze, Ow]; rw [Ow] at h; exact ⟨h.1, rfl⟩
  | .int i, v, A, h, _ => by rw [VS.freeze, Ow]; rw [Ow] at h; exact ⟨h.1, rfl⟩
  | .str x, v, A, h, _ => by rw [VS.freeze, Ow]; rw [Ow] at h; exact ⟨h.1, rfl⟩
  | .adr x, v, A, h, _ => by rw [VS.freeze, Ow]; rw [Ow] at h; exact ⟨h.1, rfl⟩
  | .exo c p, v, A, h, _ => by
    rw [VS.freeze, Ow]
    rw [Ow] at h
    obtain ⟨⟨a, C, d, e, q, n, k⟩, z⟩ := h
    refine ⟨⟨a, C, d, e, sF _ _ q, n, ?_⟩, rfl⟩
    cases p with
    | none => exact k
    | some p =>
      obtain ⟨b, e1, e2⟩ := k
      exact ⟨b, e1, sF _ _ e2⟩
  | .tup ds, v, A, h, k => by
    rw [VS.freeze, Ow]
    rw [Ow] at h
    obtain ⟨a, vs, e, q, l⟩ := h
    exact ⟨a, vs, e, sF _ _ q, OwL.freeze sF ds vs A l k⟩
  | .ktp ds, v, A, h, k => by
    rw [VS.freeze, Ow]
    rw [Ow] at h
    obtain ⟨a, vs, e, q, l⟩ := h
    exact ⟨a, vs, e, Same.sqT sF q, OwL.freeze sF ds vs A l k⟩
  | .lst false ds, v, A, h, k => by
    rw [VS.freeze, Ow]
    rw [Ow] at h
    obtain ⟨a, vs, e, q, l⟩ := h
    exact ⟨a, vs, e, sF _ _ q, OwL.freeze sF ds vs A l k⟩
  | .scr ds, v, A, h, k => by
    rw [VS.freeze, Ow]
    rw [Ow] at h
    obtain ⟨a, vs, e, q, l⟩ := h
    exact ⟨a, vs, e, sF.seq q, OwL.freeze sF ds vs A l k⟩
  | .lst true ds, v, A, h, k => by
    rw [VS.freeze, Ow]
    rw [Ow] at h
    obtain ⟨a, vs, A', e, q, l, rfl⟩ := h
    exact ⟨a, vs, e, (k a (by simp)).trans q, OwL.freeze sF ds vs A' l fun b hb => k b (List.mem_cons_of_mem _ hb)⟩
  | .dK false ks ds, v, A, h, k => by
    rw [VS.freeze, Ow]
    rw [Ow] at h
    obtain ⟨a, vs, e, q, n, l⟩ := h
    exact ⟨a, vs, e, sF _ _ q, ⟨by rw [n.1, freezeL_map, List.length_map], n.2⟩, OwL.freeze sF ds vs A l k⟩
  | .dK true ks ds, v, A, h, k => by
    rw [VS.freeze, Ow]
    rw [Ow] at h
    obtain ⟨a, vs, A', e, q, n, l, rfl⟩ := h
    exact ⟨a, vs, e, (k a (by simp)).trans q, ⟨by rw [n.1, freezeL_map, List.length_map], n.2⟩, OwL.freeze sF ds vs A' l fun b hb => k b (List.mem_cons_of_mem _ hb)⟩
  | .dT false ks ds, v, A, h, k => by
    rw [VS.freeze, Ow]
    rw [Ow] at h
    obtain ⟨a, vs, e, q, n, l⟩ := h
    exact ⟨a, vs, e, sF _ _ q, ⟨by rw [n.1, freezeL_map, List.length_map], n.2⟩, OwL.freeze sF ds vs A l k⟩
  | .dT true ks ds, v, A, h, k => by
    rw [VS.freeze, Ow]
    rw [Ow] at h
    obtain ⟨a, vs, A', e, q, n, l, rfl⟩ := h
    exact ⟨a, vs, e, (k a (by simp)).trans q, ⟨by rw [n.1, freezeL_map, List.length_map], n.2⟩, OwL.freeze sF ds vs A' l fun b hb => k b (List.mem_cons_of_mem _ hb)⟩
  | .lK ks ds, v, A, h, k => by
    rw [VS.freeze, Ow]
    rw [Ow] at h
    obtain ⟨a, vs, e, q, n, l⟩ := h
    exact ⟨a, vs, e, q.imp fun _ q => sF _ _ q, ⟨by rw [n.1, freezeL_map, List.length_map], n.2⟩, OwL.freeze sF ds vs A l k⟩
  | .lT ks ds, v, A, h, k => by
    rw [VS.freeze, Ow]
    rw [Ow] at h
    obtain ⟨a, vs, e, q, n, l⟩ := h
    exact ⟨a, vs, e, q.imp fun _ q => sF _ _ q, ⟨by rw [n.1, freezeL_map, List.length_map], n.2⟩, OwL.freeze sF ds vs A l k⟩
  | .lck o, v, A, h, k => by
    rw [VS.freeze, Ow]
    rw [Ow] at h
    exact ⟨h.1.imp fun _ q => ⟨q.1, sF _ _ q.2⟩, rfl⟩
  | .ob C fs ds, v, A, h, k => by rw [VS.freeze, Ow]
theorem OwL.freeze (sF : Same F F') : ∀ (ds : List D) (vs : List V) (A : List Addr), OwL K F H ds vs A → (∀ a ∈ A, F' a = H a) → OwL K F' H' (freezeL ds) vs []
  | [], vs, A, h, _ => by rw [freezeL, OwL]; rw [OwL] at h; exact ⟨h.1, rfl⟩
  | d :: ds, vs, A, h, k => by
    rw [freezeL, OwL]
    rw [OwL] at h
    obtain ⟨v, r, A1, A2, e, rfl, h1, h2⟩ := h
    exact ⟨v, r, [], [], e, rfl, Ow.freeze sF d v A1 h1 fun a ha => k a (List.mem_append_left _ ha), OwL.freeze sF ds r A2 h2 fun a ha => k a (List.mem_append_right _ ha)⟩
end
theorem OwL.length : ∀ {ds : List D} {vs : List V} {A : List Addr}, OwL K F H ds vs A → ds.length = vs.length
  | [], vs, A, h => by rw [OwL] at h; rw [h.1]; rfl
  | d :: ds, vs, A, h => by
    rw [OwL] at h
    obtain ⟨v, r, A1, A2, rfl, _, _, h2⟩ := h
    simp [OwL.length h2]
def OwT (K : PySem.W.Frag) (F H : Hp) : List (D × V) → List Addr → Prop
  | [], A => A = []
  | p :: T, A => ∃ A1 A2, A = A1 ++ A2 ∧ Ow K F H p.1 p.2 A1 ∧ OwT K F H T A2
theorem OwT.keep (sF : Same F F') : ∀ {T : List (D × V)} {A : List Addr}, OwT K F H T A → (∀ a ∈ A, H' a = H a) → OwT K F' H' T A
  | [], A, h, _ => h
  | p :: T, A, h, k => by
    obtain ⟨A1, A2, rfl, h1, h2⟩ := h
    exact ⟨A1, A2, rfl, h1.keep sF _ _ _ fun a ha => k a (List.mem_append_left _ ha), h2.keep sF fun a ha => k a (List.mem_append_right _ ha)⟩
theorem OwT.dom : ∀ {T : List (D × V)} {A : List Addr}, OwT K F H T A → ∀ a ∈ A, ∃ o, H a = some o ∧ nTT o
  | [], A, h, a, ha => by rw [show A = [] from h] at ha; cases ha
  | p :: T, A, h, a, ha => by
    obtain ⟨A1, A2, rfl, h1, h2⟩ := h
    rcases List.mem_append.mp ha with ha | ha
    · exact h1.dom _ _ _ a ha
    · exact h2.dom a ha
theorem OwT.perm {T T' : List (D × V)} (p : T.Perm T') : ∀ {A : List Addr}, OwT K F H T A → ∃ A', A.Perm A' ∧ OwT K F H T' A' := by
  induction p with
  | nil => exact fun {A} h => ⟨A, .refl _, h⟩
  | cons x _ ih =>
    intro A h
    obtain ⟨A1, A2, rfl, h1, h2⟩ := h
    obtain ⟨A', q, h3⟩ := ih h2
    exact ⟨A1 ++ A', q.append_left _, A1, A', rfl, h1, h3⟩
  | swap x y l =>
    intro A h
    obtain ⟨A1, A2, rfl, h1, A3, A4, rfl, h2, h3⟩ := h
    refine ⟨A3 ++ (A1 ++ A4), ?_, A3, _, rfl, h2, A1, A4, rfl, h1, h3⟩
    rw [← List.append_assoc, ← List.append_assoc]
    exact List.perm_append_comm.append_right _
  | trans _ _ ih1 ih2 =>
    intro A h
    obtain ⟨A', q, h1⟩ := ih1 h
    obtain ⟨A'', q', h2⟩ := ih2 h1
    exact ⟨A'', q.trans q', h2⟩
theorem OwT.append : ∀ {T U : List (D × V)} {A B : List Addr}, OwT K F H T A → OwT K F H U B → OwT K F H (T ++ U) (A ++ B)
  | [], U, A, B, h, h' => by rw [show A = [] from h]; exact h'
  | p :: T, U, A, B, h, h' => by
    obtain ⟨A1, A2, rfl, h1, h2⟩ := h
    exact ⟨A1, A2 ++ B, List.append_assoc _ _ _, h1, h2.append h'⟩
theorem OwT.split : ∀ {T U : List (D × V)} {C : List Addr}, OwT K F H (T ++ U) C → ∃ A B, C = A ++ B ∧ OwT K F H T A ∧ OwT K F H U B
  | [], U, C, h => ⟨[], C, rfl, rfl, h⟩
  | p :: T, U, C, h => by
    obtain ⟨A1, A2, rfl, h1, h2⟩ := h
    obtain ⟨A, B, rfl, h3, h4⟩ := h2.split
    exact ⟨A1 ++ A, B, (List.append_assoc _ _ _).symm, ⟨A1, A, rfl, h1, h3⟩, h4⟩
theorem OwL.toT : ∀ {ds : List D} {vs : List V} {A : List Addr}, OwL K F H ds vs A → OwT K F H (ds.zip vs) A
  | [], vs, A, h => by rw [OwL] at h; rw [List.zip_nil_left]; exact h.2
  | d :: ds, vs, A, h => by
    rw [OwL] at h
    obtain ⟨v, r, A1, A2, rfl, rfl, h1, h2⟩ := h
    exact ⟨A1, A2, rfl, h1, h2.toT⟩
theorem OwT.toL : ∀ {ds : List D} {vs : List V} {A : List Addr}, ds.length = vs.length → OwT K F H (ds.zip vs) A → OwL K F H ds vs A
  | [], [], A, _, h => by rw [OwL]; exact ⟨rfl, h⟩
  | [], _ :: _, A, e, h => by cases e
  | d :: ds, [], A, e, h => by cases e
  | d :: ds, v :: vs, A, e, h => by
    rw [OwL]
    obtain ⟨A1, A2, rfl, h1, h2⟩ := h
    exact ⟨v, vs, A1, A2, rfl, rfl, h1, h2.toL (Nat.succ.inj e)⟩
def GhOk (F H : Hp) : Prop := match ghP with
  | none => True
  | some p => F p.1 = none ∧ ∃ ps, H p.1 = some (.tbl ps) ∧ TriplesOk ps.toList ∧ ∀ (pos : Pos) (cv : Value), codeAmong pos ps.toList = some cv → ∃ c, cv = .ref c ∧ F c = some (LamX.CodeO c p.2)
theorem GhOk.to2 {F F' H H' : Hp} (g : GhOk F H) (k : ∀ b φ, F b = some (.ext φ) → F' b = some (.ext φ)) (h : ∀ P ps, F P = none → H P = some (.tbl ps) → F' P = none ∧ H' P = some (.tbl ps)) : GhOk F' H' := by
  unfold GhOk at g ⊢
  cases q : ghP with
  | none => trivial
  | some p =>
    rw [q] at g
    obtain ⟨g1, ps, g2, g3, g4⟩ := g
    obtain ⟨h1, h2⟩ := h _ _ g1 g2
    refine ⟨h1, ps, h2, g3, fun pos cv e => ?_⟩
    obtain ⟨c, e1, e2⟩ := g4 pos cv e
    exact ⟨c, e1, k _ _ e2⟩
theorem GhOk.to {F F' H H' : Hp} (g : GhOk F H) (k : Same F F') (h : ∀ P ps, F P = none → H P = some (.tbl ps) → F' P = none ∧ H' P = some (.tbl ps)) : GhOk F' H' := g.to2 (fun _ _ e => k _ _ e) h
theorem GhOk.hp {F H H' : Hp} (g : GhOk F H) (h : ∀ P ps, H P = some (.tbl ps) → H' P = some (.tbl ps)) : GhOk F H' := g.to (Same.refl _) fun P ps a b => ⟨a, h P ps b⟩
structure SameG (F H : Hp) : Prop where
  sm : Same F H
  gh : GhOk F H
instance {F H : Hp} : CoeFun (SameG F H) fun _ => ∀ b o, F b = some o → H b = some o := ⟨fun s => s.sm⟩
instance {F H : Hp} : Coe (SameG F H) (Same F H) := ⟨fun s => s.sm⟩
theorem SameG.seq {F H : Hp} {a : Addr} {xs : List V} (e : SameG F H) (h : SqL K F a xs) : SqL K H a xs := e.sm.seq h
theorem SameG.upd {F H : Hp} (s : SameG F H) {a : Addr} {o : HO} (fa : F a = none) (n : ∀ ps, H a ≠ some (.tbl ps)) : SameG F (upd H a o) :=
  ⟨fun b u q => by rw [upd_ne fun z => by rw [z, fa] at q; cases q]; exact s.sm _ _ q, s.gh.hp fun P ps e => by rw [upd_ne fun z => n ps (by rw [← z]; exact e)]; exact e⟩
theorem SameG.none {F H : Hp} (s : SameG F H) {p : Addr} (hp : H p = none) : F p = none := by
  cases q : F p with
  | none => rfl
  | some u => have := s.sm _ _ q; rw [hp] at this; cases this
def RepT (K : PySem.W.Frag) (H : Hp) (L : List (D × V)) : Prop := ∃ (F : Hp) (A : List Addr), SameG F H ∧ A.Nodup ∧ (∀ a ∈ A, F a = none) ∧ OwT K F H L A
variable {L L' : List (D × V)} {d : D} {v : V}
theorem RepT.perm (p : L.Perm L') (h : RepT K H L) : RepT K H L' := by
  obtain ⟨F, A, sF, nd, fr, o⟩ := h
  obtain ⟨A', q, o'⟩ := o.perm p
  exact ⟨F, A', sF, q.nodup_iff.mp nd, fun a ha => fr a (q.mem_iff.mpr ha), o'⟩
theorem RepT.drop {p : D × V} (h : RepT K H (p :: L)) : RepT K H L := by
  obtain ⟨F, A, sF, nd, fr, A1, A2, rfl, _, o⟩ := h
  exact ⟨F, A2, sF, (List.nodup_append.mp nd).2.1, fun a ha => fr a (List.mem_append_right _ ha), o⟩
theorem RepT.dropL : ∀ {U : List (D × V)}, RepT K H (U ++ L) → RepT K H L
  | [], h => h
  | _ :: U, h => RepT.dropL (U := U) h.drop
theorem RepT.dup (z : fz d = true) (h : RepT K H ((d, v) :: L)) : RepT K H ((d, v) :: (d, v) :: L) := by
  obtain ⟨F, A, sF, nd, fr, A1, A2, rfl, h1, o⟩ := h
  have e := h1.frozen _ _ _ z
  subst e
  exact ⟨F, [] ++ A2, sF, nd, fr, [], [] ++ A2, rfl, h1, [], A2, rfl, h1, o⟩
theorem RepT.unk (h : RepT K H L) : RepT K H ((.unk, v) :: L) := by
  obtain ⟨F, A, sF, nd, fr, o⟩ := h
  exact ⟨F, A, sF, nd, fr, [], A, rfl, by rw [Ow], o⟩
theorem RepT.non (h : RepT K H L) : RepT K H ((.non, .non) :: L) := by
  obtain ⟨F, A, sF, nd, fr, o⟩ := h
  exact ⟨F, A, sF, nd, fr, [], A, rfl, by rw [Ow]; exact ⟨rfl, rfl⟩, o⟩
theorem RepT.bl {b : Bool} (h : RepT K H L) : RepT K H ((.bl b, .bl b) :: L) := by
  obtain ⟨F, A, sF, nd, fr, o⟩ := h
  exact ⟨F, A, sF, nd, fr, [], A, rfl, by rw [Ow]; exact ⟨rfl, rfl⟩, o⟩
theorem RepT.int {i : Int} (h : RepT K H L) : RepT K H ((.int i, .int i) :: L) := by
  obtain ⟨F, A, sF, nd, fr, o⟩ := h
  exact ⟨F, A, sF, nd, fr, [], A, rfl, by rw [Ow]; exact ⟨rfl, rfl⟩, o⟩
theorem RepT.str {x : Str} (h : RepT K H L) : RepT K H ((.str x, .str x) :: L) := by
  obtain ⟨F, A, sF, nd, fr, o⟩ := h
  exact ⟨F, A, sF, nd, fr, [], A, rfl, by rw [Ow]; exact ⟨rfl, rfl⟩, o⟩
theorem RepT.eq_non (h : RepT K H ((.non, v) :: L)) : v = .non := by
  obtain ⟨F, A, sF, nd, fr, A1, A2, rfl, h1, o⟩ := h
  rw [Ow] at h1; exact h1.1
theorem RepT.eq_bl {b : Bool} (h : RepT K H ((.bl b, v) :: L)) : v = .bl b := by
  obtain ⟨F, A, sF, nd, fr, A1, A2, rfl, h1, o⟩ := h
  rw [Ow] at h1; exact h1.1
theorem RepT.eq_int {i : Int} (h : RepT K H ((.int i, v) :: L)) : v = .int i := by
  obtain ⟨F, A, sF, nd, fr, A1, A2, rfl, h1, o⟩ := h
  rw [Ow] at h1; exact h1.1
theorem RepT.adr {a : Addr} (h : RepT K H L) : RepT K H ((.adr a, .ref a) :: L) := by
  obtain ⟨F, A, sF, nd, fr, o⟩ := h
  exact ⟨F, A, sF, nd, fr, [], A, rfl, by rw [Ow]; exact ⟨rfl, rfl⟩, o⟩
theorem RepT.eq_adr {a : Addr} (h : RepT K H ((.adr a, v) :: L)) : v = .ref a := by
  obtain ⟨F, A, sF, nd, fr, A1, A2, e, h1, o⟩ := h
  rw [Ow] at h1
  exact h1.1
theorem RepT.eq_str {x : Str} (h : RepT K H ((.str x, v) :: L)) : v = .str x := by
  obtain ⟨F, A, sF, nd, fr, A1, A2, rfl, h1, o⟩ := h
  rw [Ow] at h1; exact h1.1
theorem RepT.newL {ds : List D} {vs : List V} {p : Addr} (e : ds.length = vs.length) (hp : H p = none) (h : RepT K H (ds.zip vs ++ L)) : RepT K (upd H p (.lst vs)) ((.lst true ds, .ref p) :: L) := by
  obtain ⟨F, A, sF, nd, fr, o⟩ := h
  obtain ⟨A1, A2, rfl, o1, o2⟩ := o.split
  have np : p ∉ A1 ++ A2 := fun hm => by
    rcases List.mem_append.mp hm with hm | hm
    · obtain ⟨_, q, _⟩ := o1.dom p hm; rw [hp] at q; cases q
    · obtain ⟨_, q, _⟩ := o2.dom p hm; rw [hp] at q; cases q
  have k : ∀ a ∈ A1 ++ A2, upd H p (.lst vs) a = H a := fun a ha => upd_ne (fun z => np (by rw [← z]; exact ha))
  have fp : F p = none := by
    cases q : F p with
    | none => rfl
    | some u => have := sF _ _ q; rw [hp] at this; cases this
  refine ⟨F, (p :: A1) ++ A2, sF.upd fp (fun ps z => by rw [hp] at z; cases z), ?_, fun a ha => ?_, p :: A1, A2, rfl, ?_, o2.keep (Same.refl _) fun a ha => k a (List.mem_append_right _ ha)⟩
  · exact List.nodup_cons.mpr ⟨np, nd⟩
  · rcases List.mem_cons.mp ha with rfl | ha
    · exact fp
    · exact fr a ha
  · rw [Ow]
    exact ⟨p, vs, A1, rfl, upd_same, (o1.toL e).keep (Same.refl _) _ _ _ fun a ha => k a (List.mem_append_left _ ha), rfl⟩
theorem RepT.newT {ds : List D} {vs : List V} {p : Addr} (e : ds.length = vs.length) (hp : H p = none) (h : RepT K H (ds.zip vs ++ L)) : RepT K (upd H p (.tup vs)) ((.tup ds, .ref p) :: L) := by
  obtain ⟨F, A, sF, nd, fr, o⟩ := h
  obtain ⟨A1, A2, rfl, o1, o2⟩ := o.split
  have np : p ∉ A1 ++ A2 := fun hm => by
    rcases List.mem_append.mp hm with hm | hm
    · obtain ⟨_, q, _⟩ := o1.dom p hm; rw [hp] at q; cases q
    · obtain ⟨_, q, _⟩ := o2.dom p hm; rw [hp] at q; cases q
  have k : ∀ a ∈ A1 ++ A2, upd H p (.tup vs) a = H a := fun a ha => upd_ne (fun z => np (by rw [← z]; exact ha))
  have fp : F p = none := by
    cases q : F p with
    | none => rfl
    | some u => have := sF _ _ q; rw [hp] at this; cases this
  have sU : Same F (upd F p (.tup vs)) := fun b o q => by
    rw [upd_ne fun z => by rw [z, fp] at q; cases q]; exact q
  refine ⟨upd F p (.tup vs), A1 ++ A2, ⟨fun b o q => ?_, sF.gh.to sU fun P ps a b => ?_⟩, nd, fun a ha => ?_, A1, A2, rfl, ?_, o2.keep sU fun a ha => k a (List.mem_append_right _ ha)⟩
  · by_cases z : b = p
    · subst z; rw [upd_same] at q ⊢; exact q
    · rw [upd_ne z] at q ⊢; exact sF _ _ q
  · have z : P ≠ p := fun z => by rw [z, hp] at b; cases b
    rw [upd_ne z, upd_ne z]; exact ⟨a, b⟩
  · rw [upd_ne (fun z => np (by rw [← z]; exact ha))]; exact fr a ha
  · rw [Ow]
    exact ⟨p, vs, rfl, upd_same, (o1.toL e).keep sU _ _ _ fun a ha => k a (List.mem_append_left _ ha)⟩
theorem RepT.grow {p : Addr} {o : HO} (hp : H p = none) (h : RepT K H L) : RepT K (upd H p o) L := by
  obtain ⟨F, A, sF, nd, fr, ow⟩ := h
  refine ⟨F, A, sF.upd (sF.none hp) (fun ps z => by rw [hp] at z; cases z), nd, fr, ow.keep (Same.refl _) fun a ha => upd_ne fun z => ?_⟩
  · subst z
    obtain ⟨_, q, _⟩ := ow.dom a ha
    rw [hp] at q; cases q
theorem RepT.openL {ds : List D} (h : RepT K H ((.lst true ds, v) :: L)) : ∃ a vs, v = .ref a ∧ H a = some (.lst vs) ∧ ds.length = vs.length ∧ RepT K H ((.hole, .ref a) :: (ds.zip vs ++ L)) := by
  obtain ⟨F, A, sF, nd, fr, A1, A2, rfl, h1, o⟩ := h
  rw [Ow] at h1
  obtain ⟨a, vs, A', rfl, q, l, rfl⟩ := h1
  refine ⟨a, vs, rfl, q, l.length, F, [a] ++ (A' ++ A2), sF, nd, fr, [a], A' ++ A2, rfl, ?_, l.toT.append o⟩
  rw [Ow]
  exact ⟨a, _, rfl, ⟨q, ⟨fun xs z => (by cases z), fun xs z => (by cases z)⟩⟩, rfl⟩
theorem RepT.closeL {ds : List D} {vs : List V} {a : Addr} (e : ds.length = vs.length) (h : RepT K H ((.hole, .ref a) :: (ds.zip vs ++ L))) : RepT K (upd H a (.lst vs)) ((.lst true ds, .ref a) :: L) := by
  obtain ⟨F, A, sF, nd, fr, A1, A2, rfl, h1, o⟩ := h
  rw [Ow] at h1
  obtain ⟨b, u, e1, q, rfl⟩ := h1
  cases e1
  obtain ⟨B1, B2, rfl, o1, o2⟩ := o.split
  have fa : F a = none := fr a (by simp)
  have na : a ∉ B1 ++ B2 := (List.nodup_cons.mp nd).1
  have k : ∀ b ∈ B1 ++ B2, upd H a (.lst vs) b = H b := fun b hb => upd_ne (fun z => na (by rw [← z]; exact hb))
  refine ⟨F, (a :: B1) ++ B2, sF.upd fa (fun ps z => by rw [q.1] at z; exact q.2.2 _ (Option.some.inj z)), nd, fr, a :: B1, B2, rfl, ?_, o2.keep (Same.refl _) fun b hb => k b (List.mem_append_right _ hb)⟩
  · rw [Ow]
    exact ⟨a, vs, B1, rfl, upd_same, (o1.toL e).keep (Same.refl _) _ _ _ fun b hb => k b (List.mem_append_left _ hb), rfl⟩
theorem RepT.openT {ds : List D} (h : RepT K H ((.tup ds, v) :: L)) : ∃ a vs, v = .ref a ∧ H a = some (.tup vs) ∧ ds.length = vs.length ∧ RepT K H (ds.zip vs ++ L) := by
  obtain ⟨F, A, sF, nd, fr, A1, A2, rfl, h1, o⟩ := h
  rw [Ow] at h1
  obtain ⟨a, vs, rfl, q, l⟩ := h1
  exact ⟨a, vs, rfl, sF _ _ q, l.length, F, A1 ++ A2, sF, nd, fr, l.toT.append o⟩
theorem RepT.openK {ds : List D} (h : RepT K H ((.ktp ds, v) :: L)) : ∃ a vs, v = .ref a ∧ SqT K H a vs ∧ ds.length = vs.length ∧ RepT K H (ds.zip vs ++ L) := by
  obtain ⟨F, A, sF, nd, fr, A1, A2, rfl, h1, o⟩ := h
  rw [Ow] at h1
  obtain ⟨a, vs, rfl, q, l⟩ := h1
  exact ⟨a, vs, rfl, Same.sqT sF q, l.length, F, A1 ++ A2, sF, nd, fr, l.toT.append o⟩
theorem RepT.openF {ds : List D} (h : RepT K H ((.lst false ds, v) :: L)) : ∃ a vs, v = .ref a ∧ H a = some (.lst vs) ∧ ds.length = vs.length ∧ RepT K H (ds.zip vs ++ L) := by
  obtain ⟨F, A, sF, nd, fr, A1, A2, rfl, h1, o⟩ := h
  rw [Ow] at h1
  obtain ⟨a, vs, rfl, q, l⟩ := h1
  exact ⟨a, vs, rfl, sF _ _ q, l.length, F, A1 ++ A2, sF, nd, fr, l.toT.append o⟩
theorem RepT.openS {ds : List D} (h : RepT K H ((.scr ds, v) :: L)) : ∃ a vs, v = .ref a ∧ SqL K H a vs ∧ ds.length = vs.length ∧ RepT K H (ds.zip vs ++ L) := by
  obtain ⟨F, A, sF, nd, fr, A1, A2, rfl, h1, o⟩ := h
  rw [Ow] at h1
  obtain ⟨a, vs, rfl, q, l⟩ := h1
  exact ⟨a, vs, rfl, sF.seq q, l.length, F, A1 ++ A2, sF, nd, fr, l.toT.append o⟩
theorem RepT.readL {o : Bool} {ds : List D} (h : RepT K H ((.lst o ds, v) :: L)) : ∃ a vs, v = .ref a ∧ H a = some (.lst vs) ∧ ds.length = vs.length ∧ RepT K H (ds.zip vs ++ L) := by
  cases o with
  | false => exact h.openF
  | true =>
    obtain ⟨a, vs, e, q, l, r⟩ := h.openL
    exact ⟨a, vs, e, q, l, r.drop⟩
theorem RepT.script {a : Addr} {ns : List Int} (F : Hp) (sF : SameG F H) (h : SqL K F a (ns.map V.int)) : RepT K H [(.scr (ns.map D.int), .ref a)] := by
  refine ⟨F, [], sF, List.nodup_nil, fun _ h => (by exact absurd h (by simp)), [], [], rfl, ?_, rfl⟩
  rw [Ow]
  refine ⟨a, _, rfl, h, ?_⟩
  clear h
  induction ns with
  | nil => rw [List.map_nil, OwL]; exact ⟨rfl, rfl⟩
  | cons n ns ih =>
    rw [List.map_cons, OwL]
    exact ⟨.int n, ns.map V.int, [], [], rfl, rfl, by rw [Ow]; exact ⟨rfl, rfl⟩, ih⟩
theorem RepT.freeze (h : RepT K H ((d, v) :: L)) : RepT K H ((VS.freeze d, v) :: L) := by
  obtain ⟨F, A, sF, nd, fr, A1, A2, rfl, h1, o⟩ := h
  obtain ⟨n1, n2, n3⟩ := List.nodup_append.mp nd
  let F' : Hp := fun a => if a ∈ A1 then H a else F a
  have sF' : Same F F' := fun b u q => by
    have : b ∉ A1 := fun hb => by rw [fr b (List.mem_append_left _ hb)] at q; cases q
    show (if b ∈ A1 then H b else F b) = some u
    rw [if_neg this]; exact q
  have kA : ∀ a ∈ A1, F' a = H a := fun a ha => if_pos ha
  refine ⟨F', A2, ⟨fun b u q => ?_, sF.gh.to sF' fun P ps a b => ⟨?_, b⟩⟩, n2, fun a ha => ?_, [], A2, rfl, h1.freeze sF' _ _ _ kA, o.keep sF' fun _ _ => rfl⟩
  · by_cases hb : b ∈ A1
    · rw [kA b hb] at q; exact q
    · have e : F' b = F b := if_neg hb
      rw [e] at q; exact sF _ _ q
  · have hP : P ∉ A1 := fun hb => by
      obtain ⟨o, e, n⟩ := h1.dom _ _ _ P hb
      rw [b] at e
      exact n.2 ps (Option.some.inj e).symm
    exact (if_neg hP).trans a
  · have : a ∉ A1 := fun hb => n3 a hb a ha rfl
    show (if a ∈ A1 then H a else F a) = none
    rw [if_neg this]; exact fr a (List.mem_append_right _ ha)
theorem RepT.tupOf {ds : List D} {vs : List V} {a : Addr} (ha : H a = some (.tup vs)) (hs : ∀ F', OwL K F' H ds vs []) (h : RepT K H L) : RepT K H ((.tup ds, .ref a) :: L) := by
  obtain ⟨F, A, sF, nd, fr, o⟩ := h
  have na : a ∉ A := fun z => by
    obtain ⟨u, q, n⟩ := o.dom a z
    rw [ha] at q
    exact n.1 vs (Option.some.inj q).symm
  have sU : Same F (upd F a (.tup vs)) := fun b u q => by
    by_cases z : b = a
    · subst z
      have := sF _ _ q
      rw [ha] at this
      rw [upd_same]; exact this
    · rw [upd_ne z]; exact q
  refine ⟨upd F a (.tup vs), A, ⟨fun b u q => ?_, sF.gh.to sU fun P ps x y => ⟨?_, y⟩⟩, nd, fun b hb => ?_, [], A, rfl, ?_, o.keep sU fun _ _ => rfl⟩
  · by_cases z : b = a
    · subst z; rw [upd_same] at q; rw [ha]; exact q
    · rw [upd_ne z] at q; exact sF _ _ q
  · rw [upd_ne fun z => by rw [z, ha] at y; cases y]; exact x
  · rw [upd_ne (fun z => na (by rw [← z]; exact hb))]; exact fr b hb
  · rw [Ow]; exact ⟨a, vs, rfl, upd_same, hs _⟩
end VS
set_option Elab.async false
set_option linter.all false
set_option maxRecDepth 100000
set_option maxHeartbeats 4000000
set_option autoImplicit false
noncomputable section
namespace VS
open PySem PySem.Spec PyProof.Rows L2
abbrev St := L2.St
def SL (ρ : Env) (σ : St) : List (D × V) := List.zipWith (fun d o => (d, o.getD .non)) ρ σ
structure Rep (K : PySem.W.Frag) (H : Hp) (T : List (D × V)) (ρ : Env) (σ : St) : Prop where
  len : ρ.length = σ.length
  nos : ∀ (i : Nat), σ[i]? = some none → ρ[i]? = some .unk
  rep : RepT K H (T ++ SL ρ σ)
theorem SL_set : ∀ (ρ : Env) (σ : St) (i : Nat) (d : D) (v : V), SL (ρ.set i d) (σ.set i (some v)) = (SL ρ σ).set i (d, v)
  | [], _, _, _, _ => by simp [SL]
  | _ :: _, [], _, _, _ => by simp [SL]
  | _ :: _, _ :: _, 0, _, _ => rfl
  | c :: ρ, o :: σ, i + 1, d, v => by
    show (c, o.getD .non) :: SL (ρ.set i d) (σ.set i (some v)) = _
    rw [SL_set ρ σ i d v]; rfl
theorem SL_setD : ∀ (ρ : Env) (σ : St) (i : Nat) (d : D) (v : V), σ[i]? = some (some v) → SL (ρ.set i d) σ = (SL ρ σ).set i (d, v)
  | [], _, _, _, _, _ => by simp [SL]
  | _ :: _, [], _, _, _, h => by simp at h
  | _ :: _, o :: _, 0, _, _, h => by
    have e : o = some _ := Option.some.inj h
    subst e; rfl
  | c :: ρ, o :: σ, i + 1, d, v, h => by
    show (c, o.getD .non) :: SL (ρ.set i d) σ = _
    rw [SL_setD ρ σ i d v h]; rfl
theorem SL_get : ∀ {ρ : Env} {σ : St} {i : Nat} {d : D} {v : V}, ρ[i]? = some d → σ[i]? = some (some v) → (SL ρ σ)[i]? = some (d, v)
  | [], _, _, _, _, h, _ => by simp at h
  | _ :: _, [], _, _, _, _, h => by simp at h
  | c :: _, o :: _, 0, _, _, h, h' => by
    have e : c = _ := Option.some.inj h
    have e' : o = some _ := Option.some.inj h'
    subst e; subst e'; rfl
  | c :: ρ, o :: σ, i + 1, d, v, h, h' => SL_get (ρ := ρ) (σ := σ) h h'
theorem perm_set {α : Type} (x : α) : ∀ {L : List α} {i : Nat} {y : α}, L[i]? = some y → (x :: L).Perm (y :: L.set i x)
  | [], _, _, h => by simp at h
  | a :: L, 0, y, h => by
    have e : a = y := Option.some.inj h
    subst e
    exact .swap _ _ _
  | a :: L, i + 1, y, h => by
    show (x :: a :: L).Perm (y :: a :: L.set i x)
    exact ((List.Perm.swap a x L).trans ((perm_set x (L := L) (i := i) h).cons a)).trans (.swap _ _ _)
theorem perm_erase {α : Type} : ∀ {L : List α} {i : Nat} {y : α}, L[i]? = some y → L.Perm (y :: L.eraseIdx i)
  | [], _, _, h => by simp at h
  | a :: L, 0, y, h => by
    have e : a = y := Option.some.inj h
    subst e
    exact .refl _
  | a :: L, i + 1, y, h => by
    show (a :: L).Perm (y :: a :: L.eraseIdx i)
    exact ((perm_erase (L := L) (i := i) h).cons a).trans (.swap _ _ _)
section
variable {K : PySem.W.Frag} {H H' : Hp} {T T' : List (D × V)} {ρ : Env} {σ σ' : St} {d : D} {v : V} {i : Nat}
theorem Rep.lift (h : Rep K H T ρ σ) (f : RepT K H (T ++ SL ρ σ) → RepT K H' (T' ++ SL ρ σ)) : Rep K H' T' ρ σ := ⟨h.len, h.nos, f h.rep⟩
theorem Rep.perm (h : Rep K H T ρ σ) (p : T.Perm T') : Rep K H T' ρ σ := h.lift fun r => r.perm (p.append_right _)
theorem Rep.drop {p : D × V} (h : Rep K H (p :: T) ρ σ) : Rep K H T ρ σ := h.lift fun r => RepT.drop (L := T ++ SL ρ σ) r
theorem Rep.dropL : ∀ {U : List (D × V)}, Rep K H (U ++ T) ρ σ → Rep K H T ρ σ
  | [], h => h
  | _ :: U, h => Rep.dropL (U := U) (Rep.drop h)
theorem Rep.slot (h : Rep K H T ρ σ) (e : ρ[i]? = some d) (n : d ≠ .unk) : ∃ v, σ[i]? = some (some v) := by
  have hi : i < σ.length := by rw [← h.len]; exact (List.getElem?_eq_some_iff.mp e).1
  cases q : σ[i] with
  | none =>
    have := h.nos i (by rw [List.getElem?_eq_getElem hi, q])
    rw [e] at this
    exact absurd (Option.some.inj this) n
  | some v => exact ⟨v, by rw [List.getElem?_eq_getElem hi, q]⟩
theorem Rep.read (h : Rep K H T ρ σ) (e : ρ[i]? = some d) (z : fz d = true) (hv : σ[i]? = some (some v)) : Rep K H ((d, v) :: T) ρ σ := by
  refine h.lift fun r => ?_
  have g := SL_get e hv
  have p : (T ++ SL ρ σ).Perm ((d, v) :: (T ++ (SL ρ σ).eraseIdx i)) := by
    exact ((perm_erase g).append_left T).trans List.perm_middle
  exact (RepT.dup z (r.perm p)).perm (p.symm.cons _)
theorem Rep.take (h : Rep K H T ρ σ) (e : ρ[i]? = some d) (hv : σ[i]? = some (some v)) : Rep K H ((d, v) :: T) (ρ.set i .unk) σ := by
  refine ⟨by rw [List.length_set]; exact h.len, fun j hj => ?_, ?_⟩
  · by_cases z : i = j
    · subst z; rw [hv] at hj; cases hj
    · rw [List.getElem?_set_ne z]; exact h.nos j hj
  · rw [SL_setD ρ σ i _ v hv]
    have g := SL_get e hv
    have r := RepT.unk (v := v) h.rep
    refine r.perm ?_
    show ((D.unk, v) :: (T ++ SL ρ σ)).Perm ((d, v) :: (T ++ (SL ρ σ).set i (.unk, v)))
    exact (List.perm_middle.symm.trans ((perm_set (D.unk, v) g).append_left T)).trans List.perm_middle
theorem Rep.put (h : Rep K H ((d, v) :: T) ρ σ) (hv : σ[i]? = some (some v)) : Rep K H T (ρ.set i d) σ := by
  refine ⟨by rw [List.length_set]; exact h.len, fun j hj => ?_, ?_⟩
  · by_cases z : i = j
    · subst z; rw [hv] at hj; cases hj
    · rw [List.getElem?_set_ne z]; exact h.nos j hj
  · rw [SL_setD ρ σ i _ v hv]
    have hi : i < ρ.length := by rw [h.len]; exact (List.getElem?_eq_some_iff.mp hv).1
    have g := SL_get (List.getElem?_eq_getElem hi) hv
    have r : RepT K H ((d, v) :: (T ++ SL ρ σ)) := h.rep
    exact RepT.drop (r.perm ((List.perm_middle.symm.trans ((perm_set (d, v) g).append_left T)).trans List.perm_middle))
theorem Rep.set (h : Rep K H ((d, v) :: T) ρ σ) : Rep K H T (ρ.set i d) (σ.set i (some v)) := by
  refine ⟨by rw [List.length_set, List.length_set]; exact h.len, fun j hj => ?_, ?_⟩
  · by_cases z : i = j
    · subst z
      by_cases hi : i < σ.length
      · rw [List.getElem?_set_self hi] at hj; cases hj
      · rw [List.getElem?_eq_none (by rw [List.length_set]; omega)] at hj; cases hj
    · rw [List.getElem?_set_ne z] at hj ⊢; exact h.nos j hj
  · rw [SL_set]
    have r : RepT K H ((d, v) :: (T ++ SL ρ σ)) := h.rep
    by_cases hi : i < (SL ρ σ).length
    · exact RepT.drop (r.perm ((List.perm_middle.symm.trans ((perm_set (d, v) (List.getElem?_eq_getElem hi)).append_left T)).trans List.perm_middle))
    · rw [List.set_eq_of_length_le (by omega)]
      exact r.drop
theorem Rep.frz (h : Rep K H T ρ σ) (e : ρ[i]? = some d) (n : d ≠ .unk) : Rep K H T (ρ.set i (freeze d)) σ := by
  obtain ⟨v, hv⟩ := h.slot e n
  have r := h.take e hv
  have r2 : Rep K H ((freeze d, v) :: T) (ρ.set i .unk) σ := r.lift fun q => RepT.freeze (L := T ++ SL (ρ.set i .unk) σ) q
  have r3 := r2.put hv
  rw [List.set_set] at r3
  exact r3
theorem Rep.forget (h : Rep K H T ρ σ) (i : Nat) : Rep K H T (ρ.set i .unk) σ := by
  by_cases hi : i < σ.length
  · cases q : σ[i] with
    | none =>
      have e := h.nos i (by rw [List.getElem?_eq_getElem hi, q])
      have : ρ.set i .unk = ρ := by
        apply List.ext_getElem?
        intro j
        by_cases z : i = j
        · subst z
          rw [List.getElem?_set_self (by rw [h.len]; exact hi), e]
        · rw [List.getElem?_set_ne z]
      rw [this]; exact h
    | some v =>
      have hv : σ[i]? = some (some v) := by rw [List.getElem?_eq_getElem hi, q]
      exact (h.take (d := ρ[i]'(by rw [h.len]; exact hi)) (List.getElem?_eq_getElem _) hv).drop
  · rw [List.set_eq_of_length_le (by rw [h.len]; omega)]
    exact h
def wipeD (ρ : Env) : List Nat → Env
  | [] => ρ
  | i :: is => (wipeD ρ is).set i .unk
theorem wipeD_length (ρ : Env) : ∀ is : List Nat, (wipeD ρ is).length = ρ.length
  | [] => rfl
  | i :: is => by rw [wipeD, List.length_set, wipeD_length ρ is]
theorem Rep.wipe1 (h : Rep K H T ρ σ) : ∀ is : List Nat, Rep K H T (wipeD ρ is) σ
  | [] => h
  | i :: is => (h.wipe1 is).forget i
theorem wipeD_get (ρ : Env) : ∀ {is : List Nat} {i : Nat}, i ∈ is → i < ρ.length → (wipeD ρ is)[i]? = some .unk
  | [], _, h, _ => by cases h
  | j :: is, i, h, hl => by
    rw [wipeD]
    by_cases z : j = i
    · subst z; rw [List.getElem?_set_self (by rw [wipeD_length]; exact hl)]
    · rw [List.getElem?_set_ne z]
      rcases List.mem_cons.mp h with e | h
      · exact absurd e.symm z
      · exact wipeD_get ρ h hl
theorem Rep.other (h : Rep K H T ρ σ) (hl : σ'.length = σ.length) (ho : ∀ (i : Nat), ρ[i]? = some .unk ∨ σ'[i]? = σ[i]?) : Rep K H T ρ σ' := by
  refine ⟨h.len.trans hl.symm, fun i hi => ?_, ?_⟩
  · rcases ho i with e | e
    · exact e
    · exact h.nos i (e ▸ hi)
  · have key : ∀ (ρ : Env) (σ σ' : St) (U : List (D × V)), ρ.length = σ.length → σ'.length = σ.length → (∀ (i : Nat), ρ[i]? = some .unk ∨ σ'[i]? = σ[i]?) → RepT K H (U ++ SL ρ σ) → RepT K H (U ++ SL ρ σ') := by
      intro ρ
      induction ρ with
      | nil => intro σ σ' U _ _ _ r; simpa [SL] using r
      | cons d ρ ih =>
        intro σ σ' U e1 e2 ho r
        cases σ with
        | nil => cases e1
        | cons o σ =>
          cases σ' with
          | nil => cases e2
          | cons o' σ' =>
            have r' : RepT K H ((U ++ [(d, o.getD .non)]) ++ SL ρ σ) := by simpa [SL] using r
            have r2 := ih σ σ' (U ++ [(d, o.getD .non)]) (Nat.succ.inj e1) (Nat.succ.inj e2) (fun i => ho (i + 1)) r'
            have r3 : RepT K H ((d, o.getD .non) :: (U ++ SL ρ σ')) := r2.perm (by
              rw [List.append_assoc]
              exact List.perm_middle)
            have r4 : RepT K H ((d, o'.getD .non) :: (U ++ SL ρ σ')) := by
              rcases ho 0 with e | e
              · have e : d = .unk := Option.some.inj e
                subst e
                exact r3.drop.unk
              · have e : o' = o := Option.some.inj e
                rw [e]; exact r3
            exact r4.perm List.perm_middle.symm
    exact key ρ σ σ' T h.len hl ho h.rep
end
structure Xc where
  c : Str
  p : Option (Str × Int)
inductive Rv (α : Type) where
  | ok (a : α) (ρ : Env)
  | ex (x : Xc) (ρ : Env)
abbrev M (α : Type) := Env → Option (Rv α)
def bindM {α β : Type} (f : M α) (k : α → M β) : M β := fun ρ => match f ρ with
  | none => none
  | some (.ex x ρ') => some (.ex x ρ')
  | some (.ok a ρ') => k a ρ'
def retM {α : Type} (a : α) : M α := fun ρ => some (.ok a ρ)
def optM {α : Type} (o : Option α) : M α := fun ρ => match o with
  | none => none
  | some a => some (.ok a ρ)
theorem optM_some {α : Type} {o : Option α} {ρ : Env} {r : Rv α} (h : optM o ρ = some r) : ∃ a, o = some a ∧ r = .ok a ρ := by
  cases o with
  | none => cases h
  | some a => exact ⟨a, rfl, (Option.some.inj h).symm⟩
inductive Fl where
  | nx | rt (d : D) | bk | ct | ex (x : Xc)
abbrev MS := Env → Option (Fl × Env)
def XRep (mg : Str → Option Value) (x : Xc) (cls : Value) (d : Option Addr) (H : Hp) : Prop :=
  ∃ C, cls = .ref C ∧ mg x.c = some (.ref C) ∧ match x.p with
    | none => d = none
    | some (f, n) => ∃ a, d = some a ∧ H a = some (.xd [(f, .int n)])
def sansD (H : Hp) : Option Addr → Hp
  | none => H
  | some b => del H b
section
variable (K : PySem.W.Frag) (mg : Str → Option Value) (W : WX)
def exE (T : List (D × V)) (σ : St) (x : Xc) (ρ' : Env) : Prop := ∀ cls dd H', XRep mg x cls dd H' → Rep K (sansD H' dd) T ρ' σ → W cls dd σ H'
def endR {α : Type} (T : List (D × V)) (σ : St) (okP : α → Env → Prop) : Rv α → Prop
  | .ok a ρ' => okP a ρ'
  | .ex x ρ' => exE K mg W T σ x ρ'
def okE (m : Bool) (T : List (D × V)) (σ : St) (H : Hp) (Q : VK) (d : D) (ρ' : Env) : Prop := ∀ v H', (m = false → Same H H') → Rep K H' ((d, v) :: T) ρ' σ → Q v H'
def okT (m : Bool) (T : List (D × V)) (σ : St) (H : Hp) (Q : Bool → Hp → Prop) (b : Bool) (ρ' : Env) : Prop := ∀ H', (m = false → Same H H') → Rep K H' T ρ' σ → Q b H'
def okA (m : Bool) (T : List (D × V)) (σ : St) (H : Hp) (Q : List V → Hp → Prop) (ds : List D) (ρ' : Env) : Prop := ∀ vs H', (m = false → Same H H') → ds.length = vs.length → Rep K H' (ds.zip vs ++ T) ρ' σ → Q vs H'
def tOf (m : Bool) (f : M D) : TE := fun σ H Q => ∃ T ρ r, Rep K H T ρ σ ∧ f ρ = some r ∧ endR K mg W T σ (okE K m T σ H Q) r
def ttOf (m : Bool) (f : M Bool) : TT := fun σ H Q => ∃ T ρ r, Rep K H T ρ σ ∧ f ρ = some r ∧ endR K mg W T σ (okT K m T σ H Q) r
def taOf (m : Bool) (f : M (List D)) : TA := fun σ H Q => ∃ T ρ r, Rep K H T ρ σ ∧ f ρ = some r ∧ endR K mg W T σ (okA K m T σ H Q) r
def Kept (asg : List Nat) (σ σ' : St) : Prop := σ'.length = σ.length ∧ ∀ (i : Nat), i ∉ asg → σ'[i]? = σ[i]?
def endS (asg : List Nat) (T : List (D × V)) (σ : St) (E : Ends) : Fl → Env → Prop
  | .nx, ρ' => ∀ σ' H', Kept asg σ σ' → Rep K H' T ρ' σ' → E.nx σ' H'
  | .bk, ρ' => ∀ σ' H', Kept asg σ σ' → Rep K H' T ρ' σ' → E.bk σ' H'
  | .ct, ρ' => ∀ σ' H', Kept asg σ σ' → Rep K H' T ρ' σ' → E.ct σ' H'
  | .rt d, ρ' => ∀ v σ' H', Kept asg σ σ' → Rep K H' ((d, v) :: T) ρ' σ' → E.rt v H'
  | .ex x, ρ' => ∀ cls dd σ' H', Kept asg σ σ' → XRep mg x cls dd H' → Rep K (sansD H' dd) T ρ' σ' → W cls dd σ' H'
def tsOf (asg : List Nat) (g : MS) : TS := fun E σ H => ∃ T ρ fl ρ', Rep K H T ρ σ ∧ g ρ = some (fl, ρ') ∧ endS K mg W asg T σ E fl ρ'
def tgOf (asg : List Nat) (g : D → Env → Option Env) : TG := fun v σ H Q => ∃ T ρ d ρ', Rep K H ((d, v) :: T) ρ σ ∧ g d ρ = some ρ' ∧ ∀ σ' H', Kept asg σ σ' → Rep K H' T ρ' σ' → Q σ' H'
structure ItOk (J : It) (c : List (D × V)) (ds : List D) : Prop where
  go : ∀ i H L, i < ds.length → RepT K H (c ++ L) → J.go i H
  stop : ∀ H L, RepT K H (c ++ L) → J.stop ds.length H
  yld : ∀ i H L x H' d, RepT K H (c ++ L) → ds[i]? = some d → J.yld i H x H' → RepT K H' ((d, x) :: (c ++ L))
def okI (T : List (D × V)) (σ : St) (H : Hp) (R : It → Hp → Prop) (ds : List D) (ρ' : Env) : Prop := ∀ J c H', ItOk K J c ds → Rep K H' (c ++ T) ρ' σ → R J H'
def tiOf (f : M (List D)) : TI := fun σ H R => ∃ T ρ r, Rep K H T ρ σ ∧ f ρ = some r ∧ endR K mg W T σ (okI K T σ H R) r
end
section
variable (X : Cx) (W : WX)
def VE (m : Bool) (e : Expr) (f : M D) : Prop := PE X e (tOf X.K X.mg W m f)
def VT (m : Bool) (e : Expr) (f : M Bool) : Prop := PT X e (ttOf X.K X.mg W m f)
def VW (m : Bool) (e : Expr) (f : M Bool) : Prop := PW X e (ttOf X.K X.mg W m f)
def VA (m : Bool) (es : List Expr) (f : M (List D)) : Prop := PA X es (taOf X.K X.mg W m f)
def VSt (asg : List Nat) (st : Stmt) (g : MS) : Prop := PS X st (tsOf X.K X.mg W asg g)
def VSs (asg : List Nat) (st : List Stmt) (g : MS) : Prop := PSs X st (tsOf X.K X.mg W asg g)
def VG (asg : List Nat) (tg : Expr) (g : D → Env → Option Env) : Prop := PG X tg (tgOf X.K asg g)
def VI (tg iter : Expr) (f : M (List D)) : Prop := PI X tg iter (tiOf X.K X.mg W f)
end
section
variable {X : Cx} {W : WX} {K : PySem.W.Frag} {mg : Str → Option Value} {H H1 : Hp} {T : List (D × V)} {ρ ρ' : Env} {σ σ' σ'' : St} {m : Bool}
theorem PE.imp {e : Expr} {t t' : TE} (h : PE X e t) (i : ∀ σ H Q, t' σ H Q → t σ H Q) : PE X e t' := ⟨fun pins s σ H Q I q => h.run pins s σ H Q I (i σ H Q q)⟩
theorem PT.imp {e : Expr} {t t' : TT} (h : PT X e t) (i : ∀ σ H Q, t' σ H Q → t σ H Q) : PT X e t' := ⟨fun pins s σ H Q I q => h.run pins s σ H Q I (i σ H Q q)⟩
theorem PW.imp {e : Expr} {t t' : TT} (h : PW X e t) (i : ∀ σ H Q, t' σ H Q → t σ H Q) : PW X e t' := ⟨fun wh pins s σ H Q I q => h.run wh pins s σ H Q I (i σ H Q q)⟩
theorem PA.imp {e : List Expr} {t t' : TA} (h : PA X e t) (i : ∀ σ H Q, t' σ H Q → t σ H Q) : PA X e t' := ⟨fun pos pins s σ H Q I q => h.run pos pins s σ H Q I (i σ H Q q)⟩
theorem PS.imp {e : Stmt} {t t' : TS} (h : PS X e t) (i : ∀ σ H Q, t' Q σ H → t Q σ H) : PS X e t' := ⟨fun pins s σ H Q I q => h.run pins s σ H Q I (i σ H Q q)⟩
theorem PSs.imp {e : List Stmt} {t t' : TS} (h : PSs X e t) (i : ∀ σ H Q, t' Q σ H → t Q σ H) : PSs X e t' := ⟨fun pins s σ H Q I q => h.run pins s σ H Q I (i σ H Q q)⟩
theorem PG.imp {e : Expr} {t t' : TG} (h : PG X e t) (i : ∀ v σ H Q, t' v σ H Q → t v σ H Q) : PG X e t' := ⟨fun pins s σ H v u Q I r q => h.run pins s σ H v u Q I r (i v σ H Q q)⟩
theorem PI.imp {tg e : Expr} {t t' : TI} (h : PI X tg e t) (i : ∀ σ H Q, t' σ H Q → t σ H Q) : PI X tg e t' := ⟨fun pins s σ H R I q => h.run pins s σ H R I (i σ H R q)⟩
theorem PE.orr {e : Expr} {t t' : TE} (h : PE X e t) (h' : PE X e t') : PE X e (fun σ H Q => t σ H Q ∨ t' σ H Q) := ⟨fun pins s σ H Q I q => q.elim (h.run pins s σ H Q I) (h'.run pins s σ H Q I)⟩
theorem PI.orr {tg e : Expr} {t t' : TI} (h : PI X tg e t) (h' : PI X tg e t') : PI X tg e (fun σ H Q => t σ H Q ∨ t' σ H Q) := ⟨fun pins s σ H Q I q => q.elim (h.run pins s σ H Q I) (h'.run pins s σ H Q I)⟩
theorem PG.orr {e : Expr} {t t' : TG} (h : PG X e t) (h' : PG X e t') : PG X e (fun v σ H Q => t v σ H Q ∨ t' v σ H Q) := ⟨fun pins s σ H v u Q I r q => q.elim (h.run pins s σ H v u Q I r) (h'.run pins s σ H v u Q I r)⟩
theorem exE.push {p : D × V} {x : Xc} (h : exE K mg W T σ x ρ) : exE K mg W (p :: T) σ x ρ := fun cls dd H' xr r => h cls dd H' xr r.drop
theorem run1 {β : Type} {f : M D} {k : D → M β} {okP : β → Env → Prop} {r : Rv β} {Q : VK} (rep : Rep K H T ρ σ) (hf : bindM f k ρ = some r) (he : endR K mg W T σ okP r)
    (cont : ∀ d ρ1 v H1, k d ρ1 = some r → (m = false → Same H H1) → Rep K H1 ((d, v) :: T) ρ1 σ → Q v H1) : tOf K mg W m f σ H Q := by
  unfold bindM at hf
  cases q : f ρ with
  | none => rw [q] at hf; cases hf
  | some u =>
    rw [q] at hf
    refine ⟨T, ρ, u, rep, q, ?_⟩
    cases u with
    | ok a ρ1 => exact fun v H1 s1 r1 => cont a ρ1 v H1 hf s1 r1
    | ex x ρ1 =>
      have : r = .ex x ρ1 := (Option.some.inj hf).symm
      subst this
      exact he
theorem runT {β : Type} {f : M Bool} {k : Bool → M β} {okP : β → Env → Prop} {r : Rv β} {Q : Bool → Hp → Prop} (rep : Rep K H T ρ σ) (hf : bindM f k ρ = some r) (he : endR K mg W T σ okP r)
    (cont : ∀ d ρ1 H1, k d ρ1 = some r → (m = false → Same H H1) → Rep K H1 T ρ1 σ → Q d H1) : ttOf K mg W m f σ H Q := by
  unfold bindM at hf
  cases q : f ρ with
  | none => rw [q] at hf; cases hf
  | some u =>
    rw [q] at hf
    refine ⟨T, ρ, u, rep, q, ?_⟩
    cases u with
    | ok a ρ1 => exact fun H1 s1 r1 => cont a ρ1 H1 hf s1 r1
    | ex x ρ1 =>
      have : r = .ex x ρ1 := (Option.some.inj hf).symm
      subst this
      exact he
theorem runA {β : Type} {f : M (List D)} {k : List D → M β} {okP : β → Env → Prop} {r : Rv β} {Q : List V → Hp → Prop} (rep : Rep K H T ρ σ) (hf : bindM f k ρ = some r) (he : endR K mg W T σ okP r)
    (cont : ∀ d ρ1 v H1, k d ρ1 = some r → (m = false → Same H H1) → d.length = v.length → Rep K H1 (d.zip v ++ T) ρ1 σ → Q v H1) : taOf K mg W m f σ H Q := by
  unfold bindM at hf
  cases q : f ρ with
  | none => rw [q] at hf; cases hf
  | some u =>
    rw [q] at hf
    refine ⟨T, ρ, u, rep, q, ?_⟩
    cases u with
    | ok a ρ1 => exact fun v H1 s1 e1 r1 => cont a ρ1 v H1 hf s1 e1 r1
    | ex x ρ1 =>
      have : r = .ex x ρ1 := (Option.some.inj hf).symm
      subst this
      exact he
theorem endR.push {α : Type} {p : D × V} {okP okP' : α → Env → Prop} {r : Rv α} (h : endR K mg W T σ okP r) (hk : ∀ a ρ', okP a ρ' → okP' a ρ') : endR K mg W (p :: T) σ okP' r := by
  cases r with
  | ok a ρ1 => exact hk a ρ1 h
  | ex x ρ1 => exact exE.push h
theorem sm_or {a b : Bool} {H H1 H2 : Hp} (h1 : a = false → Same H H1) (h2 : b = false → Same H1 H2) : (a || b) = false → Same H H2 := fun e => by
  rw [Bool.or_eq_false_iff] at e
  exact (h1 e.1).trans (h2 e.2)
theorem sm_r {a : Bool} {H H1 H2 : Hp} (h1 : a = false → Same H H1) (h2 : Same H1 H2) : a = false → Same H H2 := fun e => (h1 e).trans h2
def dV (i : Nat) : M D := fun ρ => match ρ[i]? with
  | some d => if fz d = true then some (.ok d ρ) else none
  | none => none
def dF (i : Nat) : M D := fun ρ => match ρ[i]? with
  | some d => if fz (freeze d) = true then some (.ok (freeze d) (ρ.set i (freeze d))) else none
  | none => none
def dM (i : Nat) : M D := fun ρ => match ρ[i]? with
  | some .unk => none
  | some d => some (.ok d (ρ.set i .unk))
  | none => none
def dC (d : D) : M D := fun ρ => some (.ok d ρ)
theorem fz_unk {d : D} (h : fz d = true) : d ≠ .unk := fun e => by subst e; simp [fz] at h
theorem fz_frz_unk {d : D} (h : fz (freeze d) = true) : d ≠ .unk := fun e => by subst e; simp [fz, freeze] at h
theorem ve_var {e : Expr} {i : Nat} (h : PE X e (tVar i)) : VE X W false e (dV i) := by
  refine PE.imp h fun σ H Q ⟨T, ρ, r, rep, hf, he⟩ => ?_
  unfold dV at hf
  cases q : ρ[i]? with
  | none => rw [q] at hf; cases hf
  | some d =>
    rw [q] at hf
    by_cases z : fz d = true
    · simp only [z, if_true] at hf
      have : r = .ok d ρ := (Option.some.inj hf).symm
      subst this
      obtain ⟨v, hv⟩ := rep.slot q (fz_unk z)
      exact ⟨v, hv, he v H (fun _ => Same.refl _) (rep.read q z hv)⟩
    · simp only [if_neg z] at hf
      cases hf
theorem ve_frz {e : Expr} {i : Nat} (h : PE X e (tVar i)) : VE X W false e (dF i) := by
  refine PE.imp h fun σ H Q ⟨T, ρ, r, rep, hf, he⟩ => ?_
  unfold dF at hf
  cases q : ρ[i]? with
  | none => rw [q] at hf; cases hf
  | some d =>
    rw [q] at hf
    by_cases z : fz (freeze d) = true
    · simp only [z, if_true] at hf
      have : r = .ok (freeze d) (ρ.set i (freeze d)) := (Option.some.inj hf).symm
      subst this
      obtain ⟨v, hv⟩ := rep.slot q (fz_frz_unk z)
      have r2 := rep.frz q (fz_frz_unk z)
      have hi : i < ρ.length := (List.getElem?_eq_some_iff.mp q).1
      exact ⟨v, hv, he v H (fun _ => Same.refl _) (r2.read (List.getElem?_set_self hi) z hv)⟩
    · simp only [if_neg z] at hf
      cases hf
theorem ve_mov {e : Expr} {i : Nat} (h : PE X e (tVar i)) : VE X W false e (dM i) := by
  refine PE.imp h fun σ H Q ⟨T, ρ, r, rep, hf, he⟩ => ?_
  unfold dM at hf
  cases q : ρ[i]? with
  | none => rw [q] at hf; cases hf
  | some d =>
    have n : d ≠ .unk := fun e => by rw [q, e] at hf; cases hf
    have hf' : some (Rv.ok d (ρ.set i .unk)) = some r := by
      rw [q] at hf
      cases d <;> first | exact hf | exact absurd rfl n
    have : r = .ok d (ρ.set i .unk) := (Option.some.inj hf').symm
    subst this
    obtain ⟨v, hv⟩ := rep.slot q n
    exact ⟨v, hv, he v H (fun _ => Same.refl _) (rep.take q hv)⟩
theorem ve_con {e : Expr} {d : D} {v : V} (h : PE X e (tC v)) (hr : ∀ H L, RepT X.K H L → RepT X.K H ((d, v) :: L)) : VE X W false e (dC d) := by
  refine PE.imp h fun σ H Q ⟨T, ρ, r, rep, hf, he⟩ => ?_
  have : r = .ok d ρ := (Option.some.inj hf).symm
  subst this
  exact he v H (fun _ => Same.refl _) (rep.lift fun q => hr H _ q)
theorem ve_int {i : Int} {j : Nat} {pos : Pos} : VE X W false (.Constant (.int i) j pos) (dC (.int i)) := ve_con pe_int fun _ _ h => h.int
theorem ve_bl {i : Bool} {j : Nat} {pos : Pos} : VE X W false (.Constant (.bool i) j pos) (dC (.bl i)) := ve_con pe_bl fun _ _ h => h.bl
theorem ve_non {j : Nat} {pos : Pos} : VE X W false (.Constant .none j pos) (dC .non) := ve_con pe_non fun _ _ h => h.non
def d1 (g : D → Option D) (fa : M D) : M D := bindM fa fun x => optM (g x)
def d2 (g : D → D → Option D) (fa fb : M D) : M D := bindM fa fun x => bindM fb fun y => optM (g x y)
def Imp2 (K : PySem.W.Frag) (r : R2) (g : D → D → Option D) : Prop := ∀ H L x y d v w Q, g x y = some d → RepT K H ((y, w) :: (x, v) :: L) → (∀ u H', Same H H' → RepT K H' ((d, u) :: L) → Q u H') → r v w H Q
def ImpA (K : PySem.W.Frag) (r : List V → Hp → VK → Prop) (g : List D → Option D) : Prop := ∀ H L ds vs d Q, g ds = some d → ds.length = vs.length → RepT K H (ds.zip vs ++ L) → (∀ u H', Same H H' → RepT K H' ((d, u) :: L) → Q u H') → r vs H Q
theorem tOp_of {r : R2} {g : D → D → Option D} {fa fb : M D} {ma mb : Bool} (hg : Imp2 K r g) {Q : VK} (h : tOf K mg W (ma || mb) (d2 g fa fb) σ H Q) : tOp r (tOf K mg W ma fa) (tOf K mg W mb fb) σ H Q := by
  obtain ⟨T, ρ, u, rep, hf, he⟩ := h
  refine run1 rep hf he fun x ρ1 v H1 h1 s1 r1 => ?_
  refine run1 r1 h1 (he.push (okP' := okE K (ma || mb) T σ H Q) fun _ _ q => q) fun y ρ2 w H2 h2 s2 r2 => ?_
  obtain ⟨d, e, rfl⟩ := optM_some h2
  exact hg H2 (T ++ SL ρ2 σ) x y d v w Q e r2.rep fun z H3 s3 r3 => he z H3 (sm_r (sm_or s1 s2) s3) ⟨r2.len, r2.nos, r3⟩
theorem ve_op {a b : Expr} {op : Operator} {r : R2} {g : D → D → Option D} {fa fb : M D} {ma mb : Bool} {pos : Pos} (ho : OpR X (binaryOp op) r) (hg : Imp2 X.K r g) (ha : VE X W ma a fa) (hb : VE X W mb b fb) : VE X W (ma || mb) (.BinOp a op b pos) (d2 g fa fb) :=
  PE.imp (pe_op ho ha hb) fun _ _ _ h => tOp_of hg h
theorem ve_cmp {a b : Expr} {op : CmpOp} {r : R2} {g : D → D → Option D} {fa fb : M D} {ma mb : Bool} {pos : Pos} (ho : OpR X (compareOp op) r) (hg : Imp2 X.K r g) (ha : VE X W ma a fa) (hb : VE X W mb b fb) (hm : behindInMarks op b = false) : VE X W (ma || mb) (.Compare a [op] [b] pos) (d2 g fa fb) :=
  PE.imp (pe_cmpR ho ha hb hm) fun _ _ _ h => tOp_of hg h
def dTB (f : M D) : M Bool := bindM f fun d => optM (match d with | .bl b => some b | _ => none)
theorem vt_val {e : Expr} {f : M D} (h : VE X W m e f) (he : ∀ whole, isTrue e X.env whole = (do let v ← whole; standAt e.pos; holding [v] (truthy v)) := by intro _; rfl) : VT X W m e (dTB f) := by
  refine PT.imp (pt_val h he) fun σ H Q ⟨T, ρ, u, rep, hf, he⟩ => ?_
  refine run1 rep hf he fun x ρ1 v H1 h1 s1 r1 => ?_
  obtain ⟨b, e, rfl⟩ := optM_some h1
  cases x with
  | bl c =>
    have e : c = b := Option.some.inj e
    subst e
    exact ⟨c, RepT.eq_bl r1.rep, he H1 s1 r1.drop⟩
  | _ => cases e
theorem vt_cmp {a b : Expr} {op : CmpOp} {r : R2} {g : D → D → Option D} {fa fb : M D} {ma mb : Bool} {pos : Pos} (ho : OpR X (compareOp op) r) (hg : Imp2 X.K r g) (ha : VE X W ma a fa) (hb : VE X W mb b fb) (hm : behindInMarks op b = false) : VT X W (ma || mb) (.Compare a [op] [b] pos) (dTB (d2 g fa fb)) := by
  refine PT.imp (pt_cmpR ho ha hb hm) fun σ H Q ⟨T, ρ, u, rep, hf, he⟩ => ?_
  refine tOp_of hg ?_
  refine run1 rep hf he fun x ρ1 v H1 h1 s1 r1 => ?_
  obtain ⟨b, e, rfl⟩ := optM_some h1
  cases x with
  | bl c =>
    have e : c = b := Option.some.inj e
    subst e
    exact ⟨c, RepT.eq_bl r1.rep, he H1 s1 r1.drop⟩
  | _ => cases e
def dChain (g g' : D → D → Option D) (fa fb fc : M D) : M D := bindM fa fun x => bindM fb fun y => bindM (optM (match g x y with | some (.bl k) => some k | _ => none)) fun k => if k = true then bindM fc fun z => optM (g' y z) else retM (.bl false)
theorem bindM_opt {α β : Type} {o : Option α} {k : α → M β} {r : Rv β} (h : bindM (optM o) k ρ = some r) : ∃ a, o = some a ∧ k a ρ = some r := by
  cases o with
  | none => cases h
  | some a => exact ⟨a, rfl, h⟩
def scD : D → Option V
  | .non => some .non
  | .bl b => some (.bl b)
  | .int i => some (.int i)
  | .str x => some (.str x)
  | .adr a => some (.ref a)
  | _ => none
theorem scD_eq {d : D} {v w : V} {L : List (D × V)} (h : scD d = some v) (r : RepT K H ((d, w) :: L)) : w = v := by
  cases d <;> simp only [scD, Option.some.injEq, reduceCtorEq] at h <;> subst h
  · exact r.eq_non
  · exact r.eq_bl
  · exact r.eq_int
  · exact r.eq_str
  · exact r.eq_adr
theorem scD_rep {d : D} {v : V} {L : List (D × V)} (h : scD d = some v) (r : RepT K H L) : RepT K H ((d, v) :: L) := by
  cases d <;> simp only [scD, Option.some.injEq, reduceCtorEq] at h <;> subst h
  · exact r.non
  · exact r.bl
  · exact r.int
  · exact r.str
  · exact r.adr
def rCmp (p : Int → Int → Bool) : R2 := rI0 fun i j => .bl (p i j)
def gCmp (p : Int → Int → Bool) (x y : D) : Option D := match x, y with
  | .int i, .int j => some (.bl (p i j))
  | _, _ => none
theorem impCmp (p : Int → Int → Bool) : Imp2 K (rCmp p) (gCmp p) := by
  intro H L x y d v w Q e r h
  cases x <;> cases y <;> simp only [gCmp, Option.some.injEq, reduceCtorEq] at e
  subst e
  have e2 := r.eq_int
  have e1 := r.drop.eq_int
  subst e1; subst e2
  exact ⟨_, _, rfl, rfl, h _ H (Same.refl _) r.drop.drop.bl⟩
theorem tChain_of {p p' : Int → Int → Bool} {fa fb fc : M D} {ma mb mc : Bool} {Q : VK} (h : tOf K mg W (ma || mb || mc) (dChain (gCmp p) (gCmp p') fa fb fc) σ H Q) :
    tChain (rCmp p) (rCmp p') (tOf K mg W ma fa) (tOf K mg W mb fb) (tOf K mg W mc fc) σ H Q := by
  obtain ⟨T, ρ, u, rep, hf, he⟩ := h
  refine run1 rep hf he fun x ρ1 v H1 h1 s1 r1 => ?_
  refine run1 r1 h1 (he.push (okP' := okE K (ma || mb || mc) T σ H Q) fun _ _ q => q) fun y ρ2 w H2 h2 s2 r2 => ?_
  obtain ⟨k, e, h3⟩ := bindM_opt h2
  cases x <;> cases y <;> simp only [gCmp, reduceCtorEq] at e
  rename_i i j
  have e : p i j = k := Option.some.inj e
  have e2 := r2.rep.eq_int
  have e1 := r2.drop.rep.eq_int
  subst e1; subst e2
  refine ⟨i, j, rfl, rfl, p i j, rfl, ?_⟩
  rw [e]
  cases k with
  | true =>
    rw [if_pos rfl] at h3 ⊢
    refine run1 r2 h3 ((he.push (p := (.int i, .int i)) (okP' := okE K (ma || mb || mc) T σ H Q) fun _ _ q => q).push (p := (.int j, .int j)) fun _ _ q => q) fun z ρ3 w3 H3 h4 s3 r3 => ?_
    obtain ⟨d, e4, rfl⟩ := optM_some h4
    cases z <;> simp only [gCmp, Option.some.injEq, reduceCtorEq] at e4
    subst e4
    have e5 := r3.rep.eq_int
    subst e5
    exact ⟨_, _, rfl, rfl, he _ H3 (sm_or (sm_or s1 s2) s3) (r3.drop.drop.drop.lift fun q => q.bl)⟩
  | false =>
    have : u = .ok (.bl false) ρ2 := by
      rw [if_neg (by simp)] at h3
      exact (Option.some.inj h3).symm
    subst this
    rw [if_neg (by simp)]
    exact he _ H2 (fun e => by
      rw [Bool.or_eq_false_iff] at e
      exact sm_or s1 s2 e.1) (r2.drop.drop.lift fun q => q.bl)
theorem vt_chain {a b c : Expr} {op op' : CmpOp} {p p' : Int → Int → Bool} {fa fb fc : M D} {ma mb mc : Bool} {pos : Pos} (ho : OpR X (compareOp op) (rCmp p)) (ho' : OpR X (compareOp op') (rCmp p')) (ha : VE X W ma a fa) (hb : VE X W mb b fb) (hc : VE X W mc c fc)
    (hm : lastMarks [op, op'] [b, c] = false := by with_unfolding_all rfl) : VT X W (ma || mb || mc) (.Compare a [op, op'] [b, c] pos) (dTB (dChain (gCmp p) (gCmp p') fa fb fc)) := by
  refine PT.imp (pt_chain ho ho' ha hb hc hm) fun σ H Q ⟨T, ρ, u, rep, hf, he⟩ => ?_
  refine tChain_of ?_
  refine run1 rep hf he fun x ρ1 v H1 h1 s1 r1 => ?_
  obtain ⟨b, e, rfl⟩ := optM_some h1
  cases x with
  | bl c =>
    have e : c = b := Option.some.inj e
    subst e
    exact ⟨c, RepT.eq_bl r1.rep, he H1 s1 r1.drop⟩
  | _ => cases e
def dAndT (f g : M Bool) : M Bool := bindM f fun b => if b = true then g else retM false
def dOrT (f g : M Bool) : M Bool := bindM f fun b => if b = true then retM true else g
def dNotT (f : M Bool) : M Bool := bindM f fun b => retM (!b)
theorem vw_one {a : Expr} {f : M Bool} {pos : Pos} (h : VT X W m a f) : VW X W m (.BoolOp .And [a] pos) f := pw_and1 h
theorem vw_or1 {a : Expr} {f : M Bool} {pos : Pos} (h : VT X W m a f) : VW X W m (.BoolOp .Or [a] pos) f := pw_or1 h
theorem vw_and {a b : Expr} {rest : List Expr} {f g : M Bool} {ma mb : Bool} {pos : Pos} (ha : VT X W ma a f) (hb : VW X W mb (.BoolOp .And (b :: rest) pos) g) : VW X W (ma || mb) (.BoolOp .And (a :: b :: rest) pos) (dAndT f g) := by
  refine PW.imp (pw_and ha hb) fun σ H Q ⟨T, ρ, u, rep, hf, he⟩ => ?_
  refine runT rep hf he fun c ρ1 H1 h1 s1 r1 => ?_
  cases c with
  | true =>
    rw [if_pos rfl] at h1 ⊢
    refine ⟨T, ρ1, u, r1, h1, ?_⟩
    cases u with
    | ok b ρ2 => exact fun H2 s2 r2 => he H2 (sm_or s1 s2) r2
    | ex x ρ2 => exact he
  | false =>
    rw [if_neg (by simp)] at h1 ⊢
    have : u = .ok false ρ1 := (Option.some.inj h1).symm
    subst this
    exact he H1 (fun e => s1 (Bool.or_eq_false_iff.mp e).1) r1
theorem vw_or {a b : Expr} {rest : List Expr} {f g : M Bool} {ma mb : Bool} {pos : Pos} (ha : VT X W ma a f) (hb : VW X W mb (.BoolOp .Or (b :: rest) pos) g) : VW X W (ma || mb) (.BoolOp .Or (a :: b :: rest) pos) (dOrT f g) := by
  refine PW.imp (pw_or ha hb) fun σ H Q ⟨T, ρ, u, rep, hf, he⟩ => ?_
  refine runT rep hf he fun c ρ1 H1 h1 s1 r1 => ?_
  cases c with
  | true =>
    rw [if_pos rfl] at h1 ⊢
    have : u = .ok true ρ1 := (Option.some.inj h1).symm
    subst this
    exact he H1 (fun e => s1 (Bool.or_eq_false_iff.mp e).1) r1
  | false =>
    rw [if_neg (by simp)] at h1 ⊢
    refine ⟨T, ρ1, u, r1, h1, ?_⟩
    cases u with
    | ok b ρ2 => exact fun H2 s2 r2 => he H2 (sm_or s1 s2) r2
    | ex x ρ2 => exact he
theorem vt_bool {e : Expr} {f : M Bool} (h : VW X W m e f) : VT X W m e f := PW.pt h
theorem vt_not {a : Expr} {f : M Bool} {pos : Pos} (h : VT X W m a f) : VT X W m (.UnaryOp .Not a pos) (dNotT f) := by
  refine PT.imp (pt_not h) fun σ H Q ⟨T, ρ, u, rep, hf, he⟩ => ?_
  refine runT rep hf he fun c ρ1 H1 h1 s1 r1 => ?_
  have : u = .ok (!c) ρ1 := (Option.some.inj h1).symm
  subst this
  exact he H1 s1 r1
def dAnd (f g : M D) : M D := bindM f fun d => bindM (optM (match d with | .bl b => some b | _ => none)) fun b => if b = true then g else retM (.bl false)
def dNot (f : M D) : M D := d1 (fun d => match d with | .bl b => some (.bl (!b)) | _ => none) f
theorem ve_one {a : Expr} {f : M D} {op : BoolOp} {pos : Pos} (h : VE X W m a f) : VE X W m (.BoolOp op [a] pos) f := pe_one h
theorem ve_and {a b : Expr} {rest : List Expr} {f g : M D} {ma mb : Bool} {pos : Pos} (ha : VE X W ma a f) (hb : VE X W mb (.BoolOp .And (b :: rest) pos) g) : VE X W (ma || mb) (.BoolOp .And (a :: b :: rest) pos) (dAnd f g) := by
  refine PE.imp (pe_and ha hb) fun σ H Q ⟨T, ρ, u, rep, hf, he⟩ => ?_
  refine run1 rep hf he fun x ρ1 v H1 h1 s1 r1 => ?_
  obtain ⟨b, e, h2⟩ := bindM_opt h1
  cases x with
  | bl c =>
    have e : c = b := Option.some.inj e
    subst e
    refine ⟨c, RepT.eq_bl r1.rep, ?_⟩
    cases c with
    | true =>
      rw [if_pos rfl] at h2 ⊢
      refine ⟨T, ρ1, u, r1.drop, h2, ?_⟩
      cases u with
      | ok b ρ2 => exact fun v H2 s2 r2 => he v H2 (sm_or s1 s2) r2
      | ex x ρ2 => exact he
    | false =>
      rw [if_neg (by simp)] at h2 ⊢
      have : u = .ok (.bl false) ρ1 := (Option.some.inj h2).symm
      subst this
      exact he _ H1 (fun e => s1 (Bool.or_eq_false_iff.mp e).1) (r1.drop.lift fun q => q.bl)
  | _ => cases e
theorem ve_not {a : Expr} {f : M D} {pos : Pos} (h : VE X W m a f) : VE X W m (.UnaryOp .Not a pos) (dNot f) := by
  refine PE.imp (pe_not h) fun σ H Q ⟨T, ρ, u, rep, hf, he⟩ => ?_
  refine run1 rep hf he fun x ρ1 v H1 h1 s1 r1 => ?_
  obtain ⟨d, e, rfl⟩ := optM_some h1
  cases x with
  | bl c =>
    have e : D.bl (!c) = d := Option.some.inj e
    subst e
    exact ⟨c, RepT.eq_bl r1.rep, he _ H1 s1 (r1.drop.lift fun q => q.bl)⟩
  | _ => cases e
def dNil : M (List D) := retM []
def dCons (f : M D) (g : M (List D)) : M (List D) := bindM f fun d => bindM g fun ds => retM (d :: ds)
theorem va_nil : VA X W false [] dNil := PA.imp pa_nil fun σ H Q ⟨T, ρ, u, rep, hf, he⟩ => by
  have : u = .ok [] ρ := (Option.some.inj hf).symm
  subst this
  exact he [] H (fun _ => Same.refl _) rfl rep
theorem va_cons {e : Expr} {es : List Expr} {f : M D} {g : M (List D)} {ma mb : Bool} (ha : VE X W ma e f) (hb : VA X W mb es g) (hs : starEach (e :: es) X.env = (false, eval e X.env) :: starEach es X.env := by rfl) : VA X W (ma || mb) (e :: es) (dCons f g) := by
  refine PA.imp (pa_cons ha hb hs) fun σ H Q ⟨T, ρ, u, rep, hf, he⟩ => ?_
  refine run1 rep hf he fun x ρ1 v H1 h1 s1 r1 => ?_
  refine runA r1 h1 (he.push (okP' := okA X.K (ma || mb) T σ H Q) fun _ _ q => q) fun ds ρ2 vs H2 h2 s2 l2 r2 => ?_
  have : u = .ok (x :: ds) ρ2 := (Option.some.inj h2).symm
  subst this
  exact he (v :: vs) H2 (sm_or s1 s2) (by simp [l2]) (r2.perm List.perm_middle)
def dTup (f : M (List D)) : M D := bindM f fun ds => optM (if ds.length ≤ sizeLine then some (.tup ds) else none)
def dLst (f : M (List D)) : M D := bindM f fun ds => optM (if ds.length ≤ sizeLine then some (.lst true ds) else none)
theorem ve_tup {es : List Expr} {f : M (List D)} {x1 : Nat} {pos : Pos} (h : VA X W m es f) : VE X W m (.Tuple es x1 pos) (dTup f) := by
  refine PE.imp (pe_tup h) fun σ H Q ⟨T, ρ, u, rep, hf, he⟩ => ?_
  refine runA rep hf he fun ds ρ1 vs H1 h1 s1 l1 r1 => ?_
  obtain ⟨d, e, rfl⟩ := optM_some h1
  by_cases z : ds.length ≤ sizeLine
  · rw [if_pos z] at e
    cases e
    refine ⟨by rw [← l1]; exact z, fun p hp => he _ _ (sm_r s1 fun b o q => ?_) (r1.lift fun q => ?_)⟩
    · rw [upd_ne (ne_of_none q hp)]; exact q
    · rw [List.append_assoc] at q
      exact RepT.newT l1 hp q
  · rw [if_neg z] at e; cases e
theorem ve_lst {es : List Expr} {f : M (List D)} {pos : Pos} (h : VA X W m es f) : VE X W m (.List es pos) (dLst f) := by
  refine PE.imp (pe_lst h) fun σ H Q ⟨T, ρ, u, rep, hf, he⟩ => ?_
  refine runA rep hf he fun ds ρ1 vs H1 h1 s1 l1 r1 => ?_
  obtain ⟨d, e, rfl⟩ := optM_some h1
  by_cases z : ds.length ≤ sizeLine
  · rw [if_pos z] at e
    cases e
    refine ⟨by rw [← l1]; exact z, fun p hp => he _ _ (sm_r s1 fun b o q => ?_) (r1.lift fun q => ?_)⟩
    · rw [upd_ne (ne_of_none q hp)]; exact q
    · rw [List.append_assoc] at q
      exact RepT.newL l1 hp q
  · rw [if_neg z] at e; cases e
def dCall (g : List D → Option D) (f : M (List D)) : M D := bindM f fun ds => optM (g ds)
theorem tCB_of {r : List V → Hp → VK → Prop} {g : List D → Option D} {f : M (List D)} (hg : ImpA K r g) {Q : VK} (h : tOf K mg W m (dCall g f) σ H Q) : tCB r (taOf K mg W m f) σ H Q := by
  obtain ⟨T, ρ, u, rep, hf, he⟩ := h
  refine runA rep hf he fun ds ρ1 vs H1 h1 s1 l1 r1 => ?_
  obtain ⟨d, e, rfl⟩ := optM_some h1
  refine hg H1 (T ++ SL ρ1 σ) ds vs d Q e l1 (by rw [← List.append_assoc]; exact r1.rep) fun z H3 s3 r3 => he z H3 (sm_r s1 s3) ⟨r1.len, r1.nos, r3⟩
theorem ve_callB {id : String} {r : List V → Hp → VK → Prop} {g : List D → Option D} {f : M (List D)} {x : Str} {e : Expr} {es : List Expr} {p pos : Pos} (hc : CallR X (.builtin id) r) (hi : ImpA X.K r g) (hg : Gl X x) (hm : X.mg x = none) (hv : bootBuiltins x = some (.builtin id))
    (ha : VA X W m (e :: es) f) (hn : x ≠ "__name__" := by decide) (hdb : (x == ("__debug__" : Str)) = false := by decide)
    (he : starEach (e :: es) X.env = (false, eval e X.env) :: starEach es X.env := by rfl) (hpl : (backTo pos (starEach es X.env)).any (·.1) = false := by rfl) : VE X W m (.Call (.Name x p) (e :: es) [] pos) (dCall g f) :=
  PE.imp (pe_callB hc hg hm hv ha hn hdb he hpl) fun _ _ _ h => tCB_of hi h
theorem ve_callTy {id : String} {r : List V → Hp → VK → Prop} {g : List D → Option D} {f : M (List D)} {x : Str} {e : Expr} {es : List Expr} {p pos : Pos} (hc : CallR X (.type id) r) (hi : ImpA X.K r g) (hg : Gl X x) (hm : X.mg x = none) (hv : bootBuiltins x = some (.type id))
    (ha : VA X W m (e :: es) f) (hn : x ≠ "__name__" := by decide) (hdb : (x == ("__debug__" : Str)) = false := by decide)
    (he : starEach (e :: es) X.env = (false, eval e X.env) :: starEach es X.env := by rfl) (hpl : (backTo pos (starEach es X.env)).any (·.1) = false := by rfl) : VE X W m (.Call (.Name x p) (e :: es) [] pos) (dCall g f) :=
  PE.imp (pe_callTy hc hg hm hv ha hn hdb he hpl) fun _ _ _ h => tCB_of hi h
end
end VS
set_option Elab.async false
set_option linter.all false
set_option maxRecDepth 100000
set_option maxHeartbeats 4000000
set_option autoImplicit false
noncomputable section
namespace VS
open PySem PySem.Spec PyProof.Rows L2
def bindS {α : Type} (f : M α) (k : α → MS) : MS := fun ρ => match f ρ with
  | none => none
  | some (.ex x ρ') => some (.ex x, ρ')
  | some (.ok a ρ') => k a ρ'
def dSeq (g1 g2 : MS) : MS := fun ρ => match g1 ρ with
  | some (.nx, ρ') => g2 ρ'
  | r => r
def dSkip : MS := fun ρ => some (.nx, ρ)
def dSet (i : Nat) (f : M D) : MS := bindS f fun d ρ => some (.nx, ρ.set i d)
def dAsg (f : M D) (g : D → Env → Option Env) : MS := bindS f fun d ρ => match g d ρ with
  | none => none
  | some ρ' => some (.nx, ρ')
def dDrop (f : M D) : MS := bindS f fun _ ρ => some (.nx, ρ)
def dRet (f : M D) : MS := bindS f fun d ρ => some (.rt d, ρ)
def dIfS (t : M Bool) (a b : MS) : MS := bindS t fun c => if c = true then a else b
section
variable {X : Cx} {W : WX} {K : PySem.W.Frag} {mg : Str → Option Value} {H H1 : Hp} {T : List (D × V)} {ρ ρ' : Env} {σ σ' σ'' : St} {m : Bool} {asg a1 a2 : List Nat} {fl : Fl}
theorem Kept.refl : Kept asg σ σ := ⟨rfl, fun _ _ => rfl⟩
theorem Kept.trans (h : Kept a1 σ σ') (h' : Kept a2 σ' σ'') : Kept (a1 ++ a2) σ σ'' := ⟨h'.1.trans h.1, fun i hi => (h'.2 i fun z => hi (List.mem_append_right _ z)).trans (h.2 i fun z => hi (List.mem_append_left _ z))⟩
theorem Kept.trans1 (h : Kept asg σ σ') (h' : Kept asg σ' σ'') : Kept asg σ σ'' := ⟨h'.1.trans h.1, fun i hi => (h'.2 i hi).trans (h.2 i hi)⟩
theorem Kept.mono (h : Kept a1 σ σ') (s : ∀ i ∈ a1, i ∈ a2) : Kept a2 σ σ' := ⟨h.1, fun i hi => h.2 i fun z => hi (s i z)⟩
theorem Kept.set {i : Nat} {v : V} : Kept [i] σ (σ.set i (some v)) := ⟨List.length_set, fun j hj => by
  rw [List.getElem?_set_ne fun z => hj (by simp [z])]⟩
theorem endS.imp {E E' : Ends} {T' : List (D × V)} (h : endS K mg W a1 T σ E fl ρ) (hk : ∀ σ'', Kept a2 σ' σ'' → Kept a1 σ σ'')
    (hT : ∀ {H σ ρ}, Rep K H T' ρ σ → Rep K H T ρ σ) (hT1 : ∀ {H σ ρ p}, Rep K H (p :: T') ρ σ → Rep K H (p :: T) ρ σ)
    (hn : ∀ σ H, E.nx σ H → E'.nx σ H) (hr : ∀ v H, E.rt v H → E'.rt v H) (hb : ∀ σ H, E.bk σ H → E'.bk σ H) (hc : ∀ σ H, E.ct σ H → E'.ct σ H) : endS K mg W a2 T' σ' E' fl ρ := by
  cases fl with
  | nx => exact fun σ2 H2 k r => hn _ _ (h σ2 H2 (hk _ k) (hT r))
  | bk => exact fun σ2 H2 k r => hb _ _ (h σ2 H2 (hk _ k) (hT r))
  | ct => exact fun σ2 H2 k r => hc _ _ (h σ2 H2 (hk _ k) (hT r))
  | rt d => exact fun v σ2 H2 k r => hr _ _ (h v σ2 H2 (hk _ k) (hT1 r))
  | ex x => exact fun cls dd σ2 H2 k xr r => h cls dd σ2 H2 (hk _ k) xr (hT r)
theorem endS.shift {E : Ends} (h : endS K mg W a1 T σ E fl ρ) (hk : ∀ σ'', Kept a2 σ' σ'' → Kept a1 σ σ'') : endS K mg W a2 T σ' E fl ρ :=
  h.imp hk (fun r => r) (fun r => r) (fun _ _ q => q) (fun _ _ q => q) (fun _ _ q => q) (fun _ _ q => q)
theorem runS {f : M D} {k : D → MS} {Q : VK} {E : Ends} (rep : Rep K H T ρ σ) (hf : bindS f k ρ = some (fl, ρ')) (he : endS K mg W asg T σ E fl ρ')
    (cont : ∀ d ρ1 v H1, k d ρ1 = some (fl, ρ') → Rep K H1 ((d, v) :: T) ρ1 σ → Q v H1) : tOf K mg W m f σ H Q := by
  unfold bindS at hf
  cases q : f ρ with
  | none => rw [q] at hf; cases hf
  | some u =>
    rw [q] at hf
    refine ⟨T, ρ, u, rep, q, ?_⟩
    cases u with
    | ok a ρ1 => exact fun v H1 s1 r1 => cont a ρ1 v H1 hf r1
    | ex x ρ1 =>
      have : (Fl.ex x, ρ1) = (fl, ρ') := Option.some.inj hf
      cases this
      exact fun cls dd H' xr r => he cls dd σ H' Kept.refl xr r
theorem runST {f : M Bool} {k : Bool → MS} {Q : Bool → Hp → Prop} {E : Ends} (rep : Rep K H T ρ σ) (hf : bindS f k ρ = some (fl, ρ')) (he : endS K mg W asg T σ E fl ρ')
    (cont : ∀ d ρ1 H1, k d ρ1 = some (fl, ρ') → Rep K H1 T ρ1 σ → Q d H1) : ttOf K mg W m f σ H Q := by
  unfold bindS at hf
  cases q : f ρ with
  | none => rw [q] at hf; cases hf
  | some u =>
    rw [q] at hf
    refine ⟨T, ρ, u, rep, q, ?_⟩
    cases u with
    | ok a ρ1 => exact fun H1 s1 r1 => cont a ρ1 H1 hf r1
    | ex x ρ1 =>
      have : (Fl.ex x, ρ1) = (fl, ρ') := Option.some.inj hf
      cases this
      exact fun cls dd H' xr r => he cls dd σ H' Kept.refl xr r
theorem vss_nil : VSs X W [] [] dSkip := PSs.imp pss_nil fun σ H E ⟨T, ρ, fl, ρ', rep, hf, he⟩ => by
  have : (Fl.nx, ρ) = (fl, ρ') := Option.some.inj hf
  cases this
  exact he σ H Kept.refl rep
theorem vss_cons {st : Stmt} {rest : List Stmt} {g1 g2 : MS} (h1 : VSt X W a1 st g1) (h2 : VSs X W a2 rest g2) : VSs X W (a1 ++ a2) (st :: rest) (dSeq g1 g2) := by
  refine PSs.imp (pss_cons h1 h2) fun σ H E ⟨T, ρ, fl, ρ', rep, hf, he⟩ => ?_
  unfold dSeq at hf
  cases q : g1 ρ with
  | none => rw [q] at hf; cases hf
  | some u =>
    obtain ⟨f1, ρ1⟩ := u
    rw [q] at hf
    have old : f1 ≠ .nx → (f1, ρ1) = (fl, ρ') := fun n => by
      cases f1 <;> first | exact absurd rfl n | exact Option.some.inj hf
    by_cases n : f1 = .nx
    · subst n
      refine ⟨T, ρ, .nx, ρ1, rep, q, fun σ1 H1 k1 r1 => ⟨T, ρ1, fl, ρ', r1, hf, he.shift fun σ2 k2 => k1.trans k2⟩⟩
    · have e := old n
      injection e with e1 e2
      subst e1
      subst e2
      refine ⟨T, ρ, f1, ρ1, rep, q, ?_⟩
      cases f1 with
      | nx => exact absurd rfl n
      | bk => exact fun σ2 H2 k r => he σ2 H2 (k.mono fun i => List.mem_append_left _) r
      | ct => exact fun σ2 H2 k r => he σ2 H2 (k.mono fun i => List.mem_append_left _) r
      | rt d => exact fun v σ2 H2 k r => he v σ2 H2 (k.mono fun i => List.mem_append_left _) r
      | ex x => exact fun c d σ2 H2 k xr r => he c d σ2 H2 (k.mono fun i => List.mem_append_left _) xr r
theorem vss_one {st : Stmt} {g : MS} (h : VSt X W asg st g) : VSs X W asg [st] g := pss_one h
theorem vs_setP {st : Stmt} {i : Nat} {f : M D} (h : PS X st (tAsg (tOf X.K X.mg W m f) (gName i))) : VSt X W [i] st (dSet i f) := by
  refine PS.imp h fun σ H E ⟨T, ρ, fl, ρ', rep, hf, he⟩ => ?_
  refine runS rep hf he fun d ρ1 v H1 h1 r1 => ?_
  have : (Fl.nx, ρ1.set i d) = (fl, ρ') := Option.some.inj h1
  cases this
  exact he _ H1 Kept.set r1.set
theorem vs_set {i : Nat} {x : Str} {e : Expr} {f : M D} {pos pos' : Pos} (hN : X.N.Nodup) (hi : X.N[i]? = some x) (hx : Loc X.env.scope x) (he : VE X W m e f) (hs : swapsWith e (some (.Name x pos')) pos.line X.env = pure false := by rfl)
    (hf : X.fn x = true ∨ X.env.scope.names.lookup x = some .local := by first | exact .inl rfl | exact .inr rfl | assumption) : VSt X W [i] (.Assign [.Name x pos'] e pos) (dSet i f) := vs_setP (ps_set hN hi hx he hs hf)
theorem vs_asg {tg e : Expr} {f : M D} {g : D → Env → Option Env} {pos : Pos} (he : VE X W m e f) (hg : VG X asg tg g) (hs : swapsWithSole [tg] e pos.line X.env = pure false := by rfl) (hw : swappedStores [tg] e X.env = pure none := by rfl)
    (h1 : (assignEach [tg] X.env).map (·.2) = [assign tg X.env] := by rfl) : VSt X W asg (.Assign [tg] e pos) (dAsg f g) := by
  refine PS.imp (ps_asg he hg hs hw h1) fun σ H E ⟨T, ρ, fl, ρ', rep, hf, he⟩ => ?_
  refine runS rep hf he fun d ρ1 v H1 h1 r1 => ?_
  cases q : g d ρ1 with
  | none => rw [q] at h1; cases h1
  | some ρ2 =>
    rw [q] at h1
    have : (Fl.nx, ρ2) = (fl, ρ') := Option.some.inj h1
    injection this with e1 e2
    subst e1
    subst e2
    exact ⟨T, ρ1, d, ρ2, r1, q, he⟩
theorem vs_expr {e : Expr} {f : M D} {pos : Pos} (h : VE X W m e f) (hs : swapsWith e none pos.line X.env = pure false := by rfl) : VSt X W [] (.Expr e pos) (dDrop f) := by
  refine PS.imp (ps_expr h hs) fun σ H E ⟨T, ρ, fl, ρ', rep, hf, he⟩ => ?_
  refine runS rep hf he fun d ρ1 v H1 h1 r1 => ?_
  have : (Fl.nx, ρ1) = (fl, ρ') := Option.some.inj h1
  cases this
  exact he σ H1 Kept.refl r1.drop
theorem vs_ret {e : Expr} {f : M D} {pos : Pos} (h : VE X W m e f) : VSt X W [] (.Return (some e) pos) (dRet f) := by
  refine PS.imp (ps_ret h) fun σ H E ⟨T, ρ, fl, ρ', rep, hf, he⟩ => ?_
  refine runS rep hf he fun d ρ1 v H1 h1 r1 => ?_
  have : (Fl.rt d, ρ1) = (fl, ρ') := Option.some.inj h1
  cases this
  exact he v σ H1 Kept.refl r1
theorem vs_if {c : Expr} {a b : List Stmt} {t : M Bool} {g1 g2 : MS} {pos : Pos} (hc : VT X W m c t) (ha : VSs X W a1 a g1) (hb : VSs X W a2 b g2) : VSt X W (a1 ++ a2) (.If c a b pos) (dIfS t g1 g2) := by
  refine PS.imp (ps_if hc ha hb) fun σ H E ⟨T, ρ, fl, ρ', rep, hf, he⟩ => ?_
  refine runST rep hf he fun c ρ1 H1 h1 r1 => ?_
  cases c with
  | true =>
    rw [if_pos rfl] at h1 ⊢
    exact ⟨T, ρ1, fl, ρ', r1, h1, he.shift fun σ2 k => k.mono fun i => List.mem_append_left _⟩
  | false =>
    rw [if_neg (by simp)] at h1 ⊢
    exact ⟨T, ρ1, fl, ρ', r1, h1, he.shift fun σ2 k => k.mono fun i => List.mem_append_right _⟩
def gNm (i : Nat) : D → Env → Option Env := fun d ρ => some (ρ.set i d)
def gNms : List Nat → List D → Env → Option Env
  | [], [], ρ => some ρ
  | i :: is, d :: ds, ρ => gNms is ds (ρ.set i d)
  | _, _, _ => none
def gTp (is : List Nat) : D → Env → Option Env := fun d ρ => match d with
  | .tup ds => gNms is ds ρ
  | _ => none
theorem vg_name {i : Nat} {tg : Expr} (h : PG X tg (gName i)) : VG X [i] tg (gNm i) := by
  refine PG.imp h fun v σ H Q ⟨T, ρ, d, ρ', rep, hg, hq⟩ => ?_
  have : ρ.set i d = ρ' := Option.some.inj hg
  subst this
  exact hq _ H Kept.set rep.set
def VGs (X : Cx) (is : List Nat) (tgs : List Expr) : Prop := PGs X tgs (fun vs σ H Q => ∃ T ρ ds ρ', ds.length = vs.length ∧ Rep X.K H (ds.zip vs ++ T) ρ σ ∧ gNms is ds ρ = some ρ' ∧ ∀ σ', Kept is σ σ' → Rep X.K H T ρ' σ' → Q σ' H)
theorem PGs.imp {tgs : List Expr} {t t' : TGs} (h : PGs X tgs t) (i : ∀ vs σ H Q, t' vs σ H Q → t vs σ H Q) : PGs X tgs t' := ⟨fun pins s σ H vs us Q I r q => h.run pins s σ H vs us Q I r (i vs σ H Q q)⟩
theorem vgs_nil : VGs X [] [] := by
  refine PGs.imp pgs_nil fun vs σ H Q ⟨T, ρ, ds, ρ', l, rep, hg, hq⟩ => ?_
  cases ds with
  | nil =>
    cases vs with
    | nil =>
      have : ρ = ρ' := Option.some.inj hg
      subst this
      exact ⟨rfl, hq σ Kept.refl rep⟩
    | cons _ _ => cases l
  | cons _ _ => cases hg
theorem vgs_cons {i : Nat} {is : List Nat} {e : Expr} {es : List Expr} (h1 : PG X e (gName i)) (h2 : VGs X is es) (hs : (assignEach (e :: es) X.env).map (·.2) = assign e X.env :: (assignEach es X.env).map (·.2) := by rfl) : VGs X (i :: is) (e :: es) := by
  refine PGs.imp (pgs_cons h1 h2 hs) fun vs σ H Q ⟨T, ρ, ds, ρ', l, rep, hg, hq⟩ => ?_
  cases ds with
  | nil => cases hg
  | cons d ds =>
    cases vs with
    | nil => cases l
    | cons v vs =>
      have rep1 : Rep X.K H ((d, v) :: (ds.zip vs ++ T)) ρ σ := rep
      refine ⟨v, vs, rfl, T, ρ.set i d, ds, ρ', Nat.succ.inj l, rep1.set, hg, fun σ' k r => hq σ' ?_ r⟩
      exact (Kept.set (v := v) (i := i) (σ := σ)).trans k
theorem vg_tup {is : List Nat} {tgs : List Expr} {k n : Nat} {pos : Pos} (hc : X.calm = true) (h : VGs X is tgs) (hn : (assignEach tgs X.env).length = n := by rfl) (hst : (assignEach tgs X.env).findIdx? (·.1) = none := by rfl) (hl : is.length = n := by rfl) : VG X is (.Tuple tgs k pos) (gTp is) := by
  refine PG.imp (pg_tup hc h hn hst) fun v σ H Q ⟨T, ρ, d, ρ', rep, hg, hq⟩ => ?_
  cases d with
  | tup ds =>
    obtain ⟨a, vs, rfl, sq, l, r⟩ := RepT.openT rep.rep
    have len : ∀ (is : List Nat) (ds : List D) (ρ ρ' : Env), gNms is ds ρ = some ρ' → is.length = ds.length := by
      intro is
      induction is with
      | nil => intro ds ρ ρ' h; cases ds with | nil => rfl | cons _ _ => cases h
      | cons i is ih => intro ds ρ ρ' h; cases ds with | nil => cases h | cons d ds => simp [ih ds _ _ h]
    refine ⟨a, vs, rfl, .inl (.inl sq), ?_, T, ρ, ds, ρ', l, ⟨rep.len, rep.nos, by rw [List.append_assoc]; exact r⟩, hg, fun σ' k r => hq σ' H k r⟩
    rw [← l, ← len is ds _ _ hg, hl]
  | _ => cases hg
def forD (bt : D → Env → Option Env) (body : MS) : List D → MS
  | [], ρ => some (.nx, ρ)
  | d :: ds, ρ => match bt d ρ with
    | none => none
    | some ρ1 => match body ρ1 with
      | none => none
      | some (.nx, ρ2) => forD bt body ds ρ2
      | some (.ct, ρ2) => forD bt body ds ρ2
      | some (.bk, ρ2) => some (.nx, ρ2)
      | some (.rt d, ρ2) => some (.rt d, ρ2)
      | some (.ex x, ρ2) => some (.ex x, ρ2)
def dFor (src : M (List D)) (bt : D → Env → Option Env) (body : MS) : MS := bindS src fun ds => forD bt body ds
theorem vs_for {tg iter : Expr} {body : List Stmt} {src : M (List D)} {bt : D → Env → Option Env} {g : MS} {pos : Pos} (hp : PassesOwn (model X.prog X.w) X.A X.env X.xe) (hc : X.calm = true) (hi : VI X W tg iter src) (hg : VG X a1 tg bt) (hb : VSs X W a2 body g)
    (hs : ∀ x, foldedSetIterable iter X.env x = pure x := by intro _; rfl) : VSt X W (a1 ++ a2) (.For tg iter body [] pos) (dFor src bt g) := by
  refine PS.imp (ps_for hp hc hi hg hb hs) fun σ H E ⟨T, ρ, fl, ρ', rep, hf, he⟩ => ?_
  unfold dFor bindS at hf
  cases q : src ρ with
  | none => rw [q] at hf; cases hf
  | some u =>
    rw [q] at hf
    refine ⟨T, ρ, u, rep, q, ?_⟩
    cases u with
    | ex x ρ1 =>
      have : (Fl.ex x, ρ1) = (fl, ρ') := Option.some.inj hf
      cases this
      exact fun cls dd H' xr r => he cls dd σ H' Kept.refl xr r
    | ok ds ρ0 =>
      intro J c H0 it rep0
      have hf : forD bt g ds ρ0 = some (fl, ρ') := hf
      refine ⟨fun i n σi Hi => n = ds.length - i ∧ i ≤ ds.length ∧ Kept (a1 ++ a2) σ σi ∧ ∃ ρi, Rep X.K Hi (c ++ T) ρi σi ∧ forD bt g (ds.drop i) ρi = some (fl, ρ'), ⟨ds.length, by simp, Nat.zero_le _, Kept.refl, ρ0, rep0, hf⟩, ?_⟩
      rintro i n σi Hi ⟨rfl, hi, ki, ρi, ri, fi⟩
      have ri' : RepT X.K Hi (c ++ (T ++ SL ρi σi)) := by rw [← List.append_assoc]; exact ri.rep
      by_cases hlt : i < ds.length
      · rw [List.drop_eq_getElem_cons hlt] at fi
        unfold forD at fi
        cases qb : bt ds[i] ρi with
        | none => rw [qb] at fi; cases fi
        | some ρ1 =>
          simp only [qb] at fi
          refine .inr ⟨it.go i Hi _ hlt ri', fun σ' H' => Kept (a1 ++ a2) σ σ' ∧ ∃ ρn, Rep X.K H' (c ++ T) ρn σ' ∧ forD bt g (ds.drop (i + 1)) ρn = some (fl, ρ'), fun σ' H' ⟨k, ρn, rn, fn⟩ => ⟨ds.length - (i + 1), by omega, rfl, hlt, k, ρn, rn, fn⟩, fun x H' y => ?_⟩
          have ry := it.yld i Hi _ x H' ds[i] ri' (List.getElem?_eq_getElem hlt) y
          have ry' : Rep X.K H' ((ds[i], x) :: (c ++ T)) ρi σi := ⟨ri.len, ri.nos, by
            have e : ((ds[i], x) :: (c ++ T)) ++ SL ρi σi = (ds[i], x) :: (c ++ (T ++ SL ρi σi)) := by simp
            rw [e]; exact ry⟩
          refine ⟨c ++ T, ρi, ds[i], ρ1, ry', qb, fun σ1 H1 k1 r1 => ?_⟩
          cases qg : g ρ1 with
          | none => rw [qg] at fi; cases fi
          | some u =>
            obtain ⟨f1, ρ2⟩ := u
            simp only [qg] at fi
            refine ⟨c ++ T, ρ1, f1, ρ2, r1, qg, ?_⟩
            have kk : ∀ σ2, Kept a2 σ1 σ2 → Kept (a1 ++ a2) σ σ2 := fun σ2 k2 => ki.trans1 (k1.trans k2)
            cases f1 with
            | nx => exact fun σ2 H2 k2 r2 => ⟨kk _ k2, ρ2, r2, fi⟩
            | ct => exact fun σ2 H2 k2 r2 => ⟨kk _ k2, ρ2, r2, fi⟩
            | bk =>
              have : (Fl.nx, ρ2) = (fl, ρ') := Option.some.inj fi
              cases this
              exact fun σ2 H2 k2 r2 => he σ2 H2 (kk _ k2) r2.dropL
            | rt d =>
              have : (Fl.rt d, ρ2) = (fl, ρ') := Option.some.inj fi
              cases this
              exact fun v σ2 H2 k2 r2 => he v σ2 H2 (kk _ k2) (Rep.dropL (U := c) (r2.perm List.perm_middle.symm))
            | ex x =>
              have : (Fl.ex x, ρ2) = (fl, ρ') := Option.some.inj fi
              cases this
              exact fun cls dd σ2 H2 k2 xr r2 => he cls dd σ2 H2 (kk _ k2) xr r2.dropL
      · have e : i = ds.length := by omega
        subst e
        rw [List.drop_length] at fi
        have : (Fl.nx, ρi) = (fl, ρ') := Option.some.inj fi
        cases this
        exact .inl ⟨it.stop Hi _ ri', he σi Hi ki ri.dropL⟩
theorem zip_take {ds : List D} {vs : List V} {i : Nat} {d : D} {v : V} (hd : ds[i]? = some d) (hv : vs[i]? = some v) : (ds.zip vs)[i]? = some (d, v) := by
  rw [List.getElem?_zip_eq_some]; exact ⟨hd, hv⟩
theorem RepT.pick {L U : List (D × V)} {i : Nat} {p : D × V} (h : RepT K H (U ++ L)) (e : U[i]? = some p) : RepT K H (p :: L) := by
  have q := h.perm (((perm_erase e).append_right L))
  have q : RepT K H (p :: (U.eraseIdx i ++ L)) := q
  exact RepT.dropL (U := U.eraseIdx i) (q.perm List.perm_middle.symm)
theorem itL {a : Addr} {ds : List D} (z : fzL ds = true) : ItOk K (Itl K a) [(.lst false ds, .ref a)] ds := by
  have zz : fz (.lst false ds) = true := by rw [fz]; simp [z]
  refine ⟨fun i H L hi h => ?_, fun H L h => ?_, fun i H L x H' d h e y => ?_⟩
  · obtain ⟨b, vs, e, sq, l, _⟩ := RepT.openF h
    cases e
    exact ⟨vs, vs[i]'(by omega), .inl (.inl sq), List.getElem?_eq_getElem _⟩
  · obtain ⟨b, vs, e, sq, l, _⟩ := RepT.openF h
    cases e
    exact ⟨vs, .inl (.inl sq), by omega⟩
  · obtain ⟨rfl, hx⟩ := y
    have h : RepT K H' ((.lst false ds, .ref a) :: L) := h
    have h2 := RepT.dup zz h
    obtain ⟨b, vs, e1, sq, l, r⟩ := RepT.openF h2
    cases e1
    exact r.pick (zip_take e (hx vs (.inl (.inl sq))))
theorem itS {a : Addr} {ds : List D} (z : fzL ds = true) : ItOk K (Itl K a) [(.scr ds, .ref a)] ds := by
  have zz : fz (.scr ds) = true := by rw [fz]; exact z
  refine ⟨fun i H L hi h => ?_, fun H L h => ?_, fun i H L x H' d h e y => ?_⟩
  · obtain ⟨b, vs, e, sq, l, _⟩ := RepT.openS h
    cases e
    exact ⟨vs, vs[i]'(by omega), sq, List.getElem?_eq_getElem _⟩
  · obtain ⟨b, vs, e, sq, l, _⟩ := RepT.openS h
    cases e
    exact ⟨vs, sq, by omega⟩
  · obtain ⟨rfl, hx⟩ := y
    have h : RepT K H' ((.scr ds, .ref a) :: L) := h
    have h2 := RepT.dup zz h
    obtain ⟨b, vs, e1, sq, l, r⟩ := RepT.openS h2
    cases e1
    exact r.pick (zip_take e (hx vs sq))
theorem itT {a : Addr} {ds : List D} (z : fzL ds = true) : ItOk K (Itt K a) [(.tup ds, .ref a)] ds := by
  have zz : fz (.tup ds) = true := by rw [fz]; exact z
  refine ⟨fun i H L hi h => ?_, fun H L h => ?_, fun i H L x H' d h e y => ?_⟩
  · obtain ⟨b, vs, e, sq, l, _⟩ := RepT.openT h
    cases e
    exact ⟨vs, vs[i]'(by omega), .inl (.inl sq), List.getElem?_eq_getElem _⟩
  · obtain ⟨b, vs, e, sq, l, _⟩ := RepT.openT h
    cases e
    exact ⟨vs, .inl (.inl sq), by omega⟩
  · obtain ⟨rfl, hx⟩ := y
    have h : RepT K H' ((.tup ds, .ref a) :: L) := h
    have h2 := RepT.dup zz h
    obtain ⟨b, vs, e1, sq, l, r⟩ := RepT.openT h2
    cases e1
    exact r.pick (zip_take e (hx vs (.inl (.inl sq))))
theorem itKT {a : Addr} {ds : List D} (z : fzL ds = true) : ItOk K (Itt K a) [(.ktp ds, .ref a)] ds := by
  have zz : fz (.ktp ds) = true := by rw [fz]; exact z
  refine ⟨fun i H L hi h => ?_, fun H L h => ?_, fun i H L x H' d h e y => ?_⟩
  · obtain ⟨b, vs, e, sq, l, _⟩ := RepT.openK h
    cases e
    exact ⟨vs, vs[i]'(by omega), sq, List.getElem?_eq_getElem _⟩
  · obtain ⟨b, vs, e, sq, l, _⟩ := RepT.openK h
    cases e
    exact ⟨vs, sq, by omega⟩
  · obtain ⟨rfl, hx⟩ := y
    have h : RepT K H' ((.ktp ds, .ref a) :: L) := h
    have h2 := RepT.dup zz h
    obtain ⟨b, vs, e1, sq, l, r⟩ := RepT.openK h2
    cases e1
    exact r.pick (zip_take e (hx vs sq))
def itemsOf (d : D) : Option (List D) := match d with
  | .lst _ ds => if fzL (freezeL ds) = true then some (freezeL ds) else none
  | .scr ds => if fzL (freezeL ds) = true then some (freezeL ds) else none
  | .tup ds => if fzL (freezeL ds) = true then some (freezeL ds) else none
  | .ktp ds => if fzL (freezeL ds) = true then some (freezeL ds) else none
  | _ => none
def dItems (f : M D) : M (List D) := bindM f fun d => optM (itemsOf d)
theorem vi_seq {tg l : Expr} {f : M D} (h : VE X W m l f) : VI X W tg l (dItems f) := by
  refine PI.imp (PI.orr (pi_list h) (pi_tup h)) fun σ H R ⟨T, ρ, u, rep, hf, he⟩ => ?_
  unfold dItems bindM at hf
  cases q : f ρ with
  | none => rw [q] at hf; cases hf
  | some w =>
    rw [q] at hf
    cases w with
    | ex x ρ1 =>
      have : u = .ex x ρ1 := (Option.some.inj hf).symm
      subst this
      exact .inl ⟨T, ρ, _, rep, q, he⟩
    | ok d ρ1 =>
      obtain ⟨ds, e, rfl⟩ := optM_some hf
      cases d with
      | lst o xs =>
        simp only [itemsOf] at e
        by_cases z : fzL (freezeL xs) = true
        · rw [if_pos z] at e
          cases e
          refine .inl ⟨T, ρ, _, rep, q, fun v H1 _ r1 => ?_⟩
          have r2 : RepT X.K H1 ((freeze (.lst o xs), v) :: (T ++ SL ρ1 σ)) := RepT.freeze r1.rep
          rw [freeze] at r2
          obtain ⟨a, vs, rfl, sq, l, _⟩ := RepT.openF r2
          exact ⟨a, rfl, ⟨vs, .inl (.inl sq)⟩, he _ _ H1 (itL z) ⟨r1.len, r1.nos, r2⟩⟩
        · rw [if_neg z] at e; cases e
      | scr xs =>
        simp only [itemsOf] at e
        by_cases z : fzL (freezeL xs) = true
        · rw [if_pos z] at e
          cases e
          refine .inl ⟨T, ρ, _, rep, q, fun v H1 _ r1 => ?_⟩
          have r2 : RepT X.K H1 ((freeze (.scr xs), v) :: (T ++ SL ρ1 σ)) := RepT.freeze r1.rep
          rw [freeze] at r2
          obtain ⟨a, vs, rfl, sq, l, _⟩ := RepT.openS r2
          exact ⟨a, rfl, ⟨vs, sq⟩, he _ _ H1 (itS z) ⟨r1.len, r1.nos, r2⟩⟩
        · rw [if_neg z] at e; cases e
      | tup xs =>
        simp only [itemsOf] at e
        by_cases z : fzL (freezeL xs) = true
        · rw [if_pos z] at e
          cases e
          refine .inr ⟨T, ρ, _, rep, q, fun v H1 _ r1 => ?_⟩
          have r2 : RepT X.K H1 ((freeze (.tup xs), v) :: (T ++ SL ρ1 σ)) := RepT.freeze r1.rep
          rw [freeze] at r2
          obtain ⟨a, vs, rfl, sq, l, _⟩ := RepT.openT r2
          exact ⟨a, rfl, ⟨vs, .inl (.inl sq)⟩, he _ _ H1 (itT z) ⟨r1.len, r1.nos, r2⟩⟩
        · rw [if_neg z] at e; cases e
      | ktp xs =>
        simp only [itemsOf] at e
        by_cases z : fzL (freezeL xs) = true
        · rw [if_pos z] at e
          cases e
          refine .inr ⟨T, ρ, _, rep, q, fun v H1 _ r1 => ?_⟩
          have r2 : RepT X.K H1 ((freeze (.ktp xs), v) :: (T ++ SL ρ1 σ)) := RepT.freeze r1.rep
          rw [freeze] at r2
          obtain ⟨a, vs, rfl, sq, l, _⟩ := RepT.openK r2
          exact ⟨a, rfl, ⟨vs, sq⟩, he _ _ H1 (itKT z) ⟨r1.len, r1.nos, r2⟩⟩
        · rw [if_neg z] at e; cases e
      | _ => cases e
def intsD (lo : Int) (n : Nat) : List D := (List.range n).map fun (i : Nat) => .int (lo + i)
theorem itR {lo : Int} {n : Nat} : ItOk K (Itr lo n) [] (intsD lo n) := by
  have len : (intsD lo n).length = n := by simp [intsD]
  refine ⟨fun i H L hi h => by rw [len] at hi; exact hi, fun H L h => by rw [len]; exact Nat.le_refl _, fun i H L x H' d h e y => ?_⟩
  obtain ⟨rfl, rfl⟩ := y
  have : d = .int (lo + i) := by
    unfold intsD at e
    rw [List.getElem?_map] at e
    cases q : (List.range n)[i]? with
    | none => rw [q] at e; cases e
    | some j =>
      rw [q] at e
      have := (List.getElem?_eq_some_iff.mp q).2
      rw [List.getElem_range] at this
      subst this
      exact (Option.some.inj e).symm
  subst this
  exact RepT.int h
def rangeD1 (ds : List D) : Option (List D) := match ds with
  | [.int j] => if inR j then some (intsD 0 j.toNat) else none
  | _ => none
def rangeD2 (ds : List D) : Option (List D) := match ds with
  | [.int i, .int j] => if inR i ∧ inR j then some (intsD i (j - i).toNat) else none
  | _ => none
theorem rangeD1_inv {ds r : List D} (h : rangeD1 ds = some r) : ∃ j : Int, ds = [.int j] ∧ -(2 ^ 62) ≤ j ∧ j < 2 ^ 62 ∧ r = intsD 0 j.toNat := by
  unfold rangeD1 at h
  split at h
  · rename_i j
    split at h
    · rename_i z
      exact ⟨j, rfl, z.lo, z.hi, (Option.some.inj h).symm⟩
    · cases h
  · cases h
theorem rangeD2_inv {ds r : List D} (h : rangeD2 ds = some r) : ∃ i j : Int, ds = [.int i, .int j] ∧ (-(2 ^ 62) ≤ i ∧ i < 2 ^ 62 ∧ -(2 ^ 62) ≤ j ∧ j < 2 ^ 62) ∧ r = intsD i (j - i).toNat := by
  unfold rangeD2 at h
  split at h
  · rename_i i j
    split at h
    · rename_i z
      exact ⟨i, j, rfl, ⟨z.1.lo, z.1.hi, z.2.lo, z.2.hi⟩, (Option.some.inj h).symm⟩
    · cases h
  · cases h
theorem len1 {α : Type} {vs : List α} (h : 1 = vs.length) : ∃ v, vs = [v] := by
  match vs, h with
  | [v], _ => exact ⟨v, rfl⟩
theorem len2 {α : Type} {vs : List α} (h : 2 = vs.length) : ∃ v w, vs = [v, w] := by
  match vs, h with
  | [v, w], _ => exact ⟨v, w, rfl⟩
def dRange1 (f : M (List D)) : M (List D) := bindM f fun ds => optM (rangeD1 ds)
def dRange2 (f : M (List D)) : M (List D) := bindM f fun ds => optM (rangeD2 ds)
theorem vi_range1 {tg a : Expr} {f : M (List D)} {p pos : Pos} (hg : Gl X "range") (hm : X.mg "range" = none) (ha : VA X W m [a] f) (hs : starEach [a] X.env = [(false, eval a X.env)] := by rfl) : VI X W tg (.Call (.Name "range" p) [a] [] pos) (dRange1 f) := by
  refine PI.imp (pi_range1 hg hm ha hs) fun σ H R ⟨T, ρ, u, rep, hf, he⟩ => ?_
  refine runA rep hf he fun ds ρ1 vs H1 h1 s1 l1 r1 => ?_
  obtain ⟨d, e, rfl⟩ := optM_some h1
  obtain ⟨j, rfl, z1, z2, rfl⟩ := rangeD1_inv e
  obtain ⟨v, rfl⟩ := len1 l1
  have ev := RepT.eq_int r1.rep
  subst ev
  exact ⟨j, rfl, z1, z2, he _ [] H1 itR r1.drop⟩
theorem vi_range2 {tg a b : Expr} {f : M (List D)} {p pos : Pos} (hg : Gl X "range") (hm : X.mg "range" = none) (ha : VA X W m [a, b] f) (hs : starEach [a, b] X.env = [(false, eval a X.env), (false, eval b X.env)] := by rfl) (hs2 : starEach [b] X.env = [(false, eval b X.env)] := by rfl) : VI X W tg (.Call (.Name "range" p) [a, b] [] pos) (dRange2 f) := by
  refine PI.imp (pi_range2 hg hm ha hs hs2) fun σ H R ⟨T, ρ, u, rep, hf, he⟩ => ?_
  refine runA rep hf he fun ds ρ1 vs H1 h1 s1 l1 r1 => ?_
  obtain ⟨d, e, rfl⟩ := optM_some h1
  obtain ⟨i, j, rfl, z, rfl⟩ := rangeD2_inv e
  obtain ⟨v, w, rfl⟩ := len2 l1
  have ev := RepT.eq_int r1.rep
  have ew := RepT.eq_int r1.drop.rep
  subst ev
  subst ew
  exact ⟨i, j, rfl, z, he _ [] H1 itR r1.drop.drop⟩
theorem RepT.push {ds : List D} {y : D} {v : V} {a : Addr} {L : List (D × V)} (h : RepT K H ((y, v) :: (.lst true ds, .ref a) :: L)) : ∃ vs, H a = some (.lst vs) ∧ ds.length = vs.length ∧ RepT K (upd H a (.lst (vs ++ [v]))) ((.lst true (ds ++ [y]), .ref a) :: L) := by
  have h2 : RepT K H ((.lst true ds, .ref a) :: (y, v) :: L) := h.perm (.swap _ _ _)
  obtain ⟨b, vs, e, q, l, r⟩ := h2.openL
  cases e
  refine ⟨vs, q, l, RepT.closeL (by simp [l]) ?_⟩
  rw [List.zip_append l]
  rw [List.append_assoc]
  exact r
theorem wipe_get (σ : St) : ∀ (vs : List Nat) (i : Nat), i ∉ vs → (wipe σ vs)[i]? = σ[i]?
  | [], _, _ => rfl
  | v :: vs, i, h => by
    unfold wipe
    rw [List.getElem?_set_ne fun z => h (by simp [z]), wipe_get σ vs i fun z => h (List.mem_cons_of_mem _ z)]
theorem wipe_none (σ : St) : ∀ (vs : List Nat) (i : Nat), i ∈ vs → i < σ.length → (wipe σ vs)[i]? = some none
  | [], _, h, _ => by cases h
  | v :: vs, i, h, hl => by
    unfold wipe
    by_cases z : v = i
    · subst z; rw [List.getElem?_set_self (by rw [wipe_length]; exact hl)]
    · rw [List.getElem?_set_ne z]
      rcases List.mem_cons.mp h with e | h
      · exact absurd e.symm z
      · exact wipe_none σ vs i h hl
theorem wipe_eq {σ σ2 : St} {vs : List Nat} (hl : σ2.length = σ.length) (h : ∀ i : Nat, i ∉ vs → σ2[i]? = σ[i]?) : wipe σ2 vs = wipe σ vs := by
  apply List.ext_getElem?
  intro i
  by_cases hi : i ∈ vs
  · by_cases hl2 : i < σ.length
    · rw [wipe_none σ vs i hi hl2, wipe_none σ2 vs i hi (by omega)]
    · rw [List.getElem?_eq_none (by rw [wipe_length]; omega), List.getElem?_eq_none (by rw [wipe_length]; omega)]
  · rw [wipe_get σ vs i hi, wipe_get σ2 vs i hi, h i hi]
theorem Kept.wiped {own : List Nat} {σ2 : St} (k : Kept asg (wipe σ own) σ2) (hs : ∀ i ∈ asg, i ∈ own) : wipe σ2 own = wipe σ own := by
  refine wipe_eq (k.1.trans (wipe_length σ own)) fun i hi => ?_
  rw [k.2 i fun z => hi (hs i z), wipe_get σ own i hi]
theorem wipe_wipe {own : List Nat} : wipe (wipe σ own) own = wipe σ own := Kept.wiped (asg := []) Kept.refl fun _ z => by cases z
theorem Rep.wiped {own : List Nat} (h : Rep K H T ρ σ) : Rep K H T (wipeD ρ own) (wipe σ own) := by
  refine (h.wipe1 own).other (wipe_length σ own) fun i => ?_
  by_cases hi : i ∈ own
  · by_cases hl : i < ρ.length
    · exact .inl (wipeD_get ρ hi hl)
    · exact .inr (by rw [List.getElem?_eq_none (by rw [wipe_length, ← h.len]; omega), List.getElem?_eq_none (by rw [← h.len]; omega)])
  · exact .inr (wipe_get σ own i hi)
theorem Rep.unwiped {own : List Nat} {σ2 : St} (h : Rep K H T ρ σ2) (hl : σ.length = σ2.length) (e : wipe σ2 own = wipe σ own) : Rep K H T (wipeD ρ own) σ := by
  refine (h.wipe1 own).other hl fun i => ?_
  by_cases hi : i ∈ own
  · by_cases hl2 : i < ρ.length
    · exact .inl (wipeD_get ρ hi hl2)
    · exact .inr (by rw [List.getElem?_eq_none (by rw [hl, ← h.len]; omega), List.getElem?_eq_none (by rw [← h.len]; omega)])
  · exact .inr (by rw [← wipe_get σ own i hi, ← e, wipe_get σ2 own i hi])
def lcD (own : List Nat) (bt : D → Env → Option Env) (tt : M Bool) (el : M D) : List D → List D → Env → Option (List D × Env)
  | [], acc, ρ => some (acc, ρ)
  | d :: ds, acc, ρ => match bt d ρ with
    | none => none
    | some ρ1 => match tt ρ1 with
      | some (.ok b ρ2) => if b = true then (match el ρ2 with
        | some (.ok y ρ3) => if acc.length < sizeLine then lcD own bt tt el ds (acc ++ [y]) (wipeD ρ3 own) else none
        | _ => none) else lcD own bt tt el ds acc (wipeD ρ2 own)
      | _ => none
def dLc (own : List Nat) (src : M (List D)) (bt : D → Env → Option Env) (tt : M Bool) (el : M D) : M D := bindM src fun ds ρ => match lcD own bt tt el ds [] (wipeD ρ own) with
  | none => none
  | some (acc, ρ') => some (.ok (.lst true acc) (wipeD ρ' own))
def WF : WX := fun _ _ _ _ => False
theorem tLc_of {own : List Nat} {src : M (List D)} {bt : D → Env → Option Env} {tt : M Bool} {el : M D} {mt me : Bool} (hs : ∀ i ∈ asg, i ∈ own) {Q : VK} (h : tOf K mg W true (dLc own src bt tt el) σ H Q) :
    tLc (tiOf K mg W src) (tgOf K asg bt) (ttOf K mg WF mt tt) (tOf K mg WF me el) own σ H Q := by
  obtain ⟨T, ρ, u, rep, hf, he⟩ := h
  unfold dLc bindM at hf
  cases q : src ρ with
  | none => rw [q] at hf; cases hf
  | some w =>
    rw [q] at hf
    refine ⟨T, ρ, w, rep, q, ?_⟩
    cases w with
    | ex x ρ1 =>
      have : u = .ex x ρ1 := (Option.some.inj hf).symm
      subst this
      exact he
    | ok ds ρ0 =>
      intro J c H0 it rep0 p hp
      simp only at hf
      cases ql : lcD own bt tt el ds [] (wipeD ρ0 own) with
      | none => rw [ql] at hf; cases hf
      | some pr =>
        obtain ⟨accF, ρF⟩ := pr
        rw [ql] at hf
        have : u = .ok (.lst true accF) (wipeD ρF own) := (Option.some.inj hf).symm
        subst this
        refine ⟨fun i n Hi => n = ds.length - i ∧ i ≤ ds.length ∧ ∃ acc ρi, Rep K Hi ((.lst true acc, .ref p) :: (c ++ T)) ρi (wipe σ own) ∧ lcD own bt tt el (ds.drop i) acc ρi = some (accF, ρF), ⟨ds.length, by simp, Nat.zero_le _, [], wipeD ρ0 own, ?_, ql⟩, ?_⟩
        · have r0 := rep0.wiped (own := own)
          exact r0.lift fun q => RepT.newL (ds := []) (vs := []) rfl hp q
        rintro i n Hi ⟨rfl, hi, acc, ρi, ri, fi⟩
        have ri' : RepT K Hi (c ++ ((.lst true acc, .ref p) :: (T ++ SL ρi (wipe σ own)))) := by
          have r := ri.rep
          refine r.perm ?_
          have e : ((D.lst true acc, V.ref p) :: (c ++ T)) ++ SL ρi (wipe σ own) = (D.lst true acc, V.ref p) :: (c ++ (T ++ SL ρi (wipe σ own))) := by simp
          rw [e]
          exact List.perm_middle.symm
        by_cases hlt : i < ds.length
        · rw [List.drop_eq_getElem_cons hlt] at fi
          unfold lcD at fi
          cases qb : bt ds[i] ρi with
          | none => rw [qb] at fi; cases fi
          | some ρ1 =>
            simp only [qb] at fi
            refine .inr ⟨it.go i Hi _ hlt ri', fun H' => ∃ acc ρn, Rep K H' ((.lst true acc, .ref p) :: (c ++ T)) ρn (wipe σ own) ∧ lcD own bt tt el (ds.drop (i + 1)) acc ρn = some (accF, ρF), fun H' ⟨a', ρn, rn, fn⟩ => ⟨ds.length - (i + 1), by omega, rfl, hlt, a', ρn, rn, fn⟩, fun x H' y => ?_⟩
            have ry := it.yld i Hi _ x H' ds[i] ri' (List.getElem?_eq_getElem hlt) y
            have ry' : Rep K H' ((ds[i], x) :: ((.lst true acc, .ref p) :: (c ++ T))) ρi (wipe σ own) := ⟨ri.len, ri.nos, by
              have e : ((ds[i], x) :: ((D.lst true acc, V.ref p) :: (c ++ T))) ++ SL ρi (wipe σ own) = (ds[i], x) :: (D.lst true acc, V.ref p) :: (c ++ (T ++ SL ρi (wipe σ own))) := by simp
              rw [e]
              exact ry.perm (List.perm_middle.cons _)⟩
            refine ⟨_, ρi, ds[i], ρ1, ry', qb, fun σ1 H1 k1 r1 => ?_⟩
            have ew := k1.wiped hs
            have el1 : (wipe σ own).length = σ1.length := k1.1.symm
            refine ⟨ew, ?_⟩
            cases qt : tt ρ1 with
            | none => rw [qt] at fi; cases fi
            | some w =>
              cases w with
              | ex x ρ2 => rw [qt] at fi; cases fi
              | ok b ρ2 =>
                simp only [qt] at fi
                refine ⟨_, ρ1, _, r1, qt, fun H2 _ r2 => ?_⟩
                cases b with
                | false =>
                  rw [if_neg (by simp)] at fi ⊢
                  exact ⟨acc, _, r2.unwiped (σ := wipe σ own) el1 (ew.trans wipe_wipe.symm), fi⟩
                | true =>
                  rw [if_pos rfl] at fi ⊢
                  cases qe : el ρ2 with
                  | none => rw [qe] at fi; cases fi
                  | some w =>
                    cases w with
                    | ex x ρ3 => rw [qe] at fi; cases fi
                    | ok y ρ3 =>
                      simp only [qe] at fi
                      refine ⟨_, ρ2, _, r2, qe, fun v H3 _ r3 => ?_⟩
                      by_cases z : acc.length < sizeLine
                      · rw [if_pos z] at fi
                        obtain ⟨vs, hv, lv, rp⟩ := RepT.push r3.rep
                        refine ⟨vs, hv, by rw [← lv]; exact z, acc ++ [y], _, ?_, fi⟩
                        have r4 : Rep K (upd H3 p (.lst (vs ++ [v]))) ((.lst true (acc ++ [y]), .ref p) :: (c ++ T)) ρ3 σ1 := ⟨r3.len, r3.nos, rp⟩
                        exact r4.unwiped (σ := wipe σ own) el1 (ew.trans wipe_wipe.symm)
                      · rw [if_neg z] at fi; cases fi
        · have e : i = ds.length := by omega
          subst e
          rw [List.drop_length] at fi
          have : (acc, ρi) = (accF, ρF) := Option.some.inj fi
          injection this with e1 e2
          subst e1
          subst e2
          refine .inl ⟨it.stop Hi _ ri', he _ Hi (fun e => by cases e) ?_⟩
          have r5 : Rep K Hi ((.lst true acc, .ref p) :: T) ρi (wipe σ own) := Rep.dropL (U := c) (ri.perm List.perm_middle.symm)
          exact r5.unwiped (by rw [wipe_length]) wipe_wipe
def dYes : M Bool := retM true
theorem tYes_of {Q : Bool → Hp → Prop} (h : ttOf K mg W m dYes σ H Q) : tYes σ H Q := by
  obtain ⟨T, ρ, u, rep, hf, he⟩ := h
  have : u = .ok true ρ := (Option.some.inj hf).symm
  subst this
  exact he H (fun _ => Same.refl _) rep
def VTs (X : Cx) (W : WX) (m : Bool) (ifs : List Expr) (f : M Bool) : Prop := PTs X ifs (ttOf X.K X.mg W m f)
theorem vts_nil : VTs X W false [] dYes := ⟨fun pins s σ H Q I q => pts_nil.run pins s σ H Q I (tYes_of q)⟩
theorem vts_one {c : Expr} {f : M Bool} (h : VT X W m c f) : VTs X W m [c] f := pts_one h
section
variable {elt tg iter : Expr} {ifs : List Expr} {scope : Scope} {own : List (Str × Nat)} {pos spos : Pos} {src : M (List D)} {bt : D → Env → Option Env} {tt : M Bool} {el : M D} {mt me : Bool}
theorem ve_lc (hc : X.calm = true) (hN : X.N.Nodup) (hi : VI X W tg iter src) (ok : BlkOk X.N X.env.scope scope own)
    (hg : ∀ (s : Shared) (H : Hp) (C : Addr) (cl : List (Str × Addr)) (fp : List Addr), VG (X.blk s H scope (compEnvC scope cl C X.env) fp) asg tg bt)
    (ht : ∀ (s : Shared) (H : Hp) (C : Addr) (cl : List (Str × Addr)) (fp : List Addr), VTs (X.blk s H scope (compEnvC scope cl C X.env) fp) WF mt ifs tt)
    (he : ∀ (s : Shared) (H : Hp) (C : Addr) (cl : List (Str × Addr)) (fp : List Addr), VE (X.blk s H scope (compEnvC scope cl C X.env) fp) WF me elt el)
    (hsub : ∀ i ∈ asg, i ∈ own.map (·.2) := by decide) (hs : ∀ x, foldedSetIterable iter X.env x = pure x := by intro _; rfl) : VE X W true (.ListComp elt [⟨tg, iter, ifs, 0⟩] scope pos) (dLc (own.map (·.2)) src bt tt el) :=
  PE.imp (pe_lc (g := tgOf X.K asg bt) (tt := ttOf X.K X.mg WF mt tt) (te := tOf X.K X.mg WF me el) hc hN hi ok hg ht he hs) fun _ _ _ h => tLc_of hsub h
theorem vs_setLc {i : Nat} {y : Str} {py : Pos} (hc : X.calm = true) (hN : X.N.Nodup) (hy : X.N[i]? = some y) (hyl : X.env.scope.names.lookup y = some .local)
    (hsw : swapsWith (.ListComp elt [⟨tg, iter, ifs, 0⟩] scope pos) (some (.Name y py)) spos.line X.env = pure true) (hi : VI X W tg iter src) (ok : BlkOk X.N X.env.scope scope own)
    (hg : ∀ (s : Shared) (H : Hp) (C : Addr) (cl : List (Str × Addr)) (fp : List Addr), VG (X.blk s H scope (compEnvC scope cl C X.env) fp) asg tg bt)
    (ht : ∀ (s : Shared) (H : Hp) (C : Addr) (cl : List (Str × Addr)) (fp : List Addr), VTs (X.blk s H scope (compEnvC scope cl C X.env) fp) WF mt ifs tt)
    (he : ∀ (s : Shared) (H : Hp) (C : Addr) (cl : List (Str × Addr)) (fp : List Addr), VE (X.blk s H scope (compEnvC scope cl C X.env) fp) WF me elt el)
    (hsub : ∀ i ∈ asg, i ∈ own.map (·.2) := by decide) (hs : ∀ x, foldedSetIterable iter X.env x = pure x := by intro _; rfl) : VSt X W [i] (.Assign [.Name y py] (.ListComp elt [⟨tg, iter, ifs, 0⟩] scope pos) spos) (dSet i (dLc (own.map (·.2)) src bt tt el)) := by
  refine vs_setP (m := true) (PS.imp (ps_setLc (g := tgOf X.K asg bt) (tt := ttOf X.K X.mg WF mt tt) (te := tOf X.K X.mg WF me el) hc hN hy hyl hsw hi ok hg ht he hs) fun σ H E h => ?_)
  exact tLc_of hsub h
end
inductive Fo where
  | ok (r : D) (as : List D)
  | ex (x : Xc) (as : List D)
abbrev FnD := List D → Option Fo
def spOf (K : PySem.W.Frag) (mg : Str → Option Value) (F : FnD) : Sp := fun vs H Q E => ∃ L as o, as.length = vs.length ∧ RepT K H (as.zip vs ++ L) ∧ F as = some o ∧ match o with
  | .ok r as' => ∀ v H', as'.length = vs.length → RepT K H' ((r, v) :: (as'.zip vs ++ L)) → Q v H'
  | .ex x as' => ∀ cls dd H', as'.length = vs.length → XRep mg x cls dd H' → RepT K (sansD H' dd) (as'.zip vs ++ L) → E cls dd H'
def outD (np : Nat) (asg : List Nat) (ρ : Env) : List D := (wipeD ρ asg).take np
def fnD (n np : Nat) (asg : List Nat) (body : MS) : FnD := fun as => if as.length = np ∧ np ≤ n then (match body (as ++ List.replicate (n - np) .unk) with
  | none => none
  | some (.nx, ρ) => if ρ.length = n then some (.ok .non (outD np asg ρ)) else none
  | some (.rt d, ρ) => if ρ.length = n then some (.ok d (outD np asg ρ)) else none
  | some (.ex x, ρ) => if ρ.length = n then some (.ex x (outD np asg ρ)) else none
  | some (.bk, _) => none
  | some (.ct, _) => none) else none
theorem SL_start : ∀ (as : List D) (vs : List V) (k : Nat), as.length = vs.length → SL (as ++ List.replicate k .unk) (vs.map some ++ List.replicate k none) = as.zip vs ++ List.replicate k (.unk, .non)
  | [], [], k, _ => by
    show List.zipWith _ (List.replicate k D.unk) (List.replicate k none) = List.replicate k (D.unk, V.non)
    rw [List.zipWith_replicate']; rfl
  | [], _ :: _, _, h => by cases h
  | _ :: _, [], _, h => by cases h
  | a :: as, v :: vs, k, h => by
    show (a, v) :: SL (as ++ List.replicate k .unk) (vs.map some ++ List.replicate k none) = _
    rw [SL_start as vs k (Nat.succ.inj h)]; rfl
theorem RepT.unks {L : List (D × V)} {v : V} : ∀ k : Nat, RepT K H L → RepT K H (List.replicate k (.unk, v) ++ L)
  | 0, h => h
  | k + 1, h => RepT.unk (RepT.unks k h)
theorem SL_split : ∀ (ρ : Env) (vs : List V) (τ : St), vs.length ≤ ρ.length → SL ρ (vs.map some ++ τ) = (ρ.take vs.length).zip vs ++ SL (ρ.drop vs.length) τ
  | ρ, [], τ, _ => by simp
  | [], _ :: _, _, h => by simp at h
  | d :: ρ, v :: vs, τ, h => by
    show (d, v) :: SL ρ (vs.map some ++ τ) = _
    rw [SL_split ρ vs τ (Nat.le_of_succ_le_succ h)]; rfl
theorem out_rep {n np : Nat} {N : List Str} {vs : List V} {L : List (D × V)} {ρ : Env} {σ' : St} {P : List (D × V)} (hn : N.length = n) (hv : vs.length = np) (hl : ρ.length = n) (hnp : np ≤ n) (k : Kept asg (L2.start N vs) σ') (r : Rep K H (P ++ L) ρ σ') :
    (outD np asg ρ).length = vs.length ∧ RepT K H (P ++ ((outD np asg ρ).zip vs ++ L)) := by
  have r1 : Rep K H (P ++ L) (wipeD ρ asg) (L2.start N vs) := by
    refine (r.wipe1 asg).other k.1.symm fun i => ?_
    by_cases hi : i ∈ asg
    · by_cases hl2 : i < ρ.length
      · exact .inl (wipeD_get ρ hi hl2)
      · exact .inr (by rw [List.getElem?_eq_none (by rw [← k.1, ← r.len]; omega), List.getElem?_eq_none (by rw [← r.len]; omega)])
    · exact .inr (k.2 i hi).symm
  have lw : (wipeD ρ asg).length = n := by rw [wipeD_length]; exact hl
  refine ⟨by unfold outD; rw [List.length_take, lw, hv]; omega, ?_⟩
  have q := r1.rep
  unfold L2.start at q
  rw [SL_split _ _ _ (by rw [lw, hv]; exact hnp), hv] at q
  have q2 : RepT K H (SL ((wipeD ρ asg).drop np) (List.replicate (N.length - np) none) ++ (P ++ ((outD np asg ρ).zip vs ++ L))) := by
    refine q.perm ?_
    refine (List.perm_append_comm (l₁ := P ++ L)).trans ?_
    unfold outD
    generalize ((wipeD ρ asg).take np).zip vs = Z
    generalize SL ((wipeD ρ asg).drop np) (List.replicate (N.length - np) none) = Y
    have e1 : (Z ++ Y ++ (P ++ L)).Perm (Y ++ Z ++ (P ++ L)) := List.perm_append_comm.append_right _
    refine e1.trans ?_
    rw [List.append_assoc]
    refine List.Perm.append_left Y ?_
    rw [← List.append_assoc, ← List.append_assoc]
    exact List.perm_append_comm.append_right L
  exact q2.dropL
theorem body_sp {X : Cx} {N ps : List Str} {g : MS} {vs : List V} {Q : VK} {E : XK} (h : spOf X.K X.mg (fnD N.length ps.length asg g) vs H Q E) :
    tsOf X.K X.mg (fun cls d _ H => E cls d H) asg g { nx := fun _ H' => Q .non H', rt := Q } (L2.start N vs) H := by
  obtain ⟨L, as, o, l, rep, hf, ho⟩ := h
  unfold fnD at hf
  by_cases z : as.length = ps.length ∧ ps.length ≤ N.length
  · rw [if_pos z] at hf
    have lv : vs.length = ps.length := by rw [← l]; exact z.1
    have rep0 : Rep X.K H L (as ++ List.replicate (N.length - ps.length) .unk) (L2.start N vs) := by
      unfold L2.start
      rw [lv]
      refine ⟨by simp [l], fun i hi => ?_, ?_⟩
      · by_cases hlt : i < vs.length
        · rw [List.getElem?_append_left (by simpa using hlt), List.getElem?_map] at hi
          cases q : vs[i]? with
          | none => rw [q] at hi; cases hi
          | some v => rw [q] at hi; cases hi
        · rw [List.getElem?_append_right (by simpa using Nat.le_of_not_lt hlt)] at hi
          have hb := (List.getElem?_eq_some_iff.mp hi).1
          rw [List.length_replicate, List.length_map] at hb
          rw [List.getElem?_append_right (by omega), List.getElem?_replicate, if_pos (by omega)]
      · rw [SL_start as vs _ l]
        have q := RepT.unks (v := V.non) (N.length - ps.length) rep
        refine q.perm ?_
        refine List.perm_append_comm.trans ?_
        rw [List.append_assoc]
        refine List.perm_append_comm.trans ?_
        rw [List.append_assoc]
        exact List.Perm.append_left L List.perm_append_comm
    cases qb : g (as ++ List.replicate (N.length - ps.length) .unk) with
    | none => rw [qb] at hf; cases hf
    | some pr =>
      obtain ⟨fl, ρ'⟩ := pr
      refine ⟨L, _, fl, ρ', rep0, qb, ?_⟩
      simp only [qb] at hf
      cases fl with
      | nx =>
        intro σ' H' k' r'
        simp only at hf
        split at hf
        · rename_i zl
          cases hf
          obtain ⟨l2, r2⟩ := out_rep (P := []) rfl lv zl z.2 k' r'
          exact ho .non H' l2 (RepT.non r2)
        · cases hf
      | rt d =>
        intro v σ' H' k' r'
        simp only at hf
        split at hf
        · rename_i zl
          cases hf
          obtain ⟨l2, r2⟩ := out_rep (P := [(d, v)]) rfl lv zl z.2 k' r'
          exact ho v H' l2 r2
        · cases hf
      | ex x =>
        intro cls dd σ' H' k' xr r'
        simp only at hf
        split at hf
        · rename_i zl
          cases hf
          obtain ⟨l2, r2⟩ := out_rep (P := []) rfl lv zl z.2 k' r'
          exact ho cls dd H' l2 xr r2
        · cases hf
      | bk => cases hf
      | ct => cases hf
  · rw [if_neg z] at hf; cases hf
theorem fn_ok {P : Program} {w : World} {base : Heap} {x qual : Str} {st : Stmt} {f : Addr} {fd : FuncData} {N ps : List Str} {k : Nat} {g : MS} (F : Fun K x qual st f fd) (S : FnScope N ps (defScope st))
    (hbody : ∀ (cdv : Value) (A : Around) (outer : List PySem.Env) (s : Shared) (H : Hp) (E : XK), Room k (A.deeper (envOfC qual (defScope st) s.heap.objs.size f cdv)) →
      VSs (cxOf (L2N.CX P w) P w K mg base N qual (defScope st) f cdv A outer s H E) (fun cls d _ H => E cls d H) asg (defBody st) g) :
    FnOk P w K mg base (L2N.CX P w) (k + 1) f fd ps (spOf K mg (fnD N.length ps.length asg g)) := by
  obtain ⟨oc, od, kV, doc, pm, an, cd, ct, osl, rfl, lk, hcd⟩ := F.ex
  refine fn_of lk hcd S (fun vs H Q E h => ?_) fun A outer s H vs Q E hr h => ?_
  · obtain ⟨L, as, o, l, _, hf, _⟩ := h
    unfold fnD at hf
    by_cases z : as.length = ps.length ∧ ps.length ≤ N.length
    · rw [← l]; exact z.1
    · rw [if_neg z] at hf; cases hf
  · exact ⟨_, hbody cd A outer s H E hr, body_sp (X := cxOf (L2N.CX P w) P w K mg base N qual (defScope st) f cd A outer s H E) h⟩
def IOv (σ : St) : List (Option Nat) → List V → List V → Prop
  | [], tv, vs => tv = [] ∧ vs = []
  | none :: ks, tv, vs => ∃ v t r, tv = v :: t ∧ vs = v :: r ∧ IOv σ ks t r
  | some i :: ks, tv, vs => ∃ v r, σ[i]? = some (some v) ∧ vs = v :: r ∧ IOv σ ks tv r
def okIO (K : PySem.W.Frag) (m : Bool) (ks : List (Option Nat)) (T : List (D × V)) (σ : St) (H : Hp) (Q : List V → Hp → Prop) (ds : List D) (ρ' : Env) : Prop :=
  ∀ tv vs H', (m = false → Same H H') → ds.length = tv.length → IOv σ ks tv vs → Rep K H' (ds.zip tv ++ T) ρ' σ → Q vs H'
def taIO (K : PySem.W.Frag) (mg : Str → Option Value) (W : WX) (m : Bool) (ks : List (Option Nat)) (f : M (List D)) : TA := fun σ H Q => ∃ T ρ r, Rep K H T ρ σ ∧ f ρ = some r ∧ endR K mg W T σ (okIO K m ks T σ H Q) r
def VIO (X : Cx) (W : WX) (m : Bool) (ks : List (Option Nat)) (es : List Expr) (f : M (List D)) : Prop := PA X es (taIO X.K X.mg W m ks f)
theorem vio_nil : VIO X W false [] [] dNil := PA.imp pa_nil fun σ H Q ⟨T, ρ, u, rep, hf, he⟩ => by
  have : u = .ok [] ρ := (Option.some.inj hf).symm
  subst this
  exact he [] [] H (fun _ => Same.refl _) rfl ⟨rfl, rfl⟩ rep
theorem vio_cons {e : Expr} {es : List Expr} {f : M D} {g : M (List D)} {ma mb : Bool} {ks : List (Option Nat)} (ha : VE X W ma e f) (hb : VIO X W mb ks es g) (hs : starEach (e :: es) X.env = (false, eval e X.env) :: starEach es X.env := by rfl) : VIO X W (ma || mb) (none :: ks) (e :: es) (dCons f g) := by
  refine PA.imp (pa_cons ha hb hs) fun σ H Q ⟨T, ρ, u, rep, hf, he⟩ => ?_
  refine run1 rep hf he fun x ρ1 v H1 h1 s1 r1 => ?_
  unfold bindM at h1
  cases q : g ρ1 with
  | none => rw [q] at h1; cases h1
  | some w =>
    rw [q] at h1
    refine ⟨_, ρ1, w, r1, q, ?_⟩
    cases w with
    | ex x ρ2 =>
      have : u = .ex x ρ2 := (Option.some.inj h1).symm
      subst this
      exact exE.push he
    | ok ds ρ2 =>
      intro tv vs H2 s2 l2 io r2
      have : u = .ok (x :: ds) ρ2 := (Option.some.inj h1).symm
      subst this
      exact he (v :: tv) (v :: vs) H2 (sm_or s1 s2) (by simp [l2]) ⟨v, tv, vs, rfl, rfl, io⟩ (r2.perm List.perm_middle)
def dIO (i : Nat) (g : M (List D)) : M (List D) := fun ρ => match ρ[i]? with
  | none => none
  | some .unk => none
  | some _ => g ρ
theorem vio_slot {e : Expr} {es : List Expr} {g : M (List D)} {i : Nat} {ks : List (Option Nat)} (ha : PE X e (tVar i)) (hb : VIO X W m ks es g) (hs : starEach (e :: es) X.env = (false, eval e X.env) :: starEach es X.env := by rfl) : VIO X W m (some i :: ks) (e :: es) (dIO i g) := by
  refine PA.imp (pa_cons ha hb hs) fun σ H Q ⟨T, ρ, u, rep, hf, he⟩ => ?_
  unfold dIO at hf
  cases q : ρ[i]? with
  | none => rw [q] at hf; cases hf
  | some d =>
    have n : d ≠ .unk := fun e => by rw [q, e] at hf; cases hf
    have hf' : g ρ = some u := by
      rw [q] at hf
      cases d <;> first | exact hf | exact absurd rfl n
    obtain ⟨v, hv⟩ := rep.slot q n
    refine ⟨v, hv, T, ρ, u, rep, hf', ?_⟩
    cases u with
    | ex x ρ2 => exact he
    | ok ds ρ2 => exact fun tv vs H2 s2 l2 io r2 => he tv (v :: vs) H2 s2 l2 ⟨v, vs, hv, rfl, io⟩ r2
def takeIO : List (Option Nat) → List D → Env → List D × Env
  | [], _, ρ => ([], ρ)
  | none :: ks, [], ρ => ([], ρ)
  | none :: ks, d :: ds, ρ => (d :: (takeIO ks ds ρ).1, (takeIO ks ds ρ).2)
  | some i :: ks, ds, ρ => (ρ.getD i .unk :: (takeIO ks ds (ρ.set i .unk)).1, (takeIO ks ds (ρ.set i .unk)).2)
def giveIO : List (Option Nat) → List D → Env → Env
  | none :: ks, _ :: as, ρ => giveIO ks as ρ
  | some i :: ks, a :: as, ρ => giveIO ks as (ρ.set i a)
  | _, _, ρ => ρ
theorem take_rep : ∀ {ks : List (Option Nat)} {ds : List D} {tv vs : List V} {ρ : Env} {T : List (D × V)}, ds.length = tv.length → IOv σ ks tv vs → Rep K H (ds.zip tv ++ T) ρ σ →
    (takeIO ks ds ρ).1.length = vs.length ∧ Rep K H ((takeIO ks ds ρ).1.zip vs ++ T) (takeIO ks ds ρ).2 σ
  | [], ds, tv, vs, ρ, T, l, io, r => by
    obtain ⟨rfl, rfl⟩ := io
    exact ⟨rfl, r.dropL⟩
  | none :: ks, ds, tv, vs, ρ, T, l, io, r => by
    obtain ⟨v, t, r', rfl, rfl, io⟩ := io
    cases ds with
    | nil => cases l
    | cons d ds =>
      have r2 : Rep K H (ds.zip t ++ ((d, v) :: T)) ρ σ := r.perm List.perm_middle.symm
      obtain ⟨l3, r3⟩ := take_rep (ks := ks) (ds := ds) (tv := t) (vs := r') (T := (d, v) :: T) (Nat.succ.inj l) io r2
      exact ⟨by simp [takeIO, l3], r3.perm List.perm_middle⟩
  | some i :: ks, ds, tv, vs, ρ, T, l, io, r => by
    obtain ⟨v, r', hv, rfl, io⟩ := io
    have hi : i < ρ.length := by rw [r.len]; exact (List.getElem?_eq_some_iff.mp hv).1
    have e : ρ[i]? = some (ρ.getD i .unk) := by
      rw [List.getD_eq_getElem?_getD, List.getElem?_eq_getElem hi]; rfl
    have r1 := r.take e hv
    have r2 : Rep K H (ds.zip tv ++ ((ρ.getD i .unk, v) :: T)) (ρ.set i .unk) σ := r1.perm List.perm_middle.symm
    obtain ⟨l3, r3⟩ := take_rep (ks := ks) (ds := ds) (tv := tv) (vs := r') (T := (ρ.getD i .unk, v) :: T) l io r2
    exact ⟨by simp [takeIO, l3], r3.perm List.perm_middle⟩
theorem give_rep : ∀ {ks : List (Option Nat)} {as : List D} {tv vs : List V} {ρ : Env} {T : List (D × V)}, as.length = vs.length → IOv σ ks tv vs → Rep K H (as.zip vs ++ T) ρ σ → Rep K H T (giveIO ks as ρ) σ
  | [], as, tv, vs, ρ, T, l, io, r => by
    obtain ⟨rfl, rfl⟩ := io
    cases as with
    | nil => exact r
    | cons _ _ => cases l
  | none :: ks, as, tv, vs, ρ, T, l, io, r => by
    obtain ⟨v, t, r', rfl, rfl, io⟩ := io
    cases as with
    | nil => cases l
    | cons a as => exact give_rep (ks := ks) (as := as) (tv := t) (vs := r') (Nat.succ.inj l) io (Rep.drop r)
  | some i :: ks, as, tv, vs, ρ, T, l, io, r => by
    obtain ⟨v, r', hv, rfl, io⟩ := io
    cases as with
    | nil => cases l
    | cons a as =>
      have r2 : Rep K H ((a, v) :: (as.zip r' ++ T)) ρ σ := r
      exact give_rep (ks := ks) (as := as) (tv := tv) (vs := r') (Nat.succ.inj l) io (r2.put hv)
def dFn (ks : List (Option Nat)) (F : FnD) (f : M (List D)) : M D := bindM f fun ds ρ => match F (takeIO ks ds ρ).1 with
  | none => none
  | some (.ok r as) => some (.ok r (giveIO ks as (takeIO ks ds ρ).2))
  | some (.ex x as) => some (.ex x (giveIO ks as (takeIO ks ds ρ).2))
theorem tFn_of {ks : List (Option Nat)} {F : FnD} {f : M (List D)} {Q : VK} (h : tOf K mg W true (dFn ks F f) σ H Q) : tCallS (spOf K mg F) (WE W) (taIO K mg W m ks f) σ H Q := by
  obtain ⟨T, ρ, u, rep, hf, he⟩ := h
  unfold dFn bindM at hf
  cases q : f ρ with
  | none => rw [q] at hf; cases hf
  | some w =>
    rw [q] at hf
    refine ⟨T, ρ, w, rep, q, ?_⟩
    cases w with
    | ex x ρ2 =>
      have : u = .ex x ρ2 := (Option.some.inj hf).symm
      subst this
      exact he
    | ok ds ρ1 =>
      intro tv vs H1 s1 l1 io r1
      obtain ⟨l2, r2⟩ := take_rep l1 io r1
      simp only at hf
      cases qF : F (takeIO ks ds ρ1).1 with
      | none => rw [qF] at hf; cases hf
      | some o =>
        rw [qF] at hf
        refine ⟨T ++ SL (takeIO ks ds ρ1).2 σ, _, o, l2, by rw [← List.append_assoc]; exact r2.rep, qF, ?_⟩
        cases o with
        | ok r as =>
          have : u = .ok r (giveIO ks as (takeIO ks ds ρ1).2) := (Option.some.inj hf).symm
          subst this
          intro v H2 l3 r3
          refine he v H2 (fun e => by cases e) ?_
          have r4 : Rep K H2 (as.zip vs ++ ((r, v) :: T)) (takeIO ks ds ρ1).2 σ := ⟨r2.len, r2.nos, by
            refine r3.perm ?_
            rw [List.append_assoc]
            exact List.perm_middle.symm⟩
          exact give_rep l3 io r4
        | ex x as =>
          have : u = .ex x (giveIO ks as (takeIO ks ds ρ1).2) := (Option.some.inj hf).symm
          subst this
          intro cls dd H2 l3 xr r3
          refine he cls dd H2 xr ?_
          have r4 : Rep K (sansD H2 dd) (as.zip vs ++ T) (takeIO ks ds ρ1).2 σ := ⟨r2.len, r2.nos, by rw [List.append_assoc]; exact r3⟩
          exact give_rep l3 io r4
theorem ve_call {ks : List (Option Nat)} {F : FnD} {f : M (List D)} {k : Nat} {fa : Addr} {fd : FuncData} {ps : List Str} {x : Str} {e : Expr} {es : List Expr} {p pos : Pos} (G : FnOk X.prog X.w X.K X.mg X.base (L2N.CX X.prog X.w) k fa fd ps (spOf X.K X.mg F)) (hr : Room k X.A) (hg : Gl X x) (hm : X.mg x = some (.ref fa))
    (hk : PySem.W.keepIn X.K (.ref fa) = true) (hb : Binds X.K fd ps []) (tk : L2N.Takes X W) (ha : VIO X W m ks (e :: es) f) (hdb : (x == ("__debug__" : Str)) = false := by decide)
    (he : starEach (e :: es) X.env = (false, eval e X.env) :: starEach es X.env := by rfl) (hpl : (backTo pos (starEach es X.env)).any (·.1) = false := by rfl) : VE X W true (.Call (.Name x p) (e :: es) [] pos) (dFn ks F f) :=
  PE.imp (pe_callS G hr hg hm hk hb (fun σ => L2N.passAt tk σ) ha hdb he hpl) fun _ _ _ h => tFn_of h
end
end VS
set_option Elab.async false
set_option linter.all false
set_option maxRecDepth 100000
set_option maxHeartbeats 4000000
set_option autoImplicit false
noncomputable section
namespace VS
open PySem PySem.Spec PyProof.Rows L2
mutual
def dat : D → Option PyData
  | .non => some .none
  | .bl b => some (.bool b)
  | .int i => some (.int i)
  | .str x => some (.str x)
  | .tup ds => (dats ds).map .tuple
  | .ktp ds => (dats ds).map .tuple
  | .lst _ ds => (dats ds).map .list
  | .scr ds => (dats ds).map .list
  | _ => none
def dats : List D → Option (List PyData)
  | [] => some []
  | d :: ds => match dat d, dats ds with
    | some x, some xs => some (x :: xs)
    | _, _ => none
end
section
variable {X : Cx} {W : WX} {K : PySem.W.Frag} {mg : Str → Option Value} {F H H1 : Hp} {T L : List (D × V)} {ρ ρ' : Env} {σ σ' σ'' : St} {m : Bool}
mutual
theorem Ow.dp (sF : Same F H) : ∀ (d : D) (v : V) (A : List Addr) (x : PyData), Ow K F H d v A → dat d = some x → Dp K H v x
  | .unk, v, A, x, h, e => by simp [dat] at e
  | .hole, v, A, x, h, e => by simp [dat] at e
  | .non, v, A, x, h, e => by
    rw [Ow] at h; rw [dat] at e; cases e; rw [h.1]; exact .non
  | .bl b, v, A, x, h, e => by
    rw [Ow] at h; rw [dat] at e; cases e; rw [h.1]; exact .bl b
  | .int i, v, A, x, h, e => by
    rw [Ow] at h; rw [dat] at e; cases e; rw [h.1]; exact .int i
  | .str z, v, A, x, h, e => by
    rw [Ow] at h; rw [dat] at e; cases e; rw [h.1]; exact .str z
  | .tup ds, v, A, x, h, e => by
    rw [Ow] at h
    obtain ⟨a, vs, rfl, q, l⟩ := h
    rw [dat] at e
    obtain ⟨xs, e1, rfl⟩ := Option.map_eq_some_iff.mp e
    exact .tup (.inl (.inl (sF _ _ q))) (OwL.dp sF ds vs A xs l e1)
  | .ktp ds, v, A, x, h, e => by
    rw [Ow] at h
    obtain ⟨a, vs, rfl, q, l⟩ := h
    rw [dat] at e
    obtain ⟨xs, e1, rfl⟩ := Option.map_eq_some_iff.mp e
    exact .tup (Same.sqT sF q) (OwL.dp sF ds vs A xs l e1)
  | .lst false ds, v, A, x, h, e => by
    rw [Ow] at h
    obtain ⟨a, vs, rfl, q, l⟩ := h
    rw [dat] at e
    obtain ⟨xs, e1, rfl⟩ := Option.map_eq_some_iff.mp e
    exact .lst (.inl (.inl (sF _ _ q))) (OwL.dp sF ds vs A xs l e1)
  | .lst true ds, v, A, x, h, e => by
    rw [Ow] at h
    obtain ⟨a, vs, A', rfl, q, l, rfl⟩ := h
    rw [dat] at e
    obtain ⟨xs, e1, rfl⟩ := Option.map_eq_some_iff.mp e
    exact .lst (.inl (.inl q)) (OwL.dp sF ds vs A' xs l e1)
  | .scr ds, v, A, x, h, e => by
    rw [Ow] at h
    obtain ⟨a, vs, rfl, q, l⟩ := h
    rw [dat] at e
    obtain ⟨xs, e1, rfl⟩ := Option.map_eq_some_iff.mp e
    exact .lst (sF.seq q) (OwL.dp sF ds vs A xs l e1)
  | .dK o ks ds, v, A, x, h, e => by simp [dat] at e
  | .dT o ks ds, v, A, x, h, e => by simp [dat] at e
  | .lK ks ds, v, A, x, h, e => by simp [dat] at e
  | .lT ks ds, v, A, x, h, e => by simp [dat] at e
  | .lck o, v, A, x, h, e => by simp [dat] at e
  | .ob C fs ds, v, A, x, h, e => by simp [dat] at e
theorem OwL.dp (sF : Same F H) : ∀ (ds : List D) (vs : List V) (A : List Addr) (xs : List PyData), OwL K F H ds vs A → dats ds = some xs → DpAll K H vs xs
  | [], vs, A, xs, h, e => by
    rw [OwL] at h; rw [dats] at e; cases e; rw [h.1]; exact .nil
  | d :: ds, vs, A, xs, h, e => by
    rw [OwL] at h
    obtain ⟨v, r, A1, A2, rfl, rfl, h1, h2⟩ := h
    rw [dats] at e
    cases e1 : dat d with
    | none => rw [e1] at e; cases e
    | some y =>
      cases e2 : dats ds with
      | none => rw [e1, e2] at e; cases e
      | some ys =>
        rw [e1, e2] at e
        cases e
        exact .cons (Ow.dp sF d v A1 y h1 e1) (OwL.dp sF ds r A2 ys h2 e2)
end
theorem RepT.dp {d : D} {v : V} {x : PyData} (h : RepT K H ((d, v) :: L)) (e : dat d = some x) : Dp K H v x := by
  obtain ⟨F, A, sF, nd, fr, A1, A2, rfl, h1, o⟩ := h
  exact h1.dp sF _ _ _ _ e
def gInt (C : Int → Int → Bool) (f : Int → Int → Int) (x y : D) : Option D := match x, y with
  | .int i, .int j => if C i j = true then some (.int (f i j)) else none
  | _, _ => none
theorem gInt_inv {C : Int → Int → Bool} {f : Int → Int → Int} {x y d : D} (h : gInt C f x y = some d) : ∃ i j, x = .int i ∧ y = .int j ∧ C i j = true ∧ d = .int (f i j) := by
  unfold gInt at h
  split at h
  · rename_i i j
    split at h
    · rename_i z
      exact ⟨i, j, rfl, rfl, z, (Option.some.inj h).symm⟩
    · cases h
  · cases h
theorem impInt {P : Int → Int → Prop} {C : Int → Int → Bool} {f : Int → Int → Int} (hC : ∀ i j, C i j = true → P i j) : Imp2 K (rI P fun i j => .int (f i j)) (gInt C f) := by
  intro H L x y d v w Q e r h
  obtain ⟨i, j, rfl, rfl, z, rfl⟩ := gInt_inv e
  have e2 := r.eq_int
  have e1 := r.drop.eq_int
  subst e1; subst e2
  exact ⟨_, _, rfl, rfl, hC _ _ z, h _ H (Same.refl _) r.drop.drop.int⟩
theorem impInt0 {C : Int → Int → Bool} {f : Int → Int → Int} : Imp2 K (rI0 fun i j => .int (f i j)) (gInt C f) := by
  intro H L x y d v w Q e r h
  obtain ⟨i, j, rfl, rfl, z, rfl⟩ := gInt_inv e
  have e2 := r.eq_int
  have e1 := r.drop.eq_int
  subst e1; subst e2
  exact ⟨_, _, rfl, rfl, h _ H (Same.refl _) r.drop.drop.int⟩
def cT : Int → Int → Bool := fun _ _ => true
def cMul : Int → Int → Bool := fun i j => decide (in64 i) || decide (in64 j)
def cMod : Int → Int → Bool := fun _ j => decide (0 < j)
def cDiv : Int → Int → Bool := fun _ j => decide (in30 j)
def cPow : Int → Int → Bool := fun i j => decide (0 ≤ j) && decide (j ≤ 1000000) && decide (i.natAbs < 2 ^ 64)
def gMul := gInt cMul fun i j => i * j
def gMod := gInt cMod fun i j => i % j
def gDiv := gInt cDiv fun i j => i / j
def gPow := gInt cPow fun i j => i ^ j.toNat
def gSub := gInt cT fun i j => i - j
theorem impMul : Imp2 K (rI CMul fun i j => .int (i * j)) gMul := impInt fun i j h => by
  simp only [cMul, Bool.or_eq_true, decide_eq_true_eq] at h
  exact h.imp (fun z => ⟨z.lo, z.hi⟩) (fun z => ⟨z.lo, z.hi⟩)
theorem impMod : Imp2 K (rI (fun _ j => 0 < j) fun i j => .int (i % j)) gMod := impInt fun i j h => by
  simpa [cMod] using h
theorem impDiv : Imp2 K (rI CDiv fun i j => .int (i / j)) gDiv := impInt fun i j h => by
  simp only [cDiv, decide_eq_true_eq] at h
  exact ⟨h.lo, h.hi⟩
theorem impPow : Imp2 K (rI CPow fun i j => .int (i ^ j.toNat)) gPow := impInt fun i j h => by
  simp only [cPow, Bool.and_eq_true, decide_eq_true_eq] at h
  exact ⟨h.1.1, h.1.2, h.2⟩
theorem impSub : Imp2 K (rI0 fun i j => .int (i - j)) gSub := impInt0
def gAdd (x y : D) : Option D := match x, y with
  | .int i, .int j => some (.int (i + j))
  | .lst _ xs, .lst _ ys => if xs.length + ys.length ≤ sizeLine then some (.lst true (xs ++ ys)) else none
  | .tup xs, .tup ys => if xs.length + ys.length ≤ sizeLine then some (.tup (xs ++ ys)) else none
  | _, _ => none
theorem OpR.orr {f : Value → Value → Sem Value} {r r' : R2} (h : OpR X f r) (h' : OpR X f r') : OpR X f (fun x y H Q => r x y H Q ∨ r' x y H Q) :=
  fun pins s σ H x y v u Q I rx ry q => q.elim (h pins s σ H x y v u Q I rx ry) (h' pins s σ H x y v u Q I rx ry)
theorem Same.upd {p : Addr} {o : HO} (hp : H p = none) : Same H (upd H p o) := fun b u q => by rw [upd_ne (ne_of_none q hp)]; exact q
def rAdd3 (K : PySem.W.Frag) : R2 := fun x y H Q => rI0 (fun i j => .int (i + j)) x y H Q ∨ rCat x y H Q ∨ rCatA K x y H Q
theorem op_add3 : OpR X (binaryOp .Add) (rAdd3 X.K) := OpR.orr op_add (OpR.orr op_cat op_catA)
theorem zip_app {ds es : List D} {vs ws : List V} (l : ds.length = vs.length) : (ds ++ es).zip (vs ++ ws) = ds.zip vs ++ es.zip ws := List.zip_append l
theorem impAdd : Imp2 K (rAdd3 K) gAdd := by
  intro H L x y d v w Q e r h
  unfold gAdd at e
  split at e
  · cases e
    have e2 := r.eq_int
    have e1 := r.drop.eq_int
    subst e1; subst e2
    exact .inl ⟨_, _, rfl, rfl, h _ H (Same.refl _) r.drop.drop.int⟩
  · rename_i o xs o' ys
    split at e
    · rename_i z
      cases e
      obtain ⟨b, ws, rfl, hb, lb, r1⟩ := r.readL
      have r2 : RepT K H ((.lst o xs, v) :: (ys.zip ws ++ L)) := r1.perm List.perm_middle
      obtain ⟨a, vs, rfl, ha, la, r3⟩ := r2.readL
      refine .inr (.inl ⟨a, b, vs, ws, rfl, rfl, ha, hb, by omega, fun p hp => h _ _ (Same.upd hp) ?_⟩)
      refine RepT.newL (by simp [la, lb]) hp ?_
      rw [zip_app la, List.append_assoc]
      exact r3
    · cases e
  · rename_i xs ys
    split at e
    · rename_i z
      cases e
      have r0 := r
      obtain ⟨b, ws, rfl, hb, lb, r1⟩ := r.openT
      have r2 : RepT K H ((.tup xs, v) :: (ys.zip ws ++ L)) := r1.perm List.perm_middle
      obtain ⟨a, vs, rfl, ha, la, r3⟩ := r2.openT
      refine .inr (.inr ⟨a, b, vs, ws, rfl, rfl, .inl (.inl ha), .inl (.inl hb), by omega, fun e1 => ?_, fun n1 e2 => ?_, fun n1 n2 p hp => h _ _ (Same.upd hp) ?_⟩)
      · have : xs = [] := List.eq_nil_of_length_eq_zero (by rw [la, e1]; rfl)
        subst this
        have r4 : RepT K H ((.tup ([] : List D), .ref a) :: (.tup ys, .ref b) :: L) := r0.perm (.swap _ _ _)
        exact h _ H (Same.refl _) r4.drop
      · have : ys = [] := List.eq_nil_of_length_eq_zero (by rw [lb, e2]; rfl)
        subst this
        rw [List.append_nil] at h
        exact h _ H (Same.refl _) r0.drop
      · refine RepT.newT (by simp [la, lb]) hp ?_
        rw [zip_app la, List.append_assoc]
        exact r3
    · cases e
  · cases e
def eqD (x y : D) : Option Bool := match dat x, dat y with
  | some a, some b => if SeqAt.shaped a = true ∧ SeqAt.shaped b = true then some (PyData.eqv a b) else none
  | _, _ => none
def gEq (x y : D) : Option D := (eqD x y).map .bl
def gNe (x y : D) : Option D := (eqD x y).map fun b => .bl (!b)
theorem eqD_inv {x y : D} {b : Bool} (h : eqD x y = some b) : ∃ p q, dat x = some p ∧ dat y = some q ∧ SeqAt.shaped p = true ∧ SeqAt.shaped q = true ∧ b = PyData.eqv p q := by
  unfold eqD at h
  split at h
  · rename_i p q e1 e2
    split at h
    · rename_i z
      exact ⟨p, q, e1, e2, z.1, z.2, (Option.some.inj h).symm⟩
    · cases h
  · cases h
theorem impEq : Imp2 K (rEqD K) gEq := by
  intro H L x y d v w Q e r h
  obtain ⟨b, e1, rfl⟩ := Option.map_eq_some_iff.mp e
  obtain ⟨p, q, ep, eq, sp, sq, rfl⟩ := eqD_inv e1
  exact ⟨p, q, r.drop.dp ep, r.dp eq, sp, sq, h _ H (Same.refl _) r.drop.drop.bl⟩
theorem impNe : Imp2 K (rNeD K) gNe := by
  intro H L x y d v w Q e r h
  obtain ⟨b, e1, rfl⟩ := Option.map_eq_some_iff.mp e
  obtain ⟨p, q, ep, eq, sp, sq, rfl⟩ := eqD_inv e1
  exact ⟨p, q, r.drop.dp ep, r.dp eq, sp, sq, h _ H (Same.refl _) r.drop.drop.bl⟩
def seqOf : D → Option (List D)
  | .lst _ ds => some ds
  | .tup ds => some ds
  | .scr ds => some ds
  | .ktp ds => some ds
  | _ => none
theorem atI_inv {α : Type} {xs : List α} {i : Int} {x : α} (e : atI xs i = some x) : ∃ j : Nat, ixN xs.length i = some j ∧ xs[j]? = some x := by
  unfold atI at e
  cases q : ixN xs.length i with
  | none => rw [q] at e; cases e
  | some j => rw [q] at e; exact ⟨j, rfl, e⟩
theorem atI_of {α β : Type} {xs : List α} {ys : List β} {i : Int} {j : Nat} {y : β} (h : xs.length = ys.length) (q : ixN xs.length i = some j) (e : ys[j]? = some y) : atI ys i = some y := by
  unfold atI
  rw [← h, q]; exact e
theorem get_len {α β : Type} {xs : List α} {ys : List β} (h : xs.length = ys.length) {j : Nat} {x : α} (e : xs[j]? = some x) : ∃ y, ys[j]? = some y := by
  have hj := (List.getElem?_eq_some_iff.mp e).1
  exact ⟨ys[j]'(by omega), List.getElem?_eq_getElem _⟩
def gIx (x y : D) : Option D := match seqOf x, y with
  | some ds, .int i => atI ds i
  | _, _ => none
theorem RepT.seq {x : D} {ds : List D} {v : V} (e : seqOf x = some ds) (r : RepT K H ((x, v) :: L)) : ∃ a vs, v = .ref a ∧ (SqL K H a vs ∨ SqT K H a vs) ∧ ds.length = vs.length ∧ RepT K H (ds.zip vs ++ L) := by
  cases x <;> simp only [seqOf, Option.some.injEq, reduceCtorEq] at e <;> subst e
  · obtain ⟨a, vs, e, q, l, r2⟩ := r.openT
    exact ⟨a, vs, e, .inr (.inl (.inl q)), l, r2⟩
  · obtain ⟨a, vs, e, q, l, r2⟩ := r.readL
    exact ⟨a, vs, e, .inl (.inl (.inl q)), l, r2⟩
  · obtain ⟨a, vs, e, q, l, r2⟩ := r.openS
    exact ⟨a, vs, e, .inl q, l, r2⟩
  · obtain ⟨a, vs, e, q, l, r2⟩ := r.openK
    exact ⟨a, vs, e, .inr q, l, r2⟩
theorem impIx : Imp2 K (rIx K) gIx := by
  intro H L x y d v w Q e r h
  unfold gIx at e
  split at e
  · rename_i ds i es
    have ew := r.eq_int
    subst ew
    obtain ⟨a, vs, rfl, sq, l, r2⟩ := r.drop.seq es
    obtain ⟨j, h0, h1⟩ := atI_inv e
    obtain ⟨u, h2⟩ := get_len l h1
    have h3 := atI_of l h0 h2
    have r3 := r2.pick (zip_take h1 h2)
    rcases sq with sq | sq
    · exact .inl ⟨a, vs, i, u, rfl, rfl, sq, h3, h u H (Same.refl _) r3⟩
    · exact .inr (.inl ⟨a, vs, i, u, rfl, rfl, sq, h3, h u H (Same.refl _) r3⟩)
  · cases e
theorem ve_ix {a b : Expr} {fa fb : M D} {ma mb : Bool} {pos : Pos} (ha : VE X W ma a fa) (hb : VE X W mb b fb) (hs : PlainIx b := by exact fun _ _ => rfl) : VE X W (ma || mb) (.Subscript a b pos) (d2 gIx fa fb) :=
  PE.imp (pe_ix ix_seq ha hb hs) fun _ _ _ h => tOp_of impIx h
theorem OwL.item : ∀ {ds : List D} {vs : List V} {A : List Addr} {j : Nat} {d : D}, OwL K F H ds vs A → ds[j]? = some d → fz d = true → ∃ u, vs[j]? = some u ∧ Ow K F H d u []
  | [], _, _, _, _, _, e, _ => by simp at e
  | x :: ds, vs, A, j, d, h, e, z => by
    rw [OwL] at h
    obtain ⟨v, r, A1, A2, rfl, rfl, h1, h2⟩ := h
    cases j with
    | zero =>
      have e : x = d := Option.some.inj e
      subst e
      have := h1.frozen _ _ _ z
      subst this
      exact ⟨v, rfl, h1⟩
    | succ j => exact OwL.item (ds := ds) (j := j) h2 (by simpa using e) z
theorem RepT.item {x d : D} {ds : List D} {v : V} {j : Nat} (r : RepT K H ((x, v) :: L)) (e : seqOf x = some ds) (h : ds[j]? = some d) (z : fz d = true) :
    ∃ a vs u, v = .ref a ∧ (SqL K H a vs ∨ SqT K H a vs) ∧ ds.length = vs.length ∧ vs[j]? = some u ∧ RepT K H ((d, u) :: (x, v) :: L) := by
  obtain ⟨F, A, sF, nd, fr, A1, A2, rfl, h1, o⟩ := r
  have fin : ∀ u, Ow K F H d u [] → RepT K H ((d, u) :: (x, v) :: L) := fun u hu => ⟨F, [] ++ (A1 ++ A2), sF, nd, fr, [], A1 ++ A2, rfl, hu, A1, A2, rfl, h1, o⟩
  cases x with
  | tup xs =>
    simp only [seqOf, Option.some.injEq] at e
    subst e
    have h1' := h1
    rw [Ow] at h1'
    obtain ⟨a, vs, ev, q, l⟩ := h1'
    obtain ⟨u, hu, ou⟩ := l.item h z
    exact ⟨a, vs, u, ev, .inr (.inl (.inl (sF _ _ q))), l.length, hu, fin u ou⟩
  | ktp xs =>
    simp only [seqOf, Option.some.injEq] at e
    subst e
    have h1' := h1
    rw [Ow] at h1'
    obtain ⟨a, vs, ev, q, l⟩ := h1'
    obtain ⟨u, hu, ou⟩ := l.item h z
    exact ⟨a, vs, u, ev, .inr (Same.sqT sF q), l.length, hu, fin u ou⟩
  | lst b xs =>
    simp only [seqOf, Option.some.injEq] at e
    subst e
    have h1' := h1
    cases b <;> rw [Ow] at h1'
    · obtain ⟨a, vs, ev, q, l⟩ := h1'
      obtain ⟨u, hu, ou⟩ := l.item h z
      exact ⟨a, vs, u, ev, .inl (.inl (.inl (sF _ _ q))), l.length, hu, fin u ou⟩
    · obtain ⟨a, vs, A', ev, q, l, _⟩ := h1'
      obtain ⟨u, hu, ou⟩ := l.item h z
      exact ⟨a, vs, u, ev, .inl (.inl (.inl q)), l.length, hu, fin u ou⟩
  | scr xs =>
    simp only [seqOf, Option.some.injEq] at e
    subst e
    have h1' := h1
    rw [Ow] at h1'
    obtain ⟨a, vs, ev, q, l⟩ := h1'
    obtain ⟨u, hu, ou⟩ := l.item h z
    exact ⟨a, vs, u, ev, .inl (sF.seq q), l.length, hu, fin u ou⟩
  | _ => cases e
def dIxS (i : Nat) (f : M D) : M D := fun ρ0 => match ρ0[i]? with
  | none => none
  | some .unk => none
  | some _ => bindM f (fun y ρ => match (ρ.getD i .unk), y with
    | x, .int k => match seqOf x with
      | some ds => match atI ds k with
        | some d => if fz d = true then some (.ok d ρ) else none
        | none => none
      | none => none
    | _, _ => none) ρ0
theorem ve_ixS {a b : Expr} {i : Nat} {f : M D} {pos : Pos} (ha : PE X a (tVar i)) (hb : VE X W m b f) (hs : PlainIx b := by exact fun _ _ => rfl) : VE X W m (.Subscript a b pos) (dIxS i f) := by
  refine PE.imp (pe_ix ix_seq ha hb hs) fun σ H Q ⟨T, ρ, u, rep, hf, he⟩ => ?_
  unfold dIxS at hf
  cases q : ρ[i]? with
  | none => rw [q] at hf; cases hf
  | some x0 =>
    have n : x0 ≠ .unk := fun e => by rw [q, e] at hf; cases hf
    obtain ⟨v, hv⟩ := rep.slot q n
    refine ⟨v, hv, ?_⟩
    have hf' := hf
    rw [q] at hf'
    have hf2 : bindM f (fun y ρ => match (ρ.getD i .unk), y with
      | x, .int k => match seqOf x with
        | some ds => match atI ds k with
          | some d => if fz d = true then some (.ok d ρ) else none
          | none => none
        | none => none
      | _, _ => none) ρ = some u := by
      cases x0 <;> first | exact hf' | exact absurd rfl n
    refine run1 rep hf2 he fun y ρ1 w H1 h1 s1 r1 => ?_
    cases y <;> simp only [reduceCtorEq] at h1
    rename_i k
    have ew := r1.rep.eq_int
    subst ew
    cases q2 : seqOf (ρ1.getD i .unk) with
    | none => rw [q2] at h1; cases h1
    | some ds =>
      rw [q2] at h1
      simp only at h1
      cases q3 : atI ds k with
      | none => rw [q3] at h1; cases h1
      | some d =>
        rw [q3] at h1
        simp only at h1
        by_cases z : fz d = true
        · rw [if_pos z] at h1
          have : u = .ok d ρ1 := (Option.some.inj h1).symm
          subst this
          have hi : i < ρ1.length := by
            rw [r1.len]; exact (List.getElem?_eq_some_iff.mp hv).1
          have e1 : ρ1[i]? = some (ρ1.getD i .unk) := by
            rw [List.getD_eq_getElem?_getD, List.getElem?_eq_getElem hi]; rfl
          obtain ⟨j, h0, h2⟩ := atI_inv q3
          have g := SL_get e1 hv
          have p : (T ++ SL ρ1 σ).Perm ((ρ1.getD i .unk, v) :: (T ++ (SL ρ1 σ).eraseIdx i)) := ((perm_erase g).append_left T).trans List.perm_middle
          obtain ⟨a, vs, u, rfl, sq, l, h3, r6⟩ := RepT.item (r1.drop.rep.perm p) q2 h2 z
          have fin : Rep X.K H1 ((d, u) :: T) ρ1 σ := ⟨r1.len, r1.nos, r6.perm (p.symm.cons _)⟩
          have h4 := atI_of l h0 h3
          rcases sq with sq | sq
          · exact .inl ⟨a, vs, k, u, rfl, rfl, sq, h4, he u H1 s1 fin⟩
          · exact .inr (.inl ⟨a, vs, k, u, rfl, rfl, sq, h4, he u H1 s1 fin⟩)
        · rw [if_neg z] at h1; cases h1
end
end VS
set_option Elab.async false
set_option linter.all false
set_option maxRecDepth 100000
set_option maxHeartbeats 4000000
set_option autoImplicit false
noncomputable section
namespace VS
open PySem PySem.Spec PyProof.Rows L2
section
variable {X : Cx} {W : WX} {K : PySem.W.Frag} {mg : Str → Option Value} {F H H1 : Hp} {T L : List (D × V)} {ρ ρ' : Env} {σ σ' σ'' : St} {m : Bool}
theorem CallR.orr {f : Value} {r r' : List V → Hp → VK → Prop} (h : CallR X f r) (h' : CallR X f r') : CallR X f (fun x H Q => r x H Q ∨ r' x H Q) :=
  fun pins s σ H xs us Q I rx q => q.elim (h pins s σ H xs us Q I rx) (h' pins s σ H xs us Q I rx)
def lenD : D → Option Nat
  | .str x => if x.length ≤ sizeLine then some x.length else none
  | .dK _ ks _ => some ks.length
  | .dT _ ks _ => some ks.length
  | d => (seqOf d).map List.length
def gLen (ds : List D) : Option D := match ds with
  | [d] => (lenD d).map fun (n : Nat) => D.int (n : Int)
  | _ => none
def rLen (K : PySem.W.Frag) : List V → Hp → VK → Prop := fun xs H Q => (∃ x n, xs = [x] ∧ LenV K x H n ∧ Q (.int n) H) ∨ (∃ a kvs, xs = [V.ref a] ∧ H a = some (.dK kvs) ∧ Q (.int kvs.length) H) ∨ rLenT xs H Q
theorem call_lenA : CallR X (.builtin "len") (rLen X.K) := CallR.orr call_len (CallR.orr call_lenD call_len_dT)
theorem RepT.dK {o : Bool} {ks : List Key} {ds : List D} {v : V} (h : RepT K H ((.dK o ks ds, v) :: L)) : ∃ a vs, v = .ref a ∧ H a = some (.dK (ks.zip vs)) ∧ ks.length = ds.length ∧ ks.Nodup ∧ ds.length = vs.length ∧ RepT K H (ds.zip vs ++ L) := by
  obtain ⟨F, A, sF, nd, fr, A1, A2, rfl, h1, ow⟩ := h
  cases o <;> rw [Ow] at h1
  · obtain ⟨a, vs, rfl, q, n, l⟩ := h1
    exact ⟨a, vs, rfl, sF _ _ q, n.1, n.2, l.length, F, A1 ++ A2, sF, nd, fr, l.toT.append ow⟩
  · obtain ⟨a, vs, A', rfl, q, n, l, rfl⟩ := h1
    have nd2 : (a :: (A' ++ A2)).Nodup := nd
    exact ⟨a, vs, rfl, q, n.1, n.2, l.length, F, A' ++ A2, sF, (List.nodup_cons.mp nd2).2, fun b hb => fr b (List.mem_cons_of_mem _ hb), l.toT.append ow⟩
theorem RepT.dT {o : Bool} {ks : List (List Key)} {ds : List D} {v : V} (h : RepT K H ((.dT o ks ds, v) :: L)) : ∃ a vs, v = .ref a ∧ H a = some (.dT (ks.zip vs)) ∧ ks.length = ds.length ∧ ks.Nodup ∧ ds.length = vs.length ∧ RepT K H (ds.zip vs ++ L) := by
  obtain ⟨F, A, sF, nd, fr, A1, A2, rfl, h1, ow⟩ := h
  cases o <;> rw [Ow] at h1
  · obtain ⟨a, vs, rfl, q, n, l⟩ := h1
    exact ⟨a, vs, rfl, sF _ _ q, n.1, n.2, l.length, F, A1 ++ A2, sF, nd, fr, l.toT.append ow⟩
  · obtain ⟨a, vs, A', rfl, q, n, l, rfl⟩ := h1
    have nd2 : (a :: (A' ++ A2)).Nodup := nd
    exact ⟨a, vs, rfl, q, n.1, n.2, l.length, F, A' ++ A2, sF, (List.nodup_cons.mp nd2).2, fun b hb => fr b (List.mem_cons_of_mem _ hb), l.toT.append ow⟩
theorem gLen_rd {d : D} {n : Nat} {v : V} {Q : VK} (e : lenD d = some n) (r : RepT K H ((d, v) :: L)) (h : Q (.int n) H) : rLen K [v] H Q := by
  have seq : ∀ {ds : List D}, seqOf d = some ds → n = ds.length → rLen K [v] H Q := fun {ds} es en => by
    obtain ⟨a, vs, rfl, sq, l, r2⟩ := r.seq es
    refine .inl ⟨.ref a, n, rfl, ?_, h⟩
    rcases sq with sq | sq
    · exact .inl ⟨vs, sq, by omega⟩
    · exact .inr ⟨vs, sq, by omega⟩
  cases d with
  | str x =>
    simp only [lenD] at e
    split at e
    · rename_i z
      have ev := r.eq_str
      subst ev
      exact .inl ⟨.str x, n, rfl, ⟨z, (Option.some.inj e).symm⟩, h⟩
    · cases e
  | dK o ks ds =>
    have en : n = ks.length := (Option.some.inj e).symm
    obtain ⟨a, vs, rfl, q, l1, _, l2, _⟩ := r.dK
    refine .inr (.inl ⟨a, _, rfl, q, ?_⟩)
    have : (ks.zip vs).length = n := by rw [List.length_zip]; omega
    rw [this]; exact h
  | dT o ks ds =>
    have en : n = ks.length := (Option.some.inj e).symm
    obtain ⟨a, vs, rfl, q, l1, _, l2, _⟩ := r.dT
    refine .inr (.inr ⟨a, _, rfl, q, ?_⟩)
    have : (ks.zip vs).length = n := by rw [List.length_zip]; omega
    rw [this]; exact h
  | tup ds => exact seq rfl (Option.some.inj e).symm
  | lst o ds => exact seq rfl (Option.some.inj e).symm
  | scr ds => exact seq rfl (Option.some.inj e).symm
  | ktp ds => exact seq rfl (Option.some.inj e).symm
  | _ => cases e
def gAbs (ds : List D) : Option D := match ds with
  | [.int i] => some (.int (if i < 0 then -i else i))
  | _ => none
def gMax2 (ds : List D) : Option D := match ds with
  | [.int i, .int j] => some (.int (if j > i then j else i))
  | _ => none
def gMin2 (ds : List D) : Option D := match ds with
  | [.int i, .int j] => some (.int (if j < i then j else i))
  | _ => none
def gIntOf (ds : List D) : Option D := match ds with
  | [.int i] => some (.int i)
  | [.bl b] => some (.int (if b then 1 else 0))
  | _ => none
def intOf : D → Option Int
  | .int i => some i
  | _ => none
def allI : List D → Option (List Int)
  | [] => some []
  | .int i :: ds => (allI ds).map (i :: ·)
  | _ => none
def allB : List D → Option (List Bool)
  | [] => some []
  | .bl i :: ds => (allB ds).map (i :: ·)
  | _ => none
theorem allI_eq : ∀ {ds : List D} {ns : List Int}, allI ds = some ns → ds = ns.map D.int
  | [], ns, h => by simp only [allI, Option.some.injEq] at h; subst h; rfl
  | .int i :: ds, ns, h => by
    rw [allI] at h
    obtain ⟨ms, e, rfl⟩ := Option.map_eq_some_iff.mp h
    rw [allI_eq e]; rfl
  | .unk :: _, _, h => by simp [allI] at h
  | .hole :: _, _, h => by simp [allI] at h
  | .non :: _, _, h => by simp [allI] at h
  | .bl _ :: _, _, h => by simp [allI] at h
  | .str _ :: _, _, h => by simp [allI] at h
  | .adr _ :: _, _, h => by simp [allI] at h
  | .exo _ _ :: _, _, h => by simp [allI] at h
  | .tup _ :: _, _, h => by simp [allI] at h
  | .lst _ _ :: _, _, h => by simp [allI] at h
  | .scr _ :: _, _, h => by simp [allI] at h
  | .ktp _ :: _, _, h => by simp [allI] at h
  | .dK _ _ _ :: _, _, h => by simp [allI] at h
  | .dT _ _ _ :: _, _, h => by simp [allI] at h
theorem allI_map : ∀ ns : List Int, allI (ns.map D.int) = some ns
  | [] => rfl
  | n :: ns => by rw [List.map_cons, allI, allI_map ns]; rfl
theorem allB_eq : ∀ {ds : List D} {ns : List Bool}, allB ds = some ns → ds = ns.map D.bl
  | [], ns, h => by simp only [allB, Option.some.injEq] at h; subst h; rfl
  | .bl i :: ds, ns, h => by
    rw [allB] at h
    obtain ⟨ms, e, rfl⟩ := Option.map_eq_some_iff.mp h
    rw [allB_eq e]; rfl
  | .unk :: _, _, h => by simp [allB] at h
  | .hole :: _, _, h => by simp [allB] at h
  | .non :: _, _, h => by simp [allB] at h
  | .int _ :: _, _, h => by simp [allB] at h
  | .str _ :: _, _, h => by simp [allB] at h
  | .adr _ :: _, _, h => by simp [allB] at h
  | .exo _ _ :: _, _, h => by simp [allB] at h
  | .tup _ :: _, _, h => by simp [allB] at h
  | .lst _ _ :: _, _, h => by simp [allB] at h
  | .scr _ :: _, _, h => by simp [allB] at h
  | .ktp _ :: _, _, h => by simp [allB] at h
  | .dK _ _ _ :: _, _, h => by simp [allB] at h
  | .dT _ _ _ :: _, _, h => by simp [allB] at h
theorem zip_int {ns : List Int} : ∀ {vs : List V} {L : List (D × V)}, ns.length = vs.length → RepT K H ((ns.map D.int).zip vs ++ L) → vs = ns.map V.int := by
  induction ns with
  | nil => intro vs L l r; exact List.eq_nil_of_length_eq_zero l.symm
  | cons n ns ih =>
    intro vs L l r
    cases vs with
    | nil => cases l
    | cons v vs =>
      have r1 : RepT K H ((.int n, v) :: ((ns.map D.int).zip vs ++ L)) := r
      rw [r1.eq_int, ih (Nat.succ.inj l) r1.drop]; rfl
theorem zip_bl {ns : List Bool} : ∀ {vs : List V} {L : List (D × V)}, ns.length = vs.length → RepT K H ((ns.map D.bl).zip vs ++ L) → vs = ns.map V.bl := by
  induction ns with
  | nil => intro vs L l r; exact List.eq_nil_of_length_eq_zero l.symm
  | cons n ns ih =>
    intro vs L l r
    cases vs with
    | nil => cases l
    | cons v vs =>
      have r1 : RepT K H ((.bl n, v) :: ((ns.map D.bl).zip vs ++ L)) := r
      rw [r1.eq_bl, ih (Nat.succ.inj l) r1.drop]; rfl
def lstOf : D → Option (List D)
  | .lst _ ds => some ds
  | .scr ds => some ds
  | _ => none
theorem RepT.list {x : D} {ds : List D} {v : V} (e : lstOf x = some ds) (r : RepT K H ((x, v) :: L)) : ∃ a vs, v = .ref a ∧ SqL K H a vs ∧ ds.length = vs.length ∧ RepT K H (ds.zip vs ++ L) := by
  cases x <;> simp only [lstOf, Option.some.injEq, reduceCtorEq] at e <;> subst e
  · obtain ⟨a, vs, e, q, l, r2⟩ := r.readL
    exact ⟨a, vs, e, .inl (.inl q), l, r2⟩
  · exact r.openS
def gSum (ds : List D) : Option D := match ds with
  | [x] => (lstOf x).bind fun xs => (allI xs).map fun ns => .int ns.sum
  | _ => none
def gAll (ds : List D) : Option D := match ds with
  | [x] => (lstOf x).bind fun xs => (allB xs).map fun ns => .bl (ns.all id)
  | _ => none
def gTuple (ds : List D) : Option D := match ds with
  | [.ktp xs] => some (.ktp xs)
  | [x] => (seqOf x).map fun xs => .tup xs
  | _ => none
theorem impTuple : ImpA K (fun xs H Q => ∃ p ys, xs = [.ref p] ∧ ((SqL K H p ys ∧ ∀ l, H l = none → Q (.ref l) (upd H l (.tup ys))) ∨ (SqT K H p ys ∧ Q (.ref p) H))) gTuple := by
  intro H L ds vs d Q e l r h
  unfold gTuple at e
  split at e
  · cases e
    obtain ⟨v, rfl⟩ := len1 l
    have r1 : RepT K H ((.ktp _, v) :: L) := r
    obtain ⟨a, ws, rfl, sq, l2, r2⟩ := r1.openK
    exact ⟨a, ws, rfl, .inr ⟨sq, h _ H (Same.refl _) r1⟩⟩
  · rename_i x nk
    obtain ⟨xs, e1, rfl⟩ := Option.map_eq_some_iff.mp e
    obtain ⟨v, rfl⟩ := len1 l
    have r1 : RepT K H ((x, v) :: L) := r
    cases x with
    | tup ys =>
      simp only [seqOf, Option.some.injEq] at e1
      subst e1
      obtain ⟨a, ws, rfl, sq, l2, r2⟩ := r1.openT
      exact ⟨a, ws, rfl, .inr ⟨.inl (.inl sq), h _ H (Same.refl _) r1⟩⟩
    | lst o ys =>
      simp only [seqOf, Option.some.injEq] at e1
      subst e1
      obtain ⟨a, ws, rfl, sq, l2, r2⟩ := r1.readL
      exact ⟨a, ws, rfl, .inl ⟨.inl (.inl sq), fun p hp => h _ _ (Same.upd hp) (RepT.newT l2 hp r2)⟩⟩
    | scr ys =>
      simp only [seqOf, Option.some.injEq] at e1
      subst e1
      obtain ⟨a, ws, rfl, sq, l2, r2⟩ := r1.openS
      exact ⟨a, ws, rfl, .inl ⟨sq, fun p hp => h _ _ (Same.upd hp) (RepT.newT l2 hp r2)⟩⟩
    | ktp ys => exact absurd rfl (nk ys)
    | _ => cases e1
  · cases e
def cutD (xs : List D) (lo hi : Option Int) : List D := (xs.drop (HT.sIx xs.length 0 lo)).take (HT.sIx xs.length xs.length hi - HT.sIx xs.length 0 lo)
def gSlice (x : D) (lo hi : Option Int) : Option D := match x with
  | .lst _ ds => some (.lst true (cutD ds lo hi))
  | .scr ds => some (.lst true (cutD ds lo hi))
  | .tup ds => some (.tup (cutD ds lo hi))
  | _ => none
theorem cut_perm {xs : List D} {vs : List V} (l : xs.length = vs.length) (lo hi : Option Int) : (cutD xs lo hi).length = (cutV vs lo hi).length ∧ ∃ R, (xs.zip vs).Perm ((cutD xs lo hi).zip (cutV vs lo hi) ++ R) := by
  unfold cutD cutV
  rw [l]
  generalize HT.sIx vs.length 0 lo = a
  generalize HT.sIx vs.length vs.length hi - a = n
  refine ⟨by simp [l], (xs.zip vs).take a ++ ((xs.zip vs).drop a).drop n, ?_⟩
  have e1 : ((xs.drop a).take n).zip ((vs.drop a).take n) = ((xs.zip vs).drop a).take n := by
    unfold List.zip
    rw [List.drop_zipWith, List.take_zipWith]
  rw [e1]
  have e2 : xs.zip vs = (xs.zip vs).take a ++ (((xs.zip vs).drop a).take n ++ ((xs.zip vs).drop a).drop n) := by
    rw [List.take_append_drop, List.take_append_drop]
  rw (occs := .pos [1]) [e2]
  rw [← List.append_assoc, ← List.append_assoc]
  exact List.perm_append_comm.append_right _
theorem cut_rep {xs : List D} {vs : List V} {lo hi : Option Int} (l : xs.length = vs.length) (r : RepT K H (xs.zip vs ++ L)) : RepT K H ((cutD xs lo hi).zip (cutV vs lo hi) ++ L) := by
  obtain ⟨_, R, p⟩ := cut_perm l lo hi
  have r2 := r.perm (p.append_right L)
  have r3 : RepT K H (R ++ ((cutD xs lo hi).zip (cutV vs lo hi) ++ L)) := r2.perm (by
    rw [← List.append_assoc]
    exact List.perm_append_comm.append_right L)
  exact r3.dropL
theorem SlR.orr {r r' : V → Option Int → Option Int → Hp → VK → Prop} (h : L2.SlR X r) (h' : L2.SlR X r') : L2.SlR X (fun x lo hi H Q => r x lo hi H Q ∨ r' x lo hi H Q) := L2.SlR.or h h'
def VO (X : Cx) (W : WX) (m : Bool) (e : Option Expr) (f : M (Option Int)) : Prop := PO X e (fun σ H Q => ∃ T ρ r, Rep X.K H T ρ σ ∧ f ρ = some r ∧ endR X.K X.mg W T σ (fun o ρ' => ∀ H', (m = false → Same H H') → Rep X.K H' T ρ' σ → Q o H') r)
theorem PO.imp {e : Option Expr} {t t' : TO} (h : PO X e t) (i : ∀ σ H Q, t' σ H Q → t σ H Q) : PO X e t' := ⟨fun pins s σ H Q I q => h.run pins s σ H Q I (i σ H Q q)⟩
def dNo : M (Option Int) := retM none
def dEnd (f : M D) : M (Option Int) := bindM f fun d => optM ((intOf d).map some)
theorem vo_none : VO X W false none dNo := PO.imp po_none fun σ H Q ⟨T, ρ, u, rep, hf, he⟩ => by
  have : u = .ok none ρ := (Option.some.inj hf).symm
  subst this
  exact he H (fun _ => Same.refl _) rep
theorem vo_some {e : Expr} {f : M D} (h : VE X W m e f) : VO X W m (some e) (dEnd f) := by
  refine PO.imp (po_some h) fun σ H Q ⟨T, ρ, u, rep, hf, he⟩ => ?_
  refine run1 rep hf he fun d ρ1 v H1 h1 s1 r1 => ?_
  obtain ⟨o, e, rfl⟩ := optM_some h1
  cases d <;> simp only [intOf, Option.map_none, Option.map_some, Option.some.injEq, reduceCtorEq] at e
  subst e
  have e1 := r1.rep.eq_int
  subst e1
  exact ⟨_, rfl, he H1 s1 r1.drop⟩
def dSl (fa : M D) (fl fh : M (Option Int)) : M D := bindM fa fun x => bindM fl fun lo => bindM fh fun hi => optM (gSlice x lo hi)
theorem ve_slice {e : Expr} {lo hi : Option Expr} {fa : M D} {fl fh : M (Option Int)} {ma ml mh : Bool} {p2 pos : Pos} (ha : VE X W ma e fa) (hl : VO X W ml lo fl) (hh : VO X W mh hi fh) : VE X W (ma || ml || mh) (.Subscript e (.Slice lo hi none p2) pos) (dSl fa fl fh) := by
  refine PE.imp (pe_slice (SlR.orr sl_list sl_tupA) ha hl hh) fun σ H Q ⟨T, ρ, u, rep, hf, he⟩ => ?_
  refine run1 rep hf he fun x ρ1 v H1 h1 s1 r1 => ?_
  unfold bindM at h1
  cases q1 : fl ρ1 with
  | none => rw [q1] at h1; cases h1
  | some w1 =>
    rw [q1] at h1
    refine ⟨_, ρ1, w1, r1, q1, ?_⟩
    cases w1 with
    | ex z ρ2 =>
      have : u = .ex z ρ2 := (Option.some.inj h1).symm
      subst this
      exact exE.push he
    | ok lo ρ2 =>
      intro H2 s2 r2
      simp only at h1
      cases q2 : fh ρ2 with
      | none => rw [q2] at h1; cases h1
      | some w2 =>
        rw [q2] at h1
        refine ⟨_, ρ2, w2, r2, q2, ?_⟩
        cases w2 with
        | ex z ρ3 =>
          have : u = .ex z ρ3 := (Option.some.inj h1).symm
          subst this
          exact exE.push he
        | ok hi ρ3 =>
          intro H3 s3 r3
          obtain ⟨d, e, rfl⟩ := optM_some h1
          have sm := sm_or (sm_or s1 s2) s3
          cases x with
          | lst o ds =>
            simp only [gSlice, Option.some.injEq] at e
            subst e
            obtain ⟨a, vs, rfl, sq, l, rr⟩ := RepT.readL r3.rep
            exact .inl ⟨a, vs, rfl, .inl (.inl sq), fun p hp => he _ _ (sm_r sm (Same.upd hp)) ⟨r3.len, r3.nos, RepT.newL (cut_perm l lo hi).1 hp (cut_rep l rr)⟩⟩
          | scr ds =>
            simp only [gSlice, Option.some.injEq] at e
            subst e
            obtain ⟨a, vs, rfl, sq, l, rr⟩ := RepT.openS r3.rep
            exact .inl ⟨a, vs, rfl, sq, fun p hp => he _ _ (sm_r sm (Same.upd hp)) ⟨r3.len, r3.nos, RepT.newL (cut_perm l lo hi).1 hp (cut_rep l rr)⟩⟩
          | tup ds =>
            simp only [gSlice, Option.some.injEq] at e
            subst e
            obtain ⟨a, vs, rfl, sq, l, rr⟩ := RepT.openT r3.rep
            refine .inr ⟨a, vs, rfl, .inl (.inl sq), fun z => ?_, fun z p hp => he _ _ (sm_r sm (Same.upd hp)) ⟨r3.len, r3.nos, RepT.newT (cut_perm l lo hi).1 hp (cut_rep l rr)⟩⟩
            have : cutD ds lo hi = ds := by
              unfold cutD
              rw [l, z.1, z.2]
              rw [List.drop_zero, Nat.sub_zero, ← l, List.take_length]
            rw [this] at he
            exact he _ H3 sm r3
          | _ => cases e
def leD (x y : D) : Bool := PySem.W.dataLe false (fun d => (dat d).getD .none) x y
def alikeB (es : List PyData) : Bool := es.all fun x => es.all fun y => PySem.W.alike x y
def sortB (es : List PyData) : Bool := (es.all fun d => match d with | .tuple (_ :: _) => true | _ => false) || es.all fun d => match d with | .none => false | .tuple _ => false | _ => true
def sortD (ds : List D) : Option (List D) := match dats ds with
  | none => none
  | some es => if (alikeB es && sortB es && es.all fun e => decide (e.depth ≤ 60)) = true ∧ ds.length ≤ sizeLine then some (ds.mergeSort leD) else none
theorem alikeB_ok {es : List PyData} (h : alikeB es = true) : PySem.W.AllAlike es := fun d hd d' hd' => by
  unfold alikeB at h
  rw [List.all_eq_true] at h
  have := h d hd
  rw [List.all_eq_true] at this
  exact this d' hd'
theorem sortB_ok {es : List PyData} (h : sortB es = true) : PySem.W.Sortable es := by
  unfold sortB at h
  rw [Bool.or_eq_true, List.all_eq_true, List.all_eq_true] at h
  rcases h with h | h
  · refine .inl fun d hd => ?_
    have := h d hd
    split at this
    · exact ⟨_, _, rfl⟩
    · cases this
  · refine .inr fun d hd => ?_
    have := h d hd
    split at this
    · cases this
    · cases this
    · rename_i n1 n2
      exact ⟨n1, n2⟩
def rSortA (K : PySem.W.Frag) : List V → Hp → VK → Prop := fun xs H Q => ∃ (a : Addr) (ps : List (D × V)) (es : List PyData), xs = [.ref a] ∧ SqL K H a (ps.map (·.2)) ∧ ps.length ≤ sizeLine ∧
  dats (ps.map (·.1)) = some es ∧ DpAll K H (ps.map (·.2)) es ∧ PySem.W.AllAlike es ∧ PySem.W.Sortable es ∧ (∀ e ∈ es, e.depth ≤ 60) ∧ ∀ p, H p = none → Q (.ref p) (upd H p (.lst ((ps.mergeSort fun x y => leD x.1 y.1).map (·.2))))
theorem dats_eq : ∀ {ds : List D} {es : List PyData}, dats ds = some es → es = ds.map fun d => (dat d).getD .none
  | [], es, h => by rw [dats] at h; cases h; rfl
  | d :: ds, es, h => by
    rw [dats] at h
    cases e1 : dat d with
    | none => rw [e1] at h; cases h
    | some y =>
      cases e2 : dats ds with
      | none => rw [e1, e2] at h; cases h
      | some ys =>
        rw [e1, e2] at h
        cases h
        rw [List.map_cons, e1, dats_eq e2]; rfl
theorem each_rel : ∀ {ps : List (D × V)} {its : List Value}, Vals (ps.map (·.2)) its → PySem.W.EachIs (fun v (p : D × V) => RelV p.2 v) its ps
  | [], _, .nil => .nil
  | p :: ps, _, .cons r t => .cons r (each_rel t)
theorem each_back : ∀ {ps : List (D × V)} {its : List Value}, PySem.W.EachIs (fun v (p : D × V) => RelV p.2 v) its ps → Vals (ps.map (·.2)) its
  | _, _, .nil => .nil
  | _, _, .cons r t => .cons r (each_back t)
theorem each_reads {pins : List (Addr × Obj)} {s : Shared} (I : Inv X pins σ H s) : ∀ {ps : List (D × V)} {its : List Value} {es : List PyData}, dats (ps.map (·.1)) = some es → DpAll X.K H (ps.map (·.2)) es → Vals (ps.map (·.2)) its →
    PySem.W.EachIs (fun v (p : D × V) => ∃ as, Reads s.heap v ((dat p.1).getD .none) as) its ps
  | [], _, _, _, _, .nil => .nil
  | p :: ps, _, es, h, hd, .cons r t => by
    rw [List.map_cons, dats] at h
    cases e1 : dat p.1 with
    | none => rw [e1] at h; cases h
    | some y =>
      cases e2 : dats (ps.map (·.1)) with
      | none => rw [e1, e2] at h; cases h
      | some ys =>
        rw [e1, e2] at h
        cases h
        cases hd with
        | cons d1 d2 => exact .cons (by rw [e1]; exact Dp.reads I _ _ _ d1 r) (each_reads I e2 d2 t)
theorem cr_sortA (hu : X.A.units + 64 < cLine) : CallR X (.builtin "sorted") (rSortA X.K) := by
  intro pins s σ H xs us Q I r h
  obtain ⟨a, ps, es, rfl, hs, hz, he, hd, hal, hso, hdp, q⟩ := h
  obtain ⟨its, rv, hl, _⟩ := I.list hs
  rw [Vals.ref1 r]
  have ee := dats_eq he
  have em : ps.map (fun p : D × V => (dat p.1).getD .none) = es := by rw [ee, List.map_map]; rfl
  refine PySem.W.sorted_data (R := fun v (p : D × V) => RelV p.2 v) (enc := fun p : D × V => (dat p.1).getD .none) (bs := ps) hl.isList (each_rel rv) (each_reads I he hd rv) (by rw [em]; exact hal) (by rw [em]; exact hso) hz (fun b hb => ?_) fun out hlen ho => ?_
  · have : (dat b.1).getD .none ∈ es := by rw [← em]; exact List.mem_map.mpr ⟨b, hb, rfl⟩
    have := hdp _ this
    omega
  · obtain ⟨ep, he'⟩ := PyProof.Rows.sortedAll_at s.heap its out.toArray
    have vo := each_back ho
    have hlen2 : ((ps.mergeSort fun x y => leD x.1 y.1).map (·.2)).length ≤ sizeLine := by rw [List.length_map, List.length_mergeSort]; exact hz
    exact ⟨.ref _, upd H (s.heap.objs.size + 1) (.lst ((ps.mergeSort fun x y => leD x.1 y.1).map (·.2))), I.laid (t' := s.toks) (fun _ _ => PyProof.Rows.sortedAll_old) (Nat.le_succ _) ⟨hlen2, out, ep, vo, he'⟩, rfl, q _ (I.hok.fresh (Nat.le_succ _))⟩
def gSort (ds : List D) : Option D := match ds with
  | [x] => (lstOf x).bind fun xs => (sortD xs).map fun ys => .lst true ys
  | _ => none
theorem zip_fst {ds : List D} {vs : List V} (l : ds.length = vs.length) : (ds.zip vs).map (·.1) = ds := by
  rw [List.map_fst_zip (by omega)]
theorem zip_snd {ds : List D} {vs : List V} (l : ds.length = vs.length) : (ds.zip vs).map (·.2) = vs := by
  rw [List.map_snd_zip (by omega)]
theorem zip_maps (ps : List (D × V)) : (ps.map (·.1)).zip (ps.map (·.2)) = ps := by
  induction ps with
  | nil => rfl
  | cons p ps ih => rw [List.map_cons, List.map_cons, List.zip_cons_cons, ih]
theorem RepT.dpAll {ds : List D} {vs : List V} {es : List PyData} (l : ds.length = vs.length) (r : RepT K H (ds.zip vs ++ L)) (e : dats ds = some es) : DpAll K H vs es := by
  obtain ⟨F, A, sF, nd, fr, o⟩ := r
  obtain ⟨A1, A2, rfl, o1, _⟩ := o.split
  exact (o1.toL l).dp sF _ _ _ _ e
theorem impSort : ImpA K (rSortA K) gSort := by
  intro H L ds vs d Q e l r h
  unfold gSort at e
  split at e
  · rename_i x
    obtain ⟨xs, e1, e2⟩ := Option.bind_eq_some_iff.mp e
    obtain ⟨ys, e3, rfl⟩ := Option.map_eq_some_iff.mp e2
    obtain ⟨v, rfl⟩ := len1 l
    have r1 : RepT K H ((x, v) :: L) := r
    obtain ⟨a, ws, rfl, sq, l2, r2⟩ := r1.list e1
    unfold sortD at e3
    split at e3
    · cases e3
    · rename_i es ed
      split at e3
      · rename_i z
        cases e3
        obtain ⟨z1, z2⟩ := z
        rw [Bool.and_eq_true, Bool.and_eq_true, List.all_eq_true] at z1
        have es1 : (xs.zip ws).map (·.1) = xs := zip_fst l2
        have es2 : (xs.zip ws).map (·.2) = ws := zip_snd l2
        refine ⟨a, xs.zip ws, es, rfl, by rw [es2]; exact sq, by rw [List.length_zip]; omega, by rw [es1]; exact ed, by rw [es2]; exact r2.dpAll l2 ed, alikeB_ok z1.1.1, sortB_ok z1.1.2, fun e he => of_decide_eq_true (z1.2 e he), fun p hp => h _ _ (Same.upd hp) ?_⟩
        have em : xs.mergeSort leD = ((xs.zip ws).mergeSort fun x y => leD x.1 y.1).map (·.1) := by
          have := List.map_mergeSort (f := fun p : D × V => p.1) (r := fun x y => leD x.1 y.1) (s := leD) (l := xs.zip ws) (fun _ _ _ _ => rfl)
          rw [this, es1]
        rw [em]
        refine RepT.newL (by rw [List.length_map, List.length_map]) hp ?_
        rw [zip_maps]
        exact r2.perm ((List.mergeSort_perm _ _).symm.append_right L)
      · cases e3
  · cases e
def enumD (ds : List D) : List D := (List.range ds.length).map fun (i : Nat) => .tup [.int i, ds.getD i .unk]
theorem enum_get {ds : List D} {i : Nat} {d : D} (h : (enumD ds)[i]? = some d) : ∃ x, ds[i]? = some x ∧ d = .tup [.int i, x] := by
  unfold enumD at h
  rw [List.getElem?_map] at h
  cases q : (List.range ds.length)[i]? with
  | none => rw [q] at h; cases h
  | some j =>
    rw [q] at h
    have ⟨h1, h2⟩ := List.getElem?_eq_some_iff.mp q
    rw [List.getElem_range] at h2
    subst h2
    rw [List.length_range] at h1
    refine ⟨ds[i], List.getElem?_eq_getElem h1, ?_⟩
    have := Option.some.inj h
    rw [← this]
    show D.tup [D.int i, ds.getD i D.unk] = _
    rw [List.getD_eq_getElem?_getD, List.getElem?_eq_getElem h1]; rfl
theorem itE {a : Addr} {ds : List D} {x : D} (z : fz x = true) (hx : lstOf x = some ds) (zl : fzL ds = true) : ItOk K (Ite K a) [(x, .ref a)] (enumD ds) := by
  have len : (enumD ds).length = ds.length := by simp [enumD]
  have rd : ∀ H L, RepT K H ((x, .ref a) :: L) → ∃ vs, SqL K H a vs ∧ ds.length = vs.length ∧ RepT K H (ds.zip vs ++ ((x, .ref a) :: L)) := fun H L h => by
    obtain ⟨b, vs, e, sq, l, r⟩ := RepT.list hx (RepT.dup z h)
    cases e
    exact ⟨vs, sq, l, r⟩
  refine ⟨fun i H L hi h => ?_, fun H L h => ?_, fun i H L y H' d h e yl => ?_⟩
  · obtain ⟨vs, sq, l, _⟩ := rd H L h
    rw [len] at hi
    exact ⟨vs, vs[i]'(by omega), sq, List.getElem?_eq_getElem _⟩
  · obtain ⟨vs, sq, l, _⟩ := rd H L h
    exact ⟨vs, sq, by omega⟩
  · obtain ⟨T, w, rfl, nT, rfl, hw⟩ := yl
    obtain ⟨vs, sq, l, r⟩ := rd H L h
    obtain ⟨u, hu, rfl⟩ := enum_get e
    have r2 := r.pick (zip_take hu (hw vs sq))
    exact RepT.newT (ds := [.int i, u]) (vs := [.int i, w]) rfl nT (RepT.int r2)
def zipD : List D → List D → List D
  | x :: xs, y :: ys => .tup [x, y] :: zipD xs ys
  | _, _ => []
theorem zipD_len : ∀ (xs ys : List D), (zipD xs ys).length = min xs.length ys.length
  | [], _ => by simp [zipD]
  | _ :: _, [] => by simp [zipD]
  | x :: xs, y :: ys => by simp [zipD, zipD_len xs ys, Nat.succ_min_succ]
theorem zipD_get : ∀ {xs ys : List D} {i : Nat} {d : D}, (zipD xs ys)[i]? = some d → ∃ x y, xs[i]? = some x ∧ ys[i]? = some y ∧ d = .tup [x, y]
  | [], _, _, _, h => by simp [zipD] at h
  | _ :: _, [], _, _, h => by simp [zipD] at h
  | x :: xs, y :: ys, 0, d, h => ⟨x, y, rfl, rfl, (Option.some.inj h).symm⟩
  | x :: xs, y :: ys, i + 1, d, h => zipD_get (xs := xs) (ys := ys) h
theorem itZ {a b : Addr} {xs ys : List D} {x y : D} (zx : fz x = true) (zy : fz y = true) (hx : lstOf x = some xs) (hy : lstOf y = some ys) : ItOk K (Itz K a b) [(x, .ref a), (y, .ref b)] (zipD xs ys) := by
  have rd : ∀ H L, RepT K H ((x, .ref a) :: (y, .ref b) :: L) → ∃ vs ws, SqL K H a vs ∧ SqL K H b ws ∧ xs.length = vs.length ∧ ys.length = ws.length ∧ RepT K H (xs.zip vs ++ (ys.zip ws ++ ((x, .ref a) :: (y, .ref b) :: L))) := fun H L h => by
    have h1 := RepT.dup zx h
    have h2 : RepT K H ((y, .ref b) :: (x, .ref a) :: (x, .ref a) :: L) := h1.perm (by
      exact ((List.Perm.swap (y, V.ref b) (x, V.ref a) L).cons _).trans (List.Perm.swap _ _ _))
    have h3 := RepT.dup zy h2
    obtain ⟨b', ws, e, sq, l, r⟩ := RepT.list hy h3
    cases e
    have h4 : RepT K H ((x, .ref a) :: (ys.zip ws ++ ((y, .ref b) :: (x, .ref a) :: L))) := r.perm (by
      refine ((List.Perm.append_left _ ((List.Perm.swap (x, V.ref a) (y, V.ref b) ((x, V.ref a) :: L)))).trans ?_)
      exact List.perm_middle)
    obtain ⟨a', vs, e, sq', l', r'⟩ := RepT.list hx h4
    cases e
    exact ⟨vs, ws, sq', sq, l', l, r'.perm (List.Perm.append_left _ (List.Perm.append_left _ (.swap _ _ _)))⟩
  refine ⟨fun i H L hi h => ?_, fun H L h => ?_, fun i H L v H' d h e yl => ?_⟩
  · obtain ⟨vs, ws, sq, sq', l, l', _⟩ := rd H L h
    rw [zipD_len] at hi
    exact ⟨vs, ws, vs[i]'(by omega), ws[i]'(by omega), sq, sq', List.getElem?_eq_getElem _, List.getElem?_eq_getElem _⟩
  · obtain ⟨vs, ws, sq, sq', l, l', _⟩ := rd H L h
    rw [zipD_len]
    exact ⟨vs, ws, sq, sq', by omega⟩
  · obtain ⟨T, v1, v2, rfl, nT, rfl, hw, hw'⟩ := yl
    obtain ⟨vs, ws, sq, sq', l, l', r⟩ := rd H L h
    obtain ⟨u, u', hu, hu', rfl⟩ := zipD_get e
    have r2 := r.pick (zip_take hu (hw vs sq))
    have r3 : RepT K H (ys.zip ws ++ ((u, v1) :: (x, .ref a) :: (y, .ref b) :: L)) := r2.perm List.perm_middle.symm
    have r4 := r3.pick (zip_take hu' (hw' ws sq'))
    exact RepT.newT (ds := [u, u']) (vs := [v1, v2]) rfl nT (r4.perm (.swap _ _ _))
theorem itZT {a b : Addr} {xs ys : List D} (zx : fzL xs = true) (zy : fzL ys = true) : ItOk K (RZ.ItzT K a b) [(.tup xs, .ref a), (.tup ys, .ref b)] (zipD xs ys) := by
  have zx : fz (.tup xs) = true := by rw [fz]; exact zx
  have zy : fz (.tup ys) = true := by rw [fz]; exact zy
  have rd : ∀ H L, RepT K H ((.tup xs, .ref a) :: (.tup ys, .ref b) :: L) → ∃ vs ws, SqT K H a vs ∧ SqT K H b ws ∧ xs.length = vs.length ∧ ys.length = ws.length ∧ RepT K H (xs.zip vs ++ (ys.zip ws ++ ((.tup xs, .ref a) :: (.tup ys, .ref b) :: L))) := fun H L h => by
    have h1 := RepT.dup zx h
    have h2 : RepT K H ((.tup ys, .ref b) :: (.tup xs, .ref a) :: (.tup xs, .ref a) :: L) := h1.perm (by
      exact ((List.Perm.swap (D.tup ys, V.ref b) (D.tup xs, V.ref a) L).cons _).trans (List.Perm.swap _ _ _))
    have h3 := RepT.dup zy h2
    obtain ⟨b', ws, e, sq, l, r⟩ := RepT.openT h3
    cases e
    have h4 : RepT K H ((.tup xs, .ref a) :: (ys.zip ws ++ ((.tup ys, .ref b) :: (.tup xs, .ref a) :: L))) := r.perm (by
      refine ((List.Perm.append_left _ ((List.Perm.swap (D.tup xs, V.ref a) (D.tup ys, V.ref b) ((D.tup xs, V.ref a) :: L)))).trans ?_)
      exact List.perm_middle)
    obtain ⟨a', vs, e, sq', l', r'⟩ := RepT.openT h4
    cases e
    exact ⟨vs, ws, .inl (.inl sq'), .inl (.inl sq), l', l, r'.perm (List.Perm.append_left _ (List.Perm.append_left _ (.swap _ _ _)))⟩
  refine ⟨fun i H L hi h => ?_, fun H L h => ?_, fun i H L v H' d h e yl => ?_⟩
  · obtain ⟨vs, ws, sq, sq', l, l', _⟩ := rd H L h
    rw [zipD_len] at hi
    exact ⟨vs, ws, vs[i]'(by omega), ws[i]'(by omega), sq, sq', List.getElem?_eq_getElem _, List.getElem?_eq_getElem _⟩
  · obtain ⟨vs, ws, sq, sq', l, l', _⟩ := rd H L h
    rw [zipD_len]
    exact ⟨vs, ws, sq, sq', by omega⟩
  · obtain ⟨T, v1, v2, rfl, nT, rfl, hw, hw'⟩ := yl
    obtain ⟨vs, ws, sq, sq', l, l', r⟩ := rd H L h
    obtain ⟨u, u', hu, hu', rfl⟩ := zipD_get e
    have r2 := r.pick (zip_take hu (hw vs sq))
    have r3 : RepT K H (ys.zip ws ++ ((u, v1) :: (.tup xs, .ref a) :: (.tup ys, .ref b) :: L)) := r2.perm List.perm_middle.symm
    have r4 := r3.pick (zip_take hu' (hw' ws sq'))
    exact RepT.newT (ds := [u, u']) (vs := [v1, v2]) rfl nT (r4.perm (.swap _ _ _))
def zipOf (ds : List D) : Option (List D) := match ds with
  | [x, y] => match freeze x, freeze y with
    | .tup xs, .tup ys => if fzL xs = true ∧ fzL ys = true then some (zipD xs ys) else none
    | x', y' => match lstOf x', lstOf y' with
      | some xs, some ys => if fz x' = true ∧ fz y' = true then some (zipD xs ys) else none
      | _, _ => none
  | _ => none
def dZip (f : M (List D)) : M (List D) := bindM f fun ds => optM (zipOf ds)
theorem zipOf_inv {ds out : List D} (h : zipOf ds = some out) : ∃ x y xs ys, ds = [x, y] ∧ out = zipD xs ys ∧ fz (freeze x) = true ∧ fz (freeze y) = true ∧ ((freeze x = .tup xs ∧ freeze y = .tup ys) ∨ (lstOf (freeze x) = some xs ∧ lstOf (freeze y) = some ys)) := by
  unfold zipOf at h
  split at h
  · rename_i x y
    split at h
    · rename_i xs ys e1 e2
      split at h
      · rename_i z
        cases h
        exact ⟨x, y, xs, ys, rfl, rfl, by rw [e1, fz]; exact z.1, by rw [e2, fz]; exact z.2, .inl ⟨e1, e2⟩⟩
      · cases h
    · split at h
      · rename_i xs ys e1 e2
        split at h
        · rename_i z
          cases h
          exact ⟨x, y, xs, ys, rfl, rfl, z.1, z.2, .inr ⟨e1, e2⟩⟩
        · cases h
      · cases h
  · cases h
theorem vi_zip {elts : List Expr} {kk : Nat} {e e2 : Expr} {f : M (List D)} {p pos tpos : Pos} (hg : Gl X "zip") (hm : X.mg "zip" = none) (ha : VA X W m [e, e2] f)
    (hs : starEach [e, e2] X.env = (false, eval e X.env) :: starEach [e2] X.env := by rfl) (hpl : (backTo pos (starEach [e2] X.env)).any (·.1) = false := by rfl) : VI X W (.Tuple elts kk tpos) (.Call (.Name "zip" p) [e, e2] [] pos) (dZip f) := by
  refine PI.imp (RZ.pi_zipA hg hm ha hs hpl) fun σ H R ⟨T, ρ, u, rep, hf, he⟩ => ?_
  refine runA rep hf he fun ds ρ1 vs H1 h1 s1 l1 r1 => ?_
  obtain ⟨out, e, rfl⟩ := optM_some h1
  obtain ⟨x, y, xs, ys, rfl, rfl, zx, zy, hh⟩ := zipOf_inv e
  obtain ⟨v, w, rfl⟩ := len2 l1
  have r2 : RepT X.K H1 ((freeze x, v) :: (y, w) :: (T ++ SL ρ1 σ)) := RepT.freeze r1.rep
  have r3 : RepT X.K H1 ((freeze y, w) :: (freeze x, v) :: (T ++ SL ρ1 σ)) := RepT.freeze (r2.perm (.swap _ _ _))
  have r4 : RepT X.K H1 ((freeze x, v) :: (freeze y, w) :: (T ++ SL ρ1 σ)) := r3.perm (.swap _ _ _)
  rcases hh with ⟨e1, e2⟩ | ⟨e1, e2⟩
  · rw [e1, e2] at r3 r4
    rw [e1, fz] at zx
    rw [e2, fz] at zy
    obtain ⟨a, vs1, rfl, sq1, _, _⟩ := r4.openT
    obtain ⟨b, vs2, rfl, sq2, _, _⟩ := r3.openT
    exact ⟨a, b, vs1, vs2, rfl, .inr ⟨.inl (.inl sq1), .inl (.inl sq2), he _ _ H1 (itZT zx zy) ⟨r1.len, r1.nos, r4⟩⟩⟩
  · obtain ⟨a, vs1, rfl, sq1, _, _⟩ := r4.list e1
    obtain ⟨b, vs2, rfl, sq2, _, _⟩ := r3.list e2
    exact ⟨a, b, vs1, vs2, rfl, .inl ⟨sq1, sq2, he _ _ H1 (itZ zx zy e1 e2) ⟨r1.len, r1.nos, r4⟩⟩⟩
end
end VS
set_option Elab.async false
set_option linter.all false
set_option maxRecDepth 100000
set_option maxHeartbeats 4000000
set_option autoImplicit false
noncomputable section
namespace VS
open PySem PySem.Spec PyProof.Rows L2
section
variable {X : Cx} {W : WX} {K : PySem.W.Frag} {mg : Str → Option Value} {F H H1 : Hp} {T L : List (D × V)} {ρ ρ' : Env} {σ σ' σ'' : St} {m : Bool}
def ImpM (K : PySem.W.Frag) (r : V → List V → Hp → VK → Prop) (g : List D → List D → Option (D × List D)) : Prop :=
  ∀ H L xs xs' ds vs d a Q, g xs ds = some (d, xs') → ds.length = vs.length → RepT K H ((.lst true xs, .ref a) :: (ds.zip vs ++ L)) → (∀ u H', RepT K H' ((d, u) :: (.lst true xs', .ref a) :: L) → Q u H') → r (.ref a) vs H Q
def isLst : Option D → Bool
  | some (.lst _ _) => true
  | _ => false
def mutL (i : Nat) (g : List D → List D → Option (D × List D)) (ds : List D) : M D := fun ρ => match ρ[i]? with
  | some (.lst true xs) => match g xs ds with
    | some (d, xs') => some (.ok d (ρ.set i (.lst true xs')))
    | none => none
  | _ => none
def dMt (i : Nat) (g : List D → List D → Option (D × List D)) (f : M (List D)) : M D := fun ρ0 => if isLst ρ0[i]? = true then bindM f (mutL i g) ρ0 else none
theorem mutL_inv {i : Nat} {g : List D → List D → Option (D × List D)} {ds : List D} {u : Rv D} (h : mutL i g ds ρ = some u) : ∃ xs d xs', ρ[i]? = some (.lst true xs) ∧ g xs ds = some (d, xs') ∧ u = .ok d (ρ.set i (.lst true xs')) := by
  unfold mutL at h
  split at h
  · rename_i xs e
    split at h
    · rename_i d xs' e2
      exact ⟨xs, d, xs', e, e2, (Option.some.inj h).symm⟩
    · cases h
  · cases h
theorem mut_rep {i : Nat} {g : List D → List D → Option (D × List D)} {r : V → List V → Hp → VK → Prop} {xs xs' ds : List D} {d : D} {vs : List V} {v : V} {Q : VK} (hg : ImpM K r g) (rep : Rep K H (ds.zip vs ++ T) ρ σ) (hi : ρ[i]? = some (.lst true xs)) (hv : σ[i]? = some (some v)) (l : ds.length = vs.length)
    (e : g xs ds = some (d, xs')) (q : ∀ u H', Rep K H' ((d, u) :: T) (ρ.set i (.lst true xs')) σ → Q u H') : r v vs H Q := by
  have r1 := rep.take hi hv
  have hv1 := hv
  obtain ⟨a, _, rfl, _⟩ := RepT.openL r1.rep
  refine hg H (T ++ SL (ρ.set i .unk) σ) xs xs' ds vs d a Q e l (by
    have := r1.rep
    rw [show ((D.lst true xs, V.ref a) :: (ds.zip vs ++ T)) ++ SL (ρ.set i .unk) σ = (D.lst true xs, V.ref a) :: (ds.zip vs ++ (T ++ SL (ρ.set i .unk) σ)) by simp] at this
    exact this) fun u H' r2 => ?_
  have r3 : Rep K H' ((.lst true xs', .ref a) :: (d, u) :: T) (ρ.set i .unk) σ := ⟨r1.len, r1.nos, r2.perm (.swap _ _ _)⟩
  have r4 := r3.put hv
  rw [List.set_set] at r4
  exact q u H' r4
theorem ve_mt {name id : String} {o : Expr} {i : Nat} {r : V → List V → Hp → VK → Prop} {g : List D → List D → Option (D × List D)} {f : M (List D)} {e : Expr} {es : List Expr} {apos cpos : Pos} (slot : Slot "list" (Str.ofString name) id) (hty : typeOf (.builtin id) = pure (.type "method_descriptor")) (hm : MtR X id r) (hg : ImpM X.K r g)
    (ho : PE X o (tVar i)) (ha : VA X W m (e :: es) f) (hbase : attributeBase o (Str.ofString name) X.env (eval o X.env) = eval o X.env := by rfl)
    (hfew : ((backTo cpos (starEach (e :: es) X.env)).all (fun x => !x.1) && (backToKw cpos (keywordEach [] X.env)).all (fun x => x.1.isSome)
      && decide ((e :: es).length + ([] : List Keyword).length + (if ([] : List Keyword).isEmpty then 0 else 1) < 30)) = true := by rfl)
    (hline : (apos.endLine == cpos.line) = true := by rfl) (hs : starEach (e :: es) X.env = (false, eval e X.env) :: starEach es X.env := by rfl) (hplain : (backTo cpos (starEach es X.env)).any (·.1) = false := by rfl) :
    VE X W true (.Call (.Attribute o (Str.ofString name) apos) (e :: es) [] cpos) (dMt i g f) := by
  refine PE.imp (pe_bm PySem.F.plainAttrs_list slot hty hm ho ha hbase hfew hline hs hplain) fun σ H Q ⟨T, ρ, u, rep, hf, he⟩ => ?_
  unfold dMt at hf
  cases q : ρ[i]? with
  | none => rw [q] at hf; cases hf
  | some x =>
    rw [q] at hf
    cases x <;> simp only [isLst, Bool.false_eq_true, if_false, reduceCtorEq] at hf
    rename_i o xs0
    simp only [if_true] at hf
    obtain ⟨v, hv⟩ := rep.slot q (by intro z; cases z)
    obtain ⟨a, vs0, rfl, hq, _, _⟩ := RepT.readL (rep.take q hv).rep
    refine ⟨.ref a, hv, .inl ⟨rfl, _, .inl (.inl hq)⟩, ?_⟩
    refine runA rep hf he fun ds ρ1 vs H1 h1 s1 l1 r1 => ?_
    obtain ⟨xs, d, xs', e1, e2, rfl⟩ := mutL_inv h1
    exact mut_rep hg r1 e1 hv l1 e2 fun u H' r2 => he u H' (fun z => by cases z) r2
def gApp (xs ds : List D) : Option (D × List D) := match ds with
  | [d] => if xs.length < sizeLine then some (.non, xs ++ [d]) else none
  | _ => none
theorem impApp : ImpM K rAppend gApp := by
  intro H L xs xs' ds vs d a Q e l r h
  unfold gApp at e
  split at e
  · rename_i y
    split at e
    · rename_i z
      cases e
      obtain ⟨v, rfl⟩ := len1 l
      have r0 : RepT K H ((.lst true xs, .ref a) :: (y, v) :: L) := r
      obtain ⟨ws, hq, lw, r2⟩ := RepT.push (r0.perm (.swap _ _ _))
      exact ⟨a, ws, v, rfl, rfl, hq, by omega, h _ _ (RepT.non r2)⟩
    · cases e
  · cases e
def gIns (xs ds : List D) : Option (D × List D) := match ds with
  | [.int i, d] => if xs.length < sizeLine ∧ 0 ≤ i ∧ in63 i then some (.non, xs.take i.toNat ++ [d] ++ xs.drop i.toNat) else none
  | _ => none
theorem impIns : ImpM K (fun x vs H Q => ∃ (l : Addr) (xs : List V) (i : Int) (y : V), x = .ref l ∧ vs = [.int i, y] ∧ H l = some (.lst xs) ∧ xs.length < sizeLine ∧ 0 ≤ i ∧ i < 2 ^ 63 ∧
    Q .non (upd H l (.lst (xs.take i.toNat ++ [y] ++ xs.drop i.toNat)))) gIns := by
  intro H L xs xs' ds vs d a Q e l r h
  unfold gIns at e
  split at e
  · rename_i i y
    split at e
    · rename_i z
      cases e
      obtain ⟨v, w, rfl⟩ := len2 l
      have r0 : RepT K H ((.lst true xs, .ref a) :: (.int i, v) :: (y, w) :: L) := r
      have r1 : RepT K H ((.int i, v) :: (.lst true xs, .ref a) :: (y, w) :: L) := r0.perm (.swap _ _ _)
      have ev := r1.eq_int
      subst ev
      obtain ⟨b, ws, eb, hq, lw, r2⟩ := r1.drop.openL
      cases eb
      refine ⟨a, ws, i, w, rfl, rfl, hq, by omega, z.2.1, z.2.2.hi, h _ _ (RepT.non (RepT.closeL (by simp [lw]) ?_))⟩
      refine r2.perm (List.Perm.cons _ ?_)
      have ez : xs.zip ws = (xs.take i.toNat).zip (ws.take i.toNat) ++ (xs.drop i.toNat).zip (ws.drop i.toNat) := by
        rw [← zip_app (by simp [lw]), List.take_append_drop, List.take_append_drop]
      rw [ez, zip_app (by simp [lw]), zip_app (by simp [lw])]
      rw [List.append_assoc, List.append_assoc, List.append_assoc]
      refine List.Perm.append_left _ ?_
      show ((xs.drop i.toNat).zip (ws.drop i.toNat) ++ ((y, w) :: L)).Perm ((y, w) :: ((xs.drop i.toNat).zip (ws.drop i.toNat) ++ L))
      exact List.perm_middle
    · cases e
  · cases e
def gExt (xs ds : List D) : Option (D × List D) := match ds with
  | [.lst _ ys] => if xs.length + ys.length ≤ sizeLine then some (.non, xs ++ ys) else none
  | _ => none
theorem impExt : ImpM K rExtend gExt := by
  intro H L xs xs' ds vs d a Q e l r h
  unfold gExt at e
  split at e
  · rename_i o ys
    split at e
    · rename_i z
      cases e
      obtain ⟨v, rfl⟩ := len1 l
      have r0 : RepT K H ((.lst o ys, v) :: (.lst true xs, .ref a) :: L) := (show RepT K H ((.lst true xs, .ref a) :: (.lst o ys, v) :: L) from r).perm (.swap _ _ _)
      obtain ⟨b, zs, rfl, hb, lz, r1⟩ := r0.readL
      have r2 : RepT K H ((.lst true xs, .ref a) :: (ys.zip zs ++ L)) := r1.perm List.perm_middle
      obtain ⟨a', ws, ea, hq, lw, r3⟩ := r2.openL
      cases ea
      refine ⟨a, b, ws, zs, rfl, rfl, hq, hb, by omega, h _ _ (RepT.non (RepT.closeL (by simp [lw, lz]) ?_))⟩
      rw [zip_app lw, List.append_assoc]
      exact r3
    · cases e
  · cases e
def gRev (xs ds : List D) : Option (D × List D) := match ds with
  | [] => some (.non, xs.reverse)
  | _ => none
def keyD : D → Option Key
  | .int i => some (.inl i)
  | .str x => some (.inr x)
  | _ => none
def keysD : List D → Option (List Key)
  | [] => some []
  | d :: ds => match keyD d, keysD ds with
    | some k, some ks => some (k :: ks)
    | _, _ => none
theorem keyD_rep {d : D} {k : Key} {v : V} (e : keyD d = some k) (r : RepT K H ((d, v) :: L)) : v = kV k := by
  cases d <;> simp only [keyD, Option.some.injEq, reduceCtorEq] at e <;> subst e
  · exact r.eq_int
  · exact r.eq_str
theorem keysD_rep : ∀ {ds : List D} {ks : List Key} {vs : List V} {L : List (D × V)}, keysD ds = some ks → ds.length = vs.length → RepT K H (ds.zip vs ++ L) → vs = ks.map kV
  | [], ks, vs, L, e, l, r => by
    rw [keysD] at e; cases e
    exact List.eq_nil_of_length_eq_zero l.symm
  | d :: ds, ks, [], L, e, l, r => by cases l
  | d :: ds, ks, v :: vs, L, e, l, r => by
    rw [keysD] at e
    cases e1 : keyD d with
    | none => rw [e1] at e; cases e
    | some k =>
      cases e2 : keysD ds with
      | none => rw [e1, e2] at e; cases e
      | some k2 =>
        rw [e1, e2] at e
        cases e
        have r1 : RepT K H ((d, v) :: (ds.zip vs ++ L)) := r
        rw [keyD_rep e1 r1, keysD_rep e2 (Nat.succ.inj l) r1.drop]; rfl
def look {κ α : Type} [DecidableEq κ] : List κ → List α → κ → Option α
  | k' :: ks, a :: as, k => if k' = k then some a else look ks as k
  | _, _, _ => none
def putL {κ α : Type} [DecidableEq κ] : List κ → List α → κ → α → List κ × List α
  | k' :: ks, a :: as, k, v => if k' = k then (k' :: ks, v :: as) else (k' :: (putL ks as k v).1, a :: (putL ks as k v).2)
  | _, _, k, v => ([k], [v])
section
variable {κ : Type} [DecidableEq κ]
theorem valV_look : ∀ (ks : List κ) (vs : List V) (k : κ), valV (ks.zip vs) k = look ks vs k
  | [], _, _ => by simp [look, valV]
  | _ :: _, [], _ => by simp [look, valV]
  | k' :: ks, v :: vs, k => by
    rw [List.zip_cons_cons, look]
    by_cases e : k' = k
    · rw [valV_pos (p := (k', v)) e, if_pos e]
    · rw [valV_neg (p := (k', v)) e, if_neg e, valV_look ks vs k]
theorem putL_keys {α : Type} : ∀ (ks : List κ) (as : List α) (k : κ) (a : α), ks.length = as.length → (putL ks as k a).1 = if k ∈ ks then ks else ks ++ [k]
  | [], [], k, a, _ => by simp [putL]
  | [], _ :: _, k, a, h => by cases h
  | _ :: _, [], k, a, h => by cases h
  | k' :: ks, x :: as, k, a, h => by
    rw [putL]
    by_cases e : k' = k
    · rw [if_pos e, if_pos (by simp [e])]
    · have e' : ¬ k = k' := fun z => e z.symm
      rw [if_neg e]
      show k' :: (putL ks as k a).1 = _
      rw [putL_keys ks as k a (Nat.succ.inj h)]
      by_cases hm : k ∈ ks
      · rw [if_pos hm, if_pos (List.mem_cons_of_mem _ hm)]
      · rw [if_neg hm, if_neg (by simp [e', hm])]; rfl
theorem putL_len {α : Type} : ∀ (ks : List κ) (as : List α) (k : κ) (a : α), ks.length = as.length → (putL ks as k a).1.length = (putL ks as k a).2.length
  | [], [], k, a, _ => by simp [putL]
  | [], _ :: _, k, a, h => by cases h
  | _ :: _, [], k, a, h => by cases h
  | k' :: ks, x :: as, k, a, h => by
    rw [putL]
    by_cases e : k' = k
    · rw [if_pos e]; exact h
    · rw [if_neg e]
      show ((putL ks as k a).1.length + 1) = ((putL ks as k a).2.length + 1)
      rw [putL_len ks as k a (Nat.succ.inj h)]
theorem putK_putL : ∀ (ks : List κ) (vs : List V) (k : κ) (v : V), ks.length = vs.length → ks.Nodup → putK (ks.zip vs) k v = (putL ks vs k v).1.zip (putL ks vs k v).2
  | [], [], k, v, _, _ => by simp [putL, putK]
  | [], _ :: _, k, v, h, _ => by cases h
  | _ :: _, [], k, v, h, _ => by cases h
  | k' :: ks, x :: vs, k, v, h, nd => by
    obtain ⟨n1, n2⟩ := List.nodup_cons.mp nd
    have ih := putK_putL ks vs k v (Nat.succ.inj h) n2
    rw [putL]
    by_cases e : k' = k
    · subst e
      rw [if_pos rfl]
      unfold putK
      rw [if_pos (by simp)]
      show (if k' = k' then (k', v) else (k', x)) :: _ = (k', v) :: ks.zip vs
      rw [if_pos rfl]
      congr 1
      have : ∀ p ∈ ks.zip vs, (if p.1 = k' then (p.1, v) else p) = p := fun p hp => by
        rw [if_neg]
        intro z
        exact n1 (z ▸ (List.of_mem_zip (a := p.1) (b := p.2) hp).1)
      show List.map (fun kv : κ × V => if kv.1 = k' then (kv.1, v) else kv) (ks.zip vs) = ks.zip vs
      rw [List.map_congr_left this]
      simp
    · rw [if_neg e]
      show _ = (k', x) :: (putL ks vs k v).1.zip (putL ks vs k v).2
      rw [← ih]
      unfold putK
      have ea : ((k' :: ks).zip (x :: vs)).any (fun kv => decide (kv.1 = k)) = (ks.zip vs).any fun kv => decide (kv.1 = k) := by simp [e]
      rw [ea]
      by_cases hm : ((ks.zip vs).any fun kv => decide (kv.1 = k)) = true
      · rw [if_pos hm, if_pos hm]
        show (if k' = k then (k', v) else (k', x)) :: _ = _
        rw [if_neg e]
        rfl
      · rw [if_neg hm, if_neg hm]; rfl
theorem putL_nodup {α : Type} {ks : List κ} {as : List α} {k : κ} {a : α} (h : ks.length = as.length) (nd : ks.Nodup) : (putL ks as k a).1.Nodup := by
  rw [putL_keys ks as k a h]
  by_cases hm : k ∈ ks
  · rw [if_pos hm]; exact nd
  · rw [if_neg hm]
    exact List.nodup_append.mpr ⟨nd, by simp, fun a ha b hb => by
      rw [List.mem_singleton] at hb
      subst hb
      intro z
      subst z
      exact hm ha⟩
theorem look_pair {ks : List κ} : ∀ {ds : List D} {vs : List V} {k : κ} {d : D}, ks.length = ds.length → ds.length = vs.length → look ks ds k = some d → ∃ (j : Nat) (v : V), ds[j]? = some d ∧ vs[j]? = some v ∧ look ks vs k = some v := by
  induction ks with
  | nil => intro ds vs k d h1 h2 e; cases ds <;> simp [look] at e
  | cons k' ks ih =>
    intro ds vs k d h1 h2 e
    cases ds with
    | nil => cases h1
    | cons x ds =>
      cases vs with
      | nil => cases h2
      | cons v vs =>
        rw [look] at e
        by_cases ek : k' = k
        · rw [if_pos ek] at e
          cases e
          exact ⟨0, v, rfl, rfl, by rw [look, if_pos ek]⟩
        · rw [if_neg ek] at e
          obtain ⟨j, w, h3, h4, h5⟩ := ih (Nat.succ.inj h1) (Nat.succ.inj h2) e
          exact ⟨j + 1, w, h3, h4, by rw [look, if_neg ek]; exact h5⟩
theorem look_none {ks : List κ} : ∀ {ds : List D} {vs : List V} {k : κ}, ks.length = ds.length → ds.length = vs.length → look ks ds k = none → look ks vs k = none := by
  induction ks with
  | nil => intro ds vs k h1 h2 e; simp [look]
  | cons k' ks ih =>
    intro ds vs k h1 h2 e
    cases ds with
    | nil => cases h1
    | cons x ds =>
      cases vs with
      | nil => cases h2
      | cons v vs =>
        rw [look] at e ⊢
        by_cases ek : k' = k
        · rw [if_pos ek] at e; cases e
        · rw [if_neg ek] at e ⊢
          exact ih (Nat.succ.inj h1) (Nat.succ.inj h2) e
theorem putL_perm {ks : List κ} {k : κ} {d : D} {v : V} : ∀ {ds : List D} {vs : List V}, ks.length = ds.length → ds.length = vs.length → (putL ks ds k d).1 = (putL ks vs k v).1 ∧ (putL ks ds k d).2.length = (putL ks vs k v).2.length ∧ ∃ R, ((d, v) :: ds.zip vs).Perm (R ++ (putL ks ds k d).2.zip (putL ks vs k v).2) := by
  induction ks with
  | nil =>
    intro ds vs h1 h2
    have e1 : ds = [] := List.eq_nil_of_length_eq_zero h1.symm
    subst e1
    have e2 : vs = [] := List.eq_nil_of_length_eq_zero h2.symm
    subst e2
    exact ⟨rfl, rfl, [], .refl _⟩
  | cons k' ks ih =>
    intro ds vs h1 h2
    cases ds with
    | nil => cases h1
    | cons x ds =>
      cases vs with
      | nil => cases h2
      | cons w vs =>
        rw [putL, putL]
        by_cases ek : k' = k
        · rw [if_pos ek, if_pos ek]
          exact ⟨rfl, h2, [(x, w)], .swap _ _ _⟩
        · rw [if_neg ek, if_neg ek]
          obtain ⟨i1, i2, R, p⟩ := ih (Nat.succ.inj h1) (Nat.succ.inj h2)
          refine ⟨?_, ?_, R, ?_⟩
          · show k' :: _ = k' :: _
            rw [i1]
          · show _ + 1 = _ + 1
            rw [i2]
          · show ((d, v) :: (x, w) :: ds.zip vs).Perm (R ++ ((x, w) :: (putL ks ds k d).2.zip (putL ks vs k v).2))
            exact ((List.Perm.swap _ _ _).trans (p.cons _)).trans List.perm_middle.symm
end
theorem RepT.openDT {ks : List (List Key)} {ds : List D} {v : V} (h : RepT K H ((.dT true ks ds, v) :: L)) : ∃ a vs, v = .ref a ∧ H a = some (.dT (ks.zip vs)) ∧ ks.length = ds.length ∧ ks.Nodup ∧ ds.length = vs.length ∧ RepT K H ((.hole, .ref a) :: (ds.zip vs ++ L)) := by
  obtain ⟨F, A, sF, nd, fr, A1, A2, rfl, h1, o⟩ := h
  rw [Ow] at h1
  obtain ⟨a, vs, A', rfl, q, n, l, rfl⟩ := h1
  refine ⟨a, vs, rfl, q, n.1, n.2, l.length, F, [a] ++ (A' ++ A2), sF, nd, fr, [a], A' ++ A2, rfl, ?_, l.toT.append o⟩
  rw [Ow]
  exact ⟨a, _, rfl, ⟨q, ⟨fun xs z => (by cases z), fun xs z => (by cases z)⟩⟩, rfl⟩
theorem RepT.closeDT {ks : List (List Key)} {ds : List D} {vs : List V} {a : Addr} (n1 : ks.length = ds.length) (n2 : ks.Nodup) (e : ds.length = vs.length) (h : RepT K H ((.hole, .ref a) :: (ds.zip vs ++ L))) : RepT K (upd H a (.dT (ks.zip vs))) ((.dT true ks ds, .ref a) :: L) := by
  obtain ⟨F, A, sF, nd, fr, A1, A2, rfl, h1, o⟩ := h
  rw [Ow] at h1
  obtain ⟨b, u, e1, q, rfl⟩ := h1
  cases e1
  obtain ⟨B1, B2, rfl, o1, o2⟩ := o.split
  have fa : F a = none := fr a (by simp)
  have na : a ∉ B1 ++ B2 := (List.nodup_cons.mp nd).1
  have k : ∀ b ∈ B1 ++ B2, upd H a (.dT (ks.zip vs)) b = H b := fun b hb => upd_ne (fun z => na (by rw [← z]; exact hb))
  refine ⟨F, (a :: B1) ++ B2, sF.upd fa (fun ps z => by rw [q.1] at z; exact q.2.2 _ (Option.some.inj z)), nd, fr, a :: B1, B2, rfl, ?_, o2.keep (Same.refl _) fun b hb => k b (List.mem_append_right _ hb)⟩
  · rw [Ow]
    exact ⟨a, vs, B1, rfl, upd_same, ⟨n1, n2⟩, (o1.toL e).keep (Same.refl _) _ _ _ fun b hb => k b (List.mem_append_left _ hb), rfl⟩
theorem RepT.openDK {ks : List Key} {ds : List D} {v : V} (h : RepT K H ((.dK true ks ds, v) :: L)) : ∃ a vs, v = .ref a ∧ H a = some (.dK (ks.zip vs)) ∧ ks.length = ds.length ∧ ks.Nodup ∧ ds.length = vs.length ∧ RepT K H ((.hole, .ref a) :: (ds.zip vs ++ L)) := by
  obtain ⟨F, A, sF, nd, fr, A1, A2, rfl, h1, o⟩ := h
  rw [Ow] at h1
  obtain ⟨a, vs, A', rfl, q, n, l, rfl⟩ := h1
  refine ⟨a, vs, rfl, q, n.1, n.2, l.length, F, [a] ++ (A' ++ A2), sF, nd, fr, [a], A' ++ A2, rfl, ?_, l.toT.append o⟩
  rw [Ow]
  exact ⟨a, _, rfl, ⟨q, ⟨fun xs z => (by cases z), fun xs z => (by cases z)⟩⟩, rfl⟩
theorem RepT.closeDK {ks : List Key} {ds : List D} {vs : List V} {a : Addr} (n1 : ks.length = ds.length) (n2 : ks.Nodup) (e : ds.length = vs.length) (h : RepT K H ((.hole, .ref a) :: (ds.zip vs ++ L))) : RepT K (upd H a (.dK (ks.zip vs))) ((.dK true ks ds, .ref a) :: L) := by
  obtain ⟨F, A, sF, nd, fr, A1, A2, rfl, h1, o⟩ := h
  rw [Ow] at h1
  obtain ⟨b, u, e1, q, rfl⟩ := h1
  cases e1
  obtain ⟨B1, B2, rfl, o1, o2⟩ := o.split
  have fa : F a = none := fr a (by simp)
  have na : a ∉ B1 ++ B2 := (List.nodup_cons.mp nd).1
  have k : ∀ b ∈ B1 ++ B2, upd H a (.dK (ks.zip vs)) b = H b := fun b hb => upd_ne (fun z => na (by rw [← z]; exact hb))
  refine ⟨F, (a :: B1) ++ B2, sF.upd fa (fun ps z => by rw [q.1] at z; exact q.2.2 _ (Option.some.inj z)), nd, fr, a :: B1, B2, rfl, ?_, o2.keep (Same.refl _) fun b hb => k b (List.mem_append_right _ hb)⟩
  · rw [Ow]
    exact ⟨a, vs, B1, rfl, upd_same, ⟨n1, n2⟩, (o1.toL e).keep (Same.refl _) _ _ _ fun b hb => k b (List.mem_append_left _ hb), rfl⟩
theorem RepT.putDT {ks : List (List Key)} {ds : List D} {k : List Key} {d : D} {v : V} {a : Addr} (h : RepT K H ((d, v) :: (.dT true ks ds, .ref a) :: L)) : ∃ vs, H a = some (.dT (ks.zip vs)) ∧ ks.length = ds.length ∧ ds.length = vs.length ∧ RepT K (upd H a (.dT (putK (ks.zip vs) k v))) ((.dT true (putL ks ds k d).1 (putL ks ds k d).2, .ref a) :: L) := by
  obtain ⟨a', vs, e, q, n1, n2, l, r⟩ := RepT.openDT (h.perm (.swap _ _ _))
  cases e
  obtain ⟨p1, p2, R, p⟩ := putL_perm (ks := ks) (k := k) (d := d) (v := v) n1 l
  refine ⟨vs, q, n1, l, ?_⟩
  rw [putK_putL ks vs k v (n1.trans l) n2, ← p1]
  refine RepT.closeDT (putL_len ks ds k d n1) (putL_nodup n1 n2) p2 ?_
  have r2 : RepT K H ((.hole, .ref a) :: (((d, v) :: ds.zip vs) ++ L)) := r.perm (List.Perm.cons _ List.perm_middle)
  have r3 : RepT K H ((.hole, .ref a) :: ((R ++ (putL ks ds k d).2.zip (putL ks vs k v).2) ++ L)) := r2.perm (List.Perm.cons _ (p.append_right L))
  have r4 : RepT K H (R ++ ((.hole, .ref a) :: ((putL ks ds k d).2.zip (putL ks vs k v).2 ++ L))) := r3.perm (by
    rw [List.append_assoc]
    exact List.perm_middle.symm)
  exact r4.dropL
theorem RepT.putDK {ks : List Key} {ds : List D} {k : Key} {d : D} {v : V} {a : Addr} (h : RepT K H ((d, v) :: (.dK true ks ds, .ref a) :: L)) : ∃ vs, H a = some (.dK (ks.zip vs)) ∧ ks.length = ds.length ∧ ds.length = vs.length ∧ RepT K (upd H a (.dK (putK (ks.zip vs) k v))) ((.dK true (putL ks ds k d).1 (putL ks ds k d).2, .ref a) :: L) := by
  obtain ⟨a', vs, e, q, n1, n2, l, r⟩ := RepT.openDK (h.perm (.swap _ _ _))
  cases e
  obtain ⟨p1, p2, R, p⟩ := putL_perm (ks := ks) (k := k) (d := d) (v := v) n1 l
  refine ⟨vs, q, n1, l, ?_⟩
  rw [putK_putL ks vs k v (n1.trans l) n2, ← p1]
  refine RepT.closeDK (putL_len ks ds k d n1) (putL_nodup n1 n2) p2 ?_
  have r2 : RepT K H ((.hole, .ref a) :: (((d, v) :: ds.zip vs) ++ L)) := r.perm (List.Perm.cons _ List.perm_middle)
  have r3 : RepT K H ((.hole, .ref a) :: ((R ++ (putL ks ds k d).2.zip (putL ks vs k v).2) ++ L)) := r2.perm (List.Perm.cons _ (p.append_right L))
  have r4 : RepT K H (R ++ ((.hole, .ref a) :: ((putL ks ds k d).2.zip (putL ks vs k v).2 ++ L))) := r3.perm (by
    rw [List.append_assoc]
    exact List.perm_middle.symm)
  exact r4.dropL
end
end VS
set_option Elab.async false
set_option linter.all false
set_option maxRecDepth 100000
set_option maxHeartbeats 4000000
set_option autoImplicit false
noncomputable section
namespace VS
open PySem PySem.Spec PyProof.Rows L2
section
variable {X : Cx} {W : WX} {K : PySem.W.Frag} {mg : Str → Option Value} {F H H1 : Hp} {T L : List (D × V)} {ρ ρ' : Env} {σ σ' σ'' : St} {m : Bool}
theorem RepT.newDT {p : Addr} (hp : H p = none) (h : RepT K H L) : RepT K (upd H p (.dT [])) ((.dT true [] [], .ref p) :: L) := by
  have h1 := RepT.newL (ds := []) (vs := []) rfl hp h
  obtain ⟨a, vs, e, _, _, r⟩ := h1.openL
  cases e
  have r2 : RepT K (upd H p (.lst [])) ((.hole, .ref p) :: (([] : List D).zip ([] : List V) ++ L)) := r
  have r3 := RepT.closeDT (ks := []) (ds := []) (vs := []) rfl List.nodup_nil rfl r2
  rw [upd_upd] at r3
  exact r3
theorem ve_dnewT {pos : Pos} : VE X W false (.Dict [] [] pos) (dC (.dT true [] [])) := by
  refine PE.imp pe_dnewT fun σ H Q ⟨T, ρ, u, rep, hf, he⟩ => ?_
  have : u = .ok (.dT true [] []) ρ := (Option.some.inj hf).symm
  subst this
  exact fun p hp => he _ _ (fun _ => Same.upd hp) ⟨rep.len, rep.nos, RepT.newDT hp rep.rep⟩
def lookD (x y : D) : Option D := match x with
  | .dK _ ks ds => match keyD y with
    | some k => look ks ds k
    | none => none
  | .dT _ ks ds => match y with
    | .tup es => match keysD es with
      | some k => look ks ds k
      | none => none
    | _ => none
  | .lK ks ds => match keyD y with
    | some k => look ks ds k
    | none => none
  | .lT ks ds => match y with
    | .tup es => match keysD es with
      | some k => look ks ds k
      | none => none
    | _ => none
  | _ => none
def hasD (x y : D) : Option Bool := match x with
  | .dK _ ks ds => match keyD y with
    | some k => some (look ks ds k).isSome
    | none => none
  | .dT _ ks ds => match y with
    | .tup es => match keysD es with
      | some k => some (look ks ds k).isSome
      | none => none
    | _ => none
  | .lK ks ds => match keyD y with
    | some k => some (look ks ds k).isSome
    | none => none
  | .lT ks ds => match y with
    | .tup es => match keysD es with
      | some k => some (look ks ds k).isSome
      | none => none
    | _ => none
  | _ => none
theorem OwL.at {ds : List D} {vs : List V} {A : List Addr} {j : Nat} {d : D} {u : V} (h : OwL K F H ds vs A) (e : ds[j]? = some d) (z : fz d = true) (e' : vs[j]? = some u) : Ow K F H d u [] := by
  obtain ⟨w, hw, o⟩ := h.item e z
  rw [hw] at e'
  cases e'
  exact o
theorem RepT.lK {ks : List Key} {ds : List D} {v : V} (h : RepT K H ((.lK ks ds, v) :: L)) : ∃ a vs o, v = .ref a ∧ H a = some (.frz o (.dK (ks.zip vs))) ∧ ks.length = ds.length ∧ ks.Nodup ∧ ds.length = vs.length := by
  obtain ⟨F, A, sF, nd, fr, A1, A2, rfl, h1, o2⟩ := h
  rw [Ow] at h1
  obtain ⟨a, vs, rfl, ⟨o, q⟩, n, l⟩ := h1
  exact ⟨a, vs, o, rfl, sF _ _ q, n.1, n.2, l.length⟩
theorem RepT.lT {ks : List (List Key)} {ds : List D} {v : V} (h : RepT K H ((.lT ks ds, v) :: L)) : ∃ a vs o, v = .ref a ∧ H a = some (.frz o (.dT (ks.zip vs))) ∧ ks.length = ds.length ∧ ks.Nodup ∧ ds.length = vs.length := by
  obtain ⟨F, A, sF, nd, fr, A1, A2, rfl, h1, o2⟩ := h
  rw [Ow] at h1
  obtain ⟨a, vs, rfl, ⟨o, q⟩, n, l⟩ := h1
  exact ⟨a, vs, o, rfl, sF _ _ q, n.1, n.2, l.length⟩
theorem dget_rep {x y : D} {v w : V} (r : RepT K H ((y, w) :: (x, v) :: L)) :
    (∀ d, lookD x y = some d → fz d = true → ∃ a u, v = .ref a ∧ DGet H a w (some u) ∧ RepT K H ((d, u) :: (y, w) :: (x, v) :: L)) ∧ (∀ b, hasD x y = some b → ∃ a o, v = .ref a ∧ DGet H a w o ∧ o.isSome = b) := by
  cases x with
  | dK o ks ds =>
    have main : ∀ k, keyD y = some k → ∃ a vs, v = .ref a ∧ H a = some (.dK (ks.zip vs)) ∧ ks.length = ds.length ∧ ds.length = vs.length ∧ w = kV k := fun k ek => by
      have rx := r.drop
      obtain ⟨a, vs, rfl, q, n1, _, l, _⟩ := rx.dK
      exact ⟨a, vs, rfl, q, n1, l, keyD_rep ek r⟩
    constructor
    · intro d e z
      simp only [lookD] at e
      cases ek : keyD y with
      | none => rw [ek] at e; cases e
      | some k =>
        rw [ek] at e
        have r0 := r
        obtain ⟨F, A, sF, nd, fr, A1, A2, rfl, hy, A3, A4, rfl, hx, o2⟩ := r
        have e : look ks ds k = some d := e
        have hx' := hx
        have fin : ∀ u, Ow K F H d u [] → RepT K H ((d, u) :: (y, w) :: (.dK o ks ds, v) :: L) := fun u hu => ⟨F, [] ++ (A1 ++ (A3 ++ A4)), sF, nd, fr, [], _, rfl, hu, A1, _, rfl, hy, A3, A4, rfl, hx, o2⟩
        have wk := keyD_rep ek r0
        cases o <;> rw [Ow] at hx'
        · obtain ⟨a, vs, rfl, q, n, l⟩ := hx'
          obtain ⟨j, u, h1, h2, h3⟩ := look_pair n.1 l.length e
          exact ⟨a, u, rfl, .inl ⟨_, k, .inl (sF _ _ q), wk, by rw [valV_look]; exact h3.symm⟩, fin u (l.at h1 z h2)⟩
        · obtain ⟨a, vs, A', rfl, q, n, l, rfl⟩ := hx'
          obtain ⟨j, u, h1, h2, h3⟩ := look_pair n.1 l.length e
          exact ⟨a, u, rfl, .inl ⟨_, k, .inl q, wk, by rw [valV_look]; exact h3.symm⟩, fin u (l.at h1 z h2)⟩
    · intro b e
      simp only [hasD] at e
      cases ek : keyD y with
      | none => rw [ek] at e; cases e
      | some k =>
        rw [ek] at e
        have e : (look ks ds k).isSome = b := Option.some.inj e
        obtain ⟨a, vs, rfl, q, n1, l, wk⟩ := main k ek
        refine ⟨a, look ks vs k, rfl, .inl ⟨_, k, .inl q, wk, by rw [valV_look]⟩, ?_⟩
        rw [← e]
        cases q2 : look ks ds k with
        | none => rw [look_none n1 l q2]; rfl
        | some d =>
          obtain ⟨j, u, _, _, h3⟩ := look_pair n1 l q2
          rw [h3]; rfl
  | dT o ks ds =>
    have main : ∀ es k, y = .tup es → keysD es = some k → ∃ b, w = .ref b ∧ H b = some (.tup (k.map kV)) := fun es k ey ek => by
      subst ey
      obtain ⟨b, vs, rfl, q, l, r2⟩ := r.openT
      refine ⟨b, rfl, ?_⟩
      rw [← keysD_rep ek l r2]; exact q
    constructor
    · intro d e z
      simp only [lookD] at e
      cases y with
      | tup es =>
        simp only at e
        cases ek : keysD es with
        | none => rw [ek] at e; cases e
        | some k =>
          rw [ek] at e
          obtain ⟨b, rfl, hb⟩ := main es k rfl ek
          obtain ⟨F, A, sF, nd, fr, A1, A2, rfl, hy, A3, A4, rfl, hx, o2⟩ := r
          have e : look ks ds k = some d := e
          have hx' := hx
          have fin : ∀ u, Ow K F H d u [] → RepT K H ((d, u) :: (.tup es, .ref b) :: (.dT o ks ds, v) :: L) := fun u hu => ⟨F, [] ++ (A1 ++ (A3 ++ A4)), sF, nd, fr, [], _, rfl, hu, A1, _, rfl, hy, A3, A4, rfl, hx, o2⟩
          cases o <;> rw [Ow] at hx'
          · obtain ⟨a, vs, rfl, q, n, l⟩ := hx'
            obtain ⟨j, u, h1, h2, h3⟩ := look_pair n.1 l.length e
            exact ⟨a, u, rfl, .inr ⟨_, k, b, .inl (sF _ _ q), rfl, hb, by rw [valV_look]; exact h3.symm⟩, fin u (l.at h1 z h2)⟩
          · obtain ⟨a, vs, A', rfl, q, n, l, rfl⟩ := hx'
            obtain ⟨j, u, h1, h2, h3⟩ := look_pair n.1 l.length e
            exact ⟨a, u, rfl, .inr ⟨_, k, b, .inl q, rfl, hb, by rw [valV_look]; exact h3.symm⟩, fin u (l.at h1 z h2)⟩
      | _ => cases e
    · intro bb e
      simp only [hasD] at e
      cases y with
      | tup es =>
        simp only at e
        cases ek : keysD es with
        | none => rw [ek] at e; cases e
        | some k =>
          rw [ek] at e
          have e : (look ks ds k).isSome = bb := Option.some.inj e
          obtain ⟨b, rfl, hb⟩ := main es k rfl ek
          obtain ⟨a, vs, rfl, q, n1, _, l, _⟩ := r.drop.dT
          refine ⟨a, look ks vs k, rfl, .inr ⟨_, k, b, .inl q, rfl, hb, by rw [valV_look]⟩, ?_⟩
          rw [← e]
          cases q2 : look ks ds k with
          | none => rw [look_none n1 l q2]; rfl
          | some d =>
            obtain ⟨j, u, _, _, h3⟩ := look_pair n1 l q2
            rw [h3]; rfl
      | _ => cases e
  | lK ks ds =>
    have main : ∀ k, keyD y = some k → ∃ a vs o, v = .ref a ∧ H a = some (.frz o (.dK (ks.zip vs))) ∧ ks.length = ds.length ∧ ds.length = vs.length ∧ w = kV k := fun k ek => by
      have rx := r.drop
      obtain ⟨a, vs, o, rfl, q, n1, _, l⟩ := rx.lK
      exact ⟨a, vs, o, rfl, q, n1, l, keyD_rep ek r⟩
    constructor
    · intro d e z
      simp only [lookD] at e
      cases ek : keyD y with
      | none => rw [ek] at e; cases e
      | some k =>
        rw [ek] at e
        have r0 := r
        obtain ⟨F, A, sF, nd, fr, A1, A2, rfl, hy, A3, A4, rfl, hx, o2⟩ := r
        have e : look ks ds k = some d := e
        have hx' := hx
        have fin : ∀ u, Ow K F H d u [] → RepT K H ((d, u) :: (y, w) :: (.lK ks ds, v) :: L) := fun u hu => ⟨F, [] ++ (A1 ++ (A3 ++ A4)), sF, nd, fr, [], _, rfl, hu, A1, _, rfl, hy, A3, A4, rfl, hx, o2⟩
        have wk := keyD_rep ek r0
        rw [Ow] at hx'
        obtain ⟨a, vs, rfl, ⟨o, q⟩, n, l⟩ := hx'
        obtain ⟨j, u, h1, h2, h3⟩ := look_pair n.1 l.length e
        exact ⟨a, u, rfl, .inl ⟨_, k, .inr ⟨o, sF _ _ q⟩, wk, by rw [valV_look]; exact h3.symm⟩, fin u (l.at h1 z h2)⟩
    · intro b e
      simp only [hasD] at e
      cases ek : keyD y with
      | none => rw [ek] at e; cases e
      | some k =>
        rw [ek] at e
        have e : (look ks ds k).isSome = b := Option.some.inj e
        obtain ⟨a, vs, o, rfl, q, n1, l, wk⟩ := main k ek
        refine ⟨a, look ks vs k, rfl, .inl ⟨_, k, .inr ⟨o, q⟩, wk, by rw [valV_look]⟩, ?_⟩
        rw [← e]
        cases q2 : look ks ds k with
        | none => rw [look_none n1 l q2]; rfl
        | some d =>
          obtain ⟨j, u, _, _, h3⟩ := look_pair n1 l q2
          rw [h3]; rfl
  | lT ks ds =>
    have main : ∀ es k, y = .tup es → keysD es = some k → ∃ b, w = .ref b ∧ H b = some (.tup (k.map kV)) := fun es k ey ek => by
      subst ey
      obtain ⟨b, vs, rfl, q, l, r2⟩ := r.openT
      refine ⟨b, rfl, ?_⟩
      rw [← keysD_rep ek l r2]; exact q
    constructor
    · intro d e z
      simp only [lookD] at e
      cases y with
      | tup es =>
        simp only at e
        cases ek : keysD es with
        | none => rw [ek] at e; cases e
        | some k =>
          rw [ek] at e
          obtain ⟨b, rfl, hb⟩ := main es k rfl ek
          obtain ⟨F, A, sF, nd, fr, A1, A2, rfl, hy, A3, A4, rfl, hx, o2⟩ := r
          have e : look ks ds k = some d := e
          have hx' := hx
          have fin : ∀ u, Ow K F H d u [] → RepT K H ((d, u) :: (.tup es, .ref b) :: (.lT ks ds, v) :: L) := fun u hu => ⟨F, [] ++ (A1 ++ (A3 ++ A4)), sF, nd, fr, [], _, rfl, hu, A1, _, rfl, hy, A3, A4, rfl, hx, o2⟩
          rw [Ow] at hx'
          obtain ⟨a, vs, rfl, ⟨o, q⟩, n, l⟩ := hx'
          obtain ⟨j, u, h1, h2, h3⟩ := look_pair n.1 l.length e
          exact ⟨a, u, rfl, .inr ⟨_, k, b, .inr ⟨o, sF _ _ q⟩, rfl, hb, by rw [valV_look]; exact h3.symm⟩, fin u (l.at h1 z h2)⟩
      | _ => cases e
    · intro bb e
      simp only [hasD] at e
      cases y with
      | tup es =>
        simp only at e
        cases ek : keysD es with
        | none => rw [ek] at e; cases e
        | some k =>
          rw [ek] at e
          have e : (look ks ds k).isSome = bb := Option.some.inj e
          obtain ⟨b, rfl, hb⟩ := main es k rfl ek
          obtain ⟨a, vs, o, rfl, q, n1, _, l⟩ := r.drop.lT
          refine ⟨a, look ks vs k, rfl, .inr ⟨_, k, b, .inr ⟨o, q⟩, rfl, hb, by rw [valV_look]⟩, ?_⟩
          rw [← e]
          cases q2 : look ks ds k with
          | none => rw [look_none n1 l q2]; rfl
          | some d =>
            obtain ⟨j, u, _, _, h3⟩ := look_pair n1 l q2
            rw [h3]; rfl
      | _ => cases e
  | _ => exact ⟨fun d e => (by cases e), fun b e => (by cases e)⟩
def getS (i : Nat) (y : D) : M D := fun ρ => match lookD (ρ.getD i .unk) y with
  | some d => if fz d = true then some (.ok d ρ) else none
  | none => none
def dGetS (i : Nat) (f : M D) : M D := fun ρ0 => match ρ0[i]? with
  | none => none
  | some .unk => none
  | some _ => bindM f (getS i) ρ0
theorem slot_perm {i : Nat} {x : D} {v : V} (e : ρ[i]? = some x) (hv : σ[i]? = some (some v)) : (T ++ SL ρ σ).Perm ((x, v) :: (T ++ (SL ρ σ).eraseIdx i)) := ((perm_erase (SL_get e hv)).append_left T).trans List.perm_middle
theorem getD_at {i : Nat} (h : i < ρ.length) : ρ[i]? = some (ρ.getD i .unk) := by
  rw [List.getD_eq_getElem?_getD, List.getElem?_eq_getElem h]; rfl
theorem ve_getS {a b : Expr} {i : Nat} {f : M D} {pos : Pos} (hu : X.A.units + 1 < cLine) (ha : PE X a (tVar i)) (hb : VE X W m b f) (hs : NoSl b := by exact fun _ _ => rfl) : VE X W m (.Subscript a b pos) (dGetS i f) := by
  refine PE.imp (pe_dget hu ha hb hs) fun σ H Q ⟨T, ρ, u, rep, hf, he⟩ => ?_
  unfold dGetS at hf
  cases q : ρ[i]? with
  | none => rw [q] at hf; cases hf
  | some x0 =>
    have n : x0 ≠ .unk := fun e => by rw [q, e] at hf; cases hf
    obtain ⟨v, hv⟩ := rep.slot q n
    refine ⟨v, hv, ?_⟩
    rw [q] at hf
    have hf2 : bindM f (getS i) ρ = some u := by
      cases x0 <;> first | exact hf | exact absurd rfl n
    refine run1 rep hf2 he fun y ρ1 w H1 h1 s1 r1 => ?_
    unfold getS at h1
    split at h1
    · rename_i d ed
      split at h1
      · rename_i z
        have : u = .ok d ρ1 := (Option.some.inj h1).symm
        subst this
        have hi : i < ρ1.length := by rw [r1.len]; exact (List.getElem?_eq_some_iff.mp hv).1
        have p := slot_perm (T := T) (getD_at hi) hv
        have r2 : RepT X.K H1 ((y, w) :: (ρ1.getD i .unk, v) :: (T ++ (SL ρ1 σ).eraseIdx i)) := r1.rep.perm (p.cons _)
        obtain ⟨a, u, e1, g, r3⟩ := (dget_rep r2).1 d ed z
        refine ⟨a, u, e1, g, he u H1 s1 ⟨r1.len, r1.nos, ?_⟩⟩
        have r4 : RepT X.K H1 ((y, w) :: (d, u) :: (ρ1.getD i .unk, v) :: (T ++ (SL ρ1 σ).eraseIdx i)) := r3.perm (.swap _ _ _)
        exact r4.drop.perm (p.symm.cons _)
      · cases h1
    · cases h1
def isDct : Option D → Bool
  | some (.dK _ _ _) => true
  | some (.dT _ _ _) => true
  | some (.lK _ _) => true
  | some (.lT _ _) => true
  | _ => false
def dAt (i : Nat) (f : M D) : M D := fun ρ0 => if isDct ρ0[i]? = true then dGetS i f ρ0 else dIxS i f ρ0
theorem ve_at {a b : Expr} {i : Nat} {f : M D} {pos : Pos} (hu : X.A.units + 1 < cLine) (ha : PE X a (tVar i)) (hb : VE X W m b f) (hs : PlainIx b := by exact fun _ _ => rfl) : VE X W m (.Subscript a b pos) (dAt i f) := by
  refine PE.imp (PE.orr (ve_getS (W := W) hu ha hb hs) (ve_ixS (W := W) ha hb hs)) fun σ H Q ⟨T, ρ, u, rep, hf, he⟩ => ?_
  unfold dAt at hf
  split at hf
  · exact .inl ⟨T, ρ, u, rep, hf, he⟩
  · exact .inr ⟨T, ρ, u, rep, hf, he⟩
theorem PS.orr {st : Stmt} {t t' : TS} (h : PS X st t) (h' : PS X st t') : PS X st (fun E σ H => t E σ H ∨ t' E σ H) := ⟨fun pins s σ H E I q => q.elim (h.run pins s σ H E I) (h'.run pins s σ H E I)⟩
def putAt (x y d : D) : Option D := match x with
  | .lst true xs => match y with
    | .int n => (ixN xs.length n).map fun j => .lst true (xs.set j d)
    | _ => none
  | .dK true ks ds => match keyD y with
    | some k => if ks.length < sizeLine then some (.dK true (putL ks ds k d).1 (putL ks ds k d).2) else none
    | none => none
  | .dT true ks ds => match y with
    | .tup es => match keysD es with
      | some k => if ks.length < sizeLine then some (.dT true (putL ks ds k d).1 (putL ks ds k d).2) else none
      | none => none
    | _ => none
  | _ => none
def putS (i : Nat) (d y : D) : MS := fun ρ => match putAt (ρ.getD i .unk) y d with
  | some x => some (.nx, ρ.set i x)
  | none => none
def dPut (i : Nat) (fk fe : M D) : MS := bindS fe fun d ρ1 => match ρ1[i]? with
  | none => none
  | some .unk => none
  | some _ => bindS fk (putS i d) ρ1
theorem set_rep {xs : List D} {vs : List V} {j : Nat} {d x : D} {v w : V} (hx : xs[j]? = some x) (hw : vs[j]? = some w) : ((d, v) :: xs.zip vs).Perm ((x, w) :: (xs.set j d).zip (vs.set j v)) := by
  have e : (xs.set j d).zip (vs.set j v) = (xs.zip vs).set j (d, v) := by
    clear hx hw
    induction xs generalizing vs j with
    | nil => simp
    | cons a xs ih =>
      cases vs with
      | nil => simp
      | cons b vs =>
        cases j with
        | zero => rfl
        | succ j => simp [ih]
  rw [e]
  exact perm_set (d, v) (zip_take hx hw)
theorem put_rep {x y d x' : D} {v w u : V} (e : putAt x y d = some x') (r : RepT K H ((y, w) :: (x, v) :: (d, u) :: L)) :
    (∃ a xs j k, v = .ref a ∧ w = .int k ∧ H a = some (.lst xs) ∧ ixN xs.length k = some j ∧ RepT K (upd H a (.lst (xs.set j u))) ((x', v) :: L)) ∨ (∃ a H', v = .ref a ∧ DPut H a w u H' ∧ RepT K H' ((x', v) :: L)) := by
  have rswap : RepT K H ((d, u) :: (x, v) :: L) := r.drop.perm (.swap _ _ _)
  cases x with
  | lst o xs =>
    cases o with
    | false => cases e
    | true =>
      cases y with
      | int n =>
        simp only [putAt] at e
        obtain ⟨j, ej, rfl⟩ := Option.map_eq_some_iff.mp e
        have ew := r.eq_int
        subst ew
        obtain ⟨a, vs, rfl, hq, l, r2⟩ := RepT.openL (r.drop)
        have hj := (ixN_seq ej).2.1
        obtain ⟨w, hw⟩ := get_len l (List.getElem?_eq_getElem hj)
        refine .inl ⟨a, vs, j, n, rfl, rfl, hq, by rw [← l]; exact ej, RepT.closeL (by simp [l]) ?_⟩
        have r3 : RepT K H ((.hole, .ref a) :: (((d, u) :: xs.zip vs) ++ L)) := r2.perm (List.Perm.cons _ List.perm_middle)
        have r4 : RepT K H ((.hole, .ref a) :: (xs[j], w) :: ((xs.set j d).zip (vs.set j u) ++ L)) := r3.perm (List.Perm.cons _ ((set_rep (List.getElem?_eq_getElem hj) hw).append_right L))
        exact (r4.perm (.swap _ _ _)).drop
      | _ => cases e
  | dK o ks ds =>
    cases o with
    | false => cases e
    | true =>
      simp only [putAt] at e
      cases ek : keyD y with
      | none => rw [ek] at e; cases e
      | some k =>
        rw [ek] at e
        simp only at e
        split at e
        · rename_i z
          cases e
          have wk := keyD_rep ek r
          have rx := r.drop.dK
          obtain ⟨a, _, rfl, _⟩ := rx
          obtain ⟨vs, hq, n1, l, r2⟩ := RepT.putDK (k := k) rswap
          exact .inr ⟨a, _, rfl, .inl ⟨_, k, hq, wk, by rw [List.length_zip]; omega, rfl⟩, r2⟩
        · cases e
  | dT o ks ds =>
    cases o with
    | false => cases e
    | true =>
      cases y with
      | tup es =>
        simp only [putAt] at e
        cases ek : keysD es with
        | none => rw [ek] at e; cases e
        | some k =>
          rw [ek] at e
          simp only at e
          split at e
          · rename_i z
            cases e
            obtain ⟨b, bs, rfl, hb, lb, rb⟩ := r.openT
            have wk := keysD_rep ek lb rb
            subst wk
            obtain ⟨a, _, rfl, _⟩ := r.drop.dT
            obtain ⟨vs, hq, n1, l, r2⟩ := RepT.putDT (k := k) rswap
            exact .inr ⟨a, _, rfl, .inr ⟨_, k, b, hq, rfl, hb, by rw [List.length_zip]; omega, rfl⟩, r2⟩
          · cases e
      | _ => cases e
  | _ => cases e
theorem vs_put {o k value : Expr} {i : Nat} {fk fe : M D} {mk me : Bool} {pos pos' : Pos} (hu : X.A.units + 1 < cLine) (ho : PE X o (tVar i)) (hk : VE X W mk k fk) (hv : VE X W me value fe) (hs : swapsWith value (some (.Subscript o k pos')) pos.line X.env = pure false := by rfl)
    (hs1 : swapsWithSole [.Subscript o k pos'] value pos.line X.env = pure false := by rfl) (hw : swappedStores [.Subscript o k pos'] value X.env = pure none := by rfl) (h1 : (assignEach [.Subscript o k pos'] X.env).map (·.2) = [assign (.Subscript o k pos') X.env] := by rfl)
    (ha : ∀ v, assign (.Subscript o k pos') X.env v = (do
      let ov ← holding [v] (eval o X.env)
      let iv ← holding [v, ov] (eval k X.env)
      standAt pos'
      holding [v, ov, iv] (setItem ov iv v)
      release [v, ov, iv] []) := by intro _; rfl) : VSt X W [] (.Assign [.Subscript o k pos'] value pos) (dPut i fk fe) := by
  refine PS.imp (PS.orr (ps_asg hv (pg_sub ho hk set_list ha) hs1 hw h1) (ps_dput hu ho hk hv hs)) fun σ H E ⟨T, ρ, fl, ρ', rep, hf, he⟩ => ?_
  unfold dPut bindS at hf
  have fin : ∀ {x y d : D} {v w u : V} {H1 : Hp} {ρ1 : Env}, Rep X.K H1 ((y, w) :: (d, u) :: T) ρ1 σ → σ[i]? = some (some v) → ρ1.getD i .unk = x → (∃ x', putAt x y d = some x' ∧ fl = .nx ∧ ρ' = ρ1.set i x') →
      (∃ a xs j k, v = .ref a ∧ w = .int k ∧ H1 a = some (.lst xs) ∧ ixN xs.length k = some j ∧ E.nx σ (upd H1 a (.lst (xs.set j u)))) ∨ (∃ a H', v = .ref a ∧ DPut H1 a w u H' ∧ E.nx σ H') := by
    intro x y d v w u H1 ρ1 r1 hv hx ⟨x', e, e1, e2⟩
    subst e1 e2
    have hi : i < ρ1.length := by rw [r1.len]; exact (List.getElem?_eq_some_iff.mp hv).1
    have r2 := r1.take (getD_at hi) hv
    rw [hx] at r2
    have r3 : RepT X.K H1 ((y, w) :: (x, v) :: (d, u) :: (T ++ SL (ρ1.set i .unk) σ)) := r2.rep.perm (.swap _ _ _)
    have close : ∀ {H2 : Hp}, RepT X.K H2 ((x', v) :: (T ++ SL (ρ1.set i .unk) σ)) → E.nx σ H2 := fun {H2} rr => by
      have r4 : Rep X.K H2 ((x', v) :: T) (ρ1.set i .unk) σ := ⟨r2.len, r2.nos, rr⟩
      have r5 := r4.put hv
      rw [List.set_set] at r5
      exact he σ H2 Kept.refl r5
    rcases put_rep e r3 with ⟨a, xs, j, k, h1, h2, h3, h4, h5⟩ | ⟨a, H', h1, h2, h3⟩
    · exact .inl ⟨a, xs, j, k, h1, h2, h3, h4, close h5⟩
    · exact .inr ⟨a, H', h1, h2, close h3⟩
  cases qe : fe ρ with
  | none => rw [qe] at hf; cases hf
  | some re =>
    rw [qe] at hf
    cases re with
    | ex x ρ1 =>
      have : (Fl.ex x, ρ1) = (fl, ρ') := Option.some.inj hf
      injection this with e1 e2
      subst e1 e2
      exact .inl ⟨T, ρ, _, rep, qe, fun cls dd H' xr r => he cls dd σ H' Kept.refl xr r⟩
    | ok d ρ1 =>
      simp only at hf
      cases q : ρ1[i]? with
      | none => rw [q] at hf; cases hf
      | some x0 =>
        have n : x0 ≠ .unk := fun e => by rw [q, e] at hf; cases hf
        rw [q] at hf
        have h2 : bindS fk (putS i d) ρ1 = some (fl, ρ') := by
          cases x0 <;> first | exact hf | exact absurd rfl n
        unfold bindS at h2
        cases qk : fk ρ1 with
        | none => rw [qk] at h2; cases h2
        | some rk =>
          rw [qk] at h2
          cases rk with
          | ex x ρ2 =>
            have : (Fl.ex x, ρ2) = (fl, ρ') := Option.some.inj h2
            injection this with e1 e2
            subst e1 e2
            refine .inl ⟨T, ρ, _, rep, qe, fun u H1 _ r1 => ?_⟩
            obtain ⟨v, hv⟩ := r1.slot q n
            exact ⟨v, hv, _, ρ1, _, r1, qk, fun cls dd H' xr r => he cls dd σ H' Kept.refl xr r.drop⟩
          | ok y ρ2 =>
            simp only [putS] at h2
            split at h2
            · rename_i x' ex
              have : (Fl.nx, ρ2.set i x') = (fl, ρ') := Option.some.inj h2
              injection this with e1 e2
              have fin2 : ∀ {u v w : V} {H2 : Hp}, Rep X.K H2 ((y, w) :: (d, u) :: T) ρ2 σ → σ[i]? = some (some v) → _ := fun {u v w H2} r2 hv => fin r2 hv rfl ⟨x', ex, e1.symm, e2.symm⟩
              by_cases il : isLst (some (ρ2.getD i .unk)) = true
              · refine .inl ⟨T, ρ, _, rep, qe, fun u H1 _ r1 => ?_⟩
                obtain ⟨v, hv⟩ := r1.slot q n
                refine ⟨v, hv, _, ρ1, _, r1, qk, fun w H2 _ r2 => ?_⟩
                rcases fin2 r2 hv with ⟨a, xs, j, k, h1, h3, h4, h5, h6⟩ | ⟨a, H', h1, h3, h4⟩
                · exact ⟨a, xs, k, j, h1, h3, h4, h5, h6⟩
                · exfalso
                  have hi : i < ρ2.length := by rw [r2.len]; exact (List.getElem?_eq_some_iff.mp hv).1
                  have r3 := r2.take (getD_at hi) hv
                  cases xx : ρ2.getD i .unk <;> rw [xx] at il <;> simp only [isLst, Bool.false_eq_true] at il
                  rw [xx] at r3
                  obtain ⟨a', vs, e', hq, _⟩ := RepT.readL r3.rep
                  rw [h1] at e'
                  cases e'
                  rcases h3 with ⟨_, _, z, _⟩ | ⟨_, _, _, z, _⟩ <;> rw [hq] at z <;> cases z
              · refine .inr ⟨T, ρ, _, rep, qe, fun u H1 _ r1 => ?_⟩
                obtain ⟨v, hv⟩ := r1.slot q n
                refine ⟨v, hv, _, ρ1, _, r1, qk, fun w H2 _ r2 => ?_⟩
                rcases fin2 r2 hv with ⟨a, xs, j, k, h1, h3, h4, h5, h6⟩ | ⟨a, H', h1, h3, h4⟩
                · exfalso
                  have hi : i < ρ2.length := by rw [r2.len]; exact (List.getElem?_eq_some_iff.mp hv).1
                  have r3 := r2.take (getD_at hi) hv
                  cases xx : ρ2.getD i .unk <;> rw [xx] at il ex r3 <;> first | (cases ex; done) | skip
                  · exact il rfl
                  · obtain ⟨a', vs, e', hq, _⟩ := RepT.dK r3.rep
                    rw [h1] at e'
                    cases e'
                    rw [hq] at h4; cases h4
                  · obtain ⟨a', vs, e', hq, _⟩ := RepT.dT r3.rep
                    rw [h1] at e'
                    cases e'
                    rw [hq] at h4; cases h4
                · exact ⟨a, H', h1, h3, h4⟩
            · cases h2
end
end VS
set_option Elab.async false
set_option linter.all false
set_option maxRecDepth 100000
set_option maxHeartbeats 4000000
set_option autoImplicit false
noncomputable section
namespace VS
open PySem PySem.Spec PyProof.Rows L2
section
variable {X : Cx} {W : WX} {K : PySem.W.Frag} {mg : Str → Option Value} {F H H1 : Hp} {T L : List (D × V)} {ρ ρ' : Env} {σ σ' σ'' : St} {m : Bool}
theorem d_setdT {pins : List (Addr × Obj)} {s : Shared} {a b : Addr} {k : List Key} {d : V} {r : Value} {E : Value → Shared → Prop} {kvs : List (List Key × V)} {Q : Value → Shared → Prop} (hu : X.A.units + 1 < cLine) (I : Inv X pins σ H s) (e : H a = some (.dT kvs)) (eb : H b = some (.tup (k.map kV))) (rd : RelV d r) (hl : kvs.length < sizeLine)
    (h1 : ∀ v, valV kvs k = some v → ∀ (w' : Value) (s' : Shared), Inv X pins σ H s' → RelV v w' → Q w' s') (h2 : valV kvs k = none → ∀ (w' : Value) (s' : Shared), Inv X pins σ (upd H a (.dT (putK kvs k d))) s' → RelV d w' → Q w' s') :
    wpAny (model X.prog X.w) X.A (call (.builtin "dict.setdefault") [.ref a, .ref b, r]) Q E s := by
  obtain ⟨z, hd, xs, rel, dd⟩ := dt_of I.hok e
  have hz : xs.length ≤ sizeLine := by rw [← Paired.length rel]; exact z
  have hl2 : (putK kvs k d).length ≤ sizeLine := by have := length_putK kvs k d; omega
  refine call_setdefault_heap (hsz := hz) (tupleKind_room_in1 hu) (key_of I.hok eb) hd dd (fun p hp => ?_) fun hn h' dd' hs => ?_
  · have q := rel.val k
    rw [hp] at q
    cases q0 : valV kvs k with
    | none => rw [q0] at q; exact (show False from q).elim
    | some v0 => rw [q0] at q; exact h1 v0 q0 _ _ (I.tok _) q
  · have q := rel.val k
    rw [hn] at q
    cases q0 : valV kvs k with
    | some v0 => rw [q0] at q; exact (show False from q).elim
    | none =>
      refine h2 q0 _ _ ?_ rd
      obtain ⟨q, es, ep, hq, g2, g3, g4, _, g5⟩ := dd'
      refine d_write I (by rw [e]; exact True.intro) hs ⟨q, hq⟩ ⟨hl2, hd, _, (rel.put k eb rd).keeps fun c ys ec => ?_, q, es, ep, hq, g2, g3, g4, g5⟩
      rw [upd_ne (ne_of ec e (fun z => nomatch z))]
      exact ec
def tDSetT (td ty tx : TE) : TE := fun σ H Q => td σ H fun x H1 => ∃ a, x = .ref a ∧ IsD H1 a ∧ ty σ H1 fun y H2 => tx σ H2 fun z H3 => ∃ (kvs : List (List Key × V)) (k : List Key) (b : Addr), H3 a = some (.dT kvs) ∧ y = .ref b ∧ H3 b = some (.tup (k.map kV)) ∧ kvs.length < sizeLine ∧
  (∀ v, valV kvs k = some v → Q v H3) ∧ (valV kvs k = none → Q z (upd H3 a (.dT (putK kvs k z))))
theorem pe_dsetT {o e f : Expr} {td ty tx : TE} {apos cpos : Pos} (hu : X.A.units + 1 < cLine) (ho : PE X o td) (he : PE X e ty) (hf : PE X f tx) (m : M2 X o "setdefault" apos e f cpos) : PE X (.Call (.Attribute o "setdefault" apos) [e, f] [] cpos) (tDSetT td ty tx) := by
  refine ⟨fun pins s σ H Q I h => ?_⟩
  refine wpAny_Call_method m.base m.few m.line PySem.F.plainAttrs_dict PySem.F.slot_dict_setdefault PySem.F.type_dict_setdefault (thn (ho.run pins s σ H _ I h) fun u s1 ⟨x, H1, I1, rx, a, ex, d, q1⟩ => ?_)
  subst ex
  obtain rfl : u = Value.ref a := rx
  obtain ⟨t1, t2, _⟩ := isD_at I1 d
  refine ⟨t1, t2, ?_⟩
  rw [m.trees]
  refine Calls.callWith_builtin rfl (Calls.evalArgs_plain (Calls.spliced_cons (thn (he.run pins s1 σ H1 _ I1 q1) fun iv s2 ⟨y, H2, I2, ry, q2⟩ =>
    Calls.spliced_cons (thn (hf.run pins s2 σ H2 _ I2 q2) fun fv s3 ⟨z, H3, I3, rz, kvs, k, b, ea, ey, eb, hl, q3, q4⟩ => Calls.spliced_nil ?_))))
  subst ey
  cases (show iv = Value.ref b from ry)
  exact d_setdT hu I3 ea eb rz hl (fun v hv w' s4 I4 rw' => ⟨v, _, I4, rw', q3 v hv⟩) fun hn w' s4 I4 rw' => ⟨z, _, I4, rw', q4 hn⟩
def setdS (i : Nat) (y d : D) : M D := fun ρ => match ρ.getD i .unk, y with
  | .dT true ks ds, .tup es => match keysD es with
    | some k => if ks.length < sizeLine ∧ fz d = true then (match look ks ds k with
      | some _ => some (.ok .unk ρ)
      | none => some (.ok .unk (ρ.set i (.dT true (putL ks ds k d).1 (putL ks ds k d).2)))) else none
    | none => none
  | _, _ => none
def dSetd (i : Nat) (fy fd : M D) : M D := fun ρ0 => if isDct ρ0[i]? = true then bindM fy (fun y => bindM fd (setdS i y)) ρ0 else none
theorem isDct_rep {i : Nat} (h : isDct ρ[i]? = true) (rep : Rep K H T ρ σ) : ∃ a, σ[i]? = some (some (.ref a)) ∧ IsD H a := by
  cases q : ρ[i]? with
  | none => rw [q] at h; cases h
  | some x =>
    rw [q] at h
    cases x <;> simp only [isDct, Bool.false_eq_true] at h
    · obtain ⟨v, hv⟩ := rep.slot q (by intro z; cases z)
      obtain ⟨a, vs, rfl, hq, _⟩ := RepT.dK (rep.take q hv).rep
      exact ⟨a, hv, .inl ⟨_, .inl hq⟩⟩
    · obtain ⟨v, hv⟩ := rep.slot q (by intro z; cases z)
      obtain ⟨a, vs, rfl, hq, _⟩ := RepT.dT (rep.take q hv).rep
      exact ⟨a, hv, .inr ⟨_, .inl hq⟩⟩
    · obtain ⟨v, hv⟩ := rep.slot q (by intro z; cases z)
      obtain ⟨a, vs, o, rfl, hq, _⟩ := RepT.lK (rep.take q hv).rep
      exact ⟨a, hv, .inl ⟨_, .inr ⟨o, hq⟩⟩⟩
    · obtain ⟨v, hv⟩ := rep.slot q (by intro z; cases z)
      obtain ⟨a, vs, o, rfl, hq, _⟩ := RepT.lT (rep.take q hv).rep
      exact ⟨a, hv, .inr ⟨_, .inr ⟨o, hq⟩⟩⟩
theorem ve_setdT {o e f : Expr} {i : Nat} {fy fd : M D} {my md : Bool} {apos cpos : Pos} (hu : X.A.units + 1 < cLine) (ho : PE X o (tVar i)) (he : VE X W my e fy) (hf : VE X W md f fd) (mm : M2 X o "setdefault" apos e f cpos) : VE X W true (.Call (.Attribute o "setdefault" apos) [e, f] [] cpos) (dSetd i fy fd) := by
  refine PE.imp (pe_dsetT hu ho he hf mm) fun σ H Q ⟨T, ρ, u, rep, hf, he⟩ => ?_
  unfold dSetd at hf
  by_cases z : isDct ρ[i]? = true
  · rw [if_pos z] at hf
    obtain ⟨a, hv, hd⟩ := isDct_rep z rep
    refine ⟨.ref a, hv, a, rfl, hd, ?_⟩
    refine run1 rep hf he fun y ρ1 w H1 h1 s1 r1 => ?_
    refine run1 r1 h1 (he.push (okP' := okE X.K true T σ H Q) fun _ _ q => q) fun d ρ2 v H2 h2 s2 r2 => ?_
    unfold setdS at h2
    split at h2
    · rename_i ks ds es ex
      split at h2
      · rename_i k ek
        split at h2
        · rename_i zz
          have hi : i < ρ2.length := by rw [r2.len]; exact (List.getElem?_eq_some_iff.mp hv).1
          have r3 : Rep X.K H2 ((d, v) :: (.tup es, w) :: T) ρ2 σ := r2
          have r4 := r3.take (getD_at hi) hv
          rw [ex] at r4
          obtain ⟨a', vs, ea, hq, n1, nd, l, _⟩ := RepT.dT r4.rep
          cases ea
          have ry : Rep X.K H2 ((.tup es, w) :: (d, v) :: T) ρ2 σ := r3.perm (.swap _ _ _)
          obtain ⟨b, bs, rfl, hb, lb, rb⟩ := RepT.openT ry.rep
          have wk := keysD_rep ek lb rb
          subst wk
          refine ⟨ks.zip vs, k, b, hq, rfl, hb, by rw [List.length_zip]; omega, fun v0 hv0 => ?_, fun hn => ?_⟩
          · rw [valV_look] at hv0
            split at h2
            · have : u = .ok .unk ρ2 := (Option.some.inj h2).symm
              subst this
              exact he _ H2 (fun z => by cases z) (r3.drop.drop.lift fun q => q.unk)
            · rename_i en
              rw [look_none n1 l en] at hv0; cases hv0
          · rw [valV_look] at hn
            split at h2
            · rename_i x0 en
              obtain ⟨j, u0, _, _, h3⟩ := look_pair n1 l en
              rw [hn] at h3; cases h3
            · have : u = .ok .unk (ρ2.set i (.dT true (putL ks ds k d).1 (putL ks ds k d).2)) := (Option.some.inj h2).symm
              subst this
              have rA : RepT X.K H2 ((d, v) :: (.dT true ks ds, .ref a) :: (.tup es, .ref b) :: (T ++ SL (ρ2.set i .unk) σ)) := r4.rep.perm (.swap _ _ _)
              obtain ⟨vs', hq', _, _, r5⟩ := RepT.putDT (k := k) rA
              rw [hq] at hq'
              have ez : ks.zip vs = ks.zip vs' := by injection hq' with e1; injection e1
              rw [← ez] at r5
              have r6 : Rep X.K (upd H2 a (.dT (putK (ks.zip vs) k v))) ((.dT true (putL ks ds k d).1 (putL ks ds k d).2, .ref a) :: (.tup es, .ref b) :: T) (ρ2.set i .unk) σ := ⟨r4.len, r4.nos, r5⟩
              have r7 := r6.put hv
              rw [List.set_set] at r7
              exact he _ _ (fun z => by cases z) (r7.drop.lift fun q => q.unk)
        · cases h2
      · cases h2
    · cases h2
  · rw [if_neg z] at hf; cases hf
def tyD : D → Option String
  | .non => some "NoneType"
  | .bl _ => some "bool"
  | .int _ => some "int"
  | .str _ => some "str"
  | .tup _ => some "tuple"
  | .ktp _ => some "tuple"
  | .lst _ _ => some "list"
  | .scr _ => some "list"
  | .dK _ _ _ => some "dict"
  | .dT _ _ _ => some "dict"
  | _ => none
theorem tyD_rep {d : D} {n : String} {v : V} (e : tyD d = some n) (r : RepT K H ((d, v) :: L)) : TyX K H v (.type n) := by
  cases d <;> simp only [tyD, Option.some.injEq, reduceCtorEq] at e <;> subst e
  · rw [r.eq_non]; exact .base .non
  · rw [r.eq_bl]; exact .base (.bl _)
  · rw [r.eq_int]; exact .base (.int _)
  · rw [r.eq_str]; exact .base (.str _)
  · obtain ⟨a, vs, rfl, q, _⟩ := r.openT; exact .base (.tup q)
  · obtain ⟨a, vs, rfl, q, _⟩ := r.readL; exact .base (.lst q)
  · obtain ⟨a, vs, rfl, q, _⟩ := r.openS
    rcases q with (q | ⟨o, q⟩) | ⟨o, its, n, h1, h2, _⟩
    · exact .base (.lst q)
    · exact .base (.frz q)
    · exact .kList h1 h2
  · obtain ⟨a, vs, rfl, q, _⟩ := r.openK
    rcases q with (q | ⟨o, q⟩) | ⟨o, its, n, h1, h2, _⟩
    · exact .base (.tup q)
    · exact .fTuple q
    · exact .kTuple h1 h2
  · obtain ⟨a, vs, rfl, q, _⟩ := r.dK; exact .base (.dK q)
  · obtain ⟨a, vs, rfl, q, _⟩ := r.dT; exact .base (.dT q)
def isaB : String → List String → Option Bool
  | _, [] => some false
  | a, n :: ns => match kitB a n with
    | none => none
    | some true => some true
    | some false => isaB a ns
def gIsa (ns : List String) (d : D) : Option D := match tyD d with
  | none => none
  | some a => (isaB a ns).map .bl
theorem isaB_any {a : String} : ∀ {ns : List String} {b : Bool}, isaB a ns = some b → PySem.W.kitAny K (.type a) (ns.map Value.type) = some b
  | [], b, h => by
    have : false = b := Option.some.inj h
    subst this
    rfl
  | n :: ns, b, h => by
    rw [isaB] at h
    cases q : kitB a n with
    | none => rw [q] at h; cases h
    | some c =>
      rw [q] at h
      refine kitAny_cons (kit_ty q) (fun e => ?_) fun e => ?_
      · subst e; exact isaB_any h
      · subst e
        exact (Option.some.inj h).symm
def dIsa (ns : List String) (f : M D) : M D := bindM f fun d => optM (gIsa ns d)
theorem gIsa_inv {ns : List String} {d x : D} (h : gIsa ns d = some x) : ∃ a b, tyD d = some a ∧ isaB a ns = some b ∧ x = .bl b := by
  unfold gIsa at h
  split at h
  · cases h
  · rename_i a ea
    obtain ⟨b, eb, rfl⟩ := Option.map_eq_some_iff.mp h
    exact ⟨a, b, ea, eb, rfl⟩
theorem ve_isa {e c : Expr} {n : String} {f : M D} {p pos : Pos} (hg : Gl X "isinstance") (hm : X.mg "isinstance" = none) (he : VE X W m e f) (hc : PE X c (tC (.ty n)))
    (hs1 : starEach [c] X.env = (false, eval c X.env) :: starEach [] X.env := by rfl) (hs : starEach [e, c] X.env = (false, eval e X.env) :: starEach [c] X.env := by rfl) (hpl : (backTo pos (starEach [c] X.env)).any (·.1) = false := by rfl) : VE X W m (.Call (.Name "isinstance" p) [e, c] [] pos) (dIsa [n] f) := by
  refine PE.imp (pe_callB call_isi hg hm (by decide +kernel) (pa_cons he (pa_cons hc pa_nil hs1) hs) (by decide) (by decide) hs hpl) fun σ H Q ⟨T, ρ, u, rep, hf, hend⟩ => ?_
  refine run1 rep hf hend fun d ρ1 v H1 h1 s1 r1 => ?_
  obtain ⟨x, ex, rfl⟩ := optM_some h1
  obtain ⟨a, b, e1, e2, rfl⟩ := gIsa_inv ex
  refine ⟨v, .ty n, .type a, .type n, b, rfl, .ty n, tyD_rep e1 r1.rep, ?_, hend _ H1 s1 (r1.drop.lift fun q => q.bl)⟩
  rw [isaB] at e2
  cases q : kitB a n with
  | none => rw [q] at e2; cases e2
  | some c =>
    rw [q] at e2
    cases c with
    | true => rw [kit_ty q]; exact e2
    | false => rw [kit_ty q]; exact e2
theorem ve_isa2 {e c c2 : Expr} {n n2 : String} {f : M D} {k : Nat} {p pos tpos : Pos} (hg : Gl X "isinstance") (hm : X.mg "isinstance" = none) (he : VE X W m e f) (hc : PE X c (tC (.ty n))) (hc2 : PE X c2 (tC (.ty n2)))
    (hs0 : starEach [c2] X.env = (false, eval c2 X.env) :: starEach [] X.env := by rfl) (hs3 : starEach [c, c2] X.env = (false, eval c X.env) :: starEach [c2] X.env := by rfl)
    (hs1 : starEach [.Tuple [c, c2] k tpos] X.env = (false, eval (.Tuple [c, c2] k tpos) X.env) :: starEach [] X.env := by rfl) (hs : starEach [e, .Tuple [c, c2] k tpos] X.env = (false, eval e X.env) :: starEach [.Tuple [c, c2] k tpos] X.env := by rfl) (hpl : (backTo pos (starEach [.Tuple [c, c2] k tpos] X.env)).any (·.1) = false := by rfl) : VE X W m (.Call (.Name "isinstance" p) [e, .Tuple [c, c2] k tpos] [] pos) (dIsa [n, n2] f) := by
  refine PE.imp (pe_callB call_isiT hg hm (by decide +kernel) (pa_cons he (pa_cons (pe_tup (pa_cons hc (pa_cons hc2 pa_nil hs0) hs3)) pa_nil hs1) hs) (by decide) (by decide) hs hpl) fun σ H Q ⟨T, ρ, u, rep, hf, hend⟩ => ?_
  refine run1 rep hf hend fun d ρ1 v H1 h1 s1 r1 => ?_
  obtain ⟨x, ex, rfl⟩ := optM_some h1
  obtain ⟨a, b, e1, e2, rfl⟩ := gIsa_inv ex
  refine ⟨(by show 2 ≤ sizeLine; decide), fun tp htp => ?_⟩
  have r2 : RepT X.K (upd H1 tp (.tup [.ty n, .ty n2])) ((d, v) :: (T ++ SL ρ1 σ)) := RepT.grow htp r1.rep
  refine ⟨v, tp, _, .type a, [.type n, .type n2], b, rfl, upd_same, .cons (.ty n) (.cons (.ty n2) .nil), tyD_rep e1 r2, isaB_any e2, hend _ _ (sm_r s1 (Same.upd htp)) ⟨r1.len, r1.nos, RepT.bl r2.drop⟩⟩
end
end VS
set_option Elab.async false
set_option linter.all false
set_option maxRecDepth 100000
set_option maxHeartbeats 4000000
set_option autoImplicit false
noncomputable section
namespace VS
open PySem PySem.Spec PyProof.Rows L2
section
variable {X : Cx} {W : WX} {K : PySem.W.Frag} {mg : Str → Option Value} {F H H1 : Hp} {T L : List (D × V)} {ρ ρ' : Env} {σ σ' σ'' : St} {m : Bool}
theorem ints_reads {h : Heap} : ∀ {ns : List Int} {its : List Value}, Vals (ns.map V.int) its → ∃ as, ReadsAll h its (ns.map PyData.int) as
  | [], _, .nil => ⟨_, .nil⟩
  | n :: ns, _, .cons r t => by
    obtain ⟨u, rfl⟩ := r
    obtain ⟨as, q⟩ := ints_reads t
    exact ⟨_, .cons (.int n u) q⟩
theorem ints_alike (n : Int) (ns : List Int) : PySem.W.AlikeAll ((.int n : PyData) :: ns.map PyData.int) := by
  have key : ∀ x ∈ ((.int n : PyData) :: ns.map PyData.int), ∃ i, x = .int i := fun x hx => by
    rcases List.mem_cons.mp hx with rfl | hx
    · exact ⟨n, rfl⟩
    · obtain ⟨i, _, rfl⟩ := List.mem_map.mp hx
      exact ⟨i, rfl⟩
  refine ⟨fun x hx y hy => ?_, fun x hx => ?_⟩
  · obtain ⟨i, rfl⟩ := key x hx
    obtain ⟨j, rfl⟩ := key y hy
    rfl
  · obtain ⟨i, rfl⟩ := key x hx
    intro z; cases z
theorem ints_depth : ∀ ns : List Int, PyData.depthAll (ns.map PyData.int) = 0
  | [] => rfl
  | n :: ns => by rw [List.map_cons, PyData.depthAll, ints_depth ns]; rfl
def rBest (K : PySem.W.Frag) (f : Int → List Int → Int) : List V → Hp → VK → Prop := fun xs H Q => ∃ (a : Addr) (n : Int) (ns : List Int), xs = [.ref a] ∧ (SqL K H a ((n :: ns).map V.int) ∨ SqT K H a ((n :: ns).map V.int)) ∧ Q (.int (f n ns)) H
theorem reads_int {h : Heap} {v : Value} {i : Int} {as : List Addr} (r : Reads h v (.int i) as) : ∃ t, v = .int i t := by
  cases r with
  | int i t => exact ⟨t, rfl⟩
theorem cr_minI (hc : X.calm = true) (hu : X.A.units + 64 < cLine) : CallR X (.builtin "min") (rBest X.K fun n ns => ns.foldl min n) := by
  intro pins s σ H vs us Q I r h
  obtain ⟨a, n, ns, rfl, hs, q⟩ := h
  rw [Vals.ref1 r]
  have hd : X.A.units + 1 + PyData.depthAll ((.int n : PyData) :: ns.map PyData.int) < cLine := by
    have := ints_depth (n :: ns)
    rw [List.map_cons] at this
    rw [this]; omega
  rcases hs with hs | hs
  · obtain ⟨its, rv, hl, _⟩ := I.list hs
    obtain ⟨as, hr⟩ := ints_reads (h := s.heap) rv
    refine PySem.W.min_list_data (x := .int n) (xs := ns.map PyData.int) (I.ok.hd hc) hl.isList (by simpa using hr) (ints_alike n ns) hd fun i v h' tk bs _ rr hk => ?_
    rw [PySem.W.minD_ints] at rr
    obtain ⟨t, rfl⟩ := reads_int rr
    exact ⟨.int _, H, I.kept hk, ⟨_, rfl⟩, q⟩
  · obtain ⟨its, rv, hl, _⟩ := I.tuple hs
    obtain ⟨as, hr⟩ := ints_reads (h := s.heap) rv
    refine PySem.W.min_tuple_data (x := .int n) (xs := ns.map PyData.int) (I.ok.hd hc) hl (by simpa using hr) (ints_alike n ns) hd fun i v h' tk bs _ rr hk => ?_
    rw [PySem.W.minD_ints] at rr
    obtain ⟨t, rfl⟩ := reads_int rr
    exact ⟨.int _, H, I.kept hk, ⟨_, rfl⟩, q⟩
theorem cr_maxI (hc : X.calm = true) (hu : X.A.units + 64 < cLine) : CallR X (.builtin "max") (rBest X.K fun n ns => ns.foldl max n) := by
  intro pins s σ H vs us Q I r h
  obtain ⟨a, n, ns, rfl, hs, q⟩ := h
  rw [Vals.ref1 r]
  have hd : X.A.units + 1 + PyData.depthAll ((.int n : PyData) :: ns.map PyData.int) < cLine := by
    have := ints_depth (n :: ns)
    rw [List.map_cons] at this
    rw [this]; omega
  rcases hs with hs | hs
  · obtain ⟨its, rv, hl, _⟩ := I.list hs
    obtain ⟨as, hr⟩ := ints_reads (h := s.heap) rv
    refine PySem.W.max_list_data (x := .int n) (xs := ns.map PyData.int) (I.ok.hd hc) hl.isList (by simpa using hr) (ints_alike n ns) hd fun i v h' tk bs _ rr hk => ?_
    rw [PySem.W.maxD_ints] at rr
    obtain ⟨t, rfl⟩ := reads_int rr
    exact ⟨.int _, H, I.kept hk, ⟨_, rfl⟩, q⟩
  · obtain ⟨its, rv, hl, _⟩ := I.tuple hs
    obtain ⟨as, hr⟩ := ints_reads (h := s.heap) rv
    refine PySem.W.max_tuple_data (x := .int n) (xs := ns.map PyData.int) (I.ok.hd hc) hl (by simpa using hr) (ints_alike n ns) hd fun i v h' tk bs _ rr hk => ?_
    rw [PySem.W.maxD_ints] at rr
    obtain ⟨t, rfl⟩ := reads_int rr
    exact ⟨.int _, H, I.kept hk, ⟨_, rfl⟩, q⟩
def gBest (f : Int → List Int → Int) (ds : List D) : Option D := match ds with
  | [x] => (seqOf x).bind fun xs => match allI xs with
    | some (n :: ns) => some (.int (f n ns))
    | _ => none
  | _ => none
def gMin1 := gBest fun n ns => ns.foldl min n
def gMax1 := gBest fun n ns => ns.foldl max n
def gMin (ds : List D) : Option D := match ds with
  | [_] => gMin1 ds
  | _ => gMin2 ds
def gMax (ds : List D) : Option D := match ds with
  | [_] => gMax1 ds
  | _ => gMax2 ds
def rMinA (K : PySem.W.Frag) : List V → Hp → VK → Prop := fun xs H Q => rBest K (fun n ns => ns.foldl min n) xs H Q ∨ (∃ i j, xs = [.int i, .int j] ∧ Q (.int (if j < i then j else i)) H)
def rMaxA (K : PySem.W.Frag) : List V → Hp → VK → Prop := fun xs H Q => rBest K (fun n ns => ns.foldl max n) xs H Q ∨ (∃ i j, xs = [.int i, .int j] ∧ Q (.int (if j > i then j else i)) H)
theorem cr_minA (hc : X.calm = true) (hu : X.A.units + 64 < cLine) : CallR X (.builtin "min") (rMinA X.K) := CallR.orr (cr_minI hc hu) (call_min2 hc)
theorem cr_maxA (hc : X.calm = true) (hu : X.A.units + 64 < cLine) : CallR X (.builtin "max") (rMaxA X.K) := CallR.orr (cr_maxI hc hu) (call_max2 hc)
def keyB : Key → D
  | .inl i => .int i
  | .inr x => .str x
def tupK (k : List Key) : D := .tup (k.map keyB)
def keyP : Key → PyData
  | .inl i => .int i
  | .inr x => .str x
def tupP (k : List Key) : PyData := .tuple (k.map keyP)
theorem dats_key : ∀ k : List Key, dats (k.map keyB) = some (k.map keyP)
  | [] => rfl
  | .inl i :: k => by rw [List.map_cons, dats, dats_key k]; rfl
  | .inr x :: k => by rw [List.map_cons, dats, dats_key k]; rfl
theorem dat_key (k : List Key) : dat (tupK k) = some (tupP k) := by
  unfold tupK tupP
  rw [dat, dats_key]; rfl
theorem dats_keys : ∀ ks : List (List Key), dats (ks.map tupK) = some (ks.map tupP)
  | [] => rfl
  | k :: ks => by rw [List.map_cons, dats, dat_key, dats_keys ks]; rfl
theorem key_own {F' : Hp} : ∀ k : List Key, OwL K F' H (k.map keyB) (k.map kV) []
  | [] => by rw [List.map_nil, List.map_nil, OwL]; exact ⟨rfl, rfl⟩
  | .inl i :: k => by
    rw [List.map_cons, List.map_cons, OwL]
    exact ⟨_, _, [], [], rfl, rfl, by rw [keyB, Ow]; exact ⟨rfl, rfl⟩, key_own k⟩
  | .inr i :: k => by
    rw [List.map_cons, List.map_cons, OwL]
    exact ⟨_, _, [], [], rfl, rfl, by rw [keyB, Ow]; exact ⟨rfl, rfl⟩, key_own k⟩
def leK (x y : List Key) : Bool := PySem.W.dataLe false tupP x y
def rSortDT : List V → Hp → VK → Prop := fun xs H Q => ∃ (a : Addr) (kvs : List (List Key × V)), xs = [.ref a] ∧ H a = some (.dT kvs) ∧ PySem.W.AllAlike (kvs.map fun p => tupP p.1) ∧ PySem.W.Sortable (kvs.map fun p => tupP p.1) ∧ (∀ p ∈ kvs, (tupP p.1).depth ≤ 60) ∧
  ∀ bs : List (List Key × Addr), bs.map (·.1) = kvs.map (·.1) → (∀ b ∈ bs, H b.2 = some (.tup (b.1.map kV))) → ∀ p, H p = none → Q (.ref p) (upd H p (.lst ((bs.mergeSort fun x y => leK x.1 y.1).map fun b => V.ref b.2)))
theorem keyP_reads {pins : List (Addr × Obj)} {s : Shared} (I : Inv X pins σ H s) {b : Addr} {k : List Key} (hb : H b = some (.tup (k.map kV))) : ∃ as, Reads s.heap (.ref b) (tupP k) as := by
  have key : ∀ k : List Key, DpAll X.K H (k.map kV) (k.map keyP) := by
    intro k
    induction k with
    | nil => exact .nil
    | cons c k ih =>
      cases c with
      | inl i => exact .cons (.int i) ih
      | inr x => exact .cons (.str x) ih
  exact Dp.reads I _ (.ref b) _ (.tup (.inl (.inl hb)) (key k)) rfl
theorem keyAll_nil {h : Heap} : ∀ {k : List Key} {vs : List Value} {as : List Addr}, ReadsAll h vs (k.map keyP) as → as = []
  | [], _, _, r => by cases r; rfl
  | .inl i :: k, _, _, r => by
    cases r with
    | cons r1 r2 =>
      have e := keyAll_nil (k := k) r2
      cases r1
      rw [e]; rfl
  | .inr i :: k, _, _, r => by
    cases r with
    | cons r1 r2 =>
      have e := keyAll_nil (k := k) r2
      cases r1
      rw [e]; rfl
theorem tupP_nil {h : Heap} {k : List Key} {v : Value} {as : List Addr} (r : Reads h v (tupP k) as) : as = [] := by
  unfold tupP at r
  cases r with
  | tuple _ _ _ r => exact keyAll_nil r
theorem refs_each {s : Shared} {a : Addr} {h2 : Heap} : ∀ {bs : List (List Key × Addr)}, (∀ b ∈ bs, ∃ as, Reads h2 (.ref b.2) (tupP b.1) as) →
    PySem.W.EachIs (fun v (b : List Key × Addr) => v = Value.ref b.2) (bs.map fun b => Value.ref b.2) bs ∧ PySem.W.EachIs (fun v (b : List Key × Addr) => ∃ as, Reads h2 v (tupP b.1) as ∧ a ∉ as) (bs.map fun b => Value.ref b.2) bs
  | [], _ => ⟨.nil, .nil⟩
  | b :: bs, h => by
    obtain ⟨h1, h2⟩ := refs_each (s := s) (a := a) (bs := bs) fun c hc => h c (List.mem_cons_of_mem _ hc)
    obtain ⟨as, r⟩ := h b (by simp)
    exact ⟨.cons rfl h1, .cons ⟨as, r, by rw [tupP_nil r]; simp⟩ h2⟩
theorem refs_vals : ∀ {bs : List (List Key × Addr)} {out : List Value}, PySem.W.EachIs (fun v (b : List Key × Addr) => v = Value.ref b.2) out bs → Vals (bs.map fun b => V.ref b.2) out
  | _, _, .nil => .nil
  | _, _, .cons h t => .cons h (refs_vals t)
theorem cr_sortDT (hcalm : X.calm = true) (hu : X.A.units + 64 < cLine) : CallR X (.builtin "sorted") rSortDT := by
  intro pins s σ H xs us Q I r q
  obtain ⟨a, kvs, rfl, hd, hal, hso, hdp, q⟩ := q
  rw [Vals.ref1 r]
  obtain ⟨z, lo, ys, rel, dd⟩ := dt_of I.hok hd
  obtain ⟨es, ep, hraw, hsz, hent⟩ := dd.raw
  have hl : ys.length = kvs.length := (Paired.length rel).symm
  have h16 : es.size ≤ sizeLine := by rw [hsz, hl]; exact z
  -- the keys as they stand
  let bs : List (List Key × Addr) := ys.map fun y => (y.1, y.2.1)
  have hbk : bs.map (·.1) = kvs.map (·.1) := by
    have : ∀ {l : List (List Key × V)} {m : List (List Key × Addr × Value)}, KT H l m → (m.map fun y => (y.1, y.2.1)).map (·.1) = l.map (·.1) := by
      intro l m q
      induction q with
      | nil => rfl
      | cons h _ ih => rw [List.map_cons, List.map_cons, List.map_cons, ih, h.1]
    exact this rel
  have hbt : ∀ b ∈ bs, H b.2 = some (.tup (b.1.map kV)) := by
    have : ∀ {l : List (List Key × V)} {m : List (List Key × Addr × Value)}, KT H l m → ∀ b ∈ (m.map fun y => (y.1, y.2.1)), H b.2 = some (.tup (b.1.map kV)) := by
      intro l m q
      induction q with
      | nil => intro b hb; cases hb
      | cons h _ ih =>
        intro b hb
        rcases List.mem_cons.mp hb with rfl | hb
        · rw [← h.1]; exact h.2.1
        · exact ih b hb
    exact this rel
  refine Calls.call_function_entry PyProof.Rows.kind_sorted PyProof.Rows.plain_sorted PyProof.Rows.entry_sorted (PyProof.Rows.args_sorted1 _) ?_
  unfold Builtin.«sorted»
  refine wpAny_bind (m := checkCount "sorted" 1 1 _) (wpAny_pure ?_)
  refine wpAny_bind (PySem.W.kdu_collect (A := X.A.in1) (PySem.KdlSrc.rawDict (es := es) (ep := ep) lo) (I.ok.hd hcalm) hraw h16 fun h' tk acc hk hacc => ?_)
  have ea : acc.toList = bs.map fun b => Value.ref b.2 := by
    apply List.ext_getElem?
    intro j
    by_cases hj : j < acc.size
    · have e1 : acc.toList[j]? = some acc[j] := by rw [Array.getElem?_toList, Array.getElem?_eq_getElem hj]
      obtain ⟨hi, e2⟩ := hacc.2 j acc[j] (Array.getElem?_eq_getElem hj)
      obtain ⟨y, hy, e3, _⟩ := hent j hi
      rw [e1, e2, e3]
      show _ = ((ys.map fun y => (y.1, y.2.1)).map fun b => Value.ref b.2)[j]?
      rw [List.getElem?_map, List.getElem?_map, hy]; rfl
    · rw [List.getElem?_eq_none (by rw [Array.length_toList]; omega), List.getElem?_eq_none]
      show ((ys.map fun y => (y.1, y.2.1)).map fun b => Value.ref b.2).length ≤ j
      rw [List.length_map, List.length_map, ← hsz]
      have := hacc.1
      omega
  have hbl : bs.length ≤ sizeLine := by
    show (ys.map fun y => (y.1, y.2.1)).length ≤ sizeLine
    rw [List.length_map, ← hsz]; exact h16
  have I1 : Inv X pins σ H { s with heap := h', toks := tk } := I.kept hk
  rw [ea]
  refine wpAny_bind (wpAny_newList ?_ (by rw [List.length_map]; exact hbl))
  have hoL : (h'.push (seqObj "list" (bs.map fun b => Value.ref b.2).toArray 0)).get? h'.objs.size = some (seqObj "list" (bs.map fun b => Value.ref b.2).toArray 0) := Heap.get?_push_size _ rfl
  show wpAny _ _ _ _ _ { s with heap := h'.push (seqObj "list" (bs.map fun b => Value.ref b.2).toArray 0), toks := tk }
  have hreads : ∀ b ∈ bs, ∃ as, Reads (h'.push (seqObj "list" (bs.map fun b => Value.ref b.2).toArray 0)) (.ref b.2) (tupP b.1) as := fun b hb => by
    obtain ⟨as, r⟩ := keyP_reads I1 (hbt b hb)
    exact ⟨as, PyProof.Rows.Reads.keeps (fun _ _ e => Heap.get?_push_of_some _ e) r⟩
  obtain ⟨er0, er⟩ := refs_each (s := s) (a := h'.objs.size) hreads
  have em : bs.map (fun b => tupP b.1) = kvs.map fun p => tupP p.1 := by
    have := congrArg (List.map tupP) hbk
    simpa [List.map_map, Function.comp_def] using this
  refine wpAny_bind (wpAny_holding (PySem.W.list_sort_data (s := { s with heap := h'.push (seqObj "list" (bs.map fun b => Value.ref b.2).toArray 0), toks := tk }) (enc := fun b : List Key × Addr => tupP b.1) hoL er0 er (by rw [em]; exact hal) (by rw [em]; exact hso) hbl (fun b hb => ?_) fun out hlen ho => ?_))
  · have : (tupP b.1) ∈ kvs.map fun p => tupP p.1 := by rw [← em]; exact List.mem_map.mpr ⟨b, hb, rfl⟩
    obtain ⟨p, hp, e⟩ := List.mem_map.mp this
    have := hdp p hp
    rw [e] at this
    show X.A.units + 1 + 1 + _ < _
    omega
  · obtain ⟨e', he'⟩ := PyProof.Rows.sortedHeap_at (vs := bs.map fun b => Value.ref b.2) (out := out.toArray) hoL
    have vo := refs_vals ho
    have hlen2 : ((bs.mergeSort fun x y => leK x.1 y.1).map fun b => V.ref b.2).length ≤ sizeLine := by rw [List.length_map, List.length_mergeSort]; exact hbl
    refine wpAny_pure ⟨_, rfl, .ref h'.objs.size, upd H h'.objs.size (.lst ((bs.mergeSort fun x y => leK x.1 y.1).map fun b => V.ref b.2)), I1.laid (t' := tk) (fun b u e => ?_) (Nat.le_refl _)
      (show ObjOk X.prog X.w _ _ _ (.lst _) from ⟨hlen2, out, e', vo, he'⟩), rfl, q bs hbk hbt _ (I1.hok.fresh (Nat.le_refl _))⟩
    have hb : b < h'.objs.size := Heap.lt_size e
    rw [PyProof.Rows.sortedHeap_old (Nat.ne_of_lt hb) (by rw [size_push']; exact Nat.lt_succ_of_lt hb)]
    exact Heap.get?_push_of_some _ e
def gSorted (ds : List D) : Option D := match ds with
  | [.dT _ ks _] => (sortD (ks.map tupK)).map fun ys => .lst true ys
  | _ => gSort ds
def rSorted2 (K : PySem.W.Frag) : List V → Hp → VK → Prop := fun xs H Q => rSortDT xs H Q ∨ rSortA K xs H Q
theorem cr_sorted2 (hcalm : X.calm = true) (hu : X.A.units + 64 < cLine) : CallR X (.builtin "sorted") (rSorted2 X.K) := CallR.orr (cr_sortDT hcalm hu) (cr_sortA hu)
theorem RepT.tups {bs : List (List Key × Addr)} : (∀ b ∈ bs, H b.2 = some (.tup (b.1.map kV))) → RepT K H L → RepT K H ((bs.map fun b => tupK b.1).zip (bs.map fun b => V.ref b.2) ++ L) := by
  intro hb r
  induction bs with
  | nil => exact r
  | cons b bs ih => exact RepT.tupOf (hb b (by simp)) (fun F' => key_own b.1) (ih fun c hc => hb c (List.mem_cons_of_mem _ hc))
theorem impSorted : ImpA K (rSorted2 K) gSorted := by
  intro H L ds vs d Q e l r h
  unfold gSorted at e
  split at e
  · rename_i o ks xs
    obtain ⟨ys, e3, rfl⟩ := Option.map_eq_some_iff.mp e
    obtain ⟨v, rfl⟩ := len1 l
    have r1 : RepT K H ((.dT o ks xs, v) :: L) := r
    obtain ⟨a, ws, rfl, hq, n1, nd, l2, r2⟩ := r1.dT
    unfold sortD at e3
    rw [dats_keys] at e3
    simp only at e3
    split at e3
    · rename_i z
      cases e3
      obtain ⟨z1, z2⟩ := z
      rw [Bool.and_eq_true, Bool.and_eq_true, List.all_eq_true] at z1
      have ek : (ks.zip ws).map (fun p => tupP p.1) = ks.map tupP := by
        have : (ks.zip ws).map (·.1) = ks := List.map_fst_zip (by omega)
        have := congrArg (List.map tupP) this
        simpa [List.map_map, Function.comp_def] using this
      refine .inl ⟨a, ks.zip ws, rfl, hq, by rw [ek]; exact alikeB_ok z1.1.1, by rw [ek]; exact sortB_ok z1.1.2, fun p hp => ?_, fun bs hb1 hb2 p hp => h _ _ (Same.upd hp) ?_⟩
      · have : tupP p.1 ∈ ks.map tupP := by rw [← ek]; exact List.mem_map.mpr ⟨p, hp, rfl⟩
        exact of_decide_eq_true (z1.2 _ this)
      · have hk : bs.map (·.1) = ks := by rw [hb1]; exact List.map_fst_zip (by omega)
        have e1 : (ks.map tupK).mergeSort leD = ((bs.mergeSort fun x y => leK x.1 y.1).map fun b => tupK b.1) := by
          have := List.map_mergeSort (f := fun b : List Key × Addr => tupK b.1) (r := fun x y => leK x.1 y.1) (s := leD) (l := bs) (fun x _ y _ => by
            unfold leK leD PySem.W.dataLe PySem.W.sortLe
            simp only [dat_key, Option.getD_some])
          rw [this]
          have e2 : bs.map (fun b => tupK b.1) = ks.map tupK := by
            have := congrArg (List.map tupK) hk
            simpa [List.map_map, Function.comp_def] using this
          rw [e2]
        rw [e1]
        refine RepT.newL (by simp) hp ?_
        refine RepT.tups (fun b hb => hb2 b ?_) r1.drop
        exact (List.mergeSort_perm bs _).mem_iff.mp hb
    · cases e3
  · exact .inr (impSort H L ds vs d Q e l r h)
end
end VS
set_option Elab.async false
set_option linter.all false
set_option maxRecDepth 100000
set_option maxHeartbeats 4000000
set_option autoImplicit false
noncomputable section
namespace VS
open PySem PySem.Spec PyProof.Rows L2
section
variable {X : Cx} {W : WX} {K : PySem.W.Frag} {mg : Str → Option Value} {F H H1 : Hp} {T L : List (D × V)} {ρ ρ' : Env} {σ σ' σ'' : St} {m : Bool}
def ImpS (K : PySem.W.Frag) (r : List V → Hp → VK → Prop) (g : List D → Option D) : Prop := ∀ H L ds vs d Q, g ds = some d → ds.length = vs.length → RepT K H (ds.zip vs ++ L) → (∀ u, scD d = some u → Q u H) → r vs H Q
theorem sLen : ImpS K (rLen K) gLen := by
  intro H L ds vs d Q e l r h
  unfold gLen at e
  split at e
  · obtain ⟨n, e1, rfl⟩ := Option.map_eq_some_iff.mp e
    obtain ⟨v, rfl⟩ := len1 l
    exact gLen_rd e1 r (h _ rfl)
  · cases e
theorem sAbs : ImpS K (fun xs H Q => ∃ i, xs = [.int i] ∧ Q (.int (if i < 0 then -i else i)) H) gAbs := by
  intro H L ds vs d Q e l r h
  unfold gAbs at e
  split at e
  · cases e
    obtain ⟨v, rfl⟩ := len1 l
    have e1 := RepT.eq_int r
    subst e1
    exact ⟨_, rfl, h _ rfl⟩
  · cases e
theorem sIntOf : ImpS K (fun xs H Q => (∃ i, xs = [.int i] ∧ Q (.int i) H) ∨ ∃ k, xs = [.bl k] ∧ Q (.int (if k then 1 else 0)) H) gIntOf := by
  intro H L ds vs d Q e l r h
  unfold gIntOf at e
  split at e
  · cases e
    obtain ⟨v, rfl⟩ := len1 l
    have e1 := RepT.eq_int r
    subst e1
    exact .inl ⟨_, rfl, h _ rfl⟩
  · cases e
    obtain ⟨v, rfl⟩ := len1 l
    have e1 := RepT.eq_bl r
    subst e1
    exact .inr ⟨_, rfl, h _ rfl⟩
  · cases e
theorem sSum : ImpS K (rSum K) gSum := by
  intro H L ds vs d Q e l r h
  unfold gSum at e
  split at e
  · rename_i x
    obtain ⟨xs, e1, e2⟩ := Option.bind_eq_some_iff.mp e
    obtain ⟨ns, e3, rfl⟩ := Option.map_eq_some_iff.mp e2
    obtain ⟨v, rfl⟩ := len1 l
    have r1 : RepT K H ((x, v) :: L) := r
    obtain ⟨a, ws, rfl, sq, l2, r2⟩ := r1.list e1
    rw [allI_eq e3] at l2 r2
    have := zip_int (by rw [← l2, List.length_map]) r2
    subst this
    exact ⟨a, ns, rfl, sq, h _ rfl⟩
  · cases e
theorem sAll : ImpS K (rAll K) gAll := by
  intro H L ds vs d Q e l r h
  unfold gAll at e
  split at e
  · rename_i x
    obtain ⟨xs, e1, e2⟩ := Option.bind_eq_some_iff.mp e
    obtain ⟨ns, e3, rfl⟩ := Option.map_eq_some_iff.mp e2
    obtain ⟨v, rfl⟩ := len1 l
    have r1 : RepT K H ((x, v) :: L) := r
    obtain ⟨a, ws, rfl, sq, l2, r2⟩ := r1.list e1
    rw [allB_eq e3] at l2 r2
    have := zip_bl (by rw [← l2, List.length_map]) r2
    subst this
    exact ⟨a, ns, rfl, sq, h _ rfl⟩
  · cases e
theorem sBest {f : Int → List Int → Int} : ImpS K (rBest K f) (gBest f) := by
  intro H L ds vs d Q e l r h
  unfold gBest at e
  split at e
  · rename_i x
    obtain ⟨xs, e1, e2⟩ := Option.bind_eq_some_iff.mp e
    split at e2
    · rename_i n ns e3
      cases e2
      obtain ⟨v, rfl⟩ := len1 l
      have r1 : RepT K H ((x, v) :: L) := r
      obtain ⟨a, ws, rfl, sq, l2, r2⟩ := r1.seq e1
      rw [allI_eq e3] at l2 r2
      have := zip_int (by rw [← l2, List.length_map]) r2
      subst this
      exact ⟨a, n, ns, rfl, sq, h _ rfl⟩
    · cases e2
  · cases e
theorem sMin : ImpS K (rMinA K) gMin := by
  intro H L ds vs d Q e l r h
  unfold gMin at e
  split at e
  · exact .inl (sBest H L _ vs d Q e l r h)
  · unfold gMin2 at e
    split at e
    · cases e
      obtain ⟨v, w, rfl⟩ := len2 l
      have e1 := RepT.eq_int r
      have e2 := RepT.eq_int (RepT.drop r)
      subst e1; subst e2
      exact .inr ⟨_, _, rfl, h _ rfl⟩
    · cases e
theorem sMax : ImpS K (rMaxA K) gMax := by
  intro H L ds vs d Q e l r h
  unfold gMax at e
  split at e
  · exact .inl (sBest H L _ vs d Q e l r h)
  · unfold gMax2 at e
    split at e
    · cases e
      obtain ⟨v, w, rfl⟩ := len2 l
      have e1 := RepT.eq_int r
      have e2 := RepT.eq_int (RepT.drop r)
      subst e1; subst e2
      exact .inr ⟨_, _, rfl, h _ rfl⟩
    · cases e
def isSc (d : D) : Bool := (scD d).isSome
def dCallS (ks : List (Option Nat)) (g : List D → Option D) (f : M (List D)) : M D := bindM f fun ds ρ => match g (takeIO ks ds ρ).1 with
  | none => none
  | some d => if isSc d = true then some (.ok d ρ) else none
theorem tCBS_of {ks : List (Option Nat)} {r : List V → Hp → VK → Prop} {g : List D → Option D} {f : M (List D)} (hg : ImpS K r g) {Q : VK} (h : tOf K mg W m (dCallS ks g f) σ H Q) : tCB r (taIO K mg W m ks f) σ H Q := by
  obtain ⟨T, ρ, u, rep, hf, he⟩ := h
  unfold dCallS bindM at hf
  cases q : f ρ with
  | none => rw [q] at hf; cases hf
  | some w =>
    rw [q] at hf
    refine ⟨T, ρ, w, rep, q, ?_⟩
    cases w with
    | ex x ρ2 =>
      have : u = .ex x ρ2 := (Option.some.inj hf).symm
      subst this
      exact he
    | ok ds ρ1 =>
      intro tv vs H1 s1 l1 io r1
      obtain ⟨l2, r2⟩ := take_rep l1 io r1
      simp only at hf
      cases qg : g (takeIO ks ds ρ1).1 with
      | none => rw [qg] at hf; cases hf
      | some d =>
        rw [qg] at hf
        simp only at hf
        split at hf
        · have : u = .ok d ρ1 := (Option.some.inj hf).symm
          subst this
          refine hg H1 (T ++ SL (takeIO ks ds ρ1).2 σ) _ vs d Q qg l2 (by rw [← List.append_assoc]; exact r2.rep) fun z ez => ?_
          exact he z H1 s1 ((Rep.dropL r1).lift fun q => scD_rep ez q)
        · cases hf
theorem ve_callS {id : String} {ks : List (Option Nat)} {r : List V → Hp → VK → Prop} {g : List D → Option D} {f : M (List D)} {x : Str} {e : Expr} {es : List Expr} {p pos : Pos} (hc : CallR X (.builtin id) r) (hi : ImpS X.K r g) (hg : Gl X x) (hm : X.mg x = none) (hv : bootBuiltins x = some (.builtin id))
    (ha : VIO X W m ks (e :: es) f) (hn : x ≠ "__name__" := by decide) (hdb : (x == ("__debug__" : Str)) = false := by decide)
    (he : starEach (e :: es) X.env = (false, eval e X.env) :: starEach es X.env := by rfl) (hpl : (backTo pos (starEach es X.env)).any (·.1) = false := by rfl) : VE X W m (.Call (.Name x p) (e :: es) [] pos) (dCallS ks g f) :=
  PE.imp (pe_callB hc hg hm hv ha hn hdb he hpl) fun _ _ _ h => tCBS_of hi h
theorem ve_callST {id : String} {ks : List (Option Nat)} {r : List V → Hp → VK → Prop} {g : List D → Option D} {f : M (List D)} {x : Str} {e : Expr} {es : List Expr} {p pos : Pos} (hc : CallR X (.type id) r) (hi : ImpS X.K r g) (hg : Gl X x) (hm : X.mg x = none) (hv : bootBuiltins x = some (.type id))
    (ha : VIO X W m ks (e :: es) f) (hn : x ≠ "__name__" := by decide) (hdb : (x == ("__debug__" : Str)) = false := by decide)
    (he : starEach (e :: es) X.env = (false, eval e X.env) :: starEach es X.env := by rfl) (hpl : (backTo pos (starEach es X.env)).any (·.1) = false := by rfl) : VE X W m (.Call (.Name x p) (e :: es) [] pos) (dCallS ks g f) :=
  PE.imp (pe_callTy hc hg hm hv ha hn hdb he hpl) fun _ _ _ h => tCBS_of hi h
def scAll (xs : List D) : Bool := xs.all isSc
def gMulA (x y : D) : Option D := match x, y with
  | .lst _ xs, .int k => if in63 k ∧ xs.length * k.toNat ≤ sizeLine ∧ scAll xs = true then some (.lst true (List.replicate k.toNat xs).flatten) else none
  | _, _ => gMul x y
theorem sc_zip : ∀ {xs : List D} {vs : List V} {L : List (D × V)}, scAll xs = true → xs.length = vs.length → RepT K H (xs.zip vs ++ L) → xs.map scD = vs.map some
  | [], [], _, _, _, _ => rfl
  | [], _ :: _, _, _, l, _ => by cases l
  | _ :: _, [], _, _, l, _ => by cases l
  | x :: xs, v :: vs, L, z, l, r => by
    have z' : isSc x = true ∧ scAll xs = true := by simpa [scAll] using z
    have r1 : RepT K H ((x, v) :: (xs.zip vs ++ L)) := r
    obtain ⟨u, hu⟩ := Option.isSome_iff_exists.mp (show (scD x).isSome = true from z'.1)
    have := scD_eq hu r1
    subst this
    rw [List.map_cons, List.map_cons, hu, sc_zip z'.2 (Nat.succ.inj l) r1.drop]
theorem sc_reps : ∀ {xs : List D} {vs : List V} {L : List (D × V)}, xs.map scD = vs.map some → RepT K H L → RepT K H (xs.zip vs ++ L)
  | [], [], _, _, r => r
  | [], _ :: _, _, e, _ => by cases e
  | _ :: _, [], _, e, _ => by cases e
  | x :: xs, v :: vs, L, e, r => by
    rw [List.map_cons, List.map_cons] at e
    injection e with e1 e2
    exact scD_rep e1 (sc_reps e2 r)
theorem op_mulA : OpR X (binaryOp .Mult) (fun x y H Q => rRep x y H Q ∨ rI CMul (fun i j => .int (i * j)) x y H Q) := OpR.orr op_rep op_mul
theorem impMulA : Imp2 K (fun x y H Q => rRep x y H Q ∨ rI CMul (fun i j => .int (i * j)) x y H Q) gMulA := by
  intro H L x y d v w Q e r h
  unfold gMulA at e
  split at e
  · rename_i o xs k
    split at e
    · rename_i z
      cases e
      have ew := r.eq_int
      subst ew
      obtain ⟨a, vs, rfl, hq, l, r2⟩ := r.drop.readL
      have es := sc_zip z.2.2 l r2
      refine .inl ⟨a, k, vs, rfl, rfl, hq, z.1.lo, z.1.hi, by rw [← l]; exact z.2.1, fun p hp => h _ _ (Same.upd hp) (RepT.newL ?_ hp (sc_reps ?_ r.drop.drop))⟩
      · simp [l]
      · generalize k.toNat = n
        induction n with
        | zero => rfl
        | succ n ih => rw [List.replicate_succ, List.replicate_succ, List.flatten_cons, List.flatten_cons, List.map_append, List.map_append, ih, es]
    · cases e
  · exact .inr (impMul H L x y d v w Q e r h)
def cLt (i j : Int) : Bool := decide (i < j)
def cLe (i j : Int) : Bool := decide (i ≤ j)
def cGt (i j : Int) : Bool := decide (j < i)
def cGe (i j : Int) : Bool := decide (j ≤ i)
theorem op_ltC : OpR X (compareOp .Lt) (rCmp cLt) := op_lt
theorem op_leC : OpR X (compareOp .LtE) (rCmp cLe) := op_le
theorem op_gtC : OpR X (compareOp .Gt) (rCmp cGt) := op_gt
theorem op_geC : OpR X (compareOp .GtE) (rCmp cGe) := op_ge
structure Def (K : PySem.W.Frag) (mg : Str → Option Value) (x : Str) (st : Stmt) (ps : List Str) : Prop where
  ex : ∃ (f : Addr) (fd : FuncData), Fun K x x st f fd ∧ mg x = some (.ref f) ∧ Binds K fd ps []
structure Cal (P : Program) (w : World) (K : PySem.W.Frag) (mg : Str → Option Value) (base : Heap) (k : Nat) (x : Str) (ps : List Str) (F : FnD) : Prop where
  ex : ∃ (fa : Addr) (fd : FuncData), FnOk P w K mg base (L2N.CX P w) k fa fd ps (spOf K mg F) ∧ mg x = some (.ref fa) ∧ PySem.W.keepIn K (.ref fa) = true ∧ Binds K fd ps []
theorem Cal.mono {P : Program} {w : World} {base : Heap} {j k : Nat} {x : Str} {ps : List Str} {Fd : FnD} (c : Cal P w K mg base j x ps Fd) (h : j ≤ k) : Cal P w K mg base k x ps Fd := by
  obtain ⟨fa, fd, G, h1, h2, h3⟩ := c.ex
  exact ⟨fa, fd, G.mono h, h1, h2, h3⟩
theorem cal_mk {P : Program} {w : World} {base : Heap} {x : Str} {st : Stmt} {N ps : List Str} {k : Nat} {asg : List Nat} {g : MS} (D : Def K mg x st ps) (S : FnScope N ps (defScope st))
    (hbody : ∀ (f : Addr) (cdv : Value) (A : Around) (outer : List PySem.Env) (s : Shared) (H : Hp) (E : XK), Room k (A.deeper (envOfC x (defScope st) s.heap.objs.size f cdv)) →
      VSs (cxOf (L2N.CX P w) P w K mg base N x (defScope st) f cdv A outer s H E) (fun cls d _ H => E cls d H) asg (defBody st) g) :
    Cal P w K mg base (k + 1) x ps (fnD N.length ps.length asg g) := by
  obtain ⟨f, fd, F, hm, hb⟩ := D.ex
  exact ⟨f, fd, fn_ok F S (fun cdv A outer s H E hr => hbody f cdv A outer s H E hr), hm, F.kp, hb⟩
theorem cal_none {P : Program} {w : World} {base : Heap} {x : Str} {st : Stmt} {ps : List Str} {k : Nat} (D : Def K mg x st ps) : Cal P w K mg base k x ps (fun _ => none) := by
  obtain ⟨f, fd, F, hm, hb⟩ := D.ex
  refine ⟨f, fd, ⟨fun vs H Q E h => ?_, fun A outer s H args us vs Q E hr e0 hb r h => ?_⟩, hm, F.kp, hb⟩
  · obtain ⟨_, _, _, _, _, z, _⟩ := h; cases z
  · obtain ⟨_, _, _, _, _, z, _⟩ := h; cases z
theorem ve_fn {ks : List (Option Nat)} {Fd : FnD} {f : M (List D)} {k : Nat} {ps : List Str} {x : Str} {e : Expr} {es : List Expr} {p pos : Pos} (C : Cal X.prog X.w X.K X.mg X.base k x ps Fd) (hr : Room k X.A) (hg : Gl X x) (tk : L2N.Takes X W) (ha : VIO X W m ks (e :: es) f) (hdb : (x == ("__debug__" : Str)) = false := by decide)
    (he : starEach (e :: es) X.env = (false, eval e X.env) :: starEach es X.env := by rfl) (hpl : (backTo pos (starEach es X.env)).any (·.1) = false := by rfl) : VE X W true (.Call (.Name x p) (e :: es) [] pos) (dFn ks Fd f) := by
  obtain ⟨fa, fd, G, h1, h2, h3⟩ := C.ex
  exact ve_call G hr hg h1 h2 h3 tk ha hdb he hpl
end
end VS
set_option Elab.async false
set_option linter.all false
set_option maxRecDepth 100000
set_option maxHeartbeats 4000000
set_option autoImplicit false
noncomputable section
namespace VS
open PySem PySem.Spec PyProof.Rows L2
theorem b_len : bootBuiltins "len" = some (.builtin "len") := by decide +kernel
theorem b_sum : bootBuiltins "sum" = some (.builtin "sum") := by decide +kernel
theorem b_all : bootBuiltins "all" = some (.builtin "all") := by decide +kernel
theorem b_min : bootBuiltins "min" = some (.builtin "min") := by decide +kernel
theorem b_max : bootBuiltins "max" = some (.builtin "max") := by decide +kernel
theorem b_abs : bootBuiltins "abs" = some (.builtin "abs") := by decide +kernel
theorem b_sorted : bootBuiltins "sorted" = some (.builtin "sorted") := by decide +kernel
theorem b_int : bootBuiltins "int" = some (.type "int") := by decide +kernel
theorem b_list : bootBuiltins "list" = some (.type "list") := by decide +kernel
theorem b_tuple : bootBuiltins "tuple" = some (.type "tuple") := by decide +kernel
theorem b_bool : bootBuiltins "bool" = some (.type "bool") := by decide +kernel
theorem room65 {k : Nat} {A : Around} (hr : Room k A) : A.units + 65 < cLine := by have := hr.un; omega
def frzO (d : D) : Option D := if fz (freeze d) = true then some (freeze d) else none
def dFz (f : M D) : M D := bindM f fun d => optM (frzO d)
theorem ve_fz {X : Cx} {W : WX} {m : Bool} {e : Expr} {f : M D} (h : VE X W m e f) : VE X W m e (dFz f) := by
  refine PE.imp h fun σ H Q ⟨T, ρ, u, rep, hf, he⟩ => ?_
  refine run1 rep hf he fun x ρ1 v H1 h1 s1 r1 => ?_
  obtain ⟨d, e, rfl⟩ := optM_some h1
  unfold frzO at e
  split at e
  · cases e
    exact he v H1 s1 ⟨r1.len, r1.nos, RepT.freeze r1.rep⟩
  · cases e
theorem takesF {X : Cx} : L2N.Takes X WF := fun _ _ x => by
  obtain ⟨_, _, _, _, _, _, _, _, _, _, _, _, _, _, _, _, z⟩ := x
  exact z.elim
section
variable {K : PySem.W.Frag} {mg : Str → Option Value}
theorem def_mk {h : Heap} {f : Addr} {x : Str} {st : Stmt} {ps : List Str} {oc kV dc pm cd ct : Value} {od an : Option Addr} {sl : Array (Option Value)} (X : K.In h) (G : h.Ns mainGlobals mg)
    (a : PySem.W.nsIn K mainGlobals x = some (some (.ref f))) (l : K.lookup f = some ⟨oc, od, .func (PySem.W.fnOf x x (defArgs st) (defBody st) (defScope st) .none kV dc pm an cd ct), sl⟩) (c : PySem.W.codeIn K cd x = true) (k : PySem.W.keepIn K (.ref f) = true)
    (hb : ∀ (kV doc pm : Value) (an : Option Addr) (cdv ct : Value) (us : List Value), us.length = ps.length → bindArgs (PySem.W.fnOf x x (defArgs st) (defBody st) (defScope st) .none kV doc pm an cdv ct) ⟨us, []⟩ = pure (ps.zip us)) : Def K mg x st ps := by
  have F := fun_mk (st := st) l c k
  exact ⟨f, _, F, PySem.W.mg_of X G a, F.binds hb⟩
def GhS (H : Hp) : Prop := match ghP with
  | none => True
  | some p => H p.1 = some (.tbl #[])
def noTab (H : Hp) : Hp := fun b => match H b with
  | some (.tbl _) => none
  | o => o
theorem noTab_same (H : Hp) : Same (noTab H) H := fun b o e => by
  unfold noTab at e
  split at e
  · cases e
  · exact e
theorem noTab_of {H : Hp} {b : Addr} {o : HO} (e : H b = some o) (n : ∀ ps, o ≠ .tbl ps) : noTab H b = some o := by
  unfold noTab
  rw [e]
  cases o <;> first | rfl | exact absurd rfl (n _)
theorem noTab_g {H : Hp} (g : GhS H) : SameG (noTab H) H := ⟨noTab_same H, by
  unfold GhS at g
  unfold GhOk
  cases q : ghP with
  | none => trivial
  | some p =>
    rw [q] at g
    have g : H p.1 = some (.tbl #[]) := g
    refine ⟨by unfold noTab; rw [g], #[], g, True.intro, fun pos cv hc => ?_⟩
    have z : codeAmong pos [] = some cv := hc
    simp [codeAmong] at z⟩
theorem noTab_sq {H : Hp} {a : Addr} {xs : List V} (h : SqL K H a xs) : SqL K (noTab H) a xs := by
  rcases h with (h | ⟨o, h⟩) | h
  · exact .inl (.inl (noTab_of h fun ps z => by cases z))
  · exact .inl (.inr ⟨o, noTab_of h fun ps z => by cases z⟩)
  · exact .inr h
def spTrue (K : PySem.W.Frag) : Sp := fun vs H Q _ => ∃ (a : Addr) (ns : List Int), vs = [.ref a] ∧ SqL K H a (ns.map V.int) ∧ ns.length ≤ 63 ∧ GhS H ∧ ∀ H', Q (.bl true) H'
def Always (F : FnD) : Prop := ∀ ns : List Int, ns.length ≤ 63 → ∃ as, F [.scr (ns.map D.int)] = some (.ok (.bl true) as)
theorem law_sp {F : FnD} (h : Always F) {vs : List V} {H : Hp} {Q : VK} {E : XK} (hs : spTrue K vs H Q E) : spOf K mg F vs H Q E := by
  obtain ⟨a, ns, rfl, sq, hl, gs, q⟩ := hs
  obtain ⟨as, e⟩ := h ns hl
  refine ⟨[], [.scr (ns.map D.int)], _, rfl, RepT.script (noTab H) (noTab_g gs) (noTab_sq sq), e, ?_⟩
  intro v H' l r
  have := r.eq_bl
  subst this
  exact q H'
theorem cx_end {P : Program} {w : World} {H : Hp} {s : Shared} {e : Value} {s' : Shared} (h : L2N.CX P w [] H s (fun _ _ _ => False) e s') : False := by
  obtain ⟨_, _, _, _, _, _, _, _, _, _, _, _, z⟩ := h
  exact z
end
end VS
set_option Elab.async false
set_option linter.all false
set_option maxRecDepth 100000
set_option maxHeartbeats 4000000
set_option autoImplicit false
noncomputable section
namespace VS
open PySem PySem.Spec L2
section
variable {α β : Type} {ρ ρ1 ρ2 : Env} {r : Option (Fl × Env)}
theorem atI_0 {x : α} {xs : List α} : atI (x :: xs) 0 = some x := by simp [atI, ixN]
theorem atI_1 {x y : α} {xs : List α} : atI (x :: y :: xs) 1 = some y := by
  unfold atI ixN
  rw [if_pos (by decide), if_pos (by simp only [List.length_cons]; omega)]; rfl
theorem atI_2 {x y z : α} {xs : List α} : atI (x :: y :: z :: xs) 2 = some z := by
  unfold atI ixN
  rw [if_pos (by decide), if_pos (by simp only [List.length_cons]; omega)]; rfl
theorem atI_3 {x y z u : α} {xs : List α} : atI (x :: y :: z :: u :: xs) 3 = some u := by
  unfold atI ixN
  rw [if_pos (by decide), if_pos (by simp only [List.length_cons]; omega)]; rfl
theorem atI_lt {xs : List α} {i : Int} {x : α} (h0 : 0 ≤ i) (h : xs[i.toNat]? = some x) : atI xs i = some x := by
  have hl := (List.getElem?_eq_some_iff.mp h).1
  unfold atI ixN
  rw [if_pos h0, if_pos (by omega)]; exact h
theorem ixN_lt {n : Nat} {i : Int} (h0 : 0 ≤ i) (h : i < n) : ixN n i = some i.toNat := by
  unfold ixN
  rw [if_pos h0, if_pos h]
theorem fzL_ints (ns : List Int) : fzL (ns.map D.int) = true := by rw [fzL_all]; simp [fz]
theorem freezeL_ints (ns : List Int) : freezeL (ns.map D.int) = ns.map D.int := freezeL_fz _ (fzL_ints ns)
theorem lt_size {n : Nat} (h : n < 16000000) : n < sizeLine := by rw [PySem.sizeLine_eq]; omega
theorem le_size {n : Nat} (h : n ≤ 16000000) : n ≤ sizeLine := by rw [PySem.sizeLine_eq]; omega
def tI (xs : List Int) : D := .tup (xs.map D.int)
theorem dats_ints : ∀ xs : List Int, dats (xs.map D.int) = some (xs.map PyData.int)
  | [] => rfl
  | x :: xs => by rw [List.map_cons, dats, dats_ints xs]; rfl
theorem dat_tI (xs : List Int) : dat (tI xs) = some (.tuple (xs.map PyData.int)) := by unfold tI; rw [dat, dats_ints]; rfl
theorem leD_tI (xs ys : List Int) : leD (tI xs) (tI ys) = decide (xs ≤ ys) := by
  unfold leD
  have h := congrFun (congrFun (PySem.W.dataLe_rows (β := List Int) (fun b => b)) xs) ys
  rw [← h]
  unfold PySem.W.dataLe PySem.W.sortLe
  dsimp only
  rw [dat_tI, dat_tI]
  simp only [Option.getD_some, PySem.W.keyToks]
theorem dats_tIs : ∀ l : List (List Int), dats (l.map tI) = some (l.map fun xs => .tuple (xs.map PyData.int))
  | [] => rfl
  | x :: l => by rw [List.map_cons, dats, dats_tIs l, dat_tI]; rfl
theorem alike_ints : ∀ xs ys : List Int, PySem.W.alikeAll (xs.map PyData.int) (ys.map PyData.int) = true
  | [], _ => by simp [PySem.W.alikeAll]
  | _ :: _, [] => by simp [PySem.W.alikeAll]
  | x :: xs, y :: ys => by simp [PySem.W.alikeAll, PySem.W.alike, alike_ints xs ys]
theorem depth_ints : ∀ xs : List Int, PyData.depthAll (xs.map PyData.int) = 0
  | [] => rfl
  | x :: xs => by rw [List.map_cons, PyData.depthAll, depth_ints xs]; rfl
def leL (x y : List Int) : Bool := decide (x ≤ y)
theorem sortD_tI {l : List (List Int)} (hne : ∀ x ∈ l, x ≠ []) (hl : l.length ≤ sizeLine) : sortD (l.map tI) = some ((l.mergeSort leL).map tI) := by
  unfold sortD
  rw [dats_tIs]
  simp only
  rw [if_pos]
  · congr 1
    have := List.map_mergeSort (f := tI) (r := leL) (s := leD) (l := l) (fun x _ y _ => (leD_tI x y).symm)
    exact this.symm
  · refine ⟨?_, by rw [List.length_map]; exact hl⟩
    rw [Bool.and_eq_true, Bool.and_eq_true]
    refine ⟨⟨?_, ?_⟩, ?_⟩
    · unfold alikeB
      rw [List.all_eq_true]
      intro x hx
      rw [List.all_eq_true]
      intro y hy
      obtain ⟨a, _, rfl⟩ := List.mem_map.mp hx
      obtain ⟨b, _, rfl⟩ := List.mem_map.mp hy
      rw [PySem.W.alike]
      exact alike_ints a b
    · unfold sortB
      rw [Bool.or_eq_true]
      left
      rw [List.all_eq_true]
      intro x hx
      obtain ⟨a, ha, rfl⟩ := List.mem_map.mp hx
      cases a with
      | nil => exact absurd rfl (hne [] ha)
      | cons c a => rfl
    · rw [List.all_eq_true]
      intro x hx
      obtain ⟨a, _, rfl⟩ := List.mem_map.mp hx
      rw [PyData.depth, depth_ints]
      decide
end
end VS
set_option Elab.async false
set_option linter.all false
set_option maxRecDepth 100000
set_option maxHeartbeats 4000000
set_option autoImplicit false
noncomputable section
namespace VS
open PySem PySem.Spec L2
section
variable {α β : Type} {ρ : Env}
def nunk : Option D → Bool
  | none => false
  | some .unk => false
  | some _ => true
@[simp] theorem nu_non : nunk (some .non) = true := rfl
@[simp] theorem nu_hole : nunk (some .hole) = true := rfl
@[simp] theorem nu_bl {b : Bool} : nunk (some (.bl b)) = true := rfl
@[simp] theorem nu_int {b : Int} : nunk (some (.int b)) = true := rfl
@[simp] theorem nu_str {b : Str} : nunk (some (.str b)) = true := rfl
@[simp] theorem nu_adr {b : Addr} : nunk (some (.adr b)) = true := rfl
@[simp] theorem nu_exo {c : Str} {p : Option (Str × Int)} : nunk (some (.exo c p)) = true := rfl
@[simp] theorem nu_tup {b : List D} : nunk (some (.tup b)) = true := rfl
@[simp] theorem nu_lst {o : Bool} {b : List D} : nunk (some (.lst o b)) = true := rfl
@[simp] theorem nu_scr {b : List D} : nunk (some (.scr b)) = true := rfl
@[simp] theorem nu_ktp {b : List D} : nunk (some (.ktp b)) = true := rfl
@[simp] theorem nu_dK {o : Bool} {k : List Key} {b : List D} : nunk (some (.dK o k b)) = true := rfl
@[simp] theorem nu_dT {o : Bool} {k : List (List Key)} {b : List D} : nunk (some (.dT o k b)) = true := rfl
@[simp] theorem nu_lK {k : List Key} {b : List D} : nunk (some (.lK k b)) = true := rfl
@[simp] theorem nu_lT {k : List (List Key)} {b : List D} : nunk (some (.lT k b)) = true := rfl
@[simp] theorem nu_lck {o : HO} : nunk (some (.lck o)) = true := rfl
@[simp] theorem nu_unk : nunk (some .unk) = false := rfl
theorem u_dIO {i : Nat} {g : M (List D)} : dIO i g ρ = (if nunk ρ[i]? = true then g ρ else none) := by
  unfold dIO
  cases ρ[i]? with
  | none => rfl
  | some d => cases d <;> rfl
@[simp] theorem u_take0 {ds : List D} : takeIO [] ds ρ = ([], ρ) := rfl
@[simp] theorem u_takeN {ks : List (Option Nat)} {d : D} {ds : List D} : takeIO (none :: ks) (d :: ds) ρ = (d :: (takeIO ks ds ρ).1, (takeIO ks ds ρ).2) := rfl
@[simp] theorem u_takeS {ks : List (Option Nat)} {i : Nat} {ds : List D} : takeIO (some i :: ks) ds ρ = (ρ.getD i .unk :: (takeIO ks ds (ρ.set i .unk)).1, (takeIO ks ds (ρ.set i .unk)).2) := rfl
@[simp] theorem u_give0 {as : List D} : giveIO [] as ρ = ρ := by cases as <;> rfl
@[simp] theorem u_giveN {ks : List (Option Nat)} {d : D} {ds : List D} : giveIO (none :: ks) (d :: ds) ρ = giveIO ks ds ρ := rfl
@[simp] theorem u_giveS {ks : List (Option Nat)} {i : Nat} {d : D} {ds : List D} : giveIO (some i :: ks) (d :: ds) ρ = giveIO ks ds (ρ.set i d) := rfl
@[simp] theorem u_frzO {d : D} : frzO d = if fz (freeze d) = true then some (freeze d) else none := rfl
theorem u_dIxS {i : Nat} {f : M D} : dIxS i f ρ = (if nunk ρ[i]? = true then bindM f (fun y ρ => match (ρ.getD i .unk), y with
    | x, .int k => match seqOf x with
      | some ds => match atI ds k with
        | some d => if fz d = true then some (.ok d ρ) else none
        | none => none
      | none => none
    | _, _ => none) ρ else none) := by
  unfold dIxS
  cases ρ[i]? with
  | none => rfl
  | some d => cases d <;> rfl
theorem u_dGetS {i : Nat} {f : M D} : dGetS i f ρ = (if nunk ρ[i]? = true then bindM f (getS i) ρ else none) := by
  unfold dGetS
  cases ρ[i]? with
  | none => rfl
  | some d => cases d <;> rfl
@[simp] theorem u_isDct0 : isDct none = false := rfl
@[simp] theorem u_isDctL {o : Bool} {ds : List D} : isDct (some (.lst o ds)) = false := rfl
@[simp] theorem u_isDctT {ds : List D} : isDct (some (.tup ds)) = false := rfl
@[simp] theorem u_isDctS {ds : List D} : isDct (some (.scr ds)) = false := rfl
@[simp] theorem u_isDctK {o : Bool} {ks : List Key} {ds : List D} : isDct (some (.dK o ks ds)) = true := rfl
@[simp] theorem u_isDctT2 {o : Bool} {ks : List (List Key)} {ds : List D} : isDct (some (.dT o ks ds)) = true := rfl
@[simp] theorem u_seqL {o : Bool} {ds : List D} : seqOf (.lst o ds) = some ds := rfl
@[simp] theorem u_seqT {ds : List D} : seqOf (.tup ds) = some ds := rfl
@[simp] theorem u_seqS {ds : List D} : seqOf (.scr ds) = some ds := rfl
@[simp] theorem u_seqK {ds : List D} : seqOf (.ktp ds) = some ds := rfl
@[simp] theorem u_lstL {o : Bool} {ds : List D} : lstOf (.lst o ds) = some ds := rfl
@[simp] theorem u_lstS {ds : List D} : lstOf (.scr ds) = some ds := rfl
@[simp] theorem u_lstT {ds : List D} : lstOf (.tup ds) = none := rfl
@[simp] theorem u_gIx {x y : D} : gIx x y = (match seqOf x, y with
  | some ds, .int i => atI ds i
  | _, _ => none) := rfl
@[simp] theorem u_fzI {i : Int} : fz (.int i) = true := by rw [fz]
@[simp] theorem u_fzB {i : Bool} : fz (.bl i) = true := by rw [fz]
@[simp] theorem u_fzN : fz .non = true := by rw [fz]
@[simp] theorem u_fzS {x : Str} : fz (.str x) = true := by rw [fz]
@[simp] theorem u_fzAdr {a : Addr} : fz (.adr a) = true := by rw [fz]
@[simp] theorem u_fzExo {c : Str} {p : Option (Str × Int)} : fz (.exo c p) = true := by rw [fz]
@[simp] theorem u_frAdr {a : Addr} : freeze (.adr a) = .adr a := by rw [freeze]
@[simp] theorem u_frExo {c : Str} {p : Option (Str × Int)} : freeze (.exo c p) = .exo c p := by rw [freeze]
@[simp] theorem u_fzT {ds : List D} : fz (.tup ds) = fzL ds := by rw [fz]
@[simp] theorem u_fzL {o : Bool} {ds : List D} : fz (.lst o ds) = (!o && fzL ds) := by rw [fz]
@[simp] theorem u_fzC {ds : List D} : fz (.scr ds) = fzL ds := by rw [fz]
@[simp] theorem u_fzD {o : Bool} {ks : List (List Key)} {ds : List D} : fz (.dT o ks ds) = (!o && fzL ds) := by rw [fz]
@[simp] theorem u_fzDK {o : Bool} {ks : List Key} {ds : List D} : fz (.dK o ks ds) = (!o && fzL ds) := by rw [fz]
@[simp] theorem u_fzL0 : fzL [] = true := by rw [fzL]
@[simp] theorem u_fzL1 {d : D} {ds : List D} : fzL (d :: ds) = (fz d && fzL ds) := by rw [fzL]
@[simp] theorem u_fzLi {ns : List Int} : fzL (ns.map D.int) = true := fzL_ints ns
@[simp] theorem u_frI {i : Int} : freeze (.int i) = .int i := by rw [freeze]
@[simp] theorem u_frB {i : Bool} : freeze (.bl i) = .bl i := by rw [freeze]
@[simp] theorem u_frN : freeze .non = .non := by rw [freeze]
@[simp] theorem u_frS {x : Str} : freeze (.str x) = .str x := by rw [freeze]
@[simp] theorem u_frT {ds : List D} : freeze (.tup ds) = .tup (freezeL ds) := by rw [freeze]
@[simp] theorem u_frL {o : Bool} {ds : List D} : freeze (.lst o ds) = .lst false (freezeL ds) := by rw [freeze]
@[simp] theorem u_frC {ds : List D} : freeze (.scr ds) = .scr (freezeL ds) := by rw [freeze]
@[simp] theorem u_frD {o : Bool} {ks : List (List Key)} {ds : List D} : freeze (.dT o ks ds) = .dT false ks (freezeL ds) := by rw [freeze]
@[simp] theorem u_frDK {o : Bool} {ks : List Key} {ds : List D} : freeze (.dK o ks ds) = .dK false ks (freezeL ds) := by rw [freeze]
@[simp] theorem u_frL0 : freezeL [] = [] := by rw [freezeL]
@[simp] theorem u_frL1 {d : D} {ds : List D} : freezeL (d :: ds) = freeze d :: freezeL ds := by rw [freezeL]
@[simp] theorem u_frLi {ns : List Int} : freezeL (ns.map D.int) = ns.map D.int := freezeL_ints ns
@[simp] theorem u_at0 {x : α} {xs : List α} : atI (x :: xs) 0 = some x := atI_0
@[simp] theorem u_at1 {x y : α} {xs : List α} : atI (x :: y :: xs) 1 = some y := atI_1
@[simp] theorem u_at2 {x y z : α} {xs : List α} : atI (x :: y :: z :: xs) 2 = some z := atI_2
@[simp] theorem u_at3 {x y z u : α} {xs : List α} : atI (x :: y :: z :: u :: xs) 3 = some u := atI_3
@[simp] theorem u_add {i j : Int} : gAdd (.int i) (.int j) = some (.int (i + j)) := rfl
@[simp] theorem u_addL {o o' : Bool} {xs ys : List D} : gAdd (.lst o xs) (.lst o' ys) = if xs.length + ys.length ≤ sizeLine then some (.lst true (xs ++ ys)) else none := rfl
@[simp] theorem u_addT {xs ys : List D} : gAdd (.tup xs) (.tup ys) = if xs.length + ys.length ≤ sizeLine then some (.tup (xs ++ ys)) else none := rfl
@[simp] theorem u_sub {i j : Int} : gSub (.int i) (.int j) = some (.int (i - j)) := rfl
@[simp] theorem u_mod {i j : Int} : gMod (.int i) (.int j) = if 0 < j then some (.int (i % j)) else none := by
  unfold gMod gInt cMod
  simp only [decide_eq_true_eq]
@[simp] theorem u_div {i j : Int} : gDiv (.int i) (.int j) = if in30 j then some (.int (i / j)) else none := by
  unfold gDiv gInt cDiv
  simp only [decide_eq_true_eq]
@[simp] theorem u_mulA {i j : Int} : gMulA (.int i) (.int j) = if in64 i ∨ in64 j then some (.int (i * j)) else none := by
  show gMul _ _ = _
  unfold gMul gInt cMul
  simp only [Bool.or_eq_true, decide_eq_true_eq]
@[simp] theorem u_pow {i j : Int} : gPow (.int i) (.int j) = if 0 ≤ j ∧ j ≤ 1000000 ∧ i.natAbs < 2 ^ 64 then some (.int (i ^ j.toNat)) else none := by
  unfold gPow gInt cPow
  simp only [Bool.and_eq_true, decide_eq_true_eq, and_assoc]
@[simp] theorem u_cmp {p : Int → Int → Bool} {i j : Int} : gCmp p (.int i) (.int j) = some (.bl (p i j)) := rfl
@[simp] theorem u_cLt {i j : Int} : cLt i j = decide (i < j) := rfl
@[simp] theorem u_cLe {i j : Int} : cLe i j = decide (i ≤ j) := rfl
@[simp] theorem u_cGt {i j : Int} : cGt i j = decide (j < i) := rfl
@[simp] theorem u_cGe {i j : Int} : cGe i j = decide (j ≤ i) := rfl
theorem sh_int {i : Int} : SeqAt.shaped (.int i) = true := by unfold SeqAt.shaped; rw [PyData.canLay0, PyData.depth]; rfl
theorem sh_bl {i : Bool} : SeqAt.shaped (.bool i) = true := by unfold SeqAt.shaped; rw [PyData.canLay0, PyData.depth]; rfl
@[simp] theorem u_eqI {i j : Int} : gEq (.int i) (.int j) = some (.bl (decide (i = j))) := by
  unfold gEq eqD
  simp only [dat, sh_int, and_self, if_true, Option.map_some, PyData.eqv]
  congr 2
@[simp] theorem u_neI {i j : Int} : gNe (.int i) (.int j) = some (.bl (!decide (i = j))) := by
  unfold gNe eqD
  simp only [dat, sh_int, and_self, if_true, Option.map_some, PyData.eqv]
  congr 3
@[simp] theorem u_eqB {i j : Bool} : gEq (.bl i) (.bl j) = some (.bl (i == j)) := by
  unfold gEq eqD
  simp only [dat, sh_bl, and_self, if_true, Option.map_some, PyData.eqv]
@[simp] theorem u_neB {i j : Bool} : gNe (.bl i) (.bl j) = some (.bl (!(i == j))) := by
  unfold gNe eqD
  simp only [dat, sh_bl, and_self, if_true, Option.map_some, PyData.eqv]
@[simp] theorem u_scI {i : Int} : isSc (.int i) = true := rfl
@[simp] theorem u_scB {i : Bool} : isSc (.bl i) = true := rfl
@[simp] theorem u_len {d : D} : gLen [d] = (lenD d).map fun (n : Nat) => D.int (n : Int) := rfl
@[simp] theorem u_lenL {o : Bool} {ds : List D} : lenD (.lst o ds) = some ds.length := rfl
@[simp] theorem u_lenT {ds : List D} : lenD (.tup ds) = some ds.length := rfl
@[simp] theorem u_lenS {ds : List D} : lenD (.scr ds) = some ds.length := rfl
@[simp] theorem u_lenD {o : Bool} {ks : List (List Key)} {ds : List D} : lenD (.dT o ks ds) = some ks.length := rfl
@[simp] theorem u_lenDK {o : Bool} {ks : List Key} {ds : List D} : lenD (.dK o ks ds) = some ks.length := rfl
@[simp] theorem u_abs {i : Int} : gAbs [.int i] = some (.int (if i < 0 then -i else i)) := rfl
@[simp] theorem u_intI {i : Int} : gIntOf [.int i] = some (.int i) := rfl
@[simp] theorem u_intB {i : Bool} : gIntOf [.bl i] = some (.int (if i then 1 else 0)) := rfl
@[simp] theorem u_min2 {i j : Int} : gMin [.int i, .int j] = some (.int (min i j)) := by
  unfold gMin
  show gMin2 [.int i, .int j] = some (.int (min i j))
  unfold gMin2
  have : (if j < i then j else i) = min i j := by split <;> omega
  show some (D.int (if j < i then j else i)) = _
  rw [this]
@[simp] theorem u_max2 {i j : Int} : gMax [.int i, .int j] = some (.int (max i j)) := by
  unfold gMax
  show gMax2 [.int i, .int j] = some (.int (max i j))
  unfold gMax2
  have : (if j > i then j else i) = max i j := by split <;> omega
  show some (D.int (if j > i then j else i)) = _
  rw [this]
@[simp] theorem u_minT {i j : Int} : gMin [.tup [.int i, .int j]] = some (.int (min i j)) := rfl
@[simp] theorem u_maxT {i j : Int} : gMax [.tup [.int i, .int j]] = some (.int (max i j)) := rfl
@[simp] theorem u_sum {o : Bool} {ns : List Int} : gSum [.lst o (ns.map D.int)] = some (.int ns.sum) := by
  unfold gSum
  simp only [u_lstL, Option.bind_some, allI_map, Option.map_some]
@[simp] theorem u_tupleL {o : Bool} {ds : List D} : gTuple [.lst o ds] = some (.tup ds) := rfl
@[simp] theorem u_tupleT {ds : List D} : gTuple [.tup ds] = some (.tup ds) := rfl
@[simp] theorem u_gNms0 : gNms [] [] ρ = some ρ := rfl
@[simp] theorem u_gNms1 {i : Nat} {is : List Nat} {d : D} {ds : List D} : gNms (i :: is) (d :: ds) ρ = gNms is ds (ρ.set i d) := rfl
@[simp] theorem u_isLst {o : Bool} {ds : List D} : isLst (some (.lst o ds)) = true := rfl
@[simp] theorem u_gApp {xs : List D} {d : D} : gApp xs [d] = if xs.length < sizeLine then some (.non, xs ++ [d]) else none := rfl
@[simp] theorem u_gIns {xs : List D} {i : Int} {d : D} : gIns xs [.int i, d] = if xs.length < sizeLine ∧ 0 ≤ i ∧ in63 i then some (.non, xs.take i.toNat ++ [d] ++ xs.drop i.toNat) else none := rfl
@[simp] theorem u_gExt {xs ys : List D} {o : Bool} : gExt xs [.lst o ys] = if xs.length + ys.length ≤ sizeLine then some (.non, xs ++ ys) else none := rfl
theorem u_dPut {i : Nat} {fk fe : M D} : dPut i fk fe ρ = bindS fe (fun d ρ1 => if nunk ρ1[i]? = true then bindS fk (putS i d) ρ1 else none) ρ := by
  unfold dPut
  congr 1
  funext d ρ1
  cases ρ1[i]? with
  | none => rfl
  | some d => cases d <;> rfl
@[simp] theorem u_putL {xs : List D} {n : Int} {d : D} : VS.putAt (.lst true xs) (.int n) d = (ixN xs.length n).map fun j => .lst true (xs.set j d) := rfl
theorem inR_le {i : Int} (h : 0 ≤ i) (g : i ≤ 1000000) : inR i := ⟨Int.le_trans (by decide) h, Int.lt_of_le_of_lt g (by decide)⟩
@[simp] theorem inR_0 : inR 0 := inR_le (by decide) (by decide)
@[simp] theorem inR_1 : inR 1 := inR_le (by decide) (by decide)
@[simp] theorem inR_2 : inR 2 := inR_le (by decide) (by decide)
@[simp] theorem inR_3 : inR 3 := inR_le (by decide) (by decide)
@[simp] theorem inR_4 : inR 4 := inR_le (by decide) (by decide)
@[simp] theorem inR_5 : inR 5 := inR_le (by decide) (by decide)
@[simp] theorem inR_6 : inR 6 := inR_le (by decide) (by decide)
@[simp] theorem inR_7 : inR 7 := inR_le (by decide) (by decide)
@[simp] theorem inR_8 : inR 8 := inR_le (by decide) (by decide)
@[simp] theorem inR_9 : inR 9 := inR_le (by decide) (by decide)
@[simp] theorem inR_10 : inR 10 := inR_le (by decide) (by decide)
@[simp] theorem inR_11 : inR 11 := inR_le (by decide) (by decide)
@[simp] theorem inR_12 : inR 12 := inR_le (by decide) (by decide)
@[simp] theorem inR_13 : inR 13 := inR_le (by decide) (by decide)
@[simp] theorem inR_14 : inR 14 := inR_le (by decide) (by decide)
@[simp] theorem inR_15 : inR 15 := inR_le (by decide) (by decide)
@[simp] theorem inR_16 : inR 16 := inR_le (by decide) (by decide)
@[simp] theorem inR_18 : inR 18 := inR_le (by decide) (by decide)
@[simp] theorem inR_20 : inR 20 := inR_le (by decide) (by decide)
@[simp] theorem inR_24 : inR 24 := inR_le (by decide) (by decide)
@[simp] theorem inR_30 : inR 30 := inR_le (by decide) (by decide)
@[simp] theorem inR_32 : inR 32 := inR_le (by decide) (by decide)
@[simp] theorem inR_40 : inR 40 := inR_le (by decide) (by decide)
@[simp] theorem inR_48 : inR 48 := inR_le (by decide) (by decide)
@[simp] theorem inR_50 : inR 50 := inR_le (by decide) (by decide)
@[simp] theorem inR_60 : inR 60 := inR_le (by decide) (by decide)
@[simp] theorem inR_63 : inR 63 := inR_le (by decide) (by decide)
@[simp] theorem inR_64 : inR 64 := inR_le (by decide) (by decide)
@[simp] theorem inR_100 : inR 100 := inR_le (by decide) (by decide)
@[simp] theorem inR_200 : inR 200 := inR_le (by decide) (by decide)
@[simp] theorem inR_220 : inR 220 := inR_le (by decide) (by decide)
@[simp] theorem inR_900 : inR 900 := inR_le (by decide) (by decide)
@[simp] theorem u_range1 {j : Int} : rangeD1 [.int j] = if inR j then some (intsD 0 j.toNat) else none := rfl
@[simp] theorem u_range2 {i j : Int} : rangeD2 [.int i, .int j] = if inR i ∧ inR j then some (intsD i (j - i).toNat) else none := rfl
theorem in64_bd {i : Int} (h : -1000000000000000000 ≤ i) (g : i ≤ 1000000000000000000) : in64 i := ⟨Int.lt_of_lt_of_le (by decide) h, Int.lt_of_le_of_lt g (by decide)⟩
theorem in63_bd {i : Int} (h : -1000000000000000000 ≤ i) (g : i ≤ 1000000000000000000) : in63 i := ⟨Int.le_trans (by decide) h, Int.lt_of_le_of_lt g (by decide)⟩
@[simp] theorem in64_0 : in64 (0) := ⟨by decide, by decide⟩
@[simp] theorem in64_1 : in64 (1) := ⟨by decide, by decide⟩
@[simp] theorem in64_m1 : in64 (-1) := ⟨by decide, by decide⟩
@[simp] theorem in64_2 : in64 (2) := ⟨by decide, by decide⟩
@[simp] theorem in64_3 : in64 (3) := ⟨by decide, by decide⟩
@[simp] theorem in64_4 : in64 (4) := ⟨by decide, by decide⟩
@[simp] theorem in64_5 : in64 (5) := ⟨by decide, by decide⟩
@[simp] theorem in64_6 : in64 (6) := ⟨by decide, by decide⟩
@[simp] theorem in64_7 : in64 (7) := ⟨by decide, by decide⟩
@[simp] theorem in64_8 : in64 (8) := ⟨by decide, by decide⟩
@[simp] theorem in64_9 : in64 (9) := ⟨by decide, by decide⟩
@[simp] theorem in64_10 : in64 (10) := ⟨by decide, by decide⟩
@[simp] theorem in64_12 : in64 (12) := ⟨by decide, by decide⟩
@[simp] theorem in64_16 : in64 (16) := ⟨by decide, by decide⟩
@[simp] theorem in64_64 : in64 (64) := ⟨by decide, by decide⟩
@[simp] theorem in64_100 : in64 (100) := ⟨by decide, by decide⟩
@[simp] theorem in64_131 : in64 (131) := ⟨by decide, by decide⟩
@[simp] theorem in64_977 : in64 (977) := ⟨by decide, by decide⟩
@[simp] theorem in64_1000 : in64 (1000) := ⟨by decide, by decide⟩
@[simp] theorem in64_48271 : in64 (48271) := ⟨by decide, by decide⟩
@[simp] theorem in64_40693 : in64 (40693) := ⟨by decide, by decide⟩
@[simp] theorem in64_40692 : in64 (40692) := ⟨by decide, by decide⟩
@[simp] theorem in64_69621 : in64 (69621) := ⟨by decide, by decide⟩
@[simp] theorem in64_100000 : in64 (100000) := ⟨by decide, by decide⟩
@[simp] theorem in64_1000000 : in64 (1000000) := ⟨by decide, by decide⟩
@[simp] theorem in64_1000003 : in64 (1000003) := ⟨by decide, by decide⟩
@[simp] theorem in30_1 : in30 1 := ⟨by decide, by decide⟩
@[simp] theorem in30_2 : in30 2 := ⟨by decide, by decide⟩
@[simp] theorem in30_3 : in30 3 := ⟨by decide, by decide⟩
@[simp] theorem in30_4 : in30 4 := ⟨by decide, by decide⟩
@[simp] theorem in30_5 : in30 5 := ⟨by decide, by decide⟩
@[simp] theorem in30_6 : in30 6 := ⟨by decide, by decide⟩
@[simp] theorem in30_7 : in30 7 := ⟨by decide, by decide⟩
@[simp] theorem in30_8 : in30 8 := ⟨by decide, by decide⟩
@[simp] theorem in30_9 : in30 9 := ⟨by decide, by decide⟩
@[simp] theorem in30_10 : in30 10 := ⟨by decide, by decide⟩
@[simp] theorem in30_64 : in30 64 := ⟨by decide, by decide⟩
@[simp] theorem in30_100 : in30 100 := ⟨by decide, by decide⟩
@[simp] theorem in30_1000 : in30 1000 := ⟨by decide, by decide⟩
@[simp] theorem in30_100000 : in30 100000 := ⟨by decide, by decide⟩
@[simp] theorem in30_1000000 : in30 1000000 := ⟨by decide, by decide⟩
@[simp] theorem in30_1000003 : in30 1000003 := ⟨by decide, by decide⟩
@[simp] theorem u_itemsL {o : Bool} {ds : List D} : itemsOf (.lst o ds) = if fzL (freezeL ds) = true then some (freezeL ds) else none := rfl
@[simp] theorem u_itemsT {ds : List D} : itemsOf (.tup ds) = if fzL (freezeL ds) = true then some (freezeL ds) else none := rfl
@[simp] theorem u_itemsS {ds : List D} : itemsOf (.scr ds) = if fzL (freezeL ds) = true then some (freezeL ds) else none := rfl
@[simp] theorem u_intOf {i : Int} : intOf (.int i) = some i := rfl
@[simp] theorem u_slL {o : Bool} {ds : List D} {lo hi : Option Int} : gSlice (.lst o ds) lo hi = some (.lst true (cutD ds lo hi)) := rfl
@[simp] theorem u_slS {ds : List D} {lo hi : Option Int} : gSlice (.scr ds) lo hi = some (.lst true (cutD ds lo hi)) := rfl
@[simp] theorem u_slT {ds : List D} {lo hi : Option Int} : gSlice (.tup ds) lo hi = some (.tup (cutD ds lo hi)) := rfl
@[simp] theorem u_outD {np : Nat} {asg : List Nat} : outD np asg ρ = (wipeD ρ asg).take np := rfl
@[simp] theorem u_wipe0 : wipeD ρ [] = ρ := rfl
@[simp] theorem u_wipe1 {i : Nat} {is : List Nat} : wipeD ρ (i :: is) = (wipeD ρ is).set i .unk := rfl
@[simp] theorem u_sz0 : (0 : Nat) ≤ sizeLine := Nat.zero_le _
@[simp] theorem u_sz1 : (1 : Nat) ≤ sizeLine := by decide
@[simp] theorem u_sz2 : (2 : Nat) ≤ sizeLine := by decide
@[simp] theorem u_sz3 : (3 : Nat) ≤ sizeLine := by decide
@[simp] theorem u_sz4 : (4 : Nat) ≤ sizeLine := by decide
@[simp] theorem u_sz5 : (5 : Nat) ≤ sizeLine := by decide
@[simp] theorem u_sz6 : (6 : Nat) ≤ sizeLine := by decide
@[simp] theorem u_sz8 : (8 : Nat) ≤ sizeLine := by decide
end
end VS
set_option Elab.async false
set_option linter.all false
set_option maxRecDepth 100000
set_option maxHeartbeats 4000000
set_option autoImplicit false
noncomputable section
namespace VS
open PySem PySem.Spec L2
section
variable {ρ : Env}
def k2 (p : Int × Int) : List Key := [.inl p.1, .inl p.2]
theorem k2_inj {p q : Int × Int} (h : k2 p = k2 q) : p = q := by
  unfold k2 at h
  simp at h
  exact Prod.ext h.1 h.2
theorem look_k2 : ∀ (ks : List (Int × Int)) (ls : List Int) (p : Int × Int), look (ks.map k2) (ls.map D.int) (k2 p) = (look ks ls p).map D.int
  | [], _, _ => by simp [look]
  | _ :: _, [], _ => by simp [look]
  | k :: ks, l :: ls, p => by
    rw [List.map_cons, List.map_cons, look, look]
    by_cases e : k = p
    · rw [if_pos (by rw [e]), if_pos e]; rfl
    · rw [if_neg (fun h => e (k2_inj h)), if_neg e, look_k2 ks ls p]
theorem putL_k2 : ∀ (ks : List (Int × Int)) (ls : List Int) (p : Int × Int) (l : Int), putL (ks.map k2) (ls.map D.int) (k2 p) (D.int l) = ((putL ks ls p l).1.map k2, (putL ks ls p l).2.map D.int)
  | [], _, _, _ => by simp [putL]
  | _ :: _, [], _, _ => by simp [putL]
  | k :: ks, a :: ls, p, l => by
    rw [List.map_cons, List.map_cons, putL, putL]
    by_cases e : k = p
    · rw [if_pos (by rw [e]), if_pos e]; rfl
    · rw [if_neg (fun h => e (k2_inj h)), if_neg e, putL_k2 ks ls p l]; rfl
theorem look_mem {κ α : Type} [DecidableEq κ] : ∀ (ks : List κ) (as : List α) (k : κ), ks.length = as.length → k ∈ ks → ∃ a, look ks as k = some a
  | [], _, _, _, h => by cases h
  | _ :: _, [], _, h, _ => by cases h
  | k' :: ks, b :: as, k, h, hk => by
    rw [look]
    by_cases e : k' = k
    · exact ⟨b, if_pos e⟩
    · rw [if_neg e]
      rcases List.mem_cons.mp hk with z | z
      · exact absurd z.symm e
      · exact look_mem ks as k (Nat.succ.inj h) z
theorem look_no {κ α : Type} [DecidableEq κ] : ∀ (ks : List κ) (as : List α) (k : κ), k ∉ ks → look ks as k = none
  | [], _, _, _ => by simp [look]
  | _ :: _, [], _, _ => by simp [look]
  | k' :: ks, b :: as, k, h => by
    rw [look, if_neg (fun e => h (by rw [e]; exact List.mem_cons_self)), look_no ks as k (fun z => h (List.mem_cons_of_mem _ z))]
def dP (o : Bool) (ks : List (Int × Int)) (ls : List Int) : D := .dT o (ks.map k2) (ls.map D.int)
@[simp] theorem u_isDctP {o : Bool} {ks : List (Int × Int)} {ls : List Int} : isDct (some (dP o ks ls)) = true := rfl
@[simp] theorem nu_P {o : Bool} {ks : List (Int × Int)} {ls : List Int} : nunk (some (dP o ks ls)) = true := rfl
@[simp] theorem u_lenP {o : Bool} {ks : List (Int × Int)} {ls : List Int} : lenD (dP o ks ls) = some ks.length := by show some (ks.map k2).length = _; rw [List.length_map]
@[simp] theorem u_fzP {ks : List (Int × Int)} {ls : List Int} : fz (dP false ks ls) = true := by unfold dP; rw [u_fzD]; simp
@[simp] theorem u_frP {o : Bool} {ks : List (Int × Int)} {ls : List Int} : freeze (dP o ks ls) = dP false ks ls := by unfold dP; rw [u_frD]; simp
@[simp] theorem u_putP {ks : List (Int × Int)} {ls : List Int} {a b l : Int} : VS.putAt (dP true ks ls) (.tup [.int a, .int b]) (.int l) = if ks.length < sizeLine then some (dP true (putL ks ls (a, b) l).1 (putL ks ls (a, b) l).2) else none := by
  unfold dP
  show (if (ks.map k2).length < sizeLine then some (D.dT true (putL (ks.map k2) (ls.map D.int) (k2 (a, b)) (D.int l)).1 (putL (ks.map k2) (ls.map D.int) (k2 (a, b)) (D.int l)).2) else none) = _
  rw [List.length_map, putL_k2]
@[simp] theorem u_lookP {o : Bool} {ks : List (Int × Int)} {ls : List Int} {a b : Int} : lookD (dP o ks ls) (.tup [.int a, .int b]) = (look ks ls (a, b)).map D.int := by
  unfold dP
  show look (ks.map k2) (ls.map D.int) (k2 (a, b)) = _
  rw [look_k2]
@[simp] theorem u_dSetd {i : Nat} {fy fd : M D} : dSetd i fy fd ρ = (if isDct ρ[i]? = true then bindM fy (fun y => bindM fd (setdS i y)) ρ else none) := rfl
theorem setd_P {i : Nat} {ks : List (Int × Int)} {ls : List Int} {a b l : Int} (h : ρ[i]? = some (dP true ks ls)) (hs : ks.length < sizeLine) : setdS i (.tup [.int a, .int b]) (.int l) ρ = some (.ok .unk (ρ.set i (if (a, b) ∈ ks then dP true ks ls else dP true (putL ks ls (a, b) l).1 (putL ks ls (a, b) l).2))) ∨ ks.length ≠ ls.length := by
  by_cases hl : ks.length = ls.length
  · left
    have e : setdS i (.tup [.int a, .int b]) (.int l) ρ = (match ρ.getD i .unk, D.tup [.int a, .int b] with
      | .dT true ks ds, .tup es => match keysD es with
        | some k => if ks.length < sizeLine ∧ fz (D.int l) = true then (match look ks ds k with
          | some _ => some (.ok .unk ρ)
          | none => some (.ok .unk (ρ.set i (.dT true (putL ks ds k (.int l)).1 (putL ks ds k (.int l)).2)))) else none
        | none => none
      | _, _ => none) := rfl
    rw [e, List.getD, h, Option.getD_some]
    unfold dP
    simp only [show keysD [D.int a, D.int b] = some (k2 (a, b)) from rfl]
    rw [if_pos ⟨by rw [List.length_map]; exact hs, u_fzI⟩, look_k2, putL_k2]
    by_cases hm : (a, b) ∈ ks
    · obtain ⟨x, hx⟩ := look_mem ks ls (a, b) hl hm
      rw [hx, if_pos hm]
      simp only [Option.map_some]
      congr 2
      obtain ⟨hi, hv⟩ := List.getElem?_eq_some_iff.mp h
      have := List.set_getElem_self hi
      rw [hv] at this
      exact this.symm
    · rw [look_no ks ls (a, b) hm, if_neg hm]
      rfl
  · exact .inr hl
theorem leL_trans (x y z : List Int) (h : leL x y = true) (h2 : leL y z = true) : leL x z = true := by
  unfold leL at *
  rw [decide_eq_true_eq] at *
  exact List.le_trans h h2
theorem leL_total (x y : List Int) : (leL x y || leL y x) = true := by
  unfold leL
  rw [Bool.or_eq_true, decide_eq_true_eq, decide_eq_true_eq]
  exact List.le_total x y
theorem leL_anti (x y : List Int) (h : leL x y = true) (h2 : leL y x = true) : x = y := by
  unfold leL at *
  rw [decide_eq_true_eq] at *
  exact List.le_antisymm h h2
def p2 (p : Int × Int) : List Int := [p.1, p.2]
theorem leL_p2 {p q : Int × Int} : leL (p2 p) (p2 q) = true ↔ p.1 < q.1 ∨ (p.1 = q.1 ∧ p.2 ≤ q.2) := by
  unfold leL p2
  rw [decide_eq_true_eq, List.cons_le_cons_iff, List.cons_le_cons_iff]
  have : ([] : List Int) ≤ [] := List.nil_le _
  constructor
  · rintro (h | ⟨h, h2⟩)
    · exact .inl h
    · right; refine ⟨h, ?_⟩; rcases h2 with h2 | h2 <;> omega
  · rintro (h | ⟨h, h2⟩)
    · exact .inl h
    · right; refine ⟨h, ?_⟩
      by_cases e : p.2 = q.2
      · exact .inr ⟨e, this⟩
      · left; omega
abbrev R3 := Int × Int × Int
def r3 (r : R3) : List Int := [r.1, r.2.1, r.2.2]
def lt3 (r s : R3) : Prop := r.1 < s.1 ∨ (r.1 = s.1 ∧ r.2.1 < s.2.1)
theorem leL_r3 {r s : R3} (h : lt3 r s) : leL (r3 r) (r3 s) = true := by
  unfold leL r3
  rw [decide_eq_true_eq, List.cons_le_cons_iff, List.cons_le_cons_iff]
  rcases h with h | ⟨h, h2⟩
  · exact .inl h
  · exact .inr ⟨h, .inl h2⟩
theorem r3_inj {r s : R3} (h : r3 r = r3 s) : r = s := by
  unfold r3 at h
  simp at h
  exact Prod.ext h.1 (Prod.ext h.2.1 h.2.2)
def sP (ks : List (Int × Int)) : List (Int × Int) := ks.mergeSort fun x y => leL (p2 x) (p2 y)
theorem sP_perm (ks : List (Int × Int)) : (sP ks).Perm ks := List.mergeSort_perm _ _
theorem sP_map (ks : List (Int × Int)) : (ks.map p2).mergeSort leL = (sP ks).map p2 := (List.map_mergeSort (f := p2) (r := fun x y => leL (p2 x) (p2 y)) (s := leL) (l := ks) (fun x _ y _ => rfl)).symm
theorem sP_lt {ks : List (Int × Int)} (h : ks.Nodup) : (sP ks).Pairwise fun p q => p.1 < q.1 ∨ (p.1 = q.1 ∧ p.2 < q.2) := by
  have h1 : (sP ks).Pairwise fun x y => leL (p2 x) (p2 y) = true := List.pairwise_mergeSort (le := fun x y => leL (p2 x) (p2 y)) (fun x y z => leL_trans (p2 x) (p2 y) (p2 z)) (fun x y => leL_total (p2 x) (p2 y)) ks
  have h2 : (sP ks).Nodup := (sP_perm ks).nodup_iff.mpr h
  refine (h1.and h2).imp ?_
  rintro ⟨a, b⟩ ⟨c, d⟩ ⟨h3, h4⟩
  rcases leL_p2.mp h3 with h5 | ⟨h5, h6⟩
  · exact .inl h5
  · right
    refine ⟨h5, ?_⟩
    by_cases e : b = d
    · exfalso; apply h4; dsimp only at h5; rw [h5, e]
    · dsimp only at h6 ⊢; omega
theorem u_sortP {o : Bool} {ks : List (Int × Int)} {ls : List Int} (hl : ks.length ≤ sizeLine) : gSorted [dP o ks ls] = some (.lst true ((sP ks).map fun p => tI (p2 p))) := by
  unfold dP
  show (sortD ((ks.map k2).map tupK)).map (fun ys => D.lst true ys) = _
  have e : (ks.map k2).map tupK = (ks.map p2).map tI := by
    rw [List.map_map, List.map_map]
    apply List.map_congr_left
    intro p _
    rfl
  rw [e, sortD_tI (by
    intro x hx
    obtain ⟨p, _, rfl⟩ := List.mem_map.mp hx
    intro z
    cases z) (by rw [List.length_map]; exact hl), sP_map, List.map_map]
  rfl
theorem ins_perm {α : Type} (l : List α) (n : Nat) (d : α) : (l.take n ++ [d] ++ l.drop n).Perm (d :: l) := by
  rw [List.append_assoc]
  refine (List.perm_middle (l₁ := l.take n) (a := d) (l₂ := l.drop n)).trans ?_
  rw [List.take_append_drop]
def rangeI (n : Nat) : List Int := (List.range n).map fun (i : Nat) => (i : Int)
theorem rangeI_succ (n : Nat) : (rangeI (n + 1)).Perm ((n : Int) :: rangeI n) := by
  unfold rangeI
  rw [List.range_succ, List.map_append]
  exact List.perm_append_comm
theorem mem_rangeI {n : Nat} {x : Int} : x ∈ rangeI n ↔ 0 ≤ x ∧ x < n := by
  unfold rangeI
  rw [List.mem_map]
  constructor
  · rintro ⟨i, hi, rfl⟩
    rw [List.mem_range] at hi
    omega
  · rintro ⟨h0, h1⟩
    exact ⟨x.toNat, by rw [List.mem_range]; omega, by omega⟩
theorem nodup_rangeI (n : Nat) : (rangeI n).Nodup := by
  unfold rangeI
  unfold List.Nodup
  rw [List.pairwise_map]
  exact List.nodup_range.imp fun h z => h (by omega)
theorem len_rangeI (n : Nat) : (rangeI n).length = n := by unfold rangeI; simp
end
end VS
set_option Elab.async false
set_option linter.all false
set_option maxRecDepth 100000
set_option maxHeartbeats 4000000
set_option autoImplicit false
noncomputable section
namespace VS
open PySem PySem.Spec PyProof.Rows L2
section
variable {X : Cx} {W : WX} {K : PySem.W.Frag} {mg : Str → Option Value} {F H H1 : Hp} {T L : List (D × V)} {ρ ρ' : Env} {σ σ' σ'' : St} {m : Bool}
noncomputable instance rgOk_dec {a b : Int} : Decidable (RgOk a b) := Classical.propDecidable _
theorem RepT.rg (a : Int) : ∀ n : Nat, RepT K H L → RepT K H ((intsD a n).zip ((List.range n).map fun i => V.int (a + (i : Nat))) ++ L) := by
  intro n r
  unfold intsD
  generalize List.range n = l
  induction l with
  | nil => exact r
  | cons x l ih => exact RepT.int ih
def inB (x y : D) : Option Bool := match dat x, dat y with
  | some a, some (.list es) => if SeqAt.shaped a = true ∧ SeqAt.shaped (.list es) = true then some (es.any fun z => PyData.eqv z a) else none
  | _, _ => none
def gIn (neg : Bool) (x y : D) : Option D := (inB x y).map fun b => .bl (if neg = true then !b else b)
theorem inB_inv {x y : D} {b : Bool} (h : inB x y = some b) : ∃ a es, dat x = some a ∧ dat y = some (.list es) ∧ SeqAt.shaped a = true ∧ SeqAt.shaped (.list es) = true ∧ b = es.any fun z => PyData.eqv z a := by
  unfold inB at h
  split at h
  · rename_i a es e1 e2
    split at h
    · rename_i z
      exact ⟨a, es, e1, e2, z.1, z.2, (Option.some.inj h).symm⟩
    · cases h
  · cases h
theorem impIn : Imp2 K (rInD K) (gIn false) := by
  intro H L x y d v w Q e r h
  obtain ⟨b, eb, rfl⟩ := Option.map_eq_some_iff.mp e
  obtain ⟨a, es, e1, e2, h1, h2, rfl⟩ := inB_inv eb
  exact ⟨a, es, (r.perm (.swap _ _ _)).dp e1, r.dp e2, h1, h2, h _ _ (Same.refl _) (r.drop.drop.bl)⟩
theorem impInN : Imp2 K (rNotInD K) (gIn true) := by
  intro H L x y d v w Q e r h
  obtain ⟨b, eb, rfl⟩ := Option.map_eq_some_iff.mp e
  obtain ⟨a, es, e1, e2, h1, h2, rfl⟩ := inB_inv eb
  exact ⟨a, es, (r.perm (.swap _ _ _)).dp e1, r.dp e2, h1, h2, h _ _ (Same.refl _) (r.drop.drop.bl)⟩
theorem gNms_len : ∀ (is : List Nat) (ds : List D) (ρ ρ' : Env), gNms is ds ρ = some ρ' → is.length = ds.length
  | [], [], _, _, _ => rfl
  | [], _ :: _, _, _, h => by cases h
  | _ :: _, [], _, _, h => by cases h
  | i :: is, d :: ds, ρ, ρ', h => by simp [gNms_len is ds _ _ h]
def gSq (is : List Nat) : D → Env → Option Env := fun d ρ => match seqOf d with
  | some ds => gNms is ds ρ
  | none => none
theorem vg_seq {is : List Nat} {tgs : List Expr} {k n : Nat} {pos : Pos} (hc : X.calm = true) (h : VGs X is tgs) (hn : (assignEach tgs X.env).length = n := by rfl) (hst : (assignEach tgs X.env).findIdx? (·.1) = none := by rfl) (hl : is.length = n := by rfl) : VG X is (.Tuple tgs k pos) (gSq is) := by
  refine PG.imp (PG.orr (pg_tup hc h hn hst) (pg_lst hc h hn hst)) fun v σ H Q ⟨T, ρ, d, ρ', rep, hg, hq⟩ => ?_
  unfold gSq at hg
  cases q : seqOf d with
  | none => rw [q] at hg; cases hg
  | some ds =>
    rw [q] at hg
    obtain ⟨a, vs, rfl, sq, l, r⟩ := RepT.seq q rep.rep
    have le := gNms_len is ds ρ ρ' hg
    rcases sq with sq | sq
    · exact .inr ⟨a, vs, rfl, sq, by omega, T, ρ, ds, ρ', l, ⟨rep.len, rep.nos, by rw [List.append_assoc]; exact r⟩, hg, fun σ' k r => hq σ' H k r⟩
    · exact .inl ⟨a, vs, rfl, sq, by omega, T, ρ, ds, ρ', l, ⟨rep.len, rep.nos, by rw [List.append_assoc]; exact r⟩, hg, fun σ' k r => hq σ' H k r⟩
end
end VS
set_option Elab.async false
set_option linter.all false
set_option maxRecDepth 100000
set_option maxHeartbeats 4000000
set_option autoImplicit false
noncomputable section
namespace VS
open PySem PySem.Spec PyProof.Rows L2
section
variable {prog : Program} {w : World} {A : Around} {E : Value → Shared → Prop} {s : Shared}
end
end VS
namespace VS
open PySem PySem.Spec PyProof.Rows L2
section
variable {prog : Program} {w : World} {A : Around} {E : Value → Shared → Prop} {s : Shared}
end
end VS
set_option Elab.async false
set_option linter.all false
set_option maxRecDepth 100000
set_option maxHeartbeats 4000000
set_option autoImplicit false
noncomputable section
namespace VS
open PySem PySem.Spec PyProof.Rows L2
section
variable {X : Cx} {W : WX} {K : PySem.W.Frag} {mg : Str → Option Value} {F H H1 : Hp} {T L : List (D × V)} {ρ ρ' : Env} {σ σ' σ'' : St} {m : Bool} {asg a1 a2 : List Nat}
end
end VS
set_option Elab.async false
set_option linter.all false
set_option maxRecDepth 100000
set_option maxHeartbeats 4000000
set_option autoImplicit false
noncomputable section
namespace VS
open PySem PySem.Spec PyProof.Rows L2
section
variable {X : Cx} {W : WX} {K : PySem.W.Frag} {mg : Str → Option Value} {F H H1 : Hp} {T L : List (D × V)} {ρ ρ' : Env} {σ σ' σ'' : St} {m : Bool} {asg a1 a2 : List Nat}
structure ExcF (K : PySem.W.Frag) (mg : Str → Option Value) (x : Str) : Prop where
  ex : ∃ C, mg x = some (.ref C) ∧ PySem.W.nsIn K mainGlobals x = some (some (.ref C)) ∧ PySem.W.excIn K C [.type "ValueError", .type "Exception", .type "BaseException", .type "object"] "ValueError.__new__" = true ∧ PySem.W.keepIn K (.ref C) = true ∧
    PySem.W.subIn K (.ref C) (.type "BaseException") = some true ∧ PySem.W.typeIn K (.ref C) = some (.type "type") ∧ ExcC K C
def ClsOf (mg : Str → Option Value) (T : Str) (u : Value) : Prop := mg T = some u ∨ (mg T = none ∧ bootBuiltins T = some u)
abbrev Tab := List (Str × Str × Bool)
def tabL : Tab → Str → Str → Option Bool
  | [], _, _ => none
  | (c, t, b) :: r, c', t' => if c = c' ∧ t = t' then some b else tabL r c' t'
def TabOk (K : PySem.W.Frag) (mg : Str → Option Value) (tab : Tab) : Prop := ∀ e ∈ tab, ∀ C, mg e.1 = some (.ref C) → ∃ u, ClsOf mg e.2.1 u ∧ PySem.W.kitOne K (.ref C) u = some e.2.2
theorem tabL_mem : ∀ {tab : Tab} {c t : Str} {b : Bool}, tabL tab c t = some b → (c, t, b) ∈ tab
  | [], _, _, _, h => by cases h
  | (c, t, b) :: r, c', t', b', h => by
    rw [tabL] at h
    split at h
    · rename_i z
      obtain ⟨rfl, rfl⟩ := z
      cases h
      exact List.mem_cons_self
    · exact List.mem_cons_of_mem _ (tabL_mem h)
theorem ClsOf.eq {T : Str} {u u' : Value} (h : ClsOf mg T u) (h' : ClsOf mg T u') : u = u' := by
  rcases h with h | ⟨h, k⟩
  · rcases h' with h' | ⟨h', _⟩
    · rw [h] at h'; exact Option.some.inj h'
    · rw [h] at h'; cases h'
  · rcases h' with h' | ⟨h', k'⟩
    · rw [h] at h'; cases h'
    · rw [k] at k'; exact Option.some.inj k'
theorem TabOk.one {tab : Tab} (ok : TabOk K mg tab) {c t : Str} {b : Bool} {C : Addr} {u : Value} (h : tabL tab c t = some b) (hC : mg c = some (.ref C)) (hu : ClsOf mg t u) : PySem.W.kitOne K (.ref C) u = some b := by
  obtain ⟨u', h1, h2⟩ := ok _ (tabL_mem h) C hC
  rw [hu.eq h1]
  exact h2
def tabAny (tab : Tab) (c : Str) : List Str → Option Bool
  | [] => some false
  | t :: r => match tabL tab c t with
    | some true => some true
    | some false => tabAny tab c r
    | none => none
theorem TabOk.any {tab : Tab} (ok : TabOk K mg tab) {c : Str} {C : Addr} (hC : mg c = some (.ref C)) : ∀ {ts : List Str} {us : List Value} {b : Bool}, tabAny tab c ts = some b → Paired (ClsOf mg) ts us → PySem.W.kitAny K (.ref C) us = some b
  | [], _, b, h, .nil => h
  | t :: ts, _, b, h, .cons q r => by
    rw [tabAny] at h
    cases e : tabL tab c t with
    | none => rw [e] at h; cases h
    | some k =>
      rw [e] at h
      refine kitAny_cons (ok.one e hC q) (fun z => ?_) fun z => ?_
      · subst z; exact ok.any hC h r
      · subst z; exact (Option.some.inj h).symm
structure CE (X : Cx) (e : Expr) (t : Str) : Prop where
  ex : ∃ cv u, PE X e (tC cv) ∧ ClsV cv u ∧ ClsOf X.mg t u
theorem ce_own {t : Str} {C : Addr} {pos : Pos} (hm : X.mg t = some (.ref C)) (hg : Gl X t) (hd : (t == ("__debug__" : Str)) = false := by decide) : CE X (.Name t pos) t := ⟨.ref C, .ref C, pe_glob hg hm rfl hd, .own C, .inl hm⟩
theorem ce_blt {t : Str} {n : String} {pos : Pos} (hm : X.mg t = none) (hv : bootBuiltins t = some (.type n)) (hg : Gl X t) (hn : t ≠ "__name__" := by decide) (hd : (t == ("__debug__" : Str)) = false := by decide) : CE X (.Name t pos) t := ⟨.ty n, .type n, pe_bltn hg hm hv rfl hn hd, .ty n, .inr ⟨hm, hv⟩⟩
theorem inst_of {D : Addr} {oe : Obj} {h : Heap} {a : Addr} (hc : oe.cls = .ref D) (hd : oe.dict = none) (hf : ∃ vs, oe.data = .fields vs) (hget : h.get? a = some oe) : PySem.W.InstAt h a oe D none := by
  obtain ⟨vs, hv⟩ := hf
  obtain ⟨oc, od, oda, osl⟩ := oe
  dsimp only at hc hd hv
  subst hc hd hv
  exact ⟨hget, rfl, rfl, trivial⟩
structure CEs (X : Cx) (es : List Expr) (ts : List Str) : Prop where
  ex : ∃ cvs us t, PA X es t ∧ (∀ σ H Q, Q cvs H → t σ H Q) ∧ Paired ClsV cvs us ∧ Paired (ClsOf X.mg) ts us ∧ cvs.length = ts.length
theorem ces_nil : CEs X [] [] := ⟨[], [], tNil, pa_nil, fun _ _ _ h => h, .nil, .nil, rfl⟩
theorem ces_cons {e : Expr} {es : List Expr} {t : Str} {ts : List Str} (h : CE X e t) (hs : CEs X es ts) (he : starEach (e :: es) X.env = (false, eval e X.env) :: starEach es X.env := by rfl) : CEs X (e :: es) (t :: ts) := by
  obtain ⟨cv, u, pc, kc, ku⟩ := h.ex
  obtain ⟨cvs, us, tr, p, q, k1, k2, l⟩ := hs.ex
  exact ⟨cv :: cvs, u :: us, _, pa_cons pc p he, fun σ H Q h => q σ H _ h, .cons kc k1, .cons ku k2, by simp [l]⟩
end
end VS
set_option Elab.async false
set_option linter.all false
set_option maxRecDepth 100000
set_option maxHeartbeats 4000000
set_option autoImplicit false
noncomputable section
namespace VS
open PySem PySem.Spec PyProof.Rows L2
section
variable {X : Cx} {W : WX} {K : PySem.W.Frag} {mg : Str → Option Value} {F H H1 : Hp} {T L : List (D × V)} {ρ ρ' : Env} {σ σ' σ'' : St} {m : Bool} {asg a1 a2 : List Nat}
theorem kit_own {c T : Addr} {b : Bool} (hd : PySem.W.hasDictIn K T = true) (ht : PySem.W.typeIn K (.ref T) = some (.type "type")) (hs : PySem.W.subIn K (.ref c) (.ref T) = some b) (hn : b = true ∨ (Value.ref c == Value.ref T) = false) : PySem.W.kitOne K (.ref c) (.ref T) = some b := by
  unfold PySem.W.kitOne
  by_cases h : (Value.ref c == Value.ref T) = true
  · rw [if_pos h]
    rcases hn with hn | hn
    · rw [hn]
    · rw [hn] at h; cases h
  · rw [if_neg h]
    obtain ⟨cd, hc, _⟩ := PySem.W.any_some hd
    have e2 : ((PySem.W.clsIn K T).isSome && PySem.W.typeIn K (.ref T) == some (.type "type")) = true := by rw [hc, ht]; rfl
    show (if ((PySem.W.clsIn K T).isSome && PySem.W.typeIn K (.ref T) == some (.type "type")) = true then PySem.W.subIn K (.ref c) (.ref T) else none) = some b
    rw [if_pos e2]
    exact hs
theorem kit_blt {c : Addr} {T : String} {b : Bool} (hk : PySem.W.kitMeta T = true) (hs : PySem.W.subIn K (.ref c) (.type T) = some b) : PySem.W.kitOne K (.ref c) (.type T) = some b := by
  unfold PySem.W.kitOne
  rw [if_neg (show ¬ ((Value.ref c == Value.type T) = true) from Bool.false_ne_true)]
  show (if PySem.W.kitMeta T = true then PySem.W.subIn K (.ref c) (.type T) else none) = some b
  rw [if_pos hk]
  exact hs
theorem b_ValueError : bootBuiltins "ValueError" = some (.type "ValueError") := by decide +kernel
def dRaise (c : Str) : MS := fun ρ => some (.ex ⟨c, none⟩, ρ)
theorem vs_raise {x z : Str} {j : Nat} {p p2 p3 pos : Pos} (hc : X.calm = true) (tk : L2N.Takes X W) (F : ExcF X.K X.mg x) (hg : Gl X x) (hdb : (x == ("__debug__" : Str)) = false := by decide) : VSt X W [] (.Raise (some (.Call (.Name x p) [.Constant (.str z) j p2] [] p3)) none pos) (dRaise x) := by
  obtain ⟨C, gC, _, q, kp, sb, ty, _⟩ := F.ex
  refine PS.imp (L2N.ps_raise hc tk (L2N.pmk_own PySem.F.excBase_ValueError q gC kp (raises_own sb ty) hg hdb)) fun σ H E ⟨T, ρ, fl, ρ', rep, hf, he⟩ => ?_
  have e : (Fl.ex ⟨x, none⟩, ρ) = (fl, ρ') := Option.some.inj hf
  cases e
  exact he (.ref C) none σ H Kept.refl ⟨C, rfl, gC, rfl⟩ rep
def notEx : Fl → Prop
  | .ex _ => False
  | _ => True
def OnAll (i : Nat) (g : Addr → MS) (ρ : Env) (r : Fl × Env) : Prop := notEx r.1 ∧ ∀ a, ∃ ρ2, g a (ρ.set i (.adr a)) = some (r.1, ρ2) ∧ ρ2.set i .unk = r.2
theorem OnAll.eq {i : Nat} {g : Addr → MS} {r r' : Fl × Env} (h : OnAll i g ρ r) (h' : OnAll i g ρ r') : r = r' := by
  obtain ⟨ρ2, e, k⟩ := h.2 0
  obtain ⟨ρ3, e', k'⟩ := h'.2 0
  rw [e] at e'
  injection e' with e'
  injection e' with e1 e2
  subst e2
  exact Prod.ext e1 (k.symm.trans k')
theorem Rep.unset (h : Rep K H T ρ σ) (i : Nat) : Rep K H T (ρ.set i .unk) (σ.set i none) := by
  refine (h.forget i).other (by simp) fun j => ?_
  by_cases z : i = j
  · subst z
    by_cases hl : i < ρ.length
    · exact .inl (by rw [List.getElem?_set_self hl])
    · refine .inr ?_
      have hl2 : ¬ i < σ.length := by rw [← h.len]; exact hl
      rw [List.getElem?_eq_none (by rw [List.length_set]; omega), List.getElem?_eq_none (by omega)]
  · exact .inr (by rw [List.getElem?_set_ne z])
theorem Kept.left {σ1 : St} (h1 : Kept a1 σ σ1) : Kept (a1 ++ a2) σ σ1 := ⟨h1.1, fun j hj => h1.2 j fun z => hj (List.mem_append_left _ z)⟩
end
end VS
set_option Elab.async false
set_option linter.all false
set_option maxRecDepth 100000
set_option maxHeartbeats 4000000
set_option autoImplicit false
noncomputable section
namespace VS
open PySem PySem.Spec PyProof.Rows L2
section
variable {X : Cx} {W : WX} {K : PySem.W.Frag} {mg : Str → Option Value} {F H H1 : Hp} {T L : List (D × V)} {ρ ρ' : Env} {σ σ' σ'' : St} {m : Bool} {asg a1 a2 : List Nat}
end
end VS
set_option Elab.async false
set_option linter.all false
set_option maxRecDepth 100000
set_option maxHeartbeats 4000000
set_option autoImplicit false
noncomputable section
namespace VS
open PySem PySem.Spec PyProof.Rows L2
section
variable {X : Cx} {W : WX} {K : PySem.W.Frag} {mg : Str → Option Value} {F H H1 : Hp} {T L : List (D × V)} {ρ ρ' : Env} {σ σ' σ'' : St} {m : Bool} {asg a1 a2 : List Nat}
end
end VS
set_option Elab.async false
set_option linter.all false
set_option maxRecDepth 100000
set_option maxHeartbeats 4000000
set_option autoImplicit false
noncomputable section
namespace VS
open PySem PySem.Spec PyProof.Rows L2
section
variable {X : Cx} {W : WX} {K : PySem.W.Frag} {mg : Str → Option Value} {F H H1 : Hp} {T L : List (D × V)} {ρ ρ' : Env} {σ σ' σ'' : St} {m : Bool} {asg a1 a2 : List Nat}
end
end VS
set_option Elab.async false
set_option linter.all false
set_option maxRecDepth 100000
set_option maxHeartbeats 4000000
set_option autoImplicit false
noncomputable section
namespace VS
open PySem PySem.Spec PyProof.Rows L2
section
variable {X : Cx} {W : WX} {K : PySem.W.Frag} {mg : Str → Option Value} {F H H1 : Hp} {T L : List (D × V)} {ρ ρ' : Env} {σ σ' σ'' : St} {m : Bool} {asg a1 a2 : List Nat}
end
end VS
set_option Elab.async false
set_option linter.all false
set_option maxRecDepth 100000
set_option maxHeartbeats 4000000
set_option autoImplicit false
noncomputable section
namespace VS
open PySem PySem.Spec PyProof.Rows L2
section
variable {X : Cx} {W : WX} {K : PySem.W.Frag} {mg : Str → Option Value} {F H H1 : Hp} {T L : List (D × V)} {ρ ρ' : Env} {σ σ' σ'' : St} {m : Bool} {asg a1 a2 : List Nat}
theorem zip_set_erase {α β : Type} (n : α) : ∀ (xs : List α) (vs : List β) (j : Nat), ((xs.set j n).zip vs).eraseIdx j = (xs.zip vs).eraseIdx j
  | [], vs, j => by simp
  | x :: xs, [], j => by cases j <;> simp
  | x :: xs, v :: vs, 0 => by simp
  | x :: xs, v :: vs, j + 1 => by simp [zip_set_erase n xs vs j]
theorem getD_some {i : Nat} {d : D} (h : ρ.getD i .unk = d) (n : d ≠ .unk) : ρ[i]? = some d := by
  rw [List.getD_eq_getElem?_getD] at h
  cases q : ρ[i]? with
  | none => rw [q] at h; exact absurd h.symm n
  | some x => rw [q] at h; exact congrArg some h
end
end VS
set_option Elab.async false
set_option linter.all false
set_option maxRecDepth 100000
set_option maxHeartbeats 4000000
set_option autoImplicit false
noncomputable section
namespace VS
open PySem PySem.Spec PyProof.Rows L2
section
variable {K : PySem.W.Frag} {F F1 F2 H H' : Hp}
def exV : V → D
  | .non => .non
  | .bl b => .bl b
  | .int i => .int i
  | .str x => .str x
  | .ref a => .adr a
  | _ => .unk
def isC : HO → Bool
  | .lst _ => true
  | .dK _ => true
  | .dT _ => true
  | .frz _ (.dK _) => true
  | .frz _ (.dT _) => true
  | _ => false
structure Agr (F F1 F2 : Hp) : Prop where
  old : ∀ b o, F b = some o → F2 b = F1 b
  oth : ∀ b o, F1 b = some o → isC o = false → F2 b = some o
theorem ow_ex {v v' : V} {A : List Addr} (h : Ow K F H (exV v) v' A) : A = [] ∧ (exV v = .unk ∨ v' = v) := by
  cases v <;> simp only [exV, Ow] at h ⊢ <;> simp_all
theorem ow_exs {v : V} : Ow K F H (exV v) v [] := by
  cases v <;> simp [exV, Ow]
theorem owL_ex : ∀ {vs vs' : List V} {A : List Addr}, OwL K F H (vs.map exV) vs' A → A = []
  | [], vs', A, h => by rw [List.map_nil, OwL] at h; exact h.2
  | v :: vs, vs', A, h => by
    rw [List.map_cons, OwL] at h
    obtain ⟨w, r, A1, A2, _, rfl, h1, h2⟩ := h
    rw [(ow_ex h1).1, owL_ex h2]; rfl
theorem owL_exs : ∀ {vs : List V}, OwL K F H (vs.map exV) vs []
  | [] => by rw [List.map_nil, OwL]; exact ⟨rfl, rfl⟩
  | v :: vs => by
    rw [List.map_cons, OwL]
    exact ⟨v, vs, [], [], rfl, rfl, ow_exs, owL_exs⟩
theorem unk_of {v : V} {A : List Addr} (e : exV v = .unk) : ∀ (d : D), Ow K F H d v A → d = .unk
  | .unk, _ => rfl
  | .non, h => by rw [Ow] at h; rw [h.1] at e; cases e
  | .bl b, h => by rw [Ow] at h; rw [h.1] at e; cases e
  | .int i, h => by rw [Ow] at h; rw [h.1] at e; cases e
  | .str x, h => by rw [Ow] at h; rw [h.1] at e; cases e
  | .adr x, h => by rw [Ow] at h; rw [h.1] at e; cases e
  | .hole, h => by rw [Ow] at h; obtain ⟨a, o, e1, _⟩ := h; rw [e1] at e; cases e
  | .exo c q, h => by rw [Ow] at h; obtain ⟨⟨a, C, d, e1, _⟩, _⟩ := h; rw [e1] at e; cases e
  | .tup ds, h => by rw [Ow] at h; obtain ⟨a, vs, h⟩ := h; rw [h.1] at e; cases e
  | .ktp ds, h => by rw [Ow] at h; obtain ⟨a, vs, h⟩ := h; rw [h.1] at e; cases e
  | .lst false ds, h => by rw [Ow] at h; obtain ⟨a, vs, h⟩ := h; rw [h.1] at e; cases e
  | .scr ds, h => by rw [Ow] at h; obtain ⟨a, vs, h⟩ := h; rw [h.1] at e; cases e
  | .lst true ds, h => by rw [Ow] at h; obtain ⟨a, vs, h⟩ := h; obtain ⟨A', h⟩ := h; rw [h.1] at e; cases e
  | .dK false ks ds, h => by rw [Ow] at h; obtain ⟨a, vs, h⟩ := h; rw [h.1] at e; cases e
  | .dK true ks ds, h => by rw [Ow] at h; obtain ⟨a, vs, h⟩ := h; obtain ⟨A', h⟩ := h; rw [h.1] at e; cases e
  | .dT false ks ds, h => by rw [Ow] at h; obtain ⟨a, vs, h⟩ := h; rw [h.1] at e; cases e
  | .dT true ks ds, h => by rw [Ow] at h; obtain ⟨a, vs, h⟩ := h; obtain ⟨A', h⟩ := h; rw [h.1] at e; cases e
  | .lK ks ds, h => by rw [Ow] at h; obtain ⟨a, vs, h⟩ := h; rw [h.1] at e; cases e
  | .lT ks ds, h => by rw [Ow] at h; obtain ⟨a, vs, h⟩ := h; rw [h.1] at e; cases e
  | .lck u, h => by rw [Ow] at h; obtain ⟨⟨a, h⟩, _⟩ := h; rw [h.1] at e; cases e
  | .ob C fs ds, h => by rw [Ow] at h; obtain ⟨a, dx, vs, A', h⟩ := h; rw [h.1] at e; cases e
theorem exo_agr {c : Str} {q : Option (Str × Int)} {v : V} {A : List Addr} (g : Agr F F1 F2) (k : Ow K F1 H' (.exo c q) v A) : Ow K F2 H' (.exo c q) v A := by
  rw [Ow] at k ⊢
  obtain ⟨⟨a, C, d, e, w, n, k⟩, z⟩ := k
  refine ⟨⟨a, C, d, e, g.oth _ _ w rfl, n, ?_⟩, z⟩
  cases q with
  | none => exact k
  | some q =>
    obtain ⟨b, e1, e2⟩ := k
    exact ⟨b, e1, g.oth _ _ e2 rfl⟩
mutual
theorem Ow.pin : ∀ (d : D) (v : V) (A : List Addr), Ow K F H d v A → ∃ P, OwT K F H P A ∧ ∀ F1 F2 H' A', Agr F F1 F2 → OwT K F1 H' P A' → Ow K F2 H' d v A'
  | .unk, v, A, h => ⟨[(.unk, v)], ⟨A, [], by simp, h, rfl⟩, fun F1 F2 H' A' _ k => by obtain ⟨A1, A2, rfl, k, e⟩ := k; have e : A2 = [] := e; subst e; rw [List.append_nil, Ow]; rw [Ow] at k; exact k⟩
  | .non, v, A, h => ⟨[(.non, v)], ⟨A, [], by simp, h, rfl⟩, fun F1 F2 H' A' _ k => by obtain ⟨A1, A2, rfl, k, e⟩ := k; have e : A2 = [] := e; subst e; rw [List.append_nil, Ow]; rw [Ow] at k; exact k⟩
  | .bl b, v, A, h => ⟨[(.bl b, v)], ⟨A, [], by simp, h, rfl⟩, fun F1 F2 H' A' _ k => by obtain ⟨A1, A2, rfl, k, e⟩ := k; have e : A2 = [] := e; subst e; rw [List.append_nil, Ow]; rw [Ow] at k; exact k⟩
  | .int i, v, A, h => ⟨[(.int i, v)], ⟨A, [], by simp, h, rfl⟩, fun F1 F2 H' A' _ k => by obtain ⟨A1, A2, rfl, k, e⟩ := k; have e : A2 = [] := e; subst e; rw [List.append_nil, Ow]; rw [Ow] at k; exact k⟩
  | .str x, v, A, h => ⟨[(.str x, v)], ⟨A, [], by simp, h, rfl⟩, fun F1 F2 H' A' _ k => by obtain ⟨A1, A2, rfl, k, e⟩ := k; have e : A2 = [] := e; subst e; rw [List.append_nil, Ow]; rw [Ow] at k; exact k⟩
  | .adr x, v, A, h => ⟨[(.adr x, v)], ⟨A, [], by simp, h, rfl⟩, fun F1 F2 H' A' _ k => by obtain ⟨A1, A2, rfl, k, e⟩ := k; have e : A2 = [] := e; subst e; rw [List.append_nil, Ow]; rw [Ow] at k; exact k⟩
  | .hole, v, A, h => ⟨[(.hole, v)], ⟨A, [], by simp, h, rfl⟩, fun F1 F2 H' A' _ k => by obtain ⟨A1, A2, rfl, k, e⟩ := k; have e : A2 = [] := e; subst e; rw [List.append_nil, Ow]; rw [Ow] at k; exact k⟩
  | .exo c q, v, A, h => ⟨[(.exo c q, v)], ⟨A, [], by simp, h, rfl⟩, fun F1 F2 H' A' g k => by
    obtain ⟨A1, A2, rfl, k, e⟩ := k
    have e : A2 = [] := e
    subst e
    rw [List.append_nil]
    exact exo_agr g k⟩
  | .tup ds, v, A, h => by
    rw [Ow] at h
    obtain ⟨a, vs, rfl, q, l⟩ := h
    obtain ⟨P, h1, h2⟩ := OwL.pin ds vs _ l
    refine ⟨(.tup (vs.map exV), .ref a) :: P, ⟨[], A, rfl, by rw [Ow]; exact ⟨a, vs, rfl, q, owL_exs⟩, h1⟩, fun F1 F2 H' B g k => ?_⟩
    obtain ⟨A1, A2, rfl, k, o⟩ := k
    rw [Ow] at k ⊢
    obtain ⟨a', vs', e, q', l'⟩ := k
    cases e
    have e := owL_ex l'
    subst e
    exact ⟨a, vs', rfl, by rw [g.old _ _ q]; exact q', h2 F1 F2 H' _ vs' g l' o⟩
  | .ktp ds, v, A, h => by
    rw [Ow] at h
    obtain ⟨a, vs, rfl, q, l⟩ := h
    obtain ⟨P, h1, h2⟩ := OwL.pin ds vs _ l
    rcases q with q0 | q0
    · refine ⟨(.ktp (vs.map exV), .ref a) :: P, ⟨[], A, rfl, by rw [Ow]; exact ⟨a, vs, rfl, .inl q0, owL_exs⟩, h1⟩, fun F1 F2 H' B g k => ?_⟩
      obtain ⟨A1, A2, rfl, k, o⟩ := k
      rw [Ow] at k ⊢
      obtain ⟨a', vs', e, q', l'⟩ := k
      cases e
      have e := owL_ex l'
      subst e
      refine ⟨a, vs', rfl, ?_, h2 F1 F2 H' _ vs' g l' o⟩
      rcases q' with (q' | ⟨u, q'⟩) | q'
      · exact .inl (.inl (by rcases q0 with q | ⟨_, q⟩ <;> (rw [g.old _ _ q]; exact q')))
      · exact .inl (.inr ⟨u, by rcases q0 with q | ⟨_, q⟩ <;> (rw [g.old _ _ q]; exact q')⟩)
      · exact .inr q'
    · refine ⟨P, h1, fun F1 F2 H' B g k => ?_⟩
      rw [Ow]
      exact ⟨a, vs, rfl, .inr q0, h2 F1 F2 H' _ vs g owL_exs k⟩
  | .lst false ds, v, A, h => by
    rw [Ow] at h
    obtain ⟨a, vs, rfl, q, l⟩ := h
    obtain ⟨P, h1, h2⟩ := OwL.pin ds vs _ l
    refine ⟨(.lst false (vs.map exV), .ref a) :: P, ⟨[], A, rfl, by rw [Ow]; exact ⟨a, vs, rfl, q, owL_exs⟩, h1⟩, fun F1 F2 H' B g k => ?_⟩
    obtain ⟨A1, A2, rfl, k, o⟩ := k
    rw [Ow] at k ⊢
    obtain ⟨a', vs', e, q', l'⟩ := k
    cases e
    have e := owL_ex l'
    subst e
    exact ⟨a, vs', rfl, by rw [g.old _ _ q]; exact q', h2 F1 F2 H' _ vs' g l' o⟩
  | .scr ds, v, A, h => by
    rw [Ow] at h
    obtain ⟨a, vs, rfl, q, l⟩ := h
    obtain ⟨P, h1, h2⟩ := OwL.pin ds vs _ l
    rcases q with q0 | q0
    · refine ⟨(.scr (vs.map exV), .ref a) :: P, ⟨[], A, rfl, by rw [Ow]; exact ⟨a, vs, rfl, .inl q0, owL_exs⟩, h1⟩, fun F1 F2 H' B g k => ?_⟩
      obtain ⟨A1, A2, rfl, k, o⟩ := k
      rw [Ow] at k ⊢
      obtain ⟨a', vs', e, q', l'⟩ := k
      cases e
      have e := owL_ex l'
      subst e
      refine ⟨a, vs', rfl, ?_, h2 F1 F2 H' _ vs' g l' o⟩
      rcases q' with (q' | ⟨u, q'⟩) | q'
      · exact .inl (.inl (by rcases q0 with q | ⟨_, q⟩ <;> (rw [g.old _ _ q]; exact q')))
      · exact .inl (.inr ⟨u, by rcases q0 with q | ⟨_, q⟩ <;> (rw [g.old _ _ q]; exact q')⟩)
      · exact .inr q'
    · refine ⟨P, h1, fun F1 F2 H' B g k => ?_⟩
      rw [Ow]
      exact ⟨a, vs, rfl, .inr q0, h2 F1 F2 H' _ vs g owL_exs k⟩
  | .lst true ds, v, A, h => by
    rw [Ow] at h
    obtain ⟨a, vs, A', rfl, q, l, rfl⟩ := h
    obtain ⟨P, h1, h2⟩ := OwL.pin ds vs _ l
    refine ⟨(.lst true (vs.map exV), .ref a) :: P, ⟨[a], A', rfl, by rw [Ow]; exact ⟨a, vs, [], rfl, q, owL_exs, rfl⟩, h1⟩, fun F1 F2 H' B g k => ?_⟩
    obtain ⟨A1, A2, rfl, k, o⟩ := k
    rw [Ow] at k ⊢
    obtain ⟨a', vs', B', e, q', l', rfl⟩ := k
    cases e
    have e := owL_ex l'
    subst e
    exact ⟨a, vs', A2, rfl, q', h2 F1 F2 H' _ vs' g l' o, rfl⟩
  | .dK false ks ds, v, A, h => by
    rw [Ow] at h
    obtain ⟨a, vs, rfl, q, n, l⟩ := h
    obtain ⟨P, h1, h2⟩ := OwL.pin ds vs _ l
    refine ⟨(.dK false ks (vs.map exV), .ref a) :: P, ⟨[], A, rfl, by rw [Ow]; exact ⟨a, vs, rfl, q, ⟨by rw [List.length_map, ← l.length]; exact n.1, n.2⟩, owL_exs⟩, h1⟩, fun F1 F2 H' B g k => ?_⟩
    obtain ⟨A1, A2, rfl, k, o⟩ := k
    rw [Ow] at k ⊢
    obtain ⟨a', vs', e, q', n', l'⟩ := k
    cases e
    have e := owL_ex l'
    subst e
    exact ⟨a, vs', rfl, by rw [g.old _ _ q]; exact q', n, h2 F1 F2 H' _ vs' g l' o⟩
  | .dK true ks ds, v, A, h => by
    rw [Ow] at h
    obtain ⟨a, vs, A', rfl, q, n, l, rfl⟩ := h
    obtain ⟨P, h1, h2⟩ := OwL.pin ds vs _ l
    refine ⟨(.dK true ks (vs.map exV), .ref a) :: P, ⟨[a], A', rfl, by rw [Ow]; exact ⟨a, vs, [], rfl, q, ⟨by rw [List.length_map, ← l.length]; exact n.1, n.2⟩, owL_exs, rfl⟩, h1⟩, fun F1 F2 H' B g k => ?_⟩
    obtain ⟨A1, A2, rfl, k, o⟩ := k
    rw [Ow] at k ⊢
    obtain ⟨a', vs', B', e, q', n', l', rfl⟩ := k
    cases e
    have e := owL_ex l'
    subst e
    exact ⟨a, vs', A2, rfl, q', n, h2 F1 F2 H' _ vs' g l' o, rfl⟩
  | .dT false ks ds, v, A, h => by
    rw [Ow] at h
    obtain ⟨a, vs, rfl, q, n, l⟩ := h
    obtain ⟨P, h1, h2⟩ := OwL.pin ds vs _ l
    refine ⟨(.dT false ks (vs.map exV), .ref a) :: P, ⟨[], A, rfl, by rw [Ow]; exact ⟨a, vs, rfl, q, ⟨by rw [List.length_map, ← l.length]; exact n.1, n.2⟩, owL_exs⟩, h1⟩, fun F1 F2 H' B g k => ?_⟩
    obtain ⟨A1, A2, rfl, k, o⟩ := k
    rw [Ow] at k ⊢
    obtain ⟨a', vs', e, q', n', l'⟩ := k
    cases e
    have e := owL_ex l'
    subst e
    exact ⟨a, vs', rfl, by rw [g.old _ _ q]; exact q', n, h2 F1 F2 H' _ vs' g l' o⟩
  | .dT true ks ds, v, A, h => by
    rw [Ow] at h
    obtain ⟨a, vs, A', rfl, q, n, l, rfl⟩ := h
    obtain ⟨P, h1, h2⟩ := OwL.pin ds vs _ l
    refine ⟨(.dT true ks (vs.map exV), .ref a) :: P, ⟨[a], A', rfl, by rw [Ow]; exact ⟨a, vs, [], rfl, q, ⟨by rw [List.length_map, ← l.length]; exact n.1, n.2⟩, owL_exs, rfl⟩, h1⟩, fun F1 F2 H' B g k => ?_⟩
    obtain ⟨A1, A2, rfl, k, o⟩ := k
    rw [Ow] at k ⊢
    obtain ⟨a', vs', B', e, q', n', l', rfl⟩ := k
    cases e
    have e := owL_ex l'
    subst e
    exact ⟨a, vs', A2, rfl, q', n, h2 F1 F2 H' _ vs' g l' o, rfl⟩
  | .lK ks ds, v, A, h => by
    rw [Ow] at h
    obtain ⟨a, vs, rfl, ⟨o, q⟩, n, l⟩ := h
    obtain ⟨P, h1, h2⟩ := OwL.pin ds vs _ l
    refine ⟨(.lck (.frz o (.dK (ks.zip vs))), .ref a) :: P, ⟨[], A, rfl, by rw [Ow]; exact ⟨⟨a, rfl, q⟩, rfl⟩, h1⟩, fun F1 F2 H' B g k => ?_⟩
    obtain ⟨A1, A2, rfl, k, o2⟩ := k
    rw [Ow] at k
    rw [Ow]
    obtain ⟨⟨a', e, q'⟩, e2⟩ := k
    cases e
    subst e2
    exact ⟨a, vs, rfl, ⟨o, (g.old _ _ q).trans q'⟩, n, h2 F1 F2 H' _ vs g owL_exs o2⟩
  | .lT ks ds, v, A, h => by
    rw [Ow] at h
    obtain ⟨a, vs, rfl, ⟨o, q⟩, n, l⟩ := h
    obtain ⟨P, h1, h2⟩ := OwL.pin ds vs _ l
    refine ⟨(.lck (.frz o (.dT (ks.zip vs))), .ref a) :: P, ⟨[], A, rfl, by rw [Ow]; exact ⟨⟨a, rfl, q⟩, rfl⟩, h1⟩, fun F1 F2 H' B g k => ?_⟩
    obtain ⟨A1, A2, rfl, k, o2⟩ := k
    rw [Ow] at k
    rw [Ow]
    obtain ⟨⟨a', e, q'⟩, e2⟩ := k
    cases e
    subst e2
    exact ⟨a, vs, rfl, ⟨o, (g.old _ _ q).trans q'⟩, n, h2 F1 F2 H' _ vs g owL_exs o2⟩
  | .ob C fs ds, v, A, h => by
    rw [Ow] at h
    obtain ⟨a, dx, vs, A', rfl, q, q2, n, l, rfl⟩ := h
    obtain ⟨P, h1, h2⟩ := OwL.pin ds vs _ l
    refine ⟨(.ob C fs (vs.map exV), .ref a) :: P, ⟨[a, dx], A', rfl, by rw [Ow]; exact ⟨a, dx, vs, [], rfl, q, q2, ⟨by rw [List.length_map, ← l.length]; exact n.1, n.2⟩, owL_exs, rfl⟩, h1⟩, fun F1 F2 H' B g k => ?_⟩
    obtain ⟨A1, A2, rfl, k, o⟩ := k
    rw [Ow] at k ⊢
    obtain ⟨a', dx', vs', B', e, q', q2', n', l', rfl⟩ := k
    cases e
    have e := owL_ex l'
    subst e
    exact ⟨a, dx', vs', A2, rfl, q', q2', n, h2 F1 F2 H' _ vs' g l' o, rfl⟩
  | .lck u, v, A, h => by
    have h0 := h
    rw [Ow] at h
    obtain ⟨⟨a, rfl, q⟩, rfl⟩ := h
    refine ⟨[(.lck u, .ref a)], ⟨[], [], rfl, h0, rfl⟩, fun F1 F2 H' B g k => ?_⟩
    obtain ⟨A1, A2, rfl, k, e⟩ := k
    have e : A2 = [] := e
    subst e
    rw [Ow] at k
    rw [Ow]
    obtain ⟨⟨a', e, q'⟩, e2⟩ := k
    cases e
    subst e2
    exact ⟨⟨a, rfl, by rw [g.old _ _ q]; exact q'⟩, rfl⟩
theorem OwL.pin : ∀ (ds : List D) (vs : List V) (A : List Addr), OwL K F H ds vs A → ∃ P, OwT K F H P A ∧ ∀ F1 F2 H' A' vs', Agr F F1 F2 → OwL K F1 H' (vs.map exV) vs' [] → OwT K F1 H' P A' → OwL K F2 H' ds vs' A'
  | [], vs, A, h => by
    rw [OwL] at h
    obtain ⟨rfl, rfl⟩ := h
    refine ⟨[], rfl, fun F1 F2 H' A' vs' _ l k => ?_⟩
    rw [List.map_nil, OwL] at l
    rw [OwL]
    exact ⟨l.1, k⟩
  | d :: ds, vs, A, h => by
    rw [OwL] at h
    obtain ⟨v, r, A1, A2, rfl, rfl, h1, h2⟩ := h
    obtain ⟨P1, p1, k1⟩ := Ow.pin d v A1 h1
    obtain ⟨P2, p2, k2⟩ := OwL.pin ds r A2 h2
    refine ⟨P1 ++ P2, p1.append p2, fun F1 F2 H' A' vs' g l k => ?_⟩
    obtain ⟨B1, B2, rfl, o1, o2⟩ := k.split
    rw [List.map_cons, OwL] at l
    obtain ⟨w, r', C1, C2, rfl, e, l1, l2⟩ := l
    obtain ⟨rfl, rfl⟩ := List.append_eq_nil_iff.mp e.symm
    rw [OwL]
    refine ⟨w, r', B1, B2, rfl, rfl, ?_, k2 F1 F2 H' B2 r' g l2 o2⟩
    have m := k1 F1 F2 H' B1 g o1
    rcases (ow_ex l1).2 with z | rfl
    · have e := unk_of z d h1
      subst e
      rw [Ow] at m ⊢
      exact m
    · exact m
end
theorem fzzT {ds : List D} (h : fz (VS.freeze (.tup ds)) = true) : fzL (freezeL ds) = true := by rw [VS.freeze, fz] at h; exact h
theorem fzzK {ds : List D} (h : fz (VS.freeze (.ktp ds)) = true) : fzL (freezeL ds) = true := by rw [VS.freeze, fz] at h; exact h
theorem fzzS {ds : List D} (h : fz (VS.freeze (.scr ds)) = true) : fzL (freezeL ds) = true := by rw [VS.freeze, fz] at h; exact h
theorem fzzL {o : Bool} {ds : List D} (h : fz (VS.freeze (.lst o ds)) = true) : fzL (freezeL ds) = true := by rw [VS.freeze, fz] at h; simpa using h
theorem fzzD {o : Bool} {ks : List Key} {ds : List D} (h : fz (VS.freeze (.dK o ks ds)) = true) : fzL (freezeL ds) = true := by rw [VS.freeze, fz] at h; simpa using h
theorem fzzE {o : Bool} {ks : List (List Key)} {ds : List D} (h : fz (VS.freeze (.dT o ks ds)) = true) : fzL (freezeL ds) = true := by rw [VS.freeze, fz] at h; simpa using h
theorem fzzlK {ks : List Key} {ds : List D} (h : fz (VS.freeze (.lK ks ds)) = true) : fzL (freezeL ds) = true := by rw [VS.freeze, fz] at h; exact h
theorem fzzlT {ks : List (List Key)} {ds : List D} (h : fz (VS.freeze (.lT ks ds)) = true) : fzL (freezeL ds) = true := by rw [VS.freeze, fz] at h; exact h
mutual
theorem Ow.pinF : ∀ (d : D) (v : V) (A : List Addr), fz (VS.freeze d) = true → Ow K F H d v A → ∃ P, (∀ F' H1, Same F F' → (∀ a ∈ A, F' a = H a) → OwT K F' H1 P []) ∧ ∀ F1 F2 H', Agr F F1 F2 → Same F1 H' → ∀ B, OwT K F1 H' P B → Ow K F2 H' d v A ∧ ∀ a ∈ A, ∃ o, F1 a = some o ∧ isC o = true
  | .unk, v, A, z, h => by simp [VS.freeze, fz] at z
  | .non, v, A, z, h => ⟨[(.non, v)], fun F' H1 _ _ => ⟨[], [], rfl, by rw [Ow] at h ⊢; exact ⟨h.1, rfl⟩, rfl⟩, fun F1 F2 H' _ _ B k => by rw [Ow] at h ⊢; exact ⟨h, fun a ha => by rw [h.2] at ha; cases ha⟩⟩
  | .bl b, v, A, z, h => ⟨[(.bl b, v)], fun F' H1 _ _ => ⟨[], [], rfl, by rw [Ow] at h ⊢; exact ⟨h.1, rfl⟩, rfl⟩, fun F1 F2 H' _ _ B k => by rw [Ow] at h ⊢; exact ⟨h, fun a ha => by rw [h.2] at ha; cases ha⟩⟩
  | .int i, v, A, z, h => ⟨[(.int i, v)], fun F' H1 _ _ => ⟨[], [], rfl, by rw [Ow] at h ⊢; exact ⟨h.1, rfl⟩, rfl⟩, fun F1 F2 H' _ _ B k => by rw [Ow] at h ⊢; exact ⟨h, fun a ha => by rw [h.2] at ha; cases ha⟩⟩
  | .str x, v, A, z, h => ⟨[(.str x, v)], fun F' H1 _ _ => ⟨[], [], rfl, by rw [Ow] at h ⊢; exact ⟨h.1, rfl⟩, rfl⟩, fun F1 F2 H' _ _ B k => by rw [Ow] at h ⊢; exact ⟨h, fun a ha => by rw [h.2] at ha; cases ha⟩⟩
  | .adr x, v, A, z, h => ⟨[(.adr x, v)], fun F' H1 _ _ => ⟨[], [], rfl, by rw [Ow] at h ⊢; exact ⟨h.1, rfl⟩, rfl⟩, fun F1 F2 H' _ _ B k => by rw [Ow] at h ⊢; exact ⟨h, fun a ha => by rw [h.2] at ha; cases ha⟩⟩
  | .hole, v, A, z, h => by simp [VS.freeze, fz] at z
  | .exo c q, v, A, z, h => ⟨[(.exo c q, v)], fun F' H1 sF _ => ⟨[], [], rfl, by
      have e := h.frozen _ _ _ (by rfl)
      subst e
      exact h.keep sF _ _ _ (fun a ha => by cases ha), rfl⟩, fun F1 F2 H' g _ B k => by
    obtain ⟨A1, A2, rfl, k, e⟩ := k
    have e1 := h.frozen _ _ _ (by rfl)
    have e2 := k.frozen _ _ _ (by rfl)
    subst e1
    have k : Ow K F1 H' (.exo c q) v A1 := k
    rw [e2] at k
    exact ⟨exo_agr g k, fun a ha => by cases ha⟩⟩
  | .tup ds, v, A, z, h => by
    rw [Ow] at h
    have z := fzzT z
    obtain ⟨a, vs, rfl, q, l⟩ := h
    obtain ⟨P, h1, h2⟩ := OwL.pinF ds vs _ z l
    refine ⟨(.tup (vs.map exV), .ref a) :: P, fun F' H1 sF kA => ⟨[], [], rfl, by rw [Ow]; exact ⟨a, vs, rfl, sF _ _ q, owL_exs⟩, h1 F' H1 sF kA⟩, fun F1 F2 H' g sH B k => ?_⟩
    obtain ⟨A1, A2, rfl, k, o⟩ := k
    rw [Ow] at k ⊢
    obtain ⟨a', vs', e, q', l'⟩ := k
    cases e
    have e := owL_ex l'
    subst e
    obtain ⟨m1, m2⟩ := h2 F1 F2 H' g sH vs' l' _ o
    exact ⟨⟨a, vs', rfl, by rw [g.old _ _ q]; exact q', m1⟩, m2⟩
  | .ktp ds, v, A, z, h => by
    rw [Ow] at h
    have z := fzzK z
    obtain ⟨a, vs, rfl, q, l⟩ := h
    obtain ⟨P, h1, h2⟩ := OwL.pinF ds vs _ z l
    rcases q with q0 | q0
    · refine ⟨(.ktp (vs.map exV), .ref a) :: P, fun F' H1 sF kA => ⟨[], [], rfl, by rw [Ow]; exact ⟨a, vs, rfl, Same.sqT sF (.inl q0), owL_exs⟩, h1 F' H1 sF kA⟩, fun F1 F2 H' g sH B k => ?_⟩
      obtain ⟨A1, A2, rfl, k, o⟩ := k
      rw [Ow] at k ⊢
      obtain ⟨a', vs', e, q', l'⟩ := k
      cases e
      have e := owL_ex l'
      subst e
      obtain ⟨m1, m2⟩ := h2 F1 F2 H' g sH vs' l' _ o
      refine ⟨⟨a, vs', rfl, ?_, m1⟩, m2⟩
      rcases q' with (q' | ⟨u, q'⟩) | q'
      · exact .inl (.inl (by rcases q0 with q | ⟨_, q⟩ <;> (rw [g.old _ _ q]; exact q')))
      · exact .inl (.inr ⟨u, by rcases q0 with q | ⟨_, q⟩ <;> (rw [g.old _ _ q]; exact q')⟩)
      · exact .inr q'
    · refine ⟨P, h1, fun F1 F2 H' g sH B k => ?_⟩
      rw [Ow]
      obtain ⟨m1, m2⟩ := h2 F1 F2 H' g sH vs owL_exs _ k
      exact ⟨⟨a, vs, rfl, .inr q0, m1⟩, m2⟩
  | .lst false ds, v, A, z, h => by
    rw [Ow] at h
    have z := fzzL z
    obtain ⟨a, vs, rfl, q, l⟩ := h
    obtain ⟨P, h1, h2⟩ := OwL.pinF ds vs _ z l
    refine ⟨(.lst false (vs.map exV), .ref a) :: P, fun F' H1 sF kA => ⟨[], [], rfl, by rw [Ow]; exact ⟨a, vs, rfl, sF _ _ q, owL_exs⟩, h1 F' H1 sF kA⟩, fun F1 F2 H' g sH B k => ?_⟩
    obtain ⟨A1, A2, rfl, k, o⟩ := k
    rw [Ow] at k ⊢
    obtain ⟨a', vs', e, q', l'⟩ := k
    cases e
    have e := owL_ex l'
    subst e
    obtain ⟨m1, m2⟩ := h2 F1 F2 H' g sH vs' l' _ o
    exact ⟨⟨a, vs', rfl, by rw [g.old _ _ q]; exact q', m1⟩, m2⟩
  | .scr ds, v, A, z, h => by
    rw [Ow] at h
    have z := fzzS z
    obtain ⟨a, vs, rfl, q, l⟩ := h
    obtain ⟨P, h1, h2⟩ := OwL.pinF ds vs _ z l
    rcases q with q0 | q0
    · refine ⟨(.scr (vs.map exV), .ref a) :: P, fun F' H1 sF kA => ⟨[], [], rfl, by rw [Ow]; exact ⟨a, vs, rfl, sF.seq (.inl q0), owL_exs⟩, h1 F' H1 sF kA⟩, fun F1 F2 H' g sH B k => ?_⟩
      obtain ⟨A1, A2, rfl, k, o⟩ := k
      rw [Ow] at k ⊢
      obtain ⟨a', vs', e, q', l'⟩ := k
      cases e
      have e := owL_ex l'
      subst e
      obtain ⟨m1, m2⟩ := h2 F1 F2 H' g sH vs' l' _ o
      refine ⟨⟨a, vs', rfl, ?_, m1⟩, m2⟩
      rcases q' with (q' | ⟨u, q'⟩) | q'
      · exact .inl (.inl (by rcases q0 with q | ⟨_, q⟩ <;> (rw [g.old _ _ q]; exact q')))
      · exact .inl (.inr ⟨u, by rcases q0 with q | ⟨_, q⟩ <;> (rw [g.old _ _ q]; exact q')⟩)
      · exact .inr q'
    · refine ⟨P, h1, fun F1 F2 H' g sH B k => ?_⟩
      rw [Ow]
      obtain ⟨m1, m2⟩ := h2 F1 F2 H' g sH vs owL_exs _ k
      exact ⟨⟨a, vs, rfl, .inr q0, m1⟩, m2⟩
  | .lst true ds, v, A, z, h => by
    rw [Ow] at h
    have z := fzzL z
    obtain ⟨a, vs, A', rfl, q, l, rfl⟩ := h
    obtain ⟨P, h1, h2⟩ := OwL.pinF ds vs _ z l
    refine ⟨(.lst false (vs.map exV), .ref a) :: P, fun F' H1 sF kA => ⟨[], [], rfl, by rw [Ow]; exact ⟨a, vs, rfl, by rw [kA a (by simp)]; exact q, owL_exs⟩, h1 F' H1 sF fun b hb => kA b (List.mem_cons_of_mem _ hb)⟩, fun F1 F2 H' g sH B k => ?_⟩
    obtain ⟨A1, A2, rfl, k, o⟩ := k
    rw [Ow] at k
    rw [Ow]
    obtain ⟨a', vs', e, q', l'⟩ := k
    cases e
    have e := owL_ex l'
    subst e
    obtain ⟨m1, m2⟩ := h2 F1 F2 H' g sH vs' l' _ o
    exact ⟨⟨a, vs', A', rfl, sH _ _ q', m1, rfl⟩, fun b hb => (List.mem_cons.mp hb).elim (fun e => ⟨_, (congrArg F1 e).trans q', rfl⟩) (m2 b)⟩
  | .dK false ks ds, v, A, z, h => by
    rw [Ow] at h
    have z := fzzD z
    obtain ⟨a, vs, rfl, q, n, l⟩ := h
    obtain ⟨P, h1, h2⟩ := OwL.pinF ds vs _ z l
    refine ⟨(.dK false ks (vs.map exV), .ref a) :: P, fun F' H1 sF kA => ⟨[], [], rfl, by rw [Ow]; exact ⟨a, vs, rfl, sF _ _ q, ⟨by rw [List.length_map, ← l.length]; exact n.1, n.2⟩, owL_exs⟩, h1 F' H1 sF kA⟩, fun F1 F2 H' g sH B k => ?_⟩
    obtain ⟨A1, A2, rfl, k, o⟩ := k
    rw [Ow] at k ⊢
    obtain ⟨a', vs', e, q', n', l'⟩ := k
    cases e
    have e := owL_ex l'
    subst e
    obtain ⟨m1, m2⟩ := h2 F1 F2 H' g sH vs' l' _ o
    exact ⟨⟨a, vs', rfl, by rw [g.old _ _ q]; exact q', n, m1⟩, m2⟩
  | .dK true ks ds, v, A, z, h => by
    rw [Ow] at h
    have z := fzzD z
    obtain ⟨a, vs, A', rfl, q, n, l, rfl⟩ := h
    obtain ⟨P, h1, h2⟩ := OwL.pinF ds vs _ z l
    refine ⟨(.dK false ks (vs.map exV), .ref a) :: P, fun F' H1 sF kA => ⟨[], [], rfl, by rw [Ow]; exact ⟨a, vs, rfl, by rw [kA a (by simp)]; exact q, ⟨by rw [List.length_map, ← l.length]; exact n.1, n.2⟩, owL_exs⟩, h1 F' H1 sF fun b hb => kA b (List.mem_cons_of_mem _ hb)⟩, fun F1 F2 H' g sH B k => ?_⟩
    obtain ⟨A1, A2, rfl, k, o⟩ := k
    rw [Ow] at k
    rw [Ow]
    obtain ⟨a', vs', e, q', n', l'⟩ := k
    cases e
    have e := owL_ex l'
    subst e
    obtain ⟨m1, m2⟩ := h2 F1 F2 H' g sH vs' l' _ o
    exact ⟨⟨a, vs', A', rfl, sH _ _ q', n, m1, rfl⟩, fun b hb => (List.mem_cons.mp hb).elim (fun e => ⟨_, (congrArg F1 e).trans q', rfl⟩) (m2 b)⟩
  | .dT false ks ds, v, A, z, h => by
    rw [Ow] at h
    have z := fzzE z
    obtain ⟨a, vs, rfl, q, n, l⟩ := h
    obtain ⟨P, h1, h2⟩ := OwL.pinF ds vs _ z l
    refine ⟨(.dT false ks (vs.map exV), .ref a) :: P, fun F' H1 sF kA => ⟨[], [], rfl, by rw [Ow]; exact ⟨a, vs, rfl, sF _ _ q, ⟨by rw [List.length_map, ← l.length]; exact n.1, n.2⟩, owL_exs⟩, h1 F' H1 sF kA⟩, fun F1 F2 H' g sH B k => ?_⟩
    obtain ⟨A1, A2, rfl, k, o⟩ := k
    rw [Ow] at k ⊢
    obtain ⟨a', vs', e, q', n', l'⟩ := k
    cases e
    have e := owL_ex l'
    subst e
    obtain ⟨m1, m2⟩ := h2 F1 F2 H' g sH vs' l' _ o
    exact ⟨⟨a, vs', rfl, by rw [g.old _ _ q]; exact q', n, m1⟩, m2⟩
  | .dT true ks ds, v, A, z, h => by
    rw [Ow] at h
    have z := fzzE z
    obtain ⟨a, vs, A', rfl, q, n, l, rfl⟩ := h
    obtain ⟨P, h1, h2⟩ := OwL.pinF ds vs _ z l
    refine ⟨(.dT false ks (vs.map exV), .ref a) :: P, fun F' H1 sF kA => ⟨[], [], rfl, by rw [Ow]; exact ⟨a, vs, rfl, by rw [kA a (by simp)]; exact q, ⟨by rw [List.length_map, ← l.length]; exact n.1, n.2⟩, owL_exs⟩, h1 F' H1 sF fun b hb => kA b (List.mem_cons_of_mem _ hb)⟩, fun F1 F2 H' g sH B k => ?_⟩
    obtain ⟨A1, A2, rfl, k, o⟩ := k
    rw [Ow] at k
    rw [Ow]
    obtain ⟨a', vs', e, q', n', l'⟩ := k
    cases e
    have e := owL_ex l'
    subst e
    obtain ⟨m1, m2⟩ := h2 F1 F2 H' g sH vs' l' _ o
    exact ⟨⟨a, vs', A', rfl, sH _ _ q', n, m1, rfl⟩, fun b hb => (List.mem_cons.mp hb).elim (fun e => ⟨_, (congrArg F1 e).trans q', rfl⟩) (m2 b)⟩
  | .lK ks ds, v, A, z, h => by
    rw [Ow] at h
    have z := fzzlK z
    obtain ⟨a, vs, rfl, ⟨o, q⟩, n, l⟩ := h
    obtain ⟨P, h1, h2⟩ := OwL.pinF ds vs _ z l
    refine ⟨(.lck (.frz o (.dK (ks.zip vs))), .ref a) :: P, fun F' H1 sF kA => ⟨[], [], rfl, by rw [Ow]; exact ⟨⟨a, rfl, sF _ _ q⟩, rfl⟩, h1 F' H1 sF kA⟩, fun F1 F2 H' g sH B k => ?_⟩
    obtain ⟨A1, A2, rfl, k, o2⟩ := k
    rw [Ow] at k
    rw [Ow]
    obtain ⟨⟨a', e, q'⟩, e2⟩ := k
    cases e
    subst e2
    obtain ⟨m1, m2⟩ := h2 F1 F2 H' g sH vs owL_exs _ o2
    exact ⟨⟨a, vs, rfl, ⟨o, (g.old _ _ q).trans q'⟩, n, m1⟩, m2⟩
  | .lT ks ds, v, A, z, h => by
    rw [Ow] at h
    have z := fzzlT z
    obtain ⟨a, vs, rfl, ⟨o, q⟩, n, l⟩ := h
    obtain ⟨P, h1, h2⟩ := OwL.pinF ds vs _ z l
    refine ⟨(.lck (.frz o (.dT (ks.zip vs))), .ref a) :: P, fun F' H1 sF kA => ⟨[], [], rfl, by rw [Ow]; exact ⟨⟨a, rfl, sF _ _ q⟩, rfl⟩, h1 F' H1 sF kA⟩, fun F1 F2 H' g sH B k => ?_⟩
    obtain ⟨A1, A2, rfl, k, o2⟩ := k
    rw [Ow] at k
    rw [Ow]
    obtain ⟨⟨a', e, q'⟩, e2⟩ := k
    cases e
    subst e2
    obtain ⟨m1, m2⟩ := h2 F1 F2 H' g sH vs owL_exs _ o2
    exact ⟨⟨a, vs, rfl, ⟨o, (g.old _ _ q).trans q'⟩, n, m1⟩, m2⟩
  | .ob C fs ds, v, A, z, h => by simp [VS.freeze, fz] at z
  | .lck u, v, A, z, h => by
    rw [Ow] at h
    obtain ⟨⟨a, rfl, q⟩, rfl⟩ := h
    refine ⟨[(.lck u, .ref a)], fun F' H1 sF _ => ⟨[], [], rfl, by rw [Ow]; exact ⟨⟨a, rfl, sF _ _ q⟩, rfl⟩, rfl⟩, fun F1 F2 H' g sH B k => ?_⟩
    obtain ⟨A1, A2, rfl, k, e⟩ := k
    rw [Ow] at k
    rw [Ow]
    obtain ⟨⟨a', e, q'⟩, e2⟩ := k
    cases e
    exact ⟨⟨⟨a, rfl, by rw [g.old _ _ q]; exact q'⟩, rfl⟩, fun a ha => by cases ha⟩
theorem OwL.pinF : ∀ (ds : List D) (vs : List V) (A : List Addr), fzL (freezeL ds) = true → OwL K F H ds vs A → ∃ P, (∀ F' H1, Same F F' → (∀ a ∈ A, F' a = H a) → OwT K F' H1 P []) ∧ ∀ F1 F2 H', Agr F F1 F2 → Same F1 H' → ∀ vs', OwL K F1 H' (vs.map exV) vs' [] → ∀ B, OwT K F1 H' P B → OwL K F2 H' ds vs' A ∧ ∀ a ∈ A, ∃ o, F1 a = some o ∧ isC o = true
  | [], vs, A, z, h => by
    rw [OwL] at h
    obtain ⟨rfl, rfl⟩ := h
    refine ⟨[], fun _ _ _ _ => rfl, fun F1 F2 H' _ _ vs' l B k => ?_⟩
    rw [List.map_nil, OwL] at l
    rw [OwL]
    exact ⟨⟨l.1, rfl⟩, fun a ha => by cases ha⟩
  | d :: ds, vs, A, z, h => by
    rw [OwL] at h
    rw [freezeL, fzL, Bool.and_eq_true] at z
    obtain ⟨v, r, A1, A2, rfl, rfl, h1, h2⟩ := h
    obtain ⟨P1, p1, k1⟩ := Ow.pinF d v A1 z.1 h1
    obtain ⟨P2, p2, k2⟩ := OwL.pinF ds r A2 z.2 h2
    refine ⟨P1 ++ P2, fun F' H1 sF kA => (p1 F' H1 sF fun b hb => kA b (List.mem_append_left _ hb)).append (p2 F' H1 sF fun b hb => kA b (List.mem_append_right _ hb)), fun F1 F2 H' g sH vs' l B k => ?_⟩
    obtain ⟨B1, B2, rfl, o1, o2⟩ := k.split
    rw [List.map_cons, OwL] at l
    obtain ⟨w, r', C1, C2, rfl, e, l1, l2⟩ := l
    obtain ⟨rfl, rfl⟩ := List.append_eq_nil_iff.mp e.symm
    rw [OwL]
    obtain ⟨n1, n2⟩ := k2 F1 F2 H' g sH r' l2 B2 o2
    obtain ⟨m, m2⟩ := k1 F1 F2 H' g sH B1 o1
    refine ⟨⟨w, r', A1, A2, rfl, rfl, ?_, n1⟩, fun b hb => (List.mem_append.mp hb).elim (m2 b) (n2 b)⟩
    rcases (ow_ex l1).2 with y | rfl
    · have e := unk_of y d h1
      subst e
      rw [Ow] at m ⊢
      exact m
    · exact m
end
end
end VS
set_option Elab.async false
set_option linter.all false
set_option maxRecDepth 100000
set_option maxHeartbeats 4000000
set_option autoImplicit false
noncomputable section
namespace VS
open PySem PySem.Spec PyProof.Rows L2
section
variable {K : PySem.W.Frag} {F F1 F2 H H' : Hp} {L : List (D × V)}
theorem OwT.pin : ∀ {L : List (D × V)} {A : List Addr}, OwT K F H L A → ∃ P, OwT K F H P A ∧ ∀ F1 F2 H' A', Agr F F1 F2 → OwT K F1 H' P A' → OwT K F2 H' L A'
  | [], A, h => ⟨[], h, fun _ _ _ _ _ k => k⟩
  | p :: L, A, h => by
    obtain ⟨A1, A2, rfl, h1, h2⟩ := h
    obtain ⟨P1, p1, k1⟩ := h1.pin
    obtain ⟨P2, p2, k2⟩ := OwT.pin h2
    refine ⟨P1 ++ P2, p1.append p2, fun F1 F2 H' A' g k => ?_⟩
    obtain ⟨B1, B2, rfl, o1, o2⟩ := k.split
    exact ⟨B1, B2, rfl, k1 F1 F2 H' B1 g o1, k2 F1 F2 H' B2 g o2⟩
theorem OwT.mem : ∀ {L : List (D × V)} {A : List Addr} {p : D × V}, OwT K F H L A → p ∈ L → ∃ B, Ow K F H p.1 p.2 B
  | [], A, p, h, hp => by cases hp
  | q :: L, A, p, h, hp => by
    obtain ⟨A1, A2, rfl, h1, h2⟩ := h
    rcases List.mem_cons.mp hp with rfl | hp
    · exact ⟨_, h1⟩
    · exact OwT.mem h2 hp
mutual
/-- no frozen list or dict in it, and no script -/
def pl : D → Bool
  | .tup ds => plL ds
  | .ktp ds => plL ds
  | .lst o ds => o && plL ds
  | .scr _ => false
  | .dK o _ ds => o && plL ds
  | .dT o _ ds => o && plL ds
  | .lK _ _ => false
  | .lT _ _ => false
  | .lck _ => false
  | .ob _ _ _ => false
  | _ => true
def plL : List D → Bool
  | [] => true
  | d :: ds => pl d && plL ds
end
mutual
theorem Ow.pl (g : ∀ b o, F1 b = some o → isC o = false → F2 b = some o) : ∀ (d : D) (v : V) (A : List Addr), VS.pl d = true → Ow K F1 H d v A → Ow K F2 H d v A
  | .unk, v, A, z, h => by rw [Ow] at h ⊢; exact h
  | .hole, v, A, z, h => by rw [Ow] at h ⊢; exact h
  | .non, v, A, z, h => by rw [Ow] at h ⊢; exact h
  | .bl b, v, A, z, h => by rw [Ow] at h ⊢; exact h
  | .int b, v, A, z, h => by rw [Ow] at h ⊢; exact h
  | .str b, v, A, z, h => by rw [Ow] at h ⊢; exact h
  | .adr b, v, A, z, h => by rw [Ow] at h ⊢; exact h
  | .exo c q, v, A, z, h => exo_agr (F := fun _ => none) ⟨fun b o e => (by cases e), g⟩ h
  | .scr ds, v, A, z, h => by simp [VS.pl] at z
  | .lK ks ds, v, A, z, h => by simp [VS.pl] at z
  | .lT ks ds, v, A, z, h => by simp [VS.pl] at z
  | .lck u, v, A, z, h => by simp [VS.pl] at z
  | .ob C fs ds, v, A, z, h => by simp [VS.pl] at z
  | .lst false ds, v, A, z, h => by simp [VS.pl] at z
  | .dK false ks ds, v, A, z, h => by simp [VS.pl] at z
  | .dT false ks ds, v, A, z, h => by simp [VS.pl] at z
  | .tup ds, v, A, z, h => by
    rw [VS.pl] at z
    rw [Ow] at h ⊢
    obtain ⟨a, vs, e, q, l⟩ := h
    exact ⟨a, vs, e, g _ _ q rfl, OwL.pl g ds vs A z l⟩
  | .ktp ds, v, A, z, h => by
    rw [VS.pl] at z
    rw [Ow] at h ⊢
    obtain ⟨a, vs, e, q, l⟩ := h
    refine ⟨a, vs, e, ?_, OwL.pl g ds vs A z l⟩
    rcases q with (q | ⟨u, q⟩) | q
    · exact .inl (.inl (g _ _ q rfl))
    · exact .inl (.inr ⟨u, g _ _ q rfl⟩)
    · exact .inr q
  | .lst true ds, v, A, z, h => by
    have z : VS.plL ds = true := by rw [VS.pl] at z; simpa using z
    rw [Ow] at h ⊢
    obtain ⟨a, vs, A', e, q, l, rfl⟩ := h
    exact ⟨a, vs, A', e, q, OwL.pl g ds vs A' z l, rfl⟩
  | .dK true ks ds, v, A, z, h => by
    have z : VS.plL ds = true := by rw [VS.pl] at z; simpa using z
    rw [Ow] at h ⊢
    obtain ⟨a, vs, A', e, q, n, l, rfl⟩ := h
    exact ⟨a, vs, A', e, q, n, OwL.pl g ds vs A' z l, rfl⟩
  | .dT true ks ds, v, A, z, h => by
    have z : VS.plL ds = true := by rw [VS.pl] at z; simpa using z
    rw [Ow] at h ⊢
    obtain ⟨a, vs, A', e, q, n, l, rfl⟩ := h
    exact ⟨a, vs, A', e, q, n, OwL.pl g ds vs A' z l, rfl⟩
theorem OwL.pl (g : ∀ b o, F1 b = some o → isC o = false → F2 b = some o) : ∀ (ds : List D) (vs : List V) (A : List Addr), VS.plL ds = true → OwL K F1 H ds vs A → OwL K F2 H ds vs A
  | [], vs, A, z, h => by rw [OwL] at h ⊢; exact h
  | d :: ds, vs, A, z, h => by
    rw [VS.plL, Bool.and_eq_true] at z
    rw [OwL] at h ⊢
    obtain ⟨v, r, A1, A2, e, rfl, h1, h2⟩ := h
    exact ⟨v, r, A1, A2, e, rfl, Ow.pl g d v A1 z.1 h1, OwL.pl g ds r A2 z.2 h2⟩
end
def dif : D → D → Bool
  | .int a, .int b => a != b
  | .int _, .lst _ _ => true
  | .int _, .tup _ => true
  | .lst _ _, .int _ => true
  | .tup _, .int _ => true
  | _, _ => false
def difL : List D → List D → Bool
  | [], [] => false
  | y :: ys, x :: xs => dif y x || difL ys xs
  | _, _ => true
theorem ow_lst {o : Bool} {ds : List D} {v : V} {A : List Addr} (h : Ow K F H (.lst o ds) v A) : ∃ a, v = .ref a := by
  cases o <;> rw [Ow] at h
  · obtain ⟨a, vs, e, _⟩ := h; exact ⟨a, e⟩
  · obtain ⟨a, vs, A', e, _⟩ := h; exact ⟨a, e⟩
theorem ow_tup {ds : List D} {v : V} {A : List Addr} (h : Ow K F H (.tup ds) v A) : ∃ a, v = .ref a := by
  rw [Ow] at h
  obtain ⟨a, vs, e, _⟩ := h; exact ⟨a, e⟩
theorem dif_no {y x : D} {v : V} {A B : List Addr} (h : dif y x = true) (hy : Ow K F1 H y v A) (hx : Ow K F2 H' x v B) : False := by
  cases y <;> cases x <;> simp only [dif, Bool.false_eq_true] at h
  · rw [Ow] at hx hy
    have := hx.1.symm.trans hy.1
    injection this with e
    subst e
    simp at h
  · rw [Ow] at hy
    obtain ⟨a, e⟩ := ow_tup hx
    rw [hy.1] at e; cases e
  · rw [Ow] at hy
    obtain ⟨a, e⟩ := ow_lst hx
    rw [hy.1] at e; cases e
  · rw [Ow] at hx
    obtain ⟨a, e⟩ := ow_tup hy
    rw [hx.1] at e; cases e
  · rw [Ow] at hx
    obtain ⟨a, e⟩ := ow_lst hy
    rw [hx.1] at e; cases e
theorem difL_no : ∀ {ys xs : List D} {vs : List V} {A B : List Addr}, difL ys xs = true → OwL K F1 H ys vs A → OwL K F2 H' xs vs B → False
  | [], [], vs, A, B, h, _, _ => by simp [difL] at h
  | [], x :: xs, vs, A, B, h, hy, hx => by
    rw [OwL] at hy
    rw [OwL] at hx
    obtain ⟨v, r, _, _, e, _⟩ := hx
    rw [hy.1] at e; cases e
  | y :: ys, [], vs, A, B, h, hy, hx => by
    rw [OwL] at hy
    rw [OwL] at hx
    obtain ⟨v, r, _, _, e, _⟩ := hy
    rw [hx.1] at e; cases e
  | y :: ys, x :: xs, vs, A, B, h, hy, hx => by
    rw [difL, Bool.or_eq_true] at h
    rw [OwL] at hy
    rw [OwL] at hx
    obtain ⟨v, r, A1, A2, e1, _, y1, y2⟩ := hy
    obtain ⟨v', r', B1, B2, e2, _, x1, x2⟩ := hx
    rw [e1] at e2
    injection e2 with ea eb
    subst ea; subst eb
    rcases h with h | h
    · exact dif_no h y1 x1
    · exact difL_no h y2 x2
mutual
/-- no frozen list in it can be the list xs -/
def avo (xs : List D) : D → Bool
  | .tup ds => avoL xs ds
  | .ktp ds => avoL xs ds
  | .lst o ds => (o || difL ds xs) && avoL xs ds
  | .scr _ => false
  | .dK _ _ ds => avoL xs ds
  | .dT _ _ ds => avoL xs ds
  | .lK _ _ => false
  | .lT _ _ => false
  | .lck _ => false
  | .ob _ _ _ => false
  | _ => true
def avoL (xs : List D) : List D → Bool
  | [] => true
  | d :: ds => avo xs d && avoL xs ds
end
section
variable {a : Addr} {xs : List D} {ws : List V} {B : List Addr}
mutual
theorem Ow.avo (q0 : F1 a = some (.lst ws)) (hx : OwL K F1 H' xs ws B) (g : ∀ b, b ≠ a → F2 b = F1 b) : ∀ (d : D) (v : V) (A : List Addr), VS.avo xs d = true → Ow K F1 H d v A → Ow K F2 H d v A
  | .unk, v, A, z, h => by rw [Ow] at h ⊢; exact h
  | .hole, v, A, z, h => by rw [Ow] at h ⊢; exact h
  | .non, v, A, z, h => by rw [Ow] at h ⊢; exact h
  | .bl b, v, A, z, h => by rw [Ow] at h ⊢; exact h
  | .int b, v, A, z, h => by rw [Ow] at h ⊢; exact h
  | .str b, v, A, z, h => by rw [Ow] at h ⊢; exact h
  | .adr b, v, A, z, h => by rw [Ow] at h ⊢; exact h
  | .exo c q, v, A, z, h => exo_agr (F := fun _ => none) ⟨fun b o e => (by cases e), fun b o e n => (by
      have nb : b ≠ a := fun z => by
        rw [z, q0] at e
        cases e
        cases n
      rw [g b nb]
      exact e)⟩ h
  | .scr ds, v, A, z, h => by simp [VS.avo] at z
  | .lK ks ds, v, A, z, h => by simp [VS.avo] at z
  | .lT ks ds, v, A, z, h => by simp [VS.avo] at z
  | .lck u, v, A, z, h => by simp [VS.avo] at z
  | .ob C fs ds, v, A, z, h => by simp [VS.avo] at z
  | .tup ds, v, A, z, h => by
    rw [VS.avo] at z
    rw [Ow] at h ⊢
    obtain ⟨b, vs, e, q, l⟩ := h
    exact ⟨b, vs, e, by rw [g b fun z => by rw [z, q0] at q; cases q]; exact q, OwL.avo q0 hx g ds vs A z l⟩
  | .ktp ds, v, A, z, h => by
    rw [VS.avo] at z
    rw [Ow] at h ⊢
    obtain ⟨b, vs, e, q, l⟩ := h
    refine ⟨b, vs, e, ?_, OwL.avo q0 hx g ds vs A z l⟩
    rcases q with (q | ⟨u, q⟩) | q
    · exact .inl (.inl (by rw [g b fun z => by rw [z, q0] at q; cases q]; exact q))
    · exact .inl (.inr ⟨u, by rw [g b fun z => by rw [z, q0] at q; cases q]; exact q⟩)
    · exact .inr q
  | .lst false ds, v, A, z, h => by
    rw [VS.avo, Bool.and_eq_true] at z
    obtain ⟨z1, z2⟩ := z
    have z1 : difL ds xs = true := by simpa using z1
    rw [Ow] at h ⊢
    obtain ⟨b, vs, e, q, l⟩ := h
    have nb : b ≠ a := fun z => by
      rw [z, q0] at q
      injection q with q
      injection q with q
      subst q
      exact difL_no z1 l hx
    exact ⟨b, vs, e, by rw [g b nb]; exact q, OwL.avo q0 hx g ds vs A z2 l⟩
  | .lst true ds, v, A, z, h => by
    rw [VS.avo, Bool.and_eq_true] at z
    rw [Ow] at h ⊢
    obtain ⟨b, vs, A', e, q, l, rfl⟩ := h
    exact ⟨b, vs, A', e, q, OwL.avo q0 hx g ds vs A' z.2 l, rfl⟩
  | .dK false ks ds, v, A, z, h => by
    rw [VS.avo] at z
    rw [Ow] at h ⊢
    obtain ⟨b, vs, e, q, n, l⟩ := h
    exact ⟨b, vs, e, by rw [g b fun z => by rw [z, q0] at q; cases q]; exact q, n, OwL.avo q0 hx g ds vs A z l⟩
  | .dT false ks ds, v, A, z, h => by
    rw [VS.avo] at z
    rw [Ow] at h ⊢
    obtain ⟨b, vs, e, q, n, l⟩ := h
    exact ⟨b, vs, e, by rw [g b fun z => by rw [z, q0] at q; cases q]; exact q, n, OwL.avo q0 hx g ds vs A z l⟩
  | .dK true ks ds, v, A, z, h => by
    rw [VS.avo] at z
    rw [Ow] at h ⊢
    obtain ⟨b, vs, A', e, q, n, l, rfl⟩ := h
    exact ⟨b, vs, A', e, q, n, OwL.avo q0 hx g ds vs A' z l, rfl⟩
  | .dT true ks ds, v, A, z, h => by
    rw [VS.avo] at z
    rw [Ow] at h ⊢
    obtain ⟨b, vs, A', e, q, n, l, rfl⟩ := h
    exact ⟨b, vs, A', e, q, n, OwL.avo q0 hx g ds vs A' z l, rfl⟩
theorem OwL.avo (q0 : F1 a = some (.lst ws)) (hx : OwL K F1 H' xs ws B) (g : ∀ b, b ≠ a → F2 b = F1 b) : ∀ (ds : List D) (vs : List V) (A : List Addr), VS.avoL xs ds = true → OwL K F1 H ds vs A → OwL K F2 H ds vs A
  | [], vs, A, z, h => by rw [OwL] at h ⊢; exact h
  | d :: ds, vs, A, z, h => by
    rw [VS.avoL, Bool.and_eq_true] at z
    rw [OwL] at h ⊢
    obtain ⟨v, r, A1, A2, e, rfl, h1, h2⟩ := h
    exact ⟨v, r, A1, A2, e, rfl, Ow.avo q0 hx g d v A1 z.1 h1, OwL.avo q0 hx g ds r A2 z.2 h2⟩
end
end
def avoG (d0 d : D) : Bool := pl d || (match d0 with
  | .lst true xs => fzL xs && avo xs d
  | _ => false)
theorem lend_core {d0 : D} {v0 : V} (z : fz (VS.freeze d0) = true) (r : RepT K H ((d0, v0) :: L)) :
    ∃ P, (∀ S : List (D × V), (∀ p ∈ S, p = (VS.freeze d0, v0) ∨ (p ∈ L ∧ fz p.1 = true) ∨ p.1 = .unk) → RepT K H (P ++ S)) ∧
      ∀ H' d v, avoG d0 d = true → RepT K H' ((d, v) :: P) → RepT K H' ((d, v) :: (d0, v0) :: L) := by
  obtain ⟨F, A, sF, nd, fr, A1, A2, rfl, h1, o⟩ := r
  obtain ⟨n1, n2, n3⟩ := List.nodup_append.mp nd
  obtain ⟨P0, p0, k0⟩ := Ow.pinF _ _ _ z h1
  obtain ⟨P1, p1, k1⟩ := OwT.pin o
  refine ⟨P0 ++ P1, fun S hS => ?_, fun H' d v hd r' => ?_⟩
  · let F' : Hp := fun a => if a ∈ A1 then H a else F a
    have sF' : Same F F' := fun b u q => by
      have : b ∉ A1 := fun hb => by rw [fr b (List.mem_append_left _ hb)] at q; cases q
      show (if b ∈ A1 then H b else F b) = some u
      rw [if_neg this]; exact q
    have kA : ∀ a ∈ A1, F' a = H a := fun a ha => if_pos ha
    have oS : OwT K F' H S [] := by
      clear p0 k0 p1 k1
      induction S with
      | nil => rfl
      | cons p S ih =>
        refine ⟨[], [], rfl, ?_, ih fun q hq => hS q (List.mem_cons_of_mem _ hq)⟩
        rcases hS p List.mem_cons_self with e | ⟨e1, e2⟩ | e
        · rw [e]
          exact h1.freeze sF' _ _ _ kA
        · obtain ⟨B, hB⟩ := o.mem e1
          have := hB.frozen _ _ _ e2
          subst this
          exact hB.keep sF' _ _ _ fun a ha => by cases ha
        · rw [e, Ow]
    refine ⟨F', A2, ⟨fun b u q => ?_, sF.gh.to sF' fun P ps a b => ⟨?_, b⟩⟩, n2, fun a ha => ?_, ?_⟩
    · by_cases hb : b ∈ A1
      · rw [kA b hb] at q; exact q
      · have e : F' b = F b := if_neg hb
        rw [e] at q; exact sF _ _ q
    · have hP : P ∉ A1 := fun hb => by
        obtain ⟨o, e, n⟩ := h1.dom _ _ _ P hb
        rw [b] at e
        exact n.2 ps (Option.some.inj e).symm
      exact (if_neg hP).trans a
    · have : a ∉ A1 := fun hb => n3 a hb a ha rfl
      show (if a ∈ A1 then H a else F a) = none
      rw [if_neg this]; exact fr a (List.mem_append_right _ ha)
    · have := ((p0 F' H sF' kA).append (p1.keep sF' fun _ _ => rfl)).append oS
      simpa using this
  · obtain ⟨F1, A', sF1, nd', fr', Ad, C, rfl, hd1, o'⟩ := r'
    obtain ⟨B0, B1, rfl, o0, o1⟩ := o'.split
    let F2 : Hp := fun b => if b ∈ A1 then none else F1 b
    have ne2 : ∀ b, b ∉ A1 → F2 b = F1 b := fun b hb => if_neg hb
    have in2 : ∀ b, b ∈ A1 → F2 b = none := fun b hb => if_pos hb
    have c1 := (k0 F1 F1 H' ⟨fun _ _ _ => rfl, fun _ _ e _ => e⟩ sF1 B0 o0).2
    have oth : ∀ b o, F1 b = some o → isC o = false → F2 b = some o := fun b o e n => by
      rw [ne2 b fun hb => by
        obtain ⟨o', e', n'⟩ := c1 b hb
        rw [e] at e'
        injection e' with e'
        subst e'
        rw [n] at n'; cases n']
      exact e
    have g : Agr F F1 F2 := ⟨fun b o e => ne2 b fun hb => (by rw [fr b (List.mem_append_left _ hb)] at e; cases e), oth⟩
    have w0 := (k0 F1 F2 H' g sF1 B0 o0).1
    have w1 := k1 F1 F2 H' B1 g o1
    have hd2 : Ow K F2 H' d v Ad := by
      unfold avoG at hd
      rw [Bool.or_eq_true] at hd
      rcases hd with hd | hd
      · exact hd1.pl oth _ _ _ hd
      · cases d0 with
        | lst ob xs =>
          cases ob with
          | false => simp at hd
          | true =>
            simp only [Bool.and_eq_true] at hd
            have w := (k0 F1 F1 H' ⟨fun _ _ _ => rfl, fun _ _ e _ => e⟩ sF1 B0 o0).1
            rw [Ow] at w
            obtain ⟨a, vs, A'', e, q, l, e2⟩ := w
            have e3 := l.frozen _ _ _ hd.1
            subst e3
            subst e2
            obtain ⟨o, q1, _⟩ := c1 a (by simp)
            have q2 : F1 a = some (.lst vs) := by
              have := sF1 _ _ q1
              rw [q] at this
              rw [q1, ← this]
            exact hd1.avo q2 l (fun b hb => ne2 b (by simpa using hb)) _ _ _ hd.2
        | _ => simp at hd
    obtain ⟨m1, m2, m3⟩ := List.nodup_append.mp nd'
    obtain ⟨m4, m5, m6⟩ := List.nodup_append.mp m2
    have nA : ∀ b, b ∈ A1 → F1 b ≠ none := fun b hb e => by
      obtain ⟨o, q, _⟩ := c1 b hb
      rw [e] at q; cases q
    refine ⟨F2, Ad ++ (A1 ++ B1), ⟨fun b u q => ?_, sF1.gh.to2 (fun b φ e => oth _ _ e rfl) fun P ps a b => ⟨?_, b⟩⟩, ?_, fun b hb => ?_, Ad, _, rfl, hd2, A1, B1, rfl, w0, w1⟩
    · by_cases hb : b ∈ A1
      · rw [in2 b hb] at q; cases q
      · rw [ne2 b hb] at q; exact sF1 _ _ q
    · by_cases hb : P ∈ A1
      · exact in2 P hb
      · rw [ne2 P hb]; exact a
    · refine List.nodup_append.mpr ⟨m1, List.nodup_append.mpr ⟨n1, m5, fun b hb c hc e => ?_⟩, fun b hb c hc e => ?_⟩
      · subst e
        exact nA b hb (fr' b (by simp [hc]))
      · subst e
        rcases List.mem_append.mp hc with hc | hc
        · exact nA b hc (fr' b (by simp [hb]))
        · exact m3 b hb b (List.mem_append_right _ hc) rfl
    · by_cases hb1 : b ∈ A1
      · exact in2 b hb1
      · rw [ne2 b hb1]
        refine fr' b ?_
        simp only [List.mem_append] at hb ⊢
        rcases hb with hb | hb | hb
        · exact .inl hb
        · exact absurd hb hb1
        · exact .inr (.inr hb)
end
end VS
set_option Elab.async false
set_option linter.all false
set_option maxRecDepth 100000
set_option maxHeartbeats 4000000
set_option autoImplicit false
noncomputable section
namespace VS
open PySem PySem.Spec PyProof.Rows L2
section
variable {X : Cx} {W : WX} {K : PySem.W.Frag} {mg : Str → Option Value} {H H1 : Hp} {T L : List (D × V)} {ρ ρ' : Env} {σ σ' : St} {m : Bool}
def hid (d : D) : D := if fz d = true then d else .unk
def lendEnv (i : Nat) (d : D) (ρ : Env) : Env := (ρ.map hid).set i (freeze d)
def dLend (i : Nat) (f : M D) : M D := fun ρ => if fz (freeze (ρ.getD i .unk)) = true then match f (lendEnv i (ρ.getD i .unk) ρ) with
    | some (.ok d _) => if avoG (ρ.getD i .unk) d = true then some (.ok d ρ) else none
    | _ => none
  else none
theorem SL_mem {i : Nat} : ∀ {ρ ρ' : Env} {σ : St}, ρ.length = σ.length → ρ'.length = σ.length → (∀ j d, j ≠ i → ρ'[j]? = some d → d = .unk ∨ (fz d = true ∧ ρ[j]? = some d)) → ∀ {p : D × V} (j : Nat), (SL ρ' σ)[j]? = some p → j ≠ i → (p ∈ (SL ρ σ).eraseIdx i ∧ fz p.1 = true) ∨ p.1 = .unk := by
  intro ρ ρ' σ l l' h p j hp hj
  have hl : j < ρ'.length := by
    have := (List.getElem?_eq_some_iff.mp hp).1
    simp [SL] at this
    omega
  have hs : j < σ.length := by omega
  have e : (SL ρ' σ)[j]? = some (ρ'[j], (σ[j]).getD .non) := by
    rw [SL, List.getElem?_zipWith, List.getElem?_eq_getElem hl, List.getElem?_eq_getElem hs]
  rw [hp] at e
  have e : p = (ρ'[j], (σ[j]).getD .non) := Option.some.inj e
  rcases h j ρ'[j] hj (List.getElem?_eq_getElem hl) with q | ⟨q1, q2⟩
  · right
    rw [e]; exact q
  · left
    rw [e]
    refine ⟨?_, q1⟩
    have e2 : (SL ρ σ)[j]? = some (ρ'[j], (σ[j]).getD .non) := by
      rw [SL, List.getElem?_zipWith, q2, List.getElem?_eq_getElem hs]
    by_cases z : j < i
    · exact List.mem_of_getElem? (i := j) (by rw [List.getElem?_eraseIdx, if_pos z]; exact e2)
    · have hj2 : i < j := by omega
      exact List.mem_of_getElem? (i := j - 1) (by rw [List.getElem?_eraseIdx, if_neg (by omega), show j - 1 + 1 = j by omega]; exact e2)
theorem lendEnv_at {i j : Nat} {d0 d : D} (hj : j ≠ i) (h : (lendEnv i d0 ρ)[j]? = some d) : d = .unk ∨ (fz d = true ∧ ρ[j]? = some d) := by
  unfold lendEnv at h
  rw [List.getElem?_set_ne (Ne.symm hj), List.getElem?_map] at h
  cases q : ρ[j]? with
  | none => rw [q] at h; cases h
  | some x =>
    rw [q] at h
    have h : hid x = d := Option.some.inj h
    unfold hid at h
    split at h
    · rename_i z
      subst h
      exact .inr ⟨z, rfl⟩
    · exact .inl h.symm
theorem lend_rep {i : Nat} (rep : Rep K H T ρ σ) (z : fz (freeze (ρ.getD i .unk)) = true) :
    ∃ P v, σ[i]? = some (some v) ∧ Rep K H P (lendEnv i (ρ.getD i .unk) ρ) σ ∧ ∀ H' d w, avoG (ρ.getD i .unk) d = true → RepT K H' ((d, w) :: P) → Rep K H' ((d, w) :: T) ρ σ := by
  have hn : ρ.getD i .unk ≠ .unk := fun e => by rw [e] at z; simp [freeze, fz] at z
  have g1 := getD_some rfl hn
  obtain ⟨v, hv⟩ := rep.slot g1 hn
  have hi : i < ρ.length := (List.getElem?_eq_some_iff.mp g1).1
  have r1 := rep.rep.perm (slot_perm (T := T) g1 hv)
  obtain ⟨P, p1, p2⟩ := lend_core z r1
  have hlen : (lendEnv i (ρ.getD i .unk) ρ).length = ρ.length := by simp [lendEnv]
  refine ⟨P, v, hv, ⟨hlen.trans rep.len, fun j hj => ?_, p1 _ fun p hp => ?_⟩, fun H' d w a r => ?_⟩
  · have hji : j ≠ i := fun e => by rw [e, hv] at hj; cases hj
    have := rep.nos j hj
    unfold lendEnv
    rw [List.getElem?_set_ne (Ne.symm hji), List.getElem?_map, this]
    rfl
  · obtain ⟨j, hj⟩ := List.getElem?_of_mem hp
    by_cases e : j = i
    · subst e
      left
      have : (lendEnv j (ρ.getD j .unk) ρ)[j]? = some (freeze (ρ.getD j .unk)) := by
        unfold lendEnv
        rw [List.getElem?_set_self (by simpa using hi)]
      rw [SL_get this hv] at hj
      exact (Option.some.inj hj).symm
    · right
      rcases SL_mem rep.len (hlen.trans rep.len) (fun j d hj hd => lendEnv_at hj hd) j hj e with q | q
      · exact .inl ⟨List.mem_append_right _ q.1, q.2⟩
      · exact .inr q
  · have r2 := p2 H' d w a r
    exact ⟨rep.len, rep.nos, r2.perm ((slot_perm (T := T) g1 hv).symm.cons _)⟩
theorem ve_lend {e : Expr} {f : M D} (i : Nat) (h : VE X W m e f) : VE X W m e (dLend i f) := by
  refine PE.imp h fun σ H Q ⟨T, ρ, u, rep, hf, he⟩ => ?_
  unfold dLend at hf
  split at hf
  · rename_i z
    obtain ⟨P, v, hv, rp, back⟩ := lend_rep rep z
    split at hf
    · rename_i d ρ1 q
      split at hf
      · rename_i a
        have : u = .ok d ρ := (Option.some.inj hf).symm
        subst this
        refine ⟨P, _, _, rp, q, fun w H' s r => he w H' s (back H' d w a ?_)⟩
        have r2 : RepT X.K H' (((d, w) :: P) ++ SL ρ1 σ) := r.rep
        exact RepT.dropL (U := SL ρ1 σ) (r2.perm List.perm_append_comm)
      · cases hf
    · cases hf
  · cases hf
end
end VS
set_option Elab.async false
set_option linter.all false
set_option maxRecDepth 100000
set_option maxHeartbeats 4000000
set_option autoImplicit false
noncomputable section
namespace VS
open PySem PySem.Spec PyProof.Rows L2
section
variable {X : Cx} {W : WX} {K : PySem.W.Frag} {mg : Str → Option Value} {F H H1 : Hp} {T L : List (D × V)} {ρ ρ' : Env} {σ σ' : St} {m : Bool}
theorem owL_move : ∀ {ds : List D} {vs vs' : List V} {A B : List Addr}, OwL K F H ds vs A → OwL K F H (vs.map exV) vs' B → OwL K F H ds vs' A
  | [], vs, vs', A, B, h, k => by
    rw [OwL] at h
    obtain ⟨rfl, rfl⟩ := h
    rw [List.map_nil, OwL] at k
    rw [OwL]
    exact ⟨k.1, rfl⟩
  | d :: ds, vs, vs', A, B, h, k => by
    rw [OwL] at h
    obtain ⟨v, r, A1, A2, rfl, rfl, h1, h2⟩ := h
    rw [List.map_cons, OwL] at k
    obtain ⟨w, r', C1, C2, rfl, e, l1, l2⟩ := k
    rw [OwL]
    refine ⟨w, r', A1, A2, rfl, rfl, ?_, owL_move h2 l2⟩
    rcases (ow_ex l1).2 with z | rfl
    · have e := unk_of z d h1
      subst e
      rw [Ow] at h1 ⊢
      exact h1
    · exact h1
theorem zip_set_perm {xs : List D} {vs : List V} {j : Nat} {x n : D} {v : V} (hx : xs[j]? = some x) (hv : vs[j]? = some v) : ((xs.set j n).zip vs).Perm ((n, v) :: (xs.zip vs).eraseIdx j) := by
  have hlt : j < xs.length := (List.getElem?_eq_some_iff.mp hx).1
  have hz : ((xs.set j n).zip vs)[j]? = some (n, v) := by rw [List.getElem?_zip_eq_some]; exact ⟨by simp [hlt], hv⟩
  have := perm_erase hz
  rw [zip_set_erase] at this
  exact this
end
end VS
set_option Elab.async false
set_option linter.all false
set_option maxRecDepth 100000
set_option maxHeartbeats 4000000
set_option autoImplicit false
noncomputable section
namespace VS
open PySem PySem.Spec PyProof.Rows L2
theorem meets_enT (l : Addr) (its : Array Value) (n : Nat) (dc : Option Addr) (sl : Array (Option Value)) :
    Meets (Builtin.«enumerate.__new__» ⟨[.type "enumerate", .ref l], []⟩) (fun _ R s => s.heap.get? l = some ⟨.type "tuple", dc, .seq its n, sl⟩ ∧
      R (.ok (.ret (.ref (s.heap.push { cls := .type "tuple_iterator", data := .fields #[.ref l, .int 0 0] }).objs.size)))
        { s with heap := (s.heap.push { cls := .type "tuple_iterator", data := .fields #[.ref l, .int 0 0] }).push { cls := .type "enumerate", data := .fields #[.none, .bool false, .ref s.heap.objs.size, rawInt 0, .none, .none] } }) :=
  .of_wp fun prog w A R s hR => by
    obtain ⟨hp, gl, dd, tk, os⟩ := s
    obtain ⟨hl, hR⟩ := hR
    have hsub := sub_enumerate
    have hT : Heap.IsTuple (Shared.heap ⟨hp, gl, dd, tk, os⟩) l its := ⟨_, hl, rfl, n, rfl⟩
    have q1 : ∀ {A' : Around} {E' : Value → Shared → Prop} {Q' : Value → Shared → Prop}, Q' (.ref hp.objs.size) ⟨hp.push { cls := .type "tuple_iterator", data := .fields #[.ref l, .int 0 0] }, gl, dd, tk, os⟩ → wpAny (model prog w) A' (pyIter (.ref l)) Q' E' ⟨hp, gl, dd, tk, os⟩ := fun q => wpAny_pyIter_tuple hT q
    wp_walk using AutoSeq1.wpAny_loadPart' hl, q1
    refine wpAny_stack_any fun sk => wpAny_pure ?_
    split
    · rename_i cc _ _ _ _ _
      cases (cc == Value.type "enumerate") <;> (wp_walk using AutoSeq1.wpAny_loadPart' hl, q1; exact ⟨_, rfl, hR⟩)
    · wp_walk using AutoSeq1.wpAny_loadPart' hl, q1
      exact ⟨_, rfl, hR⟩
theorem call_enT {prog : Program} {w : World} {A : Around} {E : Value → Shared → Prop} {s : Shared} {l : Addr} {its : Array Value} {Q : Value → Shared → Prop} (hL : s.heap.IsTuple l its)
    (k : ∀ h', IsEnum h' (s.heap.objs.size + 1) s.heap.objs.size 0 .none → h'.IsTupleIter s.heap.objs.size l 0 →
      (∀ b o, s.heap.get? b = some o → h'.get? b = some o) → Q (.ref (s.heap.objs.size + 1)) { s with heap := h' }) :
    wpAny (model prog w) A (call (.type "enumerate") [.ref l]) Q E s := by
  obtain ⟨⟨cl, dct, dt, sl⟩, hl, hc, n, hd⟩ := hL
  replace hc : cl = .type "tuple" := hc
  replace hd : dt = .seq its n := hd
  subst hc hd
  refine callType_new F.called_enumerate (by decide) (F.typeCall_enumerate_1 _) (F.newCall_enumerate_1 _) (fun ob => F.args_object_init_2 ob _) F.entry_enumerate_new (meets_enT l its n dct sl) ⟨hl, ?_⟩
  have hz : (s.heap.push { cls := .type "tuple_iterator", data := .fields #[.ref l, .int 0 0] }).objs.size = s.heap.objs.size + 1 := Heap.size_push ..
  show _ ∧ _
  rw [hz]
  have he : IsEnum ((s.heap.push { cls := .type "tuple_iterator", data := .fields #[.ref l, .int 0 0] }).push { cls := .type "enumerate", data := .fields #[.none, .bool false, .ref s.heap.objs.size, rawInt 0, .none, .none] }) (s.heap.objs.size + 1) s.heap.objs.size 0 .none := by
    have q := Heap.get?_push_size (s.heap.push { cls := .type "tuple_iterator", data := .fields #[.ref l, .int 0 0] }) (o := { cls := .type "enumerate", data := .fields #[.none, .bool false, .ref s.heap.objs.size, rawInt 0, .none, .none] }) rfl
    rw [hz] at q
    exact q
  exact ⟨⟨_, he, rfl⟩, k _ he ⟨_, Heap.get?_push_of_some _ (Heap.get?_push_size _ rfl), rfl, rfl⟩ fun b o x => Heap.get?_push_of_some _ (Heap.get?_push_of_some _ x)⟩
theorem next_enT {prog : Program} {w : World} {A : Around} {E : Value → Shared → Prop} {s : Shared} {e it l : Addr} {i : Nat} {its : Array Value} {old : Value} {Q : Option Value → Shared → Prop} (hh : A.handled = none)
    (he : IsEnum s.heap e it i old) (hit : s.heap.IsTupleIter it l i) (hl : s.heap.IsTuple l its) (hx : its[i]? = none)
    (k : ∀ h', Heap.ExtBut it s.heap h' → Q none { s with heap := h' }) : wpAny (model prog w) A (pyNext (.ref e)) Q E s := by
  have ty : s.TypeIs (.ref e) "enumerate" := ⟨_, he, rfl⟩
  unfold pyNext
  refine wpAny_bind (wpAny_attempt (wpAny_callSpecial?_slot (name := Str.ofString "__next__") ty F.slot_enumerate_next (wpAny_call_entry F.slot_enumerate_next ty F.entry_enumerate_next ?_ (F.args_enumerate_next_1 _))))
  show wpAny _ _ (field (.ref e) 2 >>= _) _ _ _
  refine wpAny_bind (wpAny_field he rfl (x := .ref it) rfl (wpAny_bind (wpAny_nextOf_tuple_end hh hit hl hx fun h' x he' hx' => ?_)))
  obtain ⟨o, ho, hc⟩ := hx'
  exact wpAny_bind (wpAny_isInstance (T := "StopIteration") (b := true) ⟨o, ho, hc⟩ isSubtype_stop (wpAny_pure (k _ he')))
def IteT (K : PySem.W.Frag) (a : Addr) : It :=
  ⟨fun i H => ∃ (xs : List V) (x : V), SqT K H a xs ∧ xs[i]? = some x, fun i H v H' => ∃ T x, v = .ref T ∧ H T = none ∧ H' = upd H T (.tup [.int (i : Nat), x]) ∧ ∀ xs, SqT K H a xs → xs[i]? = some x, fun i H => ∃ xs : List V, SqT K H a xs ∧ xs.length ≤ i⟩
theorem turn_enT {P : Program} {w : World} {K : PySem.W.Frag} {elts : List Expr} {kk : Nat} {tpos : Pos} (a e it : Addr) :
    Turn P w K (.Tuple elts kk tpos) (IteT K a) [e, it] e (fun i h => (∃ old, IsEnum h e it ((i : Nat) : Int) old) ∧ h.IsTupleIter it a i ∧ e ≠ it) where
  mem := by simp
  obj := fun i h st b hb => by
    obtain ⟨⟨old, he⟩, ⟨o, ho, hc, hd⟩, _⟩ := st
    rcases (by simpa using hb : b = e ∨ b = it) with z | z
    · rw [z]
      exact ⟨_, he, fun v q => nomatch q⟩
    · rw [z]
      exact ⟨o, ho, fun v q => by rw [hd] at q; cases q⟩
  keep := fun i h h' st k => ⟨⟨st.1.choose, k e (by simp) _ st.1.choose_spec⟩, st.2.1.at fun o q => k it (by simp) o q, st.2.2⟩
  item := by
    intro X hP hw hK hc i pins s σ H E I hf st hg
    subst hP hw hK
    obtain ⟨⟨old, he⟩, hit, hne⟩ := st
    obtain ⟨xs, x, hq, hx⟩ := hg
    obtain ⟨its, rv, p, hz⟩ := I.tuple hq
    obtain ⟨u, hu, ru⟩ := rv.get hx
    have p2 : s.heap.IsTuple a its.toArray := p
    have hel : e < s.heap.objs.size := Heap.lt_size he
    have hil : it < s.heap.objs.size := by obtain ⟨_, q, _⟩ := hit; exact Heap.lt_size q
    have nai : a ≠ it := fun z => by
      obtain ⟨o1, q1, c1, _⟩ := hit
      obtain ⟨o2, q2, c2, _⟩ := p2
      rw [z, q1] at q2
      cases q2
      rw [c1] at c2
      exact absurd c2 (by decide)
    have nea : e ≠ a := fun z => by
      obtain ⟨o2, q2, c2, _⟩ := p2
      rw [← z] at q2
      have he' : s.heap.get? e = some _ := he
      rw [he'] at q2
      cases q2
      exact absurd (show Value.type "enumerate" = Value.type "tuple" from c2) (by decide)
    have hh : X.A.in1.handled = none := I.ok.hd hc
    have hi : i < its.toArray.size := by
      have := (List.getElem?_eq_some_iff.mp hu).1
      simpa using this
    refine wpAny_pyNext_enum_itemD (Draws.tuple hh it a nai its.toArray) he ⟨hit, p2⟩ hi hne (by simp [hne, nea]) fun y h' tk hP ho hs' hT hsz hk => ?_
    have ey : y = u := by
      have hu2 : its.toArray[i]? = some u := by simpa using hu
      rw [hu2] at hP
      exact (Option.some.inj hP).symm
    subst ey
    refine ⟨_, rfl, wpAny_letOwnedTupleGo_enum (s := { s with heap := h', toks := tk + 1 }) ho fun h'' he' sb => ?_⟩
    have hT2 : h''.get? s.heap.objs.size = some { cls := .type "tuple", data := .seq #[.int i tk, y] } := (sb.2 _ (Nat.ne_of_gt hel)).trans hT
    have nw : ObjOk X.prog X.w (upd H s.heap.objs.size (.tup [.int (i : Nat), x])) h'' s.heap.objs.size (.tup [.int (i : Nat), x]) :=
      ⟨by show 2 ≤ sizeLine; decide, [.int i tk, y], .cons ⟨_, rfl⟩ (.cons ru .nil), ⟨_, hT2, rfl, _, rfl⟩⟩
    have I1 : Inv X pins σ (upd H s.heap.objs.size (.tup [.int (i : Nat), x])) { s with heap := h'', toks := tk + 1 } :=
      I.turnedNew (ch := [e, it]) (fun b ob hb q => (sb.2 b (fun z => hb (by simp [z]))).trans (hk b ob (fun z => hb (by simp [z])) (fun z => hb (by simp [z])) q)) hf (Nat.le_refl _) nw
    refine ⟨.ref s.heap.objs.size, _, I1, rfl, ⟨_, x, rfl, I.hok.fresh (Nat.le_refl _), rfl, fun ys hy => by rw [I.tuple_inj hy hq]; exact hx⟩, ⟨⟨y, ?_⟩, hs'.1.at fun o q => (sb.2 it (Ne.symm hne)).trans q, hne⟩, fun b hb => ?_⟩
    · have e1 : ((i + 1 : Nat) : Int) = (i : Int) + 1 := by omega
      rw [e1]
      exact he'
    · have hb' : b < s.heap.objs.size := by
        rcases (by simpa using hb : b = e ∨ b = it) with z | z
        · rw [z]; exact hel
        · rw [z]; exact hil
      rw [upd_ne (Nat.ne_of_lt hb')]
      exact (hf b hb).1
  done := by
    intro X hP hw hK hc i pins s σ H E I hf st hg
    subst hP hw hK
    obtain ⟨⟨old, he⟩, hit, hne⟩ := st
    obtain ⟨xs, hq, hx⟩ := hg
    obtain ⟨its, rv, p, hz⟩ := I.tuple hq
    obtain ⟨g0, g1, g2, g3, g4, g5⟩ := hf it (by simp)
    have hl := rv.length
    exact next_enT (I.ok.hd hc) he hit p (by simp; omega) fun h' eb => ⟨rfl, I.turned (t' := s.toks) (fun b o hb q => eb b o hb q) g0 g1 g3 g4 g5⟩
  self := fun A i s Q E st h => wpAny_pyIter_enum st.1.choose_spec h
def iEnT (K : PySem.W.Frag) (ta : TA) : TI := fun σ H R => ta σ H fun vs H1 => ∃ a xs, vs = [.ref a] ∧ SqT K H1 a xs ∧ R (IteT K a) H1
theorem pi_enT {X : Cx} {e : Expr} {ta : TA} {p pos tpos : Pos} {elts : List Expr} {kk : Nat} (hg : Gl X "enumerate") (hm : X.mg "enumerate" = none) (ha : PA X [e] ta) (hs : starEach [e] X.env = [(false, eval e X.env)] := by rfl) :
    PI X (.Tuple elts kk tpos) (.Call (.Name "enumerate" p) [e] [] pos) (iEnT X.K ta) := by
  refine ⟨fun pins s σ H R I h => Call_ (ld_blt I hg hm boot_enumerate (PyProof.Rows.callWith_type1 (thn (ha.run pos pins s σ H _ I h) fun us s1 ⟨vs, H1, I1, r1, q1⟩ => ?_) hs rfl))⟩
  obtain ⟨a, xs, ee, hq, q⟩ := q1
  subst ee
  cases r1 with
  | cons r rr =>
    cases rr
    cases r
    obtain ⟨its, rv, p', hz⟩ := I1.tuple hq
    refine call_enT p' fun h' he hit hk => wpAny_pyIter_enum he ?_
    have I2 : Inv X pins σ H1 { s1 with heap := h' } := I1.kept (t' := s1.toks) hk
    refine ⟨s1.heap.objs.size + 1, [s1.heap.objs.size + 1, s1.heap.objs.size], _, _, H1, rfl, I2, turn_enT a (s1.heap.objs.size + 1) s1.heap.objs.size, ⟨⟨.none, he⟩, hit, Nat.succ_ne_self _⟩, fun b hb => ?_, q⟩
    have hle : s1.heap.objs.size ≤ b := by
      rcases (by simpa using hb : b = s1.heap.objs.size + 1 ∨ b = s1.heap.objs.size) with z | z
      · rw [z]; exact Nat.le_succ _
      · rw [z]; exact Nat.le_refl _
    exact I1.fpOk hle (I1.hok.fresh hle)
section
variable {X : Cx} {W : WX} {K : PySem.W.Frag} {m : Bool}
def seqE : D → Option (List D)
  | .tup ds => some ds
  | .ktp ds => some ds
  | _ => none
theorem RepT.tuples {H : Hp} {L : List (D × V)} {x : D} {ds : List D} {v : V} (e : seqE x = some ds) (r : RepT K H ((x, v) :: L)) : ∃ a vs, v = .ref a ∧ SqT K H a vs ∧ ds.length = vs.length ∧ RepT K H (ds.zip vs ++ L) := by
  cases x <;> simp only [seqE, Option.some.injEq, reduceCtorEq] at e <;> subst e
  · obtain ⟨a, vs, e, q, l, r2⟩ := r.openT
    exact ⟨a, vs, e, .inl (.inl q), l, r2⟩
  · obtain ⟨a, vs, e, q, l, r2⟩ := r.openK
    exact ⟨a, vs, e, q, l, r2⟩
theorem itET {a : Addr} {ds : List D} {x : D} (z : fz x = true) (hx : seqE x = some ds) : ItOk K (IteT K a) [(x, .ref a)] (enumD ds) := by
  have len : (enumD ds).length = ds.length := by simp [enumD]
  have rd : ∀ H L, RepT K H ((x, .ref a) :: L) → ∃ vs, SqT K H a vs ∧ ds.length = vs.length ∧ RepT K H (ds.zip vs ++ ((x, .ref a) :: L)) := fun H L h => by
    obtain ⟨b, vs, e, sq, l, r⟩ := RepT.tuples hx (RepT.dup z h)
    cases e
    exact ⟨vs, sq, l, r⟩
  refine ⟨fun i H L hi h => ?_, fun H L h => ?_, fun i H L y H' d h e yl => ?_⟩
  · obtain ⟨vs, sq, l, _⟩ := rd H L h
    rw [len] at hi
    exact ⟨vs, vs[i]'(by omega), sq, List.getElem?_eq_getElem _⟩
  · obtain ⟨vs, sq, l, _⟩ := rd H L h
    exact ⟨vs, sq, by omega⟩
  · obtain ⟨T, w, rfl, nT, rfl, hw⟩ := yl
    obtain ⟨vs, sq, l, r⟩ := rd H L h
    obtain ⟨u, hu, rfl⟩ := enum_get e
    have r2 := r.pick (zip_take hu (hw vs sq))
    exact RepT.newT (ds := [.int i, u]) (vs := [.int i, w]) rfl nT (RepT.int r2)
def isTp : D → Bool
  | .tup _ => true
  | .ktp _ => true
  | _ => false
def enumA : List D → Option (List D)
  | [x] => if isTp x = true then (if fz (freeze x) = true then (seqE (freeze x)).map enumD else none) else (lstOf (freeze x)).bind fun xs => if fzL xs = true ∧ fz (freeze x) = true then some (enumD xs) else none
  | _ => none
def dEnA (f : M (List D)) : M (List D) := bindM f fun ds => optM (enumA ds)
theorem vi_enA {elts : List Expr} {kk : Nat} {e : Expr} {f : M (List D)} {p pos tpos : Pos} (hg : Gl X "enumerate") (hm : X.mg "enumerate" = none) (ha : VA X W m [e] f) (hs : starEach [e] X.env = [(false, eval e X.env)] := by rfl) : VI X W (.Tuple elts kk tpos) (.Call (.Name "enumerate" p) [e] [] pos) (dEnA f) := by
  refine PI.imp (PI.orr (pi_enum hg hm ha hs) (pi_enT hg hm ha hs)) fun σ H R ⟨T, ρ, u, rep, hf, he⟩ => ?_
  unfold dEnA bindM at hf
  cases q : f ρ with
  | none => rw [q] at hf; cases hf
  | some w =>
    rw [q] at hf
    cases w with
    | ex x ρ1 =>
      have : u = .ex x ρ1 := (Option.some.inj hf).symm
      subst this
      exact .inl ⟨T, ρ, _, rep, q, he⟩
    | ok ds ρ1 =>
      obtain ⟨out, e, rfl⟩ := optM_some hf
      unfold enumA at e
      split at e
      · rename_i x
        split at e
        · split at e
          · rename_i z
            obtain ⟨xs, e1, e2⟩ := Option.map_eq_some_iff.mp e
            subst e2
            refine .inr ⟨T, ρ, _, rep, q, fun vs H1 s1 l1 r1 => ?_⟩
            obtain ⟨v, rfl⟩ := len1 l1
            have r2 : RepT X.K H1 ((freeze x, v) :: (T ++ SL ρ1 σ)) := RepT.freeze r1.rep
            obtain ⟨a, vs, rfl, sq, l, _⟩ := RepT.tuples e1 r2
            exact ⟨a, vs, rfl, sq, he _ _ H1 (itET z e1) ⟨r1.len, r1.nos, r2⟩⟩
          · cases e
        · obtain ⟨xs, e1, e2⟩ := Option.bind_eq_some_iff.mp e
          split at e2
          · rename_i z
            cases e2
            refine .inl ⟨T, ρ, _, rep, q, fun vs H1 s1 l1 r1 => ?_⟩
            obtain ⟨v, rfl⟩ := len1 l1
            have r2 : RepT X.K H1 ((freeze x, v) :: (T ++ SL ρ1 σ)) := RepT.freeze r1.rep
            obtain ⟨a, vs, rfl, sq, l, _⟩ := r2.list e1
            exact ⟨a, vs, rfl, sq, he _ _ H1 (itE z.2 e1 z.1) ⟨r1.len, r1.nos, r2⟩⟩
          · cases e2
      · cases e
end
end VS
set_option Elab.async false
set_option linter.all false
set_option maxRecDepth 100000
set_option maxHeartbeats 4000000
set_option autoImplicit false
noncomputable section
namespace VS
open PySem PySem.Spec PyProof.Rows L2
section
variable {X : Cx} {W : WX} {asg : List Nat}
def dPreS (k : Nat) (g : MS) : MS := fun ρ => if nunk ρ[k]? = true then g (ρ.set k (freeze (ρ.getD k .unk))) else none
theorem vs_pre {st : Stmt} {g : MS} (k : Nat) (h : VSt X W asg st g) : VSt X W asg st (dPreS k g) := by
  refine PS.imp h fun σ H E ⟨T, ρ, fl, ρ', rep, hf, he⟩ => ?_
  unfold dPreS at hf
  split at hf
  · rename_i nz
    have hk : ∃ d, ρ[k]? = some d ∧ d ≠ .unk := by
      cases q2 : ρ[k]? with
      | none => rw [q2] at nz; cases nz
      | some d => exact ⟨d, rfl, fun e => by rw [q2, e] at nz; cases nz⟩
    obtain ⟨d, hd, dn⟩ := hk
    have ed : ρ.getD k .unk = d := by rw [List.getD_eq_getElem?_getD, hd]; rfl
    rw [ed] at hf
    exact ⟨T, _, fl, ρ', rep.frz hd dn, hf, he⟩
  · cases hf
end
end VS
set_option Elab.async false
set_option linter.all false
set_option maxRecDepth 100000
set_option maxHeartbeats 4000000
set_option autoImplicit false
noncomputable section
namespace VS
open PySem PySem.Spec PyProof.Rows L2
section
variable {X : Cx} {W : WX} {K : PySem.W.Frag} {H : Hp} {σ : St} {L : List (D × V)}
def PairAt (H : Hp) (w : V) (p : Int × Int) : Prop := ∃ b, w = .ref b ∧ H b = some (.tup ((k2 p).map kV))
inductive PairsAt (H : Hp) : List V → List (Int × Int) → Prop
  | nil : PairsAt H [] []
  | cons {w : V} {p : Int × Int} {ws : List V} {ps : List (Int × Int)} : PairAt H w p → PairsAt H ws ps → PairsAt H (w :: ws) (p :: ps)
theorem PairsAt.get : ∀ {ws : List V} {ps : List (Int × Int)} {i : Nat} {w : V}, PairsAt H ws ps → ws[i]? = some w → ∃ p, PairAt H w p
  | _, _, _, _, .nil, h => by simp at h
  | _, _, 0, w, .cons (p := p) a t, h => by
    have e := Option.some.inj h
    subst e
    exact ⟨p, a⟩
  | _, _, i + 1, w, .cons a t, h => PairsAt.get (i := i) t h
end
end VS
set_option Elab.async false
set_option linter.all false
set_option maxRecDepth 100000
set_option maxHeartbeats 4000000
set_option autoImplicit false
noncomputable section
namespace VS
open PySem PySem.Spec PyProof.Rows L2
theorem zip_snoc {α β : Type} : ∀ {xs : List α} {ws : List β} {x : α} {w : β}, xs.length = ws.length → (xs ++ [x]).zip (ws ++ [w]) = xs.zip ws ++ [(x, w)]
  | [], [], _, _, _ => rfl
  | [], _ :: _, _, _, h => by cases h
  | _ :: _, [], _, _, h => by cases h
  | a :: xs, b :: ws, x, w, h => by
    rw [List.cons_append, List.cons_append, List.zip_cons_cons, zip_snoc (Nat.succ.inj h)]
    rfl
theorem zip_rev {α β : Type} : ∀ {xs : List α} {ws : List β}, xs.length = ws.length → xs.reverse.zip ws.reverse = (xs.zip ws).reverse
  | [], [], _ => rfl
  | [], _ :: _, h => by cases h
  | _ :: _, [], h => by cases h
  | a :: xs, b :: ws, h => by
    rw [List.reverse_cons, List.reverse_cons, List.zip_cons_cons, List.reverse_cons, zip_snoc (by simpa using h), zip_rev (Nat.succ.inj h)]
theorem impRev {K : PySem.W.Frag} : ImpM K rReverse gRev := by
  intro H L xs xs' ds vs d a Q e l r h
  unfold gRev at e
  split at e
  · cases e
    have hv : vs = [] := List.eq_nil_of_length_eq_zero (by simpa using l.symm)
    subst hv
    have r0 : RepT K H ((.lst true xs, .ref a) :: L) := r
    obtain ⟨a', ws, ea, hq, lw, r3⟩ := r0.openL
    cases ea
    refine ⟨a, ws, rfl, rfl, hq, h _ _ (RepT.non (RepT.closeL (by simp [lw]) ?_))⟩
    rw [zip_rev lw]
    exact r3.perm (((List.reverse_perm _).symm.append_right L).cons _)
  · cases e
end VS
set_option Elab.async false
set_option linter.all false
set_option maxRecDepth 100000
set_option maxHeartbeats 4000000
set_option autoImplicit false
noncomputable section
namespace VS
open PySem PySem.Spec PyProof.Rows L2
section
variable {K : PySem.W.Frag} {H : Hp} {L : List (D × V)}
end
end VS
set_option Elab.async false
set_option linter.all false
set_option maxRecDepth 100000
set_option maxHeartbeats 4000000
set_option autoImplicit false
noncomputable section
namespace VS
open PySem PySem.Spec PyProof.Rows L2
section
variable {X : Cx} {K : PySem.W.Frag}
end
end VS
set_option Elab.async false
set_option linter.all false
set_option maxRecDepth 100000
set_option maxHeartbeats 4000000
set_option autoImplicit false
noncomputable section
namespace VS
open PySem PySem.Spec PyProof.Rows L2
section
variable {X : Cx} {W : WX} {K : PySem.W.Frag} {m : Bool}
end
end VS
set_option Elab.async false
set_option linter.all false
set_option maxRecDepth 100000
set_option maxHeartbeats 4000000
set_option autoImplicit false
noncomputable section
namespace VS
open PySem PySem.Spec PyProof.Rows L2
end VS
set_option Elab.async false
set_option linter.all false
set_option maxRecDepth 100000
set_option maxHeartbeats 4000000
set_option autoImplicit false
noncomputable section
namespace VS
open PySem PySem.Spec PyProof.Rows L2 HT
section
variable {prog : Program} {w : World} {A : Around} {E : Value → Shared → Prop} {s : Shared}
end
section
variable {X : Cx} {W : WX} {m : Bool}
end
end VS
set_option Elab.async false
set_option linter.all false
set_option maxRecDepth 100000
set_option maxHeartbeats 4000000
set_option autoImplicit false
noncomputable section
namespace VS
open PySem PySem.Spec PyProof.Rows L2
section
variable {X : Cx} {W : WX} {K : PySem.W.Frag} {m : Bool}
end
end VS
set_option Elab.async false
set_option linter.all false
set_option maxRecDepth 100000
set_option maxHeartbeats 4000000
noncomputable section
namespace L2
open PySem PySem.Spec PyProof.Rows
open HotX L2H
structure TurnQ (P : Program) (w : World) (K : PySem.W.Frag) (tg : Expr) (J : It) (fp : List Addr) (it : Addr) (tn : Nat → Heap → Prop) : Prop where
  obj : ∀ i h, tn i h → ∀ b ∈ fp, ∃ o, h.get? b = some o ∧ ∀ v, o.data ≠ .cell v
  keep : ∀ i h h', tn i h → (∀ b ∈ fp, ∀ o, h.get? b = some o → h'.get? b = some o) → tn i h'
  item : ∀ (X : Cx), X.prog = P → X.w = w → X.K = K → ∀ (i : Nat) (pins : List (Addr × Obj)) (s : Shared) (σ : St) (H : Hp) (E : Value → Shared → Prop), Inv X pins σ H s → (∀ b ∈ fp, FpOk X pins H b) → tn i s.heap → J.go i H →
    wpAny (model P w) X.A (pyNext (.ref it)) (fun r s1 => ∃ u, r = some u ∧
      wpAny (model P w) X.A (letOwnedTupleGo tg (.ref it) u) (fun _ s2 => ∃ x H', Inv X pins σ H' s2 ∧ RelV x u ∧ J.yld i H x H' ∧ tn (i + 1) s2.heap ∧ ∀ b ∈ fp, H' b = none) E s1) E s
  done : ∀ (X : Cx), X.prog = P → X.w = w → X.K = K → ∀ {s : Shared}, (∃ x1, HotAt X.A x1 s.heap) → ∀ (i : Nat) (pins : List (Addr × Obj)) (σ : St) (H : Hp) (E : Value → Shared → Prop), Inv X pins σ H s → (∀ b ∈ fp, FpOk X pins H b) → tn i s.heap → J.stop i H →
    wpAny (model P w) X.A (pyNext (.ref it)) (fun r s1 => r = none ∧ Inv X pins σ H s1) E s
  self : ∀ (A : Around) (i : Nat) (s : Shared) (Q : Value → Shared → Prop) (E : Value → Shared → Prop), tn i s.heap → Q (.ref it) s → wpAny (model P w) A (pyIter (.ref it)) Q E s
def PIEQ (X : Cx) (pins : List (Addr × Obj)) (σ : St) (tg : Expr) (R : It → Hp → Prop) (itv : Value) (s2 : Shared) : Prop :=
  ∃ (it : Addr) (fp : List Addr) (tn : Nat → Heap → Prop) (J : It) (H' : Hp), itv = .ref it ∧ Inv X pins σ H' s2 ∧ TurnQ X.prog X.w X.K tg J fp it tn ∧ tn 0 s2.heap ∧ (∀ b ∈ fp, FpOk X pins H' b) ∧ R J H'
structure PIQ (X : Cx) (tg iter : Expr) (wi : TI) : Prop where
  run : ∀ (pins : List (Addr × Obj)) (s : Shared) (σ : St) (H : Hp) (R : It → Hp → Prop), Inv X pins σ H s → wi σ H R →
    wpAny (model X.prog X.w) X.A (eval iter X.env) (fun v s1 => wpAny (model X.prog X.w) X.A (pyIter v) (PIEQ X pins σ tg R) X.xe s1) X.xe s
theorem PIQ.imp {X : Cx} {tg iter : Expr} {t t' : TI} (h : PIQ X tg iter t) (i : ∀ σ H Q, t' σ H Q → t σ H Q) : PIQ X tg iter t' := ⟨fun pins s σ H Q I q => h.run pins s σ H Q I (i σ H Q q)⟩
section
variable {X : Cx} {tg : Expr}
end
end L2
namespace VS
open PySem PySem.Spec PyProof.Rows L2
open HotX L2H
section
variable {X : Cx} {W : WX} {K : PySem.W.Frag} {mg : Str → Option Value} {F H H1 : Hp} {T L : List (D × V)} {ρ ρ' : Env} {σ σ' σ'' : St} {m : Bool} {asg a1 a2 : List Nat}
section
variable {elt tg iter : Expr} {ifs : List Expr} {scope : Scope} {own : List (Str × Nat)} {pos spos : Pos} {src : M (List D)} {bt : D → Env → Option Env} {tt : M Bool} {el : M D} {mt me : Bool}
end
end
end VS
set_option Elab.async false
set_option linter.all false
set_option maxRecDepth 100000
set_option maxHeartbeats 4000000
set_option autoImplicit false
noncomputable section
namespace VS
open PySem PySem.Spec PyProof.Rows L2
section
variable {X : Cx} {W : WX} {K : PySem.W.Frag} {mg : Str → Option Value} {F H H1 : Hp} {T L : List (D × V)} {ρ ρ' : Env} {σ σ' σ'' : St} {m : Bool}
theorem RepT.keyB {k : Key} (h : RepT K H L) : RepT K H ((VS.keyB k, kV k) :: L) := by
  cases k with
  | inl i => exact h.int
  | inr x => exact h.str
end
end VS
set_option Elab.async false
set_option linter.all false
set_option maxRecDepth 100000
set_option maxHeartbeats 4000000
set_option autoImplicit false
noncomputable section
namespace VS
open PySem PySem.Spec PyProof.Rows L2
section
variable {X : Cx} {W : WX} {K : PySem.W.Frag} {mg : Str → Option Value} {F H H1 : Hp} {T L : List (D × V)} {ρ ρ' : Env} {σ σ' σ'' : St} {m : Bool}
end
end VS
set_option Elab.async false
set_option linter.all false
set_option maxRecDepth 100000
set_option maxHeartbeats 4000000
set_option autoImplicit false
noncomputable section
namespace VS
open PySem PySem.Spec PyProof.Rows L2
section
variable {X : Cx} {W : WX} {K : PySem.W.Frag} {mg : Str → Option Value} {F H H1 : Hp} {T L : List (D × V)} {ρ ρ' : Env} {σ σ' σ'' : St} {m : Bool} {asg a1 a2 : List Nat}
end
end VS
set_option Elab.async false
set_option linter.all false
set_option maxRecDepth 100000
set_option maxHeartbeats 4000000
set_option autoImplicit false
noncomputable section
namespace VS
open PySem PySem.Spec PyProof.Rows L2
section
variable {X : Cx} {W : WX} {K : PySem.W.Frag} {mg : Str → Option Value} {F H H0 H1 : Hp} {T L : List (D × V)} {ρ ρ' : Env} {σ σ' σ'' : St} {m : Bool} {asg a1 a2 : List Nat}
end
end VS
set_option Elab.async false
set_option linter.all false
set_option maxRecDepth 100000
set_option maxHeartbeats 4000000
set_option autoImplicit false
noncomputable section
namespace VS
open PySem PySem.Spec PyProof.Rows L2
section
variable {X : Cx} {W : WX} {K : PySem.W.Frag} {mg : Str → Option Value} {F H H1 : Hp} {T L : List (D × V)} {ρ ρ' : Env} {σ σ' σ'' : St} {m : Bool} {asg a1 a2 : List Nat}
end
end VS
set_option Elab.async false
set_option linter.all false
set_option maxRecDepth 100000
set_option maxHeartbeats 4000000
set_option autoImplicit false
noncomputable section
namespace VS
open PySem PySem.Spec PyProof.Rows L2
section
variable {X : Cx} {W : WX} {K : PySem.W.Frag} {mg : Str → Option Value} {F H H1 : Hp} {T L : List (D × V)} {ρ ρ' : Env} {σ σ' σ'' : St} {m : Bool} {asg a1 a2 : List Nat}
end
end VS
set_option Elab.async false
set_option linter.all false
set_option maxRecDepth 100000
set_option maxHeartbeats 4000000
set_option autoImplicit false
noncomputable section
namespace VS
open PySem PySem.Spec PyProof.Rows L2
section
variable {X : Cx} {W : WX} {K : PySem.W.Frag} {mg : Str → Option Value} {F H H1 : Hp} {T L : List (D × V)} {ρ ρ' : Env} {σ σ' σ'' : St} {m : Bool} {asg a1 a2 : List Nat}
end
end VS
set_option Elab.async false
set_option linter.all false
set_option maxRecDepth 100000
set_option maxHeartbeats 4000000
set_option autoImplicit false
noncomputable section
namespace VS
open PySem PySem.Spec PyProof.Rows L2
section
variable {X : Cx} {W : WX} {K : PySem.W.Frag} {F H H1 : Hp} {T L : List (D × V)} {ρ ρ' : Env} {σ σ' σ'' : St} {m : Bool}
def TupAt (H : Hp) (w : V) (p : List Int) : Prop := ∃ b, w = .ref b ∧ H b = some (.tup ((p.map Sum.inl : List Key).map kV))
inductive TupsAt (H : Hp) : List V → List (List Int) → Prop
  | nil : TupsAt H [] []
  | cons {w : V} {p : List Int} {ws : List V} {ps : List (List Int)} : TupAt H w p → TupsAt H ws ps → TupsAt H (w :: ws) (p :: ps)
theorem TupsAt.get : ∀ {ws : List V} {ps : List (List Int)} {i : Nat} {w : V}, TupsAt H ws ps → ws[i]? = some w → ∃ p, TupAt H w p
  | _, _, _, _, .nil, h => by simp at h
  | _, _, 0, w, .cons (p := p) a t, h => by
    have e := Option.some.inj h
    subst e
    exact ⟨p, a⟩
  | _, _, i + 1, w, .cons a t, h => TupsAt.get (i := i) t h
end
end VS
set_option Elab.async false
set_option linter.all false
set_option maxRecDepth 100000
set_option maxHeartbeats 4000000
set_option autoImplicit false
noncomputable section
namespace VS
open PySem PySem.Spec PyProof.Rows L2
section
variable {prog : Program} {w : World} {A : Around} {E : Value → Shared → Prop} {s : Shared}
end
section
variable {X : Cx} {W : WX} {K : PySem.W.Frag} {m : Bool}
end
end VS
set_option Elab.async false
set_option linter.all false
set_option maxRecDepth 100000
set_option maxHeartbeats 4000000
set_option autoImplicit false
noncomputable section
namespace VS
open PySem PySem.Spec PyProof.Rows L2
section
variable {X : Cx} {W : WX} {K : PySem.W.Frag} {F H H1 : Hp} {T L : List (D × V)} {ρ ρ' : Env} {σ σ' σ'' : St} {m : Bool}
end
end VS
set_option Elab.async false
set_option linter.all false
set_option maxRecDepth 100000
set_option maxHeartbeats 4000000
set_option autoImplicit false
noncomputable section
namespace VS
open PySem PySem.Spec PyProof.Rows L2
section
variable {X : Cx} {W : WX} {K : PySem.W.Frag} {mg : Str → Option Value} {F H H1 : Hp} {T L : List (D × V)} {ρ ρ' : Env} {σ σ' : St} {m : Bool}
theorem RepT.pinL {ds : List D} {v : V} (h : RepT K H ((.lst true ds, v) :: L)) : ∃ a vs, v = .ref a ∧ H a = some (.lst vs) ∧ ds.length = vs.length ∧ RepT K H ((.lst true (vs.map exV), .ref a) :: (ds.zip vs ++ L)) := by
  obtain ⟨F, A, sF, nd, fr, A1, A2, rfl, h1, o⟩ := h
  rw [Ow] at h1
  obtain ⟨a, vs, A', rfl, q, l, rfl⟩ := h1
  refine ⟨a, vs, rfl, q, l.length, F, [a] ++ (A' ++ A2), sF, nd, fr, [a], A' ++ A2, rfl, ?_, l.toT.append o⟩
  rw [Ow]
  exact ⟨a, vs, [], rfl, q, owL_exs, rfl⟩
theorem RepT.unpinL {ds : List D} {vs : List V} {a : Addr} (e : ds.length = vs.length) (h : RepT K H ((.lst true (vs.map exV), .ref a) :: (ds.zip vs ++ L))) : RepT K H ((.lst true ds, .ref a) :: L) := by
  obtain ⟨F, A, sF, nd, fr, A1, A2, rfl, h1, o⟩ := h
  rw [Ow] at h1
  obtain ⟨b, vs', B', e1, q, l, rfl⟩ := h1
  cases e1
  have eb := owL_ex l
  subst eb
  obtain ⟨B1, B2, rfl, o1, o2⟩ := o.split
  refine ⟨F, (a :: B1) ++ B2, sF, nd, fr, a :: B1, B2, rfl, ?_, o2⟩
  rw [Ow]
  exact ⟨a, vs', B1, rfl, q, owL_move (o1.toL e) l, rfl⟩
theorem RepT.pinT {ds : List D} {v : V} (h : RepT K H ((.tup ds, v) :: L)) : ∃ a vs, v = .ref a ∧ H a = some (.tup vs) ∧ ds.length = vs.length ∧ RepT K H ((.tup (vs.map exV), .ref a) :: (ds.zip vs ++ L)) := by
  obtain ⟨F, A, sF, nd, fr, A1, A2, rfl, h1, o⟩ := h
  rw [Ow] at h1
  obtain ⟨a, vs, rfl, q, l⟩ := h1
  refine ⟨a, vs, rfl, sF _ _ q, l.length, F, A1 ++ A2, sF, nd, fr, [], A1 ++ A2, rfl, ?_, l.toT.append o⟩
  rw [Ow]
  exact ⟨a, vs, rfl, q, owL_exs⟩
theorem RepT.unpinT {ds : List D} {vs : List V} {a : Addr} (e : ds.length = vs.length) (h : RepT K H ((.tup (vs.map exV), .ref a) :: (ds.zip vs ++ L))) : RepT K H ((.tup ds, .ref a) :: L) := by
  obtain ⟨F, A, sF, nd, fr, A1, A2, rfl, h1, o⟩ := h
  rw [Ow] at h1
  obtain ⟨b, vs', e1, q, l⟩ := h1
  cases e1
  have eb := owL_ex l
  subst eb
  obtain ⟨B1, B2, rfl, o1, o2⟩ := o.split
  refine ⟨F, B1 ++ B2, sF, nd, fr, B1, B2, rfl, ?_, o2⟩
  rw [Ow]
  exact ⟨a, vs', rfl, q, owL_move (o1.toL e) l⟩
def getP : List Int → D → Option (List D)
  | [], d => match d with
    | .lst true xs => some xs
    | _ => none
  | n :: p, d => match d with
    | .lst true ds => match ixN ds.length n with
      | some j => match ds[j]? with
        | some e => getP p e
        | none => none
      | none => none
    | .tup ds => match ixN ds.length n with
      | some j => match ds[j]? with
        | some e => getP p e
        | none => none
      | none => none
    | _ => none
def setP : List Int → D → D → D
  | [], _, x => x
  | n :: p, d, x => match d with
    | .lst true ds => match ixN ds.length n with
      | some j => .lst true (ds.set j (setP p (ds.getD j .unk) x))
      | none => d
    | .tup ds => match ixN ds.length n with
      | some j => .tup (ds.set j (setP p (ds.getD j .unk) x))
      | none => d
    | _ => d
inductive PathV (H : Hp) : List Int → V → V → Prop
  | nil {v : V} : PathV H [] v v
  | cons {n : Int} {p : List Int} {a : Addr} {xs : List V} {u w : V} : (H a = some (.lst xs) ∨ H a = some (.tup xs)) → atI xs n = some u → PathV H p u w → PathV H (n :: p) (.ref a) w
theorem PathV.mono (s : Same H H1) {p : List Int} {v w : V} (h : PathV H p v w) : PathV H1 p v w := by
  induction h with
  | nil => exact .nil
  | cons h1 h2 _ ih => exact .cons (h1.imp (s _ _) (s _ _)) h2 ih
theorem PathV.uniq : ∀ {p : List Int} {v w w' : V}, PathV H p v w → PathV H p v w' → w = w'
  | _, _, _, _, .nil, h' => by cases h'; rfl
  | _, _, _, _, .cons (xs := xs) h1 h2 h3, h' => by
    cases h' with
    | @cons _ _ _ ys _ _ g1 g2 g3 =>
      have e : xs = ys := by
        rcases h1 with h1 | h1 <;> rcases g1 with g1 | g1 <;> rw [h1] at g1 <;> injection g1 with g1 <;> first | (injection g1) | cases g1
      subst e
      rw [h2] at g2
      cases g2
      exact PathV.uniq h3 g3
theorem PathV.split {n : Int} : ∀ {p : List Int} {v w : V}, PathV H (p ++ [n]) v w → ∃ a xs, PathV H p v (.ref a) ∧ (H a = some (.lst xs) ∨ H a = some (.tup xs)) ∧ atI xs n = some w
  | [], v, w, h => by
    cases h with
    | cons h1 h2 h3 =>
      cases h3
      exact ⟨_, _, .nil, h1, h2⟩
  | k :: p, v, w, h => by
    cases h with
    | cons h1 h2 h3 =>
      obtain ⟨a, xs, g1, g2, g3⟩ := PathV.split h3
      exact ⟨a, xs, .cons h1 h2 g1, g2, g3⟩
theorem path_pin : ∀ (p : List Int) {d : D} {v : V} {xs : List D} {L : List (D × V)}, getP p d = some xs → RepT K H ((d, v) :: L) → ∃ (B : Addr) (us : List V) (R : List (D × V)), PathV H p v (.ref B) ∧ H B = some (.lst us) ∧ RepT K H ((.lst true xs, .ref B) :: (R ++ L)) ∧ ∀ (H' : Hp) (xs' : List D) (L' : List (D × V)), RepT K H' ((.lst true xs', .ref B) :: (R ++ L')) → RepT K H' ((setP p d (.lst true xs'), v) :: L')
  | [], d, v, xs, L, e, r => by
    unfold getP at e
    split at e
    · cases e
      obtain ⟨a, vs, rfl, q, _, _⟩ := RepT.readL r
      exact ⟨a, vs, [], .nil, q, r, fun H' xs' L' r' => r'⟩
    · cases e
  | n :: p, d, v, xs, L, e, r => by
    unfold getP at e
    split at e
    · rename_i ds
      split at e
      · rename_i j ej
        split at e
        · rename_i x ex
          obtain ⟨a, vs, rfl, q, l, r1⟩ := RepT.pinL r
          have hlt : j < ds.length := (List.getElem?_eq_some_iff.mp ex).1
          obtain ⟨u, hu⟩ : ∃ u, vs[j]? = some u := ⟨_, List.getElem?_eq_getElem (by omega)⟩
          have hz : (ds.zip vs)[j]? = some (x, u) := by rw [List.getElem?_zip_eq_some]; exact ⟨ex, hu⟩
          have r2 : RepT K H ((x, u) :: ((.lst true (vs.map exV), .ref a) :: ((ds.zip vs).eraseIdx j ++ L))) := r1.perm ((((perm_erase hz).append_right L).cons _).trans (List.Perm.swap _ _ _))
          obtain ⟨B, us, R, h1, h2, h3, h4⟩ := path_pin p e r2
          refine ⟨B, us, R ++ (.lst true (vs.map exV), .ref a) :: (ds.zip vs).eraseIdx j, .cons (.inl q) (atI_of l ej hu) h1, h2, by rw [List.append_assoc]; exact h3, fun H' xs' L' r' => ?_⟩
          rw [List.append_assoc] at r'
          have r3 := h4 H' xs' _ r'
          have eg : ds.getD j .unk = x := by rw [List.getD_eq_getElem?_getD, ex]; rfl
          have r4 : RepT K H' ((.lst true (vs.map exV), .ref a) :: ((ds.set j (setP p x (.lst true xs'))).zip vs ++ L')) := r3.perm ((List.Perm.swap _ _ _).trans (List.Perm.cons _ ((zip_set_perm ex hu).symm.append_right L')))
          have r5 := RepT.unpinL (by rw [List.length_set]; exact l) r4
          rw [setP]
          simp only [ej, eg]
          exact r5
        · cases e
      · cases e
    · rename_i ds
      split at e
      · rename_i j ej
        split at e
        · rename_i x ex
          obtain ⟨a, vs, rfl, q, l, r1⟩ := RepT.pinT r
          have hlt : j < ds.length := (List.getElem?_eq_some_iff.mp ex).1
          obtain ⟨u, hu⟩ : ∃ u, vs[j]? = some u := ⟨_, List.getElem?_eq_getElem (by omega)⟩
          have hz : (ds.zip vs)[j]? = some (x, u) := by rw [List.getElem?_zip_eq_some]; exact ⟨ex, hu⟩
          have r2 : RepT K H ((x, u) :: ((.tup (vs.map exV), .ref a) :: ((ds.zip vs).eraseIdx j ++ L))) := r1.perm ((((perm_erase hz).append_right L).cons _).trans (List.Perm.swap _ _ _))
          obtain ⟨B, us, R, h1, h2, h3, h4⟩ := path_pin p e r2
          refine ⟨B, us, R ++ (.tup (vs.map exV), .ref a) :: (ds.zip vs).eraseIdx j, .cons (.inr q) (atI_of l ej hu) h1, h2, by rw [List.append_assoc]; exact h3, fun H' xs' L' r' => ?_⟩
          rw [List.append_assoc] at r'
          have r3 := h4 H' xs' _ r'
          have eg : ds.getD j .unk = x := by rw [List.getD_eq_getElem?_getD, ex]; rfl
          have r4 : RepT K H' ((.tup (vs.map exV), .ref a) :: ((ds.set j (setP p x (.lst true xs'))).zip vs ++ L')) := r3.perm ((List.Perm.swap _ _ _).trans (List.Perm.cons _ ((zip_set_perm ex hu).symm.append_right L')))
          have r5 := RepT.unpinT (by rw [List.length_set]; exact l) r4
          rw [setP]
          simp only [ej, eg]
          exact r5
        · cases e
      · cases e
    · cases e
def tPth (i : Nat) (p : List Int) : TE := fun σ H Q => ∃ v w, σ[i]? = some (some v) ∧ PathV H p v w ∧ Q w H
theorem pp_var {o : Expr} {i : Nat} (h : PE X o (tVar i)) : PE X o (tPth i []) := PE.imp h fun σ H Q ⟨v, w, hv, hp, q⟩ => by
  cases hp
  exact ⟨v, hv, q⟩
theorem pp_ix {a b : Expr} {i : Nat} {p : List Int} {n : Int} {pos : Pos} (ha : PE X a (tPth i p)) (hb : PE X b (tC (.int n))) (hs : PlainIx b := by exact fun _ _ => rfl) : PE X (.Subscript a b pos) (tPth i (p ++ [n])) := by
  refine PE.imp (pe_ix ix_seq ha hb hs) fun σ H Q ⟨v, w, hv, hp, q⟩ => ?_
  obtain ⟨A, xs, h1, h2, h3⟩ := hp.split
  refine ⟨v, .ref A, hv, h1, ?_⟩
  rcases h2 with h2 | h2
  · exact .inl ⟨A, xs, n, w, rfl, rfl, .inl (.inl h2), h3, q⟩
  · exact .inr (.inl ⟨A, xs, n, w, rfl, rfl, .inl (.inl h2), h3, q⟩)
def mtP (i : Nat) (p : List Int) (g : List D → List D → Option (D × List D)) (es : List D) : M D := fun ρ => match getP p (ρ.getD i .unk) with
  | some xs => match g xs es with
    | some (d, xs') => some (.ok d (ρ.set i (setP p (ρ.getD i .unk) (.lst true xs'))))
    | none => none
  | none => none
def okP (i : Nat) (p : List Int) (ρ : Env) : Bool := (getP p (ρ.getD i .unk)).isSome
def dMtP (i : Nat) (p : List Int) (g : List D → List D → Option (D × List D)) (f : M (List D)) : M D := fun ρ0 => if okP i p ρ0 = true then bindM f (mtP i p g) ρ0 else none
theorem getP_unk {p : List Int} {xs : List D} {d : D} (h : getP p d = some xs) : d ≠ .unk := fun e => by
  subst e
  cases p <;> simp [getP] at h
theorem mtP_inv {i : Nat} {p : List Int} {g : List D → List D → Option (D × List D)} {es : List D} {u : Rv D} (h : mtP i p g es ρ = some u) : ∃ d0 xs d xs', ρ[i]? = some d0 ∧ getP p d0 = some xs ∧ g xs es = some (d, xs') ∧ u = .ok d (ρ.set i (setP p d0 (.lst true xs'))) := by
  unfold mtP at h
  split at h
  · rename_i xs e1
    split at h
    · rename_i d xs' e2
      exact ⟨_, xs, d, xs', getD_some rfl (getP_unk e1), e1, e2, (Option.some.inj h).symm⟩
    · cases h
  · cases h
theorem pth_end {r : V → List V → Hp → VK → Prop} {g : List D → List D → Option (D × List D)} (hg : ImpM K r g) {i : Nat} {p : List Int} {v : V} {B : Addr} {es : List D} {ws : List V} {u : Rv D} {Q : VK} (r3 : Rep K H ((es.zip ws) ++ T) ρ σ) (l1 : es.length = ws.length) (hv : σ[i]? = some (some v)) (hp : PathV H p v (.ref B)) (h1 : mtP i p g es ρ = some u) (he : ∀ H', ∀ d ρ1, u = .ok d ρ1 → ∀ w, Rep K H' ((d, w) :: T) ρ1 σ → Q w H') : r (.ref B) ws H Q := by
  obtain ⟨d0, xs, d, xs', e1, e2, e3, rfl⟩ := mtP_inv h1
  have t1 := r3.take e1 hv
  obtain ⟨B', us, R, p1, p2, p3, p4⟩ := path_pin p e2 t1.rep
  have eB := p1.uniq hp
  cases eB
  have r5 : RepT K H ((.lst true xs, .ref B) :: (es.zip ws ++ (R ++ (T ++ SL (ρ.set i .unk) σ)))) := by
    refine p3.perm (List.Perm.cons _ ?_)
    show List.Perm (R ++ ((es.zip ws ++ T) ++ SL (ρ.set i .unk) σ)) _
    rw [List.append_assoc (es.zip ws)]
    generalize T ++ SL (ρ.set i .unk) σ = Z
    rw [← List.append_assoc, ← List.append_assoc]
    exact List.perm_append_comm.append_right _
  refine hg H _ xs xs' es ws d B _ e3 l1 r5 fun w H' r6 => he H' d _ rfl w ?_
  have r7 : RepT K H' ((.lst true xs', .ref B) :: (R ++ ((d, w) :: (T ++ SL (ρ.set i .unk) σ)))) := by
    refine r6.perm ((List.Perm.swap _ _ _).trans (List.Perm.cons _ ?_))
    exact List.perm_middle.symm
  have r8 := p4 H' xs' _ r7
  have t3 : Rep K H' ((setP p d0 (.lst true xs'), v) :: (d, w) :: T) (ρ.set i .unk) σ := ⟨t1.len, t1.nos, r8⟩
  have t4 := t3.put hv
  rw [List.set_set] at t4
  exact t4
theorem ve_mtP {name id : String} {r : V → List V → Hp → VK → Prop} {g : List D → List D → Option (D × List D)} {o e : Expr} {es : List Expr} {i : Nat} {p : List Int} {f : M (List D)} {apos cpos : Pos} (slot : Slot "list" (Str.ofString name) id) (hty : typeOf (.builtin id) = pure (.type "method_descriptor")) (hm : MtR X id r) (hg : ImpM X.K r g)
    (ho : PE X o (tPth i p)) (hargs : VA X W false (e :: es) f)
    (hbase : attributeBase o (Str.ofString name) X.env (eval o X.env) = eval o X.env := by rfl)
    (hfew : ((backTo cpos (starEach (e :: es) X.env)).all (fun x => !x.1) && (backToKw cpos (keywordEach [] X.env)).all (fun x => x.1.isSome)
      && decide ((e :: es).length + ([] : List Keyword).length + (if ([] : List Keyword).isEmpty then 0 else 1) < 30)) = true := by rfl)
    (hline : (apos.endLine == cpos.line) = true := by rfl) (hs : starEach (e :: es) X.env = (false, eval e X.env) :: starEach es X.env := by rfl) (hplain : (backTo cpos (starEach es X.env)).any (·.1) = false := by rfl) :
    VE X W true (.Call (.Attribute o (Str.ofString name) apos) (e :: es) [] cpos) (dMtP i p g f) := by
  refine PE.imp (pe_bm PySem.F.plainAttrs_list slot hty hm ho hargs hbase hfew hline hs hplain) fun σ H Q ⟨T, ρ, u, rep, hf, he⟩ => ?_
  unfold dMtP at hf
  by_cases ok : okP i p ρ = true
  · rw [if_pos ok] at hf
    obtain ⟨xs, ex⟩ := Option.isSome_iff_exists.mp ok
    have e1 := getD_some rfl (getP_unk ex)
    obtain ⟨v, hv⟩ := rep.slot e1 (getP_unk ex)
    obtain ⟨B, us, R, p1, p2, _, _⟩ := path_pin p ex (rep.take e1 hv).rep
    refine ⟨v, .ref B, hv, p1, .inl ⟨rfl, _, .inl (.inl p2)⟩, ?_⟩
    refine runA rep hf he fun ds ρ1 ws H2 h1 s2 l1 r3 => ?_
    exact pth_end hg r3 l1 hv (p1.mono (s2 rfl)) h1 fun H' d ρ2 eu w rr => by
      subst eu
      exact he w H' (fun z => by cases z) rr
  · rw [if_neg ok] at hf; cases hf
theorem ve_mtP0 {name id : String} {r : V → List V → Hp → VK → Prop} {g : List D → List D → Option (D × List D)} {o : Expr} {i : Nat} {p : List Int} {apos cpos : Pos} (slot : Slot "list" (Str.ofString name) id) (hty : typeOf (.builtin id) = pure (.type "method_descriptor")) (hm : MtR X id r) (hg : ImpM X.K r g)
    (ho : PE X o (tPth i p))
    (hbase : attributeBase o (Str.ofString name) X.env (eval o X.env) = eval o X.env := by rfl) (hline : (apos.endLine == cpos.line) = true := by rfl) :
    VE X W true (.Call (.Attribute o (Str.ofString name) apos) [] [] cpos) (dMtP i p g dNil) := by
  refine PE.imp (pe_bm0 PySem.F.plainAttrs_list slot hty hm ho hbase hline) fun σ H Q ⟨T, ρ, u, rep, hf, he⟩ => ?_
  unfold dMtP at hf
  by_cases ok : okP i p ρ = true
  · rw [if_pos ok] at hf
    obtain ⟨xs, ex⟩ := Option.isSome_iff_exists.mp ok
    have e1 := getD_some rfl (getP_unk ex)
    obtain ⟨v, hv⟩ := rep.slot e1 (getP_unk ex)
    obtain ⟨B, us, R, p1, p2, _, _⟩ := path_pin p ex (rep.take e1 hv).rep
    refine ⟨v, .ref B, hv, p1, .inl ⟨rfl, _, .inl (.inl p2)⟩, ?_⟩
    have hf : mtP i p g [] ρ = some u := hf
    exact pth_end (es := []) (ws := []) hg rep rfl hv p1 hf fun H' d ρ2 eu w rr => by
      subst eu
      exact he w H' (fun z => by cases z) rr
  · rw [if_neg ok] at hf; cases hf
end
end VS
set_option Elab.async false
set_option linter.all false
set_option maxRecDepth 100000
set_option maxHeartbeats 4000000
set_option autoImplicit false
noncomputable section
namespace VS
open PySem PySem.Spec PyProof.Rows L2 HT
section
variable {prog : Program} {w : World} {A : Around} {E : Value → Shared → Prop} {s : Shared}
end
section
variable {X : Cx} {W : WX} {m : Bool}
end
end VS
set_option Elab.async false
set_option linter.all false
set_option maxRecDepth 100000
set_option maxHeartbeats 4000000
set_option autoImplicit false
noncomputable section
namespace VS
open PySem PySem.Spec PyProof.Rows L2
section
variable {X : Cx} {W : WX} {K : PySem.W.Frag} {H H1 : Hp} {T L : List (D × V)} {ρ ρ' : Env} {σ σ' : St} {m : Bool}
def leI (x y : Int) : Bool := decide (x ≤ y)
end
end VS
set_option Elab.async false
set_option linter.all false
set_option maxRecDepth 100000
set_option maxHeartbeats 4000000
set_option autoImplicit false
noncomputable section
namespace VS
open PySem PySem.Spec PyProof.Rows L2
section
variable {X : Cx} {W : WX} {K : PySem.W.Frag} {H H1 : Hp} {T L : List (D × V)} {ρ ρ' : Env} {σ σ' : St} {m : Bool}
end
end VS
set_option Elab.async false
set_option linter.all false
set_option maxRecDepth 100000
set_option maxHeartbeats 4000000
set_option autoImplicit false
noncomputable section
namespace VS
open PySem PySem.Spec PyProof.Rows L2
section
variable {X : Cx} {W : WX} {K : PySem.W.Frag} {H H1 : Hp} {T L : List (D × V)} {ρ ρ' : Env} {σ σ' : St} {m : Bool}
end
end VS
set_option Elab.async false
set_option linter.all false
set_option maxRecDepth 100000
set_option maxHeartbeats 4000000
set_option autoImplicit false
noncomputable section
namespace VS
open PySem PySem.Spec PyProof.Rows L2
section
variable {prog : Program} {w : World} {A : Around} {E : Value → Shared → Prop} {s : Shared}
end
section
variable {X : Cx} {W : WX} {K : PySem.W.Frag} {m : Bool}
end
end VS
set_option Elab.async false
set_option linter.all false
set_option maxRecDepth 100000
set_option maxHeartbeats 4000000
set_option autoImplicit false
noncomputable section
namespace VS
open PySem PySem.Spec PyProof.Rows L2
section
variable {X : Cx} {W : WX} {K : PySem.W.Frag} {mg : Str → Option Value} {F F1 F2 H H1 H' : Hp} {T L : List (D × V)} {ρ ρ' : Env} {σ σ' : St} {m : Bool}
theorem RepT.more {P S : List (D × V)} (h : RepT K H P) (hS : ∀ p ∈ S, (p ∈ P ∧ fz p.1 = true) ∨ p.1 = .unk) : RepT K H (P ++ S) := by
  obtain ⟨F, A, sF, nd, fr, o⟩ := h
  have oS : OwT K F H S [] := by
    induction S with
    | nil => rfl
    | cons p S ih =>
      refine ⟨[], [], rfl, ?_, ih fun q hq => hS q (List.mem_cons_of_mem _ hq)⟩
      rcases hS p List.mem_cons_self with ⟨e1, e2⟩ | e
      · obtain ⟨B, hB⟩ := o.mem e1
        have := hB.frozen _ _ _ e2
        subst this
        exact hB
      · rw [e, Ow]
  exact ⟨F, A, sF, nd, fr, by simpa using o.append oS⟩
theorem OwT.pl {F1 F2 : Hp} (g : ∀ b o, F1 b = some o → isC o = false → F2 b = some o) : ∀ {M : List (D × V)} {A : List Addr}, (∀ p ∈ M, VS.pl p.1 = true) → OwT K F1 H M A → OwT K F2 H M A
  | [], A, _, h => h
  | p :: M, A, hM, h => by
    obtain ⟨A1, A2, rfl, h1, h2⟩ := h
    exact ⟨A1, A2, rfl, h1.pl g _ _ _ (hM p List.mem_cons_self), OwT.pl g (fun q hq => hM q (List.mem_cons_of_mem _ hq)) h2⟩
end
end VS
set_option Elab.async false
set_option linter.all false
set_option maxRecDepth 100000
set_option maxHeartbeats 4000000
set_option autoImplicit false
noncomputable section
namespace VS
open PySem PySem.Spec PyProof.Rows L2
section
variable {X : Cx} {W : WX} {K : PySem.W.Frag} {mg : Str → Option Value} {F H H1 : Hp} {T L : List (D × V)} {ρ ρ' : Env} {σ σ' : St} {m : Bool}
end
end VS
set_option Elab.async false
set_option linter.all false
set_option maxRecDepth 100000
set_option maxHeartbeats 4000000
set_option autoImplicit false
noncomputable section
namespace VS
open PySem PySem.Spec PyProof.Rows L2
section
variable {X : Cx} {W : WX} {K : PySem.W.Frag} {mg : Str → Option Value} {F H H1 : Hp} {T L : List (D × V)} {ρ ρ' : Env} {σ σ' σ'' : St} {m : Bool}
end
end VS
set_option Elab.async false
set_option linter.all false
set_option maxRecDepth 100000
set_option maxHeartbeats 4000000
set_option autoImplicit false
noncomputable section
namespace VS
open PySem PySem.Spec PyProof.Rows L2
section
variable {X : Cx} {W : WX} {K : PySem.W.Frag} {mg : Str → Option Value} {F H H1 : Hp} {T L : List (D × V)} {ρ ρ' : Env} {σ σ' σ'' : St} {m : Bool} {a1 : List Nat}
theorem Inv.adopt {pins : List (Addr × Obj)} {s : Shared} {a : Addr} {oe : Obj} {vs : Array Value} {C : Addr} {d : Option Addr} (I : Inv X pins σ H s) (hg : s.heap.get? a = some oe) (hv : oe.data = .fields vs) (hc : oe.cls = .ref C) (hd : oe.dict = d) (na : H a = none) (nL : a ≠ X.env.locals)
    (n0 : X.s_0.heap.get? a = none) (np : ∀ p ∈ X.pn ++ pins, p.1 ≠ a) : Inv X pins σ (upd H a (exHO a C d)) s := by
  have nb : ∀ b u, H b = some u → b ≠ a := fun b u e z => by rw [z, na] at e; cases e
  have n0' : ∀ b o, X.s_0.heap.get? b = some o → b ≠ a := fun b o e z => by rw [z, n0] at e; cases e
  have nC : ∀ x c, X.env.cells.lookup x = some c → c ≠ a := fun x c e z => by
    obtain ⟨v, o, ho, hdd⟩ := I.cell x c e
    rw [z, hg] at ho
    cases ho
    rw [hv] at hdd
    cases hdd
  have B := I.base
  refine ⟨I.ok, I.os, I.bare, ⟨B.keep, B.slot, fun b o e n hx => ?_, B.there, fun b xs e => ?_, fun b o u e => ?_, fun b ps e => ?_⟩, I.loc, I.cell, ?_, fun x c e => ?_, fun p hp => ?_, fun b u e => ?_, I.len⟩
  · rw [upd_ne (n0' b o e)]; exact B.free b o e n hx
  · have := B.tups b xs e; rw [upd_ne (nb _ _ this)]; exact this
  · have := B.frzs b o u e; rw [upd_ne (nb _ _ this)]; exact this
  · obtain ⟨more, q⟩ := B.tbls b ps e
    exact ⟨more, by rw [upd_ne (nb _ _ q)]; exact q⟩
  · rw [upd_ne (Ne.symm nL)]; exact I.free
  · rw [upd_ne (nC x c e)]; exact I.freeC x c e
  · obtain ⟨p1, p2, p3⟩ := I.pin p hp
    exact ⟨p1, by rw [upd_ne (np p hp)]; exact p2, p3⟩
  · by_cases hb : b = a
    · subst hb
      rw [upd_same] at e
      cases e
      exact ⟨⟨oe, vs, hg, hc, hd, hv⟩, ⟨oe, hg⟩, fun h1 h2 ⟨o, ws, q1, q2, q3, q4⟩ k => ⟨o, ws, k _ q1, q2, q3, q4⟩⟩
    · rw [upd_ne hb] at e
      exact (I.hok b u e).stay (fun _ _ _ q => q) (fun c q => by rw [upd_ne (nb _ _ q)]; exact q) fun c xs q => by rw [upd_ne (nb _ _ q)]; exact q
def wKeep (K : PySem.W.Frag) (c : Value) (i j : Nat) (D : Ends) : WX := fun cls d σ H =>
  ∃ C, cls = .ref C ∧ PySem.W.exmOne K cls c = some true ∧ ∀ a, H a = none → D.nx (((σ.set i (some (.ref a))).set j (some (.ref a))).set i none) (upd H a (exHO a C d))
theorem ps_try_keep {x n : Str} {c : Value} {i j : Nat} {body : List Stmt} {b0 : Stmt} {np pos pos' : Pos} {tb : WX → TS} (hs : X.stack = X.env :: X.outer) (hf : X.env.frame = some X.env.locals) (hex : X.ex = []) (hN : X.N.Nodup) (hi : X.N[i]? = some n) (hln : X.env.kindOf n = some .local) (hc : Names X x c)
    (hb : ∀ (W : WX) (pn : List (Addr × Obj)) (xe : Value → Shared → Prop), L2N.Takes (X.tr pn xe) W → PassesOwn (model X.prog X.w) X.A X.env xe → PSs (X.tr pn xe) body (tb W))
    (hsu : ∀ (a : Addr) (pn : List (Addr × Obj)), PSs (X.suite a pn) [b0] (fun D σ H => ∃ v, σ[i]? = some (some v) ∧ D.nx (σ.set j (some v)) H)) :
    PS X (.Try body [.ExceptHandler (some (.Name x np)) (some n) [b0] pos'] [] [] pos) (fun D σ H => tb (wKeep X.K c i j D) D σ H) := by
  refine ⟨fun pins s σ H D I h => ?_⟩
  have ok := I.ok
  have hfr : X.A.frames = some (X.env :: X.outer) := by rw [ok.frames, hs]
  refine wpAny_Try_except (wpAny_mono ((hb (wKeep X.K c i j D) (X.pn ++ pins) (fun e s₁ => wpAny (model X.prog X.w) X.A (noteFrame e X.env) (fun _ s₂ => wpAny (model X.prog X.w) X.A (setFlight e none) (fun _ s₃ =>
    wpAny (model X.prog X.w) X.A (handleBy e X.env [.ExceptHandler (some (.Name x np)) (some n) [b0] pos']) (SP X pins D) X.xe s₃) X.xe s₂) X.xe s₁) (fun u s' xx => ?_) PassesOwn.looking).run [] s σ H D (I.toTry _) h) (fun f s1 hsp => ?_) (fun e s1 he => he))
  case refine_2 =>
    cases f with
    | next => obtain ⟨σ1, H1, J, q⟩ := hsp; exact wpAny_execs_nil ⟨σ1, H1, J.ofTry ok, q⟩
    | brk => obtain ⟨σ1, H1, J, q⟩ := hsp; exact ⟨σ1, H1, J.ofTry ok, q⟩
    | cont => obtain ⟨σ1, H1, J, q⟩ := hsp; exact ⟨σ1, H1, J.ofTry ok, q⟩
    | ret u => obtain ⟨v, σ1, H1, J, r, q⟩ := hsp; exact ⟨v, σ1, H1, J.ofTry ok, r, q⟩
  case refine_1 =>
    obtain ⟨a, B, sI, pins', σ1, H1, cls, d, rfl, J0, nb, up, sky, na, os, ag, C, rfl, hb1, hnx⟩ := xx
    have J : Inv X pins σ1 H1 sI := J0.ofTry ok
    have gr : ∀ b o, sI.heap.get? b = some o → b ∉ frs X.stack → B.get? b = some o := nb
    show wpAny (model X.prog X.w) X.A (noteFrame (.ref a) X.env) _ _ _
    refine L2N.Sky.land L2N.Zn.steady hfr hf (by rw [← hs]; exact sky) fun h3 fl3 up3 => ?_
    have Ba : B.get? a = none := fl3.2.1
    have J3 : Inv X pins σ1 H1 { s' with heap := h3 } := J.landed nb fl3.1 (up.trans up3) os ag
    obtain ⟨oe3, vs3, he3, hz3, hd3⟩ := fl3.there
    have nfr : a ∉ frs (X.env :: X.outer) := fun hm => by
      obtain ⟨_, o', e', hnf⟩ := fl3.2.2.1.mem hm
      rw [he3] at e'
      cases e'
      exact hnf _ hd3
    have nL : a ≠ X.env.locals := fun z => nfr (List.mem_filterMap.mpr ⟨X.env, List.mem_cons_self, by rw [hf, z]⟩)
    have nF : a ∉ X.fs := fun hm => by
      obtain ⟨e, he, q⟩ := List.mem_filterMap.mp hm
      exact nfr (List.mem_filterMap.mpr ⟨e, List.mem_cons_of_mem _ he, q⟩)
    have frS : ∀ b, b ≠ X.env.locals → b ∉ X.fs → b ∉ frs X.stack := fun b h1 h2 hm => by
      rw [hs] at hm
      obtain ⟨e, he, q⟩ := List.mem_filterMap.mp hm
      rcases List.mem_cons.mp he with rfl | he
      · rw [hf] at q; exact h1 (Option.some.inj q).symm
      · exact h2 (List.mem_filterMap.mpr ⟨e, he, q⟩)
    have notB : ∀ b o, sI.heap.get? b = some o → b ≠ X.env.locals → b ∉ X.fs → b ≠ a := fun b o e h1 h2 z => by
      have := gr b o e (frS b h1 h2)
      rw [z, Ba] at this
      cases this
    have n0 : X.s_0.heap.get? a = none := by
      cases q : X.s_0.heap.get? a with
      | none => rfl
      | some o =>
        obtain ⟨o', e'⟩ := J.base.there a o q (by rw [hex]; simp)
        exact absurd rfl (notB a o' e' nL nF)
    have npn : ∀ p ∈ X.pn ++ pins, p.1 ≠ a := fun p hp => by
      obtain ⟨p1, _, p3, p4, _⟩ := J.pin p hp
      exact notB p.1 p.2 p1 p3 p4
    have S3 := J3.suite he3 hd3 na nL nF
    refine wpAny_handleBy_cons (codeAny_handlers_test ?_) (by intro q; cases q)
    have LT : PySem.W.Looks (model X.prog X.w) h3 (typeOf (.ref a)) (.ref C) := fun A Q E s k q => wpAny_typeOf_ref (k _ _ he3) (by rw [hz3.1]; exact q)
    have LM := PySem.W.exm_one (M := model X.prog X.w) (J3.kIn) LT hb1
    have test : ∀ {Q : Value → Shared → Prop} {E : Value → Shared → Prop}, Q c { s' with heap := h3 } → wpAny (model X.prog X.w) (X.A.mark (some (.ref a))) (eval (.Name x np) X.env) Q E { s' with heap := h3 } := fun {Q E} q => by
      obtain ⟨hg, hdbg, hm | ⟨hm, hv, hnn⟩⟩ := hc
      · exact ld_glob (X := X.suite a ((a, oe3) :: (X.pn ++ pins))) S3 hg hm q hdbg
      · exact ld_blt (X := X.suite a ((a, oe3) :: (X.pn ++ pins))) S3 hg hm hv q hnn hdbg
    refine test (LM.here ?_)
    refine codeAny_handlers_suite_as (HandSPX.lands_againZ fl3 fun h4 fl4 up4 => ?_)
    have J4 : Inv X pins σ1 H1 { s' with heap := h4 } := J.landed nb fl4.1 ((up.trans up3).trans up4) os ag
    obtain ⟨oe4, vs4, he4, hz4, hd4⟩ := fl4.there
    refine store_ok (X := X.suite a ((a, oe4) :: (X.pn ++ pins))) (v := .ref a) (J4.suite he4 hd4 na nL nF) hN hi (.inl hln) rfl (fun s5 S5 => ?_) (.inr hln)
    have hi5 : i < σ1.length := by rw [J.len]; exact (List.getElem?_eq_some_iff.mp hi).1
    refine wpAny_mono ((hsu a ((a, oe4) :: (X.pn ++ pins))).run [] s5 _ H1 { nx := fun σ6 H6 => σ6 = (σ1.set i (some (.ref a))).set j (some (.ref a)) ∧ H6 = H1, rt := fun _ _ => False } S5 ⟨.ref a, by rw [List.getElem?_set_self hi5], rfl, rfl⟩) (fun f s6 hsp => ?_) (fun _ _ z => False.elim z)
    cases f with
    | brk => obtain ⟨_, _, _, q⟩ := hsp; exact q.elim
    | cont => obtain ⟨_, _, _, q⟩ := hsp; exact q.elim
    | ret u => obtain ⟨_, _, _, _, _, q⟩ := hsp; exact q.elim
    | next =>
      obtain ⟨σ6, H6, S6, rfl, rfl⟩ := hsp
      refine gone_ok (X := X.suite a ((a, oe4) :: (X.pn ++ pins))) S6 hN hi hln fun s7 S7 => ?_
      have J7 : Inv X pins _ _ s7 := S7.unsuite ok
      have pa := (S7.pin (a, oe4) (List.mem_append_left _ List.mem_cons_self)).1
      exact ⟨_, _, Inv.adopt J7 pa hd4 hz4.1 hz4.2.1 na nL n0 npn, hnx a na⟩
theorem RepT.newX {a C : Addr} {c : Str} (na : H a = none) (hn : PySem.W.nsIn K mainGlobals c = some (some (.ref C))) (h : RepT K H L) : RepT K (upd H a (exHO a C none)) ((.exo c none, .ref a) :: L) := by
  obtain ⟨F, A, sF, nd, fr, o⟩ := h
  have nA : a ∉ A := fun hm => by
    obtain ⟨_, q, _⟩ := o.dom a hm
    rw [na] at q
    cases q
  have fp : F a = none := by
    cases q : F a with
    | none => rfl
    | some u => have := sF _ _ q; rw [na] at this; cases this
  have sU : Same F (upd F a (exHO a C none)) := fun b o q => by
    rw [upd_ne fun z => by rw [z, fp] at q; cases q]; exact q
  refine ⟨upd F a (exHO a C none), A, ⟨fun b u q => ?_, sF.gh.to sU fun P ps x y => ?_⟩, nd, fun b hb => ?_, [], A, rfl, ?_, o.keep sU fun b hb => upd_ne fun z => nA (by rw [← z]; exact hb)⟩
  · by_cases z : b = a
    · subst z; rw [upd_same] at q ⊢; exact q
    · rw [upd_ne z] at q ⊢; exact sF _ _ q
  · have z : P ≠ a := fun z => by rw [z, na] at y; cases y
    rw [upd_ne z, upd_ne z]; exact ⟨x, y⟩
  · rw [upd_ne fun z => nA (by rw [← z]; exact hb)]; exact fr b hb
  · rw [Ow]
    exact ⟨⟨a, C, none, rfl, upd_same, hn, rfl⟩, rfl⟩
def dTryK (i j : Nat) (yes : List Str) (body : MS) : MS := fun ρ => match body ρ with
  | some (.ex x, ρ1) => if x.p.isNone = true ∧ x.c ∈ yes then some (.nx, (ρ1.set j (.exo x.c none)).set i .unk) else none
  | r => r
theorem vs_tryK {x n y : Str} {cL : Value} {i j : Nat} {body : List Stmt} {np p1 p2 p3 pos pos' : Pos} {yes : List Str} {gb : MS} (hs : X.stack = X.env :: X.outer) (hfr : X.env.frame = some X.env.locals) (hex : X.ex = []) (nd : X.N.Nodup) (hi : X.N[i]? = some n) (hln : X.env.kindOf n = some .local) (hj : X.N[j]? = some y) (hjl : X.env.kindOf y = some .local) (hij : i ≠ j) (hx : Names X x cL)
    (hyes : ∀ c ∈ yes, ∀ C, X.mg c = some (.ref C) → ExcC X.K C ∧ PySem.W.exmOne X.K (.ref C) cL = some true) (hF : ∀ c ∈ yes, ExcF X.K X.mg c)
    (hb : ∀ (W' : WX) (pn : List (Addr × Obj)) (xe : Value → Shared → Prop), L2N.Takes (X.tr pn xe) W' → PassesOwn (model X.prog X.w) X.A X.env xe → VSs (X.tr pn xe) W' a1 body gb)
    (hdn : (n == ("__debug__" : Str)) = false := by decide) (hcd : (n == ("__classdict__" : Str)) = false := by decide)
    (hsw : ∀ (a : Addr) (pn : List (Addr × Obj)), swapsWith (.Name n p2) (some (.Name y p1)) p3.line (X.suite a pn).env = pure false := by intros; rfl) :
    VSt X W (a1 ++ ([i] ++ [j])) (.Try body [.ExceptHandler (some (.Name x np)) (some n) [.Assign [.Name y p1] (.Name n p2) p3] pos'] [] [] pos) (dTryK i j yes gb) := by
  refine PS.imp (ps_try_keep (j := j) (tb := fun W' => tsOf X.K X.mg W' a1 gb) hs hfr hex nd hi hln hx hb fun a pn => pss_one (ps_set (X := X.suite a pn) nd hj (.inl hjl) (pe_var (X := X.suite a pn) hi (.inl hln) hdn hcd) (hsw a pn) (.inr hjl))) ?_
  intro σ H E ⟨T, ρ, fl, ρ', rep, hf, he⟩
  unfold dTryK at hf
  cases q : gb ρ with
  | none => rw [q] at hf; cases hf
  | some u =>
    obtain ⟨fb, ρ1⟩ := u
    rw [q] at hf
    refine ⟨T, ρ, fb, ρ1, rep, q, ?_⟩
    cases fb with
    | nx =>
      have e : (Fl.nx, ρ1) = (fl, ρ') := Option.some.inj hf
      cases e
      exact fun σ' H' k r => he σ' H' k.left r
    | bk =>
      have e : (Fl.bk, ρ1) = (fl, ρ') := Option.some.inj hf
      cases e
      exact fun σ' H' k r => he σ' H' k.left r
    | ct =>
      have e : (Fl.ct, ρ1) = (fl, ρ') := Option.some.inj hf
      cases e
      exact fun σ' H' k r => he σ' H' k.left r
    | rt d =>
      have e : (Fl.rt d, ρ1) = (fl, ρ') := Option.some.inj hf
      cases e
      exact fun v σ' H' k r => he v σ' H' k.left r
    | ex x =>
      intro cls dd σ1 H1 k1 xr r1
      obtain ⟨C, rfl, hm, hp⟩ := id xr
      simp only at hf
      split at hf
      · rename_i z
        obtain ⟨z1, z2⟩ := z
        have hp0 : x.p = none := Option.isNone_iff_eq_none.mp z1
        have hd : dd = none := by rw [hp0] at hp; exact hp
        subst hd
        obtain ⟨xc, ex⟩ := hyes _ z2 C hm
        obtain ⟨C', m1, m2, _⟩ := (hF _ z2).ex
        have ec : C' = C := by rw [hm] at m1; injection m1 with m1; injection m1 with m1; exact m1.symm
        subst ec
        have e : (Fl.nx, (ρ1.set j (.exo x.c none)).set i .unk) = (fl, ρ') := Option.some.inj hf
        cases e
        refine ⟨C', rfl, ex, fun a na => ?_⟩
        have r2 : Rep X.K (upd H1 a (exHO a C' none)) ((.exo x.c none, .ref a) :: T) ρ1 σ1 := r1.lift fun q => RepT.newX na m2 q
        have r3 := r2.set (i := j) |>.unset i
        have es : ((σ1.set i (some (V.ref a))).set j (some (V.ref a))).set i none = (σ1.set j (some (V.ref a))).set i none := by
          rw [List.set_comm _ _ hij, List.set_set]
        rw [es]
        refine he _ _ ⟨by rw [List.length_set, List.length_set, k1.1], fun l hl => ?_⟩ r3
        rw [List.mem_append, not_or, List.mem_append, not_or, List.mem_singleton, List.mem_singleton] at hl
        obtain ⟨l1, l2, l3⟩ := hl
        rw [List.getElem?_set_ne (Ne.symm l2), List.getElem?_set_ne (Ne.symm l3), k1.2 l l1]
      · cases hf
def rIsE (K : PySem.W.Frag) : List V → Hp → VK → Prop := fun xs H Q => ∃ (a D : Addr) (c : V) (u : Value) (b : Bool), xs = [.ref a, c] ∧ H a = some (exHO a D none) ∧ ExcC K D ∧ ClsV c u ∧ PySem.W.kitOne K (.ref D) u = some b ∧ Q (.bl b) H
theorem call_isE : CallR X (.builtin "isinstance") (rIsE X.K) := by
  intro pins s σ H xs us Q I r h
  obtain ⟨a, D, c, u, b, rfl, ha, C, k, e, q⟩ := h
  cases r with
  | cons rx rr =>
    cases rr with
    | cons rt rr =>
      cases rr
      cases rx
      cases k.eq rt
      obtain ⟨⟨oe, vs, hg, hc, hd, hv⟩, _⟩ := (show ObjOk X.prog X.w H s.heap a (exHO a D none) from I.hok a _ ha)
      exact PySem.W.kia_one (PySem.W.handS_kitx_exc C.hg C.hk C.hs C.hd C.ha C.hn C.ht C.hm) I.kIn (inst_of hc hd ⟨vs, hv⟩ hg) e (fun z => nomatch z) fun tk => ⟨.bl b, H, I.tok tk, rfl, q⟩
def isyD (ns : List Str) (tab : Tab) (ts : List Str) (d : D) : Option D := match d with
  | .exo c none => if c ∈ ns then (tabAny tab c ts).map D.bl else none
  | _ => none
def dIsy (ns : List Str) (tab : Tab) (ts : List Str) (f : M D) : M D := bindM f fun d => optM (isyD ns tab ts d)
theorem isyD_inv {ns : List Str} {tab : Tab} {ts : List Str} {d x : D} (h : isyD ns tab ts d = some x) : ∃ c, d = .exo c none ∧ c ∈ ns ∧ ∃ b, tabAny tab c ts = some b ∧ x = .bl b := by
  unfold isyD at h
  split at h
  · split at h
    · rename_i z
      obtain ⟨b, e, rfl⟩ := Option.map_eq_some_iff.mp h
      exact ⟨_, rfl, z, b, e, rfl⟩
    · cases h
  · cases h
theorem RepT.exoX {c : Str} {v : V} (h : RepT K H ((.exo c none, v) :: L)) : ∃ a C, v = .ref a ∧ H a = some (exHO a C none) ∧ PySem.W.nsIn K mainGlobals c = some (some (.ref C)) := by
  obtain ⟨F, A, sF, nd, fr, A1, A2, rfl, h1, o1⟩ := h
  rw [Ow] at h1
  obtain ⟨⟨a, C, d, rfl, q, n, hd⟩, _⟩ := h1
  have hd' : d = none := hd
  subst hd'
  exact ⟨a, C, rfl, sF _ _ q, n⟩
theorem ve_isy1 {ns : List Str} {tab : Tab} {t : Str} {e ct : Expr} {f : M D} {p pos : Pos} (hF : ∀ c ∈ ns, ExcF X.K X.mg c) (ok : TabOk X.K X.mg tab) (hg : Gl X "isinstance") (hm : X.mg "isinstance" = none) (he : VE X W m e f) (hc : CE X ct t)
    (hs1 : starEach [ct] X.env = (false, eval ct X.env) :: starEach [] X.env := by rfl) (hs : starEach [e, ct] X.env = (false, eval e X.env) :: starEach [ct] X.env := by rfl) (hpl : (backTo pos (starEach [ct] X.env)).any (·.1) = false := by rfl) : VE X W m (.Call (.Name "isinstance" p) [e, ct] [] pos) (dIsy ns tab [t] f) := by
  obtain ⟨cv, u, pc, kc, ku⟩ := hc.ex
  refine PE.imp (pe_callB call_isE hg hm (by decide +kernel) (pa_cons he (pa_cons pc pa_nil hs1) hs) (by decide) (by decide) hs hpl) fun σ H Q ⟨T, ρ, w, rep, hf, hend⟩ => ?_
  refine run1 rep hf hend fun d ρ1 v H1 h1 s1 r1 => ?_
  obtain ⟨x, ex, rfl⟩ := optM_some h1
  obtain ⟨c, rfl, hc, b, eb, rfl⟩ := isyD_inv ex
  obtain ⟨a, C, rfl, ha, hn⟩ := RepT.exoX r1.rep
  obtain ⟨C', m1, m2, _, _, _, _, xc⟩ := (hF c hc).ex
  have ec : C' = C := by rw [hn] at m2; injection m2 with m2; injection m2 with m2; injection m2 with m2; exact m2.symm
  subst ec
  refine ⟨a, C', cv, u, b, rfl, ha, xc, kc, ?_, hend _ H1 s1 (r1.drop.lift fun q => q.bl)⟩
  rw [tabAny] at eb
  cases e1 : tabL tab c t with
  | none => rw [e1] at eb; cases eb
  | some k =>
    rw [e1] at eb
    rw [ok.one e1 m1 ku]
    cases k
    · exact eb
    · exact eb
end
end VS
set_option Elab.async false
set_option linter.all false
set_option maxRecDepth 100000
set_option maxHeartbeats 4000000
set_option autoImplicit false
noncomputable section
namespace VS
open PySem PySem.Spec PyProof.Rows L2
section
variable {X : Cx} {W : WX} {K : PySem.W.Frag} {mg : Str → Option Value} {F H H1 : Hp} {T L : List (D × V)} {ρ ρ' : Env} {σ σ' σ'' : St} {m : Bool}
end
end VS
set_option Elab.async false
set_option linter.all false
set_option maxRecDepth 100000
set_option maxHeartbeats 4000000
set_option autoImplicit false
noncomputable section
namespace VS
open PySem PySem.Spec PyProof.Rows L2
section
variable {X : Cx} {W : WX} {K : PySem.W.Frag} {mg : Str → Option Value} {F H H1 : Hp} {T L : List (D × V)} {ρ ρ' : Env} {σ σ' σ'' : St} {m : Bool}
def rIsET (K : PySem.W.Frag) : List V → Hp → VK → Prop := fun xs H Q => ∃ (a D : Addr) (tp : Addr) (cs : List V) (us : List Value) (b : Bool), xs = [.ref a, .ref tp] ∧ H a = some (exHO a D none) ∧ ExcC K D ∧ H tp = some (.tup cs) ∧ Paired ClsV cs us ∧ PySem.W.kitAny K (.ref D) us = some b ∧ Q (.bl b) H
theorem call_isET : CallR X (.builtin "isinstance") (rIsET X.K) := by
  intro pins s σ H xs us Q I r h
  obtain ⟨a, D, tp, cs, ws, b, rfl, ha, C, hT, k, e, q⟩ := h
  cases r with
  | cons rx rr =>
    cases rr with
    | cons rt rr =>
      cases rr
      cases rx
      cases rt
      obtain ⟨⟨oe, vs, hg, hc, hd, hv⟩, _⟩ := (show ObjOk X.prog X.w H s.heap a (exHO a D none) from I.hok a _ ha)
      obtain ⟨_, its, rv, o, h1, h2, n, h3⟩ := (show ObjOk X.prog X.w H s.heap tp (.tup cs) from I.hok tp _ hT)
      cases ClsV.all k rv
      obtain ⟨oc, od, dt, sl⟩ := o
      dsimp only at h2 h3
      subst h2 h3
      exact PySem.W.kia_tup (PySem.W.handS_kitx_exc C.hg C.hk C.hs C.hd C.ha C.hn C.ht C.hm) I.kIn (inst_of hc hd ⟨vs, hv⟩ hg) h1 e (fun z => nomatch z) fun tk => ⟨.bl b, H, I.tok tk, rfl, q⟩
theorem ve_isyN {ns : List Str} {tab : Tab} {ts : List Str} {e : Expr} {es : List Expr} {k : Nat} {f : M D} {p pos tpos : Pos} (hF : ∀ c ∈ ns, ExcF X.K X.mg c) (ok : TabOk X.K X.mg tab) (hg : Gl X "isinstance") (hm : X.mg "isinstance" = none) (he : VE X W m e f) (hc : CEs X es ts) (hl : ts.length ≤ sizeLine := by decide)
    (hs1 : starEach [.Tuple es k tpos] X.env = (false, eval (.Tuple es k tpos) X.env) :: starEach [] X.env := by rfl) (hs : starEach [e, .Tuple es k tpos] X.env = (false, eval e X.env) :: starEach [.Tuple es k tpos] X.env := by rfl) (hpl : (backTo pos (starEach [.Tuple es k tpos] X.env)).any (·.1) = false := by rfl) : VE X W m (.Call (.Name "isinstance" p) [e, .Tuple es k tpos] [] pos) (dIsy ns tab ts f) := by
  obtain ⟨cvs, us, tr, pc, qc, k1, k2, l⟩ := hc.ex
  refine PE.imp (pe_callB call_isET hg hm (by decide +kernel) (pa_cons he (pa_cons (pe_tup pc) pa_nil hs1) hs) (by decide) (by decide) hs hpl) fun σ H Q ⟨T, ρ, w, rep, hf, hend⟩ => ?_
  refine run1 rep hf hend fun d ρ1 v H1 h1 s1 r1 => ?_
  obtain ⟨x, ex, rfl⟩ := optM_some h1
  obtain ⟨c, rfl, hc, b, eb, rfl⟩ := isyD_inv ex
  obtain ⟨a, C, rfl, ha, hn⟩ := RepT.exoX r1.rep
  obtain ⟨C', m1, m2, _, _, _, _, xc⟩ := (hF c hc).ex
  have ec : C' = C := by rw [hn] at m2; injection m2 with m2; injection m2 with m2; injection m2 with m2; exact m2.symm
  subst ec
  refine qc _ _ _ ⟨by rw [l]; exact hl, fun tp htp => ?_⟩
  have r2 : RepT X.K (upd H1 tp (.tup cvs)) ((.exo c none, .ref a) :: (T ++ SL ρ1 σ)) := RepT.grow htp r1.rep
  have na : a ≠ tp := ne_of_none ha htp
  exact ⟨a, C', tp, cvs, us, b, rfl, by rw [upd_ne na]; exact ha, xc, upd_same, k1, ok.any m1 eb k2, hend _ _ (sm_r s1 (Same.upd htp)) ⟨r1.len, r1.nos, RepT.bl r2.drop⟩⟩
end
end VS
set_option Elab.async false
set_option linter.all false
set_option maxRecDepth 100000
set_option maxHeartbeats 4000000
set_option autoImplicit false
noncomputable section
namespace VS
open PySem PySem.Spec PyProof.Rows L2
section
variable {X : Cx} {W : WX} {K : PySem.W.Frag} {mg : Str → Option Value} {F H H1 : Hp} {T L : List (D × V)} {ρ ρ' : Env} {σ σ' σ'' : St} {m : Bool}
theorem dp_reads {pins : List (Addr × Obj)} {s : Shared} (I : Inv X pins σ H s) : ∀ {ws : List V} {es : List PyData} {its : List Value}, DpAll X.K H ws es → Vals ws its → ∃ as, ReadsAll s.heap its es as
  | _, _, _, .nil, .nil => ⟨_, .nil⟩
  | _, _, _, .cons d1 d2, .cons r t => by
    obtain ⟨as, q⟩ := Dp.reads I _ _ _ d1 r
    obtain ⟨bs, q2⟩ := dp_reads I d2 t
    exact ⟨_, .cons q q2⟩
def rMinD (K : PySem.W.Frag) : List V → Hp → VK → Prop := fun xs H Q => ∃ (a : Addr) (ws : List V) (e : PyData) (es : List PyData), xs = [.ref a] ∧ SqL K H a ws ∧ DpAll K H ws (e :: es) ∧ PySem.W.AlikeAll (e :: es) ∧ PyData.depthAll (e :: es) ≤ 60 ∧
  ∀ (i : Nat) (w : V), ws[i]? = some w → (e :: es)[i]? = some (PySem.W.minD e es) → Q w H
theorem cr_minD (hc : X.calm = true) (hu : X.A.units + 64 < cLine) : CallR X (.builtin "min") (rMinD X.K) := by
  intro pins s σ H vs us Q I r h
  obtain ⟨a, ws, e, es, rfl, hs, hd, hal, hdp, q⟩ := h
  rw [Vals.ref1 r]
  obtain ⟨its, rv, hl, hz⟩ := I.list hs
  obtain ⟨as, hr⟩ := dp_reads I hd rv
  refine PySem.W.min_list_data (x := e) (xs := es) (I.ok.hd hc) hl.isList (by simpa using hr) hal (by omega) fun i v h' tk bs hi rr hk => ?_
  have hi : its[i]? = some v := by simpa using hi
  obtain ⟨w, hw, rw'⟩ : ∃ w, ws[i]? = some w ∧ RelV w v := by
    clear hd hr q rr hs hl hz I
    induction rv generalizing i with
    | nil => simp at hi
    | cons r1 _ ih =>
      cases i with
      | zero =>
        have e := Option.some.inj hi
        subst e
        exact ⟨_, rfl, r1⟩
      | succ i => exact ih i (by simpa using hi) (by simpa using hi)
  have I2 := I.kept (t' := tk) hk
  obtain ⟨as2, hr2⟩ := dp_reads I2 hd rv
  obtain ⟨bs2, r2, i2, _, _⟩ := PySem.W.readsAll_at hr2 i v hi
  have e2 : PySem.W.minD e es = (e :: es).getD i .none := (PySem.Reads.unique rr _ _ r2).1
  refine ⟨w, H, I2, rw', q i w hw ?_⟩
  rw [e2, List.getD_eq_getElem?_getD, List.getElem?_eq_getElem i2]
  rfl
theorem minD_mem (p : PyData) (ps : List PyData) : PySem.W.minD p ps ∈ p :: ps := by
  unfold PySem.W.minD
  induction ps generalizing p with
  | nil => exact List.mem_cons_self
  | cons q ps ih =>
    rw [List.foldl_cons]
    split
    · exact List.mem_cons_of_mem _ (ih q)
    · rcases List.mem_cons.mp (ih p) with e | e
      · rw [e]; exact List.mem_cons_self
      · exact List.mem_cons_of_mem _ (List.mem_cons_of_mem _ e)
end
end VS
set_option Elab.async false
set_option linter.all false
set_option maxRecDepth 100000
set_option maxHeartbeats 4000000
set_option autoImplicit false
noncomputable section
namespace VS
open PySem PySem.Spec PyProof.Rows L2
end VS
set_option Elab.async false
set_option linter.all false
set_option maxRecDepth 100000
set_option maxHeartbeats 4000000
set_option autoImplicit false
noncomputable section
namespace VS
open PySem PySem.Spec PyProof.Rows L2
section
variable {X : Cx} {W : WX} {K : PySem.W.Frag} {mg : Str → Option Value} {e : Expr} {es : List Expr} {ta : TA} {p1 p2 pos : Pos} {B0 : Addr} {x : Str}
def spI (C : Addr) (f : Str) : Sp := fun vs H Q _ => ∃ (a : Addr) (n : Int), vs = [.ref a, .int n] ∧ H a = some (exo a C none) ∧ ∀ d, H d = none → d ≠ a → Q .non (upd (upd H d (exd d [(f, .int n)])) a (exo a C (some d)))
structure ExcI (P : Program) (w : World) (K : PySem.W.Frag) (mg : Str → Option Value) (base : Heap) (k : Nat) (x f : Str) : Prop where
  ex : ∃ (C fI : Addr) (fd : FuncData), mg x = some (.ref C) ∧ OexC K C ∧ PySem.W.findIn K (.ref C) "__init__" = some (some (.ref fI)) ∧ PySem.W.typeIn K (.ref fI) = some (.type "function") ∧ FnOk P w K mg base (L2N.CX P w) k fI fd ["self", f] (spI C f) ∧ Binds K fd ["self", f] []
theorem ExcI.mono {P : Program} {w : World} {base : Heap} {j k : Nat} {f : Str} (c : ExcI P w K mg base j x f) (h : j ≤ k) : ExcI P w K mg base k x f := by
  obtain ⟨C, fI, fd, h1, h2, h3, h4, h5, h6⟩ := c.ex
  exact ⟨C, fI, fd, h1, h2, h3, h4, h5.mono h, h6⟩
end
end VS
set_option Elab.async false
set_option linter.all false
set_option maxRecDepth 100000
set_option maxHeartbeats 4000000
set_option autoImplicit false
noncomputable section
namespace VS
open PySem PySem.Spec PyProof.Rows L2
section
variable {P : Program} {w : World} {A : Around} {E : Value → Shared → Prop} {s : Shared}
end
section
variable {X : Cx} {W : WX} {K : PySem.W.Frag} {m : Bool}
end
end VS
set_option Elab.async false
set_option linter.all false
set_option maxRecDepth 100000
set_option maxHeartbeats 4000000
set_option autoImplicit false
noncomputable section
namespace VS
open PySem PySem.Spec PyProof.Rows L2
section
variable {X : Cx} {K : PySem.W.Frag}
end
end VS
set_option Elab.async false
set_option linter.all false
set_option maxRecDepth 100000
set_option maxHeartbeats 4000000
set_option autoImplicit false
noncomputable section
namespace VS
open PySem PySem.Spec PyProof.Rows L2
section
variable {X : Cx} {K : PySem.W.Frag}
end
end VS
set_option Elab.async false
set_option linter.all false
set_option maxRecDepth 100000
set_option maxHeartbeats 4000000
set_option autoImplicit false
noncomputable section
namespace VS
open PySem PySem.Spec PyProof.Rows L2
section
variable {X : Cx} {K : PySem.W.Frag}
end
end VS
set_option Elab.async false
set_option linter.all false
set_option maxRecDepth 100000
set_option maxHeartbeats 4000000
set_option autoImplicit false
noncomputable section
namespace VS
open PySem PySem.Spec PyProof.Rows L2
section
variable {X : Cx} {K : PySem.W.Frag}
end
end VS
set_option Elab.async false
set_option linter.all false
set_option maxRecDepth 100000
set_option maxHeartbeats 4000000
set_option autoImplicit false
noncomputable section
namespace VS
open PySem PySem.Spec PyProof.Rows L2
section
variable {prog : Program} {w : World} {A : Around} {E : Value → Shared → Prop} {s : Shared}
end
section
variable {X : Cx} {pins : List (Addr × Obj)} {σ : L2.St} {H : Hp} {s : Shared} {L : List (D × V)}
theorem RepT.tab {P c : Addr} {q : Str} {pos : Pos} {K : PySem.W.Frag} {ps : Array Value} (hg : ghP = some (P, q)) (hP : H P = some (.tbl ps)) (ht : TriplesOk ps.toList) (hc : H c = none) (r : RepT K H L) :
    RepT K (upd (upd H P (.tbl (ps ++ #[rawInt pos.line, rawInt pos.col, .ref c]))) c (LamX.CodeO c q)) L := by
  obtain ⟨F, A, sF, nd, fr, o⟩ := r
  have Pc : P ≠ c := ne_of_none hP hc
  have g := sF.gh
  unfold GhOk at g
  rw [hg] at g
  obtain ⟨g1, ps', g2, _, g4⟩ := g
  have g1 : F P = none := g1
  have e : ps' = ps := by
    have : H P = some (.tbl ps') := g2
    rw [hP] at this; injection this with this; injection this with this; exact this.symm
  subst e
  have fc : F c = none := sF.none hc
  have sU : Same F (upd F c (LamX.CodeO c q)) := fun b o e => by
    rw [upd_ne fun z => by rw [z, fc] at e; cases e]; exact e
  have off : ∀ a ∈ A, upd (upd H P (.tbl (ps' ++ #[rawInt pos.line, rawInt pos.col, .ref c]))) c (LamX.CodeO c q) a = H a := fun a ha => by
    obtain ⟨u, e, n⟩ := o.dom a ha
    rw [upd_ne fun z => (by rw [z, hc] at e; cases e), upd_ne fun z => by rw [z, hP] at e; exact n.2 _ (Option.some.inj e).symm]
  refine ⟨upd F c (LamX.CodeO c q), A, ⟨fun b u e => ?_, ?_⟩, nd, fun a ha => ?_, o.keep sU off⟩
  · by_cases z : b = c
    · subst z; rw [upd_same] at e ⊢; exact e
    · rw [upd_ne z] at e ⊢
      rw [upd_ne fun z2 => by rw [z2, g1] at e; cases e]
      exact sF.sm _ _ e
  · unfold GhOk
    rw [hg]
    refine ⟨by rw [upd_ne Pc]; exact g1, _, by rw [upd_ne Pc, upd_same], by
      rw [show (ps' ++ #[rawInt pos.line, rawInt pos.col, .ref c]).toList = ps'.toList ++ [rawInt pos.line, rawInt pos.col, .ref c] by simp]
      exact PySem.TriplesOk_snoc _ _ _ _ ht, fun p' cv hcv => ?_⟩
    rw [show (ps' ++ #[rawInt pos.line, rawInt pos.col, .ref c]).toList = ps'.toList ++ [rawInt pos.line, rawInt pos.col, .ref c] by simp] at hcv
    rcases LamX.among_app _ ht hcv with z | z
    · obtain ⟨c0, e1, e2⟩ := g4 p' cv z
      exact ⟨c0, e1, sU _ _ e2⟩
    · exact ⟨c, z, upd_same⟩
  · have na : a ≠ c := fun z => by
      obtain ⟨u, e, n⟩ := o.dom a ha
      rw [z, hc] at e; cases e
    rw [upd_ne na]; exact fr a ha
end
section
variable {X : Cx} {W : WX} {K : PySem.W.Frag} {mg : Str → Option Value} {H : Hp} {T L : List (D × V)} {ρ : Env} {σ : St} {m : Bool}
end
section
variable {K : PySem.W.Frag} {mg : Str → Option Value}
end
end VS
set_option Elab.async false
set_option linter.all false
set_option maxRecDepth 100000
set_option maxHeartbeats 4000000
set_option autoImplicit false
noncomputable section
namespace VS
open PySem PySem.Spec PyProof.Rows L2
section
variable {K : PySem.W.Frag} {mg : Str → Option Value}
end
end VS
set_option Elab.async false
set_option linter.all false
set_option maxRecDepth 100000
set_option maxHeartbeats 4000000
set_option autoImplicit false
noncomputable section
namespace VS
open PySem PySem.Spec PyProof.Rows L2
section
variable {X : Cx} {pins : List (Addr × Obj)} {σ : St} {H : Hp} {s : Shared} {d : Addr} {o : Obj}
end
section
variable {P : Program} {w : World} {K : PySem.W.Frag} {tg : Expr} {d : Addr} {o : Obj} {es : Array DictEntry} {ep : Nat}
end
section
variable {X : Cx} {tg e : Expr} {td : TE} {apos cpos : Pos}
end
section
variable {X : Cx} {W : WX} {K : PySem.W.Frag} {H H1 : Hp} {T L : List (D × V)} {ρ ρ' : Env} {σ : St} {m : Bool}
end
end VS
set_option Elab.async false
set_option linter.all false
set_option maxRecDepth 100000
set_option maxHeartbeats 4000000
set_option autoImplicit false
noncomputable section
namespace VS
open PySem PySem.Spec PyProof.Rows L2
section
variable {X : Cx} {K : PySem.W.Frag}
end
end VS
set_option Elab.async false
set_option linter.all false
set_option maxRecDepth 100000
set_option maxHeartbeats 4000000
set_option autoImplicit false
noncomputable section
namespace VS
open PySem PySem.Spec PyProof.Rows L2
section
variable {X : Cx} {W : WX} {K : PySem.W.Frag} {mg : Str → Option Value} {H H1 : Hp} {T L : List (D × V)} {ρ ρ' : Env} {σ σ' σ'' : St} {m : Bool}
end
end VS
set_option Elab.async false
set_option linter.all false
set_option maxRecDepth 100000
set_option maxHeartbeats 4000000
set_option autoImplicit false
noncomputable section
namespace VS
open PySem PySem.Spec PyProof.Rows L2
section
variable {X : Cx} {W : WX} {K : PySem.W.Frag} {mg : Str → Option Value} {F H H1 : Hp} {T L : List (D × V)} {ρ ρ' : Env} {σ σ' σ'' : St} {m mo me : Bool}
end
end VS
set_option Elab.async false
set_option linter.all false
set_option maxRecDepth 100000
set_option maxHeartbeats 4000000
set_option autoImplicit false
noncomputable section
namespace VS
open PySem PySem.Spec PyProof.Rows L2
section
variable {X : Cx} {W : WX} {K : PySem.W.Frag} {F H H1 : Hp} {T L : List (D × V)} {ρ ρ' : Env} {σ σ' σ'' : St} {m : Bool}
end
end VS
set_option Elab.async false
set_option linter.all false
set_option maxRecDepth 100000
set_option maxHeartbeats 4000000
set_option autoImplicit false
noncomputable section
namespace VS
open PySem PySem.Spec PyProof.Rows L2
section
variable {X : Cx} {W : WX} {K : PySem.W.Frag} {m : Bool}
end
end VS
set_option Elab.async false
set_option linter.all false
set_option maxRecDepth 100000
set_option maxHeartbeats 4000000
set_option autoImplicit false
noncomputable section
namespace VS
open PySem PySem.Spec PyProof.Rows L2
section
variable {X : Cx} {W : WX} {K : PySem.W.Frag} {mg : Str → Option Value} {F H H1 : Hp} {T L : List (D × V)} {ρ ρ' : Env} {σ σ' σ'' : St} {m : Bool} {asg a1 a2 : List Nat}
end
end VS
set_option Elab.async false
set_option linter.all false
set_option maxRecDepth 100000
set_option maxHeartbeats 4000000
set_option autoImplicit false
noncomputable section
namespace VS
open PySem PySem.Spec PyProof.Rows L2
section
variable {X : Cx} {W : WX} {K : PySem.W.Frag} {mg : Str → Option Value} {F H H1 : Hp} {T L : List (D × V)} {ρ ρ' : Env} {σ σ' σ'' : St} {m : Bool}
end
end VS
set_option Elab.async false
set_option linter.all false
set_option maxRecDepth 100000
set_option maxHeartbeats 4000000
set_option autoImplicit false
noncomputable section
namespace VS
open PySem PySem.Spec PyProof.Rows L2
section
variable {X : Cx} {W : WX} {K : PySem.W.Frag} {m : Bool} {H : Hp}
end
end VS
set_option Elab.async false
set_option linter.all false
set_option maxRecDepth 100000
set_option maxHeartbeats 4000000
set_option autoImplicit false
noncomputable section
namespace VS
open PySem PySem.Spec PyProof.Rows L2
section
variable {X : Cx} {W : WX} {K : PySem.W.Frag} {m : Bool} {H F : Hp} {pins : List (Addr × Obj)} {σ : St} {s : Shared} {d : Addr}
end
end VS
set_option Elab.async false
set_option linter.all false
set_option maxRecDepth 100000
set_option maxHeartbeats 4000000
set_option autoImplicit false
noncomputable section
namespace VS
open PySem PySem.Spec PyProof.Rows L2
open Sem (wp)
section
variable {prog : Program} {w : World} {A : Around} {E : Value → Shared → Prop} {s : Shared}
end
section
variable {X : Cx} {W : WX} {K : PySem.W.Frag} {m : Bool}
end
end VS
set_option Elab.async false
set_option linter.all false
set_option maxRecDepth 100000
set_option maxHeartbeats 4000000
set_option autoImplicit false
noncomputable section
namespace VS
open PySem PySem.Spec PyProof.Rows L2
section
variable {X : Cx} {K : PySem.W.Frag}
end
end VS
set_option Elab.async false
set_option linter.all false
set_option maxRecDepth 100000
set_option maxHeartbeats 4000000
set_option autoImplicit false
noncomputable section
namespace VS
open PySem PySem.Spec PyProof.Rows L2
section
variable {X : Cx} {W : WX} {K : PySem.W.Frag} {mg : Str → Option Value} {F H H1 : Hp} {T L : List (D × V)} {ρ ρ' : Env} {σ σ' σ'' : St} {m : Bool}
structure ExcG (K : PySem.W.Frag) (mg : Str → Option Value) (x : Str) : Prop where
  ex : ∃ C, mg x = some (.ref C) ∧ PySem.W.nsIn K mainGlobals x = some (some (.ref C)) ∧ ExcC K C
theorem ExcF.g {x : Str} (h : ExcF K mg x) : ExcG K mg x := by
  obtain ⟨C, h1, h2, _, _, _, _, h3⟩ := h.ex
  exact ⟨C, h1, h2, h3⟩
end
end VS
set_option Elab.async false
set_option linter.all false
set_option maxRecDepth 100000
set_option maxHeartbeats 4000000
set_option autoImplicit false
noncomputable section
namespace VS
open PySem PySem.Spec PyProof.Rows L2
section
variable {X : Cx} {W : WX} {K : PySem.W.Frag} {m : Bool} {H F : Hp} {pins : List (Addr × Obj)} {σ : St} {s : Shared} {d : Addr}
end
end VS
set_option Elab.async false
set_option linter.all false
set_option maxRecDepth 100000
set_option maxHeartbeats 4000000
set_option autoImplicit false
noncomputable section
namespace VS
open PySem PySem.Spec PyProof.Rows L2
section
variable {X : Cx} {W : WX} {K : PySem.W.Frag} {mg : Str → Option Value} {m : Bool} {H : Hp} {σ : St}
end
section
variable {X : Cx} {W : WX}
end
end VS
set_option Elab.async false
set_option linter.all false
set_option maxRecDepth 100000
set_option maxHeartbeats 4000000
set_option autoImplicit false
noncomputable section
namespace VS
open PySem PySem.Spec PyProof.Rows L2
section
variable {X : Cx} {W : WX} {K : PySem.W.Frag} {mg : Str → Option Value} {F H H1 : Hp} {T L : List (D × V)} {ρ ρ' : Env} {σ σ' σ'' : St} {m : Bool} {asg a1 a2 : List Nat}
end
end VS
set_option Elab.async false
set_option linter.all false
set_option maxRecDepth 100000
set_option maxHeartbeats 4000000
set_option autoImplicit false
noncomputable section
namespace VS
open PySem PySem.Spec PyProof.Rows L2
section
variable {X : Cx} {W : WX} {K : PySem.W.Frag} {mg : Str → Option Value} {F H H1 : Hp} {T L : List (D × V)} {ρ ρ' : Env} {σ σ' σ'' : St} {m : Bool} {asg a1 a2 : List Nat}
end
end VS
set_option Elab.async false
set_option linter.all false
set_option maxRecDepth 100000
set_option maxHeartbeats 4000000
set_option autoImplicit false
noncomputable section
namespace VS
open PySem PySem.Spec PyProof.Rows L2
section
variable {X : Cx} {W : WX} {K : PySem.W.Frag} {H H1 : Hp} {T L : List (D × V)} {ρ ρ' : Env} {σ σ' : St} {m : Bool}
end
end VS
set_option Elab.async false
set_option linter.all false
set_option maxRecDepth 100000
set_option maxHeartbeats 4000000
set_option autoImplicit false
noncomputable section
namespace VS
open PySem PySem.Spec PyProof.Rows L2
structure ItOkM (K : PySem.W.Frag) (J : It) (c : Nat → List (D × V)) (ds : List D) : Prop where
  go : ∀ i H L, i < ds.length → RepT K H (c i ++ L) → J.go i H
  stop : ∀ H L, RepT K H (c ds.length ++ L) → J.stop ds.length H
  yld : ∀ i H L x H' d, RepT K H (c i ++ L) → ds[i]? = some d → J.yld i H x H' → RepT K H' ((d, x) :: (c (i + 1) ++ L))
def okIM (K : PySem.W.Frag) (T : List (D × V)) (σ : St) (R : It → Hp → Prop) (ds : List D) (ρ' : Env) : Prop := ∀ J c H', ItOkM K J c ds → Rep K H' (c 0 ++ T) ρ' σ → R J H'
def tiOfM (K : PySem.W.Frag) (mg : Str → Option Value) (W : WX) (f : M (List D)) : TI := fun σ H R => ∃ T ρ r, Rep K H T ρ σ ∧ f ρ = some r ∧ endR K mg W T σ (okIM K T σ R) r
def VIM (X : Cx) (W : WX) (tg iter : Expr) (f : M (List D)) : Prop := PI X tg iter (tiOfM X.K X.mg W f)
section
variable {X : Cx} {W : WX} {K : PySem.W.Frag} {mg : Str → Option Value} {H H1 : Hp} {T : List (D × V)} {ρ ρ' : Env} {σ σ' σ'' : St} {m : Bool} {asg : List Nat}
def goneM (ds : List D) (i : Nat) : List D := List.replicate i .unk ++ ds.drop i
theorem goneM_len {ds : List D} {i : Nat} (h : i ≤ ds.length) : (goneM ds i).length = ds.length := by
  unfold goneM
  rw [List.length_append, List.length_replicate, List.length_drop]
  omega
theorem upd_self {a : Addr} {o : HO} (h : H a = some o) : upd H a o = H := by
  funext b
  by_cases z : b = a
  · subst z
    rw [upd_same, h]
  · rw [upd_ne z]
theorem RepT.takeItem {ds : List D} {a : Addr} {i : Nat} {d : D} {x : V} {L : List (D × V)} (hd : ds[i]? = some d) (h : RepT K H ((.lst true (goneM ds i), .ref a) :: L)) (hx : ∀ vs, H a = some (.lst vs) → vs[i]? = some x) : RepT K H ((d, x) :: ((.lst true (goneM ds (i + 1)), .ref a) :: L)) := by
  have hi := (List.getElem?_eq_some_iff.mp hd).1
  obtain ⟨b, vs, e, q, l, r⟩ := h.openL
  cases e
  have hv := hx vs q
  have hvl := (List.getElem?_eq_some_iff.mp hv).1
  rw [goneM_len (by omega)] at l
  have ev : vs = vs.take i ++ x :: vs.drop (i + 1) := by
    have := List.take_append_drop i vs
    rw [List.drop_eq_getElem_cons hvl] at this
    rw [(List.getElem?_eq_some_iff.mp hv).2] at this
    exact this.symm
  have ed : goneM ds i = List.replicate i .unk ++ d :: ds.drop (i + 1) := by
    unfold goneM
    rw [List.drop_eq_getElem_cons hi, (List.getElem?_eq_some_iff.mp hd).2]
  have ed2 : goneM ds (i + 1) = List.replicate i .unk ++ .unk :: ds.drop (i + 1) := by
    unfold goneM
    rw [List.replicate_succ', List.append_assoc]
    rfl
  have tl : (List.replicate i D.unk).length = (vs.take i).length := by rw [List.length_replicate, List.length_take]; omega
  have z1 : (goneM ds i).zip vs = (List.replicate i D.unk).zip (vs.take i) ++ (d, x) :: (ds.drop (i + 1)).zip (vs.drop (i + 1)) := by
    rw [ed]
    conv => lhs; rw [ev]
    rw [List.zip_append tl]
    rfl
  have z2 : (goneM ds (i + 1)).zip vs = (List.replicate i D.unk).zip (vs.take i) ++ (D.unk, x) :: (ds.drop (i + 1)).zip (vs.drop (i + 1)) := by
    rw [ed2]
    conv => lhs; rw [ev]
    rw [List.zip_append tl]
    rfl
  rw [z1] at r
  have r1 : RepT K H ((D.unk, x) :: ((.hole, .ref a) :: (((List.replicate i D.unk).zip (vs.take i) ++ (d, x) :: (ds.drop (i + 1)).zip (vs.drop (i + 1))) ++ L))) := RepT.unk r
  have r2 : RepT K H ((.hole, .ref a) :: ((goneM ds (i + 1)).zip vs ++ ((d, x) :: L))) := by
    refine r1.perm ?_
    rw [z2]
    refine (List.Perm.swap _ _ _).trans (.cons _ ?_)
    rw [List.append_assoc, List.append_assoc]
    have p1 : ((D.unk, x) :: ((List.replicate i D.unk).zip (vs.take i) ++ ((d, x) :: (ds.drop (i + 1)).zip (vs.drop (i + 1)) ++ L))).Perm ((List.replicate i D.unk).zip (vs.take i) ++ ((D.unk, x) :: ((d, x) :: (ds.drop (i + 1)).zip (vs.drop (i + 1)) ++ L))) := List.perm_middle.symm
    refine p1.trans (List.Perm.append_left _ ?_)
    show ((D.unk, x) :: ((d, x) :: ((ds.drop (i + 1)).zip (vs.drop (i + 1)) ++ L))).Perm ((D.unk, x) :: ((ds.drop (i + 1)).zip (vs.drop (i + 1)) ++ ((d, x) :: L)))
    exact .cons _ List.perm_middle.symm
  have r3 := RepT.closeL (ds := goneM ds (i + 1)) (vs := vs) (a := a) (by rw [goneM_len (by omega)]; exact l) r2
  rw [upd_self q] at r3
  exact r3.perm (List.Perm.swap _ _ _)
theorem itLM {a : Addr} {ds : List D} : ItOkM K (Itl K a) (fun i => [(.lst true (goneM ds i), .ref a)]) ds := by
  refine ⟨fun i H L hi h => ?_, fun H L h => ?_, fun i H L x H' d h e y => ?_⟩
  · obtain ⟨b, vs, e, sq, l, _⟩ := RepT.openL h
    cases e
    rw [goneM_len (by omega)] at l
    exact ⟨vs, vs[i]'(by omega), .inl (.inl sq), List.getElem?_eq_getElem _⟩
  · obtain ⟨b, vs, e, sq, l, _⟩ := RepT.openL h
    cases e
    rw [goneM_len (by omega)] at l
    exact ⟨vs, .inl (.inl sq), by omega⟩
  · obtain ⟨rfl, hx⟩ := y
    exact RepT.takeItem e h fun vs q => hx vs (.inl (.inl q))
def itMv (d : D) : Option (List D) := match d with
  | .lst true xs => some xs
  | _ => none
def dItM (f : M D) : M (List D) := bindM f fun d => optM (itMv d)
theorem vi_mv {tg l : Expr} {f : M D} (h : VE X W m l f) : VIM X W tg l (dItM f) := by
  refine PI.imp (pi_list h) fun σ H R ⟨T, ρ, u, rep, hf, he⟩ => ?_
  unfold dItM bindM at hf
  cases q : f ρ with
  | none => rw [q] at hf; cases hf
  | some w =>
    rw [q] at hf
    cases w with
    | ex x ρ1 =>
      have : u = .ex x ρ1 := (Option.some.inj hf).symm
      subst this
      exact ⟨T, ρ, _, rep, q, he⟩
    | ok d ρ1 =>
      obtain ⟨ds, e, rfl⟩ := optM_some hf
      have ed : d = .lst true ds := by
        unfold itMv at e
        split at e
        · rw [Option.some.inj e]
        · cases e
      subst ed
      refine ⟨T, ρ, _, rep, q, fun v H1 _ r1 => ?_⟩
      have r2 : RepT X.K H1 ((.lst true ds, v) :: (T ++ SL ρ1 σ)) := r1.rep
      obtain ⟨a, vs, rfl, sq, l, _⟩ := RepT.openL r2
      exact ⟨a, rfl, ⟨vs, .inl (.inl sq)⟩, he _ _ H1 (itLM (ds := ds)) ⟨r1.len, r1.nos, r2⟩⟩
theorem tLcM_of {tt : M Bool} {el : M D} {bt : D → Env → Option Env} {own : List Nat} {src : M (List D)} {mt me : Bool} (hs : ∀ i ∈ asg, i ∈ own) {Q : VK} (h : tOf K mg W true (dLc own src bt tt el) σ H Q) :
    tLc (tiOfM K mg W src) (tgOf K asg bt) (ttOf K mg WF mt tt) (tOf K mg WF me el) own σ H Q := by
  obtain ⟨T, ρ, u, rep, hf, he⟩ := h
  unfold dLc bindM at hf
  cases q : src ρ with
  | none => rw [q] at hf; cases hf
  | some w =>
    rw [q] at hf
    refine ⟨T, ρ, w, rep, q, ?_⟩
    cases w with
    | ex x ρ1 =>
      have : u = .ex x ρ1 := (Option.some.inj hf).symm
      subst this
      exact he
    | ok ds ρ0 =>
      intro J c H0 it rep0 p hp
      simp only at hf
      cases ql : lcD own bt tt el ds [] (wipeD ρ0 own) with
      | none => rw [ql] at hf; cases hf
      | some pr =>
        obtain ⟨accF, ρF⟩ := pr
        rw [ql] at hf
        have : u = .ok (.lst true accF) (wipeD ρF own) := (Option.some.inj hf).symm
        subst this
        refine ⟨fun i n Hi => n = ds.length - i ∧ i ≤ ds.length ∧ ∃ acc ρi, Rep K Hi ((.lst true acc, .ref p) :: (c i ++ T)) ρi (wipe σ own) ∧ lcD own bt tt el (ds.drop i) acc ρi = some (accF, ρF), ⟨ds.length, by simp, Nat.zero_le _, [], wipeD ρ0 own, ?_, ql⟩, ?_⟩
        · have r0 := rep0.wiped (own := own)
          exact r0.lift fun q => RepT.newL (ds := []) (vs := []) rfl hp q
        rintro i n Hi ⟨rfl, hi, acc, ρi, ri, fi⟩
        have ri' : RepT K Hi (c i ++ ((.lst true acc, .ref p) :: (T ++ SL ρi (wipe σ own)))) := by
          have r := ri.rep
          refine r.perm ?_
          have e : ((D.lst true acc, V.ref p) :: (c i ++ T)) ++ SL ρi (wipe σ own) = (D.lst true acc, V.ref p) :: (c i ++ (T ++ SL ρi (wipe σ own))) := by simp
          rw [e]
          exact List.perm_middle.symm
        by_cases hlt : i < ds.length
        · rw [List.drop_eq_getElem_cons hlt] at fi
          unfold lcD at fi
          cases qb : bt ds[i] ρi with
          | none => rw [qb] at fi; cases fi
          | some ρ1 =>
            simp only [qb] at fi
            refine .inr ⟨it.go i Hi _ hlt ri', fun H' => ∃ acc ρn, Rep K H' ((.lst true acc, .ref p) :: (c (i + 1) ++ T)) ρn (wipe σ own) ∧ lcD own bt tt el (ds.drop (i + 1)) acc ρn = some (accF, ρF), fun H' ⟨a', ρn, rn, fn⟩ => ⟨ds.length - (i + 1), by omega, rfl, hlt, a', ρn, rn, fn⟩, fun x H' y => ?_⟩
            have ry := it.yld i Hi _ x H' ds[i] ri' (List.getElem?_eq_getElem hlt) y
            have ry' : Rep K H' ((ds[i], x) :: ((.lst true acc, .ref p) :: (c (i + 1) ++ T))) ρi (wipe σ own) := ⟨ri.len, ri.nos, by
              have e : ((ds[i], x) :: ((D.lst true acc, V.ref p) :: (c (i + 1) ++ T))) ++ SL ρi (wipe σ own) = (ds[i], x) :: (D.lst true acc, V.ref p) :: (c (i + 1) ++ (T ++ SL ρi (wipe σ own))) := by simp
              rw [e]
              exact ry.perm (List.perm_middle.cons _)⟩
            refine ⟨_, ρi, ds[i], ρ1, ry', qb, fun σ1 H1 k1 r1 => ?_⟩
            have ew := k1.wiped hs
            have el1 : (wipe σ own).length = σ1.length := k1.1.symm
            refine ⟨ew, ?_⟩
            cases qt : tt ρ1 with
            | none => rw [qt] at fi; cases fi
            | some w =>
              cases w with
              | ex x ρ2 => rw [qt] at fi; cases fi
              | ok b ρ2 =>
                simp only [qt] at fi
                refine ⟨_, ρ1, _, r1, qt, fun H2 _ r2 => ?_⟩
                cases b with
                | false =>
                  rw [if_neg (by simp)] at fi ⊢
                  exact ⟨acc, _, r2.unwiped (σ := wipe σ own) el1 (ew.trans wipe_wipe.symm), fi⟩
                | true =>
                  rw [if_pos rfl] at fi ⊢
                  cases qe : el ρ2 with
                  | none => rw [qe] at fi; cases fi
                  | some w =>
                    cases w with
                    | ex x ρ3 => rw [qe] at fi; cases fi
                    | ok y ρ3 =>
                      simp only [qe] at fi
                      refine ⟨_, ρ2, _, r2, qe, fun v H3 _ r3 => ?_⟩
                      by_cases z : acc.length < sizeLine
                      · rw [if_pos z] at fi
                        obtain ⟨vs, hv, lv, rp⟩ := RepT.push r3.rep
                        refine ⟨vs, hv, by rw [← lv]; exact z, acc ++ [y], _, ?_, fi⟩
                        have r4 : Rep K (upd H3 p (.lst (vs ++ [v]))) ((.lst true (acc ++ [y]), .ref p) :: (c (i + 1) ++ T)) ρ3 σ1 := ⟨r3.len, r3.nos, rp⟩
                        exact r4.unwiped (σ := wipe σ own) el1 (ew.trans wipe_wipe.symm)
                      · rw [if_neg z] at fi; cases fi
        · have e : i = ds.length := by omega
          subst e
          rw [List.drop_length] at fi
          have : (acc, ρi) = (accF, ρF) := Option.some.inj fi
          injection this with e1 e2
          subst e1
          subst e2
          refine .inl ⟨it.stop Hi _ ri', he _ Hi (fun e => by cases e) ?_⟩
          have r5 : Rep K Hi ((.lst true acc, .ref p) :: T) ρi (wipe σ own) := Rep.dropL (U := c ds.length) (ri.perm List.perm_middle.symm)
          exact r5.unwiped (by rw [wipe_length]) wipe_wipe
section
variable {elt tg iter : Expr} {ifs : List Expr} {scope : Scope} {own : List (Str × Nat)} {pos spos : Pos} {src : M (List D)} {bt : D → Env → Option Env} {tt : M Bool} {el : M D} {mt me : Bool}
theorem ve_lcM (hc : X.calm = true) (hN : X.N.Nodup) (hi : VIM X W tg iter src) (ok : BlkOk X.N X.env.scope scope own)
    (hg : ∀ (s : Shared) (H : Hp) (C : Addr) (cl : List (Str × Addr)) (fp : List Addr), VG (X.blk s H scope (compEnvC scope cl C X.env) fp) asg tg bt)
    (ht : ∀ (s : Shared) (H : Hp) (C : Addr) (cl : List (Str × Addr)) (fp : List Addr), VTs (X.blk s H scope (compEnvC scope cl C X.env) fp) WF mt ifs tt)
    (he : ∀ (s : Shared) (H : Hp) (C : Addr) (cl : List (Str × Addr)) (fp : List Addr), VE (X.blk s H scope (compEnvC scope cl C X.env) fp) WF me elt el)
    (hsub : ∀ i ∈ asg, i ∈ own.map (·.2) := by decide) (hs : ∀ x, foldedSetIterable iter X.env x = pure x := by intro _; rfl) : VE X W true (.ListComp elt [⟨tg, iter, ifs, 0⟩] scope pos) (dLc (own.map (·.2)) src bt tt el) :=
  PE.imp (pe_lc (g := tgOf X.K asg bt) (tt := ttOf X.K X.mg WF mt tt) (te := tOf X.K X.mg WF me el) hc hN hi ok hg ht he hs) fun _ _ _ h => tLcM_of hsub h
theorem vs_setLcM {i : Nat} {y : Str} {py : Pos} (hc : X.calm = true) (hN : X.N.Nodup) (hy : X.N[i]? = some y) (hyl : X.env.scope.names.lookup y = some .local)
    (hsw : swapsWith (.ListComp elt [⟨tg, iter, ifs, 0⟩] scope pos) (some (.Name y py)) spos.line X.env = pure true) (hi : VIM X W tg iter src) (ok : BlkOk X.N X.env.scope scope own)
    (hg : ∀ (s : Shared) (H : Hp) (C : Addr) (cl : List (Str × Addr)) (fp : List Addr), VG (X.blk s H scope (compEnvC scope cl C X.env) fp) asg tg bt)
    (ht : ∀ (s : Shared) (H : Hp) (C : Addr) (cl : List (Str × Addr)) (fp : List Addr), VTs (X.blk s H scope (compEnvC scope cl C X.env) fp) WF mt ifs tt)
    (he : ∀ (s : Shared) (H : Hp) (C : Addr) (cl : List (Str × Addr)) (fp : List Addr), VE (X.blk s H scope (compEnvC scope cl C X.env) fp) WF me elt el)
    (hsub : ∀ i ∈ asg, i ∈ own.map (·.2) := by decide) (hs : ∀ x, foldedSetIterable iter X.env x = pure x := by intro _; rfl) : VSt X W [i] (.Assign [.Name y py] (.ListComp elt [⟨tg, iter, ifs, 0⟩] scope pos) spos) (dSet i (dLc (own.map (·.2)) src bt tt el)) := by
  refine vs_setP (m := true) (PS.imp (ps_setLc (g := tgOf X.K asg bt) (tt := ttOf X.K X.mg WF mt tt) (te := tOf X.K X.mg WF me el) hc hN hy hyl hsw hi ok hg ht he hs) fun σ H E h => ?_)
  exact tLcM_of hsub h
end
end
mutual
def poOf : D → Option PyData
  | .int i => some (.int i)
  | .tup ds => (posOf ds).map .tuple
  | .lst true ds => (posOf ds).map .list
  | _ => none
def posOf : List D → Option (List PyData)
  | [] => some []
  | d :: ds => match poOf d, posOf ds with
    | some x, some xs => some (x :: xs)
    | _, _ => none
end
mutual
def poB : PyData → D
  | .int i => .int i
  | .tuple ps => .tup (poBs ps)
  | .list ps => .lst true (poBs ps)
  | _ => .unk
def poBs : List PyData → List D
  | [] => []
  | p :: ps => poB p :: poBs ps
end
mutual
theorem po_dat : ∀ (d : D) (p : PyData), poOf d = some p → dat d = some p ∧ poB p = d
  | .int i, p, h => by rw [poOf] at h; cases h; exact ⟨by rw [dat], by rw [poB]⟩
  | .tup ds, p, h => by
    rw [poOf] at h
    obtain ⟨ps, e, rfl⟩ := Option.map_eq_some_iff.mp h
    obtain ⟨h1, h2⟩ := pos_dat ds ps e
    exact ⟨by rw [dat, h1]; rfl, by rw [poB, h2]⟩
  | .lst true ds, p, h => by
    rw [poOf] at h
    obtain ⟨ps, e, rfl⟩ := Option.map_eq_some_iff.mp h
    obtain ⟨h1, h2⟩ := pos_dat ds ps e
    exact ⟨by rw [dat, h1]; rfl, by rw [poB, h2]⟩
  | .lst false _, _, h => by simp [poOf] at h
  | .unk, _, h => by simp [poOf] at h
  | .hole, _, h => by simp [poOf] at h
  | .non, _, h => by simp [poOf] at h
  | .bl _, _, h => by simp [poOf] at h
  | .str _, _, h => by simp [poOf] at h
  | .dT _ _ _, _, h => by simp [poOf] at h
  | .dK _ _ _, _, h => by simp [poOf] at h
  | .lK _ _, _, h => by simp [poOf] at h
  | .scr _, _, h => by simp [poOf] at h
  | .ktp _, _, h => by simp [poOf] at h
  | .adr _, _, h => by simp [poOf] at h
  | .exo _ _, _, h => by simp [poOf] at h
  | .lT _ _, _, h => by simp [poOf] at h
  | .lck _, _, h => by simp [poOf] at h
  | .ob _ _ _, _, h => by simp [poOf] at h
theorem pos_dat : ∀ (ds : List D) (ps : List PyData), posOf ds = some ps → dats ds = some ps ∧ poBs ps = ds
  | [], ps, h => by rw [posOf] at h; cases h; exact ⟨by rw [dats], by rw [poBs]⟩
  | d :: ds, ps, h => by
    rw [posOf] at h
    cases e1 : poOf d with
    | none => rw [e1] at h; cases h
    | some x =>
      cases e2 : posOf ds with
      | none => rw [e1, e2] at h; cases h
      | some xs =>
        rw [e1, e2] at h
        cases h
        obtain ⟨a1, a2⟩ := po_dat d x e1
        obtain ⟨b1, b2⟩ := pos_dat ds xs e2
        exact ⟨by rw [dats, a1, b1], by rw [poBs, a2, b2]⟩
end
theorem poBs_get : ∀ {ps : List PyData} {i : Nat} {p : PyData}, ps[i]? = some p → (poBs ps)[i]? = some (poB p)
  | [], _, _, h => by simp at h
  | q :: ps, 0, p, h => by
    have : q = p := by simpa using h
    rw [poBs, this]
    rfl
  | q :: ps, i + 1, p, h => by
    rw [poBs]
    exact poBs_get (ps := ps) (i := i) (by simpa using h)
def gMinO (ds : List D) : Option D := match ds with
  | [.lst _ xs] => match posOf xs with
    | some (e :: es) => if (alikeB (e :: es) && decide (PyData.depthAll (e :: es) ≤ 60) && (e :: es).all fun p => match p with | .none => false | _ => true) = true then some (poB (PySem.W.minD e es)) else none
    | _ => none
  | _ => none
theorem impMinO {K : PySem.W.Frag} : ImpA K (rMinD K) gMinO := by
  intro H L ds vs d Q e l r h
  unfold gMinO at e
  split at e
  · rename_i o xs
    split at e
    · rename_i p ps e2
      split at e
      · rename_i z
        have e := Option.some.inj e
        rw [Bool.and_eq_true, Bool.and_eq_true, List.all_eq_true] at z
        obtain ⟨⟨z1, z2⟩, z3⟩ := z
        obtain ⟨v, rfl⟩ := len1 l
        have r1 : RepT K H ((.lst o xs, v) :: L) := r
        obtain ⟨a, ws, rfl, q, l2, r2⟩ := r1.readL
        obtain ⟨d1, d2⟩ := pos_dat _ _ e2
        refine ⟨a, ws, p, ps, rfl, .inl (.inl q), r2.dpAll l2 d1, ⟨fun x hx y hy => alikeB_ok z1 x hx y hy, fun x hx n => ?_⟩, of_decide_eq_true z2, fun i w hw hi => ?_⟩
        · have := z3 x hx
          rw [n] at this
          cases this
        · have hx : xs[i]? = some d := by
            rw [← d2, ← e]
            exact poBs_get hi
          exact h _ H (Same.refl _) (r2.pick (zip_take hx hw))
      · cases e
    · cases e
  · cases e
end VS
set_option Elab.async false
set_option linter.all false
set_option maxRecDepth 100000
set_option maxHeartbeats 4000000
noncomputable section
namespace G
open PySem PySem.Spec PyProof.Rows L2 VS
def topS (i : Nat) : Stmt := PySem.Challenge.pw_lonetrack_k40_least_webs_told.main.body.getD i (.Pass ⟨0, 0, 0, 0⟩)
structure Tops (mg : Str → Option Value) : Prop where
  MOST_PLACES : ∃ t, mg "MOST_PLACES" = some (.int (6) t)
  ValueError : mg "ValueError" = none
  abs : mg "abs" = none
  all : mg "all" = none
  bool : mg "bool" = none
  enumerate : mg "enumerate" = none
  int : mg "int" = none
  isinstance : mg "isinstance" = none
  len : mg "len" = none
  list : mg "list" = none
  max : mg "max" = none
  min : mg "min" = none
  range : mg "range" = none
  sorted : mg "sorted" = none
  sum : mg "sum" = none
  tuple : mg "tuple" = none
  zip : mg "zip" = none
def isT : Tab := ("NoPlace", "Apart", false) :: ("NoPlace", "BadLengths", false) :: ("NoPlace", "BadWeb", false) :: ("NoPlace", "NoChoice", false) :: ("NoPlace", "NoPlace", true) :: ("NoPlace", "NoRow", false) :: ("NoPlace", "NoSide", false) :: ("NoPlace", "NoText", false) :: ("NoPlace", "NoTie", false) :: ("NoPlace", "NoWay", false) :: ("NoPlace", "NotLone", false) :: ("NoPlace", "NotPlain", false) :: ("NoPlace", "NothingDone", false) :: ("NoPlace", "Tied", false) :: ("NoPlace", "TooMany", false) :: ("NoPlace", "ValueError", true) :: ("NotPlain", "Apart", false) :: ("NotPlain", "BadLengths", false) :: ("NotPlain", "BadWeb", false) :: ("NotPlain", "NoChoice", false) :: ("NotPlain", "NoPlace", false) :: ("NotPlain", "NoRow", false) :: ("NotPlain", "NoSide", false) :: ("NotPlain", "NoText", false) :: ("NotPlain", "NoTie", false) :: ("NotPlain", "NoWay", false) :: ("NotPlain", "NotLone", false) :: ("NotPlain", "NotPlain", true) :: ("NotPlain", "NothingDone", false) :: ("NotPlain", "Tied", false) :: ("NotPlain", "TooMany", false) :: ("NotPlain", "ValueError", true) :: ("TooMany", "Apart", false) :: ("TooMany", "BadLengths", false) :: ("TooMany", "BadWeb", false) :: ("TooMany", "NoChoice", false) :: ("TooMany", "NoPlace", false) :: ("TooMany", "NoRow", false) :: ("TooMany", "NoSide", false) :: ("TooMany", "NoText", false) :: ("TooMany", "NoTie", false) :: ("TooMany", "NoWay", false) :: ("TooMany", "NotLone", false) :: ("TooMany", "NotPlain", false) :: ("TooMany", "NothingDone", false) :: ("TooMany", "Tied", false) :: ("TooMany", "TooMany", true) :: ("TooMany", "ValueError", true) :: []
def yes_LoneError : List Str := ["NoPlace", "NotPlain", "TooMany"]
def no_LoneError : List Str := []
structure Xs (K : PySem.W.Frag) (mg : Str → Option Value) : Prop where
  c_Apart : ∃ C, mg "Apart" = some (.ref C)
  c_BadLengths : ∃ C, mg "BadLengths" = some (.ref C)
  c_BadWeb : ∃ C, mg "BadWeb" = some (.ref C)
  c_LoneError : ∃ C, mg "LoneError" = some (.ref C)
  c_NoChoice : ∃ C, mg "NoChoice" = some (.ref C)
  c_NoPlace : ∃ C, mg "NoPlace" = some (.ref C)
  c_NoRow : ∃ C, mg "NoRow" = some (.ref C)
  c_NoSide : ∃ C, mg "NoSide" = some (.ref C)
  c_NoText : ∃ C, mg "NoText" = some (.ref C)
  c_NoTie : ∃ C, mg "NoTie" = some (.ref C)
  c_NoWay : ∃ C, mg "NoWay" = some (.ref C)
  c_NotLone : ∃ C, mg "NotLone" = some (.ref C)
  c_NotPlain : ∃ C, mg "NotPlain" = some (.ref C)
  c_NothingDone : ∃ C, mg "NothingDone" = some (.ref C)
  c_Tied : ∃ C, mg "Tied" = some (.ref C)
  c_TooMany : ∃ C, mg "TooMany" = some (.ref C)
  x_NoPlace : ExcF K mg "NoPlace"
  x_NotPlain : ExcF K mg "NotPlain"
  x_TooMany : ExcF K mg "TooMany"
  tab : TabOk K mg isT
  yes_LoneError : ∀ c ∈ yes_LoneError, ∀ C, mg c = some (.ref C) → ExcC K C ∧ PySem.W.exmOne K (.ref C) (.ref c_LoneError.choose) = some true
  no_LoneError : ∀ c ∈ no_LoneError, ∀ C, mg c = some (.ref C) → PySem.W.exmOne K (.ref C) (.ref c_LoneError.choose) = some false
def exAll : List Str := ["NoPlace", "NotPlain", "TooMany"]
theorem Xs.all {K : PySem.W.Frag} {mg : Str → Option Value} (U : Xs K mg) : ∀ c ∈ exAll, ExcF K mg c := by
  intro c hc
  simp only [exAll, List.mem_cons, List.not_mem_nil, or_false] at hc
  rcases hc with rfl | rfl | rfl
  · exact U.x_NoPlace
  · exact U.x_NotPlain
  · exact U.x_TooMany
theorem sub_LoneError : ∀ c ∈ yes_LoneError, c ∈ exAll := by decide +kernel
abbrev s_look_at_place : Stmt := topS 18
abbrev N_look_at_place : List Str := ["web", "place"]
abbrev p_look_at_place : List Str := ["web", "place"]
theorem sc_look_at_place : FnScope N_look_at_place p_look_at_place (defScope s_look_at_place) := ⟨rfl, rfl, rfl, by decide +kernel, rfl, by decide +kernel, by decide +kernel⟩
abbrev a_look_at_place : List Nat := ([] ++ [])
def body_look_at_place : MS :=
    (dIfS (dNotT (dTB (dChain (gCmp cLe) (gCmp cLt) (dC (.int 0)) (dV 1) (dAt 0 (dC (.int 0))))))
    (dRaise "NoPlace") dSkip)
def F_look_at_place : FnD := fnD 2 2 a_look_at_place body_look_at_place
theorem cal_look_at_place {P : Program} {w : World} {K : PySem.W.Frag} {mg : Str → Option Value} {base : Heap} (T : Tops mg) (U : Xs K mg) (D : Def K mg "look_at_place" s_look_at_place p_look_at_place)  : Cal P w K mg base 1 "look_at_place" p_look_at_place F_look_at_place :=
  cal_mk (k := 0) D sc_look_at_place fun f cdv A outer s H E hr =>
    (vss_one (vs_if (vt_not (vt_chain op_leC op_ltC ve_int (ve_var (pv 1)) (ve_at (hu_of hr) (pv 0) ve_int))) (vss_one (vs_raise rfl (L2N.takes_of rfl rfl rfl rfl) U.x_NoPlace (by rfl))) vss_nil))
abbrev s_neighbours_of : Stmt := topS 19
abbrev N_neighbours_of : List Str := ["web", "place", "found", "one", "other", "length"]
abbrev p_neighbours_of : List Str := ["web", "place"]
theorem sc_neighbours_of : FnScope N_neighbours_of p_neighbours_of (defScope s_neighbours_of) := ⟨rfl, rfl, rfl, by decide +kernel, rfl, by decide +kernel, by decide +kernel⟩
abbrev a_neighbours_of : List Nat := ([] ++ ([2] ++ ([] ++ [])))
def body_neighbours_of : MS :=
    (dSeq (dDrop (dFn [none, none] F_look_at_place (dCons (dV 0) (dCons (dV 1) dNil))))
    (dSeq (dSet 2 (dLc [3, 4, 5] (dItems (dAt 0 (dC (.int 1)))) (gTp [3, 4, 5]) (dTB (d2 gEq (dV 3) (dV 1))) (dV 4)))
    (dSeq (dDrop (dMt 2 gExt (dCons (dLc [3, 4, 5] (dItems (dAt 0 (dC (.int 1)))) (gTp [3, 4, 5]) (dTB (d2 gEq (dV 4) (dV 1))) (dV 3)) dNil)))
    (dRet (dCall gSorted (dCons (dF 2) dNil))))))
def F_neighbours_of : FnD := fnD 6 2 a_neighbours_of body_neighbours_of
theorem cal_neighbours_of {P : Program} {w : World} {K : PySem.W.Frag} {mg : Str → Option Value} {base : Heap} (T : Tops mg) (U : Xs K mg) (D : Def K mg "neighbours_of" s_neighbours_of p_neighbours_of) (c_look_at_place : Cal P w K mg base 1 "look_at_place" p_look_at_place F_look_at_place) : Cal P w K mg base 2 "neighbours_of" p_neighbours_of F_neighbours_of :=
  cal_mk (k := 1) D sc_neighbours_of fun f cdv A outer s H E hr =>
    (vss_cons (vs_expr (ve_fn (c_look_at_place.mono (by decide)) hr (by rfl) (L2N.takes_of rfl rfl rfl rfl) (vio_cons (ve_var (pv 0)) (vio_cons (ve_var (pv 1)) vio_nil))))
    (vss_cons (vs_setLc (i := 2) (own := [("one", 3), ("other", 4), ("length", 5)]) rfl sc_neighbours_of.nd rfl rfl (sw_true rfl rfl rfl (by decide +kernel)) (vi_seq (ve_at (hu_of hr) (pv 0) ve_int)) (blkOk_by (own := [("one", 3), ("other", 4), ("length", 5)]) (N := N_neighbours_of) (sc := defScope s_neighbours_of) (by decide +kernel)) (fun _ _ _ _ _ => (vg_tup rfl (vgs_cons (pg_name (i := 3) sc_neighbours_of.nd rfl (by first | exact .inl rfl | exact .inr rfl)) (vgs_cons (pg_name (i := 4) sc_neighbours_of.nd rfl (by first | exact .inl rfl | exact .inr rfl)) (vgs_cons (pg_name (i := 5) sc_neighbours_of.nd rfl (by first | exact .inl rfl | exact .inr rfl)) vgs_nil))))) (fun _ _ _ _ _ => (vts_one (vt_cmp (op_eqD hr.units) impEq (ve_var (pv 3)) (ve_var (pv 1)) (nomark _)))) (fun _ _ _ _ _ => (ve_var (pv 4))))
    (vss_cons (vs_expr (ve_mt (name := "extend") PySem.F.slot_list_extend PySem.F.type_list_extend mt_extend impExt (pv 2) (va_cons (ve_lc (own := [("one", 3), ("other", 4), ("length", 5)]) rfl sc_neighbours_of.nd (vi_seq (ve_at (hu_of hr) (pv 0) ve_int)) (blkOk_by (own := [("one", 3), ("other", 4), ("length", 5)]) (N := N_neighbours_of) (sc := defScope s_neighbours_of) (by decide +kernel)) (fun _ _ _ _ _ => (vg_tup rfl (vgs_cons (pg_name (i := 3) sc_neighbours_of.nd rfl (by first | exact .inl rfl | exact .inr rfl)) (vgs_cons (pg_name (i := 4) sc_neighbours_of.nd rfl (by first | exact .inl rfl | exact .inr rfl)) (vgs_cons (pg_name (i := 5) sc_neighbours_of.nd rfl (by first | exact .inl rfl | exact .inr rfl)) vgs_nil))))) (fun _ _ _ _ _ => (vts_one (vt_cmp (op_eqD hr.units) impEq (ve_var (pv 4)) (ve_var (pv 1)) (nomark _)))) (fun _ _ _ _ _ => (ve_var (pv 3)))) va_nil)))
    (vss_one (vs_ret (ve_callB (cr_sorted2 rfl hr.units) impSorted (by rfl) T.sorted b_sorted (va_cons (ve_frz (pv 2)) va_nil)))))))
abbrev s_is_plain : Stmt := topS 20
abbrev N_is_plain : List Str := ["web", "one", "other", "length"]
abbrev p_is_plain : List Str := ["web"]
theorem sc_is_plain : FnScope N_is_plain p_is_plain (defScope s_is_plain) := ⟨rfl, rfl, rfl, by decide +kernel, rfl, by decide +kernel, by decide +kernel⟩
abbrev a_is_plain : List Nat := []
def body_is_plain : MS :=
    (dRet (dCallS [none] gAll (dCons (dLc [1, 2, 3] (dItems (dAt 0 (dC (.int 1)))) (gTp [1, 2, 3]) dYes (d2 gEq (dV 3) (dC (.int 1)))) dNil)))
def F_is_plain : FnD := fnD 4 1 a_is_plain body_is_plain
theorem cal_is_plain {P : Program} {w : World} {K : PySem.W.Frag} {mg : Str → Option Value} {base : Heap} (T : Tops mg) (U : Xs K mg) (D : Def K mg "is_plain" s_is_plain p_is_plain)  : Cal P w K mg base 1 "is_plain" p_is_plain F_is_plain :=
  cal_mk (k := 0) D sc_is_plain fun f cdv A outer s H E hr =>
    (vss_one (vs_ret (ve_callS (cr_all rfl) sAll (by rfl) T.all b_all (vio_cons (ve_lc (own := [("one", 1), ("other", 2), ("length", 3)]) rfl sc_is_plain.nd (vi_seq (ve_at (hu_of hr) (pv 0) ve_int)) (blkOk_by (own := [("one", 1), ("other", 2), ("length", 3)]) (N := N_is_plain) (sc := defScope s_is_plain) (by decide +kernel)) (fun _ _ _ _ _ => (vg_tup rfl (vgs_cons (pg_name (i := 1) sc_is_plain.nd rfl (by first | exact .inl rfl | exact .inr rfl)) (vgs_cons (pg_name (i := 2) sc_is_plain.nd rfl (by first | exact .inl rfl | exact .inr rfl)) (vgs_cons (pg_name (i := 3) sc_is_plain.nd rfl (by first | exact .inl rfl | exact .inr rfl)) vgs_nil))))) (fun _ _ _ _ _ => vts_nil) (fun _ _ _ _ _ => (ve_cmp (op_eqD hr.units) impEq (ve_var (pv 3)) ve_int (nomark _)))) vio_nil))))
abbrev s_renamed_web : Stmt := topS 23
abbrev N_renamed_web : List Str := ["web", "order", "found", "a", "b", "length"]
abbrev p_renamed_web : List Str := ["web", "order"]
theorem sc_renamed_web : FnScope N_renamed_web p_renamed_web (defScope s_renamed_web) := ⟨rfl, rfl, rfl, by decide +kernel, rfl, by decide +kernel, by decide +kernel⟩
abbrev a_renamed_web : List Nat := ([2] ++ [])
def body_renamed_web : MS :=
    (dSeq (dSet 2 (dLc [3, 4, 5] (dItems (dAt 0 (dC (.int 1)))) (gTp [3, 4, 5]) dYes (dTup (dCons (dCallS [none, none] gMin (dCons (dAt 1 (dV 3)) (dCons (dAt 1 (dV 4)) dNil))) (dCons (dCallS [none, none] gMax (dCons (dAt 1 (dV 3)) (dCons (dAt 1 (dV 4)) dNil))) (dCons (dV 5) dNil))))))
    (dRet (dTup (dCons (dAt 0 (dC (.int 0))) (dCons (dCall gTuple (dCons (dCall gSorted (dCons (dF 2) dNil)) dNil)) dNil)))))
def F_renamed_web : FnD := fnD 6 2 a_renamed_web body_renamed_web
theorem cal_renamed_web {P : Program} {w : World} {K : PySem.W.Frag} {mg : Str → Option Value} {base : Heap} (T : Tops mg) (U : Xs K mg) (D : Def K mg "renamed_web" s_renamed_web p_renamed_web)  : Cal P w K mg base 1 "renamed_web" p_renamed_web F_renamed_web :=
  cal_mk (k := 0) D sc_renamed_web fun f cdv A outer s H E hr =>
    (vss_cons (vs_setLc (i := 2) (own := [("a", 3), ("b", 4), ("length", 5)]) rfl sc_renamed_web.nd rfl rfl (sw_true rfl rfl rfl (by decide +kernel)) (vi_seq (ve_at (hu_of hr) (pv 0) ve_int)) (blkOk_by (own := [("a", 3), ("b", 4), ("length", 5)]) (N := N_renamed_web) (sc := defScope s_renamed_web) (by decide +kernel)) (fun _ _ _ _ _ => (vg_tup rfl (vgs_cons (pg_name (i := 3) sc_renamed_web.nd rfl (by first | exact .inl rfl | exact .inr rfl)) (vgs_cons (pg_name (i := 4) sc_renamed_web.nd rfl (by first | exact .inl rfl | exact .inr rfl)) (vgs_cons (pg_name (i := 5) sc_renamed_web.nd rfl (by first | exact .inl rfl | exact .inr rfl)) vgs_nil))))) (fun _ _ _ _ _ => vts_nil) (fun _ _ _ _ _ => (ve_tup (va_cons (ve_callS (cr_minA rfl hr.units) sMin (by rfl) T.min b_min (vio_cons (ve_at (hu_of hr) (pv 1) (ve_var (pv 3))) (vio_cons (ve_at (hu_of hr) (pv 1) (ve_var (pv 4))) vio_nil))) (va_cons (ve_callS (cr_maxA rfl hr.units) sMax (by rfl) T.max b_max (vio_cons (ve_at (hu_of hr) (pv 1) (ve_var (pv 3))) (vio_cons (ve_at (hu_of hr) (pv 1) (ve_var (pv 4))) vio_nil))) (va_cons (ve_var (pv 5)) va_nil))))))
    (vss_one (vs_ret (ve_tup (va_cons (ve_at (hu_of hr) (pv 0) ve_int) (va_cons (ve_callTy call_tuple_of impTuple (by rfl) T.tuple b_tuple (va_cons (ve_callB (cr_sorted2 rfl hr.units) impSorted (by rfl) T.sorted b_sorted (va_cons (ve_frz (pv 2)) va_nil)) va_nil)) va_nil))))))
abbrev s_all_rows : Stmt := topS 24
abbrev N_all_rows : List Str := ["things", "found", "thing", "others", "one", "behind"]
abbrev p_all_rows : List Str := ["things"]
theorem sc_all_rows : FnScope N_all_rows p_all_rows (defScope s_all_rows) := ⟨rfl, rfl, rfl, by decide +kernel, rfl, by decide +kernel, by decide +kernel⟩
abbrev a_all_rows : List Nat := (([] ++ []) ++ ([1] ++ (([2] ++ ([3] ++ [])) ++ [])))
def body_all_rows (R : FnD) : MS :=
    (dSeq (dIfS (dTB (d2 gEq (dCallS [none] gLen (dCons (dV 0) dNil)) (dC (.int 0))))
    (dRet (dLst (dCons (dLst dNil) dNil))) dSkip)
    (dSeq (dSet 1 (dLst dNil))
    (dSeq (dFor (dItems (dV 0)) (gNm 2)
    (dSeq (dSet 3 (dLc [4] (dItems (dV 0)) (gNm 4) (dTB (d2 gNe (dV 4) (dV 2))) (dV 4)))
    (dDrop (dMt 1 gExt (dCons (dLc [5] (dItems (dFn [none] R (dCons (dF 3) dNil))) (gNm 5) dYes (d2 gAdd (dLst (dCons (dV 2) dNil)) (dV 5))) dNil)))))
    (dRet (dM 1)))))
def F_all_rows : Nat → FnD
  | 0 => fun _ => none
  | n + 1 => fnD 6 1 a_all_rows (body_all_rows (F_all_rows n))
theorem cal_all_rows {P : Program} {w : World} {K : PySem.W.Frag} {mg : Str → Option Value} {base : Heap} (T : Tops mg) (U : Xs K mg) (D : Def K mg "all_rows" s_all_rows p_all_rows)  : ∀ n, Cal P w K mg base (n + 0) "all_rows" p_all_rows (F_all_rows n)
  | 0 => cal_none D
  | n + 1 => by
    have c_self := cal_all_rows (P := P) (w := w) (base := base) T U D  n
    have e : n + 1 + 0 = (n + 0) + 1 := by omega
    rw [e]
    exact cal_mk (k := n + 0) D sc_all_rows fun f cdv A outer s H E hr =>
    (vss_cons (vs_if (vt_cmp (op_eqD hr.units) impEq (ve_callS call_lenA sLen (by rfl) T.len b_len (vio_cons (ve_var (pv 0)) vio_nil)) ve_int (nomark _)) (vss_one (vs_ret (ve_lst (va_cons (ve_lst va_nil) va_nil)))) vss_nil)
    (vss_cons (vs_set (i := 1) sc_all_rows.nd rfl (by first | exact .inl rfl | exact .inr rfl) (ve_lst va_nil))
    (vss_cons (vs_for (passes_of rfl) rfl (vi_seq (ve_var (pv 0))) (vg_name (pg_name (i := 2) sc_all_rows.nd rfl (by first | exact .inl rfl | exact .inr rfl)))
    (vss_cons (vs_setLc (i := 3) (own := [("one", 4)]) rfl sc_all_rows.nd rfl rfl (sw_true rfl rfl rfl (by decide +kernel)) (vi_seq (ve_var (pv 0))) (blkOk_by (own := [("one", 4)]) (N := N_all_rows) (sc := defScope s_all_rows) (by decide +kernel)) (fun _ _ _ _ _ => (vg_name (pg_name (i := 4) sc_all_rows.nd rfl (by first | exact .inl rfl | exact .inr rfl)))) (fun _ _ _ _ _ => (vts_one (vt_cmp (op_neD hr.units) impNe (ve_var (pv 4)) (ve_var (pv 2)) (nomark _)))) (fun _ _ _ _ _ => (ve_var (pv 4))))
    (vss_one (vs_expr (ve_mt (name := "extend") PySem.F.slot_list_extend PySem.F.type_list_extend mt_extend impExt (pv 1) (va_cons (ve_lc (own := [("behind", 5)]) rfl sc_all_rows.nd (vi_seq (ve_fn c_self hr (by rfl) (L2N.takes_of rfl rfl rfl rfl) (vio_cons (ve_frz (pv 3)) vio_nil))) (blkOk_by (own := [("behind", 5)]) (N := N_all_rows) (sc := defScope s_all_rows) (by decide +kernel)) (fun _ _ _ _ _ => (vg_name (pg_name (i := 5) sc_all_rows.nd rfl (by first | exact .inl rfl | exact .inr rfl)))) (fun _ _ _ _ _ => vts_nil) (fun _ _ _ _ _ => (ve_op op_add3 impAdd (ve_lst (va_cons (ve_var (pv 2)) va_nil)) (ve_var (pv 5))))) va_nil))))))
    (vss_one (vs_ret (ve_mov (pv 1)))))))
abbrev s_order_of : Stmt := topS 25
abbrev N_order_of : List Str := ["row", "order", "number", "place"]
abbrev p_order_of : List Str := ["row"]
theorem sc_order_of : FnScope N_order_of p_order_of (defScope s_order_of) := ⟨rfl, rfl, rfl, by decide +kernel, rfl, by decide +kernel, by decide +kernel⟩
abbrev a_order_of : List Nat := ([1] ++ (([2, 3] ++ []) ++ []))
def body_order_of : MS :=
    (dSeq (dSet 1 (d2 gMulA (dLst (dCons (dC (.int 0)) dNil)) (dCallS [none] gLen (dCons (dV 0) dNil))))
    (dSeq (dFor (dEnA (dCons (dV 0) dNil)) (gTp [2, 3])
    (dPut 1 (dV 3) (dV 2)))
    (dRet (dM 1))))
def F_order_of : FnD := fnD 4 1 a_order_of body_order_of
theorem cal_order_of {P : Program} {w : World} {K : PySem.W.Frag} {mg : Str → Option Value} {base : Heap} (T : Tops mg) (U : Xs K mg) (D : Def K mg "order_of" s_order_of p_order_of)  : Cal P w K mg base 1 "order_of" p_order_of F_order_of :=
  cal_mk (k := 0) D sc_order_of fun f cdv A outer s H E hr =>
    (vss_cons (vs_set (i := 1) sc_order_of.nd rfl (by first | exact .inl rfl | exact .inr rfl) (ve_op op_mulA impMulA (ve_lst (va_cons ve_int va_nil)) (ve_callS call_lenA sLen (by rfl) T.len b_len (vio_cons (ve_var (pv 0)) vio_nil))))
    (vss_cons (vs_for (passes_of rfl) rfl (vi_enA (by rfl) T.enumerate (va_cons (ve_var (pv 0)) va_nil)) (vg_tup rfl (vgs_cons (pg_name (i := 2) sc_order_of.nd rfl (by first | exact .inl rfl | exact .inr rfl)) (vgs_cons (pg_name (i := 3) sc_order_of.nd rfl (by first | exact .inl rfl | exact .inr rfl)) vgs_nil)))
    (vss_one (vs_put (hu_of hr) (pv 1) (ve_var (pv 3)) (ve_var (pv 2)))))
    (vss_one (vs_ret (ve_mov (pv 1))))))
abbrev s_leading_orders : Stmt := topS 26
abbrev N_leading_orders : List Str := ["web", "nears", "most", "found", "top", "near", "place", "others", "ahead", "behind"]
abbrev p_leading_orders : List Str := ["web"]
theorem sc_leading_orders : FnScope N_leading_orders p_leading_orders (defScope s_leading_orders) := ⟨rfl, rfl, rfl, by decide +kernel, rfl, by decide +kernel, by decide +kernel⟩
abbrev a_leading_orders : List Nat := ([1] ++ ([2] ++ ([3] ++ (([4, 5] ++ (([7] ++ ([8] ++ [])) ++ [])) ++ []))))
def body_leading_orders : MS :=
    (dSeq (dSet 1 (dLc [6] (dRange1 (dCons (dAt 0 (dC (.int 0))) dNil)) (gNm 6) dYes (dFn [none, none] F_neighbours_of (dCons (dV 0) (dCons (dV 6) dNil)))))
    (dSeq (dSet 2 (dCallS [none] gMax (dCons (dLc [5] (dItems (dF 1)) (gNm 5) dYes (dCallS [none] gLen (dCons (dV 5) dNil))) dNil)))
    (dSeq (dSet 3 (dLst dNil))
    (dSeq (dFor (dEnA (dCons (dF 1) dNil)) (gTp [4, 5])
    (dIfS (dTB (d2 gEq (dCallS [none] gLen (dCons (dV 5) dNil)) (dV 2)))
    (dSeq (dSet 7 (dLc [6] (dRange1 (dCons (dAt 0 (dC (.int 0))) dNil)) (gNm 6) (dAndT (dTB (d2 gNe (dV 6) (dV 4))) (dTB (d2 (gIn true) (dV 6) (dV 5)))) (dV 6)))
    (dFor (dItems (dFn [none] (F_all_rows 20) (dCons (dV 5) dNil))) (gNm 8)
    (dDrop (dMt 3 gExt (dCons (dLc [9] (dItems (dFn [none] (F_all_rows 20) (dCons (dF 7) dNil))) (gNm 9) dYes (dFn [none] F_order_of (dCons (dFz (d2 gAdd (d2 gAdd (dLst (dCons (dV 4) dNil)) (dV 8)) (dV 9))) dNil))) dNil))))) dSkip))
    (dRet (dM 3))))))
def F_leading_orders : FnD := fnD 10 1 a_leading_orders body_leading_orders
theorem cal_leading_orders {P : Program} {w : World} {K : PySem.W.Frag} {mg : Str → Option Value} {base : Heap} (T : Tops mg) (U : Xs K mg) (D : Def K mg "leading_orders" s_leading_orders p_leading_orders) (c_all_rows : Cal P w K mg base 20 "all_rows" p_all_rows (F_all_rows 20)) (c_order_of : Cal P w K mg base 1 "order_of" p_order_of F_order_of) (c_neighbours_of : Cal P w K mg base 2 "neighbours_of" p_neighbours_of F_neighbours_of) : Cal P w K mg base 21 "leading_orders" p_leading_orders F_leading_orders :=
  cal_mk (k := 20) D sc_leading_orders fun f cdv A outer s H E hr =>
    (vss_cons (vs_setLc (i := 1) (own := [("place", 6)]) rfl sc_leading_orders.nd rfl rfl (sw_true rfl rfl rfl (by decide +kernel)) (vi_range1 (by rfl) T.range (va_cons (ve_at (hu_of hr) (pv 0) ve_int) va_nil)) (blkOk_by (own := [("place", 6)]) (N := N_leading_orders) (sc := defScope s_leading_orders) (by decide +kernel)) (fun _ _ _ _ _ => (vg_name (pg_name (i := 6) sc_leading_orders.nd rfl (by first | exact .inl rfl | exact .inr rfl)))) (fun _ _ _ _ _ => vts_nil) (fun _ _ _ _ _ => (ve_fn (c_neighbours_of.mono (by decide)) hr (by rfl) takesF (vio_cons (ve_var (pv 0)) (vio_cons (ve_var (pv 6)) vio_nil)))))
    (vss_cons (vs_set (i := 2) sc_leading_orders.nd rfl (by first | exact .inl rfl | exact .inr rfl) (ve_callS (cr_maxA rfl hr.units) sMax (by rfl) T.max b_max (vio_cons (ve_lc (own := [("near", 5)]) rfl sc_leading_orders.nd (vi_seq (ve_frz (pv 1))) (blkOk_by (own := [("near", 5)]) (N := N_leading_orders) (sc := defScope s_leading_orders) (by decide +kernel)) (fun _ _ _ _ _ => (vg_name (pg_name (i := 5) sc_leading_orders.nd rfl (by first | exact .inl rfl | exact .inr rfl)))) (fun _ _ _ _ _ => vts_nil) (fun _ _ _ _ _ => (ve_callS call_lenA sLen (by rfl) T.len b_len (vio_cons (ve_var (pv 5)) vio_nil)))) vio_nil)))
    (vss_cons (vs_set (i := 3) sc_leading_orders.nd rfl (by first | exact .inl rfl | exact .inr rfl) (ve_lst va_nil))
    (vss_cons (vs_for (passes_of rfl) rfl (vi_enA (by rfl) T.enumerate (va_cons (ve_frz (pv 1)) va_nil)) (vg_tup rfl (vgs_cons (pg_name (i := 4) sc_leading_orders.nd rfl (by first | exact .inl rfl | exact .inr rfl)) (vgs_cons (pg_name (i := 5) sc_leading_orders.nd rfl (by first | exact .inl rfl | exact .inr rfl)) vgs_nil)))
    (vss_one (vs_if (vt_cmp (op_eqD hr.units) impEq (ve_callS call_lenA sLen (by rfl) T.len b_len (vio_cons (ve_var (pv 5)) vio_nil)) (ve_var (pv 2)) (nomark _)) (vss_cons (vs_setLc (i := 7) (own := [("place", 6)]) rfl sc_leading_orders.nd rfl rfl (sw_true rfl rfl rfl (by decide +kernel)) (vi_range1 (by rfl) T.range (va_cons (ve_at (hu_of hr) (pv 0) ve_int) va_nil)) (blkOk_by (own := [("place", 6)]) (N := N_leading_orders) (sc := defScope s_leading_orders) (by decide +kernel)) (fun _ _ _ _ _ => (vg_name (pg_name (i := 6) sc_leading_orders.nd rfl (by first | exact .inl rfl | exact .inr rfl)))) (fun _ _ _ _ _ => (vts_one (vt_bool (vw_and (vt_cmp (op_neD hr.units) impNe (ve_var (pv 6)) (ve_var (pv 4)) (nomark _)) (vw_one (vt_cmp (op_notInD (room65 hr)) impInN (ve_var (pv 6)) (ve_var (pv 5)) (by rfl))))))) (fun _ _ _ _ _ => (ve_var (pv 6))))
    (vss_one (vs_for (passes_of rfl) rfl (vi_seq (ve_fn (c_all_rows.mono (by decide)) hr (by rfl) (L2N.takes_of rfl rfl rfl rfl) (vio_cons (ve_var (pv 5)) vio_nil))) (vg_name (pg_name (i := 8) sc_leading_orders.nd rfl (by first | exact .inl rfl | exact .inr rfl)))
    (vss_one (vs_expr (ve_mt (name := "extend") PySem.F.slot_list_extend PySem.F.type_list_extend mt_extend impExt (pv 3) (va_cons (ve_lc (own := [("behind", 9)]) rfl sc_leading_orders.nd (vi_seq (ve_fn (c_all_rows.mono (by decide)) hr (by rfl) (L2N.takes_of rfl rfl rfl rfl) (vio_cons (ve_frz (pv 7)) vio_nil))) (blkOk_by (own := [("behind", 9)]) (N := N_leading_orders) (sc := defScope s_leading_orders) (by decide +kernel)) (fun _ _ _ _ _ => (vg_name (pg_name (i := 9) sc_leading_orders.nd rfl (by first | exact .inl rfl | exact .inr rfl)))) (fun _ _ _ _ _ => vts_nil) (fun _ _ _ _ _ => (ve_fn (c_order_of.mono (by decide)) hr (by rfl) takesF (vio_cons (ve_fz (ve_op op_add3 impAdd (ve_op op_add3 impAdd (ve_lst (va_cons (ve_var (pv 4)) va_nil)) (ve_var (pv 8))) (ve_var (pv 9)))) vio_nil)))) va_nil))))))) vss_nil)))
    (vss_one (vs_ret (ve_mov (pv 3))))))))
abbrev s_least_web : Stmt := topS 27
abbrev N_least_web : List Str := ["web", "ties", "order"]
abbrev p_least_web : List Str := ["web"]
theorem sc_least_web : FnScope N_least_web p_least_web (defScope s_least_web) := ⟨rfl, rfl, rfl, by decide +kernel, rfl, by decide +kernel, by decide +kernel⟩
abbrev a_least_web : List Nat := (([] ++ []) ++ (([] ++ []) ++ ([1, 2] ++ [])))
def body_least_web : MS :=
    (dSeq (dIfS (dNotT (dTB (dFn [none] F_is_plain (dCons (dV 0) dNil))))
    (dRaise "NotPlain") dSkip)
    (dSeq (dIfS (dTB (d2 (gCmp cGt) (dAt 0 (dC (.int 0))) (dC (.int 6))))
    (dRaise "TooMany") dSkip)
    (dSeq (dAsg (dCall gMinO (dCons (dLc [2] (dItM (dFn [none] F_leading_orders (dCons (dV 0) dNil))) (gNm 2) dYes (dTup (dCons (d2 gIx (dFn [none, some 2] F_renamed_web (dCons (dV 0) (dIO 2 dNil))) (dC (.int 1))) (dCons (dM 2) dNil)))) dNil)) (gSq [1, 2]))
    (dRet (dTup (dCons (dTup (dCons (dAt 0 (dC (.int 0))) (dCons (dV 1) dNil))) (dCons (dM 2) dNil)))))))
def F_least_web : FnD := fnD 3 1 a_least_web body_least_web
theorem cal_least_web {P : Program} {w : World} {K : PySem.W.Frag} {mg : Str → Option Value} {base : Heap} (T : Tops mg) (U : Xs K mg) (D : Def K mg "least_web" s_least_web p_least_web) (c_leading_orders : Cal P w K mg base 21 "leading_orders" p_leading_orders F_leading_orders) (c_renamed_web : Cal P w K mg base 1 "renamed_web" p_renamed_web F_renamed_web) (c_is_plain : Cal P w K mg base 1 "is_plain" p_is_plain F_is_plain) : Cal P w K mg base 22 "least_web" p_least_web F_least_web :=
  cal_mk (k := 21) D sc_least_web fun f cdv A outer s H E hr =>
    (vss_cons (vs_if (vt_not (vt_val (ve_fn (c_is_plain.mono (by decide)) hr (by rfl) (L2N.takes_of rfl rfl rfl rfl) (vio_cons (ve_var (pv 0)) vio_nil)))) (vss_one (vs_raise rfl (L2N.takes_of rfl rfl rfl rfl) U.x_NotPlain (by rfl))) vss_nil)
    (vss_cons (vs_if (vt_cmp op_gtC (impCmp cGt) (ve_at (hu_of hr) (pv 0) ve_int) (ve_con (pe_glob (v := .int (6)) (by rfl) T.MOST_PLACES.choose_spec ⟨_, rfl⟩) fun _ _ h => h.int) (nomark _)) (vss_one (vs_raise rfl (L2N.takes_of rfl rfl rfl rfl) U.x_TooMany (by rfl))) vss_nil)
    (vss_cons (vs_asg (ve_callB (cr_minD rfl hr.units) impMinO (by rfl) T.min b_min (va_cons (ve_lcM (own := [("order", 2)]) rfl sc_least_web.nd (vi_mv (ve_fn (c_leading_orders.mono (by decide)) hr (by rfl) (L2N.takes_of rfl rfl rfl rfl) (vio_cons (ve_var (pv 0)) vio_nil))) (blkOk_by (own := [("order", 2)]) (N := N_least_web) (sc := defScope s_least_web) (by decide +kernel)) (fun _ _ _ _ _ => (vg_name (pg_name (i := 2) sc_least_web.nd rfl (by first | exact .inl rfl | exact .inr rfl)))) (fun _ _ _ _ _ => vts_nil) (fun _ _ _ _ _ => (ve_tup (va_cons (ve_ix (ve_fn (c_renamed_web.mono (by decide)) hr (by rfl) takesF (vio_cons (ve_var (pv 0)) (vio_slot (pv 2) vio_nil))) ve_int) (va_cons (ve_mov (pv 2)) va_nil))))) va_nil)) (vg_seq rfl (vgs_cons (pg_name (i := 1) sc_least_web.nd rfl (by first | exact .inl rfl | exact .inr rfl)) (vgs_cons (pg_name (i := 2) sc_least_web.nd rfl (by first | exact .inl rfl | exact .inr rfl)) vgs_nil))))
    (vss_one (vs_ret (ve_tup (va_cons (ve_tup (va_cons (ve_at (hu_of hr) (pv 0) ve_int) (va_cons (ve_var (pv 1)) va_nil))) (va_cons (ve_mov (pv 2)) va_nil))))))))
abbrev s_law_draws : Stmt := topS 29
abbrev N_law_draws : List Str := ["script", "many", "found", "at", "cell", "stir", "turn", "left", "one"]
abbrev p_law_draws : List Str := ["script", "many"]
theorem sc_law_draws : FnScope N_law_draws p_law_draws (defScope s_law_draws) := ⟨rfl, rfl, rfl, by decide +kernel, rfl, by decide +kernel, by decide +kernel⟩
abbrev a_law_draws : List Nat := ([2] ++ (([3, 4] ++ ([7] ++ (([6] ++ (([] ++ []) ++ [7])) ++ ([6] ++ ([8] ++ []))))) ++ ([5] ++ (([6] ++ ([5] ++ [])) ++ []))))
def body_law_draws : MS :=
    (dSeq (dSet 2 (dLst dNil))
    (dSeq (dFor (dEnA (dCons (dSl (dV 0) dNo (dEnd (dC (.int 63)))) dNil)) (gTp [3, 4])
    (dSeq (dSet 7 (dCallS [none] gAbs (dCons (dV 4) dNil)))
    (dIfS (dTB (d2 (gCmp cGe) (dV 7) (d2 gPow (dC (.int 10)) (dC (.int 18)))))
    (dFor (dRange1 (dCons (dC (.int 16)) dNil)) (gNm 6)
    (dSeq (dIfS (dTB (d2 (gCmp cGt) (dV 7) (dC (.int 0))))
    (dDrop (dMt 2 gApp (dCons (d2 gMod (dV 7) (dC (.int 1000003))) dNil))) dSkip)
    (dSet 7 (d2 gDiv (dV 7) (dC (.int 1000003)))))) (dFor (dRange1 (dCons (dC (.int 4)) dNil)) (gNm 6)
    (dSeq (dSet 8 (d2 gMod (d2 gAdd (d2 gAdd (d2 gAdd (d2 gMulA (dV 4) (dC (.int 48271))) (d2 gMulA (d2 gMulA (dC (.int 977)) (dV 6)) (dV 6))) (d2 gMulA (dC (.int 131)) (dV 3))) (dC (.int 1))) (dC (.int 2147483647))))
    (dDrop (dMt 2 gApp (dCons (d2 gDiv (d2 gMod (d2 gMulA (dV 8) (dV 8)) (dC (.int 2147483629))) (dC (.int 64))) dNil))))))))
    (dSeq (dSet 5 (d2 gMod (d2 gAdd (dC (.int 7919)) (d2 gMulA (dC (.int 40693)) (dCallS [some 2] gSum (dIO 2 dNil)))) (dC (.int 2147483629))))
    (dSeq (dFor (dRange2 (dCons (dCallS [some 2] gLen (dIO 2 dNil)) (dCons (dV 1) dNil))) (gNm 6)
    (dSeq (dSet 5 (d2 gMod (d2 gAdd (d2 gAdd (d2 gMulA (dV 5) (dV 5)) (dC (.int 40692))) (dV 6)) (dC (.int 2147483629))))
    (dDrop (dMt 2 gApp (dCons (d2 gDiv (dV 5) (dC (.int 8))) dNil)))))
    (dRet (dLst (dCons (dF 2) (dCons (dC (.int 0)) dNil))))))))
def F_law_draws : FnD := fnD 9 2 a_law_draws body_law_draws
theorem cal_law_draws {P : Program} {w : World} {K : PySem.W.Frag} {mg : Str → Option Value} {base : Heap} (T : Tops mg) (U : Xs K mg) (D : Def K mg "_law_draws" s_law_draws p_law_draws)  : Cal P w K mg base 1 "_law_draws" p_law_draws F_law_draws :=
  cal_mk (k := 0) D sc_law_draws fun f cdv A outer s H E hr =>
    (vss_cons (vs_set (i := 2) sc_law_draws.nd rfl (by first | exact .inl rfl | exact .inr rfl) (ve_lst va_nil))
    (vss_cons (vs_for (passes_of rfl) rfl (vi_enA (by rfl) T.enumerate (va_cons (ve_slice (ve_var (pv 0)) vo_none (vo_some ve_int)) va_nil)) (vg_tup rfl (vgs_cons (pg_name (i := 3) sc_law_draws.nd rfl (by first | exact .inl rfl | exact .inr rfl)) (vgs_cons (pg_name (i := 4) sc_law_draws.nd rfl (by first | exact .inl rfl | exact .inr rfl)) vgs_nil)))
    (vss_cons (vs_set (i := 7) sc_law_draws.nd rfl (by first | exact .inl rfl | exact .inr rfl) (ve_callS call_abs sAbs (by rfl) T.abs b_abs (vio_cons (ve_var (pv 4)) vio_nil)))
    (vss_one (vs_if (vt_cmp op_geC (impCmp cGe) (ve_var (pv 7)) (ve_op op_pow impPow ve_int ve_int) (nomark _)) (vss_one (vs_for (passes_of rfl) rfl (vi_range1 (by rfl) T.range (va_cons ve_int va_nil)) (vg_name (pg_name (i := 6) sc_law_draws.nd rfl (by first | exact .inl rfl | exact .inr rfl)))
    (vss_cons (vs_if (vt_cmp op_gtC (impCmp cGt) (ve_var (pv 7)) ve_int (nomark _)) (vss_one (vs_expr (ve_mt (name := "append") PySem.F.slot_list_append PySem.F.type_list_append mt_append impApp (pv 2) (va_cons (ve_op op_mod impMod (ve_var (pv 7)) ve_int) va_nil)))) vss_nil)
    (vss_one (vs_set (i := 7) sc_law_draws.nd rfl (by first | exact .inl rfl | exact .inr rfl) (ve_op op_fdiv impDiv (ve_var (pv 7)) ve_int)))))) (vss_one (vs_for (passes_of rfl) rfl (vi_range1 (by rfl) T.range (va_cons ve_int va_nil)) (vg_name (pg_name (i := 6) sc_law_draws.nd rfl (by first | exact .inl rfl | exact .inr rfl)))
    (vss_cons (vs_set (i := 8) sc_law_draws.nd rfl (by first | exact .inl rfl | exact .inr rfl) (ve_op op_mod impMod (ve_op op_add3 impAdd (ve_op op_add3 impAdd (ve_op op_add3 impAdd (ve_op op_mulA impMulA (ve_var (pv 4)) ve_int) (ve_op op_mulA impMulA (ve_op op_mulA impMulA ve_int (ve_var (pv 6))) (ve_var (pv 6)))) (ve_op op_mulA impMulA ve_int (ve_var (pv 3)))) ve_int) ve_int))
    (vss_one (vs_expr (ve_mt (name := "append") PySem.F.slot_list_append PySem.F.type_list_append mt_append impApp (pv 2) (va_cons (ve_op op_fdiv impDiv (ve_op op_mod impMod (ve_op op_mulA impMulA (ve_var (pv 8)) (ve_var (pv 8))) ve_int) ve_int) va_nil)))))))))))
    (vss_cons (vs_set (i := 5) sc_law_draws.nd rfl (by first | exact .inl rfl | exact .inr rfl) (ve_op op_mod impMod (ve_op op_add3 impAdd ve_int (ve_op op_mulA impMulA ve_int (ve_callS (cr_sum rfl) sSum (by rfl) T.sum b_sum (vio_slot (pv 2) vio_nil)))) ve_int))
    (vss_cons (vs_for (passes_of rfl) rfl (vi_range2 (by rfl) T.range (va_cons (ve_callS call_lenA sLen (by rfl) T.len b_len (vio_slot (pv 2) vio_nil)) (va_cons (ve_var (pv 1)) va_nil))) (vg_name (pg_name (i := 6) sc_law_draws.nd rfl (by first | exact .inl rfl | exact .inr rfl)))
    (vss_cons (vs_set (i := 5) sc_law_draws.nd rfl (by first | exact .inl rfl | exact .inr rfl) (ve_op op_mod impMod (ve_op op_add3 impAdd (ve_op op_add3 impAdd (ve_op op_mulA impMulA (ve_var (pv 5)) (ve_var (pv 5))) ve_int) (ve_var (pv 6))) ve_int))
    (vss_one (vs_expr (ve_mt (name := "append") PySem.F.slot_list_append PySem.F.type_list_append mt_append impApp (pv 2) (va_cons (ve_op op_fdiv impDiv (ve_var (pv 5)) ve_int) va_nil))))))
    (vss_one (vs_ret (ve_lst (va_cons (ve_frz (pv 2)) (va_cons ve_int va_nil)))))))))
abbrev s_law_take : Stmt := topS 30
abbrev N_law_take : List Str := ["pot", "many", "number"]
abbrev p_law_take : List Str := ["pot", "many"]
theorem sc_law_take : FnScope N_law_take p_law_take (defScope s_law_take) := ⟨rfl, rfl, rfl, by decide +kernel, rfl, by decide +kernel, by decide +kernel⟩
abbrev a_law_take : List Nat := ([2] ++ ([] ++ []))
def body_law_take : MS :=
    (dSeq (dSet 2 (d2 gIx (dAt 0 (dC (.int 0))) (d2 gMod (dAt 0 (dC (.int 1))) (dCallS [none] gLen (dCons (dAt 0 (dC (.int 0))) dNil)))))
    (dSeq (dPut 0 (dC (.int 1)) (d2 gAdd (dAt 0 (dC (.int 1))) (dC (.int 1))))
    (dRet (d2 gMod (dV 2) (dV 1)))))
def F_law_take : FnD := fnD 3 2 a_law_take body_law_take
theorem cal_law_take {P : Program} {w : World} {K : PySem.W.Frag} {mg : Str → Option Value} {base : Heap} (T : Tops mg) (U : Xs K mg) (D : Def K mg "_law_take" s_law_take p_law_take)  : Cal P w K mg base 1 "_law_take" p_law_take F_law_take :=
  cal_mk (k := 0) D sc_law_take fun f cdv A outer s H E hr =>
    (vss_cons (vs_set (i := 2) sc_law_take.nd rfl (by first | exact .inl rfl | exact .inr rfl) (ve_ix (ve_at (hu_of hr) (pv 0) ve_int) (ve_op op_mod impMod (ve_at (hu_of hr) (pv 0) ve_int) (ve_callS call_lenA sLen (by rfl) T.len b_len (vio_cons (ve_at (hu_of hr) (pv 0) ve_int) vio_nil)))))
    (vss_cons (vs_put (hu_of hr) (pv 0) ve_int (ve_op op_add3 impAdd (ve_at (hu_of hr) (pv 0) ve_int) ve_int))
    (vss_one (vs_ret (ve_op op_mod impMod (ve_var (pv 2)) (ve_var (pv 1)))))))
abbrev s_law_length : Stmt := topS 31
abbrev N_law_length : List Str := ["pot", "scale", "low", "far"]
abbrev p_law_length : List Str := ["pot", "scale"]
theorem sc_law_length : FnScope N_law_length p_law_length (defScope s_law_length) := ⟨rfl, rfl, rfl, by decide +kernel, rfl, by decide +kernel, by decide +kernel⟩
abbrev a_law_length : List Nat := ([2] ++ ([3] ++ []))
def body_law_length : MS :=
    (dSeq (dSet 2 (d2 gAdd (dC (.int 1)) (dFn [some 0, none] F_law_take (dIO 0 (dCons (dC (.int 9)) dNil)))))
    (dSeq (dSet 3 (d2 gIx (dLst (dCons (dC (.int 1)) (dCons (d2 gPow (dC (.int 10)) (dC (.int 7))) (dCons (d2 gPow (dC (.int 10)) (dC (.int 14))) (dCons (d2 gPow (dC (.int 10)) (dC (.int 21))) (dCons (d2 gPow (dC (.int 10)) (dC (.int 28))) dNil)))))) (dFn [some 0, none] F_law_take (dIO 0 (dCons (dC (.int 5)) dNil)))))
    (dRet (d2 gIx (dLst (dCons (dC (.int 1)) (dCons (dV 2) (dCons (d2 gMulA (dV 2) (d2 gIx (dLst (dCons (dC (.int 1)) (dCons (d2 gPow (dC (.int 10)) (dC (.int 3))) (dCons (d2 gPow (dC (.int 10)) (dC (.int 15))) (dCons (d2 gPow (dC (.int 10)) (dC (.int 29))) dNil))))) (d2 gMod (dAt 1 (dC (.int 1))) (dC (.int 4))))) (dCons (d2 gMulA (d2 gAdd (dC (.int 1)) (d2 gMod (dV 2) (dC (.int 3)))) (dV 3)) dNil))))) (dAt 1 (dC (.int 0)))))))
def F_law_length : FnD := fnD 4 2 a_law_length body_law_length
theorem cal_law_length {P : Program} {w : World} {K : PySem.W.Frag} {mg : Str → Option Value} {base : Heap} (T : Tops mg) (U : Xs K mg) (D : Def K mg "_law_length" s_law_length p_law_length) (c_law_take : Cal P w K mg base 1 "_law_take" p_law_take F_law_take) : Cal P w K mg base 2 "_law_length" p_law_length F_law_length :=
  cal_mk (k := 1) D sc_law_length fun f cdv A outer s H E hr =>
    (vss_cons (vs_set (i := 2) sc_law_length.nd rfl (by first | exact .inl rfl | exact .inr rfl) (ve_op op_add3 impAdd ve_int (ve_fn (c_law_take.mono (by decide)) hr (by rfl) (L2N.takes_of rfl rfl rfl rfl) (vio_slot (pv 0) (vio_cons ve_int vio_nil)))))
    (vss_cons (vs_set (i := 3) sc_law_length.nd rfl (by first | exact .inl rfl | exact .inr rfl) (ve_ix (ve_lst (va_cons ve_int (va_cons (ve_op op_pow impPow ve_int ve_int) (va_cons (ve_op op_pow impPow ve_int ve_int) (va_cons (ve_op op_pow impPow ve_int ve_int) (va_cons (ve_op op_pow impPow ve_int ve_int) va_nil)))))) (ve_fn (c_law_take.mono (by decide)) hr (by rfl) (L2N.takes_of rfl rfl rfl rfl) (vio_slot (pv 0) (vio_cons ve_int vio_nil)))))
    (vss_one (vs_ret (ve_ix (ve_lst (va_cons ve_int (va_cons (ve_var (pv 2)) (va_cons (ve_op op_mulA impMulA (ve_var (pv 2)) (ve_ix (ve_lst (va_cons ve_int (va_cons (ve_op op_pow impPow ve_int ve_int) (va_cons (ve_op op_pow impPow ve_int ve_int) (va_cons (ve_op op_pow impPow ve_int ve_int) va_nil))))) (ve_op op_mod impMod (ve_at (hu_of hr) (pv 1) ve_int) ve_int))) (va_cons (ve_op op_mulA impMulA (ve_op op_add3 impAdd ve_int (ve_op op_mod impMod (ve_var (pv 2)) ve_int)) (ve_var (pv 3))) va_nil))))) (ve_at (hu_of hr) (pv 1) ve_int))))))
abbrev s_law_web : Stmt := topS 32
abbrev N_law_web : List Str := ["pot", "many", "extra", "scale", "names", "place", "found", "turn", "pair", "one", "other", "length"]
abbrev p_law_web : List Str := ["pot", "many", "extra", "scale"]
theorem sc_law_web : FnScope N_law_web p_law_web (defScope s_law_web) := ⟨rfl, rfl, rfl, by decide +kernel, rfl, by decide +kernel, by decide +kernel⟩
abbrev a_law_web : List Nat := ([4] ++ (([5] ++ []) ++ ([6] ++ (([5] ++ ([8] ++ [])) ++ (([7] ++ ([9] ++ ([10] ++ ([11] ++ ([] ++ []))))) ++ [])))))
def body_law_web : MS :=
    (dSeq (dSet 4 (dLst dNil))
    (dSeq (dFor (dRange1 (dCons (dV 1) dNil)) (gNm 5)
    (dDrop (dMt 4 gIns (dCons (dFn [some 0, none] F_law_take (dIO 0 (dCons (d2 gAdd (dV 5) (dC (.int 1))) dNil))) (dCons (dV 5) dNil)))))
    (dSeq (dSet 6 (dC (.dT true [] [])))
    (dSeq (dFor (dRange2 (dCons (dC (.int 1)) (dCons (dV 1) dNil))) (gNm 5)
    (dSeq (dSet 8 (dTup (dCons (dAt 4 (dFn [some 0, none] F_law_take (dIO 0 (dCons (dV 5) dNil)))) (dCons (dAt 4 (dV 5)) dNil))))
    (dPut 6 (dTup (dCons (dCallS [none] gMin (dCons (dV 8) dNil)) (dCons (dCallS [none] gMax (dCons (dV 8) dNil)) dNil))) (dFn [some 0, none] F_law_length (dIO 0 (dCons (dV 3) dNil))))))
    (dSeq (dFor (dRange1 (dCons (d2 gMulA (dV 2) (dCallS [none] gIntOf (dCons (d2 (gCmp cGt) (dV 1) (dC (.int 1))) dNil))) dNil)) (gNm 7)
    (dSeq (dSet 9 (dFn [some 0, none] F_law_take (dIO 0 (dCons (dV 1) dNil))))
    (dSeq (dSet 10 (d2 gMod (d2 gAdd (d2 gAdd (dV 9) (dC (.int 1))) (dFn [some 0, none] F_law_take (dIO 0 (dCons (dCallS [none, none] gMax (dCons (dC (.int 1)) (dCons (d2 gSub (dV 1) (dC (.int 1))) dNil))) dNil)))) (dV 1)))
    (dSeq (dSet 11 (dFn [some 0, none] F_law_length (dIO 0 (dCons (dV 3) dNil))))
    (dIfS (dAndT (dTB (d2 gNe (dV 9) (dV 10))) (dTB (d2 (gCmp cLt) (dCallS [some 6] gLen (dIO 6 dNil)) (dC (.int 220)))))
    (dDrop (dSetd 6 (dTup (dCons (dCallS [none, none] gMin (dCons (dV 9) (dCons (dV 10) dNil))) (dCons (dCallS [none, none] gMax (dCons (dV 9) (dCons (dV 10) dNil))) dNil))) (dV 11))) dSkip)))))
    (dRet (dTup (dCons (dV 1) (dCons (dCall gTuple (dCons (dLc [8] (dItems (dCall gSorted (dCons (dF 6) dNil))) (gNm 8) dYes (d2 gAdd (dV 8) (dTup (dCons (dAt 6 (dV 8)) dNil)))) dNil)) dNil)))))))))
def F_law_web : FnD := fnD 12 4 a_law_web body_law_web
theorem cal_law_web {P : Program} {w : World} {K : PySem.W.Frag} {mg : Str → Option Value} {base : Heap} (T : Tops mg) (U : Xs K mg) (D : Def K mg "_law_web" s_law_web p_law_web) (c_law_length : Cal P w K mg base 2 "_law_length" p_law_length F_law_length) (c_law_take : Cal P w K mg base 1 "_law_take" p_law_take F_law_take) : Cal P w K mg base 3 "_law_web" p_law_web F_law_web :=
  cal_mk (k := 2) D sc_law_web fun f cdv A outer s H E hr =>
    (vss_cons (vs_set (i := 4) sc_law_web.nd rfl (by first | exact .inl rfl | exact .inr rfl) (ve_lst va_nil))
    (vss_cons (vs_for (passes_of rfl) rfl (vi_range1 (by rfl) T.range (va_cons (ve_var (pv 1)) va_nil)) (vg_name (pg_name (i := 5) sc_law_web.nd rfl (by first | exact .inl rfl | exact .inr rfl)))
    (vss_one (vs_expr (ve_mt (name := "insert") PySem.F.slot_list_insert PySem.F.type_list_insert mt_insert impIns (pv 4) (va_cons (ve_fn (c_law_take.mono (by decide)) hr (by rfl) (L2N.takes_of rfl rfl rfl rfl) (vio_slot (pv 0) (vio_cons (ve_op op_add3 impAdd (ve_var (pv 5)) ve_int) vio_nil))) (va_cons (ve_var (pv 5)) va_nil))))))
    (vss_cons (vs_set (i := 6) sc_law_web.nd rfl (by first | exact .inl rfl | exact .inr rfl) ve_dnewT)
    (vss_cons (vs_for (passes_of rfl) rfl (vi_range2 (by rfl) T.range (va_cons ve_int (va_cons (ve_var (pv 1)) va_nil))) (vg_name (pg_name (i := 5) sc_law_web.nd rfl (by first | exact .inl rfl | exact .inr rfl)))
    (vss_cons (vs_set (i := 8) sc_law_web.nd rfl (by first | exact .inl rfl | exact .inr rfl) (ve_tup (va_cons (ve_at (hu_of hr) (pv 4) (ve_fn (c_law_take.mono (by decide)) hr (by rfl) (L2N.takes_of rfl rfl rfl rfl) (vio_slot (pv 0) (vio_cons (ve_var (pv 5)) vio_nil)))) (va_cons (ve_at (hu_of hr) (pv 4) (ve_var (pv 5))) va_nil))))
    (vss_one (vs_put (hu_of hr) (pv 6) (ve_tup (va_cons (ve_callS (cr_minA rfl hr.units) sMin (by rfl) T.min b_min (vio_cons (ve_var (pv 8)) vio_nil)) (va_cons (ve_callS (cr_maxA rfl hr.units) sMax (by rfl) T.max b_max (vio_cons (ve_var (pv 8)) vio_nil)) va_nil))) (ve_fn (c_law_length.mono (by decide)) hr (by rfl) (L2N.takes_of rfl rfl rfl rfl) (vio_slot (pv 0) (vio_cons (ve_var (pv 3)) vio_nil)))))))
    (vss_cons (vs_for (passes_of rfl) rfl (vi_range1 (by rfl) T.range (va_cons (ve_op op_mulA impMulA (ve_var (pv 2)) (ve_callST call_int1 sIntOf (by rfl) T.int b_int (vio_cons (ve_cmp op_gtC (impCmp cGt) (ve_var (pv 1)) ve_int (nomark _)) vio_nil))) va_nil)) (vg_name (pg_name (i := 7) sc_law_web.nd rfl (by first | exact .inl rfl | exact .inr rfl)))
    (vss_cons (vs_set (i := 9) sc_law_web.nd rfl (by first | exact .inl rfl | exact .inr rfl) (ve_fn (c_law_take.mono (by decide)) hr (by rfl) (L2N.takes_of rfl rfl rfl rfl) (vio_slot (pv 0) (vio_cons (ve_var (pv 1)) vio_nil))))
    (vss_cons (vs_set (i := 10) sc_law_web.nd rfl (by first | exact .inl rfl | exact .inr rfl) (ve_op op_mod impMod (ve_op op_add3 impAdd (ve_op op_add3 impAdd (ve_var (pv 9)) ve_int) (ve_fn (c_law_take.mono (by decide)) hr (by rfl) (L2N.takes_of rfl rfl rfl rfl) (vio_slot (pv 0) (vio_cons (ve_callS (cr_maxA rfl hr.units) sMax (by rfl) T.max b_max (vio_cons ve_int (vio_cons (ve_op op_sub impSub (ve_var (pv 1)) ve_int) vio_nil))) vio_nil)))) (ve_var (pv 1))))
    (vss_cons (vs_set (i := 11) sc_law_web.nd rfl (by first | exact .inl rfl | exact .inr rfl) (ve_fn (c_law_length.mono (by decide)) hr (by rfl) (L2N.takes_of rfl rfl rfl rfl) (vio_slot (pv 0) (vio_cons (ve_var (pv 3)) vio_nil))))
    (vss_one (vs_if (vt_bool (vw_and (vt_cmp (op_neD hr.units) impNe (ve_var (pv 9)) (ve_var (pv 10)) (nomark _)) (vw_one (vt_cmp op_ltC (impCmp cLt) (ve_callS call_lenA sLen (by rfl) T.len b_len (vio_slot (pv 6) vio_nil)) ve_int (nomark _))))) (vss_one (vs_expr (ve_setdT (hu_of hr) (pv 6) (ve_tup (va_cons (ve_callS (cr_minA rfl hr.units) sMin (by rfl) T.min b_min (vio_cons (ve_var (pv 9)) (vio_cons (ve_var (pv 10)) vio_nil))) (va_cons (ve_callS (cr_maxA rfl hr.units) sMax (by rfl) T.max b_max (vio_cons (ve_var (pv 9)) (vio_cons (ve_var (pv 10)) vio_nil))) va_nil))) (ve_var (pv 11)) ⟨rfl, rfl, rfl, rfl⟩))) vss_nil))))))
    (vss_one (vs_ret (ve_tup (va_cons (ve_var (pv 1)) (va_cons (ve_callTy call_tuple_of impTuple (by rfl) T.tuple b_tuple (va_cons (ve_lc (own := [("pair", 8)]) rfl sc_law_web.nd (vi_seq (ve_callB (cr_sorted2 rfl hr.units) impSorted (by rfl) T.sorted b_sorted (va_cons (ve_frz (pv 6)) va_nil))) (blkOk_by (own := [("pair", 8)]) (N := N_law_web) (sc := defScope s_law_web) (by decide +kernel)) (fun _ _ _ _ _ => (vg_name (pg_name (i := 8) sc_law_web.nd rfl (by first | exact .inl rfl | exact .inr rfl)))) (fun _ _ _ _ _ => vts_nil) (fun _ _ _ _ _ => (ve_op op_add3 impAdd (ve_var (pv 8)) (ve_tup (va_cons (ve_at (hu_of hr) (pv 6) (ve_var (pv 8))) va_nil))))) va_nil)) va_nil))))))))))
abbrev s_law_renamed : Stmt := topS 33
abbrev N_law_renamed : List Str := ["web", "order", "found", "a", "b", "length"]
abbrev p_law_renamed : List Str := ["web", "order"]
theorem sc_law_renamed : FnScope N_law_renamed p_law_renamed (defScope s_law_renamed) := ⟨rfl, rfl, rfl, by decide +kernel, rfl, by decide +kernel, by decide +kernel⟩
abbrev a_law_renamed : List Nat := ([2] ++ (([3, 4, 5] ++ []) ++ []))
def body_law_renamed : MS :=
    (dSeq (dSet 2 (dLst dNil))
    (dSeq (dFor (dItems (dAt 0 (dC (.int 1)))) (gTp [3, 4, 5])
    (dDrop (dMt 2 gApp (dCons (dTup (dCons (dCallS [none, none] gMin (dCons (dAt 1 (dV 3)) (dCons (dAt 1 (dV 4)) dNil))) (dCons (dCallS [none, none] gMax (dCons (dAt 1 (dV 3)) (dCons (dAt 1 (dV 4)) dNil))) (dCons (dV 5) dNil)))) dNil))))
    (dRet (dTup (dCons (dAt 0 (dC (.int 0))) (dCons (dCall gTuple (dCons (dCall gSorted (dCons (dF 2) dNil)) dNil)) dNil))))))
def F_law_renamed : FnD := fnD 6 2 a_law_renamed body_law_renamed
theorem cal_law_renamed {P : Program} {w : World} {K : PySem.W.Frag} {mg : Str → Option Value} {base : Heap} (T : Tops mg) (U : Xs K mg) (D : Def K mg "_law_renamed" s_law_renamed p_law_renamed)  : Cal P w K mg base 1 "_law_renamed" p_law_renamed F_law_renamed :=
  cal_mk (k := 0) D sc_law_renamed fun f cdv A outer s H E hr =>
    (vss_cons (vs_set (i := 2) sc_law_renamed.nd rfl (by first | exact .inl rfl | exact .inr rfl) (ve_lst va_nil))
    (vss_cons (vs_for (passes_of rfl) rfl (vi_seq (ve_at (hu_of hr) (pv 0) ve_int)) (vg_tup rfl (vgs_cons (pg_name (i := 3) sc_law_renamed.nd rfl (by first | exact .inl rfl | exact .inr rfl)) (vgs_cons (pg_name (i := 4) sc_law_renamed.nd rfl (by first | exact .inl rfl | exact .inr rfl)) (vgs_cons (pg_name (i := 5) sc_law_renamed.nd rfl (by first | exact .inl rfl | exact .inr rfl)) vgs_nil))))
    (vss_one (vs_expr (ve_mt (name := "append") PySem.F.slot_list_append PySem.F.type_list_append mt_append impApp (pv 2) (va_cons (ve_tup (va_cons (ve_callS (cr_minA rfl hr.units) sMin (by rfl) T.min b_min (vio_cons (ve_at (hu_of hr) (pv 1) (ve_var (pv 3))) (vio_cons (ve_at (hu_of hr) (pv 1) (ve_var (pv 4))) vio_nil))) (va_cons (ve_callS (cr_maxA rfl hr.units) sMax (by rfl) T.max b_max (vio_cons (ve_at (hu_of hr) (pv 1) (ve_var (pv 3))) (vio_cons (ve_at (hu_of hr) (pv 1) (ve_var (pv 4))) vio_nil))) (va_cons (ve_var (pv 5)) va_nil)))) va_nil)))))
    (vss_one (vs_ret (ve_tup (va_cons (ve_at (hu_of hr) (pv 0) ve_int) (va_cons (ve_callTy call_tuple_of impTuple (by rfl) T.tuple b_tuple (va_cons (ve_callB (cr_sorted2 rfl hr.units) impSorted (by rfl) T.sorted b_sorted (va_cons (ve_frz (pv 2)) va_nil)) va_nil)) va_nil)))))))
abbrev s_law_orders : Stmt := topS 34
abbrev N_law_orders : List Str := ["many", "found", "place", "longer", "order", "at"]
abbrev p_law_orders : List Str := ["many"]
theorem sc_law_orders : FnScope N_law_orders p_law_orders (defScope s_law_orders) := ⟨rfl, rfl, rfl, by decide +kernel, rfl, by decide +kernel, by decide +kernel⟩
abbrev a_law_orders : List Nat := ([1] ++ (([2] ++ ([3] ++ (([4] ++ []) ++ [1]))) ++ []))
def body_law_orders : MS :=
    (dSeq (dSet 1 (dLst (dCons (dLst dNil) dNil)))
    (dSeq (dFor (dRange1 (dCons (dV 0) dNil)) (gNm 2)
    (dSeq (dSet 3 (dLst dNil))
    (dSeq (dFor (dItems (dF 1)) (gNm 4)
    (dDrop (dMt 3 gExt (dCons (dLc [5] (dRange1 (dCons (d2 gAdd (dV 2) (dC (.int 1))) dNil)) (gNm 5) dYes (d2 gAdd (d2 gAdd (dSl (dV 4) dNo (dEnd (dV 5))) (dLst (dCons (dV 2) dNil))) (dSl (dV 4) (dEnd (dV 5)) dNo))) dNil))))
    (dSet 1 (dM 3)))))
    (dRet (dM 1))))
def F_law_orders : FnD := fnD 6 1 a_law_orders body_law_orders
theorem cal_law_orders {P : Program} {w : World} {K : PySem.W.Frag} {mg : Str → Option Value} {base : Heap} (T : Tops mg) (U : Xs K mg) (D : Def K mg "_law_orders" s_law_orders p_law_orders)  : Cal P w K mg base 1 "_law_orders" p_law_orders F_law_orders :=
  cal_mk (k := 0) D sc_law_orders fun f cdv A outer s H E hr =>
    (vss_cons (vs_set (i := 1) sc_law_orders.nd rfl (by first | exact .inl rfl | exact .inr rfl) (ve_lst (va_cons (ve_lst va_nil) va_nil)))
    (vss_cons (vs_for (passes_of rfl) rfl (vi_range1 (by rfl) T.range (va_cons (ve_var (pv 0)) va_nil)) (vg_name (pg_name (i := 2) sc_law_orders.nd rfl (by first | exact .inl rfl | exact .inr rfl)))
    (vss_cons (vs_set (i := 3) sc_law_orders.nd rfl (by first | exact .inl rfl | exact .inr rfl) (ve_lst va_nil))
    (vss_cons (vs_for (passes_of rfl) rfl (vi_seq (ve_frz (pv 1))) (vg_name (pg_name (i := 4) sc_law_orders.nd rfl (by first | exact .inl rfl | exact .inr rfl)))
    (vss_one (vs_expr (ve_mt (name := "extend") PySem.F.slot_list_extend PySem.F.type_list_extend mt_extend impExt (pv 3) (va_cons (ve_lc (own := [("at", 5)]) rfl sc_law_orders.nd (vi_range1 (by rfl) T.range (va_cons (ve_op op_add3 impAdd (ve_var (pv 2)) ve_int) va_nil)) (blkOk_by (own := [("at", 5)]) (N := N_law_orders) (sc := defScope s_law_orders) (by decide +kernel)) (fun _ _ _ _ _ => (vg_name (pg_name (i := 5) sc_law_orders.nd rfl (by first | exact .inl rfl | exact .inr rfl)))) (fun _ _ _ _ _ => vts_nil) (fun _ _ _ _ _ => (ve_op op_add3 impAdd (ve_op op_add3 impAdd (ve_slice (ve_var (pv 4)) vo_none (vo_some (ve_var (pv 5)))) (ve_lst (va_cons (ve_var (pv 2)) va_nil))) (ve_slice (ve_var (pv 4)) (vo_some (ve_var (pv 5))) vo_none)))) va_nil)))))
    (vss_one (vs_set (i := 1) sc_law_orders.nd rfl (by first | exact .inl rfl | exact .inr rfl) (ve_mov (pv 3)))))))
    (vss_one (vs_ret (ve_mov (pv 1))))))
abbrev s_law_alike : Stmt := topS 35
abbrev N_law_alike : List Str := ["found", "due", "one", "other"]
abbrev p_law_alike : List Str := ["found", "due"]
theorem sc_law_alike : FnScope N_law_alike p_law_alike (defScope s_law_alike) := ⟨rfl, rfl, rfl, by decide +kernel, rfl, by decide +kernel, by decide +kernel⟩
abbrev a_law_alike : List Nat := (((([] ++ []) ++ []) ++ []) ++ (([] ++ []) ++ (([] ++ []) ++ [])))
def body_law_alike (R : FnD) : MS :=
    (dSeq (dIfS (dTB (dIsa ["list", "tuple"] (dV 1)))
    (dSeq (dIfS (dOrT (dTB (d2 gNe (dIsa ["list"] (dV 0)) (dIsa ["list"] (dV 1)))) (dTB (d2 gNe (dIsa ["tuple"] (dV 0)) (dIsa ["tuple"] (dV 1)))))
    (dRet (dC (.bl false))) dSkip)
    (dRet (dAnd (d2 gEq (dCallS [none] gLen (dCons (dV 0) dNil)) (dCallS [none] gLen (dCons (dV 1) dNil))) (dCallS [none] gAll (dCons (dLc [2, 3] (dZip (dCons (dV 0) (dCons (dV 1) dNil))) (gTp [2, 3]) dYes (dFn [none, none] R (dCons (dV 2) (dCons (dV 3) dNil)))) dNil))))) dSkip)
    (dSeq (dIfS (dOrT (dTB (dIsa ["bool"] (dV 1))) (dTB (dIsa ["bool"] (dV 0))))
    (dRet (dAnd (dIsa ["bool"] (dV 1)) (dAnd (dIsa ["bool"] (dV 0)) (d2 gEq (dV 0) (dV 1))))) dSkip)
    (dSeq (dIfS (dTB (dIsa ["int"] (dV 1)))
    (dRet (dAnd (dIsa ["int"] (dV 0)) (d2 gEq (dV 0) (dV 1)))) dSkip)
    (dRet (d2 gEq (dV 0) (dV 1))))))
def F_law_alike : Nat → FnD
  | 0 => fun _ => none
  | n + 1 => fnD 4 2 a_law_alike (body_law_alike (F_law_alike n))
theorem cal_law_alike {P : Program} {w : World} {K : PySem.W.Frag} {mg : Str → Option Value} {base : Heap} (T : Tops mg) (U : Xs K mg) (D : Def K mg "_law_alike" s_law_alike p_law_alike)  : ∀ n, Cal P w K mg base (n + 0) "_law_alike" p_law_alike (F_law_alike n)
  | 0 => cal_none D
  | n + 1 => by
    have c_self := cal_law_alike (P := P) (w := w) (base := base) T U D  n
    have e : n + 1 + 0 = (n + 0) + 1 := by omega
    rw [e]
    exact cal_mk (k := n + 0) D sc_law_alike fun f cdv A outer s H E hr =>
    (vss_cons (vs_if (vt_val (ve_isa2 (by rfl) T.isinstance (ve_var (pv 1)) (pe_bltn (v := .ty "list") (by rfl) T.list b_list rfl) (pe_bltn (v := .ty "tuple") (by rfl) T.tuple b_tuple rfl))) (vss_cons (vs_if (vt_bool (vw_or (vt_cmp (op_neD hr.units) impNe (ve_isa (by rfl) T.isinstance (ve_var (pv 0)) (pe_bltn (v := .ty "list") (by rfl) T.list b_list rfl)) (ve_isa (by rfl) T.isinstance (ve_var (pv 1)) (pe_bltn (v := .ty "list") (by rfl) T.list b_list rfl)) (nomark _)) (vw_or1 (vt_cmp (op_neD hr.units) impNe (ve_isa (by rfl) T.isinstance (ve_var (pv 0)) (pe_bltn (v := .ty "tuple") (by rfl) T.tuple b_tuple rfl)) (ve_isa (by rfl) T.isinstance (ve_var (pv 1)) (pe_bltn (v := .ty "tuple") (by rfl) T.tuple b_tuple rfl)) (nomark _))))) (vss_one (vs_ret ve_bl)) vss_nil)
    (vss_one (vs_ret (ve_and (ve_cmp (op_eqD hr.units) impEq (ve_callS call_lenA sLen (by rfl) T.len b_len (vio_cons (ve_var (pv 0)) vio_nil)) (ve_callS call_lenA sLen (by rfl) T.len b_len (vio_cons (ve_var (pv 1)) vio_nil)) (nomark _)) (ve_one (ve_callS (cr_all rfl) sAll (by rfl) T.all b_all (vio_cons (ve_lc (own := [("one", 2), ("other", 3)]) rfl sc_law_alike.nd (vi_zip (by rfl) T.zip (va_cons (ve_var (pv 0)) (va_cons (ve_var (pv 1)) va_nil))) (blkOk_by (own := [("one", 2), ("other", 3)]) (N := N_law_alike) (sc := defScope s_law_alike) (by decide +kernel)) (fun _ _ _ _ _ => (vg_tup rfl (vgs_cons (pg_name (i := 2) sc_law_alike.nd rfl (by first | exact .inl rfl | exact .inr rfl)) (vgs_cons (pg_name (i := 3) sc_law_alike.nd rfl (by first | exact .inl rfl | exact .inr rfl)) vgs_nil)))) (fun _ _ _ _ _ => vts_nil) (fun _ _ _ _ _ => (ve_fn c_self hr (by rfl) takesF (vio_cons (ve_var (pv 2)) (vio_cons (ve_var (pv 3)) vio_nil))))) vio_nil))))))) vss_nil)
    (vss_cons (vs_if (vt_bool (vw_or (vt_val (ve_isa (by rfl) T.isinstance (ve_var (pv 1)) (pe_bltn (v := .ty "bool") (by rfl) T.bool b_bool rfl))) (vw_or1 (vt_val (ve_isa (by rfl) T.isinstance (ve_var (pv 0)) (pe_bltn (v := .ty "bool") (by rfl) T.bool b_bool rfl)))))) (vss_one (vs_ret (ve_and (ve_isa (by rfl) T.isinstance (ve_var (pv 1)) (pe_bltn (v := .ty "bool") (by rfl) T.bool b_bool rfl)) (ve_and (ve_isa (by rfl) T.isinstance (ve_var (pv 0)) (pe_bltn (v := .ty "bool") (by rfl) T.bool b_bool rfl)) (ve_one (ve_cmp (op_eqD hr.units) impEq (ve_var (pv 0)) (ve_var (pv 1)) (nomark _))))))) vss_nil)
    (vss_cons (vs_if (vt_val (ve_isa (by rfl) T.isinstance (ve_var (pv 1)) (pe_bltn (v := .ty "int") (by rfl) T.int b_int rfl))) (vss_one (vs_ret (ve_and (ve_isa (by rfl) T.isinstance (ve_var (pv 0)) (pe_bltn (v := .ty "int") (by rfl) T.int b_int rfl)) (ve_one (ve_cmp (op_eqD hr.units) impEq (ve_var (pv 0)) (ve_var (pv 1)) (nomark _)))))) vss_nil)
    (vss_one (vs_ret (ve_cmp (op_eqD hr.units) impEq (ve_var (pv 0)) (ve_var (pv 1)) (nomark _)))))))
abbrev s_law_copied : Stmt := topS 36
abbrev N_law_copied : List Str := ["thing", "one"]
abbrev p_law_copied : List Str := ["thing"]
theorem sc_law_copied : FnScope N_law_copied p_law_copied (defScope s_law_copied) := ⟨rfl, rfl, rfl, by decide +kernel, rfl, by decide +kernel, by decide +kernel⟩
abbrev a_law_copied : List Nat := (([] ++ []) ++ (([] ++ []) ++ []))
def body_law_copied (R : FnD) : MS :=
    (dSeq (dIfS (dTB (dIsa ["list"] (dV 0)))
    (dRet (dLc [1] (dItems (dV 0)) (gNm 1) dYes (dFn [none] R (dCons (dV 1) dNil)))) dSkip)
    (dSeq (dIfS (dTB (dIsa ["tuple"] (dV 0)))
    (dRet (dCall gTuple (dCons (dLc [1] (dItems (dV 0)) (gNm 1) dYes (dFn [none] R (dCons (dV 1) dNil))) dNil))) dSkip)
    (dRet (dV 0))))
def F_law_copied : Nat → FnD
  | 0 => fun _ => none
  | n + 1 => fnD 2 1 a_law_copied (body_law_copied (F_law_copied n))
theorem cal_law_copied {P : Program} {w : World} {K : PySem.W.Frag} {mg : Str → Option Value} {base : Heap} (T : Tops mg) (U : Xs K mg) (D : Def K mg "_law_copied" s_law_copied p_law_copied)  : ∀ n, Cal P w K mg base (n + 0) "_law_copied" p_law_copied (F_law_copied n)
  | 0 => cal_none D
  | n + 1 => by
    have c_self := cal_law_copied (P := P) (w := w) (base := base) T U D  n
    have e : n + 1 + 0 = (n + 0) + 1 := by omega
    rw [e]
    exact cal_mk (k := n + 0) D sc_law_copied fun f cdv A outer s H E hr =>
    (vss_cons (vs_if (vt_val (ve_isa (by rfl) T.isinstance (ve_var (pv 0)) (pe_bltn (v := .ty "list") (by rfl) T.list b_list rfl))) (vss_one (vs_ret (ve_lc (own := [("one", 1)]) rfl sc_law_copied.nd (vi_seq (ve_var (pv 0))) (blkOk_by (own := [("one", 1)]) (N := N_law_copied) (sc := defScope s_law_copied) (by decide +kernel)) (fun _ _ _ _ _ => (vg_name (pg_name (i := 1) sc_law_copied.nd rfl (by first | exact .inl rfl | exact .inr rfl)))) (fun _ _ _ _ _ => vts_nil) (fun _ _ _ _ _ => (ve_fn c_self hr (by rfl) takesF (vio_cons (ve_var (pv 1)) vio_nil)))))) vss_nil)
    (vss_cons (vs_if (vt_val (ve_isa (by rfl) T.isinstance (ve_var (pv 0)) (pe_bltn (v := .ty "tuple") (by rfl) T.tuple b_tuple rfl))) (vss_one (vs_ret (ve_callTy call_tuple_of impTuple (by rfl) T.tuple b_tuple (va_cons (ve_lc (own := [("one", 1)]) rfl sc_law_copied.nd (vi_seq (ve_var (pv 0))) (blkOk_by (own := [("one", 1)]) (N := N_law_copied) (sc := defScope s_law_copied) (by decide +kernel)) (fun _ _ _ _ _ => (vg_name (pg_name (i := 1) sc_law_copied.nd rfl (by first | exact .inl rfl | exact .inr rfl)))) (fun _ _ _ _ _ => vts_nil) (fun _ _ _ _ _ => (ve_fn c_self hr (by rfl) takesF (vio_cons (ve_var (pv 1)) vio_nil)))) va_nil)))) vss_nil)
    (vss_one (vs_ret (ve_var (pv 0))))))
abbrev s_law_shaped : Stmt := topS 37
abbrev N_law_shaped : List Str := ["pot", "many", "way", "ties", "a", "b"]
abbrev p_law_shaped : List Str := ["pot", "many"]
theorem sc_law_shaped : FnScope N_law_shaped p_law_shaped (defScope s_law_shaped) := ⟨rfl, rfl, rfl, by decide +kernel, rfl, by decide +kernel, by decide +kernel⟩
abbrev a_law_shaped : List Nat := ([2] ++ (([] ++ []) ++ ([3] ++ (([4] ++ ([5] ++ ([] ++ []))) ++ []))))
def body_law_shaped : MS :=
    (dSeq (dSet 2 (dFn [some 0, none] F_law_take (dIO 0 (dCons (dC (.int 8)) dNil))))
    (dSeq (dIfS (dTB (d2 (gCmp cLt) (dV 2) (dC (.int 4))))
    (dRet (dFn [some 0, none, none, none] F_law_web (dIO 0 (dCons (dV 1) (dCons (dFn [some 0, none] F_law_take (dIO 0 (dCons (dC (.int 12)) dNil))) (dCons (dFz (dLst (dCons (dC (.int 0)) (dCons (dC (.int 0)) dNil)))) dNil)))))) dSkip)
    (dSeq (dSet 3 (dLst dNil))
    (dSeq (dFor (dRange1 (dCons (dV 1) dNil)) (gNm 4)
    (dFor (dRange2 (dCons (d2 gAdd (dV 4) (dC (.int 1))) (dCons (dV 1) dNil))) (gNm 5)
    (dIfS (dTB (d2 gIx (dLst (dCons (dC (.bl true)) (dCons (d2 (gIn false) (d2 gSub (dV 5) (dV 4)) (dLst (dCons (dC (.int 1)) (dCons (d2 gSub (dV 1) (dC (.int 1))) dNil)))) (dCons (d2 gEq (dV 5) (d2 gAdd (dV 4) (dC (.int 1)))) (dCons (d2 gEq (dV 4) (dC (.int 0))) dNil))))) (d2 gSub (dV 2) (dC (.int 4)))))
    (dDrop (dMt 3 gApp (dCons (dTup (dCons (dV 4) (dCons (dV 5) (dCons (dC (.int 1)) dNil)))) dNil))) dSkip)))
    (dRet (dTup (dCons (dV 1) (dCons (dCall gTuple (dCons (dF 3) dNil)) dNil))))))))
def F_law_shaped : FnD := fnD 6 2 a_law_shaped body_law_shaped
theorem cal_law_shaped {P : Program} {w : World} {K : PySem.W.Frag} {mg : Str → Option Value} {base : Heap} (T : Tops mg) (U : Xs K mg) (D : Def K mg "_law_shaped" s_law_shaped p_law_shaped) (c_law_take : Cal P w K mg base 1 "_law_take" p_law_take F_law_take) (c_law_web : Cal P w K mg base 3 "_law_web" p_law_web F_law_web) : Cal P w K mg base 4 "_law_shaped" p_law_shaped F_law_shaped :=
  cal_mk (k := 3) D sc_law_shaped fun f cdv A outer s H E hr =>
    (vss_cons (vs_set (i := 2) sc_law_shaped.nd rfl (by first | exact .inl rfl | exact .inr rfl) (ve_fn (c_law_take.mono (by decide)) hr (by rfl) (L2N.takes_of rfl rfl rfl rfl) (vio_slot (pv 0) (vio_cons ve_int vio_nil))))
    (vss_cons (vs_if (vt_cmp op_ltC (impCmp cLt) (ve_var (pv 2)) ve_int (nomark _)) (vss_one (vs_ret (ve_fn (c_law_web.mono (by decide)) hr (by rfl) (L2N.takes_of rfl rfl rfl rfl) (vio_slot (pv 0) (vio_cons (ve_var (pv 1)) (vio_cons (ve_fn (c_law_take.mono (by decide)) hr (by rfl) (L2N.takes_of rfl rfl rfl rfl) (vio_slot (pv 0) (vio_cons ve_int vio_nil))) (vio_cons (ve_fz (ve_lst (va_cons ve_int (va_cons ve_int va_nil)))) vio_nil))))))) vss_nil)
    (vss_cons (vs_set (i := 3) sc_law_shaped.nd rfl (by first | exact .inl rfl | exact .inr rfl) (ve_lst va_nil))
    (vss_cons (vs_for (passes_of rfl) rfl (vi_range1 (by rfl) T.range (va_cons (ve_var (pv 1)) va_nil)) (vg_name (pg_name (i := 4) sc_law_shaped.nd rfl (by first | exact .inl rfl | exact .inr rfl)))
    (vss_one (vs_for (passes_of rfl) rfl (vi_range2 (by rfl) T.range (va_cons (ve_op op_add3 impAdd (ve_var (pv 4)) ve_int) (va_cons (ve_var (pv 1)) va_nil))) (vg_name (pg_name (i := 5) sc_law_shaped.nd rfl (by first | exact .inl rfl | exact .inr rfl)))
    (vss_one (vs_if (vt_val (ve_ix (ve_lst (va_cons ve_bl (va_cons (ve_cmp (op_inD (room65 hr)) impIn (ve_op op_sub impSub (ve_var (pv 5)) (ve_var (pv 4))) (ve_lst (va_cons ve_int (va_cons (ve_op op_sub impSub (ve_var (pv 1)) ve_int) va_nil))) (by rfl)) (va_cons (ve_cmp (op_eqD hr.units) impEq (ve_var (pv 5)) (ve_op op_add3 impAdd (ve_var (pv 4)) ve_int) (nomark _)) (va_cons (ve_cmp (op_eqD hr.units) impEq (ve_var (pv 4)) ve_int (nomark _)) va_nil))))) (ve_op op_sub impSub (ve_var (pv 2)) ve_int))) (vss_one (vs_expr (ve_mt (name := "append") PySem.F.slot_list_append PySem.F.type_list_append mt_append impApp (pv 3) (va_cons (ve_tup (va_cons (ve_var (pv 4)) (va_cons (ve_var (pv 5)) (va_cons ve_int va_nil)))) va_nil)))) vss_nil)))))
    (vss_one (vs_ret (ve_tup (va_cons (ve_var (pv 1)) (va_cons (ve_callTy call_tuple_of impTuple (by rfl) T.tuple b_tuple (va_cons (ve_frz (pv 3)) va_nil)) va_nil)))))))))
abbrev s_law_least : Stmt := topS 38
abbrev N_law_least : List Str := ["web", "some", "ties", "order"]
abbrev p_law_least : List Str := ["web"]
theorem sc_law_least : FnScope N_law_least p_law_least (defScope s_law_least) := ⟨rfl, rfl, rfl, by decide +kernel, rfl, by decide +kernel, by decide +kernel⟩
abbrev a_law_least : List Nat := ([1] ++ ([2, 3] ++ []))
def body_law_least : MS :=
    (dSeq (dSet 1 (dLc [3] (dItM (dFn [none] F_law_orders (dCons (dAt 0 (dC (.int 0))) dNil))) (gNm 3) dYes (dTup (dCons (d2 gIx (dFn [none, some 3] F_law_renamed (dCons (dV 0) (dIO 3 dNil))) (dC (.int 1))) (dCons (dM 3) dNil)))))
    (dSeq (dAsg (dCall gMinO (dCons (dM 1) dNil)) (gSq [2, 3]))
    (dRet (dTup (dCons (dTup (dCons (dAt 0 (dC (.int 0))) (dCons (dV 2) dNil))) (dCons (dM 3) dNil))))))
def F_law_least : FnD := fnD 4 1 a_law_least body_law_least
theorem cal_law_least {P : Program} {w : World} {K : PySem.W.Frag} {mg : Str → Option Value} {base : Heap} (T : Tops mg) (U : Xs K mg) (D : Def K mg "_law_least" s_law_least p_law_least) (c_law_orders : Cal P w K mg base 1 "_law_orders" p_law_orders F_law_orders) (c_law_renamed : Cal P w K mg base 1 "_law_renamed" p_law_renamed F_law_renamed) : Cal P w K mg base 2 "_law_least" p_law_least F_law_least :=
  cal_mk (k := 1) D sc_law_least fun f cdv A outer s H E hr =>
    (vss_cons (vs_setLcM (i := 1) (own := [("order", 3)]) rfl sc_law_least.nd rfl rfl (sw_true rfl rfl rfl (by decide +kernel)) (vi_mv (ve_fn (c_law_orders.mono (by decide)) hr (by rfl) (L2N.takes_of rfl rfl rfl rfl) (vio_cons (ve_at (hu_of hr) (pv 0) ve_int) vio_nil))) (blkOk_by (own := [("order", 3)]) (N := N_law_least) (sc := defScope s_law_least) (by decide +kernel)) (fun _ _ _ _ _ => (vg_name (pg_name (i := 3) sc_law_least.nd rfl (by first | exact .inl rfl | exact .inr rfl)))) (fun _ _ _ _ _ => vts_nil) (fun _ _ _ _ _ => (ve_tup (va_cons (ve_ix (ve_fn (c_law_renamed.mono (by decide)) hr (by rfl) takesF (vio_cons (ve_var (pv 0)) (vio_slot (pv 3) vio_nil))) ve_int) (va_cons (ve_mov (pv 3)) va_nil)))))
    (vss_cons (vs_asg (ve_callB (cr_minD rfl hr.units) impMinO (by rfl) T.min b_min (va_cons (ve_mov (pv 1)) va_nil)) (vg_seq rfl (vgs_cons (pg_name (i := 2) sc_law_least.nd rfl (by first | exact .inl rfl | exact .inr rfl)) (vgs_cons (pg_name (i := 3) sc_law_least.nd rfl (by first | exact .inl rfl | exact .inr rfl)) vgs_nil))))
    (vss_one (vs_ret (ve_tup (va_cons (ve_tup (va_cons (ve_at (hu_of hr) (pv 0) ve_int) (va_cons (ve_var (pv 2)) va_nil))) (va_cons (ve_mov (pv 3)) va_nil)))))))
abbrev s_law_refused : Stmt := topS 39
abbrev N_law_refused : List Str := ["web", "plain", "caught", "e"]
abbrev p_law_refused : List Str := ["web", "plain"]
theorem sc_law_refused : FnScope N_law_refused p_law_refused (defScope s_law_refused) := ⟨rfl, rfl, rfl, by decide +kernel, rfl, by decide +kernel, by decide +kernel⟩
abbrev a_law_refused : List Nat := ([2] ++ (([] ++ ([3] ++ [2])) ++ (([] ++ []) ++ (([] ++ []) ++ []))))
def body_law_refused : MS :=
    (dSeq (dSet 2 (dC .non))
    (dSeq (dTryK 3 2 yes_LoneError
    (dDrop (dFn [none] F_least_web (dCons (dV 0) dNil))))
    (dSeq (dIfS (dTB (dIsy exAll isT ["Apart", "BadLengths", "BadWeb", "NoChoice", "NoPlace", "NoRow", "NoSide", "NoText", "NothingDone"] (dV 2)))
    (dRet (dC (.bl false))) dSkip)
    (dSeq (dIfS (dOrT (dTB (dIsy exAll isT ["NoTie", "NotLone", "NoWay", "Tied"] (dV 2))) (dNotT (dTB (dIsy exAll isT ["ValueError"] (dV 2)))))
    (dRet (dC (.bl false))) dSkip)
    (dRet (dAnd (d2 gEq (dIsy exAll isT ["TooMany"] (dV 2)) (dV 1)) (d2 gEq (dIsy exAll isT ["NotPlain"] (dV 2)) (dNot (dV 1)))))))))
def F_law_refused : FnD := fnD 4 2 a_law_refused body_law_refused
theorem cal_law_refused {P : Program} {w : World} {K : PySem.W.Frag} {mg : Str → Option Value} {base : Heap} (T : Tops mg) (U : Xs K mg) (D : Def K mg "_law_refused" s_law_refused p_law_refused) (c_least_web : Cal P w K mg base 22 "least_web" p_least_web F_least_web) : Cal P w K mg base 23 "_law_refused" p_law_refused F_law_refused :=
  cal_mk (k := 22) D sc_law_refused fun f cdv A outer s H E hr =>
    (vss_cons (vs_set (i := 2) sc_law_refused.nd rfl (by first | exact .inl rfl | exact .inr rfl) ve_non)
    (vss_cons (vs_tryK (i := 3) (j := 2) rfl rfl rfl sc_law_refused.nd rfl rfl rfl rfl (by decide) ⟨by rfl, by decide, .inl U.c_LoneError.choose_spec⟩ U.yes_LoneError (fun c hc => U.all c (sub_LoneError c hc)) (fun W' pn xe tk _ => (vss_one (vs_expr (ve_fn (c_least_web.mono (by decide)) hr (by rfl) tk (vio_cons (ve_var (pv 0)) vio_nil))))))
    (vss_cons (vs_if (vt_val (ve_isyN U.all U.tab (by rfl) T.isinstance (ve_var (pv 2)) (ces_cons (ce_own U.c_Apart.choose_spec (by rfl)) (ces_cons (ce_own U.c_BadLengths.choose_spec (by rfl)) (ces_cons (ce_own U.c_BadWeb.choose_spec (by rfl)) (ces_cons (ce_own U.c_NoChoice.choose_spec (by rfl)) (ces_cons (ce_own U.c_NoPlace.choose_spec (by rfl)) (ces_cons (ce_own U.c_NoRow.choose_spec (by rfl)) (ces_cons (ce_own U.c_NoSide.choose_spec (by rfl)) (ces_cons (ce_own U.c_NoText.choose_spec (by rfl)) (ces_cons (ce_own U.c_NothingDone.choose_spec (by rfl)) ces_nil))))))))))) (vss_one (vs_ret ve_bl)) vss_nil)
    (vss_cons (vs_if (vt_bool (vw_or (vt_val (ve_isyN U.all U.tab (by rfl) T.isinstance (ve_var (pv 2)) (ces_cons (ce_own U.c_NoTie.choose_spec (by rfl)) (ces_cons (ce_own U.c_NotLone.choose_spec (by rfl)) (ces_cons (ce_own U.c_NoWay.choose_spec (by rfl)) (ces_cons (ce_own U.c_Tied.choose_spec (by rfl)) ces_nil)))))) (vw_or1 (vt_not (vt_val (ve_isy1 U.all U.tab (by rfl) T.isinstance (ve_var (pv 2)) (ce_blt T.ValueError b_ValueError (by rfl)))))))) (vss_one (vs_ret ve_bl)) vss_nil)
    (vss_one (vs_ret (ve_and (ve_cmp (op_eqD hr.units) impEq (ve_isy1 U.all U.tab (by rfl) T.isinstance (ve_var (pv 2)) (ce_own U.c_TooMany.choose_spec (by rfl))) (ve_var (pv 1)) (nomark _)) (ve_one (ve_cmp (op_eqD hr.units) impEq (ve_isy1 U.all U.tab (by rfl) T.isinstance (ve_var (pv 2)) (ce_own U.c_NotPlain.choose_spec (by rfl))) (ve_not (ve_var (pv 1))) (nomark _))))))))))
abbrev s_law_longer : Stmt := topS 40
abbrev N_law_longer : List Str := ["pot", "web", "at", "a", "b", "length", "other"]
abbrev p_law_longer : List Str := ["pot", "web"]
theorem sc_law_longer : FnScope N_law_longer p_law_longer (defScope s_law_longer) := ⟨rfl, rfl, rfl, by decide +kernel, rfl, by decide +kernel, by decide +kernel⟩
abbrev a_law_longer : List Nat := ([2] ++ ([3, 4, 5] ++ ([6] ++ [])))
def body_law_longer : MS :=
    (dSeq (dSet 2 (dFn [some 0, none] F_law_take (dIO 0 (dCons (dCallS [none] gLen (dCons (dAt 1 (dC (.int 1))) dNil)) dNil))))
    (dSeq (dAsg (d2 gIx (dAt 1 (dC (.int 1))) (dV 2)) (gSq [3, 4, 5]))
    (dSeq (dSet 6 (d2 gIx (dLst (dCons (dC (.int 2)) (dCons (d2 gPow (dC (.int 10)) (dC (.int 30))) dNil))) (dFn [some 0, none] F_law_take (dIO 0 (dCons (dC (.int 2)) dNil)))))
    (dRet (dTup (dCons (dAt 1 (dC (.int 0))) (dCons (d2 gAdd (d2 gAdd (dSl (dAt 1 (dC (.int 1))) dNo (dEnd (dV 2))) (dTup (dCons (dTup (dCons (dV 3) (dCons (dV 4) (dCons (dV 6) dNil)))) dNil))) (dSl (dAt 1 (dC (.int 1))) (dEnd (d2 gAdd (dV 2) (dC (.int 1)))) dNo)) dNil)))))))
def F_law_longer : FnD := fnD 7 2 a_law_longer body_law_longer
theorem cal_law_longer {P : Program} {w : World} {K : PySem.W.Frag} {mg : Str → Option Value} {base : Heap} (T : Tops mg) (U : Xs K mg) (D : Def K mg "_law_longer" s_law_longer p_law_longer) (c_law_take : Cal P w K mg base 1 "_law_take" p_law_take F_law_take) : Cal P w K mg base 2 "_law_longer" p_law_longer F_law_longer :=
  cal_mk (k := 1) D sc_law_longer fun f cdv A outer s H E hr =>
    (vss_cons (vs_set (i := 2) sc_law_longer.nd rfl (by first | exact .inl rfl | exact .inr rfl) (ve_fn (c_law_take.mono (by decide)) hr (by rfl) (L2N.takes_of rfl rfl rfl rfl) (vio_slot (pv 0) (vio_cons (ve_callS call_lenA sLen (by rfl) T.len b_len (vio_cons (ve_at (hu_of hr) (pv 1) ve_int) vio_nil)) vio_nil))))
    (vss_cons (vs_asg (ve_ix (ve_at (hu_of hr) (pv 1) ve_int) (ve_var (pv 2))) (vg_seq rfl (vgs_cons (pg_name (i := 3) sc_law_longer.nd rfl (by first | exact .inl rfl | exact .inr rfl)) (vgs_cons (pg_name (i := 4) sc_law_longer.nd rfl (by first | exact .inl rfl | exact .inr rfl)) (vgs_cons (pg_name (i := 5) sc_law_longer.nd rfl (by first | exact .inl rfl | exact .inr rfl)) vgs_nil)))))
    (vss_cons (vs_set (i := 6) sc_law_longer.nd rfl (by first | exact .inl rfl | exact .inr rfl) (ve_ix (ve_lst (va_cons ve_int (va_cons (ve_op op_pow impPow ve_int ve_int) va_nil))) (ve_fn (c_law_take.mono (by decide)) hr (by rfl) (L2N.takes_of rfl rfl rfl rfl) (vio_slot (pv 0) (vio_cons ve_int vio_nil)))))
    (vss_one (vs_ret (ve_tup (va_cons (ve_at (hu_of hr) (pv 1) ve_int) (va_cons (ve_op op_add3 impAdd (ve_op op_add3 impAdd (ve_slice (ve_at (hu_of hr) (pv 1) ve_int) vo_none (vo_some (ve_var (pv 2)))) (ve_tup (va_cons (ve_tup (va_cons (ve_var (pv 3)) (va_cons (ve_var (pv 4)) (va_cons (ve_var (pv 6)) va_nil)))) va_nil))) (ve_slice (ve_at (hu_of hr) (pv 1) ve_int) (vo_some (ve_op op_add3 impAdd (ve_var (pv 2)) ve_int)) vo_none)) va_nil))))))))
abbrev s_law : Stmt := topS 41
abbrev N_law : List Str := ["script", "pot", "turn", "web", "due", "handed", "found", "great"]
abbrev p_law : List Str := ["script"]
theorem sc_law : FnScope N_law p_law (defScope s_law) := ⟨rfl, rfl, rfl, by decide +kernel, rfl, by decide +kernel, by decide +kernel⟩
abbrev a_law : List Nat := ([1] ++ (([2] ++ ([3] ++ ([4] ++ ([5] ++ ([6] ++ (([] ++ []) ++ ([] ++ ([] ++ (([] ++ []) ++ ([7] ++ (([] ++ []) ++ ([] ++ [])))))))))))) ++ []))
def body_law : MS :=
    (dSeq (dSet 1 (dFn [none, none] F_law_draws (dCons (dV 0) (dCons (dC (.int 400)) dNil))))
    (dSeq (dFor (dRange1 (dCons (d2 gAdd (dC (.int 1)) (dCallS [none, none] gMin (dCons (dC (.int 2)) (dCons (dCallS [none] gLen (dCons (dV 0) dNil)) dNil)))) dNil)) (gNm 2)
    (dSeq (dSet 3 (dFn [some 1, none] F_law_shaped (dIO 1 (dCons (d2 gAdd (dC (.int 1)) (dFn [some 1, none] F_law_take (dIO 1 (dCons (dC (.int 6)) dNil)))) dNil))))
    (dSeq (dSet 4 (dFn [none] F_law_least (dCons (dV 3) dNil)))
    (dSeq (dPreS 4 (dSet 5 (dFn [none] (F_law_copied 20) (dCons (dV 3) dNil))))
    (dSeq (dSet 6 (dFn [none] F_least_web (dCons (dF 5) dNil)))
    (dSeq (dIfS (dOrT (dNotT (dTB (dLend 6 (dFn [none, none] (F_law_alike 20) (dCons (dV 6) (dCons (dV 4) dNil)))))) (dTB (d2 gNe (dF 5) (dV 3))))
    (dRet (dC (.bl false))) dSkip)
    (dSeq (dDrop (dMtP 6 [1] gRev dNil))
    (dSeq (dDrop (dMtP 6 [1] gApp (dCons (dC (.int 0)) dNil)))
    (dSeq (dIfS (dNotT (dTB (dFn [none, none] (F_law_alike 20) (dCons (dFz (dFn [none] F_least_web (dCons (dF 5) dNil))) (dCons (dV 4) dNil)))))
    (dRet (dC (.bl false))) dSkip)
    (dSeq (dSet 7 (dFn [some 1, none] F_law_shaped (dIO 1 (dCons (d2 gAdd (dC (.int 7)) (dFn [some 1, none] F_law_take (dIO 1 (dCons (dC (.int 3)) dNil)))) dNil))))
    (dSeq (dIfS (dOrT (dNotT (dTB (dFn [none, none] F_law_refused (dCons (dV 7) (dCons (dC (.bl true)) dNil))))) (dNotT (dTB (dFn [none, none] F_law_refused (dCons (dFn [some 1, none] F_law_longer (dIO 1 (dCons (dV 7) dNil))) (dCons (dC (.bl false)) dNil))))))
    (dRet (dC (.bl false))) dSkip)
    (dIfS (dAndT (dTB (d2 (gCmp cGt) (dAt 3 (dC (.int 0))) (dC (.int 1)))) (dNotT (dTB (dFn [none, none] F_law_refused (dCons (dFn [some 1, none] F_law_longer (dIO 1 (dCons (dV 3) dNil))) (dCons (dC (.bl false)) dNil))))))
    (dRet (dC (.bl false))) dSkip))))))))))))
    (dRet (dC (.bl true)))))
def F_law : FnD := fnD 8 1 a_law body_law
theorem cal_law {P : Program} {w : World} {K : PySem.W.Frag} {mg : Str → Option Value} {base : Heap} (T : Tops mg) (U : Xs K mg) {f : Addr} {fd : FuncData} (D : Fun K "law" "law" s_law f fd) (c_law_longer : Cal P w K mg base 2 "_law_longer" p_law_longer F_law_longer) (c_law_refused : Cal P w K mg base 23 "_law_refused" p_law_refused F_law_refused) (c_law_take : Cal P w K mg base 1 "_law_take" p_law_take F_law_take) (c_law_shaped : Cal P w K mg base 4 "_law_shaped" p_law_shaped F_law_shaped) (c_least_web : Cal P w K mg base 22 "least_web" p_least_web F_least_web) (c_law_alike : Cal P w K mg base 20 "_law_alike" p_law_alike (F_law_alike 20)) (c_law_copied : Cal P w K mg base 20 "_law_copied" p_law_copied (F_law_copied 20)) (c_law_least : Cal P w K mg base 2 "_law_least" p_law_least F_law_least) (c_law_draws : Cal P w K mg base 1 "_law_draws" p_law_draws F_law_draws) : FnOk P w K mg base (L2N.CX P w) 24 f fd p_law (spOf K mg F_law) :=
  fn_ok (k := 23) D sc_law fun cdv A outer s H E hr =>
    (vss_cons (vs_set (i := 1) sc_law.nd rfl (by first | exact .inl rfl | exact .inr rfl) (ve_fn (c_law_draws.mono (by decide)) hr (by rfl) (L2N.takes_of rfl rfl rfl rfl) (vio_cons (ve_var (pv 0)) (vio_cons ve_int vio_nil))))
    (vss_cons (vs_for (passes_of rfl) rfl (vi_range1 (by rfl) T.range (va_cons (ve_op op_add3 impAdd ve_int (ve_callS (cr_minA rfl hr.units) sMin (by rfl) T.min b_min (vio_cons ve_int (vio_cons (ve_callS call_lenA sLen (by rfl) T.len b_len (vio_cons (ve_var (pv 0)) vio_nil)) vio_nil)))) va_nil)) (vg_name (pg_name (i := 2) sc_law.nd rfl (by first | exact .inl rfl | exact .inr rfl)))
    (vss_cons (vs_set (i := 3) sc_law.nd rfl (by first | exact .inl rfl | exact .inr rfl) (ve_fn (c_law_shaped.mono (by decide)) hr (by rfl) (L2N.takes_of rfl rfl rfl rfl) (vio_slot (pv 1) (vio_cons (ve_op op_add3 impAdd ve_int (ve_fn (c_law_take.mono (by decide)) hr (by rfl) (L2N.takes_of rfl rfl rfl rfl) (vio_slot (pv 1) (vio_cons ve_int vio_nil)))) vio_nil))))
    (vss_cons (vs_set (i := 4) sc_law.nd rfl (by first | exact .inl rfl | exact .inr rfl) (ve_fn (c_law_least.mono (by decide)) hr (by rfl) (L2N.takes_of rfl rfl rfl rfl) (vio_cons (ve_var (pv 3)) vio_nil)))
    (vss_cons (vs_pre 4 (vs_set (i := 5) sc_law.nd rfl (by first | exact .inl rfl | exact .inr rfl) (ve_fn (c_law_copied.mono (by decide)) hr (by rfl) (L2N.takes_of rfl rfl rfl rfl) (vio_cons (ve_var (pv 3)) vio_nil))))
    (vss_cons (vs_set (i := 6) sc_law.nd rfl (by first | exact .inl rfl | exact .inr rfl) (ve_fn (c_least_web.mono (by decide)) hr (by rfl) (L2N.takes_of rfl rfl rfl rfl) (vio_cons (ve_frz (pv 5)) vio_nil)))
    (vss_cons (vs_if (vt_bool (vw_or (vt_not (vt_val (ve_lend 6 (ve_fn (c_law_alike.mono (by decide)) hr (by rfl) (L2N.takes_of rfl rfl rfl rfl) (vio_cons (ve_var (pv 6)) (vio_cons (ve_var (pv 4)) vio_nil)))))) (vw_or1 (vt_cmp (op_neD hr.units) impNe (ve_frz (pv 5)) (ve_var (pv 3)) (nomark _))))) (vss_one (vs_ret ve_bl)) vss_nil)
    (vss_cons (vs_expr (ve_mtP0 (p := [1]) (name := "reverse") PySem.F.slot_list_reverse PySem.F.type_list_reverse mt_reverse impRev (pp_ix (pp_var (pv 6)) pe_int)))
    (vss_cons (vs_expr (ve_mtP (p := [1]) (name := "append") PySem.F.slot_list_append PySem.F.type_list_append mt_append impApp (pp_ix (pp_var (pv 6)) pe_int) (va_cons ve_int va_nil)))
    (vss_cons (vs_if (vt_not (vt_val (ve_fn (c_law_alike.mono (by decide)) hr (by rfl) (L2N.takes_of rfl rfl rfl rfl) (vio_cons (ve_fz (ve_fn (c_least_web.mono (by decide)) hr (by rfl) (L2N.takes_of rfl rfl rfl rfl) (vio_cons (ve_frz (pv 5)) vio_nil))) (vio_cons (ve_var (pv 4)) vio_nil))))) (vss_one (vs_ret ve_bl)) vss_nil)
    (vss_cons (vs_set (i := 7) sc_law.nd rfl (by first | exact .inl rfl | exact .inr rfl) (ve_fn (c_law_shaped.mono (by decide)) hr (by rfl) (L2N.takes_of rfl rfl rfl rfl) (vio_slot (pv 1) (vio_cons (ve_op op_add3 impAdd ve_int (ve_fn (c_law_take.mono (by decide)) hr (by rfl) (L2N.takes_of rfl rfl rfl rfl) (vio_slot (pv 1) (vio_cons ve_int vio_nil)))) vio_nil))))
    (vss_cons (vs_if (vt_bool (vw_or (vt_not (vt_val (ve_fn (c_law_refused.mono (by decide)) hr (by rfl) (L2N.takes_of rfl rfl rfl rfl) (vio_cons (ve_var (pv 7)) (vio_cons ve_bl vio_nil))))) (vw_or1 (vt_not (vt_val (ve_fn (c_law_refused.mono (by decide)) hr (by rfl) (L2N.takes_of rfl rfl rfl rfl) (vio_cons (ve_fn (c_law_longer.mono (by decide)) hr (by rfl) (L2N.takes_of rfl rfl rfl rfl) (vio_slot (pv 1) (vio_cons (ve_var (pv 7)) vio_nil))) (vio_cons ve_bl vio_nil)))))))) (vss_one (vs_ret ve_bl)) vss_nil)
    (vss_one (vs_if (vt_bool (vw_and (vt_cmp op_gtC (impCmp cGt) (ve_at (hu_of hr) (pv 3) ve_int) ve_int (nomark _)) (vw_one (vt_not (vt_val (ve_fn (c_law_refused.mono (by decide)) hr (by rfl) (L2N.takes_of rfl rfl rfl rfl) (vio_cons (ve_fn (c_law_longer.mono (by decide)) hr (by rfl) (L2N.takes_of rfl rfl rfl rfl) (vio_slot (pv 1) (vio_cons (ve_var (pv 3)) vio_nil))) (vio_cons ve_bl vio_nil)))))))) (vss_one (vs_ret ve_bl)) vss_nil)))))))))))))
    (vss_one (vs_ret ve_bl))))
end G
set_option Elab.async false
set_option linter.all false
set_option maxRecDepth 100000
set_option maxHeartbeats 4000000
set_option autoImplicit false
noncomputable section
namespace VS
open PySem PySem.Spec L2
section
variable {α β : Type} {ρ : Env}
def W (m : Option α) (Q : α → Prop) : Prop := ∃ a, m = some a ∧ Q a
@[simp] theorem W_some {a : α} {Q : α → Prop} : W (some a) Q ↔ Q a := by
  constructor
  · rintro ⟨_, e, h⟩
    cases e
    exact h
  · exact fun h => ⟨a, rfl, h⟩
@[simp] theorem W_none {Q : α → Prop} : W none Q ↔ False := by
  constructor
  · rintro ⟨_, e, _⟩
    cases e
  · exact False.elim
@[simp] theorem W_guard {c : Prop} [Decidable c] {m : Option α} {Q : α → Prop} : W (if c then m else none) Q ↔ c ∧ W m Q := by
  by_cases h : c <;> simp [h]
theorem W_if {c : Prop} [Decidable c] {m n : Option α} {Q : α → Prop} : W (if c then m else n) Q ↔ (c → W m Q) ∧ (¬ c → W n Q) := by
  by_cases h : c <;> simp [h]
def mapQ (f : α → β) (Q : β → Prop) (a : α) : Prop := Q (f a)
@[simp] theorem mapQ_a {f : α → β} {Q : β → Prop} {a : α} : mapQ f Q a ↔ Q (f a) := .rfl
@[simp] theorem W_map {f : α → β} {m : Option α} {Q : β → Prop} : W (m.map f) Q ↔ W m (mapQ f Q) := by cases m <;> simp
def obQ (f : α → Option β) (Q : β → Prop) (a : α) : Prop := W (f a) Q
@[simp] theorem obQ_a {f : α → Option β} {Q : β → Prop} {a : α} : obQ f Q a ↔ W (f a) Q := .rfl
@[simp] theorem W_obind {f : α → Option β} {m : Option α} {Q : β → Prop} : W (m.bind f) Q ↔ W m (obQ f Q) := by cases m <;> simp
theorem W.imp {m : Option α} {Q Q' : α → Prop} (h : W m Q) (hi : ∀ a, Q a → Q' a) : W m Q' := let ⟨a, e, q⟩ := h; ⟨a, e, hi a q⟩
theorem W.eq {m : Option α} {a : α} {Q : α → Prop} (e : m = some a) (h : Q a) : W m Q := ⟨a, e, h⟩
def bQ (k : α → M β) (Q : Rv β → Prop) : Rv α → Prop
  | .ok a ρ => W (k a ρ) Q
  | .ex x ρ => Q (.ex x ρ)
@[simp] theorem bQ_ok {k : α → M β} {Q : Rv β → Prop} {a : α} : bQ k Q (.ok a ρ) ↔ W (k a ρ) Q := .rfl
@[simp] theorem bQ_ex {k : α → M β} {Q : Rv β → Prop} {x : Xc} : bQ k Q (.ex x ρ) ↔ Q (.ex x ρ) := .rfl
def bS (k : α → MS) (Q : Fl × Env → Prop) : Rv α → Prop
  | .ok a ρ => W (k a ρ) Q
  | .ex x ρ => Q (.ex x, ρ)
@[simp] theorem bS_ok {k : α → MS} {Q : Fl × Env → Prop} {a : α} : bS k Q (.ok a ρ) ↔ W (k a ρ) Q := .rfl
@[simp] theorem bS_ex {k : α → MS} {Q : Fl × Env → Prop} {x : Xc} : bS k Q (.ex x ρ) ↔ Q (.ex x, ρ) := .rfl
def sQ (g : MS) (Q : Fl × Env → Prop) : Fl × Env → Prop
  | (.nx, ρ) => W (g ρ) Q
  | r => Q r
@[simp] theorem sQ_nx {g : MS} {Q : Fl × Env → Prop} : sQ g Q (.nx, ρ) ↔ W (g ρ) Q := .rfl
@[simp] theorem sQ_rt {g : MS} {Q : Fl × Env → Prop} {d : D} : sQ g Q (.rt d, ρ) ↔ Q (.rt d, ρ) := .rfl
@[simp] theorem sQ_bk {g : MS} {Q : Fl × Env → Prop} : sQ g Q (.bk, ρ) ↔ Q (.bk, ρ) := .rfl
@[simp] theorem sQ_ct {g : MS} {Q : Fl × Env → Prop} : sQ g Q (.ct, ρ) ↔ Q (.ct, ρ) := .rfl
@[simp] theorem sQ_ex {g : MS} {Q : Fl × Env → Prop} {x : Xc} : sQ g Q (.ex x, ρ) ↔ Q (.ex x, ρ) := .rfl
@[simp] theorem W_bindM {f : M α} {k : α → M β} {Q : Rv β → Prop} : W (bindM f k ρ) Q ↔ W (f ρ) (bQ k Q) := by
  unfold bindM
  cases f ρ with
  | none => simp
  | some r => cases r <;> simp
@[simp] theorem W_bindS {f : M α} {k : α → MS} {Q : Fl × Env → Prop} : W (bindS f k ρ) Q ↔ W (f ρ) (bS k Q) := by
  unfold bindS
  cases f ρ with
  | none => simp
  | some r => cases r <;> simp
@[simp] theorem W_dSeq {g g' : MS} {Q : Fl × Env → Prop} : W (dSeq g g' ρ) Q ↔ W (g ρ) (sQ g' Q) := by
  unfold dSeq
  cases g ρ with
  | none => simp
  | some r => obtain ⟨fl, ρ'⟩ := r; cases fl <;> simp
def oK (ρ : Env) (Q : Rv α → Prop) (a : α) : Prop := Q (.ok a ρ)
@[simp] theorem oK_a {Q : Rv α → Prop} {a : α} : oK ρ Q a ↔ Q (.ok a ρ) := .rfl
@[simp] theorem W_optM {o : Option α} {Q : Rv α → Prop} : W (optM o ρ) Q ↔ W o (oK ρ Q) := by
  unfold optM
  cases o <;> simp
@[simp] theorem W_retM {a : α} {Q : Rv α → Prop} : W (retM a ρ) Q ↔ Q (.ok a ρ) := W_some
@[simp] theorem W_dC {d : D} {Q : Rv D → Prop} : W (dC d ρ) Q ↔ Q (.ok d ρ) := W_some
def oQ (Q : D → Prop) : Option D → Prop
  | some d => Q d
  | none => False
@[simp] theorem oQ_some {Q : D → Prop} {d : D} : oQ Q (some d) ↔ Q d := .rfl
@[simp] theorem oQ_none {Q : D → Prop} : oQ Q none ↔ False := .rfl
@[simp] theorem W_dV {i : Nat} {Q : Rv D → Prop} : W (dV i ρ) Q ↔ oQ (fun d => fz d = true ∧ Q (.ok d ρ)) ρ[i]? := by
  unfold dV
  cases ρ[i]? <;> simp
@[simp] theorem W_dF {i : Nat} {Q : Rv D → Prop} : W (dF i ρ) Q ↔ oQ (fun d => fz (freeze d) = true ∧ Q (.ok (freeze d) (ρ.set i (freeze d)))) ρ[i]? := by
  unfold dF
  cases ρ[i]? <;> simp
@[simp] theorem nu_ob {C : Addr} {fs : List Str} {ds : List D} : nunk (some (.ob C fs ds)) = true := rfl
@[simp] theorem W_dM {i : Nat} {Q : Rv D → Prop} : W (dM i ρ) Q ↔ oQ (fun d => nunk (some d) = true ∧ Q (.ok d (ρ.set i .unk))) ρ[i]? := by
  unfold dM
  cases ρ[i]? with
  | none => simp
  | some d => cases d <;> simp
@[simp] theorem W_d1 {g : D → Option D} {f : M D} {Q : Rv D → Prop} : W (d1 g f ρ) Q ↔ W (f ρ) (bQ (fun x => optM (g x)) Q) := W_bindM
@[simp] theorem W_d2 {g : D → D → Option D} {f h : M D} {Q : Rv D → Prop} : W (d2 g f h ρ) Q ↔ W (f ρ) (bQ (fun x => bindM h fun y => optM (g x y)) Q) := W_bindM
def tB : D → Option Bool
  | .bl b => some b
  | _ => none
@[simp] theorem tB_bl {b : Bool} : tB (.bl b) = some b := rfl
@[simp] theorem W_dTB {f : M D} {Q : Rv Bool → Prop} : W (dTB f ρ) Q ↔ W (f ρ) (bQ (fun d => optM (tB d)) Q) := by
  have : dTB f = bindM f fun d => optM (tB d) := rfl
  rw [this]
  exact W_bindM
@[simp] theorem W_dAndT {f g : M Bool} {Q : Rv Bool → Prop} : W (dAndT f g ρ) Q ↔ W (f ρ) (bQ (fun b => if b = true then g else retM false) Q) := W_bindM
@[simp] theorem W_dOrT {f g : M Bool} {Q : Rv Bool → Prop} : W (dOrT f g ρ) Q ↔ W (f ρ) (bQ (fun b => if b = true then retM true else g) Q) := W_bindM
@[simp] theorem W_dNotT {f : M Bool} {Q : Rv Bool → Prop} : W (dNotT f ρ) Q ↔ W (f ρ) (bQ (fun b => retM (!b)) Q) := W_bindM
@[simp] theorem W_dAnd {f g : M D} {Q : Rv D → Prop} : W (dAnd f g ρ) Q ↔ W (f ρ) (bQ (fun d => bindM (optM (tB d)) fun b => if b = true then g else retM (.bl false)) Q) := by
  have : dAnd f g = bindM f (fun d => bindM (optM (tB d)) fun b => if b = true then g else retM (.bl false)) := by
    rfl
  rw [this]
  exact W_bindM
@[simp] theorem W_dNot {f : M D} {Q : Rv D → Prop} : W (dNot f ρ) Q ↔ W (f ρ) (bQ (fun d => optM ((tB d).map fun b => .bl (!b))) Q) := by
  have : dNot f = bindM f (fun d => optM ((tB d).map fun b => .bl (!b))) := by
    unfold dNot d1
    congr 1
    funext d
    cases d <;> rfl
  rw [this]
  exact W_bindM
@[simp] theorem W_dChain {g g' : D → D → Option D} {a b c : M D} {Q : Rv D → Prop} : W (dChain g g' a b c ρ) Q ↔ W (a ρ) (bQ (fun x => bindM b fun y => bindM (optM ((g x y).bind tB)) fun k => if k = true then bindM c fun z => optM (g' y z) else retM (.bl false)) Q) := by
  have : dChain g g' a b c = bindM a (fun x => bindM b fun y => bindM (optM ((g x y).bind tB)) fun k => if k = true then bindM c fun z => optM (g' y z) else retM (.bl false)) := by
    unfold dChain
    congr 1
    funext x
    congr 1
    funext y
    cases g x y with
    | none => rfl
    | some d => cases d <;> rfl
  rw [this]
  exact W_bindM
@[simp] theorem W_dNil {Q : Rv (List D) → Prop} : W (dNil ρ) Q ↔ Q (.ok [] ρ) := W_some
@[simp] theorem W_dCons {f : M D} {g : M (List D)} {Q : Rv (List D) → Prop} : W (dCons f g ρ) Q ↔ W (f ρ) (bQ (fun d => bindM g fun ds => retM (d :: ds)) Q) := W_bindM
@[simp] theorem W_dTup {f : M (List D)} {Q : Rv D → Prop} : W (dTup f ρ) Q ↔ W (f ρ) (bQ (fun ds => optM (if ds.length ≤ sizeLine then some (.tup ds) else none)) Q) := W_bindM
@[simp] theorem W_dLst {f : M (List D)} {Q : Rv D → Prop} : W (dLst f ρ) Q ↔ W (f ρ) (bQ (fun ds => optM (if ds.length ≤ sizeLine then some (.lst true ds) else none)) Q) := W_bindM
@[simp] theorem W_dCall {g : List D → Option D} {f : M (List D)} {Q : Rv D → Prop} : W (dCall g f ρ) Q ↔ W (f ρ) (bQ (fun ds => optM (g ds)) Q) := W_bindM
@[simp] theorem W_dCallS {ks : List (Option Nat)} {g : List D → Option D} {f : M (List D)} {Q : Rv D → Prop} : W (dCallS ks g f ρ) Q ↔ W (f ρ) (bQ (fun ds ρ => (g (takeIO ks ds ρ).1).bind fun d => if isSc d = true then some (.ok d ρ) else none) Q) := by
  have : dCallS ks g f = bindM f (fun ds ρ => (g (takeIO ks ds ρ).1).bind fun d => if isSc d = true then some (.ok d ρ) else none) := by
    unfold dCallS
    congr 1
    funext ds ρ
    cases g (takeIO ks ds ρ).1 <;> rfl
  rw [this]
  exact W_bindM
def fQ (ks : List (Option Nat)) (ρ : Env) (Q : Rv D → Prop) : Fo → Prop
  | .ok r as => Q (.ok r (giveIO ks as ρ))
  | .ex x as => Q (.ex x (giveIO ks as ρ))
@[simp] theorem fQ_ok {ks : List (Option Nat)} {Q : Rv D → Prop} {r : D} {as : List D} : fQ ks ρ Q (.ok r as) ↔ Q (.ok r (giveIO ks as ρ)) := .rfl
@[simp] theorem fQ_ex {ks : List (Option Nat)} {Q : Rv D → Prop} {x : Xc} {as : List D} : fQ ks ρ Q (.ex x as) ↔ Q (.ex x (giveIO ks as ρ)) := .rfl
def callK (ks : List (Option Nat)) (F : FnD) (ds : List D) : M D := fun ρ => match F (takeIO ks ds ρ).1 with
  | none => none
  | some (.ok r as) => some (.ok r (giveIO ks as (takeIO ks ds ρ).2))
  | some (.ex x as) => some (.ex x (giveIO ks as (takeIO ks ds ρ).2))
@[simp] theorem W_callK {ks : List (Option Nat)} {F : FnD} {ds : List D} {Q : Rv D → Prop} : W (callK ks F ds ρ) Q ↔ W (F (takeIO ks ds ρ).1) (fQ ks (takeIO ks ds ρ).2 Q) := by
  unfold callK
  cases F (takeIO ks ds ρ).1 with
  | none => simp
  | some r => cases r <;> simp
@[simp] theorem W_dFn {ks : List (Option Nat)} {F : FnD} {f : M (List D)} {Q : Rv D → Prop} : W (dFn ks F f ρ) Q ↔ W (f ρ) (bQ (callK ks F) Q) := W_bindM
@[simp] theorem W_dIO {i : Nat} {g : M (List D)} {Q : Rv (List D) → Prop} : W (dIO i g ρ) Q ↔ nunk ρ[i]? = true ∧ W (g ρ) Q := by
  rw [u_dIO]
  exact W_guard
@[simp] theorem W_dFz {f : M D} {Q : Rv D → Prop} : W (dFz f ρ) Q ↔ W (f ρ) (bQ (fun d => optM (frzO d)) Q) := W_bindM
def ixK (x y : D) : Option D := match y with
  | .int k => (seqOf x).bind fun ds => atI ds k
  | _ => none
@[simp] theorem ixK_int {x : D} {k : Int} : ixK x (.int k) = (seqOf x).bind fun ds => atI ds k := rfl
@[simp] theorem W_dAtL {i : Nat} {f : M D} {Q : Rv D → Prop} : W (dAt i f ρ) Q ↔ (isDct ρ[i]? = true → W (dGetS i f ρ) Q) ∧ (¬ isDct ρ[i]? = true → W (dIxS i f ρ) Q) := by
  unfold dAt
  exact W_if
@[simp] theorem W_dIxS {i : Nat} {f : M D} {Q : Rv D → Prop} : W (dIxS i f ρ) Q ↔ nunk ρ[i]? = true ∧ W (f ρ) (bQ (fun y ρ => (ixK (ρ.getD i .unk) y).bind fun d => if fz d = true then some (.ok d ρ) else none) Q) := by
  have : dIxS i f ρ = if nunk ρ[i]? = true then bindM f (fun y ρ => (ixK (ρ.getD i .unk) y).bind fun d => if fz d = true then some (.ok d ρ) else none) ρ else none := by
    rw [u_dIxS]
    congr 2
    funext y ρ
    cases y <;> try rfl
    rw [ixK_int]
    generalize ρ.getD i .unk = x
    simp only
    cases seqOf x with
    | none => rfl
    | some ds =>
      simp only [Option.bind_some]
      cases atI ds _ <;> rfl
  rw [this, W_guard, W_bindM]
def fzK (ρ : Env) (Q : Rv D → Prop) (d : D) : Prop := fz d = true ∧ Q (.ok d ρ)
@[simp] theorem fzK_a {Q : Rv D → Prop} {d : D} : fzK ρ Q d ↔ fz d = true ∧ Q (.ok d ρ) := .rfl
@[simp] theorem W_getS {i : Nat} {y : D} {Q : Rv D → Prop} : W (getS i y ρ) Q ↔ W (lookD (ρ.getD i .unk) y) (fzK ρ Q) := by
  unfold getS
  cases lookD (ρ.getD i .unk) y <;> simp
@[simp] theorem W_dGetS {i : Nat} {f : M D} {Q : Rv D → Prop} : W (dGetS i f ρ) Q ↔ nunk ρ[i]? = true ∧ W (f ρ) (bQ (getS i) Q) := by
  rw [u_dGetS, W_guard, W_bindM]
@[simp] theorem W_dSkip {Q : Fl × Env → Prop} : W (dSkip ρ) Q ↔ Q (.nx, ρ) := W_some
@[simp] theorem W_dSet {i : Nat} {f : M D} {Q : Fl × Env → Prop} : W (dSet i f ρ) Q ↔ W (f ρ) (bS (fun d ρ => some (.nx, ρ.set i d)) Q) := W_bindS
@[simp] theorem W_dRet {f : M D} {Q : Fl × Env → Prop} : W (dRet f ρ) Q ↔ W (f ρ) (bS (fun d ρ => some (.rt d, ρ)) Q) := W_bindS
@[simp] theorem W_dDrop {f : M D} {Q : Fl × Env → Prop} : W (dDrop f ρ) Q ↔ W (f ρ) (bS (fun _ ρ => some (.nx, ρ)) Q) := W_bindS
@[simp] theorem W_dAsg {f : M D} {g : D → Env → Option Env} {Q : Fl × Env → Prop} : W (dAsg f g ρ) Q ↔ W (f ρ) (bS (fun d ρ => (g d ρ).map fun ρ' => (.nx, ρ')) Q) := by
  have : dAsg f g = bindS f (fun d ρ => (g d ρ).map fun ρ' => (.nx, ρ')) := by
    unfold dAsg
    congr 1
    funext d ρ
    cases g d ρ <;> rfl
  rw [this]
  exact W_bindS
@[simp] theorem W_dIfS {t : M Bool} {a b : MS} {Q : Fl × Env → Prop} : W (dIfS t a b ρ) Q ↔ W (t ρ) (bS (fun c => if c = true then a else b) Q) := W_bindS
theorem ite_app {γ δ : Type} {c : Prop} [Decidable c] {f g : γ → δ} {x : γ} : (if c then f else g) x = if c then f x else g x := by split <;> rfl
@[simp] theorem W_gNm {i : Nat} {d : D} {Q : Env → Prop} : W (gNm i d ρ) Q ↔ Q (ρ.set i d) := W_some
@[simp] theorem u_gTp' {is : List Nat} {ds : List D} : gTp is (.tup ds) ρ = gNms is ds ρ := rfl
@[simp] theorem u_gSq' {is : List Nat} {d : D} : gSq is d ρ = (seqOf d).bind fun ds => gNms is ds ρ := by
  unfold gSq
  cases seqOf d <;> rfl
@[simp] theorem W_dMt {i : Nat} {g : List D → List D → Option (D × List D)} {f : M (List D)} {Q : Rv D → Prop} : W (dMt i g f ρ) Q ↔ isLst ρ[i]? = true ∧ W (f ρ) (bQ (mutL i g) Q) := by
  unfold dMt
  rw [W_guard, W_bindM]
def ownL : Option D → Option (List D)
  | some (.lst true xs) => some xs
  | _ => none
@[simp] theorem ownL_lst {xs : List D} : ownL (some (.lst true xs)) = some xs := rfl
def mutR (i : Nat) (ρ : Env) (Q : Rv D → Prop) (p : D × List D) : Prop := Q (.ok p.1 (ρ.set i (.lst true p.2)))
@[simp] theorem mutR_a {i : Nat} {Q : Rv D → Prop} {d : D} {xs : List D} : mutR i ρ Q (d, xs) ↔ Q (.ok d (ρ.set i (.lst true xs))) := .rfl
def mutQ (i : Nat) (g : List D → List D → Option (D × List D)) (ds : List D) (ρ : Env) (Q : Rv D → Prop) (xs : List D) : Prop := W (g xs ds) (mutR i ρ Q)
@[simp] theorem mutQ_a {i : Nat} {g : List D → List D → Option (D × List D)} {ds : List D} {Q : Rv D → Prop} {xs : List D} : mutQ i g ds ρ Q xs ↔ W (g xs ds) (mutR i ρ Q) := .rfl
@[simp] theorem W_mutL {i : Nat} {g : List D → List D → Option (D × List D)} {ds : List D} {Q : Rv D → Prop} : W (mutL i g ds ρ) Q ↔ W (ownL ρ[i]?) (mutQ i g ds ρ Q) := by
  unfold mutL ownL
  cases ρ[i]? with
  | none => simp
  | some d =>
    cases d <;> try simp
    rename_i o xs
    cases o <;> simp
    cases g xs ds <;> simp [mutR]
def setQ (i : Nat) (ρ : Env) (Q : Fl × Env → Prop) (x : D) : Prop := Q (.nx, ρ.set i x)
@[simp] theorem setQ_a {i : Nat} {Q : Fl × Env → Prop} {x : D} : setQ i ρ Q x ↔ Q (.nx, ρ.set i x) := .rfl
@[simp] theorem W_putS {i : Nat} {d y : D} {Q : Fl × Env → Prop} : W (putS i d y ρ) Q ↔ W (VS.putAt (ρ.getD i .unk) y d) (setQ i ρ Q) := by
  unfold putS
  cases VS.putAt (ρ.getD i .unk) y d <;> simp
@[simp] theorem W_dPut {i : Nat} {fk fe : M D} {Q : Fl × Env → Prop} : W (dPut i fk fe ρ) Q ↔ W (fe ρ) (bS (fun d ρ1 => if nunk ρ1[i]? = true then bindS fk (putS i d) ρ1 else none) Q) := by
  rw [u_dPut, W_bindS]
@[simp] theorem W_dRange1 {f : M (List D)} {Q : Rv (List D) → Prop} : W (dRange1 f ρ) Q ↔ W (f ρ) (bQ (fun ds => optM (rangeD1 ds)) Q) := W_bindM
@[simp] theorem W_dRange2 {f : M (List D)} {Q : Rv (List D) → Prop} : W (dRange2 f ρ) Q ↔ W (f ρ) (bQ (fun ds => optM (rangeD2 ds)) Q) := W_bindM
@[simp] theorem W_dItems {f : M D} {Q : Rv (List D) → Prop} : W (dItems f ρ) Q ↔ W (f ρ) (bQ (fun d => optM (itemsOf d)) Q) := W_bindM
@[simp] theorem W_dSl {fa : M D} {fl fh : M (Option Int)} {Q : Rv D → Prop} : W (dSl fa fl fh ρ) Q ↔ W (fa ρ) (bQ (fun x => bindM fl fun lo => bindM fh fun hi => optM (gSlice x lo hi)) Q) := W_bindM
@[simp] theorem W_dNo {Q : Rv (Option Int) → Prop} : W (dNo ρ) Q ↔ Q (.ok none ρ) := W_some
@[simp] theorem W_dEnd {f : M D} {Q : Rv (Option Int) → Prop} : W (dEnd f ρ) Q ↔ W (f ρ) (bQ (fun d => optM ((intOf d).map some)) Q) := W_bindM
@[simp] theorem W_dIsa {ns : List String} {f : M D} {Q : Rv D → Prop} : W (dIsa ns f ρ) Q ↔ W (f ρ) (bQ (fun d => optM (gIsa ns d)) Q) := W_bindM
@[simp] theorem W_dZip {f : M (List D)} {Q : Rv (List D) → Prop} : W (dZip f ρ) Q ↔ W (f ρ) (bQ (fun ds => optM (zipOf ds)) Q) := W_bindM
def eQ (n np : Nat) (asg : List Nat) (Q : Fo → Prop) : Fl × Env → Prop
  | (.nx, ρ) => ρ.length = n ∧ Q (.ok .non (outD np asg ρ))
  | (.rt d, ρ) => ρ.length = n ∧ Q (.ok d (outD np asg ρ))
  | (.ex x, ρ) => ρ.length = n ∧ Q (.ex x (outD np asg ρ))
  | _ => False
@[simp] theorem eQ_nx {n np : Nat} {asg : List Nat} {Q : Fo → Prop} : eQ n np asg Q (.nx, ρ) ↔ ρ.length = n ∧ Q (.ok .non (outD np asg ρ)) := .rfl
@[simp] theorem eQ_rt {n np : Nat} {asg : List Nat} {Q : Fo → Prop} {d : D} : eQ n np asg Q (.rt d, ρ) ↔ ρ.length = n ∧ Q (.ok d (outD np asg ρ)) := .rfl
@[simp] theorem eQ_ex {n np : Nat} {asg : List Nat} {Q : Fo → Prop} {x : Xc} : eQ n np asg Q (.ex x, ρ) ↔ ρ.length = n ∧ Q (.ex x (outD np asg ρ)) := .rfl
@[simp] theorem W_fnD {n np : Nat} {asg : List Nat} {body : MS} {as : List D} {Q : Fo → Prop} : W (fnD n np asg body as) Q ↔ (as.length = np ∧ np ≤ n) ∧ W (body (as ++ List.replicate (n - np) .unk)) (eQ n np asg Q) := by
  unfold fnD
  rw [W_guard]
  cases body (as ++ List.replicate (n - np) .unk) with
  | none => simp
  | some r => obtain ⟨fl, ρ'⟩ := r; cases fl <;> simp <;> simp [eQ]
@[simp] theorem keyD_int {i : Int} : keyD (.int i) = some (.inl i) := rfl
@[simp] theorem keyD_str {x : Str} : keyD (.str x) = some (.inr x) := rfl
@[simp] theorem allI_m {ns : List Int} : allI (ns.map D.int) = some ns := allI_map ns
@[simp] theorem W_dRaise {c : Str} {Q : Fl × Env → Prop} : W (dRaise c ρ) Q ↔ Q (.ex ⟨c, none⟩, ρ) := W_some
def btQ (body : MS) (Q : Fl × Env → Prop) (ρ : Env) : Prop := W (body ρ) Q
@[simp] theorem btQ_a {body : MS} {Q : Fl × Env → Prop} : btQ body Q ρ ↔ W (body ρ) Q := .rfl
def lQ (I : Env → Prop) (Q : Fl × Env → Prop) : Fl × Env → Prop
  | (.nx, ρ) => I ρ
  | (.ct, ρ) => I ρ
  | (.bk, ρ) => Q (.nx, ρ)
  | r => Q r
@[simp] theorem lQ_nx {I : Env → Prop} {Q : Fl × Env → Prop} : lQ I Q (.nx, ρ) ↔ I ρ := .rfl
@[simp] theorem lQ_ct {I : Env → Prop} {Q : Fl × Env → Prop} : lQ I Q (.ct, ρ) ↔ I ρ := .rfl
@[simp] theorem lQ_bk {I : Env → Prop} {Q : Fl × Env → Prop} : lQ I Q (.bk, ρ) ↔ Q (.nx, ρ) := .rfl
@[simp] theorem lQ_rt {I : Env → Prop} {Q : Fl × Env → Prop} {d : D} : lQ I Q (.rt d, ρ) ↔ Q (.rt d, ρ) := .rfl
@[simp] theorem lQ_ex {I : Env → Prop} {Q : Fl × Env → Prop} {x : Xc} : lQ I Q (.ex x, ρ) ↔ Q (.ex x, ρ) := .rfl
@[simp] theorem W_for0 {bt : D → Env → Option Env} {body : MS} {Q : Fl × Env → Prop} : W (forD bt body [] ρ) Q ↔ Q (.nx, ρ) := W_some
theorem W_for1 {bt : D → Env → Option Env} {body : MS} {d : D} {ds : List D} {Q : Fl × Env → Prop} : W (forD bt body (d :: ds) ρ) Q ↔ W (bt d ρ) fun ρ1 => W (body ρ1) (lQ (fun ρ2 => W (forD bt body ds ρ2) Q) Q) := by
  rw [forD]
  cases bt d ρ with
  | none => simp
  | some ρ1 =>
    simp only [W_some]
    cases body ρ1 with
    | none => simp
    | some r => obtain ⟨fl, ρ'⟩ := r; cases fl <;> simp
@[simp] theorem W_dFor {src : M (List D)} {bt : D → Env → Option Env} {body : MS} {Q : Fl × Env → Prop} : W (dFor src bt body ρ) Q ↔ W (src ρ) (bS (fun ds => forD bt body ds) Q) := W_bindS
theorem W_for {f : α → D} {bt : D → Env → Option Env} {body : MS} {Q : Fl × Env → Prop} (I : List α → Env → Prop) : ∀ (xs pre : List α) (ρ : Env), I pre ρ →
    (∀ p x post ρ, pre ++ xs = p ++ x :: post → I p ρ → W (bt (f x) ρ) fun ρ1 => W (body ρ1) (lQ (I (p ++ [x])) Q)) → (∀ ρ', I (pre ++ xs) ρ' → Q (.nx, ρ')) → W (forD bt body (xs.map f) ρ) Q
  | [], pre, ρ, h0, _, he => by
    rw [List.map_nil, W_for0]
    exact he ρ (by rw [List.append_nil]; exact h0)
  | x :: xs, pre, ρ, h0, hs, he => by
    rw [List.map_cons, W_for1]
    refine (hs pre x xs ρ rfl h0).imp fun ρ1 h1 => h1.imp fun r h2 => ?_
    obtain ⟨fl, ρ2⟩ := r
    have go : I (pre ++ [x]) ρ2 → W (forD bt body (xs.map f) ρ2) Q := fun h3 => W_for I xs (pre ++ [x]) ρ2 h3 (fun p y post ρ e hp => hs p y post ρ (by rw [← e]; simp) hp) (fun ρ' h4 => he ρ' (by rw [List.append_assoc] at h4; exact h4))
    cases fl with
    | nx => exact go h2
    | ct => exact go h2
    | bk => exact h2
    | rt d => exact h2
    | ex x => exact h2
theorem W_forL {f : α → D} {bt : D → Env → Option Env} {body : MS} {Q : Fl × Env → Prop} (I : List α → Env → Prop) {xs : List α} (h0 : I [] ρ)
    (hs : ∀ p x post ρ, xs = p ++ x :: post → I p ρ → ∀ J : Env → Prop, (∀ ρ', I (p ++ [x]) ρ' → J ρ') → W (bt (f x) ρ) (btQ body (lQ J Q))) (he : ∀ ρ', I xs ρ' → Q (.nx, ρ')) : W (forD bt body (xs.map f) ρ) Q :=
  W_for I xs [] ρ h0 (fun p x post ρ e h => hs p x post ρ e h _ fun _ h => h) he
theorem W_forN {bt : D → Env → Option Env} {body : MS} {Q : Fl × Env → Prop} {lo : Int} {n : Nat} (I : Nat → Env → Prop) (h0 : I 0 ρ)
    (hs : ∀ (k : Nat) ρ, k < n → I k ρ → ∀ J : Env → Prop, (∀ ρ', I (k + 1) ρ' → J ρ') → W (bt (.int (lo + k)) ρ) (btQ body (lQ J Q))) (he : ∀ ρ', I n ρ' → Q (.nx, ρ')) : W (forD bt body (intsD lo n) ρ) Q := by
  unfold intsD
  refine W_for (f := fun (i : Nat) => D.int (lo + i)) (fun p ρ => I p.length ρ) (List.range n) [] ρ h0 (fun p x post ρ e hp => ?_) (fun ρ' h => he ρ' (by simpa using h))
  rw [List.nil_append] at e
  have hl := congrArg List.length e
  have hx : (List.range n)[p.length]? = some x := by rw [e]; simp
  rw [List.length_range, List.length_append, List.length_cons] at hl
  rw [List.getElem?_range (by omega)] at hx
  cases hx
  rw [List.length_append, List.length_singleton]
  exact hs p.length ρ (by omega) hp _ fun _ h => h
theorem lQ.imp {I I' : Env → Prop} {Q : Fl × Env → Prop} (h : ∀ ρ, I ρ → I' ρ) : ∀ r, lQ I Q r → lQ I' Q r
  | (.nx, _), q => h _ q
  | (.ct, _), q => h _ q
  | (.bk, _), q => q
  | (.rt _, _), q => q
  | (.ex _, _), q => q
@[simp] theorem W_dYes {Q : Rv Bool → Prop} : W (dYes ρ) Q ↔ Q (.ok true ρ) := W_some
def okQ (Q : α → Env → Prop) : Rv α → Prop
  | .ok a ρ => Q a ρ
  | .ex _ _ => False
@[simp] theorem okQ_ok {Q : α → Env → Prop} {a : α} : okQ Q (.ok a ρ) ↔ Q a ρ := .rfl
@[simp] theorem okQ_ex {Q : α → Env → Prop} {x : Xc} : okQ Q (.ex x ρ) ↔ False := .rfl
def elQ (own : List Nat) (J : List D → Env → Prop) (acc : List D) : Rv D → Prop
  | .ok y ρ => J (acc ++ [y]) (wipeD ρ own)
  | .ex _ _ => False
@[simp] theorem elQ_ok {own : List Nat} {J : List D → Env → Prop} {acc : List D} {y : D} : elQ own J acc (.ok y ρ) ↔ J (acc ++ [y]) (wipeD ρ own) := .rfl
@[simp] theorem elQ_ex {own : List Nat} {J : List D → Env → Prop} {acc : List D} {x : Xc} : elQ own J acc (.ex x ρ) ↔ False := .rfl
def ttQ (own : List Nat) (el : M D) (J : List D → Env → Prop) (acc : List D) : Rv Bool → Prop
  | .ok b ρ => if b = true then W (el ρ) (elQ own J acc) else J acc (wipeD ρ own)
  | .ex _ _ => False
@[simp] theorem ttQ_ok {own : List Nat} {el : M D} {J : List D → Env → Prop} {acc : List D} {b : Bool} : ttQ own el J acc (.ok b ρ) ↔ if b = true then W (el ρ) (elQ own J acc) else J acc (wipeD ρ own) := .rfl
@[simp] theorem ttQ_ex {own : List Nat} {el : M D} {J : List D → Env → Prop} {acc : List D} {x : Xc} : ttQ own el J acc (.ex x ρ) ↔ False := .rfl
def lcB (own : List Nat) (tt : M Bool) (el : M D) (J : List D → Env → Prop) (acc : List D) (ρ : Env) : Prop := W (tt ρ) (ttQ own el J acc)
@[simp] theorem lcB_a {own : List Nat} {tt : M Bool} {el : M D} {J : List D → Env → Prop} {acc : List D} : lcB own tt el J acc ρ ↔ W (tt ρ) (ttQ own el J acc) := .rfl
theorem elQ_k {own : List Nat} {J : List D → Env → Prop} {acc : List D} : elQ own J acc = okQ fun y ρ3 => J (acc ++ [y]) (wipeD ρ3 own) := by
  funext r
  cases r <;> rfl
theorem ttQ_k {own : List Nat} {el : M D} {J : List D → Env → Prop} {acc : List D} : ttQ own el J acc = okQ fun b ρ2 => if b = true then W (el ρ2) (okQ fun y ρ3 => J (acc ++ [y]) (wipeD ρ3 own)) else J acc (wipeD ρ2 own) := by
  funext r
  cases r
  · rw [ttQ, elQ_k]; rfl
  · rfl
theorem W_lc1 {own : List Nat} {bt : D → Env → Option Env} {tt : M Bool} {el : M D} {d : D} {ds acc : List D} {Q : List D × Env → Prop} : W (lcD own bt tt el (d :: ds) acc ρ) Q ↔ W (bt d ρ) fun ρ1 => W (tt ρ1) (okQ fun b ρ2 => if b = true then W (el ρ2) (okQ fun y ρ3 => acc.length < sizeLine ∧ W (lcD own bt tt el ds (acc ++ [y]) (wipeD ρ3 own)) Q) else W (lcD own bt tt el ds acc (wipeD ρ2 own)) Q) := by
  rw [lcD]
  cases bt d ρ with
  | none => simp
  | some ρ1 =>
    simp only [W_some]
    cases tt ρ1 with
    | none => simp
    | some r =>
      cases r with
      | ex x ρ2 => simp
      | ok b ρ2 =>
        simp only [W_some, okQ_ok]
        by_cases hb : b = true
        · simp only [hb, if_true]
          cases el ρ2 with
          | none => simp
          | some r => cases r <;> simp
        · simp only [hb, if_false]; simp
def lcK (own : List Nat) (bt : D → Env → Option Env) (tt : M Bool) (el : M D) (ds : List D) : M D := fun ρ => (lcD own bt tt el ds [] (wipeD ρ own)).map fun p => .ok (.lst true p.1) (wipeD p.2 own)
def lcQ (own : List Nat) (Q : Rv D → Prop) (p : List D × Env) : Prop := Q (.ok (.lst true p.1) (wipeD p.2 own))
@[simp] theorem lcQ_a {own : List Nat} {Q : Rv D → Prop} {acc : List D} : lcQ own Q (acc, ρ) ↔ Q (.ok (.lst true acc) (wipeD ρ own)) := .rfl
@[simp] theorem W_lcK {own : List Nat} {bt : D → Env → Option Env} {tt : M Bool} {el : M D} {ds : List D} {Q : Rv D → Prop} : W (lcK own bt tt el ds ρ) Q ↔ W (lcD own bt tt el ds [] (wipeD ρ own)) (lcQ own Q) := by
  unfold lcK
  rw [W_map]
  exact .rfl
@[simp] theorem W_dLc {own : List Nat} {src : M (List D)} {bt : D → Env → Option Env} {tt : M Bool} {el : M D} {Q : Rv D → Prop} : W (dLc own src bt tt el ρ) Q ↔ W (src ρ) (bQ (lcK own bt tt el) Q) := by
  have : dLc own src bt tt el = bindM src (lcK own bt tt el) := by
    unfold dLc
    congr 1
    funext ds ρ
    unfold lcK
    cases lcD own bt tt el ds [] (wipeD ρ own) <;> rfl
  rw [this]
  exact W_bindM
theorem W_lc {f : α → D} {own : List Nat} {bt : D → Env → Option Env} {tt : M Bool} {el : M D} {Q : List D × Env → Prop} (I : List α → List D → Env → Prop) : ∀ (xs pre : List α) (acc : List D) (ρ : Env), I pre acc ρ → acc.length + xs.length ≤ sizeLine →
    (∀ p x post acc ρ, pre ++ xs = p ++ x :: post → I p acc ρ → W (bt (f x) ρ) fun ρ1 => W (tt ρ1) (okQ fun b ρ2 => if b = true then W (el ρ2) (okQ fun y ρ3 => I (p ++ [x]) (acc ++ [y]) (wipeD ρ3 own)) else I (p ++ [x]) acc (wipeD ρ2 own))) →
    (∀ acc ρ', I (pre ++ xs) acc ρ' → Q (acc, ρ')) → W (lcD own bt tt el (xs.map f) acc ρ) Q
  | [], pre, acc, ρ, h0, _, _, he => by
    rw [List.map_nil, lcD, W_some]
    exact he acc ρ (by rw [List.append_nil]; exact h0)
  | x :: xs, pre, acc, ρ, h0, hz, hs, he => by
    rw [List.map_cons, W_lc1]
    refine (hs pre x xs acc ρ rfl h0).imp fun ρ1 h1 => h1.imp fun r h2 => ?_
    cases r with
    | ex x ρ2 => exact h2
    | ok b ρ2 =>
      rw [okQ_ok] at h2 ⊢
      have go : ∀ acc' ρ', acc'.length ≤ acc.length + 1 → I (pre ++ [x]) acc' ρ' → W (lcD own bt tt el (xs.map f) acc' ρ') Q := fun acc' ρ' hl h3 => W_lc I xs (pre ++ [x]) acc' ρ' h3 (by rw [List.length_cons] at hz; omega) (fun p y post acc ρ e hp => hs p y post acc ρ (by rw [← e]; simp) hp) (fun acc ρ' h4 => he acc ρ' (by rw [List.append_assoc] at h4; exact h4))
      by_cases hb : b = true
      · rw [if_pos hb] at h2 ⊢
        refine h2.imp fun r h3 => ?_
        cases r with
        | ex x ρ2 => exact h3
        | ok y ρ3 =>
          rw [okQ_ok] at h3 ⊢
          rw [List.length_cons] at hz
          exact ⟨by omega, go _ _ (by simp) h3⟩
      · rw [if_neg hb] at h2 ⊢
        exact go _ _ (by omega) h2
theorem W_lcL {f : α → D} {own : List Nat} {bt : D → Env → Option Env} {tt : M Bool} {el : M D} {Q : List D × Env → Prop} (I : List α → List D → Env → Prop) {xs : List α} (h0 : I [] [] ρ) (hz : xs.length ≤ sizeLine)
    (hs : ∀ p x post acc ρ, xs = p ++ x :: post → I p acc ρ → ∀ J : List D → Env → Prop, (∀ acc' ρ', I (p ++ [x]) acc' ρ' → J acc' ρ') → W (bt (f x) ρ) (lcB own tt el J acc))
    (he : ∀ acc ρ', I xs acc ρ' → Q (acc, ρ')) : W (lcD own bt tt el (xs.map f) [] ρ) Q :=
  W_lc I xs [] [] ρ h0 (by simpa using hz) (fun p x post acc ρ e h => by
    refine (hs p x post acc ρ e h _ fun _ _ h => h).imp fun ρ1 h1 => ?_
    rw [lcB, ttQ_k] at h1
    exact h1) he
theorem W_lcN {own : List Nat} {bt : D → Env → Option Env} {el : M D} {Q : List D × Env → Prop} {lo : Int} {n : Nat} (I : Nat → List D → Env → Prop) (h0 : I 0 [] ρ) (hz : n ≤ sizeLine)
    (hs : ∀ (k : Nat) acc ρ, k < n → I k acc ρ → ∀ J : List D → Env → Prop, (∀ acc' ρ', I (k + 1) acc' ρ' → J acc' ρ') → W (bt (.int (lo + k)) ρ) (lcB own dYes el J acc))
    (he : ∀ acc ρ', I n acc ρ' → Q (acc, ρ')) : W (lcD own bt dYes el (intsD lo n) [] ρ) Q := by
  unfold intsD
  refine W_lcL (f := fun (i : Nat) => D.int (lo + i)) (fun p acc ρ => I p.length acc ρ) h0 (by simpa using hz) (fun p x post acc ρ e hp J hJ => ?_) (fun acc ρ' h => he acc ρ' (by simpa using h))
  have hl := congrArg List.length e
  have hx : (List.range n)[p.length]? = some x := by rw [e]; simp
  rw [List.length_range, List.length_append, List.length_cons] at hl
  rw [List.getElem?_range (by omega)] at hx
  cases hx
  rw [List.length_append, List.length_singleton] at hJ
  exact hs p.length acc ρ (by omega) hp J hJ
theorem W_lcMap {f : α → D} {own : List Nat} {bt : D → Env → Option Env} {tt : M Bool} {el : M D} {Q : List D × Env → Prop} (c : α → Bool) (y : α → D) {xs : List α} (hz : xs.length ≤ sizeLine)
    (hs : ∀ x ∈ xs, ∀ J : List D → Env → Prop, ∀ acc, (c x = true → J (acc ++ [y x]) ρ) → (c x = false → J acc ρ) → W (bt (f x) ρ) (lcB own tt el J acc))
    (he : Q ((xs.filter c).map y, ρ)) : W (lcD own bt tt el (xs.map f) [] ρ) Q := by
  refine W_lcL (fun p acc ρ' => ρ' = ρ ∧ acc = (p.filter c).map y) ⟨rfl, rfl⟩ hz (fun p x post acc ρ' e hp J hJ => ?_) (fun acc ρ' h => ?_)
  · obtain ⟨rfl, rfl⟩ := hp
    have hx : x ∈ xs := by rw [e]; simp
    refine hs x hx J _ (fun hc => hJ _ _ ⟨rfl, ?_⟩) (fun hc => hJ _ _ ⟨rfl, ?_⟩)
    · simp [List.filter_append, hc]
    · simp [List.filter_append, hc]
  · obtain ⟨rfl, rfl⟩ := h
    exact he
theorem W_lcAll {f : α → D} {own : List Nat} {bt : D → Env → Option Env} {el : M D} {Q : List D × Env → Prop} (y : α → D) {xs : List α} (hz : xs.length ≤ sizeLine)
    (hs : ∀ x ∈ xs, ∀ J : List D → Env → Prop, ∀ acc, J (acc ++ [y x]) ρ → W (bt (f x) ρ) (lcB own dYes el J acc))
    (he : Q (xs.map y, ρ)) : W (lcD own bt dYes el (xs.map f) [] ρ) Q := by
  refine W_lcMap (fun _ => true) y hz (fun x hx J acc h1 _ => hs x hx J acc (h1 rfl)) (by rw [List.filter_eq_self.mpr (fun _ _ => rfl)]; exact he)
@[simp] theorem all_yes {l : List α} : (l.all fun _ => true) = true := by rw [List.all_eq_true]; exact fun _ _ => rfl
@[simp] theorem u_fzLmap {f : α → D} {xs : List α} (h : ∀ x, fz (f x) = true) : fzL (xs.map f) = true := by rw [fzL_all]; simp [h]
@[simp] theorem u_frLmap {f : α → D} {xs : List α} (h : ∀ x, fz (f x) = true) : freezeL (xs.map f) = xs.map f := freezeL_fz _ (u_fzLmap h)
@[simp] theorem fzL_app {xs ys : List D} : fzL (xs ++ ys) = (fzL xs && fzL ys) := by rw [fzL_all, fzL_all, fzL_all, List.all_append]
@[simp] theorem frL_app {xs ys : List D} : freezeL (xs ++ ys) = freezeL xs ++ freezeL ys := by rw [freezeL_map, freezeL_map, freezeL_map, List.map_append]
theorem atI_map {f : α → D} {xs : List α} {i : Int} {x : α} (h0 : 0 ≤ i) (h : xs[i.toNat]? = some x) : atI (xs.map f) i = some (f x) := atI_lt h0 (by simp [h])
theorem W_at {f : α → D} {xs : List α} {i : Int} {Q : D → Prop} (h0 : 0 ≤ i) (h1 : i < xs.length) (h : ∀ x, xs[i.toNat]? = some x → Q (f x)) : W (atI (xs.map f) i) Q := by
  have hl : i.toNat < xs.length := by omega
  exact ⟨_, atI_map h0 (List.getElem?_eq_getElem hl), h _ (List.getElem?_eq_getElem hl)⟩
end
end VS
set_option Elab.async false
set_option linter.all false
set_option maxRecDepth 100000
set_option maxHeartbeats 4000000
set_option autoImplicit false
noncomputable section
namespace VS
open PySem PySem.Spec L2
section
variable {α β : Type} {ρ : Env}
def rD (r : R3) : D := .tup [.int r.1, .int r.2.1, .int r.2.2]
def pD (p : Int × Int) : D := .tup [.int p.1, .int p.2]
def webD (many : Int) (rows : List R3) : D := .tup [.int many, .tup (rows.map rD)]
@[simp] theorem fz_rD {r : R3} : fz (rD r) = true := by simp [rD]
@[simp] theorem fz_pD {r : Int × Int} : fz (pD r) = true := by simp [pD]
@[simp] theorem fz_webD {m : Int} {rows : List R3} : fz (webD m rows) = true := by simp [webD]
@[simp] theorem fr_rD {r : R3} : freeze (rD r) = rD r := freeze_fz _ fz_rD
@[simp] theorem fr_pD {r : Int × Int} : freeze (pD r) = pD r := freeze_fz _ fz_pD
@[simp] theorem fr_webD {m : Int} {rows : List R3} : freeze (webD m rows) = webD m rows := freeze_fz _ fz_webD
@[simp] theorem nu_rD {r : R3} : nunk (some (rD r)) = true := rfl
@[simp] theorem nu_pD {r : Int × Int} : nunk (some (pD r)) = true := rfl
@[simp] theorem nu_webD {m : Int} {rows : List R3} : nunk (some (webD m rows)) = true := rfl
@[simp] theorem dct_rD {r : R3} : isDct (some (rD r)) = false := rfl
@[simp] theorem dct_pD {r : Int × Int} : isDct (some (pD r)) = false := rfl
@[simp] theorem dct_webD {m : Int} {rows : List R3} : isDct (some (webD m rows)) = false := rfl
@[simp] theorem dct_int {i : Int} : isDct (some (.int i)) = false := rfl
@[simp] theorem seq_rD {r : R3} : seqOf (rD r) = some [.int r.1, .int r.2.1, .int r.2.2] := rfl
@[simp] theorem seq_pD {r : Int × Int} : seqOf (pD r) = some [.int r.1, .int r.2] := rfl
@[simp] theorem seq_webD {m : Int} {rows : List R3} : seqOf (webD m rows) = some [.int m, .tup (rows.map rD)] := rfl
@[simp] theorem len_rD {r : R3} : lenD (rD r) = some 3 := rfl
@[simp] theorem len_pD {r : Int × Int} : lenD (pD r) = some 2 := rfl
@[simp] theorem gTp_rD {is : List Nat} {r : R3} : gTp is (rD r) ρ = gNms is [.int r.1, .int r.2.1, .int r.2.2] ρ := rfl
@[simp] theorem gTp_pD {is : List Nat} {r : Int × Int} : gTp is (pD r) ρ = gNms is [.int r.1, .int r.2] ρ := rfl
theorem rD_def {a b c : Int} : D.tup [.int a, .int b, .int c] = rD (a, b, c) := rfl
theorem rD_tI : rD = fun r => tI (r3 r) := by funext r; rfl
theorem pD_tI : pD = fun r => tI (p2 r) := by funext r; rfl
theorem rD_inj {r s : R3} : rD r = rD s ↔ r = s := by
  constructor
  · intro h
    simp [rD] at h
    exact Prod.ext h.1 (Prod.ext h.2.1 h.2.2)
  · rintro rfl; rfl
theorem pD_inj {r s : Int × Int} : pD r = pD s ↔ r = s := by
  constructor
  · intro h
    simp [pD] at h
    exact Prod.ext h.1 h.2
  · rintro rfl; rfl
theorem map_inj {f : α → D} (h : ∀ x y, f x = f y → x = y) : ∀ {xs ys : List α}, xs.map f = ys.map f ↔ xs = ys
  | [], [] => by simp
  | [], _ :: _ => by simp
  | _ :: _, [] => by simp
  | x :: xs, y :: ys => by
    rw [List.map_cons, List.map_cons, List.cons.injEq, List.cons.injEq, map_inj h]
    exact ⟨fun ⟨a, b⟩ => ⟨h _ _ a, b⟩, fun ⟨a, b⟩ => ⟨by rw [a], b⟩⟩
@[simp] theorem ints_inj {xs ys : List Int} : xs.map D.int = ys.map D.int ↔ xs = ys := map_inj (fun x y h => by injection h)
@[simp] theorem rows_inj {xs ys : List R3} : xs.map rD = ys.map rD ↔ xs = ys := map_inj (fun x y h => rD_inj.mp h)
@[simp] theorem pairs_inj {xs ys : List (Int × Int)} : xs.map pD = ys.map pD ↔ xs = ys := map_inj (fun x y h => pD_inj.mp h)
theorem mem_inj {f : α → D} (h : ∀ x y, f x = f y → x = y) {x : α} {xs : List α} : f x ∈ xs.map f ↔ x ∈ xs := by
  rw [List.mem_map]
  constructor
  · rintro ⟨y, hy, e⟩
    rw [← h _ _ e]
    exact hy
  · exact fun hx => ⟨x, hx, rfl⟩
@[simp high] theorem ints_mem {x : Int} {xs : List Int} : D.int x ∈ xs.map D.int ↔ x ∈ xs := mem_inj (fun x y h => by injection h)
@[simp high] theorem rows_mem {x : R3} {xs : List R3} : rD x ∈ xs.map rD ↔ x ∈ xs := mem_inj (fun x y h => rD_inj.mp h)
@[simp high] theorem pairs_mem {x : Int × Int} {xs : List (Int × Int)} : pD x ∈ xs.map pD ↔ x ∈ xs := mem_inj (fun x y h => pD_inj.mp h)
def le3 (x y : R3) : Bool := leL (r3 x) (r3 y)
def sort3 (l : List R3) : List R3 := l.mergeSort le3
theorem sort3_perm (l : List R3) : (sort3 l).Perm l := List.mergeSort_perm _ _
theorem sort3_len (l : List R3) : (sort3 l).length = l.length := (sort3_perm l).length_eq
theorem le3_anti {x y : R3} (h : le3 x y = true) (h2 : le3 y x = true) : x = y := r3_inj (leL_anti _ _ h h2)
theorem sort3_sorted (l : List R3) : (sort3 l).Pairwise fun x y => le3 x y = true := List.pairwise_mergeSort (le := le3) (fun x y z => leL_trans (r3 x) (r3 y) (r3 z)) (fun x y => leL_total (r3 x) (r3 y)) l
theorem sort3_eq {l m : List R3} (h : l.Perm m) (hs : m.Pairwise fun x y => le3 x y = true) : sort3 l = m :=
  List.Perm.eq_of_pairwise (le := fun x y => le3 x y = true) (fun a b _ _ h1 h2 => le3_anti h1 h2) (sort3_sorted l) hs ((sort3_perm l).trans h)
theorem sorted_rows {o : Bool} {l : List R3} (h : l.length ≤ sizeLine) : gSorted [.lst o (l.map rD)] = some (.lst true ((sort3 l).map rD)) := by
  show (sortD (l.map rD)).map (fun ys => D.lst true ys) = _
  have e : l.map rD = (l.map r3).map tI := by rw [rD_tI, List.map_map]; rfl
  rw [e, sortD_tI (by
    intro x hx
    obtain ⟨p, _, rfl⟩ := List.mem_map.mp hx
    intro z
    cases z) (by rw [List.length_map]; exact h)]
  have e2 : (l.map r3).mergeSort leL = (sort3 l).map r3 := (List.map_mergeSort (f := r3) (r := le3) (s := leL) (l := l) (fun x _ y _ => rfl)).symm
  rw [e2, List.map_map, rD_tI]
  rfl
mutual
def nb : Nat → D → Bool
  | 0, _ => false
  | n + 1, .non => true
  | n + 1, .int _ => true
  | n + 1, .str x => PyData.canLay0 (.str x)
  | n + 1, .tup ds => nbL n ds
  | n + 1, .lst false ds => nbL n ds
  | _, _ => false
def nbL : Nat → List D → Bool
  | _, [] => true
  | n, d :: ds => nb n d && nbL n ds
end
@[simp] theorem nb_non {n : Nat} : nb (n + 1) .non = true := by simp [nb]
@[simp] theorem nb_int {n : Nat} {i : Int} : nb (n + 1) (.int i) = true := by simp [nb]
@[simp] theorem nb_tup {n : Nat} {ds : List D} : nb (n + 1) (.tup ds) = nbL n ds := by simp [nb]
@[simp] theorem nb_lst {n : Nat} {ds : List D} : nb (n + 1) (.lst false ds) = nbL n ds := by simp [nb]
@[simp] theorem nb_str {n : Nat} {x : Str} : nb (n + 1) (.str x) = PyData.canLay0 (.str x) := by simp [nb]
@[simp] theorem nbL_nil {n : Nat} : nbL n [] = true := by simp [nbL]
@[simp] theorem nbL_cons {n : Nat} {d : D} {ds : List D} : nbL n (d :: ds) = (nb n d && nbL n ds) := by simp [nbL]
theorem nbL_all {n : Nat} : ∀ ds : List D, nbL n ds = ds.all (nb n)
  | [] => by simp
  | d :: ds => by rw [nbL_cons, nbL_all ds]; rfl
@[simp] theorem nbL_map {n : Nat} {f : α → D} {xs : List α} (h : ∀ x, nb n (f x) = true) : nbL n (xs.map f) = true := by rw [nbL_all]; simp [h]
@[simp] theorem nb_rD {n : Nat} {r : R3} : nb (n + 2) (rD r) = true := by simp [rD]
@[simp] theorem nb_pD {n : Nat} {r : Int × Int} : nb (n + 2) (pD r) = true := by simp [pD]
@[simp] theorem nb_webD {n : Nat} {m : Int} {rows : List R3} : nb (n + 4) (webD m rows) = true := by simp [webD]
mutual
theorem nb_dat : ∀ (n : Nat) (d : D), nb n d = true → ∃ e, dat d = some e ∧ e.canLay0 = true ∧ e.depth ≤ n
  | 0, d, h => by simp [nb] at h
  | n + 1, .non, _ => ⟨.none, rfl, rfl, by simp [PyData.depth]⟩
  | n + 1, .int i, _ => ⟨.int i, rfl, rfl, by simp [PyData.depth]⟩
  | n + 1, .str x, h => ⟨.str x, rfl, by rw [nb_str] at h; exact h, by simp [PyData.depth]⟩
  | n + 1, .tup ds, h => by
    rw [nb_tup] at h
    obtain ⟨es, e, h1, h2⟩ := nbL_dat n ds h
    exact ⟨.tuple es, by rw [dat, e]; rfl, by rw [PyData.canLay0]; exact h1, by rw [PyData.depth]; omega⟩
  | n + 1, .lst false ds, h => by
    rw [nb_lst] at h
    obtain ⟨es, e, h1, h2⟩ := nbL_dat n ds h
    exact ⟨.list es, by rw [dat, e]; rfl, by rw [PyData.canLay0]; exact h1, by rw [PyData.depth]; omega⟩
  | n + 1, .lst true ds, h => by simp [nb] at h
  | n + 1, .unk, h => by simp [nb] at h
  | n + 1, .hole, h => by simp [nb] at h
  | n + 1, .bl b, h => by simp [nb] at h
  | n + 1, .adr b, h => by simp [nb] at h
  | n + 1, .exo b p, h => by simp [nb] at h
  | n + 1, .scr ds, h => by simp [nb] at h
  | n + 1, .ktp ds, h => by simp [nb] at h
  | n + 1, .dK o ks ds, h => by simp [nb] at h
  | n + 1, .dT o ks ds, h => by simp [nb] at h
  | n + 1, .lK ks ds, h => by simp [nb] at h
  | n + 1, .lT ks ds, h => by simp [nb] at h
  | n + 1, .ob C fs ds, h => by simp [nb] at h
  | n + 1, .lck o, h => by simp [nb] at h
theorem nbL_dat : ∀ (n : Nat) (ds : List D), nbL n ds = true → ∃ es, dats ds = some es ∧ PyData.canLayAll0 es = true ∧ PyData.depthAll es ≤ n
  | n, [], _ => ⟨[], rfl, rfl, by simp [PyData.depthAll]⟩
  | n, d :: ds, h => by
    rw [nbL_cons, Bool.and_eq_true] at h
    obtain ⟨e, h1, h2, h3⟩ := nb_dat n d h.1
    obtain ⟨es, g1, g2, g3⟩ := nbL_dat n ds h.2
    exact ⟨e :: es, by rw [dats, h1, g1], by rw [PyData.canLayAll0, h2, g2]; rfl, by rw [PyData.depthAll]; omega⟩
end
mutual
theorem nb_eqv : ∀ (n m : Nat) (x y : D) (a b : PyData), nb n x = true → nb m y = true → dat x = some a → dat y = some b → (PyData.eqv a b = true ↔ x = y)
  | 0, _, _, _, _, _, h, _, _, _ => by simp [nb] at h
  | _ + 1, 0, _, _, _, _, _, h, _, _ => by simp [nb] at h
  | n + 1, m + 1, x, y, a, b, hx, hy, ex, ey => by
    cases x with
    | tup ds =>
      rw [dat, Option.map_eq_some_iff] at ex
      obtain ⟨xs, ex, rfl⟩ := ex
      rw [nb_tup] at hx
      cases y with
      | tup es =>
        rw [dat, Option.map_eq_some_iff] at ey
        obtain ⟨ys, ey, rfl⟩ := ey
        rw [nb_tup] at hy
        rw [PyData.eqv, nbL_eqv n m ds es xs ys hx hy ex ey]
        simp
      | lst o es =>
        rw [dat, Option.map_eq_some_iff] at ey
        obtain ⟨ys, ey, rfl⟩ := ey
        simp [PyData.eqv]
      | non => cases ey; simp [PyData.eqv]
      | int i => cases ey; simp [PyData.eqv]
      | str z => cases ey; simp [PyData.eqv]
      | _ => simp [nb] at hy
    | lst o ds =>
      cases o with
      | true => simp [nb] at hx
      | false =>
        rw [dat, Option.map_eq_some_iff] at ex
        obtain ⟨xs, ex, rfl⟩ := ex
        rw [nb_lst] at hx
        cases y with
        | tup es =>
          rw [dat, Option.map_eq_some_iff] at ey
          obtain ⟨ys, ey, rfl⟩ := ey
          simp [PyData.eqv]
        | lst o es =>
          cases o with
          | true => simp [nb] at hy
          | false =>
            rw [dat, Option.map_eq_some_iff] at ey
            obtain ⟨ys, ey, rfl⟩ := ey
            rw [nb_lst] at hy
            rw [PyData.eqv, nbL_eqv n m ds es xs ys hx hy ex ey]
            simp
        | non => cases ey; simp [PyData.eqv]
        | int i => cases ey; simp [PyData.eqv]
        | str z => cases ey; simp [PyData.eqv]
        | _ => simp [nb] at hy
    | non =>
      cases ex
      cases y with
      | tup es =>
        rw [dat, Option.map_eq_some_iff] at ey
        obtain ⟨ys, ey, rfl⟩ := ey
        simp [PyData.eqv]
      | lst o es =>
        rw [dat, Option.map_eq_some_iff] at ey
        obtain ⟨ys, ey, rfl⟩ := ey
        simp [PyData.eqv]
      | non => cases ey; simp [PyData.eqv]
      | int i => cases ey; simp [PyData.eqv]
      | str z => cases ey; simp [PyData.eqv]
      | _ => simp [nb] at hy
    | int i =>
      cases ex
      cases y with
      | tup es =>
        rw [dat, Option.map_eq_some_iff] at ey
        obtain ⟨ys, ey, rfl⟩ := ey
        simp [PyData.eqv]
      | lst o es =>
        rw [dat, Option.map_eq_some_iff] at ey
        obtain ⟨ys, ey, rfl⟩ := ey
        simp [PyData.eqv]
      | non => cases ey; simp [PyData.eqv]
      | int i => cases ey; simp [PyData.eqv]
      | str z => cases ey; simp [PyData.eqv]
      | _ => simp [nb] at hy
    | str z =>
      cases ex
      cases y with
      | tup es =>
        rw [dat, Option.map_eq_some_iff] at ey
        obtain ⟨ys, ey, rfl⟩ := ey
        simp [PyData.eqv]
      | lst o es =>
        rw [dat, Option.map_eq_some_iff] at ey
        obtain ⟨ys, ey, rfl⟩ := ey
        simp [PyData.eqv]
      | non => cases ey; simp [PyData.eqv]
      | int i => cases ey; simp [PyData.eqv]
      | str z => cases ey; simp [PyData.eqv]
      | _ => simp [nb] at hy
    | _ => simp [nb] at hx
theorem nbL_eqv : ∀ (n m : Nat) (xs ys : List D) (as bs : List PyData), nbL n xs = true → nbL m ys = true → dats xs = some as → dats ys = some bs → (PyData.eqvAll as bs = true ↔ xs = ys)
  | _, _, [], [], _, _, _, _, ex, ey => by
    rw [dats] at ex ey
    cases ex; cases ey
    simp [PyData.eqvAll]
  | n, m, [], y :: ys, _, bs, _, hy, ex, ey => by
    rw [dats] at ex
    cases ex
    obtain ⟨es, e, _, _⟩ := nbL_dat m (y :: ys) hy
    rw [e] at ey
    cases ey
    rw [dats] at e
    cases q1 : dat y with
    | none => rw [q1] at e; cases e
    | some a =>
      cases q2 : dats ys with
      | none => rw [q1, q2] at e; cases e
      | some as => rw [q1, q2] at e; cases e; simp [PyData.eqvAll]
  | n, m, x :: xs, [], as, _, hx, _, ex, ey => by
    rw [dats] at ey
    cases ey
    obtain ⟨es, e, _, _⟩ := nbL_dat n (x :: xs) hx
    rw [e] at ex
    cases ex
    rw [dats] at e
    cases q1 : dat x with
    | none => rw [q1] at e; cases e
    | some a =>
      cases q2 : dats xs with
      | none => rw [q1, q2] at e; cases e
      | some as => rw [q1, q2] at e; cases e; simp [PyData.eqvAll]
  | n, m, x :: xs, y :: ys, as, bs, hx, hy, ex, ey => by
    rw [nbL_cons, Bool.and_eq_true] at hx hy
    rw [dats] at ex ey
    cases q1 : dat x with
    | none => rw [q1] at ex; cases ex
    | some a =>
      cases q2 : dats xs with
      | none => rw [q1, q2] at ex; cases ex
      | some as' =>
        cases q3 : dat y with
        | none => rw [q3] at ey; cases ey
        | some b =>
          cases q4 : dats ys with
          | none => rw [q3, q4] at ey; cases ey
          | some bs' =>
            rw [q1, q2] at ex
            rw [q3, q4] at ey
            cases ex; cases ey
            rw [PyData.eqvAll, Bool.and_eq_true, nb_eqv n m x y a b hx.1 hy.1 q1 q3, nbL_eqv n m xs ys as' bs' hx.2 hy.2 q2 q4, List.cons.injEq]
end
theorem nb_sh {n : Nat} {d : D} (h : nb n d = true) (hn : n ≤ 63) : ∃ e, dat d = some e ∧ SeqAt.shaped e = true := by
  obtain ⟨e, h1, h2, h3⟩ := nb_dat n d h
  exact ⟨e, h1, by unfold SeqAt.shaped; rw [h2, Bool.true_and, decide_eq_true_eq]; omega⟩
open Classical in
theorem eqD_nb {x y : D} (hx : nb 9 x = true) (hy : nb 9 y = true) : eqD x y = some (decide (x = y)) := by
  obtain ⟨a, ha, sa⟩ := nb_sh hx (by omega)
  obtain ⟨b, hb, sb⟩ := nb_sh hy (by omega)
  unfold eqD
  rw [ha, hb]
  simp only [sa, sb, and_self, if_true]
  congr 1
  rw [Bool.eq_iff_iff, nb_eqv 9 9 x y a b hx hy ha hb, decide_eq_true_eq]
open Classical in
@[simp] theorem W_gEq {x y : D} {Q : D → Prop} (hx : nb 9 x = true) (hy : nb 9 y = true) : W (gEq x y) Q ↔ Q (.bl (decide (x = y))) := by
  unfold gEq
  rw [eqD_nb hx hy]
  exact W_some
open Classical in
@[simp] theorem W_gNe {x y : D} {Q : D → Prop} (hx : nb 9 x = true) (hy : nb 9 y = true) : W (gNe x y) Q ↔ Q (.bl (!decide (x = y))) := by
  unfold gNe
  rw [eqD_nb hx hy]
  exact W_some
theorem dat_own {xs : List D} : dat (.lst true xs) = dat (.lst false xs) := by rw [dat, dat]
@[simp] theorem gEq_o1 {xs : List D} {y : D} : gEq (.lst true xs) y = gEq (.lst false xs) y := by unfold gEq eqD; rw [dat_own]
@[simp] theorem gEq_o2 {xs : List D} {x : D} : gEq x (.lst true xs) = gEq x (.lst false xs) := by unfold gEq eqD; rw [dat_own]
@[simp] theorem gNe_o1 {xs : List D} {y : D} : gNe (.lst true xs) y = gNe (.lst false xs) y := by unfold gNe eqD; rw [dat_own]
@[simp] theorem gNe_o2 {xs : List D} {x : D} : gNe x (.lst true xs) = gNe x (.lst false xs) := by unfold gNe eqD; rw [dat_own]
theorem in_any {n : Nat} {x : D} {a : PyData} (hx : nb 9 x = true) (ha : dat x = some a) : ∀ (ds : List D) (es : List PyData), nbL n ds = true → dats ds = some es → ((es.any fun z => PyData.eqv z a) = true ↔ x ∈ ds)
  | [], es, _, e => by rw [dats] at e; cases e; simp
  | d :: ds, es, h, e => by
    rw [nbL_cons, Bool.and_eq_true] at h
    rw [dats] at e
    cases q1 : dat d with
    | none => rw [q1] at e; cases e
    | some b =>
      cases q2 : dats ds with
      | none => rw [q1, q2] at e; cases e
      | some bs =>
        rw [q1, q2] at e
        cases e
        rw [List.any_cons, Bool.or_eq_true, in_any hx ha ds bs h.2 q2, nb_eqv n 9 d x b a h.1 hx q1 ha, List.mem_cons]
        constructor
        · rintro (h | h)
          · exact .inl h.symm
          · exact .inr h
        · rintro (h | h)
          · exact .inl h.symm
          · exact .inr h
open Classical in
theorem inB_nb {x : D} {o : Bool} {ds : List D} (hx : nb 9 x = true) (hy : nbL 8 ds = true) : inB x (.lst o ds) = some (decide (x ∈ ds)) := by
  obtain ⟨a, ha, sa⟩ := nb_sh hx (by omega)
  obtain ⟨es, e, h1, h2⟩ := nbL_dat 8 ds hy
  unfold inB
  rw [ha, show dat (.lst o ds) = some (.list es) by rw [dat, e]; rfl]
  have sb : SeqAt.shaped (.list es) = true := by
    unfold SeqAt.shaped
    rw [PyData.canLay0, h1, Bool.true_and, decide_eq_true_eq, PyData.depth]; omega
  simp only [sa, sb, and_self, if_true]
  congr 1
  rw [Bool.eq_iff_iff, in_any hx ha ds es hy e, decide_eq_true_eq]
open Classical in
@[simp] theorem W_gIn {x : D} {o neg : Bool} {ds : List D} {Q : D → Prop} (hx : nb 9 x = true) (hy : nbL 8 ds = true) : W (gIn neg x (.lst o ds)) Q ↔ Q (.bl (if neg = true then !decide (x ∈ ds) else decide (x ∈ ds))) := by
  unfold gIn
  rw [inB_nb hx hy]
  exact W_some
@[simp] theorem isa_tl {ds : List D} : gIsa ["list"] (.tup ds) = some (.bl false) := rfl
@[simp] theorem isa_ll {o : Bool} {ds : List D} : gIsa ["list"] (.lst o ds) = some (.bl true) := rfl
@[simp] theorem isa_il {i : Int} : gIsa ["list"] (.int i) = some (.bl false) := rfl
@[simp] theorem isa_bl {i : Bool} : gIsa ["list"] (.bl i) = some (.bl false) := rfl
@[simp] theorem isa_nl : gIsa ["list"] .non = some (.bl false) := rfl
@[simp] theorem isa_tt {ds : List D} : gIsa ["tuple"] (.tup ds) = some (.bl true) := rfl
@[simp] theorem isa_lt {o : Bool} {ds : List D} : gIsa ["tuple"] (.lst o ds) = some (.bl false) := rfl
@[simp] theorem isa_it {i : Int} : gIsa ["tuple"] (.int i) = some (.bl false) := rfl
@[simp] theorem isa_bt {i : Bool} : gIsa ["tuple"] (.bl i) = some (.bl false) := rfl
@[simp] theorem isa_nt : gIsa ["tuple"] .non = some (.bl false) := rfl
@[simp] theorem isa_tlt {ds : List D} : gIsa ["list", "tuple"] (.tup ds) = some (.bl true) := rfl
@[simp] theorem isa_llt {o : Bool} {ds : List D} : gIsa ["list", "tuple"] (.lst o ds) = some (.bl true) := rfl
@[simp] theorem isa_ilt {i : Int} : gIsa ["list", "tuple"] (.int i) = some (.bl false) := rfl
@[simp] theorem isa_blt {i : Bool} : gIsa ["list", "tuple"] (.bl i) = some (.bl false) := rfl
@[simp] theorem isa_nlt : gIsa ["list", "tuple"] .non = some (.bl false) := rfl
@[simp] theorem isa_ttl {ds : List D} : gIsa ["tuple", "list"] (.tup ds) = some (.bl true) := rfl
@[simp] theorem isa_ltl {o : Bool} {ds : List D} : gIsa ["tuple", "list"] (.lst o ds) = some (.bl true) := rfl
@[simp] theorem isa_itl {i : Int} : gIsa ["tuple", "list"] (.int i) = some (.bl false) := rfl
@[simp] theorem isa_btl {i : Bool} : gIsa ["tuple", "list"] (.bl i) = some (.bl false) := rfl
@[simp] theorem isa_ntl : gIsa ["tuple", "list"] .non = some (.bl false) := rfl
@[simp] theorem isa_ib {i : Int} : gIsa ["bool"] (.int i) = some (.bl false) := rfl
@[simp] theorem isa_bb {i : Bool} : gIsa ["bool"] (.bl i) = some (.bl true) := rfl
@[simp] theorem isa_nb : gIsa ["bool"] .non = some (.bl false) := rfl
@[simp] theorem isa_tb {ds : List D} : gIsa ["bool"] (.tup ds) = some (.bl false) := rfl
@[simp] theorem isa_lb {o : Bool} {ds : List D} : gIsa ["bool"] (.lst o ds) = some (.bl false) := rfl
@[simp] theorem isa_ii {i : Int} : gIsa ["int"] (.int i) = some (.bl true) := rfl
@[simp] theorem isa_bi {i : Bool} : gIsa ["int"] (.bl i) = some (.bl true) := rfl
@[simp] theorem isa_ni : gIsa ["int"] .non = some (.bl false) := rfl
@[simp] theorem isa_ti {ds : List D} : gIsa ["int"] (.tup ds) = some (.bl false) := rfl
@[simp] theorem isa_li {o : Bool} {ds : List D} : gIsa ["int"] (.lst o ds) = some (.bl false) := rfl
theorem allB_mapF {f : α → Bool} (l : List α) : allB (l.map fun x => D.bl (f x)) = some (l.map f) := by
  induction l with
  | nil => rfl
  | cons x l ih => rw [List.map_cons, allB, ih]; rfl
@[simp] theorem all_map {f : α → Bool} (l : List α) {o : Bool} : gAll [.lst o (l.map fun x => D.bl (f x))] = some (.bl (l.all f)) := by
  unfold gAll
  simp only [u_lstL, Option.bind_some, allB_mapF, Option.map_some]
  congr 2
  rw [List.all_map]
  rfl
theorem zipD_map {f : α → D} {g : β → D} : ∀ (xs : List α) (ys : List β), zipD (xs.map f) (ys.map g) = (xs.zip ys).map fun p => .tup [f p.1, g p.2]
  | [], _ => by simp [zipD]
  | _ :: _, [] => by simp [zipD]
  | x :: xs, y :: ys => by rw [List.map_cons, List.map_cons, zipD, zipD_map xs ys]; rfl
theorem zip_ll {o o' : Bool} {xs ys : List D} (hx : fzL xs = true) (hy : fzL ys = true) : zipOf [.lst o xs, .lst o' ys] = some (zipD xs ys) := by
  unfold zipOf
  simp only [u_frL, freezeL_fz _ hx, freezeL_fz _ hy, u_lstL, u_fzL, hx, hy]
  simp
theorem zip_tt {xs ys : List D} (hx : fzL xs = true) (hy : fzL ys = true) : zipOf [.tup xs, .tup ys] = some (zipD xs ys) := by
  unfold zipOf
  simp only [u_frT, freezeL_fz _ hx, freezeL_fz _ hy]
  rw [if_pos ⟨hx, hy⟩]
@[simp] theorem zip_mapL {o o' : Bool} {f : α → D} {g : β → D} {xs : List α} {ys : List β} (hf : ∀ x, fz (f x) = true) (hg : ∀ x, fz (g x) = true) : zipOf [.lst o (xs.map f), .lst o' (ys.map g)] = some ((xs.zip ys).map fun p => .tup [f p.1, g p.2]) := by
  rw [zip_ll (u_fzLmap hf) (u_fzLmap hg), zipD_map]
@[simp] theorem zip_mapT {f : α → D} {g : β → D} {xs : List α} {ys : List β} (hf : ∀ x, fz (f x) = true) (hg : ∀ x, fz (g x) = true) : zipOf [.tup (xs.map f), .tup (ys.map g)] = some ((xs.zip ys).map fun p => .tup [f p.1, g p.2]) := by
  rw [zip_tt (u_fzLmap hf) (u_fzLmap hg), zipD_map]
theorem cut_to {xs : List D} {n : Int} (h : 0 ≤ n) : cutD xs none (some n) = xs.take n.toNat := by
  unfold cutD HT.sIx
  simp only
  rw [if_neg (by omega), List.drop_zero, Nat.sub_zero]
  rcases Nat.le_total n.toNat xs.length with h | h
  · rw [Nat.min_eq_left h]
  · rw [Nat.min_eq_right h, List.take_length, List.take_of_length_le h]
theorem cut_from {xs : List D} {n : Int} (h : 0 ≤ n) : cutD xs (some n) none = xs.drop n.toNat := by
  unfold cutD HT.sIx
  simp only
  rw [if_neg (by omega)]
  rcases Nat.le_total n.toNat xs.length with h | h
  · rw [Nat.min_eq_left h, List.take_of_length_le (by simp)]
  · rw [Nat.min_eq_right h, List.drop_eq_nil_of_le (Nat.le_refl _), List.drop_eq_nil_of_le h]
    simp
theorem cut_drop {f : α → D} {xs : List α} {n : Int} (h : 0 ≤ n) : cutD (xs.map f) (some n) none = (xs.drop n.toNat).map f := by rw [cut_from h, List.map_drop]
theorem cut_take {f : α → D} {xs : List α} {n : Int} (h : 0 ≤ n) : cutD (xs.map f) none (some n) = (xs.take n.toNat).map f := by rw [cut_to h, List.map_take]
end
end VS
set_option Elab.async false
set_option linter.all false
set_option maxRecDepth 100000
set_option maxHeartbeats 4000000
noncomputable section
namespace VS
open PySem PySem.Spec L2
theorem atI_int {xs : List Int} {i : Int} (h0 : 0 ≤ i) (h : i < xs.length) : atI (xs.map D.int) i = some (.int (xs[i.toNat]?.getD 0)) := by
  have hl : i.toNat < xs.length := by omega
  rw [atI_map h0 (List.getElem?_eq_getElem hl)]
  simp [hl]
theorem mem_of_split {α : Type} {xs p post : List α} {x : α} (e : xs = p ++ x :: post) : x ∈ xs := by rw [e]; simp
theorem len_of_split {α : Type} {xs p post : List α} {x : α} (e : xs = p ++ x :: post) : p.length < xs.length := by rw [e]; simp
@[simp] theorem fz_intsD {lo : Int} {n : Nat} : fzL (intsD lo n) = true := by
  unfold intsD
  exact u_fzLmap fun _ => u_fzI
@[simp] theorem fr_intsD {lo : Int} {n : Nat} : freezeL (intsD lo n) = intsD lo n := freezeL_fz _ fz_intsD
@[simp] theorem len_intsD {lo : Int} {n : Nat} : (intsD lo n).length = n := by simp [intsD]
theorem W_pick {l : List Int} {x : Int} {n : Int} {Q : D → Prop} (hl : (l.length : Int) = n) (h0 : 0 ≤ x) (h1 : x < n) (h : ∀ y ∈ l, Q (.int y)) : W (atI (l.map D.int) x) Q :=
  W_at h0 (by omega) fun y hy => h y (List.mem_of_getElem? hy)
inductive Tt : Nat → D → Prop
  | int {n : Nat} {i : Int} : Tt (n + 1) (.int i)
  | tup {n : Nat} {ds : List D} : (∀ d ∈ ds, Tt n d) → ds.length ≤ sizeLine → Tt (n + 1) (.tup ds)
theorem Tt.fz : ∀ {n : Nat} {d : D}, Tt n d → VS.fz d = true
  | _, _, .int => u_fzI
  | n + 1, _, .tup h _ => by
    rw [u_fzT, fzL_all, List.all_eq_true]
    intro x hx
    exact (h x hx).fz
theorem Tt.fzL {n : Nat} {ds : List D} (h : ∀ d ∈ ds, Tt n d) : VS.fzL ds = true := by
  rw [fzL_all, List.all_eq_true]
  exact fun x hx => (h x hx).fz
theorem Tt.rD {n : Nat} {r : R3} : Tt (n + 2) (VS.rD r) := .tup (by
  intro d hd
  simp at hd
  rcases hd with rfl | rfl | rfl <;> exact .int) (le_size (by simp))
theorem Tt.webD {n : Nat} {m : Int} {rows : List R3} (h : rows.length ≤ 100000) : Tt (n + 4) (VS.webD m rows) := .tup (by
  intro d hd
  simp at hd
  rcases hd with rfl | rfl
  · exact .int
  · refine .tup ?_ (le_size (by simp; omega))
    intro d hd
    obtain ⟨r, _, rfl⟩ := List.mem_map.mp hd
    exact .rD) (le_size (by simp))
theorem zipD_self (ds : List D) : zipD ds ds = ds.map fun d => .tup [d, d] := by
  induction ds with
  | nil => rfl
  | cons d ds ih => rw [zipD, ih]; rfl
end VS
set_option Elab.async false
set_option linter.all false
set_option maxRecDepth 100000
set_option maxHeartbeats 4000000
noncomputable section
namespace VS
open PySem PySem.Spec L2
theorem max_of {o : Bool} : ∀ {ns : List Int}, ns ≠ [] → ∃ M, gMax [.lst o (ns.map D.int)] = some (.int M) ∧ M ∈ ns ∧ ∀ y ∈ ns, y ≤ M
  | [], h => absurd rfl h
  | n :: ns, _ => by
    refine ⟨ns.foldl max n, ?_, ?_⟩
    · unfold gMax gMax1 gBest
      simp only [u_seqL, Option.bind_some]
      rw [allI_map]
    · have key : ∀ (l : List Int) (m : Int), l.foldl max m ∈ m :: l ∧ m ≤ l.foldl max m ∧ ∀ y ∈ l, y ≤ l.foldl max m := by
        intro l
        induction l with
        | nil => intro m; simp
        | cons a l ih =>
          intro m
          obtain ⟨h1, h2, h3⟩ := ih (max m a)
          rw [List.foldl_cons]
          refine ⟨?_, by omega, ?_⟩
          · rcases List.mem_cons.mp h1 with e | e
            · rw [e]
              by_cases q : m ≤ a
              · rw [Int.max_eq_right q]; simp
              · rw [Int.max_eq_left (by omega)]; simp
            · simp [e]
          · intro y hy
            rcases List.mem_cons.mp hy with rfl | hy
            · omega
            · exact h3 y hy
      obtain ⟨h1, h2, h3⟩ := key ns n
      refine ⟨h1, fun y hy => ?_⟩
      rcases List.mem_cons.mp hy with rfl | hy
      · exact h2
      · exact h3 y hy
@[simp] theorem u_minL {o : Bool} {i j : Int} : gMin [.lst o [.int i, .int j]] = some (.int (min i j)) := rfl
@[simp] theorem u_maxL {o : Bool} {i j : Int} : gMax [.lst o [.int i, .int j]] = some (.int (max i j)) := rfl
@[simp] theorem isa_st1 {x : Str} : gIsa ["str", "tuple"] (.str x) = some (.bl true) := rfl
@[simp] theorem isa_st2 {ds : List D} : gIsa ["str", "tuple"] (.tup ds) = some (.bl true) := rfl
@[simp] theorem isa_ts {x : Str} : gIsa ["tuple"] (.str x) = some (.bl false) := rfl
end VS
set_option Elab.async false
set_option linter.all false
set_option maxRecDepth 100000
set_option maxHeartbeats 4000000
set_option autoImplicit false
noncomputable section
namespace VS
open PySem PySem.Spec L2
section
variable {ρ : Env}
def ldQ (i : Nat) (ρ : Env) (Q : Rv D → Prop) : Rv D → Prop
  | .ok d _ => avoG (ρ.getD i .unk) d = true ∧ Q (.ok d ρ)
  | _ => False
@[simp] theorem ldQ_ok {i : Nat} {ρ1 : Env} {Q : Rv D → Prop} {d : D} : ldQ i ρ Q (.ok d ρ1) ↔ avoG (ρ.getD i .unk) d = true ∧ Q (.ok d ρ) := .rfl
@[simp] theorem W_dLend {i : Nat} {f : M D} {Q : Rv D → Prop} : W (dLend i f ρ) Q ↔ fz (freeze (ρ.getD i .unk)) = true ∧ W (f (lendEnv i (ρ.getD i .unk) ρ)) (ldQ i ρ Q) := by
  unfold dLend
  generalize ed : ρ.getD i .unk = d0
  have eq : ∀ r, ldQ i ρ Q r ↔ (match r with
    | .ok d _ => avoG d0 d = true ∧ Q (.ok d ρ)
    | _ => False) := fun r => by
    subst ed
    cases r <;> rfl
  by_cases z : fz (freeze d0) = true
  · rw [if_pos z]
    cases q : f (lendEnv i d0 ρ) with
    | none => simp
    | some u =>
      cases u with
      | ex x ρ1 => simp [z, eq]
      | ok d ρ1 =>
        simp only [z, true_and, W_some, eq]
        by_cases a : avoG d0 d = true
        · simp [a]
        · simp [a]
  · rw [if_neg z]; simp [z]
@[simp] theorem W_dEnA {f : M (List D)} {Q : Rv (List D) → Prop} : W (dEnA f ρ) Q ↔ W (f ρ) (bQ (fun ds => optM (enumA ds)) Q) := W_bindM
theorem enumA_1 {x : D} : enumA [x] = if isTp x = true then (if fz (freeze x) = true then (seqE (freeze x)).map enumD else none) else (lstOf (freeze x)).bind fun xs => if fzL xs = true ∧ fz (freeze x) = true then some (enumD xs) else none := rfl
theorem enumA_lst {o : Bool} {ds : List D} (h : fzL ds = true) : enumA [.lst o ds] = some (enumD ds) := by
  have e : freeze (.lst o ds) = .lst false ds := by rw [u_frL, freezeL_fz _ h]
  rw [enumA_1, if_neg (show ¬ isTp (.lst o ds) = true by simp [isTp]), e]
  simp [lstOf, h]
theorem enumD_map {α : Type} {f : α → D} {xs : List α} : enumD (xs.map f) = xs.zipIdx.map fun p => .tup [.int (p.2 : Nat), f p.1] := by
  unfold enumD
  apply List.ext_getElem?
  intro i
  by_cases h : i < xs.length
  · simp [h, List.getElem?_range]
  · simp [h]
@[simp] theorem W_dPreS {k : Nat} {g : MS} {Q : Fl × Env → Prop} : W (dPreS k g ρ) Q ↔ nunk ρ[k]? = true ∧ W (g (ρ.set k (freeze (ρ.getD k .unk)))) Q := by
  unfold dPreS
  rw [W_guard]
@[simp] theorem avoG_bl {d : D} {b : Bool} : avoG d (.bl b) = true := by simp [avoG, pl]
@[simp] theorem avoG_int {d : D} {i : Int} : avoG d (.int i) = true := by simp [avoG, pl]
@[simp] theorem avoG_non {d : D} : avoG d .non = true := by simp [avoG, pl]
@[simp] theorem avoG_str {d : D} {x : Str} : avoG d (.str x) = true := by simp [avoG, pl]
end
end VS
set_option Elab.async false
set_option linter.all false
set_option maxRecDepth 100000
set_option maxHeartbeats 4000000
set_option autoImplicit false
noncomputable section
namespace VS
open PySem PySem.Spec L2
section
variable {ρ : Env}
end
end VS
set_option Elab.async false
set_option linter.all false
set_option maxRecDepth 100000
set_option maxHeartbeats 4000000
set_option autoImplicit false
noncomputable section
namespace VS
open PySem PySem.Spec L2
section
variable {ρ : Env}
end
end VS
set_option Elab.async false
set_option linter.all false
set_option maxRecDepth 100000
set_option maxHeartbeats 4000000
set_option autoImplicit false
noncomputable section
namespace VS
open PySem PySem.Spec L2
section
variable {ρ : Env}
@[simp] theorem isa8_s_l {s : Str} : gIsa ["list"] (.str s) = some (.bl false) := rfl
@[simp] theorem isa8_s_t {s : Str} : gIsa ["tuple"] (.str s) = some (.bl false) := rfl
@[simp] theorem isa8_s_lt {s : Str} : gIsa ["list", "tuple"] (.str s) = some (.bl false) := rfl
@[simp] theorem isa8_s_tl {s : Str} : gIsa ["tuple", "list"] (.str s) = some (.bl false) := rfl
@[simp] theorem isa8_s_i {s : Str} : gIsa ["int"] (.str s) = some (.bl false) := rfl
@[simp] theorem isa8_s_b {s : Str} : gIsa ["bool"] (.str s) = some (.bl false) := rfl
@[simp] theorem isa8_s_st {s : Str} : gIsa ["str"] (.str s) = some (.bl true) := rfl
@[simp] theorem isa8_s_d {s : Str} : gIsa ["dict"] (.str s) = some (.bl false) := rfl
@[simp] theorem isa8_dT_l {o : Bool} {ks : List (List Key)} {ds : List D} : gIsa ["list"] (.dT o ks ds) = some (.bl false) := rfl
@[simp] theorem isa8_dT_t {o : Bool} {ks : List (List Key)} {ds : List D} : gIsa ["tuple"] (.dT o ks ds) = some (.bl false) := rfl
@[simp] theorem isa8_dT_lt {o : Bool} {ks : List (List Key)} {ds : List D} : gIsa ["list", "tuple"] (.dT o ks ds) = some (.bl false) := rfl
@[simp] theorem isa8_dT_tl {o : Bool} {ks : List (List Key)} {ds : List D} : gIsa ["tuple", "list"] (.dT o ks ds) = some (.bl false) := rfl
@[simp] theorem isa8_dT_i {o : Bool} {ks : List (List Key)} {ds : List D} : gIsa ["int"] (.dT o ks ds) = some (.bl false) := rfl
@[simp] theorem isa8_dT_b {o : Bool} {ks : List (List Key)} {ds : List D} : gIsa ["bool"] (.dT o ks ds) = some (.bl false) := rfl
@[simp] theorem isa8_dT_st {o : Bool} {ks : List (List Key)} {ds : List D} : gIsa ["str"] (.dT o ks ds) = some (.bl false) := rfl
@[simp] theorem isa8_dT_d {o : Bool} {ks : List (List Key)} {ds : List D} : gIsa ["dict"] (.dT o ks ds) = some (.bl true) := rfl
@[simp] theorem isa8_dK_l {o : Bool} {ks : List Key} {ds : List D} : gIsa ["list"] (.dK o ks ds) = some (.bl false) := rfl
@[simp] theorem isa8_dK_t {o : Bool} {ks : List Key} {ds : List D} : gIsa ["tuple"] (.dK o ks ds) = some (.bl false) := rfl
@[simp] theorem isa8_dK_lt {o : Bool} {ks : List Key} {ds : List D} : gIsa ["list", "tuple"] (.dK o ks ds) = some (.bl false) := rfl
@[simp] theorem isa8_dK_tl {o : Bool} {ks : List Key} {ds : List D} : gIsa ["tuple", "list"] (.dK o ks ds) = some (.bl false) := rfl
@[simp] theorem isa8_dK_i {o : Bool} {ks : List Key} {ds : List D} : gIsa ["int"] (.dK o ks ds) = some (.bl false) := rfl
@[simp] theorem isa8_dK_b {o : Bool} {ks : List Key} {ds : List D} : gIsa ["bool"] (.dK o ks ds) = some (.bl false) := rfl
@[simp] theorem isa8_dK_st {o : Bool} {ks : List Key} {ds : List D} : gIsa ["str"] (.dK o ks ds) = some (.bl false) := rfl
@[simp] theorem isa8_dK_d {o : Bool} {ks : List Key} {ds : List D} : gIsa ["dict"] (.dK o ks ds) = some (.bl true) := rfl
@[simp] theorem isa8_i_st {i : Int} : gIsa ["str"] (.int i) = some (.bl false) := rfl
@[simp] theorem isa8_i_d {i : Int} : gIsa ["dict"] (.int i) = some (.bl false) := rfl
@[simp] theorem isa8_b_st {i : Bool} : gIsa ["str"] (.bl i) = some (.bl false) := rfl
@[simp] theorem isa8_b_d {i : Bool} : gIsa ["dict"] (.bl i) = some (.bl false) := rfl
@[simp] theorem isa8_n_st  : gIsa ["str"] (.non) = some (.bl false) := rfl
@[simp] theorem isa8_n_d  : gIsa ["dict"] (.non) = some (.bl false) := rfl
@[simp] theorem isa8_t_st {ds : List D} : gIsa ["str"] (.tup ds) = some (.bl false) := rfl
@[simp] theorem isa8_t_d {ds : List D} : gIsa ["dict"] (.tup ds) = some (.bl false) := rfl
@[simp] theorem isa8_l_st {o : Bool} {ds : List D} : gIsa ["str"] (.lst o ds) = some (.bl false) := rfl
@[simp] theorem isa8_l_d {o : Bool} {ds : List D} : gIsa ["dict"] (.lst o ds) = some (.bl false) := rfl
end
end VS
set_option Elab.async false
set_option linter.all false
set_option maxRecDepth 100000
set_option maxHeartbeats 4000000
set_option autoImplicit false
noncomputable section
namespace VS
open PySem PySem.Spec L2
section
variable {ρ : Env}
@[simp] theorem W_dMtP {i : Nat} {p : List Int} {g : List D → List D → Option (D × List D)} {f : M (List D)} {Q : Rv D → Prop} : W (dMtP i p g f ρ) Q ↔ okP i p ρ = true ∧ W (f ρ) (bQ (mtP i p g) Q) := by
  unfold dMtP
  rw [W_guard, W_bindM]
def mtQ (i : Nat) (p : List Int) (ρ : Env) (Q : Rv D → Prop) (r : D × List D) : Prop := Q (.ok r.1 (ρ.set i (setP p (ρ.getD i .unk) (.lst true r.2))))
@[simp] theorem mtQ_a {i : Nat} {p : List Int} {Q : Rv D → Prop} {d : D} {xs : List D} : mtQ i p ρ Q (d, xs) ↔ Q (.ok d (ρ.set i (setP p (ρ.getD i .unk) (.lst true xs)))) := .rfl
@[simp] theorem W_mtP {i : Nat} {p : List Int} {g : List D → List D → Option (D × List D)} {es : List D} {Q : Rv D → Prop} : W (mtP i p g es ρ) Q ↔ W ((getP p (ρ.getD i .unk)).bind fun xs => g xs es) (mtQ i p ρ Q) := by
  unfold mtP
  cases getP p (ρ.getD i .unk) with
  | none => simp
  | some xs =>
    simp only [Option.bind_some]
    cases g xs es with
    | none => simp
    | some r => obtain ⟨d, xs'⟩ := r; simp
@[simp] theorem u_okP {i : Nat} {p : List Int} : okP i p ρ = (getP p (ρ.getD i .unk)).isSome := rfl
end
end VS
set_option Elab.async false
set_option linter.all false
set_option maxRecDepth 100000
set_option maxHeartbeats 4000000
set_option autoImplicit false
noncomputable section
namespace VS
open PySem PySem.Spec L2
section
variable {ρ : Env}
end
end VS
set_option Elab.async false
set_option linter.all false
set_option maxRecDepth 100000
set_option maxHeartbeats 4000000
noncomputable section
namespace VS
open PySem PySem.Spec PyProof.Rows L2
end VS
set_option Elab.async false
set_option linter.all false
set_option maxRecDepth 100000
set_option maxHeartbeats 4000000
set_option autoImplicit false
noncomputable section
namespace VS
open PySem PySem.Spec PyProof.Rows L2
end VS
set_option Elab.async false
set_option linter.all false
set_option maxRecDepth 100000
set_option maxHeartbeats 4000000
set_option autoImplicit false
noncomputable section
namespace VS
open PySem PySem.Spec PyProof.Rows L2
end VS
set_option Elab.async false
set_option linter.all false
set_option maxRecDepth 100000
set_option maxHeartbeats 4000000
set_option autoImplicit false
noncomputable section
namespace VS
open PySem PySem.Spec PyProof.Rows L2
end VS
set_option Elab.async false
set_option linter.all false
set_option maxRecDepth 100000
set_option maxHeartbeats 4000000
set_option autoImplicit false
noncomputable section
namespace VS
open PySem PySem.Spec PyProof.Rows L2
def tryKQ (i j : Nat) (yes : List Str) (Q : Fl × Env → Prop) : Fl × Env → Prop
  | (.ex x, ρ) => (x.p.isNone = true ∧ x.c ∈ yes) ∧ Q (.nx, (ρ.set j (.exo x.c none)).set i .unk)
  | r => Q r
section
variable {ρ : Env} {i j : Nat} {yes : List Str} {Q : Fl × Env → Prop}
@[simp] theorem tryKQ_nx : tryKQ i j yes Q (.nx, ρ) ↔ Q (.nx, ρ) := .rfl
@[simp] theorem tryKQ_rt {d : D} : tryKQ i j yes Q (.rt d, ρ) ↔ Q (.rt d, ρ) := .rfl
@[simp] theorem tryKQ_bk : tryKQ i j yes Q (.bk, ρ) ↔ Q (.bk, ρ) := .rfl
@[simp] theorem tryKQ_ct : tryKQ i j yes Q (.ct, ρ) ↔ Q (.ct, ρ) := .rfl
@[simp] theorem tryKQ_ex {x : Xc} : tryKQ i j yes Q (.ex x, ρ) ↔ (x.p.isNone = true ∧ x.c ∈ yes) ∧ Q (.nx, (ρ.set j (.exo x.c none)).set i .unk) := .rfl
@[simp] theorem W_dTryK {body : MS} : W (dTryK i j yes body ρ) Q ↔ W (body ρ) (tryKQ i j yes Q) := by
  unfold dTryK
  cases body ρ with
  | none => simp
  | some r =>
    obtain ⟨fl, ρ1⟩ := r
    cases fl with
    | ex x =>
      simp only [W_some, tryKQ_ex]
      exact W_guard.trans (and_congr_right fun _ => W_some)
    | _ => simp
@[simp] theorem W_dIsy {ns : List Str} {tab : Tab} {ts : List Str} {f : M D} {Q : Rv D → Prop} : W (dIsy ns tab ts f ρ) Q ↔ W (f ρ) (bQ (fun d => optM (isyD ns tab ts d)) Q) := W_bindM
@[simp] theorem isy_exo {ns : List Str} {tab : Tab} {ts : List Str} {c : Str} : isyD ns tab ts (.exo c none) = if c ∈ ns then (tabAny tab c ts).map D.bl else none := rfl
@[simp] theorem fz_exo {c : Str} {p : Option (Str × Int)} : fz (.exo c p) = true := by rw [fz]
@[simp] theorem freeze_exo {c : Str} {p : Option (Str × Int)} : freeze (.exo c p) = .exo c p := by rw [freeze]
@[simp] theorem nunk_exo {c : Str} {p : Option (Str × Int)} : nunk (some (.exo c p)) = true := rfl
end
end VS
set_option Elab.async false
set_option linter.all false
set_option maxRecDepth 100000
set_option maxHeartbeats 4000000
set_option autoImplicit false
noncomputable section
namespace VS
open PySem PySem.Spec PyProof.Rows L2
def nT (x : Int × List Int) : D := .tup [.int x.1, tI x.2]
end VS
set_option Elab.async false
set_option linter.all false
set_option maxRecDepth 100000
set_option maxHeartbeats 4000000
noncomputable section
namespace VS
open PySem PySem.Spec L2
end VS
set_option Elab.async false
set_option linter.all false
set_option maxRecDepth 100000
set_option maxHeartbeats 4000000
set_option autoImplicit false
noncomputable section
namespace VS
open PySem PySem.Spec L2
section
variable {ρ : Env}
end
end VS
set_option Elab.async false
set_option linter.all false
set_option maxRecDepth 100000
set_option maxHeartbeats 4000000
set_option autoImplicit false
noncomputable section
namespace VS
open PySem PySem.Spec L2
section
variable {ρ : Env}
end
end VS
set_option Elab.async false
set_option linter.all false
set_option maxRecDepth 100000
set_option maxHeartbeats 4000000
set_option autoImplicit false
noncomputable section
namespace VS
open PySem PySem.Spec L2
end VS
set_option Elab.async false
set_option linter.all false
set_option maxRecDepth 100000
set_option maxHeartbeats 4000000
set_option autoImplicit false
noncomputable section
namespace VS
open PySem PySem.Spec L2
end VS
set_option Elab.async false
set_option linter.all false
set_option maxRecDepth 100000
set_option maxHeartbeats 4000000
set_option autoImplicit false
noncomputable section
namespace VS
open PySem PySem.Spec PyProof.Rows L2
section
variable {ρ : Env}
end
end VS
set_option Elab.async false
set_option linter.all false
set_option maxRecDepth 100000
set_option maxHeartbeats 4000000
set_option autoImplicit false
noncomputable section
namespace VS
open PySem PySem.Spec PyProof.Rows L2
section
variable {ρ : Env}
section
variable {i : Nat} {fl : Str} {yes no : List Str} {suite : Addr → Str → Int → MS} {Q : Fl × Env → Prop}
end
end
end VS
set_option Elab.async false
set_option linter.all false
set_option maxRecDepth 100000
set_option maxHeartbeats 4000000
set_option autoImplicit false
noncomputable section
namespace VS
open PySem PySem.Spec PyProof.Rows L2
section
variable {ρ : Env}
end
end VS
set_option Elab.async false
set_option linter.all false
set_option maxRecDepth 100000
set_option maxHeartbeats 4000000
set_option autoImplicit false
noncomputable section
namespace VS
open PySem PySem.Spec L2
section
variable {ρ : Env} {ns ts : List Str} {tab : Tab} {c f g : Str} {p : Option (Str × Int)} {n : Int} {h : M D} {Q : Rv D → Prop}
end
end VS
set_option Elab.async false
set_option linter.all false
set_option maxRecDepth 100000
set_option maxHeartbeats 4000000
set_option autoImplicit false
noncomputable section
namespace VS
open PySem PySem.Spec L2
section
variable {ρ : Env}
end
end VS
set_option Elab.async false
set_option linter.all false
set_option maxRecDepth 100000
set_option maxHeartbeats 4000000
set_option autoImplicit false
noncomputable section
namespace VS
open PySem PySem.Spec PyProof.Rows L2
section
variable {ρ : Env}
section
variable {i : Nat} {yes no : List Str} {suite : Addr → Str → Str → Int → MS} {Q : Fl × Env → Prop}
end
end
end VS
set_option Elab.async false
set_option linter.all false
set_option maxRecDepth 100000
set_option maxHeartbeats 4000000
set_option autoImplicit false
noncomputable section
namespace VS
open PySem PySem.Spec PyProof.Rows L2
@[simp] theorem W_dItM {ρ : Env} {f : M D} {Q : Rv (List D) → Prop} : W (dItM f ρ) Q ↔ W (f ρ) (bQ (fun d => optM (itMv d)) Q) := W_bindM
@[simp] theorem itMv_l {xs : List D} : itMv (.lst true xs) = some xs := rfl
end VS
set_option Elab.async false
set_option linter.all false
set_option maxRecDepth 100000
set_option maxHeartbeats 4000000
set_option autoImplicit false
noncomputable section
namespace VS
open PySem PySem.Spec PyProof.Rows L2
abbrev Ko := List R3 × List Int
def oT (x : Ko) : D := .tup [.tup (x.1.map rD), .lst true (x.2.map D.int)]
def rP3 (r : R3) : PyData := .tuple [.int r.1, .int r.2.1, .int r.2.2]
def oP (x : Ko) : PyData := .tuple [.tuple (x.1.map rP3), .list (x.2.map PyData.int)]
theorem pos_map {α : Type} {f : α → D} {g : α → PyData} (h : ∀ x, poOf (f x) = some (g x)) : ∀ xs : List α, posOf (xs.map f) = some (xs.map g)
  | [] => by simp [posOf]
  | x :: xs => by rw [List.map_cons, posOf, h x, pos_map h xs]; rfl
theorem po_rD (r : R3) : poOf (rD r) = some (rP3 r) := by
  unfold rD rP3
  rfl
theorem po_int (i : Int) : poOf (.int i) = some (.int i) := by rw [poOf]
theorem po_oT (x : Ko) : poOf (oT x) = some (oP x) := by
  unfold oT oP
  rw [poOf, posOf, poOf, pos_map po_rD, posOf, poOf, pos_map po_int, posOf]
  rfl
def oTk (x : Ko) : List (Int ⊕ List Nat) := PySem.W.keyToks (oP x)
def leO (x y : Ko) : Prop := (PyProof.Rows.listOrd PyProof.Rows.itemOrd).kle (oTk x) (oTk y)
theorem tk_ints : ∀ {xs ys : List Int} {s t : List (Int ⊕ List Nat)}, PySem.W.keyToksAll (xs.map PyData.int) ++ s = PySem.W.keyToksAll (ys.map PyData.int) ++ t → xs = ys ∧ s = t
  | [], [], s, t, h => by
    simp [PySem.W.keyToksAll] at h
    exact ⟨rfl, h⟩
  | [], y :: ys, s, t, h => by simp [PySem.W.keyToksAll] at h
  | x :: xs, [], s, t, h => by simp [PySem.W.keyToksAll] at h
  | x :: xs, y :: ys, s, t, h => by
    simp only [List.map_cons, PySem.W.keyToksAll, PySem.W.keyToks, List.cons_append, List.nil_append, List.cons.injEq] at h
    obtain ⟨_, h1, h2⟩ := h
    obtain ⟨e, f⟩ := tk_ints h2
    injection h1 with h1
    exact ⟨by rw [h1, e], f⟩
theorem tk_r (r : R3) : PySem.W.keyToks (rP3 r) = [.inl 1, .inl r.1, .inl 1, .inl r.2.1, .inl 1, .inl r.2.2, .inl 0] := by
  unfold rP3
  simp [PySem.W.keyToks, PySem.W.keyToksAll]
theorem tk_rows : ∀ {xs ys : List R3} {s t : List (Int ⊕ List Nat)}, PySem.W.keyToksAll (xs.map rP3) ++ s = PySem.W.keyToksAll (ys.map rP3) ++ t → xs = ys ∧ s = t
  | [], [], s, t, h => by
    simp [PySem.W.keyToksAll] at h
    exact ⟨rfl, h⟩
  | [], y :: ys, s, t, h => by simp [PySem.W.keyToksAll] at h
  | x :: xs, [], s, t, h => by simp [PySem.W.keyToksAll] at h
  | x :: xs, y :: ys, s, t, h => by
    simp only [List.map_cons, PySem.W.keyToksAll, tk_r, List.cons_append, List.nil_append, List.cons.injEq] at h
    obtain ⟨_, _, h1, _, h2, _, h3, _, h4⟩ := h
    obtain ⟨e, f⟩ := tk_rows h4
    injection h1 with h1
    injection h2 with h2
    injection h3 with h3
    exact ⟨by rw [e, show x = y from Prod.ext h1 (Prod.ext h2 h3)], f⟩
theorem oTk_eq (x : Ko) : oTk x = .inl 1 :: (PySem.W.keyToksAll (x.1.map rP3) ++ (.inl 1 :: (PySem.W.keyToksAll (x.2.map PyData.int) ++ [.inl 0]))) := by
  unfold oTk oP
  simp [PySem.W.keyToks, PySem.W.keyToksAll]
theorem leO_anti {x y : Ko} (h1 : leO x y) (h2 : leO y x) : x = y := by
  have e : oTk x = oTk y := KeyOrd.kle_antisymm (O := PyProof.Rows.listOrd PyProof.Rows.itemOrd) h1 h2
  rw [oTk_eq, oTk_eq] at e
  injection e with _ e
  obtain ⟨e1, e2⟩ := tk_rows e
  injection e2 with _ e2
  exact Prod.ext e1 (tk_ints e2).1
theorem leO_trans {x y z : Ko} (h1 : leO x y) (h2 : leO y z) : leO x z := KeyOrd.kle_trans (O := PyProof.Rows.listOrd PyProof.Rows.itemOrd) h1 h2
theorem leO_diff {p t t' : List R3} {r r' : R3} {os os' : List Int} (lt : le3 r' r = true ∧ r' ≠ r) : ¬ leO (p ++ r :: t, os) (p ++ r' :: t', os') := by
  intro h
  have key : (PyProof.Rows.listOrd PyProof.Rows.itemOrd).blt (oTk (p ++ r' :: t', os')) (oTk (p ++ r :: t, os)) = true := by
    show PyProof.Rows.lexLt PyProof.Rows.itemOrd (oTk (p ++ r' :: t', os')) (oTk (p ++ r :: t, os)) = true
    rw [oTk_eq, oTk_eq]
    have pre : ∀ (p q : List R3), PySem.W.keyToksAll ((p ++ q).map rP3) = (p.flatMap fun r => (.inl 1) :: PySem.W.keyToks (rP3 r)) ++ PySem.W.keyToksAll (q.map rP3) := by
      intro p q
      induction p with
      | nil => rfl
      | cons a p ih =>
        rw [List.cons_append, List.map_cons, PySem.W.keyToksAll, ih]
        simp [List.flatMap_cons]
    dsimp only
    rw [pre, pre, List.append_assoc, List.append_assoc, PyProof.Rows.lex_self, PySem.W.lex_pre]
    rw [List.map_cons, List.map_cons, PySem.W.keyToksAll, PySem.W.keyToksAll, tk_r, tk_r]
    simp only [List.cons_append, List.nil_append]
    rw [PyProof.Rows.lex_self, PyProof.Rows.lex_self]
    obtain ⟨hle, ne⟩ := lt
    have c2 : r3 r' < r3 r := by
      unfold le3 leL at hle
      have hle := of_decide_eq_true hle
      rcases List.le_iff_lt_or_eq.mp hle with h | h
      · exact h
      · exact absurd (r3_inj h) ne
    clear hle ne h
    obtain ⟨a, b, l⟩ := r
    obtain ⟨a', b', l'⟩ := r'
    unfold r3 at c2
    simp only [List.cons_lt_cons_iff] at c2
    rcases c2 with c | ⟨e1, c⟩
    · have c : a' < a := c
      rw [PySem.W.lex_atom (fun z => by injection z with z; omega), PySem.W.lex_one]
      show decide (a' < a) = true
      exact decide_eq_true c
    · have e1 : a' = a := e1
      subst e1
      rw [PyProof.Rows.lex_self, PyProof.Rows.lex_self]
      rcases c with c | ⟨e2, c⟩
      · have c : b' < b := c
        rw [PySem.W.lex_atom (fun z => by injection z with z; have z : b' = b := z; omega), PySem.W.lex_one]
        show decide (b' < b) = true
        exact decide_eq_true c
      · have e2 : b' = b := e2
        subst e2
        rw [PyProof.Rows.lex_self, PyProof.Rows.lex_self]
        rcases c with c | ⟨_, c⟩
        · have c : l' < l := c
          rw [PySem.W.lex_atom (fun z => by injection z with z; have z : l' = l := z; omega), PySem.W.lex_one]
          show decide (l' < l) = true
          exact decide_eq_true c
        · exact absurd c (List.not_lt_nil _)
  have h : (PyProof.Rows.listOrd PyProof.Rows.itemOrd).blt (oTk (p ++ r' :: t', os')) (oTk (p ++ r :: t, os)) = false := h
  rw [key] at h
  cases h
theorem minD_least (p : PyData) (ps : List PyData) : ∀ q ∈ p :: ps, (PyProof.Rows.listOrd PyProof.Rows.itemOrd).kle (PySem.W.keyToks (PySem.W.minD p ps)) (PySem.W.keyToks q) := by
  unfold PySem.W.minD
  induction ps generalizing p with
  | nil =>
    intro q hq
    rw [List.mem_singleton] at hq
    rw [hq]
    exact (PyProof.Rows.listOrd PyProof.Rows.itemOrd).irrefl _
  | cons y ps ih =>
    intro q hq
    rw [List.foldl_cons]
    by_cases c : PySem.W.dataLt y p = true
    · rw [if_pos c]
      rcases List.mem_cons.mp hq with rfl | hq
      · exact KeyOrd.kle_trans (O := PyProof.Rows.listOrd PyProof.Rows.itemOrd) (ih y y List.mem_cons_self) (KeyOrd.klt_asymm (O := PyProof.Rows.listOrd PyProof.Rows.itemOrd) c)
      · exact ih y q hq
    · rw [if_neg c]
      rcases List.mem_cons.mp hq with rfl | hq
      · exact ih q q List.mem_cons_self
      · rcases List.mem_cons.mp hq with rfl | hq
        · exact KeyOrd.kle_trans (O := PyProof.Rows.listOrd PyProof.Rows.itemOrd) (ih p p List.mem_cons_self) (by
            show PySem.W.dataLt q p = false
            simpa using c)
        · exact ih p q (List.mem_cons_of_mem _ hq)
theorem alike_ints9 : ∀ xs ys : List Int, PySem.W.alikeAll (xs.map PyData.int) (ys.map PyData.int) = true
  | [], _ => by simp [PySem.W.alikeAll]
  | _ :: _, [] => by simp [PySem.W.alikeAll]
  | x :: xs, y :: ys => by rw [List.map_cons, List.map_cons, PySem.W.alikeAll, alike_ints9 xs ys]; rfl
theorem alike_rows9 : ∀ xs ys : List R3, PySem.W.alikeAll (xs.map rP3) (ys.map rP3) = true
  | [], _ => by simp [PySem.W.alikeAll]
  | _ :: _, [] => by simp [PySem.W.alikeAll]
  | x :: xs, y :: ys => by rw [List.map_cons, List.map_cons, PySem.W.alikeAll, alike_rows9 xs ys]; rfl
theorem alike_oP (x y : Ko) : PySem.W.alike (oP x) (oP y) = true := by
  unfold oP
  rw [PySem.W.alike, PySem.W.alikeAll, PySem.W.alike, alike_rows9, PySem.W.alikeAll, PySem.W.alike, alike_ints9]
  rfl
theorem depth_i9 : ∀ xs : List Int, PyData.depthAll (xs.map PyData.int) ≤ 1
  | [] => by simp [PyData.depthAll]
  | x :: xs => by
    rw [List.map_cons, PyData.depthAll]
    have := depth_i9 xs
    have : (PyData.int x).depth ≤ 1 := by simp [PyData.depth]
    omega
theorem depth_r9 : ∀ xs : List R3, PyData.depthAll (xs.map rP3) ≤ 3
  | [] => by simp [PyData.depthAll]
  | x :: xs => by
    rw [List.map_cons, PyData.depthAll]
    have := depth_r9 xs
    have : (rP3 x).depth ≤ 3 := by simp [rP3, PyData.depth, PyData.depthAll]
    omega
theorem depth_o9 : ∀ xs : List Ko, PyData.depthAll (xs.map oP) ≤ 60
  | [] => by simp [PyData.depthAll]
  | x :: xs => by
    rw [List.map_cons, PyData.depthAll]
    have h := depth_o9 xs
    have h1 := depth_r9 x.1
    have h2 := depth_i9 x.2
    have : (oP x).depth ≤ 60 := by
      unfold oP
      simp only [PyData.depth, PyData.depthAll]
      omega
    omega
theorem minO {o : Bool} {xs : List Ko} (h : xs ≠ []) : ∃ x ∈ xs, gMinO [.lst o (xs.map oT)] = some (oT x) ∧ ∀ y ∈ xs, leO x y := by
  cases xs with
  | nil => exact absurd rfl h
  | cons x xs =>
    have e := pos_map po_oT (x :: xs)
    rw [List.map_cons (f := oP)] at e
    have hm := minD_mem (oP x) (xs.map oP)
    have hl := minD_least (oP x) (xs.map oP)
    rw [← List.map_cons] at hm hl
    obtain ⟨y, hy, ey⟩ := List.mem_map.mp hm
    refine ⟨y, hy, ?_, fun z hz => ?_⟩
    · unfold gMinO
      simp only
      rw [e]
      simp only
      rw [if_pos, ← ey]
      · have := (po_dat _ _ (po_oT y)).2
        rw [this]
      · rw [Bool.and_eq_true, Bool.and_eq_true]
        refine ⟨⟨?_, ?_⟩, ?_⟩
        · unfold alikeB
          rw [← List.map_cons]
          simp only [List.all_map, List.all_eq_true, Function.comp]
          exact fun a _ b _ => alike_oP a b
        · rw [← List.map_cons]
          exact decide_eq_true (depth_o9 (x :: xs))
        · rw [← List.map_cons]
          simp only [List.all_map, List.all_eq_true, Function.comp]
          intro a _
          rfl
    · have := hl (oP z) (List.mem_map.mpr ⟨z, hz, rfl⟩)
      rw [← ey] at this
      exact this
end VS
set_option Elab.async false
set_option linter.all false
set_option maxRecDepth 100000
set_option maxHeartbeats 4000000
noncomputable section
namespace G
open PySem PySem.Spec L2 VS
def kp (r : R3) : Int × Int := (r.1, r.2.1)
def lnR (r : R3) : Int := r.2.2
def Conn (many : Int) (rows : List R3) : Prop := ∀ S : Int → Prop, S 0 → (∀ r ∈ rows, S r.1 ↔ S r.2.1) → ∀ x, 0 ≤ x → x < many → S x
def at0 (os : List Int) (i : Nat) : Int := os[i]?.getD 0
def Tree (os : List Int) (rows : List R3) (k : Nat) : Prop := ∀ j, 1 ≤ j → j ≤ k → ∃ i, i < j ∧ (min (at0 os j) (at0 os i), max (at0 os j) (at0 os i)) ∈ rows.map kp
theorem Tree.conn {many : Int} {os : List Int} {rows : List R3} (ho : os.Perm (rangeI many.toNat)) (ht : Tree os rows (os.length - 1)) : Conn many rows := by
  intro S h0 hS
  have key : ∀ j, j < os.length → (S (at0 os j) ↔ S (at0 os 0)) := by
    intro j
    induction j using Nat.strongRecOn with
    | _ j ih =>
      intro hj
      by_cases z : j = 0
      · subst z; rfl
      · obtain ⟨i, hi, hm⟩ := ht j (by omega) (by omega)
        obtain ⟨r, hr, er⟩ := List.mem_map.mp hm
        have e := hS r hr
        simp only [kp, Prod.mk.injEq] at er
        rw [er.1, er.2] at e
        have e2 : S (at0 os j) ↔ S (at0 os i) := by
          by_cases c : at0 os j ≤ at0 os i
          · rw [Int.min_eq_left c, Int.max_eq_right c] at e; exact e
          · rw [Int.min_eq_right (by omega), Int.max_eq_left (by omega)] at e; exact e.symm
        exact e2.trans (ih i hi (by omega))
  have mem : ∀ x, 0 ≤ x → x < many → ∃ j, j < os.length ∧ at0 os j = x := by
    intro x h1 h2
    have hx : x ∈ os := ho.mem_iff.mpr (mem_rangeI.mpr ⟨h1, by omega⟩)
    obtain ⟨j, hj⟩ := List.getElem?_of_mem hx
    exact ⟨j, (List.getElem?_eq_some_iff.mp hj).1, by simp [at0, hj]⟩
  intro x h1 h2
  obtain ⟨j, hj, rfl⟩ := mem x h1 h2
  obtain ⟨i, hi, ei⟩ := mem 0 (by omega) (by omega)
  rw [key j hj, ← key i hi, ei]
  exact h0
theorem os_at {os : List Int} {many : Int} (ho : os.Perm (rangeI many.toNat)) (h1 : 1 ≤ many) (i : Nat) : 0 ≤ at0 os i ∧ at0 os i < many := by
  unfold at0
  cases e : os[i]? with
  | none => simp; omega
  | some x =>
    have hm : x ∈ rangeI many.toNat := ho.mem_iff.mp (List.mem_of_getElem? e)
    have := mem_rangeI.mp hm
    simp
    omega
theorem os_ne {os : List Int} {many : Int} (ho : os.Perm (rangeI many.toNat)) {i j : Nat} (hi : i < os.length) (hj : j < os.length) (h : i ≠ j) : at0 os i ≠ at0 os j := by
  unfold at0
  rw [List.getElem?_eq_getElem hi, List.getElem?_eq_getElem hj]
  simp
  intro e
  exact h ((List.getElem_inj (ho.nodup_iff.mpr (nodup_rangeI _))).mp e)
theorem look_row : ∀ {rows : List R3} {r : R3}, (rows.map kp).Nodup → r ∈ rows → look (rows.map kp) (rows.map lnR) (kp r) = some r.2.2
  | [], r, _, h => by cases h
  | q :: rows, r, nd, h => by
    rw [List.map_cons, List.map_cons, look]
    rcases List.mem_cons.mp h with rfl | h
    · rw [if_pos rfl]; rfl
    · have n := (List.nodup_cons.mp (by rw [← List.map_cons]; exact nd))
      rw [if_neg (fun e => n.1 (by rw [e]; exact List.mem_map_of_mem h))]
      exact look_row n.2 h
theorem rows_sorted {rows : List R3} (nd : (rows.map kp).Nodup) : (sP (rows.map kp)).map (fun p => (p.1, p.2, (look (rows.map kp) (rows.map lnR) p).getD 0)) = sort3 rows := by
  refine (sort3_eq ?_ ?_).symm
  · have e : (rows.map kp).map (fun p => (p.1, p.2, (look (rows.map kp) (rows.map lnR) p).getD 0)) = rows := by
      rw [List.map_map]
      conv => rhs; rw [← List.map_id rows]
      refine List.map_congr_left fun r hr => ?_
      show ((kp r).1, (kp r).2, (look (rows.map kp) (rows.map lnR) (kp r)).getD 0) = r
      rw [look_row nd hr]
      rfl
    have p := ((sP_perm (rows.map kp)).map (fun p => (p.1, p.2, (look (rows.map kp) (rows.map lnR) p).getD 0))).symm
    rw [e] at p
    exact p
  · rw [List.pairwise_map]
    exact (sP_lt nd).imp fun h => leL_r3 h
end G
set_option Elab.async false
set_option linter.all false
set_option maxRecDepth 100000
set_option maxHeartbeats 4000000
noncomputable section
namespace G
open PySem PySem.Spec L2 VS
def bt0 (fs : List Bool) (i : Int) : Bool := fs[i.toNat]?.getD false
end G
set_option Elab.async false
set_option linter.all false
set_option maxRecDepth 100000
set_option maxHeartbeats 4000000
noncomputable section
namespace G
open PySem PySem.Spec L2 VS
def fA (fs : List (Option Int)) (x : Int) : Option Int := fs[x.toNat]?.getD none
def nearL (rows : List R3) (x : Int) : List (Int × Int) := rows.flatMap fun r => (if r.1 = x then [(r.2.1, r.2.2)] else []) ++ (if r.2.1 = x then [(r.1, r.2.2)] else [])
theorem near_mem {rows : List R3} {x o l : Int} : (o, l) ∈ nearL rows x ↔ ∃ r ∈ rows, (r.1 = x ∧ r.2.1 = o ∧ r.2.2 = l) ∨ (r.2.1 = x ∧ r.1 = o ∧ r.2.2 = l) := by
  unfold nearL
  rw [List.mem_flatMap]
  constructor
  · rintro ⟨r, hr, h⟩
    refine ⟨r, hr, ?_⟩
    rcases List.mem_append.mp h with h | h
    · split at h
      · rename_i e
        simp at h
        exact .inl ⟨e, h.1.symm, h.2.symm⟩
      · cases h
    · split at h
      · rename_i e
        simp at h
        exact .inr ⟨e, h.1.symm, h.2.symm⟩
      · cases h
  · rintro ⟨r, hr, ⟨h1, h2, h3⟩ | ⟨h1, h2, h3⟩⟩
    · exact ⟨r, hr, List.mem_append_left _ (by rw [if_pos h1, h2, h3]; simp)⟩
    · exact ⟨r, hr, List.mem_append_right _ (by rw [if_pos h1, h2, h3]; simp)⟩
theorem near_symm {rows : List R3} {x o l : Int} (h : (o, l) ∈ nearL rows x) : (x, l) ∈ nearL rows o := by
  obtain ⟨r, hr, ⟨h1, h2, h3⟩ | ⟨h1, h2, h3⟩⟩ := near_mem.mp h
  · exact near_mem.mpr ⟨r, hr, .inr ⟨h2, h1, h3⟩⟩
  · exact near_mem.mpr ⟨r, hr, .inl ⟨h2, h1, h3⟩⟩
structure Wb (m : Int) (rows : List R3) : Prop where
  m1 : 1 ≤ m
  m2 : m ≤ 60
  en : ∀ r ∈ rows, 0 ≤ r.1 ∧ r.1 < r.2.1 ∧ r.2.1 < m
  ln : ∀ r ∈ rows, 1 ≤ r.2.2 ∧ r.2.2 ≤ 1000000000000000000000000000000
  le : rows.length ≤ 220
  cn : Conn m rows
theorem Wb.near {m : Int} {rows : List R3} (w : Wb m rows) {x o l : Int} (h : (o, l) ∈ nearL rows x) : 0 ≤ x ∧ x < m ∧ 0 ≤ o ∧ o < m ∧ x ≠ o ∧ 1 ≤ l := by
  obtain ⟨r, hr, ⟨h1, h2, h3⟩ | ⟨h1, h2, h3⟩⟩ := near_mem.mp h
  · have := w.en r hr
    have := w.ln r hr
    omega
  · have := w.en r hr
    have := w.ln r hr
    omega
inductive Wk (rows : List R3) (p : Int) : Int → Int → Prop
  | nil : Wk rows p p 0
  | step {x o l d : Int} : (o, l) ∈ nearL rows x → Wk rows p x d → Wk rows p o (d + l)
theorem Wk.nonneg {m : Int} {rows : List R3} (w : Wb m rows) {p x d : Int} (h : Wk rows p x d) : 0 ≤ d := by
  induction h with
  | nil => omega
  | step hn _ ih =>
    have := w.near hn
    omega
theorem Wk.le {rows : List R3} {p x d : Int} {f : Int → Int} (h0 : f p = 0) (hf : ∀ x o l, (o, l) ∈ nearL rows x → f o ≤ f x + l) (h : Wk rows p x d) : f x ≤ d := by
  induction h with
  | nil => omega
  | step hn _ ih =>
    have := hf _ _ _ hn
    omega
def rlx (a : Int) (fs : List (Option Int)) (q : Int × Int) : List (Option Int) := match fA fs q.1 with
  | none => fs.set q.1.toNat (some (a + q.2))
  | some b => if a + q.2 < b then fs.set q.1.toNat (some (a + q.2)) else fs
theorem fA_set {fs : List (Option Int)} {o x : Int} {v : Option Int} (h0 : 0 ≤ o) (h1 : o < fs.length) (hx : 0 ≤ x) : fA (fs.set o.toNat v) x = if x = o then v else fA fs x := by
  unfold fA
  by_cases e : x = o
  · subst e
    rw [if_pos rfl, List.getElem?_set_self (by omega)]
    rfl
  · rw [if_neg e, List.getElem?_set_ne (by omega)]
structure Dj (m : Int) (rows : List R3) (p : Int) (fs : List (Option Int)) (ds : List Bool) : Prop where
  lf : fs.length = m.toNat
  ld : ds.length = m.toNat
  src : fA fs p = some 0
  wk : ∀ x d, 0 ≤ x → fA fs x = some d → Wk rows p x d
  dn : ∀ x, 0 ≤ x → bt0 ds x = true → fA fs x ≠ none
  rx : ∀ x o l a, (o, l) ∈ nearL rows x → bt0 ds x = true → fA fs x = some a → ∃ b, fA fs o = some b ∧ b ≤ a + l
  od : ∀ x y a b, 0 ≤ x → 0 ≤ y → bt0 ds x = true → bt0 ds y = false → fA fs x = some a → fA fs y = some b → a ≤ b
structure Mid (m : Int) (rows : List R3) (p : Int) (f0 : List (Option Int)) (ds : List Bool) (a : Int) (pre : List (Int × Int)) (fs : List (Option Int)) : Prop where
  lf : fs.length = m.toNat
  mono : ∀ x b, 0 ≤ x → fA f0 x = some b → ∃ b', fA fs x = some b' ∧ b' ≤ b
  keep : ∀ x, 0 ≤ x → bt0 ds x = true → fA fs x = fA f0 x
  proc : ∀ q ∈ pre, ∃ b, fA fs q.1 = some b ∧ b ≤ a + q.2
  wk : ∀ x d, 0 ≤ x → fA fs x = some d → Wk rows p x d
  lo : ∀ x d, 0 ≤ x → bt0 ds x = false → fA fs x = some d → a ≤ d
theorem Mid.step {m : Int} {rows : List R3} {p h a : Int} {f0 fs : List (Option Int)} {ds : List Bool} {pre : List (Int × Int)} {q : Int × Int} (w : Wb m rows) (hd : ∀ x, 0 ≤ x → bt0 ds x = true → ∃ b, fA f0 x = some b ∧ b ≤ a) (hh : bt0 ds h = true) (h0 : 0 ≤ h) (ha : fA f0 h = some a)
    (M : Mid m rows p f0 ds a pre fs) (hq : q ∈ nearL rows h) : Mid m rows p f0 ds a (pre ++ [q]) (rlx a fs q) := by
  obtain ⟨o, l⟩ := q
  obtain ⟨_, _, o0, o1, hne, l1⟩ := w.near hq
  have wkh : Wk rows p h a := M.wk h a h0 (by rw [M.keep h h0 hh]; exact ha)
  have wko : Wk rows p o (a + l) := .step hq wkh
  have ol : o < fs.length := by have := M.lf; have := w.m1; omega
  -- what a store does
  have main : (bt0 ds o = false) → (∀ b, fA fs o = some b → a + l < b) → Mid m rows p f0 ds a (pre ++ [(o, l)]) (fs.set o.toNat (some (a + l))) := fun nd hb => by
    have fs' : ∀ x, 0 ≤ x → fA (fs.set o.toNat (some (a + l))) x = if x = o then some (a + l) else fA fs x := fun x hx => fA_set o0 ol hx
    refine ⟨by rw [List.length_set]; exact M.lf, fun x b hx hb0 => ?_, fun x hx hdx => ?_, fun q hq' => ?_, fun x d hx hd' => ?_, fun x d hx hn hd' => ?_⟩
    · obtain ⟨b', h1, h2⟩ := M.mono x b hx hb0
      rw [fs' x hx]
      by_cases e : x = o
      · subst e
        rw [if_pos rfl]
        have := hb b' h1
        exact ⟨_, rfl, by omega⟩
      · rw [if_neg e]; exact ⟨b', h1, h2⟩
    · rw [fs' x hx, if_neg (fun e => by rw [e, nd] at hdx; cases hdx)]
      exact M.keep x hx hdx
    · rcases List.mem_append.mp hq' with hq' | hq'
      · obtain ⟨b, h1, h2⟩ := M.proc q hq'
        by_cases e : q.1 = o
        · rw [e, fs' o o0, if_pos rfl]
          rw [e] at h1
          have := hb b h1
          exact ⟨_, rfl, by omega⟩
        · by_cases hx : 0 ≤ q.1
          · rw [fs' q.1 hx, if_neg e]; exact ⟨b, h1, h2⟩
          · have e1 : q.1.toNat = 0 := by omega
            by_cases e2 : o = 0
            · have e3 : fA (fs.set o.toNat (some (a + l))) q.1 = some (a + l) := by
                have := fs' 0 (by omega)
                rw [if_pos e2.symm] at this
                unfold fA at this ⊢
                rw [e1]
                simpa using this
              have h1' : fA fs o = some b := by
                unfold fA at h1 ⊢
                rw [e1] at h1
                rw [e2]
                simpa using h1
              have := hb b h1'
              exact ⟨_, e3, by omega⟩
            · have e3 : fA (fs.set o.toNat (some (a + l))) q.1 = fA fs q.1 := by
                have := fs' 0 (by omega)
                rw [if_neg (fun z => e2 z.symm)] at this
                unfold fA at this ⊢
                rw [e1]
                simpa using this
              rw [e3]; exact ⟨b, h1, h2⟩
      · rw [List.mem_singleton] at hq'
        subst hq'
        exact ⟨a + l, by rw [fs' o o0, if_pos rfl], by omega⟩
    · rw [fs' x hx] at hd'
      by_cases e : x = o
      · rw [if_pos e] at hd'
        cases hd'
        rw [e]; exact wko
      · rw [if_neg e] at hd'
        exact M.wk x d hx hd'
    · rw [fs' x hx] at hd'
      by_cases e : x = o
      · rw [if_pos e] at hd'
        cases hd'
        omega
      · rw [if_neg e] at hd'
        exact M.lo x d hx hn hd'
  have nodone : (∀ b, fA fs o = some b → a + l < b) → bt0 ds o = false := fun hb => by
    cases e : bt0 ds o with
    | false => rfl
    | true =>
      obtain ⟨b, h1, h2⟩ := hd o o0 e
      rw [← M.keep o o0 e] at h1
      have := hb b h1
      omega
  unfold rlx
  cases e : fA fs o with
  | none =>
    simp only [e]
    have hb : ∀ b, fA fs o = some b → a + l < b := fun b z => by rw [e] at z; cases z
    exact main (nodone hb) hb
  | some b =>
    simp only [e]
    by_cases c : a + l < b
    · rw [if_pos c]
      have hb : ∀ b, fA fs o = some b → a + l < b := fun b' z => by rw [e] at z; cases z; exact c
      exact main (nodone hb) hb
    · rw [if_neg c]
      refine ⟨M.lf, M.mono, M.keep, fun q hq' => ?_, M.wk, M.lo⟩
      rcases List.mem_append.mp hq' with hq' | hq'
      · exact M.proc q hq'
      · rw [List.mem_singleton] at hq'
        subst hq'
        exact ⟨b, e, by omega⟩
end G
set_option Elab.async false
set_option linter.all false
set_option maxRecDepth 100000
set_option maxHeartbeats 4000000
noncomputable section
namespace G
open PySem PySem.Spec L2 VS
def dR (o : Bool) (rows : List R3) : D := dP o (rows.map kp) (rows.map lnR)
@[simp] theorem nu_dR {o : Bool} {rows : List R3} : nunk (some (dR o rows)) = true := rfl
@[simp] theorem dct_dR {o : Bool} {rows : List R3} : isDct (some (dR o rows)) = true := rfl
@[simp] theorem fr_dR {o : Bool} {rows : List R3} : freeze (dR o rows) = dR false rows := by unfold dR; simp
@[simp] theorem fz_dR {rows : List R3} : fz (dR false rows) = true := by unfold dR; simp
@[simp] theorem len_dR {o : Bool} {rows : List R3} : lenD (dR o rows) = some rows.length := by unfold dR; simp
theorem putL_new {κ α : Type} [DecidableEq κ] : ∀ (ks : List κ) (as : List α) (k : κ) (a : α), ks.length = as.length → k ∉ ks → putL ks as k a = (ks ++ [k], as ++ [a])
  | [], [], k, a, _, _ => by simp [putL]
  | [], _ :: _, k, a, h, _ => by cases h
  | _ :: _, [], k, a, h, _ => by cases h
  | k' :: ks, x :: as, k, a, h, n => by
    simp at n
    rw [putL, if_neg (fun e => n.1 e.symm), putL_new ks as k a (Nat.succ.inj h) n.2]
    rfl
theorem put_dR {rows : List R3} {a b l : Int} (hs : rows.length < sizeLine) (n : (a, b) ∉ rows.map kp) : VS.putAt (dR true rows) (.tup [.int a, .int b]) (.int l) = some (dR true (rows ++ [(a, b, l)])) := by
  unfold dR
  rw [u_putP, if_pos (by simpa using hs), putL_new _ _ _ _ (by simp) n]
  simp [kp, lnR]
end G
set_option Elab.async false
set_option linter.all false
set_option maxRecDepth 100000
set_option maxHeartbeats 4000000
noncomputable section
namespace G
open PySem PySem.Spec L2 VS
def leI (a b : Int) : Bool := decide (a ≤ b)
def sortI (ns : List Int) : List Int := ns.mergeSort leI
theorem sortI_perm (ns : List Int) : (sortI ns).Perm ns := List.mergeSort_perm _ _
theorem sortI_sorted (ns : List Int) : (sortI ns).Pairwise fun a b => a ≤ b := by
  have := List.pairwise_mergeSort (le := leI) (fun x y z h1 h2 => by unfold leI at *; simp at *; omega) (fun x y => by unfold leI; simp; omega) ns
  exact this.imp fun h => by unfold leI at h; simpa using h
theorem leD_int (a b : Int) : leD (.int a) (.int b) = leI a b := by
  unfold leD leI
  exact congrFun (congrFun (PySem.W.dataLe_int (β := Int) (fun b => b)) a) b
theorem sorted_ints {o : Bool} {ns : List Int} (h : ns.length ≤ sizeLine) : gSorted [.lst o (ns.map D.int)] = some (.lst true ((sortI ns).map D.int)) := by
  show (sortD (ns.map D.int)).map (fun ys => D.lst true ys) = _
  have e : sortD (ns.map D.int) = some ((sortI ns).map D.int) := by
    unfold sortD
    rw [dats_ints]
    simp only
    rw [if_pos]
    · congr 1
      exact (List.map_mergeSort (f := D.int) (r := leI) (s := leD) (l := ns) (fun x _ y _ => (leD_int x y).symm)).symm
    · refine ⟨?_, by rw [List.length_map]; exact h⟩
      rw [Bool.and_eq_true, Bool.and_eq_true]
      refine ⟨⟨?_, ?_⟩, ?_⟩
      · unfold alikeB
        rw [List.all_eq_true]
        intro x hx
        rw [List.all_eq_true]
        intro y hy
        obtain ⟨a, _, rfl⟩ := List.mem_map.mp hx
        obtain ⟨b, _, rfl⟩ := List.mem_map.mp hy
        rfl
      · unfold sortB
        rw [Bool.or_eq_true]
        right
        rw [List.all_eq_true]
        intro x hx
        obtain ⟨a, _, rfl⟩ := List.mem_map.mp hx
        rfl
      · rw [List.all_eq_true]
        intro x hx
        obtain ⟨a, _, rfl⟩ := List.mem_map.mp hx
        simp [PyData.depth]
  rw [e]
  rfl
end G
set_option Elab.async false
set_option linter.all false
set_option maxRecDepth 100000
set_option maxHeartbeats 4000000
noncomputable section
namespace G
open PySem PySem.Spec L2 VS
structure Rb (many : Int) (rows : List R3) : Prop where
  nd : (rows.map kp).Nodup
  en : ∀ r ∈ rows, 0 ≤ r.1 ∧ r.1 < r.2.1 ∧ r.2.1 < many
  ln : ∀ r ∈ rows, 1 ≤ r.2.2 ∧ r.2.2 ≤ 1000000000000000000000000000000
theorem Rb.nil {many : Int} : Rb many [] := ⟨by simp, by simp, by simp⟩
theorem Rb.mono {m n : Int} {rows : List R3} (h : Rb m rows) (hm : m ≤ n) : Rb n rows := ⟨h.nd, fun r hr => by have := h.en r hr; omega, h.ln⟩
theorem Rb.add {many : Int} {rows : List R3} {a b l : Int} (h : Rb many rows) (n : (a, b) ∉ rows.map kp) (h1 : 0 ≤ a ∧ a < b ∧ b < many) (hl : 1 ≤ l ∧ l ≤ 1000000000000000000000000000000) : Rb many (rows ++ [(a, b, l)]) := by
  refine ⟨?_, ?_, ?_⟩
  · rw [List.map_append]
    refine List.nodup_append.mpr ⟨h.nd, by simp, ?_⟩
    intro x hx y hy e
    simp [kp] at hy
    subst e
    subst hy
    exact n hx
  · intro r hr
    rcases List.mem_append.mp hr with hr | hr
    · exact h.en r hr
    · rw [List.mem_singleton] at hr
      subst hr
      exact h1
  · intro r hr
    rcases List.mem_append.mp hr with hr | hr
    · exact h.ln r hr
    · rw [List.mem_singleton] at hr
      subst hr
      exact hl
theorem Conn.sub {many : Int} {rows more : List R3} (h : Conn many rows) : Conn many (rows ++ more) := fun S h0 hS => h S h0 fun r hr => hS r (List.mem_append_left _ hr)
theorem Conn.all {many : Int} {rows : List R3} (h : Conn many rows) {S : Int → Prop} (hS : ∀ r ∈ rows, S r.1 ↔ S r.2.1) {x y : Int} (x0 : 0 ≤ x) (x1 : x < many) (y0 : 0 ≤ y) (y1 : y < many) : S x ↔ S y := by
  have k : ∀ z, 0 ≤ z → z < many → (S z ↔ S 0) := h (fun z => S z ↔ S 0) Iff.rfl fun r hr => by rw [hS r hr]
  exact (k x x0 x1).trans (k y y0 y1).symm
theorem Conn.grow {m : Int} {rows : List R3} (h : Conn m rows) (more : List R3) (n : Int) (hm : 1 ≤ m) (hx : ∀ S : Int → Prop, (∀ r ∈ more, S r.1 ↔ S r.2.1) → (∀ x, 0 ≤ x → x < m → S x) → ∀ x, m ≤ x → x < n → S x) : Conn n (rows ++ more) := by
  intro S h0 hS x x0 x1
  have old := h S h0 fun r hr => hS r (List.mem_append_left _ hr)
  by_cases c : x < m
  · exact old x x0 c
  · exact hx S (fun r hr => hS r (List.mem_append_right _ hr)) old x (by omega) x1
theorem Conn.one : Conn 1 [] := by
  intro S h0 _ x x0 x1
  have : x = 0 := by omega
  rw [this]; exact h0
theorem conn_kp {many : Int} {rows rows' : List R3} (e : rows'.map kp = rows.map kp) (h : Conn many rows) : Conn many rows' := by
  intro S h0 hS
  refine h S h0 fun r hr => ?_
  have : kp r ∈ rows'.map kp := by rw [e]; exact List.mem_map_of_mem hr
  obtain ⟨q, hq, eq⟩ := List.mem_map.mp this
  have := hS q hq
  simp only [kp, Prod.mk.injEq] at eq
  rw [eq.1, eq.2] at this
  exact this
def nmr (os : List Int) (r : R3) : R3 := (min (at0 os r.1.toNat) (at0 os r.2.1.toNat), max (at0 os r.1.toNat) (at0 os r.2.1.toNat), r.2.2)
theorem at0_inj {os : List Int} {many : Int} (ho : os.Perm (rangeI many.toNat)) {a b : Int} (a0 : 0 ≤ a) (a1 : a < many) (b0 : 0 ≤ b) (b1 : b < many) (h : at0 os a.toNat = at0 os b.toNat) : a = b := by
  have hl : os.length = many.toNat := by rw [ho.length_eq, len_rangeI]
  by_cases e : a.toNat = b.toNat
  · omega
  · exact absurd h (os_ne ho (by omega) (by omega) e)
theorem nmr_rb {os : List Int} {many : Int} {rows : List R3} (h1 : 1 ≤ many) (ho : os.Perm (rangeI many.toNat)) (h : Rb many rows) : Rb many (rows.map (nmr os)) := by
  refine ⟨?_, ?_, ?_⟩
  · rw [List.map_map]
    have h0 := h.nd
    unfold List.Nodup at h0 ⊢
    rw [List.pairwise_map] at h0 ⊢
    refine h0.imp_of_mem fun {r q} hr hq ne e => ne ?_
    have e1 := h.en r hr
    have e2 := h.en q hq
    simp only [Function.comp, kp, nmr, Prod.mk.injEq] at e
    have i1 := fun z => at0_inj ho (a := r.1) (b := q.1) (by omega) (by omega) (by omega) (by omega) z
    have i2 := fun z => at0_inj ho (a := r.2.1) (b := q.2.1) (by omega) (by omega) (by omega) (by omega) z
    have i3 := fun z => at0_inj ho (a := r.1) (b := q.2.1) (by omega) (by omega) (by omega) (by omega) z
    have i4 := fun z => at0_inj ho (a := r.2.1) (b := q.1) (by omega) (by omega) (by omega) (by omega) z
    generalize at0 os r.1.toNat = w1 at *
    generalize at0 os r.2.1.toNat = w2 at *
    generalize at0 os q.1.toNat = w3 at *
    generalize at0 os q.2.1.toNat = w4 at *
    have : (w1 = w3 ∧ w2 = w4) ∨ (w1 = w4 ∧ w2 = w3) := by omega
    unfold kp
    rcases this with ⟨a, b⟩ | ⟨a, b⟩
    · rw [i1 a, i2 b]
    · have := i3 a
      have := i4 b
      omega
  · intro r hr
    obtain ⟨q, hq, rfl⟩ := List.mem_map.mp hr
    have e := h.en q hq
    have a := os_at ho h1 q.1.toNat
    have b := os_at ho h1 q.2.1.toNat
    have n : at0 os q.1.toNat ≠ at0 os q.2.1.toNat := fun z => by
      have := at0_inj ho (a := q.1) (b := q.2.1) (by omega) (by omega) (by omega) (by omega) z
      omega
    simp only [nmr]
    omega
  · intro r hr
    obtain ⟨q, hq, rfl⟩ := List.mem_map.mp hr
    exact h.ln q hq
theorem nmr_conn {os : List Int} {many : Int} {rows : List R3} (h1 : 1 ≤ many) (ho : os.Perm (rangeI many.toNat)) (h : Rb many rows) (c : Conn many rows) : Conn many (rows.map (nmr os)) := by
  intro S h0 hS
  have hl : os.length = many.toNat := by rw [ho.length_eq, len_rangeI]
  have cl : ∀ r ∈ rows, (S (at0 os r.1.toNat) ↔ S (at0 os r.2.1.toNat)) := by
    intro r hr
    have := hS (nmr os r) (List.mem_map_of_mem hr)
    simp only [nmr] at this
    by_cases q : at0 os r.1.toNat ≤ at0 os r.2.1.toNat
    · rw [Int.min_eq_left q, Int.max_eq_right q] at this; exact this
    · rw [Int.min_eq_right (by omega), Int.max_eq_left (by omega)] at this; exact this.symm
  have mem : ∀ x, 0 ≤ x → x < many → ∃ j : Int, (0 ≤ j ∧ j < many) ∧ at0 os j.toNat = x := by
    intro x x0 x1
    have hx : x ∈ os := ho.mem_iff.mpr (mem_rangeI.mpr ⟨x0, by omega⟩)
    obtain ⟨j, hj⟩ := List.getElem?_of_mem hx
    have hj2 := (List.getElem?_eq_some_iff.mp hj).1
    exact ⟨(j : Int), by omega, by simp [at0, hj]⟩
  intro x x0 x1
  obtain ⟨j, ⟨j0, j1⟩, rfl⟩ := mem x x0 x1
  obtain ⟨i, ⟨i0, i1⟩, ei⟩ := mem 0 (by omega) (by omega)
  have := Conn.all c (S := fun z => S (at0 os z.toNat)) cl j0 j1 i0 i1
  rw [this, ei]
  exact h0
theorem sort3_lt {rows : List R3} (nd : (rows.map kp).Nodup) : (sort3 rows).Pairwise lt3 := by
  rw [← rows_sorted nd, List.pairwise_map]
  exact (sP_lt nd).imp fun h => h
structure Wt (m : Int) (rows : List R3) : Prop extends Wb m rows where
  so : rows.Pairwise lt3
theorem Wt.nd {m : Int} {rows : List R3} (w : Wt m rows) : (rows.map kp).Nodup := by
  unfold List.Nodup
  rw [List.pairwise_map]
  refine w.so.imp fun {a b} h e => ?_
  simp only [kp, Prod.mk.injEq] at e
  unfold lt3 at h
  omega
theorem named_wt {os : List Int} {many : Int} {rows : List R3} (h1 : 1 ≤ many) (h2 : many ≤ 60) (le : rows.length ≤ 220) (ho : os.Perm (rangeI many.toNat)) (h : Rb many rows) (c : Conn many rows) : Wt many (sort3 (rows.map (nmr os))) := by
  have rb := nmr_rb h1 ho h
  have cn := nmr_conn h1 ho h c
  have mm : ∀ r, r ∈ sort3 (rows.map (nmr os)) ↔ r ∈ rows.map (nmr os) := fun r => (sort3_perm _).mem_iff
  exact ⟨⟨h1, h2, fun r hr => rb.en r ((mm r).mp hr), fun r hr => rb.ln r ((mm r).mp hr), by rw [sort3_len, List.length_map]; exact le, fun S h0 hS => cn S h0 fun r hr => hS r ((mm r).mpr hr)⟩, sort3_lt rb.nd⟩
theorem set_kp {rows : List R3} {i : Nat} {r r' : R3} (hr : rows[i]? = some r) (e : kp r' = kp r) : (rows.set i r').map kp = rows.map kp := by
  rw [List.map_set, e]
  apply List.ext_getElem?
  intro j
  by_cases z : i = j
  · subst z
    have hi := (List.getElem?_eq_some_iff.mp hr).1
    rw [List.getElem?_set_self (by simpa using hi), List.getElem?_map, hr]
    rfl
  · rw [List.getElem?_set_ne z]
theorem Wt.set {m : Int} {rows : List R3} {i : Nat} {r : R3} {l : Int} (w : Wt m rows) (hr : rows[i]? = some r) (hl : 1 ≤ l ∧ l ≤ 1000000000000000000000000000000) : Wt m (rows.set i (r.1, r.2.1, l)) := by
  have e := set_kp hr (r' := (r.1, r.2.1, l)) rfl
  have mem : ∀ q ∈ rows.set i (r.1, r.2.1, l), q = (r.1, r.2.1, l) ∨ q ∈ rows := fun q hq => by
    rcases List.mem_or_eq_of_mem_set hq with h | h
    · exact .inr h
    · exact .inl h
  have rm : r ∈ rows := List.mem_of_getElem? hr
  refine ⟨⟨w.m1, w.m2, fun q hq => ?_, fun q hq => ?_, by rw [List.length_set]; exact w.le, conn_kp e w.cn⟩, ?_⟩
  · rcases mem q hq with rfl | h
    · exact w.en r rm
    · exact w.en q h
  · rcases mem q hq with rfl | h
    · exact hl
    · exact w.ln q h
  · have k : ∀ rs : List R3, rs.Pairwise lt3 ↔ (rs.map kp).Pairwise fun p q => p.1 < q.1 ∨ (p.1 = q.1 ∧ p.2 < q.2) := fun rs => by
      rw [List.pairwise_map]; exact Iff.rfl
    rw [k, e, ← k]
    exact w.so
def PConn (n : Int) (ps : List (Int × Int)) : Prop := ∀ S : Int → Prop, S 0 → (∀ p ∈ ps, S p.1 ↔ S p.2) → ∀ x, 0 ≤ x → x < n → S x
structure Pc (n : Int) (ps : List (Int × Int)) : Prop where
  n1 : 2 ≤ n
  n2 : n ≤ 9
  en : ∀ p ∈ ps, 0 ≤ p.1 ∧ p.1 < p.2 ∧ p.2 < n
  nd : ps.Nodup
  cn : PConn n ps
  le : ps.length ≤ 100
end G
set_option Elab.async false
set_option linter.all false
set_option maxRecDepth 100000
set_option maxHeartbeats 4000000
noncomputable section
namespace G
open PySem PySem.Spec L2 VS
theorem bt_set {ds : List Bool} {h x : Int} {v : Bool} (h0 : 0 ≤ h) (h1 : h < ds.length) (hx : 0 ≤ x) : bt0 (ds.set h.toNat v) x = if x = h then v else bt0 ds x := by
  unfold bt0
  by_cases e : x = h
  · subst e
    rw [if_pos rfl, List.getElem?_set_self (by omega)]
    rfl
  · rw [if_neg e, List.getElem?_set_ne (by omega)]
theorem Dj.start {m : Int} {rows : List R3} {p : Int} (w : Wb m rows) (p0 : 0 ≤ p) (p1 : p < m) : Dj m rows p ((List.replicate m.toNat none).set p.toNat (some 0)) (List.replicate m.toNat false) := by
  have hl : p < ((List.replicate m.toNat (none : Option Int)).length : Int) := by simp; omega
  have e : ∀ x, 0 ≤ x → fA ((List.replicate m.toNat none).set p.toNat (some 0)) x = if x = p then some 0 else none := fun x hx => by
    rw [fA_set p0 hl hx]
    split
    · rfl
    · unfold fA
      rw [List.getElem?_replicate]
      split <;> rfl
  have b : ∀ x, bt0 (List.replicate m.toNat false) x = false := fun x => by
    unfold bt0
    rw [List.getElem?_replicate]
    split <;> rfl
  refine ⟨by simp, by simp, by rw [e p p0, if_pos rfl], fun x d hx hd => ?_, fun x hx hb => ?_, fun x o l a _ hb _ => ?_, fun x y a c _ _ hb _ _ _ => ?_⟩
  · rw [e x hx] at hd
    split at hd
    · rename_i ex
      cases hd
      rw [ex]; exact .nil
    · cases hd
  · rw [b] at hb; cases hb
  · rw [b] at hb; cases hb
  · rw [b] at hb; cases hb
theorem Dj.hd {m : Int} {rows : List R3} {p h a : Int} {fs : List (Option Int)} {ds : List Bool} (D : Dj m rows p fs ds) (h0 : 0 ≤ h) (h1 : h < m) (hn : bt0 ds h = false) (ha : fA fs h = some a) : ∀ x, 0 ≤ x → bt0 (ds.set h.toNat true) x = true → ∃ b, fA fs x = some b ∧ b ≤ a := by
  have hl : h < (ds.length : Int) := by rw [D.ld]; omega
  intro x hx hb
  rw [bt_set h0 hl hx] at hb
  split at hb
  · rename_i e
    rw [e]; exact ⟨a, ha, by omega⟩
  · have := D.dn x hx hb
    cases q : fA fs x with
    | none => exact absurd q this
    | some b => exact ⟨b, rfl, D.od x h b a hx h0 hb hn q ha⟩
theorem Dj.turn {m : Int} {rows : List R3} {p h a : Int} {fs f1 : List (Option Int)} {ds : List Bool} (w : Wb m rows) (D : Dj m rows p fs ds) (p0 : 0 ≤ p) (h0 : 0 ≤ h) (h1 : h < m) (hn : bt0 ds h = false) (ha : fA fs h = some a) (M : Mid m rows p fs (ds.set h.toNat true) a (nearL rows h) f1) : Dj m rows p f1 (ds.set h.toNat true) := by
  have hl : h < (ds.length : Int) := by rw [D.ld]; omega
  have hd := D.hd h0 h1 hn ha
  refine ⟨M.lf, by rw [List.length_set]; exact D.ld, ?_, M.wk, fun x hx hb => ?_, fun x o l c ho hb hc => ?_, fun x y c d hx hy hb hnb hc hd' => ?_⟩
  · obtain ⟨b, e1, e2⟩ := M.mono p 0 p0 D.src
    have := (M.wk p b p0 e1).nonneg w
    rw [e1]
    congr 1
    omega
  · obtain ⟨b, e, _⟩ := hd x hx hb
    rw [M.keep x hx hb, e]
    intro z; cases z
  · have hx : 0 ≤ x := (w.near ho).1
    have ho0 : 0 ≤ o := (w.near ho).2.2.1
    have hc0 := hc
    rw [M.keep x hx hb] at hc0
    rw [bt_set h0 hl hx] at hb
    split at hb
    · rename_i e
      subst e
      rw [ha] at hc0
      cases hc0
      exact M.proc (o, l) ho
    · obtain ⟨b, e1, e2⟩ := D.rx x o l c ho hb hc0
      obtain ⟨b', e3, e4⟩ := M.mono o b ho0 e1
      exact ⟨b', e3, by omega⟩
  · obtain ⟨b, e1, e2⟩ := hd x hx hb
    rw [← M.keep x hx hb, hc] at e1
    cases e1
    have := M.lo y d hy hnb hd'
    omega
theorem Dj.open {m : Int} {rows : List R3} {p x : Int} {fs : List (Option Int)} {ds : List Bool} (w : Wb m rows) (D : Dj m rows p fs ds) (p0 : 0 ≤ p) (p1 : p < m) (x0 : 0 ≤ x) (x1 : x < m) (hx : bt0 ds x = false) : ∃ h, 0 ≤ h ∧ h < m ∧ bt0 ds h = false ∧ fA fs h ≠ none := by
  apply Classical.byContradiction
  intro no
  have all : ∀ y, 0 ≤ y → y < m → fA fs y ≠ none → bt0 ds y = true := fun y y0 y1 hy => by
    cases q : bt0 ds y with
    | true => rfl
    | false => exact absurd ⟨y, y0, y1, q, hy⟩ no
  have cl : ∀ r ∈ rows, (fA fs r.1 ≠ none ↔ fA fs r.2.1 ≠ none) := fun r hr => by
    have e := w.en r hr
    have n1 : (r.2.1, r.2.2) ∈ nearL rows r.1 := near_mem.mpr ⟨r, hr, .inl ⟨rfl, rfl, rfl⟩⟩
    have go : ∀ u v l, (v, l) ∈ nearL rows u → fA fs u ≠ none → fA fs v ≠ none := fun u v l hn hu => by
      have hw := w.near hn
      cases q : fA fs u with
      | none => exact absurd q hu
      | some a =>
        obtain ⟨b, e1, _⟩ := D.rx u v l a hn (all u hw.1 hw.2.1 hu) q
        rw [e1]; intro z; cases z
    exact ⟨go _ _ _ n1, go _ _ _ (near_symm n1)⟩
  have hp : fA fs p ≠ none := by rw [D.src]; intro z; cases z
  have h0 : fA fs 0 ≠ none := by
    apply Classical.byContradiction
    intro z
    exact w.cn (fun y => ¬ fA fs y ≠ none) z (fun r hr => not_congr (cl r hr)) p p0 p1 hp
  have := all x x0 x1 (w.cn (fun y => fA fs y ≠ none) h0 cl x x0 x1)
  rw [hx] at this
  cases this
def iA (gs : List Int) (x : Int) : Int := gs[x.toNat]?.getD 0
structure Far (m : Int) (rows : List R3) (p : Int) (gs : List Int) : Prop where
  len : gs.length = m.toNat
  src : iA gs p = 0
  ht : ∀ x o l, (o, l) ∈ nearL rows x → iA gs o ≤ iA gs x + l
  wk : ∀ x, 0 ≤ x → x < m → Wk rows p x (iA gs x)
theorem Dj.far {m : Int} {rows : List R3} {p : Int} {fs : List (Option Int)} {ds : List Bool} (w : Wb m rows) (D : Dj m rows p fs ds) (p0 : 0 ≤ p) (p1 : p < m) (hd : ds = List.replicate m.toNat true) : ∃ gs : List Int, fs = gs.map some ∧ Far m rows p gs := by
  have bt : ∀ x, 0 ≤ x → x < m → bt0 ds x = true := fun x h0 h1 => by
    unfold bt0
    rw [hd, List.getElem?_replicate, if_pos (by omega)]
    rfl
  refine ⟨fs.map (·.getD 0), ?_, ?_⟩
  · rw [List.map_map]
    apply List.ext_getElem?
    intro i
    by_cases hi : i < fs.length
    · have hb := D.dn (i : Int) (by omega) (bt i (by omega) (by have := D.lf; omega))
      unfold fA at hb
      simp only [Int.toNat_natCast] at hb
      rw [List.getElem?_eq_getElem hi] at hb ⊢
      rw [List.getElem?_map, List.getElem?_eq_getElem hi]
      cases q : fs[i] with
      | none => rw [q] at hb; exact absurd rfl hb
      | some v => simp [q]
    · rw [List.getElem?_eq_none (by omega), List.getElem?_eq_none (by simpa using hi)]
  · have ia : ∀ x, 0 ≤ x → x < m → fA fs x = some (iA (fs.map (·.getD 0)) x) := fun x h0 h1 => by
      have hb := D.dn x h0 (bt x h0 h1)
      have hi : x.toNat < fs.length := by rw [D.lf]; omega
      unfold fA at hb ⊢
      unfold iA
      rw [List.getElem?_eq_getElem hi] at hb ⊢
      rw [List.getElem?_map, List.getElem?_eq_getElem hi]
      cases q : fs[x.toNat] with
      | none => rw [q] at hb; exact absurd rfl hb
      | some v => simp
    refine ⟨by rw [List.length_map]; exact D.lf, ?_, fun x o l hn => ?_, fun x h0 h1 => D.wk x _ h0 (ia x h0 h1)⟩
    · have := ia p p0 p1
      rw [D.src] at this
      exact (Option.some.inj this).symm
    · obtain ⟨x0, x1, o0, o1, _, _⟩ := w.near hn
      obtain ⟨b, e1, e2⟩ := D.rx x o l _ hn (bt x x0 x1) (ia x x0 x1)
      rw [ia o o0 o1] at e1
      cases e1
      exact e2
theorem Far.unique {m : Int} {rows : List R3} {p : Int} {gs hs : List Int} (G1 : Far m rows p gs) (G2 : Far m rows p hs) : gs = hs := by
  apply List.ext_getElem?
  intro i
  by_cases hi : i < m.toNat
  · have a1 := Wk.le (f := iA gs) G1.src G1.ht (G2.wk (i : Int) (by omega) (by omega))
    have a2 := Wk.le (f := iA hs) G2.src G2.ht (G1.wk (i : Int) (by omega) (by omega))
    have e : iA gs i = iA hs i := by omega
    unfold iA at e
    simp only [Int.toNat_natCast] at e
    have l1 : i < gs.length := by rw [G1.len]; exact hi
    have l2 : i < hs.length := by rw [G2.len]; exact hi
    rw [List.getElem?_eq_getElem l1, List.getElem?_eq_getElem l2] at e ⊢
    simpa using e
  · rw [List.getElem?_eq_none (by rw [G1.len]; omega), List.getElem?_eq_none (by rw [G2.len]; omega)]
end G
set_option Elab.async false
set_option linter.all false
set_option maxRecDepth 100000
set_option maxHeartbeats 4000000
noncomputable section
namespace G
open PySem PySem.Spec L2 VS
end G
set_option Elab.async false
set_option linter.all false
set_option maxRecDepth 100000
set_option maxHeartbeats 4000000
noncomputable section
namespace G
open PySem PySem.Spec L2 VS
theorem near_sorted {m : Int} {rows : List R3} (w : Wt m rows) (x : Int) : (nearL rows x).Pairwise fun p q => p.1 < q.1 := by
  unfold nearL
  rw [List.pairwise_flatMap]
  constructor
  · intro r hr
    have e := w.en r hr
    by_cases c1 : r.1 = x
    · rw [if_pos c1, if_neg (by omega)]; simp
    · rw [if_neg c1]
      by_cases c2 : r.2.1 = x
      · rw [if_pos c2]; simp
      · rw [if_neg c2]; simp
  · refine w.so.imp_of_mem fun {r q} hr hq lt => ?_
    have e1 := w.en r hr
    have e2 := w.en q hq
    unfold lt3 at lt
    intro y hy z hz
    rcases List.mem_append.mp hy with hy | hy <;> rcases List.mem_append.mp hz with hz | hz
    all_goals
      split at hy
      · split at hz
        · simp at hy hz
          subst hy
          subst hz
          simp only
          omega
        · cases hz
      · cases hy
end G
set_option Elab.async false
set_option linter.all false
set_option maxRecDepth 100000
set_option maxHeartbeats 4000000
noncomputable section
namespace G
open PySem PySem.Spec L2 VS
def nbI (rows : List R3) (x : Int) : List Int := sortI ((rows.filter fun r => decide (r.1 = x)).map (·.2.1) ++ (rows.filter fun r => decide (r.2.1 = x)).map (·.1))
theorem nb_mem {rows : List R3} {x o : Int} : o ∈ nbI rows x ↔ ∃ l, (o, l) ∈ nearL rows x := by
  unfold nbI
  rw [(sortI_perm _).mem_iff, List.mem_append, List.mem_map, List.mem_map]
  constructor
  · rintro (⟨r, hr, e⟩ | ⟨r, hr, e⟩)
    · rw [List.mem_filter] at hr
      exact ⟨r.2.2, near_mem.mpr ⟨r, hr.1, .inl ⟨by simpa using hr.2, e, rfl⟩⟩⟩
    · rw [List.mem_filter] at hr
      exact ⟨r.2.2, near_mem.mpr ⟨r, hr.1, .inr ⟨by simpa using hr.2, e, rfl⟩⟩⟩
  · rintro ⟨l, hl⟩
    obtain ⟨r, hr, ⟨h1, h2, h3⟩ | ⟨h1, h2, h3⟩⟩ := near_mem.mp hl
    · exact .inl ⟨r, List.mem_filter.mpr ⟨hr, by simpa using h1⟩, h2⟩
    · exact .inr ⟨r, List.mem_filter.mpr ⟨hr, by simpa using h1⟩, h2⟩
theorem neigh_w {m : Int} {rows : List R3} {x : Int} {Q : Fo → Prop} (hl : rows.length ≤ 220) (x0 : 0 ≤ x) (x1 : x < m) (h : Q (.ok (.lst true ((nbI rows x).map D.int)) [webD m rows, .int x])) : W (F_neighbours_of [webD m rows, .int x]) Q := by
  have l1 : (rows.filter fun r => decide (r.1 = x)).length ≤ 220 := Nat.le_trans (List.length_filter_le _ _) hl
  have l2 : (rows.filter fun r => decide (r.2.1 = x)).length ≤ 220 := Nat.le_trans (List.length_filter_le _ _) hl
  simp [F_neighbours_of, body_neighbours_of, a_neighbours_of, F_look_at_place, body_look_at_place, a_look_at_place, x0, x1, ite_app]
  simp [webD, x0, x1, ite_app]
  refine W_lcMap (fun r => decide (r.1 = x)) (fun r => .int r.2.1) (le_size (by omega)) ?_ ?_
  · intro r hr J acc j1 j2
    by_cases c : r.1 = x
    · simp [c]
      exact j1 (by simp [c])
    · simp [c]
      exact j2 (by simp [c])
  · simp
    refine W_lcMap (fun r => decide (r.2.1 = x)) (fun r => .int r.1) (le_size (by omega)) ?_ ?_
    · intro r hr J acc j1 j2
      by_cases c : r.2.1 = x
      · simp [c]
        exact j1 (by simp [c])
      · simp [c]
        exact j2 (by simp [c])
    · have e1 : List.map (fun r : R3 => D.int r.2.1) (rows.filter fun r => decide (r.1 = x)) = ((rows.filter fun r => decide (r.1 = x)).map (·.2.1)).map D.int := by rw [List.map_map]; rfl
      have e2 : List.map (fun r : R3 => D.int r.1) (rows.filter fun r => decide (r.2.1 = x)) = ((rows.filter fun r => decide (r.2.1 = x)).map (·.1)).map D.int := by rw [List.map_map]; rfl
      rw [e1, e2]
      have e3 : nbI rows x = sortI ((rows.filter fun r => decide (r.1 = x)).map (·.2.1) ++ (rows.filter fun r => decide (r.2.1 = x)).map (·.1)) := rfl
      rw [e3] at h
      have l3 : ((rows.filter fun r => decide (r.1 = x)).map (fun r : R3 => r.2.1)).length ≤ 220 := by rw [List.length_map]; exact l1
      have l4 : ((rows.filter fun r => decide (r.2.1 = x)).map (fun r : R3 => r.1)).length ≤ 220 := by rw [List.length_map]; exact l2
      generalize (rows.filter fun r => decide (r.1 = x)).map (fun r : R3 => r.2.1) = as at h l3 ⊢
      generalize (rows.filter fun r => decide (r.2.1 = x)).map (fun r : R3 => r.1) = bs at h l4 ⊢
      have hs : as.length + bs.length ≤ sizeLine := le_size (by omega)
      have so := sorted_ints (o := false) (ns := as ++ bs) (by rw [List.length_append]; exact hs)
      rw [List.map_append] at so
      simp [hs, so]
      exact h
end G
set_option Elab.async false
set_option linter.all false
set_option maxRecDepth 100000
set_option maxHeartbeats 4000000
noncomputable section
namespace G
open PySem PySem.Spec L2 VS
theorem nb_eq {m : Int} {rows : List R3} (w : Wt m rows) (x : Int) : nbI rows x = (nearL rows x).map (·.1) := by
  have nd2 : ((nearL rows x).map (·.1)).Pairwise fun a b => a < b := by rw [List.pairwise_map]; exact near_sorted w x
  refine List.Perm.eq_of_pairwise (le := fun a b : Int => a ≤ b) (fun a b _ _ h1 h2 => by omega) (by unfold nbI; exact sortI_sorted _) (nd2.imp fun h => by omega) ?_
  unfold nbI
  refine (sortI_perm _).trans ?_
  have key : ∀ rs : List R3, (∀ r ∈ rs, r.1 < r.2.1) → ((rs.filter fun r => decide (r.1 = x)).map (·.2.1) ++ (rs.filter fun r => decide (r.2.1 = x)).map (·.1)).Perm ((nearL rs x).map (·.1)) := by
    intro rs
    induction rs with
    | nil => intro _; simp [nearL]
    | cons r rs ih =>
      intro h
      have e := h r (by simp)
      have i := ih fun q hq => h q (by simp [hq])
      have en : nearL (r :: rs) x = ((if r.1 = x then [(r.2.1, r.2.2)] else []) ++ (if r.2.1 = x then [(r.1, r.2.2)] else [])) ++ nearL rs x := by
        unfold nearL
        rw [List.flatMap_cons]
      rw [en]
      by_cases c1 : r.1 = x
      · have c2 : ¬ r.2.1 = x := by omega
        simp [c1, c2] at i ⊢
        exact i
      · by_cases c2 : r.2.1 = x
        · simp [c1, c2] at i ⊢
          exact List.perm_middle.trans (i.cons _)
        · simp [c1, c2] at i ⊢
          exact i
  exact key rows fun r hr => (w.en r hr).2.1
end G
set_option Elab.async false
set_option linter.all false
set_option maxRecDepth 100000
set_option maxHeartbeats 4000000
set_option autoImplicit false
noncomputable section
namespace G
open PySem PySem.Spec L2 VS
theorem nodup_subW : ∀ {ks l : List Int}, ks.Nodup → (∀ x ∈ ks, x ∈ l) → ks.length ≤ l.length
  | [], l, _, _ => by simp
  | k :: ks, l, nd, h => by
    rw [List.nodup_cons] at nd
    have hk := h k (by simp)
    have := nodup_subW (l := l.erase k) nd.2 fun x hx => (List.mem_erase_of_ne (fun e => nd.1 (by rw [← e]; exact hx))).mpr (h x (List.mem_cons_of_mem _ hx))
    rw [List.length_erase_of_mem hk] at this
    have := List.length_pos_of_mem hk
    rw [List.length_cons]
    omega
theorem perm_subW {ks l : List Int} (nd : ks.Nodup) (nl : l.Nodup) (h : ∀ x ∈ ks, x ∈ l) (le : l.length ≤ ks.length) : ks.Perm l := by
  refine (List.perm_ext_iff_of_nodup nd nl).mpr fun x => ⟨h x, fun hx => ?_⟩
  refine Classical.byContradiction fun c => ?_
  have := nodup_subW (ks := x :: ks) (l := l) (List.nodup_cons.mpr ⟨c, nd⟩) fun y hy => by
    rcases List.mem_cons.mp hy with rfl | hy
    · exact hx
    · exact h y hy
  rw [List.length_cons] at this
  omega
theorem rangeI_nd (n : Nat) : (rangeI n).Nodup := by
  unfold rangeI List.Nodup
  rw [List.pairwise_map]
  exact List.nodup_range.imp fun h => by omega
section
variable {m : Int} {rows : List R3} {os : List Int}
theorem nbW_lt (w : Wt m rows) (x : Int) : (nbI rows x).Pairwise (· < ·) := by
  rw [nb_eq w, List.pairwise_map]
  exact near_sorted w x
theorem nbW_nd (w : Wt m rows) (x : Int) : (nbI rows x).Nodup := (nbW_lt w x).imp fun h e => by omega
def rnR (os : List Int) (rows : List R3) : List R3 := sort3 (rows.map (nmr os))
theorem rnR_len : (rnR os rows).length = rows.length := by unfold rnR; rw [sort3_len, List.length_map]
theorem rnR_wt (w : Wt m rows) (ho : os.Perm (rangeI m.toNat)) : Wt m (rnR os rows) := named_wt w.m1 w.m2 w.le ho ⟨w.nd, w.en, w.ln⟩ w.cn
theorem rnR_mem {r : R3} : r ∈ rnR os rows ↔ ∃ q ∈ rows, nmr os q = r := by
  unfold rnR
  rw [(sort3_perm _).mem_iff, List.mem_map]
def L0 (j : Nat) : List R3 := (List.range j).map fun (k : Nat) => ((0 : Int), (k : Int) + 1, (1 : Int))
theorem L0_len {j : Nat} : (L0 j).length = j := by unfold L0; simp
theorem L0_succ {j : Nat} : L0 (j + 1) = L0 j ++ [(0, (j : Int) + 1, 1)] := by unfold L0; rw [List.range_succ, List.map_append]; rfl
theorem lt3_trans {a b c : R3} (h : lt3 a b) (h2 : lt3 b c) : lt3 a c := by
  unfold lt3 at *
  omega
theorem lt3_irr {a : R3} : ¬ lt3 a a := by
  unfold lt3
  omega
theorem pre_or {S : List R3} (so : S.Pairwise lt3) (en : ∀ r ∈ S, 0 ≤ r.1 ∧ r.1 < r.2.1) (l1 : ∀ r ∈ S, r.2.2 = 1) : ∀ j : Nat, j ≤ S.length → S.take j = L0 j ∨ ∃ i r, i < j ∧ S.take i = L0 i ∧ S[i]? = some r ∧ lt3 (0, (i : Int) + 1, 1) r
  | 0, _ => .inl (by rw [List.take_zero]; rfl)
  | j + 1, hj => by
    rcases pre_or so en l1 j (by omega) with h | ⟨i, r, hi, h⟩
    · have hx : S[j]? = some (S[j]'(by omega)) := List.getElem?_eq_getElem _
      generalize S[j]'(by omega) = r at hx
      have hr := List.mem_of_getElem? hx
      have e := en r hr
      have l := l1 r hr
      have low : r.1 = 0 → (j : Int) + 1 ≤ r.2.1 := fun z => by
        cases j with
        | zero => omega
        | succ k =>
          have hk : S[k]? = some ((0 : Int), (k : Int) + 1, (1 : Int)) := by
            have := congrArg (fun l : List R3 => l[k]?) h
            rw [List.getElem?_take_of_lt (by omega), L0_succ, List.getElem?_append_right (by rw [L0_len]; exact Nat.le_refl _), L0_len] at this
            simpa using this
          have := List.pairwise_iff_getElem.mp so k (k + 1) (by omega) (by omega) (by omega)
          rw [(List.getElem?_eq_some_iff.mp hk).2, (List.getElem?_eq_some_iff.mp hx).2] at this
          unfold lt3 at this
          dsimp only at this
          omega
      by_cases c : r = (0, (j : Int) + 1, 1)
      · left
        rw [List.take_add_one, hx, h, L0_succ, c]
        rfl
      · refine .inr ⟨j, r, by omega, h, hx, ?_⟩
        unfold lt3
        dsimp only
        by_cases c2 : r.1 = 0
        · have := low c2
          by_cases c3 : r.2.1 = (j : Int) + 1
          · exact absurd (Prod.ext c2 (Prod.ext c3 l)) c
          · omega
        · omega
    · exact .inr ⟨i, r, by omega, h⟩
theorem sorted_mem {S : List R3} (so : S.Pairwise lt3) {i : Nat} {r q : R3} (hr : S[i]? = some r) (hq : q ∈ S) (lt : lt3 q r) : q ∈ S.take i := by
  obtain ⟨k, hk⟩ := List.getElem?_of_mem hq
  have hi := (List.getElem?_eq_some_iff.mp hr).1
  have hkl := (List.getElem?_eq_some_iff.mp hk).1
  by_cases c : k < i
  · exact List.mem_of_getElem? (i := k) (by rw [List.getElem?_take_of_lt c, hk])
  · exfalso
    by_cases c2 : k = i
    · subst c2
      rw [hr] at hk
      rw [Option.some.inj hk] at lt
      exact lt3_irr lt
    · have := List.pairwise_iff_getElem.mp so i k hi hkl (by omega)
      rw [(List.getElem?_eq_some_iff.mp hk).2, (List.getElem?_eq_some_iff.mp hr).2] at this
      exact lt3_irr (lt3_trans lt this)
theorem L0_mem {j : Nat} {r : R3} : r ∈ L0 j ↔ ∃ k : Nat, k < j ∧ r = (0, (k : Int) + 1, 1) := by
  unfold L0
  rw [List.mem_map]
  exact ⟨fun ⟨k, hk, e⟩ => ⟨k, List.mem_range.mp hk, e.symm⟩, fun ⟨k, hk, e⟩ => ⟨k, List.mem_range.mpr hk, e.symm⟩⟩
theorem pre_has {S : List R3} (so : S.Pairwise lt3) (en : ∀ r ∈ S, 0 ≤ r.1 ∧ r.1 < r.2.1) (l1 : ∀ r ∈ S, r.2.2 = 1) {j : Nat} (hj : j ≤ S.length) (has : ∀ k : Nat, k < j → ((0 : Int), (k : Int) + 1, (1 : Int)) ∈ S) : S.take j = L0 j := by
  rcases pre_or so en l1 j hj with h | ⟨i, r, hi, h1, h2, h3⟩
  · exact h
  · have := sorted_mem so h2 (has i hi) h3
    rw [h1, L0_mem] at this
    obtain ⟨k, hk, e⟩ := this
    simp only [Prod.mk.injEq] at e
    omega
structure LdW (m : Int) (rows : List R3) (os : List Int) : Prop where
  perm : os.Perm (rangeI m.toNat)
  top : ∀ x, 0 ≤ x → x < m → at0 os x.toNat = 0 → (∀ y, 0 ≤ y → y < m → (nbI rows y).length ≤ (nbI rows x).length) ∧ ∀ y ∈ nbI rows x, at0 os y.toNat ≤ (nbI rows x).length
theorem at0_sur (ho : os.Perm (rangeI m.toNat)) {k : Int} (k0 : 0 ≤ k) (k1 : k < m) : ∃ x, 0 ≤ x ∧ x < m ∧ at0 os x.toNat = k := by
  have hk : k ∈ os := ho.mem_iff.mpr (mem_rangeI.mpr ⟨k0, by omega⟩)
  obtain ⟨i, hi⟩ := List.getElem?_of_mem hk
  have hl := (List.getElem?_eq_some_iff.mp hi).1
  have := ho.length_eq
  rw [len_rangeI] at this
  refine ⟨i, by omega, by omega, ?_⟩
  unfold at0
  rw [Int.toNat_natCast, hi]
  rfl
theorem at0_rg (ho : os.Perm (rangeI m.toNat)) {x : Int} (x0 : 0 ≤ x) (x1 : x < m) : 0 ≤ at0 os x.toNat ∧ at0 os x.toNat < m := by
  have := ho.length_eq
  rw [len_rangeI] at this
  have hx : os[x.toNat]? = some (os[x.toNat]'(by omega)) := List.getElem?_eq_getElem _
  have hm := mem_rangeI.mp (ho.mem_iff.mp (List.mem_of_getElem? hx))
  have e : at0 os x.toNat = os[x.toNat]'(by omega) := by
    unfold at0
    rw [hx]
    rfl
  rw [e]
  omega
theorem nbW_rg (w : Wt m rows) {x y : Int} (h : y ∈ nbI rows x) : (0 ≤ x ∧ x < m) ∧ (0 ≤ y ∧ y < m) ∧ x ≠ y := by
  obtain ⟨l, hl⟩ := nb_mem.mp h
  obtain ⟨r, hr, k⟩ := near_mem.mp hl
  have := w.en r hr
  omega
theorem tie_rn (w : Wt m rows) (l1 : ∀ r ∈ rows, r.2.2 = 1) (ho : os.Perm (rangeI m.toNat)) {x y : Int} (h : y ∈ nbI rows x) : (min (at0 os x.toNat) (at0 os y.toNat), max (at0 os x.toNat) (at0 os y.toNat), (1 : Int)) ∈ rnR os rows := by
  obtain ⟨l, hl⟩ := nb_mem.mp h
  obtain ⟨r, hr, k⟩ := near_mem.mp hl
  refine rnR_mem.mpr ⟨r, hr, ?_⟩
  have := l1 r hr
  unfold nmr
  rcases k with ⟨e1, e2, _⟩ | ⟨e1, e2, _⟩
  · rw [e1, e2, this]
  · rw [e1, e2, this, Int.min_comm, Int.max_comm]
theorem tie_un {x y : Int} (w : Wt m rows) (ho : os.Perm (rangeI m.toNat)) (x0 : 0 ≤ x) (x1 : x < m) (y0 : 0 ≤ y) (y1 : y < m) (lt : at0 os x.toNat < at0 os y.toNat) {l : Int} (h : (at0 os x.toNat, at0 os y.toNat, l) ∈ rnR os rows) : y ∈ nbI rows x := by
  obtain ⟨r, hr, e⟩ := rnR_mem.mp h
  have en := w.en r hr
  unfold nmr at e
  simp only [Prod.mk.injEq] at e
  have two : (at0 os r.1.toNat = at0 os x.toNat ∧ at0 os r.2.1.toNat = at0 os y.toNat) ∨ (at0 os r.1.toNat = at0 os y.toNat ∧ at0 os r.2.1.toNat = at0 os x.toNat) := by omega
  refine nb_mem.mpr ⟨r.2.2, near_mem.mpr ⟨r, hr, ?_⟩⟩
  rcases two with ⟨h1, h2⟩ | ⟨h1, h2⟩
  · exact .inl ⟨at0_inj ho (by omega) (by omega) x0 x1 h1, at0_inj ho (by omega) (by omega) y0 y1 h2, rfl⟩
  · exact .inr ⟨at0_inj ho (by omega) (by omega) x0 x1 h2, at0_inj ho (by omega) (by omega) y0 y1 h1, rfl⟩
theorem rnR_l1 (l1 : ∀ r ∈ rows, r.2.2 = 1) : ∀ r ∈ rnR os rows, r.2.2 = 1 := fun r hr => by
  obtain ⟨q, hq, rfl⟩ := rnR_mem.mp hr
  exact l1 q hq
theorem nb_le (w : Wt m rows) (x : Int) : (nbI rows x).length ≤ rows.length := by
  have h : ∀ rows : List R3, (∀ r ∈ rows, r.1 < r.2.1) → (rows.filter fun r => decide (r.1 = x)).length + (rows.filter fun r => decide (r.2.1 = x)).length ≤ rows.length := by
    intro rows
    induction rows with
    | nil => simp
    | cons r rows ih =>
      intro hlt
      have := ih fun q hq => hlt q (List.mem_cons_of_mem _ hq)
      have lt := hlt r List.mem_cons_self
      rw [List.filter_cons, List.filter_cons]
      by_cases c1 : r.1 = x
      · rw [if_pos (decide_eq_true c1), if_neg (by simp; omega)]
        simp only [List.length_cons]
        omega
      · rw [if_neg (by simpa using c1)]
        by_cases c2 : r.2.1 = x
        · rw [if_pos (decide_eq_true c2)]
          simp only [List.length_cons]
          omega
        · rw [if_neg (by simpa using c2)]
          simp only [List.length_cons]
          omega
  unfold nbI
  rw [(sortI_perm _).length_eq, List.length_append, List.length_map, List.length_map]
  exact h rows fun r hr => (w.en r hr).2.1
theorem LdW.pre (L : LdW m rows os) (w : Wt m rows) (l1 : ∀ r ∈ rows, r.2.2 = 1) {x : Int} (x0 : 0 ≤ x) (x1 : x < m) (hx : at0 os x.toNat = 0) : (rnR os rows).take (nbI rows x).length = L0 (nbI rows x).length := by
  have wr := rnR_wt w L.perm
  obtain ⟨t1, t2⟩ := L.top x x0 x1 hx
  refine pre_has wr.so (fun r hr => by have := wr.en r hr; omega) (rnR_l1 l1) (by rw [rnR_len]; exact nb_le w x) fun k hk => ?_
  -- the numbers of the neighbours are just these
  have nd : ((nbI rows x).map fun y => at0 os y.toNat).Nodup := by
    unfold List.Nodup
    rw [List.pairwise_map]
    refine List.Pairwise.imp_of_mem (fun {a b} ha hb n e => n ?_) (nbW_nd w x)
    have ra := (nbW_rg w ha).2.1
    have rb := (nbW_rg w hb).2.1
    exact at0_inj L.perm ra.1 ra.2 rb.1 rb.2 e
  have pm : ((nbI rows x).map fun y => at0 os y.toNat).Perm ((rangeI (nbI rows x).length).map (· + 1)) := by
    refine perm_subW nd ?_ (fun z hz => ?_) (by simp [len_rangeI])
    · unfold List.Nodup
      rw [List.pairwise_map]
      exact (rangeI_nd _).imp fun h e => h (by omega)
    · obtain ⟨y, hy, rfl⟩ := List.mem_map.mp hz
      have := t2 y hy
      have ry := nbW_rg w hy
      have r2 := at0_rg L.perm ry.2.1.1 ry.2.1.2
      have ne : at0 os y.toNat ≠ 0 := fun e => ry.2.2 (at0_inj L.perm x0 x1 ry.2.1.1 ry.2.1.2 (by rw [hx, e]))
      exact List.mem_map.mpr ⟨at0 os y.toNat - 1, mem_rangeI.mpr (by omega), by omega⟩
  have hk2 : (k : Int) + 1 ∈ (nbI rows x).map fun y => at0 os y.toNat := pm.mem_iff.mpr (List.mem_map.mpr ⟨k, mem_rangeI.mpr (by omega), rfl⟩)
  obtain ⟨y, hy, e⟩ := List.mem_map.mp hk2
  have e : at0 os y.toNat = (k : Int) + 1 := e
  have := tie_rn w l1 L.perm hy
  rw [hx, e, Int.min_eq_left (by omega), Int.max_eq_right (by omega)] at this
  exact this
theorem least_leads {ts : List Int} (w : Wt m rows) (l1 : ∀ r ∈ rows, r.2.2 = 1) (L : LdW m rows ts) (ho : os.Perm (rangeI m.toNat)) (h : leO (rnR os rows, os) (rnR ts rows, ts)) : LdW m rows os := by
  have w1 := w.m1
  obtain ⟨tx, tx0, tx1, etx⟩ := at0_sur L.perm (k := 0) (by omega) (by omega)
  have tp := L.pre w l1 tx0 tx1 etx
  have tmax := (L.top tx tx0 tx1 etx).1
  have wr := rnR_wt w ho
  have le := nb_le w tx
  refine ⟨ho, fun x x0 x1 ex => ?_⟩
  rcases pre_or wr.so (fun r hr => by have := wr.en r hr; omega) (rnR_l1 l1) (nbI rows tx).length (by rw [rnR_len]; exact le) with hp | ⟨i, r, hi, h1, h2, h3⟩
  · -- just these neighbours
    have numb : ∀ k : Nat, k < (nbI rows tx).length → ∃ y ∈ nbI rows x, at0 os y.toNat = (k : Int) + 1 := fun k hk => by
      have hm : ((0 : Int), (k : Int) + 1, (1 : Int)) ∈ rnR os rows := List.mem_of_mem_take (by rw [hp]; exact L0_mem.mpr ⟨k, hk, rfl⟩)
      have en := wr.en _ hm
      obtain ⟨y, y0, y1, ey⟩ := at0_sur ho (k := (k : Int) + 1) (by omega) (by have := en.2.2; exact this)
      refine ⟨y, ?_, ey⟩
      exact tie_un w ho x0 x1 y0 y1 (by rw [ex, ey]; omega) (by rw [ex, ey]; exact hm)
    have sub : ∀ z ∈ (rangeI (nbI rows tx).length).map (· + 1), z ∈ (nbI rows x).map fun y => at0 os y.toNat := fun z hz => by
      obtain ⟨k, hk, rfl⟩ := List.mem_map.mp hz
      have := mem_rangeI.mp hk
      obtain ⟨y, hy, ey⟩ := numb k.toNat (by omega)
      exact List.mem_map.mpr ⟨y, hy, by show at0 os y.toNat = k + 1; rw [ey]; omega⟩
    have nr : ((rangeI (nbI rows tx).length).map (· + 1)).Nodup := by
      unfold List.Nodup
      rw [List.pairwise_map]
      exact (rangeI_nd _).imp fun h e => h (by omega)
    have ge := nodup_subW nr sub
    rw [List.length_map, List.length_map, len_rangeI] at ge
    have lx := tmax x x0 x1
    have eq : (nbI rows x).length = (nbI rows tx).length := by omega
    refine ⟨fun y y0 y1 => by rw [eq]; exact tmax y y0 y1, fun y hy => ?_⟩
    have nd : ((nbI rows x).map fun y => at0 os y.toNat).Nodup := by
      unfold List.Nodup
      rw [List.pairwise_map]
      refine List.Pairwise.imp_of_mem (fun {a b} ha hb n e => n ?_) (nbW_nd w x)
      have ra := (nbW_rg w ha).2.1
      have rb := (nbW_rg w hb).2.1
      exact at0_inj ho ra.1 ra.2 rb.1 rb.2 e
    have pm := perm_subW nr nd sub (by rw [List.length_map, List.length_map, len_rangeI, eq]; exact Nat.le_refl _)
    obtain ⟨k, hk, e⟩ := List.mem_map.mp (pm.mem_iff.mpr (List.mem_map.mpr ⟨y, hy, rfl⟩))
    have := mem_rangeI.mp hk
    have e : k + 1 = at0 os y.toNat := e
    rw [eq]
    omega
  · -- past one: not the least
    exfalso
    have hil := (List.getElem?_eq_some_iff.mp h2).1
    have eS : rnR os rows = L0 i ++ r :: (rnR os rows).drop (i + 1) := by
      have := List.take_append_drop i (rnR os rows)
      rw [List.drop_eq_getElem_cons hil, h1, (List.getElem?_eq_some_iff.mp h2).2] at this
      exact this.symm
    have eT : ∃ t, rnR ts rows = L0 i ++ ((0 : Int), (i : Int) + 1, (1 : Int)) :: t := by
      have := List.take_append_drop (nbI rows tx).length (rnR ts rows)
      rw [tp] at this
      have e0 : ∀ d : Nat, ∃ u, L0 (i + 1 + d) = L0 i ++ ((0 : Int), (i : Int) + 1, (1 : Int)) :: u := by
        intro d
        induction d with
        | zero => exact ⟨[], by rw [Nat.add_zero, L0_succ]⟩
        | succ d ih =>
          obtain ⟨u, hu⟩ := ih
          exact ⟨u ++ [(0, ((i + 1 + d : Nat) : Int) + 1, 1)], by rw [← Nat.add_assoc, L0_succ, hu]; simp⟩
      obtain ⟨u, hu⟩ := e0 ((nbI rows tx).length - (i + 1))
      rw [show i + 1 + ((nbI rows tx).length - (i + 1)) = (nbI rows tx).length by omega] at hu
      refine ⟨u ++ (rnR ts rows).drop (nbI rows tx).length, ?_⟩
      refine this.symm.trans ?_
      rw [hu]
      simp
    obtain ⟨t, eT⟩ := eT
    rw [eS, eT] at h
    refine leO_diff ⟨?_, fun e => ?_⟩ h
    · unfold le3
      exact leL_r3 h3
    · rw [e] at h3
      exact lt3_irr h3
end
end G
set_option Elab.async false
set_option linter.all false
set_option maxRecDepth 100000
set_option maxHeartbeats 4000000
set_option autoImplicit false
noncomputable section
namespace G
open PySem PySem.Spec L2 VS
def arL : Nat → List Int → List (List Int)
  | 0, _ => []
  | n + 1, xs => if xs = [] then [[]] else xs.flatMap fun t => (arL n (xs.filter fun y => decide (y ≠ t))).map (t :: ·)
theorem filt_perm {xs : List Int} {t : Int} (nd : xs.Nodup) (ht : t ∈ xs) : xs.Perm (t :: xs.filter fun y => decide (y ≠ t)) := by
  refine (List.perm_ext_iff_of_nodup nd ?_).mpr fun x => ?_
  · refine List.nodup_cons.mpr ⟨fun h => ?_, nd.filter _⟩
    have := (List.mem_filter.mp h).2
    simp at this
  · rw [List.mem_cons, List.mem_filter]
    by_cases c : x = t
    · subst c
      exact ⟨fun _ => .inl rfl, fun _ => ht⟩
    · exact ⟨fun h => .inr ⟨h, by simpa using c⟩, fun h => h.elim (fun e => absurd e c) fun h => h.1⟩
theorem ar_mem : ∀ {n : Nat} {xs r : List Int}, xs.Nodup → xs.length < n → (r ∈ arL n xs ↔ r.Perm xs)
  | 0, _, _, _, h => by omega
  | n + 1, xs, r, nd, h => by
    rw [arL]
    by_cases c : xs = []
    · rw [if_pos c, c, List.mem_singleton]
      exact ⟨fun e => by rw [e], fun e => e.eq_nil⟩
    · rw [if_neg c, List.mem_flatMap]
      have len : ∀ t ∈ xs, (xs.filter fun y => decide (y ≠ t)).length < n := fun t ht => by
        have := (filt_perm nd ht).length_eq
        rw [List.length_cons] at this
        omega
      constructor
      · rintro ⟨t, ht, hr⟩
        obtain ⟨b, hb, rfl⟩ := List.mem_map.mp hr
        exact (((ar_mem (nd.filter _) (len t ht)).mp hb).cons t).trans (filt_perm nd ht).symm
      · intro p
        cases r with
        | nil => exact absurd p.symm.eq_nil c
        | cons t b =>
          have ht : t ∈ xs := p.mem_iff.mp List.mem_cons_self
          exact ⟨t, ht, List.mem_map.mpr ⟨b, (ar_mem (nd.filter _) (len t ht)).mpr ((p.trans (filt_perm nd ht)).cons_inv), rfl⟩⟩
def fb : Nat → Nat
  | 0 => 1
  | l + 1 => (l + 1) * fb l
theorem sum_le {α : Type} {f : α → Nat} {B : Nat} : ∀ xs : List α, (∀ x ∈ xs, f x ≤ B) → (xs.map f).sum ≤ xs.length * B
  | [], _ => by simp
  | x :: xs, h => by
    rw [List.map_cons, List.sum_cons, List.length_cons, Nat.add_mul]
    have := sum_le xs fun y hy => h y (List.mem_cons_of_mem _ hy)
    have := h x List.mem_cons_self
    omega
theorem ar_len : ∀ {n : Nat} {xs : List Int}, xs.Nodup → (arL n xs).length ≤ fb xs.length
  | 0, xs, _ => by simp [arL]
  | n + 1, xs, nd => by
    rw [arL]
    by_cases c : xs = []
    · rw [if_pos c, c]
      simp [fb]
    · rw [if_neg c, List.length_flatMap]
      obtain ⟨l, hl⟩ : ∃ l, xs.length = l + 1 := ⟨xs.length - 1, by have := List.length_pos_iff.mpr c; omega⟩
      rw [hl, fb, ← hl]
      refine sum_le xs fun t ht => ?_
      rw [List.length_map]
      have e := (filt_perm nd ht).length_eq
      rw [List.length_cons] at e
      have := ar_len (n := n) (nd.filter fun y => decide (y ≠ t))
      rw [show (xs.filter fun y => decide (y ≠ t)).length = l by omega] at this
      exact this
theorem fb_le : ∀ {l : Nat}, l ≤ 6 → fb l ≤ 720 := by decide
def ordL : Nat → List (List Int)
  | 0 => [[]]
  | k + 1 => (ordL k).flatMap fun o => (List.range (k + 1)).map fun i => o.take i ++ [(k : Int)] ++ o.drop i
theorem rangeI_succW {k : Nat} : rangeI (k + 1) = rangeI k ++ [(k : Int)] := by
  unfold rangeI
  rw [List.range_succ, List.map_append]
  rfl
theorem ord_mem : ∀ {k : Nat} {o : List Int}, o ∈ ordL k ↔ o.Perm (rangeI k)
  | 0, o => by
    rw [ordL, List.mem_singleton]
    exact ⟨fun e => by rw [e]; rfl, fun p => p.eq_nil⟩
  | k + 1, o => by
    rw [ordL, List.mem_flatMap]
    constructor
    · rintro ⟨u, hu, h⟩
      obtain ⟨i, _, rfl⟩ := List.mem_map.mp h
      have pu := ord_mem.mp hu
      rw [rangeI_succW]
      have p1 : (u.take i ++ [(k : Int)] ++ u.drop i).Perm ((u.take i ++ u.drop i) ++ [(k : Int)]) := by
        rw [List.append_assoc, List.append_assoc]
        exact List.Perm.append_left _ (List.perm_append_comm)
      rw [List.take_append_drop] at p1
      exact p1.trans (pu.append_right _)
    · intro p
      have hk : (k : Int) ∈ o := p.mem_iff.mpr (by rw [rangeI_succW]; exact List.mem_append_right _ List.mem_cons_self)
      obtain ⟨a, b, rfl⟩ := List.append_of_mem hk
      have pab : (a ++ b).Perm (rangeI k) := by
        have p2 : (a ++ (k : Int) :: b).Perm ((k : Int) :: (a ++ b)) := List.perm_middle
        have p3 : (rangeI (k + 1)).Perm ((k : Int) :: rangeI k) := by rw [rangeI_succW]; exact List.perm_append_comm
        exact ((p2.symm.trans p).trans p3).cons_inv
      refine ⟨a ++ b, ord_mem.mpr pab, List.mem_map.mpr ⟨a.length, List.mem_range.mpr ?_, ?_⟩⟩
      · have := pab.length_eq
        rw [List.length_append, len_rangeI] at this
        omega
      · rw [List.take_left, List.drop_left]
        simp
theorem ord_len : ∀ k : Nat, (ordL k).length = fb k
  | 0 => rfl
  | k + 1 => by
    have h : ∀ l : List (List Int), (l.flatMap fun o => (List.range (k + 1)).map fun i => o.take i ++ [(k : Int)] ++ o.drop i).length = l.length * (k + 1) := by
      intro l
      induction l with
      | nil => simp
      | cons o l ih =>
        rw [List.flatMap_cons, List.length_append, ih, List.length_map, List.length_range, List.length_cons, Nat.add_mul]
        omega
    rw [ordL, h, ord_len k, fb, Nat.mul_comm]
def oo (row : List Int) : List Int := (rangeI row.length).map fun x => (row.idxOf x : Int)
theorem oo_len {row : List Int} : (oo row).length = row.length := by unfold oo; simp [len_rangeI]
theorem oo_at {row : List Int} {x : Int} (x0 : 0 ≤ x) (x1 : x < row.length) : at0 (oo row) x.toNat = (row.idxOf x : Int) := by
  unfold at0 oo
  rw [List.getElem?_map]
  have : (rangeI row.length)[x.toNat]? = some x := by
    unfold rangeI
    rw [List.getElem?_map, List.getElem?_range (by omega), Option.map_some]
    congr 1
    omega
  rw [this]
  rfl
section
variable {n : Nat} {row : List Int}
theorem idx_at (p : row.Perm (rangeI n)) {x : Int} (x0 : 0 ≤ x) (x1 : x < n) : row[row.idxOf x]? = some x ∧ row.idxOf x < n := by
  have hx : x ∈ row := p.mem_iff.mpr (mem_rangeI.mpr ⟨x0, x1⟩)
  have hl := List.idxOf_lt_length_iff.mpr hx
  refine ⟨by rw [List.getElem?_eq_getElem hl, List.getElem_idxOf hl], ?_⟩
  have := p.length_eq
  rw [len_rangeI] at this
  omega
theorem at_idx (p : row.Perm (rangeI n)) {k : Nat} {x : Int} (h : row[k]? = some x) : row.idxOf x = k := by
  have nd : row.Nodup := p.nodup_iff.mpr (rangeI_nd n)
  have hk := (List.getElem?_eq_some_iff.mp h).1
  have hx : x ∈ row := List.mem_of_getElem? h
  have hl := List.idxOf_lt_length_iff.mpr hx
  refine (List.getElem?_inj hl nd).mp ?_
  rw [List.getElem?_eq_getElem hl, List.getElem_idxOf hl, h]
theorem oo_perm (p : row.Perm (rangeI n)) : (oo row).Perm (rangeI n) := by
  have len := p.length_eq
  rw [len_rangeI] at len
  have nd : (oo row).Nodup := by
    unfold oo List.Nodup
    rw [List.pairwise_map]
    refine List.Pairwise.imp_of_mem (fun {a b} ha hb n e => n ?_) (rangeI_nd _)
    have ra := mem_rangeI.mp ha
    have rb := mem_rangeI.mp hb
    have ia := (idx_at p ra.1 (by omega)).1
    have ib := (idx_at p rb.1 (by omega)).1
    have e : row.idxOf a = row.idxOf b := by omega
    rw [e, ib] at ia
    exact (Option.some.inj ia).symm
  refine perm_subW nd (rangeI_nd n) (fun x hx => ?_) (by rw [oo_len, len_rangeI, len]; exact Nat.le_refl _)
  unfold oo at hx
  obtain ⟨y, hy, rfl⟩ := List.mem_map.mp hx
  have ry := mem_rangeI.mp hy
  have := (idx_at p ry.1 (by omega)).2
  exact mem_rangeI.mpr ⟨by omega, by omega⟩
theorem oo_oo (p : row.Perm (rangeI n)) : oo (oo row) = row := by
  have len := p.length_eq
  rw [len_rangeI] at len
  have p2 := oo_perm p
  apply List.ext_getElem?
  intro k
  by_cases hk : k < n
  · have hr : row[k]? = some (row[k]'(by omega)) := List.getElem?_eq_getElem _
    generalize row[k]'(by omega) = x at hr
    have rx := mem_rangeI.mp (p.mem_iff.mp (List.mem_of_getElem? hr))
    have e1 : (oo row)[x.toNat]? = some (k : Int) := by
      have hl : x.toNat < (oo row).length := by rw [oo_len]; omega
      have := oo_at (row := row) (x := x) rx.1 (by omega)
      unfold at0 at this
      rw [List.getElem?_eq_getElem hl] at this ⊢
      have i := at_idx p hr
      rw [i] at this
      exact congrArg some this
    have e2 := at_idx p2 e1
    have hl2 : k < (oo (oo row)).length := by rw [oo_len, oo_len]; omega
    have := oo_at (row := oo row) (x := (k : Int)) (by omega) (by rw [oo_len]; omega)
    unfold at0 at this
    rw [Int.toNat_natCast, List.getElem?_eq_getElem hl2] at this
    rw [hr, List.getElem?_eq_getElem hl2]
    congr 1
    rw [show (oo (oo row))[k] = ((oo row).idxOf (k : Int) : Int) from this, e2]
    omega
  · rw [List.getElem?_eq_none (by rw [oo_len, oo_len]; omega), List.getElem?_eq_none (by omega)]
end
def othW (m : Int) (rows : List R3) (top : Int) : List Int := (rangeI m.toNat).filter fun x => decide (x ≠ top) && !decide (x ∈ nbI rows top)
def leadL (m : Int) (rows : List R3) (most : Int) : List (List Int) := (rangeI m.toNat).flatMap fun top => if ((nbI rows top).length : Int) = most then (arL 20 (nbI rows top)).flatMap fun ahead => (arL 20 (othW m rows top)).map fun behind => oo (top :: ahead ++ behind) else []
section
variable {m : Int} {rows : List R3} {os : List Int} {most : Int}
theorem row_perm (w : Wt m rows) {top : Int} {ahead behind : List Int} (t0 : 0 ≤ top) (t1 : top < m) (pa : ahead.Perm (nbI rows top)) (pb : behind.Perm (othW m rows top)) : (top :: ahead ++ behind).Perm (rangeI m.toNat) := by
  have ndo : (othW m rows top).Nodup := (rangeI_nd _).filter _
  have nt : top ∉ nbI rows top := fun h => (nbW_rg w h).2.2 rfl
  have p1 : (top :: ahead ++ behind).Perm (top :: nbI rows top ++ othW m rows top) := (pa.cons top).append pb
  refine p1.trans ((List.perm_ext_iff_of_nodup ?_ (rangeI_nd _)).mpr fun x => ?_)
  · rw [List.cons_append, List.nodup_cons, List.nodup_append]
    refine ⟨fun h => ?_, nbW_nd w top, ndo, fun a ha b hb e => ?_⟩
    · rcases List.mem_append.mp h with h | h
      · exact nt h
      · have := (List.mem_filter.mp h).2
        simp at this
    · subst e
      have := (List.mem_filter.mp hb).2
      simp at this
      exact this.2 ha
  · rw [List.cons_append, List.mem_cons, List.mem_append]
    unfold othW
    rw [List.mem_filter, mem_rangeI]
    constructor
    · rintro (rfl | h | h)
      · omega
      · have := nbW_rg w h
        omega
      · exact h.1
    · intro h
      by_cases c1 : x = top
      · exact .inl c1
      · by_cases c2 : x ∈ nbI rows top
        · exact .inr (.inl c2)
        · exact .inr (.inr ⟨h, by simp [c1, c2]⟩)
theorem lead_w (w : Wt m rows) (m6 : m ≤ 6) (mx : ∀ x, 0 ≤ x → x < m → ((nbI rows x).length : Int) ≤ most) (h : os ∈ leadL m rows most) : LdW m rows os := by
  unfold leadL at h
  obtain ⟨top, ht, h⟩ := List.mem_flatMap.mp h
  have rt := mem_rangeI.mp ht
  have t1 : top < m := by omega
  split at h
  · rename_i hm
    obtain ⟨ahead, ha, h⟩ := List.mem_flatMap.mp h
    obtain ⟨behind, hb, rfl⟩ := List.mem_map.mp h
    have ndo : (othW m rows top).Nodup := (rangeI_nd _).filter _
    have lo : (othW m rows top).length ≤ m.toNat := by
      have := List.length_filter_le (fun x => decide (x ≠ top) && !decide (x ∈ nbI rows top)) (rangeI m.toNat)
      rw [len_rangeI] at this
      exact this
    have ln : (nbI rows top).length ≤ m.toNat := by
      have := nodup_subW (nbW_nd w top) (l := rangeI m.toNat) fun y hy => mem_rangeI.mpr (by have := nbW_rg w hy; omega)
      rw [len_rangeI] at this
      exact this
    have pa := (ar_mem (nbW_nd w top) (by omega)).mp ha
    have pb := (ar_mem ndo (by omega)).mp hb
    have p := row_perm w rt.1 t1 pa pb
    have lp := p.length_eq
    rw [len_rangeI] at lp
    refine ⟨oo_perm p, fun x x0 x1 ex => ?_⟩
    rw [oo_at x0 (by omega)] at ex
    have i0 := (idx_at p x0 (by omega)).1
    rw [show (top :: ahead ++ behind).idxOf x = 0 by omega] at i0
    have : top = x := by simpa using i0
    subst this
    refine ⟨fun y y0 y1 => by have := mx y y0 y1; omega, fun y hy => ?_⟩
    have ry := nbW_rg w hy
    rw [oo_at ry.2.1.1 (by omega)]
    have hy2 : y ∈ ahead := pa.mem_iff.mpr hy
    obtain ⟨k, hk⟩ := List.getElem?_of_mem hy2
    have hkl := (List.getElem?_eq_some_iff.mp hk).1
    have : (top :: ahead ++ behind)[k + 1]? = some y := by
      rw [List.cons_append, List.getElem?_cons_succ, List.getElem?_append_left hkl, hk]
    rw [at_idx p this]
    have := pa.length_eq
    omega
  · cases h
theorem in_lead (w : Wt m rows) (m6 : m ≤ 6) (mx : ∀ x, 0 ≤ x → x < m → ((nbI rows x).length : Int) ≤ most) (ex : ∃ x, 0 ≤ x ∧ x < m ∧ ((nbI rows x).length : Int) = most) (L : LdW m rows os) : os ∈ leadL m rows most := by
  have w1 := w.m1
  have p := L.perm
  have lp := p.length_eq
  rw [len_rangeI] at lp
  have p2 := oo_perm p
  have lp2 : (oo os).length = m.toNat := by rw [oo_len]; exact lp
  obtain ⟨top, t0, t1, et⟩ := at0_sur p (k := 0) (by omega) (by omega)
  obtain ⟨h1, h2⟩ := L.top top t0 t1 et
  have hm : ((nbI rows top).length : Int) = most := by
    obtain ⟨x, x0, x1, e⟩ := ex
    have := h1 x x0 x1
    have := mx top t0 t1
    omega
  have ndo : (othW m rows top).Nodup := (rangeI_nd _).filter _
  have lo : (othW m rows top).length ≤ m.toNat := by
    have := List.length_filter_le (fun x => decide (x ≠ top) && !decide (x ∈ nbI rows top)) (rangeI m.toNat)
    rw [len_rangeI] at this
    exact this
  have ln : (nbI rows top).length ≤ m.toNat := by
    have := nodup_subW (nbW_nd w top) (l := rangeI m.toNat) fun y hy => mem_rangeI.mpr (by have := nbW_rg w hy; omega)
    rw [len_rangeI] at this
    exact this
  -- the row: its places by their numbers
  have rowat : ∀ y, 0 ≤ y → y < m → (oo os)[(at0 os y.toNat).toNat]? = some y := fun y y0 y1 => by
    have e := oo_oo p
    have rg := at0_rg p y0 y1
    have hl : (at0 os y.toNat).toNat < (oo os).length := by omega
    have := oo_at (row := oo os) (x := y) y0 (by omega)
    rw [e] at this
    have i := (idx_at p2 y0 (by omega)).1
    rw [show (oo os).idxOf y = (at0 os y.toNat).toNat by omega] at i
    exact i
  have r0 := rowat top t0 t1
  rw [et] at r0
  obtain ⟨tl, etl⟩ : ∃ tl, oo os = top :: tl := by
    cases hr : oo os with
    | nil => rw [hr] at r0; cases r0
    | cons a tl =>
      rw [hr] at r0
      have : a = top := by simpa using r0
      exact ⟨tl, by rw [this]⟩
  have nd2 : (top :: tl).Nodup := by rw [← etl]; exact p2.nodup_iff.mpr (rangeI_nd _)
  obtain ⟨nt, ndt⟩ := List.nodup_cons.mp nd2
  have ltl : tl.length + 1 = m.toNat := by rw [← lp2, etl, List.length_cons]
  have sub : ∀ y ∈ nbI rows top, y ∈ tl.take (nbI rows top).length := fun y hy => by
    have ry := nbW_rg w hy
    have k1 := h2 y hy
    have ra := rowat y ry.2.1.1 ry.2.1.2
    have rg := at0_rg p ry.2.1.1 ry.2.1.2
    have ne : at0 os y.toNat ≠ 0 := fun e => ry.2.2 (at0_inj p t0 t1 ry.2.1.1 ry.2.1.2 (by rw [et, e]))
    obtain ⟨k, hk⟩ : ∃ k, (at0 os y.toNat).toNat = k + 1 := ⟨(at0 os y.toNat).toNat - 1, by omega⟩
    rw [hk, etl, List.getElem?_cons_succ] at ra
    exact List.mem_of_getElem? (i := k) (by rw [List.getElem?_take_of_lt (by omega), ra])
  have pa : (nbI rows top).Perm (tl.take (nbI rows top).length) := perm_subW (nbW_nd w top) (ndt.sublist (List.take_sublist _ _)) sub (by rw [List.length_take]; omega)
  have pb : (tl.drop (nbI rows top).length).Perm (othW m rows top) := by
    refine (List.perm_ext_iff_of_nodup (ndt.sublist (List.drop_sublist _ _)) ndo).mpr fun x => ?_
    have nd3 : (tl.take (nbI rows top).length ++ tl.drop (nbI rows top).length).Nodup := by rw [List.take_append_drop]; exact ndt
    have dis := (List.nodup_append.mp nd3).2.2
    unfold othW
    rw [List.mem_filter, mem_rangeI]
    constructor
    · intro hx
      have hxt : x ∈ tl := List.mem_of_mem_drop hx
      have hxo : x ∈ oo os := by rw [etl]; exact List.mem_cons_of_mem _ hxt
      have := mem_rangeI.mp (p2.mem_iff.mp hxo)
      have n1 : x ≠ top := fun e => nt (by rw [← e]; exact hxt)
      have n2 : x ∉ nbI rows top := fun h => dis x (pa.mem_iff.mp h) x hx rfl
      exact ⟨this, by simp [n1, n2]⟩
    · rintro ⟨hx, c⟩
      simp at c
      have hxo : x ∈ oo os := p2.mem_iff.mpr (mem_rangeI.mpr hx)
      rw [etl] at hxo
      have hxt : x ∈ tl := (List.mem_cons.mp hxo).resolve_left c.1
      rw [← List.take_append_drop (nbI rows top).length tl] at hxt
      rcases List.mem_append.mp hxt with h | h
      · exact absurd (pa.mem_iff.mpr h) c.2
      · exact h
  unfold leadL
  refine List.mem_flatMap.mpr ⟨top, mem_rangeI.mpr ⟨t0, by omega⟩, ?_⟩
  rw [if_pos hm]
  refine List.mem_flatMap.mpr ⟨tl.take (nbI rows top).length, (ar_mem (nbW_nd w top) (by omega)).mpr pa.symm, List.mem_map.mpr ⟨tl.drop (nbI rows top).length, (ar_mem ndo (by omega)).mpr pb, ?_⟩⟩
  have : top :: tl.take (nbI rows top).length ++ tl.drop (nbI rows top).length = oo os := by
    rw [List.cons_append, List.take_append_drop, etl]
  rw [this]
  exact oo_oo p
end
end G
set_option Elab.async false
set_option linter.all false
set_option maxRecDepth 100000
set_option maxHeartbeats 4000000
set_option autoImplicit false
noncomputable section
namespace G
open PySem PySem.Spec L2 VS
section
variable {m : Int} {rows : List R3} {os : List Int} {o : Bool}
theorem oat {x : Int} (ho : os.Perm (rangeI m.toNat)) (x0 : 0 ≤ x) (x1 : x < m) : atI (os.map D.int) x = some (.int (at0 os x.toNat)) := by
  have := ho.length_eq
  rw [len_rangeI] at this
  have hx : os[x.toNat]? = some (os[x.toNat]'(by omega)) := List.getElem?_eq_getElem _
  rw [atI_map x0 hx]
  unfold at0
  rw [hx]
  rfl
theorem ren_w {Q : Fo → Prop} (w : Wt m rows) (ho : os.Perm (rangeI m.toNat)) (h : Q (.ok (webD m (rnR os rows)) [webD m rows, .lst o (os.map D.int)])) : W (F_renamed_web [webD m rows, .lst o (os.map D.int)]) Q := by
  have x0 : ixN 2 0 = some 0 := rfl
  have x1 : ixN 2 1 = some 1 := rfl
  have e1 : D.tup [.int m, .tup (rows.map rD)] = webD m rows := rfl
  have le := w.le
  simp [F_renamed_web, body_renamed_web, a_renamed_web]
  simp [webD]
  rw [e1]
  refine W_lcAll (f := rD) (fun r => rD (nmr os r)) (le_size (by omega)) ?_ ?_
  · intro r hr J acc hj
    have en := w.en r hr
    have b1 := oat (x := r.1) ho (by omega) (by omega)
    have b2 := oat (x := r.2.1) ho (by omega) (by omega)
    simp [rD_def, b1, b2]
    exact hj
  · have e : rows.map (fun r => rD (nmr os r)) = (rows.map (nmr os)).map rD := by rw [List.map_map]; rfl
    rw [e]
    have so := sorted_rows (o := false) (l := rows.map (nmr os)) (le_size (by rw [List.length_map]; omega))
    have fz1 : fzL ((rows.map (nmr os)).map rD) = true := u_fzLmap fun _ => by simp
    have fr1 := freezeL_fz _ fz1
    have sl : (sort3 (rows.map (nmr os))).length ≤ sizeLine := le_size (by rw [sort3_len, List.length_map]; omega)
    generalize (rows.map (nmr os)).map rD = X at so fz1 fr1
    simp [fz1, fr1, so]
    exact h
theorem law_ren_w {Q : Fo → Prop} (w : Wt m rows) (ho : os.Perm (rangeI m.toNat)) (h : Q (.ok (webD m (rnR os rows)) [webD m rows, .lst o (os.map D.int)])) : W (F_law_renamed [webD m rows, .lst o (os.map D.int)]) Q := by
  have x0 : ixN 2 0 = some 0 := rfl
  have x1 : ixN 2 1 = some 1 := rfl
  have e1 : D.tup [.int m, .tup (rows.map rD)] = webD m rows := rfl
  have le := w.le
  simp [F_law_renamed, body_law_renamed, a_law_renamed]
  simp [webD]
  rw [e1]
  refine W_forL (f := rD) (fun p ρ => ∃ a b c : D, ρ = [webD m rows, .lst o (os.map D.int), .lst true ((p.map (nmr os)).map rD), a, b, c]) ⟨_, _, _, rfl⟩ ?_ ?_
  · rintro p r post ρ e ⟨a, b, c, rfl⟩ J hJ
    have hr := mem_of_split e
    have pl := len_of_split e
    have en := w.en r hr
    have b1 := oat (x := r.1) ho (by omega) (by omega)
    have b2 := oat (x := r.2.1) ho (by omega) (by omega)
    have sz : (p.map (nmr os)).length < sizeLine := lt_size (by rw [List.length_map]; omega)
    have e2 : (p ++ [r]).map (nmr os) = p.map (nmr os) ++ [nmr os r] := by rw [List.map_append]; rfl
    rw [e2] at hJ
    generalize p.map (nmr os) = X at sz hJ
    simp [rD_def, b1, b2, sz]
    refine hJ _ ⟨.int r.1, .int r.2.1, .int r.2.2, ?_⟩
    rw [List.map_append]
    rfl
  · rintro ρ ⟨a, b, c, rfl⟩
    have so := sorted_rows (o := false) (l := rows.map (nmr os)) (le_size (by rw [List.length_map]; omega))
    have fz1 : fzL ((rows.map (nmr os)).map rD) = true := u_fzLmap fun _ => by simp
    have fr1 := freezeL_fz _ fz1
    have sl : (sort3 (rows.map (nmr os))).length ≤ sizeLine := le_size (by rw [sort3_len, List.length_map]; omega)
    generalize (rows.map (nmr os)).map rD = X at so fz1 fr1
    simp [fz1, fr1, so]
    simp [webD]
    exact h
end
def arS (n : Nat) (xs : List Int) (t : Int) : List (List Int) := (arL n (xs.filter fun y => decide (y ≠ t))).map (t :: ·)
theorem arL_succ {n : Nat} {xs : List Int} (c : xs ≠ []) : arL (n + 1) xs = xs.flatMap (arS n xs) := by
  rw [arL, if_neg c]
  rfl
def lT (r : List Int) : D := .lst true (r.map D.int)
def lF (r : List Int) : D := .lst false (r.map D.int)
theorem fzF : ∀ L : List (List Int), fzL (L.map lF) = true := fun L => u_fzLmap fun _ => by simp [lF]
theorem frF (L : List (List Int)) : freezeL (L.map lF) = L.map lF := freezeL_fz _ (fzF L)
theorem frT (L : List (List Int)) : freezeL (L.map lT) = L.map lF := by
  induction L with
  | nil => simp
  | cons r L ih =>
    rw [List.map_cons, List.map_cons]
    have : freeze (lT r) = lF r := by simp [lT, lF]
    simp [ih, this]
theorem all_rows_w : ∀ {n : Nat} {xs : List Int} {Q : Fo → Prop}, xs.Nodup → xs.length < n → xs.length ≤ 6 → (Q (.ok (.lst true ((arL n xs).map lT)) [.lst false (xs.map D.int)])) → W (F_all_rows n [.lst false (xs.map D.int)]) Q
  | 0, _, _, _, h, _, _ => by omega
  | n + 1, xs, Q, nd, hn, h6, h => by
    have fI : ∀ zs : List Int, fzL (zs.map D.int) = true := fun zs => u_fzLmap fun _ => by simp
    have frI : ∀ zs : List Int, freezeL (zs.map D.int) = zs.map D.int := fun zs => freezeL_fz _ (fI zs)
    have one : (1 : Nat) ≤ sizeLine := le_size (by omega)
    simp [F_all_rows, body_all_rows, a_all_rows, fI, frI]
    by_cases c : xs = []
    · subst c
      rw [arL, if_pos rfl] at h
      simp [one]
      exact h
    · have cl : ¬ (xs.length : Int) = 0 := by have := List.length_pos_iff.mpr c; omega
      rw [arL_succ c] at h
      simp [c, cl, fI, frI]
      refine W_forL (f := D.int) (fun p ρ => ∃ a b : D, ρ = [.lst false (xs.map D.int), .lst true ((p.flatMap (arS n xs)).map lT), a, b, .unk, .unk]) ⟨_, _, rfl⟩ ?_ ?_
      · rintro p t post ρ e ⟨a, b, rfl⟩ J hJ
        have ht := mem_of_split e
        have pl := len_of_split e
        have fl : ∀ t ∈ xs, (xs.filter fun y => decide (y ≠ t)).length + 1 = xs.length := fun t ht => by
          have := (filt_perm nd ht).length_eq
          rw [List.length_cons] at this
          omega
        have sl : ∀ t ∈ xs, (arS n xs t).length ≤ 720 := fun t ht => by
          unfold arS
          rw [List.length_map]
          have := fl t ht
          exact Nat.le_trans (ar_len (nd.filter _)) (fb_le (by omega))
        have pb : (p.flatMap (arS n xs)).length ≤ 6 * 720 := by
          rw [List.length_flatMap]
          exact Nat.le_trans (sum_le (B := 720) p fun t' ht' => sl t' (by rw [e]; exact List.mem_append_left _ ht')) (Nat.mul_le_mul (by omega) (Nat.le_refl _))
        have nl := sl t ht
        have e2 : (p ++ [t]).flatMap (arS n xs) = p.flatMap (arS n xs) ++ arS n xs t := by simp
        rw [e2] at hJ
        generalize p.flatMap (arS n xs) = X at pb hJ
        simp
        refine W_lcMap (f := D.int) (fun y => decide (y ≠ t)) D.int (le_size (by omega)) ?_ ?_
        · intro y hy J2 acc h1 h0
          by_cases c2 : y = t
          · simp [c2]
            exact h0 (by simp [c2])
          · simp [c2]
            exact h1 (by simp [c2])
        · have fl2 := fl t ht
          have ndf := nd.filter fun y => decide (y ≠ t)
          have hS : arS n xs t = (arL n (xs.filter fun y => decide (y ≠ t))).map (t :: ·) := rfl
          rw [hS] at hJ nl
          rw [List.length_map] at nl
          generalize (xs.filter fun y => decide (y ≠ t)) = fs at fl2 ndf hJ nl
          simp [fI, frI]
          refine all_rows_w ndf (by omega) (by omega) ?_
          simp [frT, fzF]
          refine W_lcAll (f := lF) (fun r => lT (t :: r)) (le_size (by omega)) ?_ ?_
          · intro r hr J2 acc hj
            have rl := ((ar_mem ndf (by omega)).mp hr).length_eq
            have s2 : r.length + 1 ≤ sizeLine := le_size (by omega)
            have s3 : 1 + r.length ≤ sizeLine := le_size (by omega)
            simp [lF, one, s2, s3]
            exact hj
          · have hm : (arL n fs).map (fun r => lT (t :: r)) = ((arL n fs).map (t :: ·)).map lT := by rw [List.map_map]; rfl
            rw [hm]
            have yl : ((arL n fs).map (t :: ·)).length ≤ 720 := by rw [List.length_map]; exact nl
            generalize (arL n fs).map (t :: ·) = Y at yl hJ
            have s4 : X.length + Y.length ≤ sizeLine := le_size (by omega)
            simp [s4]
            refine hJ _ ⟨.int t, .lst false (fs.map D.int), ?_⟩
            rw [List.map_append]
      · rintro ρ ⟨a, b, rfl⟩
        simp
        exact h
theorem mulW {n : Int} (h0 : 0 ≤ n) (h1 : n ≤ 1000) : gMulA (.lst true [.int 0]) (.int n) = some (.lst true ((List.replicate n.toNat 0).map D.int)) := by
  have h63 : in63 n := ⟨by omega, by omega⟩
  have hs : [D.int 0].length * n.toNat ≤ sizeLine := le_size (by simp; omega)
  show (if in63 n ∧ [D.int 0].length * n.toNat ≤ sizeLine ∧ scAll [D.int 0] = true then some (D.lst true (List.replicate n.toNat [D.int 0]).flatten) else none) = _
  rw [if_pos ⟨h63, hs, rfl⟩]
  congr 2
  generalize n.toNat = k
  induction k with
  | zero => rfl
  | succ k ih => rw [List.replicate_succ, List.replicate_succ, List.flatten_cons, ih]; rfl
theorem order_of_w {m : Int} {row : List Int} {Q : Fo → Prop} (p : row.Perm (rangeI m.toNat)) (m6 : m ≤ 6) (h : Q (.ok (lT (oo row)) [.lst false (row.map D.int)])) : W (F_order_of [.lst false (row.map D.int)]) Q := by
  have len := p.length_eq
  rw [len_rangeI] at len
  have nd : row.Nodup := p.nodup_iff.mpr (rangeI_nd _)
  have fI : ∀ zs : List Int, fzL (zs.map D.int) = true := fun zs => u_fzLmap fun _ => by simp
  have one : (1 : Nat) ≤ sizeLine := le_size (by omega)
  have sz : row.length ≤ sizeLine := le_size (by omega)
  simp [F_order_of, body_order_of, a_order_of, fI, one]
  have mu : gMulA (.lst true [.int 0]) (.int (row.length : Int)) = some (.lst true ((List.replicate row.length 0).map D.int)) := by
    have := mulW (n := (row.length : Int)) (by omega) (by omega)
    rwa [Int.toNat_natCast] at this
  have en : enumA [.lst false (row.map D.int)] = some (row.zipIdx.map fun p => .tup [.int (p.2 : Nat), .int p.1]) := by
    rw [← enumD_map]
    exact enumA_lst (fI _)
  let fk : Nat → Int → Int := fun k x => if x ∈ row.take k then (row.idxOf x : Int) else 0
  have f0 : List.replicate row.length 0 = (rangeI row.length).map (fk 0) := by
    have : ∀ x ∈ rangeI row.length, fk 0 x = 0 := fun x _ => if_neg (by simp)
    rw [List.map_congr_left this, List.map_const', len_rangeI]
  have fn : (rangeI row.length).map (fk row.length) = oo row := by
    unfold oo
    refine List.map_congr_left fun x hx => ?_
    have : x ∈ row := p.mem_iff.mpr (by rw [← len]; exact hx)
    exact if_pos (by rw [List.take_length]; exact this)
  rw [f0] at mu
  simp [mu, en]
  refine W_forL (f := fun p : Int × Nat => D.tup [.int (p.2 : Nat), .int p.1]) (fun pf ρ => ∃ a b : D, ρ = [.lst false (row.map D.int), .lst true (((rangeI row.length).map (fk pf.length)).map D.int), a, b]) ⟨.unk, .unk, by rw [List.map_map]; rfl⟩ ?_ ?_
  · rintro pf ⟨y, i⟩ post ρ e ⟨a, b, rfl⟩ J hJ
    have hy : row.zipIdx[pf.length]? = some (y, i) := by rw [e]; simp
    rw [List.getElem?_zipIdx] at hy
    have hr : row[pf.length]? = some y ∧ pf.length = i := by
      cases q : row[pf.length]? with
      | none => rw [q] at hy; cases hy
      | some z =>
        rw [q] at hy
        simp at hy
        exact ⟨by rw [hy.1], hy.2⟩
    obtain ⟨hr, rfl⟩ := hr
    have hl := (List.getElem?_eq_some_iff.mp hr).1
    have ry := mem_rangeI.mp (p.mem_iff.mp (List.mem_of_getElem? hr))
    have ix := at_idx p hr
    have st : ((rangeI row.length).map (fk pf.length)).set y.toNat (pf.length : Int) = (rangeI row.length).map (fk (pf.length + 1)) := by
      apply List.ext_getElem?
      intro j
      by_cases cj : j < row.length
      · have ej : (rangeI row.length)[j]? = some (j : Int) := by
          unfold rangeI
          rw [List.getElem?_map, List.getElem?_range cj]
          rfl
        rw [List.getElem?_set, List.getElem?_map, List.getElem?_map, ej, List.length_map, len_rangeI]
        by_cases c : y.toNat = j
        · rw [if_pos c, if_pos (by omega)]
          have : (j : Int) = y := by omega
          rw [Option.map_some, this]
          congr 1
          show _ = if y ∈ row.take (pf.length + 1) then (row.idxOf y : Int) else 0
          rw [if_pos (List.mem_of_getElem? (i := pf.length) ((List.getElem?_take_of_lt (by omega)).trans hr)), ix]
        · rw [if_neg c, Option.map_some, Option.map_some]
          congr 1
          show (if (j : Int) ∈ row.take pf.length then _ else _) = if (j : Int) ∈ row.take (pf.length + 1) then _ else _
          have : (j : Int) ∈ row.take (pf.length + 1) ↔ (j : Int) ∈ row.take pf.length := by
            rw [List.take_add_one, hr]
            simp
            omega
          by_cases c2 : (j : Int) ∈ row.take pf.length
          · rw [if_pos c2, if_pos (this.mpr c2)]
          · rw [if_neg c2, if_neg fun h => c2 (this.mp h)]
      · rw [List.getElem?_eq_none (by simp [len_rangeI]; omega), List.getElem?_eq_none (by simp [len_rangeI]; omega)]
    have pu := ixN_lt (n := ((rangeI row.length).map (fk pf.length)).length) (i := y) ry.1 (by rw [List.length_map, len_rangeI]; omega)
    have em : (((rangeI row.length).map (fk pf.length)).map D.int).set y.toNat (.int (pf.length : Int)) = ((rangeI row.length).map (fk (pf.length + 1))).map D.int := by rw [← st, List.map_set]
    rw [show (pf ++ [(y, pf.length)]).length = pf.length + 1 by simp] at hJ
    generalize (rangeI row.length).map (fk (pf.length + 1)) = Y at em hJ
    generalize (rangeI row.length).map (fk pf.length) = X at em pu
    simp [pu, em]
    exact hJ _ ⟨_, _, rfl⟩
  · rintro ρ ⟨a, b, rfl⟩
    rw [show row.zipIdx.length = row.length by simp, fn]
    simp
    exact h
end G
set_option Elab.async false
set_option linter.all false
set_option maxRecDepth 100000
set_option maxHeartbeats 4000000
set_option autoImplicit false
noncomputable section
namespace G
open PySem PySem.Spec L2 VS
theorem ints_rangeW (n : Nat) : intsD 0 n = (rangeI n).map D.int := by
  unfold intsD rangeI
  rw [List.map_map]
  exact List.map_congr_left fun i _ => by show D.int (0 + (i : Int)) = D.int i; rw [Int.zero_add]
def ldT (m : Int) (rows : List R3) (most : Int) (top : Int) : List (List Int) := if ((nbI rows top).length : Int) = most then (arL 20 (nbI rows top)).flatMap fun ahead => (arL 20 (othW m rows top)).map fun behind => oo (top :: ahead ++ behind) else []
theorem leadL_eq {m : Int} {rows : List R3} {most : Int} : leadL m rows most = (rangeI m.toNat).flatMap (ldT m rows most) := rfl
section
variable {m : Int} {rows : List R3} {most : Int}
theorem nb_len6 (w : Wt m rows) (x : Int) : (nbI rows x).length ≤ m.toNat := by
  have := nodup_subW (nbW_nd w x) (l := rangeI m.toNat) fun y hy => mem_rangeI.mpr (by have := nbW_rg w hy; omega)
  rw [len_rangeI] at this
  exact this
theorem oth_len6 (top : Int) : (othW m rows top).length ≤ m.toNat := by
  have := List.length_filter_le (fun x => decide (x ≠ top) && !decide (x ∈ nbI rows top)) (rangeI m.toNat)
  rw [len_rangeI] at this
  exact this
theorem oth_nd (top : Int) : (othW m rows top).Nodup := (rangeI_nd _).filter _
theorem arN_len (w : Wt m rows) (m6 : m ≤ 6) (x : Int) : (arL 20 (nbI rows x)).length ≤ 720 := Nat.le_trans (ar_len (nbW_nd w x)) (fb_le (by have := nb_len6 w x; omega))
theorem arO_len (m6 : m ≤ 6) (x : Int) : (arL 20 (othW m rows x)).length ≤ 720 := Nat.le_trans (ar_len (oth_nd x)) (fb_le (by have := oth_len6 (m := m) (rows := rows) x; omega))
theorem flat_le {α β : Type} {f : α → List β} {B : Nat} (xs : List α) (h : ∀ x ∈ xs, (f x).length ≤ B) : (xs.flatMap f).length ≤ xs.length * B := by
  rw [List.length_flatMap]
  exact sum_le xs h
theorem ldT_len (w : Wt m rows) (m6 : m ≤ 6) (top : Int) : (ldT m rows most top).length ≤ 720 * 720 := by
  unfold ldT
  split
  · refine Nat.le_trans (flat_le (B := 720) _ fun a _ => ?_) (Nat.mul_le_mul (arN_len w m6 top) (Nat.le_refl _))
    rw [List.length_map]
    exact arO_len m6 top
  · simp
end
theorem zipIdx_rangeI {α : Type} (n : Nat) (g : Int × Nat → α) : (rangeI n).zipIdx.map g = (rangeI n).map fun x => g (x, x.toNat) := by
  apply List.ext_getElem?
  intro i
  rw [List.getElem?_map, List.getElem?_map, List.getElem?_zipIdx]
  by_cases c : i < n
  · have : (rangeI n)[i]? = some (i : Int) := by
      unfold rangeI
      rw [List.getElem?_map, List.getElem?_range c]
      rfl
    rw [this]
    simp
  · rw [List.getElem?_eq_none (by rw [len_rangeI]; omega)]
    rfl
theorem leading_w {m : Int} {rows : List R3} {Q : Fo → Prop} (w : Wt m rows) (m6 : m ≤ 6)
    (h : ∀ most, (∀ x, 0 ≤ x → x < m → ((nbI rows x).length : Int) ≤ most) → (∃ x, 0 ≤ x ∧ x < m ∧ ((nbI rows x).length : Int) = most) → Q (.ok (.lst true ((leadL m rows most).map lT)) [webD m rows])) : W (F_leading_orders [webD m rows]) Q := by
  have w1 := w.m1
  have le := w.le
  have x0 : ixN 2 0 = some 0 := rfl
  have e1 : D.tup [.int m, .tup (rows.map rD)] = webD m rows := rfl
  have hR := inR_le (show 0 ≤ m by omega) (by omega)
  have fw : fz (webD m rows) = true := by simp
  simp [F_leading_orders, body_leading_orders, a_leading_orders]
  simp [webD, hR]
  rw [e1]
  refine W_lcN (n := m.toNat) (fun k acc ρ => acc = (rangeI k).map (fun x => lT (nbI rows x)) ∧ ρ = [webD m rows, .unk, .unk, .unk, .unk, .unk, .unk, .unk, .unk, .unk]) ⟨rfl, rfl⟩ (le_size (by omega)) ?_ ?_
  · rintro k acc ρ hk ⟨rfl, rfl⟩ J hJ
    simp [fw]
    refine neigh_w (by omega) (by omega) (by omega) ?_
    simp
    refine hJ _ _ ⟨?_, rfl⟩
    rw [rangeI_succW, List.map_append]
    rfl
  · rintro acc ρ ⟨rfl, rfl⟩
    have fN : (rangeI m.toNat).map (fun x => lT (nbI rows x)) = ((rangeI m.toNat).map (nbI rows)).map lT := by rw [List.map_map]; rfl
    have en0 : enumA [.lst false (((rangeI m.toNat).map (nbI rows)).map lF)] = some ((rangeI m.toNat).map fun x => .tup [.int x, lF (nbI rows x)]) := by
      rw [enumA_lst (fzF _), List.map_map, enumD_map, zipIdx_rangeI]
      congr 1
      refine List.map_congr_left fun x hx => ?_
      have := mem_rangeI.mp hx
      show D.tup [.int ((x.toNat : Nat) : Int), _] = _
      rw [show ((x.toNat : Nat) : Int) = x by omega]
      rfl
    have mxs := @max_of true (((rangeI m.toNat).map (nbI rows)).map fun l => (l.length : Int)) (by
      intro z
      have := congrArg List.length z
      simp [len_rangeI] at this
      omega)
    rw [fN]
    have nl : ((rangeI m.toNat).map (nbI rows)).length = m.toNat := by rw [List.length_map, len_rangeI]
    have mN : ∀ x, 0 ≤ x → x < m → nbI rows x ∈ (rangeI m.toNat).map (nbI rows) := fun x x0 x1 => List.mem_map.mpr ⟨x, mem_rangeI.mpr ⟨x0, by omega⟩, rfl⟩
    have mN2 : ∀ l ∈ (rangeI m.toNat).map (nbI rows), ∃ x, 0 ≤ x ∧ x < m ∧ l = nbI rows x := fun l hl => by
      obtain ⟨x, hx, rfl⟩ := List.mem_map.mp hl
      have := mem_rangeI.mp hx
      exact ⟨x, this.1, by omega, rfl⟩
    generalize (rangeI m.toNat).map (nbI rows) = N at en0 mxs nl mN mN2 ⊢
    obtain ⟨most, em, hmem, hle⟩ := mxs
    have h := h most (fun x x0 x1 => hle _ (List.mem_map.mpr ⟨_, mN x x0 x1, rfl⟩)) (by
      obtain ⟨l, hl, e⟩ := List.mem_map.mp hmem
      obtain ⟨x, x0, x1, rfl⟩ := mN2 l hl
      exact ⟨x, x0, x1, e⟩)
    simp [frT, fzF, frF]
    refine W_lcAll (f := lF) (fun l => D.int (l.length : Int)) (le_size (by omega)) ?_ ?_
    · intro l hl J acc hj
      simp [lF]
      exact hj
    · have em2 : gMax [.lst true (N.map fun l => D.int (l.length : Int))] = some (.int most) := by
        rw [← em, List.map_map]
        rfl
      simp [em2, en0, frF, fzF]
      clear em em2 en0 hmem hle mN mN2
      have base : ∀ p : List Int, p.length ≤ 6 → (p.flatMap (ldT m rows most)).length ≤ 6 * (720 * 720) := fun p hp => Nat.le_trans (flat_le p fun x _ => ldT_len w m6 x) (Nat.mul_le_mul hp (Nat.le_refl _))
      refine W_forL (f := fun x => D.tup [.int x, lF (nbI rows x)]) (fun p ρ => ∃ a b c d : D, ρ = [webD m rows, .lst false (N.map lF), .int most, .lst true ((p.flatMap (ldT m rows most)).map lT), a, b, .unk, c, d, .unk]) ⟨_, _, _, _, rfl⟩ ?_ ?_
      · rintro p top post ρ e ⟨a, b, c, d, rfl⟩ J hJ
        have ht := mem_rangeI.mp (mem_of_split e)
        have t1 : top < m := by omega
        have pl := len_of_split e
        rw [len_rangeI] at pl
        have pb := base p (by omega)
        have tl := ldT_len (most := most) w m6 top
        have e2 : (p ++ [top]).flatMap (ldT m rows most) = p.flatMap (ldT m rows most) ++ ldT m rows most top := by simp
        rw [e2] at hJ
        generalize p.flatMap (ldT m rows most) = X at pb hJ
        have ll : lenD (lF (nbI rows top)) = some (nbI rows top).length := by simp [lF]
        have fnb : fz (lF (nbI rows top)) = true := by simp [lF]
        by_cases cm : ((nbI rows top).length : Int) = most
        · have hT : ldT m rows most top = (arL 20 (nbI rows top)).flatMap fun ahead => (arL 20 (othW m rows top)).map fun behind => oo (top :: ahead ++ behind) := if_pos cm
          rw [hT] at hJ tl
          simp [ll, cm, fnb]
          simp [webD, hR]
          rw [e1, ints_rangeW]
          refine W_lcMap (f := D.int) (fun x => decide (x ≠ top) && !decide (x ∈ nbI rows top)) D.int (le_size (by rw [len_rangeI]; omega)) ?_ ?_
          · intro x hx J2 acc h1 h0
            by_cases c1 : x = top
            · simp [c1]
              exact h0 (by simp [c1])
            · by_cases c2 : x ∈ nbI rows top
              · simp [c1, lF, c2]
                exact h0 (by simp [c1, c2])
              · simp [c1, lF, c2]
                exact h1 (by simp [c1, c2])
          · have hO : (rangeI m.toNat).filter (fun x => decide (x ≠ top) && !decide (x ∈ nbI rows top)) = othW m rows top := rfl
            rw [hO]
            have ol := oth_len6 (m := m) (rows := rows) top
            have ond := oth_nd (m := m) (rows := rows) top
            have aol := arO_len (m := m) (rows := rows) m6 top
            have anl := arN_len w m6 top
            have rp : ∀ a ∈ arL 20 (nbI rows top), ∀ b ∈ arL 20 (othW m rows top), (top :: a ++ b).Perm (rangeI m.toNat) := fun a ha b hb => row_perm w ht.1 t1 ((ar_mem (nbW_nd w top) (by have := nb_len6 w top; omega)).mp ha) ((ar_mem ond (by omega)).mp hb)
            generalize othW m rows top = O at ol ond aol rp hJ tl
            simp [fnb]
            refine all_rows_w (n := 20) (nbW_nd w top) (by have := nb_len6 w top; omega) (by have := nb_len6 w top; omega) ?_
            simp [frT, fzF, frF]
            let g : List Int → List (List Int) := fun a => (arL 20 O).map fun b => oo (top :: a ++ b)
            have hg : (arL 20 (nbI rows top)).flatMap (fun ahead => (arL 20 O).map fun behind => oo (top :: ahead ++ behind)) = (arL 20 (nbI rows top)).flatMap g := rfl
            rw [hg] at hJ tl
            refine W_forL (f := lF) (fun p2 ρ => ∃ (dO b2 : D), freeze dO = .lst false (O.map D.int) ∧ nunk (some dO) = true ∧ ρ = [webD m rows, .lst false (N.map lF), .int most, .lst true ((X ++ p2.flatMap g).map lT), .int top, lF (nbI rows top), .unk, dO, b2, .unk]) ⟨.lst true (O.map D.int), _, by simp, rfl, by simp; rfl⟩ ?_ ?_
            · rintro p2 ahead post2 ρ e3 ⟨dO, b2, fO, nO, rfl⟩ J2 hJ2
              have ha := mem_of_split e3
              have p2l := len_of_split e3
              have gl : ∀ a, (g a).length ≤ 720 := fun a => by
                show ((arL 20 O).map fun b => oo (top :: a ++ b)).length ≤ 720
                rw [List.length_map]
                exact aol
              have sz : (X ++ p2.flatMap g).length ≤ 6 * (720 * 720) + 720 * 720 := by
                rw [List.length_append]
                have := flat_le (B := 720) p2 fun a _ => gl a
                have : p2.length * 720 ≤ 720 * 720 := Nat.mul_le_mul (by omega) (Nat.le_refl _)
                omega
              have e4 : X ++ (p2 ++ [ahead]).flatMap g = (X ++ p2.flatMap g) ++ g ahead := by simp
              rw [e4] at hJ2
              generalize X ++ p2.flatMap g = Y at sz hJ2
              have fO2 : fzL (O.map D.int) = true := u_fzLmap fun _ => by simp
              simp [fO, nO, fO2]
              refine all_rows_w (n := 20) ond (by omega) (by omega) ?_
              simp [frT, fzF, frF]
              have one : (1 : Nat) ≤ sizeLine := le_size (by omega)
              have al : ahead.length ≤ m.toNat := by
                have := ((ar_mem (nbW_nd w top) (by have := nb_len6 w top; omega)).mp ha).length_eq
                have := nb_len6 w top
                omega
              refine W_lcAll (f := lF) (fun b => lT (oo (top :: ahead ++ b))) (le_size (by omega)) ?_ ?_
              · intro bh hb J3 acc hj
                have p3 := rp ahead ha bh hb
                have bl : bh.length ≤ m.toNat := by
                  have := ((ar_mem ond (by omega)).mp hb).length_eq
                  omega
                have s1 : 1 + ahead.length ≤ sizeLine := le_size (by omega)
                have s1' : ahead.length + 1 ≤ sizeLine := le_size (by omega)
                have s2 : ahead.length + 1 + bh.length ≤ sizeLine := le_size (by omega)
                have s3 : 1 + ahead.length + bh.length ≤ sizeLine := le_size (by omega)
                have s4 : ahead.length + bh.length + 1 ≤ sizeLine := le_size (by omega)
                have eR : D.int top :: (ahead.map D.int ++ bh.map D.int) = (top :: ahead ++ bh).map D.int := by simp
                have fR : fzL ((top :: ahead ++ bh).map D.int) = true := u_fzLmap fun _ => by simp
                have frR := freezeL_fz _ fR
                have ow := @order_of_w m (top :: ahead ++ bh)
                generalize hrow : top :: ahead ++ bh = row at p3 eR fR frR hj ow
                simp [lF, one, s1, s1', s2, s3, s4, eR, fR, frR]
                refine ow p3 m6 ?_
                simp
                exact hj
              · have hm : (arL 20 O).map (fun b => lT (oo (top :: ahead ++ b))) = (g ahead).map lT := by
                  show _ = ((arL 20 O).map fun b => oo (top :: ahead ++ b)).map lT
                  rw [List.map_map]
                  rfl
                rw [hm]
                have gl2 := gl ahead
                generalize g ahead = Z at gl2 hJ2
                have s4 : Y.length + Z.length ≤ sizeLine := le_size (by omega)
                simp [s4]
                refine hJ2 _ ⟨.lst false (O.map D.int), lF ahead, by simp [fO2], rfl, ?_⟩
                rw [List.map_append]
            · rintro ρ ⟨dO, b2, fO, nO, rfl⟩
              exact hJ _ ⟨_, _, _, _, rfl⟩
        · have hT : ldT m rows most top = [] := if_neg cm
          rw [hT, List.append_nil] at hJ
          simp [ll, cm, fnb]
          exact hJ _ ⟨_, _, _, _, rfl⟩
      · rintro ρ ⟨a, b, c, d, rfl⟩
        simp
        rw [leadL_eq] at h
        exact h
end G
set_option Elab.async false
set_option linter.all false
set_option maxRecDepth 100000
set_option maxHeartbeats 4000000
set_option autoImplicit false
noncomputable section
namespace G
open PySem PySem.Spec L2 VS
structure IsL (m : Int) (rows : List R3) (x : Ko) : Prop where
  eq : x.1 = rnR x.2 rows
  pm : x.2.Perm (rangeI m.toNat)
  le : ∀ os : List Int, os.Perm (rangeI m.toNat) → leO x (rnR os rows, os)
theorem IsL.uniq {m : Int} {rows : List R3} {x y : Ko} (h : IsL m rows x) (k : IsL m rows y) : x = y := by
  have a := h.le y.2 k.pm
  have b := k.le x.2 h.pm
  rw [← k.eq] at a
  rw [← h.eq] at b
  exact leO_anti a b
def keyO (rows : List R3) (os : List Int) : Ko := (rnR os rows, os)
theorem ord_min {m : Int} {rows : List R3} : ∃ x : Ko, IsL m rows x := by
  have ne : (ordL m.toNat).map (keyO rows) ≠ [] := by
    intro z
    have : rangeI m.toNat ∈ ordL m.toNat := ord_mem.mpr (.refl _)
    have h : keyO rows (rangeI m.toNat) ∈ (ordL m.toNat).map (keyO rows) := List.mem_map.mpr ⟨_, this, rfl⟩
    rw [z] at h
    cases h
  obtain ⟨x, hx, _, hl⟩ := minO (o := true) ne
  obtain ⟨os, ho, rfl⟩ := List.mem_map.mp hx
  exact ⟨_, rfl, ord_mem.mp ho, fun os' h => hl _ (List.mem_map.mpr ⟨os', ord_mem.mpr h, rfl⟩)⟩
theorem isL_lead {m : Int} {rows : List R3} {most : Int} {x : Ko} (w : Wt m rows) (m6 : m ≤ 6) (l1 : ∀ r ∈ rows, r.2.2 = 1) (mx : ∀ x, 0 ≤ x → x < m → ((nbI rows x).length : Int) ≤ most) (ex : ∃ x, 0 ≤ x ∧ x < m ∧ ((nbI rows x).length : Int) = most)
    (hx : x ∈ (leadL m rows most).map (keyO rows)) (hl : ∀ y ∈ (leadL m rows most).map (keyO rows), leO x y) : IsL m rows x := by
  obtain ⟨os, ho, rfl⟩ := List.mem_map.mp hx
  obtain ⟨z, hz⟩ := @ord_min m rows
  have L := lead_w w m6 mx ho
  have k := hz.le os L.perm
  have e : z = (rnR z.2 rows, z.2) := Prod.ext hz.eq rfl
  rw [e] at k
  have Lz := least_leads w l1 L hz.pm k
  have zin := in_lead w m6 mx ex Lz
  have h1 := hl _ (List.mem_map.mpr ⟨_, zin, rfl⟩)
  have h2 : leO (keyO rows os) z := by rw [e]; exact h1
  exact ⟨rfl, L.perm, fun os' p => leO_trans h2 (hz.le os' p)⟩
section
variable {m : Int} {rows : List R3}
theorem lead_ne {most : Int} (w : Wt m rows) (m6 : m ≤ 6) (ex : ∃ x, 0 ≤ x ∧ x < m ∧ ((nbI rows x).length : Int) = most) : leadL m rows most ≠ [] := by
  obtain ⟨top, t0, t1, e⟩ := ex
  intro z
  have : oo (top :: nbI rows top ++ othW m rows top) ∈ leadL m rows most := by
    unfold leadL
    refine List.mem_flatMap.mpr ⟨top, mem_rangeI.mpr ⟨t0, by omega⟩, ?_⟩
    rw [if_pos e]
    have := nb_len6 w top
    have := oth_len6 (m := m) (rows := rows) top
    exact List.mem_flatMap.mpr ⟨_, (ar_mem (nbW_nd w top) (by omega)).mpr (.refl _), List.mem_map.mpr ⟨_, (ar_mem (oth_nd top) (by omega)).mpr (.refl _), rfl⟩⟩
  rw [z] at this
  cases this
theorem plain40_w {Q : Fo → Prop} (hl : rows.length ≤ 100000) (h : Q (.ok (.bl (rows.all fun r => decide (r.2.2 = 1))) [webD m rows])) : W (F_is_plain [webD m rows]) Q := by
  simp [F_is_plain, body_is_plain, a_is_plain]
  refine W_lcAll (fun r : R3 => .bl (decide (r.2.2 = 1))) (le_size (by omega)) ?_ ?_
  · intro r hr J acc hj
    simp
    exact hj
  · simp
    exact h
theorem least_w {Q : Fo → Prop} (w : Wt m rows) (m6 : m ≤ 6) (l1 : ∀ r ∈ rows, r.2.2 = 1) (h : ∀ x, IsL m rows x → Q (.ok (.tup [webD m x.1, lT x.2]) [webD m rows])) : W (F_least_web [webD m rows]) Q := by
  have le := w.le
  have x0 : ixN 2 0 = some 0 := rfl
  have x1 : ixN 2 1 = some 1 := rfl
  have e1 : D.tup [.int m, .tup (rows.map rD)] = webD m rows := rfl
  have fw : fz (webD m rows) = true := by simp
  have al : (rows.all fun r => decide (r.2.2 = 1)) = true := by simpa using l1
  have c6 : ¬ 6 < m := by omega
  simp [F_least_web, body_least_web, a_least_web, fw]
  refine plain40_w (by omega) ?_
  rw [al]
  simp
  simp [webD, c6]
  rw [e1]
  refine leading_w w m6 fun most mx ex => ?_
  simp [fw]
  refine W_lcAll (f := lT) (fun os => oT (keyO rows os)) ?_ ?_ ?_
  · have := flat_le (B := 720 * 720) (f := ldT m rows most) (rangeI m.toNat) fun x _ => ldT_len w m6 x
    rw [← leadL_eq, len_rangeI] at this
    have : m.toNat * (720 * 720) ≤ 6 * (720 * 720) := Nat.mul_le_mul (by omega) (Nat.le_refl _)
    exact le_size (by omega)
  · intro os ho J acc hj
    have L := lead_w w m6 mx ho
    have two : (2 : Nat) ≤ sizeLine := le_size (by omega)
    simp [fw, lT]
    refine ren_w w L.perm ?_
    simp
    simp [webD, x1, two]
    exact hj
  · have hm : (leadL m rows most).map (fun os => oT (keyO rows os)) = ((leadL m rows most).map (keyO rows)).map oT := by rw [List.map_map]; rfl
    rw [hm]
    obtain ⟨x, hx, ex2, hl⟩ := minO (o := true) (xs := (leadL m rows most).map (keyO rows)) (by simpa using lead_ne w m6 ex)
    have I := isL_lead w m6 l1 mx ex hx hl
    have two : (2 : Nat) ≤ sizeLine := le_size (by omega)
    rw [List.map_map] at ex2
    simp [ex2]
    simp [oT]
    simp [webD, x0]
    exact h x I
end
end G
set_option Elab.async false
set_option linter.all false
set_option maxRecDepth 100000
set_option maxHeartbeats 4000000
noncomputable section
namespace G
open PySem PySem.Spec L2 VS
structure Pot where
  fs : List Int
  i : Int
  ne : fs ≠ []
  i0 : 0 ≤ i
def potD (s : Pot) : D := .lst true [.lst false (s.fs.map D.int), .int s.i]
theorem take_w {s : Pot} {m : Int} {Q : Fo → Prop} (hm : 0 < m) (h : ∀ x s', 0 ≤ x → x < m → Q (.ok (.int x) [potD s', .int m])) : W (F_law_take [potD s, .int m]) Q := by
  obtain ⟨fs, i, ne, i0⟩ := s
  have hl : 0 < fs.length := List.length_pos_iff.mpr ne
  have h1 := Int.emod_nonneg i (show (fs.length : Int) ≠ 0 by omega)
  have h2 := Int.emod_lt_of_pos i (show (0 : Int) < fs.length by omega)
  have ha : atI (fs.map D.int) (i % (fs.length : Int)) = some (.int (fs[(i % (fs.length : Int)).toNat]'(by omega))) := atI_map h1 (List.getElem?_eq_getElem (by omega))
  have hl2 : (0 : Int) < fs.length := by omega
  generalize (fs[(i % (fs.length : Int)).toNat]'(by omega)) = v at ha
  have hh := h (v % m) ⟨fs, i + 1, ne, by omega⟩ (Int.emod_nonneg _ (by omega)) (Int.emod_lt_of_pos _ hm)
  have x0 : ixN 2 1 = some 1 := rfl
  simp [F_law_take, body_law_take, a_law_take, potD, ha, hm, hl, hl2, x0]
  simpa [potD] using hh
theorem md5 (x : Int) : in64 (x % 2147483647) := by
  have a := Int.emod_nonneg x (show (2147483647 : Int) ≠ 0 by decide)
  have b := Int.emod_lt_of_pos x (show (0 : Int) < 2147483647 by decide)
  generalize x % 2147483647 = y at *
  exact in64_bd (by omega) (by omega)
theorem md6 (x : Int) : in64 (x % 2147483629) := by
  have a := Int.emod_nonneg x (show (2147483629 : Int) ≠ 0 by decide)
  have b := Int.emod_lt_of_pos x (show (0 : Int) < 2147483629 by decide)
  generalize x % 2147483629 = y at *
  exact in64_bd (by omega) (by omega)
theorem draws2_w {ns : List Int} {N : Int} {Q : Fo → Prop} (n0 : 1 ≤ N) (n1 : N ≤ 1000) (hl : ns.length ≤ 63) (h : ∀ s, Q (.ok (potD s) [.scr (ns.map D.int), .int N])) : W (F_law_draws [.scr (ns.map D.int), .int N]) Q := by
  have i1 : in64 48271 := in64_bd (by omega) (by omega)
  have i2 : in64 977 := in64_bd (by omega) (by omega)
  have i3 : in64 131 := in64_bd (by omega) (by omega)
  have i4 : in64 40693 := in64_bd (by omega) (by omega)
  have i5 : in64 4 := in64_bd (by omega) (by omega)
  have hR16 : inR 16 := inR_le (by omega) (by omega)
  have hR4 : inR 4 := inR_le (by omega) (by omega)
  have hR9 : inR N := inR_le (by omega) (by omega)
  have two : (2 : Nat) ≤ sizeLine := le_size (by omega)
  have ik : ∀ k : Nat, k < 1000 → in64 (k : Int) := fun k hk => in64_bd (by omega) (by omega)
  have ct := cut_take (f := D.int) (xs := ns) (n := 63) (by omega)
  have en := enumA_lst (o := true) (ds := (ns.take 63).map D.int) (u_fzLmap fun _ => by simp)
  rw [enumD_map] at en
  simp [F_law_draws, body_law_draws]
  rw [ct, show Int.toNat 63 = 63 from rfl, en]
  simp
  have tl : (ns.take 63).length ≤ 63 := by rw [List.length_take]; omega
  generalize ns.take 63 = ms at *
  have zl : ms.zipIdx.length ≤ 63 := by simpa using tl
  generalize ms.zipIdx = zs at *
  refine W_forL (xs := zs) (f := fun p : Int × Nat => D.tup [.int p.2, .int p.1]) (fun p ρ => ∃ (fs : List Int) (a b c d e : D), ρ = [.scr (ns.map D.int), .int N, .lst true (fs.map D.int), a, b, .unk, c, d, e] ∧ fs.length ≤ 16 * p.length) ⟨[], _, _, _, _, _, rfl, by simp⟩ ?_ ?_
  · rintro p q post ρ e ⟨fs, a, b, c, d, e2, rfl, hf⟩ J hJ
    have pl : p.length + 1 ≤ 63 := by rw [e] at zl; simp at zl; omega
    simp
    by_cases big : (1000000000000000000 : Int) ≤ (if q.1 < 0 then -q.1 else q.1)
    · simp [big, hR16]
      refine W_forN (fun k ρ => ∃ (fs : List Int) (c e : D) (l : Int), ρ = [.scr (ns.map D.int), .int N, .lst true (fs.map D.int), .int q.2, .int q.1, .unk, c, .int l, e] ∧ fs.length ≤ 16 * p.length + k) ⟨fs, _, _, _, rfl, by omega⟩ ?_ ?_
      · rintro k ρ hk ⟨fs, c, e, l, rfl, hf⟩ J2 hJ2
        have hs : fs.length < sizeLine := lt_size (by omega)
        by_cases c0 : 0 < l
        · simp [c0, hs]
          refine hJ2 _ ⟨fs ++ [l % 1000003], .int k, e, l / 1000003, ?_, by simp; omega⟩
          rw [List.map_append]
          rfl
        · simp [c0]
          exact hJ2 _ ⟨fs, _, _, _, rfl, by omega⟩
      · rintro ρ ⟨fs, c, e, l, rfl, hf⟩
        exact hJ _ ⟨fs, _, _, _, _, _, rfl, by simp; omega⟩
    · simp [big, hR4]
      refine W_forN (fun k ρ => ∃ (fs : List Int) (c d e : D), ρ = [.scr (ns.map D.int), .int N, .lst true (fs.map D.int), .int q.2, .int q.1, .unk, c, d, e] ∧ fs.length ≤ 16 * p.length + k) ⟨fs, _, _, _, rfl, by omega⟩ ?_ ?_
      · rintro k ρ hk ⟨fs, c, d, e, rfl, hf⟩ J2 hJ2
        have hs : fs.length < sizeLine := lt_size (by omega)
        have j1 := ik k (by omega)
        have j2 := md5 (q.1 * 48271 + 977 * k * k + 131 * q.2 + 1)
        simp [hs, i1, i2, i3, j1, j2]
        refine hJ2 _ ⟨fs ++ [(q.1 * 48271 + 977 * k * k + 131 * q.2 + 1) % 2147483647 * ((q.1 * 48271 + 977 * k * k + 131 * q.2 + 1) % 2147483647) % 2147483629 / 64], .int k, d, .int ((q.1 * 48271 + 977 * k * k + 131 * q.2 + 1) % 2147483647), ?_, by simp; omega⟩
        rw [List.map_append]
        rfl
      · rintro ρ ⟨fs, c, d, e, rfl, hf⟩
        exact hJ _ ⟨fs, _, _, _, _, _, rfl, by simp; omega⟩
  · rintro ρ ⟨fs, a, b, c, d, e, rfl, hf⟩
    have fl : fs.length ≤ 1008 := by omega
    simp
    have z9 : in64 40692 := in64_bd (by omega) (by omega)
    refine ⟨⟨inR_le (by omega) (by omega), hR9⟩, ?_⟩
    refine W_forN (fun k ρ => ∃ (gs : List Int) (v : Int) (j : D), ρ = [.scr (ns.map D.int), .int N, .lst true (gs.map D.int), a, b, .int v, j, d, e] ∧ gs.length = fs.length + k ∧ in64 v) ⟨fs, _, _, rfl, by omega, md6 _⟩ ?_ ?_
    · rintro k ρ hk ⟨gs, v, j, rfl, hf2, iv⟩ J2 hJ2
      have hs : gs.length < sizeLine := lt_size (by omega)
      have j1 : in64 ((fs.length : Int) + k) := in64_bd (by omega) (by omega)
      have j2 := md6 (v * v + 40692 + (fs.length + k))
      simp [hs, i5, j1, j2, iv, z9]
      refine hJ2 _ ⟨gs ++ [(v * v + 40692 + (fs.length + k)) % 2147483629 / 8], (v * v + 40692 + (fs.length + k)) % 2147483629, .int (fs.length + k), ?_, by simp; omega, j2⟩
      rw [List.map_append]
      rfl
    · rintro ρ ⟨gs, v, j, rfl, hf2, iv⟩
      have ne : gs ≠ [] := by
        intro e0
        rw [e0] at hf2
        simp at hf2
        omega
      have hh := h ⟨gs, 0, ne, by omega⟩
      simp
      simpa [potD] using hh
end G
set_option Elab.async false
set_option linter.all false
set_option maxRecDepth 100000
set_option maxHeartbeats 4000000
noncomputable section
namespace G
open PySem PySem.Spec L2 VS
@[simp] theorem nu_pot {s : Pot} : nunk (some (potD s)) = true := rfl
theorem length_w {s : Pot} {b : Bool} {kind sc : Int} {Q : Fo → Prop} (k0 : 0 ≤ kind) (k4 : kind < 4) (h : ∀ v s', 1 ≤ v → v ≤ 10 ^ 30 → (kind = 0 → v = 1) → Q (.ok (.int v) [potD s', .lst b [.int kind, .int sc]])) : W (F_law_length [potD s, .lst b [.int kind, .int sc]]) Q := by
  have p0 := Int.emod_nonneg sc (show (4 : Int) ≠ 0 by decide)
  have p1 := Int.emod_lt_of_pos sc (show (0 : Int) < 4 by decide)
  simp [F_law_length, body_law_length, a_law_length]
  refine take_w (m := 9) (by omega) fun x s1 x0 x1 => ?_
  simp
  refine take_w (by omega) fun y s2 y0 y1 => ?_
  simp
  refine W_pick (l := [1, 10000000, 100000000000000, 1000000000000000000000, 10000000000000000000000000000]) (n := 5) rfl y0 y1 fun z hz => ?_
  simp at hz
  have z1 : 1 ≤ z := by omega
  have z2 : z ≤ 10000000000000000000000000000 := by omega
  have g0 := Int.emod_nonneg (1 + x) (show (3 : Int) ≠ 0 by decide)
  have g1 := Int.emod_lt_of_pos (1 + x) (show (0 : Int) < 3 by decide)
  have x0i : ixN 2 1 = some 1 := rfl
  simp [x0i]
  refine W_pick (l := [1, 1000, 1000000000000000, 100000000000000000000000000000]) (n := 4) rfl p0 p1 fun u hu => ?_
  simp at hu
  simp
  have m2 : z ≤ (1 + (1 + x) % 3) * z := by
    have := Int.mul_le_mul_of_nonneg_right (show (1 : Int) ≤ 1 + (1 + x) % 3 by omega) (show (0 : Int) ≤ z by omega)
    omega
  have m3 : (1 + (1 + x) % 3) * z ≤ 3 * z := Int.mul_le_mul_of_nonneg_right (by omega) (by omega)
  have m4 : 1 + x ≤ (1 + x) * u := by
    have := Int.mul_le_mul_of_nonneg_left (show (1 : Int) ≤ u by omega) (show (0 : Int) ≤ 1 + x by omega)
    omega
  have m5 : (1 + x) * u ≤ 9 * u := Int.mul_le_mul_of_nonneg_right (by omega) (by omega)
  have m6 : (1 + x) * u ≤ 10 ^ 30 := by omega
  refine ⟨.inl (in64_bd (by omega) (by omega)), .inl (in64_bd (by omega) (by omega)), ?_⟩
  refine W_at (f := D.int) (xs := [1, 1 + x, (1 + x) * u, (1 + (1 + x) % 3) * z]) k0 (by simpa using k4) fun v hv0 => ?_
  have hv := List.mem_of_getElem? hv0
  simp at hv
  have hh := h v s2 (by omega) (by omega) (fun e => by subst e; simpa using hv0.symm)
  simp
  simpa using hh
end G
set_option Elab.async false
set_option linter.all false
set_option maxRecDepth 100000
set_option maxHeartbeats 4000000
noncomputable section
namespace G
open PySem PySem.Spec L2 VS
theorem Rb.wt {many : Int} {rows : List R3} (h1 : 1 ≤ many) (h2 : many ≤ 60) (le : rows.length ≤ 220) (rb : Rb many rows) (cn : Conn many rows) : Wt many (sort3 rows) := by
  have mm : ∀ r, r ∈ sort3 rows ↔ r ∈ rows := fun r => (sort3_perm _).mem_iff
  exact ⟨⟨h1, h2, fun r hr => rb.en r ((mm r).mp hr), fun r hr => rb.ln r ((mm r).mp hr), by rw [sort3_len]; exact le, fun S h0 hS => cn S h0 fun r hr => hS r ((mm r).mpr hr)⟩, sort3_lt rb.nd⟩
end G
set_option Elab.async false
set_option linter.all false
set_option maxRecDepth 100000
set_option maxHeartbeats 4000000
noncomputable section
namespace G
open PySem PySem.Spec L2 VS
theorem setd_dR {ρ : VS.Env} {i : Nat} {rows : List R3} {a b l : Int} (h : ρ[i]? = some (dR true rows)) (hs : rows.length < sizeLine) : setdS i (.tup [.int a, .int b]) (.int l) ρ = some (.ok .unk (ρ.set i (if (a, b) ∈ rows.map kp then dR true rows else dR true (rows ++ [(a, b, l)])))) := by
  have h2 : ρ[i]? = some (dP true (rows.map kp) (rows.map lnR)) := h
  rcases setd_P (a := a) (b := b) (l := l) h2 (by rw [List.length_map]; exact hs) with e | e
  · rw [e]
    by_cases n : (a, b) ∈ rows.map kp
    · rw [if_pos n, if_pos n]; rfl
    · rw [if_neg n, if_neg n, putL_new _ _ _ _ (by simp) n]
      simp [dR, kp, lnR]
  · simp at e
theorem web_w {s : Pot} {many extra kind sc : Int} {Q : Fo → Prop} (h1 : 1 ≤ many) (h8 : many ≤ 60) (e0 : 0 ≤ extra) (e13 : extra ≤ 220) (k0 : 0 ≤ kind) (k4 : kind < 4)
    (h : ∀ rows s', Wt many rows → (kind = 0 → ∀ r ∈ rows, r.2.2 = 1) → Q (.ok (webD many rows) [potD s', .int many, .int extra, .lst false [.int kind, .int sc]])) : W (F_law_web [potD s, .int many, .int extra, .lst false [.int kind, .int sc]]) Q := by
  have hR := inR_le (show 0 ≤ many by omega) (by omega)
  have ed : D.dT true [] [] = dR true [] := rfl
  simp [F_law_web, body_law_web, a_law_web, hR]
  refine W_forN (fun k ρ => ∃ (s : Pot) (os : List Int) (y : D), ρ = [potD s, .int many, .int extra, .lst false [.int kind, .int sc], .lst true (os.map D.int), y, .unk, .unk, .unk, .unk, .unk, .unk] ∧ os.Perm (rangeI k)) ⟨s, [], _, rfl, .refl _⟩ ?_ ?_
  · rintro k ρ hk ⟨s, os, y, rfl, hos⟩ J hJ
    have hol : os.length = k := by rw [hos.length_eq, len_rangeI]
    have hs : os.length < sizeLine := lt_size (by omega)
    simp
    refine take_w (by omega) fun x s2 x0 x1 => ?_
    have h63 : in63 x := in63_bd (by omega) (by omega)
    simp [hs, x0, h63]
    refine hJ _ ⟨s2, os.take x.toNat ++ (k : Int) :: os.drop x.toNat, .int k, by simp, ?_⟩
    have p := ins_perm os x.toNat (k : Int)
    rw [List.append_assoc] at p
    exact p.trans ((hos.cons _).trans (rangeI_succ k).symm)
  · rintro ρ ⟨s, os, y, rfl, ho⟩
    have hol : os.length = many.toNat := by rw [ho.length_eq, len_rangeI]
    simp [hR, ed]
    refine W_forN (fun k ρ => ∃ (s : Pot) (rows : List R3) (y z : D), ρ = [potD s, .int many, .int extra, .lst false [.int kind, .int sc], .lst true (os.map D.int), y, dR true rows, .unk, z, .unk, .unk, .unk] ∧ Rb many rows ∧ Tree os rows k ∧ rows.length ≤ k ∧ (∀ r ∈ rows, ∃ i j : Nat, i ≤ k ∧ j ≤ k ∧ r.1 = min (at0 os i) (at0 os j) ∧ r.2.1 = max (at0 os i) (at0 os j)) ∧ (kind = 0 → ∀ r ∈ rows, r.2.2 = 1)) ⟨s, [], _, _, rfl, Rb.nil, fun j j1 j2 => by omega, by simp, by simp, by simp⟩ ?_ ?_
    · rintro k ρ hk ⟨s, rows, y, z, rfl, rb, ht, hl, hi, hp⟩ J hJ
      simp
      refine take_w (by omega) fun x s2 x0 x1 => ?_
      have a1 := atI_int (xs := os) (i := 1 + (k : Int)) (by omega) (by omega)
      have a2 := atI_int (xs := os) (i := x) (by omega) (by omega)
      simp [a1, a2]
      refine length_w k0 k4 fun l s4 l1 l2 l3 => ?_
      have e1 : (1 + (k : Int)).toNat = k + 1 := by omega
      rw [e1]
      show W _ _
      have ea : os[x.toNat]?.getD 0 = at0 os x.toNat := rfl
      have eb : os[k + 1]?.getD 0 = at0 os (k + 1) := rfl
      rw [ea, eb]
      have p1 := os_at ho h1 (k + 1)
      have p2 := os_at ho h1 x.toNat
      have ne := os_ne ho (i := k + 1) (j := x.toNat) (by omega) (by omega) (by omega)
      have nn : (min (at0 os x.toNat) (at0 os (k + 1)), max (at0 os x.toNat) (at0 os (k + 1))) ∉ rows.map kp := fun q => by
        obtain ⟨r, hr, e⟩ := List.mem_map.mp q
        obtain ⟨i, j, i1, j1, e2, e3⟩ := hi r hr
        simp only [kp, Prod.mk.injEq] at e
        have n1 := os_ne ho (i := k + 1) (j := i) (by omega) (by omega) (by omega)
        have n2 := os_ne ho (i := k + 1) (j := j) (by omega) (by omega) (by omega)
        omega
      have pt := put_dR (l := l) (lt_size (show rows.length < 16000000 by omega)) nn
      generalize hA : at0 os x.toNat = A at *
      generalize hB : at0 os (k + 1) = B at *
      simp [pt]
      refine hJ _ ⟨s4, _, _, _, rfl, rb.add nn (by omega) ⟨l1, by omega⟩, ?_, by simp; omega, ?_, fun ek r hr => ?_⟩
      · intro j j1 j2
        by_cases c : j ≤ k
        · obtain ⟨i, hi1, hi2⟩ := ht j j1 c
          exact ⟨i, hi1, by rw [List.map_append]; exact List.mem_append_left _ hi2⟩
        · have : j = k + 1 := by omega
          subst this
          refine ⟨x.toNat, by omega, ?_⟩
          rw [hA, hB, List.map_append, Int.min_comm, Int.max_comm]
          exact List.mem_append_right _ (by simp [kp])
      · intro r hr
        rcases List.mem_append.mp hr with hr | hr
        · obtain ⟨i, j, i1, j1, e2, e3⟩ := hi r hr
          exact ⟨i, j, by omega, by omega, e2, e3⟩
        · rw [List.mem_singleton] at hr
          subst hr
          exact ⟨x.toNat, k + 1, by omega, by omega, by rw [hA, hB], by rw [hA, hB]⟩
      · rcases List.mem_append.mp hr with hr | hr
        · exact hp ek r hr
        · rw [List.mem_singleton] at hr
          subst hr
          exact l3 ek
    · rintro ρ ⟨s, rows, y, z, rfl, rb, ht, hl, hi, hp⟩
      have cn : Conn many rows := Tree.conn ho (by rw [hol]; exact ht)
      have hle : rows.length ≤ 220 := by omega
      have hR2 : inR (extra * if 1 < many then 1 else 0) := by
        split
        · exact inR_le (by omega) (by omega)
        · simp
      have h64 : in64 extra := in64_bd (by omega) (by omega)
      simp [hR2, h64]
      refine W_forN (fun k ρ => ∃ (s : Pot) (rows : List R3) (t a b c : D), ρ = [potD s, .int many, .int extra, .lst false [.int kind, .int sc], .lst true (os.map D.int), y, dR true rows, t, z, a, b, c] ∧ Rb many rows ∧ Conn many rows ∧ rows.length ≤ 220 ∧ (kind = 0 → ∀ r ∈ rows, r.2.2 = 1)) ⟨s, rows, _, _, _, _, rfl, rb, cn, by omega, hp⟩ ?_ ?_
      · rintro k ρ hk ⟨s, rows, t, a, b, c, rfl, rb, cn, hl, hp⟩ J hJ
        have hm : 1 < many := by
          by_cases q : 1 < many
          · exact q
          · rw [if_neg q] at hk; simp at hk
        rw [if_pos hm] at hk
        simp
        refine take_w (by omega) fun u s4 u0 u1 => ?_
        simp
        refine take_w (by omega) fun v s5 v0 v1 => ?_
        have z0 := Int.emod_nonneg (u + 1 + v) (show many ≠ 0 by omega)
        have z1 := Int.emod_lt_of_pos (u + 1 + v) (show 0 < many by omega)
        generalize hz : (u + 1 + v) % many = w at *
        simp [hz, show 0 < many by omega]
        refine length_w k0 k4 fun l s6 l1 l2 l3 => ?_
        simp [ite_app, W_if]
        have keep : J [potD s6, .int many, .int extra, .lst false [.int kind, .int sc], .lst true (os.map D.int), y, dR true rows, .int k, z, .int u, .int w, .int l] := hJ _ ⟨s6, rows, _, _, _, _, rfl, rb, cn, by omega, hp⟩
        refine ⟨fun _ => keep, fun ne => ⟨fun gd => ?_, fun _ => keep⟩⟩
        have e := setd_dR (ρ := [potD s6, .int many, .int extra, .lst false [.int kind, .int sc], .lst true (os.map D.int), y, dR true rows, .int k, z, .int u, .int w, .int l]) (i := 6) (rows := rows) (a := min u w) (b := max u w) (l := l) rfl (lt_size (by omega))
        rw [e]
        by_cases n : (min u w, max u w) ∈ rows.map kp
        · rw [if_pos n]
          simp
          exact keep
        · rw [if_neg n]
          simp
          refine hJ _ ⟨s6, _, _, _, _, _, rfl, rb.add n (by omega) ⟨l1, by omega⟩, cn.sub, by simp; omega, fun ek r hr => ?_⟩
          rcases List.mem_append.mp hr with hr | hr
          · exact hp ek r hr
          · rw [List.mem_singleton] at hr
            subst hr
            exact l3 ek
      · rintro ρ ⟨s, rows, t, a, b, c, rfl, rb, cn, hl, hp⟩
        have hb : rows.length ≤ 220 := hl
        have hs : rows.length ≤ sizeLine := le_size (by omega)
        have es : gSorted [dR false rows] = some (.lst true ((sP (rows.map kp)).map pD)) := by
          unfold dR
          rw [u_sortP (le_size (by simp; omega)), pD_tI]
        simp [es]
        refine W_lcAll (fun p => rD (p.1, p.2, (look (rows.map kp) (rows.map lnR) p).getD 0)) (le_size (by rw [(sP_perm _).length_eq]; simp; omega)) ?_ ?_
        · intro p hp J acc hj
          have hk : p ∈ rows.map kp := (sP_perm _).mem_iff.mp hp
          obtain ⟨r, hr, rfl⟩ := List.mem_map.mp hk
          have e := look_row rb.nd hr
          simp [dR]
          rw [show pD (kp r) = D.tup [.int (kp r).1, .int (kp r).2] from rfl]
          simp [u_lookP]
          rw [show ((kp r).1, (kp r).2) = kp r from rfl, e]
          simp [rD_def]
          rw [e] at hj
          exact hj
        · have e : (sP (rows.map kp)).map (fun p => rD (p.1, p.2, (look (rows.map kp) (rows.map lnR) p).getD 0)) = (sort3 rows).map rD := by
            rw [← rows_sorted rb.nd, List.map_map]
            rfl
          rw [e]
          simp
          exact h _ s (rb.wt h1 (by omega) hb cn) fun ek r hr => hp ek r ((sort3_perm _).mem_iff.mp hr)
end G
set_option Elab.async false
set_option linter.all false
set_option maxRecDepth 100000
set_option maxHeartbeats 4000000
noncomputable section
namespace G
open PySem PySem.Spec L2 VS
def Cop (n : Nat) (a b : D) : Prop := ∀ Q : Fo → Prop, Q (.ok b [a]) → W (F_law_copied n [a]) Q
theorem cop_int {n : Nat} {v : Int} : Cop (n + 1) (.int v) (.int v) := fun Q h => by
  simp [F_law_copied, body_law_copied, a_law_copied]
  exact h
theorem cop_tup {n : Nat} {ps : List (D × D)} (hz : ∀ p ∈ ps, fz p.1 = true) (hl : ps.length ≤ 1000) (h : ∀ p ∈ ps, Cop n p.1 p.2) : Cop (n + 1) (.tup (ps.map (·.1))) (.tup (ps.map (·.2))) := fun Q hq => by
  have z : fzL (ps.map (·.1)) = true := by
    rw [fzL_all, List.all_eq_true]
    intro d hd
    obtain ⟨p, hp, rfl⟩ := List.mem_map.mp hd
    exact hz p hp
  have fr := freezeL_fz _ z
  simp [F_law_copied, body_law_copied, a_law_copied, z, fr]
  refine W_lcAll (xs := ps) (f := fun p => p.1) (fun p : D × D => p.2) (le_size (by omega)) ?_ ?_
  · intro p hp J acc hj
    have z2 := hz p hp
    simp [z2]
    refine h p hp _ ?_
    simp
    exact hj
  · have gt : gTuple [.lst true (ps.map (·.2))] = some (.tup (ps.map (·.2))) := rfl
    simp [gt]
    exact hq
theorem cop_rD {n : Nat} {r : R3} : Cop (n + 2) (rD r) (rD r) := by
  have := cop_tup (n := n + 1) (ps := [(.int r.1, .int r.1), (.int r.2.1, .int r.2.1), (.int r.2.2, .int r.2.2)]) (by simp) (by simp) (fun p hp => by simp at hp; rcases hp with rfl | rfl | rfl <;> exact cop_int)
  exact this
theorem copied_w {m : Int} {rows : List R3} {Q : Fo → Prop} (hl : rows.length ≤ 1000) (h : Q (.ok (webD m rows) [webD m rows])) : W (F_law_copied 20 [webD m rows]) Q := by
  have c1 : Cop 19 (.tup (rows.map rD)) (.tup (rows.map rD)) := by
    have := cop_tup (n := 18) (ps := rows.map fun r => (rD r, rD r)) (fun p hp => by
      obtain ⟨r, _, rfl⟩ := List.mem_map.mp hp
      rfl) (by simpa using hl) (fun p hp => by
      obtain ⟨r, _, rfl⟩ := List.mem_map.mp hp
      exact cop_rD)
    rw [List.map_map, List.map_map] at this
    exact this
  have c2 := cop_tup (n := 19) (ps := [(.int m, .int m), (.tup (rows.map rD), .tup (rows.map rD))]) (fun p hp => by
    simp at hp
    rcases hp with rfl | rfl
    · rfl
    · simp) (by simp) (fun p hp => by
    simp at hp
    rcases hp with rfl | rfl
    · exact cop_int
    · exact c1)
  exact c2 Q h
end G
set_option Elab.async false
set_option linter.all false
set_option maxRecDepth 100000
set_option maxHeartbeats 4000000
set_option autoImplicit false
noncomputable section
namespace G
open PySem PySem.Spec L2 VS
theorem ord_len6 {m : Int} (m6 : m ≤ 6) : (ordL m.toNat).length ≤ 720 := by
  rw [ord_len]
  exact fb_le (by omega)
def ordS (k : Nat) (o : List Int) : List (List Int) := (List.range (k + 1)).map fun i => o.take i ++ [(k : Int)] ++ o.drop i
theorem ordL_succ {k : Nat} : ordL (k + 1) = (ordL k).flatMap (ordS k) := rfl
theorem law_orders_w {m : Int} {Q : Fo → Prop} (m0 : 0 ≤ m) (m6 : m ≤ 6) (h : Q (.ok (.lst true ((ordL m.toNat).map lT)) [.int m])) : W (F_law_orders [.int m]) Q := by
  have hR := inR_le m0 (by omega)
  have one : (1 : Nat) ≤ sizeLine := le_size (by omega)
  simp [F_law_orders, body_law_orders, a_law_orders, hR, one]
  refine W_forN (n := m.toNat) (fun k ρ => ∃ (a b c : D), ρ = [.int m, .lst true ((ordL k).map lT), a, b, c, .unk]) ⟨.unk, .unk, .unk, rfl⟩ ?_ ?_
  · rintro k ρ hk ⟨a, b, c, rfl⟩ J hJ
    have lk : (ordL k).length ≤ 720 := by
      rw [ord_len]
      exact fb_le (by omega)
    have nf : ∀ o ∈ ordL k, o.length = k := fun o ho => by
      rw [(ord_mem.mp ho).length_eq, len_rangeI]
    simp [frT, fzF, frF]
    refine W_forL (f := lF) (fun p ρ => ∃ (c : D), ρ = [.int m, .lst false ((ordL k).map lF), .int k, .lst true ((p.flatMap (ordS k)).map lT), c, .unk]) ⟨_, rfl⟩ ?_ ?_
    · rintro p o post ρ e ⟨c, rfl⟩ J2 hJ2
      have ol := nf o (mem_of_split e)
      have pl := len_of_split e
      have sl : ∀ o, (ordS k o).length = k + 1 := fun o => by unfold ordS; simp
      have pb : (p.flatMap (ordS k)).length ≤ 720 * 7 := Nat.le_trans (flat_le (B := 7) p fun o _ => by rw [sl]; omega) (Nat.mul_le_mul (by omega) (Nat.le_refl _))
      have e2 : (p ++ [o]).flatMap (ordS k) = p.flatMap (ordS k) ++ ordS k o := by simp
      rw [e2] at hJ2
      generalize p.flatMap (ordS k) = X at pb hJ2
      have hR2 : inR ((k : Int) + 1) := inR_le (by omega) (by omega)
      simp [hR2]
      refine W_lcN (n := k + 1) (fun i acc ρ => acc = ((List.range i).map fun i => o.take i ++ [(k : Int)] ++ o.drop i).map lT ∧ ρ = [.int m, .lst false ((ordL k).map lF), .int k, .lst true (X.map lT), lF o, .unk]) ⟨rfl, rfl⟩ (le_size (by omega)) ?_ ?_
      · rintro i acc ρ hi ⟨rfl, rfl⟩ J3 hJ3
        have c1 : cutD (o.map D.int) none (some (i : Int)) = (o.take i).map D.int := by
          rw [cut_take (by omega), Int.toNat_natCast]
        have c2 : cutD (o.map D.int) (some (i : Int)) none = (o.drop i).map D.int := by
          rw [cut_drop (by omega), Int.toNat_natCast]
        have s1 : (o.take i).length + 1 ≤ sizeLine := le_size (by rw [List.length_take]; omega)
        have s2 : (o.take i).length + 1 + (o.drop i).length ≤ sizeLine := le_size (by rw [List.length_take, List.length_drop]; omega)
        have e3 : (List.range (i + 1)).map (fun i => o.take i ++ [(k : Int)] ++ o.drop i) = (List.range i).map (fun i => o.take i ++ [(k : Int)] ++ o.drop i) ++ [o.take i ++ [(k : Int)] ++ o.drop i] := by rw [List.range_succ, List.map_append]; rfl
        rw [e3, List.map_append] at hJ3
        generalize ((List.range i).map fun i => o.take i ++ [(k : Int)] ++ o.drop i).map lT = Y at hJ3
        have e4 : [o.take i ++ [(k : Int)] ++ o.drop i].map lT = [.lst true ((o.take i).map D.int ++ .int k :: (o.drop i).map D.int)] := by simp [lT]
        rw [e4] at hJ3
        generalize o.take i = A at c1 s1 s2 hJ3
        generalize o.drop i = B at c2 s2 hJ3
        simp [lF, c1, c2, s1, s2]
        exact hJ3 _ _ ⟨rfl, rfl⟩
      · rintro acc ρ ⟨rfl, rfl⟩
        have hz : ((List.range (k + 1)).map fun i => o.take i ++ [(k : Int)] ++ o.drop i) = ordS k o := rfl
        rw [hz]
        have zl := sl o
        generalize ordS k o = Z at zl hJ2
        have s4 : X.length + Z.length ≤ sizeLine := le_size (by omega)
        simp [s4]
        refine hJ2 _ ⟨lF o, ?_⟩
        rw [List.map_append]
    · rintro ρ ⟨c, rfl⟩
      rw [← ordL_succ]
      simp
      exact hJ _ ⟨_, _, _, rfl⟩
  · rintro ρ ⟨a, b, c, rfl⟩
    simp
    exact h
theorem law_least_w {m : Int} {rows : List R3} {Q : Fo → Prop} (w : Wt m rows) (m6 : m ≤ 6) (h : ∀ x, IsL m rows x → Q (.ok (.tup [webD m x.1, lT x.2]) [webD m rows])) : W (F_law_least [webD m rows]) Q := by
  have w1 := w.m1
  have le := w.le
  have x0 : ixN 2 0 = some 0 := rfl
  have x1 : ixN 2 1 = some 1 := rfl
  have e1 : D.tup [.int m, .tup (rows.map rD)] = webD m rows := rfl
  have fw : fz (webD m rows) = true := by simp
  have two : (2 : Nat) ≤ sizeLine := le_size (by omega)
  have ol := ord_len6 m6
  simp [F_law_least, body_law_least, a_law_least]
  simp [webD]
  rw [e1]
  refine law_orders_w (by omega) m6 ?_
  simp
  refine W_lcAll (f := lT) (fun os => oT (keyO rows os)) (le_size (by omega)) ?_ ?_
  · intro os ho J acc hj
    have p := ord_mem.mp ho
    simp [fw, lT]
    refine law_ren_w w p ?_
    simp
    simp [webD, x1, two]
    exact hj
  · have hm : (ordL m.toNat).map (fun os => oT (keyO rows os)) = ((ordL m.toNat).map (keyO rows)).map oT := by rw [List.map_map]; rfl
    rw [hm]
    have ne : (ordL m.toNat).map (keyO rows) ≠ [] := by
      intro z
      have : rangeI m.toNat ∈ ordL m.toNat := ord_mem.mpr (.refl _)
      have h : keyO rows (rangeI m.toNat) ∈ (ordL m.toNat).map (keyO rows) := List.mem_map.mpr ⟨_, this, rfl⟩
      rw [z] at h
      cases h
    obtain ⟨x, hx, ex2, hl⟩ := minO (o := true) ne
    have I : IsL m rows x := by
      obtain ⟨os, ho, rfl⟩ := List.mem_map.mp hx
      exact ⟨rfl, ord_mem.mp ho, fun os' h => hl _ (List.mem_map.mpr ⟨os', ord_mem.mpr h, rfl⟩)⟩
    generalize ((ordL m.toNat).map (keyO rows)).map oT = X at ex2
    simp [ex2]
    simp [oT]
    simp [webD, x0]
    exact h x I
end G
set_option Elab.async false
set_option linter.all false
set_option maxRecDepth 100000
set_option maxHeartbeats 4000000
noncomputable section
namespace G
open PySem PySem.Spec L2 VS
end G
set_option Elab.async false
set_option linter.all false
set_option maxRecDepth 100000
set_option maxHeartbeats 4000000
set_option autoImplicit false
noncomputable section
namespace G
open PySem PySem.Spec L2 VS
theorem W_pick40 {l : List Int} {x : Int} {n : Int} {Q : D → Prop} (hl : (l.length : Int) = n) (h0 : 0 ≤ x) (h1 : x < n) (h : ∀ y ∈ l, Q (.int y)) : W (atI (l.map D.int) x) Q :=
  W_at h0 (by omega) fun y hy => h y (List.mem_of_getElem? hy)
theorem ties_ne {m : Int} {rows : List R3} (w : Wt m rows) (h : 1 < m) : rows ≠ [] := by
  rintro rfl
  have := w.cn (fun x => x = 0) rfl (by simp) 1 (by omega) h
  omega
section
variable {m : Int} {rows : List R3}
theorem least_np_w {Q : Fo → Prop} (hl : rows.length ≤ 220) (np : ∃ r ∈ rows, r.2.2 ≠ 1) (h : Q (.ex ⟨"NotPlain", none⟩ [webD m rows])) : W (F_least_web [webD m rows]) Q := by
  have fw : fz (webD m rows) = true := by simp
  have al : (rows.all fun r => decide (r.2.2 = 1)) = false := by
    obtain ⟨r, hr, n⟩ := np
    refine Bool.eq_false_iff.mpr fun z => n ?_
    have := List.all_eq_true.mp z r hr
    simpa using this
  simp [F_least_web, body_least_web, a_least_web, fw]
  refine plain40_w (by omega) ?_
  rw [al]
  simp
  exact h
theorem least_tm_w {Q : Fo → Prop} (hl : rows.length ≤ 220) (l1 : ∀ r ∈ rows, r.2.2 = 1) (m7 : 6 < m) (h : Q (.ex ⟨"TooMany", none⟩ [webD m rows])) : W (F_least_web [webD m rows]) Q := by
  have fw : fz (webD m rows) = true := by simp
  have x0 : ixN 2 0 = some 0 := rfl
  have al : (rows.all fun r => decide (r.2.2 = 1)) = true := by simpa using l1
  simp [F_least_web, body_least_web, a_least_web, fw]
  refine plain40_w (by omega) ?_
  rw [al]
  simp
  simp [webD, x0, m7]
  exact h
theorem refused_np_w {Q : Fo → Prop} (hl : rows.length ≤ 220) (np : ∃ r ∈ rows, r.2.2 ≠ 1) (h : Q (.ok (.bl true) [webD m rows, .bl false])) : W (F_law_refused [webD m rows, .bl false]) Q := by
  have fw : fz (webD m rows) = true := by simp
  simp [F_law_refused, body_law_refused, a_law_refused, fw]
  refine least_np_w hl np ?_
  simp
  have t0 : tabAny isT "NotPlain" ["Apart", "BadLengths", "BadWeb", "NoChoice", "NoPlace", "NoRow", "NoSide", "NoText", "NothingDone"] = some false := by decide +kernel
  have t1 : tabAny isT "NotPlain" ["NoTie", "NotLone", "NoWay", "Tied"] = some false := by decide +kernel
  have t2 : tabAny isT "NotPlain" ["ValueError"] = some true := by decide +kernel
  have t3 : tabAny isT "NotPlain" ["TooMany"] = some false := by decide +kernel
  have t4 : tabAny isT "NotPlain" ["NotPlain"] = some true := by decide +kernel
  have y1 : ("NotPlain" : Str) ∈ yes_LoneError := by decide +kernel
  have y2 : ("NotPlain" : Str) ∈ exAll := by decide +kernel
  simp [t0, t1, t2, t3, t4, y1, y2, ite_app]
  exact h
theorem refused_tm_w {Q : Fo → Prop} (hl : rows.length ≤ 220) (l1 : ∀ r ∈ rows, r.2.2 = 1) (m7 : 6 < m) (h : Q (.ok (.bl true) [webD m rows, .bl true])) : W (F_law_refused [webD m rows, .bl true]) Q := by
  have fw : fz (webD m rows) = true := by simp
  simp [F_law_refused, body_law_refused, a_law_refused, fw]
  refine least_tm_w hl l1 m7 ?_
  simp
  have t0 : tabAny isT "TooMany" ["Apart", "BadLengths", "BadWeb", "NoChoice", "NoPlace", "NoRow", "NoSide", "NoText", "NothingDone"] = some false := by decide +kernel
  have t1 : tabAny isT "TooMany" ["NoTie", "NotLone", "NoWay", "Tied"] = some false := by decide +kernel
  have t2 : tabAny isT "TooMany" ["ValueError"] = some true := by decide +kernel
  have t3 : tabAny isT "TooMany" ["TooMany"] = some true := by decide +kernel
  have t4 : tabAny isT "TooMany" ["NotPlain"] = some false := by decide +kernel
  have y1 : ("TooMany" : Str) ∈ yes_LoneError := by decide +kernel
  have y2 : ("TooMany" : Str) ∈ exAll := by decide +kernel
  simp [t0, t1, t2, t3, t4, y1, y2, ite_app]
  exact h
theorem longer_w {s : Pot} {Q : Fo → Prop} (w : Wt m rows) (h1 : 1 < m) (h : ∀ rows' s', Wt m rows' → (∃ r ∈ rows', r.2.2 ≠ 1) → Q (.ok (webD m rows') [potD s', webD m rows])) : W (F_law_longer [potD s, webD m rows]) Q := by
  have le := w.le
  have ne := ties_ne w h1
  have lp := List.length_pos_iff.mpr ne
  have x0 : ixN 2 0 = some 0 := rfl
  have x1 : ixN 2 1 = some 1 := rfl
  have e1 : D.tup [.int m, .tup (rows.map rD)] = webD m rows := rfl
  simp [F_law_longer, body_law_longer, a_law_longer]
  simp [webD]
  rw [e1]
  refine take_w (by omega) fun i s1 i0 i1 => ?_
  simp
  simp [webD]
  rw [e1]
  have hi : rows[i.toNat]? = some (rows[i.toNat]'(by omega)) := List.getElem?_eq_getElem _
  generalize rows[i.toNat]'(by omega) = r at hi
  have ar : atI (rows.map rD) i = some (rD r) := atI_map i0 hi
  simp [ar, rD_def]
  refine take_w (by omega) fun y s2 y0 y1 => ?_
  simp
  refine W_pick40 (l := [2, 1000000000000000000000000000000]) (n := 2) rfl y0 y1 fun z hz => ?_
  simp at hz
  simp
  have c1 : cutD (rows.map rD) none (some i) = (rows.take i.toNat).map rD := cut_take i0
  have c2 : cutD (rows.map rD) (some (i + 1)) none = (rows.drop (i.toNat + 1)).map rD := by
    rw [cut_drop (by omega)]
    rw [show (i + 1).toNat = i.toNat + 1 by omega]
  have hl := (List.getElem?_eq_some_iff.mp hi).1
  have s1' : (rows.take i.toNat).length + 1 ≤ sizeLine := le_size (by rw [List.length_take]; omega)
  have s2' : (rows.take i.toNat).length + 1 + (rows.drop (i.toNat + 1)).length ≤ sizeLine := le_size (by rw [List.length_take, List.length_drop]; omega)
  have es : (rows.take i.toNat).map rD ++ D.tup [.int r.1, .int r.2.1, .int z] :: (rows.drop (i.toNat + 1)).map rD = (rows.set i.toNat (r.1, r.2.1, z)).map rD := by
    rw [List.set_eq_take_append_cons_drop, if_pos hl, List.map_append, List.map_cons]
    rfl
  have wt := w.set hi (l := z) (by omega)
  have hm : (r.1, r.2.1, z) ∈ rows.set i.toNat (r.1, r.2.1, z) := List.mem_set hl _
  have h := h _ s2 wt ⟨_, hm, by dsimp only; omega⟩
  generalize rows.set i.toNat (r.1, r.2.1, z) = rows' at es h
  generalize rows.take i.toNat = A at c1 s1' s2' es
  generalize rows.drop (i.toNat + 1) = B at c2 s2' es
  simp [webD, c1, c2, s1', s2', es]
  exact h
end
end G
set_option Elab.async false
set_option linter.all false
set_option maxRecDepth 100000
set_option maxHeartbeats 4000000
set_option autoImplicit false
noncomputable section
namespace G
open PySem PySem.Spec L2 VS
inductive Pv : Nat → D → Prop
  | int {n : Nat} {i : Int} : Pv (n + 1) (.int i)
  | tup {n : Nat} {ds : List D} : (∀ d ∈ ds, Pv n d) → ds.length ≤ sizeLine → Pv (n + 1) (.tup ds)
  | lst {n : Nat} {ds : List D} : (∀ d ∈ ds, Pv n d) → ds.length ≤ sizeLine → Pv (n + 1) (.lst false ds)
theorem Pv.fz : ∀ {n : Nat} {d : D}, Pv n d → VS.fz d = true
  | _, _, .int => u_fzI
  | n + 1, _, .tup h _ => by
    rw [u_fzT, fzL_all, List.all_eq_true]
    intro x hx
    exact (h x hx).fz
  | n + 1, _, .lst h _ => by
    simp
    rw [fzL_all, List.all_eq_true]
    intro x hx
    exact (h x hx).fz
theorem Pv.fzL {n : Nat} {ds : List D} (h : ∀ d ∈ ds, Pv n d) : VS.fzL ds = true := by
  rw [fzL_all, List.all_eq_true]
  exact fun x hx => (h x hx).fz
theorem zip_l40 {ds : List D} (h : fzL ds = true) : zipOf [.lst false ds, .lst false ds] = some (ds.map fun d => .tup [d, d]) := by
  rw [zip_ll h h, zipD_self]
theorem alikeV_w : ∀ {n : Nat} {d : D}, Pv n d → ∀ {Q : Fo → Prop}, Q (.ok (.bl true) [d, d]) → W (F_law_alike n [d, d]) Q
  | n + 1, _, .int, Q, h => by
    simp [F_law_alike, body_law_alike, a_law_alike, ite_app]
    exact h
  | n + 1, .tup ds, .tup hd hz, Q, h => by
    have hf := Pv.fzL hd
    simp [F_law_alike, body_law_alike, a_law_alike, ite_app, hf, zip_tt hf hf, zipD_self]
    refine W_lcAll (fun _ => .bl true) hz ?_ ?_
    · intro d hq J acc hj
      simp [(hd d hq).fz]
      refine alikeV_w (hd d hq) ?_
      simp
      exact hj
    · simp
      exact h
  | n + 1, .lst false ds, .lst hd hz, Q, h => by
    have hf := Pv.fzL hd
    simp [F_law_alike, body_law_alike, a_law_alike, ite_app, hf, zip_l40 hf]
    refine W_lcAll (fun _ => .bl true) hz ?_ ?_
    · intro d hq J acc hj
      simp [(hd d hq).fz]
      refine alikeV_w (hd d hq) ?_
      simp
      exact hj
    · simp
      exact h
theorem Pv.rD {n : Nat} {r : R3} : Pv (n + 2) (VS.rD r) := .tup (by
  intro d hd
  simp at hd
  rcases hd with rfl | rfl | rfl <;> exact .int) (le_size (by simp))
theorem Pv.web {n : Nat} {m : Int} {rows : List R3} (h : rows.length ≤ 1000) : Pv (n + 4) (webD m rows) := .tup (by
  intro d hd
  simp at hd
  rcases hd with rfl | rfl
  · exact .int
  · refine .tup (fun d hd => ?_) (le_size (by simp; omega))
    obtain ⟨r, _, rfl⟩ := List.mem_map.mp hd
    exact .rD) (le_size (by simp))
theorem Pv.told {m : Int} {x : Ko} (h : x.1.length ≤ 1000) (k : x.2.length ≤ 1000) : Pv 20 (.tup [webD m x.1, lF x.2]) := .tup (by
  intro d hd
  simp at hd
  rcases hd with rfl | rfl
  · exact .web h
  · refine .lst (fun d hd => ?_) (le_size (by simp; omega))
    obtain ⟨i, _, rfl⟩ := List.mem_map.mp hd
    exact .int) (le_size (by simp))
def shC (many w : Int) (a b : Int) : Bool := if w = 4 then true else if w = 5 then decide (b - a = 1 ∨ b - a = many - 1) else if w = 6 then decide (b = a + 1) else decide (a = 0)
structure Sh (many w : Int) (a b : Int) (rows : List R3) : Prop where
  so : rows.Pairwise lt3
  mem : ∀ r, r ∈ rows ↔ 0 ≤ r.1 ∧ r.1 < r.2.1 ∧ r.2.1 < many ∧ r.2.2 = 1 ∧ shC many w r.1 r.2.1 = true ∧ (r.1 < a ∨ (r.1 = a ∧ r.2.1 < b))
theorem Sh.nil {many w : Int} : Sh many w 0 1 [] := ⟨.nil, fun r => ⟨fun h => (by cases h), fun h => (by omega)⟩⟩
theorem Sh.row {many w a : Int} {rows : List R3} (h : Sh many w a many rows) : Sh many w (a + 1) (a + 2) rows := ⟨h.so, fun r => by
  rw [h.mem]
  constructor
  · rintro ⟨h1, h2, h3, h4, h5, h6⟩
    exact ⟨h1, h2, h3, h4, h5, by omega⟩
  · rintro ⟨h1, h2, h3, h4, h5, h6⟩
    exact ⟨h1, h2, h3, h4, h5, by omega⟩⟩
theorem Sh.skip {many w a b : Int} {rows : List R3} (h : Sh many w a b rows) (c : shC many w a b = false) : Sh many w a (b + 1) rows := ⟨h.so, fun r => by
  rw [h.mem]
  constructor
  · rintro ⟨h1, h2, h3, h4, h5, h6⟩
    exact ⟨h1, h2, h3, h4, h5, by omega⟩
  · rintro ⟨h1, h2, h3, h4, h5, h6⟩
    refine ⟨h1, h2, h3, h4, h5, ?_⟩
    by_cases e : r.1 = a ∧ r.2.1 = b
    · rw [e.1, e.2, c] at h5
      cases h5
    · omega⟩
theorem Sh.add {many w a b : Int} {rows : List R3} (h : Sh many w a b rows) (a0 : 0 ≤ a) (ab : a < b) (bm : b < many) (c : shC many w a b = true) : Sh many w a (b + 1) (rows ++ [(a, b, 1)]) := by
  refine ⟨List.pairwise_append.mpr ⟨h.so, List.pairwise_singleton _ _, fun r hr q hq => ?_⟩, fun r => ?_⟩
  · rw [List.mem_singleton] at hq
    subst hq
    have := (h.mem r).mp hr
    unfold lt3
    dsimp only
    omega
  · rw [List.mem_append, List.mem_singleton, h.mem]
    constructor
    · rintro (⟨h1, h2, h3, h4, h5, h6⟩ | rfl)
      · exact ⟨h1, h2, h3, h4, h5, by omega⟩
      · exact ⟨a0, ab, bm, rfl, c, by dsimp only; omega⟩
    · rintro ⟨h1, h2, h3, h4, h5, h6⟩
      by_cases e : r.1 = a ∧ r.2.1 = b
      · exact .inr (Prod.ext e.1 (Prod.ext e.2 h4))
      · exact .inl ⟨h1, h2, h3, h4, h5, by omega⟩
theorem Sh.wt {many w b : Int} {rows : List R3} (h : Sh many w many b rows) (m1 : 1 ≤ many) (m2 : many ≤ 60) (w4 : 4 ≤ w) (w7 : w ≤ 7) (le : rows.length ≤ 220) : Wt many rows := by
  refine ⟨⟨m1, m2, fun r hr => ?_, fun r hr => ?_, le, ?_⟩, h.so⟩
  · have := (h.mem r).mp hr
    omega
  · have := (h.mem r).mp hr
    omega
  · intro S s0 hS x x0 x1
    have key : ∀ n : Nat, (n : Int) < many → S (n : Int) := by
      intro n
      induction n with
      | zero => exact fun _ => s0
      | succ n ih =>
        intro hn
        by_cases c7 : w = 7
        · have hm : ((0 : Int), ((n + 1 : Nat) : Int), (1 : Int)) ∈ rows := (h.mem _).mpr ⟨by dsimp only; omega, by dsimp only; omega, hn, rfl, by subst c7; simp [shC], by dsimp only; omega⟩
          exact (hS _ hm).mp s0
        · have hm : ((n : Int), ((n + 1 : Nat) : Int), (1 : Int)) ∈ rows := (h.mem _).mpr ⟨by dsimp only; omega, by dsimp only; omega, hn, rfl, by
            have : w = 4 ∨ w = 5 ∨ w = 6 := by omega
            rcases this with rfl | rfl | rfl
            · simp [shC]
            · simp [shC]
              left
              omega
            · simp [shC], by dsimp only; omega⟩
          exact (hS _ hm).mp (ih (by omega))
    have := key x.toNat (by omega)
    rwa [Int.toNat_of_nonneg x0] at this
theorem shaped_w {s : Pot} {many : Int} {Q : Fo → Prop} (m1 : 1 ≤ many) (m9 : many ≤ 9) (h : ∀ rows s', Wt many rows → (∀ r ∈ rows, r.2.2 = 1) → Q (.ok (webD many rows) [potD s', .int many])) : W (F_law_shaped [potD s, .int many]) Q := by
  have hR := inR_le (show 0 ≤ many by omega) (by omega)
  simp [F_law_shaped, body_law_shaped, a_law_shaped]
  refine take_w (by omega) fun w s1 w0 w1 => ?_
  simp
  by_cases c : w < 4
  · simp [c]
    refine take_w (by omega) fun x s2 x0 x1 => ?_
    simp
    refine web_w m1 (by omega) x0 (by omega) (by omega) (by omega) fun rows s3 wt pl => ?_
    simp
    exact h rows s3 wt (pl rfl)
  · simp [c, hR]
    refine W_forN (n := many.toNat) (fun k ρ => ∃ (rows : List R3) (a b : D), ρ = [potD s1, .int many, .int w, .lst true (rows.map rD), a, b] ∧ Sh many w k (k + 1) rows ∧ rows.length ≤ 9 * k) ⟨[], .unk, .unk, rfl, ?_, by simp⟩ ?_ ?_
    · exact Sh.nil
    · rintro k ρ hk ⟨rows, a, b, rfl, sh, le⟩ J hJ
      have hR2 := inR_le (show 0 ≤ (k : Int) + 1 by omega) (by omega)
      simp [hR2, hR]
      refine W_forN (lo := (k : Int) + 1) (n := (many - ((k : Int) + 1)).toNat) (fun j ρ => ∃ (rows : List R3) (b : D), ρ = [potD s1, .int many, .int w, .lst true (rows.map rD), .int k, b] ∧ Sh many w k (k + 1 + j) rows ∧ rows.length ≤ 9 * k + j) ⟨rows, _, rfl, by simpa using sh, by omega⟩ ?_ ?_
      · rintro j ρ hj ⟨rows, b, rfl, sh, le⟩ J2 hJ2
        have sz : rows.length < sizeLine := lt_size (by omega)
        have fin1 : shC many w k (k + 1 + j) = true → J2 [potD s1, .int many, .int w, .lst true (rows.map rD ++ [.tup [.int k, .int (k + 1 + j), .int 1]]), .int k, .int (k + 1 + j)] := fun c => hJ2 _ ⟨rows ++ [((k : Int), (k : Int) + 1 + j, 1)], _, by rw [List.map_append]; rfl, by
          have := sh.add (by omega) (by omega) (by omega) c
          rw [show (k : Int) + 1 + ((j + 1 : Nat) : Int) = k + 1 + j + 1 by omega]
          exact this, by rw [List.length_append, List.length_singleton]; omega⟩
        have fin0 : shC many w k (k + 1 + j) = false → J2 [potD s1, .int many, .int w, .lst true (rows.map rD), .int k, .int (k + 1 + j)] := fun c => hJ2 _ ⟨rows, _, rfl, by
          have := sh.skip c
          rw [show (k : Int) + 1 + ((j + 1 : Nat) : Int) = k + 1 + j + 1 by omega]
          exact this, by omega⟩
        have a4 : ∀ x y z u : D, atI [x, y, z, u] 0 = some x ∧ atI [x, y, z, u] 1 = some y ∧ atI [x, y, z, u] 2 = some z ∧ atI [x, y, z, u] 3 = some u := fun _ _ _ _ => ⟨rfl, rfl, rfl, rfl⟩
        have four : (4 : Nat) ≤ sizeLine := le_size (by omega)
        have two : (2 : Nat) ≤ sizeLine := le_size (by omega)
        generalize hb : (k : Int) + 1 + j = bb at *
        have hw : w = 4 ∨ w = 5 ∨ w = 6 ∨ w = 7 := by omega
        rcases hw with rfl | rfl | rfl | rfl
        · simp [four, two, a4, sz, ite_app]
          exact fin1 (by simp [shC])
        · simp [four, two, a4, sz, ite_app]
          by_cases cc : bb - (k : Int) = 1 ∨ bb - (k : Int) = many - 1
          · rw [if_pos cc]
            simp [sz]
            exact fin1 (by simp [shC, cc])
          · rw [if_neg cc]
            simp
            exact fin0 (by simp [shC, cc])
        · simp [four, two, a4, sz, ite_app]
          by_cases cc : bb = (k : Int) + 1
          · rw [if_pos cc]
            simp [sz]
            exact fin1 (by simp [shC, cc])
          · rw [if_neg cc]
            simp
            exact fin0 (by simp [shC, cc])
        · simp [four, two, a4, sz, ite_app]
          by_cases cc : k = 0
          · rw [if_pos cc]
            simp [sz]
            exact fin1 (by simp [shC, cc])
          · rw [if_neg cc]
            simp
            exact fin0 (by simp [shC, cc])
      · rintro ρ ⟨rows, b, rfl, sh, le⟩
        refine hJ _ ⟨rows, _, _, rfl, ?_, by omega⟩
        rw [show (k : Int) + 1 + (((many - ((k : Int) + 1)).toNat : Nat) : Int) = many by omega] at sh
        have := sh.row
        rw [show ((k + 1 : Nat) : Int) + 1 = (k : Int) + 2 by omega, show ((k + 1 : Nat) : Int) = (k : Int) + 1 by omega]
        exact this
    · rintro ρ ⟨rows, a, b, rfl, sh, le⟩
      simp
      rw [show ((many.toNat : Nat) : Int) = many by omega] at sh
      exact h rows s1 (sh.wt m1 (by omega) (by omega) (by omega) (by omega)) fun r hr => ((sh.mem r).mp hr).2.2.2.1
end G
set_option Elab.async false
set_option linter.all false
set_option maxRecDepth 100000
set_option maxHeartbeats 4000000
set_option autoImplicit false
noncomputable section
namespace G
open PySem PySem.Spec L2 VS
theorem good : Always F_law := by
  intro ns0 hns
  have key : W (F_law [.scr (ns0.map D.int)]) (fun r => ∃ as, r = .ok (.bl true) as) := by
    have hR := inR_le (show 0 ≤ 1 + min 2 (ns0.length : Int) by omega) (by omega)
    simp [F_law, body_law, a_law]
    refine draws2_w (by omega) (by omega) hns fun s => ?_
    simp [hR]
    refine W_forN (fun k ρ => ∃ (s : Pot) (a b c d e f : D), ρ = [.scr (ns0.map D.int), potD s, a, b, c, d, e, f]) ⟨s, _, _, _, _, _, _, rfl⟩ ?_ ?_
    · rintro k ρ hk ⟨s, a, b, c, d, e, f, rfl⟩ J hJ
      simp
      refine take_w (by omega) fun x s1 x0 x1 => ?_
      simp
      refine shaped_w (by omega) (by omega) fun rows s2 w pl => ?_
      have fw : fz (webD (1 + x) rows) = true := by simp
      have frw : freeze (webD (1 + x) rows) = webD (1 + x) rows := freeze_fz _ fw
      have le := w.le
      simp [fw, frw]
      refine law_least_w w (by omega) fun y I => ?_
      simp [fw, frw]
      refine copied_w (by omega) ?_
      simp [fw, frw]
      refine least_w w (by omega) pl fun z I2 => ?_
      have ez := I2.uniq I
      subst ez
      have yl : z.1.length ≤ 1000 := by rw [I.eq, rnR_len]; omega
      have ol : z.2.length ≤ 1000 := by
        have := I.pm.length_eq
        rw [len_rangeI] at this
        omega
      have pv := @Pv.told (1 + x) z yl ol
      have ft : fz (.tup [webD (1 + x) z.1, lF z.2]) = true := pv.fz
      have frl : ∀ r : List Int, freeze (lT r) = lF r := fun r => by simp [lT, lF]
      have fzl : ∀ r : List Int, fz (lF r) = true := fun r => by simp [lF]
      have frl2 : ∀ r : List Int, freeze (lF r) = lF r := fun r => by simp [lF]
      simp [frl, fzl, frl2, fw, frw, lendEnv, hid]
      refine alikeV_w pv ?_
      have gp : ∀ (a : D) (r : List Int), getP [1] (.tup [a, lT r]) = some (r.map D.int) := fun a r => rfl
      have gr : ∀ xs : List D, gRev xs [] = some (.non, xs.reverse) := fun _ => rfl
      have sp : ∀ (a : D) (r ys : List D), setP [1] (.tup [a, .lst true r]) (.lst true ys) = .tup [a, .lst true ys] := fun _ _ _ => rfl
      have gp2 : ∀ (a : D) (ys : List D), getP [1] (.tup [a, .lst true ys]) = some ys := fun a r => rfl
      have zsz : z.2.length < sizeLine := lt_size (by omega)
      have rsz : (z.2.map D.int).reverse.length < sizeLine := by simpa using zsz
      have sp1 : ∀ ys : List D, setP [1] (.tup [webD (1 + x) z.1, lT z.2]) (.lst true ys) = .tup [webD (1 + x) z.1, .lst true ys] := fun _ => rfl
      have al : ∀ ys : List D, ys.length < sizeLine → gApp ys [.int 0] = some (.non, ys ++ [.int 0]) := fun ys h => by
        simp [h]
      simp [ite_app, fw, frw, fzl, gp]
      generalize hR : (z.2.map D.int) = Rz at *
      simp [gr, sp1, gp2, sp, zsz]
      refine ⟨by rw [← hR]; simpa using zsz, least_w w (by omega) pl fun z3 I3 => ?_⟩
      have ez := I3.uniq I
      subst ez
      clear gr sp gp2 sp1 al gp
      simp [frl, fzl, frl2, fw, frw]
      refine alikeV_w pv ?_
      simp
      refine take_w (by omega) fun y s3 y0 y1 => ?_
      simp
      refine shaped_w (by omega) (by omega) fun rowsG s4 wG plG => ?_
      have fwG : fz (webD (7 + y) rowsG) = true := by simp
      have leG := wG.le
      simp [fwG]
      refine refused_tm_w (by omega) plG (by omega) ?_
      simp [fwG]
      refine longer_w wG (by omega) fun rows3 s5 w3 np3 => ?_
      have fw3 : fz (webD (7 + y) rows3) = true := by simp
      have le3 := w3.le
      simp [fw3]
      refine refused_np_w (by omega) np3 ?_
      simp
      by_cases c1 : 1 < 1 + x
      · rw [if_pos c1]
        simp [fw]
        refine longer_w w c1 fun rows4 s6 w4 np4 => ?_
        have fw4 : fz (webD (1 + x) rows4) = true := by simp
        have le4 := w4.le
        simp [fw4]
        refine refused_np_w (by omega) np4 ?_
        simp
        exact hJ _ ⟨_, _, _, _, _, _, _, rfl⟩
      · rw [if_neg c1]
        simp
        exact hJ _ ⟨_, _, _, _, _, _, _, rfl⟩
    · rintro ρ ⟨s, a, b, c, d, e, f, rfl⟩
      simp
  obtain ⟨r, e, as, rfl⟩ := key
  exact ⟨as, e⟩
end G
set_option Elab.async false
set_option linter.all false
set_option maxRecDepth 100000
set_option maxHeartbeats 4000000
namespace G
open PySem PySem.Spec PyProof.Rows L2 VS
theorem all_mk {P : Program} {w : World} {K : PySem.W.Frag} {h : Heap} {mg : Str → Option Value} {fa : Addr} (X : K.In h) (G : h.Ns mainGlobals mg) (hfa : mg "law" = some (.ref fa)) (good : Always F_law)
    {f_look_at_place : Addr} {oc_look_at_place kV_look_at_place dc_look_at_place pm_look_at_place cd_look_at_place ct_look_at_place : Value} {od_look_at_place an_look_at_place : Option Addr} {sl_look_at_place : Array (Option Value)} (a_look_at_place : PySem.W.nsIn K mainGlobals "look_at_place" = some (some (.ref f_look_at_place))) (l_look_at_place : K.lookup f_look_at_place = some ⟨oc_look_at_place, od_look_at_place, .func (PySem.W.fnOf "look_at_place" "look_at_place" (defArgs s_look_at_place) (defBody s_look_at_place) (defScope s_look_at_place) .none kV_look_at_place dc_look_at_place pm_look_at_place an_look_at_place cd_look_at_place ct_look_at_place), sl_look_at_place⟩) (c_look_at_place : PySem.W.codeIn K cd_look_at_place "look_at_place" = true) (k_look_at_place : PySem.W.keepIn K (.ref f_look_at_place) = true)
    {f_neighbours_of : Addr} {oc_neighbours_of kV_neighbours_of dc_neighbours_of pm_neighbours_of cd_neighbours_of ct_neighbours_of : Value} {od_neighbours_of an_neighbours_of : Option Addr} {sl_neighbours_of : Array (Option Value)} (a_neighbours_of : PySem.W.nsIn K mainGlobals "neighbours_of" = some (some (.ref f_neighbours_of))) (l_neighbours_of : K.lookup f_neighbours_of = some ⟨oc_neighbours_of, od_neighbours_of, .func (PySem.W.fnOf "neighbours_of" "neighbours_of" (defArgs s_neighbours_of) (defBody s_neighbours_of) (defScope s_neighbours_of) .none kV_neighbours_of dc_neighbours_of pm_neighbours_of an_neighbours_of cd_neighbours_of ct_neighbours_of), sl_neighbours_of⟩) (c_neighbours_of : PySem.W.codeIn K cd_neighbours_of "neighbours_of" = true) (k_neighbours_of : PySem.W.keepIn K (.ref f_neighbours_of) = true)
    {f_is_plain : Addr} {oc_is_plain kV_is_plain dc_is_plain pm_is_plain cd_is_plain ct_is_plain : Value} {od_is_plain an_is_plain : Option Addr} {sl_is_plain : Array (Option Value)} (a_is_plain : PySem.W.nsIn K mainGlobals "is_plain" = some (some (.ref f_is_plain))) (l_is_plain : K.lookup f_is_plain = some ⟨oc_is_plain, od_is_plain, .func (PySem.W.fnOf "is_plain" "is_plain" (defArgs s_is_plain) (defBody s_is_plain) (defScope s_is_plain) .none kV_is_plain dc_is_plain pm_is_plain an_is_plain cd_is_plain ct_is_plain), sl_is_plain⟩) (c_is_plain : PySem.W.codeIn K cd_is_plain "is_plain" = true) (k_is_plain : PySem.W.keepIn K (.ref f_is_plain) = true)
    {f_renamed_web : Addr} {oc_renamed_web kV_renamed_web dc_renamed_web pm_renamed_web cd_renamed_web ct_renamed_web : Value} {od_renamed_web an_renamed_web : Option Addr} {sl_renamed_web : Array (Option Value)} (a_renamed_web : PySem.W.nsIn K mainGlobals "renamed_web" = some (some (.ref f_renamed_web))) (l_renamed_web : K.lookup f_renamed_web = some ⟨oc_renamed_web, od_renamed_web, .func (PySem.W.fnOf "renamed_web" "renamed_web" (defArgs s_renamed_web) (defBody s_renamed_web) (defScope s_renamed_web) .none kV_renamed_web dc_renamed_web pm_renamed_web an_renamed_web cd_renamed_web ct_renamed_web), sl_renamed_web⟩) (c_renamed_web : PySem.W.codeIn K cd_renamed_web "renamed_web" = true) (k_renamed_web : PySem.W.keepIn K (.ref f_renamed_web) = true)
    {f_all_rows : Addr} {oc_all_rows kV_all_rows dc_all_rows pm_all_rows cd_all_rows ct_all_rows : Value} {od_all_rows an_all_rows : Option Addr} {sl_all_rows : Array (Option Value)} (a_all_rows : PySem.W.nsIn K mainGlobals "all_rows" = some (some (.ref f_all_rows))) (l_all_rows : K.lookup f_all_rows = some ⟨oc_all_rows, od_all_rows, .func (PySem.W.fnOf "all_rows" "all_rows" (defArgs s_all_rows) (defBody s_all_rows) (defScope s_all_rows) .none kV_all_rows dc_all_rows pm_all_rows an_all_rows cd_all_rows ct_all_rows), sl_all_rows⟩) (c_all_rows : PySem.W.codeIn K cd_all_rows "all_rows" = true) (k_all_rows : PySem.W.keepIn K (.ref f_all_rows) = true)
    {f_order_of : Addr} {oc_order_of kV_order_of dc_order_of pm_order_of cd_order_of ct_order_of : Value} {od_order_of an_order_of : Option Addr} {sl_order_of : Array (Option Value)} (a_order_of : PySem.W.nsIn K mainGlobals "order_of" = some (some (.ref f_order_of))) (l_order_of : K.lookup f_order_of = some ⟨oc_order_of, od_order_of, .func (PySem.W.fnOf "order_of" "order_of" (defArgs s_order_of) (defBody s_order_of) (defScope s_order_of) .none kV_order_of dc_order_of pm_order_of an_order_of cd_order_of ct_order_of), sl_order_of⟩) (c_order_of : PySem.W.codeIn K cd_order_of "order_of" = true) (k_order_of : PySem.W.keepIn K (.ref f_order_of) = true)
    {f_leading_orders : Addr} {oc_leading_orders kV_leading_orders dc_leading_orders pm_leading_orders cd_leading_orders ct_leading_orders : Value} {od_leading_orders an_leading_orders : Option Addr} {sl_leading_orders : Array (Option Value)} (a_leading_orders : PySem.W.nsIn K mainGlobals "leading_orders" = some (some (.ref f_leading_orders))) (l_leading_orders : K.lookup f_leading_orders = some ⟨oc_leading_orders, od_leading_orders, .func (PySem.W.fnOf "leading_orders" "leading_orders" (defArgs s_leading_orders) (defBody s_leading_orders) (defScope s_leading_orders) .none kV_leading_orders dc_leading_orders pm_leading_orders an_leading_orders cd_leading_orders ct_leading_orders), sl_leading_orders⟩) (c_leading_orders : PySem.W.codeIn K cd_leading_orders "leading_orders" = true) (k_leading_orders : PySem.W.keepIn K (.ref f_leading_orders) = true)
    {f_least_web : Addr} {oc_least_web kV_least_web dc_least_web pm_least_web cd_least_web ct_least_web : Value} {od_least_web an_least_web : Option Addr} {sl_least_web : Array (Option Value)} (a_least_web : PySem.W.nsIn K mainGlobals "least_web" = some (some (.ref f_least_web))) (l_least_web : K.lookup f_least_web = some ⟨oc_least_web, od_least_web, .func (PySem.W.fnOf "least_web" "least_web" (defArgs s_least_web) (defBody s_least_web) (defScope s_least_web) .none kV_least_web dc_least_web pm_least_web an_least_web cd_least_web ct_least_web), sl_least_web⟩) (c_least_web : PySem.W.codeIn K cd_least_web "least_web" = true) (k_least_web : PySem.W.keepIn K (.ref f_least_web) = true)
    {f_law_draws : Addr} {oc_law_draws kV_law_draws dc_law_draws pm_law_draws cd_law_draws ct_law_draws : Value} {od_law_draws an_law_draws : Option Addr} {sl_law_draws : Array (Option Value)} (a_law_draws : PySem.W.nsIn K mainGlobals "_law_draws" = some (some (.ref f_law_draws))) (l_law_draws : K.lookup f_law_draws = some ⟨oc_law_draws, od_law_draws, .func (PySem.W.fnOf "_law_draws" "_law_draws" (defArgs s_law_draws) (defBody s_law_draws) (defScope s_law_draws) .none kV_law_draws dc_law_draws pm_law_draws an_law_draws cd_law_draws ct_law_draws), sl_law_draws⟩) (c_law_draws : PySem.W.codeIn K cd_law_draws "_law_draws" = true) (k_law_draws : PySem.W.keepIn K (.ref f_law_draws) = true)
    {f_law_take : Addr} {oc_law_take kV_law_take dc_law_take pm_law_take cd_law_take ct_law_take : Value} {od_law_take an_law_take : Option Addr} {sl_law_take : Array (Option Value)} (a_law_take : PySem.W.nsIn K mainGlobals "_law_take" = some (some (.ref f_law_take))) (l_law_take : K.lookup f_law_take = some ⟨oc_law_take, od_law_take, .func (PySem.W.fnOf "_law_take" "_law_take" (defArgs s_law_take) (defBody s_law_take) (defScope s_law_take) .none kV_law_take dc_law_take pm_law_take an_law_take cd_law_take ct_law_take), sl_law_take⟩) (c_law_take : PySem.W.codeIn K cd_law_take "_law_take" = true) (k_law_take : PySem.W.keepIn K (.ref f_law_take) = true)
    {f_law_length : Addr} {oc_law_length kV_law_length dc_law_length pm_law_length cd_law_length ct_law_length : Value} {od_law_length an_law_length : Option Addr} {sl_law_length : Array (Option Value)} (a_law_length : PySem.W.nsIn K mainGlobals "_law_length" = some (some (.ref f_law_length))) (l_law_length : K.lookup f_law_length = some ⟨oc_law_length, od_law_length, .func (PySem.W.fnOf "_law_length" "_law_length" (defArgs s_law_length) (defBody s_law_length) (defScope s_law_length) .none kV_law_length dc_law_length pm_law_length an_law_length cd_law_length ct_law_length), sl_law_length⟩) (c_law_length : PySem.W.codeIn K cd_law_length "_law_length" = true) (k_law_length : PySem.W.keepIn K (.ref f_law_length) = true)
    {f_law_web : Addr} {oc_law_web kV_law_web dc_law_web pm_law_web cd_law_web ct_law_web : Value} {od_law_web an_law_web : Option Addr} {sl_law_web : Array (Option Value)} (a_law_web : PySem.W.nsIn K mainGlobals "_law_web" = some (some (.ref f_law_web))) (l_law_web : K.lookup f_law_web = some ⟨oc_law_web, od_law_web, .func (PySem.W.fnOf "_law_web" "_law_web" (defArgs s_law_web) (defBody s_law_web) (defScope s_law_web) .none kV_law_web dc_law_web pm_law_web an_law_web cd_law_web ct_law_web), sl_law_web⟩) (c_law_web : PySem.W.codeIn K cd_law_web "_law_web" = true) (k_law_web : PySem.W.keepIn K (.ref f_law_web) = true)
    {f_law_renamed : Addr} {oc_law_renamed kV_law_renamed dc_law_renamed pm_law_renamed cd_law_renamed ct_law_renamed : Value} {od_law_renamed an_law_renamed : Option Addr} {sl_law_renamed : Array (Option Value)} (a_law_renamed : PySem.W.nsIn K mainGlobals "_law_renamed" = some (some (.ref f_law_renamed))) (l_law_renamed : K.lookup f_law_renamed = some ⟨oc_law_renamed, od_law_renamed, .func (PySem.W.fnOf "_law_renamed" "_law_renamed" (defArgs s_law_renamed) (defBody s_law_renamed) (defScope s_law_renamed) .none kV_law_renamed dc_law_renamed pm_law_renamed an_law_renamed cd_law_renamed ct_law_renamed), sl_law_renamed⟩) (c_law_renamed : PySem.W.codeIn K cd_law_renamed "_law_renamed" = true) (k_law_renamed : PySem.W.keepIn K (.ref f_law_renamed) = true)
    {f_law_orders : Addr} {oc_law_orders kV_law_orders dc_law_orders pm_law_orders cd_law_orders ct_law_orders : Value} {od_law_orders an_law_orders : Option Addr} {sl_law_orders : Array (Option Value)} (a_law_orders : PySem.W.nsIn K mainGlobals "_law_orders" = some (some (.ref f_law_orders))) (l_law_orders : K.lookup f_law_orders = some ⟨oc_law_orders, od_law_orders, .func (PySem.W.fnOf "_law_orders" "_law_orders" (defArgs s_law_orders) (defBody s_law_orders) (defScope s_law_orders) .none kV_law_orders dc_law_orders pm_law_orders an_law_orders cd_law_orders ct_law_orders), sl_law_orders⟩) (c_law_orders : PySem.W.codeIn K cd_law_orders "_law_orders" = true) (k_law_orders : PySem.W.keepIn K (.ref f_law_orders) = true)
    {f_law_alike : Addr} {oc_law_alike kV_law_alike dc_law_alike pm_law_alike cd_law_alike ct_law_alike : Value} {od_law_alike an_law_alike : Option Addr} {sl_law_alike : Array (Option Value)} (a_law_alike : PySem.W.nsIn K mainGlobals "_law_alike" = some (some (.ref f_law_alike))) (l_law_alike : K.lookup f_law_alike = some ⟨oc_law_alike, od_law_alike, .func (PySem.W.fnOf "_law_alike" "_law_alike" (defArgs s_law_alike) (defBody s_law_alike) (defScope s_law_alike) .none kV_law_alike dc_law_alike pm_law_alike an_law_alike cd_law_alike ct_law_alike), sl_law_alike⟩) (c_law_alike : PySem.W.codeIn K cd_law_alike "_law_alike" = true) (k_law_alike : PySem.W.keepIn K (.ref f_law_alike) = true)
    {f_law_copied : Addr} {oc_law_copied kV_law_copied dc_law_copied pm_law_copied cd_law_copied ct_law_copied : Value} {od_law_copied an_law_copied : Option Addr} {sl_law_copied : Array (Option Value)} (a_law_copied : PySem.W.nsIn K mainGlobals "_law_copied" = some (some (.ref f_law_copied))) (l_law_copied : K.lookup f_law_copied = some ⟨oc_law_copied, od_law_copied, .func (PySem.W.fnOf "_law_copied" "_law_copied" (defArgs s_law_copied) (defBody s_law_copied) (defScope s_law_copied) .none kV_law_copied dc_law_copied pm_law_copied an_law_copied cd_law_copied ct_law_copied), sl_law_copied⟩) (c_law_copied : PySem.W.codeIn K cd_law_copied "_law_copied" = true) (k_law_copied : PySem.W.keepIn K (.ref f_law_copied) = true)
    {f_law_shaped : Addr} {oc_law_shaped kV_law_shaped dc_law_shaped pm_law_shaped cd_law_shaped ct_law_shaped : Value} {od_law_shaped an_law_shaped : Option Addr} {sl_law_shaped : Array (Option Value)} (a_law_shaped : PySem.W.nsIn K mainGlobals "_law_shaped" = some (some (.ref f_law_shaped))) (l_law_shaped : K.lookup f_law_shaped = some ⟨oc_law_shaped, od_law_shaped, .func (PySem.W.fnOf "_law_shaped" "_law_shaped" (defArgs s_law_shaped) (defBody s_law_shaped) (defScope s_law_shaped) .none kV_law_shaped dc_law_shaped pm_law_shaped an_law_shaped cd_law_shaped ct_law_shaped), sl_law_shaped⟩) (c_law_shaped : PySem.W.codeIn K cd_law_shaped "_law_shaped" = true) (k_law_shaped : PySem.W.keepIn K (.ref f_law_shaped) = true)
    {f_law_least : Addr} {oc_law_least kV_law_least dc_law_least pm_law_least cd_law_least ct_law_least : Value} {od_law_least an_law_least : Option Addr} {sl_law_least : Array (Option Value)} (a_law_least : PySem.W.nsIn K mainGlobals "_law_least" = some (some (.ref f_law_least))) (l_law_least : K.lookup f_law_least = some ⟨oc_law_least, od_law_least, .func (PySem.W.fnOf "_law_least" "_law_least" (defArgs s_law_least) (defBody s_law_least) (defScope s_law_least) .none kV_law_least dc_law_least pm_law_least an_law_least cd_law_least ct_law_least), sl_law_least⟩) (c_law_least : PySem.W.codeIn K cd_law_least "_law_least" = true) (k_law_least : PySem.W.keepIn K (.ref f_law_least) = true)
    {f_law_refused : Addr} {oc_law_refused kV_law_refused dc_law_refused pm_law_refused cd_law_refused ct_law_refused : Value} {od_law_refused an_law_refused : Option Addr} {sl_law_refused : Array (Option Value)} (a_law_refused : PySem.W.nsIn K mainGlobals "_law_refused" = some (some (.ref f_law_refused))) (l_law_refused : K.lookup f_law_refused = some ⟨oc_law_refused, od_law_refused, .func (PySem.W.fnOf "_law_refused" "_law_refused" (defArgs s_law_refused) (defBody s_law_refused) (defScope s_law_refused) .none kV_law_refused dc_law_refused pm_law_refused an_law_refused cd_law_refused ct_law_refused), sl_law_refused⟩) (c_law_refused : PySem.W.codeIn K cd_law_refused "_law_refused" = true) (k_law_refused : PySem.W.keepIn K (.ref f_law_refused) = true)
    {f_law_longer : Addr} {oc_law_longer kV_law_longer dc_law_longer pm_law_longer cd_law_longer ct_law_longer : Value} {od_law_longer an_law_longer : Option Addr} {sl_law_longer : Array (Option Value)} (a_law_longer : PySem.W.nsIn K mainGlobals "_law_longer" = some (some (.ref f_law_longer))) (l_law_longer : K.lookup f_law_longer = some ⟨oc_law_longer, od_law_longer, .func (PySem.W.fnOf "_law_longer" "_law_longer" (defArgs s_law_longer) (defBody s_law_longer) (defScope s_law_longer) .none kV_law_longer dc_law_longer pm_law_longer an_law_longer cd_law_longer ct_law_longer), sl_law_longer⟩) (c_law_longer : PySem.W.codeIn K cd_law_longer "_law_longer" = true) (k_law_longer : PySem.W.keepIn K (.ref f_law_longer) = true)
    {f_law : Addr} {oc_law kV_law dc_law pm_law cd_law ct_law : Value} {od_law an_law : Option Addr} {sl_law : Array (Option Value)} (a_law : PySem.W.nsIn K mainGlobals "law" = some (some (.ref f_law))) (l_law : K.lookup f_law = some ⟨oc_law, od_law, .func (PySem.W.fnOf "law" "law" (defArgs s_law) (defBody s_law) (defScope s_law) .none kV_law dc_law pm_law an_law cd_law ct_law), sl_law⟩) (c_law : PySem.W.codeIn K cd_law "law" = true) (k_law : PySem.W.keepIn K (.ref f_law) = true)
    {t_MOST_PLACES : Tok} (z_MOST_PLACES : PySem.W.nsIn K mainGlobals "MOST_PLACES" = some (some (.int (6) t_MOST_PLACES)))
    (z_ValueError : PySem.W.nsIn K mainGlobals "ValueError" = some none)
    (z_abs : PySem.W.nsIn K mainGlobals "abs" = some none)
    (z_all : PySem.W.nsIn K mainGlobals "all" = some none)
    (z_bool : PySem.W.nsIn K mainGlobals "bool" = some none)
    (z_enumerate : PySem.W.nsIn K mainGlobals "enumerate" = some none)
    (z_int : PySem.W.nsIn K mainGlobals "int" = some none)
    (z_isinstance : PySem.W.nsIn K mainGlobals "isinstance" = some none)
    (z_len : PySem.W.nsIn K mainGlobals "len" = some none)
    (z_list : PySem.W.nsIn K mainGlobals "list" = some none)
    (z_max : PySem.W.nsIn K mainGlobals "max" = some none)
    (z_min : PySem.W.nsIn K mainGlobals "min" = some none)
    (z_range : PySem.W.nsIn K mainGlobals "range" = some none)
    (z_sorted : PySem.W.nsIn K mainGlobals "sorted" = some none)
    (z_sum : PySem.W.nsIn K mainGlobals "sum" = some none)
    (z_tuple : PySem.W.nsIn K mainGlobals "tuple" = some none)
    (z_zip : PySem.W.nsIn K mainGlobals "zip" = some none)
    {K_Apart : Addr} (g_Apart : PySem.W.nsIn K mainGlobals "Apart" = some (some (.ref K_Apart)))
    {K_BadLengths : Addr} (g_BadLengths : PySem.W.nsIn K mainGlobals "BadLengths" = some (some (.ref K_BadLengths)))
    {K_BadWeb : Addr} (g_BadWeb : PySem.W.nsIn K mainGlobals "BadWeb" = some (some (.ref K_BadWeb)))
    {K_LoneError : Addr} (g_LoneError : PySem.W.nsIn K mainGlobals "LoneError" = some (some (.ref K_LoneError)))
    {K_NoChoice : Addr} (g_NoChoice : PySem.W.nsIn K mainGlobals "NoChoice" = some (some (.ref K_NoChoice)))
    {K_NoPlace : Addr} (g_NoPlace : PySem.W.nsIn K mainGlobals "NoPlace" = some (some (.ref K_NoPlace)))
    {K_NoRow : Addr} (g_NoRow : PySem.W.nsIn K mainGlobals "NoRow" = some (some (.ref K_NoRow)))
    {K_NoSide : Addr} (g_NoSide : PySem.W.nsIn K mainGlobals "NoSide" = some (some (.ref K_NoSide)))
    {K_NoText : Addr} (g_NoText : PySem.W.nsIn K mainGlobals "NoText" = some (some (.ref K_NoText)))
    {K_NoTie : Addr} (g_NoTie : PySem.W.nsIn K mainGlobals "NoTie" = some (some (.ref K_NoTie)))
    {K_NoWay : Addr} (g_NoWay : PySem.W.nsIn K mainGlobals "NoWay" = some (some (.ref K_NoWay)))
    {K_NotLone : Addr} (g_NotLone : PySem.W.nsIn K mainGlobals "NotLone" = some (some (.ref K_NotLone)))
    {K_NotPlain : Addr} (g_NotPlain : PySem.W.nsIn K mainGlobals "NotPlain" = some (some (.ref K_NotPlain)))
    {K_NothingDone : Addr} (g_NothingDone : PySem.W.nsIn K mainGlobals "NothingDone" = some (some (.ref K_NothingDone)))
    {K_Tied : Addr} (g_Tied : PySem.W.nsIn K mainGlobals "Tied" = some (some (.ref K_Tied)))
    {K_TooMany : Addr} (g_TooMany : PySem.W.nsIn K mainGlobals "TooMany" = some (some (.ref K_TooMany)))
    (hn : PySem.W.specialIn K (.builtin "object.__class__") "__get__" = some (some (.builtin "getset_descriptor.__get__"))) (ht : PySem.W.takesIn K (.builtin "object.__class__") = some true)
    (x_NoPlace : PySem.W.excIn K K_NoPlace [.type "ValueError", .type "Exception", .type "BaseException", .type "object"] "ValueError.__new__" = true)
    (x_NotPlain : PySem.W.excIn K K_NotPlain [.type "ValueError", .type "Exception", .type "BaseException", .type "object"] "ValueError.__new__" = true)
    (x_TooMany : PySem.W.excIn K K_TooMany [.type "ValueError", .type "Exception", .type "BaseException", .type "object"] "ValueError.__new__" = true)
    (kp_NoPlace : PySem.W.keepIn K (.ref K_NoPlace) = true) (sb_NoPlace : PySem.W.subIn K (.ref K_NoPlace) (.type "BaseException") = some true) (ty_NoPlace : PySem.W.typeIn K (.ref K_NoPlace) = some (.type "type"))
    (eg_NoPlace : PySem.W.findIn K (.ref K_NoPlace) "__getattribute__" = some (some (.builtin "BaseException.__getattribute__"))) (ek_NoPlace : PySem.W.findIn K (.ref K_NoPlace) "__getattr__" = some none) (ed_NoPlace : PySem.W.hasDictIn K K_NoPlace = true) (ea_NoPlace : PySem.W.findIn K (.ref K_NoPlace) "__class__" = some (some (.builtin "object.__class__"))) (em_NoPlace : PySem.W.mroIn K K_NoPlace (.type "object") = some true)
    (kp_NotPlain : PySem.W.keepIn K (.ref K_NotPlain) = true) (sb_NotPlain : PySem.W.subIn K (.ref K_NotPlain) (.type "BaseException") = some true) (ty_NotPlain : PySem.W.typeIn K (.ref K_NotPlain) = some (.type "type"))
    (eg_NotPlain : PySem.W.findIn K (.ref K_NotPlain) "__getattribute__" = some (some (.builtin "BaseException.__getattribute__"))) (ek_NotPlain : PySem.W.findIn K (.ref K_NotPlain) "__getattr__" = some none) (ed_NotPlain : PySem.W.hasDictIn K K_NotPlain = true) (ea_NotPlain : PySem.W.findIn K (.ref K_NotPlain) "__class__" = some (some (.builtin "object.__class__"))) (em_NotPlain : PySem.W.mroIn K K_NotPlain (.type "object") = some true)
    (kp_TooMany : PySem.W.keepIn K (.ref K_TooMany) = true) (sb_TooMany : PySem.W.subIn K (.ref K_TooMany) (.type "BaseException") = some true) (ty_TooMany : PySem.W.typeIn K (.ref K_TooMany) = some (.type "type"))
    (eg_TooMany : PySem.W.findIn K (.ref K_TooMany) "__getattribute__" = some (some (.builtin "BaseException.__getattribute__"))) (ek_TooMany : PySem.W.findIn K (.ref K_TooMany) "__getattr__" = some none) (ed_TooMany : PySem.W.hasDictIn K K_TooMany = true) (ea_TooMany : PySem.W.findIn K (.ref K_TooMany) "__class__" = some (some (.builtin "object.__class__"))) (em_TooMany : PySem.W.mroIn K K_TooMany (.type "object") = some true)
    (dt_Apart : PySem.W.hasDictIn K K_Apart = true) (tt_Apart : PySem.W.typeIn K (.ref K_Apart) = some (.type "type"))
    (dt_BadLengths : PySem.W.hasDictIn K K_BadLengths = true) (tt_BadLengths : PySem.W.typeIn K (.ref K_BadLengths) = some (.type "type"))
    (dt_BadWeb : PySem.W.hasDictIn K K_BadWeb = true) (tt_BadWeb : PySem.W.typeIn K (.ref K_BadWeb) = some (.type "type"))
    (dt_LoneError : PySem.W.hasDictIn K K_LoneError = true) (tt_LoneError : PySem.W.typeIn K (.ref K_LoneError) = some (.type "type"))
    (dt_NoChoice : PySem.W.hasDictIn K K_NoChoice = true) (tt_NoChoice : PySem.W.typeIn K (.ref K_NoChoice) = some (.type "type"))
    (dt_NoPlace : PySem.W.hasDictIn K K_NoPlace = true) (tt_NoPlace : PySem.W.typeIn K (.ref K_NoPlace) = some (.type "type"))
    (dt_NoRow : PySem.W.hasDictIn K K_NoRow = true) (tt_NoRow : PySem.W.typeIn K (.ref K_NoRow) = some (.type "type"))
    (dt_NoSide : PySem.W.hasDictIn K K_NoSide = true) (tt_NoSide : PySem.W.typeIn K (.ref K_NoSide) = some (.type "type"))
    (dt_NoText : PySem.W.hasDictIn K K_NoText = true) (tt_NoText : PySem.W.typeIn K (.ref K_NoText) = some (.type "type"))
    (dt_NoTie : PySem.W.hasDictIn K K_NoTie = true) (tt_NoTie : PySem.W.typeIn K (.ref K_NoTie) = some (.type "type"))
    (dt_NoWay : PySem.W.hasDictIn K K_NoWay = true) (tt_NoWay : PySem.W.typeIn K (.ref K_NoWay) = some (.type "type"))
    (dt_NotLone : PySem.W.hasDictIn K K_NotLone = true) (tt_NotLone : PySem.W.typeIn K (.ref K_NotLone) = some (.type "type"))
    (dt_NotPlain : PySem.W.hasDictIn K K_NotPlain = true) (tt_NotPlain : PySem.W.typeIn K (.ref K_NotPlain) = some (.type "type"))
    (dt_NothingDone : PySem.W.hasDictIn K K_NothingDone = true) (tt_NothingDone : PySem.W.typeIn K (.ref K_NothingDone) = some (.type "type"))
    (dt_Tied : PySem.W.hasDictIn K K_Tied = true) (tt_Tied : PySem.W.typeIn K (.ref K_Tied) = some (.type "type"))
    (dt_TooMany : PySem.W.hasDictIn K K_TooMany = true) (tt_TooMany : PySem.W.typeIn K (.ref K_TooMany) = some (.type "type"))
    (bs_LoneError : PySem.W.subIn K (.ref K_LoneError) (.type "BaseException") = some true)
    (i_NoPlace_Apart : PySem.W.subIn K (.ref K_NoPlace) (.ref K_Apart) = some false)
    (ne_NoPlace_Apart : (Value.ref K_NoPlace == Value.ref K_Apart) = false)
    (i_NoPlace_BadLengths : PySem.W.subIn K (.ref K_NoPlace) (.ref K_BadLengths) = some false)
    (ne_NoPlace_BadLengths : (Value.ref K_NoPlace == Value.ref K_BadLengths) = false)
    (i_NoPlace_BadWeb : PySem.W.subIn K (.ref K_NoPlace) (.ref K_BadWeb) = some false)
    (ne_NoPlace_BadWeb : (Value.ref K_NoPlace == Value.ref K_BadWeb) = false)
    (i_NoPlace_NoChoice : PySem.W.subIn K (.ref K_NoPlace) (.ref K_NoChoice) = some false)
    (ne_NoPlace_NoChoice : (Value.ref K_NoPlace == Value.ref K_NoChoice) = false)
    (i_NoPlace_NoPlace : PySem.W.subIn K (.ref K_NoPlace) (.ref K_NoPlace) = some true)
    (i_NoPlace_NoRow : PySem.W.subIn K (.ref K_NoPlace) (.ref K_NoRow) = some false)
    (ne_NoPlace_NoRow : (Value.ref K_NoPlace == Value.ref K_NoRow) = false)
    (i_NoPlace_NoSide : PySem.W.subIn K (.ref K_NoPlace) (.ref K_NoSide) = some false)
    (ne_NoPlace_NoSide : (Value.ref K_NoPlace == Value.ref K_NoSide) = false)
    (i_NoPlace_NoText : PySem.W.subIn K (.ref K_NoPlace) (.ref K_NoText) = some false)
    (ne_NoPlace_NoText : (Value.ref K_NoPlace == Value.ref K_NoText) = false)
    (i_NoPlace_NoTie : PySem.W.subIn K (.ref K_NoPlace) (.ref K_NoTie) = some false)
    (ne_NoPlace_NoTie : (Value.ref K_NoPlace == Value.ref K_NoTie) = false)
    (i_NoPlace_NoWay : PySem.W.subIn K (.ref K_NoPlace) (.ref K_NoWay) = some false)
    (ne_NoPlace_NoWay : (Value.ref K_NoPlace == Value.ref K_NoWay) = false)
    (i_NoPlace_NotLone : PySem.W.subIn K (.ref K_NoPlace) (.ref K_NotLone) = some false)
    (ne_NoPlace_NotLone : (Value.ref K_NoPlace == Value.ref K_NotLone) = false)
    (i_NoPlace_NotPlain : PySem.W.subIn K (.ref K_NoPlace) (.ref K_NotPlain) = some false)
    (ne_NoPlace_NotPlain : (Value.ref K_NoPlace == Value.ref K_NotPlain) = false)
    (i_NoPlace_NothingDone : PySem.W.subIn K (.ref K_NoPlace) (.ref K_NothingDone) = some false)
    (ne_NoPlace_NothingDone : (Value.ref K_NoPlace == Value.ref K_NothingDone) = false)
    (i_NoPlace_Tied : PySem.W.subIn K (.ref K_NoPlace) (.ref K_Tied) = some false)
    (ne_NoPlace_Tied : (Value.ref K_NoPlace == Value.ref K_Tied) = false)
    (i_NoPlace_TooMany : PySem.W.subIn K (.ref K_NoPlace) (.ref K_TooMany) = some false)
    (ne_NoPlace_TooMany : (Value.ref K_NoPlace == Value.ref K_TooMany) = false)
    (i_NoPlace_ValueError : PySem.W.subIn K (.ref K_NoPlace) (.type "ValueError") = some true)
    (i_NotPlain_Apart : PySem.W.subIn K (.ref K_NotPlain) (.ref K_Apart) = some false)
    (ne_NotPlain_Apart : (Value.ref K_NotPlain == Value.ref K_Apart) = false)
    (i_NotPlain_BadLengths : PySem.W.subIn K (.ref K_NotPlain) (.ref K_BadLengths) = some false)
    (ne_NotPlain_BadLengths : (Value.ref K_NotPlain == Value.ref K_BadLengths) = false)
    (i_NotPlain_BadWeb : PySem.W.subIn K (.ref K_NotPlain) (.ref K_BadWeb) = some false)
    (ne_NotPlain_BadWeb : (Value.ref K_NotPlain == Value.ref K_BadWeb) = false)
    (i_NotPlain_NoChoice : PySem.W.subIn K (.ref K_NotPlain) (.ref K_NoChoice) = some false)
    (ne_NotPlain_NoChoice : (Value.ref K_NotPlain == Value.ref K_NoChoice) = false)
    (i_NotPlain_NoPlace : PySem.W.subIn K (.ref K_NotPlain) (.ref K_NoPlace) = some false)
    (ne_NotPlain_NoPlace : (Value.ref K_NotPlain == Value.ref K_NoPlace) = false)
    (i_NotPlain_NoRow : PySem.W.subIn K (.ref K_NotPlain) (.ref K_NoRow) = some false)
    (ne_NotPlain_NoRow : (Value.ref K_NotPlain == Value.ref K_NoRow) = false)
    (i_NotPlain_NoSide : PySem.W.subIn K (.ref K_NotPlain) (.ref K_NoSide) = some false)
    (ne_NotPlain_NoSide : (Value.ref K_NotPlain == Value.ref K_NoSide) = false)
    (i_NotPlain_NoText : PySem.W.subIn K (.ref K_NotPlain) (.ref K_NoText) = some false)
    (ne_NotPlain_NoText : (Value.ref K_NotPlain == Value.ref K_NoText) = false)
    (i_NotPlain_NoTie : PySem.W.subIn K (.ref K_NotPlain) (.ref K_NoTie) = some false)
    (ne_NotPlain_NoTie : (Value.ref K_NotPlain == Value.ref K_NoTie) = false)
    (i_NotPlain_NoWay : PySem.W.subIn K (.ref K_NotPlain) (.ref K_NoWay) = some false)
    (ne_NotPlain_NoWay : (Value.ref K_NotPlain == Value.ref K_NoWay) = false)
    (i_NotPlain_NotLone : PySem.W.subIn K (.ref K_NotPlain) (.ref K_NotLone) = some false)
    (ne_NotPlain_NotLone : (Value.ref K_NotPlain == Value.ref K_NotLone) = false)
    (i_NotPlain_NotPlain : PySem.W.subIn K (.ref K_NotPlain) (.ref K_NotPlain) = some true)
    (i_NotPlain_NothingDone : PySem.W.subIn K (.ref K_NotPlain) (.ref K_NothingDone) = some false)
    (ne_NotPlain_NothingDone : (Value.ref K_NotPlain == Value.ref K_NothingDone) = false)
    (i_NotPlain_Tied : PySem.W.subIn K (.ref K_NotPlain) (.ref K_Tied) = some false)
    (ne_NotPlain_Tied : (Value.ref K_NotPlain == Value.ref K_Tied) = false)
    (i_NotPlain_TooMany : PySem.W.subIn K (.ref K_NotPlain) (.ref K_TooMany) = some false)
    (ne_NotPlain_TooMany : (Value.ref K_NotPlain == Value.ref K_TooMany) = false)
    (i_NotPlain_ValueError : PySem.W.subIn K (.ref K_NotPlain) (.type "ValueError") = some true)
    (i_TooMany_Apart : PySem.W.subIn K (.ref K_TooMany) (.ref K_Apart) = some false)
    (ne_TooMany_Apart : (Value.ref K_TooMany == Value.ref K_Apart) = false)
    (i_TooMany_BadLengths : PySem.W.subIn K (.ref K_TooMany) (.ref K_BadLengths) = some false)
    (ne_TooMany_BadLengths : (Value.ref K_TooMany == Value.ref K_BadLengths) = false)
    (i_TooMany_BadWeb : PySem.W.subIn K (.ref K_TooMany) (.ref K_BadWeb) = some false)
    (ne_TooMany_BadWeb : (Value.ref K_TooMany == Value.ref K_BadWeb) = false)
    (i_TooMany_NoChoice : PySem.W.subIn K (.ref K_TooMany) (.ref K_NoChoice) = some false)
    (ne_TooMany_NoChoice : (Value.ref K_TooMany == Value.ref K_NoChoice) = false)
    (i_TooMany_NoPlace : PySem.W.subIn K (.ref K_TooMany) (.ref K_NoPlace) = some false)
    (ne_TooMany_NoPlace : (Value.ref K_TooMany == Value.ref K_NoPlace) = false)
    (i_TooMany_NoRow : PySem.W.subIn K (.ref K_TooMany) (.ref K_NoRow) = some false)
    (ne_TooMany_NoRow : (Value.ref K_TooMany == Value.ref K_NoRow) = false)
    (i_TooMany_NoSide : PySem.W.subIn K (.ref K_TooMany) (.ref K_NoSide) = some false)
    (ne_TooMany_NoSide : (Value.ref K_TooMany == Value.ref K_NoSide) = false)
    (i_TooMany_NoText : PySem.W.subIn K (.ref K_TooMany) (.ref K_NoText) = some false)
    (ne_TooMany_NoText : (Value.ref K_TooMany == Value.ref K_NoText) = false)
    (i_TooMany_NoTie : PySem.W.subIn K (.ref K_TooMany) (.ref K_NoTie) = some false)
    (ne_TooMany_NoTie : (Value.ref K_TooMany == Value.ref K_NoTie) = false)
    (i_TooMany_NoWay : PySem.W.subIn K (.ref K_TooMany) (.ref K_NoWay) = some false)
    (ne_TooMany_NoWay : (Value.ref K_TooMany == Value.ref K_NoWay) = false)
    (i_TooMany_NotLone : PySem.W.subIn K (.ref K_TooMany) (.ref K_NotLone) = some false)
    (ne_TooMany_NotLone : (Value.ref K_TooMany == Value.ref K_NotLone) = false)
    (i_TooMany_NotPlain : PySem.W.subIn K (.ref K_TooMany) (.ref K_NotPlain) = some false)
    (ne_TooMany_NotPlain : (Value.ref K_TooMany == Value.ref K_NotPlain) = false)
    (i_TooMany_NothingDone : PySem.W.subIn K (.ref K_TooMany) (.ref K_NothingDone) = some false)
    (ne_TooMany_NothingDone : (Value.ref K_TooMany == Value.ref K_NothingDone) = false)
    (i_TooMany_Tied : PySem.W.subIn K (.ref K_TooMany) (.ref K_Tied) = some false)
    (ne_TooMany_Tied : (Value.ref K_TooMany == Value.ref K_Tied) = false)
    (i_TooMany_TooMany : PySem.W.subIn K (.ref K_TooMany) (.ref K_TooMany) = some true)
    (i_TooMany_ValueError : PySem.W.subIn K (.ref K_TooMany) (.type "ValueError") = some true)
    (i_NoPlace_LoneError : PySem.W.subIn K (.ref K_NoPlace) (.ref K_LoneError) = some true)
    (i_NotPlain_LoneError : PySem.W.subIn K (.ref K_NotPlain) (.ref K_LoneError) = some true)
    (i_TooMany_LoneError : PySem.W.subIn K (.ref K_TooMany) (.ref K_LoneError) = some true) :
    ∃ fd : FuncData, (∀ (s : Shared) (v : Value), BindsTo s fd ⟨[v], []⟩ [("script", v)]) ∧ ∀ base : Heap, K.In base → base.Ns mainGlobals mg → FnOk P w K mg base (L2N.CX P w) 24 fa fd ["script"] (spTrue K) := by
  have T : Tops mg := ⟨⟨_, PySem.W.mg_of X G z_MOST_PLACES⟩, PySem.W.mg_none_of X G z_ValueError, PySem.W.mg_none_of X G z_abs, PySem.W.mg_none_of X G z_all, PySem.W.mg_none_of X G z_bool, PySem.W.mg_none_of X G z_enumerate, PySem.W.mg_none_of X G z_int, PySem.W.mg_none_of X G z_isinstance, PySem.W.mg_none_of X G z_len, PySem.W.mg_none_of X G z_list, PySem.W.mg_none_of X G z_max, PySem.W.mg_none_of X G z_min, PySem.W.mg_none_of X G z_range, PySem.W.mg_none_of X G z_sorted, PySem.W.mg_none_of X G z_sum, PySem.W.mg_none_of X G z_tuple, PySem.W.mg_none_of X G z_zip⟩
  have n_Apart := PySem.W.mg_of X G g_Apart
  have n_BadLengths := PySem.W.mg_of X G g_BadLengths
  have n_BadWeb := PySem.W.mg_of X G g_BadWeb
  have n_LoneError := PySem.W.mg_of X G g_LoneError
  have n_NoChoice := PySem.W.mg_of X G g_NoChoice
  have n_NoPlace := PySem.W.mg_of X G g_NoPlace
  have n_NoRow := PySem.W.mg_of X G g_NoRow
  have n_NoSide := PySem.W.mg_of X G g_NoSide
  have n_NoText := PySem.W.mg_of X G g_NoText
  have n_NoTie := PySem.W.mg_of X G g_NoTie
  have n_NoWay := PySem.W.mg_of X G g_NoWay
  have n_NotLone := PySem.W.mg_of X G g_NotLone
  have n_NotPlain := PySem.W.mg_of X G g_NotPlain
  have n_NothingDone := PySem.W.mg_of X G g_NothingDone
  have n_Tied := PySem.W.mg_of X G g_Tied
  have n_TooMany := PySem.W.mg_of X G g_TooMany
  have e_NoPlace : ExcC K K_NoPlace := ⟨eg_NoPlace, ek_NoPlace, sb_NoPlace, ed_NoPlace, ea_NoPlace, hn, ht, em_NoPlace⟩
  have e_NotPlain : ExcC K K_NotPlain := ⟨eg_NotPlain, ek_NotPlain, sb_NotPlain, ed_NotPlain, ea_NotPlain, hn, ht, em_NotPlain⟩
  have e_TooMany : ExcC K K_TooMany := ⟨eg_TooMany, ek_TooMany, sb_TooMany, ed_TooMany, ea_TooMany, hn, ht, em_TooMany⟩
  have w_Apart : ∀ C, mg "Apart" = some (.ref C) → C = K_Apart := fun C h => by rw [n_Apart] at h; injection h with h; injection h with h; exact h.symm
  have w_BadLengths : ∀ C, mg "BadLengths" = some (.ref C) → C = K_BadLengths := fun C h => by rw [n_BadLengths] at h; injection h with h; injection h with h; exact h.symm
  have w_BadWeb : ∀ C, mg "BadWeb" = some (.ref C) → C = K_BadWeb := fun C h => by rw [n_BadWeb] at h; injection h with h; injection h with h; exact h.symm
  have w_LoneError : ∀ C, mg "LoneError" = some (.ref C) → C = K_LoneError := fun C h => by rw [n_LoneError] at h; injection h with h; injection h with h; exact h.symm
  have w_NoChoice : ∀ C, mg "NoChoice" = some (.ref C) → C = K_NoChoice := fun C h => by rw [n_NoChoice] at h; injection h with h; injection h with h; exact h.symm
  have w_NoPlace : ∀ C, mg "NoPlace" = some (.ref C) → C = K_NoPlace := fun C h => by rw [n_NoPlace] at h; injection h with h; injection h with h; exact h.symm
  have w_NoRow : ∀ C, mg "NoRow" = some (.ref C) → C = K_NoRow := fun C h => by rw [n_NoRow] at h; injection h with h; injection h with h; exact h.symm
  have w_NoSide : ∀ C, mg "NoSide" = some (.ref C) → C = K_NoSide := fun C h => by rw [n_NoSide] at h; injection h with h; injection h with h; exact h.symm
  have w_NoText : ∀ C, mg "NoText" = some (.ref C) → C = K_NoText := fun C h => by rw [n_NoText] at h; injection h with h; injection h with h; exact h.symm
  have w_NoTie : ∀ C, mg "NoTie" = some (.ref C) → C = K_NoTie := fun C h => by rw [n_NoTie] at h; injection h with h; injection h with h; exact h.symm
  have w_NoWay : ∀ C, mg "NoWay" = some (.ref C) → C = K_NoWay := fun C h => by rw [n_NoWay] at h; injection h with h; injection h with h; exact h.symm
  have w_NotLone : ∀ C, mg "NotLone" = some (.ref C) → C = K_NotLone := fun C h => by rw [n_NotLone] at h; injection h with h; injection h with h; exact h.symm
  have w_NotPlain : ∀ C, mg "NotPlain" = some (.ref C) → C = K_NotPlain := fun C h => by rw [n_NotPlain] at h; injection h with h; injection h with h; exact h.symm
  have w_NothingDone : ∀ C, mg "NothingDone" = some (.ref C) → C = K_NothingDone := fun C h => by rw [n_NothingDone] at h; injection h with h; injection h with h; exact h.symm
  have w_Tied : ∀ C, mg "Tied" = some (.ref C) → C = K_Tied := fun C h => by rw [n_Tied] at h; injection h with h; injection h with h; exact h.symm
  have w_TooMany : ∀ C, mg "TooMany" = some (.ref C) → C = K_TooMany := fun C h => by rw [n_TooMany] at h; injection h with h; injection h with h; exact h.symm
  have ch_LoneError : (⟨_, n_LoneError⟩ : ∃ C, mg "LoneError" = some (.ref C)).choose = K_LoneError := w_LoneError _ (⟨_, n_LoneError⟩ : ∃ C, mg "LoneError" = some (.ref C)).choose_spec
  have U : Xs K mg := ⟨⟨_, n_Apart⟩, ⟨_, n_BadLengths⟩, ⟨_, n_BadWeb⟩, ⟨_, n_LoneError⟩, ⟨_, n_NoChoice⟩, ⟨_, n_NoPlace⟩, ⟨_, n_NoRow⟩, ⟨_, n_NoSide⟩, ⟨_, n_NoText⟩, ⟨_, n_NoTie⟩, ⟨_, n_NoWay⟩, ⟨_, n_NotLone⟩, ⟨_, n_NotPlain⟩, ⟨_, n_NothingDone⟩, ⟨_, n_Tied⟩, ⟨_, n_TooMany⟩, ⟨K_NoPlace, n_NoPlace, g_NoPlace, x_NoPlace, kp_NoPlace, sb_NoPlace, ty_NoPlace, e_NoPlace⟩, ⟨K_NotPlain, n_NotPlain, g_NotPlain, x_NotPlain, kp_NotPlain, sb_NotPlain, ty_NotPlain, e_NotPlain⟩, ⟨K_TooMany, n_TooMany, g_TooMany, x_TooMany, kp_TooMany, sb_TooMany, ty_TooMany, e_TooMany⟩, List.forall_mem_cons.mpr ⟨fun C h => ⟨_, (.inl n_Apart), by rw [w_NoPlace C h]; exact kit_own dt_Apart tt_Apart i_NoPlace_Apart (.inr ne_NoPlace_Apart)⟩, List.forall_mem_cons.mpr ⟨fun C h => ⟨_, (.inl n_BadLengths), by rw [w_NoPlace C h]; exact kit_own dt_BadLengths tt_BadLengths i_NoPlace_BadLengths (.inr ne_NoPlace_BadLengths)⟩, List.forall_mem_cons.mpr ⟨fun C h => ⟨_, (.inl n_BadWeb), by rw [w_NoPlace C h]; exact kit_own dt_BadWeb tt_BadWeb i_NoPlace_BadWeb (.inr ne_NoPlace_BadWeb)⟩, List.forall_mem_cons.mpr ⟨fun C h => ⟨_, (.inl n_NoChoice), by rw [w_NoPlace C h]; exact kit_own dt_NoChoice tt_NoChoice i_NoPlace_NoChoice (.inr ne_NoPlace_NoChoice)⟩, List.forall_mem_cons.mpr ⟨fun C h => ⟨_, (.inl n_NoPlace), by rw [w_NoPlace C h]; exact kit_own dt_NoPlace tt_NoPlace i_NoPlace_NoPlace (.inl rfl)⟩, List.forall_mem_cons.mpr ⟨fun C h => ⟨_, (.inl n_NoRow), by rw [w_NoPlace C h]; exact kit_own dt_NoRow tt_NoRow i_NoPlace_NoRow (.inr ne_NoPlace_NoRow)⟩, List.forall_mem_cons.mpr ⟨fun C h => ⟨_, (.inl n_NoSide), by rw [w_NoPlace C h]; exact kit_own dt_NoSide tt_NoSide i_NoPlace_NoSide (.inr ne_NoPlace_NoSide)⟩, List.forall_mem_cons.mpr ⟨fun C h => ⟨_, (.inl n_NoText), by rw [w_NoPlace C h]; exact kit_own dt_NoText tt_NoText i_NoPlace_NoText (.inr ne_NoPlace_NoText)⟩, List.forall_mem_cons.mpr ⟨fun C h => ⟨_, (.inl n_NoTie), by rw [w_NoPlace C h]; exact kit_own dt_NoTie tt_NoTie i_NoPlace_NoTie (.inr ne_NoPlace_NoTie)⟩, List.forall_mem_cons.mpr ⟨fun C h => ⟨_, (.inl n_NoWay), by rw [w_NoPlace C h]; exact kit_own dt_NoWay tt_NoWay i_NoPlace_NoWay (.inr ne_NoPlace_NoWay)⟩, List.forall_mem_cons.mpr ⟨fun C h => ⟨_, (.inl n_NotLone), by rw [w_NoPlace C h]; exact kit_own dt_NotLone tt_NotLone i_NoPlace_NotLone (.inr ne_NoPlace_NotLone)⟩, List.forall_mem_cons.mpr ⟨fun C h => ⟨_, (.inl n_NotPlain), by rw [w_NoPlace C h]; exact kit_own dt_NotPlain tt_NotPlain i_NoPlace_NotPlain (.inr ne_NoPlace_NotPlain)⟩, List.forall_mem_cons.mpr ⟨fun C h => ⟨_, (.inl n_NothingDone), by rw [w_NoPlace C h]; exact kit_own dt_NothingDone tt_NothingDone i_NoPlace_NothingDone (.inr ne_NoPlace_NothingDone)⟩, List.forall_mem_cons.mpr ⟨fun C h => ⟨_, (.inl n_Tied), by rw [w_NoPlace C h]; exact kit_own dt_Tied tt_Tied i_NoPlace_Tied (.inr ne_NoPlace_Tied)⟩, List.forall_mem_cons.mpr ⟨fun C h => ⟨_, (.inl n_TooMany), by rw [w_NoPlace C h]; exact kit_own dt_TooMany tt_TooMany i_NoPlace_TooMany (.inr ne_NoPlace_TooMany)⟩, List.forall_mem_cons.mpr ⟨fun C h => ⟨_, (.inr ⟨PySem.W.mg_none_of X G z_ValueError, b_ValueError⟩), by rw [w_NoPlace C h]; exact kit_blt (by decide +kernel) i_NoPlace_ValueError⟩, List.forall_mem_cons.mpr ⟨fun C h => ⟨_, (.inl n_Apart), by rw [w_NotPlain C h]; exact kit_own dt_Apart tt_Apart i_NotPlain_Apart (.inr ne_NotPlain_Apart)⟩, List.forall_mem_cons.mpr ⟨fun C h => ⟨_, (.inl n_BadLengths), by rw [w_NotPlain C h]; exact kit_own dt_BadLengths tt_BadLengths i_NotPlain_BadLengths (.inr ne_NotPlain_BadLengths)⟩, List.forall_mem_cons.mpr ⟨fun C h => ⟨_, (.inl n_BadWeb), by rw [w_NotPlain C h]; exact kit_own dt_BadWeb tt_BadWeb i_NotPlain_BadWeb (.inr ne_NotPlain_BadWeb)⟩, List.forall_mem_cons.mpr ⟨fun C h => ⟨_, (.inl n_NoChoice), by rw [w_NotPlain C h]; exact kit_own dt_NoChoice tt_NoChoice i_NotPlain_NoChoice (.inr ne_NotPlain_NoChoice)⟩, List.forall_mem_cons.mpr ⟨fun C h => ⟨_, (.inl n_NoPlace), by rw [w_NotPlain C h]; exact kit_own dt_NoPlace tt_NoPlace i_NotPlain_NoPlace (.inr ne_NotPlain_NoPlace)⟩, List.forall_mem_cons.mpr ⟨fun C h => ⟨_, (.inl n_NoRow), by rw [w_NotPlain C h]; exact kit_own dt_NoRow tt_NoRow i_NotPlain_NoRow (.inr ne_NotPlain_NoRow)⟩, List.forall_mem_cons.mpr ⟨fun C h => ⟨_, (.inl n_NoSide), by rw [w_NotPlain C h]; exact kit_own dt_NoSide tt_NoSide i_NotPlain_NoSide (.inr ne_NotPlain_NoSide)⟩, List.forall_mem_cons.mpr ⟨fun C h => ⟨_, (.inl n_NoText), by rw [w_NotPlain C h]; exact kit_own dt_NoText tt_NoText i_NotPlain_NoText (.inr ne_NotPlain_NoText)⟩, List.forall_mem_cons.mpr ⟨fun C h => ⟨_, (.inl n_NoTie), by rw [w_NotPlain C h]; exact kit_own dt_NoTie tt_NoTie i_NotPlain_NoTie (.inr ne_NotPlain_NoTie)⟩, List.forall_mem_cons.mpr ⟨fun C h => ⟨_, (.inl n_NoWay), by rw [w_NotPlain C h]; exact kit_own dt_NoWay tt_NoWay i_NotPlain_NoWay (.inr ne_NotPlain_NoWay)⟩, List.forall_mem_cons.mpr ⟨fun C h => ⟨_, (.inl n_NotLone), by rw [w_NotPlain C h]; exact kit_own dt_NotLone tt_NotLone i_NotPlain_NotLone (.inr ne_NotPlain_NotLone)⟩, List.forall_mem_cons.mpr ⟨fun C h => ⟨_, (.inl n_NotPlain), by rw [w_NotPlain C h]; exact kit_own dt_NotPlain tt_NotPlain i_NotPlain_NotPlain (.inl rfl)⟩, List.forall_mem_cons.mpr ⟨fun C h => ⟨_, (.inl n_NothingDone), by rw [w_NotPlain C h]; exact kit_own dt_NothingDone tt_NothingDone i_NotPlain_NothingDone (.inr ne_NotPlain_NothingDone)⟩, List.forall_mem_cons.mpr ⟨fun C h => ⟨_, (.inl n_Tied), by rw [w_NotPlain C h]; exact kit_own dt_Tied tt_Tied i_NotPlain_Tied (.inr ne_NotPlain_Tied)⟩, List.forall_mem_cons.mpr ⟨fun C h => ⟨_, (.inl n_TooMany), by rw [w_NotPlain C h]; exact kit_own dt_TooMany tt_TooMany i_NotPlain_TooMany (.inr ne_NotPlain_TooMany)⟩, List.forall_mem_cons.mpr ⟨fun C h => ⟨_, (.inr ⟨PySem.W.mg_none_of X G z_ValueError, b_ValueError⟩), by rw [w_NotPlain C h]; exact kit_blt (by decide +kernel) i_NotPlain_ValueError⟩, List.forall_mem_cons.mpr ⟨fun C h => ⟨_, (.inl n_Apart), by rw [w_TooMany C h]; exact kit_own dt_Apart tt_Apart i_TooMany_Apart (.inr ne_TooMany_Apart)⟩, List.forall_mem_cons.mpr ⟨fun C h => ⟨_, (.inl n_BadLengths), by rw [w_TooMany C h]; exact kit_own dt_BadLengths tt_BadLengths i_TooMany_BadLengths (.inr ne_TooMany_BadLengths)⟩, List.forall_mem_cons.mpr ⟨fun C h => ⟨_, (.inl n_BadWeb), by rw [w_TooMany C h]; exact kit_own dt_BadWeb tt_BadWeb i_TooMany_BadWeb (.inr ne_TooMany_BadWeb)⟩, List.forall_mem_cons.mpr ⟨fun C h => ⟨_, (.inl n_NoChoice), by rw [w_TooMany C h]; exact kit_own dt_NoChoice tt_NoChoice i_TooMany_NoChoice (.inr ne_TooMany_NoChoice)⟩, List.forall_mem_cons.mpr ⟨fun C h => ⟨_, (.inl n_NoPlace), by rw [w_TooMany C h]; exact kit_own dt_NoPlace tt_NoPlace i_TooMany_NoPlace (.inr ne_TooMany_NoPlace)⟩, List.forall_mem_cons.mpr ⟨fun C h => ⟨_, (.inl n_NoRow), by rw [w_TooMany C h]; exact kit_own dt_NoRow tt_NoRow i_TooMany_NoRow (.inr ne_TooMany_NoRow)⟩, List.forall_mem_cons.mpr ⟨fun C h => ⟨_, (.inl n_NoSide), by rw [w_TooMany C h]; exact kit_own dt_NoSide tt_NoSide i_TooMany_NoSide (.inr ne_TooMany_NoSide)⟩, List.forall_mem_cons.mpr ⟨fun C h => ⟨_, (.inl n_NoText), by rw [w_TooMany C h]; exact kit_own dt_NoText tt_NoText i_TooMany_NoText (.inr ne_TooMany_NoText)⟩, List.forall_mem_cons.mpr ⟨fun C h => ⟨_, (.inl n_NoTie), by rw [w_TooMany C h]; exact kit_own dt_NoTie tt_NoTie i_TooMany_NoTie (.inr ne_TooMany_NoTie)⟩, List.forall_mem_cons.mpr ⟨fun C h => ⟨_, (.inl n_NoWay), by rw [w_TooMany C h]; exact kit_own dt_NoWay tt_NoWay i_TooMany_NoWay (.inr ne_TooMany_NoWay)⟩, List.forall_mem_cons.mpr ⟨fun C h => ⟨_, (.inl n_NotLone), by rw [w_TooMany C h]; exact kit_own dt_NotLone tt_NotLone i_TooMany_NotLone (.inr ne_TooMany_NotLone)⟩, List.forall_mem_cons.mpr ⟨fun C h => ⟨_, (.inl n_NotPlain), by rw [w_TooMany C h]; exact kit_own dt_NotPlain tt_NotPlain i_TooMany_NotPlain (.inr ne_TooMany_NotPlain)⟩, List.forall_mem_cons.mpr ⟨fun C h => ⟨_, (.inl n_NothingDone), by rw [w_TooMany C h]; exact kit_own dt_NothingDone tt_NothingDone i_TooMany_NothingDone (.inr ne_TooMany_NothingDone)⟩, List.forall_mem_cons.mpr ⟨fun C h => ⟨_, (.inl n_Tied), by rw [w_TooMany C h]; exact kit_own dt_Tied tt_Tied i_TooMany_Tied (.inr ne_TooMany_Tied)⟩, List.forall_mem_cons.mpr ⟨fun C h => ⟨_, (.inl n_TooMany), by rw [w_TooMany C h]; exact kit_own dt_TooMany tt_TooMany i_TooMany_TooMany (.inl rfl)⟩, List.forall_mem_cons.mpr ⟨fun C h => ⟨_, (.inr ⟨PySem.W.mg_none_of X G z_ValueError, b_ValueError⟩), by rw [w_TooMany C h]; exact kit_blt (by decide +kernel) i_TooMany_ValueError⟩, List.forall_mem_nil _⟩⟩⟩⟩⟩⟩⟩⟩⟩⟩⟩⟩⟩⟩⟩⟩⟩⟩⟩⟩⟩⟩⟩⟩⟩⟩⟩⟩⟩⟩⟩⟩⟩⟩⟩⟩⟩⟩⟩⟩⟩⟩⟩⟩⟩⟩⟩⟩, List.forall_mem_cons.mpr ⟨fun C h => ⟨by rw [w_NoPlace C h]; exact e_NoPlace, by rw [w_NoPlace C h, ch_LoneError]; exact PySem.W.exm_ref bs_LoneError dt_LoneError tt_LoneError i_NoPlace_LoneError⟩, List.forall_mem_cons.mpr ⟨fun C h => ⟨by rw [w_NotPlain C h]; exact e_NotPlain, by rw [w_NotPlain C h, ch_LoneError]; exact PySem.W.exm_ref bs_LoneError dt_LoneError tt_LoneError i_NotPlain_LoneError⟩, List.forall_mem_cons.mpr ⟨fun C h => ⟨by rw [w_TooMany C h]; exact e_TooMany, by rw [w_TooMany C h, ch_LoneError]; exact PySem.W.exm_ref bs_LoneError dt_LoneError tt_LoneError i_TooMany_LoneError⟩, List.forall_mem_nil _⟩⟩⟩, List.forall_mem_nil _⟩
  have D_look_at_place : Def K mg "look_at_place" s_look_at_place p_look_at_place := def_mk X G a_look_at_place l_look_at_place c_look_at_place k_look_at_place fun _ _ _ _ _ _ us hl => match us, hl with | [_, _], _ => rfl
  have D_neighbours_of : Def K mg "neighbours_of" s_neighbours_of p_neighbours_of := def_mk X G a_neighbours_of l_neighbours_of c_neighbours_of k_neighbours_of fun _ _ _ _ _ _ us hl => match us, hl with | [_, _], _ => rfl
  have D_is_plain : Def K mg "is_plain" s_is_plain p_is_plain := def_mk X G a_is_plain l_is_plain c_is_plain k_is_plain fun _ _ _ _ _ _ us hl => match us, hl with | [_], _ => rfl
  have D_renamed_web : Def K mg "renamed_web" s_renamed_web p_renamed_web := def_mk X G a_renamed_web l_renamed_web c_renamed_web k_renamed_web fun _ _ _ _ _ _ us hl => match us, hl with | [_, _], _ => rfl
  have D_all_rows : Def K mg "all_rows" s_all_rows p_all_rows := def_mk X G a_all_rows l_all_rows c_all_rows k_all_rows fun _ _ _ _ _ _ us hl => match us, hl with | [_], _ => rfl
  have D_order_of : Def K mg "order_of" s_order_of p_order_of := def_mk X G a_order_of l_order_of c_order_of k_order_of fun _ _ _ _ _ _ us hl => match us, hl with | [_], _ => rfl
  have D_leading_orders : Def K mg "leading_orders" s_leading_orders p_leading_orders := def_mk X G a_leading_orders l_leading_orders c_leading_orders k_leading_orders fun _ _ _ _ _ _ us hl => match us, hl with | [_], _ => rfl
  have D_least_web : Def K mg "least_web" s_least_web p_least_web := def_mk X G a_least_web l_least_web c_least_web k_least_web fun _ _ _ _ _ _ us hl => match us, hl with | [_], _ => rfl
  have D_law_draws : Def K mg "_law_draws" s_law_draws p_law_draws := def_mk X G a_law_draws l_law_draws c_law_draws k_law_draws fun _ _ _ _ _ _ us hl => match us, hl with | [_, _], _ => rfl
  have D_law_take : Def K mg "_law_take" s_law_take p_law_take := def_mk X G a_law_take l_law_take c_law_take k_law_take fun _ _ _ _ _ _ us hl => match us, hl with | [_, _], _ => rfl
  have D_law_length : Def K mg "_law_length" s_law_length p_law_length := def_mk X G a_law_length l_law_length c_law_length k_law_length fun _ _ _ _ _ _ us hl => match us, hl with | [_, _], _ => rfl
  have D_law_web : Def K mg "_law_web" s_law_web p_law_web := def_mk X G a_law_web l_law_web c_law_web k_law_web fun _ _ _ _ _ _ us hl => match us, hl with | [_, _, _, _], _ => rfl
  have D_law_renamed : Def K mg "_law_renamed" s_law_renamed p_law_renamed := def_mk X G a_law_renamed l_law_renamed c_law_renamed k_law_renamed fun _ _ _ _ _ _ us hl => match us, hl with | [_, _], _ => rfl
  have D_law_orders : Def K mg "_law_orders" s_law_orders p_law_orders := def_mk X G a_law_orders l_law_orders c_law_orders k_law_orders fun _ _ _ _ _ _ us hl => match us, hl with | [_], _ => rfl
  have D_law_alike : Def K mg "_law_alike" s_law_alike p_law_alike := def_mk X G a_law_alike l_law_alike c_law_alike k_law_alike fun _ _ _ _ _ _ us hl => match us, hl with | [_, _], _ => rfl
  have D_law_copied : Def K mg "_law_copied" s_law_copied p_law_copied := def_mk X G a_law_copied l_law_copied c_law_copied k_law_copied fun _ _ _ _ _ _ us hl => match us, hl with | [_], _ => rfl
  have D_law_shaped : Def K mg "_law_shaped" s_law_shaped p_law_shaped := def_mk X G a_law_shaped l_law_shaped c_law_shaped k_law_shaped fun _ _ _ _ _ _ us hl => match us, hl with | [_, _], _ => rfl
  have D_law_least : Def K mg "_law_least" s_law_least p_law_least := def_mk X G a_law_least l_law_least c_law_least k_law_least fun _ _ _ _ _ _ us hl => match us, hl with | [_], _ => rfl
  have D_law_refused : Def K mg "_law_refused" s_law_refused p_law_refused := def_mk X G a_law_refused l_law_refused c_law_refused k_law_refused fun _ _ _ _ _ _ us hl => match us, hl with | [_, _], _ => rfl
  have D_law_longer : Def K mg "_law_longer" s_law_longer p_law_longer := def_mk X G a_law_longer l_law_longer c_law_longer k_law_longer fun _ _ _ _ _ _ us hl => match us, hl with | [_, _], _ => rfl
  have e := hfa.symm.trans (PySem.W.mg_of X G a_law)
  cases e
  refine ⟨PySem.W.fnOf "law" "law" (defArgs s_law) (defBody s_law) (defScope s_law) .none kV_law dc_law pm_law an_law cd_law ct_law, fun s v => .of_eq rfl, fun base _ _ => ?_⟩
  have C_look_at_place := cal_look_at_place (P := P) (w := w) (base := base) T U D_look_at_place 
  have C_neighbours_of := cal_neighbours_of (P := P) (w := w) (base := base) T U D_neighbours_of C_look_at_place
  have C_is_plain := cal_is_plain (P := P) (w := w) (base := base) T U D_is_plain 
  have C_renamed_web := cal_renamed_web (P := P) (w := w) (base := base) T U D_renamed_web 
  have C_all_rows := cal_all_rows (P := P) (w := w) (base := base) T U D_all_rows  20
  have C_order_of := cal_order_of (P := P) (w := w) (base := base) T U D_order_of 
  have C_leading_orders := cal_leading_orders (P := P) (w := w) (base := base) T U D_leading_orders C_all_rows C_order_of C_neighbours_of
  have C_least_web := cal_least_web (P := P) (w := w) (base := base) T U D_least_web C_leading_orders C_renamed_web C_is_plain
  have C_law_draws := cal_law_draws (P := P) (w := w) (base := base) T U D_law_draws 
  have C_law_take := cal_law_take (P := P) (w := w) (base := base) T U D_law_take 
  have C_law_length := cal_law_length (P := P) (w := w) (base := base) T U D_law_length C_law_take
  have C_law_web := cal_law_web (P := P) (w := w) (base := base) T U D_law_web C_law_length C_law_take
  have C_law_renamed := cal_law_renamed (P := P) (w := w) (base := base) T U D_law_renamed 
  have C_law_orders := cal_law_orders (P := P) (w := w) (base := base) T U D_law_orders 
  have C_law_alike := cal_law_alike (P := P) (w := w) (base := base) T U D_law_alike  20
  have C_law_copied := cal_law_copied (P := P) (w := w) (base := base) T U D_law_copied  20
  have C_law_shaped := cal_law_shaped (P := P) (w := w) (base := base) T U D_law_shaped C_law_take C_law_web
  have C_law_least := cal_law_least (P := P) (w := w) (base := base) T U D_law_least C_law_orders C_law_renamed
  have C_law_refused := cal_law_refused (P := P) (w := w) (base := base) T U D_law_refused C_least_web
  have C_law_longer := cal_law_longer (P := P) (w := w) (base := base) T U D_law_longer C_law_take
  exact (cal_law (P := P) (w := w) (base := base) T U (fun_mk (st := s_law) l_law c_law k_law) C_law_longer C_law_refused C_law_take C_law_shaped C_least_web C_law_alike C_law_copied C_law_least C_law_draws).imp fun vs H Q E hs => law_sp good hs
end G
open PySem PySem.W PyProof.Rows
set_option maxHeartbeats 0 in
theorem PySem.Challenge.cw_lonetrack_k40_least_webs_told_holds : PySem.Challenge.rw_lonetrack_k40_least_webs_told.Holds := by
  w_on; o_law; k_head; (case hw => w_witness2)
  k_fill
  refine L2.walk_of (l := PySem.Challenge.rw_lonetrack_k40_least_webs_told) (n := 63) (k := 24) (x := "script") (CX := fun w => L2N.CX PySem.Challenge.rw_lonetrack_k40_least_webs_told.prog w) (sp := fun w => VS.spTrue _) rfl (by decide) rfl ⟨rfl, by decide, by decide⟩ (fun w h Y => PySem.W.kIn_of Y) ?F (fun _ _ a ns hl _ hS => ⟨a, ns, rfl, hS, hl, trivial, fun _ => rfl⟩) (fun _ _ _ _ _ h => VS.cx_end h)
  case F =>
    intro w mg fa h KX GX hmg
    refine' G.all_mk KX GX hmg G.good ?a_look_at_place ?l_look_at_place ?c_look_at_place ?k_look_at_place ?a_neighbours_of ?l_neighbours_of ?c_neighbours_of ?k_neighbours_of ?a_is_plain ?l_is_plain ?c_is_plain ?k_is_plain ?a_renamed_web ?l_renamed_web ?c_renamed_web ?k_renamed_web ?a_all_rows ?l_all_rows ?c_all_rows ?k_all_rows ?a_order_of ?l_order_of ?c_order_of ?k_order_of ?a_leading_orders ?l_leading_orders ?c_leading_orders ?k_leading_orders ?a_least_web ?l_least_web ?c_least_web ?k_least_web ?a_law_draws ?l_law_draws ?c_law_draws ?k_law_draws ?a_law_take ?l_law_take ?c_law_take ?k_law_take ?a_law_length ?l_law_length ?c_law_length ?k_law_length ?a_law_web ?l_law_web ?c_law_web ?k_law_web ?a_law_renamed ?l_law_renamed ?c_law_renamed ?k_law_renamed ?a_law_orders ?l_law_orders ?c_law_orders ?k_law_orders ?a_law_alike ?l_law_alike ?c_law_alike ?k_law_alike ?a_law_copied ?l_law_copied ?c_law_copied ?k_law_copied ?a_law_shaped ?l_law_shaped ?c_law_shaped ?k_law_shaped ?a_law_least ?l_law_least ?c_law_least ?k_law_least ?a_law_refused ?l_law_refused ?c_law_refused ?k_law_refused ?a_law_longer ?l_law_longer ?c_law_longer ?k_law_longer ?a_law ?l_law ?c_law ?k_law ?z_MOST_PLACES ?z_ValueError ?z_abs ?z_all ?z_bool ?z_enumerate ?z_int ?z_isinstance ?z_len ?z_list ?z_max ?z_min ?z_range ?z_sorted ?z_sum ?z_tuple ?z_zip ?g_Apart ?g_BadLengths ?g_BadWeb ?g_LoneError ?g_NoChoice ?g_NoPlace ?g_NoRow ?g_NoSide ?g_NoText ?g_NoTie ?g_NoWay ?g_NotLone ?g_NotPlain ?g_NothingDone ?g_Tied ?g_TooMany ?hn ?ht ?x_NoPlace ?x_NotPlain ?x_TooMany ?kp_NoPlace ?sb_NoPlace ?ty_NoPlace ?eg_NoPlace ?ek_NoPlace ?ed_NoPlace ?ea_NoPlace ?em_NoPlace ?kp_NotPlain ?sb_NotPlain ?ty_NotPlain ?eg_NotPlain ?ek_NotPlain ?ed_NotPlain ?ea_NotPlain ?em_NotPlain ?kp_TooMany ?sb_TooMany ?ty_TooMany ?eg_TooMany ?ek_TooMany ?ed_TooMany ?ea_TooMany ?em_TooMany ?dt_Apart ?tt_Apart ?dt_BadLengths ?tt_BadLengths ?dt_BadWeb ?tt_BadWeb ?dt_LoneError ?tt_LoneError ?dt_NoChoice ?tt_NoChoice ?dt_NoPlace ?tt_NoPlace ?dt_NoRow ?tt_NoRow ?dt_NoSide ?tt_NoSide ?dt_NoText ?tt_NoText ?dt_NoTie ?tt_NoTie ?dt_NoWay ?tt_NoWay ?dt_NotLone ?tt_NotLone ?dt_NotPlain ?tt_NotPlain ?dt_NothingDone ?tt_NothingDone ?dt_Tied ?tt_Tied ?dt_TooMany ?tt_TooMany ?bs_LoneError ?i_NoPlace_Apart ?ne_NoPlace_Apart ?i_NoPlace_BadLengths ?ne_NoPlace_BadLengths ?i_NoPlace_BadWeb ?ne_NoPlace_BadWeb ?i_NoPlace_NoChoice ?ne_NoPlace_NoChoice ?i_NoPlace_NoPlace ?i_NoPlace_NoRow ?ne_NoPlace_NoRow ?i_NoPlace_NoSide ?ne_NoPlace_NoSide ?i_NoPlace_NoText ?ne_NoPlace_NoText ?i_NoPlace_NoTie ?ne_NoPlace_NoTie ?i_NoPlace_NoWay ?ne_NoPlace_NoWay ?i_NoPlace_NotLone ?ne_NoPlace_NotLone ?i_NoPlace_NotPlain ?ne_NoPlace_NotPlain ?i_NoPlace_NothingDone ?ne_NoPlace_NothingDone ?i_NoPlace_Tied ?ne_NoPlace_Tied ?i_NoPlace_TooMany ?ne_NoPlace_TooMany ?i_NoPlace_ValueError ?i_NotPlain_Apart ?ne_NotPlain_Apart ?i_NotPlain_BadLengths ?ne_NotPlain_BadLengths ?i_NotPlain_BadWeb ?ne_NotPlain_BadWeb ?i_NotPlain_NoChoice ?ne_NotPlain_NoChoice ?i_NotPlain_NoPlace ?ne_NotPlain_NoPlace ?i_NotPlain_NoRow ?ne_NotPlain_NoRow ?i_NotPlain_NoSide ?ne_NotPlain_NoSide ?i_NotPlain_NoText ?ne_NotPlain_NoText ?i_NotPlain_NoTie ?ne_NotPlain_NoTie ?i_NotPlain_NoWay ?ne_NotPlain_NoWay ?i_NotPlain_NotLone ?ne_NotPlain_NotLone ?i_NotPlain_NotPlain ?i_NotPlain_NothingDone ?ne_NotPlain_NothingDone ?i_NotPlain_Tied ?ne_NotPlain_Tied ?i_NotPlain_TooMany ?ne_NotPlain_TooMany ?i_NotPlain_ValueError ?i_TooMany_Apart ?ne_TooMany_Apart ?i_TooMany_BadLengths ?ne_TooMany_BadLengths ?i_TooMany_BadWeb ?ne_TooMany_BadWeb ?i_TooMany_NoChoice ?ne_TooMany_NoChoice ?i_TooMany_NoPlace ?ne_TooMany_NoPlace ?i_TooMany_NoRow ?ne_TooMany_NoRow ?i_TooMany_NoSide ?ne_TooMany_NoSide ?i_TooMany_NoText ?ne_TooMany_NoText ?i_TooMany_NoTie ?ne_TooMany_NoTie ?i_TooMany_NoWay ?ne_TooMany_NoWay ?i_TooMany_NotLone ?ne_TooMany_NotLone ?i_TooMany_NotPlain ?ne_TooMany_NotPlain ?i_TooMany_NothingDone ?ne_TooMany_NothingDone ?i_TooMany_Tied ?ne_TooMany_Tied ?i_TooMany_TooMany ?i_TooMany_ValueError ?i_NoPlace_LoneError ?i_NotPlain_LoneError ?i_TooMany_LoneError
    (case a_look_at_place => k_is); (case l_look_at_place => k_is); (case c_look_at_place => k_is); (case k_look_at_place => k_is); (case a_neighbours_of => k_is); (case l_neighbours_of => k_is); (case c_neighbours_of => k_is); (case k_neighbours_of => k_is); (case a_is_plain => k_is); (case l_is_plain => k_is); (case c_is_plain => k_is); (case k_is_plain => k_is); (case a_renamed_web => k_is); (case l_renamed_web => k_is); (case c_renamed_web => k_is); (case k_renamed_web => k_is); (case a_all_rows => k_is); (case l_all_rows => k_is); (case c_all_rows => k_is); (case k_all_rows => k_is); (case a_order_of => k_is); (case l_order_of => k_is); (case c_order_of => k_is); (case k_order_of => k_is); (case a_leading_orders => k_is); (case l_leading_orders => k_is); (case c_leading_orders => k_is); (case k_leading_orders => k_is); (case a_least_web => k_is); (case l_least_web => k_is); (case c_least_web => k_is); (case k_least_web => k_is); (case a_law_draws => k_is); (case l_law_draws => k_is); (case c_law_draws => k_is); (case k_law_draws => k_is); (case a_law_take => k_is); (case l_law_take => k_is); (case c_law_take => k_is); (case k_law_take => k_is); (case a_law_length => k_is); (case l_law_length => k_is); (case c_law_length => k_is); (case k_law_length => k_is); (case a_law_web => k_is); (case l_law_web => k_is); (case c_law_web => k_is); (case k_law_web => k_is); (case a_law_renamed => k_is); (case l_law_renamed => k_is); (case c_law_renamed => k_is); (case k_law_renamed => k_is); (case a_law_orders => k_is); (case l_law_orders => k_is); (case c_law_orders => k_is); (case k_law_orders => k_is); (case a_law_alike => k_is); (case l_law_alike => k_is); (case c_law_alike => k_is); (case k_law_alike => k_is); (case a_law_copied => k_is); (case l_law_copied => k_is); (case c_law_copied => k_is); (case k_law_copied => k_is); (case a_law_shaped => k_is); (case l_law_shaped => k_is); (case c_law_shaped => k_is); (case k_law_shaped => k_is); (case a_law_least => k_is); (case l_law_least => k_is); (case c_law_least => k_is); (case k_law_least => k_is); (case a_law_refused => k_is); (case l_law_refused => k_is); (case c_law_refused => k_is); (case k_law_refused => k_is); (case a_law_longer => k_is); (case l_law_longer => k_is); (case c_law_longer => k_is); (case k_law_longer => k_is); (case a_law => k_is); (case l_law => k_is); (case c_law => k_is); (case k_law => k_is); (case z_MOST_PLACES => k_is); (case z_ValueError => k_is); (case z_abs => k_is); (case z_all => k_is); (case z_bool => k_is); (case z_enumerate => k_is); (case z_int => k_is); (case z_isinstance => k_is); (case z_len => k_is); (case z_list => k_is); (case z_max => k_is); (case z_min => k_is); (case z_range => k_is); (case z_sorted => k_is); (case z_sum => k_is); (case z_tuple => k_is); (case z_zip => k_is); (case g_Apart => k_is); (case g_BadLengths => k_is); (case g_BadWeb => k_is); (case g_LoneError => k_is); (case g_NoChoice => k_is); (case g_NoPlace => k_is); (case g_NoRow => k_is); (case g_NoSide => k_is); (case g_NoText => k_is); (case g_NoTie => k_is); (case g_NoWay => k_is); (case g_NotLone => k_is); (case g_NotPlain => k_is); (case g_NothingDone => k_is); (case g_Tied => k_is); (case g_TooMany => k_is); (case hn => k_is); (case ht => k_is); (case x_NoPlace => k_exc); (case x_NotPlain => k_exc); (case x_TooMany => k_exc); (case kp_NoPlace => k_is); (case sb_NoPlace => k_is); (case ty_NoPlace => k_is); (case eg_NoPlace => k_is); (case ek_NoPlace => k_is); (case ed_NoPlace => k_is); (case ea_NoPlace => k_is); (case em_NoPlace => k_is); (case kp_NotPlain => k_is); (case sb_NotPlain => k_is); (case ty_NotPlain => k_is); (case eg_NotPlain => k_is); (case ek_NotPlain => k_is); (case ed_NotPlain => k_is); (case ea_NotPlain => k_is); (case em_NotPlain => k_is); (case kp_TooMany => k_is); (case sb_TooMany => k_is); (case ty_TooMany => k_is); (case eg_TooMany => k_is); (case ek_TooMany => k_is); (case ed_TooMany => k_is); (case ea_TooMany => k_is); (case em_TooMany => k_is); (case dt_Apart => k_is); (case tt_Apart => k_is); (case dt_BadLengths => k_is); (case tt_BadLengths => k_is); (case dt_BadWeb => k_is); (case tt_BadWeb => k_is); (case dt_LoneError => k_is); (case tt_LoneError => k_is); (case dt_NoChoice => k_is); (case tt_NoChoice => k_is); (case dt_NoPlace => k_is); (case tt_NoPlace => k_is); (case dt_NoRow => k_is); (case tt_NoRow => k_is); (case dt_NoSide => k_is); (case tt_NoSide => k_is); (case dt_NoText => k_is); (case tt_NoText => k_is); (case dt_NoTie => k_is); (case tt_NoTie => k_is); (case dt_NoWay => k_is); (case tt_NoWay => k_is); (case dt_NotLone => k_is); (case tt_NotLone => k_is); (case dt_NotPlain => k_is); (case tt_NotPlain => k_is); (case dt_NothingDone => k_is); (case tt_NothingDone => k_is); (case dt_Tied => k_is); (case tt_Tied => k_is); (case dt_TooMany => k_is); (case tt_TooMany => k_is); (case bs_LoneError => k_is); (case i_NoPlace_Apart => k_is); (case ne_NoPlace_Apart => rfl); (case i_NoPlace_BadLengths => k_is); (case ne_NoPlace_BadLengths => rfl); (case i_NoPlace_BadWeb => k_is); (case ne_NoPlace_BadWeb => rfl); (case i_NoPlace_NoChoice => k_is); (case ne_NoPlace_NoChoice => rfl); (case i_NoPlace_NoPlace => k_is); (case i_NoPlace_NoRow => k_is); (case ne_NoPlace_NoRow => rfl); (case i_NoPlace_NoSide => k_is); (case ne_NoPlace_NoSide => rfl); (case i_NoPlace_NoText => k_is); (case ne_NoPlace_NoText => rfl); (case i_NoPlace_NoTie => k_is); (case ne_NoPlace_NoTie => rfl); (case i_NoPlace_NoWay => k_is); (case ne_NoPlace_NoWay => rfl); (case i_NoPlace_NotLone => k_is); (case ne_NoPlace_NotLone => rfl); (case i_NoPlace_NotPlain => k_is); (case ne_NoPlace_NotPlain => rfl); (case i_NoPlace_NothingDone => k_is); (case ne_NoPlace_NothingDone => rfl); (case i_NoPlace_Tied => k_is); (case ne_NoPlace_Tied => rfl); (case i_NoPlace_TooMany => k_is); (case ne_NoPlace_TooMany => rfl); (case i_NoPlace_ValueError => k_is); (case i_NotPlain_Apart => k_is); (case ne_NotPlain_Apart => rfl); (case i_NotPlain_BadLengths => k_is); (case ne_NotPlain_BadLengths => rfl); (case i_NotPlain_BadWeb => k_is); (case ne_NotPlain_BadWeb => rfl); (case i_NotPlain_NoChoice => k_is); (case ne_NotPlain_NoChoice => rfl); (case i_NotPlain_NoPlace => k_is); (case ne_NotPlain_NoPlace => rfl); (case i_NotPlain_NoRow => k_is); (case ne_NotPlain_NoRow => rfl); (case i_NotPlain_NoSide => k_is); (case ne_NotPlain_NoSide => rfl); (case i_NotPlain_NoText => k_is); (case ne_NotPlain_NoText => rfl); (case i_NotPlain_NoTie => k_is); (case ne_NotPlain_NoTie => rfl); (case i_NotPlain_NoWay => k_is); (case ne_NotPlain_NoWay => rfl); (case i_NotPlain_NotLone => k_is); (case ne_NotPlain_NotLone => rfl); (case i_NotPlain_NotPlain => k_is); (case i_NotPlain_NothingDone => k_is); (case ne_NotPlain_NothingDone => rfl); (case i_NotPlain_Tied => k_is); (case ne_NotPlain_Tied => rfl); (case i_NotPlain_TooMany => k_is); (case ne_NotPlain_TooMany => rfl); (case i_NotPlain_ValueError => k_is); (case i_TooMany_Apart => k_is); (case ne_TooMany_Apart => rfl); (case i_TooMany_BadLengths => k_is); (case ne_TooMany_BadLengths => rfl); (case i_TooMany_BadWeb => k_is); (case ne_TooMany_BadWeb => rfl); (case i_TooMany_NoChoice => k_is); (case ne_TooMany_NoChoice => rfl); (case i_TooMany_NoPlace => k_is); (case ne_TooMany_NoPlace => rfl); (case i_TooMany_NoRow => k_is); (case ne_TooMany_NoRow => rfl); (case i_TooMany_NoSide => k_is); (case ne_TooMany_NoSide => rfl); (case i_TooMany_NoText => k_is); (case ne_TooMany_NoText => rfl); (case i_TooMany_NoTie => k_is); (case ne_TooMany_NoTie => rfl); (case i_TooMany_NoWay => k_is); (case ne_TooMany_NoWay => rfl); (case i_TooMany_NotLone => k_is); (case ne_TooMany_NotLone => rfl); (case i_TooMany_NotPlain => k_is); (case ne_TooMany_NotPlain => rfl); (case i_TooMany_NothingDone => k_is); (case ne_TooMany_NothingDone => rfl); (case i_TooMany_Tied => k_is); (case ne_TooMany_Tied => rfl); (case i_TooMany_TooMany => k_is); (case i_TooMany_ValueError => k_is); (case i_NoPlace_LoneError => k_is); (case i_NotPlain_LoneError => k_is); (case i_TooMany_LoneError => k_is)
