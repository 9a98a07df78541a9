import PyProof.Rows.All
import Wide.All
import OpenK.AllK
import Wide.FinOn
import HandS.ForMost
import HandS.IsInst
import HandS.Deep
import HandS.Small
import HandS.SortInts
import HandS.Conv
import HandS.Style
import HandS.SortRule
import HandS.Exc
import HandS.DictComp
import HandS.TupSets
import HandS.SetFor
import HandS.Set
import HandS.Strs
import KE.SortData
import KE.DataMinMax
import HandS.NoneIn
import HandS.Dict
import HandS.ExcOwn
import HandS.ExcField
import HandS.WordsExc
import KE.KExcSuper
import KE.KExcIs
import PySem.Challenge.RW_uncrossed_k00_webs_that_are_refused
set_option Elab.async false
set_option linter.all false
set_option maxRecDepth 100000
set_option maxHeartbeats 4000000
/-! T0: values as trees. A list, a dict, an instance bears a mark: true, it is owned by the one that holds it, and may be changed; false, it is never changed again. -/
namespace TL
open PySem L2

inductive D where
  | non | bl (b : Bool) | int (i : Int) | str (x : Str)
  | tup (ds : List D)
  | lst (o : Bool) (ds : List D)
  | dK (o : Bool) (ks : List Key) (ds : List D)
  | dT (o : Bool) (ks : List (List Key)) (ds : List D)
  | ins (o : Bool) (C : Addr) (fs : List Str) (ds : List D)
  deriving Inhabited

mutual
def D.fz : D → D
  | .non => .non
  | .bl b => .bl b
  | .int i => .int i
  | .str x => .str x
  | .tup ds => .tup (D.fzs ds)
  | .lst _ ds => .lst false (D.fzs ds)
  | .dK _ ks ds => .dK false ks (D.fzs ds)
  | .dT _ ks ds => .dT false ks (D.fzs ds)
  | .ins _ C fs ds => .ins false C fs (D.fzs ds)
def D.fzs : List D → List D
  | [] => []
  | d :: ds => D.fz d :: D.fzs ds
end
mutual
def D.isFz : D → Bool
  | .non => true
  | .bl _ => true
  | .int _ => true
  | .str _ => true
  | .tup ds => D.isFzs ds
  | .lst o ds => !o && D.isFzs ds
  | .dK o _ ds => !o && D.isFzs ds
  | .dT o _ ds => !o && D.isFzs ds
  | .ins o _ _ ds => !o && D.isFzs ds
def D.isFzs : List D → Bool
  | [] => true
  | d :: ds => D.isFz d && D.isFzs ds
end
theorem D.fzs_map : ∀ ds : List D, D.fzs ds = ds.map D.fz
  | [] => rfl
  | d :: ds => by rw [D.fzs, D.fzs_map ds, List.map_cons]
theorem D.isFzs_all : ∀ ds : List D, D.isFzs ds = ds.all D.isFz
  | [] => rfl
  | d :: ds => by rw [D.isFzs, D.isFzs_all ds, List.all_cons]
mutual
theorem D.fz_isFz : ∀ d : D, d.fz.isFz = true
  | .non => rfl
  | .bl _ => rfl
  | .int _ => rfl
  | .str _ => rfl
  | .tup ds => by rw [D.fz, D.isFz, D.fzs_isFz ds]
  | .lst _ ds => by rw [D.fz, D.isFz, D.fzs_isFz ds]; rfl
  | .dK _ _ ds => by rw [D.fz, D.isFz, D.fzs_isFz ds]; rfl
  | .dT _ _ ds => by rw [D.fz, D.isFz, D.fzs_isFz ds]; rfl
  | .ins _ _ _ ds => by rw [D.fz, D.isFz, D.fzs_isFz ds]; rfl
theorem D.fzs_isFz : ∀ ds : List D, D.isFzs (D.fzs ds) = true
  | [] => rfl
  | d :: ds => by rw [D.fzs, D.isFzs, D.fz_isFz d, D.fzs_isFz ds]; rfl
end
mutual
theorem D.isFz_fz : ∀ d : D, d.isFz = true → d.fz = d
  | .non, _ => rfl
  | .bl _, _ => rfl
  | .int _, _ => rfl
  | .str _, _ => rfl
  | .tup ds, h => by rw [D.isFz] at h; rw [D.fz, D.isFzs_fzs ds h]
  | .lst o ds, h => by rw [D.isFz, Bool.and_eq_true] at h; rw [D.fz, D.isFzs_fzs ds h.2]; cases o <;> simp_all
  | .dK o _ ds, h => by rw [D.isFz, Bool.and_eq_true] at h; rw [D.fz, D.isFzs_fzs ds h.2]; cases o <;> simp_all
  | .dT o _ ds, h => by rw [D.isFz, Bool.and_eq_true] at h; rw [D.fz, D.isFzs_fzs ds h.2]; cases o <;> simp_all
  | .ins o _ _ ds, h => by rw [D.isFz, Bool.and_eq_true] at h; rw [D.fz, D.isFzs_fzs ds h.2]; cases o <;> simp_all
theorem D.isFzs_fzs : ∀ ds : List D, D.isFzs ds = true → D.fzs ds = ds
  | [], _ => rfl
  | d :: ds, h => by rw [D.isFzs, Bool.and_eq_true] at h; rw [D.fzs, D.isFz_fz d h.1, D.isFzs_fzs ds h.2]
end

/-! ### how a value bears a tree: F the objects that are owned in it, Z those that are never changed again -/
/-- a sequence object that never changes again -/
def FL (K : PySem.W.Frag) (Z : Addr → Prop) (H : Hp) (a : Addr) (vs : List V) : Prop := Z a ∧ Rd H a (.lst vs)
theorem FL.sq {K : PySem.W.Frag} {Z : Addr → Prop} {H : Hp} {a : Addr} {vs : List V} (h : FL K Z H a vs) : SqL K H a vs := by
  exact .inl h.2
mutual
def Own (K : PySem.W.Frag) (Z : Addr → Prop) (H : Hp) : D → List Addr → V → Prop
  | .non, F, v => v = .non ∧ F = []
  | .bl b, F, v => v = .bl b ∧ F = []
  | .int i, F, v => v = .int i ∧ F = []
  | .str x, F, v => v = .str x ∧ F = []
  | .tup ds, F, v => ∃ a vs, v = .ref a ∧ H a = some (.tup vs) ∧ Owns K Z H ds F vs
  | .lst false ds, F, v => ∃ a vs, v = .ref a ∧ FL K Z H a vs ∧ F = [] ∧ Owns K Z H ds [] vs
  | .lst true ds, F, v => ∃ a vs G, v = .ref a ∧ H a = some (.lst vs) ∧ F = a :: G ∧ Owns K Z H ds G vs
  | .dK false ks ds, F, v => ∃ a kvs, v = .ref a ∧ Z a ∧ Rd H a (.dK kvs) ∧ kvs.map (·.1) = ks ∧ F = [] ∧ Owns K Z H ds [] (kvs.map (·.2))
  | .dK true ks ds, F, v => ∃ a kvs G, v = .ref a ∧ H a = some (.dK kvs) ∧ kvs.map (·.1) = ks ∧ F = a :: G ∧ Owns K Z H ds G (kvs.map (·.2))
  | .dT false ks ds, F, v => ∃ a kvs, v = .ref a ∧ Z a ∧ Rd H a (.dT kvs) ∧ kvs.map (·.1) = ks ∧ F = [] ∧ Owns K Z H ds [] (kvs.map (·.2))
  | .dT true ks ds, F, v => ∃ a kvs G, v = .ref a ∧ H a = some (.dT kvs) ∧ kvs.map (·.1) = ks ∧ F = a :: G ∧ Owns K Z H ds G (kvs.map (·.2))
  | .ins false C fs ds, F, v => ∃ a dx kvs, v = .ref a ∧ Z a ∧ H a = some (.ins C dx kvs) ∧ kvs.map (·.1) = fs ∧ F = [] ∧ Owns K Z H ds [] (kvs.map (·.2))
  | .ins true C fs ds, F, v => ∃ a dx kvs G, v = .ref a ∧ H a = some (.ins C dx kvs) ∧ kvs.map (·.1) = fs ∧ F = a :: G ∧ Owns K Z H ds G (kvs.map (·.2))
def Owns (K : PySem.W.Frag) (Z : Addr → Prop) (H : Hp) : List D → List Addr → List V → Prop
  | [], F, vs => vs = [] ∧ F = []
  | d :: ds, F, vs => ∃ v ws F1 F2, vs = v :: ws ∧ F = F1 ++ F2 ∧ Own K Z H d F1 v ∧ Owns K Z H ds F2 ws
end
section
variable {K : PySem.W.Frag} {Z Z' : Addr → Prop} {H H' : Hp}

/-- what keeps a tree: the objects in F as they are, those of Z to be read as before, tuples -/
structure Keep (Z Z' : Addr → Prop) (H H' : Hp) (F : List Addr) : Prop where
  z : ∀ a, Z a → Z' a
  rd : ∀ a u, Z a → Rd H a u → Rd H' a u
  ins : ∀ a C dx fs, Z a → H a = some (.ins C dx fs) → H' a = some (.ins C dx fs)
  own : ∀ a o, a ∈ F → H a = some o → H' a = some o
  tup : ∀ a xs, H a = some (.tup xs) → H' a = some (.tup xs)
theorem Keep.sub {F G : List Addr} (k : Keep Z Z' H H' F) (h : ∀ a ∈ G, a ∈ F) : Keep Z Z' H H' G := ⟨k.z, k.rd, k.ins, fun a o m => k.own a o (h a m), k.tup⟩
theorem FL.keep {F : List Addr} {a : Addr} {vs : List V} (k : Keep Z Z' H H' F) (h : FL K Z H a vs) : FL K Z' H' a vs := by
  exact ⟨k.z a h.1, k.rd a _ h.1 h.2⟩
mutual
theorem Own.keep : ∀ {d : D} {F : List Addr} {v : V}, Keep Z Z' H H' F → Own K Z H d F v → Own K Z' H' d F v
  | .non, _, _, _, h => by simpa [Own] using h
  | .bl _, _, _, _, h => by simpa [Own] using h
  | .int _, _, _, _, h => by simpa [Own] using h
  | .str _, _, _, _, h => by simpa [Own] using h
  | .tup ds, _, _, k, h => by
    simp only [Own] at h ⊢
    obtain ⟨a, vs, e, s, o⟩ := h
    exact ⟨a, vs, e, k.tup a _ s, Owns.keep k o⟩
  | .lst false ds, _, _, k, h => by
    simp only [Own] at h ⊢
    obtain ⟨a, vs, e, s, f, o⟩ := h
    exact ⟨a, vs, e, s.keep k, f, Owns.keep (k.sub (by simp)) o⟩
  | .lst true ds, _, _, k, h => by
    simp only [Own] at h ⊢
    obtain ⟨a, vs, G, e, s, rfl, o⟩ := h
    exact ⟨a, vs, G, e, k.own a _ (by simp) s, rfl, Owns.keep (k.sub (fun b m => List.mem_cons_of_mem _ m)) o⟩
  | .dK false ks ds, _, _, k, h => by
    simp only [Own] at h ⊢
    obtain ⟨a, kvs, e, z, s, q, f, o⟩ := h
    exact ⟨a, kvs, e, k.z a z, k.rd a _ z s, q, f, Owns.keep (k.sub (by simp)) o⟩
  | .dK true ks ds, _, _, k, h => by
    simp only [Own] at h ⊢
    obtain ⟨a, kvs, G, e, s, q, rfl, o⟩ := h
    exact ⟨a, kvs, G, e, k.own a _ (by simp) s, q, rfl, Owns.keep (k.sub (fun b m => List.mem_cons_of_mem _ m)) o⟩
  | .dT false ks ds, _, _, k, h => by
    simp only [Own] at h ⊢
    obtain ⟨a, kvs, e, z, s, q, f, o⟩ := h
    exact ⟨a, kvs, e, k.z a z, k.rd a _ z s, q, f, Owns.keep (k.sub (by simp)) o⟩
  | .dT true ks ds, _, _, k, h => by
    simp only [Own] at h ⊢
    obtain ⟨a, kvs, G, e, s, q, rfl, o⟩ := h
    exact ⟨a, kvs, G, e, k.own a _ (by simp) s, q, rfl, Owns.keep (k.sub (fun b m => List.mem_cons_of_mem _ m)) o⟩
  | .ins false C fs ds, _, _, k, h => by
    simp only [Own] at h ⊢
    obtain ⟨a, dx, kvs, e, z, s, q, f, o⟩ := h
    exact ⟨a, dx, kvs, e, k.z a z, k.ins a _ _ _ z s, q, f, Owns.keep (k.sub (by simp)) o⟩
  | .ins true C fs ds, _, _, k, h => by
    simp only [Own] at h ⊢
    obtain ⟨a, dx, kvs, G, e, s, q, rfl, o⟩ := h
    exact ⟨a, dx, kvs, G, e, k.own a _ (by simp) s, q, rfl, Owns.keep (k.sub (fun b m => List.mem_cons_of_mem _ m)) o⟩
theorem Owns.keep : ∀ {ds : List D} {F : List Addr} {vs : List V}, Keep Z Z' H H' F → Owns K Z H ds F vs → Owns K Z' H' ds F vs
  | [], _, _, _, h => by simpa [Owns] using h
  | d :: ds, _, _, k, h => by
    simp only [Owns] at h ⊢
    obtain ⟨v, ws, F1, F2, e, rfl, o1, o2⟩ := h
    exact ⟨v, ws, F1, F2, e, rfl, Own.keep (k.sub fun a m => List.mem_append_left _ m) o1, Owns.keep (k.sub fun a m => List.mem_append_right _ m) o2⟩
end
-- what is owned stands there and may be changed
mutual
theorem Own.here : ∀ {d : D} {F : List Addr} {v : V}, Own K Z H d F v → ∀ a ∈ F, Mut (H a)
  | .non, _, _, h, a, m => by simp only [Own] at h; rw [h.2] at m; cases m
  | .bl _, _, _, h, a, m => by simp only [Own] at h; rw [h.2] at m; cases m
  | .int _, _, _, h, a, m => by simp only [Own] at h; rw [h.2] at m; cases m
  | .str _, _, _, h, a, m => by simp only [Own] at h; rw [h.2] at m; cases m
  | .tup ds, _, _, h, a, m => by
    simp only [Own] at h
    obtain ⟨b, vs, e, s, o⟩ := h
    exact Owns.here o a m
  | .lst false ds, _, _, h, a, m => by
    simp only [Own] at h
    obtain ⟨b, vs, e, s, rfl, o⟩ := h
    cases m
  | .lst true ds, _, _, h, a, m => by
    simp only [Own] at h
    obtain ⟨b, vs, G, e, s, rfl, o⟩ := h
    rcases List.mem_cons.mp m with rfl | m
    · rw [s]; trivial
    · exact Owns.here o a m
  | .dK false ks ds, _, _, h, a, m => by
    simp only [Own] at h
    obtain ⟨b, kvs, e, z, s, q, rfl, o⟩ := h
    cases m
  | .dK true ks ds, _, _, h, a, m => by
    simp only [Own] at h
    obtain ⟨b, kvs, G, e, s, q, rfl, o⟩ := h
    rcases List.mem_cons.mp m with rfl | m
    · rw [s]; trivial
    · exact Owns.here o a m
  | .dT false ks ds, _, _, h, a, m => by
    simp only [Own] at h
    obtain ⟨b, kvs, e, z, s, q, rfl, o⟩ := h
    cases m
  | .dT true ks ds, _, _, h, a, m => by
    simp only [Own] at h
    obtain ⟨b, kvs, G, e, s, q, rfl, o⟩ := h
    rcases List.mem_cons.mp m with rfl | m
    · rw [s]; trivial
    · exact Owns.here o a m
  | .ins false C fs ds, _, _, h, a, m => by
    simp only [Own] at h
    obtain ⟨b, dx, kvs, e, z, s, q, rfl, o⟩ := h
    cases m
  | .ins true C fs ds, _, _, h, a, m => by
    simp only [Own] at h
    obtain ⟨b, dx, kvs, G, e, s, q, rfl, o⟩ := h
    rcases List.mem_cons.mp m with rfl | m
    · rw [s]; trivial
    · exact Owns.here o a m
theorem Owns.here : ∀ {ds : List D} {F : List Addr} {vs : List V}, Owns K Z H ds F vs → ∀ a ∈ F, Mut (H a)
  | [], _, _, h, a, m => by simp only [Owns] at h; rw [h.2] at m; cases m
  | d :: ds, _, _, h, a, m => by
    simp only [Owns] at h
    obtain ⟨v, ws, F1, F2, e, rfl, o1, o2⟩ := h
    rcases List.mem_append.mp m with m | m
    · exact Own.here o1 a m
    · exact Owns.here o2 a m
end
-- what is frozen owns nothing
mutual
theorem Own.nil : ∀ {d : D} {F : List Addr} {v : V}, d.isFz = true → Own K Z H d F v → F = []
  | .non, _, _, _, h => by simp only [Own] at h; exact h.2
  | .bl _, _, _, _, h => by simp only [Own] at h; exact h.2
  | .int _, _, _, _, h => by simp only [Own] at h; exact h.2
  | .str _, _, _, _, h => by simp only [Own] at h; exact h.2
  | .tup ds, _, _, f, h => by
    simp only [Own] at h
    obtain ⟨b, vs, e, s, o⟩ := h
    rw [D.isFz] at f
    exact Owns.nil f o
  | .lst false ds, _, _, _, h => by simp only [Own] at h; obtain ⟨_, _, _, _, e, _⟩ := h; exact e
  | .lst true ds, _, _, f, _ => by simp [D.isFz] at f
  | .dK false ks ds, _, _, _, h => by simp only [Own] at h; obtain ⟨_, _, _, _, _, _, e, _⟩ := h; exact e
  | .dK true ks ds, _, _, f, _ => by simp [D.isFz] at f
  | .dT false ks ds, _, _, _, h => by simp only [Own] at h; obtain ⟨_, _, _, _, _, _, e, _⟩ := h; exact e
  | .dT true ks ds, _, _, f, _ => by simp [D.isFz] at f
  | .ins false C fs ds, _, _, _, h => by simp only [Own] at h; obtain ⟨_, _, _, _, _, _, _, e, _⟩ := h; exact e
  | .ins true C fs ds, _, _, f, _ => by simp [D.isFz] at f
theorem Owns.nil : ∀ {ds : List D} {F : List Addr} {vs : List V}, D.isFzs ds = true → Owns K Z H ds F vs → F = []
  | [], _, _, _, h => by simp only [Owns] at h; exact h.2
  | d :: ds, _, _, f, h => by
    simp only [Owns] at h
    obtain ⟨v, ws, F1, F2, e, rfl, o1, o2⟩ := h
    rw [D.isFzs, Bool.and_eq_true] at f
    rw [Own.nil f.1 o1, Owns.nil f.2 o2]
    rfl
end
-- what owns nothing is frozen
mutual
theorem Own.fz : ∀ {d : D} {F : List Addr} {v : V}, Own K Z H d F v → (∀ a, Z a → Z' a) → (∀ a ∈ F, Z' a) → Own K Z' H d.fz [] v
  | .non, _, _, h, _, _ => by simp only [Own] at h; simp only [D.fz, Own, and_true]; exact h.1
  | .bl _, _, _, h, _, _ => by simp only [Own] at h; simp only [D.fz, Own, and_true]; exact h.1
  | .int _, _, _, h, _, _ => by simp only [Own] at h; simp only [D.fz, Own, and_true]; exact h.1
  | .str _, _, _, h, _, _ => by simp only [Own] at h; simp only [D.fz, Own, and_true]; exact h.1
  | .tup ds, _, _, h, k, g => by
    simp only [Own] at h
    simp only [D.fz, Own, true_and, and_true]
    obtain ⟨b, vs, e, s, o⟩ := h
    exact ⟨b, vs, e, s, Owns.fz o k g⟩
  | .lst false ds, _, _, h, k, g => by
    simp only [Own] at h
    simp only [D.fz, Own, true_and, and_true]
    obtain ⟨b, vs, e, s, f, o⟩ := h
    exact ⟨b, vs, e, ⟨k _ s.1, s.2⟩, Owns.fz o k (by simp)⟩
  | .lst true ds, _, _, h, k, g => by
    simp only [Own] at h
    simp only [D.fz, Own, true_and, and_true]
    obtain ⟨b, vs, G, e, s, rfl, o⟩ := h
    exact ⟨b, vs, e, ⟨g b (by simp), .of s⟩, Owns.fz o k fun a m => g a (List.mem_cons_of_mem _ m)⟩
  | .dK false ks ds, _, _, h, k, g => by
    simp only [Own] at h
    simp only [D.fz, Own, true_and, and_true]
    obtain ⟨b, kvs, e, z, s, q, f, o⟩ := h
    exact ⟨b, kvs, e, k _ z, s, q, Owns.fz o k (by simp)⟩
  | .dK true ks ds, _, _, h, k, g => by
    simp only [Own] at h
    simp only [D.fz, Own, true_and, and_true]
    obtain ⟨b, kvs, G, e, s, q, rfl, o⟩ := h
    exact ⟨b, kvs, e, g b (by simp), .of s, q, Owns.fz o k fun a m => g a (List.mem_cons_of_mem _ m)⟩
  | .dT false ks ds, _, _, h, k, g => by
    simp only [Own] at h
    simp only [D.fz, Own, true_and, and_true]
    obtain ⟨b, kvs, e, z, s, q, f, o⟩ := h
    exact ⟨b, kvs, e, k _ z, s, q, Owns.fz o k (by simp)⟩
  | .dT true ks ds, _, _, h, k, g => by
    simp only [Own] at h
    simp only [D.fz, Own, true_and, and_true]
    obtain ⟨b, kvs, G, e, s, q, rfl, o⟩ := h
    exact ⟨b, kvs, e, g b (by simp), .of s, q, Owns.fz o k fun a m => g a (List.mem_cons_of_mem _ m)⟩
  | .ins false C fs ds, _, _, h, k, g => by
    simp only [Own] at h
    simp only [D.fz, Own, true_and, and_true]
    obtain ⟨b, dx, kvs, e, z, s, q, f, o⟩ := h
    exact ⟨b, dx, kvs, e, k _ z, s, q, Owns.fz o k (by simp)⟩
  | .ins true C fs ds, _, _, h, k, g => by
    simp only [Own] at h
    simp only [D.fz, Own, true_and, and_true]
    obtain ⟨b, dx, kvs, G, e, s, q, rfl, o⟩ := h
    exact ⟨b, dx, kvs, e, g b (by simp), s, q, Owns.fz o k fun a m => g a (List.mem_cons_of_mem _ m)⟩
theorem Owns.fz : ∀ {ds : List D} {F : List Addr} {vs : List V}, Owns K Z H ds F vs → (∀ a, Z a → Z' a) → (∀ a ∈ F, Z' a) → Owns K Z' H (D.fzs ds) [] vs
  | [], _, _, h, _, _ => by simp only [Owns] at h; simp only [D.fzs, Owns, and_true]; exact h.1
  | d :: ds, _, _, h, k, g => by
    simp only [Owns] at h
    simp only [D.fzs, Owns]
    obtain ⟨v, ws, F1, F2, e, rfl, o1, o2⟩ := h
    exact ⟨v, ws, [], [], e, rfl, Own.fz o1 k fun a m => g a (List.mem_append_left _ m), Owns.fz o2 k fun a m => g a (List.mem_append_right _ m)⟩
end
theorem Owns.length : ∀ {ds : List D} {F : List Addr} {vs : List V}, Owns K Z H ds F vs → ds.length = vs.length
  | [], _, _, h => by simp only [Owns] at h; rw [h.1]; rfl
  | d :: ds, _, _, h => by
    simp only [Owns] at h
    obtain ⟨v, ws, F1, F2, rfl, rfl, o1, o2⟩ := h
    rw [List.length_cons, List.length_cons, Owns.length o2]
/-- an element -/
theorem Owns.get : ∀ {ds : List D} {F : List Addr} {vs : List V} {i : Nat} {d : D}, Owns K Z H ds F vs → ds[i]? = some d → ∃ v G, vs[i]? = some v ∧ Own K Z H d G v ∧ G.Sublist F
  | [], _, _, _, _, _, e => by simp at e
  | d :: ds, _, _, 0, _, h, e => by
    simp only [Owns] at h
    obtain ⟨v, ws, F1, F2, rfl, rfl, o1, o2⟩ := h
    simp at e
    subst e
    exact ⟨v, F1, rfl, o1, List.sublist_append_left _ _⟩
  | d :: ds, _, _, i + 1, _, h, e => by
    simp only [Owns] at h
    obtain ⟨v, ws, F1, F2, rfl, rfl, o1, o2⟩ := h
    obtain ⟨u, G, q1, q2, q3⟩ := Owns.get (i := i) o2 (by simpa using e)
    exact ⟨u, G, by simpa using q1, q2, q3.trans (List.sublist_append_right _ _)⟩
theorem Owns.getV : ∀ {ds : List D} {F : List Addr} {vs : List V} {i : Nat} {v : V}, Owns K Z H ds F vs → vs[i]? = some v → ∃ d G, ds[i]? = some d ∧ Own K Z H d G v ∧ G.Sublist F := fun {ds F vs i v} h e => by
  have hl := h.length
  have hi : i < ds.length := by rw [hl]; exact (List.getElem?_eq_some_iff.mp e).1
  obtain ⟨u, G, q1, q2, q3⟩ := h.get (i := i) (d := ds[i]) (by simp [hi])
  rw [e] at q1; cases q1
  exact ⟨_, G, by simp [hi], q2, q3⟩
theorem Owns.append : ∀ {ds es : List D} {F G : List Addr} {vs ws : List V}, Owns K Z H ds F vs → Owns K Z H es G ws → Owns K Z H (ds ++ es) (F ++ G) (vs ++ ws)
  | [], _, _, _, _, _, h, k => by simp only [Owns] at h; obtain ⟨rfl, rfl⟩ := h; exact k
  | d :: ds, _, _, _, _, _, h, k => by
    simp only [Owns] at h
    obtain ⟨v, us, F1, F2, rfl, rfl, o1, o2⟩ := h
    simp only [List.cons_append, Owns]
    exact ⟨v, us ++ _, F1, F2 ++ _, rfl, by rw [List.append_assoc], o1, Owns.append o2 k⟩
theorem Owns.one {d : D} {F : List Addr} {v : V} (h : Own K Z H d F v) : Owns K Z H [d] F [v] := by
  simp only [Owns]
  exact ⟨v, [], F, [], rfl, by simp, h, rfl, rfl⟩
end
end TL
set_option Elab.async false
set_option linter.all false
set_option maxRecDepth 100000
set_option maxHeartbeats 4000000
/-! T1: the relation between a frame's trees and the machine's heap; the judgements; expressions. -/
namespace TL
open PySem L2

/-- a frame's trees -/
abbrev En := List (Option D)
/-- what each slot owns -/
abbrev Fp := Nat → List Addr
abbrev M (α : Type) := En → Option (α × En)
/-- how a statement ends; ex: an exception of the class named c, its field n holds d -/
inductive Fl | nx | bk | ct | rt (d : D) | ex (c n : Str) (d : D)

structure Rel (K : PySem.W.Frag) (Z : Addr → Prop) (F : Fp) (δ : En) (σ : St) (H : Hp) : Prop where
  val : ∀ i d, δ[i]? = some (some d) → ∃ v, σ[i]? = some (some v) ∧ Own K Z H d (F i) v
  emp : ∀ i, (∀ d, δ[i]? ≠ some (some d)) → F i = []
  nd : ∀ i, (F i).Nodup
  dis : ∀ i j a, a ∈ F i → a ∈ F j → i = j
  zd : ∀ i a, a ∈ F i → ¬ Z a
  zh : ∀ a, Z a → ∃ o, H a = some o
  len : δ.length = σ.length

/-- what has happened to the heap: nothing but what the slots own, and new objects -/
structure Fr (Z : Addr → Prop) (F : Fp) (H : Hp) (Z' : Addr → Prop) (F' : Fp) (H' : Hp) : Prop where
  out : ∀ a o, H a = some o → (∀ i, a ∉ F i) → H' a = some o
  here : ∀ a o, H a = some o → ∃ o', H' a = some o'
  zup : ∀ a, Z a → Z' a
  znew : ∀ a, Z' a → Z a ∨ H a = none ∨ ∃ i, a ∈ F i
  fnew : ∀ i a, a ∈ F' i → H a = none ∨ ∃ j, a ∈ F j
/-- what a result owns is its own -/
structure New (F : Fp) (H : Hp) (Z' : Addr → Prop) (F' : Fp) (G : List Addr) : Prop where
  nd : G.Nodup
  zd : ∀ a ∈ G, ¬ Z' a
  fd : ∀ a ∈ G, ∀ i, a ∉ F' i
  from' : ∀ a ∈ G, H a = none ∨ ∃ i, a ∈ F i
/-- but for the slots in t all is as it was -/
structure Tch (t : List Nat) (F : Fp) (δ : En) (H : Hp) (F' : Fp) (δ' : En) (H' : Hp) : Prop where
  len : δ'.length = δ.length
  en : ∀ i, i ∉ t → δ'[i]? = δ[i]?
  fp : ∀ i, i ∉ t → F' i = F i
  at' : ∀ i a, i ∉ t → a ∈ F i → H' a = H a
theorem Tch.refl {t : List Nat} {F : Fp} {δ : En} {H : Hp} : Tch t F δ H F δ H := ⟨rfl, fun _ _ => rfl, fun _ _ => rfl, fun _ _ _ _ => rfl⟩
theorem Tch.trans {t1 t2 : List Nat} {F F1 F2 : Fp} {δ δ1 δ2 : En} {H H1 H2 : Hp} (a : Tch t1 F δ H F1 δ1 H1) (b : Tch t2 F1 δ1 H1 F2 δ2 H2) : Tch (t1 ++ t2) F δ H F2 δ2 H2 where
  len := b.len.trans a.len
  en := fun i n => (b.en i fun m => n (List.mem_append_right _ m)).trans (a.en i fun m => n (List.mem_append_left _ m))
  fp := fun i n => (b.fp i fun m => n (List.mem_append_right _ m)).trans (a.fp i fun m => n (List.mem_append_left _ m))
  at' := fun i p n m => by
    have n1 : i ∉ t1 := fun m => n (List.mem_append_left _ m)
    have n2 : i ∉ t2 := fun m => n (List.mem_append_right _ m)
    rw [b.at' i p n2 (by rw [a.fp i n1]; exact m), a.at' i p n1 m]
theorem Tch.mono {t1 t2 : List Nat} {F F1 : Fp} {δ δ1 : En} {H H1 : Hp} (a : Tch t1 F δ H F1 δ1 H1) (h : ∀ i ∈ t1, i ∈ t2) : Tch t2 F δ H F1 δ1 H1 :=
  ⟨a.len, fun i n => a.en i fun m => n (h i m), fun i n => a.fp i fun m => n (h i m), fun i p n => a.at' i p fun m => n (h i m)⟩
section
variable {K : PySem.W.Frag} {Z Z' Z1 Z2 : Addr → Prop} {F F' F1 F2 : Fp} {δ δ' δ1 : En} {σ σ' : St} {H H' H1 H2 : Hp}
theorem Fr.refl : Fr Z F H Z F H := ⟨fun _ _ h _ => h, fun _ o h => ⟨o, h⟩, fun _ h => h, fun _ h => .inl h, fun i _ h => .inr ⟨i, h⟩⟩
theorem Fr.trans (a : Fr Z F H Z1 F1 H1) (b : Fr Z1 F1 H1 Z2 F2 H2) : Fr Z F H Z2 F2 H2 where
  out := fun p o h n => b.out p o (a.out p o h n) fun i m => by
    rcases a.fnew i p m with e | ⟨j, e⟩
    · rw [h] at e; cases e
    · exact n j e
  here := fun p o h => by
    obtain ⟨o', h'⟩ := a.here p o h
    exact b.here p o' h'
  zup := fun p h => b.zup p (a.zup p h)
  znew := fun p h => by
    rcases b.znew p h with h | h | ⟨i, h⟩
    · exact a.znew p h
    · cases e : H p with
      | none => exact .inr (.inl rfl)
      | some o =>
        obtain ⟨o', h'⟩ := a.here p o e
        rw [h] at h'; cases h'
    · exact .inr (a.fnew i p h)
  fnew := fun i p h => by
    rcases b.fnew i p h with h | ⟨j, h⟩
    · cases e : H p with
      | none => exact .inl rfl
      | some o =>
        obtain ⟨o', h'⟩ := a.here p o e
        rw [h] at h'; cases h'
    · exact a.fnew j p h
theorem Rel.mut (r : Rel K Z F δ σ H) {i : Nat} {a : Addr} (m : a ∈ F i) : Mut (H a) := by
  by_cases h : ∃ d, δ[i]? = some (some d)
  · obtain ⟨d, h⟩ := h
    obtain ⟨v, _, o⟩ := r.val i d h
    exact o.here a m
  · rw [r.emp i fun d e => h ⟨d, e⟩] at m; cases m
/-- the frame keeps what is not in the slots -/
theorem Fr.keep (r : Rel K Z F δ σ H) (f : Fr Z F H Z' F' H') {G : List Addr} (g : ∀ a ∈ G, ∀ i, a ∉ F i) : Keep Z Z' H H' G where
  z := f.zup
  rd := fun a u z h => by
    have n : ∀ i, a ∉ F i := fun i m => r.zd i a m z
    rcases h with h | ⟨o, h⟩
    · exact .inl (f.out _ _ h n)
    · exact .inr ⟨o, f.out _ _ h n⟩
  ins := fun a C dx fs z h => f.out _ _ h fun i m => r.zd i a m z
  own := fun a o m h => f.out a o h (g a m)
  tup := fun a xs h => f.out _ _ h fun i m => by have := r.mut m; rw [h] at this; exact this
/-- nothing changed: everything is kept -/
theorem same_keep (s : Same H H') (z : ∀ a, Z a → Z' a) (G : List Addr) : Keep Z Z' H H' G :=
  ⟨z, fun a u _ h => h.imp (s a _) fun ⟨o, h⟩ => ⟨o, s a _ h⟩, fun a C dx fs _ h => s _ _ h, fun a o _ h => s a o h, fun a xs h => s a _ h⟩
theorem Tch.nil (r : Rel K Z F δ σ H) (f : Fr Z F H Z' F' H') (a : Tch [] F δ H F' δ' H') : δ' = δ ∧ F' = F ∧ Same H H' := by
  refine ⟨?_, ?_, fun p o h => ?_⟩
  · exact List.ext_getElem? fun i => a.en i (by simp)
  · funext i
    exact a.fp i (by simp)
  · by_cases m : ∃ i, p ∈ F i
    · obtain ⟨i, m⟩ := m
      rw [a.at' i p (by simp) m]
      exact h
    · exact f.out p o h fun i mi => m ⟨i, mi⟩
/-- behind an expression, a value of before still stands -/
theorem hold {t : List Nat} {fr : Bool} (r : Rel K Z F δ σ H) (f : Fr Z F H Z' F' H') (pu : Tch t F δ H F' δ' H') {G : List Addr} (hn : fr = true → ∀ a ∈ G, ∀ i, a ∉ F i) (c : (t.isEmpty || fr) = true) : Keep Z Z' H H' G := by
  cases t with
  | nil => exact same_keep (Tch.nil r f pu).2.2 f.zup G
  | cons a t => exact f.keep r (hn (by simpa using c))
theorem Tch.more {t : List Nat} (r : Rel K Z F δ σ H) (a : Tch t F δ H F' δ' H') (s : Same H' H2) : Tch t F δ H F' δ' H2 :=
  ⟨a.len, a.en, a.fp, fun i p n m => by
    have q := a.at' i p n m
    have mu := r.mut m
    cases e : H p with
    | none => rw [e] at mu; exact mu.elim
    | some o =>
      rw [e] at q
      exact s p o q⟩

/-- new objects: the frame's trees stand -/
theorem Rel.grow (r : Rel K Z F δ σ H) (s : Same H H') (zu : ∀ a, Z a → Z' a) (zn : ∀ a, Z' a → Z a ∨ ∀ i, a ∉ F i) (zh : ∀ a, Z' a → ∃ o, H' a = some o) : Rel K Z' F δ σ H' where
  val := fun i d e => by
    obtain ⟨v, e1, o⟩ := r.val i d e
    exact ⟨v, e1, o.keep (same_keep s zu _)⟩
  emp := r.emp
  nd := r.nd
  dis := r.dis
  zd := fun i a m z => by
    rcases zn a z with z | z
    · exact r.zd i a m z
    · exact z i m
  zh := zh
  len := r.len
theorem Rel.ne_new (r : Rel K Z F δ σ H) {a : Addr} (h : H a = none) (i : Nat) : a ∉ F i := fun m => by
  have := r.mut m
  rw [h] at this
  exact this
theorem same_upd {a : Addr} {o : HO} (h : H a = none) : Same H (upd H a o) := fun b u e => by rw [upd_ne (ne_of_none e h)]; exact e
/-- a new object -/
theorem Rel.new (r : Rel K Z F δ σ H) {a : Addr} {o : HO} (h : H a = none) : Rel K Z F δ σ (upd H a o) :=
  r.grow (same_upd h) (fun _ z => z) (fun _ z => .inl z) fun b z => by
    obtain ⟨u, e⟩ := r.zh b z
    exact ⟨u, same_upd h b u e⟩
theorem Fr.new {a : Addr} {o : HO} (h : H a = none) : Fr Z F H Z F (upd H a o) :=
  ⟨fun b u e _ => same_upd h b u e, fun b u e => ⟨u, same_upd h b u e⟩, fun _ z => z, fun _ z => .inl z, fun i _ m => .inr ⟨i, m⟩⟩
/-- a result's own objects are given up: they never change again -/
theorem Rel.freeze {G : List Addr} (r : Rel K Z F δ σ H) (g : ∀ a ∈ G, ∀ i, a ∉ F i) (gh : ∀ a ∈ G, ∃ o, H a = some o) : Rel K (fun a => Z a ∨ a ∈ G) F δ σ H :=
  r.grow (Same.refl H) (fun _ z => .inl z) (fun a z => z.imp id fun m => g a m) fun a z => z.elim (r.zh a) (gh a)
theorem New.nil : New F H Z' F' [] := ⟨List.nodup_nil, by simp, by simp, by simp⟩
/-- new ahead of what came before -/
theorem New.back {G : List Addr} (f : Fr Z F H Z1 F1 H1) (n : New F1 H1 Z' F' G) : New F H Z' F' G :=
  ⟨n.nd, n.zd, n.fd, fun a m => by
    rcases n.from' a m with e | ⟨i, e⟩
    · cases q : H a with
      | none => exact .inl rfl
      | some o =>
        obtain ⟨o', h'⟩ := f.here a o q
        rw [e] at h'; cases h'
    · exact f.fnew i a e⟩
theorem New.one {a : Addr} (r : Rel K Z F δ σ H) (h : H a = none) : New F H Z F [a] :=
  ⟨by simp, fun b m z => (by
    have e : b = a := by simpa using m
    subst e
    obtain ⟨o, q⟩ := r.zh b z
    rw [h] at q; cases q), fun b m i => (by
    have e : b = a := by simpa using m
    subst e
    exact r.ne_new h i), fun b m => (by
    have e : b = a := by simpa using m
    subst e
    exact .inl h)⟩
end

/-! ### judgements -/
/-- an expression's reading: p, it does nothing but make new objects; fr, what its value owns is its own -/
def tG (K : PySem.W.Frag) (t : List Nat) (fr : Bool) (m : M D) : TE := fun σ H Q => ∃ Z F δ d δ', Rel K Z F δ σ H ∧ m δ = some (d, δ') ∧
  ∀ v H' Z' F' G, Rel K Z' F' δ' σ H' → Fr Z F H Z' F' H' → Tch t F δ H F' δ' H' → Own K Z' H' d G v → (fr = true → New F H Z' F' G) → Q v H'
def tGt (K : PySem.W.Frag) (t : List Nat) (m : M Bool) : TT := fun σ H Q => ∃ Z F δ b δ', Rel K Z F δ σ H ∧ m δ = some (b, δ') ∧
  ∀ H' Z' F', Rel K Z' F' δ' σ H' → Fr Z F H Z' F' H' → Tch t F δ H F' δ' H' → Q b H'
def tGa (K : PySem.W.Frag) (t : List Nat) (m : M (List D)) : TA := fun σ H Q => ∃ Z F δ ds δ', Rel K Z F δ σ H ∧ m δ = some (ds, δ') ∧
  ∀ vs H' Z' F' G, Rel K Z' F' δ' σ H' → Fr Z F H Z' F' H' → Tch t F δ H F' δ' H' → Owns K Z' H' ds G vs → New F H Z' F' G → Q vs H'
abbrev DE (X : Cx) (e : Expr) (t : List Nat) (fr : Bool) (m : M D) : Prop := PE X e (tG X.K t fr m)
abbrev DT (X : Cx) (e : Expr) (t : List Nat) (m : M Bool) : Prop := PT X e (tGt X.K t m)
abbrev DA (X : Cx) (es : List Expr) (t : List Nat) (m : M (List D)) : Prop := PA X es (tGa X.K t m)

section
variable {X : Cx} {e : Expr}
theorem wE {t t' : TE} (h : PE X e t) (w : ∀ σ H Q, t' σ H Q → t σ H Q) : PE X e t' := ⟨fun pins s σ H Q I q => h.run pins s σ H Q I (w σ H Q q)⟩
theorem wT {t t' : TT} (h : PT X e t) (w : ∀ σ H Q, t' σ H Q → t σ H Q) : PT X e t' := ⟨fun pins s σ H Q I q => h.run pins s σ H Q I (w σ H Q q)⟩
theorem wA {es : List Expr} {t t' : TA} (h : PA X es t) (w : ∀ σ H Q, t' σ H Q → t σ H Q) : PA X es t' := ⟨fun pos pins s σ H Q I q => h.run pos pins s σ H Q I (w σ H Q q)⟩
end

/-! ### what the mirrors are made of -/
def mk {α : Type} (a : α) : M α := fun δ => some (a, δ)
def mbind {α β : Type} (m : M α) (f : α → M β) : M β := fun δ => (m δ).bind fun p => f p.1 p.2
def mopt {α : Type} (o : Option α) : M α := fun δ => o.map fun a => (a, δ)
def mvar (i : Nat) : M D := fun δ => match δ[i]? with
  | some (some d) => some (d, δ)
  | _ => none
/-- a value that owns nothing -/
def mval (m : M D) : M D := mbind m fun d => if d.isFz = true then mk d else fun _ => none
def mop1 (f : D → Option D) (a : M D) : M D := mbind a fun x => mopt (f x)
def mop2 (f : D → D → Option D) (a b : M D) : M D := mbind a fun x => mbind b fun y => mopt (f x y)
def mop3 (f : D → D → D → Option D) (a b c : M D) : M D := mbind a fun x => mbind b fun y => mbind c fun z => mopt (f x y z)
def mnil : M (List D) := mk []
def mcons (a : M D) (r : M (List D)) : M (List D) := mbind a fun x => mbind r fun xs => mk (x :: xs)
def mtup (r : M (List D)) : M D := mbind r fun xs => if xs.length ≤ sizeLine then mk (.tup xs) else fun _ => none
def mlst (r : M (List D)) : M D := mbind r fun xs => if xs.length ≤ sizeLine then mk (.lst true xs) else fun _ => none
def mtest (m : M D) : M Bool := mbind m fun d => match d with
  | .bl b => mk b
  | _ => fun _ => none
def mbool (m : M Bool) : M D := mbind m fun b => mk (.bl b)
def mand (a b : M Bool) : M Bool := mbind a fun c => if c = true then b else mk false
def mor (a b : M Bool) : M Bool := mbind a fun c => if c = true then mk true else b
def mnot (a : M Bool) : M Bool := mbind a fun c => mk (!c)
def mite {α : Type} (c : M Bool) (a b : M α) : M α := mbind c fun k => if k = true then a else b

theorem mbind_some {α β : Type} {m : M α} {f : α → M β} {δ : En} {r : β × En} : mbind m f δ = some r ↔ ∃ a δ1, m δ = some (a, δ1) ∧ f a δ1 = some r := by
  unfold mbind
  cases h : m δ with
  | none => simp
  | some p =>
    obtain ⟨a, δ1⟩ := p
    constructor
    · intro q
      exact ⟨a, δ1, rfl, q⟩
    · rintro ⟨b, δ2, e, q⟩
      cases e
      exact q
theorem mopt_some {α : Type} {o : Option α} {δ δ' : En} {a : α} : mopt o δ = some (a, δ') ↔ o = some a ∧ δ' = δ := by
  unfold mopt
  cases o with
  | none => simp
  | some b => simp [eq_comm]
theorem mk_some {α : Type} {a b : α} {δ δ' : En} : mk a δ = some (b, δ') ↔ a = b ∧ δ' = δ := by
  unfold mk
  simp [eq_comm]

section
variable {X : Cx} {e : Expr} {pos : Pos}
/-! ### names, constants -/
theorem de_var {i : Nat} (h : PE X e (tVar i)) : DE X e [] false (mvar i) := wE h fun σ H Q ⟨Z, F, δ, d, δ', r, e1, k⟩ => by
  unfold mvar at e1
  split at e1
  · rename_i d0 h0
    cases e1
    obtain ⟨v, e2, o⟩ := r.val i _ h0
    exact ⟨v, e2, k v H Z F (F i) r Fr.refl Tch.refl o (fun z => nomatch z)⟩
  · cases e1
/-- a constant: a value without an object -/
def flatD : V → Option D
  | .non => some .non
  | .bl b => some (.bl b)
  | .int i => some (.int i)
  | .str x => some (.str x)
  | _ => none
theorem own_flat {K : PySem.W.Frag} {Z : Addr → Prop} {H : Hp} {v : V} {d : D} (h : flatD v = some d) : Own K Z H d [] v := by
  cases v <;> simp [flatD] at h <;> subst h <;> simp [Own]
theorem de_const {v : V} {d : D} (h : PE X e (tC v)) (hf : flatD v = some d := by rfl) : DE X e [] true (mk d) := wE h fun σ H Q ⟨Z, F, δ, d', δ', r, e1, k⟩ => by
  rw [mk_some] at e1
  obtain ⟨rfl, rfl⟩ := e1
  exact k v H Z F [] r Fr.refl Tch.refl (own_flat hf) (fun _ => New.nil)
/-- a value that owns nothing is its own -/
theorem de_val {p : List Nat} {fr : Bool} {m : M D} (h : DE X e p fr m) : DE X e p true (mval m) := wE h fun σ H Q ⟨Z, F, δ, d, δ', r, e1, k⟩ => by
  unfold mval at e1
  rw [mbind_some] at e1
  obtain ⟨d1, δ1, e1, e2⟩ := e1
  split at e2
  · rename_i hf
    rw [mk_some] at e2
    obtain ⟨rfl, rfl⟩ := e2
    refine ⟨Z, F, δ, d1, δ', r, e1, fun v H' Z' F' G r' f pu o _ => k v H' Z' F' [] r' f pu ?_ (fun _ => New.nil)⟩
    rw [Own.nil hf o] at o
    exact o
  · cases e2

/-! ### operators by values -/
/-- what a rule of two values gives, in trees -/
def R1 (K : PySem.W.Frag) (r : V → Hp → VK → Prop) (f : D → Option D) : Prop :=
  ∀ {Z : Addr → Prop} {F : Fp} {δ : En} {σ : St} {H : Hp} {x : V} {dx d : D} {Fx : List Addr} {Q : VK}, Rel K Z F δ σ H → Own K Z H dx Fx x → f dx = some d →
    (∀ v H' Z' G, Rel K Z' F δ σ H' → Fr Z F H Z' F H' → Same H H' → Own K Z' H' d G v → New F H Z' F G → Q v H') → r x H Q
def R2D (K : PySem.W.Frag) (r : R2) (f : D → D → Option D) : Prop :=
  ∀ {Z : Addr → Prop} {F : Fp} {δ : En} {σ : St} {H : Hp} {x y : V} {dx dy d : D} {Fx Fy : List Addr} {Q : VK}, Rel K Z F δ σ H → Own K Z H dx Fx x → Own K Z H dy Fy y → f dx dy = some d →
    (∀ v H' Z' G, Rel K Z' F δ σ H' → Fr Z F H Z' F H' → Same H H' → Own K Z' H' d G v → New F H Z' F G → Q v H') → r x y H Q
theorem op1_rd {p : List Nat} {fr : Bool} {m : M D} {r : V → Hp → VK → Prop} {f : D → Option D} (hr : R1 X.K r f) : ∀ σ H Q, tG X.K p true (mop1 f m) σ H Q → tG X.K p fr m σ H fun x H1 => r x H1 Q :=
  fun σ H Q ⟨Z, F, δ, d, δ', rl, e1, k⟩ => by
    unfold mop1 at e1
    rw [mbind_some] at e1
    obtain ⟨d1, δ1, e1, e2⟩ := e1
    rw [mopt_some] at e2
    obtain ⟨e2, rfl⟩ := e2
    refine ⟨Z, F, δ, d1, δ', rl, e1, fun v H' Z' F' G r' f' pu o _ => hr r' o e2 fun w H2 Z2 G2 r2 f2 s2 o2 n2 => ?_⟩
    exact k w H2 Z2 F' G2 r2 (f'.trans f2) (pu.more rl s2) o2 (fun _ => n2.back f')
theorem op2_rd {p1 p2 : List Nat} {fr1 fr2 : Bool} {m1 m2 : M D} {r : R2} {f : D → D → Option D} (hr : R2D X.K r f) (c : (p2.isEmpty || fr1) = true) : ∀ σ H Q, tG X.K (p1 ++ p2) true (mop2 f m1 m2) σ H Q →
    tG X.K p1 fr1 m1 σ H fun x H1 => tG X.K p2 fr2 m2 σ H1 fun y H2 => r x y H2 Q :=
  fun σ H Q ⟨Z, F, δ, d, δ', rl, e1, k⟩ => by
    unfold mop2 at e1
    rw [mbind_some] at e1
    obtain ⟨d1, δ1, e1, e2⟩ := e1
    rw [mbind_some] at e2
    obtain ⟨d2, δ2, e2, e3⟩ := e2
    rw [mopt_some] at e3
    obtain ⟨e3, rfl⟩ := e3
    refine ⟨Z, F, δ, d1, δ1, rl, e1, fun v H1 Z1 F1 G1 r1 f1 pu1 o1 n1 => ⟨Z1, F1, δ1, d2, δ', r1, e2, fun w H2 Z2 F2 G2 r2 f2 pu2 o2 n2 => ?_⟩⟩
    have o1' := o1.keep (hold r1 f2 pu2 (fun e => (n1 e).fd) c)
    refine hr r2 o1' o2 e3 fun u H3 Z3 G3 r3 f3 s3 o3 n3 => k u H3 Z3 F2 G3 r3 ((f1.trans f2).trans f3) ((pu1.trans pu2).more rl s3) o3 (fun _ => n3.back (f1.trans f2))
theorem de_op2 {a b : Expr} {p1 p2 : List Nat} {fr1 fr2 : Bool} {m1 m2 : M D} {r : R2} {f : D → D → Option D} (rule : ∀ {ta tb : TE}, PE X a ta → PE X b tb → PE X e (tOp r ta tb)) (hr : R2D X.K r f) (ha : DE X a p1 fr1 m1) (hb : DE X b p2 fr2 m2) (c : (p2.isEmpty || fr1) = true := by rfl) :
    DE X e (p1 ++ p2) true (mop2 f m1 m2) := wE (rule ha hb) (op2_rd hr c)
theorem de_op1 {a : Expr} {p1 : List Nat} {fr1 : Bool} {m1 : M D} {r : V → Hp → VK → Prop} {f : D → Option D} (rule : ∀ {ta : TE}, PE X a ta → PE X e (tUn r ta)) (hr : R1 X.K r f) (ha : DE X a p1 fr1 m1) :
    DE X e p1 true (mop1 f m1) := wE (rule ha) (op1_rd hr)

/-! ### tests -/
theorem dt_of {p : List Nat} {fr : Bool} {m : M D} (h : PT X e (tB (tG X.K p fr m))) : DT X e p (mtest m) := wT h fun σ H Q ⟨Z, F, δ, b, δ', r, e1, k⟩ => by
  unfold mtest at e1
  rw [mbind_some] at e1
  obtain ⟨d1, δ1, e1, e2⟩ := e1
  split at e2
  · rw [mk_some] at e2
    obtain ⟨rfl, rfl⟩ := e2
    refine ⟨Z, F, δ, _, δ', r, e1, fun v H' Z' F' G r' f pu o _ => ?_⟩
    simp only [Own] at o
    exact ⟨_, o.1, k H' Z' F' r' f pu⟩
  · cases e2
theorem dt_val {p : List Nat} {fr : Bool} {m : M D} (h : DE X e p fr m) (he : ∀ whole, isTrue e X.env whole = (do let v ← whole; standAt e.pos; holding [v] (truthy v)) := by intro _; rfl) : DT X e p (mtest m) := dt_of (pt_val h he)
theorem dt_op2 {a b : Expr} {p1 p2 : List Nat} {fr1 fr2 : Bool} {m1 m2 : M D} {r : R2} {f : D → D → Option D} (rule : ∀ {ta tb : TE}, PE X a ta → PE X b tb → PT X e (tTest (tOp r ta tb))) (hr : R2D X.K r f) (ha : DE X a p1 fr1 m1) (hb : DE X b p2 fr2 m2) (c : (p2.isEmpty || fr1) = true := by rfl) :
    DT X e (p1 ++ p2) (mtest (mop2 f m1 m2)) := dt_of (wT (rule ha hb) fun σ H Q h => op2_rd hr c σ H _ h)
theorem and_rd {p1 p2 : List Nat} {m1 m2 : M Bool} : ∀ σ H Q, tGt X.K (p1 ++ p2) (mand m1 m2) σ H Q → tAnd (tGt X.K p1 m1) (tGt X.K p2 m2) σ H Q := fun σ H Q ⟨Z, F, δ, b, δ', r, e1, k⟩ => by
  unfold mand at e1
  rw [mbind_some] at e1
  obtain ⟨c, δ1, e1, e2⟩ := e1
  refine ⟨Z, F, δ, c, δ1, r, e1, fun H1 Z1 F1 r1 f1 pu1 => ?_⟩
  cases c with
  | true =>
    rw [if_pos rfl] at e2 ⊢
    refine ⟨Z1, F1, δ1, b, δ', r1, e2, fun H2 Z2 F2 r2 f2 pu2 => k H2 Z2 F2 r2 (f1.trans f2) (pu1.trans pu2)⟩
  | false =>
    rw [if_neg Bool.false_ne_true] at e2 ⊢
    rw [mk_some] at e2
    obtain ⟨rfl, rfl⟩ := e2
    exact k H1 Z1 F1 r1 f1 (pu1.mono fun _ m => List.mem_append_left _ m)
theorem or_rd {p1 p2 : List Nat} {m1 m2 : M Bool} : ∀ σ H Q, tGt X.K (p1 ++ p2) (mor m1 m2) σ H Q → tOr (tGt X.K p1 m1) (tGt X.K p2 m2) σ H Q := fun σ H Q ⟨Z, F, δ, b, δ', r, e1, k⟩ => by
  unfold mor at e1
  rw [mbind_some] at e1
  obtain ⟨c, δ1, e1, e2⟩ := e1
  refine ⟨Z, F, δ, c, δ1, r, e1, fun H1 Z1 F1 r1 f1 pu1 => ?_⟩
  cases c with
  | false =>
    rw [if_neg Bool.false_ne_true] at e2 ⊢
    refine ⟨Z1, F1, δ1, b, δ', r1, e2, fun H2 Z2 F2 r2 f2 pu2 => k H2 Z2 F2 r2 (f1.trans f2) (pu1.trans pu2)⟩
  | true =>
    rw [if_pos rfl] at e2 ⊢
    rw [mk_some] at e2
    obtain ⟨rfl, rfl⟩ := e2
    exact k H1 Z1 F1 r1 f1 (pu1.mono fun _ m => List.mem_append_left _ m)
/-- and, or within a test -/
abbrev DW (X : Cx) (e : Expr) (t : List Nat) (m : M Bool) : Prop := PW X e (tGt X.K t m)
theorem wW {t t' : TT} (h : PW X e t) (w : ∀ σ H Q, t' σ H Q → t σ H Q) : PW X e t' := ⟨fun wh pins s σ H Q I q => h.run wh pins s σ H Q I (w σ H Q q)⟩
theorem dw_and1 {a : Expr} {p : List Nat} {m : M Bool} (h : DT X a p m) : DW X (.BoolOp .And [a] pos) p m := pw_and1 h
theorem dw_or1 {a : Expr} {p : List Nat} {m : M Bool} (h : DT X a p m) : DW X (.BoolOp .Or [a] pos) p m := pw_or1 h
theorem dw_and {a b : Expr} {rest : List Expr} {p1 p2 : List Nat} {m1 m2 : M Bool} (h1 : DT X a p1 m1) (h2 : DW X (.BoolOp .And (b :: rest) pos) p2 m2) : DW X (.BoolOp .And (a :: b :: rest) pos) (p1 ++ p2) (mand m1 m2) := wW (pw_and h1 h2) and_rd
theorem dw_or {a b : Expr} {rest : List Expr} {p1 p2 : List Nat} {m1 m2 : M Bool} (h1 : DT X a p1 m1) (h2 : DW X (.BoolOp .Or (b :: rest) pos) p2 m2) : DW X (.BoolOp .Or (a :: b :: rest) pos) (p1 ++ p2) (mor m1 m2) := wW (pw_or h1 h2) or_rd
theorem dt_w {p : List Nat} {m : M Bool} (h : DW X e p m) : DT X e p m := h.pt
theorem dt_not {a : Expr} {p : List Nat} {m : M Bool} (h : DT X a p m) : DT X (.UnaryOp .Not a pos) p (mnot m) := wT (pt_not h) fun σ H Q ⟨Z, F, δ, b, δ', r, e1, k⟩ => by
  unfold mnot at e1
  rw [mbind_some] at e1
  obtain ⟨c, δ1, e1, e2⟩ := e1
  rw [mk_some] at e2
  obtain ⟨rfl, rfl⟩ := e2
  exact ⟨Z, F, δ, c, δ', r, e1, fun H1 Z1 F1 r1 f1 pu1 => k H1 Z1 F1 r1 f1 pu1⟩
/-- and, or, not as values: bools -/
theorem own_bl {K : PySem.W.Frag} {Z : Addr → Prop} {H : Hp} {b : Bool} {G : List Addr} {v : V} (h : Own K Z H (.bl b) G v) : v = .bl b ∧ G = [] := by simpa [Own] using h
theorem own_int {K : PySem.W.Frag} {Z : Addr → Prop} {H : Hp} {b : Int} {G : List Addr} {v : V} (h : Own K Z H (.int b) G v) : v = .int b ∧ G = [] := by simpa [Own] using h
theorem own_str {K : PySem.W.Frag} {Z : Addr → Prop} {H : Hp} {b : Str} {G : List Addr} {v : V} (h : Own K Z H (.str b) G v) : v = .str b ∧ G = [] := by simpa [Own] using h
theorem own_non {K : PySem.W.Frag} {Z : Addr → Prop} {H : Hp} {G : List Addr} {v : V} (h : Own K Z H .non G v) : v = .non ∧ G = [] := by simpa [Own] using h
def mandV (a b : M D) : M D := mbind (mtest a) fun c => if c = true then b else mk (.bl false)
def morV (a b : M D) : M D := mbind (mtest a) fun c => if c = true then mk (.bl true) else b
theorem mtest_some {m : M D} {δ δ' : En} {b : Bool} : mtest m δ = some (b, δ') ↔ m δ = some (.bl b, δ') := by
  unfold mtest
  rw [mbind_some]
  constructor
  · rintro ⟨d, δ1, e1, e2⟩
    split at e2
    · rw [mk_some] at e2
      obtain ⟨rfl, rfl⟩ := e2
      exact e1
    · cases e2
  · intro e1
    exact ⟨_, _, e1, rfl⟩
theorem de_one {op} {a : Expr} {p : List Nat} {fr : Bool} {m : M D} (h : DE X a p fr m) : DE X (.BoolOp op [a] pos) p fr m := pe_one h
theorem de_and {a b : Expr} {rest : List Expr} {p1 p2 : List Nat} {fr1 fr2 : Bool} {m1 m2 : M D} (h1 : DE X a p1 fr1 m1) (h2 : DE X (.BoolOp .And (b :: rest) pos) p2 fr2 m2) : DE X (.BoolOp .And (a :: b :: rest) pos) (p1 ++ p2) fr2 (mandV m1 m2) := wE (pe_and h1 h2) fun σ H Q ⟨Z, F, δ, d, δ', r, e1, k⟩ => by
  unfold mandV at e1
  rw [mbind_some] at e1
  obtain ⟨c, δ1, e1, e2⟩ := e1
  rw [mtest_some] at e1
  refine ⟨Z, F, δ, _, δ1, r, e1, fun v H1 Z1 F1 G1 r1 f1 pu1 o1 n1 => ⟨c, (own_bl o1).1, ?_⟩⟩
  cases c with
  | true =>
    rw [if_pos rfl] at e2 ⊢
    refine ⟨Z1, F1, δ1, d, δ', r1, e2, fun w H2 Z2 F2 G2 r2 f2 pu2 o2 n2 => k w H2 Z2 F2 G2 r2 (f1.trans f2) (pu1.trans pu2) o2 fun e => (n2 e).back f1⟩
  | false =>
    rw [if_neg Bool.false_ne_true] at e2 ⊢
    rw [mk_some] at e2
    obtain ⟨rfl, rfl⟩ := e2
    exact k _ H1 Z1 F1 [] r1 f1 (pu1.mono fun _ m => List.mem_append_left _ m) (by simp [Own]) fun _ => New.nil
theorem de_or {a b : Expr} {rest : List Expr} {p1 p2 : List Nat} {fr1 fr2 : Bool} {m1 m2 : M D} (h1 : DE X a p1 fr1 m1) (h2 : DE X (.BoolOp .Or (b :: rest) pos) p2 fr2 m2) : DE X (.BoolOp .Or (a :: b :: rest) pos) (p1 ++ p2) fr2 (morV m1 m2) := wE (pe_or h1 h2) fun σ H Q ⟨Z, F, δ, d, δ', r, e1, k⟩ => by
  unfold morV at e1
  rw [mbind_some] at e1
  obtain ⟨c, δ1, e1, e2⟩ := e1
  rw [mtest_some] at e1
  refine ⟨Z, F, δ, _, δ1, r, e1, fun v H1 Z1 F1 G1 r1 f1 pu1 o1 n1 => ⟨c, (own_bl o1).1, ?_⟩⟩
  cases c with
  | false =>
    rw [if_neg Bool.false_ne_true] at e2 ⊢
    refine ⟨Z1, F1, δ1, d, δ', r1, e2, fun w H2 Z2 F2 G2 r2 f2 pu2 o2 n2 => k w H2 Z2 F2 G2 r2 (f1.trans f2) (pu1.trans pu2) o2 fun e => (n2 e).back f1⟩
  | true =>
    rw [if_pos rfl] at e2 ⊢
    rw [mk_some] at e2
    obtain ⟨rfl, rfl⟩ := e2
    exact k _ H1 Z1 F1 [] r1 f1 (pu1.mono fun _ m => List.mem_append_left _ m) (by simp [Own]) fun _ => New.nil
def notD : D → Option D
  | .bl b => some (.bl (!b))
  | _ => none
theorem de_not {a : Expr} {p : List Nat} {fr : Bool} {m : M D} (h : DE X a p fr m) : DE X (.UnaryOp .Not a pos) p true (mop1 notD m) := wE (pe_not h) fun σ H Q ⟨Z, F, δ, d, δ', r, e1, k⟩ => by
  unfold mop1 at e1
  rw [mbind_some] at e1
  obtain ⟨d1, δ1, e1, e2⟩ := e1
  rw [mopt_some] at e2
  obtain ⟨e2, rfl⟩ := e2
  refine ⟨Z, F, δ, d1, δ', r, e1, fun v H' Z' F' G r' f' pu o _ => ?_⟩
  cases d1 <;> simp [notD] at e2
  subst e2
  exact ⟨_, (own_bl o).1, k _ H' Z' F' [] r' f' pu (by simp [Own]) fun _ => New.nil⟩
theorem de_ite {a b c : Expr} {p0 p1 p2 : List Nat} {fr1 fr2 : Bool} {m0 : M Bool} {m1 m2 : M D} (hc : DT X c p0 m0) (ha : DE X a p1 fr1 m1) (hb : DE X b p2 fr2 m2) : DE X (.IfExp c a b pos) (p0 ++ (p1 ++ p2)) (fr1 && fr2) (mite m0 m1 m2) := wE (pe_ifExp hc ha hb) fun σ H Q ⟨Z, F, δ, d, δ', r, e1, k⟩ => by
  unfold mite at e1
  rw [mbind_some] at e1
  obtain ⟨c, δ1, e1, e2⟩ := e1
  refine ⟨Z, F, δ, c, δ1, r, e1, fun H1 Z1 F1 r1 f1 pu1 => ?_⟩
  cases c with
  | true =>
    rw [if_pos rfl] at e2 ⊢
    refine ⟨Z1, F1, δ1, d, δ', r1, e2, fun w H2 Z2 F2 G2 r2 f2 pu2 o2 n2 => k w H2 Z2 F2 G2 r2 (f1.trans f2) ((pu1.trans pu2).mono fun _ m => (List.mem_append.mp m).elim (fun m => List.mem_append_left _ m) fun m => List.mem_append_right _ (List.mem_append_left _ m)) o2 fun e => ?_⟩
    · rw [Bool.and_eq_true] at e
      exact (n2 e.1).back f1
  | false =>
    rw [if_neg Bool.false_ne_true] at e2 ⊢
    refine ⟨Z1, F1, δ1, d, δ', r1, e2, fun w H2 Z2 F2 G2 r2 f2 pu2 o2 n2 => k w H2 Z2 F2 G2 r2 (f1.trans f2) ((pu1.trans pu2).mono fun _ m => (List.mem_append.mp m).elim (fun m => List.mem_append_left _ m) fun m => List.mem_append_right _ (List.mem_append_right _ m)) o2 fun e => ?_⟩
    · rw [Bool.and_eq_true] at e
      exact (n2 e.2).back f1

/-! ### lists of values, displays -/
theorem da_nil : DA X [] [] mnil := wA pa_nil fun σ H Q ⟨Z, F, δ, ds, δ', r, e1, k⟩ => by
  unfold mnil at e1
  rw [mk_some] at e1
  obtain ⟨rfl, rfl⟩ := e1
  exact k [] H Z F [] r Fr.refl Tch.refl (by simp [Owns]) New.nil
theorem New.app {K : PySem.W.Frag} {Z Z1 Z2 : Addr → Prop} {F F1 F2 : Fp} {δ1 : En} {σ : St} {H H1 H2 : Hp} {G1 G2 : List Addr} (r1 : Rel K Z1 F1 δ1 σ H1) (f1 : Fr Z F H Z1 F1 H1) (f2 : Fr Z1 F1 H1 Z2 F2 H2) (h1 : ∀ a ∈ G1, ∃ o, H1 a = some o) (n1 : New F H Z1 F1 G1) (n2 : New F1 H1 Z2 F2 G2) : New F H Z2 F2 (G1 ++ G2) where
  nd := by
    refine List.nodup_append.mpr ⟨n1.nd, n2.nd, ?_⟩
    rintro a m1 b m2 rfl
    rcases n2.from' a m2 with e | ⟨i, e⟩
    · obtain ⟨o, q⟩ := h1 a m1
      rw [e] at q; cases q
    · exact n1.fd a m1 i e
  zd := fun a m z => by
    rcases List.mem_append.mp m with m | m
    · rcases f2.znew a z with z | z | ⟨i, z⟩
      · exact n1.zd a m z
      · obtain ⟨o, q⟩ := h1 a m
        rw [z] at q; cases q
      · exact n1.fd a m i z
    · exact n2.zd a m z
  fd := fun a m i mi => by
    rcases List.mem_append.mp m with m | m
    · rcases f2.fnew i a mi with z | ⟨j, z⟩
      · obtain ⟨o, q⟩ := h1 a m
        rw [z] at q; cases q
      · exact n1.fd a m j z
    · exact n2.fd a m i mi
  from' := fun a m => by
    rcases List.mem_append.mp m with m | m
    · exact n1.from' a m
    · exact (n2.back f1).from' a m
theorem mut_some {o : Option HO} (h : Mut o) : ∃ u, o = some u := by
  cases o with
  | none => exact h.elim
  | some u => exact ⟨u, rfl⟩
theorem da_cons {a : Expr} {es : List Expr} {p1 p2 : List Nat} {m1 : M D} {m2 : M (List D)} (ha : DE X a p1 true m1) (hr : DA X es p2 m2) (hs : starEach (a :: es) X.env = (false, eval a X.env) :: starEach es X.env := by rfl) : DA X (a :: es) (p1 ++ p2) (mcons m1 m2) := wA (pa_cons ha hr hs) fun σ H Q ⟨Z, F, δ, ds, δ', r, e1, k⟩ => by
  unfold mcons at e1
  rw [mbind_some] at e1
  obtain ⟨d1, δ1, e1, e2⟩ := e1
  rw [mbind_some] at e2
  obtain ⟨ds2, δ2, e2, e3⟩ := e2
  rw [mk_some] at e3
  obtain ⟨rfl, rfl⟩ := e3
  refine ⟨Z, F, δ, d1, δ1, r, e1, fun v H1 Z1 F1 G1 r1 f1 pu1 o1 n1 => ⟨Z1, F1, δ1, ds2, δ', r1, e2, fun vs H2 Z2 F2 G2 r2 f2 pu2 o2 n2 => ?_⟩⟩
  have o1' := o1.keep (f2.keep r1 (n1 rfl).fd)
  refine k (v :: vs) H2 Z2 F2 (G1 ++ G2) r2 (f1.trans f2) (pu1.trans pu2) ?_ (New.app r1 f1 f2 (fun a m => mut_some (o1.here a m)) (n1 rfl) n2)
  · simp only [Owns]
    exact ⟨v, vs, G1, G2, rfl, rfl, o1', o2⟩
theorem New.cons {K : PySem.W.Frag} {Z Z1 : Addr → Prop} {F F1 : Fp} {δ1 : En} {σ : St} {H H1 : Hp} {G : List Addr} {a : Addr} (r1 : Rel K Z1 F1 δ1 σ H1) (f1 : Fr Z F H Z1 F1 H1) (h1 : ∀ b ∈ G, ∃ o, H1 b = some o) (n1 : New F H Z1 F1 G) (ha : H1 a = none) : New F H Z1 F1 (a :: G) where
  nd := List.nodup_cons.mpr ⟨fun m => (by obtain ⟨o, q⟩ := h1 a m; rw [ha] at q; cases q), n1.nd⟩
  zd := fun b m z => by
    rcases List.mem_cons.mp m with rfl | m
    · obtain ⟨o, q⟩ := r1.zh b z
      rw [ha] at q; cases q
    · exact n1.zd b m z
  fd := fun b m i mi => by
    rcases List.mem_cons.mp m with rfl | m
    · exact r1.ne_new ha i mi
    · exact n1.fd b m i mi
  from' := fun b m => by
    rcases List.mem_cons.mp m with rfl | m
    · cases q : H b with
      | none => exact .inl rfl
      | some o =>
        obtain ⟨o', q'⟩ := f1.here b o q
        rw [ha] at q'; cases q'
    · exact n1.from' b m
theorem de_tup {es : List Expr} {k0} {p : List Nat} {m : M (List D)} (h : DA X es p m) : DE X (.Tuple es k0 pos) p true (mtup m) := wE (pe_tup h) fun σ H Q ⟨Z, F, δ, d, δ', r, e1, k⟩ => by
  unfold mtup at e1
  rw [mbind_some] at e1
  obtain ⟨ds, δ1, e1, e2⟩ := e1
  split at e2
  · rename_i hz
    rw [mk_some] at e2
    obtain ⟨rfl, rfl⟩ := e2
    refine ⟨Z, F, δ, ds, δ', r, e1, fun vs H1 Z1 F1 G r1 f1 pu1 o1 n1 => ⟨by rw [← o1.length]; exact hz, fun a ha => ?_⟩⟩
    refine k (.ref a) (upd H1 a (.tup vs)) Z1 F1 G (r1.new ha) (f1.trans (Fr.new ha)) (pu1.more r (same_upd ha)) ?_ (fun _ => n1)
    simp only [Own]
    exact ⟨a, vs, rfl, upd_same, o1.keep (same_keep (same_upd ha) (fun _ z => z) _)⟩
  · cases e2
theorem de_lst {es : List Expr} {p : List Nat} {m : M (List D)} (h : DA X es p m) : DE X (.List es pos) p true (mlst m) := wE (pe_lst h) fun σ H Q ⟨Z, F, δ, d, δ', r, e1, k⟩ => by
  unfold mlst at e1
  rw [mbind_some] at e1
  obtain ⟨ds, δ1, e1, e2⟩ := e1
  split at e2
  · rename_i hz
    rw [mk_some] at e2
    obtain ⟨rfl, rfl⟩ := e2
    refine ⟨Z, F, δ, ds, δ', r, e1, fun vs H1 Z1 F1 G r1 f1 pu1 o1 n1 => ⟨by rw [← o1.length]; exact hz, fun a ha => ?_⟩⟩
    refine k (.ref a) (upd H1 a (.lst vs)) Z1 F1 (a :: G) (r1.new ha) (f1.trans (Fr.new ha)) (pu1.more r (same_upd ha)) ?_ (fun _ => New.cons r1 f1 (fun b m => mut_some (o1.here b m)) n1 ha)
    simp only [Own]
    exact ⟨a, vs, G, rfl, upd_same, rfl, o1.keep (same_keep (same_upd ha) (fun _ z => z) _)⟩
  · cases e2
end
end TL
set_option Elab.async false
set_option linter.all false
set_option maxRecDepth 100000
set_option maxHeartbeats 4000000
/-! T2: operators in trees. -/
namespace TL
open PySem L2

section
variable {K : PySem.W.Frag} {Z : Addr → Prop} {F : Fp} {δ : En} {σ : St} {H : Hp}
/-- a value without objects comes out -/
theorem fin {v : V} {d : D} {Q : VK} (r : Rel K Z F δ σ H) (k : ∀ v H' Z' G, Rel K Z' F δ σ H' → Fr Z F H Z' F H' → Same H H' → Own K Z' H' d G v → New F H Z' F G → Q v H') (e : flatD v = some d) : Q v H :=
  k v H Z [] r Fr.refl (Same.refl H) (own_flat e) New.nil
/-- a new list of values that own nothing -/
theorem Owns.nils {ds : List D} {G : List Addr} {vs : List V} (h : Owns K Z H ds G vs) (f : D.isFzs ds = true) : Owns K Z H ds [] vs := by
  have e := Owns.nil f h
  subst e
  exact h
theorem fin_lst {ds : List D} {vs : List V} {Q : VK} (r : Rel K Z F δ σ H) (k : ∀ v H' Z' G, Rel K Z' F δ σ H' → Fr Z F H Z' F H' → Same H H' → Own K Z' H' (.lst true ds) G v → New F H Z' F G → Q v H') (o : Owns K Z H ds [] vs) :
    ∀ p, H p = none → Q (.ref p) (upd H p (.lst vs)) := fun p hp => by
  refine k (.ref p) _ Z [p] (r.new hp) (Fr.new hp) (same_upd hp) ?_ (New.one r hp)
  simp only [Own]
  exact ⟨p, vs, [], rfl, upd_same, rfl, o.keep (same_keep (same_upd hp) (fun _ z => z) _)⟩
theorem fin_tup {ds : List D} {vs : List V} {Q : VK} (r : Rel K Z F δ σ H) (k : ∀ v H' Z' G, Rel K Z' F δ σ H' → Fr Z F H Z' F H' → Same H H' → Own K Z' H' (.tup ds) G v → New F H Z' F G → Q v H') (o : Owns K Z H ds [] vs) :
    ∀ p, H p = none → Q (.ref p) (upd H p (.tup vs)) := fun p hp => by
  refine k (.ref p) _ Z [] (r.new hp) (Fr.new hp) (same_upd hp) ?_ New.nil
  simp only [Own]
  exact ⟨p, vs, rfl, upd_same, o.keep (same_keep (same_upd hp) (fun _ z => z) _)⟩
/-- the value as it stands -/
theorem own_lst {o : Bool} {ds : List D} {G : List Addr} {v : V} (h : Own K Z H (.lst o ds) G v) : ∃ a vs G', v = .ref a ∧ Rd H a (.lst vs) ∧ Owns K Z H ds G' vs ∧ G'.Sublist G := by
  cases o with
  | false =>
    simp only [Own] at h
    obtain ⟨a, vs, rfl, s, rfl, o⟩ := h
    exact ⟨a, vs, [], rfl, s.2, o, List.Sublist.refl _⟩
  | true =>
    simp only [Own] at h
    obtain ⟨a, vs, G', rfl, s, rfl, o⟩ := h
    exact ⟨a, vs, G', rfl, .of s, o, List.sublist_cons_self _ _⟩
theorem own_tup {ds : List D} {G : List Addr} {v : V} (h : Own K Z H (.tup ds) G v) : ∃ a vs, v = .ref a ∧ H a = some (.tup vs) ∧ Owns K Z H ds G vs := by
  simpa only [Own] using h
theorem own_dK {o : Bool} {ks : List Key} {ds : List D} {G : List Addr} {v : V} (h : Own K Z H (.dK o ks ds) G v) : ∃ a kvs G', v = .ref a ∧ Rd H a (.dK kvs) ∧ kvs.map (·.1) = ks ∧ Owns K Z H ds G' (kvs.map (·.2)) ∧ G'.Sublist G := by
  cases o with
  | false =>
    simp only [Own] at h
    obtain ⟨a, kvs, rfl, z, s, q, rfl, o⟩ := h
    exact ⟨a, kvs, [], rfl, s, q, o, List.Sublist.refl _⟩
  | true =>
    simp only [Own] at h
    obtain ⟨a, kvs, G', rfl, s, q, rfl, o⟩ := h
    exact ⟨a, kvs, G', rfl, .of s, q, o, List.sublist_cons_self _ _⟩
theorem own_dT {o : Bool} {ks : List (List Key)} {ds : List D} {G : List Addr} {v : V} (h : Own K Z H (.dT o ks ds) G v) : ∃ a kvs G', v = .ref a ∧ Rd H a (.dT kvs) ∧ kvs.map (·.1) = ks ∧ Owns K Z H ds G' (kvs.map (·.2)) ∧ G'.Sublist G := by
  cases o with
  | false =>
    simp only [Own] at h
    obtain ⟨a, kvs, rfl, z, s, q, rfl, o⟩ := h
    exact ⟨a, kvs, [], rfl, s, q, o, List.Sublist.refl _⟩
  | true =>
    simp only [Own] at h
    obtain ⟨a, kvs, G', rfl, s, q, rfl, o⟩ := h
    exact ⟨a, kvs, G', rfl, .of s, q, o, List.sublist_cons_self _ _⟩
theorem own_ins {o : Bool} {C : Addr} {fs : List Str} {ds : List D} {G : List Addr} {v : V} (h : Own K Z H (.ins o C fs ds) G v) : ∃ a dx kvs G', v = .ref a ∧ H a = some (.ins C dx kvs) ∧ kvs.map (·.1) = fs ∧ Owns K Z H ds G' (kvs.map (·.2)) ∧ G'.Sublist G := by
  cases o with
  | false =>
    simp only [Own] at h
    obtain ⟨a, dx, kvs, rfl, z, s, q, rfl, o⟩ := h
    exact ⟨a, dx, kvs, [], rfl, s, q, o, List.Sublist.refl _⟩
  | true =>
    simp only [Own] at h
    obtain ⟨a, dx, kvs, G', rfl, s, q, rfl, o⟩ := h
    exact ⟨a, dx, kvs, G', rfl, s, q, o, List.sublist_cons_self _ _⟩
end

/-! ### numbers -/
def iop (c : Int → Int → Bool) (g : Int → Int → Int) : D → D → Option D
  | .int i, .int j => if c i j = true then some (.int (g i j)) else none
  | _, _ => none
def icmp (g : Int → Int → Bool) : D → D → Option D
  | .int i, .int j => some (.bl (g i j))
  | _, _ => none
theorem iop_some {c : Int → Int → Bool} {g : Int → Int → Int} {x y d : D} (h : iop c g x y = some d) : ∃ i j, x = .int i ∧ y = .int j ∧ c i j = true ∧ d = .int (g i j) := by
  unfold iop at h
  split at h
  · rename_i i j
    split at h
    · rename_i hc
      exact ⟨i, j, rfl, rfl, hc, (Option.some.inj h).symm⟩
    · cases h
  · cases h
theorem icmp_some {g : Int → Int → Bool} {x y d : D} (h : icmp g x y = some d) : ∃ i j, x = .int i ∧ y = .int j ∧ d = .bl (g i j) := by
  unfold icmp at h
  split at h
  · exact ⟨_, _, rfl, rfl, (Option.some.inj h).symm⟩
  · cases h
theorem rd_int {K : PySem.W.Frag} {C : Int → Int → Prop} {c : Int → Int → Bool} {g : Int → Int → Int} (hc : ∀ i j, c i j = true → C i j) : R2D K (rI C fun i j => .int (g i j)) (iop c g) := by
  intro Z F δ σ H x y dx dy d Fx Fy Q rl ox oy e k
  obtain ⟨i, j, rfl, rfl, h1, rfl⟩ := iop_some e
  exact ⟨i, j, (own_int ox).1, (own_int oy).1, hc i j h1, fin rl k rfl⟩
theorem rd_int0 {K : PySem.W.Frag} {g : Int → Int → Int} : R2D K (rI0 fun i j => .int (g i j)) (iop (fun _ _ => true) g) := by
  intro Z F δ σ H x y dx dy d Fx Fy Q rl ox oy e k
  obtain ⟨i, j, rfl, rfl, h1, rfl⟩ := iop_some e
  exact ⟨i, j, (own_int ox).1, (own_int oy).1, fin rl k rfl⟩
theorem rd_cmp {K : PySem.W.Frag} {g : Int → Int → Bool} : R2D K (rI0 fun i j => .bl (g i j)) (icmp g) := by
  intro Z F δ σ H x y dx dy d Fx Fy Q rl ox oy e k
  obtain ⟨i, j, rfl, rfl, rfl⟩ := icmp_some e
  exact ⟨i, j, (own_int ox).1, (own_int oy).1, fin rl k rfl⟩
def subD : D → D → Option D := iop (fun _ _ => true) fun i j => i - j
def mulOk (i j : Int) : Bool := (decide (-(2 ^ 64) < i) && decide (i < 2 ^ 64)) || (decide (-(2 ^ 64) < j) && decide (j < 2 ^ 64))
def mulD : D → D → Option D := iop mulOk fun i j => i * j
def divOk (_ j : Int) : Bool := decide (j ≠ 0) && decide (j.natAbs < 1073741824)
def divD : D → D → Option D := iop divOk fun i j => i.fdiv j
def modD : D → D → Option D := iop (fun _ j => decide (j ≠ 0)) fun i j => i.fmod j
def powOk (i j : Int) : Bool := decide (0 ≤ j) && decide (j ≤ 1000000) && decide (i.natAbs < 2 ^ 64)
def powD : D → D → Option D := iop powOk fun i j => i ^ j.toNat
def shlD : D → D → Option D := iop powOk fun i j => i * 2 ^ j.toNat
def shrD : D → D → Option D := iop (fun _ j => decide (0 ≤ j)) fun i j => i / 2 ^ j.toNat
def andD : D → D → Option D := iop (fun _ _ => true) Builtin.bitAnd
def orD : D → D → Option D := iop (fun _ _ => true) Builtin.bitOr
def xorD : D → D → Option D := iop (fun _ _ => true) Builtin.bitXor
def ltD : D → D → Option D := icmp fun i j => decide (i < j)
def leD : D → D → Option D := icmp fun i j => decide (i ≤ j)
def gtD : D → D → Option D := icmp fun i j => decide (j < i)
def geD : D → D → Option D := icmp fun i j => decide (j ≤ i)
theorem mulOk_ok {i j : Int} (h : mulOk i j = true) : CMul i j := by
  unfold mulOk at h
  simp only [Bool.or_eq_true, Bool.and_eq_true, decide_eq_true_eq] at h
  exact h
theorem divOk_ok {i j : Int} (h : divOk i j = true) : CDivN i j := by
  unfold divOk at h
  simp only [Bool.and_eq_true, decide_eq_true_eq] at h
  exact h
theorem powOk_ok {i j : Int} (h : powOk i j = true) : CPow i j := by
  unfold powOk at h
  simp only [Bool.and_eq_true, decide_eq_true_eq] at h
  exact ⟨h.1.1, h.1.2, h.2⟩
section
variable {K : PySem.W.Frag}
theorem r_sub : R2D K (rI0 fun i j => .int (i - j)) subD := rd_int0
theorem r_mul : R2D K (rI CMul fun i j => .int (i * j)) mulD := rd_int fun _ _ => mulOk_ok
theorem r_div : R2D K (rI CDivN fun i j => .int (i.fdiv j)) divD := rd_int fun _ _ => divOk_ok
theorem r_mod : R2D K (rI (fun _ j => j ≠ 0) fun i j => .int (i.fmod j)) modD := rd_int fun _ _ h => of_decide_eq_true h
theorem r_pow : R2D K (rI CPow fun i j => .int (i ^ j.toNat)) powD := rd_int fun _ _ => powOk_ok
theorem r_shl : R2D K (rI CPow fun i j => .int (i * 2 ^ j.toNat)) shlD := rd_int fun _ _ => powOk_ok
theorem r_shr : R2D K (rI (fun _ j => 0 ≤ j) fun i j => .int (i / 2 ^ j.toNat)) shrD := rd_int fun _ _ h => of_decide_eq_true h
theorem r_and : R2D K (rI0 fun i j => .int (Builtin.bitAnd i j)) andD := rd_int0
theorem r_or : R2D K (rI0 fun i j => .int (Builtin.bitOr i j)) orD := rd_int0
theorem r_xor : R2D K (rI0 fun i j => .int (Builtin.bitXor i j)) xorD := rd_int0
theorem r_lt : R2D K (rI0 fun i j => .bl (decide (i < j))) ltD := rd_cmp
theorem r_le : R2D K (rI0 fun i j => .bl (decide (i ≤ j))) leD := rd_cmp
theorem r_gt : R2D K (rI0 fun i j => .bl (decide (j < i))) gtD := rd_cmp
theorem r_ge : R2D K (rI0 fun i j => .bl (decide (j ≤ i))) geD := rd_cmp
end
def negD : D → Option D
  | .int i => some (.int (-i))
  | _ => none
theorem r_neg {K : PySem.W.Frag} : R1 K (rU fun i => .int (-i)) negD := by
  intro Z F δ σ H x dx d Fx Q rl ox e k
  cases dx <;> simp [negD] at e
  subst e
  exact ⟨_, (own_int ox).1, fin rl k rfl⟩

/-! ### a + b -/
def addD : D → D → Option D
  | .int i, .int j => some (.int (i + j))
  | .str x, .str y => if x.length + y.length ≤ sizeLine then some (.str (x ++ y)) else none
  | .lst _ xs, .lst _ ys => if D.isFzs xs = true ∧ D.isFzs ys = true ∧ xs.length + ys.length ≤ sizeLine then some (.lst true (xs ++ ys)) else none
  | .tup xs, .tup ys => if xs ≠ [] ∧ ys ≠ [] ∧ D.isFzs xs = true ∧ D.isFzs ys = true ∧ xs.length + ys.length ≤ sizeLine then some (.tup (xs ++ ys)) else none
  | _, _ => none
def rCatR : R2 := fun x y H Q => ∃ l b xs zs, x = .ref l ∧ y = .ref b ∧ Rd H l (.lst xs) ∧ Rd H b (.lst zs) ∧ xs.length + zs.length ≤ sizeLine ∧ ∀ p, H p = none → Q (.ref p) (upd H p (.lst (xs ++ zs)))
section
variable {X : Cx}
theorem op_catR : OpR X (binaryOp .Add) rCatR := by
  intro pins s σ H x y v u Q I rx ry h
  obtain ⟨l, b, xs, zs, rfl, rfl, hH, hB, hz, q⟩ := h
  cases rx
  cases ry
  obtain ⟨z, its, n, r, e⟩ := hH.ok I.hok
  obtain ⟨z2, its2, n2, r2, e2⟩ := hB.ok I.hok
  have hl := r.length
  have hl2 := r2.length
  refine PySem.P.add_list e e2 ?_ (by rw [List.size_toArray, List.size_toArray]; omega)
  have ea : its.toArray ++ its2.toArray = (its ++ its2).toArray := by simp
  rw [ea]
  exact ⟨.ref _, _, I.lnew (t' := s.toks) (r.append r2) (by rw [List.length_append]; omega), rfl, q _ I.fresh⟩
def rAddAll (K : PySem.W.Frag) : R2 := fun x y H Q => rI0 (fun i j => .int (i + j)) x y H Q ∨ (∃ i j, x = .str i ∧ y = .str j ∧ i.length + j.length ≤ sizeLine ∧ Q (.str (i ++ j)) H) ∨ rCatR x y H Q ∨ rCatT K x y H Q
theorem op_addAll : OpR X (binaryOp .Add) (rAddAll X.K) := op_add.or (op_add_str.or (op_catR.or op_catT))
end
theorem Owns.ne_nil {K : PySem.W.Frag} {Z : Addr → Prop} {H : Hp} {ds : List D} {G : List Addr} {vs : List V} (h : Owns K Z H ds G vs) (n : ds ≠ []) : vs ≠ [] := fun e => by
  have := h.length
  rw [e] at this
  exact n (List.length_eq_zero_iff.mp this)
theorem r_add {K : PySem.W.Frag} : R2D K (rAddAll K) addD := by
  intro Z F δ σ H x y dx dy d Fx Fy Q rl ox oy e k
  unfold addD at e
  split at e
  · cases e
    exact .inl ⟨_, _, (own_int ox).1, (own_int oy).1, fin rl k rfl⟩
  · split at e
    · rename_i h
      cases e
      exact .inr (.inl ⟨_, _, (own_str ox).1, (own_str oy).1, h, fin rl k rfl⟩)
    · cases e
  · split at e
    · rename_i h
      cases e
      obtain ⟨a, vs, G1, rfl, s1, o1, _⟩ := own_lst ox
      obtain ⟨b, ws, G2, rfl, s2, o2, _⟩ := own_lst oy
      refine .inr (.inr (.inl ⟨a, b, vs, ws, rfl, rfl, s1, s2, by rw [← o1.length, ← o2.length]; exact h.2.2, ?_⟩))
      exact fin_lst rl k ((o1.nils h.1).append (o2.nils h.2.1))
    · cases e
  · split at e
    · rename_i h
      cases e
      obtain ⟨a, vs, rfl, s1, o1⟩ := own_tup ox
      obtain ⟨b, ws, rfl, s2, o2⟩ := own_tup oy
      refine .inr (.inr (.inr ⟨a, b, vs, ws, rfl, rfl, .of s1, .of s2, o1.ne_nil h.1, by rw [← o1.length, ← o2.length]; exact h.2.2.2.2, fun e => absurd e (o2.ne_nil h.2.1), fun _ => ?_⟩))
      exact fin_tup rl k ((o1.nils h.2.2.1).append (o2.nils h.2.2.2.1))
    · cases e
  · cases e

/-! ### == and != -/
mutual
def D.toPy : D → PyData
  | .non => .none
  | .bl b => .bool b
  | .int i => .int i
  | .str x => .str x
  | .tup ds => .tuple (D.toPys ds)
  | .lst _ ds => .list (D.toPys ds)
  | .dK _ _ _ => .none
  | .dT _ _ _ => .none
  | .ins _ _ _ _ => .none
def D.toPys : List D → List PyData
  | [] => []
  | d :: ds => D.toPy d :: D.toPys ds
end
mutual
def D.plain : D → Bool
  | .non => true
  | .bl _ => true
  | .int _ => true
  | .str _ => true
  | .tup ds => D.plains ds
  | .lst _ ds => D.plains ds
  | .dK _ _ _ => false
  | .dT _ _ _ => false
  | .ins _ _ _ _ => false
def D.plains : List D → Bool
  | [] => true
  | d :: ds => D.plain d && D.plains ds
end
mutual
theorem Own.dp {K : PySem.W.Frag} {Z : Addr → Prop} {H : Hp} : ∀ {d : D} {G : List Addr} {v : V}, Own K Z H d G v → d.plain = true → Dp K H v d.toPy
  | .non, _, _, h, _ => by obtain ⟨rfl, _⟩ := own_non h; exact .non
  | .bl b, _, _, h, _ => by obtain ⟨rfl, _⟩ := own_bl h; exact .bl b
  | .int b, _, _, h, _ => by obtain ⟨rfl, _⟩ := own_int h; exact .int b
  | .str b, _, _, h, _ => by obtain ⟨rfl, _⟩ := own_str h; exact .str b
  | .tup ds, _, _, h, p => by
    obtain ⟨a, vs, rfl, s, o⟩ := own_tup h
    rw [D.plain] at p
    exact .tup (.of s) (Owns.dp o p)
  | .lst o ds, _, _, h, p => by
    obtain ⟨a, vs, G, rfl, s, o, _⟩ := own_lst h
    rw [D.plain] at p
    exact .lst (.inl s) (Owns.dp o p)
  | .dK _ _ _, _, _, _, p => by simp [D.plain] at p
  | .dT _ _ _, _, _, _, p => by simp [D.plain] at p
  | .ins _ _ _ _, _, _, _, p => by simp [D.plain] at p
theorem Owns.dp {K : PySem.W.Frag} {Z : Addr → Prop} {H : Hp} : ∀ {ds : List D} {G : List Addr} {vs : List V}, Owns K Z H ds G vs → D.plains ds = true → DpAll K H vs (D.toPys ds)
  | [], _, _, h, _ => by simp only [Owns] at h; obtain ⟨rfl, _⟩ := h; exact .nil
  | d :: ds, _, _, h, p => by
    simp only [Owns] at h
    obtain ⟨v, ws, F1, F2, rfl, rfl, o1, o2⟩ := h
    rw [D.plains, Bool.and_eq_true] at p
    exact .cons (Own.dp o1 p.1) (Owns.dp o2 p.2)
end
/-- may be compared -/
def D.ok (d : D) : Bool := d.plain && SeqAt.shaped d.toPy
def D.eqv (x y : D) : Bool := PyData.eqv x.toPy y.toPy
def eqD (x y : D) : Option D := if x.ok = true ∧ y.ok = true then some (.bl (D.eqv x y)) else none
def neD (x y : D) : Option D := if x.ok = true ∧ y.ok = true then some (.bl (!D.eqv x y)) else none
theorem r_eq {K : PySem.W.Frag} : R2D K (rEqD K) eqD := by
  intro Z F δ σ H x y dx dy d Fx Fy Q rl ox oy e k
  unfold eqD at e
  split at e
  · rename_i h
    cases e
    unfold D.ok at h
    rw [Bool.and_eq_true, Bool.and_eq_true] at h
    exact ⟨_, _, ox.dp h.1.1, oy.dp h.2.1, h.1.2, h.2.2, fin rl k rfl⟩
  · cases e
theorem r_ne {K : PySem.W.Frag} : R2D K (rNeD K) neD := by
  intro Z F δ σ H x y dx dy d Fx Fy Q rl ox oy e k
  unfold neD at e
  split at e
  · rename_i h
    cases e
    unfold D.ok at h
    rw [Bool.and_eq_true, Bool.and_eq_true] at h
    exact ⟨_, _, ox.dp h.1.1, oy.dp h.2.1, h.1.2, h.2.2, fin rl k rfl⟩
  · cases e

/-! ### is None, is True -/
def D.isNon : D → Bool
  | .non => true
  | _ => false
def isNonD (x y : D) : Option D := match y with
  | .non => some (.bl x.isNon)
  | _ => none
def isnotNonD (x y : D) : Option D := match y with
  | .non => some (.bl (!x.isNon))
  | _ => none
theorem own_non_iff {K : PySem.W.Frag} {Z : Addr → Prop} {H : Hp} {d : D} {G : List Addr} {v : V} (h : Own K Z H d G v) : decide (v = .non) = d.isNon := by
  cases d with
  | non => obtain ⟨rfl, _⟩ := own_non h; rfl
  | bl b => obtain ⟨rfl, _⟩ := own_bl h; rfl
  | int b => obtain ⟨rfl, _⟩ := own_int h; rfl
  | str b => obtain ⟨rfl, _⟩ := own_str h; rfl
  | tup ds => obtain ⟨a, vs, rfl, _⟩ := own_tup h; rfl
  | lst o ds => obtain ⟨a, vs, _, rfl, _⟩ := own_lst h; rfl
  | dK o _ ds => obtain ⟨a, vs, _, rfl, _⟩ := own_dK h; rfl
  | dT o _ ds => obtain ⟨a, vs, _, rfl, _⟩ := own_dT h; rfl
  | ins o _ _ ds => obtain ⟨a, _, vs, _, rfl, _⟩ := own_ins h; rfl
theorem r_isN {K : PySem.W.Frag} : R2D K (fun x y H Q => y = .non ∧ Q (.bl (decide (x = .non))) H) isNonD := by
  intro Z F δ σ H x y dx dy d Fx Fy Q rl ox oy e k
  cases dy <;> simp only [isNonD] at e <;> cases e
  exact ⟨(own_non oy).1, fin rl k (by rw [own_non_iff ox]; rfl)⟩
theorem r_notN {K : PySem.W.Frag} : R2D K (fun x y H Q => y = .non ∧ Q (.bl (!decide (x = .non))) H) isnotNonD := by
  intro Z F δ σ H x y dx dy d Fx Fy Q rl ox oy e k
  cases dy <;> simp only [isnotNonD] at e <;> cases e
  exact ⟨(own_non oy).1, fin rl k (by rw [own_non_iff ox]; rfl)⟩

/-! ### dict keys -/
def keyD : D → Option Key
  | .int i => some (.inl i)
  | .str x => some (.inr x)
  | _ => none
def keysD : List D → Option (List Key)
  | [] => some []
  | d :: ds => (keyD d).bind fun k => (keysD ds).map fun ks => k :: ks
def lookD {κ : Type} [DecidableEq κ] : List κ → List D → κ → Option D
  | k :: ks, d :: ds, x => if k = x then some d else lookD ks ds x
  | _, _, _ => none
theorem keyD_own {K : PySem.W.Frag} {Z : Addr → Prop} {H : Hp} {d : D} {G : List Addr} {v : V} {k : Key} (h : Own K Z H d G v) (e : keyD d = some k) : v = kV k := by
  cases d <;> simp [keyD] at e
  · subst e; exact (own_int h).1
  · subst e; exact (own_str h).1
theorem keysD_own {K : PySem.W.Frag} {Z : Addr → Prop} {H : Hp} : ∀ {ds : List D} {G : List Addr} {vs : List V} {ks : List Key}, Owns K Z H ds G vs → keysD ds = some ks → vs = ks.map kV
  | [], _, _, _, h, e => by
    simp only [Owns] at h
    obtain ⟨rfl, _⟩ := h
    simp [keysD] at e
    subst e
    rfl
  | d :: ds, _, _, _, h, e => by
    simp only [Owns] at h
    obtain ⟨v, ws, F1, F2, rfl, rfl, o1, o2⟩ := h
    simp only [keysD, Option.bind_eq_some_iff, Option.map_eq_some_iff] at e
    obtain ⟨k, e1, ks, e2, rfl⟩ := e
    rw [keyD_own o1 e1, keysD_own o2 e2]
    rfl
theorem lookD_own {κ : Type} [DecidableEq κ] {K : PySem.W.Frag} {Z : Addr → Prop} {H : Hp} {k : κ} : ∀ {kvs : List (κ × V)} {ds : List D} {G : List Addr}, Owns K Z H ds G (kvs.map (·.2)) →
    (∀ d, lookD (kvs.map (·.1)) ds k = some d → ∃ v G', valV kvs k = some v ∧ Own K Z H d G' v ∧ G'.Sublist G) ∧ (lookD (kvs.map (·.1)) ds k = none → valV kvs k = none)
  | [], [], _, _ => ⟨fun d e => by simp [lookD] at e, fun _ => rfl⟩
  | [], _ :: _, _, h => by
    simp only [List.map_nil, Owns] at h
    obtain ⟨v, ws, F1, F2, e, _⟩ := h
    cases e
  | p :: kvs, [], _, h => by
    simp only [List.map_cons, Owns] at h
    cases h.1
  | p :: kvs, d :: ds, _, h => by
    simp only [List.map_cons, Owns] at h
    obtain ⟨v, ws, F1, F2, e, rfl, o1, o2⟩ := h
    cases e
    simp only [List.map_cons, lookD]
    by_cases hk : p.1 = k
    · simp only [if_pos hk]
      refine ⟨fun d' e => ?_, fun e => nomatch e⟩
      cases e
      exact ⟨p.2, F1, valV_pos hk, o1, List.sublist_append_left _ _⟩
    · simp only [if_neg hk]
      rw [valV_neg hk]
      obtain ⟨i1, i2⟩ := lookD_own (k := k) o2
      refine ⟨fun d' e => ?_, i2⟩
      obtain ⟨v', G', q1, q2, q3⟩ := i1 d' e
      exact ⟨v', G', q1, q2, q3.trans (List.sublist_append_right _ _)⟩
/-- what a dict holds at a key; none: that is no dict, or no key of its kind -/
def dgetD : D → D → Option (Option D)
  | .dK _ ks ds, y => (keyD y).map (lookD ks ds)
  | .dT _ ks ds, .tup ys => (keysD ys).map (lookD ks ds)
  | _, _ => none
theorem dget_own {K : PySem.W.Frag} {Z : Addr → Prop} {H : Hp} {x y : V} {dx dy : D} {Fx Fy : List Addr} {r : Option D} (ox : Own K Z H dx Fx x) (oy : Own K Z H dy Fy y) (e : dgetD dx dy = some r) :
    ∃ a o, x = .ref a ∧ DGet H a y o ∧ IsD H a ∧ o.isSome = r.isSome ∧ ∀ d, r = some d → ∃ v G, o = some v ∧ Own K Z H d G v ∧ G.Sublist Fx := by
  unfold dgetD at e
  split at e
  · rw [Option.map_eq_some_iff] at e
    obtain ⟨k, e1, rfl⟩ := e
    obtain ⟨a, kvs, G', rfl, s, rfl, o, sub⟩ := own_dK ox
    obtain ⟨i1, i2⟩ := lookD_own (k := k) o
    refine ⟨a, valV kvs k, rfl, .inl ⟨kvs, k, s, keyD_own oy e1, rfl⟩, .inl ⟨kvs, s⟩, ?_, fun d e => ?_⟩
    · cases q : lookD (kvs.map (·.1)) _ k with
      | none => rw [i2 q]; rfl
      | some d => obtain ⟨v, G, q1, _⟩ := i1 d q; rw [q1]; rfl
    · obtain ⟨v, G, q1, q2, q3⟩ := i1 d e
      exact ⟨v, G, q1, q2, q3.trans sub⟩
  · rw [Option.map_eq_some_iff] at e
    obtain ⟨k, e1, rfl⟩ := e
    obtain ⟨a, kvs, G', rfl, s, rfl, o, sub⟩ := own_dT ox
    obtain ⟨b, vs, rfl, s2, o2⟩ := own_tup oy
    obtain ⟨i1, i2⟩ := lookD_own (k := k) o
    refine ⟨a, valV kvs k, rfl, .inr ⟨kvs, k, b, s, rfl, by rw [← keysD_own o2 e1]; exact s2, rfl⟩, .inr ⟨kvs, s⟩, ?_, fun d e => ?_⟩
    · cases q : lookD (kvs.map (·.1)) _ k with
      | none => rw [i2 q]; rfl
      | some d => obtain ⟨v, G, q1, _⟩ := i1 d q; rw [q1]; rfl
    · obtain ⟨v, G, q1, q2, q3⟩ := i1 d e
      exact ⟨v, G, q1, q2, q3.trans sub⟩
  · cases e

/-! ### in, not in -/
section
variable {X : Cx}
def rDIn (neg : Bool) : R2 := fun y x H Q => ∃ a o, x = .ref a ∧ DGet H a y o ∧ Q (.bl (if neg then !o.isSome else o.isSome)) H
theorem op_din (hu : X.A.units + 1 < cLine) : OpR X (compareOp .In) (rDIn false) := by
  intro pins s σ H x y v u Q I rx ry h
  obtain ⟨a, o, rfl, g, q⟩ := h
  cases ry
  exact d_in hu I g rx fun s3 I3 => ⟨.bl o.isSome, H, I3, rfl, q⟩
theorem op_dnotin (hu : X.A.units + 1 < cLine) : OpR X (compareOp .NotIn) (rDIn true) := by
  intro pins s σ H x y v u Q I rx ry h
  obtain ⟨a, o, rfl, g, q⟩ := h
  cases ry
  exact d_notIn hu I g rx fun s3 I3 => ⟨.bl (!o.isSome), H, I3, rfl, q⟩
def rInAll (K : PySem.W.Frag) : R2 := fun x y H Q => rInD K x y H Q ∨ rIn K false x y H Q ∨ rDIn false x y H Q ∨ ∃ i j, x = .str i ∧ y = .str j ∧ Q (.bl (!(Builtin.Str.occurrences j i 0 j.length 1).isEmpty)) H
def rNotInAll (K : PySem.W.Frag) : R2 := fun x y H Q => rNotInD K x y H Q ∨ rIn K true x y H Q ∨ rDIn true x y H Q ∨ ∃ i j, x = .str i ∧ y = .str j ∧ Q (.bl (!(!(Builtin.Str.occurrences j i 0 j.length 1).isEmpty))) H
theorem op_inAll (hu : X.A.units + 65 < cLine) : OpR X (compareOp .In) (rInAll X.K) := (op_inD hu).or (op_in_seq.or ((op_din (by omega)).or op_in_str))
theorem op_notInAll (hu : X.A.units + 65 < cLine) : OpR X (compareOp .NotIn) (rNotInAll X.K) := (op_notInD hu).or (op_notIn_seq.or ((op_dnotin (by omega)).or op_notIn_str))
end
def D.flat : D → Bool
  | .non => true
  | .bl _ => true
  | .int _ => true
  | .str _ => true
  | _ => false
theorem flat_own {K : PySem.W.Frag} {Z : Addr → Prop} {H : Hp} {d : D} {G : List Addr} {v : V} (h : Own K Z H d G v) (f : d.flat = true) : flatV v = true ∧ ∀ {d2 : D} {G2 : List Addr} {v2 : V}, Own K Z H d2 G2 v2 → d2.flat = true → eqV v v2 = D.eqv d d2 := by
  cases d <;> simp [D.flat] at f
  · obtain ⟨rfl, _⟩ := own_non h
    refine ⟨rfl, fun {d2 G2 v2} h2 f2 => ?_⟩
    cases d2 <;> simp [D.flat] at f2
    · obtain ⟨rfl, _⟩ := own_non h2; rfl
    · obtain ⟨rfl, _⟩ := own_bl h2; rfl
    · obtain ⟨rfl, _⟩ := own_int h2; rfl
    · obtain ⟨rfl, _⟩ := own_str h2; rfl
  · obtain ⟨rfl, _⟩ := own_bl h
    refine ⟨rfl, fun {d2 G2 v2} h2 f2 => ?_⟩
    cases d2 <;> simp [D.flat] at f2
    · obtain ⟨rfl, _⟩ := own_non h2; rfl
    · obtain ⟨rfl, _⟩ := own_bl h2; rfl
    · obtain ⟨rfl, _⟩ := own_int h2; rfl
    · obtain ⟨rfl, _⟩ := own_str h2; rfl
  · obtain ⟨rfl, _⟩ := own_int h
    refine ⟨rfl, fun {d2 G2 v2} h2 f2 => ?_⟩
    cases d2 <;> simp [D.flat] at f2
    · obtain ⟨rfl, _⟩ := own_non h2; rfl
    · obtain ⟨rfl, _⟩ := own_bl h2; rfl
    · obtain ⟨rfl, _⟩ := own_int h2; rfl
    · obtain ⟨rfl, _⟩ := own_str h2; rfl
  · obtain ⟨rfl, _⟩ := own_str h
    refine ⟨rfl, fun {d2 G2 v2} h2 f2 => ?_⟩
    cases d2 <;> simp [D.flat] at f2
    · obtain ⟨rfl, _⟩ := own_non h2; rfl
    · obtain ⟨rfl, _⟩ := own_bl h2; rfl
    · obtain ⟨rfl, _⟩ := own_int h2; rfl
    · obtain ⟨rfl, _⟩ := own_str h2; rfl
theorem flats_own {K : PySem.W.Frag} {Z : Addr → Prop} {H : Hp} {d : D} {G : List Addr} {v : V} (h : Own K Z H d G v) (f : d.flat = true) : ∀ {ds : List D} {Gs : List Addr} {vs : List V}, Owns K Z H ds Gs vs → ds.all D.flat = true → vs.all flatV = true ∧ inV v vs = ds.any fun z => D.eqv z d
  | [], _, _, hs, _ => by
    simp only [Owns] at hs
    obtain ⟨rfl, _⟩ := hs
    exact ⟨rfl, rfl⟩
  | e :: ds, _, _, hs, fs => by
    simp only [Owns] at hs
    obtain ⟨w, ws, F1, F2, rfl, rfl, o1, o2⟩ := hs
    rw [List.all_cons, Bool.and_eq_true] at fs
    obtain ⟨i1, i2⟩ := flats_own h f o2 fs.2
    obtain ⟨j1, j2⟩ := flat_own o1 fs.1
    refine ⟨by rw [List.all_cons, j1, i1]; rfl, ?_⟩
    unfold inV at i2 ⊢
    rw [List.any_cons, List.any_cons, i2, j2 h f]
theorem toPys_map : ∀ ds : List D, D.toPys ds = ds.map D.toPy
  | [] => rfl
  | d :: ds => by rw [D.toPys, toPys_map ds, List.map_cons]
def isInD (x y : D) : Option Bool := match y with
  | .lst _ ds => if x.ok = true ∧ y.ok = true then some (ds.any fun z => D.eqv z x) else none
  | .tup ds => if x.flat = true ∧ ds.all D.flat = true then some (ds.any fun z => D.eqv z x) else none
  | .str t => match x with
    | .str s => some (!(Builtin.Str.occurrences t s 0 t.length 1).isEmpty)
    | _ => none
  | d => (dgetD d x).map (·.isSome)
def inD (x y : D) : Option D := (isInD x y).map .bl
def notInD (x y : D) : Option D := (isInD x y).map fun b => .bl (!b)
theorem any_toPy (x : D) : ∀ ds : List D, ((D.toPys ds).any fun z => PyData.eqv z x.toPy) = ds.any fun z => D.eqv z x
  | [] => rfl
  | d :: ds => by rw [D.toPys, List.any_cons, List.any_cons, any_toPy x ds]; rfl
theorem isIn_own {K : PySem.W.Frag} {Z : Addr → Prop} {H : Hp} {x y : V} {dx dy : D} {Fx Fy : List Addr} {b : Bool} (ox : Own K Z H dx Fx x) (oy : Own K Z H dy Fy y) (e : isInD dx dy = some b) :
    (∃ d ds, Dp K H x d ∧ Dp K H y (.list ds) ∧ SeqAt.shaped d = true ∧ SeqAt.shaped (.list ds) = true ∧ (ds.any fun z => PyData.eqv z d) = b) ∨
    (∃ p xs, y = .ref p ∧ (SqL K H p xs ∨ SqT K H p xs) ∧ flatV x = true ∧ xs.all flatV = true ∧ inV x xs = b) ∨
    (∃ a o, y = .ref a ∧ DGet H a x o ∧ o.isSome = b) ∨ ∃ i j, x = .str i ∧ y = .str j ∧ (!(Builtin.Str.occurrences j i 0 j.length 1).isEmpty) = b := by
  unfold isInD at e
  split at e
  · split at e
    · rename_i o ds h
      cases e
      unfold D.ok at h
      rw [Bool.and_eq_true, Bool.and_eq_true] at h
      have h2 := oy.dp h.2.1
      exact .inl ⟨_, _, ox.dp h.1.1, h2, h.1.2, h.2.2, any_toPy _ _⟩
    · cases e
  · split at e
    · rename_i ds h
      cases e
      obtain ⟨a, vs, rfl, s, o⟩ := own_tup oy
      obtain ⟨i1, i2⟩ := flats_own ox h.1 o h.2
      exact .inr (.inl ⟨a, vs, rfl, .inr (.of s), (flat_own ox h.1).1, i1, i2⟩)
    · cases e
  · split at e
    · cases e
      exact .inr (.inr (.inr ⟨_, _, (own_str ox).1, (own_str oy).1, rfl⟩))
    · cases e
  · rw [Option.map_eq_some_iff] at e
    obtain ⟨r, e1, rfl⟩ := e
    obtain ⟨a, o, rfl, g, _, q, _⟩ := dget_own oy ox e1
    exact .inr (.inr (.inl ⟨a, o, rfl, g, q⟩))
theorem r_in {K : PySem.W.Frag} : R2D K (rInAll K) inD := by
  intro Z F δ σ H x y dx dy d Fx Fy Q rl ox oy e k
  unfold inD at e
  rw [Option.map_eq_some_iff] at e
  obtain ⟨b, e1, rfl⟩ := e
  have q : Q (.bl b) H := fin rl k rfl
  rcases isIn_own ox oy e1 with ⟨d, ds, h1, h2, h3, h4, rfl⟩ | ⟨p, xs, h1, h2, h3, h4, rfl⟩ | ⟨a, o, h1, h2, rfl⟩ | ⟨i, j, h1, h2, rfl⟩
  · exact .inl ⟨d, ds, h1, h2, h3, h4, q⟩
  · exact .inr (.inl ⟨p, xs, h1, h2, h3, h4, q⟩)
  · exact .inr (.inr (.inl ⟨a, o, h1, h2, q⟩))
  · exact .inr (.inr (.inr ⟨i, j, h1, h2, q⟩))
theorem r_notIn {K : PySem.W.Frag} : R2D K (rNotInAll K) notInD := by
  intro Z F δ σ H x y dx dy d Fx Fy Q rl ox oy e k
  unfold notInD at e
  rw [Option.map_eq_some_iff] at e
  obtain ⟨b, e1, rfl⟩ := e
  have q : Q (.bl (!b)) H := fin rl k rfl
  rcases isIn_own ox oy e1 with ⟨d, ds, h1, h2, h3, h4, rfl⟩ | ⟨p, xs, h1, h2, h3, h4, rfl⟩ | ⟨a, o, h1, h2, rfl⟩ | ⟨i, j, h1, h2, rfl⟩
  · exact .inl ⟨d, ds, h1, h2, h3, h4, q⟩
  · exact .inr (.inl ⟨p, xs, h1, h2, h3, h4, q⟩)
  · exact .inr (.inr (.inl ⟨a, o, h1, h2, q⟩))
  · exact .inr (.inr (.inr ⟨i, j, h1, h2, q⟩))
end TL
set_option Elab.async false
set_option linter.all false
set_option maxRecDepth 100000
set_option maxHeartbeats 4000000
/-! T3: subscripts, slices, built-ins, calls. -/
namespace TL
open PySem L2

/-! ### parts of a value -/
/-- what a rule of two values gives that is a part of the first -/
def R2P (K : PySem.W.Frag) (r : R2) (f : D → D → Option D) : Prop :=
  ∀ {Z : Addr → Prop} {F : Fp} {δ : En} {σ : St} {H : Hp} {x y : V} {dx dy d : D} {Fx Fy : List Addr} {Q : VK}, Rel K Z F δ σ H → Own K Z H dx Fx x → Own K Z H dy Fy y → f dx dy = some d →
    (∀ v G, Own K Z H d G v → G.Sublist Fx → Q v H) → r x y H Q
theorem New.sub {F F' : Fp} {H : Hp} {Z' : Addr → Prop} {G G' : List Addr} (n : New F H Z' F' G) (s : G'.Sublist G) : New F H Z' F' G' :=
  ⟨n.nd.sublist s, fun a m => n.zd a (s.subset m), fun a m => n.fd a (s.subset m), fun a m => n.from' a (s.subset m)⟩
theorem New.stay {Z1 Z2 : Addr → Prop} {F F1 F2 : Fp} {H H1 H2 : Hp} {G : List Addr} (f2 : Fr Z1 F1 H1 Z2 F2 H2) (h1 : ∀ a ∈ G, ∃ o, H1 a = some o) (n : New F H Z1 F1 G) : New F H Z2 F2 G where
  nd := n.nd
  zd := fun a m z => by
    rcases f2.znew a z with z | z | ⟨i, z⟩
    · exact n.zd a m z
    · obtain ⟨o, q⟩ := h1 a m
      rw [z] at q; cases q
    · exact n.fd a m i z
  fd := fun a m i mi => by
    rcases f2.fnew i a mi with z | ⟨j, z⟩
    · obtain ⟨o, q⟩ := h1 a m
      rw [z] at q; cases q
    · exact n.fd a m j z
  from' := n.from'
section
variable {X : Cx} {e : Expr} {pos : Pos}
theorem op2p_rd {p1 p2 : List Nat} {fr1 fr2 : Bool} {m1 m2 : M D} {r : R2} {f : D → D → Option D} (hr : R2P X.K r f) (c : (p2.isEmpty || fr1) = true) : ∀ σ H Q, tG X.K (p1 ++ p2) fr1 (mop2 f m1 m2) σ H Q →
    tG X.K p1 fr1 m1 σ H fun x H1 => tG X.K p2 fr2 m2 σ H1 fun y H2 => r x y H2 Q :=
  fun σ H Q ⟨Z, F, δ, d, δ', rl, e1, k⟩ => by
    unfold mop2 at e1
    rw [mbind_some] at e1
    obtain ⟨d1, δ1, e1, e2⟩ := e1
    rw [mbind_some] at e2
    obtain ⟨d2, δ2, e2, e3⟩ := e2
    rw [mopt_some] at e3
    obtain ⟨e3, rfl⟩ := e3
    refine ⟨Z, F, δ, d1, δ1, rl, e1, fun v H1 Z1 F1 G1 r1 f1 pu1 o1 n1 => ⟨Z1, F1, δ1, d2, δ', r1, e2, fun w H2 Z2 F2 G2 r2 f2 pu2 o2 n2 => ?_⟩⟩
    have o1' := o1.keep (hold r1 f2 pu2 (fun e => (n1 e).fd) c)
    refine hr r2 o1' o2 e3 fun u G3 o3 s3 => k u H2 Z2 F2 G3 r2 (f1.trans f2) (pu1.trans pu2) o3 fun e => ?_
    · exact (New.stay f2 (fun a m => mut_some (o1.here a m)) (n1 e)).sub s3
end

/-! ### a[b] -/
def atD (ds : List D) (y : D) : Option D := match y with
  | .int i => atI ds i
  | _ => none
def indexD (x y : D) : Option D := match x with
  | .lst _ ds => atD ds y
  | .tup ds => atD ds y
  | .str z => match y with
    | .int i => if z.length ≤ sizeLine then (atI z.cps.toList i).map fun c => .str ⟨#[c]⟩ else none
    | _ => none
  | d => (dgetD d y).join
theorem atI_own {K : PySem.W.Frag} {Z : Addr → Prop} {H : Hp} {ds : List D} {G : List Addr} {vs : List V} {i : Int} {d : D} (o : Owns K Z H ds G vs) (e : atI ds i = some d) : ∃ v G', atI vs i = some v ∧ Own K Z H d G' v ∧ G'.Sublist G := by
  unfold atI at e ⊢
  rw [Option.bind_eq_some_iff] at e
  obtain ⟨j, e1, e2⟩ := e
  obtain ⟨v, G', q1, q2, q3⟩ := o.get e2
  rw [o.length] at e1
  exact ⟨v, G', by rw [e1]; exact q1, q2, q3⟩
section
variable {X : Cx}
def rDGet : R2 := fun x y H Q => ∃ a v, x = .ref a ∧ DGet H a y (some v) ∧ Q v H
theorem ix_dict (hu : X.A.units + 1 < cLine) : IxR X rDGet := by
  intro value slice pins s σ H x y v u Q I rx ry h hs
  obtain ⟨a, w, rfl, g, q⟩ := h
  cases rx
  exact PyProof.Rows.tail_any (dict_typeIs I g) PySem.F.slot_dict_getitem.lookup (d_getItem hu I g ry fun w' s3 I3 rw' => ⟨w, H, I3, rw', q⟩) hs
def rIxAll (K : PySem.W.Frag) : R2 := fun x y H Q => rIx K x y H Q ∨ rDGet x y H Q
theorem ix_all (hu : X.A.units + 1 < cLine) : IxR X (rIxAll X.K) := ix_seq.or (ix_dict hu)
end
theorem r_index {K : PySem.W.Frag} : R2P K (rIxAll K) indexD := by
  intro Z F δ σ H x y dx dy d Fx Fy Q rl ox oy e k
  unfold indexD at e
  split at e
  · unfold atD at e
    split at e
    · obtain ⟨a, vs, G, rfl, s, o, sb⟩ := own_lst ox
      obtain ⟨v, G', q1, q2, q3⟩ := atI_own o e
      exact .inl (.inl ⟨a, vs, _, v, rfl, (own_int oy).1, .inl s, q1, k v G' q2 (q3.trans sb)⟩)
    · cases e
  · unfold atD at e
    split at e
    · obtain ⟨a, vs, rfl, s, o⟩ := own_tup ox
      obtain ⟨v, G', q1, q2, q3⟩ := atI_own o e
      exact .inl (.inr (.inl ⟨a, vs, _, v, rfl, (own_int oy).1, .of s, q1, k v G' q2 q3⟩))
    · cases e
  · split at e
    · split at e
      · rename_i hz
        rw [Option.map_eq_some_iff] at e
        obtain ⟨c, e1, rfl⟩ := e
        exact .inl (.inr (.inr ⟨_, _, c, (own_str ox).1, (own_int oy).1, hz, e1, k _ [] (by simp [Own]) (List.nil_sublist _)⟩))
      · cases e
    · cases e
  · cases q : dgetD dx dy with
    | none => rw [q] at e; cases e
    | some r =>
      rw [q] at e
      change r = some d at e
      obtain ⟨a, o, rfl, g, _, _, h⟩ := dget_own ox oy q
      obtain ⟨v, G, rfl, o1, s1⟩ := h d e
      exact .inr ⟨a, v, rfl, g, k v G o1 s1⟩
section
variable {X : Cx} {e : Expr} {pos : Pos}
theorem de_ix {a b : Expr} {p1 p2 : List Nat} {fr1 fr2 : Bool} {m1 m2 : M D} (hu : X.A.units + 1 < cLine) (ha : DE X a p1 fr1 m1) (hb : DE X b p2 fr2 m2) (hs : PlainIx b := by exact fun _ _ => rfl) (c : (p2.isEmpty || fr1) = true := by rfl) :
    DE X (.Subscript a b pos) (p1 ++ p2) fr1 (mop2 indexD m1 m2) := wE (pe_ix (ix_all hu) ha hb hs) (op2p_rd r_index c)

/-! ### slices -/
def tGo (K : PySem.W.Frag) (t : List Nat) (m : M (Option Int)) : TO := fun σ H Q => ∃ Z F δ o δ', Rel K Z F δ σ H ∧ m δ = some (o, δ') ∧
  ∀ H' Z' F', Rel K Z' F' δ' σ H' → Fr Z F H Z' F' H' → Tch t F δ H F' δ' H' → Q o H'
abbrev DO (X : Cx) (e : Option Expr) (t : List Nat) (m : M (Option Int)) : Prop := PO X e (tGo X.K t m)
theorem wO {o : Option Expr} {t t' : TO} (h : PO X o t) (w : ∀ σ H Q, t' σ H Q → t σ H Q) : PO X o t' := ⟨fun pins s σ H Q I q => h.run pins s σ H Q I (w σ H Q q)⟩
theorem do_none : DO X none [] (mk none) := wO po_none fun σ H Q ⟨Z, F, δ, o, δ', r, e1, k⟩ => by
  rw [mk_some] at e1
  obtain ⟨rfl, rfl⟩ := e1
  exact k H Z F r Fr.refl Tch.refl
def mpart (m : M D) : M (Option Int) := mbind m fun d => match d with
  | .int i => mk (some i)
  | _ => fun _ => none
theorem do_some {a : Expr} {p : List Nat} {fr : Bool} {m : M D} (h : DE X a p fr m) : DO X (some a) p (mpart m) := wO (po_some h) fun σ H Q ⟨Z, F, δ, o, δ', r, e1, k⟩ => by
  unfold mpart at e1
  rw [mbind_some] at e1
  obtain ⟨d1, δ1, e1, e2⟩ := e1
  split at e2
  · rw [mk_some] at e2
    obtain ⟨rfl, rfl⟩ := e2
    refine ⟨Z, F, δ, _, δ', r, e1, fun v H' Z' F' G r' f pu o _ => ⟨_, (own_int o).1, k H' Z' F' r' f pu⟩⟩
  · cases e2
def cutL {α : Type} (xs : List α) (lo hi : Option Int) : List α := (xs.drop (HT.sIx xs.length 0 lo)).take (HT.sIx xs.length xs.length hi - HT.sIx xs.length 0 lo)
def sliceD (x : D) (lo hi : Option Int) : Option D := match x with
  | .lst _ ds => if D.isFzs ds = true then some (.lst true (cutL ds lo hi)) else none
  | .tup ds => if D.isFzs ds = true ∧ ¬ (HT.sIx ds.length 0 lo = 0 ∧ HT.sIx ds.length ds.length hi = ds.length) then some (.tup (cutL ds lo hi)) else none
  | .str z => if z.length ≤ sizeLine then some (.str (cutS z lo hi)) else none
  | _ => none
def mslice (a : M D) (lo hi : M (Option Int)) : M D := mbind a fun x => mbind lo fun l => mbind hi fun h => mopt (sliceD x l h)
theorem Owns.takeN {K : PySem.W.Frag} {Z : Addr → Prop} {H : Hp} : ∀ {ds : List D} {vs : List V} (n : Nat), Owns K Z H ds [] vs → Owns K Z H (ds.take n) [] (vs.take n)
  | [], _, n, h => by simp only [Owns] at h; obtain ⟨rfl, _⟩ := h; cases n <;> simp [Owns]
  | d :: ds, _, 0, h => by simp [Owns]
  | d :: ds, _, n + 1, h => by
    simp only [Owns] at h
    obtain ⟨v, ws, F1, F2, rfl, e, o1, o2⟩ := h
    obtain ⟨rfl, rfl⟩ := List.append_eq_nil_iff.mp e.symm
    simp only [List.take_succ_cons, Owns]
    exact ⟨v, _, [], [], rfl, rfl, o1, Owns.takeN n o2⟩
theorem Owns.dropN {K : PySem.W.Frag} {Z : Addr → Prop} {H : Hp} : ∀ {ds : List D} {vs : List V} (n : Nat), Owns K Z H ds [] vs → Owns K Z H (ds.drop n) [] (vs.drop n)
  | _, _, 0, h => h
  | [], _, n + 1, h => by simp only [Owns] at h; obtain ⟨rfl, _⟩ := h; simp [Owns]
  | d :: ds, _, n + 1, h => by
    simp only [Owns] at h
    obtain ⟨v, ws, F1, F2, rfl, e, o1, o2⟩ := h
    obtain ⟨rfl, rfl⟩ := List.append_eq_nil_iff.mp e.symm
    exact Owns.dropN n o2
theorem Owns.cut {K : PySem.W.Frag} {Z : Addr → Prop} {H : Hp} {ds : List D} {vs : List V} (lo hi : Option Int) (h : Owns K Z H ds [] vs) : Owns K Z H (cutL ds lo hi) [] (cutV vs lo hi) := by
  unfold cutL cutV
  rw [h.length]
  exact (h.dropN _).takeN _
def rSlAll (K : PySem.W.Frag) : V → Option Int → Option Int → Hp → VK → Prop := fun x lo hi H Q => rSlL K x lo hi H Q ∨ rSlT K x lo hi H Q ∨ rSlS x lo hi H Q
theorem sl_all : SlR X (rSlAll X.K) := sl_list.or (sl_tup.or sl_str)
theorem de_slice {a : Expr} {lo hi : Option Expr} {p2' : Pos} {p1 p2 p3 : List Nat} {fr1 : Bool} {m1 : M D} {m2 m3 : M (Option Int)} (ha : DE X a p1 fr1 m1) (hl : DO X lo p2 m2) (hh : DO X hi p3 m3) (c : ((p2 ++ p3).isEmpty || fr1) = true := by rfl) :
    DE X (.Subscript a (.Slice lo hi none p2') pos) (p1 ++ (p2 ++ p3)) true (mslice m1 m2 m3) := wE (pe_slice sl_all ha hl hh) fun σ H Q ⟨Z, F, δ, d, δ', rl, e1, k⟩ => by
  unfold mslice at e1
  rw [mbind_some] at e1
  obtain ⟨d1, δ1, e1, e2⟩ := e1
  rw [mbind_some] at e2
  obtain ⟨l, δ2, e2, e3⟩ := e2
  rw [mbind_some] at e3
  obtain ⟨h, δ3, e3, e4⟩ := e3
  rw [mopt_some] at e4
  obtain ⟨e4, rfl⟩ := e4
  refine ⟨Z, F, δ, d1, δ1, rl, e1, fun v H1 Z1 F1 G1 r1 f1 pu1 o1 n1 => ⟨Z1, F1, δ1, l, δ2, r1, e2, fun H2 Z2 F2 r2 f2 pu2 => ⟨Z2, F2, δ2, h, δ', r2, e3, fun H3 Z3 F3 r3 f3 pu3 => ?_⟩⟩⟩
  have f23 := f2.trans f3
  have pu23 := pu2.trans pu3
  have o1' := o1.keep (hold r1 f23 pu23 (fun e => (n1 e).fd) c)
  have pu := pu1.trans pu23
  have kk : ∀ v H' Z' G, Rel X.K Z' F3 δ' σ H' → Fr Z3 F3 H3 Z' F3 H' → Same H3 H' → Own X.K Z' H' d G v → New F3 H3 Z' F3 G → Q v H' := fun v H' Z' G r' f' s' o' n' =>
    k v H' Z' F3 G r' ((f1.trans f23).trans f') (pu.more rl s') o' fun _ => n'.back (f1.trans f23)
  unfold sliceD at e4
  split at e4
  · split at e4
    · rename_i hz
      cases e4
      obtain ⟨a, vs, G, rfl, s, o, _⟩ := own_lst o1'
      exact .inl ⟨a, vs, rfl, .inl s, fin_lst r3 kk ((o.nils hz).cut _ _)⟩
    · cases e4
  · split at e4
    · rename_i hz
      cases e4
      obtain ⟨a, vs, rfl, s, o⟩ := own_tup o1'
      refine .inr (.inl ⟨a, vs, rfl, .of s, by rw [← o.length]; exact hz.2, fin_tup r3 kk ((o.nils hz.1).cut _ _)⟩)
    · cases e4
  · split at e4
    · rename_i hz
      cases e4
      exact .inr (.inr ⟨_, (own_str o1').1, hz, fin r3 kk rfl⟩)
    · cases e4
  · cases e4
def revD : D → Option D
  | .lst _ ds => if D.isFzs ds = true then some (.lst true ds.reverse) else none
  | _ => none
theorem Owns.snoc1 {K : PySem.W.Frag} {Z : Addr → Prop} {H : Hp} {ds : List D} {vs : List V} {d : D} {v : V} (h : Owns K Z H ds [] vs) (o : Own K Z H d [] v) : Owns K Z H (ds ++ [d]) [] (vs ++ [v]) := by
  have := h.append (Owns.one o)
  simpa using this
theorem Owns.rev {K : PySem.W.Frag} {Z : Addr → Prop} {H : Hp} : ∀ {ds : List D} {vs : List V}, Owns K Z H ds [] vs → Owns K Z H ds.reverse [] vs.reverse
  | [], _, h => by simp only [Owns] at h; obtain ⟨rfl, _⟩ := h; simp [Owns]
  | d :: ds, _, h => by
    simp only [Owns] at h
    obtain ⟨v, ws, F1, F2, rfl, e, o1, o2⟩ := h
    obtain ⟨rfl, rfl⟩ := List.append_eq_nil_iff.mp e.symm
    rw [List.reverse_cons, List.reverse_cons]
    exact (Owns.rev o2).snoc1 o1
theorem de_rev {a : Expr} {n : Nat} {q1 q2 q3 : Pos} {p : List Nat} {fr : Bool} {m : M D} (h : DE X a p fr m) : DE X (.Subscript a (.Slice none none (some (.UnaryOp .USub (.Constant (.int 1) n q1) q2)) q3) pos) p true (mop1 revD m) :=
  wE (pe_revL h) fun σ H Q hh => op1_rd (r := fun x H1 Q => ∃ a xs, x = .ref a ∧ SqL X.K H1 a xs ∧ ∀ p, H1 p = none → Q (.ref p) (upd H1 p (.lst xs.reverse))) (fun {Z F δ σ H x dx d Fx Q} rl ox e k => by
    unfold revD at e
    split at e
    · split at e
      · rename_i hz
        cases e
        obtain ⟨a, vs, G, rfl, s, o, _⟩ := own_lst ox
        exact ⟨a, vs, rfl, .inl s, fin_lst rl k (o.nils hz).rev⟩
      · cases e
    · cases e) σ H Q hh

/-! ### built-ins of one argument, of two -/
theorem de_b1 {a : Expr} {x : Str} {q : Pos} {id : String} {r : List V → Hp → VK → Prop} {f : D → Option D} {p : List Nat} {fr : Bool} {m : M D} (hc : CallR X (.builtin id) r) (hr : R1 X.K (fun x H Q => r [x] H Q) f) (hg : Gl X x) (hm : X.mg x = none) (hv : bootBuiltins x = some (.builtin id)) (ha : DE X a p fr m)
    (hn : x ≠ "__name__" := by decide) (hdb : (x == ("__debug__" : Str)) = false := by decide) (he : starEach [a] X.env = (false, eval a X.env) :: starEach [] X.env := by rfl) (hpl : (backTo pos (starEach [] X.env)).any (·.1) = false := by rfl) :
    DE X (.Call (.Name x q) [a] [] pos) p true (mop1 f m) := wE (pe_callB hc hg hm hv (pa_cons ha pa_nil he) hn hdb he hpl) fun σ H Q h => op1_rd hr σ H Q h
theorem de_t1 {a : Expr} {x : Str} {q : Pos} {T : String} {r : List V → Hp → VK → Prop} {f : D → Option D} {p : List Nat} {fr : Bool} {m : M D} (hc : CallR X (.type T) r) (hr : R1 X.K (fun x H Q => r [x] H Q) f) (hg : Gl X x) (hm : X.mg x = none) (hv : bootBuiltins x = some (.type T)) (ha : DE X a p fr m)
    (hn : x ≠ "__name__" := by decide) (hdb : (x == ("__debug__" : Str)) = false := by decide) (he : starEach [a] X.env = (false, eval a X.env) :: starEach [] X.env := by rfl) (hpl : (backTo pos (starEach [] X.env)).any (·.1) = false := by rfl) :
    DE X (.Call (.Name x q) [a] [] pos) p true (mop1 f m) := wE (pe_callTy hc hg hm hv (pa_cons ha pa_nil he) hn hdb he hpl) fun σ H Q h => op1_rd hr σ H Q h
theorem de_b2 {a b : Expr} {x : Str} {q : Pos} {id : String} {r : List V → Hp → VK → Prop} {f : D → D → Option D} {p1 p2 : List Nat} {fr1 fr2 : Bool} {m1 m2 : M D} (hc : CallR X (.builtin id) r) (hr : R2D X.K (fun x y H Q => r [x, y] H Q) f) (hg : Gl X x) (hm : X.mg x = none) (hv : bootBuiltins x = some (.builtin id))
    (ha : DE X a p1 fr1 m1) (hb : DE X b p2 fr2 m2) (c : (p2.isEmpty || fr1) = true := by rfl) (hn : x ≠ "__name__" := by decide) (hdb : (x == ("__debug__" : Str)) = false := by decide) (he : starEach [a, b] X.env = (false, eval a X.env) :: starEach [b] X.env := by rfl) (he2 : starEach [b] X.env = (false, eval b X.env) :: starEach [] X.env := by rfl) (hpl : (backTo pos (starEach [b] X.env)).any (·.1) = false := by rfl) :
    DE X (.Call (.Name x q) [a, b] [] pos) (p1 ++ p2) true (mop2 f m1 m2) := wE (pe_callB hc hg hm hv (pa_cons ha (pa_cons hb pa_nil he2) he) hn hdb he hpl) fun σ H Q h => op2_rd hr c σ H Q h
end
section
variable {X : Cx} {K : PySem.W.Frag}
/-! ### len -/
def lenD : D → Option D
  | .lst _ ds => some (.int ds.length)
  | .tup ds => some (.int ds.length)
  | .str z => if z.length ≤ sizeLine then some (.int z.length) else none
  | .dK _ ks _ => some (.int ks.length)
  | _ => none
theorem call_lenK : CallR X (.builtin "len") (fun xs H Q => ∃ a kvs, xs = [V.ref a] ∧ Rd H a (.dK kvs) ∧ Q (.int kvs.length) H) := by
  intro pins s σ H xs us Q I r h
  obtain ⟨a, kvs, rfl, ha, q⟩ := h
  obtain ⟨u, rfl, ru⟩ := vals1 r
  cases ru
  exact d_len I ha fun t s' I' => ⟨.int kvs.length, H, I', ⟨t, rfl⟩, q⟩
def rLenAll (K : PySem.W.Frag) : List V → Hp → VK → Prop := fun xs H Q => (∃ x n, xs = [x] ∧ LenV K x H n ∧ Q (.int n) H) ∨ ∃ a kvs, xs = [V.ref a] ∧ Rd H a (.dK kvs) ∧ Q (.int kvs.length) H
theorem call_lenAll : CallR X (.builtin "len") (rLenAll X.K) := call_len.or call_lenK
theorem r_len : R1 K (fun x H Q => rLenAll K [x] H Q) lenD := by
  intro Z F δ σ H x dx d Fx Q rl ox e k
  unfold lenD at e
  split at e
  · cases e
    obtain ⟨a, vs, G, rfl, s, o, _⟩ := own_lst ox
    exact .inl ⟨_, vs.length, rfl, .inl ⟨vs, .inl s, rfl⟩, fin rl k (by rw [o.length]; rfl)⟩
  · cases e
    obtain ⟨a, vs, rfl, s, o⟩ := own_tup ox
    exact .inl ⟨_, vs.length, rfl, .inr ⟨vs, .of s, rfl⟩, fin rl k (by rw [o.length]; rfl)⟩
  · split at e
    · rename_i hz
      cases e
      exact .inl ⟨x, _, rfl, by rw [(own_str ox).1]; exact ⟨hz, rfl⟩, fin rl k rfl⟩
    · cases e
  · cases e
    obtain ⟨a, kvs, G, rfl, s, rfl, o, _⟩ := own_dK ox
    exact .inr ⟨a, kvs, rfl, s, fin rl k (by rw [List.length_map]; rfl)⟩
  · cases e
/-! ### int, str, abs -/
def intD : D → Option D
  | .int i => some (.int i)
  | .bl b => some (.int (if b then 1 else 0))
  | _ => none
theorem r_int : R1 K (fun x H Q => (∃ i, [x] = [V.int i] ∧ Q (.int i) H) ∨ ∃ k, [x] = [V.bl k] ∧ Q (.int (if k then 1 else 0)) H) intD := by
  intro Z F δ σ H x dx d Fx Q rl ox e k
  cases dx <;> simp [intD] at e
  · subst e
    exact .inr ⟨_, by rw [(own_bl ox).1], fin rl k rfl⟩
  · subst e
    exact .inl ⟨_, by rw [(own_int ox).1], fin rl k rfl⟩
def strD : D → Option D
  | .int i => if i.natAbs.log2 < 1920 then some (.str (toString i)) else none
  | _ => none
theorem r_str : R1 K (fun x H Q => ∃ i, [x] = [V.int i] ∧ i.natAbs.log2 < 1920 ∧ Q (.str (toString i)) H) strD := by
  intro Z F δ σ H x dx d Fx Q rl ox e k
  cases dx <;> simp [strD] at e
  obtain ⟨h, rfl⟩ := e
  exact ⟨_, by rw [(own_int ox).1], h, fin rl k rfl⟩
/-! ### list, tuple -/
def keyT : Key → D
  | .inl i => .int i
  | .inr x => .str x
def listD : D → Option D
  | .lst _ ds => if D.isFzs ds = true then some (.lst true ds) else none
  | .tup ds => if D.isFzs ds = true then some (.lst true ds) else none
  | .dK true ks _ => some (.lst true (ks.map keyT))
  | _ => none
theorem list_dK (hc : X.calm = true) : CallR X (.type "list") rListD := call_list_dK hc
def rListAll (K : PySem.W.Frag) : List V → Hp → VK → Prop := fun xs H Q => (∃ p ys, xs = [.ref p] ∧ (SqL K H p ys ∨ SqT K H p ys) ∧ ∀ l, H l = none → Q (.ref l) (upd H l (.lst ys))) ∨ rListD xs H Q
theorem call_listAll (hc : X.calm = true) : CallR X (.type "list") (rListAll X.K) := call_list_of.or (call_list_dK hc)
theorem keyT_own {Z : Addr → Prop} {H : Hp} : ∀ ks : List Key, Owns K Z H (ks.map keyT) [] (ks.map kV)
  | [] => by simp [Owns]
  | k :: ks => by
    simp only [List.map_cons, Owns]
    exact ⟨_, _, [], [], rfl, rfl, by cases k <;> simp [keyT, kV, Own], keyT_own ks⟩
theorem r_list : R1 K (fun x H Q => rListAll K [x] H Q) listD := by
  intro Z F δ σ H x dx d Fx Q rl ox e k
  unfold listD at e
  split at e
  · split at e
    · rename_i hz
      cases e
      obtain ⟨a, vs, G, rfl, s, o, _⟩ := own_lst ox
      exact .inl ⟨a, vs, rfl, .inl (.inl s), fin_lst rl k (o.nils hz)⟩
    · cases e
  · split at e
    · rename_i hz
      cases e
      obtain ⟨a, vs, rfl, s, o⟩ := own_tup ox
      exact .inl ⟨a, vs, rfl, .inr (.of s), fin_lst rl k (o.nils hz)⟩
    · cases e
  · cases e
    simp only [Own] at ox
    obtain ⟨a, kvs, G, rfl, s, rfl, rfl, o⟩ := ox
    refine .inr ⟨a, kvs, rfl, s, ?_⟩
    have := fin_lst rl k (keyT_own (kvs.map (·.1)))
    rw [List.map_map] at this
    exact this
  · cases e
def tupleD : D → Option D
  | .lst _ ds => if D.isFzs ds = true then some (.tup ds) else none
  | .tup ds => if D.isFzs ds = true then some (.tup ds) else none
  | _ => none
theorem r_tuple : R1 K (fun x H Q => ∃ p ys, [x] = [.ref p] ∧ ((SqL K H p ys ∧ ∀ l, H l = none → Q (.ref l) (upd H l (.tup ys))) ∨ (SqT K H p ys ∧ Q (.ref p) H))) tupleD := by
  intro Z F δ σ H x dx d Fx Q rl ox e k
  unfold tupleD at e
  split at e
  · split at e
    · rename_i hz
      cases e
      obtain ⟨a, vs, G, rfl, s, o, _⟩ := own_lst ox
      exact ⟨a, vs, rfl, .inl ⟨.inl s, fin_tup rl k (o.nils hz)⟩⟩
    · cases e
  · split at e
    · rename_i hz
      cases e
      obtain ⟨a, vs, rfl, s, o⟩ := own_tup ox
      refine ⟨a, vs, rfl, .inr ⟨.of s, k _ H Z [] rl Fr.refl (Same.refl H) ?_ New.nil⟩⟩
      simp only [Own]
      exact ⟨a, vs, rfl, s, o.nils hz⟩
    · cases e
  · cases e
/-! ### ints, bools in a list -/
def intsD : List D → Option (List Int)
  | [] => some []
  | .int i :: ds => (intsD ds).map (i :: ·)
  | _ :: _ => none
def blsD : List D → Option (List Bool)
  | [] => some []
  | .bl i :: ds => (blsD ds).map (i :: ·)
  | _ :: _ => none
theorem intsD_own {Z : Addr → Prop} {H : Hp} : ∀ {ds : List D} {G : List Addr} {vs : List V} {ns : List Int}, Owns K Z H ds G vs → intsD ds = some ns → vs = ns.map V.int
  | [], _, _, _, h, e => by
    simp only [Owns] at h
    simp [intsD] at e
    subst e
    rw [h.1]; rfl
  | .int i :: ds, _, _, _, h, e => by
    simp only [Owns] at h
    obtain ⟨v, ws, F1, F2, rfl, rfl, o1, o2⟩ := h
    simp only [intsD, Option.map_eq_some_iff] at e
    obtain ⟨ns, e, rfl⟩ := e
    rw [(own_int o1).1, intsD_own o2 e]; rfl
  | .non :: ds, _, _, _, _, e => by simp [intsD] at e
  | .bl _ :: ds, _, _, _, _, e => by simp [intsD] at e
  | .str _ :: ds, _, _, _, _, e => by simp [intsD] at e
  | .tup _ :: ds, _, _, _, _, e => by simp [intsD] at e
  | .lst _ _ :: ds, _, _, _, _, e => by simp [intsD] at e
  | .dK _ _ _ :: ds, _, _, _, _, e => by simp [intsD] at e
  | .dT _ _ _ :: ds, _, _, _, _, e => by simp [intsD] at e
  | .ins _ _ _ _ :: ds, _, _, _, _, e => by simp [intsD] at e
theorem blsD_own {Z : Addr → Prop} {H : Hp} : ∀ {ds : List D} {G : List Addr} {vs : List V} {ns : List Bool}, Owns K Z H ds G vs → blsD ds = some ns → vs = ns.map V.bl
  | [], _, _, _, h, e => by
    simp only [Owns] at h
    simp [blsD] at e
    subst e
    rw [h.1]; rfl
  | .bl i :: ds, _, _, _, h, e => by
    simp only [Owns] at h
    obtain ⟨v, ws, F1, F2, rfl, rfl, o1, o2⟩ := h
    simp only [blsD, Option.map_eq_some_iff] at e
    obtain ⟨ns, e, rfl⟩ := e
    rw [(own_bl o1).1, blsD_own o2 e]; rfl
  | .non :: ds, _, _, _, _, e => by simp [blsD] at e
  | .int _ :: ds, _, _, _, _, e => by simp [blsD] at e
  | .str _ :: ds, _, _, _, _, e => by simp [blsD] at e
  | .tup _ :: ds, _, _, _, _, e => by simp [blsD] at e
  | .lst _ _ :: ds, _, _, _, _, e => by simp [blsD] at e
  | .dK _ _ _ :: ds, _, _, _, _, e => by simp [blsD] at e
  | .dT _ _ _ :: ds, _, _, _, _, e => by simp [blsD] at e
  | .ins _ _ _ _ :: ds, _, _, _, _, e => by simp [blsD] at e
theorem ints_own {Z : Addr → Prop} {H : Hp} : ∀ ns : List Int, Owns K Z H (ns.map D.int) [] (ns.map V.int)
  | [] => by simp [Owns]
  | n :: ns => by
    simp only [List.map_cons, Owns]
    exact ⟨_, _, [], [], rfl, rfl, by simp [Own], ints_own ns⟩
def anyD : D → Option D
  | .lst _ ds => (blsD ds).map fun bs => .bl (bs.any id)
  | _ => none
def allD : D → Option D
  | .lst _ ds => (blsD ds).map fun bs => .bl (bs.all id)
  | _ => none
def sumD : D → Option D
  | .lst _ ds => (intsD ds).map fun ns => .int ns.sum
  | _ => none
theorem r_any : R1 K (fun x H Q => rAny K [x] H Q) anyD := by
  intro Z F δ σ H x dx d Fx Q rl ox e k
  unfold anyD at e
  split at e
  · rw [Option.map_eq_some_iff] at e
    obtain ⟨bs, e1, rfl⟩ := e
    obtain ⟨a, vs, G, rfl, s, o, _⟩ := own_lst ox
    exact ⟨a, bs, rfl, by rw [← blsD_own o e1]; exact .inl s, fin rl k rfl⟩
  · cases e
theorem r_all : R1 K (fun x H Q => rAll K [x] H Q) allD := by
  intro Z F δ σ H x dx d Fx Q rl ox e k
  unfold allD at e
  split at e
  · rw [Option.map_eq_some_iff] at e
    obtain ⟨bs, e1, rfl⟩ := e
    obtain ⟨a, vs, G, rfl, s, o, _⟩ := own_lst ox
    exact ⟨a, bs, rfl, by rw [← blsD_own o e1]; exact .inl s, fin rl k rfl⟩
  · cases e
theorem r_sum : R1 K (fun x H Q => rSum K [x] H Q) sumD := by
  intro Z F δ σ H x dx d Fx Q rl ox e k
  unfold sumD at e
  split at e
  · rw [Option.map_eq_some_iff] at e
    obtain ⟨bs, e1, rfl⟩ := e
    obtain ⟨a, vs, G, rfl, s, o, _⟩ := own_lst ox
    exact ⟨a, bs, rfl, by rw [← intsD_own o e1]; exact .inl s, fin rl k rfl⟩
  · cases e
/-- the greatest, the least of a list that is not empty -/
def maxI : List Int → Int
  | [] => 0
  | [a] => a
  | a :: b :: r => max a (maxI (b :: r))
def minI : List Int → Int
  | [] => 0
  | [a] => a
  | a :: b :: r => min a (minI (b :: r))
theorem maxI_mem : ∀ {l : List Int}, l ≠ [] → maxI l ∈ l ∧ ∀ y ∈ l, y ≤ maxI l
  | [], h => absurd rfl h
  | [a], _ => by simp [maxI]
  | a :: b :: r, _ => by
    obtain ⟨h1, h2⟩ := maxI_mem (l := b :: r) (by simp)
    rw [maxI]
    refine ⟨?_, fun y m => ?_⟩
    · by_cases h : a ≤ maxI (b :: r)
      · rw [Int.max_eq_right h]; exact List.mem_cons_of_mem _ h1
      · rw [Int.max_eq_left (by omega)]; exact List.mem_cons_self
    · rcases List.mem_cons.mp m with rfl | m
      · exact Int.le_max_left _ _
      · exact Int.le_trans (h2 y m) (Int.le_max_right _ _)
theorem minI_mem : ∀ {l : List Int}, l ≠ [] → minI l ∈ l ∧ ∀ y ∈ l, minI l ≤ y
  | [], h => absurd rfl h
  | [a], _ => by simp [minI]
  | a :: b :: r, _ => by
    obtain ⟨h1, h2⟩ := minI_mem (l := b :: r) (by simp)
    rw [minI]
    refine ⟨?_, fun y m => ?_⟩
    · by_cases h : a ≤ minI (b :: r)
      · rw [Int.min_eq_left h]; exact List.mem_cons_self
      · rw [Int.min_eq_right (by omega)]; exact List.mem_cons_of_mem _ h1
    · rcases List.mem_cons.mp m with rfl | m
      · exact Int.min_le_left _ _
      · exact Int.le_trans (Int.min_le_right _ _) (h2 y m)
def maxD : D → Option D
  | .lst _ ds => (intsD ds).bind fun ns => if ns = [] then none else some (.int (maxI ns))
  | _ => none
def minD : D → Option D
  | .lst _ ds => (intsD ds).bind fun ns => if ns = [] then none else some (.int (minI ns))
  | _ => none
theorem r_max : R1 K (fun x H Q => rMax K [x] H Q) maxD := by
  intro Z F δ σ H x dx d Fx Q rl ox e k
  unfold maxD at e
  split at e
  · rw [Option.bind_eq_some_iff] at e
    obtain ⟨bs, e1, e⟩ := e
    split at e
    · cases e
    · rename_i hn
      cases e
      obtain ⟨a, vs, G, rfl, s, o, _⟩ := own_lst ox
      obtain ⟨h1, h2⟩ := maxI_mem hn
      refine ⟨a, bs, rfl, by rw [← intsD_own o e1]; exact .inl s, List.length_pos_iff.mpr hn, fun m hm hg => ?_⟩
      have : m = maxI bs := Int.le_antisymm (h2 m hm) (hg _ h1)
      subst this
      exact fin rl k rfl
  · cases e
theorem r_min : R1 K (fun x H Q => rMin K [x] H Q) minD := by
  intro Z F δ σ H x dx d Fx Q rl ox e k
  unfold minD at e
  split at e
  · rw [Option.bind_eq_some_iff] at e
    obtain ⟨bs, e1, e⟩ := e
    split at e
    · cases e
    · rename_i hn
      cases e
      obtain ⟨a, vs, G, rfl, s, o, _⟩ := own_lst ox
      obtain ⟨h1, h2⟩ := minI_mem hn
      refine ⟨a, bs, rfl, by rw [← intsD_own o e1]; exact .inl s, List.length_pos_iff.mpr hn, fun m hm hg => ?_⟩
      have : m = minI bs := Int.le_antisymm (hg _ h1) (h2 m hm)
      subst this
      exact fin rl k rfl
  · cases e
def max2D : D → D → Option D
  | .int i, .int j => some (.int (if j > i then j else i))
  | _, _ => none
def min2D : D → D → Option D
  | .int i, .int j => some (.int (if j < i then j else i))
  | _, _ => none
theorem r_max2 : R2D K (fun x y H Q => ∃ i j, [x, y] = [V.int i, V.int j] ∧ Q (.int (if j > i then j else i)) H) max2D := by
  intro Z F δ σ H x y dx dy d Fx Fy Q rl ox oy e k
  unfold max2D at e
  split at e
  · cases e
    exact ⟨_, _, by rw [(own_int ox).1, (own_int oy).1], fin rl k rfl⟩
  · cases e
theorem r_min2 : R2D K (fun x y H Q => ∃ i j, [x, y] = [V.int i, V.int j] ∧ Q (.int (if j < i then j else i)) H) min2D := by
  intro Z F δ σ H x y dx dy d Fx Fy Q rl ox oy e k
  unfold min2D at e
  split at e
  · cases e
    exact ⟨_, _, by rw [(own_int ox).1, (own_int oy).1], fin rl k rfl⟩
  · cases e
/-! ### sorted: ints -/
def insI (a : Int) : List Int → List Int
  | [] => [a]
  | b :: r => if a ≤ b then a :: b :: r else b :: insI a r
def sortI : List Int → List Int
  | [] => []
  | a :: r => insI a (sortI r)
theorem insI_perm (a : Int) : ∀ l : List Int, (insI a l).Perm (a :: l)
  | [] => .refl _
  | b :: r => by
    rw [insI]
    split
    · exact .refl _
    · exact ((insI_perm a r).cons b).trans (.swap a b r)
theorem sortI_perm : ∀ l : List Int, (sortI l).Perm l
  | [] => .refl _
  | a :: r => (insI_perm a _).trans ((sortI_perm r).cons a)
theorem insI_sorted (a : Int) : ∀ {l : List Int}, l.Pairwise (· ≤ ·) → (insI a l).Pairwise (· ≤ ·)
  | [], _ => by simp [insI]
  | b :: r, h => by
    rw [insI]
    have h' := List.pairwise_cons.mp h
    split
    · rename_i hab
      refine List.pairwise_cons.mpr ⟨fun c m => ?_, h⟩
      rcases List.mem_cons.mp m with rfl | m
      · exact hab
      · exact Int.le_trans hab (h'.1 c m)
    · rename_i hab
      refine List.pairwise_cons.mpr ⟨fun c m => ?_, insI_sorted a h'.2⟩
      rcases List.mem_cons.mp ((insI_perm a r).mem_iff.mp m) with rfl | m
      · omega
      · exact h'.1 c m
theorem sortI_sorted : ∀ l : List Int, (sortI l).Pairwise (· ≤ ·)
  | [] => .nil
  | a :: r => insI_sorted a (sortI_sorted r)
theorem sorted_eq {l l' : List Int} (h : l.Perm l') (s : l.Pairwise (· ≤ ·)) (s' : l'.Pairwise (· ≤ ·)) : l = l' :=
  h.eq_of_pairwise (fun a b _ _ h1 h2 => Int.le_antisymm h1 h2) s s'
def sortedD : D → Option D
  | .lst _ ds => (intsD ds).map fun ns => .lst true ((sortI ns).map .int)
  | _ => none
theorem r_sorted : R1 K (fun x H Q => rSortedI K [x] H Q) sortedD := by
  intro Z F δ σ H x dx d Fx Q rl ox e k
  unfold sortedD at e
  split at e
  · rw [Option.map_eq_some_iff] at e
    obtain ⟨ns, e1, rfl⟩ := e
    obtain ⟨a, vs, G, rfl, s, o, _⟩ := own_lst ox
    refine ⟨a, ns, rfl, by rw [← intsD_own o e1]; exact .inl s, fun ns' p hp hs hn => ?_⟩
    have : ns' = sortI ns := sorted_eq (hp.trans (sortI_perm ns).symm) hs (sortI_sorted ns)
    subst this
    exact fin_lst rl k (ints_own _) p hn
  · cases e
end
/-! ### isinstance -/
inductive TyN | int | bool | str | list | tuple | dict
def TyN.name : TyN → String
  | .int => "int"
  | .bool => "bool"
  | .str => "str"
  | .list => "list"
  | .tuple => "tuple"
  | .dict => "dict"
def D.tyN : D → Option String
  | .non => some "NoneType"
  | .bl _ => some "bool"
  | .int _ => some "int"
  | .str _ => some "str"
  | .tup _ => some "tuple"
  | .lst _ _ => some "list"
  | .dK _ _ _ => some "dict"
  | .dT true _ _ => some "dict"
  | _ => none
def isTyB : TyN → D → Bool
  | .int, .int _ => true
  | .int, .bl _ => true
  | .bool, .bl _ => true
  | .str, .str _ => true
  | .list, .lst _ _ => true
  | .tuple, .tup _ => true
  | .dict, .dK _ _ _ => true
  | .dict, .dT _ _ _ => true
  | _, _ => false
theorem kit_t0 : ∀ n : TyN, kitB "NoneType" n.name = some (isTyB n (.non)) := fun n => by cases n <;> decide +kernel
theorem kit_t1 : ∀ n : TyN, kitB "bool" n.name = some (isTyB n (.bl true)) := fun n => by cases n <;> decide +kernel
theorem kit_t2 : ∀ n : TyN, kitB "int" n.name = some (isTyB n (.int 0)) := fun n => by cases n <;> decide +kernel
theorem kit_t3 : ∀ n : TyN, kitB "str" n.name = some (isTyB n (.str Str.empty)) := fun n => by cases n <;> decide +kernel
theorem kit_t4 : ∀ n : TyN, kitB "tuple" n.name = some (isTyB n (.tup [])) := fun n => by cases n <;> decide +kernel
theorem kit_t5 : ∀ n : TyN, kitB "list" n.name = some (isTyB n (.lst true [])) := fun n => by cases n <;> decide +kernel
theorem kit_t6 : ∀ n : TyN, kitB "dict" n.name = some (isTyB n (.dK true [] [])) := fun n => by cases n <;> decide +kernel
def isTyD (n : TyN) (d : D) : Option D := if d.tyN.isSome = true then some (.bl (isTyB n d)) else none
def isTysB (ns : List TyN) (d : D) : Bool := ns.any fun n => isTyB n d
def isTysD (ns : List TyN) (d : D) : Option D := if d.tyN.isSome = true then some (.bl (isTysB ns d)) else none
section
variable {K : PySem.W.Frag}
theorem own_ty {Z : Addr → Prop} {H : Hp} {d : D} {G : List Addr} {v : V} {t : String} (o : Own K Z H d G v) (e : d.tyN = some t) : TyX K H v (.type t) := by
  cases d with
  | non => cases e; obtain ⟨rfl, _⟩ := own_non o; exact .base .non
  | bl b => cases e; obtain ⟨rfl, _⟩ := own_bl o; exact .base (.bl _)
  | int b => cases e; obtain ⟨rfl, _⟩ := own_int o; exact .base (.int _)
  | str b => cases e; obtain ⟨rfl, _⟩ := own_str o; exact .base (.str _)
  | tup ds => cases e; obtain ⟨a, vs, rfl, s, _⟩ := own_tup o; exact .base (.tup s)
  | lst o' ds =>
    cases e
    obtain ⟨a, vs, _, rfl, s | ⟨ob, s⟩, _⟩ := own_lst o
    · exact .base (.lst s)
    · exact .base (.frz s)
  | dK o' ks ds =>
    cases e
    obtain ⟨a, vs, _, rfl, s | ⟨ob, s⟩, _⟩ := own_dK o
    · exact .base (.dK s)
    · exact .fDict s
  | dT o' ks ds =>
    cases o' with
    | false => simp [D.tyN] at e
    | true =>
      cases e
      simp only [Own] at o
      obtain ⟨a, kvs, _, rfl, s, _⟩ := o
      exact .base (.dT s)
  | ins _ _ _ _ => simp [D.tyN] at e
theorem kit_tyN {d : D} {t : String} {n : TyN} (e : d.tyN = some t) : PySem.W.kitOne K (.type t) (.type n.name) = some (isTyB n d) := by
  refine kit_ty ?_
  cases d with
  | non => cases e; cases n <;> exact kit_t0 _
  | bl b => cases e; cases n <;> exact kit_t1 _
  | int b => cases e; cases n <;> exact kit_t2 _
  | str b => cases e; cases n <;> exact kit_t3 _
  | tup ds => cases e; cases n <;> exact kit_t4 _
  | lst o' ds => cases e; cases n <;> exact kit_t5 _
  | dK o' ks ds => cases e; cases n <;> exact kit_t6 _
  | dT o' ks ds => cases o' <;> cases e; cases n <;> exact kit_t6 _
  | ins _ _ _ _ => cases e
theorem kit_tyNs {d : D} {t : String} (e : d.tyN = some t) : ∀ ns : List TyN, PySem.W.kitAny K (.type t) (ns.map fun n => .type n.name) = some (isTysB ns d)
  | [] => rfl
  | n :: ns => by
    refine kitAny_cons (kit_tyN e) (fun h => ?_) fun h => ?_
    · rw [kit_tyNs e ns]
      unfold isTysB
      rw [List.any_cons, h]; rfl
    · unfold isTysB
      rw [List.any_cons, h]; rfl
variable {X : Cx} {pos : Pos}
theorem de_isi {a b : Expr} {q : Pos} {p : List Nat} {fr : Bool} {m : M D} (n : TyN) (hg : Gl X "isinstance") (hm : X.mg "isinstance" = none) (ha : DE X a p fr m) (hb : PE X b (tC (.ty n.name)))
    (he : starEach [a, b] X.env = (false, eval a X.env) :: starEach [b] X.env := by rfl) (he2 : starEach [b] X.env = (false, eval b X.env) :: starEach [] X.env := by rfl) (hpl : (backTo pos (starEach [b] X.env)).any (·.1) = false := by rfl) :
    DE X (.Call (.Name "isinstance" q) [a, b] [] pos) p true (mop1 (isTyD n) m) :=
  wE (pe_callB call_isi hg hm (by decide +kernel) (pa_cons ha (pa_cons hb pa_nil he2) he) (by decide) (by decide) he hpl) fun σ H Q h => op1_rd (r := fun x H Q => rIsi X.K [x, .ty n.name] H Q) (fun {Z F δ σ H x dx d Fx Q} rl ox e k => by
    unfold isTyD at e
    split at e
    · rename_i hs
      cases e
      obtain ⟨t, ht⟩ := Option.isSome_iff_exists.mp hs
      exact ⟨x, .ty n.name, .type t, .type n.name, isTyB n dx, rfl, .ty _, own_ty ox ht, kit_tyN ht, fin rl k rfl⟩
    · cases e) σ H Q h
theorem de_isiT {a : Expr} {es : List Expr} {q q2 : Pos} {k0 : Nat} {p : List Nat} {fr : Bool} {m : M D} (n1 n2 : TyN) (hg : Gl X "isinstance") (hm : X.mg "isinstance" = none) (ha : DE X a p fr m) (hb : PA X es (tCons (tC (.ty n1.name)) (tCons (tC (.ty n2.name)) tNil)))
    (he : starEach [a, .Tuple es k0 q2] X.env = (false, eval a X.env) :: starEach [.Tuple es k0 q2] X.env := by rfl) (he2 : starEach [.Tuple es k0 q2] X.env = (false, eval (.Tuple es k0 q2) X.env) :: starEach [] X.env := by rfl) (hpl : (backTo pos (starEach [.Tuple es k0 q2] X.env)).any (·.1) = false := by rfl) :
    DE X (.Call (.Name "isinstance" q) [a, .Tuple es k0 q2] [] pos) p true (mop1 (isTysD [n1, n2]) m) :=
  wE (pe_callB call_isiT hg hm (by decide +kernel) (pa_cons ha (pa_cons (pe_tup hb) pa_nil he2) he) (by decide) (by decide) he hpl) fun σ H Q h =>
    op1_rd (r := fun x H Q => [V.ty n1.name, V.ty n2.name].length ≤ sizeLine ∧ ∀ t, H t = none → rIsiT X.K [x, .ref t] (upd H t (.tup [.ty n1.name, .ty n2.name])) Q) (fun {Z F δ σ H x dx d Fx Q} rl ox e k => by
    unfold isTysD at e
    split at e
    · rename_i hs
      cases e
      obtain ⟨t, ht⟩ := Option.isSome_iff_exists.mp hs
      refine ⟨by show 2 ≤ sizeLine; decide, fun c hc => ?_⟩
      have ox' := ox.keep (same_keep (same_upd (o := .tup [.ty n1.name, .ty n2.name]) hc) (fun _ z => z) _)
      refine ⟨x, c, [.ty n1.name, .ty n2.name], .type t, [.type n1.name, .type n2.name], isTysB [n1, n2] dx, rfl, upd_same, .cons (.ty _) (.cons (.ty _) .nil), own_ty ox' ht, kit_tyNs ht [n1, n2], ?_⟩
      exact k _ _ Z [] (rl.new hc) (Fr.new hc) (same_upd hc) (own_flat rfl) New.nil
    · cases e) σ H Q h
end
end TL
set_option Elab.async false
set_option linter.all false
set_option maxRecDepth 100000
set_option maxHeartbeats 4000000
/-! T4: calls of defs, statements, defs. -/
namespace TL
open PySem L2

/-! ### what a def is worth -/
/-- arguments to the result, and to what the first one is behind (if it is handed in to be changed) -/
abbrev Fn := List D → Option (D × D)
structure Ret (K : PySem.W.Frag) (Z' : Addr → Prop) (F' : Fp) (io : Bool) (out : D) (vs : List V) (H' : Hp) : Prop where
  val : io = true → ∀ v, vs[0]? = some v → Own K Z' H' out (F' 0) v
  emp : ∀ i, (io = true → i ≠ 0) → F' i = []
  nd : (F' 0).Nodup
  zd : ∀ a ∈ F' 0, ¬ Z' a
  zh : ∀ a, Z' a → ∃ o, H' a = some o
def spM (K : PySem.W.Frag) (io : Bool) (fn : Fn) : Sp := fun vs H Q _ => ∃ Z F ds r out, Rel K Z F (ds.map some) (vs.map some) H ∧ fn ds = some (r, out) ∧ (∀ i, (io = true → i ≠ 0) → F i = []) ∧
  ∀ v H' Z' F' G, Ret K Z' F' io out vs H' → Fr Z F H Z' F' H' → Own K Z' H' r G v → New F H Z' F' G → Q v H'
abbrev MS := En → Option (Fl × En)
def runS (np n : Nat) (io : Bool) (b : MS) : Fn := fun ds => if ds.length = np then
    (match b (ds.map some ++ List.replicate (n - np) none) with
      | some (.rt d, δ') => if io = true then (match δ'[0]? with | some (some o) => some (d, o) | _ => none) else some (d, .non)
      | some (.nx, δ') => if io = true then (match δ'[0]? with | some (some o) => some (.non, o) | _ => none) else some (.non, .non)
      | _ => none)
  else none

/-! ### statements -/
/-- the weakest wish that X takes of an exception -/
def wX (X : Cx) : L2.WX := fun cls d σ H => ∀ (a : Addr) (B : Heap) (sI s' : Shared) (pins : List (Addr × Obj)), Inv X pins σ H sI → (∀ b o, sI.heap.get? b = some o → b ∉ frs X.stack → B.get? b = some o) → sI.heap.UpToSlots s'.heap →
  Sky B X.stack a (Zc cls d) X.env.locals s'.heap → H a = none → s'.os = sI.os → PyProof.Rows.AllBare s'.gens → X.xe (.ref a) s'
theorem takes_wX {X : Cx} : Takes X (wX X) := fun u s' ⟨a, B, sI, pins, σ, H, cls, d, e, I, nb, up, sky, na, os, ag, w⟩ => by
  subst e
  exact w a B sI s' pins I nb up sky na os ag
theorem wX_of {X : Cx} {W : L2.WX} {cls : Value} {d : Option Addr} {σ : St} {H : Hp} (tk : Takes X W) (w : W cls d σ H) : wX X cls d σ H := fun a B sI s' pins I nb up sky na os ag =>
  tk _ _ ⟨a, B, sI, pins, σ, H, cls, d, rfl, I, nb, up, sky, na, os, ag, w⟩
/-- a wish about an exception of the class named c whose field n holds d -/
def exW (K : PySem.W.Frag) (mg : Str → Option Value) (W : L2.WX) (Z' : Addr → Prop) (c n : Str) (d : D) (σ' : St) (H' : Hp) : Prop :=
  ∀ (C dd : Addr) (v : V), mg c = some (.ref C) → H' dd = some (.xd [(n, v)]) → Own K Z' H' d [] v → W (.ref C) (some dd) σ' H'
def Fin (K : PySem.W.Frag) (mg : Str → Option Value) (W : L2.WX) (D : Ends) (F : Fp) (H : Hp) (Z' : Addr → Prop) (F' : Fp) (fl : Fl) (σ' : St) (H' : Hp) : Prop := match fl with
  | .nx => D.nx σ' H'
  | .bk => D.bk σ' H'
  | .ct => D.ct σ' H'
  | .rt d => ∀ v G, Own K Z' H' d G v → New F H Z' F' G → D.rt v H'
  | .ex c n d => exW K mg W Z' c n d σ' H'
def tStW (K : PySem.W.Frag) (mg : Str → Option Value) (W : L2.WX) (pn : List Nat) (m : MS) : TS := fun D σ H => ∃ Z F δ fl δ', Rel K Z F δ σ H ∧ m δ = some (fl, δ') ∧
  ∀ σ' H' Z' F', Rel K Z' F' δ' σ' H' → Fr Z F H Z' F' H' → (∀ i ∈ pn, σ'[i]? = σ[i]?) → Fin K mg W D F H Z' F' fl σ' H'
abbrev tSt (X : Cx) (pn : List Nat) (m : MS) : TS := tStW X.K X.mg (wX X) pn m
abbrev DS (X : Cx) (pn : List Nat) (st : Stmt) (m : MS) : Prop := PS X st (tSt X pn m)
abbrev DSs (X : Cx) (pn : List Nat) (st : List Stmt) (m : MS) : Prop := PSs X st (tSt X pn m)
section
variable {X : Cx} {pn : List Nat} {pos : Pos} {st : Stmt} {sts : List Stmt}
theorem wS {t t' : TS} (h : PS X st t) (w : ∀ D σ H, t' D σ H → t D σ H) : PS X st t' := ⟨fun pins s σ H D I q => h.run pins s σ H D I (w D σ H q)⟩
theorem wSs {t t' : TS} (h : PSs X sts t) (w : ∀ D σ H, t' D σ H → t D σ H) : PSs X sts t' := ⟨fun pins s σ H D I q => h.run pins s σ H D I (w D σ H q)⟩
def msk : MS := fun δ => some (.nx, δ)
def mseq (a b : MS) : MS := fun δ => match a δ with
  | some (.nx, δ1) => b δ1
  | r => r
theorem skip_rd : ∀ D σ H, tSt X pn msk D σ H → tNext D σ H := fun D σ H ⟨Z, F, δ, fl, δ', r, e1, k⟩ => by
  cases e1
  exact k σ H Z F r Fr.refl fun _ _ => rfl
theorem dss_nil : DSs X pn [] msk := wSs pss_nil skip_rd
theorem ds_pass : DS X pn (.Pass pos) msk := wS ps_pass skip_rd
theorem dss_one {m : MS} (h : DS X pn st m) : DSs X pn [st] m := pss_one h
theorem seq_rd {m1 m2 : MS} : ∀ D σ H, tSt X pn (mseq m1 m2) D σ H → tSeq (tSt X pn m1) (tSt X pn m2) D σ H := fun D σ H ⟨Z, F, δ, fl, δ', r, e1, k⟩ => by
  unfold mseq at e1
  split at e1
  · rename_i δ1 q1
    refine ⟨Z, F, δ, .nx, δ1, r, q1, fun σ1 H1 Z1 F1 r1 f1 p1 => ?_⟩
    refine ⟨Z1, F1, δ1, fl, δ', r1, e1, fun σ2 H2 Z2 F2 r2 f2 p2 => ?_⟩
    have kk := k σ2 H2 Z2 F2 r2 (f1.trans f2) fun i m => (p2 i m).trans (p1 i m)
    cases fl with
    | nx => exact kk
    | bk => exact kk
    | ct => exact kk
    | rt d => exact fun v G o n => kk v G o (n.back f1)
    | ex c n d => exact kk
  · rename_i hne
    refine ⟨Z, F, δ, fl, δ', r, e1, fun σ1 H1 Z1 F1 r1 f1 p1 => ?_⟩
    have kk := k σ1 H1 Z1 F1 r1 f1 p1
    cases fl with
    | nx => exact (hne _ e1).elim
    | bk => exact kk
    | ct => exact kk
    | rt d => exact kk
    | ex c n d => exact kk
theorem dss_cons {m1 m2 : MS} (h1 : DS X pn st m1) (h2 : DSs X pn sts m2) : DSs X pn (st :: sts) (mseq m1 m2) := wSs (pss_cons h1 h2) seq_rd
def mbrk : MS := fun δ => some (.bk, δ)
def mcnt : MS := fun δ => some (.ct, δ)
theorem ds_break : DS X pn (.Break pos) mbrk := wS ps_break fun D σ H ⟨Z, F, δ, fl, δ', r, e1, k⟩ => by
  cases e1
  exact k σ H Z F r Fr.refl fun _ _ => rfl
theorem ds_continue : DS X pn (.Continue pos) mcnt := wS ps_continue fun D σ H ⟨Z, F, δ, fl, δ', r, e1, k⟩ => by
  cases e1
  exact k σ H Z F r Fr.refl fun _ _ => rfl
/-- what slots hold is forgotten -/
def En.kill (ks : List Nat) (δ : En) : En := ks.foldl (fun δ i => δ.set i none) δ
def mkill (ks : List Nat) (m : MS) : MS := fun δ => (m δ).map fun p => (p.1, En.kill ks p.2)
theorem Rel.kill1 {K : PySem.W.Frag} {Z : Addr → Prop} {F : Fp} {δ : En} {σ : St} {H : Hp} (r : Rel K Z F δ σ H) (i : Nat) : Rel K Z (fun j => if j = i then [] else F j) (δ.set i none) σ H where
  val := fun j d e => by
    by_cases h : j = i
    · subst h
      by_cases hl : j < δ.length
      · rw [List.getElem?_set_self hl] at e; cases e
      · rw [List.getElem?_eq_none (by simpa using hl)] at e; cases e
    · rw [List.getElem?_set_ne (Ne.symm h)] at e
      simp only [if_neg h]
      exact r.val j d e
  emp := fun j n => by
    by_cases h : j = i
    · simp only [if_pos h]
    · simp only [if_neg h]
      exact r.emp j fun d e => n d (by rw [List.getElem?_set_ne (Ne.symm h)]; exact e)
  nd := fun j => by
    by_cases h : j = i
    · simp only [if_pos h]; exact List.nodup_nil
    · simp only [if_neg h]; exact r.nd j
  dis := fun j l a m1 m2 => by
    by_cases h : j = i
    · simp only [if_pos h] at m1; cases m1
    · by_cases h2 : l = i
      · simp only [if_pos h2] at m2; cases m2
      · simp only [if_neg h] at m1
        simp only [if_neg h2] at m2
        exact r.dis j l a m1 m2
  zd := fun j a m => by
    by_cases h : j = i
    · simp only [if_pos h] at m; cases m
    · simp only [if_neg h] at m
      exact r.zd j a m
  zh := r.zh
  len := by simpa using r.len
theorem Rel.kill {K : PySem.W.Frag} {Z : Addr → Prop} {σ : St} {H : Hp} : ∀ (ks : List Nat) {F : Fp} {δ : En}, Rel K Z F δ σ H → ∃ F', Rel K Z F' (En.kill ks δ) σ H ∧ ∀ i a, a ∈ F' i → a ∈ F i
  | [], F, δ, r => ⟨F, r, fun _ _ m => m⟩
  | k :: ks, F, δ, r => by
    obtain ⟨F', r', h⟩ := Rel.kill ks (r.kill1 k)
    refine ⟨F', r', fun i a m => ?_⟩
    have := h i a m
    by_cases e : i = k
    · simp only [if_pos e] at this; cases this
    · simp only [if_neg e] at this; exact this
theorem kill_rd {m : MS} {ks : List Nat} : ∀ D σ H, tSt X pn (mkill ks m) D σ H → tSt X pn m D σ H := fun D σ H ⟨Z, F, δ, fl, δ', r, e1, k⟩ => by
  unfold mkill at e1
  rw [Option.map_eq_some_iff] at e1
  obtain ⟨⟨fl0, δ1⟩, e1, e2⟩ := e1
  cases e2
  refine ⟨Z, F, δ, fl0, δ1, r, e1, fun σ1 H1 Z1 F1 r1 f1 p1 => ?_⟩
  obtain ⟨F2, r2, h2⟩ := Rel.kill ks r1
  have kk := k σ1 H1 Z1 F2 r2 ⟨f1.out, f1.here, f1.zup, f1.znew, fun i a m => f1.fnew i a (h2 i a m)⟩ p1
  cases fl0 with
  | nx => exact kk
  | bk => exact kk
  | ct => exact kk
  | rt d => exact fun v G o n => kk v G o ⟨n.nd, n.zd, fun a m i mi => n.fd a m i (h2 i a mi), n.from'⟩
  | ex c n d => exact kk
theorem dss_kill {m : MS} (ks : List Nat) (h : DSs X pn sts m) : DSs X pn sts (mkill ks m) := wSs h kill_rd
theorem ds_kill {m : MS} (ks : List Nat) (h : DS X pn st m) : DS X pn st (mkill ks m) := wS h kill_rd
/-- an expression for what it does -/
def mdrop (m : M D) : MS := fun δ => (m δ).map fun p => (.nx, p.2)
theorem ds_expr {e : Expr} {t : List Nat} {fr : Bool} {m : M D} (h : DE X e t fr m) (hs : swapsWith e none pos.line X.env = pure false := by rfl) : DS X pn (.Expr e pos) (mdrop m) := wS (ps_expr h hs) fun D σ H ⟨Z, F, δ, fl, δ', r, e1, k⟩ => by
  unfold mdrop at e1
  rw [Option.map_eq_some_iff] at e1
  obtain ⟨⟨d, δ1⟩, e1, e2⟩ := e1
  cases e2
  exact ⟨Z, F, δ, d, _, r, e1, fun v H1 Z1 F1 G r1 f1 pu1 o1 n1 => k σ H1 Z1 F1 r1 f1 fun _ _ => rfl⟩
def mret (m : M D) : MS := fun δ => (m δ).map fun p => (.rt p.1, p.2)
theorem ds_ret {e : Expr} {t : List Nat} {m : M D} (h : DE X e t true m) : DS X pn (.Return (some e) pos) (mret m) := wS (ps_ret h) fun D σ H ⟨Z, F, δ, fl, δ', r, e1, k⟩ => by
  unfold mret at e1
  rw [Option.map_eq_some_iff] at e1
  obtain ⟨⟨d, δ1⟩, e1, e2⟩ := e1
  cases e2
  exact ⟨Z, F, δ, d, _, r, e1, fun v H1 Z1 F1 G r1 f1 pu1 o1 n1 => k σ H1 Z1 F1 r1 f1 (fun _ _ => rfl) v G o1 (n1 rfl)⟩
def mretN : MS := fun δ => some (.rt .non, δ)
theorem ds_retN : DS X pn (.Return none pos) mretN := wS ps_retN fun D σ H ⟨Z, F, δ, fl, δ', r, e1, k⟩ => by
  cases e1
  exact k σ H Z F r Fr.refl (fun _ _ => rfl) .non [] (by simp [Own]) New.nil
/-- the value is the slot's own: it is moved out -/
def mmove (i : Nat) : M D := fun δ => match δ[i]? with
  | some (some d) => some (d, δ.set i none)
  | _ => none
theorem de_move {e : Expr} {i : Nat} (h : PE X e (tVar i)) : DE X e [i] true (mmove i) := wE h fun σ H Q ⟨Z, F, δ, d, δ', r, e1, k⟩ => by
  unfold mmove at e1
  split at e1
  · rename_i d0 h0
    cases e1
    obtain ⟨v, e2, o⟩ := r.val i _ h0
    refine ⟨v, e2, k v H Z (fun j => if j = i then [] else F j) (F i) (r.kill1 i) ⟨fun a o h _ => h, fun a o h => ⟨o, h⟩, fun a z => z, fun a z => .inl z, fun j a m => ?_⟩ ⟨by simp, fun j n => ?_, fun j n => ?_, fun j a n m => rfl⟩ o fun _ => ⟨r.nd i, r.zd i, fun a m j mj => ?_, fun a m => .inr ⟨i, m⟩⟩⟩
    · by_cases h : j = i
      · simp only [if_pos h] at m; cases m
      · simp only [if_neg h] at m; exact .inr ⟨j, m⟩
    · rw [List.getElem?_set_ne (fun h => n (by simp [h]))]
    · simp only [if_neg (show ¬ j = i from fun h => n (by simp [h]))]
    · by_cases h : j = i
      · simp only [if_pos h] at mj; cases mj
      · simp only [if_neg h] at mj
        exact h (r.dis j i a mj m)
  · cases e1
/-- if -/
def mifs (c : M Bool) (a b : MS) : MS := fun δ => match c δ with
  | some (k, δ1) => if k = true then a δ1 else b δ1
  | none => none
theorem ds_if {c : Expr} {a b : List Stmt} {t : List Nat} {m0 : M Bool} {m1 m2 : MS} (hc : DT X c t m0) (ha : DSs X pn a m1) (hb : DSs X pn b m2) : DS X pn (.If c a b pos) (mifs m0 m1 m2) := wS (ps_if hc ha hb) fun D σ H ⟨Z, F, δ, fl, δ', r, e1, k⟩ => by
  unfold mifs at e1
  split at e1
  · rename_i b0 δ1 q1
    refine ⟨Z, F, δ, b0, δ1, r, q1, fun H1 Z1 F1 r1 f1 _ => ?_⟩
    have go : ∀ m : MS, m δ1 = some (fl, δ') → tSt X pn m D σ H1 := fun m em => by
      refine ⟨Z1, F1, δ1, fl, δ', r1, em, fun σ2 H2 Z2 F2 r2 f2 p2 => ?_⟩
      have kk := k σ2 H2 Z2 F2 r2 (f1.trans f2) p2
      cases fl with
      | nx => exact kk
      | bk => exact kk
      | ct => exact kk
      | rt d => exact fun v G o n => kk v G o (n.back f1)
      | ex c n d => exact kk
    cases b0 with
    | true =>
      rw [if_pos rfl] at e1
      exact iteT (go m1 e1)
    | false =>
      rw [if_neg Bool.false_ne_true] at e1
      exact iteF (go m2 e1)
  · cases e1

/-! ### targets -/
/-- what a target does with a value's tree -/
abbrev Tg := D → En → Option En
def tGg (K : PySem.W.Frag) (pn ts : List Nat) (g : Tg) : TG := fun v σ H Q => ∃ Z F δ d G δ', Rel K Z F δ σ H ∧ Own K Z H d G v ∧ G.Nodup ∧ (∀ a ∈ G, ¬ Z a ∧ ∀ i, a ∉ F i) ∧ g d δ = some δ' ∧
  ∀ σ' F', Rel K Z F' δ' σ' H → (∀ i a, a ∈ F' i → a ∈ G ∨ ∃ j, a ∈ F j) → (∀ i ∈ pn, σ'[i]? = σ[i]?) → Tch ts F δ H F' δ' H → Q σ' H
abbrev DG (X : Cx) (pn ts : List Nat) (tg : Expr) (g : Tg) : Prop := PG X tg (tGg X.K pn ts g)
theorem wG {e : Expr} {t t' : TG} (h : PG X e t) (w : ∀ v σ H Q, t' v σ H Q → t v σ H Q) : PG X e t' := ⟨fun pins s σ H v u Q I r q => h.run pins s σ H v u Q I r (w v σ H Q q)⟩
theorem Rel.set {K : PySem.W.Frag} {Z : Addr → Prop} {F : Fp} {δ : En} {σ : St} {H : Hp} (r : Rel K Z F δ σ H) {i : Nat} {d : D} {G : List Addr} {v : V} (hi : i < δ.length) (o : Own K Z H d G v) (nd : G.Nodup) (g : ∀ a ∈ G, ¬ Z a ∧ ∀ j, a ∉ F j) : Rel K Z (fun j => if j = i then G else F j) (δ.set i (some d)) (σ.set i (some v)) H where
  val := fun j e h => by
    by_cases c : j = i
    · subst c
      rw [List.getElem?_set_self hi] at h
      cases h
      simp only [if_pos rfl]
      exact ⟨v, List.getElem?_set_self (by rw [← r.len]; exact hi), o⟩
    · rw [List.getElem?_set_ne (Ne.symm c)] at h
      rw [List.getElem?_set_ne (Ne.symm c)]
      simp only [if_neg c]
      exact r.val j e h
  emp := fun j n => by
    by_cases c : j = i
    · subst c
      exact (n d (List.getElem?_set_self hi)).elim
    · simp only [if_neg c]
      exact r.emp j fun e h => n e (by rw [List.getElem?_set_ne (Ne.symm c)]; exact h)
  nd := fun j => by
    by_cases c : j = i
    · simp only [if_pos c]; exact nd
    · simp only [if_neg c]; exact r.nd j
  dis := fun j l a m1 m2 => by
    by_cases c : j = i
    · simp only [if_pos c] at m1
      by_cases c2 : l = i
      · rw [c, c2]
      · simp only [if_neg c2] at m2
        exact ((g a m1).2 l m2).elim
    · simp only [if_neg c] at m1
      by_cases c2 : l = i
      · simp only [if_pos c2] at m2
        exact ((g a m2).2 j m1).elim
      · simp only [if_neg c2] at m2
        exact r.dis j l a m1 m2
  zd := fun j a m => by
    by_cases c : j = i
    · simp only [if_pos c] at m; exact (g a m).1
    · simp only [if_neg c] at m; exact r.zd j a m
  zh := r.zh
  len := by simpa using r.len
/-- the slot's own things are dropped by the store itself -/
def gset (i : Nat) : Tg := fun d δ => if i < δ.length then some (δ.set i (some d)) else none
theorem dg_name {tg : Expr} {i : Nat} (h : PG X tg (gName i)) (hp : pn.contains i = false := by rfl) : DG X pn [i] tg (gset i) := wG h fun v σ H Q ⟨Z, F, δ, d, G, δ', r, o, nd, g, e1, k⟩ => by
  unfold gset at e1
  split at e1
  · rename_i hi
    cases e1
    refine k (σ.set i (some v)) (fun j => if j = i then G else F j) (r.set hi o nd g) (fun j a m => ?_) (fun j m => ?_) ⟨by simp, fun j n => List.getElem?_set_ne fun e => n (by simp [e]), fun j n => if_neg fun e => n (by simp [e]), fun _ _ _ _ => rfl⟩
    · by_cases c : j = i
      · simp only [if_pos c] at m; exact .inl m
      · simp only [if_neg c] at m; exact .inr ⟨j, m⟩
    · refine List.getElem?_set_ne fun c => ?_
      subst c
      have := List.contains_iff_mem.mpr m
      rw [hp] at this
      cases this
  · cases e1
abbrev Tgs := List D → En → Option En
def tGgs (K : PySem.W.Frag) (pn ts : List Nat) (g : Tgs) : TGs := fun vs σ H Q => ∃ Z F δ ds G δ', Rel K Z F δ σ H ∧ Owns K Z H ds G vs ∧ G.Nodup ∧ (∀ a ∈ G, ¬ Z a ∧ ∀ i, a ∉ F i) ∧ g ds δ = some δ' ∧
  ∀ σ' F', Rel K Z F' δ' σ' H → (∀ i a, a ∈ F' i → a ∈ G ∨ ∃ j, a ∈ F j) → (∀ i ∈ pn, σ'[i]? = σ[i]?) → Tch ts F δ H F' δ' H → Q σ' H
abbrev DGs (X : Cx) (pn ts : List Nat) (tg : List Expr) (g : Tgs) : Prop := PGs X tg (tGgs X.K pn ts g)
theorem wGs {e : List Expr} {t t' : TGs} (h : PGs X e t) (w : ∀ v σ H Q, t' v σ H Q → t v σ H Q) : PGs X e t' := ⟨fun pins s σ H v u Q I r q => h.run pins s σ H v u Q I r (w v σ H Q q)⟩
def gnil : Tgs := fun ds δ => match ds with
  | [] => some δ
  | _ => none
def gcons (g : Tg) (r : Tgs) : Tgs := fun ds δ => match ds with
  | d :: ds => (g d δ).bind (r ds)
  | [] => none
theorem dgs_nil : DGs X pn [] [] gnil := wGs pgs_nil fun vs σ H Q ⟨Z, F, δ, ds, G, δ', r, o, nd, g, e1, k⟩ => by
  unfold gnil at e1
  split at e1
  · cases e1
    simp only [Owns] at o
    exact ⟨o.1, k σ F r (fun i a m => .inr ⟨i, m⟩) (fun _ _ => rfl) Tch.refl⟩
  · cases e1
theorem dgs_cons {e : Expr} {es : List Expr} {t1 t2 : List Nat} {g : Tg} {gr : Tgs} (h1 : DG X pn t1 e g) (h2 : DGs X pn t2 es gr) (hs : (assignEach (e :: es) X.env).map (·.2) = assign e X.env :: (assignEach es X.env).map (·.2) := by rfl) : DGs X pn (t1 ++ t2) (e :: es) (gcons g gr) := wGs (pgs_cons h1 h2 hs) fun vs σ H Q ⟨Z, F, δ, ds, G, δ', r, o, nd, gg, e1, k⟩ => by
  unfold gcons at e1
  split at e1
  · rename_i d ds
    rw [Option.bind_eq_some_iff] at e1
    obtain ⟨δ1, e1, e2⟩ := e1
    simp only [Owns] at o
    obtain ⟨v, ws, G1, G2, rfl, rfl, o1, o2⟩ := o
    obtain ⟨n1, n2, n3⟩ := List.nodup_append.mp nd
    refine ⟨v, ws, rfl, Z, F, δ, d, G1, δ1, r, o1, n1, fun a m => gg a (List.mem_append_left _ m), e1, fun σ1 F1 r1 h1 p1 c1 => ?_⟩
    refine ⟨Z, F1, δ1, ds, G2, δ', r1, o2, n2, fun a m => ⟨(gg a (List.mem_append_right _ m)).1, fun i mi => ?_⟩, e2, fun σ2 F2 r2 h2 p2 c2 => k σ2 F2 r2 (fun i a m => ?_) (fun i m => (p2 i m).trans (p1 i m)) (c1.trans c2)⟩
    · rcases h1 i a mi with z | ⟨j, z⟩
      · exact n3 a z a m rfl
      · exact (gg a (List.mem_append_right _ m)).2 j z
    · rcases h2 i a m with z | ⟨j, z⟩
      · exact .inl (List.mem_append_right _ z)
      · rcases h1 j a z with z | z
        · exact .inl (List.mem_append_left _ z)
        · exact .inr z
  · cases e1
def gtup (n : Nat) (g : Tgs) : Tg := fun d δ => match d with
  | .tup ds => if ds.length = n then g ds δ else none
  | _ => none
theorem dg_tup {es : List Expr} {k0 : Nat} {g : Tgs} {n : Nat} {ts : List Nat} (hc : X.calm = true) (h : DGs X pn ts es g) (hn : (assignEach es X.env).length = n := by rfl) (hst : (assignEach es X.env).findIdx? (·.1) = none := by rfl) : DG X pn ts (.Tuple es k0 pos) (gtup n g) := wG (pg_tup hc h hn hst) fun v σ H Q ⟨Z, F, δ, d, G, δ', r, o, nd, gg, e1, k⟩ => by
  unfold gtup at e1
  split at e1
  · split at e1
    · rename_i hl
      obtain ⟨a, vs, rfl, s, o⟩ := own_tup o
      exact ⟨a, vs, rfl, .of s, by rw [← o.length]; exact hl, Z, F, δ, _, G, δ', r, o, nd, gg, e1, k⟩
    · cases e1
  · cases e1
/-- target = value -/
def masg (m : M D) (g : Tg) : MS := fun δ => match m δ with
  | some (d, δ1) => (g d δ1).map fun δ2 => (.nx, δ2)
  | none => none
theorem asg_rd {t ts : List Nat} {m : M D} {g : Tg} : ∀ D σ H, tSt X pn (masg m g) D σ H → tAsg (tG X.K t true m) (tGg X.K pn ts g) D σ H := fun D σ H ⟨Z, F, δ, fl, δ', r, e1, k⟩ => by
  unfold masg at e1
  split at e1
  · rename_i d δ1 q1
    rw [Option.map_eq_some_iff] at e1
    obtain ⟨δ2, e2, e3⟩ := e1
    cases e3
    refine ⟨Z, F, δ, d, δ1, r, q1, fun v H1 Z1 F1 G r1 f1 _ o1 n1 => ?_⟩
    have n := n1 rfl
    refine ⟨Z1, F1, δ1, d, G, δ', r1, o1, n.nd, fun a m => ⟨n.zd a m, n.fd a m⟩, e2, fun σ' F' r' h' p' _ => ?_⟩
    refine k σ' H1 Z1 F' r' ⟨f1.out, f1.here, f1.zup, f1.znew, fun i a m => ?_⟩ p'
    rcases h' i a m with z | ⟨j, z⟩
    · exact n.from' a z
    · exact f1.fnew j a z
  · cases e1
theorem ds_asg {tg e : Expr} {t ts : List Nat} {m : M D} {g : Tg} (he : DE X e t true m) (hg : DG X pn ts tg g) (hs : swapsWithSole [tg] e pos.line X.env = pure false := by rfl) (hw : swappedStores [tg] e X.env = pure none := by rfl)
    (h1 : (assignEach [tg] X.env).map (·.2) = [assign tg X.env] := by rfl) : DS X pn (.Assign [tg] e pos) (masg m g) := wS (ps_asg he hg hs hw h1) asg_rd
theorem name_rd {i : Nat} {t : List Nat} {m : M D} (hp : pn.contains i = false) : ∀ D σ H, tSt X pn (masg m (gset i)) D σ H → tG X.K t true m σ H fun x H1 => gName i x σ H1 D.nx := fun D σ H ⟨Z, F, δ, fl, δ', r, e1, k⟩ => by
    unfold masg at e1
    split at e1
    · rename_i d δ1 q1
      rw [Option.map_eq_some_iff] at e1
      obtain ⟨δ2, e2, e3⟩ := e1
      cases e3
      unfold gset at e2
      split at e2
      · rename_i hi
        cases e2
        refine ⟨Z, F, δ, d, δ1, r, q1, fun v H1 Z1 F1 G r1 f1 _ o1 n1 => ?_⟩
        have n := n1 rfl
        refine k (σ.set i (some v)) H1 Z1 (fun j => if j = i then G else F1 j) (r1.set hi o1 n.nd fun a m => ⟨n.zd a m, n.fd a m⟩) ⟨f1.out, f1.here, f1.zup, f1.znew, fun j a m => ?_⟩ fun j m => ?_
        · by_cases c : j = i
          · simp only [if_pos c] at m; exact n.from' a m
          · simp only [if_neg c] at m; exact f1.fnew j a m
        · refine List.getElem?_set_ne fun c => ?_
          subst c
          have := List.contains_iff_mem.mpr m
          rw [hp] at this
          cases this
      · cases e2
    · cases e1
/-- x = e -/
theorem ds_set {i : Nat} {x : Str} {e : Expr} {t : List Nat} {m : M D} {q : Pos} (hN : X.N.Nodup) (hi : X.N[i]? = some x) (hx : Loc X.env.scope x) (he : DE X e t true m) (hs : swapsWith e (some (.Name x q)) pos.line X.env = pure false := by rfl)
    (hf : X.fn x = true ∨ X.env.scope.names.lookup x = some .local := by first | exact .inl rfl | exact .inr rfl | assumption) (hp : pn.contains i = false := by rfl) : DS X pn (.Assign [.Name x q] e pos) (masg m (gset i)) :=
  wS (ps_set hN hi hx he hs hf) fun D σ H h => name_rd hp D σ H h
/-- a, b = e1, e2 -/
def mpar (i j : Nat) (m : M (List D)) : MS := fun δ => match m δ with
  | some ([d, e], δ1) => if i < δ1.length ∧ j < δ1.length then some (.nx, (δ1.set i (some d)).set j (some e)) else none
  | _ => none
theorem ds_par {i j : Nat} {x y : Str} {a b : Expr} {px py pt : Pos} {kt k2 pt2} {t : List Nat} {m : M (List D)} (hc : X.calm = true) (hN : X.N.Nodup) (hi : X.N[i]? = some x) (hj : X.N[j]? = some y) (hij : i ≠ j)
    (hx : X.env.scope.names.lookup x = some .local) (hy : X.env.scope.names.lookup y = some .local) (ha : DA X [a, b] t m)
    (hw : swappedStores [.Tuple [.Name x px, .Name y py] kt pt] (.Tuple [a, b] k2 pt2) X.env = pure (some [x, y]))
    (hs : swapsWithSole [.Tuple [.Name x px, .Name y py] kt pt] (.Tuple [a, b] k2 pt2) pos.line X.env = pure false := by rfl) (hp : pn.contains i = false := by rfl) (hp2 : pn.contains j = false := by rfl) :
    DS X pn (.Assign [.Tuple [.Name x px, .Name y py] kt pt] (.Tuple [a, b] k2 pt2) pos) (mpar i j m) := wS (ps_par hc hN hi hj hij hx hy ha hw hs) fun D σ H ⟨Z, F, δ, fl, δ', r, e1, k⟩ => by
  unfold mpar at e1
  split at e1
  · rename_i d e δ1 q1
    split at e1
    · rename_i hl
      cases e1
      refine ⟨Z, F, δ, [d, e], δ1, r, q1, fun vs H1 Z1 F1 G r1 f1 _ o1 n => ?_⟩
      simp only [Owns] at o1
      obtain ⟨v, ws, G1, G2, rfl, rfl, o1, w, ws, G3, G4, rfl, rfl, o2, rfl, rfl⟩ := o1
      rw [List.append_nil] at n
      obtain ⟨n1, n2, n3⟩ := List.nodup_append.mp n.nd
      refine ⟨v, w, rfl, k _ H1 Z1 (fun l => if l = j then G3 else if l = i then G1 else F1 l) ?_ ⟨f1.out, f1.here, f1.zup, f1.znew, fun l a m => ?_⟩ fun l m => ?_⟩
      · refine (r1.set hl.1 o1 n1 fun a m => ⟨n.zd a (List.mem_append_left _ m), n.fd a (List.mem_append_left _ m)⟩).set (by simpa using hl.2) o2 n2 fun a m => ⟨n.zd a (List.mem_append_right _ m), fun l ml => ?_⟩
        by_cases c : l = i
        · simp only [if_pos c] at ml; exact n3 a ml a m rfl
        · simp only [if_neg c] at ml; exact n.fd a (List.mem_append_right _ m) l ml
      · by_cases c : l = j
        · simp only [if_pos c] at m; exact n.from' a (List.mem_append_right _ m)
        · simp only [if_neg c] at m
          by_cases c2 : l = i
          · simp only [if_pos c2] at m; exact n.from' a (List.mem_append_left _ m)
          · simp only [if_neg c2] at m; exact f1.fnew l a m
      · have ni : l ≠ i := fun c => by subst c; have := List.contains_iff_mem.mpr m; rw [hp] at this; cases this
        have nj : l ≠ j := fun c => by subst c; have := List.contains_iff_mem.mpr m; rw [hp2] at this; cases this
        rw [List.getElem?_set_ne (Ne.symm nj), List.getElem?_set_ne (Ne.symm ni)]
    · cases e1
  · cases e1
/-- x op= e, by the operator's rule -/
def maug (i : Nat) (f : D → D → Option D) (m : M D) : MS := fun δ => match δ[i]? with
  | some (some x) => (match m δ with
    | some (y, δ1) => (f x y).map fun z => (.nx, δ1.set i (some z))
    | none => none)
  | _ => none
theorem ds_aug {i : Nat} {x : Str} {e : Expr} {op : Operator} {r : R2} {f : D → D → Option D} {t : List Nat} {fr : Bool} {m : M D} {q : Pos} (ho : OpR X (inplaceOp op) r) (hr : R2D X.K r f) (hN : X.N.Nodup) (hi : X.N[i]? = some x) (hx : Loc X.env.scope x) (he : DE X e t fr m)
    (hf : X.fn x = true ∨ X.env.scope.names.lookup x = some .local := by first | exact .inl rfl | exact .inr rfl | assumption) (hp : pn.contains i = false := by rfl) (ht : t.contains i = false := by rfl) : DS X pn (.AugAssign (.Name x q) op e pos) (maug i f m) :=
  wS (ps_aug (ti := r) hN hi hx he (fun pins s σ H x y v u Q I r1 r2 h => ho pins s σ H x y v u Q I r1 r2 h) hf) fun D σ H ⟨Z, F, δ, fl, δ', rl, e1, k⟩ => by
    unfold maug at e1
    split at e1
    · rename_i dx hdx
      split at e1
      · rename_i y δ1 q1
        rw [Option.map_eq_some_iff] at e1
        obtain ⟨z, e2, e3⟩ := e1
        cases e3
        obtain ⟨v, hv, ov⟩ := rl.val i dx hdx
        refine ⟨v, hv, Z, F, δ, y, δ1, rl, q1, fun w H1 Z1 F1 G r1 f1 tc o1 n1 => ?_⟩
        have hni : i ∉ t := fun m => by have := List.contains_iff_mem.mpr m; rw [ht] at this; cases this
        have ov1 : Own X.K Z1 H1 dx (F i) v := ov.keep ⟨f1.zup, (f1.keep rl (G := []) (by simp)).rd, (f1.keep rl (G := []) (by simp)).ins, fun a o m h => by rw [tc.at' i a hni m]; exact h, (f1.keep rl (G := []) (by simp)).tup⟩
        refine hr r1 ov1 o1 e2 fun u H2 Z2 G2 r2 f2 s2 o2 n2 => ?_
        have hl : i < δ1.length := by rw [tc.len]; exact (List.getElem?_eq_some_iff.mp hdx).1
        have n := n2.back f1
        refine k _ H2 Z2 (fun j => if j = i then G2 else F1 j) (r2.set hl o2 n2.nd fun a m => ⟨n2.zd a m, n2.fd a m⟩) ⟨(f1.trans f2).out, (f1.trans f2).here, (f1.trans f2).zup, (f1.trans f2).znew, fun j a m => ?_⟩ fun j m => ?_
        · by_cases c : j = i
          · simp only [if_pos c] at m; exact n.from' a m
          · simp only [if_neg c] at m; exact (f1.trans f2).fnew j a m
        · refine List.getElem?_set_ne fun c => ?_
          subst c
          have := List.contains_iff_mem.mpr m
          rw [hp] at this
          cases this
      · cases e1
    · cases e1

/-! ### while -/
def mwhile (c : M Bool) (b : MS) : Nat → MS
  | 0 => fun _ => none
  | n + 1 => fun δ => match c δ with
    | some (true, δ1) => (match b δ1 with
      | some (.nx, δ2) => mwhile c b n δ2
      | some (.ct, δ2) => mwhile c b n δ2
      | some (.bk, δ2) => some (.nx, δ2)
      | some (.rt d, δ2) => some (.rt d, δ2)
      | some (.ex c n d, δ2) => some (.ex c n d, δ2)
      | none => none)
    | some (false, δ1) => some (.nx, δ1)
    | none => none
theorem St_mono {X : Cx} {Z Z1 : Addr → Prop} {F F1 : Fp} {H H1 : Hp} {m : MS} {D : Ends} {σ σ1 : St} {δ1 δ' : En} {fl : Fl} (f1 : Fr Z F H Z1 F1 H1) (p1 : ∀ i ∈ pn, σ1[i]? = σ[i]?) (r1 : Rel X.K Z1 F1 δ1 σ1 H1) (em : m δ1 = some (fl, δ'))
    (k : ∀ σ' H' Z' F', Rel X.K Z' F' δ' σ' H' → Fr Z F H Z' F' H' → (∀ i ∈ pn, σ'[i]? = σ[i]?) → Fin X.K X.mg (wX X) D F H Z' F' fl σ' H') : tSt X pn m D σ1 H1 := by
  refine ⟨Z1, F1, δ1, fl, δ', r1, em, fun σ2 H2 Z2 F2 r2 f2 p2 => ?_⟩
  have kk := k σ2 H2 Z2 F2 r2 (f1.trans f2) fun i m => (p2 i m).trans (p1 i m)
  cases fl with
  | nx => exact kk
  | bk => exact kk
  | ct => exact kk
  | rt d => exact fun v G o n => kk v G o (n.back f1)
  | ex c n d => exact kk
theorem ds_while {c : Expr} {body : List Stmt} {t : List Nat} {mc : M Bool} {mb : MS} (n : Nat) (hp : PassesOwn (model X.prog X.w) X.A X.env X.xe) (hc : DT X c t mc) (hb : DSs X pn body mb) : DS X pn (.While c body [] pos) (mwhile mc mb n) := wS (ps_while hp hc hb) fun D σ H h => by
  refine ⟨fun n σ H => tSt X pn (mwhile mc mb n) D σ H, ⟨n, h⟩, ?_⟩
  intro m σ H ⟨Z, F, δ, fl, δ', r, e1, k⟩
  cases m with
  | zero => cases e1
  | succ m =>
    unfold mwhile at e1
    split at e1
    · rename_i δ1 q1
      refine ⟨Z, F, δ, true, δ1, r, q1, fun H1 Z1 F1 r1 f1 _ => iteT ⟨fun σ' H' => tSt X pn (mwhile mc mb m) D σ' H', fun σ' H' q => ⟨m, Nat.lt_succ_self m, q⟩, ?_⟩⟩
      split at e1
      · rename_i δ2 q2
        refine ⟨Z1, F1, δ1, .nx, δ2, r1, q2, fun σ2 H2 Z2 F2 r2 f2 p2 => ?_⟩
        exact St_mono (f1.trans f2) p2 r2 e1 k
      · rename_i δ2 q2
        refine ⟨Z1, F1, δ1, .ct, δ2, r1, q2, fun σ2 H2 Z2 F2 r2 f2 p2 => ?_⟩
        exact St_mono (f1.trans f2) p2 r2 e1 k
      · rename_i δ2 q2
        cases e1
        exact ⟨Z1, F1, δ1, .bk, δ', r1, q2, fun σ2 H2 Z2 F2 r2 f2 p2 => k σ2 H2 Z2 F2 r2 (f1.trans f2) p2⟩
      · rename_i d δ2 q2
        cases e1
        exact ⟨Z1, F1, δ1, .rt d, δ', r1, q2, fun σ2 H2 Z2 F2 r2 f2 p2 v G o n => k σ2 H2 Z2 F2 r2 (f1.trans f2) p2 v G o (n.back f1)⟩
      · rename_i c n d δ2 q2
        cases e1
        exact ⟨Z1, F1, δ1, .ex c n d, δ', r1, q2, fun σ2 H2 Z2 F2 r2 f2 p2 => k σ2 H2 Z2 F2 r2 (f1.trans f2) p2⟩
      · cases e1
    · rename_i δ1 q1
      cases e1
      exact ⟨Z, F, δ, false, δ', r, q1, fun H1 Z1 F1 r1 f1 _ => iteF (k σ H1 Z1 F1 r1 f1 fun _ _ => rfl)⟩
    · cases e1
end
end TL
set_option Elab.async false
set_option linter.all false
set_option maxRecDepth 100000
set_option maxHeartbeats 4000000
/-! T5: defs and their calls, for, comprehensions. -/
namespace TL
open PySem PySem.Spec L2
open PyProof.Rows (envOfC)

/-! ### a def keeps its mirror -/
theorem pad_get {α : Type} {l : List α} {k i : Nat} {x : α} : (l.map some ++ List.replicate k none)[i]? = some (some x) ↔ l[i]? = some x := by
  by_cases h : i < l.length
  · rw [List.getElem?_append_left (by simpa using h), List.getElem?_map]
    cases l[i]? <;> simp
  · rw [List.getElem?_append_right (by simpa using h), List.getElem?_eq_none (by omega : l.length ≤ i)]
    simp only [List.length_map]
    constructor
    · intro e
      have := List.mem_of_getElem? e
      have := List.eq_of_mem_replicate this
      cases this
    · intro e; cases e
theorem map_get {α : Type} {l : List α} {i : Nat} {x : α} : (l.map some)[i]? = some (some x) ↔ l[i]? = some x := by
  rw [List.getElem?_map]
  cases l[i]? <;> simp
theorem Rel.pad {K : PySem.W.Frag} {Z : Addr → Prop} {F : Fp} {ds : List D} {vs : List V} {H : Hp} (r : Rel K Z F (ds.map some) (vs.map some) H) (k : Nat) : Rel K Z F (ds.map some ++ List.replicate k none) (vs.map some ++ List.replicate k none) H where
  val := fun i d e => by
    obtain ⟨v, e2, o⟩ := r.val i d (map_get.mpr (pad_get.mp e))
    exact ⟨v, pad_get.mpr (map_get.mp e2), o⟩
  emp := fun i n => r.emp i fun d e => n d (pad_get.mpr (map_get.mp e))
  nd := r.nd
  dis := r.dis
  zd := r.zd
  zh := r.zh
  len := by
    have := r.len
    simp only [List.length_map] at this
    simp [this]
theorem spM_len {K : PySem.W.Frag} {np n : Nat} {io : Bool} {b : MS} {vs : List V} {H : Hp} {Q : VK} {E : XK} (h : spM K io (runS np n io b) vs H Q E) : vs.length = np := by
  obtain ⟨Z, F, ds, r, out, rl, e, _⟩ := h
  unfold runS at e
  split at e
  · rename_i hl
    have := rl.len
    simp only [List.length_map] at this
    omega
  · cases e
section
variable {P : Program} {w : World} {K : PySem.W.Frag} {mg : Str → Option Value} {base : Heap}
/-- the values behind the body -/
theorem ret_of {Z' : Addr → Prop} {F' : Fp} {io : Bool} {δ' : En} {σ' : St} {vs : List V} {n : Nat} {H' : Hp} {o : D} (r : Rel K Z' F' δ' σ' H') (h0 : io = true → δ'[0]? = some (some o)) (hs : io = true → σ'[0]? = (vs.map some ++ List.replicate n none : St)[0]?) :
    Ret K Z' (fun i => if io = true then (if i = 0 then F' 0 else []) else []) io o vs H' where
  val := fun e v hv => by
    subst e
    obtain ⟨u, e1, o1⟩ := r.val 0 o (h0 rfl)
    rw [hs rfl] at e1
    have := pad_get.mp e1
    rw [hv] at this
    cases this
    simpa using o1
  emp := fun i c => by
    cases io with
    | false => simp
    | true => simp [c rfl]
  nd := by
    cases io with
    | false => simp
    | true => simpa using r.nd 0
  zd := fun a m => by
    cases io with
    | false => simp at m
    | true => simp at m; exact r.zd 0 a m
  zh := r.zh
theorem def_ok {x qual : Str} {st : Stmt} {f : Addr} {fd : FuncData} {N ps : List Str} {k : Nat} {io : Bool} {b : MS} {pn : List Nat} (F : Fun K x qual st f fd) (S : FnScope N ps (defScope st)) (hp : io = true → 0 ∈ pn) (hl : ps.length ≤ N.length)
    (hbody : ∀ (cdv : Value) (A : Around) (outer : List PySem.Env) (s : Shared) (H : Hp) (E : XK), Room k (A.deeper (envOfC qual (defScope st) s.heap.objs.size f cdv)) →
      DSs (cxOf CX0 P w K mg base N qual (defScope st) f cdv A outer s H E).nox pn (defBody st) b) :
    FnOk P w K mg base CX0 (k + 1) f fd ps (spM K io (runS ps.length N.length io b)) := by
  refine F.ok S (fun vs H Q E h => spM_len h) (fun cdv A outer s H vs Q E hr h => ?_)
  refine ⟨_, hbody cdv A outer s H E hr, ?_⟩
  have hlen := spM_len h
  obtain ⟨Z, F, ds, r, out, rl, e, fe, k⟩ := h
  unfold runS at e
  split at e
  · rename_i hds
    have e0 : L2.start N vs = vs.map some ++ List.replicate (N.length - ps.length) none := by
      unfold L2.start
      rw [hlen]
    have go : ∀ fl δ' d, b (ds.map some ++ List.replicate (N.length - ps.length) none) = some (fl, δ') → (fl = .rt d ∨ (fl = .nx ∧ d = .non)) → (if io = true then (match δ'[0]? with | some (some o) => some (d, o) | _ => none) else some (d, D.non)) = some (r, out) →
        tSt (cxOf CX0 P w K mg base N qual (defScope st) f cdv A outer s H E).nox pn b { nx := fun _ H' => Q .non H', rt := Q } (L2.start N vs) H := fun fl δ' d eb hfl eo => by
      have h0 : io = true → δ'[0]? = some (some out) := fun hi => by
        rw [if_pos hi] at eo
        split at eo
        · rename_i o q
          cases eo
          exact q
        · cases eo
      have hd : d = r := by
        by_cases hi : io = true
        · rw [if_pos hi] at eo
          split at eo
          · cases eo; rfl
          · cases eo
        · rw [if_neg hi] at eo
          cases eo; rfl
      subst hd
      refine ⟨Z, F, _, fl, δ', by rw [e0]; exact rl.pad _, eb, fun σ' H' Z' F' r' f' p' => ?_⟩
      have R := ret_of (vs := vs) (n := N.length - ps.length) r' h0 (fun hi => by rw [← e0]; exact p' 0 (hp hi))
      have f2 : Fr Z F H Z' (fun i => if io = true then (if i = 0 then F' 0 else []) else []) H' := ⟨f'.out, f'.here, f'.zup, f'.znew, fun i a m => by
        cases io with
        | false => simp at m
        | true =>
          by_cases hi : i = 0
          · simp [hi] at m; exact f'.fnew 0 a m
          · simp [hi] at m⟩
      have n2 : ∀ G, New F H Z' F' G → New F H Z' (fun i => if io = true then (if i = 0 then F' 0 else []) else []) G := fun G n => ⟨n.nd, n.zd, fun a m i mi => by
        cases io with
        | false => simp at mi
        | true =>
          by_cases hi : i = 0
          · simp [hi] at mi; exact n.fd a m 0 mi
          · simp [hi] at mi, n.from'⟩
      rcases hfl with rfl | ⟨rfl, rfl⟩
      · exact fun v G o n => k v H' Z' _ G R f2 o (n2 G n)
      · exact k .non H' Z' _ [] R f2 (by simp [Own]) New.nil
    split at e
    · rename_i d δ' q
      exact go _ δ' d q (.inl rfl) e
    · rename_i δ' q
      exact go _ δ' .non q (.inr ⟨rfl, rfl⟩) e
    · cases e
  · cases e
end

/-! ### calls -/
/-- f(..): the arguments are given up -/
def mcall (fn : Fn) (m : M (List D)) : M D := mbind m fun ds => mopt ((fn (D.fzs ds)).map (·.1))
theorem Owns.rel {K : PySem.W.Frag} {Z : Addr → Prop} {H : Hp} {ds : List D} {vs : List V} (o : Owns K Z H ds [] vs) (zh : ∀ a, Z a → ∃ o, H a = some o) : Rel K Z (fun _ => []) (ds.map some) (vs.map some) H where
  val := fun i d e => by
    obtain ⟨v, G, q1, q2, q3⟩ := o.get (map_get.mp e)
    rw [List.sublist_nil.mp q3] at q2
    exact ⟨v, map_get.mpr q1, q2⟩
  emp := fun _ _ => rfl
  nd := fun _ => List.nodup_nil
  dis := fun _ _ _ m => nomatch m
  zd := fun _ _ m => nomatch m
  zh := zh
  len := by simp [o.length]
section
variable {X : Cx} {pos : Pos}
theorem call_rd {t : List Nat} {m : M (List D)} {fn : Fn} : ∀ σ H Q, tG X.K t true (mcall fn m) σ H Q → tGa X.K t m σ H fun vs H1 => spM X.K false fn vs H1 Q E0 := fun σ H Q ⟨Z, F, δ, d, δ', r, e1, k⟩ => by
  unfold mcall at e1
  rw [mbind_some] at e1
  obtain ⟨ds, δ1, e1, e2⟩ := e1
  rw [mopt_some, Option.map_eq_some_iff] at e2
  obtain ⟨⟨⟨r0, out⟩, e2, e3⟩, rfl⟩ := e2
  cases e3
  refine ⟨Z, F, δ, ds, δ', r, e1, fun vs H1 Z1 F1 G r1 f1 tc o1 n => ?_⟩
  have gh : ∀ a ∈ G, ∃ o, H1 a = some o := fun a m => mut_some (o1.here a m)
  have rz := r1.freeze n.fd gh
  have oz : Owns X.K (fun a => Z1 a ∨ a ∈ G) H1 (D.fzs ds) [] vs := o1.fz (fun _ z => .inl z) fun _ m => .inr m
  refine ⟨fun a => Z1 a ∨ a ∈ G, fun _ => [], D.fzs ds, r0, out, oz.rel rz.zh, e2, fun _ _ => rfl, fun v H2 Z2 F2 G2 R f2 o2 n2 => ?_⟩
  have s2 : Same H1 H2 := fun a o h => f2.out a o h fun _ m => nomatch m
  have F2e : ∀ i, F2 i = [] := fun i => R.emp i fun c => nomatch c
  have r2 : Rel X.K Z2 F1 δ' σ H2 := rz.grow s2 f2.zup (fun a z => by
    rcases f2.znew a z with z | z | ⟨_, z⟩
    · exact .inl z
    · exact .inr fun i m => r1.ne_new z i m
    · cases z) R.zh
  refine k v H2 Z2 F1 G2 r2 ⟨fun a o h n => s2 a o (f1.out a o h n), fun a o h => ?_, fun a z => f2.zup a (.inl (f1.zup a z)), fun a z => ?_, f1.fnew⟩ (tc.more r s2) o2 fun _ => ⟨n2.nd, n2.zd, fun a m i mi => ?_, fun a m => ?_⟩
  · obtain ⟨o', h'⟩ := f1.here a o h
    exact ⟨o', s2 a o' h'⟩
  · rcases f2.znew a z with (z | z) | z | ⟨_, z⟩
    · exact f1.znew a z
    · exact .inr (n.from' a z)
    · cases e : H a with
      | none => exact .inr (.inl rfl)
      | some o =>
        obtain ⟨o', h'⟩ := f1.here a o e
        rw [z] at h'; cases h'
    · cases z
  · rcases n2.from' a m with z | ⟨_, z⟩
    · exact r1.ne_new z i mi
    · cases z
  · rcases n2.from' a m with z | ⟨_, z⟩
    · cases e : H a with
      | none => exact .inl rfl
      | some o =>
        obtain ⟨o', h'⟩ := f1.here a o e
        rw [z] at h'; cases h'
    · cases z
theorem de_call {x : Str} {p : Pos} {e : Expr} {es : List Expr} {k : Nat} {f : Addr} {fd : FuncData} {ps : List Str} {fn : Fn} {t : List Nat} {m : M (List D)} (F : FnOk X.prog X.w X.K X.mg X.base CX0 k f fd ps (spM X.K false fn)) (hr : Room k X.A) (hg : Gl X x) (hm : X.mg x = some (.ref f)) (hk : PySem.W.keepIn X.K (.ref f) = true) (hb : Binds X.K fd ps [])
    (ha : DA X (e :: es) t m) (hdb : (x == ("__debug__" : Str)) = false := by decide) (he : starEach (e :: es) X.env = (false, eval e X.env) :: starEach es X.env := by rfl) (hpl : (backTo pos (starEach es X.env)).any (·.1) = false := by rfl) :
    DE X (.Call (.Name x p) (e :: es) [] pos) t true (mcall fn m) := wE (pe_call F hr hg hm hk hb .nil pass0 ha hdb he hpl) fun σ H Q h => by
  have := call_rd σ H Q h
  show tGa X.K t m σ H fun vs H1 => spM X.K false fn (vs ++ []) H1 Q E0
  simp only [List.append_nil]
  exact this
theorem de_call0 {x : Str} {p : Pos} {k : Nat} {f : Addr} {fd : FuncData} {ps : List Str} {fn : Fn} (F : FnOk X.prog X.w X.K X.mg X.base CX0 k f fd ps (spM X.K false fn)) (hr : Room k X.A) (hg : Gl X x) (hm : X.mg x = some (.ref f)) (hk : PySem.W.keepIn X.K (.ref f) = true) (hb : Binds X.K fd ps [])
    (hdb : (x == ("__debug__" : Str)) = false := by decide) : DE X (.Call (.Name x p) [] [] pos) [] true (mcall fn mnil) := wE (pe_call0 F hr hg hm hk hb .nil pass0 hdb) fun σ H Q h => by
  obtain ⟨Z, F, δ, ds, δ', r, e1, k⟩ := call_rd σ H Q h
  unfold mnil at e1
  rw [mk_some] at e1
  obtain ⟨rfl, rfl⟩ := e1
  exact k [] H Z F [] r Fr.refl Tch.refl (by simp [Owns]) New.nil
/-- f(x, ..): x is handed in to be changed -/
def mcall1 (i : Nat) (fn : Fn) (m : M (List D)) : M D := fun δ0 => match δ0[i]? with
  | some (some _) => (match m δ0 with
    | some (ds, δ) => (match δ[i]? with
      | some (some d0) => (fn (d0 :: D.fzs ds)).map fun p => (p.1, δ.set i (some p.2))
      | _ => none)
    | none => none)
  | _ => none
theorem call1_rd {t : List Nat} {i : Nat} {m : M (List D)} {fn : Fn} : ∀ σ H Q, tG X.K (i :: t) true (mcall1 i fn m) σ H Q → ∃ v0, σ[i]? = some (some v0) ∧ tGa X.K t m σ H fun vs H1 => spM X.K true fn (v0 :: vs) H1 Q E0 := fun σ H Q ⟨Z, F, δ, d, δ', r, e1, k⟩ => by
  unfold mcall1 at e1
  split at e1
  case h_2 => cases e1
  rename_i dd hdd
  split at e1
  case h_2 => cases e1
  rename_i ds δ1 q1
  split at e1
  case h_2 => cases e1
  · rename_i d0 hd0
    rw [Option.map_eq_some_iff] at e1
    obtain ⟨⟨r0, out⟩, e2, e3⟩ := e1
    cases e3
    -- the object is there ahead of the arguments, too
    have key : ∀ vs H1 Z1 F1 G, Rel X.K Z1 F1 δ1 σ H1 → Fr Z F H Z1 F1 H1 → Tch t F δ H F1 δ1 H1 → Owns X.K Z1 H1 ds G vs → New F H Z1 F1 G → ∃ v0, σ[i]? = some (some v0) ∧ spM X.K true fn (v0 :: vs) H1 Q E0 := fun vs H1 Z1 F1 G r1 f1 tc o1 n => by
      obtain ⟨v0, hv0, ov0⟩ := r1.val i d0 hd0
      refine ⟨v0, hv0, ?_⟩
      have gh : ∀ a ∈ G, ∃ o, H1 a = some o := fun a m => mut_some (o1.here a m)
      have rz := r1.freeze n.fd gh
      have oz : Owns X.K (fun a => Z1 a ∨ a ∈ G) H1 (D.fzs ds) [] vs := o1.fz (fun _ z => .inl z) fun _ m => .inr m
      have ov1 : Own X.K (fun a => Z1 a ∨ a ∈ G) H1 d0 (F1 i) v0 := ov0.keep (same_keep (Same.refl H1) (fun _ z => .inl z) _)
      have rc : Rel X.K (fun a => Z1 a ∨ a ∈ G) (fun j => if j = 0 then F1 i else []) ((d0 :: D.fzs ds).map some) ((v0 :: vs).map some) H1 := by
        have ro := oz.rel rz.zh
        refine ⟨fun j e h => ?_, fun j n => ?_, fun j => ?_, fun j l a m1 m2 => ?_, fun j a m => ?_, rz.zh, by simp [oz.length]⟩
        · cases j with
          | zero =>
            simp at h
            subst h
            exact ⟨v0, by simp, by simpa using ov1⟩
          | succ j =>
            obtain ⟨v, q1, q2⟩ := ro.val j e (by simpa using h)
            exact ⟨v, by simpa using q1, by simpa using q2⟩
        · cases j with
          | zero => exact (n d0 (by simp)).elim
          | succ j => simp
        · cases j <;> simp [r1.nd]
        · cases j with
          | zero =>
            cases l with
            | zero => rfl
            | succ l => simp at m2
          | succ j => simp at m1
        · cases j with
          | zero => simp at m; exact rz.zd i a m
          | succ j => simp at m
      refine ⟨fun a => Z1 a ∨ a ∈ G, _, d0 :: D.fzs ds, _, _, rc, e2, fun j c => ?_, fun v H2 Z2 F2 G2 R f2 o2 n2 => ?_⟩
      · simp only [if_neg (c rfl)]
      have F2e : ∀ j, j ≠ 0 → F2 j = [] := fun j h => R.emp j fun _ => h
      have nF : ∀ j, j ≠ i → ∀ a ∈ F1 j, ∀ l, a ∉ (fun j => if j = 0 then F1 i else [] : Fp) l := fun j h a m l ml => by
        cases l with
        | zero => simp at ml; exact h (r1.dis j i a m ml)
        | succ l => simp at ml
      have nH : ∀ a, H1 a = none → H a = none := fun a z => by
        cases e : H a with
        | none => rfl
        | some o =>
          obtain ⟨o', h'⟩ := f1.here a o e
          rw [z] at h'; cases h'
      have f2n : ∀ j a, a ∈ F2 j → H1 a = none ∨ a ∈ F1 i := fun j a m => by
        rcases f2.fnew j a m with z | ⟨l, z⟩
        · exact .inl z
        · cases l with
          | zero => simp at z; exact .inr z
          | succ l => simp at z
      have hi : i < δ1.length := (List.getElem?_eq_some_iff.mp hd0).1
      have r3 : Rel X.K Z2 (fun j => if j = i then F2 0 else F1 j) (δ1.set i (some out)) σ H2 := by
        refine ⟨fun j e h => ?_, fun j n => ?_, fun j => ?_, fun j l a m1 m2 => ?_, fun j a m => ?_, R.zh, by simpa using r1.len⟩
        · by_cases c : j = i
          · subst c
            rw [List.getElem?_set_self hi] at h
            cases h
            exact ⟨v0, hv0, by simpa using R.val rfl v0 rfl⟩
          · rw [List.getElem?_set_ne (Ne.symm c)] at h
            obtain ⟨u, q1, q2⟩ := r1.val j e h
            refine ⟨u, q1, ?_⟩
            simp only [if_neg c]
            exact (q2.keep (same_keep (Same.refl H1) (fun _ z => .inl z) _)).keep (f2.keep rc (nF j c))
        · by_cases c : j = i
          · subst c
            exact (n out (List.getElem?_set_self hi)).elim
          · simp only [if_neg c]
            exact r1.emp j fun e h => n e (by rw [List.getElem?_set_ne (Ne.symm c)]; exact h)
        · by_cases c : j = i
          · simp only [if_pos c]; exact R.nd
          · simp only [if_neg c]; exact r1.nd j
        · by_cases c : j = i
          · by_cases c2 : l = i
            · rw [c, c2]
            · simp only [if_pos c] at m1
              simp only [if_neg c2] at m2
              rcases f2n 0 a m1 with z | z
              · exact (r1.ne_new z l m2).elim
              · exact (c2 (r1.dis l i a m2 z)).elim
          · by_cases c2 : l = i
            · simp only [if_neg c] at m1
              simp only [if_pos c2] at m2
              rcases f2n 0 a m2 with z | z
              · exact (r1.ne_new z j m1).elim
              · exact (c (r1.dis j i a m1 z)).elim
            · simp only [if_neg c] at m1
              simp only [if_neg c2] at m2
              exact r1.dis j l a m1 m2
        · intro z
          by_cases c : j = i
          · simp only [if_pos c] at m
            exact R.zd a m z
          · simp only [if_neg c] at m
            rcases f2.znew a z with (z | z) | z | ⟨l, z⟩
            · exact r1.zd j a m z
            · exact n.fd a z j m
            · exact r1.ne_new z j m
            · exact nF j c a m l z
      refine k v H2 Z2 _ G2 r3 ⟨fun a o h q => ?_, fun a o h => ?_, fun a z => f2.zup a (.inl (f1.zup a z)), fun a z => ?_, fun j a m => ?_⟩ ⟨by simp [tc.len], fun j q => ?_, fun j q => ?_, fun j a q m => ?_⟩ o2 fun _ => ⟨n2.nd, n2.zd, fun a m j mj => ?_, fun a m => ?_⟩
      · refine f2.out a o (f1.out a o h q) fun l ml => ?_
        cases l with
        | zero =>
          simp at ml
          rcases f1.fnew i a ml with z | ⟨j, z⟩
          · rw [h] at z; cases z
          · exact q j z
        | succ l => simp at ml
      · obtain ⟨o', h'⟩ := f1.here a o h
        exact f2.here a o' h'
      · rcases f2.znew a z with (z | z) | z | ⟨l, z⟩
        · exact f1.znew a z
        · exact .inr (n.from' a z)
        · exact .inr (.inl (nH a z))
        · cases l with
          | zero => simp at z; exact .inr (f1.fnew i a z)
          | succ l => simp at z
      · by_cases c : j = i
        · simp only [if_pos c] at m
          rcases f2n 0 a m with z | z
          · exact .inl (nH a z)
          · exact f1.fnew i a z
        · simp only [if_neg c] at m
          exact f1.fnew j a m
      · have hj : j ≠ i := fun c => q (by simp [c])
        rw [List.getElem?_set_ne (Ne.symm hj)]
        exact tc.en j fun m => q (List.mem_cons_of_mem _ m)
      · have hj : j ≠ i := fun c => q (by simp [c])
        simp only [if_neg hj]
        exact tc.fp j fun m => q (List.mem_cons_of_mem _ m)
      · have hj : j ≠ i := fun c => q (by simp [c])
        have hq : j ∉ t := fun m => q (List.mem_cons_of_mem _ m)
        have m1 : a ∈ F1 j := by rw [tc.fp j hq]; exact m
        rw [← tc.at' j a hq m]
        cases e : H1 a with
        | none => exact (r1.ne_new e j m1).elim
        | some o => exact f2.out a o e (nF j hj a m1)
      · have hG : H1 a = none ∨ a ∈ F1 i := by
          rcases n2.from' a m with z | ⟨l, z⟩
          · exact .inl z
          · cases l with
            | zero => simp at z; exact .inr z
            | succ l => simp at z
        by_cases c : j = i
        · simp only [if_pos c] at mj
          exact n2.fd a m 0 mj
        · simp only [if_neg c] at mj
          rcases hG with z | z
          · exact r1.ne_new z j mj
          · exact c (r1.dis j i a mj z)
      · rcases n2.from' a m with z | ⟨l, z⟩
        · exact .inl (nH a z)
        · cases l with
          | zero => simp at z; exact f1.fnew i a z
          | succ l => simp at z
    -- the slot's value
    obtain ⟨v0, hv0, _⟩ := r.val i dd hdd
    refine ⟨v0, hv0, Z, F, δ, ds, δ1, r, q1, fun vs H1 Z1 F1 G r1 f1 tc o1 n => ?_⟩
    obtain ⟨v1, hv1, q⟩ := key vs H1 Z1 F1 G r1 f1 tc o1 n
    rw [hv0] at hv1
    cases hv1
    exact q
end
end TL
set_option Elab.async false
set_option linter.all false
set_option maxRecDepth 100000
set_option maxHeartbeats 4000000
/-! T6: calls that change, for, comprehensions. -/
namespace TL
open PySem PySem.Spec L2

section
variable {X : Cx} {pn : List Nat} {pos : Pos}
theorem de_call1 {x x0 : Str} {p p0 : Pos} {es : List Expr} {k i : Nat} {f : Addr} {fd : FuncData} {ps : List Str} {fn : Fn} {t : List Nat} {m : M (List D)} (F : FnOk X.prog X.w X.K X.mg X.base CX0 k f fd ps (spM X.K true fn)) (hr : Room k X.A) (hg : Gl X x) (hm : X.mg x = some (.ref f)) (hk : PySem.W.keepIn X.K (.ref f) = true) (hb : Binds X.K fd ps [])
    (h0 : PE X (.Name x0 p0) (tVar i)) (ha : DA X es t m) (hdb : (x == ("__debug__" : Str)) = false := by decide) (he : starEach (.Name x0 p0 :: es) X.env = (false, eval (.Name x0 p0) X.env) :: starEach es X.env := by rfl) (hpl : (backTo pos (starEach es X.env)).any (·.1) = false := by rfl) :
    DE X (.Call (.Name x p) (.Name x0 p0 :: es) [] pos) (i :: t) true (mcall1 i fn m) := wE (pe_call F hr hg hm hk hb .nil pass0 (pa_cons h0 ha he) hdb he hpl) fun σ H Q h => by
  obtain ⟨v0, hv, q⟩ := call1_rd σ H Q h
  refine ⟨v0, hv, ?_⟩
  show tGa X.K t m σ H fun vs H1 => spM X.K true fn ((v0 :: vs) ++ []) H1 Q E0
  simp only [List.append_nil]
  exact q

/-! ### what a loop walks -/
theorem Keep.trans {Z Z1 Z2 : Addr → Prop} {H H1 H2 : Hp} {G : List Addr} (a : Keep Z Z1 H H1 G) (b : Keep Z1 Z2 H1 H2 G) : Keep Z Z2 H H2 G :=
  ⟨fun p z => b.z p (a.z p z), fun p u z h => b.rd p u (a.z p z) (a.rd p u z h), fun p C dx fs z h => b.ins p C dx fs (a.z p z) (a.ins p C dx fs z h), fun p o m h => b.own p o m (a.own p o m h), fun p xs h => b.tup p xs (a.tup p xs h)⟩
theorem Keep.refl {Z : Addr → Prop} {H : Hp} {G : List Addr} : Keep Z Z H H G := ⟨fun _ z => z, fun _ _ _ h => h, fun _ _ _ _ _ h => h, fun _ _ _ h => h, fun _ _ h => h⟩
/-- as it was, or with one new thing -/
def Gw (H H' : Hp) : Prop := H' = H ∨ ∃ T o, H T = none ∧ H' = upd H T o
theorem Gw.rel {K : PySem.W.Frag} {Z : Addr → Prop} {F : Fp} {δ : En} {σ : St} {H H' : Hp} (g : Gw H H') (r : Rel K Z F δ σ H) : Rel K Z F δ σ H' := by
  rcases g with rfl | ⟨T, o, h, rfl⟩
  · exact r
  · exact r.new h
theorem Gw.fr {Z : Addr → Prop} {F : Fp} {H H' : Hp} (g : Gw H H') : Fr Z F H Z F H' := by
  rcases g with rfl | ⟨T, o, h, rfl⟩
  · exact Fr.refl
  · exact Fr.new h
theorem Gw.tch {K : PySem.W.Frag} {Z : Addr → Prop} {F : Fp} {δ : En} {σ : St} {H H' : Hp} (g : Gw H H') (r : Rel K Z F δ σ H) : Tch [] F δ H F δ H' := by
  rcases g with rfl | ⟨T, o, h, rfl⟩
  · exact Tch.refl
  · exact Tch.refl.more r (same_upd h)
theorem gw_eq {K : PySem.W.Frag} {Z : Addr → Prop} {H H' : Hp} {d : D} {x : V} (e : H' = H) (o : Own K Z H d [] x) : Gw H H' ∧ Own K Z H' d [] x := by
  subst e
  exact ⟨.inl rfl, o⟩
def Yl (K : PySem.W.Frag) (Z : Addr → Prop) (H : Hp) (G : List Addr) (J : It) (ds : List D) : Prop := ∀ Z2 H2, Keep Z Z2 H H2 G → J.stop ds.length H2 ∧ ∀ i d, ds[i]? = some d → J.go i H2 ∧ ∀ x H3, J.yld i H2 x H3 → Gw H2 H3 ∧ Own K Z2 H3 d [] x
/-- B: the slots whose things the walk reads as it goes -/
def tGi (K : PySem.W.Frag) (B t : List Nat) (m : M (List D)) : TI := fun σ H R => ∃ Z F δ ds δ', Rel K Z F δ σ H ∧ m δ = some (ds, δ') ∧
  ∀ J H' Z' F', Rel K Z' F' δ' σ H' → Fr Z F H Z' F' H' → Tch t F δ H F' δ' H' → (∃ G, (∀ a ∈ G, ∃ i ∈ B, a ∈ F' i) ∧ Yl K Z' H' G J ds) → R J H'
abbrev DI (X : Cx) (B : List Nat) (tg iter : Expr) (t : List Nat) (m : M (List D)) : Prop := PI X tg iter (tGi X.K B t m)
theorem Yl.none {K : PySem.W.Frag} {Z : Addr → Prop} {H : Hp} {J : It} {ds : List D} {F : Fp} (y : ∃ G, (∀ a ∈ G, ∃ i ∈ ([] : List Nat), a ∈ F i) ∧ Yl K Z H G J ds) : Yl K Z H [] J ds := by
  obtain ⟨G, h, y⟩ := y
  exact fun Z2 H2 k => y Z2 H2 ⟨k.z, k.rd, k.ins, fun a o m => (by obtain ⟨_, z, _⟩ := h a m; cases z), k.tup⟩
theorem Yl.free {K : PySem.W.Frag} {Z : Addr → Prop} {H : Hp} {J : It} {ds : List D} {F : Fp} {B : List Nat} (y : Yl K Z H [] J ds) : ∃ G, (∀ a ∈ G, ∃ i ∈ B, a ∈ F i) ∧ Yl K Z H G J ds := ⟨[], by simp, y⟩
/-- behind some steps that touch none of the slots that are read -/
theorem Yl.at' {Z1 Z2 : Addr → Prop} {H H1 H2 : Hp} {F F1 F2 : Fp} {δ δ1 δ2 : En} {B t1 t2 : List Nat} {G : List Addr} (h : ∀ a ∈ G, ∃ i ∈ B, a ∈ F1 i) (tc1 : Tch t1 F δ H F1 δ1 H1) (tc2 : Tch t2 F δ H F2 δ2 H2)
    (n1 : ∀ i ∈ B, i ∉ t1) (n2 : ∀ i ∈ B, i ∉ t2) (k : Keep Z1 Z2 H1 H2 []) : Keep Z1 Z2 H1 H2 G := ⟨k.z, k.rd, k.ins, fun a o m e => by
    obtain ⟨i, hi, q⟩ := h a m
    rw [tc1.fp i (n1 i hi)] at q
    rw [tc2.at' i a (n2 i hi) q, ← tc1.at' i a (n1 i hi) q]
    exact e, k.tup⟩
variable {tg iter : Expr}
theorem wI {t t' : TI} (h : PI X tg iter t) (w : ∀ σ H R, t' σ H R → t σ H R) : PI X tg iter t' := ⟨fun pins s σ H R I q => h.run pins s σ H R I (w σ H R q)⟩
/-- a list or a tuple -/
def iSeq (K : PySem.W.Frag) (tl : TE) : TI := fun σ H R => tl σ H fun x H1 => ∃ a, x = .ref a ∧ (((∃ xs, SqL K H1 a xs) ∧ R (Itl K a) H1) ∨ ((∃ xs, SqT K H1 a xs) ∧ R (Itt K a) H1))
theorem pi_seq {l : Expr} {tl : TE} (hl : PE X l tl) : PI X tg l (iSeq X.K tl) := by
  refine ⟨fun pins s σ H R I h => ?_⟩
  refine thn (hl.run pins s σ H _ I h) fun v s1 ⟨x, H1, I1, r1, q1⟩ => ?_
  obtain ⟨a, e, ⟨⟨xs, hq⟩, q⟩ | ⟨⟨xs, hq⟩, q⟩⟩ := q1
  · subst e
    cases r1
    obtain ⟨its, rv, p, hz⟩ := I1.list hq
    refine wpAny_pyIter_list p.isList ?_
    refine ⟨s1.heap.objs.size, [s1.heap.objs.size], _, _, H1, rfl, I1.kept (t' := s1.toks) fun b o e => Heap.get?_push_of_some _ e, turn_list a _, ⟨_, Heap.get?_push_size _ rfl, rfl, rfl⟩, fun b hb => ?_, q⟩
    have e : b = s1.heap.objs.size := by simpa using hb
    subst e
    exact I1.fpOk (Nat.le_refl _) (I1.hok.fresh (Nat.le_refl _))
  · subst e
    cases r1
    obtain ⟨its, rv, p, hz⟩ := I1.tuple hq
    refine wpAny_pyIter_tuple (show s1.heap.IsTuple a its.toArray from p) ?_
    refine ⟨s1.heap.objs.size, [s1.heap.objs.size], _, _, H1, rfl, I1.kept (t' := s1.toks) fun b o e => Heap.get?_push_of_some _ e, turn_tuple a _, ⟨_, Heap.get?_push_size _ rfl, rfl, rfl⟩, fun b hb => ?_, q⟩
    have e : b = s1.heap.objs.size := by simpa using hb
    subst e
    exact I1.fpOk (Nat.le_refl _) (I1.hok.fresh (Nat.le_refl _))
def itemsD : D → Option (List D)
  | .lst _ ds => some (D.fzs ds)
  | .tup ds => some (D.fzs ds)
  | _ => none
def mitems (m : M D) : M (List D) := mbind m fun d => mopt (itemsD d)
theorem Yl.list {K : PySem.W.Frag} {Z : Addr → Prop} {H : Hp} {a : Addr} {vs : List V} {ds : List D} (z : Z a) (h : Rd H a (.lst vs)) (o : Owns K Z H ds [] vs) : Yl K Z H [] (Itl K a) ds := fun Z2 H2 k => by
  have h2 := k.rd a _ z h
  have o2 := o.keep k
  refine ⟨⟨vs, .inl h2, Nat.le_of_eq o.length.symm⟩, fun i d e => ?_⟩
  obtain ⟨v, G, q1, q2, q3⟩ := o2.get e
  rw [List.sublist_nil.mp q3] at q2
  refine ⟨⟨vs, v, .inl h2, q1⟩, fun x H3 y => gw_eq y.1 ?_⟩
  have := y.2 vs (.inl h2)
  rw [q1] at this
  cases this
  exact q2
theorem Yl.tup {K : PySem.W.Frag} {Z : Addr → Prop} {H : Hp} {a : Addr} {vs : List V} {ds : List D} (h : H a = some (.tup vs)) (o : Owns K Z H ds [] vs) : Yl K Z H [] (Itt K a) ds := fun Z2 H2 k => by
  have h2 := k.tup a _ h
  have o2 := o.keep k
  refine ⟨⟨vs, .of h2, Nat.le_of_eq o.length.symm⟩, fun i d e => ?_⟩
  obtain ⟨v, G, q1, q2, q3⟩ := o2.get e
  rw [List.sublist_nil.mp q3] at q2
  refine ⟨⟨vs, v, .of h2, q1⟩, fun x H3 y => gw_eq y.1 ?_⟩
  have := y.2 vs (.of h2)
  rw [q1] at this
  cases this
  exact q2
theorem di_seq {t : List Nat} {m : M D} (h : DE X iter t true m) : DI X [] tg iter t (mitems m) := wI (pi_seq h) fun σ H R ⟨Z, F, δ, ds, δ', r, e1, k⟩ => by
  unfold mitems at e1
  rw [mbind_some] at e1
  obtain ⟨d, δ1, e1, e2⟩ := e1
  rw [mopt_some] at e2
  obtain ⟨e2, rfl⟩ := e2
  refine ⟨Z, F, δ, d, δ', r, e1, fun v H1 Z1 F1 G r1 f1 tc o1 n => ?_⟩
  have n := n rfl
  have gh : ∀ a ∈ G, ∃ o, H1 a = some o := fun a m => mut_some (o1.here a m)
  have rz := r1.freeze n.fd gh
  have fz : Fr Z F H (fun a => Z1 a ∨ a ∈ G) F1 H1 := ⟨f1.out, f1.here, fun a z => .inl (f1.zup a z), fun a z => z.elim (f1.znew a) fun m => .inr (n.from' a m), f1.fnew⟩
  have oz : Own X.K (fun a => Z1 a ∨ a ∈ G) H1 d.fz [] v := o1.fz (fun _ z => .inl z) fun _ m => .inr m
  cases d <;> simp only [itemsD] at e2 <;> cases e2
  · simp only [D.fz, Own] at oz
    obtain ⟨a, vs, rfl, s, o⟩ := oz
    exact ⟨a, rfl, .inr ⟨⟨vs, .of s⟩, k _ H1 _ F1 rz fz tc (Yl.free (Yl.tup s o))⟩⟩
  · simp only [D.fz, Own] at oz
    obtain ⟨a, vs, rfl, s, _, o⟩ := oz
    exact ⟨a, rfl, .inl ⟨⟨vs, .inl s.2⟩, k _ H1 _ F1 rz fz tc (Yl.free (Yl.list s.1 s.2 o))⟩⟩
/-- a list that a slot holds, read as it stands -/
def mitemsB (i : Nat) : M (List D) := fun δ => match δ[i]? with
  | some (some (.lst _ ds)) => if D.isFzs ds = true then some (ds, δ) else none
  | _ => none
theorem di_own {i : Nat} (h : PE X iter (tVar i)) : DI X [i] tg iter [] (mitemsB i) := wI (pi_seq h) fun σ H R ⟨Z, F, δ, ds, δ', r, e1, k⟩ => by
  unfold mitemsB at e1
  split at e1
  case h_2 => cases e1
  rename_i o es h0
  split at e1
  case isFalse => cases e1
  rename_i hz
  cases e1
  obtain ⟨v, e2, ow⟩ := r.val i _ h0
  cases o with
  | false =>
    simp only [Own] at ow
    obtain ⟨a, vs, rfl, s, _, ow⟩ := ow
    exact ⟨.ref a, e2, a, rfl, .inl ⟨⟨vs, .inl s.2⟩, k _ H Z F r Fr.refl Tch.refl (Yl.free (Yl.list s.1 s.2 ow))⟩⟩
  | true =>
    simp only [Own] at ow
    obtain ⟨a, vs, G0, rfl, s, eF, ow⟩ := ow
    have := Owns.nil hz ow
    subst this
    refine ⟨.ref a, e2, a, rfl, .inl ⟨⟨vs, .inl (.inl s)⟩, k _ H Z F r Fr.refl Tch.refl ⟨[a], fun b m => ⟨i, by simp, by rw [eF]; exact m⟩, fun Z2 H2 kk => ?_⟩⟩⟩
    have h2 := kk.own a _ (by simp) s
    have o2 := ow.keep (kk.sub (by simp))
    refine ⟨⟨vs, .inl (.inl h2), Nat.le_of_eq ow.length.symm⟩, fun j d e => ?_⟩
    obtain ⟨v, G, q1, q2, q3⟩ := o2.get e
    rw [List.sublist_nil.mp q3] at q2
    refine ⟨⟨vs, v, .inl (.inl h2), q1⟩, fun x H3 y => gw_eq y.1 ?_⟩
    have := y.2 vs (.inl (.inl h2))
    rw [q1] at this
    cases this
    exact q2
/-- ranges -/
def rgD (lo : Int) (n : Nat) : List D := (List.range n).map fun i => D.int (lo + (i : Nat))
theorem rgD_get {lo : Int} {n i : Nat} {d : D} (h : (rgD lo n)[i]? = some d) : i < n ∧ d = .int (lo + (i : Nat)) := by
  unfold rgD at h
  rw [List.getElem?_map, Option.map_eq_some_iff] at h
  obtain ⟨j, e, rfl⟩ := h
  obtain ⟨h, e⟩ := List.getElem?_eq_some_iff.mp e
  rw [List.getElem_range] at e
  subst e
  exact ⟨by simpa using h, rfl⟩
theorem Yl.rng {K : PySem.W.Frag} {Z : Addr → Prop} {H : Hp} {lo : Int} {n : Nat} : Yl K Z H [] (Itr lo n) (rgD lo n) := fun Z2 H2 k => by
  refine ⟨by unfold rgD; simp [Itr], fun i d e => ?_⟩
  obtain ⟨hi, rfl⟩ := rgD_get e
  exact ⟨hi, fun x H3 y => gw_eq y.1 (by rw [y.2]; simp [Own])⟩
/-- said so that no one counts up to it -/
def in62 (j : Int) : Bool := Nat.ble j.toNat 4611686018427387903 && Nat.ble (-j).toNat 4611686018427387904
theorem in62_iff (j : Int) : in62 j = true ↔ -(2 ^ 62) ≤ j ∧ j < 2 ^ 62 := by
  unfold in62
  rw [Bool.and_eq_true, Nat.ble_eq, Nat.ble_eq]
  omega
def range1D : D → Option (List D)
  | .int j => if in62 j = true then some (rgD 0 j.toNat) else none
  | _ => none
def range2D : D → D → Option (List D)
  | .int i, .int j => if in62 i = true ∧ in62 j = true then some (rgD i (j - i).toNat) else none
  | _, _ => none
theorem di_range1 {a : Expr} {p : Pos} {t : List Nat} {fr : Bool} {m : M D} (hg : Gl X "range") (hm : X.mg "range" = none) (ha : DE X a t fr m) (he : starEach [a] X.env = (false, eval a X.env) :: starEach [] X.env := by rfl) (hs : starEach [a] X.env = [(false, eval a X.env)] := by rfl) :
    DI X [] tg (.Call (.Name "range" p) [a] [] pos) t (mbind m fun d => mopt (range1D d)) := wI (pi_range1 hg hm (pa_cons ha pa_nil he) hs) fun σ H R ⟨Z, F, δ, ds, δ', r, e1, k⟩ => by
  rw [mbind_some] at e1
  obtain ⟨d, δ1, e1, e2⟩ := e1
  rw [mopt_some] at e2
  obtain ⟨e2, rfl⟩ := e2
  refine ⟨Z, F, δ, d, δ', r, e1, fun v H1 Z1 F1 G r1 f1 tc o1 n => ?_⟩
  cases d <;> simp only [range1D] at e2 <;> try cases e2
  split at e2
  · rename_i hj
    cases e2
    have hj := (in62_iff _).mp hj
    exact ⟨_, by rw [(own_int o1).1], hj.1, hj.2, k _ H1 Z1 F1 r1 f1 tc (Yl.free Yl.rng)⟩
  · cases e2
theorem di_range2 {a b : Expr} {p : Pos} {t1 t2 : List Nat} {fr1 fr2 : Bool} {m1 m2 : M D} (hg : Gl X "range") (hm : X.mg "range" = none) (ha : DE X a t1 fr1 m1) (hb : DE X b t2 fr2 m2) (he : starEach [a, b] X.env = (false, eval a X.env) :: starEach [b] X.env := by rfl) (he2 : starEach [b] X.env = (false, eval b X.env) :: starEach [] X.env := by rfl)
    (hs : starEach [a, b] X.env = [(false, eval a X.env), (false, eval b X.env)] := by rfl) (hs2 : starEach [b] X.env = [(false, eval b X.env)] := by rfl) :
    DI X [] tg (.Call (.Name "range" p) [a, b] [] pos) (t1 ++ t2) (mbind m1 fun d => mbind m2 fun e => mopt (range2D d e)) := wI (pi_range2 hg hm (pa_cons ha (pa_cons hb pa_nil he2) he) hs hs2) fun σ H R ⟨Z, F, δ, ds, δ', r, e1, k⟩ => by
  rw [mbind_some] at e1
  obtain ⟨d, δ1, e1, e2⟩ := e1
  rw [mbind_some] at e2
  obtain ⟨e, δ2, e2, e3⟩ := e2
  rw [mopt_some] at e3
  obtain ⟨e3, rfl⟩ := e3
  refine ⟨Z, F, δ, d, δ1, r, e1, fun v H1 Z1 F1 G r1 f1 tc o1 n => ⟨Z1, F1, δ1, e, δ', r1, e2, fun w H2 Z2 F2 G2 r2 f2 tc2 o2 n2 => ?_⟩⟩
  unfold range2D at e3
  split at e3
  · split at e3
    · rename_i hj
      cases e3
      have h1 := (in62_iff _).mp hj.1
      have h2 := (in62_iff _).mp hj.2
      exact ⟨_, _, by rw [(own_int o1).1, (own_int o2).1], ⟨h1.1, h1.2, h2.1, h2.2⟩, k _ H2 Z2 F2 r2 (f1.trans f2) (tc.trans tc2) (Yl.free Yl.rng)⟩
    · cases e3
  · cases e3

/-! ### for -/
def mforL (g : Tg) (b : MS) : List D → MS
  | [] => fun δ => some (.nx, δ)
  | d :: ds => fun δ => match g d δ with
    | some δ1 => (match b δ1 with
      | some (.nx, δ2) => mforL g b ds δ2
      | some (.ct, δ2) => mforL g b ds δ2
      | some (.bk, δ2) => some (.nx, δ2)
      | some (.rt d, δ2) => some (.rt d, δ2)
      | some (.ex c n d, δ2) => some (.ex c n d, δ2)
      | none => none)
    | none => none
def mfor (m : M (List D)) (g : Tg) (b : MS) : MS := fun δ => match m δ with
  | some (ds, δ1) => mforL g b ds δ1
  | none => none
theorem ds_for {body : List Stmt} {t ts : List Nat} {m : M (List D)} {g : Tg} {mb : MS} (hp : PassesOwn (model X.prog X.w) X.A X.env X.xe) (hc : X.calm = true) (hi : DI X [] tg iter t m) (hg : DG X pn ts tg g) (hb : DSs X pn body mb)
    (hs : ∀ x, foldedSetIterable iter X.env x = pure x := by intro _; rfl) : DS X pn (.For tg iter body [] pos) (mfor m g mb) := wS (ps_for hp hc hi hg hb hs) fun D σ H ⟨Z, F, δ, fl, δ', r, e1, k⟩ => by
  unfold mfor at e1
  split at e1
  case h_2 => cases e1
  rename_i ds δ1 q1
  refine ⟨Z, F, δ, ds, δ1, r, q1, fun J H1 Z1 F1 r1 f1 tc y => ?_⟩
  have y := Yl.none y
  refine ⟨fun i m σ2 H2 => m = ds.length - i ∧ i ≤ ds.length ∧ ∃ Z2 F2 δ2, Rel X.K Z2 F2 δ2 σ2 H2 ∧ Keep Z1 Z2 H1 H2 [] ∧ mforL g mb (ds.drop i) δ2 = some (fl, δ') ∧ Fr Z F H Z2 F2 H2 ∧ ∀ i ∈ pn, σ2[i]? = σ[i]?, ⟨ds.length, rfl, Nat.zero_le _, Z1, F1, δ1, r1, Keep.refl, e1, f1, fun _ _ => rfl⟩, ?_⟩
  rintro i m σ2 H2 ⟨rfl, hi, Z2, F2, δ2, r2, k2, e2, f2, p2⟩
  obtain ⟨ys, yi⟩ := y Z2 H2 k2
  by_cases hlt : i < ds.length
  · have hd : ds[i]? = some ds[i] := by simp [hlt]
    obtain ⟨yg, yx⟩ := yi i _ hd
    rw [List.drop_eq_getElem_cons hlt] at e2
    unfold mforL at e2
    split at e2
    case h_2 => cases e2
    rename_i δ3 q3
    refine .inr ⟨yg, _, fun σ' H' q => ⟨ds.length - (i + 1), by omega, q⟩, fun x H3 hy => ?_⟩
    obtain ⟨gw, ox⟩ := yx x H3 hy
    have k2 := k2.trans ((gw.fr (Z := Z2) (F := F2)).keep r2 (by simp))
    have f2 := f2.trans gw.fr
    have r2 := gw.rel r2
    refine ⟨Z2, F2, δ2, ds[i], [], δ3, r2, ox, List.nodup_nil, by simp, q3, fun σ3 F3 r3 h3 p3 _ => ?_⟩
    have f3 : Fr Z F H Z2 F3 H3 := ⟨f2.out, f2.here, f2.zup, f2.znew, fun j a m => by
      rcases h3 j a m with z | ⟨l, z⟩
      · cases z
      · exact f2.fnew l a z⟩
    have again : ∀ δ4, mforL g mb (ds.drop (i + 1)) δ4 = some (fl, δ') → ∀ σ4 H4 Z4 F4, Rel X.K Z4 F4 δ4 σ4 H4 → Fr Z2 F3 H3 Z4 F4 H4 → (∀ i ∈ pn, σ4[i]? = σ3[i]?) →
        ds.length - (i + 1) = ds.length - (i + 1) ∧ i + 1 ≤ ds.length ∧ ∃ Z2 F2 δ2, Rel X.K Z2 F2 δ2 σ4 H4 ∧ Keep Z1 Z2 H1 H4 [] ∧ mforL g mb (ds.drop (i + 1)) δ2 = some (fl, δ') ∧ Fr Z F H Z2 F2 H4 ∧ ∀ i ∈ pn, σ4[i]? = σ[i]? := fun δ4 q4 σ4 H4 Z4 F4 r4 f4 p4 =>
      ⟨rfl, hlt, Z4, F4, δ4, r4, k2.trans (f4.keep r3 (by simp)), q4, f3.trans f4, fun i m => (p4 i m).trans ((p3 i m).trans (p2 i m))⟩
    split at e2
    · rename_i δ4 q4
      exact ⟨Z2, F3, δ3, .nx, δ4, r3, q4, fun σ4 H4 Z4 F4 r4 f4 p4 => again δ4 e2 σ4 H4 Z4 F4 r4 f4 p4⟩
    · rename_i δ4 q4
      exact ⟨Z2, F3, δ3, .ct, δ4, r3, q4, fun σ4 H4 Z4 F4 r4 f4 p4 => again δ4 e2 σ4 H4 Z4 F4 r4 f4 p4⟩
    · rename_i δ4 q4
      cases e2
      exact ⟨Z2, F3, δ3, .bk, δ', r3, q4, fun σ4 H4 Z4 F4 r4 f4 p4 => k σ4 H4 Z4 F4 r4 (f3.trans f4) fun i m => (p4 i m).trans ((p3 i m).trans (p2 i m))⟩
    · rename_i d δ4 q4
      cases e2
      exact ⟨Z2, F3, δ3, .rt d, δ', r3, q4, fun σ4 H4 Z4 F4 r4 f4 p4 v G o n => k σ4 H4 Z4 F4 r4 (f3.trans f4) (fun i m => (p4 i m).trans ((p3 i m).trans (p2 i m))) v G o (n.back f3)⟩
    · rename_i c n d δ4 q4
      cases e2
      exact ⟨Z2, F3, δ3, .ex c n d, δ', r3, q4, fun σ4 H4 Z4 F4 r4 f4 p4 => k σ4 H4 Z4 F4 r4 (f3.trans f4) fun i m => (p4 i m).trans ((p3 i m).trans (p2 i m))⟩
    · cases e2
  · have e : i = ds.length := by omega
    subst e
    rw [List.drop_length] at e2
    cases e2
    exact .inl ⟨ys, k σ2 H2 Z2 F2 r2 f2 p2⟩
end
end TL
set_option Elab.async false
set_option linter.all false
set_option maxRecDepth 100000
set_option maxHeartbeats 4000000
/-! T7: list comprehensions. -/
namespace TL
open PySem PySem.Spec L2

/-- the loop of a comprehension: the block's own slots are forgotten each turn -/
def mlcL (vs : List Nat) (g : Tg) (c : M Bool) (e : M D) : List D → List D → M (List D)
  | [], acc => fun δ => some (acc, δ)
  | d :: ds, acc => fun δ => match g d δ with
    | some δ1 => (match c δ1 with
      | some (true, δ2) => (match e δ2 with
        | some (y, δ3) => if acc.length < sizeLine then mlcL vs g c e ds (acc ++ [y]) (En.kill vs δ3) else none
        | none => none)
      | some (false, δ2) => mlcL vs g c e ds acc (En.kill vs δ2)
      | none => none)
    | none => none
def mlc (m : M (List D)) (vs : List Nat) (g : Tg) (c : M Bool) (e : M D) : M D := mbind m fun ds δ => (mlcL vs g c e ds [] (En.kill vs δ)).map fun p => (.lst true p.1, p.2)
/-- a write outside of the frame's things -/
theorem keep_upd {Z : Addr → Prop} {H : Hp} {a : Addr} {o : HO} {G : List Addr} (h : Mut (H a)) (z : ¬ Z a) (g : a ∉ G) : Keep Z Z H (upd H a o) G where
  z := fun _ z => z
  rd := fun b u zb hb => by
    have : b ≠ a := fun e => z (e ▸ zb)
    unfold Rd
    rw [upd_ne this]
    exact hb
  ins := fun b C dx fs zb hb => by rw [upd_ne (show b ≠ a from fun e => z (e ▸ zb))]; exact hb
  own := fun b u m hb => by rw [upd_ne (show b ≠ a from fun e => g (e ▸ m))]; exact hb
  tup := fun b ys hb => by rw [upd_ne (show b ≠ a from fun e => by subst e; rw [hb] at h; exact h)]; exact hb
theorem Rel.writeOut {K : PySem.W.Frag} {Z : Addr → Prop} {F : Fp} {δ : En} {σ : St} {H : Hp} {a : Addr} {o : HO} (r : Rel K Z F δ σ H) (h : Mut (H a)) (z : ¬ Z a) (g : ∀ i, a ∉ F i) : Rel K Z F δ σ (upd H a o) where
  val := fun i d e => by
    obtain ⟨v, e1, q⟩ := r.val i d e
    exact ⟨v, e1, q.keep (keep_upd h z (g i))⟩
  emp := r.emp
  nd := r.nd
  dis := r.dis
  zd := r.zd
  zh := fun b zb => by
    obtain ⟨u, e⟩ := r.zh b zb
    exact ⟨u, by rw [upd_ne (show b ≠ a from fun e => z (e ▸ zb))]; exact e⟩
  len := r.len
section
variable {X : Cx} {pos : Pos}
theorem wipe_none : ∀ (vs : List Nat) (σ : St) (i : Nat), i ∈ vs → i < σ.length → (wipe σ vs)[i]? = some none
  | v :: vs, σ, i, m, h => by
    unfold wipe
    by_cases c : v = i
    · subst c
      rw [List.getElem?_set_self (by rw [wipe_length]; exact h)]
    · rw [List.getElem?_set_ne c]
      rcases List.mem_cons.mp m with e | m
      · exact (c e.symm).elim
      · exact wipe_none vs σ i m h
theorem kill_len : ∀ (vs : List Nat) (δ : En), (En.kill vs δ).length = δ.length
  | [], δ => rfl
  | v :: vs, δ => by
    show (En.kill vs (δ.set v none)).length = δ.length
    rw [kill_len vs, List.length_set]
theorem kill_out : ∀ (vs : List Nat) (δ : En) (i : Nat), i ∉ vs → (En.kill vs δ)[i]? = δ[i]?
  | [], δ, i, _ => rfl
  | v :: vs, δ, i, n => by
    show (En.kill vs (δ.set v none))[i]? = δ[i]?
    rw [kill_out vs _ i fun m => n (List.mem_cons_of_mem _ m), List.getElem?_set_ne fun e => n (by simp [e])]
theorem kill_in : ∀ (vs : List Nat) (δ : En) (i : Nat) (d : D), i ∈ vs → (En.kill vs δ)[i]? ≠ some (some d)
  | v :: vs, δ, i, d, m => by
    show (En.kill vs (δ.set v none))[i]? ≠ _
    by_cases c : i ∈ vs
    · exact kill_in vs _ i d c
    · rw [kill_out vs _ i c]
      rcases List.mem_cons.mp m with e | m
      · subst e
        by_cases h : i < δ.length
        · rw [List.getElem?_set_self h]
          intro e; cases e
        · rw [List.getElem?_eq_none (by simpa using h)]
          intro e; cases e
      · exact (c m).elim
/-- the forgotten slots' values do not matter -/
theorem Rel.wiped {K : PySem.W.Frag} {Z : Addr → Prop} {F : Fp} {δ : En} {σ : St} {H : Hp} {vs : List Nat} (r : Rel K Z F δ σ H) (h : ∀ i ∈ vs, ∀ d, δ[i]? ≠ some (some d)) : Rel K Z F δ (wipe σ vs) H :=
  ⟨fun i d e => by
    have : i ∉ vs := fun m => h i m d e
    rw [wipe_out this]
    exact r.val i d e, r.emp, r.nd, r.dis, r.zd, r.zh, by rw [wipe_length]; exact r.len⟩
theorem Rel.unwiped {K : PySem.W.Frag} {Z : Addr → Prop} {F : Fp} {δ : En} {σ : St} {H : Hp} {vs : List Nat} (r : Rel K Z F δ (wipe σ vs) H) : Rel K Z F δ σ H :=
  ⟨fun i d e => by
    obtain ⟨v, e1, o⟩ := r.val i d e
    exact ⟨v, (wipe_some e1).1, o⟩, r.emp, r.nd, r.dis, r.zd, r.zh, by rw [r.len, wipe_length]⟩
/-- the slots outside vs are kept: the wiped frame is kept -/
theorem wipe_of {σ σ2 : St} {vs pn : List Nat} (hl : σ2.length = σ.length) (h : ∀ i ∈ pn, σ2[i]? = (wipe σ vs)[i]?) (hp : ∀ i, i < σ.length → i ∈ vs ∨ i ∈ pn) : wipe σ2 vs = wipe σ vs := by
  refine List.ext_getElem? fun i => ?_
  by_cases hi : i < σ.length
  · by_cases m : i ∈ vs
    · rw [wipe_none vs σ2 i m (by omega), wipe_none vs σ i m hi]
    · rcases hp i hi with z | z
      · exact (m z).elim
      · rw [wipe_out m, h i z]
  · rw [List.getElem?_eq_none (by rw [wipe_length]; omega), List.getElem?_eq_none (by rw [wipe_length]; omega)]
abbrev DTs (X : Cx) (ifs : List Expr) (t : List Nat) (m : M Bool) : Prop := PTs X ifs (tGt X.K t m)
theorem dts_nil : DTs X [] [] (mk true) := ⟨fun pins s σ H Q I ⟨Z, F, δ, b, δ', r, e1, k⟩ => by
  rw [mk_some] at e1
  obtain ⟨rfl, rfl⟩ := e1
  exact pts_nil.run pins s σ H Q I (k H Z F r Fr.refl Tch.refl)⟩
theorem dts_one {c : Expr} {t : List Nat} {m : M Bool} (h : DT X c t m) : DTs X [c] t m := pts_one h
/-- what a comprehension's turn may touch: what its parts touch, and its own slots -/
theorem Tch.widen {t t2 : List Nat} {F F1 : Fp} {δ δ1 : En} {H H1 : Hp} (a : Tch t F δ H F1 δ1 H1) (h : ∀ i ∈ t, i ∈ t2) : Tch t2 F δ H F1 δ1 H1 := a.mono h
theorem Tch.join {t : List Nat} {F F1 F2 : Fp} {δ δ1 δ2 : En} {H H1 H2 : Hp} (a : Tch t F δ H F1 δ1 H1) (b : Tch t F1 δ1 H1 F2 δ2 H2) : Tch t F δ H F2 δ2 H2 :=
  (a.trans b).mono fun i m => (List.mem_append.mp m).elim id id
theorem Tch.kill {K : PySem.W.Frag} {Z : Addr → Prop} {σ : St} {H : Hp} : ∀ (ks : List Nat) {F : Fp} {δ : En}, Rel K Z F δ σ H → ∃ F', Rel K Z F' (En.kill ks δ) σ H ∧ (∀ i a, a ∈ F' i → a ∈ F i) ∧ Tch ks F δ H F' (En.kill ks δ) H
  | [], F, δ, r => ⟨F, r, fun _ _ m => m, Tch.refl⟩
  | k :: ks, F, δ, r => by
    obtain ⟨F', r', h, tc⟩ := Tch.kill ks (r.kill1 k)
    refine ⟨F', r', fun i a m => ?_, ⟨by rw [kill_len], fun i n => kill_out _ _ _ n, fun i n => ?_, fun _ _ _ _ => rfl⟩⟩
    · have := h i a m
      by_cases e : i = k
      · simp only [if_pos e] at this; cases this
      · simp only [if_neg e] at this; exact this
    · rw [tc.fp i fun m => n (List.mem_cons_of_mem _ m)]
      simp only [if_neg (show ¬ i = k from fun e => n (by simp [e]))]
theorem lc_rd {B tm tc te ts : List Nat} {pn vs : List Nat} {m : M (List D)} {g : Tg} {mc : M Bool} {me : M D} {n : Nat} (hn : ∀ i, i < n → i ∈ vs ∨ i ∈ pn) (hts : ∀ i ∈ ts, i ∈ vs) (hB : ∀ i ∈ B, i ∉ tm ++ (vs ++ (tc ++ te))) :
    ∀ σ H Q, σ.length = n → tG X.K (tm ++ (vs ++ (tc ++ te))) true (mlc m vs g mc me) σ H Q → tLc (tGi X.K B tm m) (tGg X.K pn ts g) (tGt X.K tc mc) (tG X.K te true me) vs σ H Q := fun σ H Q hσ ⟨Z, F, δ, d, δ', r, e1, k⟩ => by
  unfold mlc at e1
  rw [mbind_some] at e1
  obtain ⟨ds, δ1, e1, e2⟩ := e1
  rw [Option.map_eq_some_iff] at e2
  obtain ⟨⟨accf, δf⟩, e2, e3⟩ := e2
  obtain ⟨rfl, rfl⟩ := Prod.mk.inj e3
  refine ⟨Z, F, δ, ds, δ1, r, e1, fun J H1 Z1 F1 r1 f1 tc1 ⟨GB, hGB, y⟩ D hD => ?_⟩
  have hDn : H D = none := by
    cases e : H D with
    | none => rfl
    | some o =>
      obtain ⟨o', h'⟩ := f1.here D o e
      rw [hD] at h'; cases h'
  have tv : ∀ i ∈ vs, i ∈ tm ++ (vs ++ (tc ++ te)) := fun i m => List.mem_append_right _ (List.mem_append_left _ m)
  have tcc : ∀ i ∈ tc, i ∈ tm ++ (vs ++ (tc ++ te)) := fun i m => List.mem_append_right _ (List.mem_append_right _ (List.mem_append_left _ m))
  have tee : ∀ i ∈ te, i ∈ tm ++ (vs ++ (tc ++ te)) := fun i m => List.mem_append_right _ (List.mem_append_right _ (List.mem_append_right _ m))
  have killed : ∀ (δ : En) i, i ∈ vs → ∀ d, (En.kill vs δ)[i]? ≠ some (some d) := fun δ i m d => kill_in vs δ i d m
  refine ⟨fun i l H2 => l = ds.length - i ∧ i ≤ ds.length ∧ ∃ Z2 F2 δ2 acc vacc G, Rel X.K Z2 F2 δ2 σ H2 ∧ (∀ i ∈ vs, ∀ d, δ2[i]? ≠ some (some d)) ∧ Keep Z1 Z2 H1 H2 [] ∧ mlcL vs g mc me (ds.drop i) acc δ2 = some (accf, δf) ∧ Fr Z F H Z2 F2 H2 ∧ Tch (tm ++ (vs ++ (tc ++ te))) F δ H F2 δ2 H2 ∧
    H2 D = some (.lst vacc) ∧ Owns X.K Z2 H2 acc G vacc ∧ New F H Z2 F2 (D :: G), ⟨ds.length, rfl, Nat.zero_le _, ?_⟩, ?_⟩
  · obtain ⟨Fk, rk, hk, tk⟩ := Tch.kill vs r1
    have n1 := (New.one r1 hD).back f1
    refine ⟨Z1, Fk, En.kill vs δ1, [], [], [], rk.new hD, killed δ1, same_keep (same_upd hD) (fun _ z => z) _, e2, ?_, ?_, upd_same, by simp [Owns], ⟨n1.nd, n1.zd, fun a m i mi => n1.fd a m i (hk i a mi), n1.from'⟩⟩
    · exact Fr.trans ⟨f1.out, f1.here, f1.zup, f1.znew, fun i a m => f1.fnew i a (hk i a m)⟩ (Fr.new hD)
    · exact ((tc1.mono fun i m => List.mem_append_left _ m).join (tk.mono tv)).more r (same_upd hD)
  rintro i l H2 ⟨rfl, hi, Z2, F2, δ2, acc, vacc, G, r2, nv2, k2, e2, f2, t2, hD2, o2, n2⟩
  obtain ⟨ys, yi⟩ := y Z2 H2 (Yl.at' hGB tc1 t2 (fun i m q => hB i m (List.mem_append_left _ q)) hB k2)
  by_cases hlt : i < ds.length
  · have hd : ds[i]? = some ds[i] := by simp [hlt]
    obtain ⟨yg, yx⟩ := yi i _ hd
    rw [List.drop_eq_getElem_cons hlt] at e2
    unfold mlcL at e2
    split at e2
    case h_2 => cases e2
    rename_i δ3 q3
    refine .inr ⟨yg, _, fun H' q => ⟨ds.length - (i + 1), by omega, q⟩, fun x H3 hy => ?_⟩
    obtain ⟨gw, ox⟩ := yx x H3 hy
    have k2 := k2.trans ((gw.fr (Z := Z2) (F := F2)).keep r2 (by simp))
    have f2 := f2.trans gw.fr
    have t2 := t2.join ((gw.tch r2).mono (by simp))
    have o2' := o2
    have n2' := n2
    have o2 := o2.keep ((gw.fr (Z := Z2) (F := F2)).keep r2 fun a m => n2.fd a (List.mem_cons_of_mem _ m))
    have n2 := New.stay gw.fr (fun a m => by
      rcases List.mem_cons.mp m with rfl | m
      · exact ⟨_, hD2⟩
      · exact mut_some (o2'.here a m)) n2
    have hD2 := (gw.fr (Z := Z2) (F := F2)).out D _ hD2 (n2'.fd D (by simp))
    have r2 := gw.rel r2
    refine ⟨Z2, F2, δ2, ds[i], [], δ3, r2.wiped nv2, ox, List.nodup_nil, by simp, q3, fun σ3 F3 r3 h3 p3 t3 => ?_⟩
    have hσ3 : σ3.length = σ.length := by rw [← r3.len, t3.len, r2.len]
    have hw : wipe σ3 vs = wipe σ vs := wipe_of hσ3 p3 (by rw [hσ]; exact hn)
    refine ⟨hw, ?_⟩
    have f23 : Fr Z2 F2 H3 Z2 F3 H3 := ⟨fun a o h _ => h, fun a o h => ⟨o, h⟩, fun a z => z, fun a z => .inl z, fun j a m => by
      rcases h3 j a m with z | z
      · cases z
      · exact .inr z⟩
    -- behind a turn
    have back : ∀ Z5 F5 δ5 H5, Rel X.K Z5 F5 δ5 σ3 H5 → Fr Z2 F2 H3 Z5 F5 H5 → ∃ F6, Rel X.K Z5 F6 (En.kill vs δ5) σ H5 ∧ Fr Z2 F2 H3 Z5 F6 H5 ∧ (∀ i a, a ∈ F6 i → a ∈ F5 i) ∧ Tch vs F5 δ5 H5 F6 (En.kill vs δ5) H5 := fun Z5 F5 δ5 H5 r5 f5 => by
      obtain ⟨F6, r6, h6, t6⟩ := Tch.kill vs r5
      have r7 := r6.wiped (killed δ5)
      rw [hw] at r7
      exact ⟨F6, r7.unwiped, ⟨f5.out, f5.here, f5.zup, f5.znew, fun j a m => f5.fnew j a (h6 j a m)⟩, h6, t6⟩
    split at e2
    · rename_i δ4 q4
      split at e2
      case h_2 => cases e2
      rename_i yd δ5 q5
      split at e2
      case isFalse => cases e2
      rename_i hz
      refine ⟨Z2, F3, δ3, true, δ4, r3, q4, fun H4 Z4 F4 r4 f4 t4 => iteT ⟨Z4, F4, δ4, yd, δ5, r4, q5, fun yv H5 Z5 F5 Gy r5 f5 t5 o5 n5 => ?_⟩⟩
      have n5 := n5 rfl
      have f25 : Fr Z2 F2 H3 Z5 F5 H5 := (f23.trans f4).trans f5
      have nD : ∀ i, D ∉ F2 i := n2.fd D (by simp)
      have hD5 : H5 D = some (.lst vacc) := f25.out D _ hD2 nD
      have f24 : Fr Z2 F2 H3 Z4 F4 H4 := f23.trans f4
      have hD4 : H4 D = some (.lst vacc) := f24.out D _ hD2 nD
      have nD4 : ∀ i, D ∉ F4 i := fun i m => by
        rcases f24.fnew i D m with z | ⟨j, z⟩
        · rw [hD2] at z; cases z
        · exact nD j z
      have nDy : D ∉ Gy := fun m => by
        rcases n5.from' D m with z | ⟨j, z⟩
        · rw [hD4] at z; cases z
        · exact nD4 j z
      obtain ⟨F6, r6, f26, h6, t6⟩ := back Z5 F5 δ5 H5 r5 f25
      have zD5 : ¬ Z5 D := fun z => by
        rcases f25.znew D z with z | z | ⟨j, z⟩
        · exact n2.zd D (by simp) z
        · rw [hD2] at z; cases z
        · exact nD j z
      have nD6 : ∀ i, D ∉ F6 i := fun i m => by
        rcases f26.fnew i D m with z | ⟨j, z⟩
        · rw [hD2] at z; cases z
        · exact nD j z
      have nDG : D ∉ G := (List.nodup_cons.mp n2.nd).1
      have mD5 : Mut (H5 D) := by rw [hD5]; trivial
      refine ⟨vacc, hD5, by rw [← o2.length]; exact hz, rfl, hlt, Z5, F6, En.kill vs δ5, acc ++ [yd], vacc ++ [yv], G ++ Gy, r6.writeOut mD5 zD5 nD6, killed δ5, ?_, e2, ?_, ?_, upd_same, ?_, ?_⟩
      · exact (k2.trans (f25.keep r2 (by simp))).trans (keep_upd mD5 zD5 (by simp))
      · have g := f2.trans f26
        refine ⟨fun a o h q => ?_, fun a o h => ?_, g.zup, g.znew, g.fnew⟩
        · rw [upd_ne (show a ≠ D from fun e => by subst e; rw [hDn] at h; cases h)]
          exact g.out a o h q
        · rw [upd_ne (show a ≠ D from fun e => by subst e; rw [hDn] at h; cases h)]
          exact g.here a o h
      · have t25 : Tch (tm ++ (vs ++ (tc ++ te))) F2 δ2 H3 F6 (En.kill vs δ5) H5 := (((t3.mono fun i m => tv i (hts i m)).join (t4.mono tcc)).join (t5.mono tee)).join (t6.mono tv)
        have t := t2.join t25
        refine ⟨t.len, t.en, t.fp, fun j a q m => ?_⟩
        rw [upd_ne (show a ≠ D from fun e => by subst e; exact r.ne_new hDn j m)]
        exact t.at' j a q m
      · have ok := o2.keep (f25.keep r2 fun a m => n2.fd a (List.mem_cons_of_mem _ m))
        refine (ok.keep (keep_upd mD5 zD5 nDG)).append (Owns.one (o5.keep (keep_upd mD5 zD5 nDy)))
      · have nn := New.app r2 f2 f25 (fun a m => by
          rcases List.mem_cons.mp m with rfl | m
          · exact ⟨_, hD2⟩
          · exact mut_some (o2.here a m)) n2 (n5.back f24)
        exact ⟨nn.nd, nn.zd, fun a m i mi => nn.fd a m i (h6 i a mi), nn.from'⟩
    · rename_i δ4 q4
      refine ⟨Z2, F3, δ3, false, δ4, r3, q4, fun H4 Z4 F4 r4 f4 t4 => iteF ?_⟩
      have f24 : Fr Z2 F2 H3 Z4 F4 H4 := f23.trans f4
      have nD : ∀ i, D ∉ F2 i := n2.fd D (by simp)
      obtain ⟨F6, r6, f26, h6, t6⟩ := back Z4 F4 δ4 H4 r4 f24
      refine ⟨rfl, hlt, Z4, F6, En.kill vs δ4, acc, vacc, G, r6, killed δ4, k2.trans (f24.keep r2 (by simp)), e2, f2.trans f26, ?_, f24.out D _ hD2 nD, o2.keep (f24.keep r2 fun a m => n2.fd a (List.mem_cons_of_mem _ m)), ?_⟩
      · exact t2.join (((t3.mono fun i m => tv i (hts i m)).join (t4.mono tcc)).join (t6.mono tv))
      · exact New.stay f26 (fun a m => by
          rcases List.mem_cons.mp m with rfl | m
          · exact ⟨_, hD2⟩
          · exact mut_some (o2.here a m)) n2
    · cases e2
  · have e : i = ds.length := by omega
    subst e
    rw [List.drop_length] at e2
    cases e2
    refine .inl ⟨ys, k (.ref D) H2 Z2 F2 (D :: G) r2 f2 t2 ?_ fun _ => n2⟩
    simp only [Own]
    exact ⟨D, vacc, G, rfl, hD2, rfl, o2⟩
theorem de_lc {elt tg iter : Expr} {ifs : List Expr} {scope : Scope} {own : List (Str × Nat)} {vs : List Nat} {B pn tm tc te ts : List Nat} {m : M (List D)} {g : Tg} {mc : M Bool} {me : M D} (hc : X.calm = true) (hN : X.N.Nodup) (hi : DI X B tg iter tm m) (ok : BlkOk X.N X.env.scope scope own) (hvs : own.map (·.2) = vs)
    (hg : ∀ (s : Shared) (H : Hp) (C : Addr) (cl : List (Str × Addr)) (fp : List Addr), DG (X.blk s H scope (compEnvC scope cl C X.env) fp) pn ts tg g) (ht : ∀ (s : Shared) (H : Hp) (C : Addr) (cl : List (Str × Addr)) (fp : List Addr), DTs (X.blk s H scope (compEnvC scope cl C X.env) fp) ifs tc mc)
    (he : ∀ (s : Shared) (H : Hp) (C : Addr) (cl : List (Str × Addr)) (fp : List Addr), DE (X.blk s H scope (compEnvC scope cl C X.env) fp) elt te true me)
    (hn : ((List.range X.N.length).all fun i => vs.contains i || pn.contains i) = true := by rfl) (hts : (ts.all fun i => vs.contains i) = true := by rfl) (hB : (B.all fun i => !(tm ++ (vs ++ (tc ++ te))).contains i) = true := by rfl) (hs : ∀ x, foldedSetIterable iter X.env x = pure x := by intro _; rfl) :
    DE X (.ListComp elt [⟨tg, iter, ifs, 0⟩] scope pos) (tm ++ (vs ++ (tc ++ te))) true (mlc m vs g mc me) := by
  subst hvs
  exact ⟨fun pins s σ H Q I h =>
  (pe_lc hc hN hi ok hg ht he hs).run pins s σ H Q I (lc_rd (n := X.N.length) (fun i hi => by
    have := List.all_eq_true.mp hn i (List.mem_range.mpr hi)
    rw [Bool.or_eq_true] at this
    exact this.imp (fun h => List.contains_iff_mem.mp h) fun h => List.contains_iff_mem.mp h) (fun i m => List.contains_iff_mem.mp (List.all_eq_true.mp hts i m)) (fun i m q => by
    have := List.all_eq_true.mp hB i m
    rw [List.contains_iff_mem.mpr q] at this
    cases this) σ H Q I.len h)⟩
/-- y = [..] on one line -/
theorem ds_setLc {i : Nat} {y : Str} {py : Pos} {elt tg iter : Expr} {ifs : List Expr} {scope : Scope} {own : List (Str × Nat)} {vs : List Nat} {spos : Pos} {B pn pn' tm tc te ts : List Nat} {m : M (List D)} {g : Tg} {mc : M Bool} {me : M D} (hc : X.calm = true) (hN : X.N.Nodup) (hy : X.N[i]? = some y) (hyl : X.env.scope.names.lookup y = some .local)
    (hsw : swapsWith (.ListComp elt [⟨tg, iter, ifs, 0⟩] scope pos) (some (.Name y py)) spos.line X.env = pure true) (hi : DI X B tg iter tm m) (ok : BlkOk X.N X.env.scope scope own) (hvs : own.map (·.2) = vs)
    (hg : ∀ (s : Shared) (H : Hp) (C : Addr) (cl : List (Str × Addr)) (fp : List Addr), DG (X.blk s H scope (compEnvC scope cl C X.env) fp) pn ts tg g) (ht : ∀ (s : Shared) (H : Hp) (C : Addr) (cl : List (Str × Addr)) (fp : List Addr), DTs (X.blk s H scope (compEnvC scope cl C X.env) fp) ifs tc mc)
    (he : ∀ (s : Shared) (H : Hp) (C : Addr) (cl : List (Str × Addr)) (fp : List Addr), DE (X.blk s H scope (compEnvC scope cl C X.env) fp) elt te true me) (hp : pn'.contains i = false := by rfl)
    (hn : ((List.range X.N.length).all fun i => vs.contains i || pn.contains i) = true := by rfl) (hts : (ts.all fun i => vs.contains i) = true := by rfl) (hB : (B.all fun i => !(tm ++ (vs ++ (tc ++ te))).contains i) = true := by rfl) (hs : ∀ x, foldedSetIterable iter X.env x = pure x := by intro _; rfl) :
    DS X pn' (.Assign [.Name y py] (.ListComp elt [⟨tg, iter, ifs, 0⟩] scope pos) spos) (masg (mlc m vs g mc me) (gset i)) := by
  subst hvs
  exact ⟨fun pins s σ H D I h =>
  (ps_setLc hc hN hy hyl hsw hi ok hg ht he hs).run pins s σ H D I (show tLc _ _ _ _ _ σ H (fun x H1 => gName i x σ H1 D.nx) from lc_rd (n := X.N.length) (fun i hi => by
    have := List.all_eq_true.mp hn i (List.mem_range.mpr hi)
    rw [Bool.or_eq_true] at this
    exact this.imp (fun h => List.contains_iff_mem.mp h) fun h => List.contains_iff_mem.mp h) (fun i m => List.contains_iff_mem.mp (List.all_eq_true.mp hts i m)) (fun i m q => by
    have := List.all_eq_true.mp hB i m
    rw [List.contains_iff_mem.mpr q] at this
    cases this) σ H _ I.len (name_rd hp D σ H h))⟩
end
end TL
set_option Elab.async false
set_option linter.all false
set_option maxRecDepth 100000
set_option maxHeartbeats 4000000
/-! T8: places within a slot's tree, and what changes there. -/
namespace TL
open PySem PySem.Spec L2

inductive Stp | ix (d : D) | fld (f : Str)
/-- the place of a child -/
def keyAt {κ : Type} [DecidableEq κ] : List κ → κ → Option Nat
  | [], _ => none
  | k :: ks, x => if k = x then some 0 else (keyAt ks x).map (· + 1)
def D.child (d : D) (s : Stp) : Option Nat := match d, s with
  | .lst _ ds, .ix (.int i) => ixN ds.length i
  | .tup ds, .ix (.int i) => ixN ds.length i
  | .dK _ ks _, .ix y => (keyD y).bind (keyAt ks)
  | .dT _ ks _, .ix (.tup ys) => (keysD ys).bind (keyAt ks)
  | .ins _ _ fs _, .fld f => keyAt fs f
  | _, _ => none
def D.kids : D → List D
  | .lst _ ds => ds
  | .tup ds => ds
  | .dK _ _ ds => ds
  | .dT _ _ ds => ds
  | .ins _ _ _ ds => ds
  | _ => []
def D.withKids : D → List D → Option D
  | .lst true _, ds => some (.lst true ds)
  | .tup _, ds => some (.tup ds)
  | .dK true ks _, ds => some (.dK true ks ds)
  | .dT true ks _, ds => some (.dT true ks ds)
  | .ins true C fs _, ds => some (.ins true C fs ds)
  | _, _ => none
def D.getS (d : D) (s : Stp) : Option D := (d.child s).bind fun j => d.kids[j]?
def D.putS (d : D) (s : Stp) (x : D) : Option D := (d.child s).bind fun j => d.withKids (d.kids.set j x)
def D.getP : D → List Stp → Option D
  | d, [] => some d
  | d, s :: ss => (d.getS s).bind fun c => D.getP c ss
def D.putP : D → List Stp → D → Option D
  | _, [], x => some x
  | d, s :: ss, x => (d.getS s).bind fun c => (D.putP c ss x).bind fun c' => d.putS s c'
section
variable {K : PySem.W.Frag} {Z : Addr → Prop} {H : Hp}
theorem Owns.focus : ∀ {ds : List D} {F : List Addr} {vs : List V} {j : Nat} {d : D}, Owns K Z H ds F vs → ds[j]? = some d → ∃ A B G v, F = A ++ G ++ B ∧ vs[j]? = some v ∧ Own K Z H d G v ∧
    ∀ {Z' H' d' G'}, Keep Z Z' H H' (A ++ B) → Own K Z' H' d' G' v → Owns K Z' H' (ds.set j d') (A ++ G' ++ B) vs
  | [], _, _, _, _, _, e => by simp at e
  | d :: ds, _, _, 0, _, h, e => by
    simp only [Owns] at h
    obtain ⟨v, ws, F1, F2, rfl, rfl, o1, o2⟩ := h
    simp at e
    subst e
    refine ⟨[], F2, F1, v, by simp, rfl, o1, fun {Z' H' d' G'} k o => ?_⟩
    simp only [List.set_cons_zero, Owns, List.nil_append]
    exact ⟨v, ws, G', F2, rfl, rfl, o, o2.keep (k.sub (by simp))⟩
  | d :: ds, _, _, j + 1, _, h, e => by
    simp only [Owns] at h
    obtain ⟨v, ws, F1, F2, rfl, rfl, o1, o2⟩ := h
    obtain ⟨A, B, G, u, rfl, q1, q2, q3⟩ := Owns.focus (j := j) o2 (by simpa using e)
    refine ⟨F1 ++ A, B, G, u, by simp, by simpa using q1, q2, fun {Z' H' d' G'} k o => ?_⟩
    simp only [List.set_cons_succ, Owns]
    refine ⟨v, ws, F1, A ++ G' ++ B, rfl, by simp, o1.keep (k.sub fun a m => by simp [m]), q3 (k.sub fun a m => ?_) o⟩
    rcases List.mem_append.mp m with m | m
    · simp [m]
    · simp [m]
theorem keyAt_get {κ : Type} [DecidableEq κ] {x : κ} : ∀ {ks : List κ} {j : Nat}, keyAt ks x = some j → ks[j]? = some x
  | [], _, e => by simp [keyAt] at e
  | k :: ks, j, e => by
    unfold keyAt at e
    split at e
    · rename_i h
      cases e
      simp [h]
    · rw [Option.map_eq_some_iff] at e
      obtain ⟨i, e, rfl⟩ := e
      simpa using keyAt_get e
theorem keyAt_val {κ : Type} [DecidableEq κ] {x : κ} : ∀ {kvs : List (κ × V)} {j : Nat} {v : V}, keyAt (kvs.map (·.1)) x = some j → (kvs.map (·.2))[j]? = some v → valV kvs x = some v
  | [], _, _, e, _ => by simp [keyAt] at e
  | p :: kvs, j, v, e, h => by
    simp only [List.map_cons] at e h
    unfold keyAt at e
    split at e
    · rename_i hk
      cases e
      simp at h
      rw [valV_pos hk, h]
    · rename_i hk
      rw [Option.map_eq_some_iff] at e
      obtain ⟨i, e, rfl⟩ := e
      rw [valV_neg hk]
      exact keyAt_val e (by simpa using h)
theorem keyAt_look {x : Str} : ∀ {kvs : List (Str × V)} {j : Nat} {v : V}, keyAt (kvs.map (·.1)) x = some j → (kvs.map (·.2))[j]? = some v → kvs.lookup x = some v
  | [], _, _, e, _ => by simp [keyAt] at e
  | p :: kvs, j, v, e, h => by
    simp only [List.map_cons] at e h
    unfold keyAt at e
    split at e
    · rename_i hk
      cases e
      simp at h
      rw [List.lookup_cons]
      simp [hk, h]
    · rename_i hk
      rw [Option.map_eq_some_iff] at e
      obtain ⟨i, e, rfl⟩ := e
      rw [List.lookup_cons]
      have : (x == p.1) = false := by simpa using fun q => hk q.symm
      rw [this]
      exact keyAt_look e (by simpa using h)
/-- a step down, and the way back up -/
def Dn (K : PySem.W.Frag) (Z : Addr → Prop) (H : Hp) (d : D) (F : List Addr) (v : V) (put : D → Option D) (c : D) (w : V) : Prop :=
  ∃ A B G, F = A ++ G ++ B ∧ Own K Z H c G w ∧ ∀ {Z' H' c' G' d'}, Keep Z Z' H H' (A ++ B) → Own K Z' H' c' G' w → put c' = some d' → Own K Z' H' d' (A ++ G' ++ B) v
theorem step_kids {d : D} {F : List Addr} {v : V} {j : Nat} {c : D} (o : Own K Z H d F v) (e : d.kids[j]? = some c) : ∃ a vs w, v = .ref a ∧ vs[j]? = some w ∧
    (match d with
      | .lst _ _ => Rd H a (.lst vs)
      | .tup _ => H a = some (.tup vs)
      | .dK _ ks _ => ∃ kvs, Rd H a (.dK kvs) ∧ kvs.map (·.1) = ks ∧ kvs.map (·.2) = vs
      | .dT _ ks _ => ∃ kvs, Rd H a (.dT kvs) ∧ kvs.map (·.1) = ks ∧ kvs.map (·.2) = vs
      | .ins _ C fs _ => ∃ dx kvs, H a = some (.ins C dx kvs) ∧ kvs.map (·.1) = fs ∧ kvs.map (·.2) = vs
      | _ => False) ∧ vs.length = d.kids.length ∧ Dn K Z H d F v (fun x => d.withKids (d.kids.set j x)) c w := by
  have frozen : ∀ {ds : List D} {vs : List V} {F : List Addr} {w : V} {d : D}, (∀ x ds, d.withKids ds ≠ some x) → Owns K Z H ds F vs → ds[j]? = some c → ∃ w, vs[j]? = some w ∧ Dn K Z H d F v (fun x => d.withKids (d.kids.set j x)) c w := fun {ds vs F w d} hn h e => by
    obtain ⟨A, B, G, u, rfl, q1, q2, q3⟩ := h.focus e
    exact ⟨u, q1, A, B, G, rfl, q2, fun {Z' H' c' G' d'} k o eq => (hn _ _ eq).elim⟩
  cases d with
  | non => simp [D.kids] at e
  | bl _ => simp [D.kids] at e
  | int _ => simp [D.kids] at e
  | str _ => simp [D.kids] at e
  | tup ds =>
    obtain ⟨a, vs, rfl, s, o⟩ := own_tup o
    obtain ⟨A, B, G, u, rfl, q1, q2, q3⟩ := o.focus e
    refine ⟨a, vs, u, rfl, q1, s, o.length.symm, A, B, G, rfl, q2, fun {Z' H' c' G' d'} k o' eq => ?_⟩
    simp only [D.withKids, D.kids] at eq
    cases eq
    simp only [Own]
    exact ⟨a, vs, rfl, k.tup a _ s, q3 k o'⟩
  | lst o' ds =>
    cases o' with
    | false =>
      simp only [Own] at o
      obtain ⟨a, vs, rfl, s, rfl, o⟩ := o
      obtain ⟨w, q1, q2⟩ := frozen (d := .lst false ds) (w := .non) (fun x ds => by simp [D.withKids]) o e
      exact ⟨a, vs, w, rfl, q1, s.2, o.length.symm, q2⟩
    | true =>
      simp only [Own] at o
      obtain ⟨a, vs, G0, rfl, s, rfl, o⟩ := o
      obtain ⟨A, B, G, u, rfl, q1, q2, q3⟩ := o.focus e
      refine ⟨a, vs, u, rfl, q1, .of s, o.length.symm, a :: A, B, G, by simp, q2, fun {Z' H' c' G' d'} k o' eq => ?_⟩
      simp only [D.withKids, D.kids] at eq
      cases eq
      simp only [Own]
      exact ⟨a, vs, A ++ G' ++ B, rfl, k.own a _ (by simp) s, by simp, q3 (k.sub fun b m => by simp at m ⊢; exact .inr m) o'⟩
  | dK o' ks ds =>
    cases o' with
    | false =>
      simp only [Own] at o
      obtain ⟨a, kvs, rfl, z, s, q, rfl, o⟩ := o
      obtain ⟨w, q1, q2⟩ := frozen (d := .dK false ks ds) (w := .non) (fun x ds => by simp [D.withKids]) o e
      exact ⟨a, _, w, rfl, q1, ⟨kvs, s, q, rfl⟩, o.length.symm, q2⟩
    | true =>
      simp only [Own] at o
      obtain ⟨a, kvs, G0, rfl, s, q, rfl, o⟩ := o
      obtain ⟨A, B, G, u, rfl, q1, q2, q3⟩ := o.focus e
      refine ⟨a, _, u, rfl, q1, ⟨kvs, .of s, q, rfl⟩, o.length.symm, a :: A, B, G, by simp, q2, fun {Z' H' c' G' d'} k o' eq => ?_⟩
      simp only [D.withKids, D.kids] at eq
      cases eq
      simp only [Own]
      exact ⟨a, kvs, A ++ G' ++ B, rfl, k.own a _ (by simp) s, q, by simp, q3 (k.sub fun b m => by simp at m ⊢; exact .inr m) o'⟩
  | dT o' ks ds =>
    cases o' with
    | false =>
      simp only [Own] at o
      obtain ⟨a, kvs, rfl, z, s, q, rfl, o⟩ := o
      obtain ⟨w, q1, q2⟩ := frozen (d := .dT false ks ds) (w := .non) (fun x ds => by simp [D.withKids]) o e
      exact ⟨a, _, w, rfl, q1, ⟨kvs, s, q, rfl⟩, o.length.symm, q2⟩
    | true =>
      simp only [Own] at o
      obtain ⟨a, kvs, G0, rfl, s, q, rfl, o⟩ := o
      obtain ⟨A, B, G, u, rfl, q1, q2, q3⟩ := o.focus e
      refine ⟨a, _, u, rfl, q1, ⟨kvs, .of s, q, rfl⟩, o.length.symm, a :: A, B, G, by simp, q2, fun {Z' H' c' G' d'} k o' eq => ?_⟩
      simp only [D.withKids, D.kids] at eq
      cases eq
      simp only [Own]
      exact ⟨a, kvs, A ++ G' ++ B, rfl, k.own a _ (by simp) s, q, by simp, q3 (k.sub fun b m => by simp at m ⊢; exact .inr m) o'⟩
  | ins o' C fs ds =>
    cases o' with
    | false =>
      simp only [Own] at o
      obtain ⟨a, dx, kvs, rfl, z, s, q, rfl, o⟩ := o
      obtain ⟨w, q1, q2⟩ := frozen (d := .ins false C fs ds) (w := .non) (fun x ds => by simp [D.withKids]) o e
      exact ⟨a, _, w, rfl, q1, ⟨dx, kvs, s, q, rfl⟩, o.length.symm, q2⟩
    | true =>
      simp only [Own] at o
      obtain ⟨a, dx, kvs, G0, rfl, s, q, rfl, o⟩ := o
      obtain ⟨A, B, G, u, rfl, q1, q2, q3⟩ := o.focus e
      refine ⟨a, _, u, rfl, q1, ⟨dx, kvs, s, q, rfl⟩, o.length.symm, a :: A, B, G, by simp, q2, fun {Z' H' c' G' d'} k o' eq => ?_⟩
      simp only [D.withKids, D.kids] at eq
      cases eq
      simp only [Own]
      exact ⟨a, dx, kvs, A ++ G' ++ B, rfl, k.own a _ (by simp) s, q, by simp, q3 (k.sub fun b m => by simp at m ⊢; exact .inr m) o'⟩
end
section
variable {K : PySem.W.Frag} {Z Z1 : Addr → Prop} {H H1 : Hp}
theorem Dn.keep {d c : D} {F : List Addr} {v w : V} {put : D → Option D} (h : Dn K Z H d F v put c w) (k : Keep Z Z1 H H1 F) : Dn K Z1 H1 d F v put c w := by
  obtain ⟨A, B, G, rfl, o, back⟩ := h
  exact ⟨A, B, G, rfl, o.keep (k.sub fun a m => by simp [m]), fun {Z' H' c' G' d'} k' o' e => back ((k.sub fun a m => (List.mem_append.mp m).elim (fun m => by simp [m]) fun m => by simp [m]).trans k') o' e⟩
theorem Dn.self {d : D} {F : List Addr} {v : V} (o : Own K Z H d F v) : Dn K Z H d F v some d v := ⟨[], [], F, by simp, o, fun {Z' H' c' G' d'} k o' e => by cases e; simpa using o'⟩
theorem Dn.comp {d c e : D} {F : List Addr} {v w u : V} {put put2 : D → Option D} (h : Dn K Z H d F v put c w) (h2 : ∀ G, Own K Z H c G w → Dn K Z H c G w put2 e u) : Dn K Z H d F v (fun x => (put2 x).bind put) e u := by
  obtain ⟨A, B, G, rfl, o, back⟩ := h
  obtain ⟨A2, B2, G2, rfl, o2, back2⟩ := h2 G o
  refine ⟨A ++ A2, B2 ++ B, G2, by simp, o2, fun {Z' H' c' G' d'} k o' e => ?_⟩
  rw [Option.bind_eq_some_iff] at e
  obtain ⟨x, e1, e2⟩ := e
  have q := back (k.sub fun a m => (List.mem_append.mp m).elim (fun m => by simp [m]) fun m => by simp [m]) (back2 (k.sub fun a m => (List.mem_append.mp m).elim (fun m => by simp [m]) fun m => by simp [m]) o' e1) e2
  simpa using q
end
end TL
set_option Elab.async false
set_option linter.all false
set_option maxRecDepth 100000
set_option maxHeartbeats 4000000
/-! T9: what changes at a place: append, pop, d[k] = v .. -/
namespace TL
open PySem PySem.Spec L2

/-! ### places as expressions -/
def tGp (K : PySem.W.Frag) (t : List Nat) (i : Nat) (ps : M (List Stp)) : TE := fun σ H Q => ∃ Z F δ ss δ', Rel K Z F δ σ H ∧ ps δ = some (ss, δ') ∧ (∃ d c, δ'[i]? = some (some d) ∧ d.getP ss = some c) ∧
  ∀ v H' Z' F', Rel K Z' F' δ' σ H' → Fr Z F H Z' F' H' → Tch t F δ H F' δ' H' → (∃ v0 d c, σ[i]? = some (some v0) ∧ δ'[i]? = some (some d) ∧ d.getP ss = some c ∧ Dn K Z' H' d (F' i) v0 (d.putP ss) c v) → Q v H'
abbrev DP (X : Cx) (e : Expr) (t : List Nat) (i : Nat) (ps : M (List Stp)) : Prop := PE X e (tGp X.K t i ps)
theorem getP_snoc : ∀ {ss : List Stp} {d : D} {s : Stp}, d.getP (ss ++ [s]) = (d.getP ss).bind fun c => c.getS s
  | [], d, s => by
    simp only [List.nil_append, D.getP, Option.bind_some]
    cases d.getS s <;> rfl
  | s0 :: ss, d, s => by
    simp only [List.cons_append, D.getP]
    cases d.getS s0 with
    | none => rfl
    | some c => simp only [Option.bind_some]; exact getP_snoc
theorem putP_snoc : ∀ {ss : List Stp} {d : D} {s : Stp} {x : D} {c : D}, d.getP ss = some c → c.getS s ≠ none → d.putP (ss ++ [s]) x = (c.putS s x).bind (d.putP ss)
  | [], d, s, x, c, e, h => by
    simp only [D.getP] at e
    cases e
    simp only [List.nil_append, D.putP]
    cases q : d.getS s with
    | none => exact (h q).elim
    | some c' => simp only [Option.bind_some]; cases d.putS s x <;> rfl
  | s0 :: ss, d, s, x, c, e, h => by
    simp only [D.getP, Option.bind_eq_some_iff] at e
    obtain ⟨c0, e0, e⟩ := e
    simp only [List.cons_append, D.putP, e0, Option.bind_some]
    rw [putP_snoc e h]
    cases c.putS s x with
    | none => rfl
    | some y => rfl
section
variable {X : Cx} {e : Expr} {pos : Pos}
theorem dp_var {i : Nat} (h : PE X e (tVar i)) : DP X e [] i (mk []) := wE h fun σ H Q ⟨Z, F, δ, ss, δ', r, e1, ⟨d, c, e2, e3⟩, k⟩ => by
  rw [mk_some] at e1
  obtain ⟨rfl, rfl⟩ := e1
  obtain ⟨v, hv, o⟩ := r.val i d e2
  simp only [D.getP] at e3
  cases e3
  exact ⟨v, hv, k v H Z F r Fr.refl Tch.refl ⟨v, d, d, hv, e2, rfl, Dn.self o⟩⟩
/-- a step: what Python reads there -/
theorem step_own {K : PySem.W.Frag} {Z : Addr → Prop} {H : Hp} {c c2 y : D} {G Gy : List Addr} {v w : V} (o : Own K Z H c G v) (oy : Own K Z H y Gy w) (e : c.getS (.ix y) = some c2) :
    ∃ u, (∀ Q : VK, Q u H → rIxAll K v w H Q) ∧ Dn K Z H c G v (fun x => c.putS (.ix y) x) c2 u := by
  unfold D.getS at e
  rw [Option.bind_eq_some_iff] at e
  obtain ⟨j, e1, e2⟩ := e
  obtain ⟨a, vs, u, rfl, q1, q2, q3, q4⟩ := step_kids o e2
  refine ⟨u, fun Q q => ?_, by
    have : (fun x => c.putS (.ix y) x) = fun x => c.withKids (c.kids.set j x) := by
      funext x
      unfold D.putS
      rw [e1]
      rfl
    rw [this]
    exact q4⟩
  unfold D.child at e1
  split at e1
  · rename_i i heq
    cases heq
    refine .inl (.inl ⟨a, vs, _, u, rfl, (own_int oy).1, .inl q2, ?_, q⟩)
    simp only [D.kids] at q3
    unfold atI
    rw [q3, e1]
    exact q1
  · rename_i i heq
    cases heq
    refine .inl (.inr (.inl ⟨a, vs, _, u, rfl, (own_int oy).1, .of q2, ?_, q⟩))
    simp only [D.kids] at q3
    unfold atI
    rw [q3, e1]
    exact q1
  · rename_i y' heq
    cases heq
    rw [Option.bind_eq_some_iff] at e1
    obtain ⟨k, e3, e4⟩ := e1
    obtain ⟨kvs, s1, s2, s3⟩ := q2
    subst s2 s3
    exact .inr ⟨a, u, rfl, .inl ⟨kvs, k, s1, keyD_own oy e3, (keyAt_val e4 q1).symm⟩, q⟩
  · rename_i ys heq
    cases heq
    rw [Option.bind_eq_some_iff] at e1
    obtain ⟨k, e3, e4⟩ := e1
    obtain ⟨kvs, s1, s2, s3⟩ := q2
    subst s2 s3
    obtain ⟨b, ws, rfl, s4, o4⟩ := own_tup oy
    exact .inr ⟨a, u, rfl, .inr ⟨kvs, k, b, s1, rfl, by rw [← keysD_own o4 e3]; exact s4, (keyAt_val e4 q1).symm⟩, q⟩
  · rename_i heq
    cases heq
  · cases e1
def placeOk (i : Nat) (ss : List Stp) (δ : En) : Bool := match δ[i]? with
  | some (some d) => (d.getP ss).isSome
  | _ => false
theorem placeOk_some {i : Nat} {ss : List Stp} {δ : En} (h : placeOk i ss δ = true) : ∃ d c, δ[i]? = some (some d) ∧ d.getP ss = some c := by
  unfold placeOk at h
  split at h
  · rename_i d q
    obtain ⟨c, hc⟩ := Option.isSome_iff_exists.mp h
    exact ⟨d, c, q, hc⟩
  · cases h
def mpix (i : Nat) (ps : M (List Stp)) (m : M D) : M (List Stp) := mbind ps fun ss δ => if placeOk i ss δ = true then (mbind m fun y => mk (ss ++ [.ix y])) δ else none
theorem Dn.comp2 {K : PySem.W.Frag} {Z : Addr → Prop} {H : Hp} {d c e : D} {A B G : List Addr} {v w u : V} {put put2 : D → Option D} (back : ∀ {Z' H' c' G' d'}, Keep Z Z' H H' (A ++ B) → Own K Z' H' c' G' w → put c' = some d' → Own K Z' H' d' (A ++ G' ++ B) v)
    (h2 : Dn K Z H c G w put2 e u) : Dn K Z H d (A ++ G ++ B) v (fun x => (put2 x).bind put) e u := by
  obtain ⟨A2, B2, G2, rfl, o2, back2⟩ := h2
  refine ⟨A ++ A2, B2 ++ B, G2, by simp, o2, fun {Z' H' c' G' d'} k o' e => ?_⟩
  rw [Option.bind_eq_some_iff] at e
  obtain ⟨x, e1, e2⟩ := e
  have q := back (k.sub fun a m => (List.mem_append.mp m).elim (fun m => by simp [m]) fun m => by simp [m]) (back2 (k.sub fun a m => (List.mem_append.mp m).elim (fun m => by simp [m]) fun m => by simp [m]) o' e1) e2
  simpa using q
theorem dp_ix {a b : Expr} {t tb : List Nat} {i : Nat} {fr : Bool} {ps : M (List Stp)} {m : M D} (hu : X.A.units + 1 < cLine) (ha : DP X a t i ps) (hb : DE X b tb fr m) (htb : tb = [] := by rfl) (hs : PlainIx b := by exact fun _ _ => rfl) : DP X (.Subscript a b pos) t i (mpix i ps m) := by
  subst htb
  exact wE (pe_ix (ix_all hu) ha hb hs) fun σ H Q ⟨Z, F, δ, ss, δ', r, e1, ⟨d, c, e2, e3⟩, k⟩ => by
    unfold mpix at e1
    rw [mbind_some] at e1
    obtain ⟨s1, δ1, e1, q1⟩ := e1
    split at q1
    case isFalse => cases q1
    rename_i hpl
    rw [mbind_some] at q1
    obtain ⟨y, δ2, q1, q2⟩ := q1
    rw [mk_some] at q2
    obtain ⟨rfl, rfl⟩ := q2
    rw [getP_snoc, Option.bind_eq_some_iff] at e3
    obtain ⟨c0, e3, e4⟩ := e3
    refine ⟨Z, F, δ, s1, δ1, r, e1, placeOk_some hpl, fun v H1 Z1 F1 r1 f1 tc ⟨v0, d1, c1, h1, h2, h3, h4⟩ => ?_⟩
    refine ⟨Z1, F1, δ1, y, δ', r1, q1, fun w H2 Z2 F2 G2 r2 f2 tc2 o2 n2 => ?_⟩
    obtain ⟨rfl, rfl, s2⟩ := Tch.nil r1 f2 tc2
    rw [e2] at h2
    cases h2
    rw [e3] at h3
    cases h3
    obtain ⟨A, B, G, hF, oc, back⟩ := h4.keep (same_keep s2 f2.zup _)
    obtain ⟨u, hu', dn⟩ := step_own oc o2 e4
    refine hu' Q (k u H2 Z2 F2 r2 (f1.trans f2) ((tc.trans tc2).mono fun j m => by simpa using m) ⟨v0, d, c, h1, e2, by rw [getP_snoc, e3]; exact e4, ?_⟩)
    have h5 : (d.putP (s1 ++ [.ix y])) = fun x => (c0.putS (.ix y) x).bind (d.putP s1) := by
      funext x
      exact putP_snoc e3 (by rw [e4]; simp)
    rw [h5, hF]
    exact Dn.comp2 back dn
/-- o.f, o an instance of the class at C -/
def mpfld (i : Nat) (C : Addr) (f : Str) (ps : M (List Stp)) : M (List Stp) := mbind ps fun ss δ => match δ[i]? with
  | some (some d) => (match d.getP ss with
    | some (.ins _ C' fs ds) => if C' = C then some (ss ++ [.fld f], δ) else none
    | _ => none)
  | _ => none
theorem fld_own {K : PySem.W.Frag} {Z : Addr → Prop} {H : Hp} {o' : Bool} {C : Addr} {fs : List Str} {ds : List D} {f : Str} {c2 : D} {G : List Addr} {v : V} (o : Own K Z H (.ins o' C fs ds) G v) (e : (D.ins o' C fs ds).getS (.fld f) = some c2) :
    ∃ a dx kvs u, v = .ref a ∧ H a = some (.ins C dx kvs) ∧ kvs.lookup f = some u ∧ Dn K Z H (.ins o' C fs ds) G v (fun x => (D.ins o' C fs ds).putS (.fld f) x) c2 u := by
  unfold D.getS at e
  rw [Option.bind_eq_some_iff] at e
  obtain ⟨j, e1, e2⟩ := e
  obtain ⟨a, vs, u, rfl, q1, ⟨dx, kvs, s1, s2, s3⟩, q3, q4⟩ := step_kids o e2
  subst s2 s3
  refine ⟨a, dx, kvs, u, rfl, s1, keyAt_look e1 q1, ?_⟩
  have : (fun x => (D.ins o' C (kvs.map (·.1)) ds).putS (.fld f) x) = fun x => (D.ins o' C (kvs.map (·.1)) ds).withKids ((D.ins o' C (kvs.map (·.1)) ds).kids.set j x) := by
    funext x
    unfold D.putS
    rw [e1]
    rfl
  rw [this]
  exact q4
theorem dp_fld {a : Expr} {t : List Nat} {i : Nat} {C : Addr} {f : Str} {ps : M (List Stp)} (cl : Cls X.K C) (na : NoAttr X.K C f) (ha : DP X a t i ps) (hb : attributeBase a f X.env (eval a X.env) = eval a X.env := by rfl) : DP X (.Attribute a f pos) t i (mpfld i C f ps) :=
  wE (pe_fld ha hb) fun σ H Q ⟨Z, F, δ, ss, δ', r, e1, ⟨d, c, e2, e3⟩, k⟩ => by
    unfold mpfld at e1
    rw [mbind_some] at e1
    obtain ⟨s1, δ1, e1, q1⟩ := e1
    split at q1
    case h_2 => cases q1
    rename_i d1 hd1
    split at q1
    case h_2 => cases q1
    rename_i o' C' fs ds hgp
    split at q1
    case isFalse => cases q1
    rename_i hC
    subst hC
    cases q1
    rw [getP_snoc, Option.bind_eq_some_iff] at e3
    obtain ⟨c0, e3, e4⟩ := e3
    rw [e2] at hd1
    cases hd1
    rw [e3] at hgp
    cases hgp
    refine ⟨Z, F, δ, s1, δ', r, e1, ⟨d, _, e2, e3⟩, fun v H1 Z1 F1 r1 f1 tc ⟨v0, d1, c1, h1, h2, h3, h4⟩ => ?_⟩
    rw [e2] at h2
    cases h2
    rw [e3] at h3
    cases h3
    obtain ⟨A, B, G, hF, oc, back⟩ := id h4
    obtain ⟨p, dx, kvs, u, rfl, s1', s2', dn⟩ := fld_own oc e4
    refine ⟨p, _, dx, kvs, u, rfl, s1', cl, na, s2', k u H1 Z1 F1 r1 f1 tc ⟨v0, d, c, h1, e2, by rw [getP_snoc, e3]; exact e4, ?_⟩⟩
    have h5 : (d.putP (s1 ++ [.fld f])) = fun x => ((D.ins o' C' fs ds).putS (.fld f) x).bind (d.putP s1) := by
      funext x
      exact putP_snoc e3 (by rw [e4]; simp)
    rw [h5, hF]
    exact Dn.comp2 back dn
end

/-! ### what changes -/
/-- a rule that changes the object x, in trees: what f makes of the tree and the arguments is the result and the new tree -/
def MutOk (K : PySem.W.Frag) (r : V → List V → Hp → VK → Prop) (f : D → List D → Option (D × D)) : Prop :=
  ∀ {Z : Addr → Prop} {H : Hp} {v : V} {c : D} {G : List Addr} {xs : List V} {ds : List D} {Gx : List Addr} {res c' : D} {Q : VK}, Own K Z H c G v → Owns K Z H ds Gx xs → (G ++ Gx).Nodup → (∀ a ∈ G ++ Gx, ¬ Z a) → f c ds = some (res, c') →
    (∀ a o vr Gr G', v = .ref a → a ∈ G → Own K Z (upd H a o) res Gr vr → Own K Z (upd H a o) c' G' v → (Gr ++ G').Nodup → (∀ b ∈ Gr ++ G', b ∈ G ++ Gx) → Q vr (upd H a o)) → r v xs H Q
def placeTy (ty : D → Bool) (i : Nat) (ss : List Stp) (δ : En) : Bool := match δ[i]? with
  | some (some d) => (match d.getP ss with
    | some c => ty c
    | none => false)
  | _ => false
theorem placeTy_some {ty : D → Bool} {i : Nat} {ss : List Stp} {δ : En} (h : placeTy ty i ss δ = true) : ∃ d c, δ[i]? = some (some d) ∧ d.getP ss = some c ∧ ty c = true := by
  unfold placeTy at h
  split at h
  · rename_i d q
    split at h
    · rename_i c hc
      exact ⟨d, c, q, hc, h⟩
    · cases h
  · cases h
def mmut (ty : D → Bool) (i : Nat) (f : D → List D → Option (D × D)) (ps : M (List Stp)) (ms : M (List D)) : M D := mbind ps fun ss δ1 => if placeTy ty i ss δ1 = true then (match ms δ1 with
    | some (ds, δ2) => (match δ2[i]? with
      | some (some d) => (d.getP ss).bind fun c => (f c ds).bind fun p => (d.putP ss p.2).map fun d' => (p.1, δ2.set i (some d'))
      | _ => none)
    | none => none)
  else none
/-- the whole of a change: the state behind -/
theorem mut_end {K : PySem.W.Frag} {Z Z2 : Addr → Prop} {F F2 : Fp} {δ δ2 : En} {σ : St} {H H2 : Hp} {i : Nat} {t : List Nat} {A B G Gx Gr G' : List Addr} {v0 vr : V} {res d d' : D} {a : Addr} {o : HO} (r2 : Rel K Z2 F2 δ2 σ H2) (f2 : Fr Z F H Z2 F2 H2) (t2 : Tch t F δ H F2 δ2 H2) (rl : Rel K Z F δ σ H)
    (hd : δ2[i]? = some (some d)) (hv : σ[i]? = some (some v0)) (hF : F2 i = A ++ G ++ B) (nx : New F H Z2 F2 Gx) (ha : a ∈ G) (od : Own K Z2 (upd H2 a o) d' (A ++ G' ++ B) v0) (orr : Own K Z2 (upd H2 a o) res Gr vr) (hn : (Gr ++ G').Nodup) (hsub : ∀ b ∈ Gr ++ G', b ∈ G ++ Gx) :
    ∃ F3, Rel K Z2 F3 (δ2.set i (some d')) σ (upd H2 a o) ∧ Fr Z F H Z2 F3 (upd H2 a o) ∧ Tch (i :: t) F δ H F3 (δ2.set i (some d')) (upd H2 a o) ∧ New F H Z2 F3 Gr := by
  have hi : i < δ2.length := (List.getElem?_eq_some_iff.mp hd).1
  have nF := r2.nd i
  rw [hF] at nF
  obtain ⟨n1, nB, n2⟩ := List.nodup_append.mp nF
  obtain ⟨nA, nG, n3⟩ := List.nodup_append.mp n1
  obtain ⟨nr, nG', n4⟩ := List.nodup_append.mp hn
  have inF : ∀ b, b ∈ A ∨ b ∈ G ∨ b ∈ B → b ∈ F2 i := fun b m => by
    rw [hF]
    rcases m with m | m | m <;> simp [m]
  have ma : Mut (H2 a) := r2.mut (inF a (.inr (.inl ha)))
  have za : ¬ Z2 a := r2.zd i a (inF a (.inr (.inl ha)))
  have offG' : ∀ b ∈ G', b ∉ A ∧ b ∉ B := fun b m => by
    rcases List.mem_append.mp (hsub b (List.mem_append_right _ m)) with z | z
    · exact ⟨fun q => n3 b q b z rfl, fun q => n2 b (List.mem_append_right _ z) b q rfl⟩
    · exact ⟨fun q => nx.fd b z i (inF b (.inl q)), fun q => nx.fd b z i (inF b (.inr (.inr q)))⟩
  have offGr : ∀ b ∈ Gr, b ∉ A ∧ b ∉ B := fun b m => by
    rcases List.mem_append.mp (hsub b (List.mem_append_left _ m)) with z | z
    · exact ⟨fun q => n3 b q b z rfl, fun q => n2 b (List.mem_append_right _ z) b q rfl⟩
    · exact ⟨fun q => nx.fd b z i (inF b (.inl q)), fun q => nx.fd b z i (inF b (.inr (.inr q)))⟩
  have new : ∀ b, b ∈ A ++ G' ++ B → b ∈ F2 i ∨ b ∈ Gx := fun b m => by
    rcases List.mem_append.mp m with m | m
    · rcases List.mem_append.mp m with m | m
      · exact .inl (inF b (.inl m))
      · rcases List.mem_append.mp (hsub b (List.mem_append_right _ m)) with z | z
        · exact .inl (inF b (.inr (.inl z)))
        · exact .inr z
    · exact .inl (inF b (.inr (.inr m)))
  have newr : ∀ b, b ∈ Gr → b ∈ F2 i ∨ b ∈ Gx := fun b m => by
    rcases List.mem_append.mp (hsub b (List.mem_append_left _ m)) with z | z
    · exact .inl (inF b (.inr (.inl z)))
    · exact .inr z
  refine ⟨fun j => if j = i then A ++ G' ++ B else F2 j, ⟨fun j e h => ?_, fun j n => ?_, fun j => ?_, fun j l b m1 m2 => ?_, fun j b m z => ?_, fun b z => ?_, by simpa using r2.len⟩, ⟨fun b u h q => ?_, fun b u h => ?_, f2.zup, f2.znew, fun j b m => ?_⟩, ⟨by simp [t2.len], fun j q => ?_, fun j q => ?_, fun j b q m => ?_⟩, ⟨nr, fun b m z => ?_, fun b m j mj => ?_, fun b m => ?_⟩⟩
  · by_cases c : j = i
    · subst c
      rw [List.getElem?_set_self hi] at h
      cases h
      simp only [if_pos rfl]
      exact ⟨v0, hv, od⟩
    · rw [List.getElem?_set_ne (Ne.symm c)] at h
      obtain ⟨u, q1, q2⟩ := r2.val j e h
      simp only [if_neg c]
      exact ⟨u, q1, q2.keep (keep_upd ma za fun m => c (r2.dis j i a m (inF a (.inr (.inl ha)))))⟩
  · by_cases c : j = i
    · subst c
      exact (n d' (List.getElem?_set_self hi)).elim
    · simp only [if_neg c]
      exact r2.emp j fun e h => n e (by rw [List.getElem?_set_ne (Ne.symm c)]; exact h)
  · by_cases c : j = i
    · simp only [if_pos c]
      refine List.nodup_append.mpr ⟨List.nodup_append.mpr ⟨nA, nG', ?_⟩, nB, ?_⟩
      · rintro b m1 _ m2 rfl
        exact (offG' b m2).1 m1
      · rintro b m1 _ m2 rfl
        rcases List.mem_append.mp m1 with m1 | m1
        · exact n2 b (List.mem_append_left _ m1) b m2 rfl
        · exact (offG' b m1).2 m2
    · simp only [if_neg c]; exact r2.nd j
  · by_cases c : j = i
    · by_cases c2 : l = i
      · rw [c, c2]
      · simp only [if_pos c] at m1
        simp only [if_neg c2] at m2
        rcases new b m1 with z | z
        · exact (c2 (r2.dis l i b m2 z)).elim
        · exact (nx.fd b z l m2).elim
    · by_cases c2 : l = i
      · simp only [if_neg c] at m1
        simp only [if_pos c2] at m2
        rcases new b m2 with z | z
        · exact (c (r2.dis j i b m1 z)).elim
        · exact (nx.fd b z j m1).elim
      · simp only [if_neg c] at m1
        simp only [if_neg c2] at m2
        exact r2.dis j l b m1 m2
  · by_cases c : j = i
    · simp only [if_pos c] at m
      rcases new b m with q | q
      · exact r2.zd i b q z
      · exact nx.zd b q z
    · simp only [if_neg c] at m
      exact r2.zd j b m z
  · obtain ⟨u, e⟩ := r2.zh b z
    exact ⟨u, by rw [upd_ne (show b ≠ a from fun e => za (e ▸ z))]; exact e⟩
  · have hb : b ≠ a := fun e => by
      subst e
      rcases f2.fnew i b (inF b (.inr (.inl ha))) with z | ⟨j, z⟩
      · rw [h] at z; cases z
      · exact q j z
    rw [upd_ne hb]
    exact f2.out b u h q
  · by_cases hb : b = a
    · subst hb
      exact ⟨o, upd_same⟩
    · rw [upd_ne hb]
      exact f2.here b u h
  · by_cases c : j = i
    · simp only [if_pos c] at m
      rcases new b m with q | q
      · exact f2.fnew i b q
      · exact nx.from' b q
    · simp only [if_neg c] at m
      exact f2.fnew j b m
  · have hj : j ≠ i := fun c => q (by simp [c])
    rw [List.getElem?_set_ne (Ne.symm hj)]
    exact t2.en j fun m => q (List.mem_cons_of_mem _ m)
  · have hj : j ≠ i := fun c => q (by simp [c])
    simp only [if_neg hj]
    exact t2.fp j fun m => q (List.mem_cons_of_mem _ m)
  · have hj : j ≠ i := fun c => q (by simp [c])
    have hq : j ∉ t := fun m => q (List.mem_cons_of_mem _ m)
    have hb : b ≠ a := fun e => by
      subst e
      rw [← t2.fp j hq] at m
      exact hj (r2.dis j i b m (inF b (.inr (.inl ha))))
    rw [upd_ne hb]
    exact t2.at' j b hq m
  · rcases newr b m with q | q
    · exact r2.zd i b q z
    · exact nx.zd b q z
  · by_cases c : j = i
    · simp only [if_pos c] at mj
      rcases List.mem_append.mp mj with mj | mj
      · rcases List.mem_append.mp mj with mj | mj
        · exact (offGr b m).1 mj
        · exact n4 b m b mj rfl
      · exact (offGr b m).2 mj
    · simp only [if_neg c] at mj
      rcases newr b m with q | q
      · exact c (r2.dis j i b mj q)
      · exact nx.fd b q j mj
  · rcases newr b m with q | q
    · exact f2.fnew i b q
    · exact nx.from' b q
section
variable {X : Cx} {e : Expr} {pos : Pos}
theorem mut_rd {t te : List Nat} {i : Nat} {T : String} {r : V → List V → Hp → VK → Prop} {f : D → List D → Option (D × D)} {ps : M (List Stp)} {ms : M (List D)} (hr : MutOk X.K r f) {ty : D → Bool} (hty : ∀ {Z H c G v}, Own X.K Z H c G v → ty c = true → tyV X.K T v H) (ht : te.contains i = false) :
    ∀ σ H Q, tG X.K (i :: (t ++ te)) true (mmut ty i f ps ms) σ H Q → tBM X.K T r (tGp X.K t i ps) (tGa X.K te ms) σ H Q := fun σ H Q ⟨Z, F, δ, d, δ', rl, e1, k⟩ => by
  unfold mmut at e1
  rw [mbind_some] at e1
  obtain ⟨ss, δ1, e1, q1⟩ := e1
  split at q1
  case isFalse => cases q1
  rename_i hpl
  split at q1
  case h_2 => cases q1
  rename_i ds δ2 q2
  split at q1
  case h_2 => cases q1
  rename_i d2 hd2
  rw [Option.bind_eq_some_iff] at q1
  obtain ⟨c, q3, q1⟩ := q1
  rw [Option.bind_eq_some_iff] at q1
  obtain ⟨⟨res, c'⟩, q4, q1⟩ := q1
  rw [Option.map_eq_some_iff] at q1
  obtain ⟨d', q5, q6⟩ := q1
  obtain ⟨rfl, rfl⟩ := Prod.mk.inj q6
  have hni : i ∉ te := fun m => by have := List.contains_iff_mem.mpr m; rw [ht] at this; cases this
  obtain ⟨dp, cp, hp1, hp2, hp3⟩ := placeTy_some hpl
  refine ⟨Z, F, δ, ss, δ1, rl, e1, ⟨dp, cp, hp1, hp2⟩, fun v H1 Z1 F1 r1 f1 tc1 ⟨v0, d1, c1, h1, h2, h3, h4⟩ => ?_⟩
  obtain ⟨A, B, G, hF, oc, back⟩ := id h4
  have fin2 : ∀ xs H2 Z2 F2 Gx, Rel X.K Z2 F2 δ2 σ H2 → Fr Z1 F1 H1 Z2 F2 H2 → Tch te F1 δ1 H1 F2 δ2 H2 → Owns X.K Z2 H2 ds Gx xs → New F1 H1 Z2 F2 Gx → r v xs H2 Q := fun xs H2 Z2 F2 Gx r2 f2 tc2 o2 n2 => by
    have kk : Keep Z1 Z2 H1 H2 (F1 i) := ⟨f2.zup, (f2.keep r1 (G := []) (by simp)).rd, (f2.keep r1 (G := []) (by simp)).ins, fun a o m h => by rw [tc2.at' i a hni m]; exact h, (f2.keep r1 (G := []) (by simp)).tup⟩
    have hd12 := tc2.en i hni
    rw [h2, hd2] at hd12
    cases hd12
    rw [h3] at q3
    cases q3
    obtain ⟨A, B, G, hF, oc, back⟩ := h4.keep kk
    have hF2 : F2 i = A ++ G ++ B := by rw [tc2.fp i hni]; exact hF
    have nF := r2.nd i
    rw [hF2] at nF
    obtain ⟨n1, nB, n2'⟩ := List.nodup_append.mp nF
    obtain ⟨nA, nG, n3⟩ := List.nodup_append.mp n1
    have inF : ∀ b ∈ G, b ∈ F2 i := fun b m => by rw [hF2]; simp [m]
    refine hr oc o2 (List.nodup_append.mpr ⟨nG, n2.nd, ?_⟩) (fun b m z => ?_) q4 fun a o vr Gr G' hv ha orr oc' hn hs => ?_
    · rintro b m1 _ m2 rfl
      exact n2.fd b m2 i (inF b m1)
    · rcases List.mem_append.mp m with m | m
      · exact r2.zd i b (inF b m) z
      · exact n2.zd b m z
    · have od := back (keep_upd (r2.mut (inF a ha)) (r2.zd i a (inF a ha)) fun m => ?_) oc' q5
      · obtain ⟨F3, r3, f3, t3, n3'⟩ := mut_end r2 (f1.trans f2) (tc1.trans tc2) rl hd2 h1 hF2 (n2.back f1) ha od orr hn hs
        exact k vr _ Z2 F3 Gr r3 f3 t3 orr fun _ => n3'
      · rcases List.mem_append.mp m with m | m
        · exact n3 a m a ha rfl
        · exact n2' a (List.mem_append_right _ ha) a m rfl
  rw [hp1] at h2
  cases h2
  rw [hp2] at h3
  cases h3
  exact ⟨hty oc hp3, Z1, F1, δ1, ds, δ2, r1, q2, fun xs H2 Z2 F2 Gx r2 f2 tc2 o2 n2 => fin2 xs H2 Z2 F2 Gx r2 f2 tc2 o2 n2⟩
/-! ### list methods -/
def isLst : D → Bool
  | .lst _ _ => true
  | _ => false
theorem ty_lst {Z : Addr → Prop} {H : Hp} {c : D} {G : List Addr} {v : V} (o : Own X.K Z H c G v) (h : isLst c = true) : tyV X.K "list" v H := by
  cases c <;> simp [isLst] at h
  obtain ⟨a, vs, _, rfl, s, _⟩ := own_lst o
  exact .inl ⟨rfl, vs, .inl s⟩
/-- o.m(e, ..) -/
theorem de_mm {o' a : Expr} {es : List Expr} {T id : String} {name : Str} {apos cpos : Pos} {t te : List Nat} {i : Nat} {r : V → List V → Hp → VK → Prop} {f : D → List D → Option (D × D)} {ps : M (List Stp)} {ms : M (List D)} {ty : D → Bool} (pa : PlainAttrs T) (slot : Slot T name id) (hk : typeOf (.builtin id) = pure (.type "method_descriptor")) (hm : MtR X id r) (hr : MutOk X.K r f) (hty : ∀ {Z H c G v}, Own X.K Z H c G v → ty c = true → tyV X.K T v H)
    (ho : DP X o' t i ps) (ha : DA X (a :: es) te ms) (ht : te.contains i = false := by rfl) (hbase : attributeBase o' name X.env (eval o' X.env) = eval o' X.env := by rfl)
    (hfew : ((backTo cpos (starEach (a :: es) X.env)).all (fun x => !x.1) && (backToKw cpos (keywordEach [] X.env)).all (fun x => x.1.isSome)
      && decide ((a :: es).length + ([] : List Keyword).length + (if ([] : List Keyword).isEmpty then 0 else 1) < 30)) = true := by rfl)
    (hline : (apos.endLine == cpos.line) = true := by rfl) (hs : starEach (a :: es) X.env = (false, eval a X.env) :: starEach es X.env := by rfl) (hplain : (backTo cpos (starEach es X.env)).any (·.1) = false := by rfl) :
    DE X (.Call (.Attribute o' name apos) (a :: es) [] cpos) (i :: (t ++ te)) true (mmut ty i f ps ms) := wE (pe_bm pa slot hk hm ho ha hbase hfew hline hs hplain) (mut_rd hr hty ht)
theorem de_mm0 {o' : Expr} {T id : String} {name : Str} {apos cpos : Pos} {t : List Nat} {i : Nat} {r : V → List V → Hp → VK → Prop} {f : D → List D → Option (D × D)} {ps : M (List Stp)} {ty : D → Bool} (pa : PlainAttrs T) (slot : Slot T name id) (hk : typeOf (.builtin id) = pure (.type "method_descriptor")) (hm : MtR X id r) (hr : MutOk X.K r f) (hty : ∀ {Z H c G v}, Own X.K Z H c G v → ty c = true → tyV X.K T v H)
    (ho : DP X o' t i ps) (hbase : attributeBase o' name X.env (eval o' X.env) = eval o' X.env := by rfl) (hline : (apos.endLine == cpos.line) = true := by rfl) :
    DE X (.Call (.Attribute o' name apos) [] [] cpos) (i :: (t ++ [])) true (mmut ty i f ps mnil) := wE (pe_bm0 pa slot hk hm ho hbase hline) fun σ H Q h => by
  obtain ⟨Z, F, δ, ss, δ', r, e1, hp, k⟩ := mut_rd (te := []) (ms := mnil) hr hty rfl σ H Q h
  refine ⟨Z, F, δ, ss, δ', r, e1, hp, fun v H1 Z1 F1 r1 f1 tc1 hh => ?_⟩
  obtain ⟨h1, Z2, F2, δ2, ds, δ3, r2, e2, k2⟩ := k v H1 Z1 F1 r1 f1 tc1 hh
  unfold mnil at e2
  rw [mk_some] at e2
  obtain ⟨rfl, rfl⟩ := e2
  exact ⟨h1, k2 [] H1 Z2 F2 [] r2 Fr.refl Tch.refl (by simp [Owns]) New.nil⟩
def appendD : D → List D → Option (D × D)
  | .lst true ds, [x] => if ds.length < sizeLine then some (.non, .lst true (ds ++ [x])) else none
  | _, _ => none
theorem mo_append {K : PySem.W.Frag} : MutOk K rAppend appendD := by
  intro Z H v c G xs ds Gx res c' Q oc ox nd nz e k
  unfold appendD at e
  split at e
  · split at e
    · rename_i hz
      cases e
      simp only [Own] at oc
      obtain ⟨a, vs, G0, rfl, s, rfl, o⟩ := oc
      simp only [Owns] at ox
      obtain ⟨y, ws, G1, G2, rfl, rfl, o1, rfl, rfl⟩ := ox
      have mu : Mut (H a) := by rw [s]; trivial
      have za : ¬ Z a := nz a (by simp)
      obtain ⟨nG, nx, nn⟩ := List.nodup_append.mp nd
      have nG0 := (List.nodup_cons.mp nG).1
      have nax : a ∉ G1 := fun m => nn a (by simp) a (by simp [m]) rfl
      refine ⟨a, vs, y, rfl, rfl, s, by rw [← o.length]; exact hz, k a _ .non [] (a :: (G0 ++ G1)) rfl (by simp) (by simp [Own]) ?_ (by simpa using nd) (fun b m => by simpa using m)⟩
      simp only [Own]
      exact ⟨a, vs ++ [y], G0 ++ G1, rfl, upd_same, rfl, (o.keep (keep_upd mu za nG0)).append (Owns.one (o1.keep (keep_upd mu za nax)))⟩
    · cases e
  · cases e
end
end TL
set_option Elab.async false
set_option linter.all false
set_option maxRecDepth 100000
set_option maxHeartbeats 4000000
/-! T10: stores into places. -/
namespace TL
open PySem PySem.Spec L2

/-- a value's own things are given up -/
def mfz (m : M D) : M D := mbind m fun d => mk d.fz
section
variable {X : Cx} {pn : List Nat} {e : Expr} {pos : Pos}
theorem de_fz {t : List Nat} {m : M D} (h : DE X e t true m) : DE X e t true (mfz m) := wE h fun σ H Q ⟨Z, F, δ, d, δ', r, e1, k⟩ => by
  unfold mfz at e1
  rw [mbind_some] at e1
  obtain ⟨d1, δ1, e1, e2⟩ := e1
  rw [mk_some] at e2
  obtain ⟨rfl, rfl⟩ := e2
  refine ⟨Z, F, δ, d1, δ', r, e1, fun v H' Z' F' G r' f' tc o n => ?_⟩
  have n := n rfl
  exact k v H' (fun a => Z' a ∨ a ∈ G) F' [] (r'.freeze n.fd fun a m => mut_some (o.here a m)) ⟨f'.out, f'.here, fun a z => .inl (f'.zup a z), fun a z => z.elim (f'.znew a) fun m => .inr (n.from' a m), f'.fnew⟩ tc (o.fz (fun _ z => .inl z) fun _ m => .inr m) fun _ => New.nil
/-- a slot's own things are given up -/
def mfreeze (i : Nat) : MS := fun δ => match δ[i]? with
  | some (some d) => some (.nx, δ.set i (some d.fz))
  | _ => none
theorem frz_rd {m : MS} {i : Nat} : ∀ D σ H, tSt X pn (mseq (mfreeze i) m) D σ H → tSt X pn m D σ H := fun D σ H ⟨Z, F, δ, fl, δ', r, e1, k⟩ => by
  unfold mseq mfreeze at e1
  split at e1
  · rename_i δ1 q
    split at q
    · rename_i d hd
      cases q
      obtain ⟨v, hv, o⟩ := r.val i d hd
      have hi : i < δ.length := (List.getElem?_eq_some_iff.mp hd).1
      have r1 : Rel X.K (fun a => Z a ∨ a ∈ F i) (fun j => if j = i then [] else F j) (δ.set i (some d.fz)) σ H := by
        refine ⟨fun j c h => ?_, fun j n => ?_, fun j => ?_, fun j l a m1 m2 => ?_, fun j a m z => ?_, fun a z => ?_, by simpa using r.len⟩
        · by_cases c' : j = i
          · subst c'
            rw [List.getElem?_set_self hi] at h
            cases h
            simp only [if_pos rfl]
            exact ⟨v, hv, o.fz (fun _ z => .inl z) fun _ m => .inr m⟩
          · rw [List.getElem?_set_ne (Ne.symm c')] at h
            obtain ⟨u, q1, q2⟩ := r.val j c h
            simp only [if_neg c']
            exact ⟨u, q1, q2.keep (same_keep (Same.refl H) (fun _ z => .inl z) _)⟩
        · by_cases c' : j = i
          · simp only [if_pos c']
          · simp only [if_neg c']
            exact r.emp j fun e h => n e (by rw [List.getElem?_set_ne (Ne.symm c')]; exact h)
        · by_cases c' : j = i
          · simp only [if_pos c']; exact List.nodup_nil
          · simp only [if_neg c']; exact r.nd j
        · by_cases c1 : j = i
          · simp only [if_pos c1] at m1; cases m1
          · by_cases c2 : l = i
            · simp only [if_pos c2] at m2; cases m2
            · simp only [if_neg c1] at m1
              simp only [if_neg c2] at m2
              exact r.dis j l a m1 m2
        · by_cases c1 : j = i
          · simp only [if_pos c1] at m; cases m
          · simp only [if_neg c1] at m
            rcases z with z | z
            · exact r.zd j a m z
            · exact c1 (r.dis j i a m z)
        · rcases z with z | z
          · exact r.zh a z
          · exact mut_some (o.here a z)
      have f1 : Fr Z F H (fun a => Z a ∨ a ∈ F i) (fun j => if j = i then [] else F j) H := ⟨fun a o h _ => h, fun a o h => ⟨o, h⟩, fun a z => .inl z, fun a z => z.elim .inl fun m => .inr (.inr ⟨i, m⟩), fun j a m => by
        by_cases c1 : j = i
        · simp only [if_pos c1] at m; cases m
        · simp only [if_neg c1] at m; exact .inr ⟨j, m⟩⟩
      exact St_mono f1 (fun _ _ => rfl) r1 e1 k
    · cases q
  · rename_i h
    split at e1
    · rename_i d hd
      exact (h (δ.set i (some d.fz)) (by simp only [hd])).elim
    · cases e1
/-- a slot given up ahead of a block -/
theorem dss_frz {sts : List Stmt} {m : MS} (i : Nat) (h : DSs X pn sts m) : DSs X pn sts (mseq (mfreeze i) m) := wSs h frz_rd
theorem ds_frz {st : Stmt} {m : MS} (i : Nat) (h : DS X pn st m) : DS X pn st (mseq (mfreeze i) m) := wS h frz_rd

/-! ### stores -/
theorem PSet.or {t t' : TSet} (h : PSet X t) (h' : PSet X t') : PSet X (fun o i v H Q => t o i v H Q ∨ t' o i v H Q) := fun pins s σ H o i v ov iv u Q I r1 r2 r3 q => by
  rcases q with q | q
  · exact h pins s σ H o i v ov iv u Q I r1 r2 r3 q
  · exact h' pins s σ H o i v ov iv u Q I r1 r2 r3 q
def rSetAll : TSet := fun o i v H Q => rSetL o i v H Q ∨ rSetD o i v H Q
theorem set_all (hu : X.A.units + 1 < cLine) : PSet X rSetAll := PSet.or set_list (set_dict hu)
def repD {κ : Type} [DecidableEq κ] : List κ → List D → κ → D → List D
  | k :: ks, d :: ds, x, y => (if k = x then y else d) :: repD ks ds x y
  | _, ds, _, _ => ds
def putDk {κ : Type} [DecidableEq κ] (ks : List κ) (ds : List D) (x : κ) (y : D) : List κ × List D := if x ∈ ks then (ks, repD ks ds x y) else (ks ++ [x], ds ++ [y])
theorem repD_own {κ : Type} [DecidableEq κ] {K : PySem.W.Frag} {Z : Addr → Prop} {H : Hp} {x : κ} {y : D} {v : V} (oy : Own K Z H y [] v) : ∀ {kvs : List (κ × V)} {ds : List D} {G : List Addr}, Owns K Z H ds G (kvs.map (·.2)) →
    ∃ G', Owns K Z H (repD (kvs.map (·.1)) ds x y) G' ((kvs.map fun kv => if kv.1 = x then (kv.1, v) else kv).map (·.2)) ∧ G'.Sublist G
  | [], [], _, h => ⟨_, by simpa [repD] using h, .refl _⟩
  | [], _ :: _, _, h => by
    simp only [List.map_nil, Owns] at h
    obtain ⟨v, ws, F1, F2, e, _⟩ := h
    cases e
  | p :: kvs, [], _, h => by
    simp only [List.map_cons, Owns] at h
    cases h.1
  | p :: kvs, d :: ds, _, h => by
    simp only [List.map_cons, Owns] at h
    obtain ⟨u, ws, F1, F2, e, rfl, o1, o2⟩ := h
    cases e
    obtain ⟨G', i1, i2⟩ := repD_own (x := x) oy o2
    simp only [List.map_cons, repD]
    by_cases c : p.1 = x
    · simp only [if_pos c, Owns]
      exact ⟨G', ⟨v, _, [], G', rfl, rfl, oy, i1⟩, i2.trans (List.sublist_append_right _ _)⟩
    · simp only [if_neg c, Owns]
      exact ⟨F1 ++ G', ⟨p.2, _, F1, G', rfl, rfl, o1, i1⟩, (List.Sublist.refl F1).append i2⟩
theorem putDk_own {κ : Type} [DecidableEq κ] {K : PySem.W.Frag} {Z : Addr → Prop} {H : Hp} {x : κ} {y : D} {v : V} (oy : Own K Z H y [] v) {kvs : List (κ × V)} {ds : List D} {G : List Addr} (h : Owns K Z H ds G (kvs.map (·.2))) :
    ∃ G', (putK kvs x v).map (·.1) = (putDk (kvs.map (·.1)) ds x y).1 ∧ Owns K Z H (putDk (kvs.map (·.1)) ds x y).2 G' ((putK kvs x v).map (·.2)) ∧ G'.Sublist G := by
  unfold putDk putK
  have e : (kvs.any fun kv => decide (kv.1 = x)) = decide (x ∈ kvs.map (·.1)) := by
    rw [Bool.eq_iff_iff]
    simp only [List.any_eq_true, decide_eq_true_eq, List.mem_map]
  rw [e]
  by_cases c : x ∈ kvs.map (·.1)
  · rw [if_pos c, if_pos (decide_eq_true c)]
    obtain ⟨G', i1, i2⟩ := repD_own (x := x) oy h
    refine ⟨G', ?_, i1, i2⟩
    rw [List.map_map]
    refine List.map_congr_left fun p _ => ?_
    simp only [Function.comp]
    split <;> rfl
  · rw [if_neg c, if_neg (by simp [c])]
    refine ⟨G, by simp, ?_, .refl _⟩
    have := h.append (Owns.one oy)
    simpa using this
def setD : D → List D → Option (D × D)
  | .lst true ds, [.int k, x] => (ixN ds.length k).map fun j => (.non, .lst true (ds.set j x))
  | .dK true ks ds, [y, x] => (keyD y).bind fun k => if ks.length < sizeLine ∧ x.isFz = true then some (.non, .dK true (putDk ks ds k x).1 (putDk ks ds k x).2) else none
  | .dT true ks ds, [.tup ys, x] => (keysD ys).bind fun k => if ks.length < sizeLine ∧ x.isFz = true then some (.non, .dT true (putDk ks ds k x).1 (putDk ks ds k x).2) else none
  | _, _ => none
theorem Owns.setV {K : PySem.W.Frag} {Z : Addr → Prop} {H : Hp} : ∀ {ds : List D} {F : List Addr} {vs : List V} {j : Nat}, Owns K Z H ds F vs → j < ds.length → ∃ A B G, F = A ++ G ++ B ∧
    ∀ {Z' H' d' G' v'}, Keep Z Z' H H' (A ++ B) → Own K Z' H' d' G' v' → Owns K Z' H' (ds.set j d') (A ++ G' ++ B) (vs.set j v')
  | [], _, _, _, _, e => by simp at e
  | d :: ds, _, _, 0, h, e => by
    simp only [Owns] at h
    obtain ⟨v, ws, F1, F2, rfl, rfl, o1, o2⟩ := h
    refine ⟨[], F2, F1, by simp, fun {Z' H' d' G' v'} k o => ?_⟩
    simp only [List.set_cons_zero, Owns, List.nil_append]
    exact ⟨v', ws, G', F2, rfl, rfl, o, o2.keep (k.sub (by simp))⟩
  | d :: ds, _, _, j + 1, h, e => by
    simp only [Owns] at h
    obtain ⟨v, ws, F1, F2, rfl, rfl, o1, o2⟩ := h
    obtain ⟨A, B, G, rfl, q3⟩ := Owns.setV (j := j) o2 (by simpa using e)
    refine ⟨F1 ++ A, B, G, by simp, fun {Z' H' d' G' v'} k o => ?_⟩
    simp only [List.set_cons_succ, Owns]
    refine ⟨v, _, F1, A ++ G' ++ B, rfl, by simp, o1.keep (k.sub fun a m => by simp [m]), q3 (k.sub fun a m => ?_) o⟩
    rcases List.mem_append.mp m with m | m
    · simp [m]
    · simp [m]
/-- a result: one object changed, its tree's things fewer or the arguments' -/
theorem sub_nodup {a : Addr} {A B G G3 : List Addr} (nd : ((a :: (A ++ G ++ B)) ++ G3).Nodup) : ((a :: (A ++ G3 ++ B))).Nodup ∧ ∀ b ∈ a :: (A ++ G3 ++ B), b ∈ (a :: (A ++ G ++ B)) ++ G3 := by
  obtain ⟨n1, n2, n3⟩ := List.nodup_append.mp nd
  obtain ⟨n4, n5⟩ := List.nodup_cons.mp n1
  obtain ⟨n6, nB, n7⟩ := List.nodup_append.mp n5
  obtain ⟨nA, nG, n8⟩ := List.nodup_append.mp n6
  refine ⟨List.nodup_cons.mpr ⟨fun m => ?_, List.nodup_append.mpr ⟨List.nodup_append.mpr ⟨nA, n2, ?_⟩, nB, ?_⟩⟩, fun b m => ?_⟩
  · rcases List.mem_append.mp m with m | m
    · rcases List.mem_append.mp m with m | m
      · exact n4 (by simp [m])
      · exact n3 a (by simp) a m rfl
    · exact n4 (by simp [m])
  · rintro b m1 _ m2 rfl
    exact n3 b (by simp [m1]) b m2 rfl
  · rintro b m1 _ m2 rfl
    rcases List.mem_append.mp m1 with m1 | m1
    · exact n7 b (by simp [m1]) b m2 rfl
    · exact n3 b (by simp [m2]) b m1 rfl
  · simp only [List.mem_cons, List.mem_append] at m ⊢
    rcases m with m | (m | m) | m <;> simp [m]
def rSetM : V → List V → Hp → VK → Prop := fun o xs H Q => ∃ y x, xs = [y, x] ∧ rSetAll o y x H fun H' => Q .non H'
theorem mo_set {K : PySem.W.Frag} : MutOk K rSetM setD := by
  intro Z H v c G xs ds Gx res c' Q oc ox nd nz e k
  unfold setD at e
  split at e
  · rename_i es n x
    rw [Option.map_eq_some_iff] at e
    obtain ⟨j, e1, e2⟩ := e
    cases e2
    simp only [Own] at oc
    obtain ⟨a, vs, G0, rfl, s, rfl, o⟩ := oc
    simp only [Owns] at ox
    obtain ⟨y, ws, G1, G2, rfl, rfl, o1, z, ws2, G3, G4, rfl, rfl, o2, rfl, rfl⟩ := ox
    obtain ⟨h1, rfl⟩ := own_int o1
    subst h1
    have mu : Mut (H a) := by rw [s]; trivial
    have za : ¬ Z a := nz a (by simp)
    obtain ⟨A, B, G', rfl, back⟩ := o.setV (ixN_seq e1).2.1
    simp only [List.nil_append, List.append_nil] at nd nz k
    obtain ⟨s1, s2⟩ := sub_nodup nd
    obtain ⟨n1, n2, n3⟩ := List.nodup_append.mp nd
    have n4 := (List.nodup_cons.mp n1).1
    refine ⟨.int n, z, rfl, .inl ⟨a, vs, n, j, rfl, rfl, s, by rw [← o.length]; exact e1, k a _ .non [] (a :: (A ++ G3 ++ B)) rfl (by simp) (by simp [Own]) ?_ (by simpa using s1) (fun b m => s2 b (by simpa using m))⟩⟩
    simp only [Own]
    refine ⟨a, _, _, rfl, upd_same, rfl, back (keep_upd mu za fun m => n4 ?_) (o2.keep (keep_upd mu za fun m => n3 a (by simp) a m rfl))⟩
    rcases List.mem_append.mp m with m | m <;> simp [m]
  · rename_i ks es y0 x
    rw [Option.bind_eq_some_iff] at e
    obtain ⟨key, e1, e2⟩ := e
    split at e2
    case isFalse => cases e2
    rename_i hz
    cases e2
    simp only [Own] at oc
    obtain ⟨a, kvs, G0, rfl, s, rfl, rfl, o⟩ := oc
    simp only [Owns] at ox
    obtain ⟨y, ws, G1, G2, rfl, rfl, o1, z, ws2, G3, G4, rfl, rfl, o2, rfl, rfl⟩ := ox
    have e3 := Own.nil hz.2 o2
    subst e3
    have mu : Mut (H a) := by rw [s]; trivial
    have za : ¬ Z a := nz a (by simp)
    obtain ⟨nG, nx, nn⟩ := List.nodup_append.mp nd
    have n4 := (List.nodup_cons.mp nG).1
    obtain ⟨G', i1, i2, i3⟩ := putDk_own (x := key) o2 o
    refine ⟨y, z, rfl, .inr ⟨a, _, rfl, .inl ⟨kvs, key, s, keyD_own o1 e1, by rw [List.length_map] at hz; exact hz.1, rfl⟩, k a _ .non [] (a :: G') rfl (by simp) (by simp [Own]) ?_ ?_ ?_⟩⟩
    · simp only [Own]
      exact ⟨a, _, G', rfl, upd_same, i1, rfl, i2.keep (keep_upd mu za fun m => n4 (i3.subset m))⟩
    · simpa using nG.sublist (i3.cons₂ a)
    · intro b m
      simp only [List.nil_append, List.mem_cons] at m
      rcases m with m | m
      · simp [m]
      · simp [i3.subset m]
  · rename_i ks es ys x
    rw [Option.bind_eq_some_iff] at e
    obtain ⟨key, e1, e2⟩ := e
    split at e2
    case isFalse => cases e2
    rename_i hz
    cases e2
    simp only [Own] at oc
    obtain ⟨a, kvs, G0, rfl, s, rfl, rfl, o⟩ := oc
    simp only [Owns] at ox
    obtain ⟨y, ws, G1, G2, rfl, rfl, o1, z, ws2, G3, G4, rfl, rfl, o2, rfl, rfl⟩ := ox
    have e3 := Own.nil hz.2 o2
    subst e3
    obtain ⟨b, us, rfl, s4, o4⟩ := own_tup o1
    have mu : Mut (H a) := by rw [s]; trivial
    have za : ¬ Z a := nz a (by simp)
    obtain ⟨nG, nx, nn⟩ := List.nodup_append.mp nd
    have n4 := (List.nodup_cons.mp nG).1
    obtain ⟨G', i1, i2, i3⟩ := putDk_own (x := key) o2 o
    refine ⟨.ref b, z, rfl, .inr ⟨a, _, rfl, .inr ⟨kvs, key, b, s, rfl, by rw [← keysD_own o4 e1]; exact s4, by rw [List.length_map] at hz; exact hz.1, rfl⟩, k a _ .non [] (a :: G') rfl (by simp) (by simp [Own]) ?_ ?_ ?_⟩⟩
    · simp only [Own]
      exact ⟨a, _, G', rfl, upd_same, i1, rfl, i2.keep (keep_upd mu za fun m => n4 (i3.subset m))⟩
    · simpa using nG.sublist (i3.cons₂ a)
    · intro b m
      simp only [List.nil_append, List.mem_cons] at m
      rcases m with m | m
      · simp [m]
      · simp [i3.subset m]
  · cases e
/-- P[e] = value, P.f = value: the value first, then the place, then the index; place and index do nothing -/
def mput (i : Nat) (f : D → List D → Option (D × D)) (me : M D) (ps : M (List Stp)) (ms : M (List D)) : MS := fun δ => match me δ with
  | some (x, δ1) => (match ps δ1 with
    | some (ss, δ2) => if placeOk i ss δ2 = true then (match ms δ2 with
      | some (ys, δ3) => (match δ3[i]? with
        | some (some d) => (d.getP ss).bind fun c => (f c (ys ++ [x])).bind fun p => (d.putP ss p.2).map fun d' => (.nx, δ3.set i (some d'))
        | _ => none)
      | none => none)
      else none
    | none => none)
  | none => none
theorem put_core {te : List Nat} {i : Nat} {r : V → List V → Hp → VK → Prop} {f : D → List D → Option (D × D)} {me : M D} {ps : M (List Stp)} {ms : M (List D)} (hr : MutOk X.K r f) {W : Ends} {σ : St} {H : Hp} {Z : Addr → Prop} {F : Fp} {δ δ' : En} {fl : Fl} (rl : Rel X.K Z F δ σ H) (e1 : mput i f me ps ms δ = some (fl, δ'))
    (k : ∀ σ' H' Z' F', Rel X.K Z' F' δ' σ' H' → Fr Z F H Z' F' H' → (∀ i ∈ pn, σ'[i]? = σ[i]?) → Fin X.K X.mg (wX X) W F H Z' F' fl σ' H') :
    ∃ x δ1, me δ = some (x, δ1) ∧ ∀ xv H1 Z1 F1 Gx, Rel X.K Z1 F1 δ1 σ H1 → Fr Z F H Z1 F1 H1 → Tch te F δ H F1 δ1 H1 → Own X.K Z1 H1 x Gx xv → (true = true → New F H Z1 F1 Gx) →
      tGp X.K [] i ps σ H1 fun o H2 => tGa X.K [] ms σ H2 fun ys H3 => r o (ys ++ [xv]) H3 fun _ H4 => W.nx σ H4 := by
  unfold mput at e1
  split at e1
  case h_2 => cases e1
  rename_i x δ1 q1
  split at e1
  case h_2 => cases e1
  rename_i ss δ2 q2
  split at e1
  case isFalse => cases e1
  rename_i hpl
  split at e1
  case h_2 => cases e1
  rename_i ys δ3 q3
  split at e1
  case h_2 => cases e1
  rename_i d hd
  rw [Option.bind_eq_some_iff] at e1
  obtain ⟨c, q4, e1⟩ := e1
  rw [Option.bind_eq_some_iff] at e1
  obtain ⟨⟨res, c'⟩, q5, e1⟩ := e1
  rw [Option.map_eq_some_iff] at e1
  obtain ⟨d', q6, e1⟩ := e1
  cases e1
  refine ⟨x, δ1, q1, fun xv H1 Z1 F1 Gx r1 f1 t1 ox nx => ⟨Z1, F1, δ1, ss, δ2, r1, q2, placeOk_some hpl, fun v H2 Z2 F2 r2 f2 t2 ⟨v0, d1, c1, h1, h2, h3, h4⟩ => ?_⟩⟩
  obtain ⟨rfl, rfl, s2⟩ := Tch.nil r1 f2 t2
  refine ⟨Z2, F2, δ2, ys, δ3, r2, q3, fun vs H3 Z3 F3 Gy r3 f3 t3 oy ny => ?_⟩
  obtain ⟨rfl, rfl, s3⟩ := Tch.nil r2 f3 t3
  rw [hd] at h2
  cases h2
  rw [q4] at h3
  cases h3
  have nx := nx rfl
  have s13 : Same H1 H3 := s2.trans s3
  have f13 := f2.trans f3
  have ox3 := ox.keep (same_keep s13 f13.zup _)
  obtain ⟨A, B, G, hF, oc, back⟩ := h4.keep (same_keep s3 f3.zup _)
  have nF := r3.nd i
  rw [hF] at nF
  obtain ⟨n1, nB, n2'⟩ := List.nodup_append.mp nF
  obtain ⟨nA, nG, n3⟩ := List.nodup_append.mp n1
  have inF : ∀ b ∈ G, b ∈ F3 i := fun b m => by rw [hF]; simp [m]
  have nyx := New.app r1 f1 f13 (fun a m => mut_some (ox.here a m)) nx (ny.back f2)
  have ngx : (G ++ (Gy ++ Gx)).Nodup := by
    obtain ⟨m1, m2, m3⟩ := List.nodup_append.mp nyx.nd
    refine List.nodup_append.mpr ⟨nG, List.nodup_append.mpr ⟨m2, m1, fun a p b q e => m3 b q a p e.symm⟩, ?_⟩
    rintro a p _ q rfl
    rcases List.mem_append.mp q with q | q
    · exact nyx.fd a (List.mem_append_right _ q) i (inF a p)
    · exact nyx.fd a (List.mem_append_left _ q) i (inF a p)
  have swap : ∀ a, a ∈ Gy ++ Gx → a ∈ Gx ++ Gy := fun a m => List.mem_append.mpr ((List.mem_append.mp m).symm)
  refine hr oc (oy.append (Owns.one ox3)) ngx (fun b m z => ?_) q5 fun a o vr Gr G' hv ha orr oc' hn hs => ?_
  · rcases List.mem_append.mp m with m | m
    · exact r3.zd i b (inF b m) z
    · exact nyx.zd b (swap b m) z
  · have od := back (keep_upd (r3.mut (inF a ha)) (r3.zd i a (inF a ha)) fun m => ?_) oc' q6
    · have nyx' : New F H Z3 F3 (Gy ++ Gx) := ⟨(List.nodup_append.mp ngx).2.1, fun b m => nyx.zd b (swap b m), fun b m => nyx.fd b (swap b m), fun b m => nyx.from' b (swap b m)⟩
      obtain ⟨F4, r4, f4, t4, n4⟩ := mut_end r3 (f1.trans f13) ((t1.trans t2).trans t3) rl hd h1 hF nyx' ha od orr hn hs
      exact k σ _ Z3 F4 r4 f4 fun _ _ => rfl
    · rcases List.mem_append.mp m with m | m
      · exact n3 a m a ha rfl
      · exact n2' a (List.mem_append_right _ ha) a m rfl
theorem put_rd {te : List Nat} {i : Nat} {r : V → List V → Hp → VK → Prop} {f : D → List D → Option (D × D)} {me : M D} {ps : M (List Stp)} {ms : M (List D)} (hr : MutOk X.K r f) : ∀ D σ H, tSt X pn (mput i f me ps ms) D σ H →
    tG X.K te true me σ H fun x H1 => tGp X.K [] i ps σ H1 fun o H2 => tGa X.K [] ms σ H2 fun ys H3 => r o (ys ++ [x]) H3 fun _ H4 => D.nx σ H4 := fun D σ H ⟨Z, F, δ, fl, δ', rl, e1, k⟩ => by
  obtain ⟨x, δ1, q1, h⟩ := put_core (te := te) hr rl e1 k
  exact ⟨Z, F, δ, x, δ1, rl, q1, h⟩
theorem ds_setix {o' ix value : Expr} {p' : Pos} {te tp ti : List Nat} {i : Nat} {me my : M D} {ps : M (List Stp)} (hu : X.A.units + 1 < cLine) (ho : DP X o' tp i ps) (hi : DE X ix ti true my) (hv : DE X value te true me) (htp : tp = [] := by rfl) (hti : ti = [] := by rfl)
    (ha : ∀ v, assign (.Subscript o' ix p') X.env v = (do
      let ov ← holding [v] (eval o' X.env)
      let iv ← holding [v, ov] (eval ix X.env)
      standAt p'
      holding [v, ov, iv] (setItem ov iv v)
      release [v, ov, iv] []) := by intro _; rfl)
    (hs : swapsWithSole [.Subscript o' ix p'] value pos.line X.env = pure false := by rfl) (hw : swappedStores [.Subscript o' ix p'] value X.env = pure none := by rfl)
    (h1 : (assignEach [.Subscript o' ix p'] X.env).map (·.2) = [assign (.Subscript o' ix p') X.env] := by rfl) : DS X pn (.Assign [.Subscript o' ix p'] value pos) (mput i setD me ps (mcons my mnil)) := by
  subst htp hti
  exact wS (ps_asg hv (pg_sub ho hi (set_all hu) ha) hs hw h1) fun D σ H h => by
    obtain ⟨Z, F, δ, x, δ1, rl, q1, k1⟩ := put_rd (te := te) mo_set D σ H h
    refine ⟨Z, F, δ, x, δ1, rl, q1, fun xv H1 Z1 F1 Gx r1 f1 t1 ox nx => ?_⟩
    obtain ⟨Z2, F2, δ2, ss, δ3, r2, q2, hp, k2⟩ := k1 xv H1 Z1 F1 Gx r1 f1 t1 ox nx
    refine ⟨Z2, F2, δ2, ss, δ3, r2, q2, hp, fun v H2 Z3 F3 r3 f3 t3 hh => ?_⟩
    obtain ⟨Z4, F4, δ4, ys, δ5, r4, q4, k4⟩ := k2 v H2 Z3 F3 r3 f3 t3 hh
    unfold mcons at q4
    rw [mbind_some] at q4
    obtain ⟨y, δ6, q4, q5⟩ := q4
    rw [mbind_some] at q5
    obtain ⟨ys', δ7, q5, q6⟩ := q5
    unfold mnil at q5
    rw [mk_some] at q5 q6
    obtain ⟨rfl, rfl⟩ := q5
    obtain ⟨rfl, rfl⟩ := q6
    refine ⟨Z4, F4, δ4, y, δ5, r4, q4, fun yv H3 Z5 F5 G5 r5 f5 t5 o5 n5 => ?_⟩
    obtain ⟨y1, x1, e, q⟩ := k4 [yv] H3 Z5 F5 G5 r5 f5 t5 (Owns.one o5) (n5 rfl)
    cases e
    exact q
end
end TL
set_option Elab.async false
set_option linter.all false
set_option maxRecDepth 100000
set_option maxHeartbeats 4000000
/-! T11: more of the same. -/
namespace TL
open PySem PySem.Spec L2

section
variable {X : Cx} {pn : List Nat} {e : Expr} {pos : Pos}
/-! ### chains -/
def mchain (f g : D → D → Option D) (a b c : M D) : M D := mbind a fun x => mbind b fun y => mbind (mopt (f x y)) fun k => match k with
  | .bl true => mbind c fun z => mopt (g y z)
  | .bl false => mk (.bl false)
  | _ => fun _ => none
theorem chain_rd {fr1 fr2 fr3 : Bool} {m1 m2 m3 : M D} {r r' : R2} {f g : D → D → Option D} (hr : R2D X.K r f) (hr' : R2D X.K r' g) : ∀ σ H Q, tG X.K [] true (mchain f g m1 m2 m3) σ H Q → tChain r r' (tG X.K [] fr1 m1) (tG X.K [] fr2 m2) (tG X.K [] fr3 m3) σ H Q := fun σ H Q ⟨Z, F, δ, d, δ', rl, e1, k⟩ => by
  unfold mchain at e1
  rw [mbind_some] at e1
  obtain ⟨x, δ1, e1, e2⟩ := e1
  rw [mbind_some] at e2
  obtain ⟨y, δ2, e2, e3⟩ := e2
  rw [mbind_some] at e3
  obtain ⟨kd, δ3, e3, e4⟩ := e3
  rw [mopt_some] at e3
  obtain ⟨e3, rfl⟩ := e3
  refine ⟨Z, F, δ, x, δ1, rl, e1, fun v H1 Z1 F1 G1 r1 f1 t1 o1 n1 => ⟨Z1, F1, δ1, y, δ3, r1, e2, fun w H2 Z2 F2 G2 r2 f2 t2 o2 n2 => ?_⟩⟩
  obtain ⟨rfl, rfl, s1⟩ := Tch.nil rl f1 t1
  obtain ⟨rfl, rfl, s2⟩ := Tch.nil r1 f2 t2
  have o1' := o1.keep (same_keep s2 f2.zup _)
  refine hr r2 o1' o2 e3 fun u H3 Z3 G3 r3 f3 s3 o3 n3 => ?_
  split at e4
  · refine ⟨true, (own_bl o3).1, iteT ?_⟩
    rw [mbind_some] at e4
    obtain ⟨z, δ4, e4, e5⟩ := e4
    rw [mopt_some] at e5
    obtain ⟨e5, rfl⟩ := e5
    refine ⟨Z3, F2, δ3, z, δ', r3, e4, fun t H4 Z4 F4 G4 r4 f4 t4 o4 n4 => ?_⟩
    obtain ⟨rfl, rfl, s4⟩ := Tch.nil r3 f4 t4
    have o2' := (o2.keep (same_keep s3 f3.zup _)).keep (same_keep s4 f4.zup _)
    refine hr' r4 o2' o4 e5 fun u' H5 Z5 G5 r5 f5 s5 o5 n5 => ?_
    have ff := ((f1.trans f2).trans f3).trans f4
    exact k u' H5 Z5 F4 G5 r5 (ff.trans f5) (Tch.refl.more rl ((((s1.trans s2).trans s3).trans s4).trans s5)) o5 fun _ => n5.back ff
  · rw [mk_some] at e4
    obtain ⟨rfl, rfl⟩ := e4
    refine ⟨false, (own_bl o3).1, iteF ?_⟩
    exact k _ H3 Z3 F2 [] r3 ((f1.trans f2).trans f3) (Tch.refl.more rl ((s1.trans s2).trans s3)) (by simp [Own]) fun _ => New.nil
  · cases e4
theorem de_chain {op op' : CmpOp} {a b c : Expr} {fr1 fr2 fr3 : Bool} {t1 t2 t3 : List Nat} {m1 m2 m3 : M D} {r r' : R2} {f g : D → D → Option D} (ho : OpR X (compareOp op) r) (ho' : OpR X (compareOp op') r') (hr : R2D X.K r f) (hr' : R2D X.K r' g) (ha : DE X a t1 fr1 m1) (hb : DE X b t2 fr2 m2) (hc : DE X c t3 fr3 m3)
    (h1 : t1 = [] := by rfl) (h2 : t2 = [] := by rfl) (h3 : t3 = [] := by rfl) (hm : lastMarks [op, op'] [b, c] = false := by with_unfolding_all rfl) : DE X (.Compare a [op, op'] [b, c] pos) [] true (mchain f g m1 m2 m3) := by
  subst h1 h2 h3
  exact wE (pe_chain ho ho' ha hb hc hm) (chain_rd hr hr')
theorem dt_chain {op op' : CmpOp} {a b c : Expr} {fr1 fr2 fr3 : Bool} {t1 t2 t3 : List Nat} {m1 m2 m3 : M D} {r r' : R2} {f g : D → D → Option D} (ho : OpR X (compareOp op) r) (ho' : OpR X (compareOp op') r') (hr : R2D X.K r f) (hr' : R2D X.K r' g) (ha : DE X a t1 fr1 m1) (hb : DE X b t2 fr2 m2) (hc : DE X c t3 fr3 m3)
    (h1 : t1 = [] := by rfl) (h2 : t2 = [] := by rfl) (h3 : t3 = [] := by rfl) (hm : lastMarks [op, op'] [b, c] = false := by with_unfolding_all rfl) : DT X (.Compare a [op, op'] [b, c] pos) [] (mtest (mchain f g m1 m2 m3)) := by
  subst h1 h2 h3
  exact dt_of (fr := true) (wT (pt_chain ho ho' ha hb hc hm) fun σ H Q h => chain_rd hr hr' σ H _ h)

/-! ### list(range(..)) -/
theorem rg_own {K : PySem.W.Frag} {Z : Addr → Prop} {H : Hp} (lo : Int) : ∀ (l : List Nat), Owns K Z H (l.map fun i => D.int (lo + (i : Nat))) [] (l.map fun i => V.int (lo + (i : Nat)))
  | [] => by simp [Owns]
  | i :: l => by
    simp only [List.map_cons, Owns]
    exact ⟨_, _, [], [], rfl, rfl, by simp [Own], rg_own lo l⟩
def listRgD : D → Option D
  | .int n => if in62 n = true ∧ Nat.ble n.toNat 16777216 = true then some (.lst true (rgD 0 n.toNat)) else none
  | _ => none
theorem de_listRg1 {a : Expr} {p p2 q : Pos} {t : List Nat} {fr : Bool} {m : M D} (hm : X.mg "list" = none) (hm2 : X.mg "range" = none) (ha : DE X a t fr m) (hc : X.calm = true := by rfl) (hg : Gl X "list" := by rfl) (hg2 : Gl X "range" := by rfl)
    (na : starEach [a] X.env = (false, eval a X.env) :: starEach [] X.env := by rfl) (nb : starEach [.Call (.Name "range" p2) [a] [] q] X.env = (false, eval (.Call (.Name "range" p2) [a] [] q) X.env) :: starEach [] X.env := by rfl) :
    DE X (.Call (.Name "list" p) [.Call (.Name "range" p2) [a] [] q] [] pos) t true (mop1 listRgD m) :=
  wE (pe_listRg hc hg hm (prg_1 hg2 hm2 ha na) nb) fun σ H Q h => op1_rd (r := fun x H1 Q => ∃ n, x = .int n ∧ (RgOk 0 n ∧ ∀ q, H1 q = none → Q (.ref q) (upd H1 q (.lst (rgV 0 n))))) (fun {Z F δ σ H x dx d Fx Q} rl ox e k => by
    cases dx <;> simp only [listRgD] at e <;> try cases e
    split at e
    · rename_i n hn
      cases e
      have h1 := (in62_iff _).mp hn.1
      have h2 := Nat.ble_eq.mp hn.2
      refine ⟨n, (own_int ox).1, ⟨by omega, by omega, by omega, by omega, by omega⟩, ?_⟩
      have e1 : rgD 0 n.toNat = (List.range n.toNat).map fun i => D.int (0 + (i : Nat)) := rfl
      have e2 : rgV 0 n = (List.range n.toNat).map fun i => V.int (0 + (i : Nat)) := by unfold rgV; rw [Int.sub_zero]
      rw [e2]
      exact fin_lst rl k (rg_own 0 _)
    · cases e) σ H Q h
/-! ### {} -/
theorem de_dnewK : DE X (.Dict [] [] pos) [] true (mk (.dK true [] [])) := wE pe_dnewK fun σ H Q ⟨Z, F, δ, d, δ', r, e1, k⟩ => by
  rw [mk_some] at e1
  obtain ⟨rfl, rfl⟩ := e1
  intro p hp
  refine k (.ref p) _ Z F [p] (r.new hp) (Fr.new hp) (Tch.refl.more r (same_upd hp)) ?_ fun _ => New.one r hp
  simp only [Own]
  exact ⟨p, [], [], rfl, upd_same, rfl, rfl, by simp [Owns]⟩
theorem de_dnewT : DE X (.Dict [] [] pos) [] true (mk (.dT true [] [])) := wE pe_dnewT fun σ H Q ⟨Z, F, δ, d, δ', r, e1, k⟩ => by
  rw [mk_some] at e1
  obtain ⟨rfl, rfl⟩ := e1
  intro p hp
  refine k (.ref p) _ Z F [p] (r.new hp) (Fr.new hp) (Tch.refl.more r (same_upd hp)) ?_ fun _ => New.one r hp
  simp only [Own]
  exact ⟨p, [], [], rfl, upd_same, rfl, rfl, by simp [Owns]⟩
/-! ### x += e for ints -/
def addI : D → D → Option D := iop (fun _ _ => true) fun i j => i + j
theorem r_addI {K : PySem.W.Frag} : R2D K (rI0 fun i j => .int (i + j)) addI := rd_int0
/-! ### xs.index(y) -/
def findD (x : D) : List D → Option Nat
  | [] => none
  | d :: ds => if D.eqv d x = true then some 0 else (findD x ds).map (· + 1)
theorem findD_some {x : D} : ∀ {ds : List D} {j : Nat}, findD x ds = some j → ∃ z, ds[j]? = some z ∧ D.eqv z x = true ∧ ∀ (m : Nat) z', m < j → ds[m]? = some z' → D.eqv z' x = false
  | [], _, e => by simp [findD] at e
  | d :: ds, j, e => by
    unfold findD at e
    split at e
    · rename_i h
      cases e
      exact ⟨d, rfl, h, fun m z' hm => by omega⟩
    · rename_i h
      rw [Option.map_eq_some_iff] at e
      obtain ⟨i, e, rfl⟩ := e
      obtain ⟨z, h1, h2, h3⟩ := findD_some e
      refine ⟨z, by simpa using h1, h2, fun m z' hm hz => ?_⟩
      cases m with
      | zero =>
        simp at hz
        subst hz
        simpa using h
      | succ m => exact h3 m z' (by omega) (by simpa using hz)
def lindexD (x y : D) : Option D := match x with
  | .lst o ds => if y.ok = true ∧ x.ok = true then (findD y ds).map (fun (j : Nat) => D.int (j : Int)) else none
  | _ => none
theorem bm1_rd {K : PySem.W.Frag} {T : String} {p1 p2 : List Nat} {fr1 fr2 : Bool} {m1 m2 : M D} {r : V → List V → Hp → VK → Prop} {f : D → D → Option D} (hr : R2D K (fun x y H Q => r x [y] H Q) f) (hty : ∀ {Z H c G v y d}, Own K Z H c G v → f c y = some d → tyV K T v H) (c : (p2.isEmpty || fr1) = true) :
    ∀ σ H Q, tG K (p1 ++ p2) true (mop2 f m1 m2) σ H Q → tBM K T r (tG K p1 fr1 m1) (tCons (tG K p2 fr2 m2) tNil) σ H Q := fun σ H Q ⟨Z, F, δ, d, δ', rl, e1, k⟩ => by
  unfold mop2 at e1
  rw [mbind_some] at e1
  obtain ⟨d1, δ1, e1, e2⟩ := e1
  rw [mbind_some] at e2
  obtain ⟨d2, δ2, e2, e3⟩ := e2
  rw [mopt_some] at e3
  obtain ⟨e3, rfl⟩ := e3
  refine ⟨Z, F, δ, d1, δ1, rl, e1, fun v H1 Z1 F1 G1 r1 f1 pu1 o1 n1 => ⟨hty o1 e3, Z1, F1, δ1, d2, δ', r1, e2, fun w H2 Z2 F2 G2 r2 f2 pu2 o2 n2 => ?_⟩⟩
  have o1' := o1.keep (hold r1 f2 pu2 (fun e => (n1 e).fd) c)
  exact hr r2 o1' o2 e3 fun u H3 Z3 G3 r3 f3 s3 o3 n3 => k u H3 Z3 F2 G3 r3 ((f1.trans f2).trans f3) ((pu1.trans pu2).more rl s3) o3 (fun _ => n3.back (f1.trans f2))
theorem r_lindex {K : PySem.W.Frag} : R2D K (fun x y H Q => rIndexD K x [y] H Q) lindexD := by
  intro Z F δ σ H x y dx dy d Fx Fy Q rl ox oy e k
  unfold lindexD at e
  split at e
  · rename_i o' ds
    split at e
    · rename_i hok
      rw [Option.map_eq_some_iff] at e
      obtain ⟨j, e1, rfl⟩ := e
      obtain ⟨z, h1, h2, h3⟩ := findD_some e1
      unfold D.ok at hok
      rw [Bool.and_eq_true, Bool.and_eq_true] at hok
      have dl := ox.dp hok.2.1
      obtain ⟨a', vs, G, rfl, s, o, _⟩ := own_lst ox
      refine ⟨a', y, dy.toPy, D.toPys ds, j, z.toPy, rfl, rfl, dl, oy.dp hok.1.1, hok.2.2, hok.1.2, ?_, h2, fun m z' hm hz => ?_, fin rl k rfl⟩
      · rw [toPys_map, List.getElem?_map, h1]; rfl
      · rw [toPys_map, List.getElem?_map, Option.map_eq_some_iff] at hz
        obtain ⟨w, hw, rfl⟩ := hz
        exact h3 m w hm hw
    · cases e
  · cases e
theorem de_lindex {o a : Expr} {apos cpos : Pos} {p1 p2 : List Nat} {fr1 fr2 : Bool} {m1 m2 : M D} (hu : X.A.units + 65 < cLine) (ho : DE X o p1 fr1 m1) (ha : DE X a p2 fr2 m2) (c : (p2.isEmpty || fr1) = true := by rfl) (hbase : attributeBase o "index" X.env (eval o X.env) = eval o X.env := by rfl)
    (hfew : ((backTo cpos (starEach [a] X.env)).all (fun x => !x.1) && (backToKw cpos (keywordEach [] X.env)).all (fun x => x.1.isSome)
      && decide (([a] : List Expr).length + ([] : List Keyword).length + (if ([] : List Keyword).isEmpty then 0 else 1) < 30)) = true := by rfl)
    (hline : (apos.endLine == cpos.line) = true := by rfl) (hs : starEach [a] X.env = (false, eval a X.env) :: starEach [] X.env := by rfl) (hplain : (backTo cpos (starEach [] X.env)).any (·.1) = false := by rfl) :
    DE X (.Call (.Attribute o "index" apos) [a] [] cpos) (p1 ++ p2) true (mop2 lindexD m1 m2) := wE (pe_bm PySem.F.plainAttrs_list PySem.F.slot_list_index PySem.F.type_list_index (mt_indexD hu) ho (pa_cons ha pa_nil hs) hbase hfew hline hs hplain) (bm1_rd r_lindex (fun {Z H c G v y d} o e => by
    unfold lindexD at e
    split at e
    · exact ty_lst (X := X) o rfl
    · cases e) c)
/-! ### d.get(k, x) -/
def get2D (x y z : D) : Option D := (dgetD x y).map fun o => o.getD z
theorem de_get2 {o a b : Expr} {apos cpos : Pos} {fr1 fr2 : Bool} {t1 t2 t3 : List Nat} {m1 m2 m3 : M D} (hu : X.A.units + 1 < cLine) (ho : DE X o t1 fr1 m1) (ha : DE X a t2 fr2 m2) (hb : DE X b t3 true m3) (h1 : t1 = [] := by rfl) (h2 : t2 = [] := by rfl) (h3 : t3 = [] := by rfl) (m : M2 X o "get" apos a b cpos := by exact ⟨rfl, rfl, rfl, rfl⟩) :
    DE X (.Call (.Attribute o "get" apos) [a, b] [] cpos) [] false (mop3 get2D m1 m2 m3) := by
  subst h1 h2 h3
  exact wE (pe_dget2 hu ho ha hb m) fun σ H Q ⟨Z, F, δ, d, δ', rl, e1, k⟩ => by
    unfold mop3 at e1
    rw [mbind_some] at e1
    obtain ⟨x, δ1, e1, e2⟩ := e1
    rw [mbind_some] at e2
    obtain ⟨y, δ2, e2, e3⟩ := e2
    rw [mbind_some] at e3
    obtain ⟨z, δ3, e3, e4⟩ := e3
    rw [mopt_some] at e4
    obtain ⟨e4, rfl⟩ := e4
    unfold get2D at e4
    rw [Option.map_eq_some_iff] at e4
    obtain ⟨ro, e4, rfl⟩ := e4
    refine ⟨Z, F, δ, x, δ1, rl, e1, fun v H1 Z1 F1 G1 r1 f1 t1 o1 n1 => ?_⟩
    obtain ⟨rfl, rfl, s1⟩ := Tch.nil rl f1 t1
    have isd : ∃ a, v = .ref a ∧ IsD H1 a := by
      unfold dgetD at e4
      split at e4
      · obtain ⟨a, kvs, G, rfl, s, _⟩ := own_dK o1
        exact ⟨a, rfl, .inl ⟨kvs, s⟩⟩
      · obtain ⟨a, kvs, G, rfl, s, _⟩ := own_dT o1
        exact ⟨a, rfl, .inr ⟨kvs, s⟩⟩
      · cases e4
    obtain ⟨a, rfl, ia⟩ := isd
    refine ⟨a, rfl, ia, Z1, F1, δ1, y, δ2, r1, e2, fun w H2 Z2 F2 G2 r2 f2 t2 o2 n2 => ?_⟩
    obtain ⟨rfl, rfl, s2⟩ := Tch.nil r1 f2 t2
    refine ⟨Z2, F2, δ2, z, δ', r2, e3, fun u H3 Z3 F3 G3 r3 f3 t3 o3 n3 => ?_⟩
    obtain ⟨rfl, rfl, s3⟩ := Tch.nil r2 f3 t3
    have o1' := (o1.keep (same_keep s2 f2.zup _)).keep (same_keep s3 f3.zup _)
    have o2' := o2.keep (same_keep s3 f3.zup _)
    obtain ⟨a', o, ha', g, _, hs, hk⟩ := dget_own o1' o2' e4
    cases ha'
    refine ⟨o, g, ?_⟩
    cases ro with
    | none =>
      have : o = none := by
        cases o with
        | none => rfl
        | some _ => simp at hs
      subst this
      exact k u H3 Z3 F3 G3 r3 ((f1.trans f2).trans f3) (Tch.refl.more rl ((s1.trans s2).trans s3)) o3 (fun e => nomatch e)
    | some d =>
      obtain ⟨v', G', rfl, q1, q2⟩ := hk d rfl
      exact k v' H3 Z3 F3 G' r3 ((f1.trans f2).trans f3) (Tch.refl.more rl ((s1.trans s2).trans s3)) q1 (fun e => nomatch e)
end
/-! ### pop -/
def popD : D → List D → Option (D × D)
  | .lst true ds, [] => (ds[ds.length - 1]?).map fun x => (x, .lst true ds.dropLast)
  | _, _ => none
def popAtD : D → List D → Option (D × D)
  | .lst true ds, [.int i] => if in62 i = true then (ixN ds.length i).bind fun k => (ds[k]?).map fun x => (x, .lst true (ds.eraseIdx k)) else none
  | _, _ => none
theorem Owns.split {K : PySem.W.Frag} {Z : Addr → Prop} {H : Hp} : ∀ {ds : List D} {F : List Addr} {vs : List V} {j : Nat} {d : D}, Owns K Z H ds F vs → ds[j]? = some d → ∃ A B G v, F = A ++ G ++ B ∧ vs[j]? = some v ∧ Own K Z H d G v ∧ Owns K Z H (ds.eraseIdx j) (A ++ B) (vs.eraseIdx j)
  | [], _, _, _, _, _, e => by simp at e
  | d :: ds, _, _, 0, _, h, e => by
    simp only [Owns] at h
    obtain ⟨v, ws, F1, F2, rfl, rfl, o1, o2⟩ := h
    simp at e
    subst e
    exact ⟨[], F2, F1, v, by simp, rfl, o1, by simpa using o2⟩
  | d :: ds, _, _, j + 1, _, h, e => by
    simp only [Owns] at h
    obtain ⟨v, ws, F1, F2, rfl, rfl, o1, o2⟩ := h
    obtain ⟨A, B, G, u, rfl, q1, q2, q3⟩ := Owns.split (j := j) o2 (by simpa using e)
    refine ⟨F1 ++ A, B, G, u, by simp, by simpa using q1, q2, ?_⟩
    simp only [List.eraseIdx_cons_succ, Owns]
    exact ⟨v, _, F1, A ++ B, rfl, by simp, o1, q3⟩
theorem pop_core {K : PySem.W.Frag} {Z : Addr → Prop} {H : Hp} {a : Addr} {ds : List D} {vs : List V} {G0 Gx : List Addr} {j : Nat} {x : D} {Q : VK} (s : H a = some (.lst vs)) (o : Owns K Z H ds G0 vs) (nd : ((a :: G0) ++ Gx).Nodup) (nz : ∀ b ∈ (a :: G0) ++ Gx, ¬ Z b) (e : ds[j]? = some x)
    (k : ∀ p u vr Gr G', V.ref a = .ref p → p ∈ a :: G0 → Own K Z (upd H p u) x Gr vr → Own K Z (upd H p u) (.lst true (ds.eraseIdx j)) G' (.ref a) → (Gr ++ G').Nodup → (∀ b ∈ Gr ++ G', b ∈ (a :: G0) ++ Gx) → Q vr (upd H p u)) : ∃ v, vs[j]? = some v ∧ Q v (upd H a (.lst (vs.eraseIdx j))) := by
  obtain ⟨A, B, G, v, rfl, q1, q2, q3⟩ := o.split e
  have mu : Mut (H a) := by rw [s]; trivial
  have za : ¬ Z a := nz a (by simp)
  obtain ⟨n1, _, _⟩ := List.nodup_append.mp nd
  obtain ⟨n2, n3⟩ := List.nodup_cons.mp n1
  obtain ⟨n4, nB, n5⟩ := List.nodup_append.mp n3
  obtain ⟨nA, nG, n6⟩ := List.nodup_append.mp n4
  refine ⟨v, q1, k a _ v G (a :: (A ++ B)) rfl (by simp) (q2.keep (keep_upd mu za fun m => n2 (by simp [m]))) ?_ ?_ ?_⟩
  · simp only [Own]
    exact ⟨a, _, A ++ B, rfl, upd_same, rfl, q3.keep (keep_upd mu za fun m => n2 (by rcases List.mem_append.mp m with m | m <;> simp [m]))⟩
  · refine List.nodup_append.mpr ⟨nG, List.nodup_cons.mpr ⟨fun m => n2 (by rcases List.mem_append.mp m with m | m <;> simp [m]), List.nodup_append.mpr ⟨nA, nB, fun p m q m2 => n5 p (by simp [m]) q m2⟩⟩, ?_⟩
    rintro p m _ m2 rfl
    rcases List.mem_cons.mp m2 with rfl | m2
    · exact n2 (by simp [m])
    · rcases List.mem_append.mp m2 with m2 | m2
      · exact n6 p m2 p m rfl
      · exact n5 p (by simp [m]) p m2 rfl
  · intro p m
    simp only [List.mem_append, List.mem_cons] at m ⊢
    rcases m with m | m | m | m <;> simp [m]
theorem mo_pop {K : PySem.W.Frag} : MutOk K rPop popD := by
  intro Z H v c G xs ds Gx res c' Q oc ox nd nz e k
  unfold popD at e
  split at e
  · rename_i es
    rw [Option.map_eq_some_iff] at e
    obtain ⟨x, e1, e2⟩ := e
    cases e2
    simp only [Own] at oc
    obtain ⟨a, vs, G0, rfl, s, rfl, o⟩ := oc
    simp only [Owns] at ox
    obtain ⟨rfl, rfl⟩ := ox
    have hd : es.dropLast = es.eraseIdx (es.length - 1) := by rw [List.eraseIdx_length_sub_one]
    have hv : vs.dropLast = vs.eraseIdx (es.length - 1) := by rw [o.length, List.eraseIdx_length_sub_one]
    rw [hd] at k
    obtain ⟨v, q1, q2⟩ := pop_core s o nd nz e1 k
    exact ⟨a, vs, v, rfl, rfl, s, by rw [← o.length]; exact q1, by rw [hv]; exact q2⟩
  · cases e
theorem mo_popAt {K : PySem.W.Frag} : MutOk K rPopAt popAtD := by
  intro Z H v c G xs ds Gx res c' Q oc ox nd nz e k
  unfold popAtD at e
  split at e
  · rename_i es i
    split at e
    · rename_i hi
      have hi := (in62_iff _).mp hi
      rw [Option.bind_eq_some_iff] at e
      obtain ⟨j, e0, e⟩ := e
      rw [Option.map_eq_some_iff] at e
      obtain ⟨x, e1, e2⟩ := e
      cases e2
      simp only [Own] at oc
      obtain ⟨a, vs, G0, rfl, s, rfl, o⟩ := oc
      simp only [Owns] at ox
      obtain ⟨w, ws, G1, G2, rfl, rfl, o1, rfl, rfl⟩ := ox
      obtain ⟨v, q1, q2⟩ := pop_core s o nd nz e1 k
      exact ⟨a, vs, i, j, v, rfl, by rw [(own_int o1).1], s, by omega, by omega, by rw [← o.length]; exact (ixN_seq e0).1, q1, q2⟩
    · cases e
  · cases e
end TL
set_option Elab.async false
set_option linter.all false
set_option maxRecDepth 100000
set_option maxHeartbeats 4000000
/-! T12: the rest. -/
namespace TL
open PySem PySem.Spec L2
theorem fn_none {P : Program} {w : World} {K : PySem.W.Frag} {mg : Str → Option Value} {base : Heap} {CX : CXT} {k : Nat} {f : Addr} {fd : FuncData} {ps : List Str} {io : Bool} : FnOk P w K mg base CX k f fd ps (spM K io fun _ => none) :=
  ⟨fun vs H Q E h => (by obtain ⟨_, _, _, _, _, _, e, _⟩ := h; cases e), fun A outer s H args us vs Q E _ _ _ _ h => (by obtain ⟨_, _, _, _, _, _, e, _⟩ := h; cases e)⟩
theorem room65 {k : Nat} {A : Around} (r : Room k A) : A.units + 65 < cLine := by have := r.un; omega
section
variable {X : Cx}
theorem cr_sortedAll : CallR X (.builtin "sorted") (rSortedI X.K) := cr_sortedI
theorem r_sortedAll {K : PySem.W.Frag} : R1 K (fun x H Q => rSortedI K [x] H Q) sortedD := r_sorted
theorem cr_minAll (hu : X.A.units + 64 < cLine) (hc : X.calm = true) : CallR X (.builtin "min") (rMin X.K) := cr_min hc
theorem r_minAll {K : PySem.W.Frag} : R1 K (fun x H Q => rMin K [x] H Q) minD := r_min
end
end TL
namespace TL
open PySem PySem.Spec L2
open PyProof.Rows (envOfC)
theorem def_ok' {P : Program} {w : World} {K : PySem.W.Frag} {mg : Str → Option Value} {base : Heap} {x qual : Str} {st : Stmt} {f : Addr} {fd : FuncData} {k : Nat} (N ps : List Str) {np n : Nat} {io : Bool} {b : MS} (pn : List Nat) (hnp : ps.length = np) (hn : N.length = n) (F : Fun K x qual st f fd) (S : FnScope N ps (defScope st)) (hp : io = true → 0 ∈ pn) (hl : ps.length ≤ N.length) (sts : List Stmt) (hb : defBody st = sts)
    (hbody : ∀ (cdv : Value) (A : Around) (outer : List PySem.Env) (s : Shared) (H : Hp) (E : XK), Room k (A.deeper (envOfC qual (defScope st) s.heap.objs.size f cdv)) →
      DSs (cxOf CX0 P w K mg base N qual (defScope st) f cdv A outer s H E).nox pn sts b) :
    FnOk P w K mg base CX0 (k + 1) f fd ps (spM K io (runS np n io b)) := by
  subst hnp hn hb
  exact def_ok F S hp hl hbody
end TL
set_option Elab.async false
set_option linter.all false
set_option maxRecDepth 100000
set_option maxHeartbeats 4000000
/-! T13: comprehensions of two fors. -/
namespace TL
open PySem PySem.Spec L2

def mlc2L (vs : List Nat) (g : Tg) (c : M Bool) (m1 : M (List D)) (vs1 : List Nat) (g1 : Tg) (c1 : M Bool) (e : M D) : List D → List D → M (List D)
  | [], acc => fun δ => some (acc, δ)
  | d :: ds, acc => fun δ => match g d δ with
    | some δ1 => (match c δ1 with
      | some (true, δ2) => (match m1 δ2 with
        | some (ds1, δ3) => (match mlcL vs1 g1 c1 e ds1 acc (En.kill vs1 δ3) with
          | some (acc', δ4) => mlc2L vs g c m1 vs1 g1 c1 e ds acc' (En.kill vs δ4)
          | none => none)
        | none => none)
      | some (false, δ2) => mlc2L vs g c m1 vs1 g1 c1 e ds acc (En.kill vs δ2)
      | none => none)
    | none => none
def mlc2 (m : M (List D)) (vs : List Nat) (g : Tg) (c : M Bool) (m1 : M (List D)) (vs1 : List Nat) (g1 : Tg) (c1 : M Bool) (e : M D) : M D :=
  mbind m fun ds δ => (mlc2L vs g c m1 vs1 g1 c1 e ds [] (En.kill vs δ)).map fun p => (.lst true p.1, p.2)

section
variable {K : PySem.W.Frag}
/-- how a comprehension's loop stands -/
structure LS (K : PySem.W.Frag) (Z : Addr → Prop) (F : Fp) (δ : En) (H : Hp) (t : List Nat) (D : Addr) (Z1 : Addr → Prop) (H1 : Hp) (Z2 : Addr → Prop) (F2 : Fp) (δ2 : En) (σ : St) (H2 : Hp) (acc : List TL.D) (vacc : List V) (G : List Addr) : Prop where
  r : Rel K Z2 F2 δ2 σ H2
  k : Keep Z1 Z2 H1 H2 []
  f : Fr Z F H Z2 F2 H2
  t : Tch t F δ H F2 δ2 H2
  h : H2 D = some (.lst vacc)
  o : Owns K Z2 H2 acc G vacc
  n : New F H Z2 F2 (D :: G)
variable {Z Z1 Z2 Z4 Z5 : Addr → Prop} {F F2 F4 F5 : Fp} {δ δ2 δ4 δ5 : En} {H H1 H2 H4 H5 : Hp} {t t' : List Nat} {D : Addr} {σ σ5 : St} {acc : List TL.D} {vacc : List V} {G : List Addr}
theorem LS.go (s : LS K Z F δ H t D Z1 H1 Z2 F2 δ2 σ H2 acc vacc G) (r5 : Rel K Z5 F5 δ5 σ5 H5) (f : Fr Z2 F2 H2 Z5 F5 H5) (tc : Tch t' F2 δ2 H2 F5 δ5 H5) (ht : ∀ i ∈ t', i ∈ t) : LS K Z F δ H t D Z1 H1 Z5 F5 δ5 σ5 H5 acc vacc G where
  r := r5
  k := s.k.trans (f.keep s.r (by simp))
  f := s.f.trans f
  t := s.t.join (tc.mono ht)
  h := f.out D _ s.h (s.n.fd D (by simp))
  o := s.o.keep (f.keep s.r fun a m => s.n.fd a (List.mem_cons_of_mem _ m))
  n := New.stay f (fun a m => by
    rcases List.mem_cons.mp m with rfl | m
    · exact ⟨_, s.h⟩
    · exact mut_some (s.o.here a m)) s.n
theorem LS.kill (s : LS K Z F δ H t D Z1 H1 Z2 F2 δ2 σ H2 acc vacc G) (ks : List Nat) (ht : ∀ i ∈ ks, i ∈ t) : ∃ F5, LS K Z F δ H t D Z1 H1 Z2 F5 (En.kill ks δ2) σ H2 acc vacc G := by
  obtain ⟨F6, r6, h6, t6⟩ := Tch.kill ks s.r
  exact ⟨F6, s.go r6 ⟨fun a o h _ => h, fun a o h => ⟨o, h⟩, fun a z => z, fun a z => .inl z, fun j a m => .inr ⟨j, h6 j a m⟩⟩ t6 ht⟩
theorem LS.st (s : LS K Z F δ H t D Z1 H1 Z2 F2 δ2 σ H2 acc vacc G) (r5 : Rel K Z2 F2 δ2 σ5 H2) : LS K Z F δ H t D Z1 H1 Z2 F2 δ2 σ5 H2 acc vacc G := ⟨r5, s.k, s.f, s.t, s.h, s.o, s.n⟩
/-- as seen by an inner iterable -/
theorem LS.inner (s : LS K Z F δ H t D Z1 H1 Z2 F2 δ2 σ H2 acc vacc G) (k : Keep Z2 Z5 H2 H5 []) : Keep Z1 Z5 H1 H5 [] := s.k.trans k
theorem LS.app (hDn : H D = none) (r : Rel K Z F δ σ5 H) (s : LS K Z F δ H t D Z1 H1 Z2 F2 δ2 σ H2 acc vacc G) (f4 : Fr Z2 F2 H2 Z4 F4 H4) (r5 : Rel K Z5 F5 δ5 σ H5) (f5 : Fr Z4 F4 H4 Z5 F5 H5) (tc : Tch t' F2 δ2 H2 F5 δ5 H5) (ht : ∀ i ∈ t', i ∈ t)
    {yd : TL.D} {yv : V} {Gy : List Addr} (o5 : Own K Z5 H5 yd Gy yv) (n5 : New F4 H4 Z5 F5 Gy) (hr : ∀ i, D ∉ F i) : LS K Z F δ H t D Z1 H1 Z5 F5 δ5 σ (upd H5 D (.lst (vacc ++ [yv]))) (acc ++ [yd]) (vacc ++ [yv]) (G ++ Gy) := by
  have s5 := s.go r5 (f4.trans f5) tc ht
  have n5' := n5.back f4
  have nD5 : ∀ i, D ∉ F5 i := s5.n.fd D (by simp)
  have zD5 : ¬ Z5 D := s5.n.zd D (by simp)
  have nDG : D ∉ G := (List.nodup_cons.mp s.n.nd).1
  have nDy : D ∉ Gy := fun m => by
    rcases n5'.from' D m with z | ⟨j, z⟩
    · rw [s.h] at z; cases z
    · exact s.n.fd D (by simp) j z
  have mD5 : Mut (H5 D) := by rw [s5.h]; trivial
  refine ⟨s5.r.writeOut mD5 zD5 nD5, s5.k.trans (keep_upd mD5 zD5 (by simp)), ?_, ?_, upd_same, ?_, ?_⟩
  · have g := s5.f
    refine ⟨fun a o h q => ?_, fun a o h => ?_, g.zup, g.znew, g.fnew⟩
    · rw [upd_ne (show a ≠ D from fun e => by subst e; rw [hDn] at h; cases h)]
      exact g.out a o h q
    · rw [upd_ne (show a ≠ D from fun e => by subst e; rw [hDn] at h; cases h)]
      exact g.here a o h
  · have t := s5.t
    refine ⟨t.len, t.en, t.fp, fun j a q m => ?_⟩
    rw [upd_ne (show a ≠ D from fun e => by subst e; exact hr j m)]
    exact t.at' j a q m
  · exact (s5.o.keep (keep_upd mD5 zD5 nDG)).append (Owns.one (o5.keep (keep_upd mD5 zD5 nDy)))
  · exact New.app s.r s.f (f4.trans f5) (fun a m => by
          rcases List.mem_cons.mp m with rfl | m
          · exact ⟨_, s.h⟩
          · exact mut_some (s.o.here a m)) s.n n5'
end
section
variable {X : Cx} {pos : Pos}
theorem lc2_rd {B B1 tm tc ts tm1 tc1 te ts1 : List Nat} {pn vs pn1 vs1 : List Nat} {m m1 : M (List D)} {g g1 : Tg} {mc mc1 : M Bool} {me : M D} {n : Nat} (hn : ∀ i, i < n → i ∈ vs ∨ i ∈ pn) (hts : ∀ i ∈ ts, i ∈ vs)
    (hn1 : ∀ i, i < n → i ∈ vs1 ∨ i ∈ pn1) (hts1 : ∀ i ∈ ts1, i ∈ vs1) (hB : ∀ i ∈ B, i ∉ tm ++ (vs ++ (tc ++ (tm1 ++ (vs1 ++ (tc1 ++ te)))))) (hB1 : ∀ i ∈ B1, i ∉ tm ++ (vs ++ (tc ++ (tm1 ++ (vs1 ++ (tc1 ++ te)))))) :
    ∀ σ H Q, σ.length = n → tG X.K (tm ++ (vs ++ (tc ++ (tm1 ++ (vs1 ++ (tc1 ++ te)))))) true (mlc2 m vs g mc m1 vs1 g1 mc1 me) σ H Q →
      tLc2 (tGi X.K B tm m) (tGg X.K pn ts g) (tGt X.K tc mc) (tGi X.K B1 tm1 m1) (tGg X.K pn1 ts1 g1) (tGt X.K tc1 mc1) (tG X.K te true me) vs vs1 σ H Q := fun σ H Q hσ ⟨Z, F, δ, d, δ', r, e1, k⟩ => by
  unfold mlc2 at e1
  rw [mbind_some] at e1
  obtain ⟨ds, δ1, e1, e2⟩ := e1
  rw [Option.map_eq_some_iff] at e2
  obtain ⟨⟨accf, δf⟩, e2, e3⟩ := e2
  obtain ⟨rfl, rfl⟩ := Prod.mk.inj e3
  refine ⟨Z, F, δ, ds, δ1, r, e1, fun J H1 Z1 F1 r1 f1 tch1 ⟨GB, hGB, y⟩ D hD => ?_⟩
  have hDn : H D = none := by
    cases e : H D with
    | none => rfl
    | some o =>
      obtain ⟨o', h'⟩ := f1.here D o e
      rw [hD] at h'; cases h'
  generalize hT : tm ++ (vs ++ (tc ++ (tm1 ++ (vs1 ++ (tc1 ++ te))))) = T at k hB hB1
  have tmm : ∀ i ∈ tm, i ∈ T := fun i m => by rw [← hT]; simp [m]
  have tv : ∀ i ∈ vs, i ∈ T := fun i m => by rw [← hT]; simp [m]
  have tcc : ∀ i ∈ tc, i ∈ T := fun i m => by rw [← hT]; simp [m]
  have tmm1 : ∀ i ∈ tm1, i ∈ T := fun i m => by rw [← hT]; simp [m]
  have tv1 : ∀ i ∈ vs1, i ∈ T := fun i m => by rw [← hT]; simp [m]
  have tcc1 : ∀ i ∈ tc1, i ∈ T := fun i m => by rw [← hT]; simp [m]
  have tee : ∀ i ∈ te, i ∈ T := fun i m => by rw [← hT]; simp [m]
  have killed : ∀ (vs : List Nat) (δ : En) i, i ∈ vs → ∀ d, (En.kill vs δ)[i]? ≠ some (some d) := fun vs δ i m d => kill_in vs δ i d m
  have hr : ∀ i, D ∉ F i := r.ne_new hDn
  refine ⟨fun i l H2 => l = ds.length - i ∧ i ≤ ds.length ∧ ∃ Z2 F2 δ2 acc vacc G, LS X.K Z F δ H T D Z1 H1 Z2 F2 δ2 σ H2 acc vacc G ∧ (∀ i ∈ vs, ∀ d, δ2[i]? ≠ some (some d)) ∧ mlc2L vs g mc m1 vs1 g1 mc1 me (ds.drop i) acc δ2 = some (accf, δf),
    ⟨ds.length, rfl, Nat.zero_le _, ?_⟩, ?_⟩
  · obtain ⟨Fk, rk, hk, tk⟩ := Tch.kill vs r1
    have n1 := (New.one r1 hD).back f1
    refine ⟨Z1, Fk, En.kill vs δ1, [], [], [], ⟨rk.new hD, same_keep (same_upd hD) (fun _ z => z) _, ?_, ?_, upd_same, by simp [Owns], ⟨n1.nd, n1.zd, fun a m i mi => n1.fd a m i (hk i a mi), n1.from'⟩⟩, killed vs δ1, e2⟩
    · exact Fr.trans ⟨f1.out, f1.here, f1.zup, f1.znew, fun i a m => f1.fnew i a (hk i a m)⟩ (Fr.new hD)
    · exact ((tch1.mono tmm).join (tk.mono tv)).more r (same_upd hD)
  rintro i l H2 ⟨rfl, hi, Z2, F2, δ2, acc, vacc, G, s2, nv2, e2⟩
  obtain ⟨ys, yi⟩ := y Z2 H2 (Yl.at' hGB tch1 s2.t (fun i m q => hB i m (tmm i q)) hB s2.k)
  by_cases hlt : i < ds.length
  · have hd : ds[i]? = some ds[i] := by simp [hlt]
    obtain ⟨yg, yx⟩ := yi i _ hd
    rw [List.drop_eq_getElem_cons hlt] at e2
    unfold mlc2L at e2
    split at e2
    case h_2 => cases e2
    rename_i δ3 q3
    refine .inr ⟨yg, _, fun H' q => ⟨ds.length - (i + 1), by omega, q⟩, fun x H3 hy => ?_⟩
    obtain ⟨gw, ox⟩ := yx x H3 hy
    have s2 := s2.go (gw.rel s2.r) gw.fr (gw.tch s2.r) (by simp)
    refine ⟨Z2, F2, δ2, ds[i], [], δ3, s2.r.wiped nv2, ox, List.nodup_nil, by simp, q3, fun σ3 F3 r3 h3 p3 t3 => ?_⟩
    have hσ3 : σ3.length = σ.length := by rw [← r3.len, t3.len, s2.r.len]
    have hw : wipe σ3 vs = wipe σ vs := wipe_of hσ3 p3 (by rw [hσ]; exact hn)
    refine ⟨hw, ?_⟩
    have f23 : Fr Z2 F2 H3 Z2 F3 H3 := ⟨fun a o h _ => h, fun a o h => ⟨o, h⟩, fun a z => z, fun a z => .inl z, fun j a m => by
      rcases h3 j a m with z | z
      · cases z
      · exact .inr z⟩
    have s3 : LS X.K Z F δ H T D Z1 H1 Z2 F3 δ3 σ3 H3 acc vacc G := s2.go r3 f23 t3 fun i m => tv i (hts i m)
    -- behind a turn
    have back : ∀ {Z5 F5 δ5 H5 acc vacc G}, LS X.K Z F δ H T D Z1 H1 Z5 F5 δ5 σ3 H5 acc vacc G → ∃ F6, LS X.K Z F δ H T D Z1 H1 Z5 F6 (En.kill vs δ5) σ H5 acc vacc G := fun {Z5 F5 δ5 H5 acc vacc G} s5 => by
      obtain ⟨F6, s6⟩ := s5.kill vs tv
      have r7 := s6.r.wiped (killed vs δ5)
      rw [hw] at r7
      exact ⟨F6, s6.st r7.unwiped⟩
    split at e2
    · rename_i δ4 q4
      split at e2
      case h_2 => cases e2
      rename_i ds1 δ5 q5
      split at e2
      case h_2 => cases e2
      rename_i acc' δ6 q6
      refine ⟨Z2, F3, δ3, true, δ4, r3, q4, fun H4 Z4 F4 r4 f4 t4 => iteT ?_⟩
      have s4 := s3.go r4 f4 t4 tcc
      refine ⟨Z4, F4, δ4, ds1, δ5, r4, q5, fun J1 H5 Z5 F5 r5 f5 t5 ⟨GB1, hGB1, y1⟩ => ?_⟩
      have s5 := s4.go r5 f5 t5 tmm1
      refine ⟨fun j l H2 => l = ds1.length - j ∧ j ≤ ds1.length ∧ ∃ Z2 F2 δ2 acc vacc G, LS X.K Z F δ H T D Z1 H1 Z2 F2 δ2 σ3 H2 acc vacc G ∧ (∀ i ∈ vs1, ∀ d, δ2[i]? ≠ some (some d)) ∧ Keep Z5 Z2 H5 H2 [] ∧ mlcL vs1 g1 mc1 me (ds1.drop j) acc δ2 = some (acc', δ6),
        ⟨ds1.length, rfl, Nat.zero_le _, ?_⟩, ?_⟩
      · obtain ⟨Fk, sk⟩ := s5.kill vs1 tv1
        exact ⟨Z5, Fk, _, acc, vacc, G, sk, killed vs1 δ5, Keep.refl, q6⟩
      rintro j l H6 ⟨rfl, hj, Z6, F6, δ6', accj, vaccj, Gj, s6, nv6, k6, e6⟩
      obtain ⟨ys1, yi1⟩ := y1 Z6 H6 (Yl.at' hGB1 s5.t s6.t hB1 hB1 k6)
      by_cases hlt1 : j < ds1.length
      · have hd1 : ds1[j]? = some ds1[j] := by simp [hlt1]
        obtain ⟨yg1, yx1⟩ := yi1 j _ hd1
        rw [List.drop_eq_getElem_cons hlt1] at e6
        unfold mlcL at e6
        split at e6
        case h_2 => cases e6
        rename_i δ7 q7
        refine .inr ⟨yg1, _, fun H' q => ⟨ds1.length - (j + 1), by omega, q⟩, fun x1 H7 hy1 => ?_⟩
        obtain ⟨gw1, ox1⟩ := yx1 x1 H7 hy1
        have k6 := k6.trans ((gw1.fr (Z := Z6) (F := F6)).keep s6.r (by simp))
        have s6 := s6.go (gw1.rel s6.r) gw1.fr (gw1.tch s6.r) (by simp)
        refine ⟨Z6, F6, δ6', ds1[j], [], δ7, s6.r.wiped nv6, ox1, List.nodup_nil, by simp, q7, fun σ7 F7 r7 h7 p7 t7 => ?_⟩
        have hσ7 : σ7.length = σ3.length := by rw [← r7.len, t7.len, s6.r.len]
        have hw1 : wipe σ7 vs1 = wipe σ3 vs1 := wipe_of hσ7 p7 (by rw [hσ3, hσ]; exact hn1)
        refine ⟨hw1, ?_⟩
        have f67 : Fr Z6 F6 H7 Z6 F7 H7 := ⟨fun a o h _ => h, fun a o h => ⟨o, h⟩, fun a z => z, fun a z => .inl z, fun j a m => by
          rcases h7 j a m with z | z
          · cases z
          · exact .inr z⟩
        have s7 : LS X.K Z F δ H T D Z1 H1 Z6 F7 δ7 σ7 H7 accj vaccj Gj := s6.go r7 f67 t7 fun i m => tv1 i (hts1 i m)
        have back1 : ∀ {Z5 F5 δ5 H5 acc vacc G}, LS X.K Z F δ H T D Z1 H1 Z5 F5 δ5 σ7 H5 acc vacc G → ∃ F6, LS X.K Z F δ H T D Z1 H1 Z5 F6 (En.kill vs1 δ5) σ3 H5 acc vacc G := fun {Z5 F5 δ5 H5 acc vacc G} s5 => by
          obtain ⟨F6, s6⟩ := s5.kill vs1 tv1
          have r7 := s6.r.wiped (killed vs1 δ5)
          rw [hw1] at r7
          exact ⟨F6, s6.st r7.unwiped⟩
        split at e6
        · rename_i δ8 q8
          split at e6
          case h_2 => cases e6
          rename_i yd δ9 q9
          split at e6
          case isFalse => cases e6
          rename_i hz
          refine ⟨Z6, F7, δ7, true, δ8, r7, q8, fun H8 Z8 F8 r8 f8 t8 => iteT ⟨Z8, F8, δ8, yd, δ9, r8, q9, fun yv H9 Z9 F9 Gy r9 f9 t9 o9 n9 => ?_⟩⟩
          have n9 := n9 rfl
          have s9 := (s7.go r8 f8 t8 tcc1).go r9 f9 t9 tee
          refine ⟨vaccj, s9.h, by rw [← s6.o.length]; exact hz, rfl, hlt1, ?_⟩
          have sA := LS.app (σ5 := σ) hDn r s7 f8 r9 f9 ((t8.mono tcc1).join (t9.mono tee)) (fun _ m => m) o9 n9 hr
          obtain ⟨FA, sB⟩ := back1 sA
          refine ⟨Z9, FA, _, _, _, _, sB, killed vs1 δ9, ?_, e6⟩
          exact k6.trans (((f67.trans f8).trans f9).keep s6.r (by simp) |>.trans (keep_upd (by rw [s9.h]; trivial) (s9.n.zd D (by simp)) (by simp)))
        · rename_i δ8 q8
          refine ⟨Z6, F7, δ7, false, δ8, r7, q8, fun H8 Z8 F8 r8 f8 t8 => iteF ?_⟩
          obtain ⟨FA, sB⟩ := back1 (s7.go r8 f8 t8 tcc1)
          exact ⟨rfl, hlt1, Z8, FA, _, _, _, _, sB, killed vs1 δ8, k6.trans ((f67.trans f8).keep s6.r (by simp)), e6⟩
        · cases e6
      · have e : j = ds1.length := by omega
        subst e
        rw [List.drop_length] at e6
        cases e6
        obtain ⟨FA, sB⟩ := back s6
        exact .inl ⟨ys1, rfl, hlt, Z6, FA, _, _, _, _, sB, killed vs δ6, e2⟩
    · rename_i δ4 q4
      refine ⟨Z2, F3, δ3, false, δ4, r3, q4, fun H4 Z4 F4 r4 f4 t4 => iteF ?_⟩
      obtain ⟨FA, sB⟩ := back (s3.go r4 f4 t4 tcc)
      exact ⟨rfl, hlt, Z4, FA, _, _, _, _, sB, killed vs δ4, e2⟩
    · cases e2
  · have e : i = ds.length := by omega
    subst e
    rw [List.drop_length] at e2
    cases e2
    refine .inl ⟨ys, k (.ref D) H2 Z2 F2 (D :: G) s2.r s2.f s2.t ?_ fun _ => s2.n⟩
    simp only [Own]
    exact ⟨D, vacc, G, rfl, s2.h, rfl, s2.o⟩
theorem de_lc2 {elt tg iter tg1 iter1 : Expr} {ifs ifs1 : List Expr} {scope : Scope} {own : List (Str × Nat)} {vs vs1 : List Nat} {B B1 pn tm tc ts pn1 tm1 tc1 te ts1 : List Nat} {m m1 : M (List D)} {g g1 : Tg} {mc mc1 : M Bool} {me : M D} (hc : X.calm = true) (hN : X.N.Nodup) (hi : DI X B tg iter tm m) (ok : BlkOk X.N X.env.scope scope own) (hvs : own.map (·.2) = vs)
    (hg : ∀ (s : Shared) (H : Hp) (C : Addr) (cl : List (Str × Addr)) (fp : List Addr), DG (X.blk s H scope (compEnvC scope cl C X.env) fp) pn ts tg g) (ht : ∀ (s : Shared) (H : Hp) (C : Addr) (cl : List (Str × Addr)) (fp : List Addr), DTs (X.blk s H scope (compEnvC scope cl C X.env) fp) ifs tc mc)
    (hi1 : ∀ (s : Shared) (H : Hp) (C : Addr) (cl : List (Str × Addr)) (fp : List Addr), DI (X.blk s H scope (compEnvC scope cl C X.env) fp) B1 tg1 iter1 tm1 m1)
    (hg1 : ∀ (s : Shared) (H : Hp) (C : Addr) (cl : List (Str × Addr)) (fp : List Addr), DG (X.blk s H scope (compEnvC scope cl C X.env) fp) pn1 ts1 tg1 g1) (ht1 : ∀ (s : Shared) (H : Hp) (C : Addr) (cl : List (Str × Addr)) (fp : List Addr), DTs (X.blk s H scope (compEnvC scope cl C X.env) fp) ifs1 tc1 mc1)
    (he : ∀ (s : Shared) (H : Hp) (C : Addr) (cl : List (Str × Addr)) (fp : List Addr), DE (X.blk s H scope (compEnvC scope cl C X.env) fp) elt te true me)
    (hv1 : (vs1.all fun i => vs.contains i) = true := by rfl)
    (hn : ((List.range X.N.length).all fun i => vs.contains i || pn.contains i) = true := by rfl) (hts : (ts.all fun i => vs.contains i) = true := by rfl)
    (hn1 : ((List.range X.N.length).all fun i => vs1.contains i || pn1.contains i) = true := by rfl) (hts1 : (ts1.all fun i => vs1.contains i) = true := by rfl) (hB : (B.all fun i => !(tm ++ (vs ++ (tc ++ (tm1 ++ (vs1 ++ (tc1 ++ te)))))).contains i) = true := by rfl) (hB1 : (B1.all fun i => !(tm ++ (vs ++ (tc ++ (tm1 ++ (vs1 ++ (tc1 ++ te)))))).contains i) = true := by rfl)
    (hs : ∀ x, foldedSetIterable iter X.env x = pure x := by intro _; rfl) (hs1 : ∀ env x, foldedSetIterable iter1 env x = pure x := by intro _ _; rfl) :
    DE X (.ListComp elt [⟨tg, iter, ifs, 0⟩, ⟨tg1, iter1, ifs1, 0⟩] scope pos) (tm ++ (vs ++ (tc ++ (tm1 ++ (vs1 ++ (tc1 ++ te)))))) true (mlc2 m vs g mc m1 vs1 g1 mc1 me) := by
  subst hvs
  exact ⟨fun pins s σ H Q I h =>
  (pe_lc2 hc hN hi ok (fun i m => List.contains_iff_mem.mp (List.all_eq_true.mp hv1 i m)) hg ht hi1 hg1 ht1 he hs hs1).run pins s σ H Q I (lc2_rd (n := X.N.length) (fun i hi => by
    have := List.all_eq_true.mp hn i (List.mem_range.mpr hi)
    rw [Bool.or_eq_true] at this
    exact this.imp (fun h => List.contains_iff_mem.mp h) fun h => List.contains_iff_mem.mp h) (fun i m => List.contains_iff_mem.mp (List.all_eq_true.mp hts i m)) (fun i hi => by
    have := List.all_eq_true.mp hn1 i (List.mem_range.mpr hi)
    rw [Bool.or_eq_true] at this
    exact this.imp (fun h => List.contains_iff_mem.mp h) fun h => List.contains_iff_mem.mp h) (fun i m => List.contains_iff_mem.mp (List.all_eq_true.mp hts1 i m)) (fun i m q => by
    have := List.all_eq_true.mp hB i m
    rw [List.contains_iff_mem.mpr q] at this
    cases this) (fun i m q => by
    have := List.all_eq_true.mp hB1 i m
    rw [List.contains_iff_mem.mpr q] at this
    cases this) σ H Q I.len h)⟩
end
end TL
set_option Elab.async false
set_option linter.all false
set_option maxRecDepth 100000
set_option maxHeartbeats 4000000
/-! T14: dict comprehensions, keys ints or texts, values never changed. -/
namespace TL
open PySem PySem.Spec L2

def mdcL (vs : List Nat) (g : Tg) (c : M Bool) (ek ev : M D) : List D → List Key → List D → M (List Key × List D)
  | [], ks, es => fun δ => some ((ks, es), δ)
  | d :: ds, ks, es => fun δ => match g d δ with
    | some δ1 => (match c δ1 with
      | some (true, δ2) => (match ek δ2 with
        | some (y, δ3) => (match ev δ3 with
          | some (z, δ4) => (match keyD y with
            | some x => if ks.length < sizeLine ∧ z.isFz = true then mdcL vs g c ek ev ds (putDk ks es x z).1 (putDk ks es x z).2 (En.kill vs δ4) else none
            | none => none)
          | none => none)
        | none => none)
      | some (false, δ2) => mdcL vs g c ek ev ds ks es (En.kill vs δ2)
      | none => none)
    | none => none
def mdc (m : M (List D)) (vs : List Nat) (g : Tg) (c : M Bool) (ek ev : M D) : M D := mbind m fun ds δ => (mdcL vs g c ek ev ds [] [] (En.kill vs δ)).map fun p => (.dK true p.1.1 p.1.2, p.2)

section
variable {K : PySem.W.Frag}
structure LD (K : PySem.W.Frag) (Z : Addr → Prop) (F : Fp) (δ : En) (H : Hp) (t : List Nat) (D : Addr) (Z1 : Addr → Prop) (H1 : Hp) (Z2 : Addr → Prop) (F2 : Fp) (δ2 : En) (σ : St) (H2 : Hp) (ks : List Key) (es : List TL.D) (kvs : List (Key × V)) : Prop where
  r : Rel K Z2 F2 δ2 σ H2
  k : Keep Z1 Z2 H1 H2 []
  f : Fr Z F H Z2 F2 H2
  t : Tch t F δ H F2 δ2 H2
  h : H2 D = some (.dK kvs)
  e : kvs.map (·.1) = ks
  o : Owns K Z2 H2 es [] (kvs.map (·.2))
  n : New F H Z2 F2 [D]
variable {Z Z1 Z2 Z4 Z5 : Addr → Prop} {F F2 F4 F5 : Fp} {δ δ2 δ4 δ5 : En} {H H1 H2 H4 H5 : Hp} {t t' : List Nat} {D : Addr} {σ σ5 : St} {ks : List Key} {es : List TL.D} {kvs : List (Key × V)}
theorem LD.go (s : LD K Z F δ H t D Z1 H1 Z2 F2 δ2 σ H2 ks es kvs) (r5 : Rel K Z5 F5 δ5 σ5 H5) (f : Fr Z2 F2 H2 Z5 F5 H5) (tc : Tch t' F2 δ2 H2 F5 δ5 H5) (ht : ∀ i ∈ t', i ∈ t) : LD K Z F δ H t D Z1 H1 Z5 F5 δ5 σ5 H5 ks es kvs where
  r := r5
  k := s.k.trans (f.keep s.r (by simp))
  f := s.f.trans f
  t := s.t.join (tc.mono ht)
  h := f.out D _ s.h (s.n.fd D (by simp))
  e := s.e
  o := s.o.keep (f.keep s.r (by simp))
  n := New.stay f (fun a m => by
    rcases List.mem_cons.mp m with rfl | m
    · exact ⟨_, s.h⟩
    · cases m) s.n
theorem LD.kill (s : LD K Z F δ H t D Z1 H1 Z2 F2 δ2 σ H2 ks es kvs) (vs : List Nat) (ht : ∀ i ∈ vs, i ∈ t) : ∃ F5, LD K Z F δ H t D Z1 H1 Z2 F5 (En.kill vs δ2) σ H2 ks es kvs := by
  obtain ⟨F6, r6, h6, t6⟩ := Tch.kill vs s.r
  exact ⟨F6, s.go r6 ⟨fun a o h _ => h, fun a o h => ⟨o, h⟩, fun a z => z, fun a z => .inl z, fun j a m => .inr ⟨j, h6 j a m⟩⟩ t6 ht⟩
theorem LD.st (s : LD K Z F δ H t D Z1 H1 Z2 F2 δ2 σ H2 ks es kvs) (r5 : Rel K Z2 F2 δ2 σ5 H2) : LD K Z F δ H t D Z1 H1 Z2 F2 δ2 σ5 H2 ks es kvs := ⟨r5, s.k, s.f, s.t, s.h, s.e, s.o, s.n⟩
theorem LD.put (hDn : H D = none) (s : LD K Z F δ H t D Z1 H1 Z5 F5 δ5 σ H5 ks es kvs) {x : Key} {yd : TL.D} {yv : V} (o5 : Own K Z5 H5 yd [] yv) (hr : ∀ i, D ∉ F i) :
    LD K Z F δ H t D Z1 H1 Z5 F5 δ5 σ (upd H5 D (.dK (putK kvs x yv))) (putDk ks es x yd).1 (putDk ks es x yd).2 (putK kvs x yv) := by
  have nD5 : ∀ i, D ∉ F5 i := s.n.fd D (by simp)
  have zD5 : ¬ Z5 D := s.n.zd D (by simp)
  have mD5 : Mut (H5 D) := by rw [s.h]; trivial
  obtain ⟨G', i1, i2, i3⟩ := putDk_own (x := x) o5 s.o
  have : G' = [] := List.sublist_nil.mp i3
  subst this
  refine ⟨s.r.writeOut mD5 zD5 nD5, s.k.trans (keep_upd mD5 zD5 (by simp)), ?_, ?_, upd_same, ?_, ?_, s.n⟩
  · have g := s.f
    refine ⟨fun a o h q => ?_, fun a o h => ?_, g.zup, g.znew, g.fnew⟩
    · rw [upd_ne (show a ≠ D from fun e => by subst e; rw [hDn] at h; cases h)]
      exact g.out a o h q
    · rw [upd_ne (show a ≠ D from fun e => by subst e; rw [hDn] at h; cases h)]
      exact g.here a o h
  · have t := s.t
    refine ⟨t.len, t.en, t.fp, fun j a q m => ?_⟩
    rw [upd_ne (show a ≠ D from fun e => by subst e; exact hr j m)]
    exact t.at' j a q m
  · rw [← s.e]; exact i1
  · rw [← s.e]; exact i2.keep (keep_upd mD5 zD5 (by simp))
end
section
variable {X : Cx} {pos : Pos}
theorem dc_rd {B tm tc te ts : List Nat} {pn vs : List Nat} {m : M (List D)} {g : Tg} {mc : M Bool} {mk me : M D} {n : Nat} {frk : Bool} (hn : ∀ i, i < n → i ∈ vs ∨ i ∈ pn) (hts : ∀ i ∈ ts, i ∈ vs) (hB : ∀ i ∈ B, i ∉ tm ++ (vs ++ (tc ++ te))) :
    ∀ σ H Q, σ.length = n → tG X.K (tm ++ (vs ++ (tc ++ te))) true (mdc m vs g mc mk me) σ H Q → tDc (tGi X.K B tm m) (tGg X.K pn ts g) (tGt X.K tc mc) (tG X.K [] frk mk) (tG X.K te true me) vs σ H Q := fun σ H Q hσ ⟨Z, F, δ, d, δ', r, e1, k⟩ => by
  unfold mdc at e1
  rw [mbind_some] at e1
  obtain ⟨ds, δ1, e1, e2⟩ := e1
  rw [Option.map_eq_some_iff] at e2
  obtain ⟨⟨accf, δf⟩, e2, e3⟩ := e2
  obtain ⟨rfl, rfl⟩ := Prod.mk.inj e3
  refine ⟨Z, F, δ, ds, δ1, r, e1, fun J H1 Z1 F1 r1 f1 tch1 ⟨GB, hGB, y⟩ D hD => ?_⟩
  have hDn : H D = none := by
    cases e : H D with
    | none => rfl
    | some o =>
      obtain ⟨o', h'⟩ := f1.here D o e
      rw [hD] at h'; cases h'
  generalize hT : tm ++ (vs ++ (tc ++ te)) = T at k hB
  have tmm : ∀ i ∈ tm, i ∈ T := fun i m => by rw [← hT]; simp [m]
  have tv : ∀ i ∈ vs, i ∈ T := fun i m => by rw [← hT]; simp [m]
  have tcc : ∀ i ∈ tc, i ∈ T := fun i m => by rw [← hT]; simp [m]
  have tee : ∀ i ∈ te, i ∈ T := fun i m => by rw [← hT]; simp [m]
  have killed : ∀ (vs : List Nat) (δ : En) i, i ∈ vs → ∀ d, (En.kill vs δ)[i]? ≠ some (some d) := fun vs δ i m d => kill_in vs δ i d m
  have hr : ∀ i, D ∉ F i := r.ne_new hDn
  refine ⟨fun i l H2 => l = ds.length - i ∧ i ≤ ds.length ∧ ∃ Z2 F2 δ2 ks es kvs, LD X.K Z F δ H T D Z1 H1 Z2 F2 δ2 σ H2 ks es kvs ∧ (∀ i ∈ vs, ∀ d, δ2[i]? ≠ some (some d)) ∧ mdcL vs g mc mk me (ds.drop i) ks es δ2 = some (accf, δf),
    ⟨ds.length, rfl, Nat.zero_le _, ?_⟩, ?_⟩
  · obtain ⟨Fk, rk, hk, tk⟩ := Tch.kill vs r1
    have n1 := (New.one r1 hD).back f1
    refine ⟨Z1, Fk, En.kill vs δ1, [], [], [], ⟨rk.new hD, same_keep (same_upd hD) (fun _ z => z) _, ?_, ?_, upd_same, rfl, by simp [Owns], ⟨n1.nd, n1.zd, fun a m i mi => n1.fd a m i (hk i a mi), n1.from'⟩⟩, killed vs δ1, e2⟩
    · exact Fr.trans ⟨f1.out, f1.here, f1.zup, f1.znew, fun i a m => f1.fnew i a (hk i a m)⟩ (Fr.new hD)
    · exact ((tch1.mono tmm).join (tk.mono tv)).more r (same_upd hD)
  rintro i l H2 ⟨rfl, hi, Z2, F2, δ2, ks, es, kvs, s2, nv2, e2⟩
  obtain ⟨ys, yi⟩ := y Z2 H2 (Yl.at' hGB tch1 s2.t (fun i m q => hB i m (tmm i q)) hB s2.k)
  by_cases hlt : i < ds.length
  · have hd : ds[i]? = some ds[i] := by simp [hlt]
    obtain ⟨yg, yx⟩ := yi i _ hd
    rw [List.drop_eq_getElem_cons hlt] at e2
    unfold mdcL at e2
    split at e2
    case h_2 => cases e2
    rename_i δ3 q3
    refine .inr ⟨yg, _, fun H' q => ⟨ds.length - (i + 1), by omega, q⟩, fun x H3 hy => ?_⟩
    obtain ⟨gw, ox⟩ := yx x H3 hy
    have s2 := s2.go (gw.rel s2.r) gw.fr (gw.tch s2.r) (by simp)
    refine ⟨Z2, F2, δ2, ds[i], [], δ3, s2.r.wiped nv2, ox, List.nodup_nil, by simp, q3, fun σ3 F3 r3 h3 p3 t3 => ?_⟩
    have hσ3 : σ3.length = σ.length := by rw [← r3.len, t3.len, s2.r.len]
    have hw : wipe σ3 vs = wipe σ vs := wipe_of hσ3 p3 (by rw [hσ]; exact hn)
    refine ⟨hw, ?_⟩
    have f23 : Fr Z2 F2 H3 Z2 F3 H3 := ⟨fun a o h _ => h, fun a o h => ⟨o, h⟩, fun a z => z, fun a z => .inl z, fun j a m => by
      rcases h3 j a m with z | z
      · cases z
      · exact .inr z⟩
    have s3 : LD X.K Z F δ H T D Z1 H1 Z2 F3 δ3 σ3 H3 ks es kvs := s2.go r3 f23 t3 fun i m => tv i (hts i m)
    have back : ∀ {Z5 F5 δ5 H5 ks es kvs}, LD X.K Z F δ H T D Z1 H1 Z5 F5 δ5 σ3 H5 ks es kvs → ∃ F6, LD X.K Z F δ H T D Z1 H1 Z5 F6 (En.kill vs δ5) σ H5 ks es kvs := fun {Z5 F5 δ5 H5 ks es kvs} s5 => by
      obtain ⟨F6, s6⟩ := s5.kill vs tv
      have r7 := s6.r.wiped (killed vs δ5)
      rw [hw] at r7
      exact ⟨F6, s6.st r7.unwiped⟩
    split at e2
    · rename_i δ4 q4
      split at e2
      case h_2 => cases e2
      rename_i yd δ5 q5
      split at e2
      case h_2 => cases e2
      rename_i zd δ6 q6
      split at e2
      case h_2 => cases e2
      rename_i key qk
      split at e2
      case isFalse => cases e2
      rename_i hz
      refine ⟨Z2, F3, δ3, true, δ4, r3, q4, fun H4 Z4 F4 r4 f4 t4 => iteT ?_⟩
      have s4 := s3.go r4 f4 t4 tcc
      refine ⟨Z4, F4, δ4, yd, δ5, r4, q5, fun yv H5 Z5 F5 Gy r5 f5 t5 o5 n5 => ?_⟩
      have s5 := s4.go r5 f5 t5 (by simp)
      refine ⟨Z5, F5, δ5, zd, δ6, r5, q6, fun zv H6 Z6 F6 Gz r6 f6 t6 o6 n6 => ?_⟩
      have s6 := s5.go r6 f6 t6 tee
      have := Own.nil hz.2 o6
      subst this
      obtain ⟨FA, sB⟩ := back (LD.put hDn s6 (x := key) o6 hr)
      refine ⟨kvs, key, keyD_own o5 qk, s6.h, by have := hz.1; rw [← s2.e, List.length_map] at this; exact this, rfl, hlt, Z6, FA, _, _, _, _, sB, killed vs δ6, e2⟩
    · rename_i δ4 q4
      refine ⟨Z2, F3, δ3, false, δ4, r3, q4, fun H4 Z4 F4 r4 f4 t4 => iteF ?_⟩
      obtain ⟨FA, sB⟩ := back (s3.go r4 f4 t4 tcc)
      exact ⟨rfl, hlt, Z4, FA, _, _, _, _, sB, killed vs δ4, e2⟩
    · cases e2
  · have e : i = ds.length := by omega
    subst e
    rw [List.drop_length] at e2
    cases e2
    refine .inl ⟨ys, k (.ref D) H2 Z2 F2 [D] s2.r s2.f s2.t ?_ fun _ => s2.n⟩
    simp only [Own]
    exact ⟨D, kvs, [], rfl, s2.h, s2.e, rfl, s2.o⟩
theorem de_dc {kx vx tg iter : Expr} {ifs : List Expr} {scope : Scope} {own : List (Str × Nat)} {vs : List Nat} {B pn tm tc te ts : List Nat} {m : M (List D)} {g : Tg} {mc : M Bool} {mk me : M D} {frk : Bool} (hc : X.calm = true) (hN : X.N.Nodup) (hi : DI X B tg iter tm m) (ok : BlkOk X.N X.env.scope scope own) (hvs : own.map (·.2) = vs)
    (hg : ∀ (s : Shared) (H : Hp) (C : Addr) (cl : List (Str × Addr)) (fp : List Addr), DG (X.blk s H scope (compEnvC scope cl C X.env) fp) pn ts tg g) (ht : ∀ (s : Shared) (H : Hp) (C : Addr) (cl : List (Str × Addr)) (fp : List Addr), DTs (X.blk s H scope (compEnvC scope cl C X.env) fp) ifs tc mc)
    (hk : ∀ (s : Shared) (H : Hp) (C : Addr) (cl : List (Str × Addr)) (fp : List Addr), DE (X.blk s H scope (compEnvC scope cl C X.env) fp) kx [] frk mk)
    (he : ∀ (s : Shared) (H : Hp) (C : Addr) (cl : List (Str × Addr)) (fp : List Addr), DE (X.blk s H scope (compEnvC scope cl C X.env) fp) vx te true me)
    (hn : ((List.range X.N.length).all fun i => vs.contains i || pn.contains i) = true := by rfl) (hts : (ts.all fun i => vs.contains i) = true := by rfl) (hB : (B.all fun i => !(tm ++ (vs ++ (tc ++ te))).contains i) = true := by rfl) (hs : ∀ x, foldedSetIterable iter X.env x = pure x := by intro _; rfl) :
    DE X (.DictComp kx vx [⟨tg, iter, ifs, 0⟩] scope pos) (tm ++ (vs ++ (tc ++ te))) true (mdc m vs g mc mk me) := by
  subst hvs
  exact ⟨fun pins s σ H Q I h =>
  (pe_dc hc hN hi ok hg ht hk he hs).run pins s σ H Q I (dc_rd (n := X.N.length) (fun i hi => by
    have := List.all_eq_true.mp hn i (List.mem_range.mpr hi)
    rw [Bool.or_eq_true] at this
    exact this.imp (fun h => List.contains_iff_mem.mp h) fun h => List.contains_iff_mem.mp h) (fun i m => List.contains_iff_mem.mp (List.all_eq_true.mp hts i m)) (fun i m q => by
    have := List.all_eq_true.mp hB i m
    rw [List.contains_iff_mem.mpr q] at this
    cases this) σ H Q I.len h)⟩
end
end TL
set_option Elab.async false
set_option linter.all false
set_option maxRecDepth 100000
set_option maxHeartbeats 4000000
/-! T15: for over an owned list, each thing handed to the target. -/
namespace TL
open PySem PySem.Spec L2
section
variable {X : Cx} {pos : Pos} {pn : List Nat} {tg iter : Expr}
def mforO (i : Nat) (g : Tg) (b : MS) : MS := fun δ => match δ[i]? with
  | some (some (.lst true ds)) => mforL g b ds (δ.set i none)
  | _ => none
theorem ds_forO {body : List Stmt} {ts : List Nat} {i0 : Nat} {g : Tg} {mb : MS} (hp : PassesOwn (model X.prog X.w) X.A X.env X.xe) (hc : X.calm = true) (hv : PE X iter (tVar i0)) (hg : DG X pn ts tg g) (hb : DSs X pn body mb)
    (hs : ∀ x, foldedSetIterable iter X.env x = pure x := by intro _; rfl) : DS X pn (.For tg iter body [] pos) (mforO i0 g mb) := wS (ps_for hp hc (pi_seq hv) hg hb hs) fun D σ H ⟨Z, F, δ, fl, δ', r, e1, k⟩ => by
  unfold mforO at e1
  split at e1
  case h_2 => cases e1
  rename_i ds h0
  obtain ⟨v, e2, o⟩ := r.val i0 _ h0
  simp only [Own] at o
  obtain ⟨a, vs, G0, rfl, s, eF, o⟩ := o
  have nd0 := r.nd i0
  have zd0 := r.zd i0
  have ds0 := fun j b => r.dis i0 j b
  rw [eF] at nd0
  refine ⟨.ref a, e2, a, rfl, .inl ⟨⟨vs, .inl (.inl s)⟩, ?_⟩⟩
  refine ⟨fun i m σ2 H2 => m = ds.length - i ∧ i ≤ ds.length ∧ ∃ Z2 F2 δ2 Gr, Rel X.K Z2 F2 δ2 σ2 H2 ∧ H2 a = some (.lst vs) ∧ Owns X.K Z2 H2 (ds.drop i) Gr (vs.drop i) ∧ (a :: Gr).Nodup ∧ (∀ b ∈ a :: Gr, ¬ Z2 b ∧ ∀ j, b ∉ F2 j) ∧ (∀ b ∈ a :: Gr, b ∈ F i0) ∧ mforL g mb (ds.drop i) δ2 = some (fl, δ') ∧ Fr Z F H Z2 F2 H2 ∧ ∀ i ∈ pn, σ2[i]? = σ[i]?,
    ⟨ds.length, rfl, Nat.zero_le _, Z, _, _, G0, r.kill1 i0, s, o, nd0, fun b m => ⟨zd0 b (by rw [eF]; exact m), fun j mj => ?_⟩, fun b m => by rw [eF]; exact m, e1, ?_, fun _ _ => rfl⟩, ?_⟩
  · by_cases h : j = i0
    · simp only [if_pos h] at mj; cases mj
    · simp only [if_neg h] at mj
      exact h (ds0 j b (by rw [eF]; exact m) mj).symm
  · refine ⟨fun a o h _ => h, fun a o h => ⟨o, h⟩, fun a z => z, fun a z => .inl z, fun j a m => ?_⟩
    by_cases h : j = i0
    · simp only [if_pos h] at m; cases m
    · simp only [if_neg h] at m; exact .inr ⟨j, m⟩
  rintro i m σ2 H2 ⟨rfl, hi, Z2, F2, δ2, Gr, r2, s2, o2, nd2, ou2, of2, e2, f2, p2⟩
  by_cases hlt : i < ds.length
  · have hlv : i < vs.length := by rw [← o.length]; exact hlt
    rw [List.drop_eq_getElem_cons hlt, List.drop_eq_getElem_cons hlv] at o2
    simp only [Owns] at o2
    obtain ⟨v1, ws, G1, G2, ev, rfl, ov, or⟩ := o2
    obtain ⟨rfl, rfl⟩ := List.cons.inj ev
    rw [List.drop_eq_getElem_cons hlt] at e2
    unfold mforL at e2
    split at e2
    case h_2 => cases e2
    rename_i δ3 q3
    refine .inr ⟨⟨vs, vs[i], .inl (.inl s2), by simp [hlv]⟩, _, fun σ' H' q => ⟨ds.length - (i + 1), by omega, q⟩, fun x H3 hy => ?_⟩
    obtain ⟨rfl, hx⟩ := hy
    have hx := hx vs (.inl (.inl s2))
    rw [List.getElem?_eq_getElem hlv] at hx
    cases hx
    have nd3 := List.nodup_cons.mp nd2
    obtain ⟨nG1, nG2, nG⟩ := List.nodup_append.mp nd3.2
    refine ⟨Z2, F2, δ2, ds[i], G1, δ3, r2, ov, nG1, fun b m => ou2 b (by simp [m]), q3, fun σ3 F3 r3 h3 p3 _ => ?_⟩
    -- the hidden ones stand out of the slots
    have hid : ∀ b ∈ a :: G2, ¬ Z2 b ∧ ∀ j, b ∉ F3 j := fun b m => ⟨(ou2 b (by rcases List.mem_cons.mp m with rfl | m <;> simp [*])).1, fun j mj => by
      rcases h3 j b mj with z | ⟨l, z⟩
      · rcases List.mem_cons.mp m with rfl | m
        · exact nd3.1 (by simp [z])
        · exact nG b z b m rfl
      · exact (ou2 b (by rcases List.mem_cons.mp m with rfl | m <;> simp [*])).2 l z⟩
    have hh : ∀ b ∈ a :: G2, ∃ o, H3 b = some o := fun b m => by
      rcases List.mem_cons.mp m with rfl | m
      · exact ⟨_, s2⟩
      · exact mut_some (or.here b m)
    have ndt : (a :: G2).Nodup := List.nodup_cons.mpr ⟨fun m => nd3.1 (by simp [m]), nG2⟩
    have f3 : Fr Z F H Z2 F3 H3 := ⟨f2.out, f2.here, f2.zup, f2.znew, fun j b m => by
      rcases h3 j b m with z | ⟨l, z⟩
      · exact .inr ⟨i0, of2 b (by simp [z])⟩
      · exact f2.fnew l b z⟩
    have again : ∀ δ4, mforL g mb (ds.drop (i + 1)) δ4 = some (fl, δ') → ∀ σ4 H4 Z4 F4, Rel X.K Z4 F4 δ4 σ4 H4 → Fr Z2 F3 H3 Z4 F4 H4 → (∀ i ∈ pn, σ4[i]? = σ3[i]?) →
        ds.length - (i + 1) = ds.length - (i + 1) ∧ i + 1 ≤ ds.length ∧ ∃ Z2 F2 δ2 Gr, Rel X.K Z2 F2 δ2 σ4 H4 ∧ H4 a = some (.lst vs) ∧ Owns X.K Z2 H4 (ds.drop (i + 1)) Gr (vs.drop (i + 1)) ∧ (a :: Gr).Nodup ∧ (∀ b ∈ a :: Gr, ¬ Z2 b ∧ ∀ j, b ∉ F2 j) ∧ (∀ b ∈ a :: Gr, b ∈ F i0) ∧ mforL g mb (ds.drop (i + 1)) δ2 = some (fl, δ') ∧ Fr Z F H Z2 F2 H4 ∧ ∀ i ∈ pn, σ4[i]? = σ[i]? := fun δ4 q4 σ4 H4 Z4 F4 r4 f4 p4 =>
      ⟨rfl, hlt, Z4, F4, δ4, G2, r4, f4.out a _ s2 (hid a (by simp)).2, or.keep (f4.keep r3 fun b m => (hid b (by simp [m])).2), ndt, fun b m => by
        obtain ⟨o', ho⟩ := hh b m
        refine ⟨fun z => ?_, fun j mj => ?_⟩
        · rcases f4.znew b z with z | z | ⟨l, z⟩
          · exact (hid b m).1 z
          · rw [ho] at z; cases z
          · exact (hid b m).2 l z
        · rcases f4.fnew j b mj with z | ⟨l, z⟩
          · rw [ho] at z; cases z
          · exact (hid b m).2 l z, fun b m => of2 b (by rcases List.mem_cons.mp m with rfl | m <;> simp [*]), q4, f3.trans f4, fun i m => (p4 i m).trans ((p3 i m).trans (p2 i m))⟩
    split at e2
    · rename_i δ4 q4
      exact ⟨Z2, F3, δ3, .nx, δ4, r3, q4, fun σ4 H4 Z4 F4 r4 f4 p4 => again δ4 e2 σ4 H4 Z4 F4 r4 f4 p4⟩
    · rename_i δ4 q4
      exact ⟨Z2, F3, δ3, .ct, δ4, r3, q4, fun σ4 H4 Z4 F4 r4 f4 p4 => again δ4 e2 σ4 H4 Z4 F4 r4 f4 p4⟩
    · rename_i δ4 q4
      cases e2
      exact ⟨Z2, F3, δ3, .bk, δ', r3, q4, fun σ4 H4 Z4 F4 r4 f4 p4 => k σ4 H4 Z4 F4 r4 (f3.trans f4) fun i m => (p4 i m).trans ((p3 i m).trans (p2 i m))⟩
    · rename_i d δ4 q4
      cases e2
      exact ⟨Z2, F3, δ3, .rt d, δ', r3, q4, fun σ4 H4 Z4 F4 r4 f4 p4 v G o n => k σ4 H4 Z4 F4 r4 (f3.trans f4) (fun i m => (p4 i m).trans ((p3 i m).trans (p2 i m))) v G o (n.back f3)⟩
    · rename_i c n d δ4 q4
      cases e2
      exact ⟨Z2, F3, δ3, .ex c n d, δ', r3, q4, fun σ4 H4 Z4 F4 r4 f4 p4 => k σ4 H4 Z4 F4 r4 (f3.trans f4) fun i m => (p4 i m).trans ((p3 i m).trans (p2 i m))⟩
    · cases e2
  · have e : i = ds.length := by omega
    subst e
    rw [List.drop_length] at e2
    cases e2
    exact .inl ⟨⟨vs, .inl (.inl s2), Nat.le_of_eq o.length.symm⟩, k σ2 H2 Z2 F2 r2 f2 p2⟩
end
end TL
set_option Elab.async false
set_option linter.all false
set_option maxRecDepth 100000
set_option maxHeartbeats 4000000
/-! T16: set(xs), xs a list of nums: the set's own new object, then its filling (the library's rule of the update loop), then the call. -/
namespace TL
open PySem PySem.Spec L2
/-- the set as it is made -/
abbrev bareSet (w : World) : Obj := { cls := .type "set", dict := none, data := .set #[] 0 (.fresh 0 0 (!w.params.followText "set-order")) }
section
variable {P : Program} {w : World} {A : Around} {E : Value → Shared → Prop} {s : Shared}
/-- with the bare set on top -/
abbrev topped (w : World) (s : Shared) : Shared := { s with heap := s.heap.push (bareSet w) }
abbrev keptO (s s' : Shared) : Prop := ∀ b o, s.heap.get? b = some o → s'.heap.get? b = some o
/-- it holds just the numbers of ns -/
def Filled (w : World) (s : Shared) (ns : List Int) (s' : Shared) : Prop := ∃ h' tk c, s' = { s with heap := h', toks := tk } ∧ SetR w h' s.heap.objs.size (fun j => decide (j ∈ ns)) c ∧ keptO s s'
theorem topped_at : (topped w s).heap.get? s.heap.objs.size = some (bareSet w) := Heap.get?_push_size _ rfl
theorem topped_size : (topped w s).heap.objs.size = s.heap.objs.size + 1 := Heap.size_push ..
/-- set.__init__(the bare set, l) -/
theorem fill_from {l : Addr} {xs : Array Value} {ns : List Int} (noExc : A.handled = none) (isl : s.heap.IsList l xs) (nums : PyProof.Rows.IntsAre xs.toList ns) (few : ns.length + 1 < scanBound) :
    wpAny (model P w) A (Builtin.«set.__init__» ⟨[.ref s.heap.objs.size, .ref l], []⟩) (fun fin s' => match fin with
      | .done f => f = .ret .none ∧ Filled w s ns s'
      | .again _ => False) E (topped w s) := by
  have many : xs.size = ns.length := by simpa using PyProof.Rows.IntsAre.length nums
  have isl1 := isl.push (bareSet w)
  obtain ⟨ob, at1, c1, k1, d1⟩ := isl
  have below : l < s.heap.objs.size := Heap.lt_size at1
  obtain ⟨cl, di, da, sl⟩ := ob
  cases c1
  cases d1
  have at2 : (topped w s).heap.get? l = some { cls := .type "list", dict := di, data := .seq xs k1, slots := sl } := Heap.get?_push_of_some _ at1
  have n1 := F.sub_list_set
  have n2 := F.sub_list_frozenset
  have n3 : (Value.type "list" == Value.type "dict") = false := by decide
  have nexc : A.in1.handled = none := by simp [noExc]
  have apart : l ≠ (topped w s).heap.objs.size := by rw [topped_size]; exact Nat.ne_of_lt (Nat.lt_succ_of_lt below)
  have out : s.heap.objs.size ∉ [(topped w s).heap.objs.size, l] := by
    rw [topped_size]
    simp only [List.mem_cons, List.not_mem_nil, or_false, not_or]
    exact ⟨Nat.ne_of_lt (Nat.lt_succ_self _), Nat.ne_of_gt below⟩
  unfold Builtin.«set.__init__» noKeywords Builtin.Frozenset.updateFrom
  generalize hI : pyIter = I
  wp_walk
  subst hI
  refine wpAny_pyIter_list isl1 (wpAny_bind (wpAny_runValue ?_))
  have walk := (Walks.list (prog := P) (w := w) nexc _ l apart xs).toS
  refine set_update_ints walk _ out ns many few ?each (xs.size - 0) 0 _ (by omega) (Nat.zero_le _) ?here ?start ?over
  case here => exact ⟨⟨_, Heap.get?_push_size _ rfl, rfl, rfl⟩, isl1.push _⟩
  case start =>
    refine ⟨0, Nat.le_refl 0, setR_new_at ?_⟩
    exact Heap.get?_push_of_some _ (topped_at (w := w) (s := s))
  case each =>
    intro i v q
    obtain ⟨t, e⟩ := PyProof.Rows.IntsAre.int_at nums i v (by rw [Array.getElem?_toList]; exact q)
    have lt : i < ns.length := many ▸ (Array.getElem?_eq_some_iff.mp q).1
    refine ⟨ns[i], t, List.getElem?_eq_getElem lt, ?_⟩
    rw [e, List.getD_eq_getElem?_getD, List.getElem?_eq_getElem lt]
    rfl
  case over =>
    intro s' c mv _ full
    have g1 := mv.gens
    have g2 := mv.drawn
    have g3 := mv.os
    have old : keptO s s' := fun b o q => by
      have lt : b < s.heap.objs.size := Heap.lt_size q
      refine mv.heap b o (fun m => ?_) (Heap.get?_push_of_some _ (Heap.get?_push_of_some _ q))
      have sz : (topped w s).heap.objs.size = s.heap.objs.size + 1 := topped_size
      simp only [List.mem_cons, List.not_mem_nil, or_false] at m
      rcases m with m | m
      · exact Nat.ne_of_lt lt m
      · exact Nat.ne_of_lt (Nat.lt_succ_of_lt lt) (m.trans sz)
    have whole : Filled w s ns s' := ⟨s'.heap, s'.toks, c, by rw [show s' = ⟨s'.heap, s'.gens, s'.drawn, s'.toks, s'.os⟩ from rfl, g1, g2, g3], full, old⟩
    exact wpAny_pure (wpAny_pure ⟨rfl, whole⟩)
/-- set(l) -/
theorem set_from {l : Addr} {xs : Array Value} {ns : List Int} {Q : Value → Shared → Prop} (noExc : A.handled = none) (isl : s.heap.IsList l xs) (nums : PyProof.Rows.IntsAre xs.toList ns) (few : ns.length + 1 < scanBound)
    (go : ∀ s', Filled w s ns s' → Q (.ref s.heap.objs.size) s') : wpAny (model P w) A (call (.type "set") [.ref l]) Q E s := by
  have cs := F.called_set
  obtain ⟨_, _, order⟩ := cs.mro
  have a1 := cs.made
  have a2 := cs.sub
  have a3 := cs.notType
  have a4 := cs.canCreate
  have a5 := F.typeCall_set_1 (.ref l)
  refine wpAny_call (codeAny_of_tree (show wpAny _ _ (callAny (.type "set") _) _ _ _ from wpAny_pure ⟨Code.quiet_builtin _ (by decide +kernel), codeAny_builtin F.entry_type_call ?_⟩))
  rw [Around.under_plain (weight_type_call_type "set" [.ref l] []) rfl]
  repeat (any_goals (first | assumption | wp_step))
  refine codeAny_mono (code_set_led1 (.ref l) (E := E) (Q₁ := fun obj s' => obj = .ref s.heap.objs.size ∧ s' = topped w s) ⟨rfl, rfl⟩) fun r s' made => ?_
  match r, made with
  | .error _, made => exact made
  | .ok .next, made => exact made.elim
  | .ok .brk, made => exact made.elim
  | .ok .cont, made => exact made.elim
  | .ok (.ret obj), made =>
    obtain ⟨rfl, rfl⟩ := made
    have isSet : Shared.TypeIs (topped w s) (.ref s.heap.objs.size) "set" := ⟨_, topped_at, rfl⟩
    have b1 := cs.init.lookup
    have b2 := cs.init.bind (.ref s.heap.objs.size)
    repeat (any_goals (first | assumption | wp_step))
    refine codeAny_mono (codeAny_call_builtin (R := wants (fun r s' => r = .none ∧ Filled w s ns s') E) cs.init.plain F.entry_set_init (check_set_init_1 isSet ?_)) fun r s' over => ?_
    · have f := fill_from (P := P) (w := w) (A := A.in1.in1) (E := E) (ns := ns) (by simp [noExc]) isl nums few
      refine wpAny_mono f (fun fin s' over => ?_) fun _ _ z => z
      cases fin with
      | done f =>
        obtain ⟨rfl, over⟩ := over
        exact ⟨rfl, over⟩
      | again c => exact over.elim
    · cases r with
      | error e => exact over
      | ok f =>
        cases f with
        | ret v =>
          obtain ⟨rfl, over⟩ := over
          repeat (any_goals (first | assumption | wp_step))
          exact go _ over
        | _ => exact over.elim
end
end TL
set_option Elab.async false
set_option linter.all false
set_option maxRecDepth 100000
set_option maxHeartbeats 4000000
/-! T17: sorted(set(xs)), len(set(xs)). -/
namespace TL
open PySem PySem.Spec L2

theorem nodup_len {α : Type} [DecidableEq α] : ∀ {l m : List α}, l.Nodup → (∀ x ∈ l, x ∈ m) → l.length ≤ m.length
  | [], _, _, _ => Nat.zero_le _
  | a :: l, m, h, s => by
    have h1 := List.nodup_cons.mp h
    have := nodup_len (m := m.erase a) h1.2 fun x hx => (List.mem_erase_of_ne (fun e : x = a => h1.1 (e ▸ hx))).mpr (s x (List.mem_cons_of_mem _ hx))
    rw [List.length_erase_of_mem (s a List.mem_cons_self)] at this
    have := List.length_pos_of_mem (s a List.mem_cons_self)
    simp only [List.length_cons]
    omega
theorem nodup_same {α : Type} [DecidableEq α] {l m : List α} (h : l.Nodup) (h2 : m.Nodup) (s : ∀ x, x ∈ l ↔ x ∈ m) : l.length = m.length :=
  Nat.le_antisymm (nodup_len h fun x m => (s x).mp m) (nodup_len h2 fun x m => (s x).mpr m)
/-- each once -/
def nubL {α : Type} [DecidableEq α] (l : List α) : List α := l.foldr (fun x acc => if x ∈ acc then acc else x :: acc) []
theorem nub_mem {α : Type} [DecidableEq α] : ∀ (l : List α) (x : α), x ∈ nubL l ↔ x ∈ l
  | [], x => Iff.rfl
  | a :: l, x => by
    have ih := nub_mem l
    show x ∈ (if a ∈ nubL l then nubL l else a :: nubL l) ↔ _
    split
    · rename_i h
      rw [ih, List.mem_cons]
      exact ⟨.inr, fun z => z.elim (fun e => e ▸ (ih a).mp h) id⟩
    · rw [List.mem_cons, List.mem_cons, ih]
theorem nub_nodup {α : Type} [DecidableEq α] : ∀ l : List α, (nubL l).Nodup
  | [] => List.nodup_nil
  | a :: l => by
    show (if a ∈ nubL l then nubL l else a :: nubL l).Nodup
    split
    · exact nub_nodup l
    · rename_i h
      exact List.nodup_cons.mpr ⟨h, nub_nodup l⟩
/-- increasing, each once -/
def sortU (ns : List Int) : List Int := sortI (nubL ns)
theorem sortU_mem (ns : List Int) (x : Int) : x ∈ sortU ns ↔ x ∈ ns := by
  unfold sortU
  rw [(sortI_perm _).mem_iff, nub_mem]
theorem sortU_lt (ns : List Int) : (sortU ns).Pairwise (· < ·) :=
  lt_of_le_nodup _ (sortI_sorted _) ((sortI_perm _).nodup_iff.mpr (nub_nodup _))
theorem lt_nodup {l : List Int} (h : l.Pairwise (· < ·)) : l.Nodup := h.imp fun h e => by omega
theorem lt_ext {l m : List Int} (h : l.Pairwise (· < ·)) (h2 : m.Pairwise (· < ·)) (s : ∀ x, x ∈ l ↔ x ∈ m) : l = m := by
  have : ∀ {l m : List Int}, l.Pairwise (· < ·) → m.Pairwise (· < ·) → (∀ x, x ∈ l ↔ x ∈ m) → l = m := by
    intro l
    induction l with
    | nil =>
      intro m _ _ s
      cases m with
      | nil => rfl
      | cons b m => exact absurd ((s b).mpr List.mem_cons_self) (by simp)
    | cons a l ih =>
      intro m h h2 s
      cases m with
      | nil => exact absurd ((s a).mp List.mem_cons_self) (by simp)
      | cons b m =>
        have p1 := List.pairwise_cons.mp h
        have p2 := List.pairwise_cons.mp h2
        have e : a = b := by
          rcases List.mem_cons.mp ((s a).mp List.mem_cons_self) with z | z
          · exact z
          · rcases List.mem_cons.mp ((s b).mpr List.mem_cons_self) with y | y
            · exact y.symm
            · have := p1.1 b y; have := p2.1 a z; omega
        subst e
        rw [ih p1.2 p2.2 fun x => ?_]
        constructor
        · intro hx
          rcases List.mem_cons.mp ((s x).mp (List.mem_cons_of_mem _ hx)) with z | z
          · subst z; have := p1.1 x hx; omega
          · exact z
        · intro hx
          rcases List.mem_cons.mp ((s x).mpr (List.mem_cons_of_mem _ hx)) with z | z
          · subst z; have := p2.1 x hx; omega
          · exact z
  exact this h h2 s
section
variable {X : Cx} {pos : Pos}
/-- set(xs), xs a list of ints -/
def rSetOfI (K : PySem.W.Frag) (w : World) : List V → Hp → VK → Prop := fun xs H Q => ∃ (l : Addr) (ns : List Int), xs = [V.ref l] ∧ SqL K H l (ns.map V.int) ∧ ns.length + 1 < scanBound ∧
  ∀ a (S : Int → Bool) n, H a = none → (∀ k, S k = true ↔ k ∈ ns) → n = (nubL ns).length → Q (.ref a) (upd H a (SetO w a S n))
theorem cr_setOfI (hc : X.calm = true) : CallR X (.type "set") (rSetOfI X.K X.w) := by
  intro pins s σ H xs us Q I r h
  obtain ⟨l, ns, rfl, hl, hf, q⟩ := h
  rw [Vals.ref1 r]
  obtain ⟨its, rv, pl, hz⟩ := I.list hl
  have hn : H s.heap.objs.size = none := I.hok.fresh (Nat.le_refl _)
  refine set_from (P := X.prog) (w := X.w) (ns := ns) (I.ok.hd hc) pl.isList (by simpa using rv.ints) hf fun s' ⟨h', tk, c, e, R, k⟩ => ?_
  subst e
  have hc : c = (nubL ns).length := by
    obtain ⟨o, es, ep, t, _, _, _, _, nd, hm, _, _, hn, _⟩ := R
    rw [← hn, ← Array.length_toList, ← List.length_map (f := keyOf)]
    exact nodup_same nd (nub_nodup _) fun x => by rw [← hm x, nub_mem, decide_eq_true_eq]
  exact ⟨.ref s.heap.objs.size, _, I.laid (t' := tk) k (Nat.le_refl _) (setO_new R), rfl, q _ _ _ hn (fun j => decide_eq_true_iff) hc⟩
/-- of ints, of tuples of ints -/
def rSetAny (K : PySem.W.Frag) (P : Program) (w : World) : List V → Hp → VK → Prop := fun xs H Q => rSetOfI K w xs H Q ∨ rSetOfT K P w xs H Q
theorem cr_setAny (hc : X.calm = true) (hu : X.A.units + 64 < cLine) : CallR X (.type "set") (rSetAny X.K X.prog X.w) := by
  intro pins s σ H xs us Q I r h
  rcases h with h | h
  · exact cr_setOfI hc pins s σ H xs us Q I r h
  · exact cr_setOfT hc hu pins s σ H xs us Q I r h
def rLenAny (K : PySem.W.Frag) (P : Program) (w : World) : List V → Hp → VK → Prop := fun xs H Q =>
  (∃ (a : Addr) (S : Int → Bool) (n : Nat), xs = [V.ref a] ∧ H a = some (SetO w a S n) ∧ Q (.int n) H) ∨
  ∃ (a : Addr) (L : List (Addr × List Int)), xs = [V.ref a] ∧ H a = some (SetTO P w a L) ∧ (∀ p ∈ L, SqT K H p.1 (p.2.map V.int)) ∧ ((L.map (·.2)).Nodup → Q (.int L.length) H)
theorem cr_lenAny : CallR X (.builtin "len") (rLenAny X.K X.prog X.w) := by
  intro pins s σ H xs us Q I r h
  rcases h with ⟨a, S, n, rfl, ha, q⟩ | ⟨a, L, rfl, ha, hk, q⟩
  · rw [Vals.ref1 r]
    obtain ⟨o, es, ep, t, ho, hex, hd, g, nd, hm, hb, hf, hn, hr, hl⟩ := setO_get I ha
    exact call_len_set ho hex hd hf (by unfold scanBound at hb; omega) ⟨.int n, H, I.tok _, ⟨_, by rw [hn]⟩, q⟩
  · rw [Vals.ref1 r]
    have R0 : SetT0 X.prog X.w s.heap a L := (I.hok a _ ha).1
    obtain ⟨es, ep, t, R⟩ := R0.full fun p hp => I.isT (hk p hp)
    obtain ⟨o, ho, hex, hd⟩ := R.ob
    have := R.size
    have := R.few
    exact call_len_set ho hex hd R.fits (by omega) ⟨.int L.length, H, I.tok _, ⟨_, by rw [R.size]⟩, q R.nd⟩
def sortedSetD : D → Option D
  | .lst _ ds => (intsD ds).bind fun ns => if ns.length + 1 < scanBound ∧ (sortU ns).length < 64 then some (.lst true ((sortU ns).map .int)) else none
  | _ => none
theorem r_sortedSet {K : PySem.W.Frag} {w : World} : R1 K (fun x H Q => rSetOfI K w [x] H fun y H1 => rSortedSet w [y] H1 Q) sortedSetD := by
  intro Z F δ σ H x dx d Fx Q rl ox e k
  unfold sortedSetD at e
  split at e
  · rw [Option.bind_eq_some_iff] at e
    obtain ⟨ns, e1, e⟩ := e
    split at e
    case isFalse => cases e
    rename_i hz
    cases e
    obtain ⟨a, vs, G, rfl, s, o, _⟩ := own_lst ox
    refine ⟨a, ns, rfl, by rw [← intsD_own o e1]; exact .inl s, hz.1, fun b S n hb hS hn => ⟨b, S, n, rfl, upd_same, ?_, fun ms p hs hm hl hp => ?_⟩⟩
    · subst hn
      have := hz.2
      unfold sortU at this
      rwa [(sortI_perm _).length_eq] at this
    · have : ms = sortU ns := lt_ext hs (sortU_lt ns) fun x => by rw [hm, hS, sortU_mem]
      subst this
      refine fin_lst (rl.new hb) (fun v H' Z' G r f s o n => k v H' Z' G r ((Fr.new hb).trans f) (fun a o h => s a o (same_upd hb a o h)) o (New.back (Z1 := Z) (F1 := F) (Fr.new (Z := Z) hb) n)) (ints_own _) p hp
  · cases e
def tupIntsD : List D → Option (List (List Int))
  | [] => some []
  | .tup es :: ds => (intsD es).bind fun k => (tupIntsD ds).map (k :: ·)
  | _ :: _ => none
theorem tupIntsD_own {K : PySem.W.Frag} {Z : Addr → Prop} {H : Hp} : ∀ {ds : List D} {G : List Addr} {vs : List V} {kss : List (List Int)}, Owns K Z H ds G vs → tupIntsD ds = some kss →
    ∃ ks : List (Addr × List Int), vs = ks.map (fun p => V.ref p.1) ∧ kss = ks.map (·.2) ∧ ∀ p ∈ ks, H p.1 = some (.tup (p.2.map V.int))
  | [], _, _, _, h, e => by
    simp only [Owns] at h
    simp [tupIntsD] at e
    exact ⟨[], h.1, by simp [e], by simp⟩
  | d :: ds, _, _, _, h, e => by
    simp only [Owns] at h
    obtain ⟨v, ws, F1, F2, rfl, rfl, o1, o2⟩ := h
    cases d <;> simp only [tupIntsD] at e <;> try cases e
    rename_i es
    rw [Option.bind_eq_some_iff] at e
    obtain ⟨k, e1, e⟩ := e
    rw [Option.map_eq_some_iff] at e
    obtain ⟨kss, e2, rfl⟩ := e
    obtain ⟨ks, rfl, rfl, h3⟩ := tupIntsD_own o2 e2
    obtain ⟨a, us, rfl, s, o⟩ := own_tup o1
    refine ⟨(a, k) :: ks, rfl, rfl, fun p m => ?_⟩
    rcases List.mem_cons.mp m with rfl | m
    · rw [← intsD_own o e1]; exact s
    · exact h3 p m
def lenSetD : D → Option D
  | .lst _ ds => match intsD ds with
    | some ns => if ns.length + 1 < scanBound then some (.int (nubL ns).length) else none
    | none => (tupIntsD ds).bind fun kss => if kss.length < 64 then some (.int (nubL kss).length) else none
  | _ => none
theorem r_lenSet {K : PySem.W.Frag} {P : Program} {w : World} : R1 K (fun x H Q => rSetAny K P w [x] H fun y H1 => rLenAny K P w [y] H1 Q) lenSetD := by
  intro Z F δ σ H x dx d Fx Q rl ox e k
  unfold lenSetD at e
  split at e
  case h_2 => cases e
  obtain ⟨a, vs, G, rfl, s, o, _⟩ := own_lst ox
  have fin : ∀ (b : Addr) (ho : HO) (n : Nat), H b = none → d = .int n → Q (.int n) (upd H b ho) := fun b ho n hb ed => by
    subst ed
    exact k _ _ Z [] (rl.new hb) (Fr.new hb) (same_upd hb) (by simp [Own]) New.nil
  split at e
  · rename_i ns e1
    split at e
    case isFalse => cases e
    rename_i hz
    cases e
    refine .inl ⟨a, ns, rfl, by rw [← intsD_own o e1]; exact .inl s, hz, fun b S n hb hS hn => .inl ⟨b, S, n, rfl, upd_same, fin _ _ _ hb (by rw [hn])⟩⟩
  · rw [Option.bind_eq_some_iff] at e
    obtain ⟨kss, e2, e⟩ := e
    split at e
    case isFalse => cases e
    rename_i hz
    cases e
    obtain ⟨ks, rfl, rfl, h3⟩ := tupIntsD_own o e2
    refine .inr ⟨a, ks, rfl, .inl s, fun p m => .of (h3 p m), by rw [List.length_map] at hz; exact hz, fun b L hb hL hA => .inr ⟨b, L, rfl, upd_same, fun p m => .of (same_upd hb _ _ (h3 p (hL p m))), fun nd => fin _ _ _ hb ?_⟩⟩
    rw [nodup_same (nub_nodup _) nd fun x => ?_, List.length_map]
    rw [nub_mem]
    refine ⟨fun m => ?_, fun m => ?_⟩
    · obtain ⟨p, hp, rfl⟩ := List.mem_map.mp m
      exact hA p hp
    · obtain ⟨p, hp, rfl⟩ := List.mem_map.mp m
      exact List.mem_map.mpr ⟨p, hL p hp, rfl⟩
theorem de_sortedSet {a : Expr} {p1 p2 q : Pos} {p : List Nat} {fr : Bool} {m : M D} (hc : X.calm = true) (hg : Gl X "sorted") (hm : X.mg "sorted" = none) (hg2 : Gl X "set") (hm2 : X.mg "set" = none) (ha : DE X a p fr m)
    (he : starEach [a] X.env = (false, eval a X.env) :: starEach [] X.env := by rfl) (hpl : (backTo q (starEach [] X.env)).any (·.1) = false := by rfl)
    (he' : starEach [(.Call (.Name "set" p2) [a] [] q : Expr)] X.env = (false, eval (.Call (.Name "set" p2) [a] [] q) X.env) :: starEach [] X.env := by rfl) (hpl' : (backTo pos (starEach [] X.env)).any (·.1) = false := by rfl) :
    DE X (.Call (.Name "sorted" p1) [.Call (.Name "set" p2) [a] [] q] [] pos) p true (mop1 sortedSetD m) :=
  wE (pe_callB (cr_sortedSet hc) hg hm (by decide +kernel) (pa_cons (pe_callTy (cr_setOfI hc) hg2 hm2 (by decide +kernel) (pa_cons ha pa_nil he) (by decide) (by decide) he hpl) pa_nil he') (by decide) (by decide) he' hpl') fun σ H Q h => op1_rd r_sortedSet σ H Q h
theorem de_lenSet {a : Expr} {p1 p2 q : Pos} {p : List Nat} {fr : Bool} {m : M D} (hc : X.calm = true) (hu : X.A.units + 65 < cLine) (hg : Gl X "len") (hm : X.mg "len" = none) (hg2 : Gl X "set") (hm2 : X.mg "set" = none) (ha : DE X a p fr m)
    (he : starEach [a] X.env = (false, eval a X.env) :: starEach [] X.env := by rfl) (hpl : (backTo q (starEach [] X.env)).any (·.1) = false := by rfl)
    (he' : starEach [(.Call (.Name "set" p2) [a] [] q : Expr)] X.env = (false, eval (.Call (.Name "set" p2) [a] [] q) X.env) :: starEach [] X.env := by rfl) (hpl' : (backTo pos (starEach [] X.env)).any (·.1) = false := by rfl) :
    DE X (.Call (.Name "len" p1) [.Call (.Name "set" p2) [a] [] q] [] pos) p true (mop1 lenSetD m) :=
  wE (pe_callB cr_lenAny hg hm (by decide +kernel) (pa_cons (pe_callTy (cr_setAny hc (by omega)) hg2 hm2 (by decide +kernel) (pa_cons ha pa_nil he) (by decide) (by decide) he hpl) pa_nil he') (by decide) (by decide) he' hpl') fun σ H Q h => op1_rd r_lenSet σ H Q h
end
end TL
set_option Elab.async false
set_option linter.all false
set_option maxRecDepth 100000
set_option maxHeartbeats 4000000
/-! T18: calls that only read what they are handed: the result holds no part of it. -/
namespace TL
open PySem PySem.Spec L2
mutual
/-- nothing of it is shared: its lists and dicts are its own -/
def D.free : D → Bool
  | .non => true
  | .bl _ => true
  | .int _ => true
  | .str _ => true
  | .tup ds => D.frees ds
  | .lst o ds => o && D.frees ds
  | .dK o _ ds => o && D.frees ds
  | .dT o _ ds => o && D.frees ds
  | .ins o _ _ ds => o && D.frees ds
def D.frees : List D → Bool
  | [] => true
  | d :: ds => D.free d && D.frees ds
end
section
variable {K : PySem.W.Frag} {Z Z' : Addr → Prop} {H : Hp}
mutual
theorem Own.free : ∀ {d : D} {F : List Addr} {v : V}, d.free = true → Own K Z H d F v → Own K Z' H d F v
  | .non, _, _, _, h => by simpa [Own] using h
  | .bl _, _, _, _, h => by simpa [Own] using h
  | .int _, _, _, _, h => by simpa [Own] using h
  | .str _, _, _, _, h => by simpa [Own] using h
  | .tup ds, _, _, f, h => by
    simp only [Own] at h ⊢
    obtain ⟨a, vs, e, s, o⟩ := h
    exact ⟨a, vs, e, s, Owns.free (by simpa [D.free] using f) o⟩
  | .lst false ds, _, _, f, h => by simp [D.free] at f
  | .lst true ds, _, _, f, h => by
    simp only [Own] at h ⊢
    obtain ⟨a, vs, G, e, s, e2, o⟩ := h
    exact ⟨a, vs, G, e, s, e2, Owns.free (by simpa [D.free] using f) o⟩
  | .dK false ks ds, _, _, f, h => by simp [D.free] at f
  | .dK true ks ds, _, _, f, h => by
    simp only [Own] at h ⊢
    obtain ⟨a, vs, G, e, s, e1, e2, o⟩ := h
    exact ⟨a, vs, G, e, s, e1, e2, Owns.free (by simpa [D.free] using f) o⟩
  | .dT false ks ds, _, _, f, h => by simp [D.free] at f
  | .dT true ks ds, _, _, f, h => by
    simp only [Own] at h ⊢
    obtain ⟨a, vs, G, e, s, e1, e2, o⟩ := h
    exact ⟨a, vs, G, e, s, e1, e2, Owns.free (by simpa [D.free] using f) o⟩
  | .ins false C fs ds, _, _, f, h => by simp [D.free] at f
  | .ins true C fs ds, _, _, f, h => by
    simp only [Own] at h ⊢
    obtain ⟨a, dx, vs, G, e, s, e1, e2, o⟩ := h
    exact ⟨a, dx, vs, G, e, s, e1, e2, Owns.free (by simpa [D.free] using f) o⟩
theorem Owns.free : ∀ {ds : List D} {F : List Addr} {vs : List V}, D.frees ds = true → Owns K Z H ds F vs → Owns K Z' H ds F vs
  | [], _, _, _, h => by simpa [Owns] using h
  | d :: ds, _, _, f, h => by
    simp only [Owns] at h ⊢
    rw [D.frees, Bool.and_eq_true] at f
    obtain ⟨v, ws, F1, F2, e1, e2, o1, o2⟩ := h
    exact ⟨v, ws, F1, F2, e1, e2, Own.free f.1 o1, Owns.free f.2 o2⟩
end
end
/-- values that are but read -/
def tGv (K : PySem.W.Frag) (m : M (List D)) : TA := fun σ H Q => ∃ Z F δ ds δ', Rel K Z F δ σ H ∧ m δ = some (ds, δ') ∧
  ∀ vs H' Z' G, Rel K Z' F δ σ H' → Fr Z F H Z' F H' → Tch [] F δ H F δ H' → δ' = δ → Owns K Z' H' ds G vs → Q vs H'
section
variable {X : Cx} {pos : Pos}
abbrev DV (X : Cx) (es : List Expr) (m : M (List D)) : Prop := PA X es (tGv X.K m)
theorem dv_nil : DV X [] mnil := wA pa_nil fun σ H Q ⟨Z, F, δ, ds, δ', r, e1, k⟩ => by
  unfold mnil at e1
  rw [mk_some] at e1
  obtain ⟨rfl, rfl⟩ := e1
  exact k [] H Z [] r Fr.refl Tch.refl rfl (by simp [Owns])
theorem dv_cons {a : Expr} {es : List Expr} {m1 : M D} {m2 : M (List D)} {fr : Bool} (ha : DE X a [] fr m1) (hr : DV X es m2) (hs : starEach (a :: es) X.env = (false, eval a X.env) :: starEach es X.env := by rfl) : DV X (a :: es) (mcons m1 m2) := wA (pa_cons ha hr hs) fun σ H Q ⟨Z, F, δ, ds, δ', r, e1, k⟩ => by
  unfold mcons at e1
  rw [mbind_some] at e1
  obtain ⟨d1, δ1, e1, e2⟩ := e1
  rw [mbind_some] at e2
  obtain ⟨ds2, δ2, e2, e3⟩ := e2
  rw [mk_some] at e3
  obtain ⟨rfl, rfl⟩ := e3
  refine ⟨Z, F, δ, d1, δ1, r, e1, fun v H1 Z1 F1 G1 r1 f1 pu1 o1 n1 => ?_⟩
  obtain ⟨rfl, rfl, s1⟩ := Tch.nil r f1 pu1
  refine ⟨Z1, F1, δ1, ds2, δ', r1, e2, fun vs H2 Z2 G2 r2 f2 pu2 ed o2 => ?_⟩
  obtain ⟨_, _, s2⟩ := Tch.nil r1 f2 pu2
  refine k (v :: vs) H2 Z2 (G1 ++ G2) r2 (f1.trans f2) ((pu1.trans pu2).mono (by simp)) ed ?_
  simp only [Owns]
  exact ⟨v, vs, G1, G2, rfl, rfl, o1.keep (same_keep s2 f2.zup _), o2⟩
def mcallV (fn : Fn) (m : M (List D)) : M D := mbind m fun ds => mopt ((fn (D.fzs ds)).bind fun p => if p.1.free = true then some p.1 else none)
theorem callV_rd {m : M (List D)} {fn : Fn} : ∀ σ H Q, tG X.K [] true (mcallV fn m) σ H Q → tGv X.K m σ H fun vs H1 => spM X.K false fn vs H1 Q E0 := fun σ H Q ⟨Z, F, δ, d, δ', r, e1, k⟩ => by
  unfold mcallV at e1
  rw [mbind_some] at e1
  obtain ⟨ds, δ1, e1, e2⟩ := e1
  rw [mopt_some, Option.bind_eq_some_iff] at e2
  obtain ⟨⟨⟨r0, out⟩, e2, e3⟩, rfl⟩ := e2
  split at e3
  case isFalse => cases e3
  rename_i hfree
  cases e3
  refine ⟨Z, F, δ, ds, δ', r, e1, fun vs H1 Z1 G r1 f1 tc ed o1 => ?_⟩
  subst ed
  have gh : ∀ a ∈ G, ∃ o, H1 a = some o := fun a m => mut_some (o1.here a m)
  have oz : Owns X.K (fun a => Z1 a ∨ a ∈ G) H1 (D.fzs ds) [] vs := o1.fz (fun _ z => .inl z) fun _ m => .inr m
  refine ⟨fun a => Z1 a ∨ a ∈ G, fun _ => [], D.fzs ds, r0, out, oz.rel (fun a z => z.elim (r1.zh a) (gh a)), e2, fun _ _ => rfl, fun v H2 Z2 F2 G2 R f2 o2 n2 => ?_⟩
  have s2 : Same H1 H2 := fun a o h => f2.out a o h fun _ m => nomatch m
  have new : ∀ a ∈ G2, H1 a = none := fun a m => by
    rcases n2.from' a m with z | ⟨_, z⟩
    · exact z
    · cases z
  have r2 : Rel X.K Z1 F δ' σ H2 := r1.grow s2 (fun _ z => z) (fun a z => .inl z) fun a z => by
    obtain ⟨o, h⟩ := r1.zh a z
    exact ⟨o, s2 a o h⟩
  refine k v H2 Z1 F G2 r2 ⟨fun a o h n => s2 a o (f1.out a o h n), fun a o h => ?_, f1.zup, f1.znew, f1.fnew⟩ (tc.more r s2) (o2.free hfree) fun _ => ⟨n2.nd, fun a m z => ?_, fun a m i mi => r1.ne_new (new a m) i mi, fun a m => ?_⟩
  · obtain ⟨o', h'⟩ := f1.here a o h
    exact ⟨o', s2 a o' h'⟩
  · obtain ⟨o, h⟩ := r1.zh a z
    rw [new a m] at h; cases h
  · cases e : H a with
    | none => exact .inl rfl
    | some o =>
      obtain ⟨o', h'⟩ := f1.here a o e
      rw [new a m] at h'; cases h'
theorem de_callV {x : Str} {p : Pos} {e : Expr} {es : List Expr} {k : Nat} {f : Addr} {fd : FuncData} {ps : List Str} {fn : Fn} {m : M (List D)} (F : FnOk X.prog X.w X.K X.mg X.base CX0 k f fd ps (spM X.K false fn)) (hr : Room k X.A) (hg : Gl X x) (hm : X.mg x = some (.ref f)) (hk : PySem.W.keepIn X.K (.ref f) = true) (hb : Binds X.K fd ps [])
    (ha : DV X (e :: es) m) (hdb : (x == ("__debug__" : Str)) = false := by decide) (he : starEach (e :: es) X.env = (false, eval e X.env) :: starEach es X.env := by rfl) (hpl : (backTo pos (starEach es X.env)).any (·.1) = false := by rfl) :
    DE X (.Call (.Name x p) (e :: es) [] pos) [] true (mcallV fn m) := wE (pe_call F hr hg hm hk hb .nil pass0 ha hdb he hpl) fun σ H Q h => by
  have := callV_rd σ H Q h
  show tGv X.K m σ H fun vs H1 => spM X.K false fn (vs ++ []) H1 Q E0
  simp only [List.append_nil]
  exact this
end
end TL
set_option Elab.async false
set_option linter.all false
set_option maxRecDepth 100000
set_option maxHeartbeats 4000000
/-! T19: sorted of a list or a tuple of ints; tuple of a list of its own. -/
namespace TL
open PySem PySem.Spec L2
section
open PyProof.Rows Srt SrtO
variable {P : Program} {w : World} {A : Around} {E : Value → Shared → Prop} {s : Shared}
open PySem in
/-- what is walked, gathered: the things before stay, and the heap has grown -/
theorem gather {Q : List Value → Shared → Prop} (l : Addr) {T : String} {o : Obj} {items : Array Value} {n : Nat} (hT : T = "list" ∨ T = "tuple") (ho : s.heap.get? l = some o) (hc : o.cls = .type T) (hd : o.data = .seq items n) (hz : items.size ≤ sizeLine)
    (h : ∀ h1, (∀ b u, s.heap.get? b = some u → h1.get? b = some u) → s.heap.objs.size ≤ h1.objs.size → Q items.toList { s with heap := h1 }) : wpAny (model P w) A (collect (.ref l)) Q E s := by
  unfold collect
  refine wpAny_bind (wpAny_runValue (codeAny_builtin PySem.F.entry_proto_collect ?_)); rw [Around.under_plainId PySem.F.plain_proto_collect _]
  show wpAny _ A.in1 (newList [] >>= fun x => again (.builtin "list.__iadd__" ⟨[x, .ref l], []⟩)) _ _ s
  refine wpAny_bind (wpAny_newObj_type (wpAny_pure ⟨plainId_quiet PySem.F.plain_list_iadd _, codeAny_builtin PySem.F.entry_list_iadd ?_⟩)); rw [Around.under_plainId PySem.F.plain_list_iadd _]
  show wpAny _ A.in1 (Builtin.List.listExtendWith (.ref s.heap.objs.size) (.ref l) (.ref s.heap.objs.size)) _ _ _
  generalize e0 : s.heap.push { cls := .type "list", data := .seq ([] : List Value).toArray } = h0
  have at0 : h0.get? s.heap.objs.size = some { cls := .type "list", data := .seq #[] 0 } := by rw [← e0]; exact Heap.get?_push_size _ rfl
  have up0 : ∀ b u, s.heap.get? b = some u → h0.get? b = some u := fun b u q => by rw [← e0]; exact Heap.get?_push_of_some _ q
  have z0 : h0.objs.size = s.heap.objs.size + 1 := by rw [← e0]; exact Heap.size_push _ _
  generalize e1 : h0.update s.heap.objs.size (Obj.mapSeq (· ++ items)) = h1
  have at1 : ∃ m, h1.get? s.heap.objs.size = some { cls := .type "list", data := .seq (#[] ++ items) m } := by rw [← e1]; exact ⟨_, Heap.get?_update_self (Obj.mapSeq (· ++ items)) at0 rfl⟩
  have z1 : h1.objs.size = s.heap.objs.size + 1 := by rw [← e1, Heap.size_update]; exact z0
  have up1 : ∀ b u, s.heap.get? b = some u → h1.get? b = some u := fun b u q => by rw [← e1]; exact (Heap.get?_update_other _ _ (Nat.ne_of_gt (Heap.lt_size q))).trans (up0 b u q)
  obtain ⟨m1, at1⟩ := at1
  have last : wpAny (model P w) A (match Value.ref s.heap.objs.size with
      | Value.ref a => do
        match (← load a).data with
        | Data.seq xs _ => pure xs.toList
        | _ => unsupported "internal:collect"
      | _ => unsupported "internal:collect") Q E { s with heap := h1 } := by
    show wpAny _ A (load s.heap.objs.size >>= _) _ _ _
    refine wpAny_bind (wpAny_load at1 (wpAny_pure ?_))
    have e : ((#[] : Array Value) ++ items).toList = items.toList := by simp
    show Q ((#[] : Array Value) ++ items).toList _
    rw [e]
    exact h h1 up1 (by omega)
  refine wpAny_mono (wpAny_extend_seq (hsz := hz) (A := A) (R := fun r t => r = .ok (.ret (.ref s.heap.objs.size)) ∧ t = { s with heap := h1 }) (s := { s with heap := h0 }) _ l _ 0 hT at0 (up0 _ _ ho) hc hd ⟨rfl, by rw [← e1]⟩) (fun fin t q => ?_) fun e t q => absurd q.1 (by simp)
  cases fin with
  | done f =>
    obtain ⟨e, rfl⟩ := q
    cases e
    exact last
  | again c' => exact ⟨q.1, codeAny_mono q.2 fun r t hr => (by obtain ⟨rfl, rfl⟩ := hr; exact last)⟩
theorem sorted_seq {l : Addr} {T : String} {o : Obj} {items : Array Value} {n : Nat} {ns : List Int} {Q : Value → Shared → Prop} (hT : T = "list" ∨ T = "tuple") (ho : s.heap.get? l = some o) (hc : o.cls = .type T) (hd : o.data = .seq items n)
    (hi : IntsAre items.toList ns) (hz : items.size ≤ sizeLine)
    (h : ∀ (h' : Heap) (p : Addr) (out : List Value) (ep : Nat) (ns' : List Int), (∀ b u, s.heap.get? b = some u → h'.get? b = some u) → s.heap.objs.size ≤ p → h'.get? p = some (seqObj "list" out.toArray ep) → IntsAre out ns' → ns'.Perm ns → ns'.Pairwise (· ≤ ·) →
      Q (.ref p) { s with heap := h' }) : wpAny (model P w) A (call (.builtin "sorted") [.ref l]) Q E s := by
  have hz' : items.toList.length ≤ sizeLine := by simpa using hz
  refine Calls.call_function_entry kind_sorted plain_sorted entry_sorted (args_sorted1 _) ?_
  unfold Builtin.«sorted»
  refine wpAny_bind (m := checkCount "sorted" 1 1 _) (wpAny_pure ?_)
  refine wpAny_bind (gather l hT ho hc hd hz fun h1 k1 out_of => ?_)
  refine wpAny_bind (wpAny_newList ?_ hz')
  dsimp only
  have at1 : (h1.push (seqObj "list" items.toList.toArray 0)).get? h1.objs.size = some (seqObj "list" items.toList.toArray 0) := Heap.get?_push_size _ rfl
  have up : ∀ b u, s.heap.get? b = some u → (h1.push (seqObj "list" items.toList.toArray 0)).get? b = some u := fun b u q => Heap.get?_push_of_some _ (k1 b u q)
  refine wpAny_bind (wpAny_holding (wpAny_call_entry slot_list_sort ⟨_, at1, rfl⟩ entry_list_sort (list_sort_ord swo_int at1 hz' (fun h2 => ints_sortable hi h2) fun out c1 c2 => ⟨_, rfl, ?_⟩) (args_list_sort _)))
  obtain ⟨q1, q2, q3⟩ := ints_out hi c1 c2
  obtain ⟨ep, q4⟩ := sortedHeap_at (out := out.toArray) at1
  refine wpAny_pure ⟨_, rfl, h _ _ out ep _ (fun b u q => ?_) out_of q4 q1 q2 q3⟩
  have lt := Heap.lt_size (k1 b u q)
  rw [sortedHeap_old (Nat.ne_of_lt lt) (by rw [Heap.size_push]; exact Nat.lt_succ_of_lt lt)]
  exact up b u q
end
section
variable {X : Cx} {pos : Pos}
def rSortedSeq (K : PySem.W.Frag) : List V → Hp → VK → Prop := fun vs H Q => ∃ (a : Addr) (ns : List Int), vs = [V.ref a] ∧ (SqL K H a (ns.map V.int) ∨ SqT K H a (ns.map V.int)) ∧
  ∀ (ms : List Int) (p : Addr), ms.Perm ns → ms.Pairwise (· ≤ ·) → H p = none → Q (.ref p) (upd H p (.lst (ms.map V.int)))
theorem cr_sortedSeq : CallR X (.builtin "sorted") (rSortedSeq X.K) := by
  intro pins s σ H vs us Q I r h
  obtain ⟨a, ns, rfl, hs, q⟩ := h
  rw [Vals.ref1 r]
  have fin : ∀ (its : List Value), Vals (ns.map V.int) its → (ns.map V.int).length ≤ sizeLine → ∀ (h' : Heap) (p : Addr) (out : List Value) (ep : Nat) (ms : List Int), (∀ b u, s.heap.get? b = some u → h'.get? b = some u) → s.heap.objs.size ≤ p → h'.get? p = some (PyProof.Rows.seqObj "list" out.toArray ep) → PyProof.Rows.IntsAre out ms → ms.Perm ns → ms.Pairwise (· ≤ ·) →
      EP X pins σ Q (.ref p) { s with heap := h' } := fun its rv hz h' p out ep ms k hp hg hi pm pw => by
    have hlen : (ms.map V.int).length ≤ sizeLine := by rw [List.length_map, pm.length_eq]; rw [List.length_map] at hz; exact hz
    exact ⟨.ref p, upd H p (.lst (ms.map V.int)), I.laid (t' := s.toks) k hp ⟨hlen, out, ep, vals_of_ints hi, hg⟩, rfl, q ms p pm pw (I.hok.fresh hp)⟩
  rcases hs with hs | hs
  · obtain ⟨its, rv, pl, hz⟩ := I.list hs
    obtain ⟨o, ho, hc, n, hd⟩ := pl.isList
    exact sorted_seq (.inl rfl) ho hc hd (by simpa using rv.ints) (by rw [List.size_toArray, ← rv.length]; exact hz) (fin its rv hz)
  · obtain ⟨its, rv, pl, hz⟩ := I.tuple hs
    obtain ⟨o, ho, hc, n, hd⟩ := pl
    exact sorted_seq (.inr rfl) ho hc hd (by simpa using rv.ints) (by rw [List.size_toArray, ← rv.length]; exact hz) (fin its rv hz)
def sortedSeqD : D → Option D
  | .lst _ ds => (intsD ds).map fun ns => .lst true ((sortI ns).map .int)
  | .tup ds => (intsD ds).map fun ns => .lst true ((sortI ns).map .int)
  | _ => none
theorem r_sortedSeq {K : PySem.W.Frag} : R1 K (fun x H Q => rSortedSeq K [x] H Q) sortedSeqD := by
  intro Z F δ σ H x dx d Fx Q rl ox e k
  unfold sortedSeqD at e
  split at e
  · rw [Option.map_eq_some_iff] at e
    obtain ⟨ns, e1, rfl⟩ := e
    obtain ⟨a, vs, G, rfl, s, o, _⟩ := own_lst ox
    refine ⟨a, ns, rfl, .inl (by rw [← intsD_own o e1]; exact .inl s), fun ms p hp hs hn => ?_⟩
    have : ms = sortI ns := sorted_eq (hp.trans (sortI_perm ns).symm) hs (sortI_sorted ns)
    subst this
    exact fin_lst rl k (ints_own _) p hn
  · rw [Option.map_eq_some_iff] at e
    obtain ⟨ns, e1, rfl⟩ := e
    obtain ⟨a, vs, rfl, s, o⟩ := own_tup ox
    refine ⟨a, ns, rfl, .inr (by rw [← intsD_own o e1]; exact .of s), fun ms p hp hs hn => ?_⟩
    have : ms = sortI ns := sorted_eq (hp.trans (sortI_perm ns).symm) hs (sortI_sorted ns)
    subst this
    exact fin_lst rl k (ints_own _) p hn
  · cases e
/-- tuple(xs), xs a new list: what it holds goes over -/
def tupleOwnD : D → Option D
  | .lst _ ds => some (.tup ds)
  | .tup ds => some (.tup ds)
  | _ => none
theorem de_tupleOwn {a : Expr} {q : Pos} {t : List Nat} {m : M D} (hg : Gl X "tuple") (hm : X.mg "tuple" = none) (ha : DE X a t true m) (he : starEach [a] X.env = (false, eval a X.env) :: starEach [] X.env := by rfl) (hpl : (backTo pos (starEach [] X.env)).any (·.1) = false := by rfl) :
    DE X (.Call (.Name "tuple" q) [a] [] pos) t true (mop1 tupleOwnD m) := wE (pe_callTy call_tuple_of hg hm (by decide +kernel) (pa_cons ha pa_nil he) (by decide) (by decide) he hpl) fun σ H Q ⟨Z, F, δ, d, δ', r, e1, k⟩ => by
  unfold mop1 at e1
  rw [mbind_some] at e1
  obtain ⟨d1, δ1, e1, e2⟩ := e1
  rw [mopt_some] at e2
  obtain ⟨e2, rfl⟩ := e2
  refine ⟨Z, F, δ, d1, δ', r, e1, fun v H1 Z1 F1 G r1 f1 tc o1 n1 => ?_⟩
  have n1 := n1 rfl
  unfold tupleOwnD at e2
  split at e2
  · rename_i ds
    cases e2
    obtain ⟨b, vs, G', rfl, s, o, sub⟩ := own_lst o1
    refine ⟨b, vs, rfl, .inl ⟨.inl s, fun l hl => ?_⟩⟩
    refine k (.ref l) _ Z1 F1 G' (r1.new hl) (f1.trans (Fr.new hl)) (tc.more r (same_upd hl)) ?_ fun _ => ⟨n1.nd.sublist sub, fun a m => n1.zd a (sub.subset m), fun a m => n1.fd a (sub.subset m), fun a m => n1.from' a (sub.subset m)⟩
    simp only [Own]
    exact ⟨l, vs, rfl, upd_same, o.keep (same_keep (same_upd hl) (fun _ z => z) _)⟩
  · rename_i ds
    cases e2
    obtain ⟨b, vs, rfl, s, o⟩ := own_tup o1
    refine ⟨b, vs, rfl, .inr ⟨.of s, k (.ref b) H1 Z1 F1 G r1 f1 tc o1 fun _ => n1⟩⟩
  · cases e2
end
end TL
set_option Elab.async false
set_option linter.all false
set_option maxRecDepth 100000
set_option maxHeartbeats 4000000
/-! T20: the law's own def: its first statement makes the drawing state out of the script; what follows stands over trees, the script's slot being told nothing of. -/
namespace TL
open PySem PySem.Spec L2
/-- what law(script) promises -/
def spLaw (K : PySem.W.Frag) : Sp := fun vs H Q _ => ∃ (a : Addr) (ns : List Int), vs = [.ref a] ∧ SqL K H a (ns.map V.int) ∧ ns.length ≤ 63 ∧ ∀ H', Q (.bl true) H'
/-- what the maker of the state promises of a script: a new list, in it a new list of the numbers -/
def spDr (K : PySem.W.Frag) : Sp := fun vs H Q _ => ∃ (a : Addr) (ns : List Int), vs = [.ref a] ∧ SqL K H a (ns.map V.int) ∧ ns.length ≤ 63 ∧
  ∀ (p q : Addr) (H' : Hp), p ≠ q → H' p = some (.lst [.ref q, .int 0, .int 0, .int 1]) → H' q = some (.lst (ns.map V.int)) → Q (.ref p) H'
def drT (ns : List Int) : D := .lst true [.lst true (ns.map .int), .int 0, .int 0, .int 1]
def scrT (ns : List Int) (m : Int) : D := .lst false ((ns.take 24 ++ [m]).map .int)
section
variable {K : PySem.W.Frag} {Z : Addr → Prop} {H : Hp}
theorem owns_ints : ∀ ns : List Int, Owns K Z H (ns.map .int) [] (ns.map V.int)
  | [] => by simp [Owns]
  | n :: ns => by
    simp only [List.map_cons, Owns]
    exact ⟨.int n, ns.map V.int, [], [], rfl, rfl, by simp [Own], owns_ints ns⟩
theorem draws_rd {X : Cx} {a : Addr} {ns : List Int} {σ : St} {H : Hp} {Q : VK} {W : Ends} (hS : SqL X.K H a (ns.map V.int))
    (q : ∀ (p q : Addr) (H' : Hp), p ≠ q → H' p = some (.lst [.ref q, .int 0, .int 0, .int 1]) → H' q = some (.lst (ns.map V.int)) → Q (.ref p) H') (h0 : σ[0]? = some (some (.ref a)) := by rfl) (hW : W.rt = Q := by rfl) :
    tRet (tLst (tCons (tCB (fun xs H Q => ∃ p ys, xs = [.ref p] ∧ (SqL X.K H p ys ∨ SqT X.K H p ys) ∧ ∀ l, H l = none → Q (.ref l) (upd H l (.lst ys))) (tCons (tVar 0) tNil)) (tCons (tC (.int 0)) (tCons (tC (.int 0)) (tCons (tC (.int 1)) tNil))))) W σ H := by
  refine ⟨_, h0, a, _, rfl, .inl hS, fun l hl => ⟨by show 4 ≤ sizeLine; decide, fun p hp => ?_⟩⟩
  subst hW
  have hpl : p ≠ l := fun c => by subst c; rw [upd_same] at hp; cases hp
  exact q p l _ hpl upd_same (by rw [upd_ne (Ne.symm hpl), upd_same])
theorem own_dr {p q : Addr} {ns : List Int} (hp : H p = some (.lst [.ref q, .int 0, .int 0, .int 1])) (hq : H q = some (.lst (ns.map V.int))) : Own K Z H (drT ns) [p, q] (.ref p) := by
  unfold drT
  simp only [Own]
  refine ⟨p, [.ref q, .int 0, .int 0, .int 1], [q], rfl, hp, rfl, ?_⟩
  simp only [Owns, Own]
  exact ⟨.ref q, [.int 0, .int 0, .int 1], [q], [], rfl, rfl, ⟨q, ns.map V.int, [], rfl, hq, rfl, owns_ints ns⟩, .int 0, [.int 0, .int 1], [], [], rfl, rfl, ⟨rfl, rfl⟩, .int 0, [.int 1], [], [], rfl, rfl, ⟨rfl, rfl⟩, .int 1, [], [], [], rfl, rfl, ⟨rfl, rfl⟩, rfl, rfl⟩
/-- the frame behind the first statement -/
theorem rel_first {d : D} {G : List Addr} {v : V} {σ : St} {n : Nat} (hσ : σ[1]? = some (some v)) (hl : σ.length = n + 2) (o : Own K Z H d G v) (nd : G.Nodup) (zd : ∀ a ∈ G, ¬ Z a) (zh : ∀ a, Z a → ∃ o, H a = some o) :
    Rel K Z (fun i => if i = 1 then G else []) (none :: some d :: List.replicate n none) σ H where
  val := fun i e h => by
    match i, h with
    | 0, h => cases h
    | 1, h =>
      have e2 : d = e := by simpa using h
      subst e2
      exact ⟨v, hσ, by simpa using o⟩
    | i + 2, h =>
      have h' : (List.replicate n (none : Option D))[i]? = some (some e) := by simpa using h
      have := List.eq_of_mem_replicate (List.mem_of_getElem? h')
      cases this
  emp := fun i h => by
    by_cases c : i = 1
    · subst c
      exact (h d (by simp)).elim
    · simp only [if_neg c]
  nd := fun i => by
    by_cases c : i = 1
    · simp only [if_pos c]; exact nd
    · simp only [if_neg c]; exact List.nodup_nil
  dis := fun i j a m1 m2 => by
    by_cases c : i = 1
    · by_cases c2 : j = 1
      · omega
      · simp only [if_neg c2] at m2; cases m2
    · simp only [if_neg c] at m1; cases m1
  zd := fun i a m => by
    by_cases c : i = 1
    · simp only [if_pos c] at m; exact zd a m
    · simp only [if_neg c] at m; cases m
  zh := zh
  len := by simp [hl]
theorem fin_true {mg : Str → Option Value} {W : L2.WX} {m : MS} {Z : Addr → Prop} {F : Fp} {σ : St} {H : Hp} {n : Nat} {d : D} {δ' : En} {Q : VK} {Ee : Ends} (r : Rel K Z F (none :: some d :: List.replicate n none) σ H) (e : m (none :: some d :: List.replicate n none) = some (.rt (.bl true), δ')) (hD : Ee.rt = Q) (q : ∀ H', Q (.bl true) H') : tStW K mg W [] m Ee σ H :=
  ⟨Z, F, _, _, δ', r, e, fun σ' H' Z' F' _ _ _ v G o _ => by
    have := (own_bl o).1
    subst this
    rw [hD]
    exact q H'⟩
end
def tFirst (K : PySem.W.Frag) (mk : List Int → Option D) : TS := fun W σ H => ∃ (a : Addr) (ns : List Int) (d : D), σ[0]? = some (some (.ref a)) ∧ SqL K H a (ns.map V.int) ∧ ns.length ≤ 63 ∧ mk ns = some d ∧
  ∀ v H' Z G, Own K Z H' d G v → G.Nodup → (∀ a ∈ G, ¬ Z a) → (∀ a, Z a → ∃ o, H' a = some o) → W.nx (σ.set 1 (some v)) H'
section
variable {X : Cx}
/-- draws = f(script) -/
theorem ds_first1 {y x u : Str} {p1 p2 p3 p4 p5 : Pos} {k : Nat} {f : Addr} {fd : FuncData} (F : FnOk X.prog X.w X.K X.mg X.base CX0 k f fd ["script"] (spDr X.K)) (hr : Room k X.A) (hg : Gl X x) (hm : X.mg x = some (.ref f)) (hk : PySem.W.keepIn X.K (.ref f) = true) (hb : Binds X.K fd ["script"] [])
    (hv : PE X (.Name u p3) (tVar 0)) (hN : X.N.Nodup) (hi : X.N[1]? = some y) (hx : Loc X.env.scope y)
    (hdb : (x == ("__debug__" : Str)) = false := by decide) (he : starEach [Expr.Name u p3] X.env = (false, eval (.Name u p3) X.env) :: starEach [] X.env := by rfl) (hpl : (backTo p4 (starEach ([] : List Expr) X.env)).any (·.1) = false := by rfl)
    (hs : swapsWith (.Call (.Name x p2) [.Name u p3] [] p4) (some (.Name y p1)) p5.line X.env = pure false := by rfl) (hf : X.fn y = true ∨ X.env.scope.names.lookup y = some .local := by first | exact .inl rfl | exact .inr rfl | assumption) :
    PS X (.Assign [.Name y p1] (.Call (.Name x p2) [.Name u p3] [] p4) p5) (tFirst X.K fun ns => some (drT ns)) :=
  wS (ps_set (i := 1) hN hi hx (pe_call F hr hg hm hk hb .nil pass0 (pa_cons hv pa_nil he) hdb he hpl) hs hf) fun D σ H ⟨a, ns, d, h0, hS, hl, e, k⟩ => by
    cases e
    refine ⟨_, h0, a, ns, rfl, hS, hl, fun p q H' hne hp hq => ?_⟩
    refine k (.ref p) H' (fun _ => False) [p, q] (own_dr hp hq) (by simp [hne]) (fun _ _ z => z) fun _ z => z.elim
/-- state = f(script[:24] + [m]) -/
theorem ds_first2 {y x u : Str} {p1 p2 p3 p4 p5 p6 p7 p8 p9 p10 p11 : Pos} {c1 c2 : Nat} {k1 k2 : Nat} {m : Int} {k : Nat} {f : Addr} {fd : FuncData} {ps : List Str} {fn : Fn} (F : FnOk X.prog X.w X.K X.mg X.base CX0 k f fd ps (spM X.K false fn)) (hr : Room k X.A) (hg : Gl X x) (hm : X.mg x = some (.ref f)) (hk : PySem.W.keepIn X.K (.ref f) = true) (hb : Binds X.K fd ps [])
    {ea : Expr} (hv : PE X ea (tOp rCat (tSl (rSlL X.K) (tVar 0) tNoPart (tPart (tC (.int 24)))) (tLst (tCons (tC (.int m)) tNil)))) (hN : X.N.Nodup) (hi : X.N[1]? = some y) (hx : Loc X.env.scope y)
    (hdb : (x == ("__debug__" : Str)) = false := by decide) (he : starEach [ea] X.env = (false, eval ea X.env) :: starEach [] X.env := by rfl) (hpl : (backTo p4 (starEach ([] : List Expr) X.env)).any (·.1) = false := by rfl)
    (hs : swapsWith (.Call (.Name x p2) [ea] [] p4) (some (.Name y p1)) p5.line X.env = pure false := by rfl) (hf : X.fn y = true ∨ X.env.scope.names.lookup y = some .local := by first | exact .inl rfl | exact .inr rfl | assumption) :
    PS X (.Assign [.Name y p1] (.Call (.Name x p2) [ea] [] p4) p5) (tFirst X.K fun ns => (fn [scrT ns m]).map (·.1)) :=
  wS (ps_set (i := 1) hN hi hx (pe_call F hr hg hm hk hb .nil pass0 (pa_cons hv pa_nil he) hdb he hpl) hs hf) fun D σ H ⟨a, ns, d, h0, hS, hl, e, k⟩ => by
    rw [Option.map_eq_some_iff] at e
    obtain ⟨⟨r, out⟩, e, e2⟩ := e
    cases e2
    have hcut : cutV (ns.map V.int) none (some 24) = (ns.take 24).map V.int := by
      unfold cutV HT.sIx
      simp only [List.length_map]
      rw [if_neg (by decide), List.drop_zero, ← List.map_take]
      congr 1
      show ns.take (min 24 ns.length - 0) = _
      rw [Nat.sub_zero, ← List.take_eq_take_min]
    refine ⟨_, h0, 24, rfl, a, _, rfl, hS, fun p hp => ⟨by show 1 ≤ sizeLine; decide, fun q hq => ?_⟩⟩
    have hpq : p ≠ q := fun c => by subst c; rw [upd_same] at hq; cases hq
    refine ⟨p, q, _, _, rfl, rfl, by rw [upd_ne hpq, upd_same], upd_same, ?_, fun l hnl => ?_⟩
    · show (cutV (ns.map V.int) none (some 24)).length + 1 ≤ sizeLine
      rw [hcut, List.length_map]
      have : (ns.take 24).length ≤ 24 := by rw [List.length_take]; omega
      rw [sizeLine_eq]
      omega
    have hv : cutV (ns.map V.int) none (some 24) ++ [V.int m] = (ns.take 24 ++ [m]).map V.int := by rw [hcut, List.map_append]; rfl
    generalize hH : upd (upd (upd H p (.lst (cutV (ns.map V.int) none (some 24)))) q (.lst [V.int m])) l (.lst (cutV (ns.map V.int) none (some 24) ++ [V.int m])) = H3 at hnl ⊢
    have hl3 : H3 l = some (.lst ((ns.take 24 ++ [m]).map V.int)) := by rw [← hH, upd_same, hv]
    have rel : Rel X.K (fun b => b = l) (fun _ => []) [some (scrT ns m)] [some (.ref l)] H3 := by
      refine (Owns.rel (ds := [scrT ns m]) (vs := [.ref l]) ?_ fun b z => ⟨_, z ▸ hl3⟩)
      simp only [Owns]
      refine ⟨.ref l, [], [], [], rfl, rfl, ?_, rfl, rfl⟩
      unfold scrT
      simp only [Own]
      exact ⟨l, _, rfl, ⟨rfl, .of hl3⟩, trivial, owns_ints _⟩
    refine ⟨fun b => b = l, fun _ => [], [scrT ns m], r, out, rel, e, fun _ _ => rfl, fun v H' Z' F' G R f o n => ?_⟩
    exact k v H' Z' G o n.nd n.zd R.zh
end
section
variable {P : Program} {w : World} {K : PySem.W.Frag} {mg : Str → Option Value} {base : Heap}
theorem law_ok {st st0 : Stmt} {sts : List Stmt} {f : Addr} {fd : FuncData} {k n : Nat} {m : MS} {mk : List Int → Option D} (N : List Str) (F : Fun K "law" "law" st f fd) (S : FnScope N ["script"] (defScope st)) (hN : N.length = n + 2) (hb : defBody st = st0 :: sts)
    (hfirst : ∀ (cdv : Value) (A : Around) (outer : List PySem.Env) (s : Shared) (H : Hp) (E : XK), Room k (A.deeper (PyProof.Rows.envOfC "law" (defScope st) s.heap.objs.size f cdv)) →
      PS (cxOf CX0 P w K mg base N "law" (defScope st) f cdv A outer s H E).nox st0 (tFirst K mk))
    (hbody : ∀ (cdv : Value) (A : Around) (outer : List PySem.Env) (s : Shared) (H : Hp) (E : XK), Room k (A.deeper (PyProof.Rows.envOfC "law" (defScope st) s.heap.objs.size f cdv)) →
      DSs (cxOf CX0 P w K mg base N "law" (defScope st) f cdv A outer s H E).nox [] sts m)
    (hm : ∀ ns : List Int, ns.length ≤ 63 → ∃ d δ', mk ns = some d ∧ m (none :: some d :: List.replicate n none) = some (.rt (.bl true), δ')) :
    FnOk P w K mg base CX0 (k + 1) f fd ["script"] (spLaw K) := by
  refine F.ok S (fun vs H Q E h => ?_) (fun cdv A outer s H vs Q E hr h => ?_)
  · obtain ⟨a, ns, rfl, _⟩ := h
    rfl
  obtain ⟨a, ns, rfl, hS, h63, q⟩ := h
  rw [hb]
  refine ⟨_, pss_cons (hfirst cdv A outer s H E hr) (hbody cdv A outer s H E hr), ?_⟩
  obtain ⟨d, δ', e1, e2⟩ := hm ns h63
  have hst : L2.start N [V.ref a] = some (.ref a) :: none :: List.replicate n none := by
    unfold L2.start
    rw [hN]
    rfl
  rw [hst]
  refine ⟨a, ns, d, rfl, hS, h63, e1, fun v H' Z G o nd zd zh => ?_⟩
  exact fin_true (σ := (some (.ref a) :: none :: List.replicate n none : St).set 1 (some v)) (rel_first (by rfl) (by simp) o nd zd zh) e2 rfl q
end
end TL
set_option Elab.async false
set_option linter.all false
set_option maxRecDepth 100000
set_option maxHeartbeats 4000000
/-! T21: sorted, min, max of lists of nested things (numbers, truth values, texts, tuples and lists of these), all alike. -/
namespace TL
open PySem PySem.Spec L2
open PySem.W (EachIs AllAlike Sortable dataLe)
open PyProof.Rows (seqObj)
-- frozen plain trees are told apart by what they are to Python
mutual
theorem toPy_inj : ∀ {d e : D}, d.isFz = true → e.isFz = true → d.plain = true → e.plain = true → d.toPy = e.toPy → d = e
  | .non, e, _, _, _, p, h => by cases e <;> simp_all [D.toPy, D.plain]
  | .bl _, e, _, _, _, p, h => by cases e <;> simp_all [D.toPy, D.plain]
  | .int _, e, _, _, _, p, h => by cases e <;> simp_all [D.toPy, D.plain]
  | .str _, e, _, _, _, p, h => by cases e <;> simp_all [D.toPy, D.plain]
  | .tup ds, e, f, g, o, p, h => by
    cases e <;> simp only [D.toPy, D.plain] at h p <;> try cases h
    rename_i es
    simp only [D.isFz, D.plain] at f g o
    simp only [PyData.tuple.injEq] at h
    rw [toPys_inj f g o p h]
  | .lst _ ds, e, f, g, o, p, h => by
    cases e <;> simp only [D.toPy, D.plain] at h p <;> try cases h
    rename_i b es
    simp only [D.isFz, D.plain, Bool.and_eq_true, Bool.not_eq_true'] at f g o
    simp only [PyData.list.injEq] at h
    rw [toPys_inj f.2 g.2 o p h, f.1, g.1]
  | .dK _ _ _, e, _, _, o, _, _ => by simp [D.plain] at o
  | .dT _ _ _, e, _, _, o, _, _ => by simp [D.plain] at o
  | .ins _ _ _ _, e, _, _, o, _, _ => by simp [D.plain] at o
theorem toPys_inj : ∀ {ds es : List D}, D.isFzs ds = true → D.isFzs es = true → D.plains ds = true → D.plains es = true → D.toPys ds = D.toPys es → ds = es
  | [], es, _, _, _, _, h => by cases es <;> simp_all [D.toPys]
  | d :: ds, es, f, g, o, p, h => by
    cases es with
    | nil => simp [D.toPys] at h
    | cons e es =>
      simp only [D.isFzs, D.plains, Bool.and_eq_true] at f g o p
      simp only [D.toPys, List.cons.injEq] at h
      rw [toPy_inj f.1 g.1 o.1 p.1 h.1, toPys_inj f.2 g.2 o.2 p.2 h.2]
end
theorem plains_every : ∀ ds : List D, D.plains ds = ds.all D.plain
  | [] => rfl
  | d :: ds => by rw [D.plains, plains_every ds]; rfl

section
variable {X : Cx}
/-- sorted(l): the values and what they are -/
def rSortedDeep (K : PySem.W.Frag) : List V → Hp → VK → Prop := fun vs H Q => ∃ (a : Addr) (bs : List (V × D)), vs = [V.ref a] ∧ SqL K H a (bs.map (·.1)) ∧ (∀ b ∈ bs, Dp K H b.1 b.2.toPy) ∧
  AllAlike (bs.map (·.2.toPy)) ∧ Sortable (bs.map (·.2.toPy)) ∧ (∀ b ∈ bs, b.2.toPy.depth ≤ 40) ∧ ∀ p, H p = none → Q (.ref p) (upd H p (.lst ((bs.mergeSort (dataLe false fun b => b.2.toPy)).map (·.1))))
theorem each_of {α : Type} {f : α → V} : ∀ {bs : List α} {us : List Value}, Vals (bs.map f) us → EachIs (fun u b => RelV (f b) u) us bs
  | [], us, h => by cases h; exact .nil
  | b :: bs, us, h => by
    cases h with
    | cons r h => exact .cons r (each_of h)
theorem vals_of_each {α : Type} {f : α → V} : ∀ {bs : List α} {us : List Value}, EachIs (fun u b => RelV (f b) u) us bs → Vals (bs.map f) us
  | [], us, h => by cases h; exact .nil
  | b :: bs, us, h => by
    cases h with
    | cons r h => exact .cons r (vals_of_each h)
theorem cr_sortedDeep (hu : X.A.units + 65 < cLine) : CallR X (.builtin "sorted") (rSortedDeep X.K) := by
  intro pins s σ H vs us Q I r h
  obtain ⟨a, bs, rfl, hs, hd, hal, hk, hdep, q⟩ := h
  rw [Vals.ref1 r]
  obtain ⟨its, rv, pl, hz⟩ := I.list hs
  have each := each_of rv
  have lenv : its.length = bs.length := each.length
  have reads : EachIs (fun v b => ∃ as, Reads s.heap v (D.toPy b.2) as) its bs := by
    have : ∀ {us : List Value} {cs : List (V × D)}, (∀ b ∈ cs, Dp X.K H b.1 b.2.toPy) → EachIs (fun u b => RelV b.1 u) us cs → EachIs (fun v b => ∃ as, Reads s.heap v (D.toPy b.2) as) us cs := by
      intro us cs
      induction cs generalizing us with
      | nil => intro _ h; cases h; exact .nil
      | cons c cs ih =>
        intro hd h
        cases h with
        | cons r h => exact .cons (Dp.reads I _ _ _ (hd c List.mem_cons_self) r) (ih (fun b m => hd b (List.mem_cons_of_mem _ m)) h)
    exact this hd each
  have hz' : bs.length ≤ sizeLine := by rw [List.length_map] at hz; exact hz
  refine PySem.W.sorted_data (vs := its) (bs := bs) (R := fun u b => RelV b.1 u) (enc := fun b => b.2.toPy) pl.isList each reads hal hk hz' (fun b m => by have := hdep b m; omega) fun out ol oe => ?_
  obtain ⟨ep, at1⟩ := PyProof.Rows.sortedAll_at s.heap its out.toArray
  refine ⟨.ref (s.heap.objs.size + 1), upd H (s.heap.objs.size + 1) (.lst ((bs.mergeSort (dataLe false fun b => b.2.toPy)).map (·.1))), I.laid (t' := s.toks) (fun b u e => PyProof.Rows.sortedAll_old e) (Nat.le_succ _) ⟨?_, out, ep, vals_of_each oe, at1⟩, rfl, q _ (I.hok.fresh (Nat.le_succ _))⟩
  rw [List.length_map, List.length_mergeSort]
  exact hz'
end
/-- the order of trees -/
def ordD (x y : D) : Bool := dataLe false D.toPy x y
def alikeB (ds : List D) : Bool := ds.all fun x => ds.all fun y => PySem.W.alike x.toPy y.toPy
def D.pairish : D → Bool
  | .tup (_ :: _) => true
  | _ => false
def D.plainish : D → Bool
  | .non => false
  | .tup _ => false
  | _ => true
def sortableB (ds : List D) : Bool := D.isFzs ds && D.plains ds && alikeB ds && (ds.all D.pairish || ds.all D.plainish) && ds.all fun d => decide (d.toPy.depth ≤ 40)
def sortedDeepD : D → Option D
  | .lst _ ds => if sortableB ds = true then some (.lst true (ds.mergeSort ordD)) else none
  | _ => none
theorem Owns.zip {K : PySem.W.Frag} {Z : Addr → Prop} {H : Hp} : ∀ {ds : List D} {vs : List V}, Owns K Z H ds [] vs → (vs.zip ds).map (·.1) = vs ∧ (vs.zip ds).map (·.2) = ds ∧ ∀ b ∈ vs.zip ds, Own K Z H b.2 [] b.1
  | [], vs, h => by
    simp only [Owns] at h
    obtain ⟨rfl, _⟩ := h
    simp
  | d :: ds, vs, h => by
    simp only [Owns] at h
    obtain ⟨v, ws, F1, F2, rfl, e, o1, o2⟩ := h
    obtain ⟨rfl, rfl⟩ := List.append_eq_nil_iff.mp e.symm
    obtain ⟨h1, h2, h3⟩ := Owns.zip o2
    refine ⟨by simp [h1], by simp [h2], fun b m => ?_⟩
    rw [List.zip_cons_cons] at m
    rcases List.mem_cons.mp m with rfl | m
    · exact o1
    · exact h3 b m
theorem Owns.unzip {K : PySem.W.Frag} {Z : Addr → Prop} {H : Hp} : ∀ {bs : List (V × D)}, (∀ b ∈ bs, Own K Z H b.2 [] b.1) → Owns K Z H (bs.map (·.2)) [] (bs.map (·.1))
  | [], _ => by simp [Owns]
  | b :: bs, h => by
    simp only [List.map_cons, Owns]
    exact ⟨_, _, [], [], rfl, rfl, h b List.mem_cons_self, Owns.unzip fun c m => h c (List.mem_cons_of_mem _ m)⟩
theorem alike_of {ds : List D} (h : alikeB ds = true) : AllAlike (ds.map D.toPy) := by
  intro d hd e he
  obtain ⟨x, hx, rfl⟩ := List.mem_map.mp hd
  obtain ⟨y, hy, rfl⟩ := List.mem_map.mp he
  exact List.all_eq_true.mp (List.all_eq_true.mp h x hx) y hy
theorem sortable_of {ds : List D} (h : (ds.all D.pairish || ds.all D.plainish) = true) (hp : D.plains ds = true) : Sortable (ds.map D.toPy) := by
  rw [Bool.or_eq_true] at h
  rw [plains_every] at hp
  rcases h with h | h
  · refine .inl fun d hd => ?_
    obtain ⟨x, hx, rfl⟩ := List.mem_map.mp hd
    have := List.all_eq_true.mp h x hx
    cases x <;> simp [D.pairish] at this
    rename_i es
    cases es <;> simp [D.pairish] at this
    simp only [D.toPy, D.toPys]
    exact ⟨_, _, rfl⟩
  · refine .inr fun d hd => ?_
    obtain ⟨x, hx, rfl⟩ := List.mem_map.mp hd
    have h1 := List.all_eq_true.mp h x hx
    have h2 := List.all_eq_true.mp hp x hx
    cases x <;> simp_all [D.plainish, D.toPy, D.plain]
theorem r_sortedDeep {K : PySem.W.Frag} : R1 K (fun x H Q => rSortedDeep K [x] H Q) sortedDeepD := by
  intro Z F δ σ H x dx d Fx Q rl ox e k
  unfold sortedDeepD at e
  split at e
  case h_2 => cases e
  rename_i ow ds
  split at e
  case isFalse => cases e
  rename_i hs
  cases e
  unfold sortableB at hs
  simp only [Bool.and_eq_true] at hs
  obtain ⟨⟨⟨⟨hf, hp⟩, hal⟩, hk⟩, hdep⟩ := hs
  obtain ⟨a, vs, G, rfl, s, o, _⟩ := own_lst ox
  have o := o.nils hf
  obtain ⟨z1, z2, z3⟩ := Owns.zip o
  have hp' := hp
  rw [plains_every] at hp'
  have mem : ∀ b ∈ vs.zip ds, b.2 ∈ ds := fun b m => by rw [← z2]; exact List.mem_map_of_mem m
  have e2 : (vs.zip ds).map (·.2.toPy) = ds.map D.toPy := by rw [← z2, List.map_map]; rw [z2]; rfl
  refine ⟨a, vs.zip ds, rfl, by rw [z1]; exact .inl s, fun b m => (z3 b m).dp (List.all_eq_true.mp hp' _ (mem b m)), by rw [e2]; exact alike_of hal, by rw [e2]; exact sortable_of hk hp, fun b m => of_decide_eq_true (List.all_eq_true.mp hdep _ (mem b m)), fun p hn => ?_⟩
  have e3 : ((vs.zip ds).mergeSort (dataLe false fun b => b.2.toPy)).map (·.2) = ds.mergeSort ordD := by
    rw [List.map_mergeSort (r := dataLe false fun b : V × D => b.2.toPy) (s := ordD) (f := fun b : V × D => b.2) (l := vs.zip ds) (fun _ _ _ _ => rfl), z2]
  have o2 : Owns K Z H (ds.mergeSort ordD) [] (((vs.zip ds).mergeSort (dataLe false fun b => b.2.toPy)).map (·.1)) := by
    rw [← e3]
    exact Owns.unzip fun b m => z3 b (List.mem_mergeSort.mp m)
  exact fin_lst rl k o2 p hn
/-- of ints, or of nested things -/
def sortedAnyD (d : D) : Option D := match sortedSeqD d with
  | some r => some r
  | none => sortedDeepD d
def rSortedBoth (K : PySem.W.Frag) : List V → Hp → VK → Prop := fun vs H Q => rSortedSeq K vs H Q ∨ rSortedDeep K vs H Q
theorem cr_sortedBoth {X : Cx} (hu : X.A.units + 65 < cLine) : CallR X (.builtin "sorted") (rSortedBoth X.K) := CallR.or cr_sortedSeq (cr_sortedDeep hu)
theorem r_sortedBoth {K : PySem.W.Frag} : R1 K (fun x H Q => rSortedBoth K [x] H Q) sortedAnyD := by
  intro Z F δ σ H x dx d Fx Q rl ox e k
  unfold sortedAnyD at e
  split at e
  · rename_i r e1
    cases e
    exact .inl (r_sortedSeq rl ox e1 k)
  · exact .inr (r_sortedDeep rl ox e k)
/-! ### min of nested things -/
def minT (x : D) (xs : List D) : D := xs.foldl (fun a y => if PySem.W.dataLt y.toPy a.toPy = true then y else a) x
theorem minT_py : ∀ (xs : List D) (x : D), (minT x xs).toPy = PySem.W.minD x.toPy (xs.map D.toPy)
  | [], x => rfl
  | y :: ys, x => by
    unfold minT PySem.W.minD
    rw [List.foldl_cons, List.map_cons, List.foldl_cons]
    have := minT_py ys (if PySem.W.dataLt y.toPy x.toPy = true then y else x)
    unfold minT PySem.W.minD at this
    rw [this]
    congr 1
    split <;> rfl
theorem minT_mem : ∀ (xs : List D) (x : D), minT x xs ∈ x :: xs
  | [], x => List.mem_cons_self
  | y :: ys, x => by
    unfold minT
    rw [List.foldl_cons]
    have := minT_mem ys (if PySem.W.dataLt y.toPy x.toPy = true then y else x)
    unfold minT at this
    rcases List.mem_cons.mp this with h | h
    · rw [h]
      split
      · exact List.mem_cons_of_mem _ List.mem_cons_self
      · exact List.mem_cons_self
    · exact List.mem_cons_of_mem _ (List.mem_cons_of_mem _ h)
section
variable {X : Cx}
def rMinDeep (K : PySem.W.Frag) : List V → Hp → VK → Prop := fun vs H Q => ∃ (a : Addr) (b0 : V × D) (bs : List (V × D)), vs = [V.ref a] ∧ SqL K H a ((b0 :: bs).map (·.1)) ∧ (∀ b ∈ b0 :: bs, Dp K H b.1 b.2.toPy) ∧
  AllAlike ((b0 :: bs).map (·.2.toPy)) ∧ (∀ b ∈ b0 :: bs, b.2.toPy ≠ .none) ∧ PyData.depthAll ((b0 :: bs).map (·.2.toPy)) ≤ 40 ∧ ∀ b ∈ b0 :: bs, b.2.toPy = (minT b0.2 (bs.map (·.2))).toPy → Q b.1 H
theorem cr_minDeep (hc : X.calm = true) (hu : X.A.units + 65 < cLine) : CallR X (.builtin "min") (rMinDeep X.K) := by
  intro pins s σ H vs us Q I r h
  obtain ⟨a, b0, bs, rfl, hs, hd, hal, hno, hdep, q⟩ := h
  rw [Vals.ref1 r]
  obtain ⟨its, rv, pl, hz⟩ := I.list hs
  have each : EachIs (fun u b => RelV b.1 u) its (b0 :: bs) := each_of rv
  have all : DpAll X.K H ((b0 :: bs).map (·.1)) ((b0 :: bs).map (·.2.toPy)) := by
    have : ∀ cs : List (V × D), (∀ b ∈ cs, Dp X.K H b.1 b.2.toPy) → DpAll X.K H (cs.map (·.1)) (cs.map (·.2.toPy)) := by
      intro cs
      induction cs with
      | nil => intro _; exact .nil
      | cons c cs ih => intro h; exact .cons (h c List.mem_cons_self) (ih fun b m => h b (List.mem_cons_of_mem _ m))
    exact this _ hd
  obtain ⟨as, reads⟩ := Dp.readsAll I _ _ _ all rv
  refine PySem.W.min_list_data (x := b0.2.toPy) (xs := bs.map fun b : V × D => b.2.toPy) (vs := its.toArray) (I.ok.hd hc) pl.isList reads ⟨fun x hx y hy => hal x hx y hy, fun x hx => ?_⟩ (by simp only [List.map_cons] at hdep; omega) fun i v h' tk cs hv rd keep => ?_
  · obtain ⟨b, hb, rfl⟩ := List.mem_map.mp (show x ∈ (b0 :: bs).map (·.2.toPy) from hx)
    exact hno b hb
  · have find : ∀ {us : List Value} {cs : List (V × D)} {i : Nat}, EachIs (fun u b => RelV b.1 u) us cs → us[i]? = some v → ∃ b ∈ cs, RelV b.1 v := by
      intro us cs
      induction cs generalizing us with
      | nil => intro i h e; cases h; simp at e
      | cons c cs ih =>
        intro i h e
        cases h with
        | cons r h =>
          cases i with
          | zero => simp at e; subst e; exact ⟨c, List.mem_cons_self, r⟩
          | succ i =>
            obtain ⟨b, hb, hr⟩ := ih h (by simpa using e)
            exact ⟨b, List.mem_cons_of_mem _ hb, hr⟩
    obtain ⟨b, hb, hr⟩ := find each (i := i) (by simpa using hv)
    have hm : PySem.W.minD b0.2.toPy (bs.map (·.2.toPy)) = (minT b0.2 (bs.map (·.2))).toPy := by rw [minT_py, List.map_map]; rfl
    obtain ⟨ds, rb⟩ := Dp.reads I _ _ _ (hd b hb) hr
    have rb' := PyProof.Rows.Reads.keeps keep rb
    have hmem : (minT b0.2 (bs.map (·.2))).toPy ∈ (b0 :: bs).map (·.2.toPy) := by
      have := List.mem_map_of_mem (f := D.toPy) (minT_mem (bs.map (·.2)) b0.2)
      simpa [List.map_map] using this
    have e := PySem.W.alike_unique _ _ _ _ _ (hal _ (List.mem_map_of_mem (f := fun b : V × D => b.2.toPy) hb) _ hmem) rb' (hm ▸ rd)
    exact ⟨b.1, H, I.kept (t' := tk) keep, hr, q b hb e⟩
end
def minDeepD : D → Option D
  | .lst _ (d :: ds) => if (D.isFzs (d :: ds) && D.plains (d :: ds) && alikeB (d :: ds) && (d :: ds).all fun x => !x.isNon) = true ∧ PyData.depthAll (D.toPys (d :: ds)) ≤ 40 then some (minT d ds) else none
  | _ => none
theorem r_minDeep {K : PySem.W.Frag} : R1 K (fun x H Q => rMinDeep K [x] H Q) minDeepD := by
  intro Z F δ σ H x dx d Fx Q rl ox e k
  unfold minDeepD at e
  split at e
  case h_2 => cases e
  rename_i ow d0 ds
  split at e
  case isFalse => cases e
  rename_i hs
  cases e
  simp only [Bool.and_eq_true] at hs
  obtain ⟨⟨⟨⟨hf, hp⟩, hal⟩, hno⟩, hdep⟩ := hs
  obtain ⟨a, vs, G, rfl, s, o, _⟩ := own_lst ox
  have o := o.nils hf
  obtain ⟨z1, z2, z3⟩ := Owns.zip o
  have hp' := hp
  have hf' := hf
  rw [plains_every] at hp'
  rw [D.isFzs_all] at hf'
  have mem : ∀ b ∈ vs.zip (d0 :: ds), b.2 ∈ d0 :: ds := fun b m => by rw [← z2]; exact List.mem_map_of_mem m
  cases vs with
  | nil => simp at z2
  | cons v0 vs =>
    rw [List.zip_cons_cons] at z1 z2 z3 mem
    have z2' : (vs.zip ds).map (·.2) = ds := by simpa using z2
    have e2 : ((v0, d0) :: vs.zip ds).map (·.2.toPy) = (d0 :: ds).map D.toPy := by
      show D.toPy d0 :: (vs.zip ds).map (fun b => D.toPy b.2) = D.toPy d0 :: ds.map D.toPy
      congr 1
      conv => rhs; rw [← z2', List.map_map]
      rfl
    refine ⟨a, (v0, d0), vs.zip ds, rfl, by rw [z1]; exact .inl s, fun b m => (z3 b m).dp (List.all_eq_true.mp hp' _ (mem b m)), by rw [e2]; exact alike_of hal, fun b m e => ?_, by rw [e2, ← toPys_map]; exact hdep, fun b m e => ?_⟩
    · have h1 := List.all_eq_true.mp hno _ (mem b m)
      have h2 := List.all_eq_true.mp hp' _ (mem b m)
      cases hb : b.2 <;> rw [hb] at e h1 h2 <;> simp [D.toPy, D.isNon, D.plain] at e h1 h2
    · rw [z2'] at e
      have hmin := minT_mem ds d0
      have : b.2 = minT d0 ds := toPy_inj (List.all_eq_true.mp hf' _ (mem b m)) (List.all_eq_true.mp hf' _ hmin) (List.all_eq_true.mp hp' _ (mem b m)) (List.all_eq_true.mp hp' _ hmin) e
      have ob := z3 b m
      rw [this] at ob
      exact k b.1 H Z [] rl Fr.refl (Same.refl H) ob New.nil
def minAnyD (d : D) : Option D := match minD d with
  | some r => some r
  | none => minDeepD d
def rMinBoth (K : PySem.W.Frag) : List V → Hp → VK → Prop := fun vs H Q => rMin K vs H Q ∨ rMinDeep K vs H Q
theorem cr_minBoth {X : Cx} (hc : X.calm = true) (hu : X.A.units + 65 < cLine) : CallR X (.builtin "min") (rMinBoth X.K) := CallR.or (cr_min hc) (cr_minDeep hc hu)
theorem r_minBoth {K : PySem.W.Frag} : R1 K (fun x H Q => rMinBoth K [x] H Q) minAnyD := by
  intro Z F δ σ H x dx d Fx Q rl ox e k
  unfold minAnyD at e
  split at e
  · rename_i r e1
    cases e
    exact .inl (r_min rl ox e1 k)
  · exact .inr (r_minDeep rl ox e k)
end TL
set_option Elab.async false
set_option linter.all false
set_option maxRecDepth 100000
set_option maxHeartbeats 4000000
/-! T22: two places of a list exchanged; an index that changes another slot. -/
namespace TL
open PySem PySem.Spec L2
section
variable {X : Cx} {pn : List Nat} {pos : Pos}
/-- what is asked of a store at a place, in the form of a target -/
theorem sub_conv {i : Nat} {ps : M (List Stp)} {my : M D} {xv : V} {σ : St} {H : Hp} {N : Hp → Prop}
    (h : tGp X.K [] i ps σ H fun o H2 => tGa X.K [] (mcons my mnil) σ H2 fun ys H3 => rSetM o (ys ++ [xv]) H3 fun _ H4 => N H4) :
    tGp X.K [] i ps σ H fun o H2 => tG X.K [] true my σ H2 fun iv H3 => rSetAll o iv xv H3 N := by
  obtain ⟨Z2, F2, δ2, ss, δ3, r2, q2, hp, k2⟩ := h
  refine ⟨Z2, F2, δ2, ss, δ3, r2, q2, hp, fun v H2 Z3 F3 r3 f3 t3 hh => ?_⟩
  obtain ⟨Z4, F4, δ4, ys, δ5, r4, q4, k4⟩ := k2 v H2 Z3 F3 r3 f3 t3 hh
  unfold mcons at q4
  rw [mbind_some] at q4
  obtain ⟨y, δ6, q4, q5⟩ := q4
  rw [mbind_some] at q5
  obtain ⟨ys', δ7, q5, q6⟩ := q5
  unfold mnil at q5
  rw [mk_some] at q5 q6
  obtain ⟨rfl, rfl⟩ := q5
  obtain ⟨rfl, rfl⟩ := q6
  refine ⟨Z4, F4, δ4, y, δ5, r4, q4, fun yv H3 Z5 F5 G5 r5 f5 t5 o5 n5 => ?_⟩
  obtain ⟨y1, x1, e, q⟩ := k4 [yv] H3 Z5 F5 G5 r5 f5 t5 (Owns.one o5) (n5 rfl)
  cases e
  exact q
/-- P[e], P[f] = a, b: both values first (they own nothing), then the stores from the left -/
def mswap (i : Nat) (m1 m2 a1 a2 : M D) : MS := fun δ => match m1 δ with
  | some (x, δ1) => (match m2 δ1 with
    | some (y, δ2) => if x.isFz = true ∧ y.isFz = true then (match mput i setD (mk x) (mk []) (mcons a1 mnil) δ2 with
      | some (.nx, δ3) => mput i setD (mk y) (mk []) (mcons a2 mnil) δ3
      | _ => none) else none
    | none => none)
  | none => none
theorem swap_rd {i : Nat} {m1 m2 a1 a2 : M D} : ∀ W σ H, tSt X pn (mswap i m1 m2 a1 a2) W σ H →
    tAsg (tTup (tCons (tG X.K [] true m1) (tCons (tG X.K [] true m2) tNil))) (gTup X.K 2 (gCons (gSub (tGp X.K [] i (mk [])) (tG X.K [] true a1) rSetAll) (gCons (gSub (tGp X.K [] i (mk [])) (tG X.K [] true a2) rSetAll) gNil))) W σ H := fun W σ H ⟨Z, F, δ, fl, δ', rl, e1, k⟩ => by
  unfold mswap at e1
  split at e1
  case h_2 => cases e1
  rename_i x δ1 q1
  split at e1
  case h_2 => cases e1
  rename_i y δ2 q2
  split at e1
  case isFalse => cases e1
  rename_i hf
  split at e1
  case h_2 => cases e1
  rename_i δ3 q3
  refine ⟨Z, F, δ, x, δ1, rl, q1, fun xv H1 Z1 F1 G1 r1 f1 t1 o1 n1 => ?_⟩
  obtain ⟨rfl, rfl, s1⟩ := Tch.nil rl f1 t1
  refine ⟨Z1, F1, δ1, y, δ2, r1, q2, fun yv H2 Z2 F2 G2 r2 f2 t2 o2 n2 => ?_⟩
  obtain ⟨rfl, rfl, s2⟩ := Tch.nil r1 f2 t2
  refine ⟨by show 2 ≤ sizeLine; decide, fun p hp => ?_⟩
  have e1' := Own.nil hf.1 o1
  have e2' := Own.nil hf.2 o2
  subst e1' e2'
  have r3 : Rel X.K Z2 F2 δ2 σ (upd H2 p (.tup [xv, yv])) := r2.new hp
  have f3 : Fr Z F2 H Z2 F2 (upd H2 p (.tup [xv, yv])) := (f1.trans f2).trans (Fr.new hp)
  have s3 : Same H2 (upd H2 p (.tup [xv, yv])) := same_upd hp
  have o1' : Own X.K Z2 (upd H2 p (.tup [xv, yv])) x [] xv := (o1.keep (same_keep s2 f2.zup _)).keep (same_keep s3 (fun _ z => z) _)
  have o2' : Own X.K Z2 (upd H2 p (.tup [xv, yv])) y [] yv := o2.keep (same_keep s3 (fun _ z => z) _)
  refine ⟨p, [xv, yv], rfl, .of upd_same, rfl, xv, [yv], rfl, ?_⟩
  have two : ∀ (σ4 : St) (H4 : Hp) (Z4 : Addr → Prop) (F4 : Fp), Rel X.K Z4 F4 δ3 σ4 H4 → Fr Z2 F2 (upd H2 p (.tup [xv, yv])) Z4 F4 H4 → (∀ i ∈ pn, σ4[i]? = σ[i]?) →
      gCons (gSub (tGp X.K [] i (mk [])) (tG X.K [] true a2) rSetAll) gNil [yv] σ4 H4 W.nx := fun σ4 H4 Z4 F4 r4 f4 p4 => by
    obtain ⟨x', δ'', q, h⟩ := put_core (pn := pn) (te := []) mo_set (W := { W with nx := fun σ' H' => gNil [] σ' H' W.nx }) r4 e1 (fun σ' H' Z' F' r' f' p' => by
      have kk := k σ' H' Z' F' r' ((f3.trans f4).trans f') fun i m => (p' i m).trans (p4 i m)
      cases fl with
      | nx => exact ⟨rfl, kk⟩
      | bk => exact kk
      | ct => exact kk
      | rt d => exact fun v G o n => kk v G o (n.back (f3.trans f4))
      | ex c n d => exact kk)
    rw [mk_some] at q
    obtain ⟨rfl, rfl⟩ := q
    exact ⟨yv, [], rfl, sub_conv (h yv H4 Z4 F4 [] r4 Fr.refl Tch.refl (o2'.keep (f4.keep r3 (by simp))) fun _ => New.nil)⟩
  obtain ⟨x', δ'', q, h⟩ := put_core (pn := pn) (te := []) mo_set (W := { W with nx := fun σ' H' => gCons (gSub (tGp X.K [] i (mk [])) (tG X.K [] true a2) rSetAll) gNil [yv] σ' H' W.nx }) r3 q3 (fun σ' H' Z' F' r' f' e => two σ' H' Z' F' r' f' e)
  rw [mk_some] at q
  obtain ⟨rfl, rfl⟩ := q
  exact sub_conv (h xv _ Z2 F2 [] r3 Fr.refl Tch.refl o1' fun _ => New.nil)
/-- x[a], x[b] = e[i], f[j] -/
theorem ds_swap {x y1 y2 : Str} {e1 e2 i1 i2 : Expr} {q1 q2 q3 q4 q5 q6 p1 p2 p3 p4 p5 : Pos} {k1 k2 : Nat} {i : Nat} {m1 m2 a1 a2 : M D} (hc : X.calm = true) (hu : X.A.units + 1 < cLine) (h1 : PE X (.Name x q1) (tVar i)) (h2 : PE X (.Name x q2) (tVar i)) (hi1 : DE X (.Name y1 q3) [] true a1) (hi2 : DE X (.Name y2 q4) [] true a2) (hv1 : DE X (.Subscript e1 i1 q5) [] true m1) (hv2 : DE X (.Subscript e2 i2 q6) [] true m2)
    (hs : swapsWithSole [.Tuple [.Subscript (.Name x q1) (.Name y1 q3) p1, .Subscript (.Name x q2) (.Name y2 q4) p2] k1 p3] (.Tuple [.Subscript e1 i1 q5, .Subscript e2 i2 q6] k2 p4) p5.line X.env = pure false := by rfl)
    (hw : swappedStores [.Tuple [.Subscript (.Name x q1) (.Name y1 q3) p1, .Subscript (.Name x q2) (.Name y2 q4) p2] k1 p3] (.Tuple [.Subscript e1 i1 q5, .Subscript e2 i2 q6] k2 p4) X.env = pure none := by rfl) :
    DS X pn (.Assign [.Tuple [.Subscript (.Name x q1) (.Name y1 q3) p1, .Subscript (.Name x q2) (.Name y2 q4) p2] k1 p3] (.Tuple [.Subscript e1 i1 q5, .Subscript e2 i2 q6] k2 p4) p5) (mswap i m1 m2 a1 a2) :=
  wS (ps_asg (pe_tup (pa_cons hv1 (pa_cons hv2 pa_nil))) (pg_tup hc (pgs_cons (pg_sub (dp_var h1) hi1 (set_all hu)) (pgs_cons (pg_sub (dp_var h2) hi2 (set_all hu)) pgs_nil))) hs hw) swap_rd
/-- x[e], e changing other slots than x's -/
theorem ixB_rd {i : Nat} {p2 : List Nat} {fr2 : Bool} {mb : M D} (hi : p2.contains i = false) : ∀ σ H Q, tG X.K p2 false (mop2 indexD (mvar i) mb) σ H Q → tVar i σ H fun x H1 => tG X.K p2 fr2 mb σ H1 fun y H2 => rIxAll X.K x y H2 Q := fun σ H Q ⟨Z, F, δ, d, δ', rl, e1, k⟩ => by
  unfold mop2 at e1
  rw [mbind_some] at e1
  obtain ⟨d1, δ1, e1, e2⟩ := e1
  rw [mbind_some] at e2
  obtain ⟨d2, δ2, e2, e3⟩ := e2
  rw [mopt_some] at e3
  obtain ⟨e3, rfl⟩ := e3
  unfold mvar at e1
  split at e1
  case h_2 => cases e1
  rename_i d0 h0
  cases e1
  have hm : i ∉ p2 := fun m => by
    rw [List.contains_iff_mem.mpr m] at hi
    cases hi
  obtain ⟨v, hv, ov⟩ := rl.val i _ h0
  refine ⟨v, hv, Z, F, δ, d2, δ', rl, e2, fun w H2 Z2 F2 G2 r2 f2 pu2 o2 n2 => ?_⟩
  have kp := f2.keep rl (G := []) (by simp)
  have ov' := ov.keep (⟨kp.z, kp.rd, kp.ins, fun a o m h => (pu2.at' i a hm m).trans h, kp.tup⟩ : Keep Z Z2 H H2 (F i))
  exact r_index r2 ov' o2 e3 fun u G3 o3 s3 => k u H2 Z2 F2 G3 r2 f2 pu2 o3 fun z => nomatch z
theorem de_ixB {i : Nat} {x : Str} {b : Expr} {q : Pos} {p2 : List Nat} {fr2 : Bool} {mb : M D} (hu : X.A.units + 1 < cLine) (ha : PE X (.Name x q) (tVar i)) (hb : DE X b p2 fr2 mb) (hi : p2.contains i = false := by rfl) (hs : PlainIx b := by exact fun _ _ => rfl) :
    DE X (.Subscript (.Name x q) b pos) p2 false (mop2 indexD (mvar i) mb) := wE (pe_ix (ix_all hu) ha hb hs) (ixB_rd hi)
end
end TL
set_option Elab.async false
set_option linter.all false
set_option maxRecDepth 100000
set_option maxHeartbeats 4000000
/-! T23: dict comprehensions whose keys are tuples of ints and texts. -/
namespace TL
open PySem PySem.Spec L2
open PyProof.Rows (envOfC)
/-- a tuple's value laid at its key -/
theorem lay_tuple {X : Cx} {pins : List (Addr × Obj)} {σ : St} {H : Hp} {s : Shared} {E : Value → Shared → Prop} {M b : Addr} {ps : List (List Key × V)} {k : List Key} {v : V} {r : Value} {Q : Unit → Shared → Prop} (room : X.A.units < cLine) (I : Inv X pins σ H s) (atM : H M = some (.dT ps)) (small : ps.length < sizeLine)
    (atb : H b = some (.tup (k.map kV))) (rv : RelV v r) (go : ∀ s', Inv X pins σ (upd H M (.dT (putK ps k v))) s' → Q () s') : wpAny (model X.prog X.w) X.A (dictSet M (.ref b) r) Q E s := by
  obtain ⟨_, notMod, xs, rel, dd⟩ := L2.dt_of I.hok atM
  have many : xs.length ≤ sizeLine := by rw [← Paired.length rel]; exact Nat.le_of_lt small
  have grown : (putK ps k v).length ≤ sizeLine := Nat.le_trans (length_putK ps k v) small
  refine wpAny_dictSet_heap (hsz := many) (show (tupleKind (mixKind X.prog X.w)).room X.A from room) (key_of I.hok atb) dd fun h' dd' same => go _ ?_
  obtain ⟨q, es, ep, hq, h2, h3, h4, _, h5⟩ := dd'
  exact d_write I (by rw [atM]; trivial) same ⟨q, hq⟩ ⟨grown, notMod, _, (rel.put k atb rv).keeps fun c ys ec => (upd_ne (ne_of ec atM (fun z => nomatch z))).trans ec, q, es, ep, hq, h2, h3, h4, h5⟩
section
variable {X : Cx}
/-- one turn's end: the pair laid in the dict at M -/
def layT (M : Addr) (Nx : Hp → Prop) : V → V → Hp → Prop := fun y z H => ∃ ps k b, y = .ref b ∧ H b = some (.tup (k.map kV)) ∧ H M = some (.dT ps) ∧ ps.length < sizeLine ∧ Nx (upd H M (.dT (putK ps k z)))
/-- {k: v for target in iter if ..}, keys tuples: M the new dict -/
def tDcT (wi : TI) (g : TG) (tt : TT) (tk tv : TE) (vs : List Nat) : TE := fun σ H Q => wi σ H fun J H1 => ∀ M, H1 M = none → ∃ W : Nat → Nat → Hp → Prop, (∃ m, W 0 m (upd H1 M (.dT []))) ∧ ∀ i m H, W i m H →
  (J.stop i H ∧ Q (.ref M) H) ∨ (J.go i H ∧ ∃ Nx : Hp → Prop, (∀ H', Nx H' → ∃ m', m' < m ∧ W (i + 1) m' H') ∧ ∀ x H', J.yld i H x H' → g x (wipe σ vs) H' fun σ2 H2 => wipe σ2 vs = wipe σ vs ∧ tt σ2 H2 fun b H3 =>
    if b = true then tk σ2 H3 fun y H4 => tv σ2 H4 fun z H5 => layT M Nx y z H5 else Nx H3)
theorem pe_dcT {kx vx tg iter : Expr} {ifs : List Expr} {scope : Scope} {own : List (Str × Nat)} {pos : Pos} {wi : TI} {g : TG} {tt : TT} {tk tv : TE} (hc : X.calm = true) (room : X.A.units < cLine) (nd : X.N.Nodup) (walk : PI X tg iter wi) (ok : BlkOk X.N X.env.scope scope own)
    (hg : ∀ (s : Shared) (H : Hp) (C : Addr) (cl : List (Str × Addr)) (fp : List Addr), PG (X.blk s H scope (compEnvC scope cl C X.env) fp) tg g) (ht : ∀ (s : Shared) (H : Hp) (C : Addr) (cl : List (Str × Addr)) (fp : List Addr), PTs (X.blk s H scope (compEnvC scope cl C X.env) fp) ifs tt)
    (hk : ∀ (s : Shared) (H : Hp) (C : Addr) (cl : List (Str × Addr)) (fp : List Addr), PE (X.blk s H scope (compEnvC scope cl C X.env) fp) kx tk)
    (he : ∀ (s : Shared) (H : Hp) (C : Addr) (cl : List (Str × Addr)) (fp : List Addr), PE (X.blk s H scope (compEnvC scope cl C X.env) fp) vx tv) (fold : ∀ x, foldedSetIterable iter X.env x = pure x := by intro _; rfl) :
    PE X (.DictComp kx vx [⟨tg, iter, ifs, 0⟩] scope pos) (tDcT wi g tt tk tv (own.map (·.2))) := by
  refine ⟨fun pins s σ H Q I h => ?_⟩
  rw [arm_eval_DictComp]
  have cells : ∀ y ∈ scope.names, y.2 = .free → ∃ c, X.env.cells.lookup y.1 = some c := fun y m e => I.ok.has _ (ok.free y m e)
  refine wpAny_comprehension_free rfl fold (closure_ok cells) ok.kind (fun y m e => by rw [ok.uniq y m, e]) (thn (walk.run pins s σ H _ I h) fun _ _ q1 => thn q1 fun _ s2 q2 => ?_)
  obtain ⟨it, fp, tn, J, H2, rfl, I2, T, t2, f2, q⟩ := q2
  refine wpAny_newObj_type (newEnv_comp ?_)
  -- the dict, laid
  generalize eM : s2.heap.objs.size = M
  have freeM : H2 M = none := I2.hok.fresh (Nat.le_of_eq eM)
  obtain ⟨W, ⟨m0, w0⟩, turn⟩ := q M freeM
  generalize e3 : ({ s2 with heap := s2.heap.push { cls := .type "dict", data := .dict #[] } } : Shared) = s3
  have h3 : s3.heap = s2.heap.push { cls := .type "dict", data := .dict #[] } := by rw [← e3]
  have I3 : Inv X pins σ (upd H2 M (.dT [])) s3 := by
    subst e3 eM
    exact I2.laid (t' := s2.toks) (fun b o e => Heap.get?_push_of_some _ e) (Nat.le_refl _) (dt_empty s2.heap I2.big)
  have low : ∀ b ∈ fp, b < s2.heap.objs.size := fun b m => (T.obj _ _ t2 b m).elim fun o e => Heap.lt_size e.1
  generalize eH : upd H2 M (.dT []) = H3 at I3 w0
  have f3 : ∀ b ∈ fp, FpOk X pins H3 b ∧ b < s3.heap.objs.size := fun b m => by
    have lt := low b m
    refine ⟨⟨?_, (f2 b m).2⟩, by rw [h3, Heap.size_push]; exact Nat.lt_succ_of_lt lt⟩
    rw [← eH, upd_ne (by rw [← eM]; exact Nat.ne_of_lt lt)]
    exact (f2 b m).1
  have t3 : tn 0 s3.heap := T.keep _ _ _ t2 fun b _ o e => by rw [h3]; exact Heap.get?_push_of_some _ e
  have I4 := block_start I3 ok nd f3
  generalize eC : compEnvC scope (cellsFrom (s3.heap.objs.size + 1) scope.names (cloFrom X.env.cells scope.names [])) s3.heap.objs.size X.env = inner at I4
  have inL : inner.locals = s3.heap.objs.size := by rw [← eC]; rfl
  have g' : PG (X.blk s3 H3 scope inner fp) tg g := eC ▸ hg s3 H3 _ _ fp
  have t' : PTs (X.blk s3 H3 scope inner fp) ifs tt := eC ▸ ht s3 H3 _ _ fp
  have k' : PE (X.blk s3 H3 scope inner fp) kx tk := eC ▸ hk s3 H3 _ _ fp
  have v' : PE (X.blk s3 H3 scope inner fp) vx tv := eC ▸ he s3 H3 _ _ fp
  show codeAny _ _ (.compStart _ 0 (.ref it) (.ref M) (compEnvC scope (cellsFrom (s3.heap.objs.size + 1) scope.names (cloFrom X.env.cells scope.names [])) s3.heap.objs.size X.env)) (compPost (model X.prog X.w) X.A X.xe none (EP X pins σ Q) (.ref M) s3.heap.objs.size) { s3 with heap := pushCells (s3.heap.push { cls := .type "dict", data := .dict #[] }) scope.names }
  rw [eC]
  generalize e4 : ({ s3 with heap := pushCells (s3.heap.push { cls := .type "dict", data := .dict #[] }) scope.names } : Shared) = s4 at I4 ⊢
  have t4 : tn 0 s4.heap := T.keep _ _ _ t3 fun b _ o e => by rw [← e4]; exact pushCells_keeps _ _ _ _ (Heap.get?_push_of_some _ e)
  let Y := X.blk s3 H3 scope inner fp
  have still : ∀ {τ : St} {G : Hp} {u : Shared}, Inv Y [] τ G u → (∀ b ∈ fp, G b = none) → ∀ b ∈ fp, FpOk Y [] G b := fun {τ G u} J' n b m =>
    ⟨n b m, (J'.ok.exf b m).1, J'.ok.exfs b m, .inl m, fun x c e => (J'.ok.exf b m).2 x c e, fun p hp => nomatch (show p ∈ ([] : List (Addr × Obj)) from hp)⟩
  -- what holds between two turns
  let P : Nat → Shared → Prop := fun n u => ∃ i G, Inv Y [] (wipe σ (own.map (·.2))) G u ∧ tn i u.heap ∧ (∀ b ∈ fp, G b = none) ∧ W i n G
  have loop : codeAny (model X.prog X.w) X.A (.compLoop (.DictComp kx vx [⟨tg, iter, ifs, 0⟩] scope pos) 0 (.ref it) (.ref M) inner) (compPost (model X.prog X.w) X.A X.xe none (EP X pins σ Q) (.ref M) s3.heap.objs.size) s4 := by
    refine compLoop_anyD P (fun n u ⟨i, G, J5, tu, nG, w5⟩ => ?_) m0 ⟨0, H3, I4, t4, fun b m => (f3 b m).1.1, w0⟩
    rcases turn i n G w5 with ⟨end_, q0⟩ | ⟨more, Nx, hNx, step⟩
    · -- nothing is left: the def's own context again
      refine thnF (T.done Y rfl rfl rfl hc i [] u _ G (fun _ _ => False) J5 (still J5 nG) tu end_) fun r u1 ⟨er, J6⟩ => ?_
      subst er
      have I7 : Inv X pins σ G u1 := I3.call' (ch := fp) J6.os J6.base J6.hok J6.bare fun b m => let z := (f3 b m).1; ⟨z.2.2.2.1, z.2.1, z.2.2.2.2.1, z.2.2.2.2.2⟩
      have loc0 : G inner.locals = none := J6.free
      obtain ⟨ms, ns, _⟩ := J6.loc
      have ns : u1.heap.Ns inner.locals ms := ns
      rw [inL] at loc0 ns
      obtain ⟨f0, f1, _, f3', f4, f5⟩ := I3.fpOk (Nat.le_refl _) loc0
      exact ⟨ms, ns, fun h'' sb => ⟨.ref M, G, I7.turned (t' := u1.toks) (fun b o hb e => (sb.2 b hb).trans e) f0 f1 f3' f4 f5, rfl, q0⟩⟩
    · refine thnF (T.item Y rfl rfl rfl hc i [] u _ G (fun _ _ => False) J5 (still J5 nG) tu more) fun r u1 ⟨v, er, q1⟩ => ?_
      subst er
      refine thnF q1 fun _ u2 ⟨x, G2, J2, rx, yx, tu2, n2⟩ => ?_
      have pinned := J2.pinned (still J2 n2) (T.obj _ _ tu2)
      refine thnF (g'.run _ u2 _ G2 x v _ pinned rx (step x G2 yx)) fun _ u3 ⟨σ3, G3, J3, hw, q3⟩ => ?_
      refine thnF (t'.run _ u3 σ3 G3 _ J3 q3) fun b u4 ⟨G4, J4, q4⟩ => ?_
      have close : ∀ {u' : Shared} {G' : Hp}, Inv Y ([] ++ pinsAt fp u2.heap) σ3 G' u' → Nx G' → ∃ m, m < n ∧ P m u' := fun {u' G'} J' nx => by
        obtain ⟨m', hm, w'⟩ := hNx G' nx
        have held : ∀ b ∈ fp, ∀ o, u2.heap.get? b = some o → u'.heap.get? b = some o ∧ G' b = none := fun b hb o e =>
          have z := J'.pin (b, o) (List.mem_append_right _ (List.mem_append_right _ (mem_pinsAt hb e)))
          ⟨z.1, z.2.1⟩
        refine ⟨m', hm, i + 1, G', (J'.unpinned (pins := [])).weak (by rw [← hw, wipe_length]) (fun j v e => (wipe_some (by rw [hw]; exact e)).1), T.keep _ _ _ tu2 fun b hb o e => (held b hb o e).1, fun b hb => ?_, w'⟩
        obtain ⟨o, e, _⟩ := T.obj _ _ tu2 b hb
        exact (held b hb o e).2
      cases b with
      | false => exact close J4 q4
      | true =>
        refine thnF (k'.run _ u4 σ3 G4 _ J4 q4) fun z u5 ⟨yk, G5, J5', r5, q5⟩ => ?_
        refine thnF (v'.run _ u5 σ3 G5 _ J5' q5) fun z2 u6 ⟨yv, G6, J6, r6, ps, k, c, ek, atc, atM, few, nx⟩ => ?_
        subst ek
        cases (show z = Value.ref c from r5)
        exact lay_tuple (X := Y) room J6 atM few atc r6 fun u7 J7 => close J7 nx
  exact codeAny_compStart_dict loop (T.self X.A 0 _ _ _ t4 loop)
end

def tkD : D → Option (List Key)
  | .tup ys => keysD ys
  | _ => none
theorem tkD_own {K : PySem.W.Frag} {Z : Addr → Prop} {H : Hp} {d : D} {G : List Addr} {v : V} {k : List Key} (o : Own K Z H d G v) (e : tkD d = some k) : ∃ b, v = .ref b ∧ H b = some (.tup (k.map kV)) := by
  cases d <;> simp only [tkD] at e <;> try cases e
  obtain ⟨a, vs, rfl, s, o⟩ := own_tup o
  exact ⟨a, rfl, by rw [← keysD_own o e]; exact s⟩
def mdcTL (vs : List Nat) (g : Tg) (c : M Bool) (ek ev : M D) : List D → List (List Key) → List D → M (List (List Key) × List D)
  | [], ks, es => fun δ => some ((ks, es), δ)
  | d :: ds, ks, es => fun δ => match g d δ with
    | some δ1 => (match c δ1 with
      | some (true, δ2) => (match ek δ2 with
        | some (y, δ3) => (match ev δ3 with
          | some (z, δ4) => (match tkD y with
            | some x => if ks.length < sizeLine ∧ z.isFz = true then mdcTL vs g c ek ev ds (putDk ks es x z).1 (putDk ks es x z).2 (En.kill vs δ4) else none
            | none => none)
          | none => none)
        | none => none)
      | some (false, δ2) => mdcTL vs g c ek ev ds ks es (En.kill vs δ2)
      | none => none)
    | none => none
def mdcT (m : M (List D)) (vs : List Nat) (g : Tg) (c : M Bool) (ek ev : M D) : M D := mbind m fun ds δ => (mdcTL vs g c ek ev ds [] [] (En.kill vs δ)).map fun p => (.dT true p.1.1 p.1.2, p.2)

section
variable {K : PySem.W.Frag}
structure LDT (K : PySem.W.Frag) (Z : Addr → Prop) (F : Fp) (δ : En) (H : Hp) (t : List Nat) (D : Addr) (Z1 : Addr → Prop) (H1 : Hp) (Z2 : Addr → Prop) (F2 : Fp) (δ2 : En) (σ : St) (H2 : Hp) (ks : List (List Key)) (es : List TL.D) (kvs : List (List Key × V)) : Prop where
  r : Rel K Z2 F2 δ2 σ H2
  k : Keep Z1 Z2 H1 H2 []
  f : Fr Z F H Z2 F2 H2
  t : Tch t F δ H F2 δ2 H2
  h : H2 D = some (.dT kvs)
  e : kvs.map (·.1) = ks
  o : Owns K Z2 H2 es [] (kvs.map (·.2))
  n : New F H Z2 F2 [D]
variable {Z Z1 Z2 Z4 Z5 : Addr → Prop} {F F2 F4 F5 : Fp} {δ δ2 δ4 δ5 : En} {H H1 H2 H4 H5 : Hp} {t t' : List Nat} {D : Addr} {σ σ5 : St} {ks : List (List Key)} {es : List TL.D} {kvs : List (List Key × V)}
theorem LDT.go (s : LDT K Z F δ H t D Z1 H1 Z2 F2 δ2 σ H2 ks es kvs) (r5 : Rel K Z5 F5 δ5 σ5 H5) (f : Fr Z2 F2 H2 Z5 F5 H5) (tc : Tch t' F2 δ2 H2 F5 δ5 H5) (ht : ∀ i ∈ t', i ∈ t) : LDT K Z F δ H t D Z1 H1 Z5 F5 δ5 σ5 H5 ks es kvs where
  r := r5
  k := s.k.trans (f.keep s.r (by simp))
  f := s.f.trans f
  t := s.t.join (tc.mono ht)
  h := f.out D _ s.h (s.n.fd D (by simp))
  e := s.e
  o := s.o.keep (f.keep s.r (by simp))
  n := New.stay f (fun a m => by
    rcases List.mem_cons.mp m with rfl | m
    · exact ⟨_, s.h⟩
    · cases m) s.n
theorem LDT.kill (s : LDT K Z F δ H t D Z1 H1 Z2 F2 δ2 σ H2 ks es kvs) (vs : List Nat) (ht : ∀ i ∈ vs, i ∈ t) : ∃ F5, LDT K Z F δ H t D Z1 H1 Z2 F5 (En.kill vs δ2) σ H2 ks es kvs := by
  obtain ⟨F6, r6, h6, t6⟩ := Tch.kill vs s.r
  exact ⟨F6, s.go r6 ⟨fun a o h _ => h, fun a o h => ⟨o, h⟩, fun a z => z, fun a z => .inl z, fun j a m => .inr ⟨j, h6 j a m⟩⟩ t6 ht⟩
theorem LDT.st (s : LDT K Z F δ H t D Z1 H1 Z2 F2 δ2 σ H2 ks es kvs) (r5 : Rel K Z2 F2 δ2 σ5 H2) : LDT K Z F δ H t D Z1 H1 Z2 F2 δ2 σ5 H2 ks es kvs := ⟨r5, s.k, s.f, s.t, s.h, s.e, s.o, s.n⟩
theorem LDT.put (hDn : H D = none) (s : LDT K Z F δ H t D Z1 H1 Z5 F5 δ5 σ H5 ks es kvs) {x : List Key} {yd : TL.D} {yv : V} (o5 : Own K Z5 H5 yd [] yv) (hr : ∀ i, D ∉ F i) :
    LDT K Z F δ H t D Z1 H1 Z5 F5 δ5 σ (upd H5 D (.dT (putK kvs x yv))) (putDk ks es x yd).1 (putDk ks es x yd).2 (putK kvs x yv) := by
  have nD5 : ∀ i, D ∉ F5 i := s.n.fd D (by simp)
  have zD5 : ¬ Z5 D := s.n.zd D (by simp)
  have mD5 : Mut (H5 D) := by rw [s.h]; trivial
  obtain ⟨G', i1, i2, i3⟩ := putDk_own (x := x) o5 s.o
  have : G' = [] := List.sublist_nil.mp i3
  subst this
  refine ⟨s.r.writeOut mD5 zD5 nD5, s.k.trans (keep_upd mD5 zD5 (by simp)), ?_, ?_, upd_same, ?_, ?_, s.n⟩
  · have g := s.f
    refine ⟨fun a o h q => ?_, fun a o h => ?_, g.zup, g.znew, g.fnew⟩
    · rw [upd_ne (show a ≠ D from fun e => by subst e; rw [hDn] at h; cases h)]
      exact g.out a o h q
    · rw [upd_ne (show a ≠ D from fun e => by subst e; rw [hDn] at h; cases h)]
      exact g.here a o h
  · have t := s.t
    refine ⟨t.len, t.en, t.fp, fun j a q m => ?_⟩
    rw [upd_ne (show a ≠ D from fun e => by subst e; exact hr j m)]
    exact t.at' j a q m
  · rw [← s.e]; exact i1
  · rw [← s.e]; exact i2.keep (keep_upd mD5 zD5 (by simp))
end
section
variable {X : Cx} {pos : Pos}
theorem dcT_rd {B tm tc te ts : List Nat} {pn vs : List Nat} {m : M (List D)} {g : Tg} {mc : M Bool} {mk me : M D} {n : Nat} {frk : Bool} (hn : ∀ i, i < n → i ∈ vs ∨ i ∈ pn) (hts : ∀ i ∈ ts, i ∈ vs) (hB : ∀ i ∈ B, i ∉ tm ++ (vs ++ (tc ++ te))) :
    ∀ σ H Q, σ.length = n → tG X.K (tm ++ (vs ++ (tc ++ te))) true (mdcT m vs g mc mk me) σ H Q → tDcT (tGi X.K B tm m) (tGg X.K pn ts g) (tGt X.K tc mc) (tG X.K [] frk mk) (tG X.K te true me) vs σ H Q := fun σ H Q hσ ⟨Z, F, δ, d, δ', r, e1, k⟩ => by
  unfold mdcT at e1
  rw [mbind_some] at e1
  obtain ⟨ds, δ1, e1, e2⟩ := e1
  rw [Option.map_eq_some_iff] at e2
  obtain ⟨⟨accf, δf⟩, e2, e3⟩ := e2
  obtain ⟨rfl, rfl⟩ := Prod.mk.inj e3
  refine ⟨Z, F, δ, ds, δ1, r, e1, fun J H1 Z1 F1 r1 f1 tch1 ⟨GB, hGB, y⟩ D hD => ?_⟩
  have hDn : H D = none := by
    cases e : H D with
    | none => rfl
    | some o =>
      obtain ⟨o', h'⟩ := f1.here D o e
      rw [hD] at h'; cases h'
  generalize hT : tm ++ (vs ++ (tc ++ te)) = T at k hB
  have tmm : ∀ i ∈ tm, i ∈ T := fun i m => by rw [← hT]; simp [m]
  have tv : ∀ i ∈ vs, i ∈ T := fun i m => by rw [← hT]; simp [m]
  have tcc : ∀ i ∈ tc, i ∈ T := fun i m => by rw [← hT]; simp [m]
  have tee : ∀ i ∈ te, i ∈ T := fun i m => by rw [← hT]; simp [m]
  have killed : ∀ (vs : List Nat) (δ : En) i, i ∈ vs → ∀ d, (En.kill vs δ)[i]? ≠ some (some d) := fun vs δ i m d => kill_in vs δ i d m
  have hr : ∀ i, D ∉ F i := r.ne_new hDn
  refine ⟨fun i l H2 => l = ds.length - i ∧ i ≤ ds.length ∧ ∃ Z2 F2 δ2 ks es kvs, LDT X.K Z F δ H T D Z1 H1 Z2 F2 δ2 σ H2 ks es kvs ∧ (∀ i ∈ vs, ∀ d, δ2[i]? ≠ some (some d)) ∧ mdcTL vs g mc mk me (ds.drop i) ks es δ2 = some (accf, δf),
    ⟨ds.length, rfl, Nat.zero_le _, ?_⟩, ?_⟩
  · obtain ⟨Fk, rk, hk, tk⟩ := Tch.kill vs r1
    have n1 := (New.one r1 hD).back f1
    refine ⟨Z1, Fk, En.kill vs δ1, [], [], [], ⟨rk.new hD, same_keep (same_upd hD) (fun _ z => z) _, ?_, ?_, upd_same, rfl, by simp [Owns], ⟨n1.nd, n1.zd, fun a m i mi => n1.fd a m i (hk i a mi), n1.from'⟩⟩, killed vs δ1, e2⟩
    · exact Fr.trans ⟨f1.out, f1.here, f1.zup, f1.znew, fun i a m => f1.fnew i a (hk i a m)⟩ (Fr.new hD)
    · exact ((tch1.mono tmm).join (tk.mono tv)).more r (same_upd hD)
  rintro i l H2 ⟨rfl, hi, Z2, F2, δ2, ks, es, kvs, s2, nv2, e2⟩
  obtain ⟨ys, yi⟩ := y Z2 H2 (Yl.at' hGB tch1 s2.t (fun i m q => hB i m (tmm i q)) hB s2.k)
  by_cases hlt : i < ds.length
  · have hd : ds[i]? = some ds[i] := by simp [hlt]
    obtain ⟨yg, yx⟩ := yi i _ hd
    rw [List.drop_eq_getElem_cons hlt] at e2
    unfold mdcTL at e2
    split at e2
    case h_2 => cases e2
    rename_i δ3 q3
    refine .inr ⟨yg, _, fun H' q => ⟨ds.length - (i + 1), by omega, q⟩, fun x H3 hy => ?_⟩
    obtain ⟨gw, ox⟩ := yx x H3 hy
    have s2 := s2.go (gw.rel s2.r) gw.fr (gw.tch s2.r) (by simp)
    refine ⟨Z2, F2, δ2, ds[i], [], δ3, s2.r.wiped nv2, ox, List.nodup_nil, by simp, q3, fun σ3 F3 r3 h3 p3 t3 => ?_⟩
    have hσ3 : σ3.length = σ.length := by rw [← r3.len, t3.len, s2.r.len]
    have hw : wipe σ3 vs = wipe σ vs := wipe_of hσ3 p3 (by rw [hσ]; exact hn)
    refine ⟨hw, ?_⟩
    have f23 : Fr Z2 F2 H3 Z2 F3 H3 := ⟨fun a o h _ => h, fun a o h => ⟨o, h⟩, fun a z => z, fun a z => .inl z, fun j a m => by
      rcases h3 j a m with z | z
      · cases z
      · exact .inr z⟩
    have s3 : LDT X.K Z F δ H T D Z1 H1 Z2 F3 δ3 σ3 H3 ks es kvs := s2.go r3 f23 t3 fun i m => tv i (hts i m)
    have back : ∀ {Z5 F5 δ5 H5 ks es kvs}, LDT X.K Z F δ H T D Z1 H1 Z5 F5 δ5 σ3 H5 ks es kvs → ∃ F6, LDT X.K Z F δ H T D Z1 H1 Z5 F6 (En.kill vs δ5) σ H5 ks es kvs := fun {Z5 F5 δ5 H5 ks es kvs} s5 => by
      obtain ⟨F6, s6⟩ := s5.kill vs tv
      have r7 := s6.r.wiped (killed vs δ5)
      rw [hw] at r7
      exact ⟨F6, s6.st r7.unwiped⟩
    split at e2
    · rename_i δ4 q4
      split at e2
      case h_2 => cases e2
      rename_i yd δ5 q5
      split at e2
      case h_2 => cases e2
      rename_i zd δ6 q6
      split at e2
      case h_2 => cases e2
      rename_i key qk
      split at e2
      case isFalse => cases e2
      rename_i hz
      refine ⟨Z2, F3, δ3, true, δ4, r3, q4, fun H4 Z4 F4 r4 f4 t4 => iteT ?_⟩
      have s4 := s3.go r4 f4 t4 tcc
      refine ⟨Z4, F4, δ4, yd, δ5, r4, q5, fun yv H5 Z5 F5 Gy r5 f5 t5 o5 n5 => ?_⟩
      have s5 := s4.go r5 f5 t5 (by simp)
      refine ⟨Z5, F5, δ5, zd, δ6, r5, q6, fun zv H6 Z6 F6 Gz r6 f6 t6 o6 n6 => ?_⟩
      have s6 := s5.go r6 f6 t6 tee
      have := Own.nil hz.2 o6
      subst this
      obtain ⟨FA, sB⟩ := back (LDT.put hDn s6 (x := key) o6 hr)
      obtain ⟨c, rfl, hc5⟩ := tkD_own o5 qk
      refine ⟨kvs, key, c, rfl, (f6.keep s5.r (G := []) (by simp)).tup c _ hc5, s6.h, by have := hz.1; rw [← s2.e, List.length_map] at this; exact this, rfl, hlt, Z6, FA, _, _, _, _, sB, killed vs δ6, e2⟩
    · rename_i δ4 q4
      refine ⟨Z2, F3, δ3, false, δ4, r3, q4, fun H4 Z4 F4 r4 f4 t4 => iteF ?_⟩
      obtain ⟨FA, sB⟩ := back (s3.go r4 f4 t4 tcc)
      exact ⟨rfl, hlt, Z4, FA, _, _, _, _, sB, killed vs δ4, e2⟩
    · cases e2
  · have e : i = ds.length := by omega
    subst e
    rw [List.drop_length] at e2
    cases e2
    refine .inl ⟨ys, k (.ref D) H2 Z2 F2 [D] s2.r s2.f s2.t ?_ fun _ => s2.n⟩
    simp only [Own]
    exact ⟨D, kvs, [], rfl, s2.h, s2.e, rfl, s2.o⟩
theorem de_dcT {kx vx tg iter : Expr} {ifs : List Expr} {scope : Scope} {own : List (Str × Nat)} {vs : List Nat} {B pn tm tc te ts : List Nat} {m : M (List D)} {g : Tg} {mc : M Bool} {mk me : M D} {frk : Bool} (hc : X.calm = true) (hu : X.A.units + 64 < cLine) (hN : X.N.Nodup) (hi : DI X B tg iter tm m) (ok : BlkOk X.N X.env.scope scope own) (hvs : own.map (·.2) = vs)
    (hg : ∀ (s : Shared) (H : Hp) (C : Addr) (cl : List (Str × Addr)) (fp : List Addr), DG (X.blk s H scope (compEnvC scope cl C X.env) fp) pn ts tg g) (ht : ∀ (s : Shared) (H : Hp) (C : Addr) (cl : List (Str × Addr)) (fp : List Addr), DTs (X.blk s H scope (compEnvC scope cl C X.env) fp) ifs tc mc)
    (hk : ∀ (s : Shared) (H : Hp) (C : Addr) (cl : List (Str × Addr)) (fp : List Addr), DE (X.blk s H scope (compEnvC scope cl C X.env) fp) kx [] frk mk)
    (he : ∀ (s : Shared) (H : Hp) (C : Addr) (cl : List (Str × Addr)) (fp : List Addr), DE (X.blk s H scope (compEnvC scope cl C X.env) fp) vx te true me)
    (hn : ((List.range X.N.length).all fun i => vs.contains i || pn.contains i) = true := by rfl) (hts : (ts.all fun i => vs.contains i) = true := by rfl) (hB : (B.all fun i => !(tm ++ (vs ++ (tc ++ te))).contains i) = true := by rfl) (hs : ∀ x, foldedSetIterable iter X.env x = pure x := by intro _; rfl) :
    DE X (.DictComp kx vx [⟨tg, iter, ifs, 0⟩] scope pos) (tm ++ (vs ++ (tc ++ te))) true (mdcT m vs g mc mk me) := by
  subst hvs
  exact ⟨fun pins s σ H Q I h =>
  (pe_dcT hc (by omega) hN hi ok hg ht hk he hs).run pins s σ H Q I (dcT_rd (n := X.N.length) (fun i hi => by
    have := List.all_eq_true.mp hn i (List.mem_range.mpr hi)
    rw [Bool.or_eq_true] at this
    exact this.imp (fun h => List.contains_iff_mem.mp h) fun h => List.contains_iff_mem.mp h) (fun i m => List.contains_iff_mem.mp (List.all_eq_true.mp hts i m)) (fun i m q => by
    have := List.all_eq_true.mp hB i m
    rw [List.contains_iff_mem.mpr q] at this
    cases this) σ H Q I.len h)⟩
end
end TL
set_option Elab.async false
set_option linter.all false
set_option maxRecDepth 100000
set_option maxHeartbeats 4000000
/-! T24: enumerate of a list. -/
namespace TL
open PySem PySem.Spec L2
def pairsD (k : Nat) : List D → List D
  | [] => []
  | d :: ds => .tup [.int (k : Nat), d] :: pairsD (k + 1) ds
theorem pairsD_len : ∀ (ds : List D) (k : Nat), (pairsD k ds).length = ds.length
  | [], _ => rfl
  | d :: ds, k => by rw [pairsD, List.length_cons, List.length_cons, pairsD_len ds]
theorem pairsD_get : ∀ (ds : List D) (k i : Nat) (p : D), (pairsD k ds)[i]? = some p → ∃ d, ds[i]? = some d ∧ p = .tup [.int ((k + i : Nat) : Int), d]
  | [], k, i, p, h => by simp [pairsD] at h
  | d :: ds, k, 0, p, h => by
    simp only [pairsD, List.getElem?_cons_zero] at h
    cases h
    exact ⟨d, rfl, rfl⟩
  | d :: ds, k, i + 1, p, h => by
    simp only [pairsD, List.getElem?_cons_succ] at h
    obtain ⟨e, h1, h2⟩ := pairsD_get ds (k + 1) i p h
    exact ⟨e, by simpa using h1, by rw [h2]; congr 3; omega⟩
def enumD : D → Option (List D)
  | .lst _ ds => some (pairsD 0 (D.fzs ds))
  | _ => none
def menum (m : M D) : M (List D) := mbind m fun d => mopt (enumD d)
theorem Yl.enum {K : PySem.W.Frag} {Z : Addr → Prop} {H : Hp} {a : Addr} {vs : List V} {ds : List D} (z : Z a) (h : Rd H a (.lst vs)) (o : Owns K Z H ds [] vs) : Yl K Z H [] (Ite K a) (pairsD 0 ds) := fun Z2 H2 k => by
  have h2 := k.rd a _ z h
  have o2 := o.keep k
  refine ⟨⟨vs, .inl h2, by rw [pairsD_len]; exact Nat.le_of_eq o.length.symm⟩, fun i p e => ?_⟩
  obtain ⟨d, e1, rfl⟩ := pairsD_get ds 0 i p e
  obtain ⟨v, G, q1, q2, q3⟩ := o2.get e1
  rw [List.sublist_nil.mp q3] at q2
  refine ⟨⟨vs, v, .inl h2, q1⟩, fun x H3 y => ?_⟩
  obtain ⟨T, w, rfl, hT, rfl, hw⟩ := y
  have := hw vs (.inl h2)
  rw [q1] at this
  cases this
  refine ⟨.inr ⟨T, _, hT, rfl⟩, ?_⟩
  have q4 : Own K Z2 (upd H2 T (.tup [.int (i : Nat), v])) d [] v := q2.keep (same_keep (same_upd hT) (fun _ z => z) _)
  rw [Nat.zero_add]
  simp only [Own, Owns]
  exact ⟨T, _, rfl, upd_same, .int (i : Nat), [v], [], [], rfl, rfl, ⟨rfl, rfl⟩, v, [], [], [], rfl, rfl, q4, rfl, rfl⟩
variable {X : Cx}
theorem di_enum {e : Expr} {p pos tpos : Pos} {elts : List Expr} {kk : Nat} {t : List Nat} {m : M D} (hg : Gl X "enumerate") (hm : X.mg "enumerate" = none) (ha : DE X e t true m) (he : starEach [e] X.env = (false, eval e X.env) :: starEach [] X.env := by rfl) (hs : starEach [e] X.env = [(false, eval e X.env)] := by rfl) :
    DI X [] (.Tuple elts kk tpos) (.Call (.Name "enumerate" p) [e] [] pos) t (menum m) := wI (pi_enum hg hm (pa_cons ha pa_nil he) hs) fun σ H R ⟨Z, F, δ, ds, δ', r, e1, k⟩ => by
  unfold menum at e1
  rw [mbind_some] at e1
  obtain ⟨d, δ1, e1, e2⟩ := e1
  rw [mopt_some] at e2
  obtain ⟨e2, rfl⟩ := e2
  refine ⟨Z, F, δ, d, δ', r, e1, fun v H1 Z1 F1 G r1 f1 tc o1 n => ?_⟩
  have n := n rfl
  have gh : ∀ a ∈ G, ∃ o, H1 a = some o := fun a m => mut_some (o1.here a m)
  have rz := r1.freeze n.fd gh
  have fz : Fr Z F H (fun a => Z1 a ∨ a ∈ G) F1 H1 := ⟨f1.out, f1.here, fun a z => .inl (f1.zup a z), fun a z => z.elim (f1.znew a) fun m => .inr (n.from' a m), f1.fnew⟩
  have oz : Own X.K (fun a => Z1 a ∨ a ∈ G) H1 d.fz [] v := o1.fz (fun _ z => .inl z) fun _ m => .inr m
  cases d <;> simp only [enumD] at e2 <;> cases e2
  simp only [D.fz, Own] at oz
  obtain ⟨a, vs, rfl, s, _, o⟩ := oz
  exact ⟨a, vs, rfl, .inl s.2, k _ H1 _ F1 rz fz tc (Yl.free (Yl.enum s.1 s.2 o))⟩
end TL
namespace TL
open PySem PySem.Spec L2
/-- (a, b, ..) = a list of that length -/
def gunl (n : Nat) (g : Tgs) : Tg := fun d δ => match d with
  | .lst _ ds => if ds.length = n then g ds δ else none
  | _ => none
theorem dg_unl {X : Cx} {pn : List Nat} {pos : Pos} {es : List Expr} {k0 : Nat} {g : Tgs} {n : Nat} {ts : List Nat} (hc : X.calm = true) (h : DGs X pn ts es g) (hn : (assignEach es X.env).length = n := by rfl) (hst : (assignEach es X.env).findIdx? (·.1) = none := by rfl) : DG X pn ts (.Tuple es k0 pos) (gunl n g) := wG (pg_unl hc h hn hst) fun v σ H Q ⟨Z, F, δ, d, G, δ', r, o, nd, gg, e1, k⟩ => by
  unfold gunl at e1
  split at e1
  · rename_i ow ds
    split at e1
    · rename_i hl
      obtain ⟨a, vs, G0, rfl, s, o2, e⟩ := own_lst o
      exact ⟨a, vs, rfl, .inl s, by rw [← o2.length]; exact hl, Z, F, δ, _, G0, δ', r, o2, e.nodup nd, fun a m => gg a (e.subset m), e1,
        fun σ' F' r' h' p' t' => k σ' F' r' (fun i a m => (h' i a m).imp (fun m => e.subset m) id) p' t'⟩
    · cases e1
  · cases e1
end TL
set_option Elab.async false
set_option linter.all false
set_option maxRecDepth 100000
set_option maxHeartbeats 4000000
/-! T25: how often a number stands in a list; a dict of one pair. -/
namespace TL
open PySem PySem.Spec L2
def countD (x y : D) : Option D := match x, y with
  | .lst _ ds, .int k => (intsD ds).map fun ns => .int (ns.count k : Nat)
  | _, _ => none
theorem r_count {K : PySem.W.Frag} : R2D K (fun x y H Q => rCntI K x [y] H Q) countD := by
  intro Z F δ σ H x y dx dy d Fx Fy Q rl ox oy e k
  unfold countD at e
  split at e
  · rw [Option.map_eq_some_iff] at e
    obtain ⟨ns, e1, rfl⟩ := e
    obtain ⟨a, vs, G, rfl, s, o, _⟩ := own_lst ox
    simp only [Own] at oy
    obtain ⟨rfl, rfl⟩ := oy
    exact ⟨a, ns, _, rfl, rfl, by rw [← intsD_own o e1]; exact .inl s, fin rl k rfl⟩
  · cases e
section
variable {X : Cx}
theorem de_lcount {o a : Expr} {apos cpos : Pos} {p1 p2 : List Nat} {fr1 fr2 : Bool} {m1 m2 : M D} (ho : DE X o p1 fr1 m1) (ha : DE X a p2 fr2 m2) (c : (p2.isEmpty || fr1) = true := by rfl) (hbase : attributeBase o "count" X.env (eval o X.env) = eval o X.env := by rfl)
    (hfew : ((backTo cpos (starEach [a] X.env)).all (fun x => !x.1) && (backToKw cpos (keywordEach [] X.env)).all (fun x => x.1.isSome)
      && decide (([a] : List Expr).length + ([] : List Keyword).length + (if ([] : List Keyword).isEmpty then 0 else 1) < 30)) = true := by rfl)
    (hline : (apos.endLine == cpos.line) = true := by rfl) (hs : starEach [a] X.env = (false, eval a X.env) :: starEach [] X.env := by rfl) (hplain : (backTo cpos (starEach [] X.env)).any (·.1) = false := by rfl) :
    DE X (.Call (.Attribute o "count" apos) [a] [] cpos) (p1 ++ p2) true (mop2 countD m1 m2) := wE (pe_bm PySem.F.plainAttrs_list PySem.F.slot_list_count PySem.F.type_list_count mt_lcount ho (pa_cons ha pa_nil hs) hbase hfew hline hs hplain) (bm1_rd r_count (fun {Z H c G v y d} o e => by
    unfold countD at e
    split at e
    · exact ty_lst (X := X) o rfl
    · cases e) c)
def mdisp1 (m1 m2 : M D) : M D := mbind m1 fun x => mbind m2 fun y => mopt (match keyD x with
  | some k => if y.isFz = true then some (.dK true [k] [y]) else none
  | none => none)
theorem de_disp1 {k v : Expr} {pos : Pos} {t1 t2 : List Nat} {fr1 fr2 : Bool} {m1 m2 : M D} (hk : DE X k t1 fr1 m1) (hv : DE X v t2 fr2 m2) : DE X (.Dict [some k] [v] pos) (t1 ++ t2) true (mdisp1 m1 m2) := wE (pe_disp (pps_cons hk hv pps_nil) rfl rfl (by simp) (by simp)) fun σ H Q ⟨Z, F, δ, d, δ', r, e1, kk⟩ => by
  unfold mdisp1 at e1
  rw [mbind_some] at e1
  obtain ⟨x, δ1, q1, e1⟩ := e1
  rw [mbind_some] at e1
  obtain ⟨y, δ2, q2, e1⟩ := e1
  rw [mopt_some] at e1
  obtain ⟨e1, rfl⟩ := e1
  split at e1
  case h_2 => cases e1
  rename_i key qk
  split at e1
  case isFalse => cases e1
  rename_i hz
  cases e1
  intro D hD
  have s0 : LD X.K Z F δ H (t1 ++ t2) D Z (upd H D (.dK [])) Z F δ σ (upd H D (.dK [])) [] [] [] := ⟨r.new hD, same_keep (Same.refl _) (fun _ z => z) _, Fr.new hD, Tch.refl.more r (same_upd hD), upd_same, rfl, by simp [Owns], New.one r hD⟩
  refine ⟨Z, F, δ, x, δ1, s0.r, q1, fun v1 H1 Z1 F1 G1 r1 f1 tc1 o1 _ => ?_⟩
  have s1 := s0.go r1 f1 tc1 fun i m => List.mem_append_left _ m
  refine ⟨Z1, F1, δ1, y, _, r1, q2, fun v2 H2 Z2 F2 G2 r2 f2 tc2 o2 _ => ?_⟩
  have s2 := s1.go r2 f2 tc2 fun i m => List.mem_append_right _ m
  have := Own.nil hz o2
  subst this
  have s3 := LD.put hD s2 (x := key) o2 (r.ne_new hD)
  have ek := keyD_own o1 qk
  refine ⟨s2.h, [(key, v2)], by simp [ek], by simp, kk (.ref D) _ Z2 F2 [D] s3.r s3.f s3.t ?_ fun _ => s3.n⟩
  simp only [Own]
  exact ⟨D, _, [], rfl, s3.h, s3.e, rfl, s3.o⟩
end
end TL
set_option Elab.async false
set_option linter.all false
set_option maxRecDepth 100000
set_option maxHeartbeats 4000000
/-! T26: a pair the other way round: p[::-1]. -/
namespace TL
open PySem PySem.Spec L2 PyProof.Rows
section
variable {prog : Program} {w : World} {A : Around} {E : Value → Shared → Prop} {s : Shared}
theorem sliceApplied_rev2 {sl : Addr} {u : Tok} {Q : Int × Int × Nat → Shared → Prop} (hs : s.heap.IsSliceOf sl .none .none (.int (-1) u)) (h : Q (1, -1, 2) s) : wpAny (model prog w) A (Builtin.Slice.sliceApplied (.ref sl) (pure (2 : Int))) Q E s := by
  obtain ⟨os, hos, hcs, hds⟩ := id hs
  unfold Builtin.Slice.sliceApplied Builtin.Slice.sliceFields
  refine wpAny_bind (wpAny_bind (wpAny_field hos hds (x := .none) rfl (wpAny_bind (wpAny_field hos hds (x := .none) rfl (wpAny_bind (wpAny_field hos hds (x := .int (-1) u) rfl (wpAny_pure ?_)))))))
  refine wpAny_bind (slicePart_int ?_)
  show wpAny _ _ (if ((-1 : Int) == 0) = true then _ else _) _ _ s
  rw [if_neg (by decide)]
  refine wpAny_bind (slicePart_none (wpAny_bind (slicePart_none (wpAny_bind (wpAny_pure ?_)))))
  exact wpAny_pure h
theorem getItem_pair_rev {t sl : Addr} {a b : Value} {u : Tok} {Q : Value → Shared → Prop} (ht : IsTup s.heap t #[a, b]) (hs : s.heap.IsSliceOf sl .none .none (.int (-1) u))
    (h : Q (.ref s.heap.objs.size) { s with heap := s.heap.push { cls := .type "tuple", data := .seq #[b, a] } }) : wpAny (model prog w) A (getItem (.ref t) (.ref sl)) Q E s := by
  have htake : sizeOk (.seq #[b, a]) := by
    show (2 : Nat) ≤ sizeLine
    rw [sizeLine_eq]
    omega
  obtain ⟨os, hos, hcs, hds⟩ := id hs
  have hTs : s.TypeIs (.ref sl) "slice" := ⟨os, hos, hcs⟩
  unfold getItem
  try with_reducible refine wpAny_holding ?_
  first | refine wpAny_bind (wpAny_pure ?_) | skip
  refine wpAny_bind (wpAny_sequenceKey ht.typeIs (by decide) ?_)
  refine wpAny_bind (wpAny_callSpecial?_slot (name := Str.ofString "__getitem__") ht.typeIs PyProof.Rows.slot_tuple_getitem
    (wpAny_call_entry PyProof.Rows.slot_tuple_getitem ht.typeIs entry_tuple_getitem ?_ (args_tuple_getitem _ _)))
  show wpAny _ _ (Builtin.Tuple.tupleItemsOf (.ref t) >>= _) _ _ s
  refine wpAny_bind (tupleItemsOf_ ht ?_)
  refine wpAny_bind (wpAny_typeOf hTs ?_)
  rw [if_pos (by decide)]
  refine wpAny_bind (sliceApplied_rev2 hs ?_)
  have hno : ¬ (((1 : Int) == 0 && (-1 : Int) == 1 && (2 : Nat) == 2) = true) := by decide
  show wpAny _ _ (if ((1 : Int) == 0 && (-1 : Int) == 1 && (2 : Nat) == 2) = true then _ else _) _ _ s
  rw [if_neg hno]
  have pk : ((List.range 2).filterMap fun (k : Nat) => (#[a, b] : Array Value)[((1 : Int) + (k : Int) * (-1)).toNat]?).toArray = #[b, a] := rfl
  rw [pk]
  first
    | exact wpAny_bind (m := Builtin.Tuple.tupleExact _) (wpAny_newObj_type (wpAny_pure ⟨_, rfl, wpAny_pure h⟩) htake)
    | exact wpAny_bind (m := Builtin.Tuple.tupleExact _) (wpAny_newObj_type (wpAny_bind (wpAny_pure (wpAny_pure ⟨_, rfl, wpAny_pure h⟩))) htake)
    | exact wpAny_bind (wpAny_bind (m := Builtin.Tuple.tupleExact _) (wpAny_newObj_type (wpAny_pure (wpAny_pure ⟨_, rfl, wpAny_pure h⟩)) htake))
    | exact wpAny_bind (wpAny_bind (m := Builtin.Tuple.tupleExact _) (wpAny_newObj_type (wpAny_pure ⟨_, rfl, wpAny_pure h⟩) htake))
end
section
variable {X : Cx}
def tRevP (K : PySem.W.Frag) (te : TE) : TE := fun σ H Q => te σ H fun x H1 => ∃ a y z, x = .ref a ∧ SqT K H1 a [y, z] ∧ ∀ p, H1 p = none → Q (.ref p) (upd H1 p (.tup [z, y]))
theorem pe_revP {e : Expr} {te : TE} {k : Nat} {p1 p2 p3 pos : Pos} (he : PE X e te) : PE X (.Subscript e (.Slice none none (some (.UnaryOp .USub (.Constant (.int 1) k p1) p2)) p3) pos) (tRevP X.K te) := by
  refine ⟨fun pins s σ H Q I h => ?_⟩
  refine Subscript_ (thn (he.run pins s σ H _ I h) fun v s1 ⟨x, H1, I1, r1, q1⟩ => ?_)
  obtain ⟨a, y, z, ex, hx, q⟩ := q1
  subst ex
  cases r1
  have hst : PO X (some (.UnaryOp .USub (.Constant (.int 1) k p1) p2)) (tPart (tUn (rU fun i => .int (-i)) (tC (.int 1)))) := po_some (pe_un un_neg pe_int)
  refine wpAny_Slice (thn (po_none.run pins s1 σ H1 (fun o H2 => o = none ∧ H2 = H1) I1 ⟨rfl, rfl⟩) fun vl s2 ⟨l, H2, I2, pl, el, e2⟩ => ?_)
  subst el e2
  refine thn (po_none.run pins s2 σ H2 (fun o H3 => o = none ∧ H3 = H2) I2 ⟨rfl, rfl⟩) fun vu s3 ⟨u, H3, I3, pu, eu, e3⟩ => ?_
  subst eu e3
  refine thn (hst.run pins s3 σ H3 (fun o H4 => o = some (-1) ∧ H4 = H3) I3 ⟨1, rfl, -1, rfl, rfl, rfl⟩) fun vs s4 ⟨o, H4, I4, ps, eo, e4⟩ => ?_
  subst eo e4
  obtain ⟨tk, rfl⟩ : ∃ tk, vs = .int (-1) tk := by cases ps; exact ⟨_, rfl⟩
  have evl : vl = .none := by cases pl; rfl
  have evu : vu = .none := by cases pu; rfl
  subst evl evu
  have I5 : Inv X pins σ H4 { s4 with heap := s4.heap.push { cls := .type "slice", data := .fields #[.none, .none, .int (-1) tk] } } := I4.kept (t' := s4.toks) fun b ob q => Heap.get?_push_of_some _ q
  obtain ⟨its, r, ht, hz⟩ := I5.tuple hx
  obtain ⟨v1, v2, rfl, rv1, rv2⟩ : ∃ v1 v2, its = [v1, v2] ∧ RelV y v1 ∧ RelV z v2 := by
    cases r with
    | cons a b => cases b with
      | cons c d => cases d with
        | nil => exact ⟨_, _, rfl, a, c⟩
  show wpAny (model X.prog X.w) X.A (subscriptTail e (.Slice none none (some (.UnaryOp .USub (.Constant (.int 1) k p1) p2)) p3) (.ref a) (.ref s4.heap.objs.size)) (EP X pins σ Q) X.xe { s4 with heap := s4.heap.push { cls := .type "slice", data := .fields #[.none, .none, .int (-1) tk] } }
  refine tail_any (ops := [.ref a, .ref s4.heap.objs.size]) ht.typeIs PyProof.Rows.slot_tuple_getitem.lookup ?_ (by with_unfolding_all rfl)
  refine getItem_pair_rev ht (Heap.IsSliceOf.new _ .none .none (.int (-1) tk)) ?_
  refine ⟨.ref _, _, I5.laid (t' := s4.toks) (o := .tup [z, y]) (fun b ob q => Heap.get?_push_of_some _ q) (Nat.le_refl _) ?_, rfl, q _ (I5.hok.fresh (Nat.le_refl _))⟩
  exact ⟨by simp [sizeLine_eq], [v2, v1], .cons rv2 (.cons rv1 .nil), IsTup.new _ _⟩
def revP : D → Option D
  | .tup [x, y] => if x.isFz = true ∧ y.isFz = true then some (.tup [y, x]) else none
  | _ => none
theorem de_revP {a : Expr} {n : Nat} {q1 q2 q3 pos : Pos} {p : List Nat} {fr : Bool} {m : M D} (h : DE X a p fr m) : DE X (.Subscript a (.Slice none none (some (.UnaryOp .USub (.Constant (.int 1) n q1) q2)) q3) pos) p true (mop1 revP m) :=
  wE (pe_revP h) fun σ H Q hh => op1_rd (r := fun x H1 Q => ∃ a y z, x = .ref a ∧ SqT X.K H1 a [y, z] ∧ ∀ p, H1 p = none → Q (.ref p) (upd H1 p (.tup [z, y]))) (fun {Z F δ σ H x dx d Fx Q} rl ox e k => by
    unfold revP at e
    split at e
    · split at e
      · rename_i hz
        cases e
        obtain ⟨a, vs, rfl, s, o⟩ := own_tup ox
        simp only [Owns] at o
        obtain ⟨v, ws, G1, G2, rfl, rfl, o1, w, ws2, G3, G4, rfl, rfl, o2, rfl, rfl⟩ := o
        have := Own.nil hz.1 o1
        subst this
        have := Own.nil hz.2 o2
        subst this
        refine ⟨a, v, w, rfl, .inl (.of s), fun p hp => ?_⟩
        refine k (.ref p) _ Z [] (rl.new hp) (Fr.new hp) (same_upd hp) ?_ New.nil
        simp only [Own]
        refine ⟨p, [w, v], rfl, upd_same, ?_⟩
        simp only [Owns]
        exact ⟨w, [v], [], [], rfl, rfl, o2.keep (same_keep (same_upd hp) (fun _ z => z) _), v, [], [], [], rfl, rfl, o1.keep (same_keep (same_upd hp) (fun _ z => z) _), rfl, rfl⟩
      · cases e
    · cases e) σ H Q hh
theorem de_iteT {a b c : Expr} {pos : Pos} {p0 p1 p2 : List Nat} {m0 : M Bool} {m1 m2 : M D} (hc : DT X c p0 m0) (ha : DE X a p1 true m1) (hb : DE X b p2 true m2) : DE X (.IfExp c a b pos) (p0 ++ (p1 ++ p2)) true (mite m0 m1 m2) := de_ite hc ha hb
end
end TL
set_option Elab.async false
set_option linter.all false
set_option maxRecDepth 100000
set_option maxHeartbeats 4000000
/-! T27: an own exception class over ValueError whose __init__ says super().__init__(n); self.n = n. -/
namespace PySem
namespace ErrX
open PySem.W PySem.Calls PyProof.Rows PySem.HandSPX
def iA (n : Str) (p1 p2 : Pos) : Arguments := { posonlyargs := [], args := [{ arg := "self", annotation := none, pos := p1 }, { arg := n, annotation := none, pos := p2 }], vararg := none, kwonlyargs := [], kw_defaults := [], kwarg := none, defaults := [] }
def iB (n : Str) (a1 a2 a3 a4 a5 a6 b1 b2 b3 b4 : Pos) : List Stmt :=
  [.Expr (.Call (.Attribute (.Call (.Name "super" a1) [] [] a2) "__init__" a3) [.Name n a4] [] a5) a6, .Assign [.Attribute (.Name "self" b1) n b2] (.Name n b3) b4]
def iS (n : Str) : Scope := { kind := .function, names := [(PySem.Str.ofString "self", .local), (n, .local), (PySem.Str.ofString "__class__", .free), (PySem.Str.ofString "super", .globalImplicit)], isGenerator := false, isCoroutine := false, more := [] }
/-- super().__init__(n), evaluated as a method's call: by rfl where the places stand in the text -/
def EvOk (n : Str) (a1 a2 a3 a4 a5 : Pos) : Prop := ∀ env : Env, ∃ pl : Sem Bool, eval (.Call (.Attribute (.Call (.Name "super" a1) [] [] a2) "__init__" a3) [.Name n a4] [] a5) env = (do
      let ov ← attributeBase (.Call (.Name "super" a1) [] [] a2) "__init__" env (eval (.Call (.Name "super" a1) [] [] a2) env)
      standAt a3.atName
      let (f, first) ← holding [ov] (getMethod ov "__init__" pl)
      callWith a5 f first (backTo a5 (starEach [.Name n a4] env)) [])
/-- what the written part says of the class x at C, of its field n, and of its __init__, at fI -/
structure ErrTxt (P : Program) (K : Frag) (mg : Str → Option Value) (x n : Str) (C fI : Addr) : Prop where
  gC : mg x = some (.ref C)
  cls : ∃ nm q N bs bm sn sub ab col dd k0 k1 k2 k3 k5, K.lookup C = some (excClassObj nm q C N bs bm true sn sub ab col dd k0 k1 k2 k3 k5 "ValueError.__new__") ∧ refsVE bm = true
  sa : findIn K (.ref C) "__setattr__" = some (some (.builtin "object.__setattr__"))
  xf : L2.XfC K C
  noN : findIn K (.ref C) n = some none
  iC : findIn K (.ref C) "__init__" = some (some (.ref fI))
  tC : typeIn K (.ref fI) = some (.type "function")
  kC : keepIn K (.ref C) = true
  tyC : typeIn K (.ref C) = some (.type "type")
  te : exmOne K (.ref C) (.ref C) = some true
  su : ks_superIn K C C "__init__" = some (some (.builtin "ValueError.__init__"))
  sV : subIn K (.ref C) (.type "ValueError") = some true
  sC : mroIn K C (.ref C) = some true
  op : nsIn K cStatics "thirdparty.any" = some none
  gs : mg "super" = none
  top : (P.main.scope.names.lookup ("super" : Str)).isSome = false
  ln : (iS n).names.lookup n = some .local
  lself : (iS n).names.lookup (PySem.Str.ofString "self") = some .local
  lcls : (iS n).names.lookup (PySem.Str.ofString "__class__") = some .free
  lsup : (iS n).names.lookup (PySem.Str.ofString "super") = some .globalImplicit
  nd : (n == ("__debug__" : Str)) = false
  bd : ∀ (a b : Value) (q : Str) (body : List Stmt) (cl : List (Str × Addr)) (doc pm : Value) (an : Option Addr) (cd ct : Value) (p1 p2 : Pos), bindArgs (fnX "__init__" q (iA n p1 p2) body (iS n) cl .none .none doc pm an cd ct) ⟨[a, b], []⟩ = pure [(("self" : Str), a), (n, b)]
  m1 : ∀ a b : Value, ([("self", a), (n, b)] : List (Str × Value)).reverse.lookup (PySem.Str.ofString "self") = some a
  m2 : ∀ a b : Value, ([("self", a), (n, b)] : List (Str × Value)).reverse.lookup n = some b
  fn : ∃ (oc : Value) (od : Option Addr) (q : Str) (doc pm : Value) (an : Option Addr) (cda : Addr) (ct : Value) (osl : Array (Option Value)) (cc : Addr) (p1 p2 a1 a2 a3 a4 a5 a6 b1 b2 b3 b4 : Pos),
    K.lookup fI = some ⟨oc, od, .func (fnX "__init__" q (iA n p1 p2) (iB n a1 a2 a3 a4 a5 a6 b1 b2 b3 b4) (iS n) [("__class__", cc)] .none .none doc pm an (.ref cda) ct), osl⟩ ∧ codeIn K (.ref cda) q = true ∧
    (∃ cl cld csl, K.lookup cc = some ⟨cl, cld, .cell (some (.ref C)), csl⟩) ∧ ∃ ccl cdd vs ccs file tf, K.lookup cda = some ⟨ccl, cdd, .fields vs, ccs⟩ ∧ vs[2]? = some (.str file tf) ∧ ((P.main.file : Str) == file) = true ∧ EvOk n a1 a2 a3 a4 a5 ∧ ∀ env : Env, swapsWith (.Name n b3) (some (.Attribute (.Name "self" b1) n b2)) b4.line env = pure false
/-- what __init__ leaves of a fresh exception at x -/
structure InitEnd (n : Str) (h h' : Heap) (x C dx t1 : Addr) (v : Value) : Prop where
  keep : ∀ b o, b ≠ x → h.get? b = some o → h'.get? b = some o
  obj : h'.get? x = some { cls := .ref C, dict := some dx, data := .fields #[.ref t1, .none, .none, .none, .bool false, .none] }
  dbig : h.objs.size ≤ dx
  dne : dx ≠ x
  ns : h'.Ns1 dx (fun y => if y = n then some v else none)
structure OwnMade (n : Str) (h h' : Heap) (e C d : Addr) (v : Value) : Prop where
  keep : ∀ b o, h.get? b = some o → h'.get? b = some o
  new : h.objs.size ≤ e
  obj : ∃ oe vs, h'.get? e = some oe ∧ oe.cls = .ref C ∧ oe.dict = some d ∧ oe.data = .fields vs ∧ vs[1]? = some .none
  dbig : h.objs.size ≤ d
  dne : d ≠ e
  ns : h'.Ns1 d (fun y => if y = n then some v else none)
theorem one_size (v : Value) : [v].length ≤ sizeLine := by
  rw [sizeLine_eq]
  exact (by decide : 1 ≤ 16777216)
section
variable {prog : Program} {w : World} {A : Around} {E : Value → Shared → Prop} {h : Heap} {g : Array GenState} {d : Drawn} {t : Nat} {os : OsState}
variable {nm q : Str} {C N : Addr} {bs bm : List Value} {hdct : Bool} {sn : List Str} {sub : List Value} {ab : Bool} {col : Option Bool} {dd : Option Addr} {k0 k1 k2 k3 k5 : Option Value}
theorem call_mw {u e t0 : Addr} {rest : List Value} {Q : Value → Shared → Prop}
    (hC : h.get? C = some (excClassObj nm q C N bs bm hdct sn sub ab col dd k0 k1 k2 k3 k5 "ValueError.__new__")) (he : h.get? e = some (HandSPX.excO C t0)) (hu : h.get? u = some (kxs_mw "ValueError.__init__" e)) (hrest : rest.length ≤ sizeLine)
    (hq : ∀ h' t1, (∀ b o, b ≠ e → h.get? b = some o → h'.get? b = some o) → h'.get? e = some (HandSPX.excO C t1) → h.objs.size ≤ h'.objs.size → Q .none ⟨h', g, d, t, os⟩) :
    wpAny (model prog w) A (call (.ref u) rest) Q E ⟨h, g, d, t, os⟩ := by
  refine wpAny_call (codeAny_of_tree ?_)
  show wpAny _ A.in1 (callAny (.ref u) ⟨rest, []⟩) _ _ _
  simp only [callAny]
  refine wpAny_bind (wpAny_load hu ?_)
  simp only [kxs_mw, show (Value.type "method-wrapper" == Value.type "method" || Value.type "method-wrapper" == Value.type "builtin_function_or_method" || Value.type "method-wrapper" == Value.type "method-wrapper") = true by decide, if_true]
  refine W.KFB.if_so (by decide) ?_
  refine wpAny_bind (check_bound_init F.excBase_ValueError.toExcCallFacts hC he rfl ?_)
  refine wpAny_bind (wpAny_pure (wpAny_pure ?_))
  refine ⟨Code.quiet_builtin _ (by decide +kernel), codeAny_builtin F.excBase_ValueError.initEntry ?_⟩
  rw [Around.under_plainId F.excBase_ValueError.init.plain _]
  wp_walk
  refine hq _ h.objs.size (fun b o hb ho => ?_) ?_ ?_
  · rw [Heap.get?_update_other _ _ (Ne.symm hb)]
    exact Heap.get?_push_of_some _ ho
  · rw [Heap.get?_update_self _ (Heap.get?_push_of_some _ he) rfl]
    rfl
  · first
      | (simp [Heap.update, Heap.push]; done)
      | (rw [Heap.size_update, Heap.size_push]; omega)
end
section
variable {P : Program} {w : World} {A : Around} {R : Result → Shared → Prop} {s : Shared} {K : Frag} {mg : Str → Option Value} {x n : Str} {C fI : Addr}
theorem err_init (T : ErrTxt P K mg x n C fI) {a t0 : Addr} {v : Value} (X : K.In s.heap) (hlim : s.heap.NoLimit) (hg : s.heap.Ns mainGlobals mg) (hb : ∃ mb, s.heap.Ns builtinsNs mb ∧ ∀ x : Str, x ≠ "__name__" → mb x = bootBuiltins x)
    (hx : s.heap.get? a = some (excO C t0)) (hnx : K.lookup a = none) (hroom : A.depth < recursionLimit)
    (hq : ∀ h' tk dx t1, InitEnd n s.heap h' a C dx t1 v → R (.ok (.ret .none)) { s with heap := h', toks := tk }) :
    codeAny (model P w) A (.call (.ref fI) ⟨[.ref a, v], []⟩) R s := by
  obtain ⟨oc, od, q, doc, pm, an, cda, ct, osl, cc, p1, p2, a1, a2, a3, a4, a5, a6, b1, b2, b3, b4, ho, hcd, ⟨cl, cld, csl, hcell⟩, ccl, cdd, vs, ccs, file, tf, hcode, hvs, hfile, hev, hsw⟩ := T.fn
  obtain ⟨nm, qn, N, bs, bm, sn, sub, ab, col, dd, k0, k1, k2, k3, k5, hC, hbm⟩ := T.cls
  have hcl : clsIn K C = some { name := nm, bases := bs, mro := .ref C :: bm, ns := N, qualname := qn, hasDict := true, slotNames := sn, subclasses := sub, abstract := ab, collection := col, hasDel := false } := by unfold clsIn; rw [hC] <;> rfl
  have hsu := T.su
  unfold ks_superIn at hsu
  rw [hcl] at hsu
  refine ks_codeAny_call_defAt (binds := [("self", .ref a), (n, v)]) (body := iB n a1 a2 a3 a4 a5 a6 b1 b2 b3 b4) hroom (X _ _ ho) rfl hlim (codeRec_of X hcd) rfl (BindsTo.of_eq ?_) ?_ ?_ (fun h₁ hns k => ?_) rfl rfl rfl
  · exact T.bd _ _ _ _ _ _ _ _ _ _ _ _
  · intro y hy
    have : y ∈ [(PySem.Str.ofString "self", NameKind.local), (n, .local), (PySem.Str.ofString "__class__", .free), (PySem.Str.ofString "super", .globalImplicit)] := hy
    simp only [List.mem_cons, List.not_mem_nil, or_false] at this
    rcases this with rfl | rfl | rfl | rfl <;> exact fun z => nomatch z
  · intro y hy
    simp only [List.mem_cons, List.not_mem_nil, or_false] at hy
    rcases hy with rfl | rfl
    · exact T.lself
    · exact T.ln
  have X₁ : K.In h₁ := X.keeps k
  have hxL : s.heap.objs.size ≠ a := Nat.ne_of_gt (Heap.lt_size hx)
  have hx₁ := k _ _ hx
  obtain ⟨mb, hb1, hb2⟩ := hb
  have hD : h₁.get? C = _ := X₁ _ _ hC
  obtain ⟨pl, hpl⟩ := hev (callEnv (fnX "__init__" q (iA n p1 p2) (iB n a1 a2 a3 a4 a5 a6 b1 b2 b3 b4) (iS n) [("__class__", cc)] .none .none doc pm an (.ref cda) ct) s.heap.objs.size fI)
  have hin : ∀ {h : Heap}, K.In h → h.get? a = some (excO C t0) → Looks (model P w) h (isInstance (.ref a) (.type "ValueError")) true := fun {h} Xh hh => InstAt.type (h := h) (x := a) (ox := excO C t0) (C := C) (od := none) ⟨hh, rfl, rfl, trivial⟩ |>.andThen (looks_subIn Xh T.sV)
  have hrest : ∀ h₄ t₄ t1, K.In h₄ → (∀ b o, b ≠ a → h₁.get? b = some o → h₄.get? b = some o) → h₄.get? a = some (excO C t1) →
      _root_.PySem.wpAt (model P w) (A.deeper (callEnv (fnX "__init__" q (iA n p1 p2) (iB n a1 a2 a3 a4 a5 a6 b1 b2 b3 b4) (iS n) [("__class__", cc)] .none .none doc pm an (.ref cda) ct) s.heap.objs.size fI))
        (.func (iB n a1 a2 a3 a4 a5 a6 b1 b2 b3 b4) (callEnv (fnX "__init__" q (iA n p1 p2) (iB n a1 a2 a3 a4 a5 a6 b1 b2 b3 b4) (iS n) [("__class__", cc)] .none .none doc pm an (.ref cda) ct) s.heap.objs.size fI))
        (execs [.Assign [.Attribute (.Name "self" b1) n b2] (.Name n b3) b4] (callEnv (fnX "__init__" q (iA n p1 p2) (iB n a1 a2 a3 a4 a5 a6 b1 b2 b3 b4) (iS n) [("__class__", cc)] .none .none doc pm an (.ref cda) ct) s.heap.objs.size fI))
        (fun f s' => R (.ok (.ret (match f with | .ret v => v | _ => .none))) s')
        (fun e s' => wpAny (model P w) (A.deeper (callEnv (fnX "__init__" q (iA n p1 p2) (iB n a1 a2 a3 a4 a5 a6 b1 b2 b3 b4) (iS n) [("__class__", cc)] .none .none doc pm an (.ref cda) ct) s.heap.objs.size fI)) (leaving (callEnv (fnX "__init__" q (iA n p1 p2) (iB n a1 a2 a3 a4 a5 a6 b1 b2 b3 b4) (iS n) [("__class__", cc)] .none .none doc pm an (.ref cda) ct) s.heap.objs.size fI) e) (fun _ s'' => R (.error e) s'') (fun e' s'' => R (.error e') s'') s')
        { s with heap := h₄, toks := t₄ } := fun h₄ t₄ t1 X₄ k₄ hx₄ => by
    have hns₄ : h₄.Ns s.heap.objs.size (fun y => ([(("self" : Str), Value.ref a), (n, v)] : List (Str × Value)).reverse.lookup y) := by
      obtain ⟨oL, es, ep, hL, r⟩ := hns
      exact ⟨oL, es, ep, k₄ _ _ hxL hL, r⟩
    refine wpAt_of_wpAny (wpAny_execs_cons (plainObj_wpAny_Assign_Attribute ?_ (hsw _)))
    refine wpAny_Name (wpAny_loadName_local rfl T.ln hns₄ (T.m2 _ _) ?_) T.nd
    refine wpAny_Name (wpAny_loadName_local rfl T.lself hns₄ (T.m1 _ _) ?_)
    refine set_plain X₄ (ox := excO C t1) (od := none) ⟨hx₄, rfl, rfl, trivial⟩ T.sa ?_
    refine exc_osa X₄ hx₄ hcl (show refsVE (.ref C :: bm) = true from hbm) rfl T.noN (fun h₃ tk₃ dx k₃ dn dne hx₃ hn₃ => ?_)
    show wpAny _ _ (execs _ _) _ _ _
    have z : s.heap.objs.size < h₄.objs.size := hns₄.lt
    exact wpAny_execs_nil (hq h₃ tk₃ dx t1 ⟨fun b o hb e => k₃ b o hb (k₄ b o hb (k b o e)), hx₃, Nat.le_of_lt (Nat.lt_of_lt_of_le z dn), dne, hn₃⟩)
  refine ks_wpAt_execs_cons (ks_wpAt_Expr_any (ks_wpAt_MethodCall (pl := pl) ?_ hpl))
  refine ks_wpAt_super_base (p0 := a1) (p1 := a2) T.lsup T.lcls (by decide) rfl (X₁ _ _ ho) rfl rfl rfl (X₁ _ _ hcode) rfl hvs hfile T.top ?_
  refine ks_loadName_global rfl T.lsup (loadGlobal_builtin (hg.keeps k) T.gs (hb1.keeps k) ((hb2 _ (by decide)).trans rfl) ⟨rfl, ?_⟩)
  refine wpAny_loadName_free rfl T.lcls rfl ⟨_, X₁ _ _ hcell, rfl⟩ ?_
  refine wpAny_loadName_local rfl T.lself hns (T.m1 _ _) ?_
  refine ks_wpAny_isType_cls hD rfl ⟨rfl, ?_⟩
  refine ks_wpAny_call_super hD rfl hx₁ rfl (fun c e => nomatch e) (looks_mroIn X₁ T.sC) (fun h₂ e₂ k₂ => ?_)
  have hx₂ := k₂ _ _ hx₁
  have X₂ : K.In h₂ := X₁.keeps k₂
  have haC : a ≠ C := fun z => by rw [z, hC] at hnx; cases hnx
  refine kxs_getMethod kxs_ValueError e₂ (looks_opaque X₂ T.op) (l₀ := .ref C :: bm) ((looks_clsIn X₂ hcl).andThen .now) rfl X₂ hsu (hin X₂ hx₂) haC (by decide) ?_
  have k₃ : ∀ b o, h₂.get? b = some o → (h₂.push (kxs_mw "ValueError.__init__" a)).get? b = some o := fun b o e => Heap.get?_push_of_some _ e
  have hu₃ : (h₂.push (kxs_mw "ValueError.__init__" a)).get? h₂.objs.size = some (kxs_mw "ValueError.__init__" a) := Heap.get?_push_at rfl rfl
  have hns₃ : (h₂.push (kxs_mw "ValueError.__init__" a)).Ns s.heap.objs.size (fun y => ([(("self" : Str), Value.ref a), (n, v)] : List (Str × Value)).reverse.lookup y) := by
    obtain ⟨oL, es, ep, hL, r⟩ := hns
    exact ⟨oL, es, ep, k₃ _ _ (k₂ _ _ hL), r⟩
  refine kxs_callWith (i := "ValueError.__init__") (x := a) rfl (evalArgs_plain ?_)
  refine args_cons (e := .Name n a4) (rest := []) (env := callEnv (fnX "__init__" q (iA n p1 p2) (iB n a1 a2 a3 a4 a5 a6 b1 b2 b3 b4) (iS n) [("__class__", cc)] .none .none doc pm an (.ref cda) ct) s.heap.objs.size fI) (pos := a5) ?_ rfl
  refine wpAny_Name ?_ T.nd
  refine wpAny_loadName_local rfl T.ln hns₃ (T.m2 _ _) ?_
  refine args_nil ⟨hu₃, ?_⟩
  refine call_mw (hC := (k₃ _ _ (k₂ _ _ (k _ _ (X _ _ hC))))) (t0 := t0) (k₃ _ _ hx₂) hu₃ (one_size v) (fun h₄ t1 k₄ hx₄ _ => ?_)
  exact hrest h₄ _ t1 (fun b o e => k₄ b o (fun z => by
    rw [z] at e
    exact absurd e (by rw [hnx]; exact fun z => nomatch z)) (k₃ _ _ (k₂ _ _ (X₁ _ _ e)))) (fun b o hb e => k₄ b o hb (k₃ _ _ (k₂ _ _ e))) hx₄
theorem err_made (T : ErrTxt P K mg x n C fI) {v : Value} (X : K.In s.heap) (hlim : s.heap.NoLimit) (hg : s.heap.Ns mainGlobals mg) (hb : ∃ mb, s.heap.Ns builtinsNs mb ∧ ∀ x : Str, x ≠ "__name__" → mb x = bootBuiltins x) (hroom : A.depth + 1 < recursionLimit)
    (hq : ∀ h' tk e d, OwnMade n s.heap h' e C d v → R (.ok (.ret (.ref e))) { s with heap := h', toks := tk }) :
    codeAny (model P w) A (.call (.ref C) ⟨[v], []⟩) R s := by
  obtain ⟨nm, q, N, bs, bm, sn, sub, ab, col, dd, k0, k1, k2, k3, k5, hC, hbm⟩ := T.cls
  obtain ⟨hp, g, dr, tk, os⟩ := s
  have k : ∀ b o, hp.get? b = some o → ((hp.push (kdv_tup [v])).push (excO C hp.objs.size)).get? b = some o := fun b o e => Heap.get?_push_of_some _ (Heap.get?_push_of_some _ e)
  have hget : ((hp.push (kdv_tup [v])).push (excO C hp.objs.size)).get? (hp.objs.size + 1) = some (excO C hp.objs.size) := by heap_get
  have hnx : K.lookup (hp.objs.size + 1) = none := by
    cases e : K.lookup (hp.objs.size + 1) with
    | none => rfl
    | some o =>
      have z : hp.get? (hp.objs.size + 1) = some o := X _ _ e
      exact absurd (Nat.lt_of_succ_lt (Heap.lt_size z)) (Nat.lt_irrefl _)
  obtain ⟨mb, hb1, hb2⟩ := hb
  refine call_own F.excBase_ValueError (fun X => refsVE_contains X bm hbm) (X _ _ hC) (looks_findIn X T.iC) (fun self => bind_fn X self T.tC) (one_size v) ?_
  refine err_init (s := ⟨(hp.push (kdv_tup [v])).push (excO C hp.objs.size), g, dr, tk, os⟩) T (X.keeps k) (hlim.keeps k) (hg.keeps k) ⟨mb, hb1.keeps k, hb2⟩ hget hnx ?_ fun h' tk' dx t1 ⟨k', hx, dn, dne, hns⟩ => ?_
  · show A.depth + 1 < recursionLimit
    exact hroom
  · have old : ∀ b o, hp.get? b = some o → h'.get? b = some o := fun b o e => k' b o (Nat.ne_of_lt (Nat.lt_succ_of_lt (Heap.lt_size e))) (k b o e)
    have z : hp.objs.size + 1 + 1 ≤ dx := by
      first
        | (simpa only [Heap.size_push] using dn)
        | exact dn
        | (have q := dn; rw [Heap.size_push, Heap.size_push] at q; exact q)
    exact ⟨rfl, hq h' tk' (hp.objs.size + 1) dx ⟨old, Nat.le_succ _, ⟨_, _, hx, rfl, rfl, rfl, rfl⟩, Nat.le_trans (Nat.le_trans (Nat.le_succ _) (Nat.le_succ _)) z, dne, hns⟩⟩
end
end ErrX
end PySem
namespace L2
open PySem PySem.Spec PyProof.Rows
theorem relO_err {n : Str} {v : V} {v' : Value} (r : RelV v v') (f : Str) : RelO (List.lookup f [(n, v)]) (if f = n then some v' else none) := by
  by_cases hw : f = n
  · subst hw
    rw [if_pos rfl]
    have q : List.lookup f [(f, v)] = some v := by simp [List.lookup]
    rw [q]
    exact r
  · rw [if_neg hw]
    have qw : (f == n) = false := by simpa using hw
    have q2 : List.lookup f [(n, v)] = none := by simp [List.lookup, qw]
    rw [q2]
    trivial
section
variable {X : Cx} {x n : Str} {C fI : Addr}
/-- C(e) -/
def tMkErr (C : Addr) (n : Str) (ta : TA) : St → Hp → XK → Prop := fun σ H Q => ta σ H fun vs H1 => ∃ v, vs = [v] ∧ ∀ d, H1 d = none → Q (.ref C) (some d) (upd H1 d (.xd [(n, v)]))
theorem pmk_err {a : Expr} {ta : TA} {p pos : Pos} {k : Nat} (T : PySem.ErrX.ErrTxt X.prog X.K X.mg x n C fI) (hr : Room (k + 1) X.A) (ha : PA X [a] ta) (hg : Gl X x) (hdb : (x == ("__debug__" : Str)) = false := by decide)
    (he : starEach (a :: []) X.env = (false, eval a X.env) :: starEach [] X.env := by rfl) (hpl : (backTo pos (starEach [] X.env)).any (·.1) = false := by rfl) :
    PMk X (.Call (.Name x p) [a] [] pos) (tMkErr C n ta) := by
  intro pins s σ H Q I h
  refine wpAny_Call_Name_kw (ld_glob I hg T.gC ?_ hdb)
  refine PySem.W.callWith_K (h₀ := X.base) I.ok.mod.kin T.kC (thn (ha.run pos pins s σ H _ I h) fun us s1 hh => ?_) he hpl
  obtain ⟨vs, H1, I1, r1, v, ev, q1⟩ := hh
  subst ev
  refine ⟨I1.kIn, ?_⟩
  cases r1 with
  | cons rv rn =>
    rename_i v' us'
    cases rn
    show wpAny _ _ (call (.ref C) [v']) _ _ _
    have hlim := I1.nolimit
    have hgl := I1.mod.glob.keeps I1.bk
    obtain ⟨mb, hb1, hb2⟩ := I1.mod.blt
    have hb1' := hb1.keeps I1.bk
    obtain ⟨hp, g, dr, tk, os⟩ := s1
    refine wpAny_call (PySem.ErrX.err_made T I1.kIn hlim hgl ⟨mb, hb1', hb2⟩ (by have := hr.dp; omega) fun h' tk' e d M => ?_)
    show MkP X pins σ Q (.ref e) ⟨h', g, dr, tk', os⟩
    obtain ⟨oe, fv, hoe, hc, hd, hdat, h1⟩ := M.obj
    have hns := M.ns
    obtain ⟨G', g1, g2⟩ := restrict h' fun b => decide (b ≠ e)
    have gk : ∀ b, b ≠ e → G'.get? b = h'.get? b := fun b hb => g1 b (decide_eq_true hb)
    have ge : G'.get? e = none := g2 e (by simp)
    have old : ∀ b o, hp.get? b = some o → G'.get? b = some o := fun b o q => (gk b (Nat.ne_of_lt (Nat.lt_of_lt_of_le (Heap.lt_size q) M.new))).trans (M.keep b o q)
    have ob : ObjOk X.prog X.w (upd H1 d (.xd [(n, v)])) G' d (.xd [(n, v)]) :=
      ⟨_, hns.at (fun o q => (gk d M.dne).trans q), fun f => relO_err rv f⟩
    have J : Inv X pins σ (upd H1 d (.xd [(n, v)])) ⟨G', g, dr, tk', os⟩ := I1.laid (t' := tk') old M.dbig ob
    refine ⟨e, oe, fv, ⟨G', g, dr, tk', os⟩, _, .ref C, some d, rfl, J, fun b o q => ?_, ge, hoe, ⟨hc, hd⟩, hdat, h1, ?_, rfl, I1.bare, raises_own T.xf.exC T.tyC, q1 d (I1.hok.fresh M.dbig)⟩
    · by_cases hb : b = e
      · have q' : G'.get? b = some o := q
        rw [hb, ge] at q'; cases q'
      · exact (gk b hb).symm.trans q
    · rw [upd_ne (Ne.symm M.dne)]
      exact I1.hok.fresh M.new
end
end L2
set_option Elab.async false
set_option linter.all false
set_option maxRecDepth 100000
set_option maxHeartbeats 4000000
/-! T28: raise, defs that raise, their calls, try: .. except C as e: return (k, e.n). -/
namespace TL
open PySem PySem.Spec L2
open PyProof.Rows (envOfC)
/-- what a def tells that may raise: a value, or class, field and what the field holds -/
abbrev Rx := Except (Str × Str × D) D
abbrev FnX := List D → Option Rx
def spX (K : PySem.W.Frag) (mg : Str → Option Value) (fn : FnX) : Sp := fun vs H Q E => ∃ Z F ds r, Rel K Z F (ds.map some) (vs.map some) H ∧ fn ds = some r ∧ (∀ i, F i = []) ∧
  match r with
  | .ok d => ∀ v H' Z' G, (∀ a, Z' a → ∃ o, H' a = some o) → Fr Z F H Z' (fun _ => []) H' → Own K Z' H' d G v → New F H Z' (fun _ => []) G → Q v H'
  | .error (c, n, d) => ∀ (C dd : Addr) v H' Z', (∀ a, Z' a → ∃ o, H' a = some o) → Fr Z F H Z' (fun _ => []) H' → mg c = some (.ref C) → H' dd = some (.xd [(n, v)]) → Own K Z' H' d [] v → E (.ref C) (some dd) H'
def runX (np n : Nat) (b : MS) : FnX := fun ds => if ds.length = np then
    (match b (ds.map some ++ List.replicate (n - np) none) with
      | some (.rt d, _) => some (.ok d)
      | some (.nx, _) => some (.ok .non)
      | some (.ex c n d, _) => some (.error (c, n, d))
      | _ => none)
  else none
theorem spX_len {K : PySem.W.Frag} {mg : Str → Option Value} {np n : Nat} {b : MS} {vs : List V} {H : Hp} {Q : VK} {E : XK} (h : spX K mg (runX np n b) vs H Q E) : vs.length = np := by
  obtain ⟨Z, F, ds, r, rl, e, _⟩ := h
  unfold runX at e
  split at e
  · rename_i hl
    have := rl.len
    simp only [List.length_map] at this
    omega
  · cases e
section
variable {P : Program} {w : World} {K : PySem.W.Frag} {mg : Str → Option Value} {base : Heap}
theorem defX_ok {x qual : Str} {st : Stmt} {f : Addr} {fd : FuncData} {k : Nat} (N ps : List Str) {np n : Nat} {b : MS} (hnp : ps.length = np) (hn : N.length = n) (F : Fun K x qual st f fd) (S : FnScope N ps (defScope st)) (hl : ps.length ≤ N.length) (sts : List Stmt) (hb : defBody st = sts)
    (hbody : ∀ (cdv : Value) (A : Around) (outer : List PySem.Env) (s : Shared) (H : Hp) (E : XK), Room k (A.deeper (envOfC qual (defScope st) s.heap.objs.size f cdv)) →
      DSs (cxOf (L2.CX P w) P w K mg base N qual (defScope st) f cdv A outer s H E) [] sts b) :
    FnOk P w K mg base (L2.CX P w) (k + 1) f fd ps (spX K mg (runX np n b)) := by
  subst hnp hn hb
  refine F.okX S (fun vs H Q E h => spX_len h) (fun cdv A outer s H vs Q E hr h => ⟨_, hbody cdv A outer s H E hr, ?_⟩)
  have hlen := spX_len h
  obtain ⟨Z, F0, ds, r, rl, e, fe, k⟩ := h
  unfold runX at e
  split at e
  · rename_i hds
    have e0 : L2.start N vs = vs.map some ++ List.replicate (N.length - ps.length) none := by
      unfold L2.start
      rw [hlen]
    split at e
    · rename_i d δ' q
      cases e
      exact ⟨Z, F0, _, _, δ', by rw [e0]; exact rl.pad _, q, fun σ' H' Z' F' r' f' p' v G o n => k v H' Z' G r'.zh ⟨f'.out, f'.here, f'.zup, f'.znew, fun i a m => nomatch m⟩ o ⟨n.nd, n.zd, fun a m i mi => (nomatch mi), n.from'⟩⟩
    · rename_i δ' q
      cases e
      exact ⟨Z, F0, _, _, δ', by rw [e0]; exact rl.pad _, q, fun σ' H' Z' F' r' f' p' => k .non H' Z' [] r'.zh ⟨f'.out, f'.here, f'.zup, f'.znew, fun i a m => nomatch m⟩ (by simp [Own]) New.nil⟩
    · rename_i c n d δ' q
      cases e
      exact ⟨Z, F0, _, _, δ', by rw [e0]; exact rl.pad _, q, fun σ' H' Z' F' r' f' p' C dd v hC hd o => wX_of (L2.takes_of rfl rfl rfl rfl) (k C dd v H' Z' r'.zh ⟨f'.out, f'.here, f'.zup, f'.znew, fun i a m => nomatch m⟩ hC hd o)⟩
    · cases e
  · cases e
end

/-! ### expressions that may raise -/
abbrev MX := En → Option (Rx × En)
def tGX (X : Cx) (t : List Nat) (m : MX) : TE := fun σ H Q => ∃ Z F δ r δ', Rel X.K Z F δ σ H ∧ m δ = some (r, δ') ∧
  match r with
  | .ok d => ∀ v H' Z' F' G, Rel X.K Z' F' δ' σ H' → Fr Z F H Z' F' H' → Tch t F δ H F' δ' H' → Own X.K Z' H' d G v → New F H Z' F' G → Q v H'
  | .error (c, n, d) => ∀ H' Z' F', Rel X.K Z' F' δ' σ H' → Fr Z F H Z' F' H' → exW X.K X.mg (wX X) Z' c n d σ H'
abbrev DX (X : Cx) (e : Expr) (t : List Nat) (m : MX) : Prop := PE X e (tGX X t m)
section
variable {X : Cx} {e : Expr} {pos : Pos} {pn : List Nat}
def mcallX (fn : FnX) (m : M (List D)) : MX := fun δ => (m δ).bind fun p => (fn (D.fzs p.1)).map fun r => (r, p.2)
def mokX (m : M D) : MX := fun δ => (m δ).map fun p => (.ok p.1, p.2)
/-- only where it does not raise -/
def mokO (m : MX) : M D := fun δ => match m δ with
  | some (.ok d, δ') => some (d, δ')
  | _ => none
theorem dx_of {t : List Nat} {m : M D} (h : DE X e t true m) : DX X e t (mokX m) := wE h fun σ H Q ⟨Z, F, δ, r, δ', rl, e1, k⟩ => by
  unfold mokX at e1
  rw [Option.map_eq_some_iff] at e1
  obtain ⟨⟨d, δ1⟩, e1, e2⟩ := e1
  cases e2
  exact ⟨Z, F, δ, d, _, rl, e1, fun v H' Z' F' G r' f tc o n => k v H' Z' F' G r' f tc o (n rfl)⟩
theorem de_ofX {t : List Nat} {m : MX} (h : DX X e t m) : DE X e t true (mokO m) := wE h fun σ H Q ⟨Z, F, δ, d, δ', rl, e1, k⟩ => by
  unfold mokO at e1
  split at e1
  · rename_i d0 δ0 q
    cases e1
    exact ⟨Z, F, δ, .ok d, _, rl, q, fun v H' Z' F' G r' f tc o n => k v H' Z' F' G r' f tc o fun _ => n⟩
  · cases e1
theorem callX_rd {t : List Nat} {m : M (List D)} {fn : FnX} : ∀ σ H Q, tGX X t (mcallX fn m) σ H Q → tGa X.K t m σ H fun vs H1 => spX X.K X.mg fn vs H1 Q (L2.WE (wX X) σ) := fun σ H Q ⟨Z, F, δ, rx, δ', r, e1, k⟩ => by
  unfold mcallX at e1
  rw [Option.bind_eq_some_iff] at e1
  obtain ⟨⟨ds, δ1⟩, e1, e2⟩ := e1
  rw [Option.map_eq_some_iff] at e2
  obtain ⟨rx', e2, e3⟩ := e2
  cases e3
  refine ⟨Z, F, δ, ds, _, r, e1, fun vs H1 Z1 F1 G r1 f1 tc o1 n => ?_⟩
  have gh : ∀ a ∈ G, ∃ o, H1 a = some o := fun a m => mut_some (o1.here a m)
  have rz := r1.freeze n.fd gh
  have oz : Owns X.K (fun a => Z1 a ∨ a ∈ G) H1 (D.fzs ds) [] vs := o1.fz (fun _ z => .inl z) fun _ m => .inr m
  refine ⟨fun a => Z1 a ∨ a ∈ G, fun _ => [], D.fzs ds, rx, oz.rel rz.zh, e2, fun _ => rfl, ?_⟩
  have key : ∀ Z2 H2, (∀ a, Z2 a → ∃ o, H2 a = some o) → Fr (fun a => Z1 a ∨ a ∈ G) (fun _ => []) H1 Z2 (fun _ => []) H2 → Rel X.K Z2 F1 δ1 σ H2 ∧ Fr Z F H Z2 F1 H2 ∧ Same H1 H2 := fun Z2 H2 zh f2 => by
    have s2 : Same H1 H2 := fun a o h => f2.out a o h fun _ m => nomatch m
    refine ⟨rz.grow s2 f2.zup (fun a z => ?_) zh, ⟨fun a o h n => s2 a o (f1.out a o h n), fun a o h => ?_, fun a z => f2.zup a (.inl (f1.zup a z)), fun a z => ?_, f1.fnew⟩, s2⟩
    · rcases f2.znew a z with z | z | ⟨_, z⟩
      · exact .inl z
      · exact .inr fun i m => r1.ne_new z i m
      · cases z
    · obtain ⟨o', h'⟩ := f1.here a o h
      exact ⟨o', s2 a o' h'⟩
    · rcases f2.znew a z with (z | z) | z | ⟨_, z⟩
      · exact f1.znew a z
      · exact .inr (n.from' a z)
      · cases e : H a with
        | none => exact .inr (.inl rfl)
        | some o =>
          obtain ⟨o', h'⟩ := f1.here a o e
          rw [z] at h'; cases h'
      · cases z
  cases rx with
  | ok d =>
    intro v H2 Z2 G2 zh f2 o2 n2
    obtain ⟨r2, f3, s2⟩ := key Z2 H2 zh f2
    refine k v H2 Z2 F1 G2 r2 f3 (tc.more r s2) o2 ⟨n2.nd, n2.zd, fun a m i mi => ?_, fun a m => ?_⟩
    · rcases n2.from' a m with z | ⟨_, z⟩
      · exact r1.ne_new z i mi
      · cases z
    · rcases n2.from' a m with z | ⟨_, z⟩
      · cases e : H a with
        | none => exact .inl rfl
        | some o =>
          obtain ⟨o', h'⟩ := f1.here a o e
          rw [z] at h'; cases h'
      · cases z
  | error q =>
    obtain ⟨c, n', d⟩ := q
    intro C dd v H2 Z2 zh f2 hC hd o2
    obtain ⟨r2, f3, s2⟩ := key Z2 H2 zh f2
    exact k H2 Z2 F1 r2 f3 C dd v hC hd o2
theorem dx_call {x : Str} {p : Pos} {e : Expr} {es : List Expr} {k : Nat} {f : Addr} {fd : FuncData} {ps : List Str} {fn : FnX} {t : List Nat} {m : M (List D)} (F : FnOk X.prog X.w X.K X.mg X.base (L2.CX X.prog X.w) k f fd ps (spX X.K X.mg fn)) (hr : Room k X.A) (hg : Gl X x) (hm : X.mg x = some (.ref f)) (hk : PySem.W.keepIn X.K (.ref f) = true) (hb : Binds X.K fd ps [])
    (ha : DA X (e :: es) t m) (hdb : (x == ("__debug__" : Str)) = false := by decide) (he : starEach (e :: es) X.env = (false, eval e X.env) :: starEach es X.env := by rfl) (hpl : (backTo pos (starEach es X.env)).any (·.1) = false := by rfl) :
    DX X (.Call (.Name x p) (e :: es) [] pos) t (mcallX fn m) := wE (pe_callS F hr hg hm hk hb (fun σ => passAt takes_wX σ) ha hdb he hpl) fun σ H Q h => callX_rd σ H Q h
/-- (k, e) -/
def mtup2X (k : D) (m : MX) : MX := fun δ => (m δ).map fun p => ((match p.1 with
  | .ok d => .ok (.tup [k, d])
  | .error q => .error q), p.2)
theorem dx_tup2 {a : Expr} {x1} {t : List Nat} {m : MX} {v : V} {dk : D} (hc : PE X a (tC v)) (hf : flatD v = some dk) (h : DX X e t m) (he2 : starEach [a, e] X.env = (false, eval a X.env) :: starEach [e] X.env := by rfl) (he1 : starEach [e] X.env = (false, eval e X.env) :: starEach [] X.env := by rfl) : DX X (.Tuple [a, e] x1 pos) t (mtup2X dk m) := wE (pe_tup (pa_cons hc (pa_cons h pa_nil he1) he2)) fun σ H Q ⟨Z, F, δ, rx, δ', rl, e1, k⟩ => by
  unfold mtup2X at e1
  rw [Option.map_eq_some_iff] at e1
  obtain ⟨⟨r0, δ1⟩, e1, e2⟩ := e1
  refine ⟨Z, F, δ, r0, δ1, rl, e1, ?_⟩
  cases r0 with
  | ok d =>
    cases e2
    intro u H1 Z1 F1 G r1 f1 tc o1 n
    refine ⟨by show 2 ≤ sizeLine; decide, fun p hp => ?_⟩
    refine k (.ref p) _ Z1 F1 G (r1.new hp) (f1.trans (Fr.new hp)) (tc.more rl (same_upd hp)) ?_ n
    simp only [Own, Owns]
    exact ⟨p, [v, u], rfl, upd_same, v, [u], [], G, rfl, by simp, own_flat hf, u, [], G, [], rfl, by simp, o1.keep (same_keep (same_upd hp) (fun _ z => z) _), rfl, rfl⟩
  | error q =>
    cases e2
    exact k
/-- a if c else b -/
def miteX (c : M Bool) (a b : MX) : MX := fun δ => match c δ with
  | some (true, δ1) => a δ1
  | some (false, δ1) => b δ1
  | none => none

/-! ### statements -/
def mretX (m : MX) : MS := fun δ => (m δ).map fun p => match p.1 with
  | .ok d => (.rt d, p.2)
  | .error (c, n, d) => (.ex c n d, p.2)
def mdropX (m : MX) : MS := fun δ => (m δ).map fun p => match p.1 with
  | .ok _ => (.nx, p.2)
  | .error (c, n, d) => (.ex c n d, p.2)
theorem ds_retX {t : List Nat} {m : MX} (h : DX X e t m) : DS X pn (.Return (some e) pos) (mretX m) := wS (ps_ret h) fun D σ H ⟨Z, F, δ, fl, δ', r, e1, k⟩ => by
  unfold mretX at e1
  rw [Option.map_eq_some_iff] at e1
  obtain ⟨⟨r0, δ1⟩, e1, e2⟩ := e1
  refine ⟨Z, F, δ, r0, δ1, r, e1, ?_⟩
  cases r0 with
  | ok d =>
    cases e2
    exact fun v H1 Z1 F1 G r1 f1 pu1 o1 n1 => k σ H1 Z1 F1 r1 f1 (fun _ _ => rfl) v G o1 n1
  | error q =>
    obtain ⟨c, n, d⟩ := q
    cases e2
    exact fun H1 Z1 F1 r1 f1 => k σ H1 Z1 F1 r1 f1 (fun _ _ => rfl)
theorem ds_exprX {t : List Nat} {m : MX} (h : DX X e t m) (hs : swapsWith e none pos.line X.env = pure false := by rfl) : DS X pn (.Expr e pos) (mdropX m) := wS (ps_expr h hs) fun D σ H ⟨Z, F, δ, fl, δ', r, e1, k⟩ => by
  unfold mdropX at e1
  rw [Option.map_eq_some_iff] at e1
  obtain ⟨⟨r0, δ1⟩, e1, e2⟩ := e1
  refine ⟨Z, F, δ, r0, δ1, r, e1, ?_⟩
  cases r0 with
  | ok d =>
    cases e2
    exact fun v H1 Z1 F1 G r1 f1 pu1 o1 n1 => k σ H1 Z1 F1 r1 f1 (fun _ _ => rfl)
  | error q =>
    obtain ⟨c, n, d⟩ := q
    cases e2
    exact fun H1 Z1 F1 r1 f1 => k σ H1 Z1 F1 r1 f1 (fun _ _ => rfl)
/-- raise C(a) -/
def mraise (c n : Str) (m : M D) : MS := fun δ => (mval m δ).map fun p => (.ex c n p.1, p.2)
theorem ds_raise {x n : Str} {C fI : Addr} {a : Expr} {t : List Nat} {fr : Bool} {m : M D} {p pos2 : Pos} {k : Nat} (hc : X.calm = true) (T : PySem.ErrX.ErrTxt X.prog X.K X.mg x n C fI) (hr : Room (k + 1) X.A) (ha : DE X a t fr m) (hg : Gl X x) (hdb : (x == ("__debug__" : Str)) = false := by decide)
    (he : starEach (a :: []) X.env = (false, eval a X.env) :: starEach [] X.env := by rfl) (hpl : (backTo pos (starEach [] X.env)).any (·.1) = false := by rfl) :
    DS X pn (.Raise (some (.Call (.Name x p) [a] [] pos)) none pos2) (mraise x n m) := wS (ps_raise hc takes_wX (pmk_err T hr (pa_cons ha pa_nil he) hg hdb he hpl)) fun D σ H ⟨Z, F, δ, fl, δ', r, e1, kk⟩ => by
  unfold mraise at e1
  rw [Option.map_eq_some_iff] at e1
  obtain ⟨⟨d, δ1⟩, e1, e2⟩ := e1
  cases e2
  unfold mval at e1
  rw [mbind_some] at e1
  obtain ⟨d1, δ2, e1, e2⟩ := e1
  split at e2
  case isFalse => cases e2
  rename_i hf
  rw [mk_some] at e2
  obtain ⟨rfl, rfl⟩ := e2
  refine ⟨Z, F, δ, d1, _, r, e1, fun v H1 Z1 F1 G r1 f1 pu o1 _ => ⟨v, rfl, fun dd hd => ?_⟩⟩
  rw [Own.nil hf o1] at o1
  exact kk σ _ Z1 F1 (r1.new hd) (f1.trans (Fr.new hd)) (fun _ _ => rfl) C dd v T.gC upd_same (o1.keep (same_keep (same_upd hd) (fun _ z => z) _))
/-- a statement that is never reached -/
theorem ds_dead {st : Stmt} {t : TS} (h : PS X st t) : DS X pn st (fun _ => none) := wS h fun D σ H ⟨Z, F, δ, fl, δ', r, e1, kk⟩ => nomatch e1

/-! ### try: .. except C as e: return (k, e.n) -/
def mtryR (i : Nat) (c n : Str) (lit : D) (b : MS) : MS := fun δ => match b δ with
  | some (.ex c' n' d, δ') => if c' = c ∧ n' = n ∧ i < δ'.length then some (.rt (.tup [lit, d]), δ') else none
  | r => r
theorem exW_mono {K : PySem.W.Frag} {mg : Str → Option Value} {W W' : L2.WX} {Z' : Addr → Prop} {c n : Str} {d : D} {σ' : St} {H' : Hp} (h : ∀ cls dd, W cls dd σ' H' → W' cls dd σ' H') (e : exW K mg W Z' c n d σ' H') : exW K mg W' Z' c n d σ' H' := fun C dd v h1 h2 h3 => h _ _ (e C dd v h1 h2 h3)
theorem tStW_mono {K : PySem.W.Frag} {mg : Str → Option Value} {W W' : L2.WX} {m : MS} (h : ∀ cls dd σ H, W cls dd σ H → W' cls dd σ H) : ∀ D σ H, tStW K mg W pn m D σ H → tStW K mg W' pn m D σ H := fun D σ H ⟨Z, F, δ, fl, δ', r, e1, k⟩ => by
  refine ⟨Z, F, δ, fl, δ', r, e1, fun σ' H' Z' F' r' f' p' => ?_⟩
  have kk := k σ' H' Z' F' r' f' p'
  cases fl with
  | nx => exact kk
  | bk => exact kk
  | ct => exact kk
  | rt d => exact kk
  | ex c n d => exact exW_mono (fun cls dd => h cls dd σ' H') kk
theorem ds_tryR {x nm n lit : Str} {C fI : Addr} {i j : Nat} {x1} {body : List Stmt} {b : MS} {np pos' p1 p2 p3 p4 p5 : Pos} (hs : X.stack = X.env :: X.outer) (hf : X.env.frame = some X.env.locals) (hN : X.N.Nodup) (hi : X.N[i]? = some nm) (hln : X.env.kindOf nm = some .local)
    (T : PySem.ErrX.ErrTxt X.prog X.K X.mg x n C fI) (hg : Gl X x) (hdb : (x == ("__debug__" : Str)) = false)
    (hb : ∀ (pn' : List (Addr × Obj)) (xe : Value → Shared → Prop), PassesOwn (model X.prog X.w) X.A X.env xe → DSs (X.tr pn' xe) pn body b)
    (hv : ∀ (a : Addr) (pn' : List (Addr × Obj)), PE (X.suite a pn') (.Name nm p3) (tVar i)) (hab : attributeBase (.Name nm p3) n X.env (eval (.Name nm p3) X.env) = eval (.Name nm p3) X.env := by rfl)
    (he2 : starEach [.Constant (.str lit) j p2, .Attribute (.Name nm p3) n p4] X.env = (false, eval (.Constant (.str lit) j p2) X.env) :: starEach [.Attribute (.Name nm p3) n p4] X.env := by rfl) (he1 : starEach [.Attribute (.Name nm p3) n p4] X.env = (false, eval (.Attribute (.Name nm p3) n p4) X.env) :: starEach [] X.env := by rfl) :
    DS X pn (.Try body [.ExceptHandler (some (.Name x np)) (some nm) [.Return (some (.Tuple [.Constant (.str lit) j p2, .Attribute (.Name nm p3) n p4] x1 p5)) p1] pos'] [] [] pos) (mtryR i x n (.str lit) b) :=
  wS (ps_try_as (i := i) (tb := fun W => tStW X.K X.mg W pn b) (ts := fun a cls d => tRet (tTup (tCons (tC (.str lit)) (tCons (tXf a cls d C n (tVar i)) tNil)))) (Wout := fun _ _ _ _ => False) hs hf hN hi hln ⟨hg, hdb, Or.inl T.gC⟩ takes0
    (fun W pn' xe tk hp => wSs (hb pn' xe hp) (tStW_mono fun cls dd σ H w => wX_of tk w))
    (fun a oe cls d pn' hz hf' => pss_one (ps_ret (pe_tup (pa_cons pe_str (pa_cons (pe_xf T.xf T.noN hz hf' (hv a _) hab) pa_nil he1) he2))))) fun D σ H ⟨Z, F, δ, fl, δ', r, e1, k⟩ => by
  unfold mtryR at e1
  split at e1
  · rename_i c' n' d δ1 q
    split at e1
    · rename_i hcond
      obtain ⟨rfl, rfl, hlt⟩ := hcond
      cases e1
      refine ⟨Z, F, δ, _, δ', r, q, fun σ' H' Z' F' r' f' p' C' dd v hC' hdd o => ⟨true, ?_, fun _ a ha => ?_, fun q => nomatch q⟩⟩
      · have : C' = C := by
          have := hC'.symm.trans T.gC
          cases this
          rfl
        subst this
        exact T.te
      have hC : C' = C := by
        have := hC'.symm.trans T.gC
        cases this
        rfl
      subst hC
      have hlt' : i < σ'.length := by rw [← r'.len]; exact hlt
      refine ⟨_, List.getElem?_set_self hlt', rfl, rfl, dd, _, v, rfl, hdd, by simp [List.lookup], ?_⟩
      refine ⟨by show 2 ≤ sizeLine; decide, fun p hp => ?_⟩
      refine k σ' _ Z' F' (r'.new hp) (f'.trans (Fr.new hp)) p' (.ref p) [] ?_ New.nil
      simp only [Own, Owns]
      exact ⟨p, [.str lit, v], rfl, upd_same, .str lit, [v], [], [], rfl, rfl, ⟨rfl, rfl⟩, v, [], [], [], rfl, rfl, o.keep (same_keep (same_upd hp) (fun _ z => z) _), rfl, rfl⟩
    · cases e1
  · rename_i hne
    refine ⟨Z, F, δ, fl, δ', r, e1, fun σ' H' Z' F' r' f' p' => ?_⟩
    have kk := k σ' H' Z' F' r' f' p'
    cases fl with
    | nx => exact kk
    | bk => exact kk
    | ct => exact kk
    | rt d => exact kk
    | ex c n d => exact (hne _ _ _ _ e1).elim
end
end TL
set_option Elab.async false
set_option linter.all false
set_option maxRecDepth 100000
set_option maxHeartbeats 4000000
/-! T29: isinstance(C(a), D), isinstance(C(a), (D1, D2)), C an own exception class. -/
namespace TL
open PySem PySem.Spec L2 PyProof.Rows
structure ErrIs (K : PySem.W.Frag) (C : Addr) : Prop where
  cl : (PySem.W.clsIn K C).isSome = true
  ha : PySem.W.findIn K (.ref C) "__class__" = some (some (.builtin "object.__class__"))
  hn : PySem.W.specialIn K (.builtin "object.__class__") "__get__" = some (some (.builtin "getset_descriptor.__get__"))
  ht : PySem.W.takesIn K (.builtin "object.__class__") = some true
  hm : PySem.W.mroIn K C (.type "object") = some true
section
variable {X : Cx} {x n : Str} {C fI : Addr}
/-- C(a) evaluated: the new object stands, all else as before -/
theorem eval_err {a : Expr} {v : V} {p pos : Pos} {k : Nat} {pins : List (Addr × Obj)} {s : Shared} {σ : L2.St} {H : Hp} {Q : Value → Shared → Prop} (T : PySem.ErrX.ErrTxt X.prog X.K X.mg x n C fI) (hr : Room (k + 1) X.A) (ha : PE X a (tC v)) (hg : Gl X x) (hdb : (x == ("__debug__" : Str)) = false)
    (he : starEach (a :: []) X.env = (false, eval a X.env) :: starEach [] X.env) (hpl : (backTo pos (starEach [] X.env)).any (·.1) = false)
    (I : L2.Inv X pins σ H s) (hq : ∀ e oe od s', L2.Inv X pins σ H s' → PySem.W.InstAt s'.heap e oe C od → Q (.ref e) s') : wpAny (model X.prog X.w) X.A (eval (.Call (.Name x p) [a] [] pos) X.env) Q X.xe s := by
  refine wpAny_Call_Name_kw (ld_glob I hg T.gC ?_ hdb)
  refine PySem.W.callWith_K (h₀ := X.base) I.ok.mod.kin T.kC (thn ((pa_cons ha pa_nil he).run pos pins s σ H (fun vs H1 => H = H1 ∧ ∃ v, vs = [v]) I ⟨rfl, v, rfl⟩) fun us s1 hh => ?_) he hpl
  obtain ⟨vs, H1, I1, r1, eH, v', ev⟩ := hh
  subst ev eH
  refine ⟨I1.kIn, ?_⟩
  cases r1 with
  | cons rv rn =>
    rename_i v' us'
    cases rn
    show wpAny _ _ (call (.ref C) [v']) _ _ _
    have hlim := I1.nolimit
    have hgl := I1.mod.glob.keeps I1.bk
    obtain ⟨mb, hb1, hb2⟩ := I1.mod.blt
    have hb1' := hb1.keeps I1.bk
    obtain ⟨hp, g, dr, tk, os⟩ := s1
    refine wpAny_call (PySem.ErrX.err_made T I1.kIn hlim hgl ⟨mb, hb1', hb2⟩ (by have := hr.dp; omega) fun h' tk' e d M => ?_)
    obtain ⟨oe, fv, hoe, hc, hd, hdat, h1⟩ := M.obj
    obtain ⟨oD, _, _, hoD, _⟩ := M.ns
    refine hq e oe (some oD) _ (I1.kept (t' := tk') M.keep) ⟨hoe, hc, ?_, ?_⟩
    · unfold PySem.W.notCls
      rw [hdat] <;> rfl
    · rw [hd]
      exact hoD
theorem inst_keeps {h h' : Heap} {e : Addr} {oe : Obj} {od : Option Obj} (J : PySem.W.InstAt h e oe C od) (k : ∀ b o, h.get? b = some o → h'.get? b = some o) : PySem.W.InstAt h' e oe C od := by
  obtain ⟨h1, h2, h3, h4⟩ := J
  refine ⟨k _ _ h1, h2, h3, ?_⟩
  cases hd : oe.dict with
  | none =>
    rw [hd] at h4
    cases od <;> first | exact h4 | trivial | exact h4.elim
  | some d =>
    rw [hd] at h4
    cases od with
    | none => exact h4
    | some o => exact k _ _ h4
theorem pe_isErr {a : Expr} {v : V} {y : Str} {D0 : Addr} {b : Bool} {p p1 p2 p3 pos : Pos} {k : Nat} (T : PySem.ErrX.ErrTxt X.prog X.K X.mg x n C fI) (Ei : ErrIs X.K C) (hr : Room (k + 1) X.A) (ha : PE X a (tC v)) (hg : Gl X x) (hgi : Gl X "isinstance") (hmi : X.mg "isinstance" = none)
    (hgy : Gl X y) (hmy : X.mg y = some (.ref D0)) (hk : PySem.W.kitOne X.K (.ref C) (.ref D0) = some b) (hdb : (x == ("__debug__" : Str)) = false := by decide) (hdy : (y == ("__debug__" : Str)) = false := by decide)
    (he : starEach (a :: []) X.env = (false, eval a X.env) :: starEach [] X.env := by rfl) (hpl : (backTo p2 (starEach [] X.env)).any (·.1) = false := by rfl)
    (he1 : starEach [.Call (.Name x p1) [a] [] p2, .Name y p3] X.env = (false, eval (.Call (.Name x p1) [a] [] p2) X.env) :: starEach [.Name y p3] X.env := by rfl) (he2 : starEach [.Name y p3] X.env = (false, eval (.Name y p3) X.env) :: starEach [] X.env := by rfl)
    (hpl1 : (backTo pos (starEach [.Name y p3] X.env)).any (·.1) = false := by rfl) :
    PE X (.Call (.Name "isinstance" p) [.Call (.Name x p1) [a] [] p2, .Name y p3] [] pos) (tC (.bl b)) := by
  refine ⟨fun pins s σ H Q I h => ?_⟩
  refine wpAny_Call_Name_kw (ld_blt I hgi hmi (u := .builtin "isinstance") (by rfl) ?_ (by decide) (by decide))
  refine PyProof.Rows.callWith_builtin1 ?_ he1 hpl1
  refine args_cons ?_ he1
  refine eval_err T hr ha hg hdb he hpl I fun e oe od s1 I1 J1 => ?_
  refine args_cons ?_ he2
  refine ld_glob I1 hgy hmy ?_ hdy
  refine args_nil ?_
  exact PySem.W.kia_one (PySem.W.kitx_exc Ei.cl T.xf.ga T.xf.gg T.xf.exC Ei.ha Ei.hn Ei.ht Ei.hm) I1.kIn J1 hk (fun z => nomatch z) fun tk => ⟨.bl b, H, I1.tok tk, rfl, h⟩
theorem pe_isErrT {a : Expr} {v : V} {y1 y2 : Str} {D1 D2 : Addr} {b : Bool} {x1} {p p1 p2 p3 p4 p5 pos : Pos} {k : Nat} (T : PySem.ErrX.ErrTxt X.prog X.K X.mg x n C fI) (Ei : ErrIs X.K C) (hr : Room (k + 1) X.A) (ha : PE X a (tC v)) (hg : Gl X x) (hgi : Gl X "isinstance") (hmi : X.mg "isinstance" = none)
    (hgy1 : Gl X y1) (hmy1 : X.mg y1 = some (.ref D1)) (hgy2 : Gl X y2) (hmy2 : X.mg y2 = some (.ref D2)) (hk : PySem.W.kitAny X.K (.ref C) [.ref D1, .ref D2] = some b) (hdb : (x == ("__debug__" : Str)) = false := by decide) (hdy1 : (y1 == ("__debug__" : Str)) = false := by decide) (hdy2 : (y2 == ("__debug__" : Str)) = false := by decide)
    (he : starEach (a :: []) X.env = (false, eval a X.env) :: starEach [] X.env := by rfl) (hpl : (backTo p2 (starEach [] X.env)).any (·.1) = false := by rfl)
    (he1 : starEach [.Call (.Name x p1) [a] [] p2, .Tuple [.Name y1 p3, .Name y2 p4] x1 p5] X.env = (false, eval (.Call (.Name x p1) [a] [] p2) X.env) :: starEach [.Tuple [.Name y1 p3, .Name y2 p4] x1 p5] X.env := by rfl)
    (he2 : starEach [.Tuple [.Name y1 p3, .Name y2 p4] x1 p5] X.env = (false, eval (.Tuple [.Name y1 p3, .Name y2 p4] x1 p5) X.env) :: starEach [] X.env := by rfl)
    (he3 : starEach [.Name y1 p3, .Name y2 p4] X.env = (false, eval (.Name y1 p3) X.env) :: starEach [.Name y2 p4] X.env := by rfl) (he4 : starEach [.Name y2 p4] X.env = (false, eval (.Name y2 p4) X.env) :: starEach [] X.env := by rfl)
    (hpl1 : (backTo pos (starEach [.Tuple [.Name y1 p3, .Name y2 p4] x1 p5] X.env)).any (·.1) = false := by rfl) :
    PE X (.Call (.Name "isinstance" p) [.Call (.Name x p1) [a] [] p2, .Tuple [.Name y1 p3, .Name y2 p4] x1 p5] [] pos) (tC (.bl b)) := by
  refine ⟨fun pins s σ H Q I h => ?_⟩
  refine wpAny_Call_Name_kw (ld_blt I hgi hmi (u := .builtin "isinstance") (by rfl) ?_ (by decide) (by decide))
  refine PyProof.Rows.callWith_builtin1 ?_ he1 hpl1
  refine args_cons ?_ he1
  refine eval_err T hr ha hg hdb he hpl I fun e oe od s1 I1 J1 => ?_
  refine args_cons ?_ he2
  refine wpAny_Tuple_spliced ?_
  refine args_cons ?_ he3
  refine ld_glob I1 hgy1 hmy1 ?_ hdy1
  refine args_cons ?_ he4
  refine ld_glob I1 hgy2 hmy2 ?_ hdy2
  refine args_nil ⟨by rw [sizeLine_eq]; exact (by decide : 2 ≤ 16777216), ?_⟩
  refine args_nil ?_
  have I2 : L2.Inv X pins σ H { s1 with heap := s1.heap.push { cls := .type "tuple", data := .seq [Value.ref D1, Value.ref D2].toArray } } := I1.kept (t' := s1.toks) fun b o e => Heap.get?_push_of_some _ e
  refine PySem.W.kia_tup (PySem.W.kitx_exc Ei.cl T.xf.ga T.xf.gg T.xf.exC Ei.ha Ei.hn Ei.ht Ei.hm) I2.kIn (inst_keeps J1 fun b o e => Heap.get?_push_of_some _ e) (Heap.get?_push_at rfl rfl) hk (fun z => nomatch z) fun tk => ⟨.bl b, H, I2.tok tk, rfl, h⟩
end
end TL
set_option Elab.async false
set_option linter.all false
set_option maxRecDepth 100000
set_option maxHeartbeats 4000000
/-! T30: a if c else b of what may raise; statements that are never reached; an own error class out of what the top has written. -/
namespace TL
open PySem PySem.Spec L2
section
variable {X : Cx} {e : Expr} {pos : Pos} {pn : List Nat} {st : Stmt}
def mdead : MS := fun _ => none
theorem ds_never : DS X pn st mdead := ds_dead ps_never
theorem dx_ite {a b c : Expr} {p0 p1 p2 : List Nat} {m0 : M Bool} {m1 m2 : MX} (hc : DT X c p0 m0) (ha : DX X a p1 m1) (hb : DX X b p2 m2) : DX X (.IfExp c a b pos) (p0 ++ (p1 ++ p2)) (miteX m0 m1 m2) := wE (pe_ifExp hc ha hb) fun σ H Q ⟨Z, F, δ, r0, δ', r, e1, k⟩ => by
  unfold miteX at e1
  split at e1
  · rename_i δ1 q
    refine ⟨Z, F, δ, true, δ1, r, q, fun H1 Z1 F1 r1 f1 pu1 => ?_⟩
    show (if true = true then tGX X p1 m1 σ H1 Q else tGX X p2 m2 σ H1 Q)
    rw [if_pos rfl]
    refine ⟨Z1, F1, δ1, r0, δ', r1, e1, ?_⟩
    cases r0 with
    | ok d => exact fun w H2 Z2 F2 G2 r2 f2 pu2 o2 n2 => k w H2 Z2 F2 G2 r2 (f1.trans f2) ((pu1.trans pu2).mono fun _ m => (List.mem_append.mp m).elim (fun m => List.mem_append_left _ m) fun m => List.mem_append_right _ (List.mem_append_left _ m)) o2 (n2.back f1)
    | error q => exact fun H2 Z2 F2 r2 f2 => k H2 Z2 F2 r2 (f1.trans f2)
  · rename_i δ1 q
    refine ⟨Z, F, δ, false, δ1, r, q, fun H1 Z1 F1 r1 f1 pu1 => ?_⟩
    show (if false = true then tGX X p1 m1 σ H1 Q else tGX X p2 m2 σ H1 Q)
    rw [if_neg Bool.false_ne_true]
    refine ⟨Z1, F1, δ1, r0, δ', r1, e1, ?_⟩
    cases r0 with
    | ok d => exact fun w H2 Z2 F2 G2 r2 f2 pu2 o2 n2 => k w H2 Z2 F2 G2 r2 (f1.trans f2) ((pu1.trans pu2).mono fun _ m => (List.mem_append.mp m).elim (fun m => List.mem_append_left _ m) fun m => List.mem_append_right _ (List.mem_append_right _ m)) o2 (n2.back f1)
    | error q => exact fun H2 Z2 F2 r2 f2 => k H2 Z2 F2 r2 (f1.trans f2)
  · cases e1
end
/-- an error of the class at C is what 'except C' names -/
theorem exm_same {K : PySem.W.Frag} {S : Addr} (h1 : PySem.W.subIn K (.ref S) (.type "BaseException") = some true) (h2 : PySem.W.isClsIn K S = true) (h3 : PySem.W.typeIn K (.ref S) = some (.type "type")) (h4 : PySem.W.subIn K (.ref S) (.ref S) = some true) :
    PySem.W.exmOne K (.ref S) (.ref S) = some true := by
  have e1 : (PySem.W.subIn K (.ref S) (.type "BaseException") == some true) = true := by rw [h1] <;> rfl
  have e2 : ((PySem.W.clsIn K S).isSome && PySem.W.typeIn K (.ref S) == some (.type "type")) = true := by
    have h2' : (PySem.W.clsIn K S).isSome = true := h2
    rw [h2', h3] <;> rfl
  show (if (PySem.W.subIn K (.ref S) (.type "BaseException") == some true) = true then (if ((PySem.W.clsIn K S).isSome && PySem.W.typeIn K (.ref S) == some (.type "type")) = true then PySem.W.subIn K (.ref S) (.ref S) else none) else none) = some true
  rw [if_pos e1, if_pos e2]
  exact h4
end TL
set_option Elab.async false
set_option linter.all false
set_option maxRecDepth 100000
set_option maxHeartbeats 1000000
/-! P0: mirrors, worked out. -/
namespace TL
open PySem L2
section
variable {α β : Type} {δ : En}
@[simp] theorem ev_mk (a : α) : mk a δ = some (a, δ) := Eq.trans rfl rfl
@[simp] theorem ev_bind (m : M α) (f : α → M β) : mbind m f δ = (m δ).bind fun p => f p.1 p.2 := Eq.trans rfl rfl
@[simp] theorem ev_opt (o : Option α) : mopt o δ = o.map fun a => (a, δ) := Eq.trans rfl rfl
@[simp] theorem ev_var (i : Nat) : mvar i δ = (match δ[i]? with
  | some (some d) => some (d, δ)
  | _ => none) := Eq.trans rfl rfl
@[simp] theorem ev_val (m : M D) : mval m δ = (m δ).bind fun p => if p.1.isFz = true then some p else none := by
  unfold mval mbind
  congr 1
  funext p
  dsimp only
  split <;> simp_all [mk]
@[simp] theorem ev_op1 (f : D → Option D) (a : M D) : mop1 f a δ = (a δ).bind fun p => (f p.1).map fun d => (d, p.2) := Eq.trans rfl rfl
@[simp] theorem ev_op2 (f : D → D → Option D) (a b : M D) : mop2 f a b δ = (a δ).bind fun p => (b p.2).bind fun q => (f p.1 q.1).map fun d => (d, q.2) := Eq.trans rfl rfl
@[simp] theorem ev_nil : mnil δ = some ([], δ) := Eq.trans rfl rfl
@[simp] theorem ev_cons (a : M D) (r : M (List D)) : mcons a r δ = (a δ).bind fun p => (r p.2).bind fun q => some (p.1 :: q.1, q.2) := Eq.trans rfl rfl
@[simp] theorem ev_tup (r : M (List D)) : mtup r δ = (r δ).bind fun p => if p.1.length ≤ sizeLine then some (.tup p.1, p.2) else none := by
  unfold mtup mbind
  congr 1
  funext p
  dsimp only
  split <;> simp_all [mk]
@[simp] theorem ev_lst (r : M (List D)) : mlst r δ = (r δ).bind fun p => if p.1.length ≤ sizeLine then some (.lst true p.1, p.2) else none := by
  unfold mlst mbind
  congr 1
  funext p
  dsimp only
  split <;> simp_all [mk]
def blD : D → Option Bool
  | .bl b => some b
  | _ => none
@[simp] theorem blD_bl (b : Bool) : blD (.bl b) = some b := Eq.trans rfl rfl
@[simp] theorem ev_test (m : M D) : mtest m δ = (m δ).bind fun p => (blD p.1).map fun b => (b, p.2) := by
  unfold mtest mbind
  congr 1
  funext p
  cases p.1 <;> rfl
@[simp] theorem ev_and (a b : M Bool) : mand a b δ = (a δ).bind fun p => if p.1 = true then b p.2 else some (false, p.2) := by
  unfold mand mbind
  congr 1
  funext p
  dsimp only
  split <;> simp_all [mk]
@[simp] theorem ev_or (a b : M Bool) : mor a b δ = (a δ).bind fun p => if p.1 = true then some (true, p.2) else b p.2 := by
  unfold mor mbind
  congr 1
  funext p
  dsimp only
  split <;> simp_all [mk]
@[simp] theorem ev_not (a : M Bool) : mnot a δ = (a δ).bind fun p => some (!p.1, p.2) := Eq.trans rfl rfl
@[simp] theorem ev_ite (c : M Bool) (a b : M α) : mite c a b δ = (c δ).bind fun p => if p.1 = true then a p.2 else b p.2 := by
  unfold mite mbind
  congr 1
  funext p
  dsimp only
  split <;> simp_all [mk]
@[simp] theorem ev_andV (a b : M D) : mandV a b δ = (mtest a δ).bind fun p => if p.1 = true then b p.2 else some (.bl false, p.2) := by
  unfold mandV mbind
  congr 1
  funext p
  dsimp only
  split <;> simp_all [mk]
@[simp] theorem ev_orV (a b : M D) : morV a b δ = (mtest a δ).bind fun p => if p.1 = true then some (.bl true, p.2) else b p.2 := by
  unfold morV mbind
  congr 1
  funext p
  dsimp only
  split <;> simp_all [mk]
@[simp] theorem ev_fz (m : M D) : mfz m δ = (m δ).bind fun p => some (p.1.fz, p.2) := Eq.trans rfl rfl
@[simp] theorem ev_sk : msk δ = some (.nx, δ) := Eq.trans rfl rfl
@[simp] theorem ev_brk : mbrk δ = some (.bk, δ) := Eq.trans rfl rfl
@[simp] theorem ev_cnt : mcnt δ = some (.ct, δ) := Eq.trans rfl rfl
@[simp] theorem ev_seq (a b : MS) : mseq a b δ = (match a δ with
  | some (.nx, δ1) => b δ1
  | r => r) := Eq.trans rfl rfl
@[simp] theorem ev_kill (ks : List Nat) (m : MS) : mkill ks m δ = (m δ).map fun p => (p.1, En.kill ks p.2) := Eq.trans rfl rfl
@[simp] theorem ev_drop (m : M D) : mdrop m δ = (m δ).map fun p => (.nx, p.2) := Eq.trans rfl rfl
@[simp] theorem ev_ret (m : M D) : mret m δ = (m δ).map fun p => (.rt p.1, p.2) := Eq.trans rfl rfl
@[simp] theorem ev_move (i : Nat) : mmove i δ = (match δ[i]? with
  | some (some d) => some (d, δ.set i none)
  | _ => none) := Eq.trans rfl rfl
@[simp] theorem ev_ifs (c : M Bool) (a b : MS) : mifs c a b δ = (match c δ with
  | some (k, δ1) => if k = true then a δ1 else b δ1
  | none => none) := Eq.trans rfl rfl
@[simp] theorem ev_gset (i : Nat) (d : D) : gset i d δ = if i < δ.length then some (δ.set i (some d)) else none := Eq.trans rfl rfl
@[simp] theorem ev_gnil : gnil [] δ = some δ := Eq.trans rfl rfl
@[simp] theorem ev_gcons (g : Tg) (r : Tgs) (d : D) (ds : List D) : gcons g r (d :: ds) δ = (g d δ).bind (r ds) := Eq.trans rfl rfl
@[simp] theorem ev_gtup (n : Nat) (g : Tgs) (ds : List D) : gtup n g (.tup ds) δ = if ds.length = n then g ds δ else none := Eq.trans rfl rfl
@[simp] theorem ev_asg (m : M D) (g : Tg) : masg m g δ = (m δ).bind fun p => (g p.1 p.2).map fun δ2 => (.nx, δ2) := by
  unfold masg
  cases m δ <;> rfl
@[simp] theorem ev_aug (i : Nat) (f : D → D → Option D) (m : M D) : maug i f m δ = (match δ[i]? with
  | some (some x) => (match m δ with
    | some (y, δ1) => (f x y).map fun z => (.nx, δ1.set i (some z))
    | none => none)
  | _ => none) := Eq.trans rfl rfl
@[simp] theorem ev_par (i j : Nat) (m : M (List D)) : mpar i j m δ = (match m δ with
  | some ([d, e], δ1) => if i < δ1.length ∧ j < δ1.length then some (.nx, (δ1.set i (some d)).set j (some e)) else none
  | _ => none) := Eq.trans rfl rfl
@[simp] theorem ev_freeze (i : Nat) : mfreeze i δ = (match δ[i]? with
  | some (some d) => some (.nx, δ.set i (some d.fz))
  | _ => none) := Eq.trans rfl rfl
@[simp] theorem ev_call (fn : Fn) (m : M (List D)) : mcall fn m δ = (m δ).bind fun p => (fn (D.fzs p.1)).map fun q => (q.1, p.2) := by
  show (m δ).bind (fun p => ((fn (D.fzs p.1)).map (·.1)).map fun a => (a, p.2)) = _
  congr 1
  funext p
  cases fn (D.fzs p.1) <;> rfl
@[simp] theorem ev_callV (fn : Fn) (m : M (List D)) : mcallV fn m δ = (m δ).bind fun p => ((fn (D.fzs p.1)).bind fun q => if q.1.free = true then some q.1 else none).map fun a => (a, p.2) := Eq.trans rfl rfl
@[simp] theorem ev_call1 (i : Nat) (fn : Fn) (m : M (List D)) : mcall1 i fn m δ = (match δ[i]? with
  | some (some _) => (match m δ with
    | some (ds, δ1) => (match δ1[i]? with
      | some (some d0) => (fn (d0 :: D.fzs ds)).map fun p => (p.1, δ1.set i (some p.2))
      | _ => none)
    | none => none)
  | _ => none) := Eq.trans rfl rfl
@[simp] theorem ev_items (m : M D) : mitems m δ = (m δ).bind fun p => (itemsD p.1).map fun a => (a, p.2) := Eq.trans rfl rfl
@[simp] theorem ev_itemsB (i : Nat) : mitemsB i δ = (match δ[i]? with
  | some (some (.lst _ ds)) => if D.isFzs ds = true then some (ds, δ) else none
  | _ => none) := Eq.trans rfl rfl
@[simp] theorem ev_for (m : M (List D)) (g : Tg) (b : MS) : mfor m g b δ = (m δ).bind fun p => mforL g b p.1 p.2 := by
  unfold mfor
  cases m δ <;> rfl
@[simp] theorem ev_lc (m : M (List D)) (vs : List Nat) (g : Tg) (c : M Bool) (e : M D) : mlc m vs g c e δ = (m δ).bind fun p => (mlcL vs g c e p.1 [] (En.kill vs p.2)).map fun q => (.lst true q.1, q.2) := Eq.trans rfl rfl
@[simp] theorem ev_lc2 (m : M (List D)) (vs : List Nat) (g : Tg) (c : M Bool) (m1 : M (List D)) (vs1 : List Nat) (g1 : Tg) (c1 : M Bool) (e : M D) :
    mlc2 m vs g c m1 vs1 g1 c1 e δ = (m δ).bind fun p => (mlc2L vs g c m1 vs1 g1 c1 e p.1 [] (En.kill vs p.2)).map fun q => (.lst true q.1, q.2) := Eq.trans rfl rfl
@[simp] theorem ev_dc (m : M (List D)) (vs : List Nat) (g : Tg) (c : M Bool) (ek ev : M D) : mdc m vs g c ek ev δ = (m δ).bind fun p => (mdcL vs g c ek ev p.1 [] [] (En.kill vs p.2)).map fun q => (.dK true q.1.1 q.1.2, q.2) := Eq.trans rfl rfl
@[simp] theorem ev_dcT (m : M (List D)) (vs : List Nat) (g : Tg) (c : M Bool) (ek ev : M D) : mdcT m vs g c ek ev δ = (m δ).bind fun p => (mdcTL vs g c ek ev p.1 [] [] (En.kill vs p.2)).map fun q => (.dT true q.1.1 q.1.2, q.2) := Eq.trans rfl rfl
@[simp] theorem ev_kn (δ : En) : En.kill [] δ = δ := Eq.trans rfl rfl
@[simp] theorem ev_kc (i : Nat) (ks : List Nat) (δ : En) : En.kill (i :: ks) δ = En.kill ks (δ.set i none) := Eq.trans rfl rfl
@[simp] theorem ev_mut (ty : D → Bool) (i : Nat) (f : D → List D → Option (D × D)) (ps : M (List Stp)) (ms : M (List D)) : mmut ty i f ps ms δ = (ps δ).bind fun s => if placeTy ty i s.1 s.2 = true then (match ms s.2 with
    | some (ds, δ2) => (match δ2[i]? with
      | some (some d) => (d.getP s.1).bind fun c => (f c ds).bind fun p => (d.putP s.1 p.2).map fun d' => (p.1, δ2.set i (some d'))
      | _ => none)
    | none => none) else none := Eq.trans rfl rfl
@[simp] theorem ev_put (i : Nat) (f : D → List D → Option (D × D)) (me : M D) (ps : M (List Stp)) (ms : M (List D)) : mput i f me ps ms δ = (match me δ with
  | some (x, δ1) => (match ps δ1 with
    | some (ss, δ2) => if placeOk i ss δ2 = true then (match ms δ2 with
      | some (ys, δ3) => (match δ3[i]? with
        | some (some d) => (d.getP ss).bind fun c => (f c (ys ++ [x])).bind fun p => (d.putP ss p.2).map fun d' => (.nx, δ3.set i (some d'))
        | _ => none)
      | none => none)
      else none
    | none => none)
  | none => none) := Eq.trans rfl rfl
@[simp] theorem ev_pix (i : Nat) (ps : M (List Stp)) (m : M D) : mpix i ps m δ = (ps δ).bind fun s => if placeOk i s.1 s.2 = true then (m s.2).bind fun y => some (s.1 ++ [.ix y.1], y.2) else none := Eq.trans rfl rfl
end

/-! ### loops -/
def stepLc (vs : List Nat) (g : Tg) (c : M Bool) (e : M D) (d : D) (δ : En) : Option (Option D × En) := (g d δ).bind fun δ1 => (c δ1).bind fun p => if p.1 = true then (e p.2).map fun q => (some q.1, En.kill vs q.2) else some (none, En.kill vs p.2)
theorem mlcL_cons (vs : List Nat) (g : Tg) (c : M Bool) (e : M D) (d : D) (ds acc : List D) (δ : En) : mlcL vs g c e (d :: ds) acc δ = (stepLc vs g c e d δ).bind fun p => (match p.1 with
    | some y => if acc.length < sizeLine then mlcL vs g c e ds (acc ++ [y]) p.2 else none
    | none => mlcL vs g c e ds acc p.2) := by
  unfold stepLc
  rw [mlcL]
  dsimp only
  cases h0 : g d δ with
  | none => rfl
  | some δ1 =>
    simp only [Option.bind_some]
    cases h : c δ1 with
    | none => rfl
    | some p =>
      obtain ⟨b, δ2⟩ := p
      cases b with
      | false => rfl
      | true =>
        simp only [Option.bind_some, if_true]
        cases h2 : e δ2 <;> rfl
/-- a comprehension that leaves the state -/
theorem mlcL_pure {α : Type} {vs : List Nat} {g : Tg} {c : M Bool} {e : M D} {δ : En} {enc : α → D} {cond : α → Bool} {val : α → D} : ∀ {L : List α} {acc : List D}, (∀ a ∈ L, stepLc vs g c e (enc a) δ = some (if cond a = true then some (val a) else none, δ)) → acc.length + L.length ≤ sizeLine →
    mlcL vs g c e (L.map enc) acc δ = some (acc ++ (L.filter cond).map val, δ)
  | [], acc, _, _ => by simp [mlcL]
  | a :: L, acc, h, hl => by
    rw [List.map_cons, mlcL_cons, h a List.mem_cons_self]
    simp only [List.length_cons] at hl
    cases hc : cond a with
    | true =>
      simp only [Option.bind_some, if_true]
      rw [if_pos (by omega), mlcL_pure (fun b m => h b (List.mem_cons_of_mem _ m)) (by simp; omega)]
      simp [List.filter_cons, hc]
    | false =>
      simp only [Option.bind_some, Bool.false_eq_true, if_false]
      rw [mlcL_pure (fun b m => h b (List.mem_cons_of_mem _ m)) (by omega)]
      simp [List.filter_cons, hc]
/-- one that goes from state to state -/
theorem mlcL_inv {α : Type} {vs : List Nat} {g : Tg} {c : M Bool} {e : M D} {enc : α → D} {L : List α} (P : List α → List D → En → Prop)
    (hs : ∀ pre a post, L = pre ++ a :: post → ∀ acc δ, P pre acc δ → ∃ o δ', stepLc vs g c e (enc a) δ = some (o, δ') ∧ (o.isSome = true → acc.length < sizeLine) ∧ P (pre ++ [a]) (acc ++ o.toList) δ') :
    ∀ (post pre : List α), L = pre ++ post → ∀ acc δ, P pre acc δ → ∃ acc' δ', mlcL vs g c e (post.map enc) acc δ = some (acc', δ') ∧ P L acc' δ'
  | [], pre, hl, acc, δ, h => ⟨acc, δ, rfl, by rw [hl, List.append_nil]; exact h⟩
  | a :: post, pre, hl, acc, δ, h => by
    obtain ⟨o, δ', h1, hz, h2⟩ := hs pre a post hl acc δ h
    obtain ⟨acc2, δ2, h3, h4⟩ := mlcL_inv P hs post (pre ++ [a]) (by simp [hl]) _ _ h2
    refine ⟨acc2, δ2, ?_, h4⟩
    rw [List.map_cons, mlcL_cons, h1]
    cases o with
    | none => simpa using h3
    | some y =>
      simp only [Option.bind_some]
      rw [if_pos (hz rfl)]
      exact h3
def stepFor (g : Tg) (b : MS) (d : D) (δ : En) : Option (Fl × En) := (g d δ).bind b
theorem mforL_cons (g : Tg) (b : MS) (d : D) (ds : List D) (δ : En) : mforL g b (d :: ds) δ = (match stepFor g b d δ with
    | some (.nx, δ2) => mforL g b ds δ2
    | some (.ct, δ2) => mforL g b ds δ2
    | some (.bk, δ2) => some (.nx, δ2)
    | some (.rt d, δ2) => some (.rt d, δ2)
    | some (.ex c n d, δ2) => some (.ex c n d, δ2)
    | none => none) := by
  unfold stepFor
  rw [mforL]
  dsimp only
  cases h : g d δ <;> rfl
@[simp] theorem mforL_nil (g : Tg) (b : MS) (δ : En) : mforL g b [] δ = some (.nx, δ) := Eq.trans rfl rfl
theorem mforL_inv {α : Type} {g : Tg} {b : MS} {enc : α → D} {L : List α} (P : List α → En → Prop) (hs : ∀ pre a post, L = pre ++ a :: post → ∀ δ, P pre δ → ∃ fl δ', stepFor g b (enc a) δ = some (fl, δ') ∧ (fl = .nx ∨ fl = .ct) ∧ P (pre ++ [a]) δ') :
    ∀ (post pre : List α), L = pre ++ post → ∀ δ, P pre δ → ∃ δ', mforL g b (post.map enc) δ = some (.nx, δ') ∧ P L δ'
  | [], pre, hl, δ, h => ⟨δ, rfl, by rw [hl, List.append_nil]; exact h⟩
  | a :: post, pre, hl, δ, h => by
    obtain ⟨fl, δ', h1, hf, h2⟩ := hs pre a post hl δ h
    obtain ⟨δ2, h3, h4⟩ := mforL_inv P hs post (pre ++ [a]) (by simp [hl]) _ h2
    refine ⟨δ2, ?_, h4⟩
    rw [List.map_cons, mforL_cons, h1]
    rcases hf with rfl | rfl <;> exact h3
/-- from function to function: the state behind -/
theorem mforL_fold {α σ : Type} {g : Tg} {b : MS} {enc : α → D} (st : σ → En) (f : σ → α → σ) (L : List α) (hs : ∀ a ∈ L, ∀ s, ∃ fl, stepFor g b (enc a) (st s) = some (fl, st (f s a)) ∧ (fl = .nx ∨ fl = .ct)) (s : σ) :
    mforL g b (L.map enc) (st s) = some (.nx, st (L.foldl f s)) := by
  induction L generalizing s with
  | nil => rfl
  | cons a L ih =>
    obtain ⟨fl, h1, hf⟩ := hs a List.mem_cons_self s
    rw [List.map_cons, mforL_cons, h1]
    have := ih (fun b m => hs b (List.mem_cons_of_mem _ m)) (f s a)
    rcases hf with rfl | rfl <;> exact this
theorem mwhile_inv {c : M Bool} {b : MS} (P : Nat → En → Prop) (Q : En → Prop) (hs : ∀ k δ, P k δ → (∃ δ1, c δ = some (false, δ1) ∧ Q δ1) ∨ ∃ δ1 fl δ2, c δ = some (true, δ1) ∧ b δ1 = some (fl, δ2) ∧ (fl = .nx ∨ fl = .ct) ∧ ∃ k', k' < k ∧ P k' δ2) :
    ∀ (n k : Nat) (δ : En), k < n → P k δ → ∃ δ', mwhile c b n δ = some (.nx, δ') ∧ Q δ'
  | 0, k, δ, h, _ => absurd h (Nat.not_lt_zero _)
  | n + 1, k, δ, h, p => by
    rcases hs k δ p with ⟨δ1, h1, q⟩ | ⟨δ1, fl, δ2, h1, h2, hf, k', hk, p'⟩
    · exact ⟨δ1, by rw [mwhile]; dsimp only; rw [h1], q⟩
    · obtain ⟨δ', h3, q⟩ := mwhile_inv P Q hs n k' δ2 (by omega) p'
      refine ⟨δ', ?_, q⟩
      rw [mwhile]
      dsimp only
      rw [h1]
      dsimp only
      rw [h2]
      rcases hf with rfl | rfl <;> exact h3
/-! ### values -/
theorem ix_at {ds : List D} {n : Nat} (h : n < ds.length) : atD ds (.int n) = some ds[n] := by
  unfold atD atI ixN
  simp only []
  rw [if_pos (Int.natCast_nonneg n), if_pos (by omega)]
  simp [h]
theorem ix_lst {o : Bool} {ds : List D} {n : Nat} (h : n < ds.length) : indexD (.lst o ds) (.int n) = some ds[n] := ix_at h
theorem ix_tup {ds : List D} {n : Nat} (h : n < ds.length) : indexD (.tup ds) (.int n) = some ds[n] := ix_at h
@[simp] theorem ix_t0 (a : D) (ds : List D) : indexD (.tup (a :: ds)) (.int 0) = some a := ix_tup (n := 0) (by simp)
@[simp] theorem ix_t1 (a b : D) (ds : List D) : indexD (.tup (a :: b :: ds)) (.int 1) = some b := ix_tup (n := 1) (by simp)
@[simp] theorem ix_t2 (a b c : D) (ds : List D) : indexD (.tup (a :: b :: c :: ds)) (.int 2) = some c := ix_tup (n := 2) (by simp)
@[simp] theorem ix_t3 (a b c d : D) (ds : List D) : indexD (.tup (a :: b :: c :: d :: ds)) (.int 3) = some d := ix_tup (n := 3) (by simp)
@[simp] theorem ix_l0 (o : Bool) (a : D) (ds : List D) : indexD (.lst o (a :: ds)) (.int 0) = some a := ix_lst (n := 0) (by simp)
@[simp] theorem ix_l1 (o : Bool) (a b : D) (ds : List D) : indexD (.lst o (a :: b :: ds)) (.int 1) = some b := ix_lst (n := 1) (by simp)
@[simp] theorem ix_l2 (o : Bool) (a b c : D) (ds : List D) : indexD (.lst o (a :: b :: c :: ds)) (.int 2) = some c := ix_lst (n := 2) (by simp)
@[simp] theorem ix_l3 (o : Bool) (a b c d : D) (ds : List D) : indexD (.lst o (a :: b :: c :: d :: ds)) (.int 3) = some d := ix_lst (n := 3) (by simp)
@[simp] theorem len_lst (o : Bool) (ds : List D) : lenD (.lst o ds) = some (.int ds.length) := Eq.trans rfl rfl
@[simp] theorem len_tup (ds : List D) : lenD (.tup ds) = some (.int ds.length) := Eq.trans rfl rfl
/-- 0, 1, .. -/
def nums (n : Nat) : List D := (List.range n).map fun (i : Nat) => D.int i
theorem rg_nums (n : Nat) (h : n ≤ sizeLine) : range1D (.int n) = some (nums n) := by
  unfold range1D
  have hz : n ≤ 16777216 := h
  dsimp only
  rw [if_pos ((in62_iff _).mpr (by omega))]
  unfold rgD nums
  simp
@[simp] theorem isFzs_map {α : Type} (f : α → D) (h : ∀ a, (f a).isFz = true) (l : List α) : D.isFzs (l.map f) = true := by
  rw [D.isFzs_all, List.all_eq_true]
  intro d m
  obtain ⟨a, _, rfl⟩ := List.mem_map.mp m
  exact h a
theorem fzs_map {α : Type} (f : α → D) (h : ∀ a, (f a).isFz = true) (l : List α) : D.fzs (l.map f) = l.map f := D.isFzs_fzs _ (isFzs_map f h l)
end TL
set_option Elab.async false
set_option linter.all false
set_option maxRecDepth 100000
set_option maxHeartbeats 1000000
/-! P1: values that may be compared; more of values. -/
namespace TL
open PySem L2
mutual
/-- plain data of few storeys -/
def D.gd : Nat → D → Bool
  | _, .non => true
  | _, .bl _ => true
  | _, .int _ => true
  | _, .str x => PyData.canLay0 (.str x)
  | 0, _ => false
  | n + 1, .tup ds => D.gds n ds
  | n + 1, .lst _ ds => D.gds n ds
  | _, _ => false
def D.gds : Nat → List D → Bool
  | _, [] => true
  | n, d :: ds => D.gd n d && D.gds n ds
end
theorem gds_all (n : Nat) : ∀ ds : List D, D.gds n ds = ds.all (D.gd n)
  | [] => by rw [D.gds]; rfl
  | d :: ds => by rw [D.gds, List.all_cons, gds_all n ds]
theorem gd_mono : ∀ (n : Nat) (d : D), d.gd n = true → d.gd (n + 1) = true
  | _, .non, _ => by rw [D.gd]
  | _, .bl _, _ => by rw [D.gd]
  | _, .int _, _ => by rw [D.gd]
  | _, .str x, h => by rw [D.gd] at h ⊢; exact h
  | 0, .tup ds, h => by simp [D.gd] at h
  | 0, .lst _ ds, h => by simp [D.gd] at h
  | n + 1, .tup ds, h => by
    rw [D.gd, gds_all, List.all_eq_true] at h ⊢
    exact fun x m => gd_mono n x (h x m)
  | n + 1, .lst _ ds, h => by
    rw [D.gd, gds_all, List.all_eq_true] at h ⊢
    exact fun x m => gd_mono n x (h x m)
  | 0, .dK _ _ _, h => by simp [D.gd] at h
  | n + 1, .dK _ _ _, h => by simp [D.gd] at h
  | 0, .dT _ _ _, h => by simp [D.gd] at h
  | n + 1, .dT _ _ _, h => by simp [D.gd] at h
  | 0, .ins _ _ _ _, h => by simp [D.gd] at h
  | n + 1, .ins _ _ _ _, h => by simp [D.gd] at h
theorem gd_le {n m : Nat} (h : n ≤ m) {d : D} (g : d.gd n = true) : d.gd m = true := by
  induction h with
  | refl => exact g
  | step _ ih => exact gd_mono _ _ ih
theorem toPys_mp : ∀ ds : List D, D.toPys ds = ds.map D.toPy
  | [] => rfl
  | d :: ds => by rw [D.toPys, toPys_mp ds, List.map_cons]
theorem plains_all : ∀ ds : List D, D.plains ds = ds.all D.plain
  | [] => rfl
  | d :: ds => by rw [D.plains, plains_all ds, List.all_cons]
theorem layAll_all : ∀ ds : List PyData, PyData.canLayAll0 ds = ds.all PyData.canLay0
  | [] => by rw [PyData.canLayAll0]; rfl
  | d :: ds => by rw [PyData.canLayAll0, layAll_all ds, List.all_cons]
theorem depthAll_le {n : Nat} : ∀ {ds : List PyData}, (∀ d ∈ ds, d.depth ≤ n) → PyData.depthAll ds ≤ n
  | [], _ => by rw [PyData.depthAll]; exact Nat.zero_le _
  | d :: ds, h => by
    rw [PyData.depthAll]
    exact Nat.max_le.mpr ⟨h d List.mem_cons_self, depthAll_le fun x m => h x (List.mem_cons_of_mem _ m)⟩
theorem gd_facts : ∀ (n : Nat) (d : D), d.gd n = true → d.plain = true ∧ d.toPy.canLay0 = true ∧ d.toPy.depth ≤ n
  | n, .non, _ => by simp [D.plain, D.toPy, PyData.canLay0, PyData.depth]
  | n, .bl _, _ => by simp [D.plain, D.toPy, PyData.canLay0, PyData.depth]
  | n, .int _, _ => by simp [D.plain, D.toPy, PyData.canLay0, PyData.depth]
  | n, .str x, h => by rw [D.gd] at h; simp [D.plain, D.toPy, h, PyData.depth]
  | 0, .tup ds, h => by simp [D.gd] at h
  | 0, .lst _ ds, h => by simp [D.gd] at h
  | n + 1, .tup ds, h => by
    rw [D.gd, gds_all, List.all_eq_true] at h
    refine ⟨?_, ?_, ?_⟩
    · rw [D.plain, plains_all, List.all_eq_true]; exact fun x m => (gd_facts n x (h x m)).1
    · rw [D.toPy, PyData.canLay0, toPys_mp, layAll_all, List.all_map, List.all_eq_true]; exact fun x m => (gd_facts n x (h x m)).2.1
    · rw [D.toPy, PyData.depth, toPys_mp]
      refine Nat.succ_le_succ (depthAll_le fun x m => ?_)
      obtain ⟨y, hy, rfl⟩ := List.mem_map.mp m
      exact (gd_facts n y (h y hy)).2.2
  | n + 1, .lst _ ds, h => by
    rw [D.gd, gds_all, List.all_eq_true] at h
    refine ⟨?_, ?_, ?_⟩
    · rw [D.plain, plains_all, List.all_eq_true]; exact fun x m => (gd_facts n x (h x m)).1
    · rw [D.toPy, PyData.canLay0, toPys_mp, layAll_all, List.all_map, List.all_eq_true]; exact fun x m => (gd_facts n x (h x m)).2.1
    · rw [D.toPy, PyData.depth, toPys_mp]
      refine Nat.succ_le_succ (depthAll_le fun x m => ?_)
      obtain ⟨y, hy, rfl⟩ := List.mem_map.mp m
      exact (gd_facts n y (h y hy)).2.2
  | 0, .dK _ _ _, h => by simp [D.gd] at h
  | n + 1, .dK _ _ _, h => by simp [D.gd] at h
  | 0, .dT _ _ _, h => by simp [D.gd] at h
  | n + 1, .dT _ _ _, h => by simp [D.gd] at h
  | 0, .ins _ _ _ _, h => by simp [D.gd] at h
  | n + 1, .ins _ _ _ _, h => by simp [D.gd] at h
theorem ok_of {n : Nat} {d : D} (h : d.gd n = true) (hn : n ≤ 64 := by decide) : d.ok = true := by
  obtain ⟨h1, h2, h3⟩ := gd_facts n d h
  unfold D.ok SeqAt.shaped
  rw [h1, h2, decide_eq_true (by omega)]
  rfl
@[simp] theorem gd_int (n : Nat) (i : Int) : (D.int i).gd n = true := by rw [D.gd]
@[simp] theorem gd_bl (n : Nat) (b : Bool) : (D.bl b).gd n = true := by rw [D.gd]
@[simp] theorem gd_non (n : Nat) : D.non.gd n = true := by rw [D.gd]
@[simp] theorem gd_tup (n : Nat) (ds : List D) : (D.tup ds).gd (n + 1) = ds.all (D.gd n) := by rw [D.gd, gds_all]
@[simp] theorem gd_lst (n : Nat) (o : Bool) (ds : List D) : (D.lst o ds).gd (n + 1) = ds.all (D.gd n) := by rw [D.gd, gds_all]
@[simp] theorem ok_int (i : Int) : (D.int i).ok = true := ok_of (n := 0) (by simp)
/-! ### equality -/
@[simp] theorem eqv_int (i j : Int) : D.eqv (.int i) (.int j) = decide (i = j) := by
  unfold D.eqv
  rw [D.toPy, D.toPy, PyData.eqv]
  exact Bool.eq_iff_iff.mpr (by simp)
theorem eqvAll_map : ∀ xs ys : List D, PyData.eqvAll (D.toPys xs) (D.toPys ys) = (decide (xs.length = ys.length) && (xs.zip ys).all fun p => D.eqv p.1 p.2)
  | [], [] => by simp [D.toPys, PyData.eqvAll]
  | [], y :: ys => by simp [D.toPys, PyData.eqvAll]
  | x :: xs, [] => by simp [D.toPys, PyData.eqvAll]
  | x :: xs, y :: ys => by
    rw [D.toPys, D.toPys, PyData.eqvAll, eqvAll_map xs ys]
    simp only [List.length_cons, List.zip_cons_cons, List.all_cons, D.eqv]
    cases h : PyData.eqv x.toPy y.toPy <;> simp [Nat.succ.injEq]
theorem eqv_tup (xs ys : List D) : D.eqv (.tup xs) (.tup ys) = (decide (xs.length = ys.length) && (xs.zip ys).all fun p => D.eqv p.1 p.2) := by
  unfold D.eqv
  rw [D.toPy, D.toPy, PyData.eqv, eqvAll_map]; rfl
theorem eqv_lst (o o' : Bool) (xs ys : List D) : D.eqv (.lst o xs) (.lst o' ys) = (decide (xs.length = ys.length) && (xs.zip ys).all fun p => D.eqv p.1 p.2) := by
  unfold D.eqv
  rw [D.toPy, D.toPy, PyData.eqv, eqvAll_map]; rfl
@[simp] theorem eq_int (i j : Int) : eqD (.int i) (.int j) = some (.bl (decide (i = j))) := by
  unfold eqD
  rw [if_pos ⟨ok_int i, ok_int j⟩, eqv_int]
@[simp] theorem ne_int (i j : Int) : neD (.int i) (.int j) = some (.bl (!decide (i = j))) := by
  unfold neD
  rw [if_pos ⟨ok_int i, ok_int j⟩, eqv_int]
@[simp] theorem lt_int (i j : Int) : ltD (.int i) (.int j) = some (.bl (decide (i < j))) := Eq.trans rfl rfl
@[simp] theorem le_int (i j : Int) : leD (.int i) (.int j) = some (.bl (decide (i ≤ j))) := Eq.trans rfl rfl
@[simp] theorem gt_int (i j : Int) : gtD (.int i) (.int j) = some (.bl (decide (j < i))) := Eq.trans rfl rfl
@[simp] theorem ge_int (i j : Int) : geD (.int i) (.int j) = some (.bl (decide (j ≤ i))) := Eq.trans rfl rfl
@[simp] theorem add_int (i j : Int) : addD (.int i) (.int j) = some (.int (i + j)) := Eq.trans rfl rfl
@[simp] theorem addI_int (i j : Int) : addI (.int i) (.int j) = some (.int (i + j)) := Eq.trans rfl rfl
@[simp] theorem sub_int (i j : Int) : subD (.int i) (.int j) = some (.int (i - j)) := Eq.trans rfl rfl
@[simp] theorem intD_int (i : Int) : intD (.int i) = some (.int i) := Eq.trans rfl rfl
theorem mod_int {i j : Int} (h : j ≠ 0) : modD (.int i) (.int j) = some (.int (i.fmod j)) := by
  unfold modD iop
  dsimp only
  rw [if_pos (decide_eq_true h)]
theorem div_int {i j : Int} (h : j ≠ 0) (h2 : j.natAbs < 1073741824) : divD (.int i) (.int j) = some (.int (i.fdiv j)) := by
  unfold divD iop divOk
  dsimp only
  rw [decide_eq_true h, decide_eq_true h2]; rfl
theorem mul_int {i j : Int} (h2 : j.natAbs < 1073741824) : mulD (.int i) (.int j) = some (.int (i * j)) := by
  unfold mulD iop mulOk
  dsimp only
  rw [decide_eq_true (show -(2 ^ 64) < j by omega), decide_eq_true (show j < 2 ^ 64 by omega)]
  simp
/-- a point, a pair -/
def nt (n : Nat) : D := .int n
def pr (p : Nat × Nat) : D := .tup [.int p.1, .int p.2]
@[simp] theorem fz_int (i : Int) : (D.int i).fz = .int i := Eq.trans rfl rfl
@[simp] theorem fz_bl (b : Bool) : (D.bl b).fz = .bl b := Eq.trans rfl rfl
@[simp] theorem fz_str (b : Str) : (D.str b).fz = .str b := Eq.trans rfl rfl
@[simp] theorem fz_tup (ds : List D) : (D.tup ds).fz = .tup (D.fzs ds) := Eq.trans rfl rfl
@[simp] theorem fz_lst (o : Bool) (ds : List D) : (D.lst o ds).fz = .lst false (D.fzs ds) := Eq.trans rfl rfl
@[simp] theorem fzs_nil : D.fzs [] = [] := Eq.trans rfl rfl
@[simp] theorem fzs_cons (d : D) (ds : List D) : D.fzs (d :: ds) = d.fz :: D.fzs ds := Eq.trans rfl rfl
@[simp] theorem isFz_int (i : Int) : (D.int i).isFz = true := Eq.trans rfl rfl
@[simp] theorem isFz_bl (b : Bool) : (D.bl b).isFz = true := Eq.trans rfl rfl
@[simp] theorem isFz_str (b : Str) : (D.str b).isFz = true := Eq.trans rfl rfl
@[simp] theorem isFz_tup (ds : List D) : (D.tup ds).isFz = D.isFzs ds := by rw [D.isFz]
@[simp] theorem isFz_lstF (ds : List D) : (D.lst false ds).isFz = D.isFzs ds := by rw [D.isFz]; rfl
@[simp] theorem isFzs_nil : D.isFzs [] = true := Eq.trans rfl rfl
@[simp] theorem isFzs_cons (d : D) (ds : List D) : D.isFzs (d :: ds) = (d.isFz && D.isFzs ds) := Eq.trans rfl rfl
@[simp] theorem fz_pr (p : Nat × Nat) : (pr p).fz = pr p := Eq.trans rfl rfl
@[simp] theorem isFz_pr (p : Nat × Nat) : (pr p).isFz = true := Eq.trans rfl rfl
@[simp] theorem fz_nt (p : Nat) : (nt p).fz = nt p := Eq.trans rfl rfl
@[simp] theorem isFz_nt (p : Nat) : (nt p).isFz = true := Eq.trans rfl rfl
theorem eqv_pr (p q : Nat × Nat) : D.eqv (pr p) (pr q) = decide (p = q) := by
  unfold pr
  rw [eqv_tup]
  obtain ⟨a, b⟩ := p
  obtain ⟨c, d⟩ := q
  simp only [List.length_cons, List.length_nil, List.zip_cons_cons, List.zip_nil_left, List.all_cons, List.all_nil, eqv_int]
  by_cases h1 : a = c <;> by_cases h2 : b = d <;> simp [h1, h2] <;> omega
theorem eqv_nt (p q : Nat) : D.eqv (nt p) (nt q) = decide (p = q) := by
  unfold nt
  rw [eqv_int]
  exact decide_eq_decide.mpr (by omega)
@[simp] theorem gd_pr (n : Nat) (p : Nat × Nat) : (pr p).gd (n + 1) = true := by
  unfold pr
  simp
@[simp] theorem gd_nt (n : Nat) (p : Nat) : (nt p).gd n = true := by
  unfold nt
  simp
theorem all_map_gd {α : Type} (f : α → D) (n : Nat) (h : ∀ a, (f a).gd n = true) (l : List α) : (l.map f).all (D.gd n) = true := by
  rw [List.all_eq_true]
  intro d m
  obtain ⟨a, _, rfl⟩ := List.mem_map.mp m
  exact h a
theorem in_map {α : Type} [DecidableEq α] {enc : α → D} (he : ∀ a b, D.eqv (enc a) (enc b) = decide (a = b)) (hg : ∀ a, (enc a).gd 60 = true) (o : Bool) (l : List α) (a : α) : isInD (enc a) (.lst o (l.map enc)) = some (decide (a ∈ l)) := by
  unfold isInD
  dsimp only
  rw [if_pos ⟨ok_of (hg a), ok_of (n := 61) (by rw [gd_lst]; exact all_map_gd enc 60 hg l)⟩]
  congr 1
  rw [List.any_map]
  induction l with
  | nil => rfl
  | cons b l ih =>
    rw [List.any_cons, ih]
    simp only [Function.comp, he, List.mem_cons]
    by_cases h : b = a
    · subst h; simp
    · have : ¬ a = b := fun e => h e.symm
      simp [h, this]
theorem in_pr (o : Bool) (l : List (Nat × Nat)) (p : Nat × Nat) : inD (pr p) (.lst o (l.map pr)) = some (.bl (decide (p ∈ l))) := by
  unfold inD
  rw [in_map eqv_pr (fun a => by simp) o l p]; simp
theorem notin_pr (o : Bool) (l : List (Nat × Nat)) (p : Nat × Nat) : notInD (pr p) (.lst o (l.map pr)) = some (.bl (!decide (p ∈ l))) := by
  unfold notInD
  rw [in_map eqv_pr (fun a => by simp) o l p]; simp
theorem in_nt (o : Bool) (l : List Nat) (p : Nat) : inD (nt p) (.lst o (l.map nt)) = some (.bl (decide (p ∈ l))) := by
  unfold inD
  rw [in_map eqv_nt (fun a => by simp) o l p]; simp
theorem notin_nt (o : Bool) (l : List Nat) (p : Nat) : notInD (nt p) (.lst o (l.map nt)) = some (.bl (!decide (p ∈ l))) := by
  unfold notInD
  rw [in_map eqv_nt (fun a => by simp) o l p]; simp
theorem in_pair (p : Nat × Nat) (x : Nat) : inD (nt x) (pr p) = some (.bl (decide (x = p.1 ∨ x = p.2))) := by
  unfold inD isInD pr nt
  dsimp only
  rw [if_pos ⟨rfl, rfl⟩]
  simp only [List.any_cons, List.any_nil, eqv_int, Option.map_some, Bool.or_false]
  congr 2
  by_cases h1 : x = p.1
  · simp [h1]
  · by_cases h2 : x = p.2
    · simp [h2]
    · have : ¬ ((p.1 : Int) = (x : Int)) := by omega
      have : ¬ ((p.2 : Int) = (x : Int)) := by omega
      simp [*]
end TL
set_option Elab.async false
set_option linter.all false
set_option maxRecDepth 100000
set_option maxHeartbeats 1000000
/-! P2: plain data that is never changed, of few storeys, no list too long. -/
namespace TL
open PySem L2
mutual
def D.fit : Nat → D → Bool
  | _, .non => true
  | _, .bl _ => true
  | _, .int _ => true
  | _, .str x => PyData.canLay0 (.str x)
  | 0, _ => false
  | n + 1, .tup ds => decide (ds.length ≤ sizeLine) && D.fits n ds
  | n + 1, .lst false ds => decide (ds.length ≤ sizeLine) && D.fits n ds
  | _, _ => false
def D.fits : Nat → List D → Bool
  | _, [] => true
  | n, d :: ds => D.fit n d && D.fits n ds
end
theorem fits_all (n : Nat) : ∀ ds : List D, D.fits n ds = ds.all (D.fit n)
  | [] => by rw [D.fits]; rfl
  | d :: ds => by rw [D.fits, List.all_cons, fits_all n ds]
theorem fit_gd : ∀ (n : Nat) (d : D), d.fit n = true → d.gd n = true ∧ d.isFz = true
  | _, .non, _ => by rw [D.gd]; exact ⟨rfl, rfl⟩
  | _, .bl _, _ => by rw [D.gd]; exact ⟨rfl, rfl⟩
  | _, .int _, _ => by rw [D.gd]; exact ⟨rfl, rfl⟩
  | _, .str x, h => by rw [D.fit] at h; rw [D.gd]; exact ⟨h, rfl⟩
  | 0, .tup ds, h => by simp [D.fit] at h
  | 0, .lst _ ds, h => by simp [D.fit] at h
  | n + 1, .tup ds, h => by
    rw [D.fit, fits_all, Bool.and_eq_true, List.all_eq_true] at h
    rw [D.gd, gds_all, D.isFz, D.isFzs_all, List.all_eq_true, List.all_eq_true]
    exact ⟨fun x m => (fit_gd n x (h.2 x m)).1, fun x m => (fit_gd n x (h.2 x m)).2⟩
  | n + 1, .lst true ds, h => by simp [D.fit] at h
  | n + 1, .lst false ds, h => by
    rw [D.fit, fits_all, Bool.and_eq_true, List.all_eq_true] at h
    rw [D.gd, gds_all, D.isFz, D.isFzs_all, List.all_eq_true]
    exact ⟨fun x m => (fit_gd n x (h.2 x m)).1, by rw [List.all_eq_true.mpr fun x m => (fit_gd n x (h.2 x m)).2]; rfl⟩
  | 0, .dK _ _ _, h => by simp [D.fit] at h
  | n + 1, .dK _ _ _, h => by simp [D.fit] at h
  | 0, .dT _ _ _, h => by simp [D.fit] at h
  | n + 1, .dT _ _ _, h => by simp [D.fit] at h
  | 0, .ins _ _ _ _, h => by simp [D.fit] at h
  | n + 1, .ins _ _ _ _, h => by simp [D.fit] at h
theorem fit_mono : ∀ (n : Nat) (d : D), d.fit n = true → d.fit (n + 1) = true
  | _, .non, _ => by rw [D.fit]
  | _, .bl _, _ => by rw [D.fit]
  | _, .int _, _ => by rw [D.fit]
  | _, .str x, h => by rw [D.fit] at h ⊢; exact h
  | 0, .tup ds, h => by simp [D.fit] at h
  | 0, .lst _ ds, h => by simp [D.fit] at h
  | n + 1, .tup ds, h => by
    rw [D.fit, fits_all, Bool.and_eq_true, List.all_eq_true] at h ⊢
    exact ⟨h.1, fun x m => fit_mono n x (h.2 x m)⟩
  | n + 1, .lst true ds, h => by simp [D.fit] at h
  | n + 1, .lst false ds, h => by
    rw [D.fit, fits_all, Bool.and_eq_true, List.all_eq_true] at h ⊢
    exact ⟨h.1, fun x m => fit_mono n x (h.2 x m)⟩
  | 0, .dK _ _ _, h => by simp [D.fit] at h
  | n + 1, .dK _ _ _, h => by simp [D.fit] at h
  | 0, .dT _ _ _, h => by simp [D.fit] at h
  | n + 1, .dT _ _ _, h => by simp [D.fit] at h
  | 0, .ins _ _ _ _, h => by simp [D.fit] at h
  | n + 1, .ins _ _ _ _, h => by simp [D.fit] at h
theorem fit_le {n m : Nat} (h : n ≤ m) {d : D} (g : d.fit n = true) : d.fit m = true := by
  induction h with
  | refl => exact g
  | step _ ih => exact fit_mono _ _ ih
@[simp] theorem fit_int (n : Nat) (i : Int) : (D.int i).fit n = true := by rw [D.fit]
@[simp] theorem fit_bl (n : Nat) (i : Bool) : (D.bl i).fit n = true := by rw [D.fit]
@[simp] theorem fit_non (n : Nat) : D.non.fit n = true := by rw [D.fit]
theorem fit_tup (n : Nat) (ds : List D) : (D.tup ds).fit (n + 1) = (decide (ds.length ≤ sizeLine) && ds.all (D.fit n)) := by rw [D.fit, fits_all]
theorem fit_lst (n : Nat) (ds : List D) : (D.lst false ds).fit (n + 1) = (decide (ds.length ≤ sizeLine) && ds.all (D.fit n)) := by rw [D.fit, fits_all]
theorem fit_map {α : Type} {f : α → D} {n : Nat} {l : List α} (hl : l.length ≤ sizeLine) (h : ∀ a ∈ l, (f a).fit n = true) : (D.lst false (l.map f)).fit (n + 1) = true := by
  rw [fit_lst, List.length_map, decide_eq_true hl, Bool.true_and, List.all_eq_true]
  intro d m
  obtain ⟨a, ha, rfl⟩ := List.mem_map.mp m
  exact h a ha
@[simp] theorem fit_nt (n m : Nat) : (nt m).fit n = true := by unfold nt; simp
@[simp] theorem fit_pr (n : Nat) (p : Nat × Nat) : (pr p).fit (n + 1) = true := by
  unfold pr
  rw [fit_tup]
  simp [sizeLine_eq]
theorem filter_tt {α : Type} (l : List α) : l.filter (fun _ => true) = l := List.filter_eq_self.mpr fun _ _ => rfl
theorem mlcL_all {α : Type} {vs : List Nat} {g : Tg} {c : M Bool} {e : M D} {δ : En} {enc : α → D} {val : α → D} {L : List α} {acc : List D} (h : ∀ a ∈ L, stepLc vs g c e (enc a) δ = some (some (val a), δ)) (hl : acc.length + L.length ≤ sizeLine) :
    mlcL vs g c e (L.map enc) acc δ = some (acc ++ L.map val, δ) := by
  have := mlcL_pure (cond := fun _ => true) (val := val) (fun a m => by rw [h a m]; rfl) hl
  rwa [filter_tt] at this
/-- equal to itself -/
theorem eqv_refl : ∀ (n : Nat) (d : D), d.gd n = true → D.eqv d d = true
  | _, .non, _ => by unfold D.eqv; rw [D.toPy, PyData.eqv]
  | _, .bl b, _ => by unfold D.eqv; rw [D.toPy, PyData.eqv]; exact beq_self_eq_true b
  | _, .int i, _ => by simp
  | _, .str x, _ => by unfold D.eqv; rw [D.toPy, PyData.eqv]; exact beq_self_eq_true x
  | 0, .tup ds, h => by simp [D.gd] at h
  | 0, .lst _ ds, h => by simp [D.gd] at h
  | n + 1, .tup ds, h => by
    rw [D.gd, gds_all, List.all_eq_true] at h
    rw [eqv_tup, decide_eq_true rfl, Bool.true_and, List.all_eq_true]
    rintro ⟨x, y⟩ m
    have e : x = y := by
      obtain ⟨i, hi, q⟩ := List.getElem_of_mem m
      simp only [List.getElem_zip, Prod.mk.injEq] at q
      rw [← q.1, ← q.2]
    subst e
    exact eqv_refl n x (h x (List.of_mem_zip m).1)
  | n + 1, .lst _ ds, h => by
    rw [D.gd, gds_all, List.all_eq_true] at h
    rw [eqv_lst, decide_eq_true rfl, Bool.true_and, List.all_eq_true]
    rintro ⟨x, y⟩ m
    have e : x = y := by
      obtain ⟨i, hi, q⟩ := List.getElem_of_mem m
      simp only [List.getElem_zip, Prod.mk.injEq] at q
      rw [← q.1, ← q.2]
    subst e
    exact eqv_refl n x (h x (List.of_mem_zip m).1)
  | 0, .dK _ _ _, h => by simp [D.gd] at h
  | n + 1, .dK _ _ _, h => by simp [D.gd] at h
  | 0, .dT _ _ _, h => by simp [D.gd] at h
  | n + 1, .dT _ _ _, h => by simp [D.gd] at h
  | 0, .ins _ _ _ _, h => by simp [D.gd] at h
  | n + 1, .ins _ _ _ _, h => by simp [D.gd] at h
theorem eq_refl {n : Nat} {d : D} (h : d.gd n = true) (hn : n ≤ 64) : eqD d d = some (.bl true) := by
  unfold eqD
  rw [if_pos ⟨ok_of h hn, ok_of h hn⟩, eqv_refl n d h]
theorem bls_map {α : Type} (f : α → Bool) : ∀ l : List α, blsD (l.map fun a => .bl (f a)) = some (l.map f)
  | [] => rfl
  | a :: l => by rw [List.map_cons, blsD, bls_map f l]; rfl
theorem ints_map {α : Type} (f : α → Int) : ∀ l : List α, intsD (l.map fun a => .int (f a)) = some (l.map f)
  | [] => rfl
  | a :: l => by rw [List.map_cons, intsD, ints_map f l]; rfl
theorem all_map {α : Type} (o : Bool) (f : α → Bool) (l : List α) : allD (.lst o (l.map fun a => .bl (f a))) = some (.bl (l.all f)) := by
  unfold allD
  dsimp only
  rw [bls_map]
  simp [List.all_map]
theorem any_map {α : Type} (o : Bool) (f : α → Bool) (l : List α) : anyD (.lst o (l.map fun a => .bl (f a))) = some (.bl (l.any f)) := by
  unfold anyD
  dsimp only
  rw [bls_map]
  simp [List.any_map]
theorem all_tt {α : Type} (o : Bool) (l : List α) : allD (.lst o (l.map fun _ => .bl true)) = some (.bl true) := by
  rw [all_map o (fun _ => true) l]
  simp
theorem nums_map (n : Nat) : nums n = (List.range n).map nt := rfl
mutual
/-- as if new: every list its own -/
def D.un : D → D
  | .non => .non
  | .bl b => .bl b
  | .int i => .int i
  | .str x => .str x
  | .tup ds => .tup (D.uns ds)
  | .lst _ ds => .lst true (D.uns ds)
  | .dK o ks ds => .dK o ks ds
  | .dT o ks ds => .dT o ks ds
  | .ins o C fs ds => .ins o C fs ds
def D.uns : List D → List D
  | [] => []
  | d :: ds => D.un d :: D.uns ds
end
theorem uns_map : ∀ ds : List D, D.uns ds = ds.map D.un
  | [] => rfl
  | d :: ds => by rw [D.uns, uns_map ds, List.map_cons]
theorem un_fz : ∀ (n : Nat) (d : D), d.fit n = true → d.un.fz = d
  | _, .non, _ => rfl
  | _, .bl _, _ => rfl
  | _, .int _, _ => rfl
  | _, .str x, h => rfl
  | 0, .tup ds, h => by simp [D.fit] at h
  | 0, .lst _ ds, h => by simp [D.fit] at h
  | n + 1, .tup ds, h => by
    rw [D.fit, fits_all, Bool.and_eq_true, List.all_eq_true] at h
    rw [D.un, D.fz, uns_map, D.fzs_map, List.map_map]
    congr 1
    exact (List.map_congr_left fun x m => un_fz n x (h.2 x m)).trans (List.map_id _)
  | n + 1, .lst true ds, h => by simp [D.fit] at h
  | n + 1, .lst false ds, h => by
    rw [D.fit, fits_all, Bool.and_eq_true, List.all_eq_true] at h
    rw [D.un, D.fz, uns_map, D.fzs_map, List.map_map]
    congr 1
    exact (List.map_congr_left fun x m => un_fz n x (h.2 x m)).trans (List.map_id _)
  | 0, .dK _ _ _, h => by simp [D.fit] at h
  | n + 1, .dK _ _ _, h => by simp [D.fit] at h
  | 0, .dT _ _ _, h => by simp [D.fit] at h
  | n + 1, .dT _ _ _, h => by simp [D.fit] at h
  | 0, .ins _ _ _ _, h => by simp [D.fit] at h
  | n + 1, .ins _ _ _ _, h => by simp [D.fit] at h
end TL
set_option Elab.async false
set_option linter.all false
set_option maxRecDepth 100000
set_option maxHeartbeats 1000000
namespace Law
open PySem L2 TL
def b_is_whole : MS :=
  (mret (mandV (mop1 (isTyD .int) (mvar 0)) (mop1 notD (mop1 (isTyD .bool) (mvar 0)))))
def f_is_whole : Fn := runS 1 1 false b_is_whole
def b__law_draw : MS :=
  (mseq (mifs (mand (mtest (mop2 eqD (mop2 indexD (mvar 0) (mk (.int 2))) (mk (.int 0)))) (mtest (mop2 ltD (mop2 indexD (mvar 0) (mk (.int 1))) (mop1 lenD (mop2 indexD (mvar 0) (mk (.int 0))))))) (mseq (masg (mval (mop2 indexD (mop2 indexD (mvar 0) (mk (.int 0))) (mop2 indexD (mvar 0) (mk (.int 1))))) (gset 2))
    (mseq (mput 0 setD (mop2 addD (mop2 indexD (mvar 0) (mk (.int 1))) (mk (.int 1))) (mk []) (mcons (mk (.int 1)) mnil))
    (mseq (mifs (mtest (mop2 geD (mvar 2) (mop2 powD (mk (.int 10)) (mk (.int 18))))) (mput 0 setD (mval (mvar 2)) (mk []) (mcons (mk (.int 2)) mnil)) msk)
    (mput 0 setD (mop2 modD (mop1 intD (mop2 addD (mop2 addD (mop2 mulD (mop2 indexD (mvar 0) (mk (.int 3))) (mk (.int 48271))) (mvar 2)) (mk (.int 13)))) (mk (.int 2147483647))) (mk []) (mcons (mk (.int 3)) mnil))))) msk)
    (mseq (mifs (mtest (mop2 gtD (mop2 indexD (mvar 0) (mk (.int 2))) (mk (.int 0)))) (mseq (masg (mop2 modD (mop1 intD (mop2 indexD (mvar 0) (mk (.int 2)))) (mvar 1)) (gset 3))
    (mseq (mput 0 setD (mop2 divD (mop2 indexD (mvar 0) (mk (.int 2))) (mvar 1)) (mk []) (mcons (mk (.int 2)) mnil))
    (mret (mmove 3)))) msk)
    (mseq (mput 0 setD (mop2 modD (mop1 intD (mop2 addD (mop2 mulD (mop2 indexD (mvar 0) (mk (.int 3))) (mk (.int 69621))) (mk (.int 7)))) (mk (.int 2147483629))) (mk []) (mcons (mk (.int 3)) mnil))
    (mret (mop2 modD (mop1 intD (mop2 divD (mop2 indexD (mvar 0) (mk (.int 3))) (mk (.int 11)))) (mvar 1))))))
def f__law_draw : Fn := runS 2 4 true b__law_draw
def b__law_whole : MS :=
  (mret (mandV (mop1 (isTyD .int) (mvar 0)) (mop1 notD (mop1 (isTyD .bool) (mvar 0)))))
def f__law_whole : Fn := runS 1 1 false b__law_whole
def b_check_web : MS :=
  (mseq (mifs (mor (mnot (mtest (mcall f_is_whole (mcons (mval (mop2 indexD (mvar 0) (mk (.int 1)))) mnil)))) (mor (mnot (mtest (mchain leD leD (mk (.int 1)) (mop2 indexD (mvar 0) (mk (.int 1))) (mk (.int 40))))) (mtest (mop2 gtD (mop1 lenD (mop2 indexD (mvar 0) (mk (.int 2)))) (mk (.int 100)))))) (mraise "WebWrong" "at" (mk .non)) msk)
    (mfor (mbind (mop1 lenD (mop2 indexD (mvar 0) (mk (.int 2)))) fun d => mopt (range1D d)) (gset 1) (mkill [1] (mifs (mnot (mtest (mop1 allD (mlc (mitems (mval (mop2 indexD (mop2 indexD (mvar 0) (mk (.int 2))) (mvar 1)))) [2] (gset 2) (mk true) (mandV (mcall f_is_whole (mcons (mval (mvar 2)) mnil)) (mchain leD ltD (mk (.int 0)) (mvar 2) (mop2 indexD (mvar 0) (mk (.int 1))))))))) (mraise "WebWrong" "at" (mvar 1)) msk))))
def f_check_web : FnX := runX 1 3 b_check_web
def b__law_web : MS :=
  (mseq (masg (mlst mnil) (gset 4))
    (mseq (mfor (mbind (mvar 2) fun d => mopt (range1D d)) (gset 5) (mkill [5, 6, 7] (mseq (mpar 6 7 (mcons (mcall1 0 f__law_draw (mcons (mval (mvar 1)) mnil)) (mcons (mcall1 0 f__law_draw (mcons (mval (mvar 1)) mnil)) mnil)))
    (mseq (mifs (mand (mor (mtest (mop2 eqD (mvar 6) (mvar 7))) (mor (mtest (mop2 inD (mtup (mcons (mval (mvar 6)) (mcons (mval (mvar 7)) mnil))) (mvar 4))) (mtest (mop2 inD (mtup (mcons (mval (mvar 7)) (mcons (mval (mvar 6)) mnil))) (mvar 4))))) (mtest (mop2 geD (mcall1 0 f__law_draw (mcons (mk (.int 10)) mnil)) (mvar 3)))) mcnt msk)
    (mdrop (mmut isLst 4 appendD (mk []) (mcons (mfz (mtup (mcons (mval (mvar 6)) (mcons (mval (mvar 7)) mnil)))) mnil)))))))
    (mret (mtup (mcons (mk (.str "web")) (mcons (mmove 1) (mcons (mmove 4) mnil)))))))
def f__law_web : Fn := runS 4 8 true b__law_web
def b__law_due : MS :=
  (mseq (mifs (mor (mnot (mtest (mcall f__law_whole (mcons (mval (mop2 indexD (mvar 0) (mk (.int 1)))) mnil)))) (mor (mnot (mtest (mchain leD leD (mk (.int 1)) (mop2 indexD (mvar 0) (mk (.int 1))) (mk (.int 40))))) (mtest (mop2 gtD (mop1 lenD (mop2 indexD (mvar 0) (mk (.int 2)))) (mk (.int 100)))))) (mret (mtup (mcons (mk (.str "web")) (mcons (mk .non) mnil)))) msk)
    (mseq (mfor (mbind (mop1 lenD (mop2 indexD (mvar 0) (mk (.int 2)))) fun d => mopt (range1D d)) (gset 1) (mkill [1] (mifs (mnot (mtest (mop1 allD (mlc (mitems (mval (mop2 indexD (mop2 indexD (mvar 0) (mk (.int 2))) (mvar 1)))) [2] (gset 2) (mk true) (mandV (mcall f__law_whole (mcons (mval (mvar 2)) mnil)) (mchain leD ltD (mk (.int 0)) (mvar 2) (mop2 indexD (mvar 0) (mk (.int 1))))))))) (mret (mtup (mcons (mk (.str "web")) (mcons (mmove 1) mnil)))) msk)))
    (mret (mtup (mcons (mk (.str "told")) (mcons (mk .non) mnil))))))
def f__law_due : Fn := runS 1 3 false b__law_due
def b__law_told : MS :=
  (mtryR 1 "WebWrong" "at" (.str "web") (mretX (mtup2X (.str "told") (mcallX f_check_web (mcons (mval (mvar 0)) mnil)))))
def f__law_told : Fn := runS 1 2 false b__law_told
def b__law_same (self : Fn) : MS :=
  (mseq (mifs (mtest (mop2 isNonD (mvar 1) (mk .non))) (mret (mop2 isNonD (mvar 0) (mk .non))) msk)
    (mseq (mifs (mtest (mop1 (isTyD .bool) (mvar 1))) (mret (mandV (mop1 (isTyD .bool) (mvar 0)) (mop2 eqD (mvar 0) (mvar 1)))) msk)
    (mseq (mifs (mtest (mop1 (isTyD .int) (mvar 1))) (mret (mandV (mop1 (isTyD .int) (mvar 0)) (mandV (mop1 notD (mop1 (isTyD .bool) (mvar 0))) (mop2 eqD (mvar 0) (mvar 1))))) msk)
    (mseq (mifs (mtest (mop1 (isTyD .str) (mvar 1))) (mret (mandV (mop1 (isTyD .str) (mvar 0)) (mop2 eqD (mvar 0) (mvar 1)))) msk)
    (mseq (mifs (mtest (mop1 (isTyD .dict) (mvar 1))) (mseq (mifs (mor (mnot (mtest (mop1 (isTyD .dict) (mvar 0)))) (mor (mtest (mop2 neD (mop1 lenD (mvar 0)) (mop1 lenD (mvar 1)))) (mnot (mtest (mop1 allD (mlc (mitems (mval (mvar 1))) [2] (gset 2) (mk true) (mop2 inD (mvar 2) (mvar 0)))))))) (mret (mk (.bl false))) msk)
    (mret (mop1 allD (mlc (mitems (mval (mvar 1))) [2] (gset 2) (mk true) (mcall self (mcons (mval (mop2 indexD (mvar 0) (mvar 2))) (mcons (mval (mop2 indexD (mvar 1) (mvar 2))) mnil))))))) msk)
    (mseq (mifs (mtest (mop1 (isTyD .list) (mvar 1))) (masg (mop1 (isTyD .list) (mvar 0)) (gset 3)) (masg (mop1 (isTyD .tuple) (mvar 0)) (gset 3)))
    (mret (mandV (mvar 3) (mandV (mop2 eqD (mop1 lenD (mvar 0)) (mop1 lenD (mvar 1))) (mop1 allD (mlc (mbind (mop1 lenD (mvar 1)) fun d => mopt (range1D d)) [4] (gset 4) (mk true) (mcall self (mcons (mval (mop2 indexD (mvar 0) (mvar 4))) (mcons (mval (mop2 indexD (mvar 1) (mvar 4))) mnil))))))))))))))
def r__law_same : Nat → Fn
  | 0 => fun _ => none
  | k + 1 => runS 2 5 false (b__law_same (r__law_same k))
def f__law_same : Fn := r__law_same 12
def b__law_copy (self : Fn) : MS :=
  (mseq (mifs (mtest (mop1 (isTyD .list) (mvar 0))) (mret (mlc (mitems (mval (mvar 0))) [1] (gset 1) (mk true) (mcall self (mcons (mval (mvar 1)) mnil)))) msk)
    (mseq (mifs (mtest (mop1 (isTyD .tuple) (mvar 0))) (mret (mop1 tupleOwnD (mlc (mitems (mval (mvar 0))) [1] (gset 1) (mk true) (mcall self (mcons (mval (mvar 1)) mnil))))) msk)
    (mseq (mifs (mtest (mop1 (isTyD .dict) (mvar 0))) (mseq (masg (mk (.dK true [] [])) (gset 2))
    (mseq (mfor (mitems (mval (mvar 0))) (gset 3) (mkill [3] (mput 2 setD (mfz (mcall self (mcons (mval (mop2 indexD (mvar 0) (mvar 3))) mnil))) (mk []) (mcons (mval (mvar 3)) mnil))))
    (mret (mmove 2)))) msk)
    (mret (mmove 0)))))
def r__law_copy : Nat → Fn
  | 0 => fun _ => none
  | k + 1 => runS 1 4 false (b__law_copy (r__law_copy k))
def f__law_copy : Fn := r__law_copy 12
def b_law : MS :=
  (mseq (mfor (mbind (mk (.int 8)) fun d => mopt (range1D d)) (gset 2) (mkill [2, 3, 4, 5, 6, 7, 8, 9, 10, 11] (mseq (masg (mfz (mcall1 1 f__law_web (mcons (mop2 addD (mk (.int 1)) (mcall1 1 f__law_draw (mcons (mk (.int 40)) mnil))) (mcons (mcall1 1 f__law_draw (mcons (mk (.int 30)) mnil)) (mcons (mk (.int 5)) mnil))))) (gset 3))
    (mseq (masg (mval (mop2 indexD (mvar 3) (mk (.int 1)))) (gset 4))
    (mseq (masg (mop1 listD (mop2 indexD (mvar 3) (mk (.int 2)))) (gset 5))
    (mseq (masg (mfz (mcall1 1 f__law_draw (mcons (mk (.int 8)) mnil))) (gset 6))
    (mseq (mifs (mtest (mop2 eqD (mvar 6) (mk (.int 0)))) (masg (mop2 indexD (mlst (mcons (mk (.int 0)) (mcons (mop1 negD (mk (.int 1))) (mcons (mk (.int 41)) (mcons (mk .non) (mcons (mk (.bl true)) (mcons (mk (.str "x")) (mcons (mop2 powD (mk (.int 10)) (mk (.int 20))) mnil)))))))) (mcall1 1 f__law_draw (mcons (mk (.int 7)) mnil))) (gset 4)) msk)
    (mseq (mifs (mtest (mop2 eqD (mvar 6) (mk (.int 1)))) (masg (mlc (mbind (mop2 indexD (mlst (mcons (mk (.int 99)) (mcons (mk (.int 100)) (mcons (mk (.int 101)) (mcons (mk (.int 130)) mnil))))) (mcall1 1 f__law_draw (mcons (mk (.int 4)) mnil))) fun d => mopt (range1D d)) [7] (gset 7) (mk true) (mfz (mtup (mcons (mk (.int 0)) (mcons (mk (.int 0)) mnil))))) (gset 5)) msk)
    (mseq (mifs (mand (mtest (mop2 gtD (mvar 6) (mk (.int 4)))) (mtest (mop2 gtD (mop1 lenD (mvar 5)) (mk (.int 0))))) (mfor (mbind (mop2 addD (mk (.int 1)) (mcall1 1 f__law_draw (mcons (mk (.int 2)) mnil))) fun d => mopt (range1D d)) (gset 7) (mkill [7, 8, 9] (mseq (masg (mfz (mcall1 1 f__law_draw (mcons (mop1 lenD (mvar 5)) mnil))) (gset 8))
    (mseq (masg (mop2 indexD (mlst (mcons (mval (mvar 4)) (mcons (mop1 negD (mk (.int 1))) (mcons (mk (.bl true)) (mcons (mk (.bl false)) (mcons (mk .non) (mcons (mk (.str "0")) (mcons (mop2 powD (mk (.int 10)) (mk (.int 20))) (mcons (mop2 subD (mvar 4) (mk (.int 1))) mnil))))))))) (mcall1 1 f__law_draw (mcons (mk (.int 8)) mnil))) (gset 9))
    (mput 5 setD (mop2 indexD (mlst (mcons (mtup (mcons (mval (mvar 9)) (mcons (mval (mop2 indexD (mop2 indexD (mvar 5) (mvar 8)) (mk (.int 1)))) mnil))) (mcons (mtup (mcons (mval (mop2 indexD (mop2 indexD (mvar 5) (mvar 8)) (mk (.int 0)))) (mcons (mval (mvar 9)) mnil))) (mcons (mtup (mcons (mval (mvar 9)) (mcons (mval (mvar 9)) mnil))) mnil)))) (mcall1 1 f__law_draw (mcons (mk (.int 3)) mnil))) (mk []) (mcons (mval (mvar 8)) mnil)))))) msk)
    (mseq (masg (mfz (mtup (mcons (mk (.str "web")) (mcons (mval (mvar 4)) (mcons (mmove 5) mnil))))) (gset 10))
    (mseq (masg (mfz (mcall f__law_copy (mcons (mval (mvar 10)) mnil))) (gset 11))
    (mifs (mor (mnot (mtest (mcall f__law_same (mcons (mcall f__law_told (mcons (mval (mvar 11)) mnil)) (mcons (mcall f__law_due (mcons (mval (mvar 10)) mnil)) mnil))))) (mnot (mtest (mcall f__law_same (mcons (mval (mvar 11)) (mcons (mval (mvar 10)) mnil)))))) (mret (mk (.bl false))) msk))))))))))))
    (mret (mandV (mk (.bl true)) (mop1 notD (mk (.bl false))))))
end Law
set_option Elab.async false
set_option linter.all false
set_option maxRecDepth 100000
set_option maxHeartbeats 1000000
namespace Law
open PySem L2 TL
def drw (o : Bool) (cells : List Int) (pos left seed : Int) : D := .lst true [.lst o (cells.map .int), .int pos, .int left, .int seed]
theorem pl_ok (i : Nat) (δ : En) : placeOk i [] δ = (match δ[i]? with
  | some (some _) => true
  | _ => false) := by
  unfold placeOk
  cases h : δ[i]? with
  | none => rfl
  | some x => cases x <;> rfl
theorem set_l {ds : List D} {n : Nat} (x : D) (h : n < ds.length) : setD (.lst true ds) [.int n, x] = some (.non, .lst true (ds.set n x)) := by
  unfold setD ixN
  dsimp only
  rw [if_pos (Int.natCast_nonneg n), if_pos (by omega)]
  simp
theorem set_1 (a b c d x : D) : setD (.lst true [a, b, c, d]) [.int 1, x] = some (.non, .lst true [a, x, c, d]) := set_l (n := 1) x (by simp)
theorem set_2 (a b c d x : D) : setD (.lst true [a, b, c, d]) [.int 2, x] = some (.non, .lst true [a, b, x, d]) := set_l (n := 2) x (by simp)
theorem set_3 (a b c d x : D) : setD (.lst true [a, b, c, d]) [.int 3, x] = some (.non, .lst true [a, b, c, x]) := set_l (n := 3) x (by simp)
theorem pow_18 : powD (.int 10) (.int 18) = some (.int 1000000000000000000) := by
  unfold powD iop
  dsimp only
  rw [if_pos (by decide)]
  rfl
theorem fmod_bd {i j : Int} (h : 0 < j) : 0 ≤ i.fmod j ∧ i.fmod j < j := ⟨Int.fmod_nonneg_of_pos i h, Int.fmod_lt_of_pos i h⟩
theorem c_draw {o : Bool} {cells : List Int} {pos left seed limit : Int} (hp : 0 ≤ pos) (hl : 0 < limit) (hl2 : limit < 1073741824) :
    ∃ r pos' left' seed', f__law_draw [drw o cells pos left seed, .int limit] = some (.int r, drw o cells pos' left' seed') ∧ 0 ≤ r ∧ r < limit ∧ 0 ≤ pos' := by
  obtain ⟨n, rfl⟩ : ∃ n : Nat, pos = n := ⟨pos.toNat, by omega⟩
  have h0 : limit ≠ 0 := by omega
  have hd : ∀ i, divD (.int i) (.int limit) = some (.int (i.fdiv limit)) := fun i => div_int h0 (by omega)
  have bd := fun i => fmod_bd (i := i) hl
  unfold f__law_draw runS b__law_draw drw
  by_cases h1 : left = 0
  · subst h1
    by_cases h2 : n < cells.length
    · have ix : indexD (.lst o (cells.map D.int)) (.int n) = some (.int cells[n]) := by rw [ix_lst (by simpa using h2)]; simp
      generalize cells[n] = cell at ix
      by_cases h3 : 1000000000000000000 ≤ cell
      · have h4 : 0 < cell := by omega
        simp [ix, h2, h3, h4, pl_ok, D.getP, D.putP, set_1, set_2, set_3, pow_18, mod_int, hd, div_int, mul_int, h0]
        first | exact ⟨_, _, ⟨rfl, rfl⟩, (bd _).1, (bd _).2, by omega⟩ | exact ⟨_, _, ⟨_, rfl, rfl⟩, (bd _).1, (bd _).2, by omega⟩ | exact ⟨_, _, _, ⟨rfl, rfl, rfl⟩, (bd _).1, (bd _).2, by omega⟩ | exact ⟨_, _, ⟨rfl, rfl, rfl⟩, (bd _).1, (bd _).2, by omega⟩
      · simp [ix, h2, h3, pl_ok, D.getP, D.putP, set_1, set_2, set_3, pow_18, mod_int, hd, div_int, mul_int, h0]
        first | exact ⟨_, _, ⟨rfl, rfl⟩, (bd _).1, (bd _).2, by omega⟩ | exact ⟨_, _, ⟨_, rfl, rfl⟩, (bd _).1, (bd _).2, by omega⟩ | exact ⟨_, _, _, ⟨rfl, rfl, rfl⟩, (bd _).1, (bd _).2, by omega⟩ | exact ⟨_, _, ⟨rfl, rfl, rfl⟩, (bd _).1, (bd _).2, by omega⟩
    · simp [h2, pl_ok, D.getP, D.putP, set_1, set_2, set_3, pow_18, mod_int, hd, div_int, mul_int, h0]
      first | exact ⟨_, _, ⟨rfl, rfl⟩, (bd _).1, (bd _).2, by omega⟩ | exact ⟨_, _, ⟨_, rfl, rfl⟩, (bd _).1, (bd _).2, by omega⟩ | exact ⟨_, _, _, ⟨rfl, rfl, rfl⟩, (bd _).1, (bd _).2, by omega⟩ | exact ⟨_, _, ⟨rfl, rfl, rfl⟩, (bd _).1, (bd _).2, by omega⟩
  · by_cases h4 : 0 < left
    · simp [h1, h4, pl_ok, D.getP, D.putP, set_1, set_2, set_3, pow_18, mod_int, hd, div_int, mul_int, h0]
      first | exact ⟨_, _, ⟨rfl, rfl⟩, (bd _).1, (bd _).2, by omega⟩ | exact ⟨_, _, ⟨_, rfl, rfl⟩, (bd _).1, (bd _).2, by omega⟩ | exact ⟨_, _, _, ⟨rfl, rfl, rfl⟩, (bd _).1, (bd _).2, by omega⟩ | exact ⟨_, _, ⟨rfl, rfl, rfl⟩, (bd _).1, (bd _).2, by omega⟩
    · simp [h1, h4, pl_ok, D.getP, D.putP, set_1, set_2, set_3, pow_18, mod_int, hd, div_int, mul_int, h0]
      first | exact ⟨_, _, ⟨rfl, rfl⟩, (bd _).1, (bd _).2, by omega⟩ | exact ⟨_, _, ⟨_, rfl, rfl⟩, (bd _).1, (bd _).2, by omega⟩ | exact ⟨_, _, _, ⟨rfl, rfl, rfl⟩, (bd _).1, (bd _).2, by omega⟩ | exact ⟨_, _, ⟨rfl, rfl, rfl⟩, (bd _).1, (bd _).2, by omega⟩

theorem ty_of {n : TyN} {d : D} (h : d.tyN.isSome = true) : isTyD n d = some (.bl (isTyB n d)) := by unfold isTyD; rw [if_pos h]
theorem s_flat (f : Fn) {k : Nat} {d : D} (h : d.gd k = true) (hk : k ≤ 60) (hf : ∀ ds, d ≠ .tup ds) (hl : ∀ o ds, d ≠ .lst o ds) : runS 2 5 false (b__law_same f) [d, d] = some (.bl true, .non) := by
  have e := eq_refl h (by omega)
  unfold runS b__law_same
  cases d with
  | non => simp [isNonD, D.isNon]
  | bl b => simp [isNonD, D.isNon, isTyD, D.tyN, isTyB, e]
  | int i => simp [isNonD, D.isNon, isTyD, D.tyN, isTyB, notD]
  | str x => simp [isNonD, D.isNon, isTyD, D.tyN, isTyB, e]
  | tup ds => exact absurd rfl (hf ds)
  | lst o ds => exact absurd rfl (hl o ds)
  | dK o ks ds => cases k <;> simp [D.gd] at h
  | dT o ks ds => cases k <;> simp [D.gd] at h
  | ins o C fs ds => cases k <;> simp [D.gd] at h
theorem s_tup (f : Fn) {k : Nat} {ds : List D} (h1 : ds.length ≤ sizeLine) (h2 : ∀ d ∈ ds, d.fit k = true) (ih : ∀ d ∈ ds, f [d, d] = some (.bl true, .non)) : runS 2 5 false (b__law_same f) [.tup ds, .tup ds] = some (.bl true, .non) := by
  have st : ∀ δ : En, ∀ i ∈ List.range ds.length, δ = [some (.tup ds), some (.tup ds), none, some (.bl true), none] → stepLc [4] (gset 4) (mk true) (mcall f (mcons (mval (mop2 indexD (mvar 0) (mvar 4))) (mcons (mval (mop2 indexD (mvar 1) (mvar 4))) mnil))) (nt i) δ = some (some (.bl true), δ) := fun δ i hi e => by
    subst e
    have hi := List.mem_range.mp hi
    have m := List.getElem_mem hi
    have fz := (fit_gd k _ (h2 _ m)).2
    unfold stepLc nt
    simp [ix_tup hi, fz, D.isFz_fz _ fz, ih _ m]
  have lp := mlcL_all (acc := []) (val := fun _ => D.bl true) (fun i hi => st _ i hi rfl) (by simpa using h1)
  rw [← nums_map] at lp
  unfold runS b__law_same
  simp [isNonD, D.isNon, isTyD, D.tyN, isTyB, rg_nums _ h1]
  rw [lp]
  simp [all_tt]
theorem s_lst (f : Fn) {k : Nat} {ds : List D} (h1 : ds.length ≤ sizeLine) (h2 : ∀ d ∈ ds, d.fit k = true) (ih : ∀ d ∈ ds, f [d, d] = some (.bl true, .non)) : runS 2 5 false (b__law_same f) [.lst false ds, .lst false ds] = some (.bl true, .non) := by
  have st : ∀ δ : En, ∀ i ∈ List.range ds.length, δ = [some (.lst false ds), some (.lst false ds), none, some (.bl true), none] → stepLc [4] (gset 4) (mk true) (mcall f (mcons (mval (mop2 indexD (mvar 0) (mvar 4))) (mcons (mval (mop2 indexD (mvar 1) (mvar 4))) mnil))) (nt i) δ = some (some (.bl true), δ) := fun δ i hi e => by
    subst e
    have hi := List.mem_range.mp hi
    have m := List.getElem_mem hi
    have fz := (fit_gd k _ (h2 _ m)).2
    unfold stepLc nt
    simp [ix_lst hi, fz, D.isFz_fz _ fz, ih _ m]
  have lp := mlcL_all (acc := []) (val := fun _ => D.bl true) (fun i hi => st _ i hi rfl) (by simpa using h1)
  rw [← nums_map] at lp
  unfold runS b__law_same
  simp [isNonD, D.isNon, isTyD, D.tyN, isTyB, rg_nums _ h1]
  rw [lp]
  simp [all_tt]
theorem c_same' (k : Nat) : ∀ d : D, k ≤ 60 → d.fit k = true → r__law_same (k + 1) [d, d] = some (.bl true, .non) := by
  induction k with
  | zero =>
    intro d hk h
    rw [r__law_same]
    exact s_flat _ (fit_gd _ _ h).1 hk (fun ds e => by subst e; simp [D.fit] at h) fun o ds e => by subst e; simp [D.fit] at h
  | succ k ih =>
    intro d hk h
    have hk' : k ≤ 60 := Nat.le_of_succ_le hk
    rw [r__law_same]
    cases d with
    | tup ds =>
      rw [D.fit, fits_all, Bool.and_eq_true, List.all_eq_true, decide_eq_true_eq] at h
      exact s_tup _ h.1 h.2 fun d m => ih d hk' (h.2 d m)
    | lst o ds =>
      cases o with
      | true => simp [D.fit] at h
      | false =>
        rw [D.fit, fits_all, Bool.and_eq_true, List.all_eq_true, decide_eq_true_eq] at h
        exact s_lst _ h.1 h.2 fun d m => ih d hk' (h.2 d m)
    | _ => exact s_flat _ (fit_gd _ _ h).1 hk (fun ds e => by cases e) fun o ds e => by cases e
theorem c_same {d : D} (h : d.fit 11 = true) : f__law_same [d, d] = some (.bl true, .non) := c_same' 11 d (by omega) h
theorem cp_flat (f : Fn) {k : Nat} {d : D} (h : d.fit k = true) (hf : ∀ ds, d ≠ .tup ds) (hl : ∀ o ds, d ≠ .lst o ds) : runS 1 4 false (b__law_copy f) [d] = some (d.un, .non) := by
  unfold runS b__law_copy
  cases d with
  | non => simp [isTyD, D.tyN, isTyB, D.un]
  | bl b => simp [isTyD, D.tyN, isTyB, D.un]
  | int i => simp [isTyD, D.tyN, isTyB, D.un]
  | str x => simp [isTyD, D.tyN, isTyB, D.un]
  | tup ds => exact absurd rfl (hf ds)
  | lst o ds => exact absurd rfl (hl o ds)
  | dK o ks ds => cases k <;> simp [D.fit] at h
  | dT o ks ds => cases k <;> simp [D.fit] at h
  | ins o C fs ds => cases k <;> simp [D.fit] at h
theorem c_copy' (k : Nat) : ∀ d : D, d.fit k = true → r__law_copy (k + 1) [d] = some (d.un, .non) := by
  induction k with
  | zero =>
    intro d h
    exact cp_flat _ h (fun ds e => by subst e; simp [D.fit] at h) fun o ds e => by subst e; simp [D.fit] at h
  | succ k ih =>
    intro d h
    have hz := (fit_gd _ _ h).2
    cases d with
    | tup ds =>
      rw [D.fit, fits_all, Bool.and_eq_true, List.all_eq_true, decide_eq_true_eq] at h
      rw [D.isFz] at hz
      unfold r__law_copy runS b__law_copy
      simp [isTyD, D.tyN, isTyB, hz, itemsD, D.isFzs_fzs ds hz]
      have := mlcL_all (vs := [1]) (g := gset 1) (c := mk true) (e := mcall (r__law_copy (k + 1)) (mcons (mval (mvar 1)) mnil)) (δ := [some (.tup ds), none, none, none]) (enc := id) (val := D.un) (L := ds) (acc := []) (fun d m => by
        have fz := fit_gd k _ (h.2 _ m)
        unfold stepLc
        simp [fz.2, D.isFz_fz _ fz.2, ih _ (h.2 _ m)]) (by simpa using h.1)
      rw [List.map_id] at this
      rw [this]
      simp [tupleOwnD, D.un, uns_map]
    | lst o ds =>
      cases o with
      | true => simp [D.fit] at h
      | false =>
        rw [D.fit, fits_all, Bool.and_eq_true, List.all_eq_true, decide_eq_true_eq] at h
        rw [isFz_lstF] at hz
        unfold r__law_copy runS b__law_copy
        simp [isTyD, D.tyN, isTyB, hz, itemsD, D.isFzs_fzs ds hz]
        have := mlcL_all (vs := [1]) (g := gset 1) (c := mk true) (e := mcall (r__law_copy (k + 1)) (mcons (mval (mvar 1)) mnil)) (δ := [some (.lst false ds), none, none, none]) (enc := id) (val := D.un) (L := ds) (acc := []) (fun d m => by
          have fz := fit_gd k _ (h.2 _ m)
          unfold stepLc
          simp [fz.2, D.isFz_fz _ fz.2, ih _ (h.2 _ m)]) (by simpa using h.1)
        rw [List.map_id] at this
        rw [this]
        simp [D.un, uns_map]
    | _ => exact cp_flat _ h (fun ds e => by cases e) fun o ds e => by cases e
theorem c_copy {d : D} (h : d.fit 11 = true) : f__law_copy [d] = some (d.un, .non) := c_copy' 11 d h
end Law
set_option Elab.async false
set_option linter.all false
set_option maxRecDepth 100000
set_option maxHeartbeats 2000000
namespace Law
open PySem L2 TL
abbrev Es := List (Nat × Nat)
def wb (n : Nat) (es : Es) : D := .tup [.str "web", .int n, .lst false (es.map pr)]
def at' (es : Es) (t : Nat) : Nat × Nat := es.getD t (0, 0)
theorem at_mem {es : Es} {t : Nat} (h : t < es.length) : at' es t ∈ es := by
  unfold at'
  rw [List.getD_eq_getElem?_getD, List.getElem?_eq_getElem h]
  exact List.getElem_mem h
theorem at_get {es : Es} {t : Nat} (h : t < es.length) : at' es t = es[t] := by
  unfold at'
  rw [List.getD_eq_getElem?_getD, List.getElem?_eq_getElem h]; rfl
@[simp] theorem wb_1 (n : Nat) (es : Es) : indexD (wb n es) (.int 1) = some (nt n) := by unfold wb nt; simp
@[simp] theorem wb_2 (n : Nat) (es : Es) : indexD (wb n es) (.int 2) = some (.lst false (es.map pr)) := by unfold wb; simp
theorem ix_es {o : Bool} {es : Es} {t : Nat} (h : t < es.length) : indexD (.lst o (es.map pr)) (nt t) = some (pr (at' es t)) := by
  unfold nt
  rw [ix_lst (by simpa using h), List.getElem_map, at_get h]
theorem ix_nt {o : Bool} {l : List Nat} {t : Nat} (h : t < l.length) : indexD (.lst o (l.map nt)) (nt t) = some (nt l[t]) := by
  unfold nt
  rw [ix_lst (by simpa using h), List.getElem_map]
@[simp] theorem pr_0 (p : Nat × Nat) : indexD (pr p) (.int 0) = some (nt p.1) := by unfold pr nt; simp
@[simp] theorem pr_1 (p : Nat × Nat) : indexD (pr p) (.int 1) = some (nt p.2) := by unfold pr nt; simp
@[simp] theorem eq_nt (a b : Nat) : eqD (nt a) (nt b) = some (.bl (decide (a = b))) := by
  unfold nt
  rw [eq_int]
  congr 2
  exact decide_eq_decide.mpr (by omega)
@[simp] theorem ne_nt (a b : Nat) : neD (nt a) (nt b) = some (.bl (!decide (a = b))) := by
  unfold nt
  rw [ne_int]
  congr 3
  exact decide_eq_decide.mpr (by omega)
theorem rg_nt {n : Nat} (h : n ≤ sizeLine) : range1D (nt n) = some (nums n) := rg_nums n h
theorem rg_len {n : Nat} (h : n ≤ sizeLine) : range1D (.int n) = some (nums n) := rg_nums n h
@[simp] theorem fz_wb (n : Nat) (es : Es) : (wb n es).fz = wb n es := by
  unfold wb
  simp [fzs_map pr fz_isPr]
  where fz_isPr := isFz_pr
@[simp] theorem isFz_wb (n : Nat) (es : Es) : (wb n es).isFz = true := by
  unfold wb
  simp [isFzs_map pr isFz_pr]
@[simp] theorem fzs_nt (l : List Nat) : D.fzs (l.map nt) = l.map nt := fzs_map nt isFz_nt l
@[simp] theorem fzs_pr (l : Es) : D.fzs (l.map pr) = l.map pr := fzs_map pr isFz_pr l
@[simp] theorem isFzs_nt (l : List Nat) : D.isFzs (l.map nt) = true := isFzs_map nt isFz_nt l
@[simp] theorem isFzs_pr (l : Es) : D.isFzs (l.map pr) = true := isFzs_map pr isFz_pr l
@[simp] theorem items_lst (o : Bool) (ds : List D) : itemsD (.lst o ds) = some (D.fzs ds) := Eq.trans rfl rfl
@[simp] theorem items_tup (ds : List D) : itemsD (.tup ds) = some (D.fzs ds) := Eq.trans rfl rfl
def far (es : Es) (t p : Nat) : Nat := if (at' es t).1 = p then (at' es t).2 else (at' es t).1
end Law
namespace TL
open PySem L2
theorem mforL_pre {α : Type} {g : Tg} {b : MS} {enc : α → D} {L : List α} (st : List α → En) (hs : ∀ pre a post, L = pre ++ a :: post → ∃ fl, stepFor g b (enc a) (st pre) = some (fl, st (pre ++ [a])) ∧ (fl = .nx ∨ fl = .ct)) :
    mforL g b (L.map enc) (st []) = some (.nx, st L) := by
  obtain ⟨δ', h1, h2⟩ := mforL_inv (g := g) (b := b) (enc := enc) (L := L) (fun pre δ => δ = st pre) (fun pre a post e δ h => by
    obtain ⟨fl, h1, h2⟩ := hs pre a post e
    exact ⟨fl, _, by rw [h]; exact h1, h2, rfl⟩) L [] rfl (st []) rfl
  rw [h1, h2]
theorem mlc2L_pure {α β : Type} {vs vs1 : List Nat} {g g1 : Tg} {c c1 : M Bool} {m1 : M (List D)} {e : M D} {δ : En} {enc : α → D} {inner : α → List β} {enc1 : β → D} {cond : α → β → Bool} {val : α → β → D} : ∀ {L : List α} {acc : List D},
    (∀ a ∈ L, ∃ δa δb, g (enc a) δ = some δa ∧ c δa = some (true, δa) ∧ m1 δa = some ((inner a).map enc1, δa) ∧ En.kill vs1 δa = δb ∧ En.kill vs δb = δ ∧ ∀ x ∈ inner a, stepLc vs1 g1 c1 e (enc1 x) δb = some (if cond a x = true then some (val a x) else none, δb)) →
    acc.length + (L.map fun a => (inner a).length).sum ≤ sizeLine →
    mlc2L vs g c m1 vs1 g1 c1 e (L.map enc) acc δ = some (acc ++ L.flatMap fun a => ((inner a).filter (cond a)).map (val a), δ)
  | [], acc, _, _ => by simp [mlc2L]
  | a :: L, acc, h, hl => by
    obtain ⟨δa, δb, h1, h2, h3, h4, h5, h6⟩ := h a List.mem_cons_self
    simp only [List.map_cons, List.sum_cons] at hl
    rw [List.map_cons, mlc2L]
    dsimp only
    rw [h1]
    dsimp only
    rw [h2]
    dsimp only
    rw [h3]
    dsimp only
    rw [h4, mlcL_pure h6 (by omega)]
    dsimp only
    have : (((inner a).filter (cond a)).map (val a)).length ≤ (inner a).length := by
      rw [List.length_map]; exact List.length_filter_le _ _
    rw [h5, mlc2L_pure (fun b m => h b (List.mem_cons_of_mem _ m)) (by rw [List.length_append]; omega)]
    simp
theorem app_l {ds : List D} {x : D} (h : ds.length < sizeLine) : appendD (.lst true ds) [x] = some (.non, .lst true (ds ++ [x])) := by
  unfold appendD
  dsimp only
  rw [if_pos h]
end TL
namespace Law
open PySem L2 TL
theorem pl_ty (ty : D → Bool) (i : Nat) (δ : En) : placeTy ty i [] δ = (match δ[i]? with
  | some (some c) => ty c
  | _ => false) := by
  unfold placeTy
  cases h : δ[i]? with
  | none => rfl
  | some x => cases x <;> rfl
@[simp] theorem isLst_lst (o : Bool) (ds : List D) : isLst (.lst o ds) = true := Eq.trans rfl rfl
def side (e : Nat × Nat) (s : Nat) : Nat := if s = 0 then e.1 else e.2
def hv (es : Es) (p : Nat) : Es := (List.range es.length).flatMap fun t => ([0, 1].filter fun s => decide (side (at' es t) s = p)).map fun s => (t, s)
theorem sz {n : Nat} (h : n ≤ 100000) : n ≤ sizeLine := by rw [sizeLine_eq]; omega
theorem sz' {n : Nat} (h : n ≤ 100000) : n < sizeLine := by rw [sizeLine_eq]; omega
theorem mk_pr (a b : Nat) : D.tup [nt a, nt b] = pr (a, b) := rfl
theorem ix_side {e : Nat × Nat} {s : Nat} (h : s ∈ [0, 1]) : indexD (pr e) (nt s) = some (nt (side e s)) := by
  unfold nt pr side
  rcases List.mem_cons.mp h with rfl | h
  · simp
  · have := List.mem_singleton.mp h
    subst this
    simp
def hvs (m : Nat) : Es := (List.range m).flatMap fun t => [(t, 0), (t, 1)]
theorem hvs_len (l : List Nat) : (l.flatMap fun t => [(t, 0), (t, 1)]).length = 2 * l.length := by
  induction l with
  | nil => rfl
  | cons a l ih => rw [List.flatMap_cons, List.length_append, ih]; simp; omega
end Law
namespace Law
open PySem L2 TL
theorem hvs_mem {m : Nat} {x : Nat × Nat} (h : x ∈ hvs m) : x.1 < m ∧ x.2 ∈ [0, 1] := by
  unfold hvs at h
  obtain ⟨t, ht, hx⟩ := List.mem_flatMap.mp h
  have := List.mem_range.mp ht
  rcases List.mem_cons.mp hx with rfl | hx
  · exact ⟨this, by simp⟩
  · have := List.mem_singleton.mp hx
    subst this
    exact ⟨by assumption, by simp⟩
theorem hv_eq (es : Es) (p : Nat) : hv es p = (hvs es.length).filter fun x => decide (side (at' es x.1) x.2 = p) := by
  unfold hv hvs
  rw [List.filter_flatMap]
  congr 1
  funext t
  by_cases h0 : side (at' es t) 0 = p <;> by_cases h1 : side (at' es t) 1 = p <;> simp [h0, h1, List.filter_cons]
theorem snoc_ind {α : Type} {P : List α → Prop} (h0 : P []) (hs : ∀ l a, P l → P (l ++ [a])) (l : List α) : P l := by
  rw [← List.reverse_reverse l]
  induction l.reverse with
  | nil => exact h0
  | cons a l ih => rw [List.reverse_cons]; exact hs _ _ ih
@[simp] theorem ev_gtup_pr (g : Tgs) (e : Nat × Nat) (δ : En) : gtup 2 g (pr e) δ = g [nt e.1, nt e.2] δ := Eq.trans rfl rfl
/-! ### kept -/
end Law
set_option Elab.async false
set_option linter.all false
set_option maxRecDepth 100000
set_option maxHeartbeats 2000000
namespace Law
open PySem L2 TL
def wo (n : Nat) (es : Es) : D := .tup [.str "web", .int n, .lst true (es.map pr)]
@[simp] theorem fz_wo (n : Nat) (es : Es) : (wo n es).fz = wb n es := by unfold wo wb; simp
theorem add_l {o o' : Bool} {xs ys : List D} (h1 : D.isFzs xs = true) (h2 : D.isFzs ys = true) (h : xs.length + ys.length ≤ sizeLine) : addD (.lst o xs) (.lst o' ys) = some (.lst true (xs ++ ys)) := by
  unfold addD
  dsimp only
  rw [if_pos ⟨h1, h2, h⟩]
def ky (x : Nat) : Key := Sum.inl (x : Int)
theorem ky_inj {a b : Nat} : ky a = ky b ↔ a = b := by
  unfold ky
  constructor
  · intro h
    have := Sum.inl.inj h
    omega
  · rintro rfl; rfl
theorem idx_ne {a x : Nat} {l : List Nat} (e : ¬ a = x) : (a :: l).idxOf x = l.idxOf x + 1 := by
  rw [List.idxOf_cons, show (a == x) = false from beq_eq_false_iff_ne.mpr e]; rfl
theorem look_at : ∀ (l : List Nat) (s x : Nat), x ∈ l → lookD (l.map ky) ((List.range' s l.length).map nt) (ky x) = some (nt (s + l.idxOf x))
  | [], _, _, h => by simp at h
  | a :: l, s, x, h => by
    rw [List.map_cons, List.length_cons, List.range'_succ, List.map_cons, lookD]
    by_cases e : a = x
    · subst e
      rw [if_pos rfl, List.idxOf_cons_self]; rfl
    · rw [if_neg (fun q => e (ky_inj.mp q)), look_at l (s + 1) x ((List.mem_cons.mp h).resolve_left fun q => e q.symm), idx_ne e]
      congr 2
      omega
theorem find_at : ∀ (l : List Nat) (x : Nat), x ∈ l → findD (nt x) (l.map nt) = some (l.idxOf x)
  | [], _, h => by simp at h
  | a :: l, x, h => by
    rw [List.map_cons, findD, eqv_nt]
    by_cases e : a = x
    · subst e
      rw [if_pos (by simp), List.idxOf_cons_self]
    · rw [if_neg (by simp [e]), find_at l x ((List.mem_cons.mp h).resolve_left fun q => e q.symm), idx_ne e]; rfl
theorem lindex_at {o : Bool} {l : List Nat} {x : Nat} (h : x ∈ l) : lindexD (.lst o (l.map nt)) (nt x) = some (nt (l.idxOf x)) := by
  unfold lindexD
  dsimp only
  rw [if_pos ⟨ok_of (gd_nt 0 x), ok_of (n := 1) (by rw [gd_lst]; exact all_map_gd nt 0 (gd_nt 0) l)⟩, find_at l x h]; rfl
def DrOk (d : D) : Prop := ∃ o cells pos left seed, d = drw o cells pos left seed ∧ 0 ≤ pos
theorem c_dr {d : D} {L : Nat} (h : DrOk d) (h0 : 0 < L) (h1 : L < 1000000) : ∃ (r : Nat) (d' : D), f__law_draw [d, nt L] = some (nt r, d') ∧ r < L ∧ DrOk d' := by
  obtain ⟨o, cells, pos, left, seed, rfl, hp⟩ := h
  obtain ⟨r, pos', left', seed', e, r0, r1, p'⟩ := c_draw (o := o) (cells := cells) (left := left) (seed := seed) (limit := (L : Int)) hp (by omega) (by omega)
  refine ⟨r.toNat, _, ?_, by omega, ⟨o, cells, pos', left', seed', rfl, p'⟩⟩
  have : nt r.toNat = .int r := by unfold nt; congr 1; omega
  rw [this]
  exact e
def EsOk (n : Nat) (es : Es) : Prop := ∀ e ∈ es, e.1 < n ∧ e.2 < n
theorem EsOk.snoc {n a b : Nat} {es : Es} (h : EsOk n es) (ha : a < n) (hb : b < n) : EsOk n (es ++ [(a, b)]) := fun e m => by
  rcases List.mem_append.mp m with m | m
  · exact h e m
  · have := List.mem_singleton.mp m
    subst this
    exact ⟨ha, hb⟩
theorem ge_nt (r : Nat) (od : Int) : geD (nt r) (.int od) = some (.bl (decide (od ≤ r))) := Eq.trans rfl rfl
theorem c__law_web {d : D} {n m : Nat} {od : Int} (hd : DrOk d) (h0 : 0 < n) (hn : n < 1000) (hm : m ≤ 1000) :
    ∃ es d', f__law_web [d, nt n, nt m, .int od] = some (wo n es, d') ∧ DrOk d' ∧ EsOk n es ∧ es.length ≤ m := by
  have hm' : m ≤ sizeLine := sz (by omega)
  obtain ⟨δ', h1, d', es, e2, hd', hes, hl⟩ := mforL_inv (g := gset 5) (b := (mkill [5, 6, 7] (mseq (mpar 6 7 (mcons (mcall1 0 f__law_draw (mcons (mval (mvar 1)) mnil)) (mcons (mcall1 0 f__law_draw (mcons (mval (mvar 1)) mnil)) mnil)))
    (mseq (mifs (mand (mor (mtest (mop2 eqD (mvar 6) (mvar 7))) (mor (mtest (mop2 inD (mtup (mcons (mval (mvar 6)) (mcons (mval (mvar 7)) mnil))) (mvar 4))) (mtest (mop2 inD (mtup (mcons (mval (mvar 7)) (mcons (mval (mvar 6)) mnil))) (mvar 4))))) (mtest (mop2 geD (mcall1 0 f__law_draw (mcons (mk (.int 10)) mnil)) (mvar 3)))) mcnt msk)
    (mdrop (mmut isLst 4 appendD (mk []) (mcons (mfz (mtup (mcons (mval (mvar 6)) (mcons (mval (mvar 7)) mnil)))) mnil))))))) (enc := nt) (L := List.range m)
    (fun pre δ => ∃ d' es, δ = [some d', some (nt n), some (nt m), some (.int od), some (.lst true (es.map pr)), none, none, none] ∧ DrOk d' ∧ EsOk n es ∧ es.length ≤ pre.length) (fun pre t post e δ hP => by
      obtain ⟨d0, es, rfl, hd0, hes, hl⟩ := hP
      have hlen := congrArg List.length e
      simp at hlen
      obtain ⟨a, d1, ea, ha, hd1⟩ := c_dr hd0 h0 (by omega)
      obtain ⟨b, d2, eb, hb, hd2⟩ := c_dr hd1 h0 (by omega)
      obtain ⟨r, d3, er, hr, hd3⟩ := c_dr (L := 10) hd2 (by omega) (by omega)
      have er : f__law_draw [d2, .int 10] = some (nt r, d3) := er
      have z1 : (es.map pr).length < sizeLine := by rw [List.length_map]; exact sz' (by omega)
      have m1 := in_pr true es (a, b)
      have m2 := in_pr true es (b, a)
      have ap := app_l (x := pr (a, b)) z1
      have go : ∀ dd : D, DrOk dd → ∃ fl δ', (some (Fl.nx, [some dd, some (nt n), some (nt m), some (.int od), some (.lst true (es.map pr ++ [pr (a, b)])), none, none, none]) : Option (Fl × En)) = some (fl, δ') ∧ (fl = .nx ∨ fl = .ct) ∧
          ∃ d' es', δ' = [some d', some (nt n), some (nt m), some (.int od), some (.lst true (es'.map pr)), none, none, none] ∧ DrOk d' ∧ EsOk n es' ∧ es'.length ≤ (pre ++ [t]).length := fun dd hdd =>
        ⟨_, _, rfl, .inl rfl, dd, es ++ [(a, b)], by simp, hdd, hes.snoc ha hb, by simp; omega⟩
      by_cases c1 : a = b ∨ (a, b) ∈ es ∨ (b, a) ∈ es
      · by_cases c2 : od ≤ r
        · refine ⟨.ct, [some d3, some (nt n), some (nt m), some (.int od), some (.lst true (es.map pr)), none, none, none], ?_, .inr rfl, d3, es, rfl, hd3, hes, by simp; omega⟩
          unfold stepFor
          rcases c1 with rfl | c1
          · simp [ea, eb, er, ge_nt, c2]
          · by_cases c3 : a = b
            · subst c3
              simp [ea, eb, er, ge_nt, c2]
            · rcases c1 with c1 | c1
              · simp [ea, eb, er, ge_nt, c2, c3, mk_pr, m1, m2, c1, sizeLine_eq]
              · by_cases c4 : (a, b) ∈ es <;> simp [ea, eb, er, ge_nt, c2, c3, mk_pr, m1, m2, c1, c4, sizeLine_eq]
        · have e1 : stepFor (gset 5) (mkill [5, 6, 7] (mseq (mpar 6 7 (mcons (mcall1 0 f__law_draw (mcons (mval (mvar 1)) mnil)) (mcons (mcall1 0 f__law_draw (mcons (mval (mvar 1)) mnil)) mnil)))
    (mseq (mifs (mand (mor (mtest (mop2 eqD (mvar 6) (mvar 7))) (mor (mtest (mop2 inD (mtup (mcons (mval (mvar 6)) (mcons (mval (mvar 7)) mnil))) (mvar 4))) (mtest (mop2 inD (mtup (mcons (mval (mvar 7)) (mcons (mval (mvar 6)) mnil))) (mvar 4))))) (mtest (mop2 geD (mcall1 0 f__law_draw (mcons (mk (.int 10)) mnil)) (mvar 3)))) mcnt msk)
    (mdrop (mmut isLst 4 appendD (mk []) (mcons (mfz (mtup (mcons (mval (mvar 6)) (mcons (mval (mvar 7)) mnil)))) mnil)))))) (nt t) [some d0, some (nt n), some (nt m), some (.int od), some (.lst true (es.map pr)), none, none, none] =
              some (Fl.nx, [some d3, some (nt n), some (nt m), some (.int od), some (.lst true (es.map pr ++ [pr (a, b)])), none, none, none]) := by
            unfold stepFor
            rcases c1 with rfl | c1
            · simp [ea, eb, er, ge_nt, c2, mk_pr, sizeLine_eq, pl_ty, D.getP, D.putP, ap]
            · by_cases c3 : a = b
              · subst c3
                simp [ea, eb, er, ge_nt, c2, mk_pr, sizeLine_eq, pl_ty, D.getP, D.putP, ap]
              · rcases c1 with c1 | c1
                · simp [ea, eb, er, ge_nt, c2, c3, mk_pr, m1, m2, c1, sizeLine_eq, pl_ty, D.getP, D.putP, ap]
                · by_cases c4 : (a, b) ∈ es <;> simp [ea, eb, er, ge_nt, c2, c3, mk_pr, m1, m2, c1, c4, sizeLine_eq, pl_ty, D.getP, D.putP, ap]
          rw [e1]
          exact go d3 hd3
      · have c3 : ¬ a = b := fun h => c1 (.inl h)
        have c4 : ¬ (a, b) ∈ es := fun h => c1 (.inr (.inl h))
        have c5 : ¬ (b, a) ∈ es := fun h => c1 (.inr (.inr h))
        have e1 : stepFor (gset 5) (mkill [5, 6, 7] (mseq (mpar 6 7 (mcons (mcall1 0 f__law_draw (mcons (mval (mvar 1)) mnil)) (mcons (mcall1 0 f__law_draw (mcons (mval (mvar 1)) mnil)) mnil)))
    (mseq (mifs (mand (mor (mtest (mop2 eqD (mvar 6) (mvar 7))) (mor (mtest (mop2 inD (mtup (mcons (mval (mvar 6)) (mcons (mval (mvar 7)) mnil))) (mvar 4))) (mtest (mop2 inD (mtup (mcons (mval (mvar 7)) (mcons (mval (mvar 6)) mnil))) (mvar 4))))) (mtest (mop2 geD (mcall1 0 f__law_draw (mcons (mk (.int 10)) mnil)) (mvar 3)))) mcnt msk)
    (mdrop (mmut isLst 4 appendD (mk []) (mcons (mfz (mtup (mcons (mval (mvar 6)) (mcons (mval (mvar 7)) mnil)))) mnil)))))) (nt t) [some d0, some (nt n), some (nt m), some (.int od), some (.lst true (es.map pr)), none, none, none] =
              some (Fl.nx, [some d2, some (nt n), some (nt m), some (.int od), some (.lst true (es.map pr ++ [pr (a, b)])), none, none, none]) := by
          unfold stepFor
          simp [ea, eb, c3, c4, c5, mk_pr, m1, m2, sizeLine_eq, pl_ty, D.getP, D.putP, ap]
        rw [e1]
        exact go d2 hd2) (List.range m) [] rfl [some d, some (nt n), some (nt m), some (.int od), some (.lst true []), none, none, none] ⟨d, [], rfl, hd, fun e m => by simp at m, Nat.le_refl _⟩
  subst e2
  refine ⟨es, d', ?_, hd', hes, by simpa using hl⟩
  rw [← nums_map] at h1
  unfold f__law_web runS b__law_web
  simp [sizeLine_eq, rg_nt hm', h1]
  rfl
end Law
set_option Elab.async false
set_option linter.all false
set_option maxRecDepth 100000
set_option maxHeartbeats 2000000
namespace Law
open PySem L2 TL
def stepT (es : Es) (p : Nat) (part : List Nat) (t : Nat) : List Nat := if p = (at' es t).1 ∨ p = (at' es t).2 then (if far es t p ∈ part then part else part ++ [far es t p]) else part
def row (es : Es) (p : Nat) (pre : List Nat) (part : List Nat) : List Nat := pre.foldl (stepT es p) part
theorem row_snoc (es : Es) (p : Nat) (pre : List Nat) (t : Nat) (part : List Nat) : row es p (pre ++ [t]) part = stepT es p (row es p pre part) t := by
  unfold row
  rw [List.foldl_append]; rfl
theorem far_lt {n : Nat} {es : Es} (h : EsOk n es) {t p : Nat} (ht : t < es.length) : far es t p < n := by
  have := h _ (at_mem ht)
  unfold far
  split
  · exact this.2
  · exact this.1
theorem row_facts {n : Nat} {es : Es} (h : EsOk n es) {p : Nat} {part : List Nat} (nd : part.Nodup) (lt : ∀ x ∈ part, x < n) : ∀ pre : List Nat, (∀ t ∈ pre, t < es.length) → (∃ ext, row es p pre part = part ++ ext) ∧ (row es p pre part).Nodup ∧ ∀ x ∈ row es p pre part, x < n :=
  snoc_ind (fun _ => ⟨⟨[], by simp [row]⟩, nd, lt⟩) fun pre t ih ht => by
    obtain ⟨⟨ext, i1⟩, i2, i3⟩ := ih fun x m => ht x (List.mem_append_left _ m)
    have ht := ht t (by simp)
    rw [row_snoc]
    unfold stepT
    split
    · split
      · exact ⟨⟨ext, i1⟩, i2, i3⟩
      · rename_i hm
        refine ⟨⟨ext ++ [far es t p], by rw [i1, List.append_assoc]⟩, ?_, fun x m => ?_⟩
        · refine List.nodup_append.mpr ⟨i2, by simp, fun a ha b hb e => ?_⟩
          have := List.mem_singleton.mp hb
          subst this e
          exact hm ha
        · rcases List.mem_append.mp m with m | m
          · exact i3 x m
          · have := List.mem_singleton.mp m
            subst this
            exact far_lt h ht
    · exact ⟨⟨ext, i1⟩, i2, i3⟩
theorem len_le {n : Nat} {l : List Nat} (nd : l.Nodup) (lt : ∀ x ∈ l, x < n) : l.length ≤ n := by
  have := nodup_len nd (m := List.range n) fun x m => List.mem_range.mpr (lt x m)
  simpa using this
def run (es : Es) : Nat → List Nat → Nat → List Nat
  | 0, part, _ => part
  | k + 1, part, i => if i < part.length then run es k (row es (part.getD i 0) (List.range es.length) part) (i + 1) else part
def comp (n : Nat) (es : Es) (x : Nat) : List Nat := run es (n + 1) [x] 0
theorem run_stop (es : Es) (k : Nat) {part : List Nat} {i : Nat} (h : ¬ i < part.length) : run es k part i = part := by
  cases k with
  | zero => rfl
  | succ k => rw [run, if_neg h]
end Law
set_option Elab.async false
set_option linter.all false
set_option maxRecDepth 100000
set_option maxHeartbeats 2000000
namespace Law
open PySem L2 TL
def encL (l : List Int) : D := .lst false (l.map .int)
def srtd (n : Nat) (es : Es) (x : Nat) : List Int := sortI ((comp n es x).map fun (q : Nat) => (q : Int))
@[simp] theorem isFz_encL (l : List Int) : (encL l).isFz = true := by
  unfold encL
  rw [isFz_lstF]
  exact isFzs_map _ (fun _ => rfl) l
@[simp] theorem fz_encL (l : List Int) : (encL l).fz = encL l := D.isFz_fz _ (isFz_encL l)
theorem in_encL (x : Nat) (l : List Int) : inD (nt x) (encL l) = some (.bl (decide ((x : Int) ∈ l))) := by
  unfold inD nt encL
  rw [in_map (enc := D.int) eqv_int (fun a => by simp) false l (x : Int)]
  simp
def has (F : List (List Int)) (x : Nat) : Bool := F.any fun l => decide ((x : Int) ∈ l)
def pst (n : Nat) (es : Es) (pre : List Nat) : List (List Int) := pre.foldl (fun F x => if has F x = true then F else F ++ [srtd n es x]) []
theorem pst_snoc (n : Nat) (es : Es) (pre : List Nat) (x : Nat) : pst n es (pre ++ [x]) = if has (pst n es pre) x = true then pst n es pre else pst n es pre ++ [srtd n es x] := by
  unfold pst
  rw [List.foldl_append]; rfl
theorem pst_len (n : Nat) (es : Es) : ∀ pre : List Nat, (pst n es pre).length ≤ pre.length :=
  snoc_ind (Nat.le_refl _) fun pre x ih => by
    rw [pst_snoc]
    split
    · simp; omega
    · simp; omega
theorem listRg_nums {n : Nat} (h : n ≤ 1000) : (listRgD (.int n)) = some (.lst true (nums n)) := by
  unfold listRgD
  dsimp only
  rw [if_pos ⟨(in62_iff _).mpr (by omega), by rw [Nat.ble_eq]; omega⟩]
  unfold rgD nums
  simp
theorem any_has {i j : Nat} {δ δ' : En} (F : List (List Int)) (x : Nat) (hF : F.length ≤ 1000) (h : ∀ l ∈ F, stepLc [j] (gset j) (mk true) (mop2 inD (mvar i) (mvar j)) (encL l) δ = some (some (.bl (decide ((x : Int) ∈ l))), δ)) :
    mlcL [j] (gset j) (mk true) (mop2 inD (mvar i) (mvar j)) (F.map encL) [] δ = some (F.map (fun l => .bl (decide ((x : Int) ∈ l))), δ) := by
  refine (mlcL_all (val := fun l => .bl (decide ((x : Int) ∈ l))) h (by simpa using sz (by omega))).trans (by simp)
/-! ### the law's own -/
def add (l : List Nat) (q : Nat) : List Nat := if q ∈ l then l else l ++ [q]
theorem add_two {es : Es} {t p : Nat} {cur : List Nat} (hp : p ∈ cur) (c : p = (at' es t).1 ∨ p = (at' es t).2) : add (add cur (at' es t).1) (at' es t).2 = stepT es p cur t := by
  unfold stepT
  rw [if_pos c]
  generalize hf : far es t p = f
  unfold far at hf
  generalize at' es t = e at *
  obtain ⟨a, b⟩ := e
  simp only at c hf ⊢
  by_cases h1 : a = p
  · subst h1
    rw [if_pos rfl] at hf
    subst hf
    have : add cur a = cur := if_pos hp
    rw [this]; rfl
  · rw [if_neg h1] at hf
    subst hf
    have hb : p = b := c.resolve_left fun e => h1 e.symm
    subst hb
    unfold add
    by_cases h2 : a ∈ cur
    · rw [if_pos h2, if_pos hp]
    · rw [if_neg h2, if_pos (List.mem_append_left _ hp)]
def lawT : MS := (mkill [7, 8] (mseq (mfor (mbind (mop1 lenD (mop2 indexD (mvar 0) (mk (.int 2)))) fun d => mopt (range1D d)) (gset 7) (mkill [7, 8] (mifs (mand (mtest (mop2 notInD (mvar 7) (mvar 1))) (mtest (mop2 inD (mop2 indexD (mvar 5) (mvar 6)) (mop2 indexD (mop2 indexD (mvar 0) (mk (.int 2))) (mvar 7))))) (mfor (mitems (mval (mop2 indexD (mop2 indexD (mvar 0) (mk (.int 2))) (mvar 7)))) (gset 8) (mkill [8] (mifs (mand (mtest (mop2 notInD (mvar 8) (mvar 5))) (mtest (mop2 notInD (mvar 8) (mvar 2)))) (mdrop (mmut isLst 5 appendD (mk []) (mcons (mval (mvar 8)) mnil))) msk))) msk)))
    (masg (mop2 addD (mvar 6) (mk (.int 1))) (gset 6))))
theorem law_row {n : Nat} {es : Es} (h : EsOk n es) (hn : n ≤ 1000) (hz : es.length ≤ 1000) {F : D} {x : D} {part : List Nat} (nd : part.Nodup) (lt : ∀ x ∈ part, x < n) {i : Nat} (hi : i < part.length) :
    lawT [some (wb n es), some (.lst false []), some (.lst false []), some F, some x, some (.lst true (part.map nt)), some (nt i), none, none] =
    some (.nx, [some (wb n es), some (.lst false []), some (.lst false []), some F, some x, some (.lst true ((row es (part.getD i 0) (List.range es.length) part).map nt)), some (nt (i + 1)), none, none]) := by
  have hz' : es.length ≤ sizeLine := sz (by omega)
  have hpi : part.getD i 0 = part[i] := by rw [List.getD_eq_getElem?_getD, List.getElem?_eq_getElem hi]; rfl
  generalize hp : part.getD i 0 = p at *
  have lp := mforL_pre (g := gset 7) (b := (mkill [7, 8] (mifs (mand (mtest (mop2 notInD (mvar 7) (mvar 1))) (mtest (mop2 inD (mop2 indexD (mvar 5) (mvar 6)) (mop2 indexD (mop2 indexD (mvar 0) (mk (.int 2))) (mvar 7))))) (mfor (mitems (mval (mop2 indexD (mop2 indexD (mvar 0) (mk (.int 2))) (mvar 7)))) (gset 8) (mkill [8] (mifs (mand (mtest (mop2 notInD (mvar 8) (mvar 5))) (mtest (mop2 notInD (mvar 8) (mvar 2)))) (mdrop (mmut isLst 5 appendD (mk []) (mcons (mval (mvar 8)) mnil))) msk))) msk))) (enc := nt) (L := List.range es.length)
    (fun pre => [some (wb n es), some (.lst false []), some (.lst false []), some F, some x, some (.lst true ((row es p pre part).map nt)), some (nt i), none, none]) (fun pre t post e => by
      have ht : ∀ t ∈ pre, t < es.length := fun t m => List.mem_range.mp (by rw [e]; simp [m])
      have ha : t < es.length := List.mem_range.mp (by rw [e]; simp)
      obtain ⟨⟨ext, i1⟩, i2, i3⟩ := row_facts h (p := p) nd lt pre ht
      rw [row_snoc]
      have hlen := len_le i2 i3
      generalize row es p pre part = cur at *
      have hic : i < cur.length := by rw [i1, List.length_append]; omega
      have hci : cur[i] = p := by
        rw [hpi]
        subst i1
        rw [List.getElem_append_left hi]
      have hpc : p ∈ cur := by rw [← hci]; exact List.getElem_mem hic
      have e1 : indexD (.lst true (cur.map nt)) (nt i) = some (nt p) := by rw [ix_nt hic, hci]
      have e2 : inD (nt p) (pr (at' es t)) = some (.bl (decide (p = (at' es t).1 ∨ p = (at' es t).2))) := in_pair _ _
      have e5 : ∀ q, notInD (nt q) (.lst false []) = some (.bl true) := fun q => notin_nt false [] q
      have one : ∀ (l : List Nat) (q : Nat), l.length ≤ 2000 → stepFor (gset 8) (mkill [8] (mifs (mand (mtest (mop2 notInD (mvar 8) (mvar 5))) (mtest (mop2 notInD (mvar 8) (mvar 2)))) (mdrop (mmut isLst 5 appendD (mk []) (mcons (mval (mvar 8)) mnil))) msk)) (nt q)
          [some (wb n es), some (.lst false []), some (.lst false []), some F, some x, some (.lst true (l.map nt)), some (nt i), some (nt t), none] =
          some (.nx, [some (wb n es), some (.lst false []), some (.lst false []), some F, some x, some (.lst true ((add l q).map nt)), some (nt i), some (nt t), none]) := fun l q hl => by
        have e4 := notin_nt true l q
        have z1 : (l.map nt).length < sizeLine := by rw [List.length_map]; exact sz' (by omega)
        have e6 := app_l (x := nt q) z1
        unfold stepFor add
        by_cases c2 : q ∈ l
        · simp [e4, c2]
        · simp [e4, e5, e6, c2, pl_ty, D.getP, D.putP]
      have l1 : (add cur (at' es t).1).length ≤ 2000 := by
        unfold add
        split
        · omega
        · simp; omega
      have e7 : itemsD (pr (at' es t)) = some [nt (at' es t).1, nt (at' es t).2] := rfl
      refine ⟨.nx, ?_, .inl rfl⟩
      unfold stepFor
      by_cases c1 : p = (at' es t).1 ∨ p = (at' es t).2
      · simp only [c1, decide_true] at e2
        have q := add_two (es := es) (t := t) hpc c1
        simp [ix_es ha, e1, e2, e5, e7]
        rw [mforL_cons, one cur _ (by omega)]
        dsimp only
        rw [mforL_cons, one _ _ l1, q]
        simp
        exact ⟨_, _, ⟨rfl, rfl⟩, rfl, rfl⟩
      · have q : stepT es p cur t = cur := if_neg c1
        simp only [c1, decide_false] at e2
        simp [ix_es ha, e1, e2, e5, q])
  rw [← nums_map] at lp
  have e0 : row es p [] part = part := rfl
  rw [e0] at lp
  have e9 : addD (nt i) (.int 1) = some (nt (i + 1)) := by
    unfold nt
    rw [add_int]
    congr 2
  unfold lawT
  simp [rg_len hz', lp, e9]

end Law
set_option Elab.async false
set_option linter.all false
set_option maxRecDepth 100000
set_option maxHeartbeats 2000000
/-! Y0: check_web and the law's own look at a web. -/
namespace Law
open PySem L2 TL
/-- what may stand as a number or an end -/
def Atm (d : D) : Prop := d = .non ∨ (∃ b, d = .bl b) ∨ (∃ i, d = .int i) ∨ d = .str "x" ∨ d = .str "0"
theorem Atm.fz {d : D} (h : Atm d) : d.isFz = true := by
  rcases h with rfl | ⟨b, rfl⟩ | ⟨i, rfl⟩ | rfl | rfl <;> rfl
theorem Atm.fit {d : D} (h : Atm d) (n : Nat) : d.fit n = true := by
  rcases h with rfl | ⟨b, rfl⟩ | ⟨i, rfl⟩ | rfl | rfl
  · simp
  · simp
  · simp
  · rw [D.fit]; decide +kernel
  · rw [D.fit]; decide +kernel
def tw (p : D × D) : D := .tup [p.1, p.2]
def AtP (p : D × D) : Prop := Atm p.1 ∧ Atm p.2
def wbA (many : D) (ts : List (D × D)) : D := .tup [.str "web", many, .lst false (ts.map tw)]
def whB : D → Bool
  | .int _ => true
  | _ => false
theorem c_is_whole {d : D} (h : Atm d) : f_is_whole [d] = some (.bl (whB d), .non) := by
  unfold f_is_whole runS b_is_whole
  rcases h with rfl | ⟨b, rfl⟩ | ⟨i, rfl⟩ | rfl | rfl <;> simp [isTyD, D.tyN, isTyB, notD, whB]
theorem c__law_whole {d : D} (h : Atm d) : f__law_whole [d] = some (.bl (whB d), .non) := by
  unfold f__law_whole runS b__law_whole
  rcases h with rfl | ⟨b, rfl⟩ | ⟨i, rfl⟩ | rfl | rfl <;> simp [isTyD, D.tyN, isTyB, notD, whB]
/-- an end's look, the number of points being n -/
def inB (n : Int) : D → Bool
  | .int x => decide (0 ≤ x) && decide (x < n)
  | _ => false
def bad (n : Int) (p : D × D) : Bool := !(inB n p.1 && inB n p.2)
def hdB (many : D) (len : Nat) : Bool := match many with
  | .int n => decide (1 ≤ n) && decide (n ≤ 40) && decide (len ≤ 100)
  | _ => false
@[simp] theorem wa_1 (many : D) (ts : List (D × D)) : indexD (wbA many ts) (.int 1) = some many := by unfold wbA; simp
@[simp] theorem wa_2 (many : D) (ts : List (D × D)) : indexD (wbA many ts) (.int 2) = some (.lst false (ts.map tw)) := by unfold wbA; simp
theorem tw_fz {p : D × D} (h : AtP p) : (tw p).isFz = true := by unfold tw; simp [h.1.fz, h.2.fz]
theorem tws_fz {ts : List (D × D)} (h : ∀ p ∈ ts, AtP p) : D.isFzs (ts.map tw) = true := by
  induction ts with
  | nil => rfl
  | cons p ts ih => simp [tw_fz (h p (by simp)), ih fun q m => h q (by simp [m])]
theorem wa_fz {many : D} {ts : List (D × D)} (hm : Atm many) (h : ∀ p ∈ ts, AtP p) : (wbA many ts).isFz = true := by unfold wbA; simp [hm.fz, tws_fz h]
theorem ix_tw {o : Bool} {ts : List (D × D)} {t : Nat} (h : t < ts.length) : indexD (.lst o (ts.map tw)) (nt t) = some (tw ts[t]) := by
  unfold nt
  rw [ix_lst (by simpa using h), List.getElem_map]
theorem it_tw {p : D × D} (h : AtP p) : itemsD (tw p) = some [p.1, p.2] := by
  unfold tw
  rw [items_tup]
  simp [D.isFz_fz _ h.1.fz, D.isFz_fz _ h.2.fz]
def flOf {α : Type} (fl : α → Fl) : Option α → Fl
  | some a => fl a
  | none => .nx
theorem mforL_first {α : Type} {g : Tg} {b : MS} {enc : α → D} {st : En} {stop : α → Bool} {fl : α → Fl} (hfl : ∀ a, (∃ d, fl a = .rt d) ∨ ∃ c n d, fl a = .ex c n d) : ∀ L : List α,
    (∀ a ∈ L, stepFor g b (enc a) st = some (if stop a = true then fl a else .nx, st)) → mforL g b (L.map enc) st = some (flOf fl (L.find? stop), st)
  | [], _ => rfl
  | a :: L, h => by
    rw [List.map_cons, mforL_cons, h a (by simp)]
    cases e : stop a with
    | true =>
      simp only [if_pos, List.find?_cons, e]
      show _ = some (fl a, st)
      rcases hfl a with ⟨d, q⟩ | ⟨c, n, d, q⟩ <;> rw [q]
    | false =>
      simp only [Bool.false_eq_true, if_false, List.find?_cons, e]
      exact mforL_first hfl L fun x m => h x (by simp [m])
def stopA (n : Int) (ts : List (D × D)) (t : Nat) : Bool := bad n (ts.getD t (.non, .non))
def due (many : D) (ts : List (D × D)) : Option (Option Nat) := match many with
  | .int n => if hdB many ts.length = true then ((List.range ts.length).find? (stopA n ts)).map some else some none
  | _ => some none
def ck (f : Fn) : M D := (mop1 allD (mlc (mitems (mval (mop2 indexD (mop2 indexD (mvar 0) (mk (.int 2))) (mvar 1)))) [2] (gset 2) (mk true) (mandV (mcall f (mcons (mval (mvar 2)) mnil)) (mchain leD ltD (mk (.int 0)) (mvar 2) (mop2 indexD (mvar 0) (mk (.int 1)))))))
theorem ck_ok {f : Fn} (hf : ∀ d, Atm d → f [d] = some (.bl (whB d), .non)) {n : Int} {ts : List (D × D)} (h : ∀ p ∈ ts, AtP p) {t : Nat} (ht : t < ts.length) :
    ck f [some (wbA (.int n) ts), some (nt t), none] = some (.bl (!stopA n ts t), [some (wbA (.int n) ts), some (nt t), none]) := by
  have m := List.getElem_mem ht
  have hp := h _ m
  have st : ∀ d, Atm d → stepLc [2] (gset 2) (mk true) (mandV (mcall f (mcons (mval (mvar 2)) mnil)) (mchain leD ltD (mk (.int 0)) (mvar 2) (mop2 indexD (mvar 0) (mk (.int 1))))) d [some (wbA (.int n) ts), some (nt t), none] = some (some (.bl (inB n d)), [some (wbA (.int n) ts), some (nt t), none]) := fun d hd => by
    have e := hf d hd
    have z := hd.fz
    have z2 := D.isFz_fz _ z
    have w1 := wa_1 (.int n) ts
    unfold stepLc mchain
    generalize wbA (.int n) ts = W at *
    rcases hd with rfl | ⟨b, rfl⟩ | ⟨i, rfl⟩ | rfl | rfl
    · simp [e, z, z2, w1, whB, inB]
    · simp [e, z, z2, w1, whB, inB]
    · simp only [fz_int, isFz_int] at z z2
      by_cases c : 0 ≤ i
      · simp [e, w1, whB, inB, c]
      · simp [e, w1, whB, inB, c]
    · simp [e, z, z2, w1, whB, inB]
    · simp [e, z, z2, w1, whB, inB]
  have lc := mlcL_all (vs := [2]) (g := gset 2) (c := mk true) (e := (mandV (mcall f (mcons (mval (mvar 2)) mnil)) (mchain leD ltD (mk (.int 0)) (mvar 2) (mop2 indexD (mvar 0) (mk (.int 1)))))) (δ := [some (wbA (.int n) ts), some (nt t), none]) (enc := fun d : D => d) (val := fun d => .bl (inB n d)) (L := [ts[t].1, ts[t].2]) (acc := []) (fun d md => by
    simp only [List.mem_cons, List.not_mem_nil, or_false] at md
    rcases md with rfl | rfl
    · exact st _ hp.1
    · exact st _ hp.2) (by simp [sizeLine_eq])
  simp only [List.map_cons, List.map_nil, List.nil_append] at lc
  have al := all_map true (fun d => inB n d) [ts[t].1, ts[t].2]
  simp only [List.map_cons, List.map_nil, List.all_cons, List.all_nil, Bool.and_true] at al
  have w2 := wa_2 (.int n) ts
  have ix := ix_tw (o := false) ht
  have tz := tw_fz hp
  have it := it_tw hp
  have ng : (!stopA n ts t) = (inB n ts[t].1 && inB n ts[t].2) := by
    unfold stopA bad
    rw [List.getD_eq_getElem?_getD, List.getElem?_eq_getElem ht]
    simp
  rw [ng]
  unfold ck
  generalize tw ts[t] = T at *
  generalize wbA (.int n) ts = W at *
  generalize ts.map tw = TS at *
  simp [w2, ix, tz, it, lc, al]
end Law
set_option Elab.async false
set_option linter.all false
set_option maxRecDepth 100000
set_option maxHeartbeats 2000000
/-! Y1: check_web, the law's own look, what is told. -/
namespace Law
open PySem L2 TL
def hC (f : Fn) : M Bool := (mor (mnot (mtest (mcall f (mcons (mval (mop2 indexD (mvar 0) (mk (.int 1)))) mnil)))) (mor (mnot (mtest (mchain leD leD (mk (.int 1)) (mop2 indexD (mvar 0) (mk (.int 1))) (mk (.int 40))))) (mtest (mop2 gtD (mop1 lenD (mop2 indexD (mvar 0) (mk (.int 2)))) (mk (.int 100))))))
theorem hC_ok {f : Fn} (hf : ∀ d, Atm d → f [d] = some (.bl (whB d), .non)) {many : D} {ts : List (D × D)} (hm : Atm many) :
    hC f [some (wbA many ts), none, none] = some (!hdB many ts.length, [some (wbA many ts), none, none]) := by
  have e := hf many hm
  have z := hm.fz
  have z2 := D.isFz_fz _ z
  have w1 := wa_1 many ts
  have w2 := wa_2 many ts
  have ln : lenD (.lst false (ts.map tw)) = some (.int ts.length) := by simp
  unfold hC mchain
  generalize wbA many ts = W at *
  generalize D.lst false (ts.map tw) = L at *
  rcases hm with rfl | ⟨b, rfl⟩ | ⟨i, rfl⟩ | rfl | rfl
  · simp [e, z, z2, w1, whB, hdB]
  · simp [e, z, z2, w1, whB, hdB]
  · simp only [fz_int, isFz_int] at z z2
    by_cases c1 : 1 ≤ i
    · by_cases c2 : i ≤ 40
      · have q : decide ((100 : Int) < (ts.length : Int)) = !decide (ts.length ≤ 100) := by
          rw [← decide_not]
          exact decide_eq_decide.mpr (by omega)
        simp [e, w1, w2, ln, whB, hdB, c1, c2, q]
      · simp [e, w1, w2, ln, whB, hdB, c1, c2]
    · simp [e, w1, w2, ln, whB, hdB, c1]
  · simp [e, z, z2, w1, whB, hdB]
  · simp [e, z, z2, w1, whB, hdB]
theorem b_check_web_eq : b_check_web = mseq (mifs (hC f_is_whole) (mraise "WebWrong" "at" (mk .non)) msk)
    (mfor (mbind (mop1 lenD (mop2 indexD (mvar 0) (mk (.int 2)))) fun d => mopt (range1D d)) (gset 1) (mkill [1] (mifs (mnot (mtest (ck f_is_whole))) (mraise "WebWrong" "at" (mvar 1)) msk))) := rfl
theorem b__law_due_eq : b__law_due = mseq (mifs (hC f__law_whole) (mret (mtup (mcons (mk (.str "web")) (mcons (mk .non) mnil)))) msk)
    (mseq (mfor (mbind (mop1 lenD (mop2 indexD (mvar 0) (mk (.int 2)))) fun d => mopt (range1D d)) (gset 1) (mkill [1] (mifs (mnot (mtest (ck f__law_whole))) (mret (mtup (mcons (mk (.str "web")) (mcons (mmove 1) mnil)))) msk)))
      (mret (mtup (mcons (mk (.str "told")) (mcons (mk .non) mnil))))) := rfl
section
variable {many : D} {ts : List (D × D)}
theorem hd_int (h : hdB many ts.length = true) : ∃ n, many = .int n := by
  unfold hdB at h
  split at h
  · exact ⟨_, rfl⟩
  · cases h
theorem loop_raise {n : Int} (h : ∀ p ∈ ts, AtP p) : mforL (gset 1) (mkill [1] (mifs (mnot (mtest (ck f_is_whole))) (mraise "WebWrong" "at" (mvar 1)) msk)) (nums ts.length) [some (wbA (.int n) ts), none, none] =
    some (flOf (fun t => .ex "WebWrong" "at" (nt t)) ((List.range ts.length).find? (stopA n ts)), [some (wbA (.int n) ts), none, none]) := by
  rw [nums_map]
  refine mforL_first (stop := stopA n ts) (fl := fun t => .ex "WebWrong" "at" (nt t)) (fun a => .inr ⟨_, _, _, rfl⟩) _ fun t m => ?_
  have ht := List.mem_range.mp m
  have e := ck_ok (f := f_is_whole) (fun d hd => c_is_whole hd) (n := n) h ht
  unfold stepFor mraise
  generalize wbA (.int n) ts = W at *
  cases c : stopA n ts t with
  | true =>
    rw [c] at e
    simp [e]
  | false =>
    rw [c] at e
    simp [e]
theorem loop_ret {n : Int} (h : ∀ p ∈ ts, AtP p) : mforL (gset 1) (mkill [1] (mifs (mnot (mtest (ck f__law_whole))) (mret (mtup (mcons (mk (.str "web")) (mcons (mmove 1) mnil)))) msk)) (nums ts.length) [some (wbA (.int n) ts), none, none] =
    some (flOf (fun t => .rt (.tup [.str "web", nt t])) ((List.range ts.length).find? (stopA n ts)), [some (wbA (.int n) ts), none, none]) := by
  rw [nums_map]
  refine mforL_first (stop := stopA n ts) (fl := fun t => .rt (.tup [.str "web", nt t])) (fun a => .inl ⟨_, rfl⟩) _ fun t m => ?_
  have ht := List.mem_range.mp m
  have e := ck_ok (f := f__law_whole) (fun d hd => c__law_whole hd) (n := n) h ht
  have z2 : 2 ≤ sizeLine := by rw [sizeLine_eq]; omega
  unfold stepFor
  generalize wbA (.int n) ts = W at *
  cases c : stopA n ts t with
  | true =>
    rw [c] at e
    simp [e, z2]
  | false =>
    rw [c] at e
    simp [e]
/-- what is due -/
def ans (many : D) (ts : List (D × D)) : D := match due many ts with
  | none => .tup [.str "told", .non]
  | some none => .tup [.str "web", .non]
  | some (some t) => .tup [.str "web", nt t]
theorem due_int {n : Int} (h : hdB (.int n) ts.length = true) : due (.int n) ts = ((List.range ts.length).find? (stopA n ts)).map some := by
  show (if _ then _ else _) = _
  rw [if_pos h]
theorem due_no (h : hdB many ts.length = false) : due many ts = some none := by
  unfold due
  split
  · rw [if_neg (by rw [h]; exact Bool.false_ne_true)]
  · rfl
theorem c__law_due (hm : Atm many) (h : ∀ p ∈ ts, AtP p) (hl : ts.length ≤ 1000) : f__law_due [wbA many ts] = some (ans many ts, .non) := by
  have e := hC_ok (f := f__law_whole) (fun d hd => c__law_whole hd) (ts := ts) hm
  have w2 := wa_2 many ts
  have ln : lenD (.lst false (ts.map tw)) = some (.int ts.length) := by simp
  have rg := rg_len (n := ts.length) (sz (by omega))
  have z2 : 2 ≤ sizeLine := by rw [sizeLine_eq]; omega
  unfold f__law_due runS
  rw [b__law_due_eq]
  cases c : hdB many ts.length with
  | false =>
    rw [c] at e
    unfold ans
    rw [due_no c]
    generalize wbA many ts = W at *
    simp [e, z2]
  | true =>
    rw [c] at e
    obtain ⟨n, rfl⟩ := hd_int c
    have lp := loop_ret (n := n) h
    unfold ans
    rw [due_int c]
    generalize wbA (.int n) ts = W at *
    generalize D.lst false (ts.map tw) = L at *
    cases q : (List.range ts.length).find? (stopA n ts) with
    | none =>
      rw [q] at lp
      simp [e, w2, ln, rg, lp, z2, flOf]
    | some t =>
      rw [q] at lp
      simp [e, w2, ln, rg, lp, z2, flOf]
theorem c_check_web (hm : Atm many) (h : ∀ p ∈ ts, AtP p) (hl : ts.length ≤ 1000) : f_check_web [wbA many ts] = some (match due many ts with
    | none => .ok .non
    | some none => .error ("WebWrong", "at", .non)
    | some (some t) => .error ("WebWrong", "at", nt t)) := by
  have e := hC_ok (f := f_is_whole) (fun d hd => c_is_whole hd) (ts := ts) hm
  have w2 := wa_2 many ts
  have ln : lenD (.lst false (ts.map tw)) = some (.int ts.length) := by simp
  have rg := rg_len (n := ts.length) (sz (by omega))
  unfold f_check_web runX
  rw [b_check_web_eq]
  cases c : hdB many ts.length with
  | false =>
    rw [c] at e
    rw [due_no c]
    have zn : D.non.isFz = true := rfl
    unfold mraise
    generalize wbA many ts = W at *
    simp [e, zn]
  | true =>
    rw [c] at e
    obtain ⟨n, rfl⟩ := hd_int c
    have lp := loop_raise (n := n) h
    rw [due_int c]
    generalize wbA (.int n) ts = W at *
    generalize D.lst false (ts.map tw) = L at *
    generalize mkill [1] (mifs (mnot (mtest (ck f_is_whole))) (mraise "WebWrong" "at" (mvar 1)) msk) = B at *
    unfold mraise
    cases q : (List.range ts.length).find? (stopA n ts) with
    | none =>
      rw [q] at lp
      simp [e, w2, ln, rg, lp, flOf]
    | some t =>
      rw [q] at lp
      simp [e, w2, ln, rg, lp, flOf]
theorem c__law_told (hm : Atm many) (h : ∀ p ∈ ts, AtP p) (hl : ts.length ≤ 1000) : f__law_told [wbA many ts] = some (ans many ts, .non) := by
  have e := c_check_web hm h hl
  have z := wa_fz hm h
  have z2 := D.isFz_fz _ z
  unfold f__law_told runS b__law_told mtryR mretX mtup2X mcallX ans
  generalize wbA many ts = W at *
  generalize due many ts = q at *
  rcases q with _ | _ | t <;> simp [e, z, z2]
theorem ans_fit (many : D) (ts : List (D × D)) : (ans many ts).fit 11 = true ∧ (ans many ts).isFz = true := by
  have s1 : ∀ n, (D.str "web").fit n = true := fun n => by rw [D.fit]; decide +kernel
  have s2 : ∀ n, (D.str "told").fit n = true := fun n => by rw [D.fit]; decide +kernel
  unfold ans
  generalize due many ts = q
  rcases q with _ | _ | t <;> simp [fit_tup, s1, s2, sizeLine_eq, nt] <;> rfl
end
end Law
set_option Elab.async false
set_option linter.all false
set_option maxRecDepth 100000
set_option maxHeartbeats 2000000
/-! Y2: the law's turn. -/
namespace Law
open PySem L2 TL
def a_1 : MS := (masg (mfz (mcall1 1 f__law_web (mcons (mop2 addD (mk (.int 1)) (mcall1 1 f__law_draw (mcons (mk (.int 40)) mnil))) (mcons (mcall1 1 f__law_draw (mcons (mk (.int 30)) mnil)) (mcons (mk (.int 5)) mnil))))) (gset 3))
def a_2 : MS := (masg (mval (mop2 indexD (mvar 3) (mk (.int 1)))) (gset 4))
def a_3 : MS := (masg (mop1 listD (mop2 indexD (mvar 3) (mk (.int 2)))) (gset 5))
def a_4 : MS := (masg (mfz (mcall1 1 f__law_draw (mcons (mk (.int 8)) mnil))) (gset 6))
def a_5 : MS := (mifs (mtest (mop2 eqD (mvar 6) (mk (.int 0)))) (masg (mop2 indexD (mlst (mcons (mk (.int 0)) (mcons (mop1 negD (mk (.int 1))) (mcons (mk (.int 41)) (mcons (mk .non) (mcons (mk (.bl true)) (mcons (mk (.str "x")) (mcons (mop2 powD (mk (.int 10)) (mk (.int 20))) mnil)))))))) (mcall1 1 f__law_draw (mcons (mk (.int 7)) mnil))) (gset 4)) msk)
def a_6 : MS := (mifs (mtest (mop2 eqD (mvar 6) (mk (.int 1)))) (masg (mlc (mbind (mop2 indexD (mlst (mcons (mk (.int 99)) (mcons (mk (.int 100)) (mcons (mk (.int 101)) (mcons (mk (.int 130)) mnil))))) (mcall1 1 f__law_draw (mcons (mk (.int 4)) mnil))) fun d => mopt (range1D d)) [7] (gset 7) (mk true) (mfz (mtup (mcons (mk (.int 0)) (mcons (mk (.int 0)) mnil))))) (gset 5)) msk)
def i_1 : MS := (masg (mfz (mcall1 1 f__law_draw (mcons (mop1 lenD (mvar 5)) mnil))) (gset 8))
def i_2 : MS := (masg (mop2 indexD (mlst (mcons (mval (mvar 4)) (mcons (mop1 negD (mk (.int 1))) (mcons (mk (.bl true)) (mcons (mk (.bl false)) (mcons (mk .non) (mcons (mk (.str "0")) (mcons (mop2 powD (mk (.int 10)) (mk (.int 20))) (mcons (mop2 subD (mvar 4) (mk (.int 1))) mnil))))))))) (mcall1 1 f__law_draw (mcons (mk (.int 8)) mnil))) (gset 9))
def i_3 : MS := (mput 5 setD (mop2 indexD (mlst (mcons (mtup (mcons (mval (mvar 9)) (mcons (mval (mop2 indexD (mop2 indexD (mvar 5) (mvar 8)) (mk (.int 1)))) mnil))) (mcons (mtup (mcons (mval (mop2 indexD (mop2 indexD (mvar 5) (mvar 8)) (mk (.int 0)))) (mcons (mval (mvar 9)) mnil))) (mcons (mtup (mcons (mval (mvar 9)) (mcons (mval (mvar 9)) mnil))) mnil)))) (mcall1 1 f__law_draw (mcons (mk (.int 3)) mnil))) (mk []) (mcons (mval (mvar 8)) mnil))
def i_7 : MS := (mfor (mbind (mop2 addD (mk (.int 1)) (mcall1 1 f__law_draw (mcons (mk (.int 2)) mnil))) fun d => mopt (range1D d)) (gset 7) (mkill [7, 8, 9] (mseq i_1 (mseq i_2 i_3))))
def a_7 : MS := (mifs (mand (mtest (mop2 gtD (mvar 6) (mk (.int 4)))) (mtest (mop2 gtD (mop1 lenD (mvar 5)) (mk (.int 0))))) i_7 msk)
def a_8 : MS := (masg (mfz (mtup (mcons (mk (.str "web")) (mcons (mval (mvar 4)) (mcons (mmove 5) mnil))))) (gset 10))
def a_9 : MS := (masg (mfz (mcall f__law_copy (mcons (mval (mvar 10)) mnil))) (gset 11))
def a_10 : MS := (mifs (mor (mnot (mtest (mcall f__law_same (mcons (mcall f__law_told (mcons (mval (mvar 11)) mnil)) (mcons (mcall f__law_due (mcons (mval (mvar 10)) mnil)) mnil))))) (mnot (mtest (mcall f__law_same (mcons (mval (mvar 11)) (mcons (mval (mvar 10)) mnil)))))) (mret (mk (.bl false))) msk)
def turn : MS := mkill [2, 3, 4, 5, 6, 7, 8, 9, 10, 11] (mseq a_1 (mseq a_2 (mseq a_3 (mseq a_4 (mseq a_5 (mseq a_6 (mseq a_7 (mseq a_8 (mseq a_9 a_10)))))))))
theorem b_law_eq : b_law = mseq (mfor (mbind (mk (.int 8)) fun d => mopt (range1D d)) (gset 2) turn) (mret (mandV (mk (.bl true)) (mop1 notD (mk (.bl false))))) := rfl
def prA (e : Nat × Nat) : D × D := (nt e.1, nt e.2)
def twl (ts : List (D × D)) : D := .lst true (ts.map tw)
theorem pow_20 : powD (.int 10) (.int 20) = some (.int 100000000000000000000) := by
  unfold powD iop
  dsimp only
  rw [if_pos (by decide)]
  rfl
theorem Atm.int (i : Int) : Atm (.int i) := .inr (.inr (.inl ⟨i, rfl⟩))
theorem Atm.nt (i : Nat) : Atm (nt i) := Atm.int i
theorem Atm.bl (b : Bool) : Atm (.bl b) := .inr (.inl ⟨b, rfl⟩)
theorem Atm.non : Atm .non := .inl rfl
def fr (d v : D) (w m t k x7 x8 x9 x10 x11 : Option D) : En := [none, some d, some v, w, m, t, k, x7, x8, x9, x10, x11]
section
variable {d v : D} {w m t k : Option D} {n : Nat} {es : Es} {many : D} {ts : List (D × D)}
theorem A1 (hd : DrOk d) : ∃ n es d', a_1 (fr d v none none none none none none none none none) = some (.nx, fr d' v (some (wb n es)) none none none none none none none none) ∧ DrOk d' ∧ 0 < n ∧ n ≤ 40 ∧ EsOk n es ∧ es.length ≤ 30 := by
  obtain ⟨r1, d1, e1, h1, hd1⟩ := c_dr (L := 40) hd (by omega) (by omega)
  obtain ⟨r2, d2, e2, h2, hd2⟩ := c_dr (L := 30) hd1 (by omega) (by omega)
  have e1 : f__law_draw [d, .int 40] = some (nt r1, d1) := e1
  have e2 : f__law_draw [d1, .int 30] = some (nt r2, d2) := e2
  have ea : addD (.int 1) (nt r1) = some (nt (1 + r1)) := by
    unfold nt
    rw [add_int]
    congr 2
  obtain ⟨es, d4, e4, hd4, hes, hl⟩ := c__law_web (n := 1 + r1) (m := r2) (od := 5) hd2 (by omega) (by omega) (by omega)
  refine ⟨1 + r1, es, d4, ?_, hd4, by omega, by omega, hes, by omega⟩
  unfold a_1 fr
  simp [e1, e2, ea, e4]
theorem A2 : a_2 (fr d v (some (wb n es)) none none none none none none none none) = some (.nx, fr d v (some (wb n es)) (some (nt n)) none none none none none none none) := by
  unfold a_2 fr
  simp
theorem A3 (hl : es.length ≤ 30) : a_3 (fr d v (some (wb n es)) m none none none none none none none) = some (.nx, fr d v (some (wb n es)) m (some (twl (es.map prA))) none none none none none none) := by
  have e : listD (.lst false (es.map pr)) = some (twl (es.map prA)) := by
    unfold listD twl
    rw [List.map_map]
    have : tw ∘ prA = pr := rfl
    rw [this]
    simp
  unfold a_3 fr
  simp [e]
theorem A4 (hd : DrOk d) : ∃ d' r, a_4 (fr d v w m t none none none none none none) = some (.nx, fr d' v w m t (some (nt r)) none none none none none) ∧ DrOk d' := by
  obtain ⟨r1, d1, e1, h1, hd1⟩ := c_dr (L := 8) hd (by omega) (by omega)
  have e1 : f__law_draw [d, .int 8] = some (nt r1, d1) := e1
  refine ⟨d1, r1, ?_, hd1⟩
  unfold a_4 fr
  simp [e1]
theorem A5 (hd : DrOk d) (r : Nat) : ∃ d' many, a_5 (fr d v w (some (nt n)) t (some (nt r)) none none none none none) = some (.nx, fr d' v w (some many) t (some (nt r)) none none none none none) ∧ DrOk d' ∧ Atm many ∧ (r ≠ 0 → many = nt n) := by
  have q : eqD (nt r) (.int 0) = some (.bl (decide (r = 0))) := eq_nt r 0
  by_cases c : r = 0
  · subst c
    obtain ⟨r1, d1, e1, h1, hd1⟩ := c_dr (L := 7) hd (by omega) (by omega)
    have e1 : f__law_draw [d, .int 7] = some (nt r1, d1) := e1
    have ng : negD (.int 1) = some (.int (-1)) := rfl
    have p := pow_20
    have z7 : 7 ≤ sizeLine := by rw [sizeLine_eq]; omega
    have ix : ∃ x, indexD (.lst true [.int 0, .int (-1), .int 41, .non, .bl true, .str "x", .int 100000000000000000000]) (nt r1) = some x ∧ Atm x := by
      refine ⟨_, ix_lst (n := r1) (by simpa using h1), ?_⟩
      have m := List.getElem_mem (l := ([.int 0, .int (-1), .int 41, .non, .bl true, .str "x", .int 100000000000000000000] : List D)) (n := r1) (by simpa using h1)
      generalize ([.int 0, .int (-1), .int 41, .non, .bl true, .str "x", .int 100000000000000000000] : List D)[r1] = y at *
      simp only [List.mem_cons, List.not_mem_nil, or_false] at m
      rcases m with rfl | rfl | rfl | rfl | rfl | rfl | rfl
      · exact .int _
      · exact .int _
      · exact .int _
      · exact .non
      · exact .bl _
      · exact .inr (.inr (.inr (.inl rfl)))
      · exact .int _
    obtain ⟨x, ix, hx⟩ := ix
    refine ⟨d1, x, ?_, hd1, hx, fun z => absurd rfl z⟩
    unfold a_5 fr
    simp [q, e1, ng, p, z7, ix]
  · refine ⟨d, nt n, ?_, hd, .nt n, fun _ => rfl⟩
    unfold a_5 fr
    simp [q, c]
theorem A6 (hd : DrOk d) (hl : ts.length ≤ 30) (h : ∀ p ∈ ts, AtP p) (r : Nat) : ∃ d' ts', a_6 (fr d v w m (some (twl ts)) (some (nt r)) none none none none none) = some (.nx, fr d' v w m (some (twl ts')) (some (nt r)) none none none none none) ∧ DrOk d' ∧ ts'.length ≤ 130 ∧ ∀ p ∈ ts', AtP p := by
  have q : eqD (nt r) (.int 1) = some (.bl (decide (r = 1))) := eq_nt r 1
  by_cases c : r = 1
  · subst c
    obtain ⟨r1, d1, e1, h1, hd1⟩ := c_dr (L := 4) hd (by omega) (by omega)
    have e1 : f__law_draw [d, .int 4] = some (nt r1, d1) := e1
    have z4 : 4 ≤ sizeLine := by rw [sizeLine_eq]; omega
    have z2 : 2 ≤ sizeLine := by rw [sizeLine_eq]; omega
    have ix : ∃ x : Nat, indexD (.lst true [.int 99, .int 100, .int 101, .int 130]) (nt r1) = some (nt x) ∧ x ≤ 130 := by
      have : r1 = 0 ∨ r1 = 1 ∨ r1 = 2 ∨ r1 = 3 := by omega
      rcases this with rfl | rfl | rfl | rfl
      · exact ⟨99, by unfold nt; simp, by omega⟩
      · exact ⟨100, by unfold nt; simp, by omega⟩
      · exact ⟨101, by unfold nt; simp, by omega⟩
      · exact ⟨130, by unfold nt; simp, by omega⟩
    obtain ⟨x, ix, hx⟩ := ix
    have rg := rg_nt (n := x) (sz (by omega))
    have lc := mlcL_all (vs := [7]) (g := gset 7) (c := mk true) (e := (mfz (mtup (mcons (mk (.int 0)) (mcons (mk (.int 0)) mnil))))) (δ := fr d1 v w m (some (twl ts)) (some (nt 1)) none none none none none) (enc := nt) (val := fun _ => tw (.int 0, .int 0)) (L := List.range x) (acc := []) (fun a _ => by
      unfold stepLc fr tw
      simp [z2]) (by simpa using sz (by omega))
    rw [← nums_map, List.nil_append] at lc
    refine ⟨d1, (List.range x).map fun _ => (.int 0, .int 0), ?_, hd1, by simpa using hx, fun p m => ?_⟩
    · unfold a_6
      unfold fr at lc ⊢
      have et : D.lst true ((List.range x).map fun _ => tw (.int 0, .int 0)) = twl ((List.range x).map fun _ => (.int 0, .int 0)) := by
        unfold twl
        rw [List.map_map]
        rfl
      generalize twl ts = A at *
      generalize (List.range x).map (fun _ => tw (.int 0, .int 0)) = B at *
      generalize twl ((List.range x).map fun _ => ((.int 0 : D), (.int 0 : D))) = C at *
      simp [q, e1, z4, ix, rg, lc, et]
    · obtain ⟨_, _, rfl⟩ := List.mem_map.mp m
      exact ⟨.int _, .int _⟩
  · refine ⟨d, ts, ?_, hd, by omega, h⟩
    unfold a_6 fr
    generalize twl ts = A
    simp [q, c]
end
end Law
set_option Elab.async false
set_option linter.all false
set_option maxRecDepth 100000
set_option maxHeartbeats 2000000
/-! Y3: the law's turn, on; law_true. -/
namespace Law
open PySem L2 TL
section
variable {d v : D} {w m t k : Option D} {n : Nat} {es : Es} {many : D} {ts : List (D × D)}
theorem i1_ok (hd : DrOk d) (h0 : 0 < ts.length) (hl : ts.length ≤ 130) {x7 : Option D} : ∃ d' a, i_1 (fr d v w m (some (twl ts)) k x7 none none none none) = some (.nx, fr d' v w m (some (twl ts)) k x7 (some (nt a)) none none none) ∧ DrOk d' ∧ a < ts.length := by
  obtain ⟨r1, d1, e1, h1, hd1⟩ := c_dr (L := ts.length) hd h0 (by omega)
  have ln : lenD (twl ts) = some (nt ts.length) := by unfold twl nt; simp
  refine ⟨d1, r1, ?_, hd1, h1⟩
  unfold i_1 fr
  generalize twl ts = A at *
  simp [ln, e1]
theorem i2_ok (hd : DrOk d) {x7 x8 : Option D} : ∃ d' o, i_2 (fr d v w (some (nt n)) t k x7 x8 none none none) = some (.nx, fr d' v w (some (nt n)) t k x7 x8 (some o) none none) ∧ DrOk d' ∧ Atm o := by
  obtain ⟨r1, d1, e1, h1, hd1⟩ := c_dr (L := 8) hd (by omega) (by omega)
  have e1 : f__law_draw [d, .int 8] = some (nt r1, d1) := e1
  have ng : negD (.int 1) = some (.int (-1)) := rfl
  have p := pow_20
  have z8 : 8 ≤ sizeLine := by rw [sizeLine_eq]; omega
  have sb : subD (nt n) (.int 1) = some (.int ((n : Int) - 1)) := rfl
  have ix : ∃ x, indexD (.lst true [nt n, .int (-1), .bl true, .bl false, .non, .str "0", .int 100000000000000000000, .int ((n : Int) - 1)]) (nt r1) = some x ∧ Atm x := by
    refine ⟨_, ix_lst (n := r1) (by simpa using h1), ?_⟩
    have m := List.getElem_mem (l := ([nt n, .int (-1), .bl true, .bl false, .non, .str "0", .int 100000000000000000000, .int ((n : Int) - 1)] : List D)) (n := r1) (by simpa using h1)
    generalize ([nt n, .int (-1), .bl true, .bl false, .non, .str "0", .int 100000000000000000000, .int ((n : Int) - 1)] : List D)[r1] = y at *
    simp only [List.mem_cons, List.not_mem_nil, or_false] at m
    rcases m with rfl | rfl | rfl | rfl | rfl | rfl | rfl | rfl
    · exact .nt _
    · exact .int _
    · exact .bl _
    · exact .bl _
    · exact .non
    · exact .inr (.inr (.inr (.inr rfl)))
    · exact .int _
    · exact .int _
  obtain ⟨x, ix, hx⟩ := ix
  refine ⟨d1, x, ?_, hd1, hx⟩
  unfold i_2 fr
  simp [e1, ng, p, z8, sb, ix]
theorem i3_ok (hd : DrOk d) (h : ∀ p ∈ ts, AtP p) {a : Nat} (ha : a < ts.length) {o : D} (ho : Atm o) {x7 : Option D} : ∃ d' ts', i_3 (fr d v w m (some (twl ts)) k x7 (some (nt a)) (some o) none none) = some (.nx, fr d' v w m (some (twl ts')) k x7 (some (nt a)) (some o) none none) ∧ DrOk d' ∧ ts'.length = ts.length ∧ ∀ p ∈ ts', AtP p := by
  obtain ⟨r1, d1, e1, h1, hd1⟩ := c_dr (L := 3) hd (by omega) (by omega)
  have e1 : f__law_draw [d, .int 3] = some (nt r1, d1) := e1
  have z3 : 3 ≤ sizeLine := by rw [sizeLine_eq]; omega
  have z2 : 2 ≤ sizeLine := by rw [sizeLine_eq]; omega
  have hp := h _ (List.getElem_mem ha)
  have ix := ix_tw (o := true) ha
  have t0 : indexD (tw ts[a]) (.int 0) = some ts[a].1 := by unfold tw; simp
  have t1 : indexD (tw ts[a]) (.int 1) = some ts[a].2 := by unfold tw; simp
  have f0 := hp.1.fz
  have f1 := hp.2.fz
  have fo := ho.fz
  have ixx : ∃ q, indexD (.lst true [tw (o, ts[a].2), tw (ts[a].1, o), tw (o, o)]) (nt r1) = some (tw q) ∧ AtP q := by
    have : r1 = 0 ∨ r1 = 1 ∨ r1 = 2 := by omega
    rcases this with rfl | rfl | rfl
    · exact ⟨(o, ts[a].2), by unfold nt; simp, ho, hp.2⟩
    · exact ⟨(ts[a].1, o), by unfold nt; simp, hp.1, ho⟩
    · exact ⟨(o, o), by unfold nt; simp, ho, ho⟩
  obtain ⟨q, ixx, hq⟩ := ixx
  have st : setD (twl ts) [nt a, tw q] = some (.non, twl (ts.set a q)) := by
    unfold twl nt
    rw [set_l (tw q) (by simpa using ha), List.map_set]
  refine ⟨d1, ts.set a q, ?_, hd1, by simp, fun p m => ?_⟩
  · have fq := tw_fz hq
    have w1 : D.tup [o, ts[a].2] = tw (o, ts[a].2) := rfl
    have w2 : D.tup [ts[a].1, o] = tw (ts[a].1, o) := rfl
    have w3 : D.tup [o, o] = tw (o, o) := rfl
    have ix : indexD (twl ts) (nt a) = some (tw ts[a]) := ix
    have g0 : (twl ts).getP [] = some (twl ts) := rfl
    have p0 : (twl ts).putP [] (twl (ts.set a q)) = some (twl (ts.set a q)) := rfl
    unfold i_3 fr
    generalize twl ts = A at *
    generalize twl (ts.set a q) = B at *
    generalize tw ts[a] = T at *
    generalize ts[a] = pp at *
    obtain ⟨p1, p2⟩ := pp
    simp [e1, z3, z2, ix, t0, t1, f0, f1, fo, w1, w2, w3, ixx, fq, pl_ok, st, g0, p0]
  · rcases List.mem_or_eq_of_mem_set m with m | rfl
    · exact h p m
    · exact hq
theorem A7 (hd : DrOk d) (hl : ts.length ≤ 130) (h : ∀ p ∈ ts, AtP p) (r : Nat) (hm : r ≠ 0 → many = nt n) : ∃ d' ts', a_7 (fr d v w (some many) (some (twl ts)) (some (nt r)) none none none none none) = some (.nx, fr d' v w (some many) (some (twl ts')) (some (nt r)) none none none none none) ∧ DrOk d' ∧ ts'.length ≤ 130 ∧ ∀ p ∈ ts', AtP p := by
  have g1 : gtD (nt r) (.int 4) = some (.bl (decide (4 < r))) := by
    unfold nt
    rw [gt_int]
    congr 2
    exact decide_eq_decide.mpr (by omega)
  have ln : lenD (twl ts) = some (nt ts.length) := by unfold twl nt; simp
  have g2 : gtD (nt ts.length) (.int 0) = some (.bl (decide (0 < ts.length))) := by
    unfold nt
    rw [gt_int]
    congr 2
    exact decide_eq_decide.mpr (by omega)
  by_cases c : 4 < r ∧ 0 < ts.length
  · obtain ⟨c1, c2⟩ := c
    have hmn := hm (by omega)
    subst hmn
    obtain ⟨r1, d1, e1, h1, hd1⟩ := c_dr (L := 2) hd (by omega) (by omega)
    have e1 : f__law_draw [d, .int 2] = some (nt r1, d1) := e1
    have ad : addD (.int 1) (nt r1) = some (nt (1 + r1)) := by unfold nt; rw [add_int]; congr 2
    have rg := rg_nt (n := 1 + r1) (sz (by omega))
    obtain ⟨δ', lp, d', ts', rfl, hd', hl', h'⟩ := mforL_inv (g := gset 7) (b := (mkill [7, 8, 9] (mseq i_1 (mseq i_2 i_3)))) (enc := nt) (L := List.range (1 + r1))
      (fun pre δ => ∃ d' ts', δ = fr d' v w (some (nt n)) (some (twl ts')) (some (nt r)) none none none none none ∧ DrOk d' ∧ ts'.length = ts.length ∧ ∀ p ∈ ts', AtP p) (fun pre x post e δ hP => by
        obtain ⟨d0, ts0, rfl, hd0, hl0, h0⟩ := hP
        obtain ⟨d2, a, q1, hd2, ha⟩ := i1_ok (v := v) (w := w) (m := some (nt n)) (k := some (nt r)) (x7 := some (nt x)) hd0 (ts := ts0) (by omega) (by omega)
        obtain ⟨d3, o, q2, hd3, ho⟩ := i2_ok (v := v) (w := w) (t := some (twl ts0)) (k := some (nt r)) (x7 := some (nt x)) (x8 := some (nt a)) (n := n) hd2
        obtain ⟨d4, ts4, q3, hd4, hl4, h4⟩ := i3_ok (v := v) (w := w) (m := some (nt n)) (k := some (nt r)) (x7 := some (nt x)) hd3 h0 ha ho
        refine ⟨.nx, fr d4 v w (some (nt n)) (some (twl ts4)) (some (nt r)) none none none none none, ?_, .inl rfl, d4, ts4, rfl, hd4, by omega, h4⟩
        unfold stepFor
        unfold fr at q1 q2 q3 ⊢
        generalize twl ts0 = A at *
        generalize twl ts4 = B at *
        simp [q1, q2, q3]) (List.range (1 + r1)) [] rfl (fr d1 v w (some (nt n)) (some (twl ts)) (some (nt r)) none none none none none) ⟨d1, ts, rfl, hd1, rfl, h⟩
    rw [← nums_map] at lp
    refine ⟨d', ts', ?_, hd', by omega, h'⟩
    have e7 : i_7 (fr d v w (some (nt n)) (some (twl ts)) (some (nt r)) none none none none none) = some (.nx, fr d' v w (some (nt n)) (some (twl ts')) (some (nt r)) none none none none none) := by
      unfold i_7
      generalize mkill [7, 8, 9] (mseq i_1 (mseq i_2 i_3)) = bb at *
      unfold fr at lp ⊢
      generalize twl ts = A at *
      generalize twl ts' = B at *
      simp [e1, ad, rg, lp]
    unfold a_7
    generalize i_7 = ii at *
    unfold fr at e7 ⊢
    generalize twl ts = A at *
    generalize twl ts' = B at *
    simp [g1, ln, g2, c1, c2, e7]
  · refine ⟨d, ts, ?_, hd, hl, h⟩
    unfold a_7
    generalize i_7 = ii at *
    unfold fr
    generalize twl ts = A at *
    by_cases c1 : 4 < r
    · have c2 : ¬ 0 < ts.length := fun z => c ⟨c1, z⟩
      simp [g1, ln, g2, c1, c2]
    · simp [g1, c1]
theorem A8 (hm : Atm many) (h : ∀ p ∈ ts, AtP p) : a_8 (fr d v w (some many) (some (twl ts)) k none none none none none) = some (.nx, fr d v w (some many) none k none none none (some (wbA many ts)) none) := by
  have z3 : 3 ≤ sizeLine := by rw [sizeLine_eq]; omega
  have f := hm.fz
  have f2 : (twl ts).fz = .lst false (ts.map tw) := by
    unfold twl
    rw [fz_lst, D.isFzs_fzs _ (tws_fz h)]
  have e : D.tup [.str "web", many, .lst false (ts.map tw)] = wbA many ts := rfl
  have f3 := D.isFz_fz _ f
  unfold a_8 fr
  generalize twl ts = A at *
  generalize D.lst false (ts.map tw) = B at *
  simp [f, f2, f3, z3, e]
theorem fit_wa (hm : Atm many) (h : ∀ p ∈ ts, AtP p) (hl : ts.length ≤ 130) : (wbA many ts).fit 11 = true := by
  have s1 : ∀ n, (D.str "web").fit n = true := fun n => by rw [D.fit]; decide +kernel
  have f : (D.lst false (ts.map tw)).fit 10 = true := fit_map (sz (by omega)) fun p m => by
    unfold tw
    rw [fit_tup]
    simp [(h p m).1.fit, (h p m).2.fit, sizeLine_eq]
  unfold wbA
  rw [fit_tup]
  simp [s1, f, hm.fit, sizeLine_eq]
theorem A9 (hm : Atm many) (h : ∀ p ∈ ts, AtP p) (hl : ts.length ≤ 130) : a_9 (fr d v w m t k none none none (some (wbA many ts)) none) = some (.nx, fr d v w m t k none none none (some (wbA many ts)) (some (wbA many ts))) := by
  have f := fit_wa hm h hl
  have e := c_copy f
  have u := un_fz 11 _ f
  have z := wa_fz hm h
  have z2 := D.isFz_fz _ z
  unfold a_9 fr
  generalize wbA many ts = W at *
  simp [z, z2, e, u]
theorem A10 (hm : Atm many) (h : ∀ p ∈ ts, AtP p) (hl : ts.length ≤ 130) : a_10 (fr d v w m t k none none none (some (wbA many ts)) (some (wbA many ts))) = some (.nx, fr d v w m t k none none none (some (wbA many ts)) (some (wbA many ts))) := by
  have f := fit_wa hm h hl
  have e1 := c__law_told hm h (by omega)
  have e2 := c__law_due hm h (by omega)
  have e3 := c_same f
  have e4 := c_same (ans_fit many ts).1
  have z := wa_fz hm h
  have z2 := D.isFz_fz _ z
  have z3 := D.isFz_fz _ (ans_fit many ts).2
  unfold a_10 fr
  generalize wbA many ts = W at *
  generalize ans many ts = S at *
  simp [z, z2, z3, e1, e2, e3, e4]
theorem turn_ok (hd : DrOk d) : ∃ d', stepFor (gset 2) turn v (none :: some d :: List.replicate 10 none) = some (.nx, none :: some d' :: List.replicate 10 none) ∧ DrOk d' := by
  obtain ⟨n, es, d1, e1, hd1, h0, h40, hes, h30⟩ := A1 (v := v) hd
  have e2 := A2 (d := d1) (v := v) (n := n) (es := es)
  have e3 := A3 (d := d1) (v := v) (n := n) (es := es) (m := some (nt n)) h30
  obtain ⟨d4, r, e4, hd4⟩ := A4 (v := v) (w := some (wb n es)) (m := some (nt n)) (t := some (twl (es.map prA))) hd1
  obtain ⟨d5, many, e5, hd5, hm, hr⟩ := A5 (v := v) (w := some (wb n es)) (t := some (twl (es.map prA))) (n := n) hd4 r
  obtain ⟨d6, t6, e6, hd6, hl6, h6⟩ := A6 (v := v) (w := some (wb n es)) (m := some many) (ts := es.map prA) hd5 (by simpa using h30) (fun p m => by
    obtain ⟨e, _, rfl⟩ := List.mem_map.mp m
    exact ⟨.nt _, .nt _⟩) r
  obtain ⟨d7, t7, e7, hd7, hl7, h7⟩ := A7 (v := v) (w := some (wb n es)) (n := n) hd6 hl6 h6 r hr
  have e8 := A8 (d := d7) (v := v) (w := some (wb n es)) (k := some (nt r)) hm h7
  have e9 := A9 (d := d7) (v := v) (w := some (wb n es)) (m := some many) (t := none) (k := some (nt r)) hm h7 hl7
  have e10 := A10 (d := d7) (v := v) (w := some (wb n es)) (m := some many) (t := none) (k := some (nt r)) hm h7 hl7
  refine ⟨d7, ?_, hd7⟩
  unfold stepFor turn
  generalize a_1 = b1 at *
  generalize a_2 = b2 at *
  generalize a_3 = b3 at *
  generalize a_4 = b4 at *
  generalize a_5 = b5 at *
  generalize a_6 = b6 at *
  generalize a_7 = b7 at *
  generalize a_8 = b8 at *
  generalize a_9 = b9 at *
  generalize a_10 = b10 at *
  unfold fr at e1 e2 e3 e4 e5 e6 e7 e8 e9 e10
  generalize twl (es.map prA) = A at *
  generalize twl t6 = B at *
  generalize twl t7 = C at *
  generalize wbA many t7 = W at *
  generalize wb n es = W0 at *
  simp [List.replicate, e1, e2, e3, e4, e5, e6, e7, e8, e9, e10]
end
theorem law_true : ∀ ns : List Int, ns.length ≤ 63 → ∃ d δ', (fun ns => some (drT ns)) ns = some d ∧ b_law (none :: some d :: List.replicate 10 none) = some (.rt (.bl true), δ') := fun l _ => by
  obtain ⟨δ', h1, d', rfl, hd'⟩ := mforL_inv (g := gset 2) (b := turn) (enc := nt) (L := List.range 8) (fun _ δ => ∃ d, δ = (none :: some d :: List.replicate 10 none) ∧ DrOk d) (fun pre t post e δ ⟨d, e1, hd⟩ => by
    subst e1
    obtain ⟨d', e2, hd'⟩ := turn_ok (v := nt t) hd
    exact ⟨.nx, _, e2, .inl rfl, d', rfl, hd'⟩) (List.range 8) [] rfl (none :: some (drw true l 0 0 1) :: List.replicate 10 none) ⟨drw true l 0 0 1, rfl, ⟨true, l, 0, 0, 1, rfl, Int.le_refl _⟩⟩
  rw [← nums_map] at h1
  have r4 : range1D (.int 8) = some (nums 8) := rg_nums 8 (by rw [sizeLine_eq]; omega)
  have nf : notD (.bl false) = some (.bl true) := rfl
  refine ⟨drw true l 0 0 1, (none :: some d' :: List.replicate 10 none), rfl, ?_⟩
  rw [b_law_eq, ev_seq, ev_for]
  simp only [ev_bind, ev_mk, Option.bind_some, ev_opt, r4, Option.map_some, h1, ev_ret]
  simp [nf]
end Law
set_option Elab.async false
set_option linter.all false
set_option maxRecDepth 100000
set_option maxHeartbeats 1000000
namespace Law
open PySem L2 TL
def topS (i : Nat) : Stmt := PySem.Challenge.pw_uncrossed_k00_webs_that_are_refused.main.body.getD i (.Pass ⟨0, 0, 0, 0⟩)
abbrev s_is_whole : Stmt := topS 8
abbrev N_is_whole : List Str := ["thing"]
abbrev s__law_draws : Stmt := topS 11
abbrev N__law_draws : List Str := ["script"]
abbrev s__law_draw : Stmt := topS 12
abbrev N__law_draw : List Str := ["draws", "limit", "cell", "value"]
abbrev s__law_whole : Stmt := topS 17
abbrev N__law_whole : List Str := ["thing"]
abbrev s_check_web : Stmt := topS 9
abbrev N_check_web : List Str := ["web", "at", "one"]
abbrev s__law_web : Stmt := topS 15
abbrev N__law_web : List Str := ["draws", "points", "ties", "odd", "found", "k", "a", "b"]
abbrev s__law_due : Stmt := topS 18
abbrev N__law_due : List Str := ["web", "t", "one"]
abbrev s__law_told : Stmt := topS 16
abbrev N__law_told : List Str := ["web", "e"]
abbrev s__law_same : Stmt := topS 13
abbrev N__law_same : List Str := ["x", "due", "key", "right", "at"]
abbrev s__law_copy : Stmt := topS 14
abbrev N__law_copy : List Str := ["thing", "part", "found", "key"]
abbrev s_law : Stmt := topS 19
abbrev N_law : List Str := ["script", "draws", "turn", "web", "many", "ties", "kind", "k", "at", "odd", "made", "given"]
structure Top (P : Program) (K : PySem.W.Frag) (mg : Str → Option Value) where
  a_is_whole : Addr
  d_is_whole : FuncData
  F_is_whole : Fun K "is_whole" "is_whole" s_is_whole a_is_whole d_is_whole
  m_is_whole : mg "is_whole" = some (.ref a_is_whole)
  a__law_draws : Addr
  d__law_draws : FuncData
  F__law_draws : Fun K "_law_draws" "_law_draws" s__law_draws a__law_draws d__law_draws
  m__law_draws : mg "_law_draws" = some (.ref a__law_draws)
  a__law_draw : Addr
  d__law_draw : FuncData
  F__law_draw : Fun K "_law_draw" "_law_draw" s__law_draw a__law_draw d__law_draw
  m__law_draw : mg "_law_draw" = some (.ref a__law_draw)
  a__law_whole : Addr
  d__law_whole : FuncData
  F__law_whole : Fun K "_law_whole" "_law_whole" s__law_whole a__law_whole d__law_whole
  m__law_whole : mg "_law_whole" = some (.ref a__law_whole)
  a_check_web : Addr
  d_check_web : FuncData
  F_check_web : Fun K "check_web" "check_web" s_check_web a_check_web d_check_web
  m_check_web : mg "check_web" = some (.ref a_check_web)
  a__law_web : Addr
  d__law_web : FuncData
  F__law_web : Fun K "_law_web" "_law_web" s__law_web a__law_web d__law_web
  m__law_web : mg "_law_web" = some (.ref a__law_web)
  a__law_due : Addr
  d__law_due : FuncData
  F__law_due : Fun K "_law_due" "_law_due" s__law_due a__law_due d__law_due
  m__law_due : mg "_law_due" = some (.ref a__law_due)
  a__law_told : Addr
  d__law_told : FuncData
  F__law_told : Fun K "_law_told" "_law_told" s__law_told a__law_told d__law_told
  m__law_told : mg "_law_told" = some (.ref a__law_told)
  a__law_same : Addr
  d__law_same : FuncData
  F__law_same : Fun K "_law_same" "_law_same" s__law_same a__law_same d__law_same
  m__law_same : mg "_law_same" = some (.ref a__law_same)
  a__law_copy : Addr
  d__law_copy : FuncData
  F__law_copy : Fun K "_law_copy" "_law_copy" s__law_copy a__law_copy d__law_copy
  m__law_copy : mg "_law_copy" = some (.ref a__law_copy)
  a_law : Addr
  d_law : FuncData
  F_law : Fun K "law" "law" s_law a_law d_law
  m_law : mg "law" = some (.ref a_law)
  z_all : mg "all" = none
  z_bool : mg "bool" = none
  z_dict : mg "dict" = none
  z_int : mg "int" = none
  z_isinstance : mg "isinstance" = none
  z_len : mg "len" = none
  z_list : mg "list" = none
  z_range : mg "range" = none
  z_str : mg "str" = none
  z_tuple : mg "tuple" = none
  t_MOST_POINTS : Tok
  g_MOST_POINTS : mg "MOST_POINTS" = some (.int 40 t_MOST_POINTS)
  t_MOST_TIES : Tok
  g_MOST_TIES : mg "MOST_TIES" = some (.int 100 t_MOST_TIES)
  A_PointWrong : Addr
  c_PointWrong : mg "PointWrong" = some (.ref A_PointWrong)
  A_TieWrong : Addr
  c_TieWrong : mg "TieWrong" = some (.ref A_TieWrong)
  A_WebError : Addr
  c_WebError : mg "WebError" = some (.ref A_WebError)
  A_WebWrong : Addr
  c_WebWrong : mg "WebWrong" = some (.ref A_WebWrong)
  B_WebWrong : Addr
  E_WebWrong : PySem.ErrX.ErrTxt P K mg "WebWrong" "at" A_WebWrong B_WebWrong
  I_WebWrong : ErrIs K A_WebWrong
  q_WebWrong_WebError : PySem.W.kitOne K (.ref A_WebWrong) (.ref A_WebError) = some true
  q_WebWrong_PointWrong_TieWrong : PySem.W.kitAny K (.ref A_WebWrong) [.ref A_PointWrong, .ref A_TieWrong] = some false
section
variable {P : Program} {w : World} {K : PySem.W.Frag} {mg : Str → Option Value} {base : Heap}
theorem Top.b_is_whole (T : Top P K mg) : Binds K T.d_is_whole ["thing"] [] := T.F_is_whole.binds (ps := ["thing"]) fun _ _ _ _ _ _ us hl => match us, hl with | [_], _ => rfl
theorem Top.b__law_draws (T : Top P K mg) : Binds K T.d__law_draws ["script"] [] := T.F__law_draws.binds (ps := ["script"]) fun _ _ _ _ _ _ us hl => match us, hl with | [_], _ => rfl
theorem Top.b__law_draw (T : Top P K mg) : Binds K T.d__law_draw ["draws", "limit"] [] := T.F__law_draw.binds (ps := ["draws", "limit"]) fun _ _ _ _ _ _ us hl => match us, hl with | [_, _], _ => rfl
theorem Top.b__law_whole (T : Top P K mg) : Binds K T.d__law_whole ["thing"] [] := T.F__law_whole.binds (ps := ["thing"]) fun _ _ _ _ _ _ us hl => match us, hl with | [_], _ => rfl
theorem Top.b_check_web (T : Top P K mg) : Binds K T.d_check_web ["web"] [] := T.F_check_web.binds (ps := ["web"]) fun _ _ _ _ _ _ us hl => match us, hl with | [_], _ => rfl
theorem Top.b__law_web (T : Top P K mg) : Binds K T.d__law_web ["draws", "points", "ties", "odd"] [] := T.F__law_web.binds (ps := ["draws", "points", "ties", "odd"]) fun _ _ _ _ _ _ us hl => match us, hl with | [_, _, _, _], _ => rfl
theorem Top.b__law_due (T : Top P K mg) : Binds K T.d__law_due ["web"] [] := T.F__law_due.binds (ps := ["web"]) fun _ _ _ _ _ _ us hl => match us, hl with | [_], _ => rfl
theorem Top.b__law_told (T : Top P K mg) : Binds K T.d__law_told ["web"] [] := T.F__law_told.binds (ps := ["web"]) fun _ _ _ _ _ _ us hl => match us, hl with | [_], _ => rfl
theorem Top.b__law_same (T : Top P K mg) : Binds K T.d__law_same ["x", "due"] [] := T.F__law_same.binds (ps := ["x", "due"]) fun _ _ _ _ _ _ us hl => match us, hl with | [_, _], _ => rfl
theorem Top.b__law_copy (T : Top P K mg) : Binds K T.d__law_copy ["thing"] [] := T.F__law_copy.binds (ps := ["thing"]) fun _ _ _ _ _ _ us hl => match us, hl with | [_], _ => rfl
theorem Top.b_law (T : Top P K mg) : Binds K T.d_law ["script"] [] := T.F_law.binds (ps := ["script"]) fun _ _ _ _ _ _ us hl => match us, hl with | [_], _ => rfl
theorem ok_is_whole (T : Top P K mg) : FnOk P w K mg base CX0 1 T.a_is_whole T.d_is_whole ["thing"] (spM K false f_is_whole) := by
  have sc : FnScope N_is_whole ["thing"] (defScope s_is_whole) := ⟨rfl, rfl, rfl, by decide +kernel, rfl, by decide +kernel, by decide +kernel⟩
  refine def_ok' (k := 0) (io := false) (b := b_is_whole) N_is_whole ["thing"] [] rfl rfl T.F_is_whole sc (fun h => nomatch h) (by decide) _ rfl (fun cdv A outer s H E hr => ?_)
  have hu := hr.units
  have hu1 := hu_of hr
  have hu5 := room65 hr
  exact dss_one (ds_ret (de_and (de_isi .int (by rfl) T.z_isinstance (de_var (pv 0)) (pe_bltn (v := .ty "int") (by rfl) T.z_int (by decide +kernel) rfl)) (de_one (de_not (de_isi .bool (by rfl) T.z_isinstance (de_var (pv 0)) (pe_bltn (v := .ty "bool") (by rfl) T.z_bool (by decide +kernel) rfl))))))
theorem ok__law_draws (T : Top P K mg) : FnOk P w K mg base CX0 1 T.a__law_draws T.d__law_draws ["script"] (spDr K) := by
  have sc : FnScope N__law_draws ["script"] (defScope s__law_draws) := ⟨rfl, rfl, rfl, by decide +kernel, rfl, by decide +kernel, by decide +kernel⟩
  refine T.F__law_draws.ok sc (fun vs H Q E h => ?_) (fun cdv A outer s H vs Q E hr h => ?_)
  · obtain ⟨a, ns, rfl, _⟩ := h
    rfl
  obtain ⟨a, ns, rfl, hS, h63, q⟩ := h
  refine ⟨_, pss_one (ps_ret (pe_lst (pa_cons (pe_callTy call_list_of (by rfl) T.z_list (by decide +kernel) (pa_cons (pv 0) pa_nil)) (pa_cons pe_int (pa_cons pe_int (pa_cons pe_int pa_nil)))))), ?_⟩
  exact draws_rd hS q
theorem ok__law_draw (T : Top P K mg) : FnOk P w K mg base CX0 1 T.a__law_draw T.d__law_draw ["draws", "limit"] (spM K true f__law_draw) := by
  have sc : FnScope N__law_draw ["draws", "limit"] (defScope s__law_draw) := ⟨rfl, rfl, rfl, by decide +kernel, rfl, by decide +kernel, by decide +kernel⟩
  refine def_ok' (k := 0) (io := true) (b := b__law_draw) N__law_draw ["draws", "limit"] [0] rfl rfl T.F__law_draw sc (fun _ => by decide) (by decide) _ rfl (fun cdv A outer s H E hr => ?_)
  have hu := hr.units
  have hu1 := hu_of hr
  have hu5 := room65 hr
  exact dss_cons (ds_if (dt_w (dw_and (dt_op2 (fun a b => pt_cmpR (op_eqD hu) a b (nomark _)) r_eq (de_ix hu1 (de_var (pv 0)) (de_const pe_int)) (de_const pe_int)) (dw_and1 (dt_op2 (fun a b => pt_cmpR op_lt a b (nomark _)) r_lt (de_ix hu1 (de_var (pv 0)) (de_const pe_int)) (de_b1 call_lenAll r_len (by rfl) T.z_len (by decide +kernel) (de_ix hu1 (de_var (pv 0)) (de_const pe_int))))))) (dss_cons (ds_set (i := 2) sc.nd rfl (Or.inl rfl) (de_val (de_ix hu1 (de_ix hu1 (de_var (pv 0)) (de_const pe_int)) (de_ix hu1 (de_var (pv 0)) (de_const pe_int)))))
      (dss_cons (ds_setix hu1 (dp_var (pv 0)) (de_const pe_int) (de_op2 (pe_op op_addAll) r_add (de_ix hu1 (de_var (pv 0)) (de_const pe_int)) (de_const pe_int)))
      (dss_cons (ds_if (dt_op2 (fun a b => pt_cmpR op_ge a b (nomark _)) r_ge (de_var (pv 2)) (de_op2 (pe_op op_pow) r_pow (de_const pe_int) (de_const pe_int))) (dss_one (ds_setix hu1 (dp_var (pv 0)) (de_const pe_int) (de_val (de_var (pv 2))))) (dss_nil))
      (dss_one (ds_setix hu1 (dp_var (pv 0)) (de_const pe_int) (de_op2 (pe_op op_modN) r_mod (de_t1 call_int1 r_int (by rfl) T.z_int (by decide +kernel) (de_op2 (pe_op op_addAll) r_add (de_op2 (pe_op op_addAll) r_add (de_op2 (pe_op op_mul) r_mul (de_ix hu1 (de_var (pv 0)) (de_const pe_int)) (de_const pe_int)) (de_var (pv 2))) (de_const pe_int))) (de_const pe_int))))))) (dss_nil))
      (dss_cons (ds_if (dt_op2 (fun a b => pt_cmpR op_gt a b (nomark _)) r_gt (de_ix hu1 (de_var (pv 0)) (de_const pe_int)) (de_const pe_int)) (dss_cons (ds_set (i := 3) sc.nd rfl (Or.inl rfl) (de_op2 (pe_op op_modN) r_mod (de_t1 call_int1 r_int (by rfl) T.z_int (by decide +kernel) (de_ix hu1 (de_var (pv 0)) (de_const pe_int))) (de_var (pv 1))))
      (dss_cons (ds_setix hu1 (dp_var (pv 0)) (de_const pe_int) (de_op2 (pe_op op_fdivN) r_div (de_ix hu1 (de_var (pv 0)) (de_const pe_int)) (de_var (pv 1))))
      (dss_one (ds_ret (de_move (pv 3)))))) (dss_nil))
      (dss_cons (ds_setix hu1 (dp_var (pv 0)) (de_const pe_int) (de_op2 (pe_op op_modN) r_mod (de_t1 call_int1 r_int (by rfl) T.z_int (by decide +kernel) (de_op2 (pe_op op_addAll) r_add (de_op2 (pe_op op_mul) r_mul (de_ix hu1 (de_var (pv 0)) (de_const pe_int)) (de_const pe_int)) (de_const pe_int))) (de_const pe_int)))
      (dss_one (ds_ret (de_op2 (pe_op op_modN) r_mod (de_t1 call_int1 r_int (by rfl) T.z_int (by decide +kernel) (de_op2 (pe_op op_fdivN) r_div (de_ix hu1 (de_var (pv 0)) (de_const pe_int)) (de_const pe_int))) (de_var (pv 1)))))))
theorem ok__law_whole (T : Top P K mg) : FnOk P w K mg base CX0 1 T.a__law_whole T.d__law_whole ["thing"] (spM K false f__law_whole) := by
  have sc : FnScope N__law_whole ["thing"] (defScope s__law_whole) := ⟨rfl, rfl, rfl, by decide +kernel, rfl, by decide +kernel, by decide +kernel⟩
  refine def_ok' (k := 0) (io := false) (b := b__law_whole) N__law_whole ["thing"] [] rfl rfl T.F__law_whole sc (fun h => nomatch h) (by decide) _ rfl (fun cdv A outer s H E hr => ?_)
  have hu := hr.units
  have hu1 := hu_of hr
  have hu5 := room65 hr
  exact dss_one (ds_ret (de_and (de_isi .int (by rfl) T.z_isinstance (de_var (pv 0)) (pe_bltn (v := .ty "int") (by rfl) T.z_int (by decide +kernel) rfl)) (de_one (de_not (de_isi .bool (by rfl) T.z_isinstance (de_var (pv 0)) (pe_bltn (v := .ty "bool") (by rfl) T.z_bool (by decide +kernel) rfl))))))
theorem ok_check_web (T : Top P K mg) : FnOk P w K mg base (L2.CX P w) 2 T.a_check_web T.d_check_web ["web"] (spX K mg f_check_web) := by
  have sc : FnScope N_check_web ["web"] (defScope s_check_web) := ⟨rfl, rfl, rfl, by decide +kernel, rfl, by decide +kernel, by decide +kernel⟩
  refine defX_ok (k := 1) (b := b_check_web) N_check_web ["web"] rfl rfl T.F_check_web sc (by decide) _ rfl (fun cdv A outer s H E hr => ?_)
  have hu := hr.units
  have hu1 := hu_of hr
  have hu5 := room65 hr
  exact dss_cons (ds_if (dt_w (dw_or (dt_not (dt_val (de_call (ok_is_whole T) hr (by rfl) T.m_is_whole T.F_is_whole.kp (T.b_is_whole) (da_cons (de_val (de_ix hu1 (de_var (pv 0)) (de_const pe_int))) (da_nil))))) (dw_or (dt_not (dt_chain op_le op_le r_le r_le (de_const pe_int) (de_ix hu1 (de_var (pv 0)) (de_const pe_int)) (de_const (pe_glob (v := .int 40) (by rfl) T.g_MOST_POINTS ⟨_, rfl⟩)))) (dw_or1 (dt_op2 (fun a b => pt_cmpR op_gt a b (nomark _)) r_gt (de_b1 call_lenAll r_len (by rfl) T.z_len (by decide +kernel) (de_ix hu1 (de_var (pv 0)) (de_const pe_int))) (de_const (pe_glob (v := .int 100) (by rfl) T.g_MOST_TIES ⟨_, rfl⟩))))))) (dss_one (ds_raise rfl T.E_WebWrong (hr.mono (by decide) : Room (0 + 1) _) (de_const pe_non) (by rfl))) (dss_nil))
      (dss_one (ds_for (passes_of rfl) rfl (di_range1 (by rfl) T.z_range (de_b1 call_lenAll r_len (by rfl) T.z_len (by decide +kernel) (de_ix hu1 (de_var (pv 0)) (de_const pe_int)))) (dg_name (pg_name (i := 1) sc.nd rfl (Or.inl rfl))) (dss_kill [1] (dss_one (ds_if (dt_not (dt_val (de_b1 (cr_all rfl) r_all (by rfl) T.z_all (by decide +kernel) (de_lc (pn := [0, 1]) rfl sc.nd (di_seq (de_val (de_ix hu1 (de_ix hu1 (de_var (pv 0)) (de_const pe_int)) (de_var (pv 1))))) (blkOk_by (N := N_check_web) (sc := defScope s_check_web) (own := [("one", 2)]) (by decide +kernel)) rfl (fun _ _ _ _ _ => dg_name (pg_name (i := 2) sc.nd rfl (Or.inl rfl))) (fun _ _ _ _ _ => dts_nil) (fun _ _ _ _ _ => de_and (de_call (ok_is_whole T) hr (by rfl) T.m_is_whole T.F_is_whole.kp (T.b_is_whole) (da_cons (de_val (de_var (pv 2))) (da_nil))) (de_one (de_chain op_le op_lt r_le r_lt (de_const pe_int) (de_var (pv 2)) (de_ix hu1 (de_var (pv 0)) (de_const pe_int))))))))) (dss_one (ds_raise rfl T.E_WebWrong (hr.mono (by decide) : Room (0 + 1) _) (de_var (pv 1)) (by rfl))) (dss_nil))))))
theorem ok__law_web (T : Top P K mg) : FnOk P w K mg base CX0 2 T.a__law_web T.d__law_web ["draws", "points", "ties", "odd"] (spM K true f__law_web) := by
  have sc : FnScope N__law_web ["draws", "points", "ties", "odd"] (defScope s__law_web) := ⟨rfl, rfl, rfl, by decide +kernel, rfl, by decide +kernel, by decide +kernel⟩
  refine def_ok' (k := 1) (io := true) (b := b__law_web) N__law_web ["draws", "points", "ties", "odd"] [0] rfl rfl T.F__law_web sc (fun _ => by decide) (by decide) _ rfl (fun cdv A outer s H E hr => ?_)
  have hu := hr.units
  have hu1 := hu_of hr
  have hu5 := room65 hr
  exact dss_cons (ds_set (i := 4) sc.nd rfl (Or.inl rfl) (de_lst (da_nil)))
      (dss_cons (ds_for PassesOwn.never rfl (di_range1 (by rfl) T.z_range (de_var (pv 2))) (dg_name (pg_name (i := 5) sc.nd rfl (Or.inl rfl))) (dss_kill [5, 6, 7] (dss_cons (ds_par (i := 6) (j := 7) rfl sc.nd rfl rfl (by decide) rfl rfl (da_cons (de_call1 (ok__law_draw T) hr (by rfl) T.m__law_draw T.F__law_draw.kp (T.b__law_draw) (pv 0) (da_cons (de_val (de_var (pv 1))) (da_nil))) (da_cons (de_call1 (ok__law_draw T) hr (by rfl) T.m__law_draw T.F__law_draw.kp (T.b__law_draw) (pv 0) (da_cons (de_val (de_var (pv 1))) (da_nil))) (da_nil))) (by rfl))
      (dss_cons (ds_if (dt_w (dw_and (dt_w (dw_or (dt_op2 (fun a b => pt_cmpR (op_eqD hu) a b (nomark _)) r_eq (de_var (pv 6)) (de_var (pv 7))) (dw_or (dt_op2 (fun a b => pt_cmpR (op_inAll hu5) a b (by rfl)) r_in (de_tup (da_cons (de_val (de_var (pv 6))) (da_cons (de_val (de_var (pv 7))) (da_nil)))) (de_var (pv 4))) (dw_or1 (dt_op2 (fun a b => pt_cmpR (op_inAll hu5) a b (by rfl)) r_in (de_tup (da_cons (de_val (de_var (pv 7))) (da_cons (de_val (de_var (pv 6))) (da_nil)))) (de_var (pv 4))))))) (dw_and1 (dt_op2 (fun a b => pt_cmpR op_ge a b (nomark _)) r_ge (de_call1 (ok__law_draw T) hr (by rfl) T.m__law_draw T.F__law_draw.kp (T.b__law_draw) (pv 0) (da_cons (de_const pe_int) (da_nil))) (de_var (pv 3)))))) (dss_one (ds_continue)) (dss_nil))
      (dss_one (ds_expr (de_mm PySem.F.plainAttrs_list PySem.F.slot_list_append PySem.F.type_list_append mt_append mo_append ty_lst (dp_var (pv 4)) (da_cons (de_fz (de_tup (da_cons (de_val (de_var (pv 6))) (da_cons (de_val (de_var (pv 7))) (da_nil))))) (da_nil)))))))))
      (dss_one (ds_ret (de_tup (da_cons (de_const pe_str) (da_cons (de_move (pv 1)) (da_cons (de_move (pv 4)) (da_nil))))))))
theorem ok__law_due (T : Top P K mg) : FnOk P w K mg base CX0 2 T.a__law_due T.d__law_due ["web"] (spM K false f__law_due) := by
  have sc : FnScope N__law_due ["web"] (defScope s__law_due) := ⟨rfl, rfl, rfl, by decide +kernel, rfl, by decide +kernel, by decide +kernel⟩
  refine def_ok' (k := 1) (io := false) (b := b__law_due) N__law_due ["web"] [] rfl rfl T.F__law_due sc (fun h => nomatch h) (by decide) _ rfl (fun cdv A outer s H E hr => ?_)
  have hu := hr.units
  have hu1 := hu_of hr
  have hu5 := room65 hr
  exact dss_cons (ds_if (dt_w (dw_or (dt_not (dt_val (de_call (ok__law_whole T) hr (by rfl) T.m__law_whole T.F__law_whole.kp (T.b__law_whole) (da_cons (de_val (de_ix hu1 (de_var (pv 0)) (de_const pe_int))) (da_nil))))) (dw_or (dt_not (dt_chain op_le op_le r_le r_le (de_const pe_int) (de_ix hu1 (de_var (pv 0)) (de_const pe_int)) (de_const pe_int))) (dw_or1 (dt_op2 (fun a b => pt_cmpR op_gt a b (nomark _)) r_gt (de_b1 call_lenAll r_len (by rfl) T.z_len (by decide +kernel) (de_ix hu1 (de_var (pv 0)) (de_const pe_int))) (de_const pe_int)))))) (dss_one (ds_ret (de_tup (da_cons (de_const pe_str) (da_cons (de_const pe_non) (da_nil)))))) (dss_nil))
      (dss_cons (ds_for PassesOwn.never rfl (di_range1 (by rfl) T.z_range (de_b1 call_lenAll r_len (by rfl) T.z_len (by decide +kernel) (de_ix hu1 (de_var (pv 0)) (de_const pe_int)))) (dg_name (pg_name (i := 1) sc.nd rfl (Or.inl rfl))) (dss_kill [1] (dss_one (ds_if (dt_not (dt_val (de_b1 (cr_all rfl) r_all (by rfl) T.z_all (by decide +kernel) (de_lc (pn := [0, 1]) rfl sc.nd (di_seq (de_val (de_ix hu1 (de_ix hu1 (de_var (pv 0)) (de_const pe_int)) (de_var (pv 1))))) (blkOk_by (N := N__law_due) (sc := defScope s__law_due) (own := [("one", 2)]) (by decide +kernel)) rfl (fun _ _ _ _ _ => dg_name (pg_name (i := 2) sc.nd rfl (Or.inl rfl))) (fun _ _ _ _ _ => dts_nil) (fun _ _ _ _ _ => de_and (de_call (ok__law_whole T) hr (by rfl) T.m__law_whole T.F__law_whole.kp (T.b__law_whole) (da_cons (de_val (de_var (pv 2))) (da_nil))) (de_one (de_chain op_le op_lt r_le r_lt (de_const pe_int) (de_var (pv 2)) (de_ix hu1 (de_var (pv 0)) (de_const pe_int))))))))) (dss_one (ds_ret (de_tup (da_cons (de_const pe_str) (da_cons (de_move (pv 1)) (da_nil)))))) (dss_nil)))))
      (dss_one (ds_ret (de_tup (da_cons (de_const pe_str) (da_cons (de_const pe_non) (da_nil)))))))
theorem ok__law_told (T : Top P K mg) : FnOk P w K mg base CX0 3 T.a__law_told T.d__law_told ["web"] (spM K false f__law_told) := by
  have sc : FnScope N__law_told ["web"] (defScope s__law_told) := ⟨rfl, rfl, rfl, by decide +kernel, rfl, by decide +kernel, by decide +kernel⟩
  refine def_ok' (k := 2) (io := false) (b := b__law_told) N__law_told ["web"] [] rfl rfl T.F__law_told sc (fun h => nomatch h) (by decide) _ rfl (fun cdv A outer s H E hr => ?_)
  have hu := hr.units
  have hu1 := hu_of hr
  have hu5 := room65 hr
  exact dss_one (ds_tryR (i := 1) (lit := "web") rfl rfl sc.nd rfl rfl T.E_WebWrong (by rfl) (by decide) (fun pn0 xe0 hp0 => dss_one (ds_retX (dx_tup2 pe_str rfl (dx_call (ok_check_web T) hr (by rfl) T.m_check_web T.F_check_web.kp (T.b_check_web) (da_cons (de_val (de_var (pv 0))) (da_nil)))))) (fun a0 pn0 => pv 1))
theorem okr__law_same (T : Top P K mg) : ∀ k : Nat, FnOk P w K mg base CX0 (0 + k) T.a__law_same T.d__law_same ["x", "due"] (spM K false (r__law_same k))
  | 0 => fn_none
  | k + 1 => by
    have ih := okr__law_same T k
    have sc : FnScope N__law_same ["x", "due"] (defScope s__law_same) := ⟨rfl, rfl, rfl, by decide +kernel, rfl, by decide +kernel, by decide +kernel⟩
    refine def_ok' (k := 0 + k) (io := false) (b := b__law_same (r__law_same k)) N__law_same ["x", "due"] [] rfl rfl T.F__law_same sc (fun h => nomatch h) (by decide) _ rfl (fun cdv A outer s H E hr => ?_)
    have hu := hr.units
    have hu1 := hu_of hr
    have hu5 := room65 hr
    exact dss_cons (ds_if (dt_op2 (fun a b => pt_cmpR op_isN a b (nomark _)) r_isN (de_var (pv 1)) (de_const pe_non)) (dss_one (ds_ret (de_op2 (fun a b => pe_cmpR op_isN a b (nomark _)) r_isN (de_var (pv 0)) (de_const pe_non)))) (dss_nil))
      (dss_cons (ds_if (dt_val (de_isi .bool (by rfl) T.z_isinstance (de_var (pv 1)) (pe_bltn (v := .ty "bool") (by rfl) T.z_bool (by decide +kernel) rfl))) (dss_one (ds_ret (de_and (de_isi .bool (by rfl) T.z_isinstance (de_var (pv 0)) (pe_bltn (v := .ty "bool") (by rfl) T.z_bool (by decide +kernel) rfl)) (de_one (de_op2 (fun a b => pe_cmpR (op_eqD hu) a b (nomark _)) r_eq (de_var (pv 0)) (de_var (pv 1))))))) (dss_nil))
      (dss_cons (ds_if (dt_val (de_isi .int (by rfl) T.z_isinstance (de_var (pv 1)) (pe_bltn (v := .ty "int") (by rfl) T.z_int (by decide +kernel) rfl))) (dss_one (ds_ret (de_and (de_isi .int (by rfl) T.z_isinstance (de_var (pv 0)) (pe_bltn (v := .ty "int") (by rfl) T.z_int (by decide +kernel) rfl)) (de_and (de_not (de_isi .bool (by rfl) T.z_isinstance (de_var (pv 0)) (pe_bltn (v := .ty "bool") (by rfl) T.z_bool (by decide +kernel) rfl))) (de_one (de_op2 (fun a b => pe_cmpR (op_eqD hu) a b (nomark _)) r_eq (de_var (pv 0)) (de_var (pv 1)))))))) (dss_nil))
      (dss_cons (ds_if (dt_val (de_isi .str (by rfl) T.z_isinstance (de_var (pv 1)) (pe_bltn (v := .ty "str") (by rfl) T.z_str (by decide +kernel) rfl))) (dss_one (ds_ret (de_and (de_isi .str (by rfl) T.z_isinstance (de_var (pv 0)) (pe_bltn (v := .ty "str") (by rfl) T.z_str (by decide +kernel) rfl)) (de_one (de_op2 (fun a b => pe_cmpR (op_eqD hu) a b (nomark _)) r_eq (de_var (pv 0)) (de_var (pv 1))))))) (dss_nil))
      (dss_cons (ds_if (dt_val (de_isi .dict (by rfl) T.z_isinstance (de_var (pv 1)) (pe_bltn (v := .ty "dict") (by rfl) T.z_dict (by decide +kernel) rfl))) (dss_cons (ds_if (dt_w (dw_or (dt_not (dt_val (de_isi .dict (by rfl) T.z_isinstance (de_var (pv 0)) (pe_bltn (v := .ty "dict") (by rfl) T.z_dict (by decide +kernel) rfl)))) (dw_or (dt_op2 (fun a b => pt_cmpR (op_neD hu) a b (nomark _)) r_ne (de_b1 call_lenAll r_len (by rfl) T.z_len (by decide +kernel) (de_var (pv 0))) (de_b1 call_lenAll r_len (by rfl) T.z_len (by decide +kernel) (de_var (pv 1)))) (dw_or1 (dt_not (dt_val (de_b1 (cr_all rfl) r_all (by rfl) T.z_all (by decide +kernel) (de_lc (pn := [0, 1, 3, 4]) rfl sc.nd (di_seq (de_val (de_var (pv 1)))) (blkOk_by (N := N__law_same) (sc := defScope s__law_same) (own := [("key", 2)]) (by decide +kernel)) rfl (fun _ _ _ _ _ => dg_name (pg_name (i := 2) sc.nd rfl (Or.inl rfl))) (fun _ _ _ _ _ => dts_nil) (fun _ _ _ _ _ => de_op2 (fun a b => pe_cmpR (op_inAll hu5) a b (by rfl)) r_in (de_var (pv 2)) (de_var (pv 0))))))))))) (dss_one (ds_ret (de_const pe_bl))) (dss_nil))
      (dss_one (ds_ret (de_b1 (cr_all rfl) r_all (by rfl) T.z_all (by decide +kernel) (de_lc (pn := [0, 1, 3, 4]) rfl sc.nd (di_seq (de_val (de_var (pv 1)))) (blkOk_by (N := N__law_same) (sc := defScope s__law_same) (own := [("key", 2)]) (by decide +kernel)) rfl (fun _ _ _ _ _ => dg_name (pg_name (i := 2) sc.nd rfl (Or.inl rfl))) (fun _ _ _ _ _ => dts_nil) (fun _ _ _ _ _ => de_call ih hr (by rfl) T.m__law_same T.F__law_same.kp (T.b__law_same) (da_cons (de_val (de_ix hu1 (de_var (pv 0)) (de_var (pv 2)))) (da_cons (de_val (de_ix hu1 (de_var (pv 1)) (de_var (pv 2)))) (da_nil))))))))) (dss_nil))
      (dss_cons (ds_if (dt_val (de_isi .list (by rfl) T.z_isinstance (de_var (pv 1)) (pe_bltn (v := .ty "list") (by rfl) T.z_list (by decide +kernel) rfl))) (dss_one (ds_set (i := 3) sc.nd rfl (Or.inl rfl) (de_isi .list (by rfl) T.z_isinstance (de_var (pv 0)) (pe_bltn (v := .ty "list") (by rfl) T.z_list (by decide +kernel) rfl)))) (dss_one (ds_set (i := 3) sc.nd rfl (Or.inl rfl) (de_isi .tuple (by rfl) T.z_isinstance (de_var (pv 0)) (pe_bltn (v := .ty "tuple") (by rfl) T.z_tuple (by decide +kernel) rfl)))))
      (dss_one (ds_ret (de_and (de_var (pv 3)) (de_and (de_op2 (fun a b => pe_cmpR (op_eqD hu) a b (nomark _)) r_eq (de_b1 call_lenAll r_len (by rfl) T.z_len (by decide +kernel) (de_var (pv 0))) (de_b1 call_lenAll r_len (by rfl) T.z_len (by decide +kernel) (de_var (pv 1)))) (de_one (de_b1 (cr_all rfl) r_all (by rfl) T.z_all (by decide +kernel) (de_lc (pn := [0, 1, 2, 3]) rfl sc.nd (di_range1 (by rfl) T.z_range (de_b1 call_lenAll r_len (by rfl) T.z_len (by decide +kernel) (de_var (pv 1)))) (blkOk_by (N := N__law_same) (sc := defScope s__law_same) (own := [("at", 4)]) (by decide +kernel)) rfl (fun _ _ _ _ _ => dg_name (pg_name (i := 4) sc.nd rfl (Or.inl rfl))) (fun _ _ _ _ _ => dts_nil) (fun _ _ _ _ _ => de_call ih hr (by rfl) T.m__law_same T.F__law_same.kp (T.b__law_same) (da_cons (de_val (de_ix hu1 (de_var (pv 0)) (de_var (pv 4)))) (da_cons (de_val (de_ix hu1 (de_var (pv 1)) (de_var (pv 4)))) (da_nil))))))))))))))))
theorem ok__law_same (T : Top P K mg) : FnOk P w K mg base CX0 13 T.a__law_same T.d__law_same ["x", "due"] (spM K false f__law_same) := (okr__law_same T 12).mono (by decide)
theorem okr__law_copy (T : Top P K mg) : ∀ k : Nat, FnOk P w K mg base CX0 (0 + k) T.a__law_copy T.d__law_copy ["thing"] (spM K false (r__law_copy k))
  | 0 => fn_none
  | k + 1 => by
    have ih := okr__law_copy T k
    have sc : FnScope N__law_copy ["thing"] (defScope s__law_copy) := ⟨rfl, rfl, rfl, by decide +kernel, rfl, by decide +kernel, by decide +kernel⟩
    refine def_ok' (k := 0 + k) (io := false) (b := b__law_copy (r__law_copy k)) N__law_copy ["thing"] [] rfl rfl T.F__law_copy sc (fun h => nomatch h) (by decide) _ rfl (fun cdv A outer s H E hr => ?_)
    have hu := hr.units
    have hu1 := hu_of hr
    have hu5 := room65 hr
    exact dss_cons (ds_if (dt_val (de_isi .list (by rfl) T.z_isinstance (de_var (pv 0)) (pe_bltn (v := .ty "list") (by rfl) T.z_list (by decide +kernel) rfl))) (dss_one (ds_ret (de_lc (pn := [0, 2, 3]) rfl sc.nd (di_seq (de_val (de_var (pv 0)))) (blkOk_by (N := N__law_copy) (sc := defScope s__law_copy) (own := [("part", 1)]) (by decide +kernel)) rfl (fun _ _ _ _ _ => dg_name (pg_name (i := 1) sc.nd rfl (Or.inl rfl))) (fun _ _ _ _ _ => dts_nil) (fun _ _ _ _ _ => de_call ih hr (by rfl) T.m__law_copy T.F__law_copy.kp (T.b__law_copy) (da_cons (de_val (de_var (pv 1))) (da_nil)))))) (dss_nil))
      (dss_cons (ds_if (dt_val (de_isi .tuple (by rfl) T.z_isinstance (de_var (pv 0)) (pe_bltn (v := .ty "tuple") (by rfl) T.z_tuple (by decide +kernel) rfl))) (dss_one (ds_ret (de_tupleOwn (by rfl) T.z_tuple (de_lc (pn := [0, 2, 3]) rfl sc.nd (di_seq (de_val (de_var (pv 0)))) (blkOk_by (N := N__law_copy) (sc := defScope s__law_copy) (own := [("part", 1)]) (by decide +kernel)) rfl (fun _ _ _ _ _ => dg_name (pg_name (i := 1) sc.nd rfl (Or.inl rfl))) (fun _ _ _ _ _ => dts_nil) (fun _ _ _ _ _ => de_call ih hr (by rfl) T.m__law_copy T.F__law_copy.kp (T.b__law_copy) (da_cons (de_val (de_var (pv 1))) (da_nil))))))) (dss_nil))
      (dss_cons (ds_if (dt_val (de_isi .dict (by rfl) T.z_isinstance (de_var (pv 0)) (pe_bltn (v := .ty "dict") (by rfl) T.z_dict (by decide +kernel) rfl))) (dss_cons (ds_set (i := 2) sc.nd rfl (Or.inl rfl) (de_dnewK))
      (dss_cons (ds_for PassesOwn.never rfl (di_seq (de_val (de_var (pv 0)))) (dg_name (pg_name (i := 3) sc.nd rfl (Or.inl rfl))) (dss_kill [3] (dss_one (ds_setix hu1 (dp_var (pv 2)) (de_val (de_var (pv 3))) (de_fz (de_call ih hr (by rfl) T.m__law_copy T.F__law_copy.kp (T.b__law_copy) (da_cons (de_val (de_ix hu1 (de_var (pv 0)) (de_var (pv 3)))) (da_nil))))))))
      (dss_one (ds_ret (de_move (pv 2)))))) (dss_nil))
      (dss_one (ds_ret (de_move (pv 0))))))
theorem ok__law_copy (T : Top P K mg) : FnOk P w K mg base CX0 13 T.a__law_copy T.d__law_copy ["thing"] (spM K false f__law_copy) := (okr__law_copy T 12).mono (by decide)
theorem ok_law (T : Top P K mg) (hm : ∀ ns : List Int, ns.length ≤ 63 → ∃ d δ', (fun ns => some (drT ns)) ns = some d ∧ b_law (none :: some d :: List.replicate 10 none) = some (.rt (.bl true), δ')) : FnOk P w K mg base CX0 14 T.a_law T.d_law ["script"] (spLaw K) := by
  have sc : FnScope N_law ["script"] (defScope s_law) := ⟨rfl, rfl, rfl, by decide +kernel, rfl, by decide +kernel, by decide +kernel⟩
  refine law_ok (k := 13) (n := 10) (m := b_law) (mk := (fun ns => some (drT ns))) N_law T.F_law sc rfl rfl (fun cdv A outer s H E hr => ?_) (fun cdv A outer s H E hr => ?_) hm
  · exact ds_first1 (ok__law_draws T) (hr.mono (by decide)) (by rfl) T.m__law_draws T.F__law_draws.kp (T.b__law_draws) (pv 0) sc.nd rfl (Or.inl rfl)
  have hu := hr.units
  have hu1 := hu_of hr
  have hu5 := room65 hr
  exact dss_cons (ds_for PassesOwn.never rfl (di_range1 (by rfl) T.z_range (de_const pe_int)) (dg_name (pg_name (i := 2) sc.nd rfl (Or.inl rfl))) (dss_kill [2, 3, 4, 5, 6, 7, 8, 9, 10, 11] (dss_cons (ds_set (i := 3) sc.nd rfl (Or.inl rfl) (de_fz (de_call1 (ok__law_web T) (hr.mono (by decide)) (by rfl) T.m__law_web T.F__law_web.kp (T.b__law_web) (pv 1) (da_cons (de_op2 (pe_op op_addAll) r_add (de_const pe_int) (de_call1 (ok__law_draw T) (hr.mono (by decide)) (by rfl) T.m__law_draw T.F__law_draw.kp (T.b__law_draw) (pv 1) (da_cons (de_const pe_int) (da_nil)))) (da_cons (de_call1 (ok__law_draw T) (hr.mono (by decide)) (by rfl) T.m__law_draw T.F__law_draw.kp (T.b__law_draw) (pv 1) (da_cons (de_const pe_int) (da_nil))) (da_cons (de_const pe_int) (da_nil)))))))
      (dss_cons (ds_set (i := 4) sc.nd rfl (Or.inl rfl) (de_val (de_ix hu1 (de_var (pv 3)) (de_const pe_int))))
      (dss_cons (ds_set (i := 5) sc.nd rfl (Or.inl rfl) (de_t1 (call_listAll rfl) r_list (by rfl) T.z_list (by decide +kernel) (de_ix hu1 (de_var (pv 3)) (de_const pe_int))))
      (dss_cons (ds_set (i := 6) sc.nd rfl (Or.inl rfl) (de_fz (de_call1 (ok__law_draw T) (hr.mono (by decide)) (by rfl) T.m__law_draw T.F__law_draw.kp (T.b__law_draw) (pv 1) (da_cons (de_const pe_int) (da_nil)))))
      (dss_cons (ds_if (dt_op2 (fun a b => pt_cmpR (op_eqD hu) a b (nomark _)) r_eq (de_var (pv 6)) (de_const pe_int)) (dss_one (ds_set (i := 4) sc.nd rfl (Or.inl rfl) (de_ix hu1 (de_lst (da_cons (de_const pe_int) (da_cons (de_op1 (pe_un un_neg) r_neg (de_const pe_int)) (da_cons (de_const pe_int) (da_cons (de_const pe_non) (da_cons (de_const pe_bl) (da_cons (de_const pe_str) (da_cons (de_op2 (pe_op op_pow) r_pow (de_const pe_int) (de_const pe_int)) (da_nil))))))))) (de_call1 (ok__law_draw T) (hr.mono (by decide)) (by rfl) T.m__law_draw T.F__law_draw.kp (T.b__law_draw) (pv 1) (da_cons (de_const pe_int) (da_nil)))))) (dss_nil))
      (dss_cons (ds_if (dt_op2 (fun a b => pt_cmpR (op_eqD hu) a b (nomark _)) r_eq (de_var (pv 6)) (de_const pe_int)) (dss_one (ds_setLc (pn := [0, 1, 2, 3, 4, 5, 6, 8, 9, 10, 11]) (i := 5) rfl sc.nd rfl rfl (sw_true rfl rfl rfl (by decide +kernel)) (di_range1 (by rfl) T.z_range (de_ix hu1 (de_lst (da_cons (de_const pe_int) (da_cons (de_const pe_int) (da_cons (de_const pe_int) (da_cons (de_const pe_int) (da_nil)))))) (de_call1 (ok__law_draw T) (hr.mono (by decide)) (by rfl) T.m__law_draw T.F__law_draw.kp (T.b__law_draw) (pv 1) (da_cons (de_const pe_int) (da_nil))))) (blkOk_by (N := N_law) (sc := defScope s_law) (own := [("k", 7)]) (by decide +kernel)) rfl (fun _ _ _ _ _ => dg_name (pg_name (i := 7) sc.nd rfl (Or.inl rfl))) (fun _ _ _ _ _ => dts_nil) (fun _ _ _ _ _ => de_fz (de_tup (da_cons (de_const pe_int) (da_cons (de_const pe_int) (da_nil))))))) (dss_nil))
      (dss_cons (ds_if (dt_w (dw_and (dt_op2 (fun a b => pt_cmpR op_gt a b (nomark _)) r_gt (de_var (pv 6)) (de_const pe_int)) (dw_and1 (dt_op2 (fun a b => pt_cmpR op_gt a b (nomark _)) r_gt (de_b1 call_lenAll r_len (by rfl) T.z_len (by decide +kernel) (de_var (pv 5))) (de_const pe_int))))) (dss_one (ds_for PassesOwn.never rfl (di_range1 (by rfl) T.z_range (de_op2 (pe_op op_addAll) r_add (de_const pe_int) (de_call1 (ok__law_draw T) (hr.mono (by decide)) (by rfl) T.m__law_draw T.F__law_draw.kp (T.b__law_draw) (pv 1) (da_cons (de_const pe_int) (da_nil))))) (dg_name (pg_name (i := 7) sc.nd rfl (Or.inl rfl))) (dss_kill [7, 8, 9] (dss_cons (ds_set (i := 8) sc.nd rfl (Or.inl rfl) (de_fz (de_call1 (ok__law_draw T) (hr.mono (by decide)) (by rfl) T.m__law_draw T.F__law_draw.kp (T.b__law_draw) (pv 1) (da_cons (de_b1 call_lenAll r_len (by rfl) T.z_len (by decide +kernel) (de_var (pv 5))) (da_nil)))))
      (dss_cons (ds_set (i := 9) sc.nd rfl (Or.inl rfl) (de_ix hu1 (de_lst (da_cons (de_val (de_var (pv 4))) (da_cons (de_op1 (pe_un un_neg) r_neg (de_const pe_int)) (da_cons (de_const pe_bl) (da_cons (de_const pe_bl) (da_cons (de_const pe_non) (da_cons (de_const pe_str) (da_cons (de_op2 (pe_op op_pow) r_pow (de_const pe_int) (de_const pe_int)) (da_cons (de_op2 (pe_op op_sub) r_sub (de_var (pv 4)) (de_const pe_int)) (da_nil)))))))))) (de_call1 (ok__law_draw T) (hr.mono (by decide)) (by rfl) T.m__law_draw T.F__law_draw.kp (T.b__law_draw) (pv 1) (da_cons (de_const pe_int) (da_nil)))))
      (dss_one (ds_setix hu1 (dp_var (pv 5)) (de_val (de_var (pv 8))) (de_ix hu1 (de_lst (da_cons (de_tup (da_cons (de_val (de_var (pv 9))) (da_cons (de_val (de_ix hu1 (de_ix hu1 (de_var (pv 5)) (de_var (pv 8))) (de_const pe_int))) (da_nil)))) (da_cons (de_tup (da_cons (de_val (de_ix hu1 (de_ix hu1 (de_var (pv 5)) (de_var (pv 8))) (de_const pe_int))) (da_cons (de_val (de_var (pv 9))) (da_nil)))) (da_cons (de_tup (da_cons (de_val (de_var (pv 9))) (da_cons (de_val (de_var (pv 9))) (da_nil)))) (da_nil))))) (de_call1 (ok__law_draw T) (hr.mono (by decide)) (by rfl) T.m__law_draw T.F__law_draw.kp (T.b__law_draw) (pv 1) (da_cons (de_const pe_int) (da_nil))))))))))) (dss_nil))
      (dss_cons (ds_set (i := 10) sc.nd rfl (Or.inl rfl) (de_fz (de_tup (da_cons (de_const pe_str) (da_cons (de_val (de_var (pv 4))) (da_cons (de_move (pv 5)) (da_nil)))))))
      (dss_cons (ds_set (i := 11) sc.nd rfl (Or.inl rfl) (de_fz (de_call (ok__law_copy T) hr (by rfl) T.m__law_copy T.F__law_copy.kp (T.b__law_copy) (da_cons (de_val (de_var (pv 10))) (da_nil)))))
      (dss_one (ds_if (dt_w (dw_or (dt_not (dt_val (de_call (ok__law_same T) hr (by rfl) T.m__law_same T.F__law_same.kp (T.b__law_same) (da_cons (de_call (ok__law_told T) (hr.mono (by decide)) (by rfl) T.m__law_told T.F__law_told.kp (T.b__law_told) (da_cons (de_val (de_var (pv 11))) (da_nil))) (da_cons (de_call (ok__law_due T) (hr.mono (by decide)) (by rfl) T.m__law_due T.F__law_due.kp (T.b__law_due) (da_cons (de_val (de_var (pv 10))) (da_nil))) (da_nil)))))) (dw_or1 (dt_not (dt_val (de_call (ok__law_same T) hr (by rfl) T.m__law_same T.F__law_same.kp (T.b__law_same) (da_cons (de_val (de_var (pv 11))) (da_cons (de_val (de_var (pv 10))) (da_nil))))))))) (dss_one (ds_ret (de_const pe_bl))) (dss_nil))))))))))))))
      (dss_one (ds_ret (de_and (de_const (pe_isErr T.E_WebWrong T.I_WebWrong (hr.mono (by decide) : Room (0 + 1) _) (pe_int) (by rfl) (by rfl) T.z_isinstance (by rfl) T.c_WebError T.q_WebWrong_WebError)) (de_one (de_not (de_const (pe_isErrT T.E_WebWrong T.I_WebWrong (hr.mono (by decide) : Room (0 + 1) _) (pe_int) (by rfl) (by rfl) T.z_isinstance (by rfl) T.c_PointWrong (by rfl) T.c_TieWrong T.q_WebWrong_PointWrong_TieWrong)))))))
end
end Law
set_option Elab.async false
set_option linter.all false
set_option maxRecDepth 100000
set_option maxHeartbeats 1000000
namespace Law
open PySem L2 TL
theorem all_mk {l : PySem.W.OpenLaw} {w : World} {K : PySem.W.Frag} {h : Heap} {mg : Str → Option Value} {fa f0 f1 f2 f3 f4 f5 f6 f7 f8 f9 f10 : Addr}
    (X : K.In h) (G : h.Ns mainGlobals mg) (hfa : mg "law" = some (.ref fa))
    {od0 an0 od1 an1 od2 an2 od3 an3 od4 an4 od5 an5 od6 an6 od7 an7 od8 an8 od9 an9 od10 an10 : Option Addr} {sl0 sl1 sl2 sl3 sl4 sl5 sl6 sl7 sl8 sl9 sl10 : Array (Option Value)} {oc0 kV0 dc0 pm0 cd0 ct0 oc1 kV1 dc1 pm1 cd1 ct1 oc2 kV2 dc2 pm2 cd2 ct2 oc3 kV3 dc3 pm3 cd3 ct3 oc4 kV4 dc4 pm4 cd4 ct4 oc5 kV5 dc5 pm5 cd5 ct5 oc6 kV6 dc6 pm6 cd6 ct6 oc7 kV7 dc7 pm7 cd7 ct7 oc8 kV8 dc8 pm8 cd8 ct8 oc9 kV9 dc9 pm9 cd9 ct9 oc10 kV10 dc10 pm10 cd10 ct10 : Value}
    (a0 : PySem.W.nsIn K mainGlobals "is_whole" = some (some (.ref f0))) (l0 : K.lookup f0 = some ⟨oc0, od0, .func (PySem.W.fnOf "is_whole" "is_whole" (defArgs s_is_whole) (defBody s_is_whole) (defScope s_is_whole) .none kV0 dc0 pm0 an0 cd0 ct0), sl0⟩) (c0 : PySem.W.codeIn K cd0 "is_whole" = true) (k0 : PySem.W.keepIn K (.ref f0) = true)
    (a1 : PySem.W.nsIn K mainGlobals "_law_draws" = some (some (.ref f1))) (l1 : K.lookup f1 = some ⟨oc1, od1, .func (PySem.W.fnOf "_law_draws" "_law_draws" (defArgs s__law_draws) (defBody s__law_draws) (defScope s__law_draws) .none kV1 dc1 pm1 an1 cd1 ct1), sl1⟩) (c1 : PySem.W.codeIn K cd1 "_law_draws" = true) (k1 : PySem.W.keepIn K (.ref f1) = true)
    (a2 : PySem.W.nsIn K mainGlobals "_law_draw" = some (some (.ref f2))) (l2 : K.lookup f2 = some ⟨oc2, od2, .func (PySem.W.fnOf "_law_draw" "_law_draw" (defArgs s__law_draw) (defBody s__law_draw) (defScope s__law_draw) .none kV2 dc2 pm2 an2 cd2 ct2), sl2⟩) (c2 : PySem.W.codeIn K cd2 "_law_draw" = true) (k2 : PySem.W.keepIn K (.ref f2) = true)
    (a3 : PySem.W.nsIn K mainGlobals "_law_whole" = some (some (.ref f3))) (l3 : K.lookup f3 = some ⟨oc3, od3, .func (PySem.W.fnOf "_law_whole" "_law_whole" (defArgs s__law_whole) (defBody s__law_whole) (defScope s__law_whole) .none kV3 dc3 pm3 an3 cd3 ct3), sl3⟩) (c3 : PySem.W.codeIn K cd3 "_law_whole" = true) (k3 : PySem.W.keepIn K (.ref f3) = true)
    (a4 : PySem.W.nsIn K mainGlobals "check_web" = some (some (.ref f4))) (l4 : K.lookup f4 = some ⟨oc4, od4, .func (PySem.W.fnOf "check_web" "check_web" (defArgs s_check_web) (defBody s_check_web) (defScope s_check_web) .none kV4 dc4 pm4 an4 cd4 ct4), sl4⟩) (c4 : PySem.W.codeIn K cd4 "check_web" = true) (k4 : PySem.W.keepIn K (.ref f4) = true)
    (a5 : PySem.W.nsIn K mainGlobals "_law_web" = some (some (.ref f5))) (l5 : K.lookup f5 = some ⟨oc5, od5, .func (PySem.W.fnOf "_law_web" "_law_web" (defArgs s__law_web) (defBody s__law_web) (defScope s__law_web) .none kV5 dc5 pm5 an5 cd5 ct5), sl5⟩) (c5 : PySem.W.codeIn K cd5 "_law_web" = true) (k5 : PySem.W.keepIn K (.ref f5) = true)
    (a6 : PySem.W.nsIn K mainGlobals "_law_due" = some (some (.ref f6))) (l6 : K.lookup f6 = some ⟨oc6, od6, .func (PySem.W.fnOf "_law_due" "_law_due" (defArgs s__law_due) (defBody s__law_due) (defScope s__law_due) .none kV6 dc6 pm6 an6 cd6 ct6), sl6⟩) (c6 : PySem.W.codeIn K cd6 "_law_due" = true) (k6 : PySem.W.keepIn K (.ref f6) = true)
    (a7 : PySem.W.nsIn K mainGlobals "_law_told" = some (some (.ref f7))) (l7 : K.lookup f7 = some ⟨oc7, od7, .func (PySem.W.fnOf "_law_told" "_law_told" (defArgs s__law_told) (defBody s__law_told) (defScope s__law_told) .none kV7 dc7 pm7 an7 cd7 ct7), sl7⟩) (c7 : PySem.W.codeIn K cd7 "_law_told" = true) (k7 : PySem.W.keepIn K (.ref f7) = true)
    (a8 : PySem.W.nsIn K mainGlobals "_law_same" = some (some (.ref f8))) (l8 : K.lookup f8 = some ⟨oc8, od8, .func (PySem.W.fnOf "_law_same" "_law_same" (defArgs s__law_same) (defBody s__law_same) (defScope s__law_same) .none kV8 dc8 pm8 an8 cd8 ct8), sl8⟩) (c8 : PySem.W.codeIn K cd8 "_law_same" = true) (k8 : PySem.W.keepIn K (.ref f8) = true)
    (a9 : PySem.W.nsIn K mainGlobals "_law_copy" = some (some (.ref f9))) (l9 : K.lookup f9 = some ⟨oc9, od9, .func (PySem.W.fnOf "_law_copy" "_law_copy" (defArgs s__law_copy) (defBody s__law_copy) (defScope s__law_copy) .none kV9 dc9 pm9 an9 cd9 ct9), sl9⟩) (c9 : PySem.W.codeIn K cd9 "_law_copy" = true) (k9 : PySem.W.keepIn K (.ref f9) = true)
    (a10 : PySem.W.nsIn K mainGlobals "law" = some (some (.ref f10))) (l10 : K.lookup f10 = some ⟨oc10, od10, .func (PySem.W.fnOf "law" "law" (defArgs s_law) (defBody s_law) (defScope s_law) .none kV10 dc10 pm10 an10 cd10 ct10), sl10⟩) (c10 : PySem.W.codeIn K cd10 "law" = true) (k10 : PySem.W.keepIn K (.ref f10) = true)
    (z_all : PySem.W.nsIn K mainGlobals "all" = some none)
    (z_bool : PySem.W.nsIn K mainGlobals "bool" = some none)
    (z_dict : PySem.W.nsIn K mainGlobals "dict" = some none)
    (z_int : PySem.W.nsIn K mainGlobals "int" = some none)
    (z_isinstance : PySem.W.nsIn K mainGlobals "isinstance" = some none)
    (z_len : PySem.W.nsIn K mainGlobals "len" = some none)
    (z_list : PySem.W.nsIn K mainGlobals "list" = some none)
    (z_range : PySem.W.nsIn K mainGlobals "range" = some none)
    (z_str : PySem.W.nsIn K mainGlobals "str" = some none)
    (z_tuple : PySem.W.nsIn K mainGlobals "tuple" = some none)
    {t_MOST_POINTS : Tok} (g_MOST_POINTS : PySem.W.nsIn K mainGlobals "MOST_POINTS" = some (some (.int 40 t_MOST_POINTS)))
    {t_MOST_TIES : Tok} (g_MOST_TIES : PySem.W.nsIn K mainGlobals "MOST_TIES" = some (some (.int 100 t_MOST_TIES)))
    {C0 : Addr}
    {C1 : Addr}
    {C2 : Addr}
    {C3 : Addr}
    {nm3 qn3 qi3 file3 : Str} {N3 B3 cc3 cda3 : Addr} {bs3 bm3 sub3 : List Value} {sn3 : List Str} {ab3 : Bool} {col3 : Option Bool} {dd3 odI3 anI3 cld3 cdd3 : Option Addr} {m03 m13 m23 m33 m53 : Option Value} {ocI3 dcI3 pmI3 ctI3 cl3 ccl3 : Value} {slI3 csl3 ccs3 : Array (Option Value)} {vs3 : Array Value} {tf3 : Tok}
    (ea0 : PySem.W.nsIn K mainGlobals "PointWrong" = some (some (.ref C0)))
    (ea1 : PySem.W.nsIn K mainGlobals "TieWrong" = some (some (.ref C1)))
    (ea2 : PySem.W.nsIn K mainGlobals "WebError" = some (some (.ref C2)))
    (ea3 : PySem.W.nsIn K mainGlobals "WebWrong" = some (some (.ref C3)))
    (eop : PySem.W.nsIn K cStatics "thirdparty.any" = some none)
    (egs : PySem.W.nsIn K mainGlobals "super" = some none)
    (etop : (l.prog.main.scope.names.lookup ("super" : Str)).isSome = false)
    (el3 : K.lookup C3 = some (excClassObj nm3 qn3 C3 N3 bs3 bm3 true sn3 sub3 ab3 col3 dd3 m03 m13 m23 m33 m53 "ValueError.__new__"))
    (eb3 : PySem.HandSPX.refsVE bm3 = true)
    (es3 : PySem.W.findIn K (.ref C3) "__setattr__" = some (some (.builtin "object.__setattr__")))
    (eg3 : PySem.W.findIn K (.ref C3) "__getattribute__" = some (some (.builtin "BaseException.__getattribute__")))
    (eh3 : PySem.W.findIn K (.ref C3) "__getattr__" = some none)
    (ex3 : PySem.W.subIn K (.ref C3) (.type "BaseException") = some true)
    (ed3 : PySem.W.hasDictIn K C3 = true)
    (en3 : PySem.W.findIn K (.ref C3) "at" = some none)
    (ei3 : PySem.W.findIn K (.ref C3) "__init__" = some (some (.ref B3)))
    (et3 : PySem.W.typeIn K (.ref B3) = some (.type "function"))
    (ek3 : PySem.W.keepIn K (.ref C3) = true)
    (ey3 : PySem.W.typeIn K (.ref C3) = some (.type "type"))
    (eI3 : PySem.W.isClsIn K C3 = true)
    (eS3 : PySem.W.subIn K (.ref C3) (.ref C3) = some true)
    (ev3 : PySem.W.ks_superIn K C3 C3 "__init__" = some (some (.builtin "ValueError.__init__")))
    (ew3 : PySem.W.subIn K (.ref C3) (.type "ValueError") = some true)
    (em3 : PySem.W.mroIn K C3 (.ref C3) = some true)
    (ef3 : K.lookup B3 = some ⟨ocI3, odI3, .func (PySem.W.fnX "__init__" qi3 (PySem.ErrX.iA "at" ⟨6, 17, 6, 21⟩ ⟨6, 23, 6, 25⟩) (PySem.ErrX.iB "at" ⟨7, 8, 7, 13⟩ ⟨7, 8, 7, 15⟩ ⟨7, 8, 7, 24⟩ ⟨7, 25, 7, 27⟩ ⟨7, 8, 7, 28⟩ ⟨7, 8, 7, 28⟩ ⟨8, 8, 8, 12⟩ ⟨8, 8, 8, 15⟩ ⟨8, 18, 8, 20⟩ ⟨8, 8, 8, 20⟩) (PySem.ErrX.iS "at") [("__class__", cc3)] .none .none dcI3 pmI3 anI3 (.ref cda3) ctI3), slI3⟩)
    (ec3 : PySem.W.codeIn K (.ref cda3) qi3 = true)
    (eo3 : K.lookup cc3 = some ⟨cl3, cld3, .cell (some (.ref C3)), csl3⟩)
    (ep3 : K.lookup cda3 = some ⟨ccl3, cdd3, .fields vs3, ccs3⟩)
    (eq3 : vs3[2]? = some (.str file3 tf3))
    (er3 : ((l.prog.main.file : Str) == file3) = true)
    (ja3 : PySem.W.findIn K (.ref C3) "__class__" = some (some (.builtin "object.__class__")))
    (jn3 : PySem.W.specialIn K (.builtin "object.__class__") "__get__" = some (some (.builtin "getset_descriptor.__get__")))
    (jt3 : PySem.W.takesIn K (.builtin "object.__class__") = some true)
    (jm3 : PySem.W.mroIn K C3 (.type "object") = some true)
    (eK0 : PySem.W.kitOne K (.ref C3) (.ref C2) = some true)
    (eK1 : PySem.W.kitAny K (.ref C3) [.ref C0, .ref C1] = some false)
    : ∃ fd : FuncData, (∀ (s : Shared) (v : Value), BindsTo s fd ⟨[v], []⟩ [("script", v)]) ∧ ∀ base : Heap, K.In base → base.Ns mainGlobals mg → FnOk l.prog w K mg base CX0 14 fa fd ["script"] (spLaw K) := by
  have e := hfa.symm.trans (PySem.W.mg_of X G a10)
  cases e
  refine ⟨PySem.W.fnOf "law" "law" (defArgs s_law) (defBody s_law) (defScope s_law) .none kV10 dc10 pm10 an10 cd10 ct10, fun s v => .of_eq rfl, fun base _ _ => ?_⟩
  exact ok_law (P := l.prog) (w := w) (base := base) {
    a_is_whole := f0, d_is_whole := _, F_is_whole := fun_mk (st := s_is_whole) l0 c0 k0, m_is_whole := PySem.W.mg_of X G a0,
    a__law_draws := f1, d__law_draws := _, F__law_draws := fun_mk (st := s__law_draws) l1 c1 k1, m__law_draws := PySem.W.mg_of X G a1,
    a__law_draw := f2, d__law_draw := _, F__law_draw := fun_mk (st := s__law_draw) l2 c2 k2, m__law_draw := PySem.W.mg_of X G a2,
    a__law_whole := f3, d__law_whole := _, F__law_whole := fun_mk (st := s__law_whole) l3 c3 k3, m__law_whole := PySem.W.mg_of X G a3,
    a_check_web := f4, d_check_web := _, F_check_web := fun_mk (st := s_check_web) l4 c4 k4, m_check_web := PySem.W.mg_of X G a4,
    a__law_web := f5, d__law_web := _, F__law_web := fun_mk (st := s__law_web) l5 c5 k5, m__law_web := PySem.W.mg_of X G a5,
    a__law_due := f6, d__law_due := _, F__law_due := fun_mk (st := s__law_due) l6 c6 k6, m__law_due := PySem.W.mg_of X G a6,
    a__law_told := f7, d__law_told := _, F__law_told := fun_mk (st := s__law_told) l7 c7 k7, m__law_told := PySem.W.mg_of X G a7,
    a__law_same := f8, d__law_same := _, F__law_same := fun_mk (st := s__law_same) l8 c8 k8, m__law_same := PySem.W.mg_of X G a8,
    a__law_copy := f9, d__law_copy := _, F__law_copy := fun_mk (st := s__law_copy) l9 c9 k9, m__law_copy := PySem.W.mg_of X G a9,
    a_law := fa, d_law := _, F_law := fun_mk (st := s_law) l10 c10 k10, m_law := PySem.W.mg_of X G a10,
    z_all := PySem.W.mg_none_of X G z_all,
    z_bool := PySem.W.mg_none_of X G z_bool,
    z_dict := PySem.W.mg_none_of X G z_dict,
    z_int := PySem.W.mg_none_of X G z_int,
    z_isinstance := PySem.W.mg_none_of X G z_isinstance,
    z_len := PySem.W.mg_none_of X G z_len,
    z_list := PySem.W.mg_none_of X G z_list,
    z_range := PySem.W.mg_none_of X G z_range,
    z_str := PySem.W.mg_none_of X G z_str,
    z_tuple := PySem.W.mg_none_of X G z_tuple,
    t_MOST_POINTS := t_MOST_POINTS, g_MOST_POINTS := PySem.W.mg_of X G g_MOST_POINTS,
    t_MOST_TIES := t_MOST_TIES, g_MOST_TIES := PySem.W.mg_of X G g_MOST_TIES,
    A_PointWrong := C0, c_PointWrong := PySem.W.mg_of X G ea0,
    A_TieWrong := C1, c_TieWrong := PySem.W.mg_of X G ea1,
    A_WebError := C2, c_WebError := PySem.W.mg_of X G ea2,
    A_WebWrong := C3, c_WebWrong := PySem.W.mg_of X G ea3,
    B_WebWrong := B3, E_WebWrong := { gC := PySem.W.mg_of X G ea3, cls := ⟨_, _, _, _, _, _, _, _, _, _, _, _, _, _, _, el3, eb3⟩, sa := es3, xf := ⟨eg3, eh3, ex3, ed3⟩, noN := en3, iC := ei3, tC := et3, kC := ek3, tyC := ey3, te := exm_same ex3 eI3 ey3 eS3, su := ev3, sV := ew3, sC := em3, op := eop, gs := PySem.W.mg_none_of X G egs, top := etop, ln := rfl, lself := rfl, lcls := rfl, lsup := rfl, nd := rfl, bd := fun _ _ _ _ _ _ _ _ _ _ _ _ => rfl, m1 := fun _ _ => rfl, m2 := fun _ _ => rfl, fn := ⟨_, _, _, _, _, _, _, _, _, _, _, _, _, _, _, _, _, _, _, _, _, _, ef3, ec3, ⟨_, _, _, eo3⟩, _, _, _, _, _, _, ep3, eq3, er3, fun _ => ⟨_, rfl⟩, fun _ => rfl⟩ },
    I_WebWrong := ⟨eI3, ja3, jn3, jt3, jm3⟩,
    q_WebWrong_WebError := eK0,
    q_WebWrong_PointWrong_TieWrong := eK1 } law_true
theorem walk {l : PySem.W.OpenLaw} {q : Program} {loose : List Str} {XP : (Str → Option Value) → Heap → Prop} {YP : World → Heap → Prop} {d : DefRec} {K : Params → PySem.W.Frag} (hn : l.most = some 63) (hdf : d.params.defaults = [])
    (hY : ∀ (w : World) (h : Heap), YP w h → (K w.params).In h)
    (F : ∀ (w : World) (mg : Str → Option Value) (fa : Addr) (h : Heap), (K w.params).In h → h.Ns mainGlobals mg → mg d.name = some (.ref fa) →
      ∃ fd : FuncData, (∀ (s : Shared) (u : Value), BindsTo s fd ⟨[u], []⟩ [("script", u)]) ∧ ∀ base : Heap, (K w.params).In base → base.Ns mainGlobals mg → FnOk l.prog w (K w.params) mg base CX0 14 fa fd ["script"] (spLaw (K w.params))) :
    PySem.W.WalkO q loose XP YP l.row.toRowW d [] (fun f vs => PySem.call f vs) :=
  L2.walk_of (n := 63) (k := 14) (x := "script") (CX := fun _ => CX0) (sp := fun w => spLaw (K w.params)) hn (by decide) hdf ⟨rfl, by decide, by decide⟩ hY F (fun _ _ a ns hl _ hS => ⟨a, ns, rfl, hS, hl, fun _ => rfl⟩) fun _ _ _ _ _ z => z
end Law
open PySem PySem.W PyProof.Rows
set_option maxRecDepth 100000 in
set_option maxHeartbeats 0 in
theorem PySem.Challenge.cw_uncrossed_k00_webs_that_are_refused_holds : PySem.Challenge.rw_uncrossed_k00_webs_that_are_refused.Holds := by
  w_on; o_law; k_head; (case hw => w_witness2)
  k_fill
  refine Law.walk (l := PySem.Challenge.rw_uncrossed_k00_webs_that_are_refused) rfl rfl (fun w h Y => PySem.W.kIn_of Y) ?F
  case F =>
    intro w mg fa h KX G hmg
    refine' Law.all_mk KX G hmg ?a0 ?l0 ?c0 ?k0 ?a1 ?l1 ?c1 ?k1 ?a2 ?l2 ?c2 ?k2 ?a3 ?l3 ?c3 ?k3 ?a4 ?l4 ?c4 ?k4 ?a5 ?l5 ?c5 ?k5 ?a6 ?l6 ?c6 ?k6 ?a7 ?l7 ?c7 ?k7 ?a8 ?l8 ?c8 ?k8 ?a9 ?l9 ?c9 ?k9 ?a10 ?l10 ?c10 ?k10 ?z_all ?z_bool ?z_dict ?z_int ?z_isinstance ?z_len ?z_list ?z_range ?z_str ?z_tuple ?g_MOST_POINTS ?g_MOST_TIES ?ea0 ?ea1 ?ea2 ?ea3 ?eop ?egs ?etop ?el3 ?eb3 ?es3 ?eg3 ?eh3 ?ex3 ?ed3 ?en3 ?ei3 ?et3 ?ek3 ?ey3 ?eI3 ?eS3 ?ev3 ?ew3 ?em3 ?ef3 ?ec3 ?eo3 ?ep3 ?eq3 ?er3 ?ja3 ?jn3 ?jt3 ?jm3 ?eK0 ?eK1
    (case a0 => k_is); (case l0 => k_is); (case c0 => k_is); (case k0 => k_is)
    (case a1 => k_is); (case l1 => k_is); (case c1 => k_is); (case k1 => k_is)
    (case a2 => k_is); (case l2 => k_is); (case c2 => k_is); (case k2 => k_is)
    (case a3 => k_is); (case l3 => k_is); (case c3 => k_is); (case k3 => k_is)
    (case a4 => k_is); (case l4 => k_is); (case c4 => k_is); (case k4 => k_is)
    (case a5 => k_is); (case l5 => k_is); (case c5 => k_is); (case k5 => k_is)
    (case a6 => k_is); (case l6 => k_is); (case c6 => k_is); (case k6 => k_is)
    (case a7 => k_is); (case l7 => k_is); (case c7 => k_is); (case k7 => k_is)
    (case a8 => k_is); (case l8 => k_is); (case c8 => k_is); (case k8 => k_is)
    (case a9 => k_is); (case l9 => k_is); (case c9 => k_is); (case k9 => k_is)
    (case a10 => k_is); (case l10 => k_is); (case c10 => k_is); (case k10 => k_is)
    (case z_all => k_is)
    (case z_bool => k_is)
    (case z_dict => k_is)
    (case z_int => k_is)
    (case z_isinstance => k_is)
    (case z_len => k_is)
    (case z_list => k_is)
    (case z_range => k_is)
    (case z_str => k_is)
    (case z_tuple => k_is)
    (case g_MOST_POINTS => k_is)
    (case g_MOST_TIES => k_is)
    (case ea0 => k_is)
    (case ea1 => k_is)
    (case ea2 => k_is)
    (case ea3 => k_is)
    (case eop => k_is)
    (case egs => k_is)
    (case etop => first | rfl | decide +kernel)
    (case el3 => k_is)
    (case eb3 => decide +kernel)
    (case es3 => k_is)
    (case eg3 => k_is)
    (case eh3 => k_is)
    (case ex3 => k_is)
    (case ed3 => k_is)
    (case en3 => k_is)
    (case ei3 => k_is)
    (case et3 => k_is)
    (case ek3 => k_is)
    (case ey3 => k_is)
    (case eI3 => k_is)
    (case eS3 => first | rfl | k_is)
    (case ev3 => ks_is)
    (case ew3 => k_is)
    (case em3 => k_is)
    (case ef3 => k_is)
    (case ec3 => k_is)
    (case eo3 => k_is)
    (case ep3 => k_is)
    (case eq3 => rfl)
    (case er3 => first | rfl | decide +kernel)
    (case ja3 => k_is)
    (case jn3 => k_is)
    (case jt3 => k_is)
    (case jm3 => k_is)
    (case eK0 => first | k_is | kit_is | rfl | decide +kernel)
    (case eK1 => first | k_is | kit_is | rfl | decide +kernel)
